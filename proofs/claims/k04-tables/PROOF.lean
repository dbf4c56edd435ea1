import PyProof.Rows.All
import Wide.All
import OpenK.AllK
import Wide.FinOn
import HandS.ForMost
import HandS.Exc
import HandS.ExcCtx
import HandS.HotCalls
import HandS.ExcInit
import HandS.ExcInitHot
import HandS.ExcField
import HandS.ExcIs
import KE.KExcIs
import HandS.CallSlots
import HandS.WordsExc
import HandS.Comp
import HandS.IsInst
import HandS.Style
import HandS.Defaults
import HandS.Ends
import HandS.Property
import KE.KOpsOwn
import HandS.SortRule
import HandS.Conv
import KE.KDictSum
import HandS.TryOnly
import HandS.Deep
import HandS.OwnEq
import HandS.TupAny
import PyProof.DictCompW
import HandS.DictComp
import HandS.Iter
import PySem.Challenge.RW_rimcords_k04_tables_whole
set_option Elab.async false
set_option linter.all false
set_option maxRecDepth 100000
namespace FL
open PySem L2

/-- a truth value that is not reckoned by unfolding -/
noncomputable def yes (P : Prop) : Bool := @decide P (Classical.propDecidable P)
theorem yes_of {P : Prop} (h : P) : yes P = true := @decide_eq_true P (Classical.propDecidable P) h
theorem of_yes {P : Prop} (h : yes P = true) : P := @of_decide_eq_true P (Classical.propDecidable P) h
/-- plain data -/
inductive D where
  | non | bl (b : Bool) | int (i : Int) | str (s : Str)
  | tup (ds : List D) | lst (ds : List D) | vec (ds : List D)
  | obj (c : Nat) (ds : List D) | mobj (c : Nat) (ds : List D)
  /-- an exception that is being handled; dicts: frozen, owned; keys that are tuples, or ints and texts; any other value that hangs on no heap -/
  | exc (c : Nat) (ds : List D) | dT (ks : List (List Key)) (ds : List D) | vT (ks : List (List Key)) (ds : List D)
  | dK (ks : List Key) (ds : List D) | vK (ks : List Key) (ds : List D) | val (v : V)

/-- footprints: how often an address is owned -/
abbrev Fp := Addr → Nat
def one (a : Addr) : Fp := fun x => if x = a then 1 else 0
def zf : Fp := fun _ => 0

/-- a class: where it stands, its fields by place -/
structure Cl where
  at_ : Addr
  fs : List Str
/-- the classes; where the instance stands that is being made; the exception that is being handled, its dict, its class -/
structure Tb where
  of : Nat → Cl
  sf : Option Addr
  ex : Addr
  ed : Addr
  ec : Value
instance : CoeFun Tb (fun _ => Nat → Cl) := ⟨Tb.of⟩

/-- ints alone, one or more -/
def D.isI : D → Bool
  | .int _ => true
  | _ => false
def D.isK : D → Bool
  | .int _ => true
  | .val _ => true
  | _ => false
def keyI (ds : List D) : Bool := !ds.isEmpty && ds.all D.isK
/-- a tuple: what may be a key stands in F itself -/
def TqT (K : PySem.W.Frag) (F : Hp) (a : Addr) (ds : List D) (xs : List V) : Prop := SqT K F a xs ∧ (keyI ds = true → F a = some (.tup xs))
mutual
/-- d is held by v: what is frozen stands in F, what is owned in H, within the footprint A -/
def Own (K : PySem.W.Frag) (cl : Tb) (F H : Hp) : D → V → Fp → Prop
  | .non, v, _ => v = .non
  | .bl b, v, _ => v = .bl b
  | .int i, v, _ => v = .int i
  | .str s, v, _ => v = .str s
  | .tup ds, v, A => ∃ a xs, v = .ref a ∧ TqT K F a ds xs ∧ Owns K cl F H ds xs A
  | .lst ds, v, A => ∃ a xs, v = .ref a ∧ SqL K F a xs ∧ Owns K cl F H ds xs A
  | .vec ds, v, A => ∃ a xs B, v = .ref a ∧ F a = none ∧ H a = some (.lst xs) ∧ Owns K cl F H ds xs B ∧ ∀ x, one a x + B x ≤ A x
  | .obj c ds, v, A => ∃ a dx xs, v = .ref a ∧ F a = some (.ins (cl c).at_ dx ((cl c).fs.zip xs)) ∧ xs.length ≤ (cl c).fs.length ∧ Owns K cl F H ds xs A
  | .mobj c ds, v, A => ∃ a dx xs B, (v = .ref a ∧ some a = cl.sf) ∧ F a = none ∧ H a = some (.ins (cl c).at_ dx ((cl c).fs.zip xs)) ∧ xs.length ≤ (cl c).fs.length ∧ Owns K cl F H ds xs B ∧ ∀ x, one a x + B x ≤ A x
  | .exc c ds, v, A => ∃ xs, (v = .ref cl.ex ∧ cl.ec = .ref (cl c).at_) ∧ F cl.ed = some (.xd ((cl c).fs.zip xs)) ∧ xs.length ≤ (cl c).fs.length ∧ Owns K cl F H ds xs A
  | .dT ks ds, v, A => ∃ a xs, v = .ref a ∧ F a = some (.dT (ks.zip xs)) ∧ ks.length = xs.length ∧ Owns K cl F H ds xs A
  | .vT ks ds, v, A => ∃ a xs B, v = .ref a ∧ F a = none ∧ H a = some (.dT (ks.zip xs)) ∧ ks.length = xs.length ∧ Owns K cl F H ds xs B ∧ ∀ x, one a x + B x ≤ A x
  | .dK ks ds, v, A => ∃ a xs, v = .ref a ∧ F a = some (.dK (ks.zip xs)) ∧ ks.length = xs.length ∧ Owns K cl F H ds xs A
  | .vK ks ds, v, A => ∃ a xs B, v = .ref a ∧ F a = none ∧ H a = some (.dK (ks.zip xs)) ∧ ks.length = xs.length ∧ Owns K cl F H ds xs B ∧ ∀ x, one a x + B x ≤ A x
  | .val w, v, _ => v = w
def Owns (K : PySem.W.Frag) (cl : Tb) (F H : Hp) : List D → List V → Fp → Prop
  | [], vs, _ => vs = []
  | d :: ds, vs, A => ∃ v r B C, vs = v :: r ∧ Own K cl F H d v B ∧ Owns K cl F H ds r C ∧ ∀ x, B x + C x ≤ A x
end

mutual
/-- nothing in it is owned -/
def D.pure : D → Bool
  | .non => true | .bl _ => true | .int _ => true | .str _ => true
  | .tup ds => D.pures ds | .lst ds => D.pures ds | .vec _ => false
  | .obj _ ds => D.pures ds | .mobj _ _ => false | .exc _ ds => D.pures ds
  | .dT _ ds => D.pures ds | .vT _ _ => false | .dK _ ds => D.pures ds | .vK _ _ => false | .val _ => true
def D.pures : List D → Bool
  | [] => true
  | d :: ds => d.pure && D.pures ds
end
mutual
/-- all of it frozen -/
def D.frz : D → D
  | .non => .non | .bl b => .bl b | .int i => .int i | .str s => .str s
  | .tup ds => .tup (D.frzs ds) | .lst ds => .lst (D.frzs ds) | .vec ds => .lst (D.frzs ds)
  | .obj c ds => .obj c (D.frzs ds) | .mobj c ds => .obj c (D.frzs ds) | .exc c ds => .exc c (D.frzs ds)
  | .dT ks ds => .dT ks (D.frzs ds) | .vT ks ds => .dT ks (D.frzs ds) | .dK ks ds => .dK ks (D.frzs ds) | .vK ks ds => .dK ks (D.frzs ds) | .val v => .val v
def D.frzs : List D → List D
  | [] => []
  | d :: ds => d.frz :: D.frzs ds
end

theorem D.isK_frz (d : D) : d.frz.isK = d.isK := by cases d <;> rfl
theorem all_frzs : ∀ ds : List D, (D.frzs ds).all D.isK = ds.all D.isK
  | [] => rfl
  | d :: ds => by rw [D.frzs, List.all_cons, List.all_cons, D.isK_frz, all_frzs ds]
theorem keyI_frzs (ds : List D) (h : keyI (D.frzs ds) = true) : keyI ds = true := by
  unfold keyI at *
  rw [all_frzs] at h
  cases ds with
  | nil => simp [D.frzs] at h
  | cons d ds => simpa [D.frzs] using h
abbrev Le (F F' : Hp) : Prop := ∀ a o, F a = some o → F' a = some o
theorem Le.refl {F : Hp} : Le F F := fun _ _ h => h
theorem Le.trans {F G H : Hp} (a : Le F G) (b : Le G H) : Le F H := fun x o h => b x o (a x o h)
theorem Le.sqL {K : PySem.W.Frag} {F F' : Hp} {a : Addr} {xs : List V} (h : Le F F') : SqL K F a xs → SqL K F' a xs := fun q => by
  rcases q with (q | ⟨o, q⟩) | q
  · exact .inl (.inl (h _ _ q))
  · exact .inl (.inr ⟨o, h _ _ q⟩)
  · exact .inr q
theorem Le.sqT {K : PySem.W.Frag} {F F' : Hp} {a : Addr} {xs : List V} (h : Le F F') : SqT K F a xs → SqT K F' a xs := fun q => by
  rcases q with (q | ⟨o, q⟩) | q
  · exact .inl (.inl (h _ _ q))
  · exact .inl (.inr ⟨o, h _ _ q⟩)
  · exact .inr q

theorem one_self {a : Addr} : one a a = 1 := by simp [one]

section
variable {K : PySem.W.Frag} {cl : Tb} {F F' H H' : Hp}

mutual
theorem Own.mono : ∀ {d : D} {v : V} {A A' : Fp}, Own K cl F H d v A → Le F F' → (∀ a, 0 < A a → H' a = H a ∧ F' a = none) → (∀ x, A x ≤ A' x) → Own K cl F' H' d v A'
  | .non, _, _, _, h, _, _, _ => h
  | .bl _, _, _, _, h, _, _, _ => h
  | .int _, _, _, _, h, _, _, _ => h
  | .str _, _, _, _, h, _, _, _ => h
  | .tup ds, v, A, A', h, l, k, m => by
    obtain ⟨a, xs, e, q, r⟩ := h
    exact ⟨a, xs, e, ⟨l.sqT q.1, fun z => l _ _ (q.2 z)⟩, Owns.mono r l k m⟩
  | .lst ds, v, A, A', h, l, k, m => by
    obtain ⟨a, xs, e, q, r⟩ := h
    exact ⟨a, xs, e, l.sqL q, Owns.mono r l k m⟩
  | .vec ds, v, A, A', h, l, k, m => by
    obtain ⟨a, xs, B, e, n, q, r, s⟩ := h
    have ha : 0 < A a := by have := s a; rw [one_self] at this; omega
    exact ⟨a, xs, B, e, (k a ha).2, (k a ha).1.trans q, Owns.mono r l (fun b hb => k b (by have := s b; omega)) (fun _ => Nat.le_refl _), fun x => Nat.le_trans (s x) (m x)⟩
  | .obj c ds, v, A, A', h, l, k, m => by
    obtain ⟨a, dx, xs, e, q, z, r⟩ := h
    exact ⟨a, dx, xs, e, l _ _ q, z, Owns.mono r l k m⟩
  | .mobj c ds, v, A, A', h, l, k, m => by
    obtain ⟨a, dx, xs, B, e, n, q, z, r, s⟩ := h
    have ha : 0 < A a := by have := s a; rw [one_self] at this; omega
    exact ⟨a, dx, xs, B, e, (k a ha).2, (k a ha).1.trans q, z, Owns.mono r l (fun b hb => k b (by have := s b; omega)) (fun _ => Nat.le_refl _), fun x => Nat.le_trans (s x) (m x)⟩
  | .exc c ds, v, A, A', h, l, k, m => by
    obtain ⟨xs, e, q, z, r⟩ := h
    exact ⟨xs, e, l _ _ q, z, Owns.mono r l k m⟩
  | .dT ks ds, v, A, A', h, l, k, m => by
    obtain ⟨a, xs, e, q, z, r⟩ := h
    exact ⟨a, xs, e, l _ _ q, z, Owns.mono r l k m⟩
  | .dK ks ds, v, A, A', h, l, k, m => by
    obtain ⟨a, xs, e, q, z, r⟩ := h
    exact ⟨a, xs, e, l _ _ q, z, Owns.mono r l k m⟩
  | .vT ks ds, v, A, A', h, l, k, m => by
    obtain ⟨a, xs, B, e, n, q, z, r, s⟩ := h
    have ha : 0 < A a := by have := s a; rw [one_self] at this; omega
    exact ⟨a, xs, B, e, (k a ha).2, (k a ha).1.trans q, z, Owns.mono r l (fun b hb => k b (by have := s b; omega)) (fun _ => Nat.le_refl _), fun x => Nat.le_trans (s x) (m x)⟩
  | .vK ks ds, v, A, A', h, l, k, m => by
    obtain ⟨a, xs, B, e, n, q, z, r, s⟩ := h
    have ha : 0 < A a := by have := s a; rw [one_self] at this; omega
    exact ⟨a, xs, B, e, (k a ha).2, (k a ha).1.trans q, z, Owns.mono r l (fun b hb => k b (by have := s b; omega)) (fun _ => Nat.le_refl _), fun x => Nat.le_trans (s x) (m x)⟩
  | .val _, _, _, _, h, _, _, _ => h
theorem Owns.mono : ∀ {ds : List D} {vs : List V} {A A' : Fp}, Owns K cl F H ds vs A → Le F F' → (∀ a, 0 < A a → H' a = H a ∧ F' a = none) → (∀ x, A x ≤ A' x) → Owns K cl F' H' ds vs A'
  | [], _, _, _, h, _, _, _ => h
  | d :: ds, vs, A, A', h, l, k, m => by
    obtain ⟨v, r, B, C, e, p, q, s⟩ := h
    exact ⟨v, r, B, C, e, Own.mono p l (fun b hb => k b (by have := s b; omega)) (fun _ => Nat.le_refl _), Owns.mono q l (fun b hb => k b (by have := s b; omega)) (fun _ => Nat.le_refl _), fun x => Nat.le_trans (s x) (m x)⟩
end

mutual
theorem Own.up : ∀ {d : D} {v : V} {A A' : Fp}, Own K cl F H d v A → (∀ x, A x ≤ A' x) → Own K cl F H d v A'
  | .non, _, _, _, h, _ => h
  | .bl _, _, _, _, h, _ => h
  | .int _, _, _, _, h, _ => h
  | .str _, _, _, _, h, _ => h
  | .tup ds, v, A, A', h, m => by
    obtain ⟨a, xs, e, q, r⟩ := h
    exact ⟨a, xs, e, q, Owns.up r m⟩
  | .lst ds, v, A, A', h, m => by
    obtain ⟨a, xs, e, q, r⟩ := h
    exact ⟨a, xs, e, q, Owns.up r m⟩
  | .vec ds, v, A, A', h, m => by
    obtain ⟨a, xs, B, e, n, q, r, s⟩ := h
    exact ⟨a, xs, B, e, n, q, r, fun x => Nat.le_trans (s x) (m x)⟩
  | .obj c ds, v, A, A', h, m => by
    obtain ⟨a, dx, xs, e, q, z, r⟩ := h
    exact ⟨a, dx, xs, e, q, z, Owns.up r m⟩
  | .mobj c ds, v, A, A', h, m => by
    obtain ⟨a, dx, xs, B, e, n, q, z, r, s⟩ := h
    exact ⟨a, dx, xs, B, e, n, q, z, r, fun x => Nat.le_trans (s x) (m x)⟩
  | .exc c ds, v, A, A', h, m => by
    obtain ⟨xs, e, q, z, r⟩ := h
    exact ⟨xs, e, q, z, Owns.up r m⟩
  | .dT ks ds, v, A, A', h, m => by
    obtain ⟨a, xs, e, q, z, r⟩ := h
    exact ⟨a, xs, e, q, z, Owns.up r m⟩
  | .dK ks ds, v, A, A', h, m => by
    obtain ⟨a, xs, e, q, z, r⟩ := h
    exact ⟨a, xs, e, q, z, Owns.up r m⟩
  | .vT ks ds, v, A, A', h, m => by
    obtain ⟨a, xs, B, e, n, q, z, r, s⟩ := h
    exact ⟨a, xs, B, e, n, q, z, r, fun x => Nat.le_trans (s x) (m x)⟩
  | .vK ks ds, v, A, A', h, m => by
    obtain ⟨a, xs, B, e, n, q, z, r, s⟩ := h
    exact ⟨a, xs, B, e, n, q, z, r, fun x => Nat.le_trans (s x) (m x)⟩
  | .val _, _, _, _, h, _ => h
theorem Owns.up : ∀ {ds : List D} {vs : List V} {A A' : Fp}, Owns K cl F H ds vs A → (∀ x, A x ≤ A' x) → Owns K cl F H ds vs A'
  | [], _, _, _, h, _ => h
  | d :: ds, vs, A, A', h, m => by
    obtain ⟨v, r, B, C, e, p, q, s⟩ := h
    exact ⟨v, r, B, C, e, p, q, fun x => Nat.le_trans (s x) (m x)⟩
end

mutual
theorem Own.of_pure : ∀ {d : D} {v : V} {A : Fp}, d.pure = true → Own K cl F H d v A → Own K cl F H' d v zf
  | .non, _, _, _, h => h
  | .bl _, _, _, _, h => h
  | .int _, _, _, _, h => h
  | .str _, _, _, _, h => h
  | .tup ds, v, A, p, h => by
    obtain ⟨a, xs, e, q, r⟩ := h
    exact ⟨a, xs, e, q, Owns.of_pure p r⟩
  | .lst ds, v, A, p, h => by
    obtain ⟨a, xs, e, q, r⟩ := h
    exact ⟨a, xs, e, q, Owns.of_pure p r⟩
  | .vec ds, v, A, p, h => by cases p
  | .obj c ds, v, A, p, h => by
    obtain ⟨a, dx, xs, e, q, z, r⟩ := h
    exact ⟨a, dx, xs, e, q, z, Owns.of_pure p r⟩
  | .mobj c ds, v, A, p, h => by cases p
  | .exc c ds, v, A, p, h => by
    obtain ⟨xs, e, q, z, r⟩ := h
    exact ⟨xs, e, q, z, Owns.of_pure p r⟩
  | .dT ks ds, v, A, p, h => by
    obtain ⟨a, xs, e, q, z, r⟩ := h
    exact ⟨a, xs, e, q, z, Owns.of_pure p r⟩
  | .dK ks ds, v, A, p, h => by
    obtain ⟨a, xs, e, q, z, r⟩ := h
    exact ⟨a, xs, e, q, z, Owns.of_pure p r⟩
  | .vT ks ds, v, A, p, h => by cases p
  | .vK ks ds, v, A, p, h => by cases p
  | .val _, _, _, _, h => h
theorem Owns.of_pure : ∀ {ds : List D} {vs : List V} {A : Fp}, D.pures ds = true → Owns K cl F H ds vs A → Owns K cl F H' ds vs zf
  | [], _, _, _, h => h
  | d :: ds, vs, A, p, h => by
    obtain ⟨v, r, B, C, e, q, t, s⟩ := h
    have p' : d.pure = true ∧ D.pures ds = true := by simpa [D.pures] using p
    exact ⟨v, r, zf, zf, e, Own.of_pure p'.1 q, Owns.of_pure p'.2 t, fun x => Nat.le_refl _⟩
end

mutual
theorem D.frz_of_pure : ∀ {d : D}, d.pure = true → d.frz = d
  | .non, _ => rfl
  | .bl _, _ => rfl
  | .int _, _ => rfl
  | .str _, _ => rfl
  | .tup ds, p => by rw [D.frz, D.frzs_of_pure (ds := ds) (by simpa [D.pure] using p)]
  | .lst ds, p => by rw [D.frz, D.frzs_of_pure (ds := ds) (by simpa [D.pure] using p)]
  | .vec ds, p => by simp [D.pure] at p
  | .obj c ds, p => by rw [D.frz, D.frzs_of_pure (ds := ds) (by simpa [D.pure] using p)]
  | .mobj c ds, p => by simp [D.pure] at p
  | .exc c ds, p => by rw [D.frz, D.frzs_of_pure (ds := ds) (by simpa [D.pure] using p)]
  | .dT c ds, p => by rw [D.frz, D.frzs_of_pure (ds := ds) (by simpa [D.pure] using p)]
  | .dK c ds, p => by rw [D.frz, D.frzs_of_pure (ds := ds) (by simpa [D.pure] using p)]
  | .vT c ds, p => by simp [D.pure] at p
  | .vK c ds, p => by simp [D.pure] at p
  | .val _, _ => rfl
theorem D.frzs_of_pure : ∀ {ds : List D}, D.pures ds = true → D.frzs ds = ds
  | [], _ => rfl
  | d :: ds, p => by
    have p' : d.pure = true ∧ D.pures ds = true := by simpa [D.pures] using p
    rw [D.frzs, D.frz_of_pure p'.1, D.frzs_of_pure p'.2]
end
mutual
theorem D.pure_frz : ∀ (d : D), d.frz.pure = true
  | .non => rfl
  | .bl _ => rfl
  | .int _ => rfl
  | .str _ => rfl
  | .tup ds => by rw [D.frz, D.pure]; exact D.pures_frzs ds
  | .lst ds => by rw [D.frz, D.pure]; exact D.pures_frzs ds
  | .vec ds => by rw [D.frz, D.pure]; exact D.pures_frzs ds
  | .obj c ds => by rw [D.frz, D.pure]; exact D.pures_frzs ds
  | .mobj c ds => by rw [D.frz, D.pure]; exact D.pures_frzs ds
  | .exc c ds => by rw [D.frz, D.pure]; exact D.pures_frzs ds
  | .dT c ds => by rw [D.frz, D.pure]; exact D.pures_frzs ds
  | .vT c ds => by rw [D.frz, D.pure]; exact D.pures_frzs ds
  | .dK c ds => by rw [D.frz, D.pure]; exact D.pures_frzs ds
  | .vK c ds => by rw [D.frz, D.pure]; exact D.pures_frzs ds
  | .val _ => rfl
theorem D.pures_frzs : ∀ (ds : List D), D.pures (D.frzs ds) = true
  | [] => rfl
  | d :: ds => by rw [D.frzs, D.pures, D.pure_frz d, D.pures_frzs ds]; rfl
end

mutual
theorem Own.freeze : ∀ {d : D} {v : V} {A : Fp}, Own K cl F H d v A → Le F F' → (∀ a, 0 < A a → F' a = H a) → Own K cl F' H' d.frz v zf
  | .non, _, _, h, _, _ => h
  | .bl _, _, _, h, _, _ => h
  | .int _, _, _, h, _, _ => h
  | .str _, _, _, h, _, _ => h
  | .tup ds, v, A, h, l, k => by
    obtain ⟨a, xs, e, q, r⟩ := h
    exact ⟨a, xs, e, ⟨l.sqT q.1, fun z => l _ _ (q.2 (keyI_frzs ds z))⟩, Owns.freeze r l k⟩
  | .lst ds, v, A, h, l, k => by
    obtain ⟨a, xs, e, q, r⟩ := h
    exact ⟨a, xs, e, l.sqL q, Owns.freeze r l k⟩
  | .vec ds, v, A, h, l, k => by
    obtain ⟨a, xs, B, e, n, q, r, s⟩ := h
    have ha : 0 < A a := by have := s a; rw [one_self] at this; omega
    exact ⟨a, xs, e, SqL.of ((k a ha).trans q), Owns.freeze r l fun b hb => k b (by have := s b; omega)⟩
  | .obj c ds, v, A, h, l, k => by
    obtain ⟨a, dx, xs, e, q, z, r⟩ := h
    exact ⟨a, dx, xs, e, l _ _ q, z, Owns.freeze r l k⟩
  | .mobj c ds, v, A, h, l, k => by
    obtain ⟨a, dx, xs, B, e, n, q, z, r, s⟩ := h
    have ha : 0 < A a := by have := s a; rw [one_self] at this; omega
    exact ⟨a, dx, xs, e.1, (k a ha).trans q, z, Owns.freeze r l fun b hb => k b (by have := s b; omega)⟩
  | .exc c ds, v, A, h, l, k => by
    obtain ⟨xs, e, q, z, r⟩ := h
    exact ⟨xs, e, l _ _ q, z, Owns.freeze r l k⟩
  | .dT ks ds, v, A, h, l, k => by
    obtain ⟨a, xs, e, q, z, r⟩ := h
    exact ⟨a, xs, e, l _ _ q, z, Owns.freeze r l k⟩
  | .dK ks ds, v, A, h, l, k => by
    obtain ⟨a, xs, e, q, z, r⟩ := h
    exact ⟨a, xs, e, l _ _ q, z, Owns.freeze r l k⟩
  | .vT ks ds, v, A, h, l, k => by
    obtain ⟨a, xs, B, e, n, q, z, r, s⟩ := h
    have ha : 0 < A a := by have := s a; rw [one_self] at this; omega
    exact ⟨a, xs, e, (k a ha).trans q, z, Owns.freeze r l fun b hb => k b (by have := s b; omega)⟩
  | .vK ks ds, v, A, h, l, k => by
    obtain ⟨a, xs, B, e, n, q, z, r, s⟩ := h
    have ha : 0 < A a := by have := s a; rw [one_self] at this; omega
    exact ⟨a, xs, e, (k a ha).trans q, z, Owns.freeze r l fun b hb => k b (by have := s b; omega)⟩
  | .val _, _, _, h, _, _ => h
theorem Owns.freeze : ∀ {ds : List D} {vs : List V} {A : Fp}, Owns K cl F H ds vs A → Le F F' → (∀ a, 0 < A a → F' a = H a) → Owns K cl F' H' (D.frzs ds) vs zf
  | [], _, _, h, _, _ => h
  | d :: ds, vs, A, h, l, k => by
    obtain ⟨v, r, B, C, e, p, q, s⟩ := h
    exact ⟨v, r, zf, zf, e, Own.freeze p l (fun b hb => k b (by have := s b; omega)), Owns.freeze q l (fun b hb => k b (by have := s b; omega)), fun x => Nat.le_refl _⟩
end
theorem Owns.length : ∀ {ds : List D} {vs : List V} {A : Fp}, Owns K cl F H ds vs A → ds.length = vs.length
  | [], vs, _, h => by
    have e : vs = [] := h
    subst e; rfl
  | d :: ds, vs, A, h => by
    obtain ⟨v, r, B, C, e, p, q, s⟩ := h
    rw [e, List.length_cons, List.length_cons, Owns.length q]
end

/-! ### the state -/
/-- the ghost of a call: the heap and the frozen part at its entry -/
structure Gh where
  E : Hp
  F : Hp
structure Sta (G : Gh) (F H : Hp) (A : Fp) : Prop where
  sub : Le F H
  ent : Le G.E H
  low : Le G.F F
  fr : ∀ a o, F a = some o → G.F a = some o ∨ G.E a = none ∨ ∃ xs, o = .tup xs
  own : ∀ a, 0 < A a → F a = none ∧ G.E a = none ∧ ∃ o, H a = some o
  nd : ∀ a, A a ≤ 1
  nt : ∀ a xs, 0 < A a → H a ≠ some (.tup xs)
theorem Sta.less {G : Gh} {F H : Hp} {A A' : Fp} (s : Sta G F H A) (h : ∀ x, A' x ≤ A x) : Sta G F H A' :=
  ⟨s.sub, s.ent, s.low, s.fr, fun a ha => s.own a (Nat.lt_of_lt_of_le ha (h a)), fun a => Nat.le_trans (h a) (s.nd a), fun a xs ha => s.nt a xs (Nat.lt_of_lt_of_le ha (h a))⟩

/-- the frame: slot by slot; none: nothing is known -/
def EnvR (K : PySem.W.Frag) (cl : Tb) (F H : Hp) : List (Option D) → St → Fp → Prop
  | [], σ, _ => σ = []
  | none :: ρ, σ, A => ∃ s r, σ = s :: r ∧ EnvR K cl F H ρ r A
  | some d :: ρ, σ, A => ∃ v r B C, σ = some v :: r ∧ Own K cl F H d v B ∧ EnvR K cl F H ρ r C ∧ ∀ x, B x + C x ≤ A x
abbrev Rho := List (Option D)
section
variable {K : PySem.W.Frag} {cl : Tb} {F F' H H' : Hp}
theorem EnvR.mono : ∀ {ρ : Rho} {σ : St} {A A' : Fp}, EnvR K cl F H ρ σ A → Le F F' → (∀ a, 0 < A a → H' a = H a ∧ F' a = none) → (∀ x, A x ≤ A' x) → EnvR K cl F' H' ρ σ A'
  | [], _, _, _, h, _, _, _ => h
  | none :: ρ, σ, A, A', h, l, k, m => by
    obtain ⟨s, r, e, h⟩ := h
    exact ⟨s, r, e, EnvR.mono h l k m⟩
  | some d :: ρ, σ, A, A', h, l, k, m => by
    obtain ⟨v, r, B, C, e, p, q, s⟩ := h
    exact ⟨v, r, B, C, e, Own.mono p l (fun b hb => k b (by have := s b; omega)) (fun _ => Nat.le_refl _), EnvR.mono q l (fun b hb => k b (by have := s b; omega)) (fun _ => Nat.le_refl _), fun x => Nat.le_trans (s x) (m x)⟩
theorem EnvR.up : ∀ {ρ : Rho} {σ : St} {A A' : Fp}, EnvR K cl F H ρ σ A → (∀ x, A x ≤ A' x) → EnvR K cl F H ρ σ A'
  | [], _, _, _, h, _ => h
  | none :: ρ, σ, A, A', h, m => by
    obtain ⟨s, r, e, h⟩ := h
    exact ⟨s, r, e, EnvR.up h m⟩
  | some d :: ρ, σ, A, A', h, m => by
    obtain ⟨v, r, B, C, e, p, q, s⟩ := h
    exact ⟨v, r, B, C, e, p, q, fun x => Nat.le_trans (s x) (m x)⟩
theorem EnvR.length : ∀ {ρ : Rho} {σ : St} {A : Fp}, EnvR K cl F H ρ σ A → ρ.length = σ.length
  | [], σ, _, h => by
    have e : σ = [] := h
    subst e; rfl
  | none :: ρ, σ, A, h => by
    obtain ⟨s, r, e, h⟩ := h
    rw [e, List.length_cons, List.length_cons, EnvR.length h]
  | some d :: ρ, σ, A, h => by
    obtain ⟨v, r, B, C, e, p, q, s⟩ := h
    rw [e, List.length_cons, List.length_cons, EnvR.length q]
theorem EnvR.get : ∀ {ρ : Rho} {σ : St} {A : Fp} {i : Nat} {d : D}, EnvR K cl F H ρ σ A → ρ[i]? = some (some d) → ∃ v B C, σ[i]? = some (some v) ∧ Own K cl F H d v B ∧ EnvR K cl F H (ρ.set i none) σ C ∧ ∀ x, B x + C x ≤ A x
  | [], _, _, _, _, _, h => by simp at h
  | none :: ρ, σ, A, 0, d, h, e => by simp at e
  | none :: ρ, σ, A, i + 1, d, h, e => by
    obtain ⟨s, r, es, h⟩ := h
    obtain ⟨v, B, C, p, q, t, u⟩ := EnvR.get (i := i) h (by simpa using e)
    exact ⟨v, B, C, by rw [es]; simpa using p, q, ⟨s, r, es, t⟩, u⟩
  | some d' :: ρ, σ, A, 0, d, h, e => by
    obtain ⟨v, r, B, C, es, p, q, s⟩ := h
    have e' : d' = d := by simpa using e
    subst e'
    exact ⟨v, B, C, by rw [es]; rfl, p, ⟨_, r, es, q⟩, s⟩
  | some d' :: ρ, σ, A, i + 1, d, h, e => by
    obtain ⟨v, r, B, C, es, p, q, s⟩ := h
    obtain ⟨v', B', C', p', q', t', u'⟩ := EnvR.get (i := i) q (by simpa using e)
    refine ⟨v', B', fun x => B x + C' x, by rw [es]; simpa using p', q', ⟨v, r, B, C', es, p, t', fun x => Nat.le_refl _⟩, fun x => ?_⟩
    have := s x; have := u' x
    show B' x + (B x + C' x) ≤ A x
    omega
theorem EnvR.put : ∀ {ρ : Rho} {σ : St} {A B : Fp} {i : Nat} {d : D} {v : V}, EnvR K cl F H ρ σ A → Own K cl F H d v B → EnvR K cl F H (ρ.set i (some d)) (σ.set i (some v)) (fun x => B x + A x)
  | [], σ, A, B, i, d, v, h, _ => by
    have e : σ = [] := h
    subst e
    exact rfl
  | none :: ρ, σ, A, B, 0, d, v, h, o => by
    obtain ⟨s, r, es, h⟩ := h
    subst es
    exact ⟨v, r, B, A, rfl, o, h, fun x => Nat.le_refl _⟩
  | none :: ρ, σ, A, B, i + 1, d, v, h, o => by
    obtain ⟨s, r, es, h⟩ := h
    subst es
    exact ⟨s, _, rfl, EnvR.put h o⟩
  | some d' :: ρ, σ, A, B, 0, d, v, h, o => by
    obtain ⟨v', r, B', C, es, p, q, s⟩ := h
    subst es
    refine ⟨v, r, B, C, rfl, o, q, fun x => ?_⟩
    have := s x
    show B x + C x ≤ B x + A x
    omega
  | some d' :: ρ, σ, A, B, i + 1, d, v, h, o => by
    obtain ⟨v', r, B', C, es, p, q, s⟩ := h
    subst es
    refine ⟨v', _, B', fun x => B x + C x, rfl, p, EnvR.put q o, fun x => ?_⟩
    have := s x
    show B' x + (B x + C x) ≤ B x + A x
    omega
/-- to know less -/
theorem EnvR.drop : ∀ {ρ : Rho} {σ : St} {A : Fp} (i : Nat), EnvR K cl F H ρ σ A → EnvR K cl F H (ρ.set i none) σ A
  | [], _, _, _, h => h
  | none :: ρ, σ, A, 0, h => h
  | none :: ρ, σ, A, i + 1, h => by
    obtain ⟨s, r, es, h⟩ := h
    exact ⟨s, r, es, EnvR.drop i h⟩
  | some d' :: ρ, σ, A, 0, h => by
    obtain ⟨v', r, B', C, es, p, q, s⟩ := h
    exact ⟨_, r, es, q.up fun x => by have := s x; omega⟩
  | some d' :: ρ, σ, A, i + 1, h => by
    obtain ⟨v', r, B', C, es, p, q, s⟩ := h
    exact ⟨v', r, B', C, es, p, EnvR.drop i q, s⟩
end
end FL

set_option Elab.async false
set_option linter.all false
set_option maxRecDepth 100000
namespace FL
open PySem L2

/-- what a part of the program comes to -/
inductive RX (α : Type) where
  | ok (a : α) (ρ : Rho)
  | ex (c : Nat) (ds : List D) (ρ : Rho)
  | bad
def RX.bind {α β : Type} (r : RX α) (k : α → Rho → RX β) : RX β :=
  match r with
  | .ok a ρ => k a ρ
  | .ex c ds ρ => .ex c ds ρ
  | .bad => .bad
inductive RS where
  | nx (ρ : Rho) | rt (d : D) | bk (ρ : Rho) | ct (ρ : Rho) | ex (c : Nat) (ds : List D) (ρ : Rho) | bad
def RX.stmt {α : Type} (r : RX α) (k : α → Rho → RS) : RS :=
  match r with
  | .ok a ρ => k a ρ
  | .ex c ds ρ => .ex c ds ρ
  | .bad => .bad
def RS.seq (r : RS) (k : Rho → RS) : RS :=
  match r with
  | .nx ρ => k ρ
  | r => r

section
variable (K : PySem.W.Frag) (cl : Tb) (G : Gh)
/-- a state that follows -/
structure Ev (F H : Hp) (R : Fp) (F' H' : Hp) (σ : St) (ρ' : Rho) (A' B : Fp) : Prop where
  le : Le F F'
  ag : ∀ a, 0 < R a → H' a = H a
  st : Sta G F' H' (fun x => A' x + (B x + R x))
  en : EnvR K cl F' H' ρ' σ A'
def ExR (F : Hp) (c : Nat) (ds : List D) (v : Value) (d : Option Addr) : Prop :=
  v = .ref (cl c).at_ ∧ ∃ dd xs, d = some dd ∧ F dd = some (.xd ((cl c).fs.zip xs)) ∧ xs.length ≤ (cl c).fs.length ∧ Owns K cl F F ds xs zf
end

section
variable {K : PySem.W.Frag} {cl : Tb} {G : Gh} {F H F' H' F'' H'' : Hp} {R B A' A'' B'' : Fp} {σ σ' : St} {ρ' ρ'' : Rho}
theorem Ev.self {ρ : Rho} {A : Fp} (st : Sta G F H (fun x => A x + R x)) (en : EnvR K cl F H ρ σ A) : Ev K cl G F H R F H σ ρ A zf :=
  ⟨Le.refl, fun _ _ => rfl, st.less fun x => by show A x + (zf x + R x) ≤ A x + R x; unfold zf; omega, en⟩
theorem Ev.trans (e : Ev K cl G F H R F' H' σ ρ' A' B) (e' : Ev K cl G F' H' (fun x => B x + R x) F'' H'' σ' ρ'' A'' B'') : Ev K cl G F H R F'' H'' σ' ρ'' A'' B'' :=
  ⟨e.le.trans e'.le, fun a ha => (e'.ag a (by show 0 < B a + R a; omega)).trans (e.ag a ha), e'.st.less fun x => by show A'' x + (B'' x + R x) ≤ A'' x + (B'' x + (B x + R x)); omega, e'.en⟩
/-- what was held ahead is held -/
theorem Ev.keep (e : Ev K cl G F H (fun x => B x + R x) F' H' σ ρ' A' B'') {d : D} {v : V} (o : Own K cl F H d v B) : Own K cl F' H' d v B :=
  o.mono e.le (fun a ha => ⟨e.ag a (by show 0 < B a + R a; omega), (e.st.own a (by show 0 < A' a + (B'' a + (B a + R a)); omega)).1⟩) fun _ => Nat.le_refl _
theorem Ev.keeps (e : Ev K cl G F H (fun x => B x + R x) F' H' σ ρ' A' B'') {d : List D} {v : List V} (o : Owns K cl F H d v B) : Owns K cl F' H' d v B :=
  o.mono e.le (fun a ha => ⟨e.ag a (by show 0 < B a + R a; omega), (e.st.own a (by show 0 < A' a + (B'' a + (B a + R a)); omega)).1⟩) fun _ => Nat.le_refl _
/-- less is held by hand -/
theorem Ev.lessB {B' : Fp} (e : Ev K cl G F H R F' H' σ ρ' A' B) (h : ∀ x, B' x ≤ B x) : Ev K cl G F H R F' H' σ ρ' A' B' :=
  ⟨e.le, e.ag, e.st.less fun x => by have := h x; show A' x + (B' x + R x) ≤ A' x + (B x + R x); omega, e.en⟩
theorem Ev.lessR {R' : Fp} (e : Ev K cl G F H R F' H' σ ρ' A' B) (h : ∀ x, R' x ≤ R x) : Ev K cl G F H R' F' H' σ ρ' A' B :=
  ⟨e.le, fun a ha => e.ag a (Nat.lt_of_lt_of_le ha (h a)), e.st.less fun x => by have := h x; show A' x + (B x + R' x) ≤ A' x + (B x + R x); omega, e.en⟩
end

/-! ### readings -/
abbrev WX' := Value → Option Addr → St → Hp → Prop
section
variable (K : PySem.W.Frag) (cl : Tb) (W : WX') {α β : Type} (rep : Hp → Hp → α → β → Fp → Prop)
def Pst (G : Gh) (F H : Hp) (σ : St) (R : Fp) (r : RX α) (Q : β → Hp → Prop) : Prop :=
  match r with
  | .ok a ρ' => ∀ v F' H' A' B, Ev K cl G F H R F' H' σ ρ' A' B → rep F' H' a v B → Q v H'
  | .ex c ds ρ' => ∀ u d F' H' A', Ev K cl G F H R F' H' σ ρ' A' zf → ExR K cl F' c ds u d → W u d σ H'
  | .bad => False
def tX (m : Rho → RX α) (σ : St) (H : Hp) (Q : β → Hp → Prop) : Prop :=
  ∃ G F ρ A R, Sta G F H (fun x => A x + R x) ∧ EnvR K cl F H ρ σ A ∧ Pst K cl W rep G F H σ R (m ρ) Q
def SPst (G : Gh) (F H : Hp) (R : Fp) (r : RS) (E : Ends) : Prop :=
  match r with
  | .nx ρ' => ∀ σ F' H' A', Ev K cl G F H R F' H' σ ρ' A' zf → E.nx σ H'
  | .bk ρ' => ∀ σ F' H' A', Ev K cl G F H R F' H' σ ρ' A' zf → E.bk σ H'
  | .ct ρ' => ∀ σ F' H' A', Ev K cl G F H R F' H' σ ρ' A' zf → E.ct σ H'
  | .rt d => ∀ v F' H' B, Ev K cl G F H R F' H' [] [] zf B → Own K cl F' H' d v B → E.rt v H'
  | .ex c ds ρ' => ∀ u d σ F' H' A', Ev K cl G F H R F' H' σ ρ' A' zf → ExR K cl F' c ds u d → W u d σ H'
  | .bad => False
def tS (m : Rho → RS) (E : Ends) (σ : St) (H : Hp) : Prop :=
  ∃ G F ρ A R, Sta G F H (fun x => A x + R x) ∧ EnvR K cl F H ρ σ A ∧ SPst K cl W G F H R (m ρ) E
end
def rD (K : PySem.W.Frag) (cl : Tb) : Hp → Hp → D → V → Fp → Prop := fun F H d v B => Own K cl F H d v B
def rL (K : PySem.W.Frag) (cl : Tb) : Hp → Hp → List D → List V → Fp → Prop := fun F H d v B => Owns K cl F H d v B
def rB : Hp → Hp → Bool → Bool → Fp → Prop := fun _ _ a b _ => a = b
/-- a path that is looked at: its footprint lies in the frame's -/
abbrev FE (X : Cx) (cl : Tb) (W : WX') (e : Expr) (m : Rho → RX D) : Prop := PE X e (tX X.K cl W (rD X.K cl) m)
abbrev FT (X : Cx) (cl : Tb) (W : WX') (e : Expr) (m : Rho → RX Bool) : Prop := PT X e (tX X.K cl W rB m)
abbrev FA (X : Cx) (cl : Tb) (W : WX') (es : List Expr) (m : Rho → RX (List D)) : Prop := PA X es (tX X.K cl W (rL X.K cl) m)
abbrev FS (X : Cx) (cl : Tb) (W : WX') (s : Stmt) (m : Rho → RS) : Prop := PS X s (tS X.K cl W m)
abbrev FSs (X : Cx) (cl : Tb) (W : WX') (s : List Stmt) (m : Rho → RS) : Prop := PSs X s (tS X.K cl W m)

theorem PE_imp {X : Cx} {e : Expr} {t t' : TE} (h : PE X e t) (i : ∀ σ H Q, t' σ H Q → t σ H Q) : PE X e t' := ⟨fun pins s σ H Q I q => h.run pins s σ H Q I (i σ H Q q)⟩
theorem PT_imp {X : Cx} {e : Expr} {t t' : TT} (h : PT X e t) (i : ∀ σ H Q, t' σ H Q → t σ H Q) : PT X e t' := ⟨fun pins s σ H Q I q => h.run pins s σ H Q I (i σ H Q q)⟩
theorem PA_imp {X : Cx} {e : List Expr} {t t' : TA} (h : PA X e t) (i : ∀ σ H Q, t' σ H Q → t σ H Q) : PA X e t' := ⟨fun pos pins s σ H Q I q => h.run pos pins s σ H Q I (i σ H Q q)⟩
theorem PS_imp {X : Cx} {e : Stmt} {t t' : TS} (h : PS X e t) (i : ∀ D σ H, t' D σ H → t D σ H) : PS X e t' := ⟨fun pins s σ H D I q => h.run pins s σ H D I (i D σ H q)⟩
theorem PSs_imp {X : Cx} {e : List Stmt} {t t' : TS} (h : PSs X e t) (i : ∀ D σ H, t' D σ H → t D σ H) : PSs X e t' := ⟨fun pins s σ H D I q => h.run pins s σ H D I (i D σ H q)⟩

section
variable {K : PySem.W.Frag} {cl : Tb} {W : WX'} {α β α' β' : Type} {rep : Hp → Hp → α → β → Fp → Prop} {rep' : Hp → Hp → α' → β' → Fp → Prop}
variable {G : Gh} {F H F' H' : Hp} {R B A' : Fp} {σ : St} {ρ' : Rho}
theorem Ev.thenR (e : Ev K cl G F H R F' H' σ ρ' A' B) {F'' H'' : Hp} {σ' : St} {ρ'' : Rho} {A'' B'' : Fp} (e' : Ev K cl G F' H' R F'' H'' σ' ρ'' A'' B'') : Ev K cl G F H R F'' H'' σ' ρ'' A'' B'' :=
  ⟨e.le.trans e'.le, fun a ha => (e'.ag a ha).trans (e.ag a ha), e'.st, e'.en⟩
theorem Pst.next {r : RX α} {Q : β → Hp → Prop} (h : Pst K cl W rep G F H σ R r Q) (e : Ev K cl G F H R F' H' σ ρ' A' B) : Pst K cl W rep G F' H' σ R r Q := by
  cases r with
  | ok a ρ => exact fun v F2 H2 A2 B2 e2 o => h v F2 H2 A2 B2 (e.thenR e2) o
  | ex c ds ρ => exact fun u d F2 H2 A2 e2 o => h u d F2 H2 A2 (e.thenR e2) o
  | bad => exact h
theorem SPst.next {r : RS} {E : Ends} (h : SPst K cl W G F H R r E) {σ : St} (e : Ev K cl G F H R F' H' σ ρ' A' B) : SPst K cl W G F' H' R r E := by
  cases r with
  | nx ρ => exact fun s F2 H2 A2 e2 => h s F2 H2 A2 (e.thenR e2)
  | bk ρ => exact fun s F2 H2 A2 e2 => h s F2 H2 A2 (e.thenR e2)
  | ct ρ => exact fun s F2 H2 A2 e2 => h s F2 H2 A2 (e.thenR e2)
  | rt d => exact fun v F2 H2 B2 e2 o => h v F2 H2 B2 (e.thenR e2) o
  | ex c ds ρ => exact fun u d s F2 H2 A2 e2 o => h u d s F2 H2 A2 (e.thenR e2) o
  | bad => exact h
/-- r is run while C is held -/
theorem Pst.bindC {C : Fp} {r : RX α} {k : α → Rho → RX α'} {Q : β' → Hp → Prop} {P : β → Hp → Prop} (h : Pst K cl W rep' G F H σ R (r.bind k) Q)
    (hk : ∀ a ρ' v F' H' A' B, Ev K cl G F H (fun x => C x + R x) F' H' σ ρ' A' B → rep F' H' a v B → Pst K cl W rep' G F' H' σ R (k a ρ') Q → P v H') : Pst K cl W rep G F H σ (fun x => C x + R x) r P := by
  have hr : ∀ x, R x ≤ C x + R x := fun x => Nat.le_add_left _ _
  cases r with
  | ok a ρ => exact fun v F2 H2 A2 B2 e2 o => hk a ρ v F2 H2 A2 B2 e2 o (Pst.next (r := k a ρ) h (e2.lessR hr))
  | ex c ds ρ => exact fun u d F2 H2 A2 e2 o => h u d F2 H2 A2 (e2.lessR hr) o
  | bad => exact h
theorem Pst.bind {r : RX α} {k : α → Rho → RX α'} {Q : β' → Hp → Prop} {P : β → Hp → Prop} (h : Pst K cl W rep' G F H σ R (r.bind k) Q)
    (hk : ∀ a ρ' v F' H' A' B, Ev K cl G F H R F' H' σ ρ' A' B → rep F' H' a v B → Pst K cl W rep' G F' H' σ R (k a ρ') Q → P v H') : Pst K cl W rep G F H σ R r P := by
  cases r with
  | ok a ρ => exact fun v F2 H2 A2 B2 e2 o => hk a ρ v F2 H2 A2 B2 e2 o (Pst.next (r := k a ρ) h e2)
  | ex c ds ρ => exact fun u d F2 H2 A2 e2 o => h u d F2 H2 A2 e2 o
  | bad => exact h
theorem Pst.stmtC {C : Fp} {r : RX α} {k : α → Rho → RS} {E : Ends} {P : β → Hp → Prop} (h : SPst K cl W G F H R (r.stmt k) E)
    (hk : ∀ a ρ' v F' H' A' B, Ev K cl G F H (fun x => C x + R x) F' H' σ ρ' A' B → rep F' H' a v B → SPst K cl W G F' H' R (k a ρ') E → P v H') : Pst K cl W rep G F H σ (fun x => C x + R x) r P := by
  have hr : ∀ x, R x ≤ C x + R x := fun x => Nat.le_add_left _ _
  cases r with
  | ok a ρ => exact fun v F2 H2 A2 B2 e2 o => hk a ρ v F2 H2 A2 B2 e2 o (SPst.next (r := k a ρ) h (e2.lessR hr))
  | ex c ds ρ => exact fun u d F2 H2 A2 e2 o => h u d σ F2 H2 A2 (e2.lessR hr) o
  | bad => exact h
theorem Pst.stmt {r : RX α} {k : α → Rho → RS} {E : Ends} {P : β → Hp → Prop} (h : SPst K cl W G F H R (r.stmt k) E)
    (hk : ∀ a ρ' v F' H' A' B, Ev K cl G F H R F' H' σ ρ' A' B → rep F' H' a v B → SPst K cl W G F' H' R (k a ρ') E → P v H') : Pst K cl W rep G F H σ R r P := by
  cases r with
  | ok a ρ => exact fun v F2 H2 A2 B2 e2 o => hk a ρ v F2 H2 A2 B2 e2 o (SPst.next (r := k a ρ) h e2)
  | ex c ds ρ => exact fun u d F2 H2 A2 e2 o => h u d σ F2 H2 A2 e2 o
  | bad => exact h
theorem Pst.hold {C : Fp} {r : RX α} {Q : β → Hp → Prop} (h : Pst K cl W rep G F H σ R r Q) : Pst K cl W rep G F H σ (fun x => C x + R x) r Q := by
  have hr : ∀ x, R x ≤ C x + R x := fun x => Nat.le_add_left _ _
  cases r with
  | ok a ρ => exact fun v F2 H2 A2 B2 e2 o => h v F2 H2 A2 B2 (e2.lessR hr) o
  | ex c ds ρ => exact fun u d F2 H2 A2 e2 o => h u d F2 H2 A2 (e2.lessR hr) o
  | bad => exact h
theorem SPst.hold {C : Fp} {r : RS} {E : Ends} (h : SPst K cl W G F H R r E) : SPst K cl W G F H (fun x => C x + R x) r E := by
  have hr : ∀ x, R x ≤ C x + R x := fun x => Nat.le_add_left _ _
  cases r with
  | nx ρ => exact fun s F2 H2 A2 e2 => h s F2 H2 A2 (e2.lessR hr)
  | bk ρ => exact fun s F2 H2 A2 e2 => h s F2 H2 A2 (e2.lessR hr)
  | ct ρ => exact fun s F2 H2 A2 e2 => h s F2 H2 A2 (e2.lessR hr)
  | rt d => exact fun v F2 H2 B2 e2 o => h v F2 H2 B2 (e2.lessR hr) o
  | ex c ds ρ => exact fun u d s F2 H2 A2 e2 o => h u d s F2 H2 A2 (e2.lessR hr) o
  | bad => exact h
theorem tX.run {m : Rho → RX α} {Q : β → Hp → Prop} (e : Ev K cl G F H R F' H' σ ρ' A' B) (p : Pst K cl W rep G F' H' σ (fun x => B x + R x) (m ρ') Q) : tX K cl W rep m σ H' Q :=
  ⟨G, F', ρ', A', fun x => B x + R x, e.st, e.en, p⟩
/-- nothing is held -/
theorem tX.run0 {m : Rho → RX α} {Q : β → Hp → Prop} (e : Ev K cl G F H R F' H' σ ρ' A' B) (p : Pst K cl W rep G F' H' σ R (m ρ') Q) : tX K cl W rep m σ H' Q :=
  ⟨G, F', ρ', A', R, e.st.less fun x => by show A' x + R x ≤ A' x + (B x + R x); omega, e.en, p⟩
theorem tS.run0 {m : Rho → RS} {E : Ends} (e : Ev K cl G F H R F' H' σ ρ' A' B) (p : SPst K cl W G F' H' R (m ρ') E) : tS K cl W m E σ H' :=
  ⟨G, F', ρ', A', R, e.st.less fun x => by show A' x + R x ≤ A' x + (B x + R x); omega, e.en, p⟩
theorem tS.run {m : Rho → RS} {E : Ends} (e : Ev K cl G F H R F' H' σ ρ' A' B) (p : SPst K cl W G F' H' (fun x => B x + R x) (m ρ') E) : tS K cl W m E σ H' :=
  ⟨G, F', ρ', A', fun x => B x + R x, e.st, e.en, p⟩
end
end FL

set_option Elab.async false
set_option linter.all false
set_option maxRecDepth 100000
namespace FL
open PySem L2

/-! ### expressions -/
def eC (d : D) : Rho → RX D := fun ρ => .ok d ρ
/-- a name: what it holds is frozen -/
def eV (i : Nat) : Rho → RX D := fun ρ => match ρ[i]? with | some (some d) => .ok d.frz (ρ.set i (some d.frz)) | _ => .bad
/-- a name's last use -/
def eM (i : Nat) : Rho → RX D := fun ρ => match ρ[i]? with | some (some d) => .ok d (ρ.set i none) | _ => .bad
def opt (o : Option D) (ρ : Rho) : RX D := match o with | some d => .ok d ρ | none => .bad
def eBin (f : D → D → Option D) (a b : Rho → RX D) : Rho → RX D := fun ρ => (a ρ).bind fun x ρ1 => (b ρ1).bind fun y ρ2 => opt (f x y) ρ2
def eUn (f : D → Option D) (a : Rho → RX D) : Rho → RX D := fun ρ => (a ρ).bind fun x ρ1 => opt (f x) ρ1
def aNil : Rho → RX (List D) := fun ρ => .ok [] ρ
def aCons (a : Rho → RX D) (b : Rho → RX (List D)) : Rho → RX (List D) := fun ρ => (a ρ).bind fun x ρ1 => (b ρ1).bind fun y ρ2 => .ok (x :: y) ρ2
noncomputable def cap (n : Nat) : Bool := yes (n < 16777216)
noncomputable def eTup (a : Rho → RX (List D)) : Rho → RX D := fun ρ => (a ρ).bind fun x ρ1 => if cap x.length then .ok (.tup x) ρ1 else .bad
noncomputable def eLst (a : Rho → RX (List D)) : Rho → RX D := fun ρ => (a ρ).bind fun x ρ1 => if cap x.length then .ok (.vec x) ρ1 else .bad
/-- a built-in called -/
def eFn (f : List D → Option D) (a : Rho → RX (List D)) : Rho → RX D := fun ρ => (a ρ).bind fun x ρ1 => opt (f x) ρ1
def tB1 (a : Rho → RX D) : Rho → RX Bool := fun ρ => (a ρ).bind fun x ρ1 => match x with | .bl b => .ok b ρ1 | _ => .bad
def tAnd (a b : Rho → RX Bool) : Rho → RX Bool := fun ρ => (a ρ).bind fun x ρ1 => if x then b ρ1 else .ok false ρ1
def tOr (a b : Rho → RX Bool) : Rho → RX Bool := fun ρ => (a ρ).bind fun x ρ1 => if x then .ok true ρ1 else b ρ1
def tNot (a : Rho → RX Bool) : Rho → RX Bool := fun ρ => (a ρ).bind fun x ρ1 => .ok (!x) ρ1
def andX : D → RX D → Rho → RX D
  | .bl true, k, _ => k
  | .bl false, _, ρ => .ok (.bl false) ρ
  | _, _, _ => .bad
def orX : D → RX D → Rho → RX D
  | .bl true, _, ρ => .ok (.bl true) ρ
  | .bl false, k, _ => k
  | _, _, _ => .bad
def eAnd (a b : Rho → RX D) : Rho → RX D := fun ρ => (a ρ).bind fun x ρ1 => andX x (b ρ1) ρ1
def eOr (a b : Rho → RX D) : Rho → RX D := fun ρ => (a ρ).bind fun x ρ1 => orX x (b ρ1) ρ1
def eNot (a : Rho → RX D) : Rho → RX D := fun ρ => (a ρ).bind fun x ρ1 => match x with | .bl b => .ok (.bl (!b)) ρ1 | _ => .bad
def eIf (t : Rho → RX Bool) (a b : Rho → RX D) : Rho → RX D := fun ρ => (t ρ).bind fun x ρ1 => if x then a ρ1 else b ρ1

section
variable {X : Cx} {cl : Tb} {W : WX'} {K : PySem.W.Frag}
variable {G : Gh} {F H F' H' : Hp} {R B A A' : Fp} {σ : St} {ρ ρ' : Rho}

/-- a result without a footprint, where one stands -/
theorem Pst.ok {α β : Type} {rep : Hp → Hp → α → β → Fp → Prop} {a : α} {v : β} {Q : β → Hp → Prop} (p : Pst K cl W rep G F' H' σ R (.ok a ρ') Q) (e : Ev K cl G F H R F' H' σ ρ' A' B) (o : rep F' H' a v zf) : Q v H' :=
  p v F' H' A' zf (Ev.self (e.st.less fun x => by show A' x + R x ≤ A' x + (B x + R x); omega) e.en) o
theorem Pst.okB {α β : Type} {rep : Hp → Hp → α → β → Fp → Prop} {a : α} {v : β} {Q : β → Hp → Prop} (p : Pst K cl W rep G F H σ R (.ok a ρ') Q) (st : Sta G F H (fun x => A x + (B x + R x))) (en : EnvR K cl F H ρ' σ A) (o : rep F H a v B) : Q v H :=
  p v F H A B ⟨Le.refl, fun _ _ => rfl, st, en⟩ o

theorem fe_const {e : Expr} {d : D} {v : V} (h : PE X e (tC v)) (hd : ∀ F H, Own X.K cl F H d v zf) : FE X cl W e (eC d) := PE_imp h fun σ H Q q => by
  obtain ⟨G, F, ρ, A, R, st, en, p⟩ := q
  exact p v F H A zf (Ev.self st en) (hd F H)
theorem fe_int {i j pos} : FE X cl W (.Constant (.int i) j pos) (eC (.int i)) := fe_const pe_int fun _ _ => rfl
theorem fe_bl {b j pos} : FE X cl W (.Constant (.bool b) j pos) (eC (.bl b)) := fe_const pe_bl fun _ _ => rfl
theorem fe_non {j pos} : FE X cl W (.Constant .none j pos) (eC .non) := fe_const pe_non fun _ _ => rfl
theorem fe_str {x j pos} : FE X cl W (.Constant (.str x) j pos) (eC (.str x)) := fe_const pe_str fun _ _ => rfl

/-- an owned thing is frozen -/
theorem freeze_st {d : D} {v : V} {C : Fp} (st : Sta G F H (fun x => C x + (B x + R x))) (o : Own K cl F H d v B) :
    ∃ F', Le F F' ∧ Sta G F' H (fun x => C x + R x) ∧ Own K cl F' H d.frz v zf := by
  have hown : ∀ a, 0 < B a → F a = none ∧ G.E a = none ∧ ∃ o, H a = some o := fun a ha => st.own a (by show 0 < C a + (B a + R a); omega)
  have hnd : ∀ a, C a + (B a + R a) ≤ 1 := st.nd
  refine ⟨fun a => if 0 < B a then H a else F a, fun a o e => ?_, ⟨fun a o e => ?_, st.ent, fun a o e => ?_, fun a o e => ?_, fun a ha => ?_, fun a => by have := hnd a; show C a + R a ≤ 1; omega, fun a xs ha => st.nt a xs (by have ha' : 0 < C a + R a := ha; show 0 < C a + (B a + R a); omega)⟩, ?_⟩
  · show (if 0 < B a then H a else F a) = some o
    split
    · rename_i hb; rw [(hown a hb).1] at e; cases e
    · exact e
  · have e' : (if 0 < B a then H a else F a) = some o := e
    split at e'
    · exact e'
    · exact st.sub a o e'
  · show (if 0 < B a then H a else F a) = some o
    split
    · rename_i hb
      have := st.low a o e
      rw [(hown a hb).1] at this; cases this
    · exact st.low a o e
  · have e' : (if 0 < B a then H a else F a) = some o := e
    split at e'
    · rename_i hb; exact .inr (.inl (hown a hb).2.1)
    · exact st.fr a o e'
  · have ha' : 0 < C a + R a := ha
    have h1 := st.own a (by show 0 < C a + (B a + R a); omega)
    refine ⟨?_, h1.2⟩
    show (if 0 < B a then H a else F a) = none
    rw [if_neg (by have := hnd a; omega)]
    exact h1.1
  · refine o.freeze (fun a o' e => ?_) fun a ha => ?_
    · show (if 0 < B a then H a else F a) = some o'
      split
      · rename_i hb; rw [(hown a hb).1] at e; cases e
      · exact e
    · show (if 0 < B a then H a else F a) = H a
      rw [if_pos ha]

theorem fe_var {i : Nat} {x : Str} {pos : Pos} (h : PE X (.Name x pos) (tVar i)) : FE X cl W (.Name x pos) (eV i) := PE_imp h fun σ H Q q => by
  obtain ⟨G, F, ρ, A, R, st, en, p⟩ := q
  unfold eV at p
  cases e : ρ[i]? with
  | none => rw [e] at p; exact p.elim
  | some o =>
    cases o with
    | none => rw [e] at p; exact p.elim
    | some d =>
      rw [e] at p
      obtain ⟨v, B, C, hv, o, en', hs⟩ := en.get e
      refine ⟨v, hv, ?_⟩
      obtain ⟨F', le, st', o'⟩ := freeze_st (B := B) (R := R) (C := C) (st.less fun x => by have := hs x; show C x + (B x + R x) ≤ A x + R x; omega) o
      have hi : i < ρ.length := (List.getElem?_eq_some_iff.mp e).1
      have en2 : EnvR X.K cl F' H (ρ.set i none) σ C := en'.mono le (fun a ha => ⟨rfl, (st'.own a (by show 0 < C a + R a; omega)).1⟩) fun _ => Nat.le_refl _
      have en3 := en2.put (i := i) o'
      rw [List.set_set] at en3
      have hσ : σ.set i (some v) = σ := by
        obtain ⟨hl, hg⟩ := List.getElem?_eq_some_iff.mp hv
        rw [← hg]
        exact List.set_getElem_self hl
      rw [hσ] at en3
      exact p v F' H (fun x => zf x + C x) zf ⟨le, fun _ _ => rfl, st'.less fun x => by show zf x + C x + (zf x + R x) ≤ C x + R x; unfold zf; omega, en3⟩ o'
theorem fe_move {i : Nat} {x : Str} {pos : Pos} (h : PE X (.Name x pos) (tVar i)) : FE X cl W (.Name x pos) (eM i) := PE_imp h fun σ H Q q => by
  obtain ⟨G, F, ρ, A, R, st, en, p⟩ := q
  unfold eM at p
  cases e : ρ[i]? with
  | none => rw [e] at p; exact p.elim
  | some o =>
    cases o with
    | none => rw [e] at p; exact p.elim
    | some d =>
      rw [e] at p
      obtain ⟨v, B, C, hv, o, en', hs⟩ := en.get e
      exact ⟨v, hv, Pst.okB p (st.less fun x => by have := hs x; show C x + (B x + R x) ≤ A x + R x; omega) en' o⟩

/-- a built-in rule over data: r is HandS' reading of it -/
def Does2 (X : Cx) (cl : Tb) (f : D → D → Option D) (r : R2) : Prop :=
  ∀ (x y d : D), f x y = some d → ∀ (G : Gh) (F H : Hp) (S B C : Fp) (vx vy : V) (Q : VK), Sta G F H (fun z => B z + (C z + S z)) → Own X.K cl F H x vx C → Own X.K cl F H y vy B →
    (∀ v F' H' B', Le F F' → (∀ a, 0 < S a → H' a = H a) → Sta G F' H' (fun z => B' z + S z) → Own X.K cl F' H' d v B' → Q v H') → r vx vy H Q
def Does1 (X : Cx) (cl : Tb) (f : D → Option D) (r : V → Hp → VK → Prop) : Prop :=
  ∀ (x d : D), f x = some d → ∀ (G : Gh) (F H : Hp) (S C : Fp) (vx : V) (Q : VK), Sta G F H (fun z => C z + S z) → Own X.K cl F H x vx C →
    (∀ v F' H' B', Le F F' → (∀ a, 0 < S a → H' a = H a) → Sta G F' H' (fun z => B' z + S z) → Own X.K cl F' H' d v B' → Q v H') → r vx H Q
def DoesL (X : Cx) (cl : Tb) (f : List D → Option D) (r : List V → Hp → VK → Prop) : Prop :=
  ∀ (x : List D) (d : D), f x = some d → ∀ (G : Gh) (F H : Hp) (S C : Fp) (vx : List V) (Q : VK), Sta G F H (fun z => C z + S z) → Owns X.K cl F H x vx C →
    (∀ v F' H' B', Le F F' → (∀ a, 0 < S a → H' a = H a) → Sta G F' H' (fun z => B' z + S z) → Own X.K cl F' H' d v B' → Q v H') → r vx H Q
/-- behind such a rule -/
theorem Pst.does {d : D} {Q : VK} (p : Pst K cl W (rD K cl) G F H σ R (.ok d ρ) Q) (st : Sta G F H (fun x => A x + R x)) (en : EnvR K cl F H ρ σ A) :
    ∀ v F' H' B', Le F F' → (∀ a, 0 < A a + R a → H' a = H a) → Sta G F' H' (fun z => B' z + (A z + R z)) → Own K cl F' H' d v B' → Q v H' := fun v F' H' B' le ag st' o =>
  p v F' H' A B' ⟨le, fun a ha => ag a (by omega), st'.less fun z => by show A z + (B' z + R z) ≤ B' z + (A z + R z); omega,
    en.mono le (fun a ha => ⟨ag a (by omega), (st'.own a (by show 0 < B' a + (A a + R a); omega)).1⟩) fun _ => Nat.le_refl _⟩ o
theorem fe_bin {e : Expr} {a b : Rho → RX D} {f : D → D → Option D} {r : R2} (hf : Does2 X cl f r) (h : PE X e (tOp r (tX X.K cl W (rD X.K cl) a) (tX X.K cl W (rD X.K cl) b))) : FE X cl W e (eBin f a b) := PE_imp h fun σ H Q q => by
  obtain ⟨G, F, ρ, A, R, st, en, p⟩ := q
  refine ⟨G, F, ρ, A, R, st, en, Pst.bind p fun x ρ1 v1 F1 H1 A1 B1 e1 o1 p1 => ?_⟩
  refine tX.run e1 (Pst.bindC p1 fun y ρ2 v2 F2 H2 A2 B2 e2 o2 p2 => ?_)
  cases hd : f x y with
  | none => rw [hd] at p2; exact p2.elim
  | some d =>
    rw [hd] at p2
    refine hf x y d hd G F2 H2 (fun z => A2 z + R z) B2 B1 v1 v2 Q (e2.st.less fun z => ?_) (e2.keep o1) o2 (Pst.does p2 (e2.st.less fun z => ?_) e2.en)
    · show B2 z + (B1 z + (A2 z + R z)) ≤ A2 z + (B2 z + (B1 z + R z)); omega
    · show A2 z + R z ≤ A2 z + (B2 z + (B1 z + R z)); omega
theorem fe_un {e : Expr} {a : Rho → RX D} {f : D → Option D} {r : V → Hp → VK → Prop} (hf : Does1 X cl f r) (h : PE X e (tUn r (tX X.K cl W (rD X.K cl) a))) : FE X cl W e (eUn f a) := PE_imp h fun σ H Q q => by
  obtain ⟨G, F, ρ, A, R, st, en, p⟩ := q
  refine ⟨G, F, ρ, A, R, st, en, Pst.bind p fun x ρ1 v1 F1 H1 A1 B1 e1 o1 p1 => ?_⟩
  cases hd : f x with
  | none => rw [hd] at p1; exact p1.elim
  | some d =>
    rw [hd] at p1
    refine hf x d hd G F1 H1 (fun z => A1 z + R z) B1 v1 Q (e1.st.less fun z => ?_) o1 (Pst.does p1 (e1.st.less fun z => ?_) e1.en)
    · show B1 z + (A1 z + R z) ≤ A1 z + (B1 z + R z); omega
    · show A1 z + R z ≤ A1 z + (B1 z + R z); omega
theorem fe_fn {e : Expr} {a : Rho → RX (List D)} {f : List D → Option D} {r : List V → Hp → VK → Prop} (hf : DoesL X cl f r) (h : PE X e (tCB r (tX X.K cl W (rL X.K cl) a))) : FE X cl W e (eFn f a) := PE_imp h fun σ H Q q => by
  obtain ⟨G, F, ρ, A, R, st, en, p⟩ := q
  refine ⟨G, F, ρ, A, R, st, en, Pst.bind p fun x ρ1 v1 F1 H1 A1 B1 e1 o1 p1 => ?_⟩
  cases hd : f x with
  | none => rw [hd] at p1; exact p1.elim
  | some d =>
    rw [hd] at p1
    refine hf x d hd G F1 H1 (fun z => A1 z + R z) B1 v1 Q (e1.st.less fun z => ?_) o1 (Pst.does p1 (e1.st.less fun z => ?_) e1.en)
    · show B1 z + (A1 z + R z) ≤ A1 z + (B1 z + R z); omega
    · show A1 z + R z ≤ A1 z + (B1 z + R z); omega

/-! ### lists of expressions, displays -/
theorem fa_nil : FA X cl W [] aNil := PA_imp pa_nil fun σ H Q q => by
  obtain ⟨G, F, ρ, A, R, st, en, p⟩ := q
  exact p [] F H A zf (Ev.self st en) rfl
theorem fa_cons {e : Expr} {es : List Expr} {a : Rho → RX D} {b : Rho → RX (List D)} (ha : FE X cl W e a) (hb : FA X cl W es b)
    (hs : starEach (e :: es) X.env = (false, eval e X.env) :: starEach es X.env := by rfl) : FA X cl W (e :: es) (aCons a b) := PA_imp (pa_cons ha hb hs) fun σ H Q q => by
  obtain ⟨G, F, ρ, A, R, st, en, p⟩ := q
  refine ⟨G, F, ρ, A, R, st, en, Pst.bind p fun x ρ1 v1 F1 H1 A1 B1 e1 o1 p1 => ?_⟩
  refine tX.run e1 (Pst.bindC p1 fun y ρ2 v2 F2 H2 A2 B2 e2 o2 p2 => ?_)
  exact Pst.okB (B := fun z => B1 z + B2 z) p2 (e2.st.less fun z => by show A2 z + (B1 z + B2 z + R z) ≤ A2 z + (B2 z + (B1 z + R z)); omega) e2.en ⟨v1, v2, B1, B2, rfl, e2.keep o1, o2, fun _ => Nat.le_refl _⟩

/-- a new object is laid: frozen, or owned -/
theorem lay_frozen {p : Addr} {o : HO} {S : Fp} (st : Sta G F H S) (np : H p = none) : Le F (upd F p o) ∧ Sta G (upd F p o) (upd H p o) S := by
  have le : Le F (upd F p o) := fun a u e => by rw [upd_ne (ne_of_none (st.sub a u e) np)]; exact e
  refine ⟨le, fun a u e => ?_, fun a u e => ?_, fun a u e => le a u (st.low a u e), fun a u e => ?_, fun a ha => ?_, st.nd, fun a xs ha => ?_⟩
  · by_cases h : a = p
    · subst h; rw [upd_same] at e ⊢; exact e
    · rw [upd_ne h] at e ⊢; exact st.sub a u e
  · rw [upd_ne (ne_of_none (st.ent a u e) np)]; exact st.ent a u e
  · by_cases h : a = p
    · subst h
      right; left
      cases q : G.E a with
      | none => rfl
      | some w => rw [st.ent a w q] at np; cases np
    · rw [upd_ne h] at e; exact st.fr a u e
  · obtain ⟨h1, h2, u, h3⟩ := st.own a ha
    have ne : a ≠ p := ne_of_none h3 np
    exact ⟨by rw [upd_ne ne]; exact h1, h2, u, by rw [upd_ne ne]; exact h3⟩
  · obtain ⟨h1, h2, u, h3⟩ := st.own a ha
    rw [upd_ne (ne_of_none h3 np)]
    exact st.nt a xs ha
theorem lay_owned {p : Addr} {o : HO} {S : Fp} (st : Sta G F H S) (np : H p = none) (ho : ∀ xs, o ≠ .tup xs := by intro _ h; cases h) : F p = none ∧ S p = 0 ∧ Sta G F (upd H p o) (fun z => one p z + S z) := by
  have fp : F p = none := by
    cases q : F p with
    | none => rfl
    | some w => rw [st.sub p w q] at np; cases np
  have sp : S p = 0 := by
    cases q : S p with
    | zero => rfl
    | succ n =>
      obtain ⟨_, _, u, h3⟩ := st.own p (by omega)
      rw [h3] at np; cases np
  refine ⟨fp, sp, fun a u e => ?_, fun a u e => ?_, st.low, st.fr, fun a ha => ?_, fun a => ?_, fun a xs ha => ?_⟩
  · rw [upd_ne (ne_of_none (st.sub a u e) np)]; exact st.sub a u e
  · rw [upd_ne (ne_of_none (st.ent a u e) np)]; exact st.ent a u e
  · by_cases h : a = p
    · subst h
      refine ⟨fp, ?_, o, upd_same⟩
      cases q : G.E a with
      | none => rfl
      | some w => rw [st.ent a w q] at np; cases np
    · have ha' : 0 < one p a + S a := ha
      unfold one at ha'
      rw [if_neg h] at ha'
      obtain ⟨h1, h2, u, h3⟩ := st.own a (by omega)
      exact ⟨h1, h2, u, by rw [upd_ne h]; exact h3⟩
  · show one p a + S a ≤ 1
    unfold one
    split
    · rename_i h; subst h; omega
    · have := st.nd a; omega
  · by_cases h : a = p
    · subst h; rw [upd_same]; intro e; exact ho xs (Option.some.inj e)
    · rw [upd_ne h]
      have ha' : 0 < one p a + S a := ha
      unfold one at ha'
      rw [if_neg h] at ha'
      exact st.nt a xs (by omega)
/-- owned things are where they were behind a new object -/
theorem Owns.laid {S B : Fp} {p : Addr} {o : HO} {ds : List D} {vs : List V} (w : Owns K cl F H ds vs B) (st : Sta G F H (fun z => B z + S z)) (np : H p = none) (le : Le F F') (hF : ∀ a, 0 < B a → F' a = none) : Owns K cl F' (upd H p o) ds vs B :=
  w.mono le (fun a ha => by
    obtain ⟨_, _, u, h3⟩ := st.own a (by show 0 < B a + S a; omega)
    exact ⟨upd_ne (ne_of_none h3 np), hF a ha⟩) fun _ => Nat.le_refl _
theorem cap_line {n : Nat} (h : cap n = true) : n < sizeLine := by
  have e : sizeLine = 16777216 := sizeLine_eq
  have := of_yes h
  omega
theorem fe_tup {es : List Expr} {x1 pos} {a : Rho → RX (List D)} (h : FA X cl W es a) : FE X cl W (.Tuple es x1 pos) (eTup a) := PE_imp (pe_tup h) fun σ H Q q => by
  obtain ⟨G, F, ρ, A, R, st, en, p⟩ := q
  refine ⟨G, F, ρ, A, R, st, en, Pst.bind p fun x ρ1 v1 F1 H1 A1 B1 e1 o1 p1 => ?_⟩
  have hl : x.length = v1.length := Owns.length o1
  by_cases hc : cap x.length = true
  · rw [if_pos hc] at p1
    refine ⟨by rw [← hl]; exact Nat.le_of_lt (cap_line hc), fun q nq => ?_⟩
    have st1 : Sta G F1 H1 (fun z => B1 z + (A1 z + R z)) := e1.st.less fun z => by show B1 z + (A1 z + R z) ≤ A1 z + (B1 z + R z); omega
    obtain ⟨le, st2⟩ := lay_frozen (o := .tup v1) st1 nq
    refine Pst.does p1 (e1.st.less fun z => ?_) e1.en (.ref q) _ _ B1 le (fun a ha => ?_) st2 ⟨q, v1, rfl, ⟨SqT.of upd_same, fun _ => upd_same⟩, o1.laid st1 nq le fun a ha => (st2.own a (by show 0 < B1 a + _; omega)).1⟩
    · show A1 z + R z ≤ A1 z + (B1 z + R z); omega
    · obtain ⟨_, _, u, h3⟩ := st1.own a (by show 0 < B1 a + (A1 a + R a); omega)
      exact upd_ne (ne_of_none h3 nq)
  · rw [if_neg hc] at p1; exact p1.elim
theorem fe_lst {es : List Expr} {pos} {a : Rho → RX (List D)} (h : FA X cl W es a) : FE X cl W (.List es pos) (eLst a) := PE_imp (pe_lst h) fun σ H Q q => by
  obtain ⟨G, F, ρ, A, R, st, en, p⟩ := q
  refine ⟨G, F, ρ, A, R, st, en, Pst.bind p fun x ρ1 v1 F1 H1 A1 B1 e1 o1 p1 => ?_⟩
  have hl : x.length = v1.length := Owns.length o1
  by_cases hc : cap x.length = true
  · rw [if_pos hc] at p1
    refine ⟨by rw [← hl]; exact Nat.le_of_lt (cap_line hc), fun q nq => ?_⟩
    have st1 : Sta G F1 H1 (fun z => B1 z + (A1 z + R z)) := e1.st.less fun z => by show B1 z + (A1 z + R z) ≤ A1 z + (B1 z + R z); omega
    obtain ⟨fq, sq, st2⟩ := lay_owned (o := .lst v1) st1 nq
    refine Pst.does p1 (e1.st.less fun z => ?_) e1.en (.ref q) _ _ (fun z => one q z + B1 z) Le.refl (fun a ha => ?_) (st2.less fun z => ?_) ⟨q, v1, B1, rfl, fq, upd_same, o1.laid st1 nq Le.refl (fun a ha => (st1.own a (by show 0 < B1 a + _; omega)).1), fun _ => Nat.le_refl _⟩
    · show A1 z + R z ≤ A1 z + (B1 z + R z); omega
    · obtain ⟨_, _, u, h3⟩ := st1.own a (by show 0 < B1 a + (A1 a + R a); omega)
      exact upd_ne (ne_of_none h3 nq)
    · show one q z + B1 z + (A1 z + R z) ≤ one q z + (B1 z + (A1 z + R z)); omega
  · rw [if_neg hc] at p1; exact p1.elim
end
end FL

set_option Elab.async false
set_option linter.all false
set_option maxRecDepth 100000
namespace FL
open PySem L2

section
variable {X : Cx} {cl : Tb} {W : WX'} {K : PySem.W.Frag}
variable {G : Gh} {F H F' H' : Hp} {R B A A' : Fp} {σ : St} {ρ ρ' : Rho} {pos : Pos}

/-! ### tests -/
theorem ft_val {e : Expr} {a : Rho → RX D} (h : FE X cl W e a) (he : ∀ whole, isTrue e X.env whole = (do let v ← whole; standAt e.pos; holding [v] (truthy v)) := by intro _; rfl) : FT X cl W e (tB1 a) := PT_imp (pt_val h he) fun σ H Q q => by
  obtain ⟨G, F, ρ, A, R, st, en, p⟩ := q
  refine ⟨G, F, ρ, A, R, st, en, Pst.bind p fun x ρ1 v1 F1 H1 A1 B1 e1 o1 p1 => ?_⟩
  cases x with
  | bl b => exact ⟨b, o1, Pst.ok p1 e1 rfl⟩
  | _ => exact p1.elim
theorem ft_cmp {e : Expr} {a : Rho → RX D} {t : TE} (h : PT X e (tTest t)) (ht : ∀ σ H Q, tX X.K cl W (rD X.K cl) a σ H Q → t σ H Q) : FT X cl W e (tB1 a) := PT_imp h fun σ H Q q => by
  obtain ⟨G, F, ρ, A, R, st, en, p⟩ := q
  refine ht σ H _ ⟨G, F, ρ, A, R, st, en, Pst.bind p fun x ρ1 v1 F1 H1 A1 B1 e1 o1 p1 => ?_⟩
  cases x with
  | bl b => exact ⟨b, o1, Pst.ok p1 e1 rfl⟩
  | _ => exact p1.elim
abbrev FW (X : Cx) (cl : Tb) (W : WX') (e : Expr) (m : Rho → RX Bool) : Prop := PW X e (tX X.K cl W rB m)
theorem PW_imp {X : Cx} {e : Expr} {t t' : TT} (h : PW X e t) (i : ∀ σ H Q, t' σ H Q → t σ H Q) : PW X e t' := ⟨fun w pins s σ H Q I q => h.run w pins s σ H Q I (i σ H Q q)⟩
theorem fw_and1 {a : Expr} {m : Rho → RX Bool} (h : FT X cl W a m) : FW X cl W (.BoolOp .And [a] pos) m := pw_and1 h
theorem fw_or1 {a : Expr} {m : Rho → RX Bool} (h : FT X cl W a m) : FW X cl W (.BoolOp .Or [a] pos) m := pw_or1 h
theorem fw_and {a b : Expr} {rest : List Expr} {m n : Rho → RX Bool} (ha : FT X cl W a m) (hb : FW X cl W (.BoolOp .And (b :: rest) pos) n) : FW X cl W (.BoolOp .And (a :: b :: rest) pos) (tAnd m n) := PW_imp (pw_and ha hb) fun σ H Q q => by
  obtain ⟨G, F, ρ, A, R, st, en, p⟩ := q
  refine ⟨G, F, ρ, A, R, st, en, Pst.bind p fun x ρ1 v1 F1 H1 A1 B1 e1 o1 p1 => ?_⟩
  have o1' : x = v1 := o1
  subst o1'
  cases x with
  | true => exact tX.run0 e1 p1
  | false => exact Pst.ok p1 e1 rfl
theorem fw_or {a b : Expr} {rest : List Expr} {m n : Rho → RX Bool} (ha : FT X cl W a m) (hb : FW X cl W (.BoolOp .Or (b :: rest) pos) n) : FW X cl W (.BoolOp .Or (a :: b :: rest) pos) (tOr m n) := PW_imp (pw_or ha hb) fun σ H Q q => by
  obtain ⟨G, F, ρ, A, R, st, en, p⟩ := q
  refine ⟨G, F, ρ, A, R, st, en, Pst.bind p fun x ρ1 v1 F1 H1 A1 B1 e1 o1 p1 => ?_⟩
  have o1' : x = v1 := o1
  subst o1'
  cases x with
  | true => exact Pst.ok p1 e1 rfl
  | false => exact tX.run0 e1 p1
theorem ft_not {a : Expr} {m : Rho → RX Bool} (h : FT X cl W a m) : FT X cl W (.UnaryOp .Not a pos) (tNot m) := PT_imp (pt_not h) fun σ H Q q => by
  obtain ⟨G, F, ρ, A, R, st, en, p⟩ := q
  refine ⟨G, F, ρ, A, R, st, en, Pst.bind p fun x ρ1 v1 F1 H1 A1 B1 e1 o1 p1 => ?_⟩
  have o1' : x = v1 := o1
  subst o1'
  exact Pst.ok p1 e1 rfl
theorem fe_and {a b : Expr} {rest : List Expr} {m n : Rho → RX D} (ha : FE X cl W a m) (hb : FE X cl W (.BoolOp .And (b :: rest) pos) n) : FE X cl W (.BoolOp .And (a :: b :: rest) pos) (eAnd m n) := PE_imp (pe_and ha hb) fun σ H Q q => by
  obtain ⟨G, F, ρ, A, R, st, en, p⟩ := q
  refine ⟨G, F, ρ, A, R, st, en, Pst.bind p fun x ρ1 v1 F1 H1 A1 B1 e1 o1 p1 => ?_⟩
  cases x with
  | bl b =>
    refine ⟨b, o1, ?_⟩
    cases b with
    | true => exact tX.run0 e1 p1
    | false => exact Pst.ok p1 e1 rfl
  | _ => exact p1.elim
theorem fe_or {a b : Expr} {rest : List Expr} {m n : Rho → RX D} (ha : FE X cl W a m) (hb : FE X cl W (.BoolOp .Or (b :: rest) pos) n) : FE X cl W (.BoolOp .Or (a :: b :: rest) pos) (eOr m n) := PE_imp (pe_or ha hb) fun σ H Q q => by
  obtain ⟨G, F, ρ, A, R, st, en, p⟩ := q
  refine ⟨G, F, ρ, A, R, st, en, Pst.bind p fun x ρ1 v1 F1 H1 A1 B1 e1 o1 p1 => ?_⟩
  cases x with
  | bl b =>
    refine ⟨b, o1, ?_⟩
    cases b with
    | true => exact Pst.ok p1 e1 rfl
    | false => exact tX.run0 e1 p1
  | _ => exact p1.elim
theorem fe_not {a : Expr} {m : Rho → RX D} (h : FE X cl W a m) : FE X cl W (.UnaryOp .Not a pos) (eNot m) := PE_imp (pe_not h) fun σ H Q q => by
  obtain ⟨G, F, ρ, A, R, st, en, p⟩ := q
  refine ⟨G, F, ρ, A, R, st, en, Pst.bind p fun x ρ1 v1 F1 H1 A1 B1 e1 o1 p1 => ?_⟩
  cases x with
  | bl b => exact ⟨b, o1, Pst.ok p1 e1 rfl⟩
  | _ => exact p1.elim
theorem fe_one {op} {a : Expr} {m : Rho → RX D} (h : FE X cl W a m) : FE X cl W (.BoolOp op [a] pos) m := pe_one h
theorem fe_if {c a b : Expr} {t : Rho → RX Bool} {m n : Rho → RX D} (hc : FT X cl W c t) (ha : FE X cl W a m) (hb : FE X cl W b n) : FE X cl W (.IfExp c a b pos) (eIf t m n) := PE_imp (pe_ifExp hc ha hb) fun σ H Q q => by
  obtain ⟨G, F, ρ, A, R, st, en, p⟩ := q
  refine ⟨G, F, ρ, A, R, st, en, Pst.bind p fun x ρ1 v1 F1 H1 A1 B1 e1 o1 p1 => ?_⟩
  have o1' : x = v1 := o1
  subst o1'
  cases x with
  | true => exact tX.run0 e1 p1
  | false => exact tX.run0 e1 p1

/-- a op b op' c -/
def eChain (f g : D → D → Option D) (a b c : Rho → RX D) : Rho → RX D := fun ρ => (a ρ).bind fun x ρ1 => (b ρ1).bind fun y ρ2 =>
  if y.pure then (match f x y with | some (.bl true) => (c ρ2).bind fun z ρ3 => opt (g y z) ρ3 | some (.bl false) => .ok (.bl false) ρ2 | _ => .bad) else .bad
theorem chain_imp {f g : D → D → Option D} {r r' : R2} {a b c : Rho → RX D} (hf : Does2 X cl f r) (hg : Does2 X cl g r') {σ : St} {H : Hp} {Q : VK} (q : tX X.K cl W (rD X.K cl) (eChain f g a b c) σ H Q) :
    tChain r r' (tX X.K cl W (rD X.K cl) a) (tX X.K cl W (rD X.K cl) b) (tX X.K cl W (rD X.K cl) c) σ H Q := by
  obtain ⟨G, F, ρ, A, R, st, en, p⟩ := q
  refine ⟨G, F, ρ, A, R, st, en, Pst.bind p fun x ρ1 v1 F1 H1 A1 B1 e1 o1 p1 => ?_⟩
  refine tX.run e1 (Pst.bindC p1 fun y ρ2 v2 F2 H2 A2 B2 e2 o2 p2 => ?_)
  by_cases hp : y.pure = true
  · rw [if_pos hp] at p2
    have o2' : Own X.K cl F2 H2 y v2 zf := o2.of_pure hp
    cases hd : f x y with
    | none => rw [hd] at p2; exact p2.elim
    | some d =>
      rw [hd] at p2
      cases d with
      | bl k =>
        refine hf x y _ hd G F2 H2 (fun z => A2 z + R z) B2 B1 v1 v2 _ (e2.st.less fun z => ?_) (e2.keep o1) o2 fun v F' H' B' le ag st' o => ?_
        · show B2 z + (B1 z + (A2 z + R z)) ≤ A2 z + (B2 z + (B1 z + R z)); omega
        · refine ⟨k, o, ?_⟩
          have e3 : Ev X.K cl G F2 H2 R F' H' σ ρ2 A2 B' := ⟨le, fun a ha => ag a (by show 0 < A2 a + R a; omega), st'.less fun z => by show A2 z + (B' z + R z) ≤ B' z + (A2 z + R z); omega,
            e2.en.mono le (fun a ha => ⟨ag a (by show 0 < A2 a + R a; omega), (st'.own a (by show 0 < B' a + (A2 a + R a); omega)).1⟩) fun _ => Nat.le_refl _⟩
          cases k with
          | true =>
            have p3 : Pst X.K cl W (rD X.K cl) G F2 H2 σ R ((c ρ2).bind fun z ρ3 => opt (g y z) ρ3) Q := p2
            refine tX.run0 e3 (Pst.bind (Pst.next p3 e3) fun z ρ3 v3 F3 H3 A3 B3 e4 o3 p4 => ?_)
            cases hd2 : g y z with
            | none => rw [hd2] at p4; exact p4.elim
            | some d =>
              rw [hd2] at p4
              refine hg y z d hd2 G F3 H3 (fun z => A3 z + R z) B3 zf v2 v3 Q (e4.st.less fun z => ?_) ((o2'.mono (e3.le.trans e4.le) (fun a ha => absurd ha (Nat.lt_irrefl _)) fun _ => Nat.le_refl _)) o3 (Pst.does p4 (e4.st.less fun z => ?_) e4.en)
              · show B3 z + (zf z + (A3 z + R z)) ≤ A3 z + (B3 z + R z); unfold zf; omega
              · show A3 z + R z ≤ A3 z + (B3 z + R z); omega
          | false => exact Pst.ok (K := X.K) (cl := cl) (W := W) (rep := rD X.K cl) (a := .bl false) (v := .bl false) (Q := Q) (Pst.next p2 e3) (e3.lessB (B' := zf) fun _ => Nat.zero_le _) rfl
      | _ => exact p2.elim
  · rw [if_neg hp] at p2; exact p2.elim

/-! ### statements -/
def sNx : Rho → RS := fun ρ => .nx ρ
def sSeq (a b : Rho → RS) : Rho → RS := fun ρ => (a ρ).seq b
def sIf (t : Rho → RX Bool) (a b : Rho → RS) : Rho → RS := fun ρ => (t ρ).stmt fun x ρ1 => if x then a ρ1 else b ρ1
def sRet (a : Rho → RX D) : Rho → RS := fun ρ => (a ρ).stmt fun d _ => .rt d
def sSet (i : Nat) (a : Rho → RX D) : Rho → RS := fun ρ => (a ρ).stmt fun d ρ1 => .nx (ρ1.set i (some d))
def sEx (a : Rho → RX D) : Rho → RS := fun ρ => (a ρ).stmt fun _ ρ1 => .nx ρ1
def sBk : Rho → RS := fun ρ => .bk ρ
def sCt : Rho → RS := fun ρ => .ct ρ
/-- the slots of l are forgotten -/
def fgt : List Nat → Rho → Rho
  | [], ρ => ρ
  | v :: vs, ρ => (fgt vs ρ).set v none
def RS.fgt (l : List Nat) (r : RS) : RS :=
  match r with
  | .nx ρ => .nx (FL.fgt l ρ)
  | .bk ρ => .bk (FL.fgt l ρ)
  | .ct ρ => .ct (FL.fgt l ρ)
  | r => r
def sFgt (l : List Nat) (a : Rho → RS) : Rho → RS := fun ρ => (a ρ).fgt l
theorem EnvR.fgt {K : PySem.W.Frag} {cl : Tb} {F H : Hp} {σ : St} {A : Fp} : ∀ (l : List Nat) {ρ : Rho}, EnvR K cl F H ρ σ A → EnvR K cl F H (FL.fgt l ρ) σ A
  | [], _, h => h
  | i :: l, _, h => (EnvR.fgt l h).drop i

theorem SPst.nx {E : Ends} (p : SPst K cl W G F' H' R (.nx ρ') E) (e : Ev K cl G F H R F' H' σ ρ' A' B) : E.nx σ H' :=
  p σ F' H' A' (Ev.self (e.st.less fun x => by show A' x + R x ≤ A' x + (B x + R x); omega) e.en)
theorem fss_nil : FSs X cl W [] sNx := PSs_imp pss_nil fun D σ H q => by
  obtain ⟨G, F, ρ, A, R, st, en, p⟩ := q
  exact p σ F H A (Ev.self st en)
theorem SPst.seq {r : RS} {k : Rho → RS} {E : Ends} {N : St → Hp → Prop} (h : SPst K cl W G F H R (r.seq k) E)
    (hk : ∀ ρ' σ F' H' A', Ev K cl G F H R F' H' σ ρ' A' zf → SPst K cl W G F' H' R (k ρ') E → N σ H') : SPst K cl W G F H R r { E with nx := N } := by
  cases r with
  | nx ρ => exact fun s F2 H2 A2 e2 => hk ρ s F2 H2 A2 e2 (SPst.next (r := k ρ) h e2)
  | bk ρ => exact h
  | ct ρ => exact h
  | rt d => exact h
  | ex c ds ρ => exact h
  | bad => exact h
theorem fss_cons {s : Stmt} {ss : List Stmt} {m n : Rho → RS} (h1 : FS X cl W s m) (h2 : FSs X cl W ss n) : FSs X cl W (s :: ss) (sSeq m n) := PSs_imp (pss_cons h1 h2) fun D σ H q => by
  obtain ⟨G, F, ρ, A, R, st, en, p⟩ := q
  exact ⟨G, F, ρ, A, R, st, en, SPst.seq p fun ρ' σ' F' H' A' e1 p1 => tS.run0 e1 p1⟩
theorem fss_one {s : Stmt} {m : Rho → RS} (h1 : FS X cl W s m) : FSs X cl W [s] m := pss_one h1
theorem fs_pass : FS X cl W (.Pass pos) sNx := PS_imp ps_pass fun D σ H q => by
  obtain ⟨G, F, ρ, A, R, st, en, p⟩ := q
  exact p σ F H A (Ev.self st en)
theorem fs_break : FS X cl W (.Break pos) sBk := PS_imp ps_break fun D σ H q => by
  obtain ⟨G, F, ρ, A, R, st, en, p⟩ := q
  exact p σ F H A (Ev.self st en)
theorem fs_continue : FS X cl W (.Continue pos) sCt := PS_imp ps_continue fun D σ H q => by
  obtain ⟨G, F, ρ, A, R, st, en, p⟩ := q
  exact p σ F H A (Ev.self st en)
theorem fs_if {c : Expr} {a b : List Stmt} {t : Rho → RX Bool} {m n : Rho → RS} (hc : FT X cl W c t) (ha : FSs X cl W a m) (hb : FSs X cl W b n) : FS X cl W (.If c a b pos) (sIf t m n) := PS_imp (ps_if hc ha hb) fun D σ H q => by
  obtain ⟨G, F, ρ, A, R, st, en, p⟩ := q
  refine ⟨G, F, ρ, A, R, st, en, Pst.stmt p fun x ρ1 v1 F1 H1 A1 B1 e1 o1 p1 => ?_⟩
  have o1' : x = v1 := o1
  subst o1'
  cases x with
  | true => exact tS.run0 e1 p1
  | false => exact tS.run0 e1 p1
theorem fs_ret {e : Expr} {m : Rho → RX D} (h : FE X cl W e m) : FS X cl W (.Return (some e) pos) (sRet m) := PS_imp (ps_ret h) fun D σ H q => by
  obtain ⟨G, F, ρ, A, R, st, en, p⟩ := q
  refine ⟨G, F, ρ, A, R, st, en, Pst.stmt p fun x ρ1 v1 F1 H1 A1 B1 e1 o1 p1 => ?_⟩
  exact p1 v1 F1 H1 B1 ⟨Le.refl, fun _ _ => rfl, e1.st.less fun z => by show zf z + (B1 z + R z) ≤ A1 z + (B1 z + R z); unfold zf; omega, rfl⟩ o1
theorem fs_retN : FS X cl W (.Return none pos) (sRet (eC .non)) := PS_imp ps_retN fun D σ H q => by
  obtain ⟨G, F, ρ, A, R, st, en, p⟩ := q
  exact p .non F H zf ⟨Le.refl, fun _ _ => rfl, st.less fun z => by show zf z + (zf z + R z) ≤ A z + R z; unfold zf; omega, rfl⟩ rfl
theorem fs_expr {e : Expr} {m : Rho → RX D} (h : FE X cl W e m) (hs : swapsWith e none pos.line X.env = pure false := by rfl) : FS X cl W (.Expr e pos) (sEx m) := PS_imp (ps_expr h hs) fun D σ H q => by
  obtain ⟨G, F, ρ, A, R, st, en, p⟩ := q
  exact ⟨G, F, ρ, A, R, st, en, Pst.stmt p fun x ρ1 v1 F1 H1 A1 B1 e1 o1 p1 => SPst.nx p1 e1⟩
theorem Ev.put {d : D} {v : V} (e : Ev K cl G F H R F' H' σ ρ A' B) (o : Own K cl F' H' d v B) (i : Nat) : Ev K cl G F H R F' H' (σ.set i (some v)) (ρ.set i (some d)) (fun x => B x + A' x) zf :=
  ⟨e.le, e.ag, e.st.less fun x => by show B x + A' x + (zf x + R x) ≤ A' x + (B x + R x); unfold zf; omega, e.en.put o⟩
theorem set_imp {te : TE} {m : Rho → RX D} {i : Nat} (ht : ∀ σ H Q, tX X.K cl W (rD X.K cl) m σ H Q → te σ H Q) (D : Ends) (σ : St) (H : Hp) (q : tS X.K cl W (sSet i m) D σ H) : tAsg te (gName i) D σ H := by
  obtain ⟨G, F, ρ, A, R, st, en, p⟩ := q
  refine ht _ _ _ ⟨G, F, ρ, A, R, st, en, Pst.stmt p fun x ρ1 v1 F1 H1 A1 B1 e1 o1 p1 => ?_⟩
  have e2 := e1.put o1 i
  exact p1 _ F1 H1 _ ⟨Le.refl, fun _ _ => rfl, e2.st, e2.en⟩
theorem fs_set {i : Nat} {x : Str} {e : Expr} {m : Rho → RX D} {pos' : Pos} (hN : X.N.Nodup) (hi : X.N[i]? = some x) (hx : Loc X.env.scope x) (he : FE X cl W e m) (hs : swapsWith e (some (.Name x pos')) pos.line X.env = pure false := by rfl)
    (hf : X.fn x = true ∨ X.env.scope.names.lookup x = some .local := by first | exact .inl rfl | exact .inr rfl | assumption) : FS X cl W (.Assign [.Name x pos'] e pos) (sSet i m) :=
  PS_imp (ps_set hN hi hx he hs hf) (set_imp fun _ _ _ q => q)
theorem fs_fgt {s : Stmt} {m : Rho → RS} (l : List Nat) (h : FS X cl W s m) : FS X cl W s (sFgt l m) := PS_imp h fun D σ H q => by
  obtain ⟨G, F, ρ, A, R, st, en, p⟩ := q
  refine ⟨G, F, ρ, A, R, st, en, ?_⟩
  unfold sFgt at p
  cases hm : m ρ with
  | nx ρ1 => rw [hm] at p; exact fun s F2 H2 A2 e2 => p s F2 H2 A2 ⟨e2.le, e2.ag, e2.st, e2.en.fgt l⟩
  | bk ρ1 => rw [hm] at p; exact fun s F2 H2 A2 e2 => p s F2 H2 A2 ⟨e2.le, e2.ag, e2.st, e2.en.fgt l⟩
  | ct ρ1 => rw [hm] at p; exact fun s F2 H2 A2 e2 => p s F2 H2 A2 ⟨e2.le, e2.ag, e2.st, e2.en.fgt l⟩
  | rt d => rw [hm] at p; exact p
  | ex c ds ρ1 => rw [hm] at p; exact p
  | bad => rw [hm] at p; exact p
theorem fss_fgt {s : List Stmt} {m : Rho → RS} (l : List Nat) (h : FSs X cl W s m) : FSs X cl W s (sFgt l m) := PSs_imp h fun D σ H q => by
  obtain ⟨G, F, ρ, A, R, st, en, p⟩ := q
  refine ⟨G, F, ρ, A, R, st, en, ?_⟩
  unfold sFgt at p
  cases hm : m ρ with
  | nx ρ1 => rw [hm] at p; exact fun s F2 H2 A2 e2 => p s F2 H2 A2 ⟨e2.le, e2.ag, e2.st, e2.en.fgt l⟩
  | bk ρ1 => rw [hm] at p; exact fun s F2 H2 A2 e2 => p s F2 H2 A2 ⟨e2.le, e2.ag, e2.st, e2.en.fgt l⟩
  | ct ρ1 => rw [hm] at p; exact fun s F2 H2 A2 e2 => p s F2 H2 A2 ⟨e2.le, e2.ag, e2.st, e2.en.fgt l⟩
  | rt d => rw [hm] at p; exact p
  | ex c ds ρ1 => rw [hm] at p; exact p
  | bad => rw [hm] at p; exact p
end
end FL

set_option Elab.async false
set_option linter.all false
set_option maxRecDepth 100000
namespace FL
open PySem L2

/-! ### loops -/
def loop (g : D → Rho → Option Rho) (b : Rho → RS) : List D → Rho → RS
  | [], ρ => .nx ρ
  | d :: ds, ρ =>
    match g d ρ with
    | none => .bad
    | some ρ1 =>
      match b ρ1 with
      | .nx ρ2 => loop g b ds ρ2
      | .ct ρ2 => loop g b ds ρ2
      | .bk ρ2 => .nx ρ2
      | .rt d => .rt d
      | .ex c xs ρ2 => .ex c xs ρ2
      | .bad => .bad
def sFor (it : Rho → RX (List D)) (g : D → Rho → Option Rho) (b : Rho → RS) : Rho → RS := fun ρ => (it ρ).stmt fun ds ρ1 => loop g b ds ρ1
def gN (i : Nat) : D → Rho → Option Rho := fun d ρ => some (ρ.set i (some d))

/-- the iterator J yields ds -/
def ItOk (K : PySem.W.Frag) (cl : Tb) (F : Hp) (J : It) (ds : List D) : Prop :=
  ∀ (G : Gh) (F1 H : Hp) (S : Fp), Le F F1 → Sta G F1 H S →
    (∀ (i : Nat) (d : D), ds[i]? = some d → J.go i H ∧ ∀ x H', J.yld i H x H' → ∃ F2, Le F1 F2 ∧ (∀ a, 0 < S a → H' a = H a) ∧ Sta G F2 H' S ∧ Own K cl F2 H' d x zf) ∧ J.stop ds.length H
def rIt (K : PySem.W.Frag) (cl : Tb) : Hp → Hp → List D → It → Fp → Prop := fun F _ ds J _ => ItOk K cl F J ds
abbrev FI (X : Cx) (cl : Tb) (W : WX') (tg e : Expr) (m : Rho → RX (List D)) : Prop := PI X tg e (tX X.K cl W (rIt X.K cl) m)
/-- a target: its slots are vs -/
def tG (K : PySem.W.Frag) (cl : Tb) (vs : List Nat) (m : D → Rho → Option Rho) : TG := fun v σ H Q =>
  ∃ G F ρ A B R d, Sta G F H (fun x => A x + (B x + R x)) ∧ EnvR K cl F H ρ σ A ∧ Own K cl F H d v B ∧
    match m d ρ with
    | some ρ1 => ∀ σ' F' H' A', wipe σ' vs = wipe σ vs → Ev K cl G F H R F' H' σ' ρ1 A' zf → Q σ' H'
    | none => False
abbrev FG (X : Cx) (cl : Tb) (tg : Expr) (vs : List Nat) (m : D → Rho → Option Rho) : Prop := PG X tg (tG X.K cl vs m)

section
variable {X : Cx} {cl : Tb} {W : WX'} {K : PySem.W.Frag}
variable {G : Gh} {F H F' H' : Hp} {R B A A' : Fp} {σ : St} {ρ ρ' : Rho} {pos : Pos}

theorem PG_imp {X : Cx} {e : Expr} {t t' : TG} (h : PG X e t) (i : ∀ v σ H Q, t' v σ H Q → t v σ H Q) : PG X e t' := ⟨fun pins s σ H v u Q I r q => h.run pins s σ H v u Q I r (i v σ H Q q)⟩
theorem wipe_set1 (σ : St) (i : Nat) (o : Option V) : wipe (σ.set i o) [i] = wipe σ [i] := by
  show (σ.set i o).set i none = σ.set i none
  rw [List.set_set]
theorem fg_name {i : Nat} {x : Str} (hN : X.N.Nodup) (hi : X.N[i]? = some x) (hx : Loc X.env.scope x) (hf : X.fn x = true ∨ X.env.scope.names.lookup x = some .local := by first | exact .inl rfl | exact .inr rfl | assumption) : FG X cl (.Name x pos) [i] (gN i) :=
  PG_imp (pg_name hN hi hx hf) fun v σ H Q q => by
    obtain ⟨G, F, ρ, A, B, R, d, st, en, o, q⟩ := q
    exact q (σ.set i (some v)) F H (fun x => B x + A x) (wipe_set1 σ i _) ⟨Le.refl, fun _ _ => rfl, st.less fun x => by show B x + A x + (zf x + R x) ≤ A x + (B x + R x); unfold zf; omega, en.put o⟩

theorem for_imp {it : Rho → RX (List D)} {g : D → Rho → Option Rho} {b : Rho → RS} {vs : List Nat} (E : Ends) (σ : St) (H : Hp) (q : tS X.K cl W (sFor it g b) E σ H) : tFor (tX X.K cl W (rIt X.K cl) it) (tG X.K cl vs g) (tS X.K cl W b) E σ H := by
  obtain ⟨G, F, ρ, A, R, st, en, p⟩ := q
  refine ⟨G, F, ρ, A, R, st, en, Pst.stmt p fun ds ρ1 J F1 H1 A1 B1 e1 o1 p1 => ?_⟩
  refine ⟨fun i m σ H => m = ds.length - i ∧ i ≤ ds.length ∧ ∃ F ρ A, Le F1 F ∧ Sta G F H (fun x => A x + R x) ∧ EnvR X.K cl F H ρ σ A ∧ SPst X.K cl W G F H R (loop g b (ds.drop i) ρ) E, ⟨ds.length, rfl, Nat.zero_le _, F1, ρ1, A1, Le.refl, e1.st.less fun x => by show A1 x + R x ≤ A1 x + (B1 x + R x); omega, e1.en, p1⟩, ?_⟩
  rintro i m σ2 H2 ⟨rfl, hi2, F2, ρ2, A2, le2, st2, en2, p2⟩
  obtain ⟨go, stop⟩ := o1 G F2 H2 _ le2 st2
  by_cases hlt : i < ds.length
  · refine .inr ?_
    have hd : ds[i]? = some ds[i] := List.getElem?_eq_getElem hlt
    obtain ⟨g1, g2⟩ := go i _ hd
    refine ⟨g1, fun σ' H' => ∃ F ρ A, Le F1 F ∧ Sta G F H' (fun x => A x + R x) ∧ EnvR X.K cl F H' ρ σ' A ∧ SPst X.K cl W G F H' R (loop g b (ds.drop (i + 1)) ρ) E, fun σ' H' n => ⟨ds.length - (i + 1), by omega, rfl, hlt, n⟩, fun x H' y => ?_⟩
    obtain ⟨F3, le3, ag3, st3, o3⟩ := g2 x H' y
    have en3 : EnvR X.K cl F3 H' ρ2 σ2 A2 := en2.mono le3 (fun a ha => ⟨ag3 a (by show 0 < A2 a + R a; omega), (st3.own a (by show 0 < A2 a + R a; omega)).1⟩) fun _ => Nat.le_refl _
    have e3 : Ev X.K cl G F2 H2 R F3 H' σ2 ρ2 A2 zf := ⟨le3, fun a ha => ag3 a (by show 0 < A2 a + R a; omega), st3.less fun x => by show A2 x + (zf x + R x) ≤ A2 x + R x; unfold zf; omega, en3⟩
    have hdrop : ds.drop i = ds[i] :: ds.drop (i + 1) := List.drop_eq_getElem_cons hlt
    rw [hdrop] at p2
    have p3 := SPst.next p2 e3
    refine ⟨G, F3, ρ2, A2, zf, R, ds[i], e3.st, en3, o3, ?_⟩
    unfold loop at p3
    cases hgd : g ds[i] ρ2 with
    | none => rw [hgd] at p3; exact p3.elim
    | some ρ3 =>
      rw [hgd] at p3
      refine fun σ4 F4 H4 A4 hw e4 => tS.run0 e4 ?_
      have p4 := SPst.next p3 e4
      cases hbr : b ρ3 with
      | nx ρ5 =>
        simp only [hbr] at p4
        exact fun σ5 F5 H5 A5 e5 => ⟨F5, ρ5, A5, le2.trans (le3.trans (e4.le.trans e5.le)), e5.st.less fun x => by show A5 x + R x ≤ A5 x + (zf x + R x); omega, e5.en, SPst.next p4 e5⟩
      | ct ρ5 =>
        simp only [hbr] at p4
        exact fun σ5 F5 H5 A5 e5 => ⟨F5, ρ5, A5, le2.trans (le3.trans (e4.le.trans e5.le)), e5.st.less fun x => by show A5 x + R x ≤ A5 x + (zf x + R x); omega, e5.en, SPst.next p4 e5⟩
      | bk ρ5 => simp only [hbr] at p4; exact p4
      | rt d => simp only [hbr] at p4; exact p4
      | ex c xs ρ5 => simp only [hbr] at p4; exact p4
      | bad => simp only [hbr] at p4; exact p4.elim
  · have e : i = ds.length := by omega
    subst e
    refine .inl ⟨stop, ?_⟩
    rw [List.drop_length] at p2
    exact p2 σ2 F2 H2 A2 (Ev.self st2 en2)

theorem fs_for {tg iter : Expr} {body : List Stmt} {it : Rho → RX (List D)} {g : D → Rho → Option Rho} {b : Rho → RS} {vs : List Nat} (hp : PassesOwn (model X.prog X.w) X.A X.env X.xe) (hc : X.calm = true) (hi : FI X cl W tg iter it) (hg : FG X cl tg vs g) (hb : FSs X cl W body b)
    (hs : ∀ x, foldedSetIterable iter X.env x = pure x := by intro _; rfl) : FS X cl W (.For tg iter body [] pos) (sFor it g b) := PS_imp (ps_for hp hc hi hg hb hs) fun E σ H q => for_imp E σ H q
/-! ### freezing -/
/-- the frozen part, with B's objects -/
def fz (F H : Hp) (B : Fp) : Hp := fun a => if 0 < B a then H a else F a
theorem fz_st {C : Fp} (st : Sta G F H (fun x => C x + (B x + R x))) : Le F (fz F H B) ∧ Sta G (fz F H B) H (fun x => C x + R x) := by
  have hown : ∀ a, 0 < B a → F a = none ∧ G.E a = none ∧ ∃ o, H a = some o := fun a ha => st.own a (by show 0 < C a + (B a + R a); omega)
  have hnd : ∀ a, C a + (B a + R a) ≤ 1 := st.nd
  refine ⟨fun a o e => ?_, ⟨fun a o e => ?_, st.ent, fun a o e => ?_, fun a o e => ?_, fun a ha => ?_, fun a => by have := hnd a; show C a + R a ≤ 1; omega, fun a xs ha => st.nt a xs (by have ha' : 0 < C a + R a := ha; show 0 < C a + (B a + R a); omega)⟩⟩
  · show (if 0 < B a then H a else F a) = some o
    split
    · rename_i hb; rw [(hown a hb).1] at e; cases e
    · exact e
  · have e' : (if 0 < B a then H a else F a) = some o := e
    split at e'
    · exact e'
    · exact st.sub a o e'
  · show (if 0 < B a then H a else F a) = some o
    split
    · rename_i hb
      have := st.low a o e
      rw [(hown a hb).1] at this; cases this
    · exact st.low a o e
  · have e' : (if 0 < B a then H a else F a) = some o := e
    split at e'
    · rename_i hb; exact .inr (.inl (hown a hb).2.1)
    · exact st.fr a o e'
  · have ha' : 0 < C a + R a := ha
    have h1 := st.own a (by show 0 < C a + (B a + R a); omega)
    refine ⟨?_, h1.2⟩
    show (if 0 < B a then H a else F a) = none
    rw [if_neg (by have := hnd a; omega)]
    exact h1.1
theorem fz_at {a : Addr} (h : 0 < B a) : fz F H B a = H a := if_pos h

/-- what lies by hand is frozen -/
theorem Ev.fz (e : Ev K cl G F H R F' H' σ ρ' A' B) : Ev K cl G F H R (FL.fz F' H' B) H' σ ρ' A' zf ∧ Le F' (FL.fz F' H' B) := by
  obtain ⟨le, st⟩ := fz_st e.st
  refine ⟨⟨e.le.trans le, e.ag, st.less fun x => by show A' x + (zf x + R x) ≤ A' x + R x; unfold zf; omega, e.en.mono le (fun a ha => ⟨rfl, (st.own a (by show 0 < A' a + R a; omega)).1⟩) fun _ => Nat.le_refl _⟩, le⟩

/-! ### what is walked -/
def iSeq (K : PySem.W.Frag) (tl : TE) : TI := fun σ H R => tl σ H fun x H1 => ∃ a, x = .ref a ∧ (((∃ xs, SqL K H1 a xs) ∧ R (Itl K a) H1) ∨ ((∃ xs, SqT K H1 a xs) ∧ R (Itt K a) H1))
theorem pi_seq {tg l : Expr} {tl : TE} (hl : PE X l tl) : PI X tg l (iSeq X.K tl) := by
  refine ⟨fun pins s σ H R I h => ?_⟩
  refine thn (hl.run pins s σ H _ I h) fun v s1 ⟨x, H1, I1, r1, q1⟩ => ?_
  obtain ⟨a, e, q⟩ := q1
  subst e
  cases r1
  rcases q with ⟨⟨xs, hq⟩, q⟩ | ⟨⟨xs, hq⟩, q⟩
  · obtain ⟨its, rv, p, hz⟩ := I1.list hq
    refine wpAny_pyIter_list p.isList ?_
    refine ⟨s1.heap.objs.size, [s1.heap.objs.size], _, _, H1, rfl, I1.kept (t' := s1.toks) fun b o e => Heap.get?_push_of_some _ e, turn_list a _, ⟨_, Heap.get?_push_size _ rfl, rfl, rfl⟩, fun b hb => ?_, q⟩
    have e : b = s1.heap.objs.size := by simpa using hb
    subst e
    exact I1.fpOk (Nat.le_refl _) (I1.hok.fresh (Nat.le_refl _))
  · obtain ⟨its, rv, p, hz⟩ := I1.tuple hq
    refine wpAny_pyIter_tuple (show s1.heap.IsTuple a its.toArray from p) ?_
    refine ⟨s1.heap.objs.size, [s1.heap.objs.size], _, _, H1, rfl, I1.kept (t' := s1.toks) fun b o e => Heap.get?_push_of_some _ e, turn_tuple a _, ⟨_, Heap.get?_push_size _ rfl, rfl, rfl⟩, fun b hb => ?_, q⟩
    have e : b = s1.heap.objs.size := by simpa using hb
    subst e
    exact I1.fpOk (Nat.le_refl _) (I1.hok.fresh (Nat.le_refl _))
/-- the items of a list or tuple, all frozen -/
def itms : D → Option (List D)
  | .lst ds => some ds
  | .tup ds => some ds
  | _ => none
def optL (o : Option (List D)) (ρ : Rho) : RX (List D) := match o with | some d => .ok d ρ | none => .bad
def iSq (a : Rho → RX D) : Rho → RX (List D) := fun ρ => (a ρ).bind fun d ρ1 => optL (itms d.frz) ρ1
theorem Owns.get {K : PySem.W.Frag} {cl : Tb} {F H : Hp} : ∀ {ds : List D} {vs : List V} {A : Fp} {i : Nat} {d : D}, Owns K cl F H ds vs A → ds[i]? = some d → ∃ v, vs[i]? = some v ∧ Own K cl F H d v A
  | [], _, _, _, _, _, e => by simp at e
  | d' :: ds, vs, A, 0, d, h, e => by
    obtain ⟨v, r, B, C, es, p, q, s⟩ := h
    have e' : d' = d := by simpa using e
    subst e' es
    exact ⟨v, rfl, p.up fun x => by have := s x; omega⟩
  | d' :: ds, vs, A, i + 1, d, h, e => by
    obtain ⟨v, r, B, C, es, p, q, s⟩ := h
    subst es
    obtain ⟨v', h1, h2⟩ := Owns.get (i := i) q (by simpa using e)
    exact ⟨v', by simpa using h1, h2.up fun x => by have := s x; omega⟩
theorem Owns.snoc {K : PySem.W.Frag} {cl : Tb} {F H : Hp} : ∀ {ds : List D} {vs : List V} {A B : Fp} {d : D} {v : V}, Owns K cl F H ds vs A → Own K cl F H d v B → Owns K cl F H (ds ++ [d]) (vs ++ [v]) (fun x => A x + B x)
  | [], vs, A, B, d, v, h, o => by
    have e : vs = [] := h
    subst e
    exact ⟨v, [], B, A, rfl, o, rfl, fun x => by show B x + A x ≤ A x + B x; omega⟩
  | d' :: ds, vs, A, B, d, v, h, o => by
    obtain ⟨v', r, B', C', es, p, q, s⟩ := h
    subst es
    exact ⟨v', _, B', fun x => C' x + B x, rfl, p, Owns.snoc q o, fun x => by have := s x; show B' x + (C' x + B x) ≤ A x + B x; omega⟩
theorem sub_sqL {K : PySem.W.Frag} {a : Addr} {xs ys : List V} (le : Le F H) (h : SqL K F a xs) (h' : SqL K H a ys) (inj : SqL K H a xs → SqL K H a ys → xs = ys) : xs = ys := inj (le.sqL h) h'
/-- what stands at an address, as a list, in the abstract heap: one answer (H holds it at most once; what stands in K is not tracked) -/
theorem zero_own {d : D} {v : V} (o : Own K cl F H d v zf) (le : Le F F') : Own K cl F' H' d v zf := o.mono le (fun a ha => absurd ha (Nat.lt_irrefl _)) fun _ => Nat.le_refl _
theorem zero_owns {d : List D} {v : List V} (o : Owns K cl F H d v zf) (le : Le F F') : Owns K cl F' H' d v zf := o.mono le (fun a ha => absurd ha (Nat.lt_irrefl _)) fun _ => Nat.le_refl _
end
end FL

set_option Elab.async false
set_option linter.all false
set_option maxRecDepth 100000
namespace FL
open PySem L2
section
variable {X : Cx} {cl : Tb} {W : WX'} {K : PySem.W.Frag}
variable {G : Gh} {F H F' H' : Hp} {R B A A' : Fp} {σ : St} {ρ ρ' : Rho} {pos : Pos}

theorem fi_seq {tg l : Expr} {m : Rho → RX D} (h : FE X cl W l m) : FI X cl W tg l (iSq m) := ⟨fun pins s σ H R' I q => (pi_seq (tg := tg) h).run pins s σ H R' I (by
  obtain ⟨G, F, ρ, A, R, st, en, p⟩ := q
  refine ⟨G, F, ρ, A, R, st, en, Pst.bind p fun x ρ1 v1 F1 H1 A1 B1 e1 o1 p1 => ?_⟩
  obtain ⟨e2, le2⟩ := e1.fz
  have o2 : Own X.K cl (fz F1 H1 B1) H1 x.frz v1 zf := o1.freeze le2 fun a ha => fz_at ha
  have e3 : Ev X.K cl G F1 H1 R (fz F1 H1 B1) H1 σ ρ1 A1 zf := ⟨le2, fun _ _ => rfl, e2.st, e2.en⟩
  cases hx : x.frz with
  | lst ds =>
    rw [hx] at o2 p1
    obtain ⟨a, xs, ev, q, os⟩ := o2
    subst ev
    have q1 : SqL X.K H1 a xs := (show Le _ H1 from e2.st.sub).sqL q
    refine ⟨a, rfl, .inl ⟨⟨xs, q1⟩, p1 _ _ _ _ _ e3 fun G' F3 H3 S le3 st3 => ⟨fun i d hd => ?_, ⟨xs, (le3.trans st3.sub).sqL q, by rw [Owns.length os]; exact Nat.le_refl _⟩⟩⟩⟩
    obtain ⟨v, hv, ov⟩ := os.get hd
    refine ⟨⟨xs, v, (le3.trans st3.sub).sqL q, hv⟩, fun y H' hy => ?_⟩
    obtain ⟨rfl, hy⟩ := hy
    have := hy xs ((le3.trans st3.sub).sqL q)
    rw [hv] at this
    cases this
    exact ⟨F3, Le.refl, fun _ _ => rfl, st3, zero_own ov le3⟩
  | tup ds =>
    rw [hx] at o2 p1
    obtain ⟨a, xs, ev, q, os⟩ := o2
    subst ev
    have q1 : SqT X.K H1 a xs := (show Le _ H1 from e2.st.sub).sqT q.1
    refine ⟨a, rfl, .inr ⟨⟨xs, q1⟩, p1 _ _ _ _ _ e3 fun G' F3 H3 S le3 st3 => ⟨fun i d hd => ?_, ⟨xs, (le3.trans st3.sub).sqT q.1, by rw [Owns.length os]; exact Nat.le_refl _⟩⟩⟩⟩
    obtain ⟨v, hv, ov⟩ := os.get hd
    refine ⟨⟨xs, v, (le3.trans st3.sub).sqT q.1, hv⟩, fun y H' hy => ?_⟩
    obtain ⟨rfl, hy⟩ := hy
    have := hy xs ((le3.trans st3.sub).sqT q.1)
    rw [hv] at this
    cases this
    exact ⟨F3, Le.refl, fun _ _ => rfl, st3, zero_own ov le3⟩
  | _ => rw [hx] at p1; exact p1.elim)⟩

/-- lo, lo + 1, .. -/
def rng (lo : Int) (n : Nat) : List D := (List.range n).map fun (k : Nat) => D.int (lo + k)
noncomputable def bnd (i : Int) : Bool := yes (-(2 ^ 62) ≤ i ∧ i < 2 ^ 62)
noncomputable def iRg1 (a : Rho → RX (List D)) : Rho → RX (List D) := fun ρ => (a ρ).bind fun ds ρ1 => match ds with | [.int j] => if bnd j then .ok (rng 0 j.toNat) ρ1 else .bad | _ => .bad
noncomputable def iRg2 (a : Rho → RX (List D)) : Rho → RX (List D) := fun ρ => (a ρ).bind fun ds ρ1 => match ds with | [.int i, .int j] => if bnd i && bnd j then .ok (rng i (j - i).toNat) ρ1 else .bad | _ => .bad
theorem itOk_rng {F : Hp} {lo : Int} {n : Nat} : ItOk K cl F (Itr lo n) (rng lo n) := fun G F1 H S le st => by
  have hl : (rng lo n).length = n := by unfold rng; rw [List.length_map, List.length_range]
  refine ⟨fun i d hd => ?_, by rw [hl]; exact Nat.le_refl _⟩
  have hi : i < n := by have := (List.getElem?_eq_some_iff.mp hd).1; omega
  refine ⟨hi, fun x H' y => ?_⟩
  obtain ⟨rfl, rfl⟩ := y
  have e : d = .int (lo + i) := by
    unfold rng at hd
    rw [List.getElem?_map, List.getElem?_range hi] at hd
    exact (Option.some.inj hd).symm
  subst e
  exact ⟨F1, Le.refl, fun _ _ => rfl, st, rfl⟩
theorem rg1_imp {m : Rho → RX (List D)} {σ : St} {H : Hp} {R' : It → Hp → Prop} (q : tX X.K cl W (rIt X.K cl) (iRg1 m) σ H R') : iRng1 (tX X.K cl W (rL X.K cl) m) σ H R' := by
  obtain ⟨G, F, ρ, A, R, st, en, p⟩ := q
  refine ⟨G, F, ρ, A, R, st, en, Pst.bind p fun x ρ1 v1 F1 H1 A1 B1 e1 o1 p1 => ?_⟩
  have hx : ∃ j, x = [.int j] ∧ bnd j = true := by
    split at p1
    · rename_i j
      refine ⟨j, rfl, ?_⟩
      by_cases hb : bnd j = true
      · exact hb
      · rw [if_neg hb] at p1; exact p1.elim
    · exact p1.elim
  obtain ⟨j, rfl, hb⟩ := hx
  obtain ⟨v, r, B, C, rfl, ov, os, _⟩ := o1
  have e1' : v = .int j := ov
  have e2' : r = [] := os
  subst e1' e2'
  simp only [hb, if_true] at p1
  obtain ⟨h1, h2⟩ := of_yes hb
  exact ⟨j, rfl, h1, h2, p1 _ F1 H1 A1 zf (Ev.self (e1.st.less fun x => by show A1 x + R x ≤ A1 x + (B1 x + R x); omega) e1.en) itOk_rng⟩
theorem fi_range1 {tg a : Expr} {p : Pos} {m : Rho → RX (List D)} (hg : Gl X "range") (hm : X.mg "range" = none) (ha : FA X cl W [a] m) (hs : starEach [a] X.env = [(false, eval a X.env)] := by rfl) : FI X cl W tg (.Call (.Name "range" p) [a] [] pos) (iRg1 m) :=
  ⟨fun pins s σ H R' I q => (pi_range1 (tg := tg) hg hm ha hs).run pins s σ H R' I (rg1_imp q)⟩
theorem fi_range2 {tg a b : Expr} {p : Pos} {m : Rho → RX (List D)} (hg : Gl X "range") (hm : X.mg "range" = none) (ha : FA X cl W [a, b] m) (hs : starEach [a, b] X.env = [(false, eval a X.env), (false, eval b X.env)] := by rfl) (hs2 : starEach [b] X.env = [(false, eval b X.env)] := by rfl) : FI X cl W tg (.Call (.Name "range" p) [a, b] [] pos) (iRg2 m) :=
  ⟨fun pins s σ H R' I q => (pi_range2 (tg := tg) hg hm ha hs hs2).run pins s σ H R' I (by
  obtain ⟨G, F, ρ, A, R, st, en, p⟩ := q
  refine ⟨G, F, ρ, A, R, st, en, Pst.bind p fun x ρ1 v1 F1 H1 A1 B1 e1 o1 p1 => ?_⟩
  have hx : ∃ i j, x = [.int i, .int j] ∧ bnd i = true ∧ bnd j = true := by
    split at p1
    · rename_i i j
      refine ⟨i, j, rfl, ?_⟩
      by_cases hb : (bnd i && bnd j) = true
      · simpa using hb
      · rw [if_neg hb] at p1; exact p1.elim
    · exact p1.elim
  obtain ⟨i, j, rfl, hbi, hbj⟩ := hx
  simp only [hbi, hbj, Bool.and_self, if_true] at p1
  obtain ⟨v, r, B, C, rfl, ov, os, _⟩ := o1
  obtain ⟨v', r', B', C', rfl, ov', os', _⟩ := os
  have e1' : v = .int i := ov
  have e2' : v' = .int j := ov'
  have e3' : r' = [] := os'
  subst e1' e2' e3'
  obtain ⟨h1, h2⟩ := of_yes hbi
  obtain ⟨h3, h4⟩ := of_yes hbj
  exact ⟨i, j, rfl, ⟨h1, h2, h3, h4⟩, p1 _ F1 H1 A1 zf (Ev.self (e1.st.less fun x => by show A1 x + R x ≤ A1 x + (B1 x + R x); omega) e1.en) itOk_rng⟩)⟩

/-! ### comprehensions -/
def RX.noex {α : Type} (r : RX α) : RX α := match r with | .ok a ρ => .ok a ρ | _ => .bad
noncomputable def lcl (vs : List Nat) (g : D → Rho → Option Rho) (t : Rho → RX Bool) (e : Rho → RX D) : List D → List D → Rho → RX (List D)
  | [], acc, ρ => .ok acc ρ
  | d :: ds, acc, ρ =>
    match g d ρ with
    | none => .bad
    | some ρ1 =>
      match t ρ1 with
      | .ok true ρ2 =>
        match e ρ2 with
        | .ok y ρ3 => if cap acc.length then lcl vs g t e ds (acc ++ [y]) (fgt vs ρ3) else .bad
        | _ => .bad
      | .ok false ρ2 => lcl vs g t e ds acc (fgt vs ρ2)
      | _ => .bad
def rst (ρ1 : Rho) : List Nat → Rho → Rho
  | [], ρ2 => ρ2
  | i :: vs, ρ2 => match ρ1[i]? with | some (some d) => if d.pure then (rst ρ1 vs ρ2).set i (some d) else rst ρ1 vs ρ2 | _ => rst ρ1 vs ρ2
noncomputable def eLc (vs : List Nat) (it : Rho → RX (List D)) (g : D → Rho → Option Rho) (t : Rho → RX Bool) (e : Rho → RX D) : Rho → RX D := fun ρ =>
  (it ρ).bind fun ds ρ1 => (lcl vs g t e ds [] (fgt vs ρ1)).bind fun acc ρ2 => .ok (.vec acc) (rst ρ1 vs ρ2)
def tT : Rho → RX Bool := fun ρ => .ok true ρ

theorem EnvR.set2 : ∀ {ρ : Rho} {σ : St} {A : Fp} (i : Nat), EnvR K cl F H ρ σ A → EnvR K cl F H (ρ.set i none) (σ.set i none) A
  | [], σ, _, i, h => by
    have e : σ = [] := h
    subst e; exact rfl
  | none :: ρ, σ, A, 0, h => by
    obtain ⟨s, r, e, h⟩ := h
    subst e; exact ⟨none, r, rfl, h⟩
  | none :: ρ, σ, A, i + 1, h => by
    obtain ⟨s, r, e, h⟩ := h
    subst e; exact ⟨s, _, rfl, EnvR.set2 i h⟩
  | some d :: ρ, σ, A, 0, h => by
    obtain ⟨v, r, B, C, e, p, q, s⟩ := h
    subst e; exact ⟨none, r, rfl, q.up fun x => by have := s x; omega⟩
  | some d :: ρ, σ, A, i + 1, h => by
    obtain ⟨v, r, B, C, e, p, q, s⟩ := h
    subst e; exact ⟨v, _, B, C, rfl, p, EnvR.set2 i q, s⟩
theorem EnvR.wipe : ∀ (vs : List Nat) {ρ : Rho} {σ : St} {A : Fp}, EnvR K cl F H ρ σ A → EnvR K cl F H (FL.fgt vs ρ) (L2.wipe σ vs) A
  | [], _, _, _, h => h
  | v :: vs, _, _, _, h => (EnvR.wipe vs h).set2 v
theorem EnvR.other : ∀ {ρ : Rho} {σ σ' : St} {A : Fp}, EnvR K cl F H ρ σ A → σ'.length = σ.length → (∀ (i : Nat) v, σ[i]? = some (some v) → σ'[i]? = some (some v)) → EnvR K cl F H ρ σ' A
  | [], σ, σ', _, h, l, _ => by
    have e : σ = [] := h
    subst e
    exact List.length_eq_zero_iff.mp l
  | none :: ρ, σ, σ', A, h, l, w => by
    obtain ⟨s, r, e, h⟩ := h
    subst e
    cases σ' with
    | nil => simp at l
    | cons s' r' => exact ⟨s', r', rfl, EnvR.other h (by simpa using l) fun i v q => by simpa using w (i + 1) v (by simpa using q)⟩
  | some d :: ρ, σ, σ', A, h, l, w => by
    obtain ⟨v, r, B, C, e, p, q, s⟩ := h
    subst e
    cases σ' with
    | nil => simp at l
    | cons s' r' =>
      have e' : s' = some v := by simpa using w 0 v (by simp)
      subst e'
      exact ⟨v, r', B, C, rfl, p, EnvR.other q (by simpa using l) fun i v q => by simpa using w (i + 1) v (by simpa using q), s⟩
theorem EnvR.unwipe {vs : List Nat} (h : EnvR K cl F H ρ (L2.wipe σ vs) A) : EnvR K cl F H ρ σ A := h.other (wipe_length σ vs).symm fun i v q => (wipe_some q).1
theorem wipe_setv (v : Nat) : ∀ (vs : List Nat) (σ : St) (o : Option V), (L2.wipe (σ.set v o) vs).set v none = (L2.wipe σ vs).set v none
  | [], σ, o => by show (σ.set v o).set v none = σ.set v none; rw [List.set_set]
  | u :: vs, σ, o => by
    show ((L2.wipe (σ.set v o) vs).set u none).set v none = ((L2.wipe σ vs).set u none).set v none
    by_cases h : u = v
    · subst h; rw [List.set_set, List.set_set, wipe_setv u vs]
    · rw [List.set_comm _ _ h, wipe_setv v vs, List.set_comm _ _ (Ne.symm h)]
theorem wipe_idem : ∀ (vs : List Nat) (σ : St), L2.wipe (L2.wipe σ vs) vs = L2.wipe σ vs
  | [], σ => rfl
  | v :: vs, σ => by
    show (L2.wipe ((L2.wipe σ vs).set v none) vs).set v none = (L2.wipe σ vs).set v none
    rw [wipe_setv, wipe_idem]
/-- the old values of the block's names, where they are pure -/
theorem EnvR.rst {ρ1 : Rho} {A1 : Fp} {F1 H1 : Hp} (e1 : EnvR K cl F1 H1 ρ1 σ A1) (le : Le F1 F) : ∀ (vs : List Nat) {ρ2 : Rho} {A : Fp}, EnvR K cl F H ρ2 σ A → EnvR K cl F H (FL.rst ρ1 vs ρ2) σ A
  | [], _, _, h => h
  | i :: vs, ρ2, A, h => by
    have ih := EnvR.rst e1 le vs h
    unfold FL.rst
    split
    · rename_i d hd
      split
      · rename_i hp
        obtain ⟨v, B, C, hv, o, _, _⟩ := e1.get hd
        have o' : Own K cl F H d v zf := (o.of_pure (H' := H) hp).mono le (fun a ha => absurd ha (Nat.lt_irrefl _)) fun _ => Nat.le_refl _
        have := ih.put (i := i) o'
        have hσ : σ.set i (some v) = σ := by
          obtain ⟨hl, hg⟩ := List.getElem?_eq_some_iff.mp hv
          rw [← hg]
          exact List.set_getElem_self hl
        rw [hσ] at this
        exact this.up fun x => by show zf x + A x ≤ A x; unfold zf; omega
      · exact ih
    · exact ih

/-- an owned object is rewritten -/
theorem upd_own {p : Addr} {o : HO} {S : Fp} (st : Sta G F H S) (hp : 0 < S p) (ho : ∀ xs, o ≠ .tup xs := by intro _ h; cases h) : Sta G F (upd H p o) S := by
  obtain ⟨h1, h2, u, h3⟩ := st.own p hp
  refine ⟨fun a w e => ?_, fun a w e => ?_, st.low, st.fr, fun a ha => ?_, st.nd, fun a xs ha => ?_⟩
  · rw [upd_ne (ne_of_none e h1)]; exact st.sub a w e
  · rw [upd_ne (ne_of_none e h2)]; exact st.ent a w e
  · obtain ⟨g1, g2, w, g3⟩ := st.own a ha
    refine ⟨g1, g2, ?_⟩
    by_cases h : a = p
    · subst h; exact ⟨o, upd_same⟩
    · exact ⟨w, by rw [upd_ne h]; exact g3⟩
  · by_cases h : a = p
    · subst h; rw [upd_same]; intro e; exact ho xs (Option.some.inj e)
    · rw [upd_ne h]; exact st.nt a xs ha

theorem lc_imp {wi : TI} {g : TG} {tt : TT} {te : TE} {it : Rho → RX (List D)} {gm : D → Rho → Option Rho} {t : Rho → RX Bool} {m : Rho → RX D} {vs : List Nat}
    (hwi : ∀ σ H Q, tX X.K cl W (rIt X.K cl) it σ H Q → wi σ H Q) (hg : ∀ v σ H Q, tG X.K cl vs gm v σ H Q → g v σ H Q)
    (ht : ∀ σ H Q, tX X.K cl (fun _ _ _ _ => False) rB t σ H Q → tt σ H Q) (he : ∀ σ H Q, tX X.K cl (fun _ _ _ _ => False) (rD X.K cl) m σ H Q → te σ H Q)
    (σ : St) (H : Hp) (Q : VK) (q : tX X.K cl W (rD X.K cl) (eLc vs it gm t m) σ H Q) : tLc wi g tt te vs σ H Q := by
  obtain ⟨G, F, ρ, A, R, st, en, p⟩ := q
  refine hwi _ _ _ ⟨G, F, ρ, A, R, st, en, Pst.bind p fun ds ρ1 J F1 H1 A1 B1 e1 o1 p1 => ?_⟩
  intro Dd nD
  -- the turn's word
  let Wd : Nat → Hp → Prop := fun i H => ∃ F ρ2 A C acc accV, Le F1 F ∧ F Dd = none ∧ H Dd = some (.lst accV) ∧ Sta G F H (fun x => A x + (one Dd x + (C x + R x))) ∧ (∀ a, 0 < R a → H a = H1 a) ∧ EnvR X.K cl F H ρ2 (wipe σ vs) A ∧ Owns X.K cl F H acc accV C ∧
    Pst X.K cl W (rD X.K cl) G F1 H1 σ R ((lcl vs gm t m (ds.drop i) acc ρ2).bind fun acc ρ2 => .ok (.vec acc) (rst ρ1 vs ρ2)) Q
  have st1 : Sta G F1 H1 (fun x => A1 x + R x) := e1.st.less fun x => by show A1 x + R x ≤ A1 x + (B1 x + R x); omega
  obtain ⟨fD, sD, stD⟩ := lay_owned (o := .lst []) st1 nD
  have start : Wd 0 (upd H1 Dd (.lst [])) := by
    refine ⟨F1, fgt vs ρ1, A1, zf, [], [], Le.refl, fD, upd_same, stD.less fun x => ?_, fun a ha => ?_, ?_, rfl, p1⟩
    · show A1 x + (one Dd x + (zf x + R x)) ≤ one Dd x + (A1 x + R x); unfold zf; omega
    · have hne : a ≠ Dd := fun e => by subst e; have : A1 a + R a = 0 := sD; omega
      exact upd_ne hne
    · refine (EnvR.wipe vs e1.en).mono Le.refl (fun a ha => ?_) fun _ => Nat.le_refl _
      have hne : a ≠ Dd := fun e => by subst e; have : A1 a + R a = 0 := sD; omega
      exact ⟨upd_ne hne, (st1.own a (by show 0 < A1 a + R a; omega)).1⟩
  refine ⟨fun i m H => m = ds.length - i ∧ i ≤ ds.length ∧ Wd i H, ⟨ds.length, rfl, Nat.zero_le _, start⟩, ?_⟩
  rintro i mm H2 ⟨rfl, hi, F2, ρ2, A2, C, acc, accV, le2, fD2, hD2, st2, ag2, en2, oa2, p2⟩
  obtain ⟨go, stop⟩ := o1 G F2 H2 _ le2 st2
  by_cases hlt : i < ds.length
  · refine .inr ?_
    have hd : ds[i]? = some ds[i] := List.getElem?_eq_getElem hlt
    obtain ⟨g1, g2⟩ := go i _ hd
    refine ⟨g1, Wd (i + 1), fun H' n => ⟨ds.length - (i + 1), by omega, rfl, hlt, n⟩, fun x H' y => ?_⟩
    obtain ⟨F3, le3, ag3, st3, o3⟩ := g2 x H' y
    have hdrop : ds.drop i = ds[i] :: ds.drop (i + 1) := List.drop_eq_getElem_cons hlt
    rw [hdrop] at p2
    unfold lcl at p2
    -- R with the list and its items held
    have en3 : EnvR X.K cl F3 H' ρ2 (wipe σ vs) A2 := en2.mono le3 (fun a ha => ⟨ag3 a (by show 0 < A2 a + _; omega), (st3.own a (by show 0 < A2 a + _; omega)).1⟩) fun _ => Nat.le_refl _
    refine hg _ _ _ _ ⟨G, F3, ρ2, A2, zf, fun x => one Dd x + (C x + R x), ds[i], st3.less fun x => by show A2 x + (zf x + (one Dd x + (C x + R x))) ≤ A2 x + (one Dd x + (C x + R x)); unfold zf; omega, en3, o3, ?_⟩
    cases hgd : gm ds[i] ρ2 with
    | none => simp only [hgd] at p2; exact p2.elim
    | some ρ3 =>
      simp only [hgd] at p2
      intro σ4 F4 H4 A4 hw e4
      rw [wipe_idem] at hw
      refine ⟨hw, ?_⟩
      refine ht _ _ _ ⟨G, F4, ρ3, A4, fun x => one Dd x + (C x + R x), e4.st.less fun x => by show A4 x + (one Dd x + (C x + R x)) ≤ A4 x + (zf x + (one Dd x + (C x + R x))); omega, e4.en, ?_⟩
      cases htr : t ρ3 with
      | ex c xs ρ4 => simp only [htr] at p2; exact p2.elim
      | bad => simp only [htr] at p2; exact p2.elim
      | ok b ρ4 =>
        intro b' F5 H5 A5 B5 e5 ob
        have ob' : b = b' := ob
        subst ob'
        have ag5 : ∀ a, 0 < one Dd a + (C a + R a) → H5 a = H2 a := fun a ha => (e5.ag a ha).trans ((e4.ag a ha).trans (ag3 a (by show 0 < A2 a + (one Dd a + (C a + R a)); omega)))
        have le5 : Le F2 F5 := le3.trans (e4.le.trans e5.le)
        have fre5 : ∀ a, 0 < one Dd a + (C a + R a) → F5 a = none := fun a ha => (e5.st.own a (by show 0 < A5 a + (B5 a + (one Dd a + (C a + R a))); omega)).1
        have oneD : 0 < one Dd Dd := by rw [one_self]; exact Nat.one_pos
        cases b with
        | false =>
          simp only [htr] at p2
          rw [if_neg Bool.false_ne_true]
          refine ⟨F5, fgt vs ρ4, A5, C, acc, accV, le2.trans le5, fre5 Dd (by omega), (ag5 Dd (by omega)).trans hD2, e5.st.less fun x => ?_, fun a ha => (ag5 a (by omega)).trans (ag2 a ha), ?_, oa2.mono le5 (fun a ha => ⟨ag5 a (by omega), fre5 a (by omega)⟩) (fun _ => Nat.le_refl _), p2⟩
          · show A5 x + (one Dd x + (C x + R x)) ≤ A5 x + (B5 x + (one Dd x + (C x + R x))); omega
          · rw [← hw]; exact EnvR.wipe vs e5.en
        | true =>
          simp only [htr] at p2
          rw [if_pos rfl]
          refine he _ _ _ ⟨G, F5, ρ4, A5, fun x => one Dd x + (C x + R x), e5.st.less fun x => by show A5 x + (one Dd x + (C x + R x)) ≤ A5 x + (B5 x + (one Dd x + (C x + R x))); omega, e5.en, ?_⟩
          cases hmr : m ρ4 with
          | ex c xs ρ5 => simp only [hmr] at p2; exact p2.elim
          | bad => simp only [hmr] at p2; exact p2.elim
          | ok d ρ5 =>
            simp only [hmr] at p2
            intro v6 F6 H6 A6 B6 e6 o6
            have ag6 : ∀ a, 0 < one Dd a + (C a + R a) → H6 a = H2 a := fun a ha => (e6.ag a ha).trans (ag5 a ha)
            have le6 : Le F2 F6 := le5.trans e6.le
            have fre6 : ∀ a, 0 < one Dd a + (C a + R a) → F6 a = none := fun a ha => (e6.st.own a (by show 0 < A6 a + (B6 a + (one Dd a + (C a + R a))); omega)).1
            by_cases hc : cap acc.length = true
            · rw [if_pos hc] at p2
              have hal : acc.length = accV.length := Owns.length oa2
              refine ⟨accV, (ag6 Dd (by omega)).trans hD2, by rw [← hal]; exact cap_line hc, ?_⟩
              have st6 := upd_own (o := .lst (accV ++ [v6])) e6.st (show 0 < A6 Dd + (B6 Dd + (one Dd Dd + (C Dd + R Dd))) by omega)
              have ndD : ∀ a, 0 < A6 a + (B6 a + (C a + R a)) → a ≠ Dd := fun a ha e => by
                subst e
                have h1 : A6 a + (B6 a + (one a a + (C a + R a))) ≤ 1 := e6.st.nd a
                rw [one_self] at h1
                omega
              refine ⟨F6, fgt vs ρ5, A6, fun x => C x + B6 x, acc ++ [d], accV ++ [v6], le2.trans le6, fre6 Dd (by omega), upd_same, st6.less fun x => ?_, fun a ha => ?_, ?_, ?_, p2⟩
              · show A6 x + (one Dd x + (C x + B6 x + R x)) ≤ A6 x + (B6 x + (one Dd x + (C x + R x))); omega
              · rw [upd_ne (ndD a (by omega))]; exact (ag6 a (by omega)).trans (ag2 a ha)
              · rw [← hw]
                refine (EnvR.wipe vs e6.en).mono Le.refl (fun a ha => ⟨upd_ne (ndD a (by omega)), (e6.st.own a (by show 0 < A6 a + _; omega)).1⟩) fun _ => Nat.le_refl _
              · have oa6 : Owns X.K cl F6 (upd H6 Dd (.lst (accV ++ [v6]))) acc accV C := oa2.mono le6 (fun a ha => ⟨by rw [upd_ne (ndD a (by omega))]; exact ag6 a (by omega), fre6 a (by omega)⟩) fun _ => Nat.le_refl _
                have ov6 : Own X.K cl F6 (upd H6 Dd (.lst (accV ++ [v6]))) d v6 B6 := o6.mono Le.refl (fun a ha => ⟨upd_ne (ndD a (by omega)), (e6.st.own a (by show 0 < A6 a + (B6 a + _); omega)).1⟩) fun _ => Nat.le_refl _
                exact oa6.snoc ov6
            · rw [if_neg hc] at p2; exact p2.elim
  · have e : i = ds.length := by omega
    subst e
    refine .inl ⟨stop, ?_⟩
    rw [List.drop_length] at p2
    refine p2 (.ref Dd) F2 H2 A2 (fun x => one Dd x + C x) ⟨le2, ag2, st2.less fun x => by show A2 x + (one Dd x + C x + R x) ≤ A2 x + (one Dd x + (C x + R x)); omega, EnvR.rst e1.en le2 vs en2.unwipe⟩ ⟨Dd, accV, C, rfl, fD2, hD2, oa2, fun _ => Nat.le_refl _⟩
end
end FL

set_option Elab.async false
set_option linter.all false
set_option maxRecDepth 100000
namespace FL
open PySem L2
open PyProof.Rows (envOfC)
abbrev W0 : WX' := fun _ _ _ _ => False
section
variable {X : Cx} {cl : Tb} {W : WX'} {K : PySem.W.Frag}
variable {G : Gh} {F H F' H' : Hp} {R B A A' : Fp} {σ : St} {ρ ρ' : Rho} {pos : Pos}

theorem PTs_imp {X : Cx} {es : List Expr} {t t' : TT} (h : PTs X es t) (i : ∀ σ H Q, t' σ H Q → t σ H Q) : PTs X es t' := ⟨fun pins s σ H Q I q => h.run pins s σ H Q I (i σ H Q q)⟩
theorem ft_nil : PTs X [] (tX X.K cl W rB tT) := PTs_imp pts_nil fun σ H Q q => by
  obtain ⟨G, F, ρ, A, R, st, en, p⟩ := q
  exact p true F H A zf (Ev.self st en) rfl
theorem ft_one {c : Expr} {t : Rho → RX Bool} (h : FT X cl W c t) : PTs X [c] (tX X.K cl W rB t) := pts_one h

theorem fe_lc {elt tg iter : Expr} {ifs : List Expr} {scope : Scope} {own : List (Str × Nat)} {it : Rho → RX (List D)} {g : D → Rho → Option Rho} {t : Rho → RX Bool} {m : Rho → RX D} (hc : X.calm = true) (hN : X.N.Nodup) (hi : FI X cl W tg iter it) (ok : BlkOk X.N X.env.scope scope own)
    (hg : ∀ (s : Shared) (H : Hp) (C : Addr) (clo : List (Str × Addr)) (fp : List Addr), FG (X.blk s H scope (compEnvC scope clo C X.env) fp) cl tg (own.map (·.2)) g)
    (ht : ∀ (s : Shared) (H : Hp) (C : Addr) (clo : List (Str × Addr)) (fp : List Addr), PTs (X.blk s H scope (compEnvC scope clo C X.env) fp) ifs (tX X.K cl W0 rB t))
    (he : ∀ (s : Shared) (H : Hp) (C : Addr) (clo : List (Str × Addr)) (fp : List Addr), FE (X.blk s H scope (compEnvC scope clo C X.env) fp) cl W0 elt m) (hs : ∀ x, foldedSetIterable iter X.env x = pure x := by intro _; rfl) :
    FE X cl W (.ListComp elt [⟨tg, iter, ifs, 0⟩] scope pos) (eLc (own.map (·.2)) it g t m) :=
  PE_imp (pe_lc hc hN hi ok hg ht he hs) fun σ H Q q => lc_imp (fun _ _ _ q => q) (fun _ _ _ _ q => q) (fun _ _ _ q => q) (fun _ _ _ q => q) σ H Q q
theorem fs_setLc {i : Nat} {y : Str} {py : Pos} {spos : Pos} {elt tg iter : Expr} {ifs : List Expr} {scope : Scope} {own : List (Str × Nat)} {it : Rho → RX (List D)} {g : D → Rho → Option Rho} {t : Rho → RX Bool} {m : Rho → RX D} (hc : X.calm = true) (hN : X.N.Nodup)
    (hy : X.N[i]? = some y) (hyl : X.env.scope.names.lookup y = some .local) (hsw : swapsWith (.ListComp elt [⟨tg, iter, ifs, 0⟩] scope pos) (some (.Name y py)) spos.line X.env = pure true) (hi : FI X cl W tg iter it) (ok : BlkOk X.N X.env.scope scope own)
    (hg : ∀ (s : Shared) (H : Hp) (C : Addr) (clo : List (Str × Addr)) (fp : List Addr), FG (X.blk s H scope (compEnvC scope clo C X.env) fp) cl tg (own.map (·.2)) g)
    (ht : ∀ (s : Shared) (H : Hp) (C : Addr) (clo : List (Str × Addr)) (fp : List Addr), PTs (X.blk s H scope (compEnvC scope clo C X.env) fp) ifs (tX X.K cl W0 rB t))
    (he : ∀ (s : Shared) (H : Hp) (C : Addr) (clo : List (Str × Addr)) (fp : List Addr), FE (X.blk s H scope (compEnvC scope clo C X.env) fp) cl W0 elt m) (hs : ∀ x, foldedSetIterable iter X.env x = pure x := by intro _; rfl) :
    FS X cl W (.Assign [.Name y py] (.ListComp elt [⟨tg, iter, ifs, 0⟩] scope pos) spos) (sSet i (eLc (own.map (·.2)) it g t m)) :=
  PS_imp (ps_setLc hc hN hy hyl hsw hi ok hg ht he hs) (set_imp fun σ H Q q => lc_imp (fun _ _ _ q => q) (fun _ _ _ _ q => q) (fun _ _ _ q => q) (fun _ _ _ q => q) σ H Q q)

/-! ### defs -/
inductive RF where
  | rt (d : D) | ex (c : Nat) (ds : List D) | bad
def RS.out (r : RS) : RF := match r with | .nx _ => .rt .non | .rt d => .rt d | .ex c ds _ => .ex c ds | _ => .bad
/-- a def's body, run: n slots -/
def runF (np n : Nat) (b : Rho → RS) (ds : List D) : RF := if ds.length = np then (b (ds.map some ++ List.replicate (n - np) none)).out else .bad
theorem runF_len {np n : Nat} {b : Rho → RS} : ∀ l, runF np n b l ≠ .bad → l.length = np := fun l h => by
  unfold runF at h
  split at h
  · assumption
  · exact absurd rfl h
/-- the promise of a def: m is what it does with data -/
def spF (K : PySem.W.Frag) (cl : Tb) (n : Nat) (m : List D → RF) : Sp := fun vs H Q E => vs.length = n ∧ ∃ F ds, Le F H ∧ Owns K cl F H ds vs zf ∧
  match m ds with
  | .rt d => ∀ v F' H' B, Le F F' → Le H H' → Sta ⟨H, F⟩ F' H' B → Own K cl F' H' d v B → Q v H'
  | .ex c xs => ∀ u d F' H', Le F F' → Le H H' → Sta ⟨H, F⟩ F' H' zf → ExR K cl F' c xs u d → E u d H'
  | .bad => False
theorem EnvR.none_all : ∀ (n : Nat), EnvR K cl F H (List.replicate n none) (List.replicate n none) zf
  | 0 => rfl
  | n + 1 => by
    show EnvR K cl F H (none :: List.replicate n none) (none :: List.replicate n none) zf
    exact ⟨none, _, rfl, EnvR.none_all n⟩
theorem EnvR.args : ∀ {ds : List D} {vs : List V} {ρ : Rho} {σ : St}, Owns K cl F H ds vs zf → EnvR K cl F H ρ σ zf → EnvR K cl F H (ds.map some ++ ρ) (vs.map some ++ σ) zf
  | [], vs, ρ, σ, h, e => by
    have ev : vs = [] := h
    subst ev
    exact e
  | d :: ds, vs, ρ, σ, h, e => by
    obtain ⟨v, r, B, C, es, p, q, s⟩ := h
    subst es
    have zB : ∀ x, B x ≤ zf x := fun x => by have := s x; omega
    have zC : ∀ x, C x ≤ zf x := fun x => by have := s x; omega
    exact ⟨v, _, zf, zf, rfl, p.up zB, EnvR.args (q.up zC) e, fun x => Nat.le_refl _⟩
theorem passLN {X : Cx} : Passes (L2N.CX X.prog X.w) X E0 := fun _ _ _ _ _ _ _ z => by
  obtain ⟨_, _, _, _, _, _, _, _, _, _, _, _, h⟩ := z
  exact h.elim
/-- a def's body and its promise; what it raises has no context -/
theorem okN {P : Program} {w : World} {K : PySem.W.Frag} {mg : Str → Option Value} {base : Heap} {x qual : Str} {st : Stmt} {f : Addr} {fd : FuncData} {N ps : List Str} {k : Nat} {sp : Sp} (Fn : Fun K x qual st f fd) (S : FnScope N ps (defScope st)) (len : ∀ vs H Q E, sp vs H Q E → vs.length = ps.length)
    (hb : ∀ (c : Value) (A : Around) (outer : List Env) (s : Shared) (H : Hp) (vs : List V) (Q : VK) (E : XK), Room k (A.deeper (envOfC qual (defScope st) s.heap.objs.size f c)) → sp vs H Q E →
      ∃ t, PSs (cxOf (L2N.CX P w) P w K mg base N qual (defScope st) f c A outer s H E) (defBody st) t ∧ t { nx := fun _ H' => Q .non H', rt := Q } (L2.start N vs) H) : FnOk P w K mg base (L2N.CX P w) (k + 1) f fd ps sp := by
  obtain ⟨_, _, _, _, _, _, c, _, _, e, lk, hc⟩ := Fn.ex
  subst e
  exact fn_of lk hc S len fun A outer s H vs Q E hr h => hb c A outer s H vs Q E hr h
theorem fn_F {P : Program} {w : World} {K : PySem.W.Frag} {mg : Str → Option Value} {base : Heap} {x qual : Str} {st : Stmt} {f : Addr} {fd : FuncData} {N ps : List Str} {k n nN : Nat} {b : Rho → RS}
    (Fn : Fun K x qual st f fd) (S : FnScope N ps (defScope st)) (hn : n = ps.length) (hN : nN = N.length)
    (hb : ∀ (cdv : Value) (A : Around) (outer : List Env) (s : Shared) (H : Hp) (E : XK), Room k (A.deeper (envOfC qual (defScope st) s.heap.objs.size f cdv)) →
      FSs (cxOf (L2N.CX P w) P w K mg base N qual (defScope st) f cdv A outer s H E) cl (fun c d _ H => E c d H) (defBody st) b) :
    FnOk P w K mg base (L2N.CX P w) (k + 1) f fd ps (spF K cl n (runF n nN b)) := by
  refine okN Fn S (fun vs H Q E h => h.1.trans hn) fun cdv A outer s H vs Q E hr h => ?_
  refine ⟨_, hb cdv A outer s H E hr, ?_⟩
  obtain ⟨hl, F, ds, le, os, p⟩ := h
  have hds : ds.length = vs.length := Owns.length os
  refine ⟨⟨H, F⟩, F, ds.map some ++ List.replicate (nN - ds.length) none, zf, zf, ⟨le, Le.refl, Le.refl, fun a o e => .inl e, fun a ha => absurd ha (Nat.lt_irrefl _), fun a => Nat.zero_le _, fun a _ ha => absurd ha (Nat.lt_irrefl _)⟩, ?_, ?_⟩
  · show EnvR K cl F H (ds.map some ++ List.replicate (nN - ds.length) none) (vs.map some ++ List.replicate (N.length - vs.length) none) zf
    rw [hN, hds]
    exact EnvR.args os (EnvR.none_all _)
  · unfold runF at p
    have hdn : ds.length = n := hds.trans hl
    rw [if_pos hdn, ← hdn] at p
    cases hr : b (ds.map some ++ List.replicate (nN - ds.length) none) with
    | nx ρ => rw [hr] at p; exact fun σ F' H' A' e => p .non F' H' zf e.le e.st.ent (e.st.less fun x => by show zf x ≤ _; exact Nat.zero_le _) rfl
    | rt d => rw [hr] at p; exact fun v F' H' B e o => p v F' H' B e.le e.st.ent (e.st.less fun x => by show B x ≤ zf x + (B x + zf x); omega) o
    | ex c xs ρ => rw [hr] at p; exact fun u d σ F' H' A' e o => p u d F' H' e.le e.st.ent (e.st.less fun x => by show zf x ≤ _; exact Nat.zero_le _) o
    | bk ρ => rw [hr] at p; exact p.elim
    | ct ρ => rw [hr] at p; exact p.elim
    | bad => rw [hr] at p; exact p.elim

/-- a call: the arguments are frozen -/
def eCall (m : List D → RF) (dd : List D) (a : Rho → RX (List D)) : Rho → RX D := fun ρ => (a ρ).bind fun ds ρ1 =>
  match m (D.frzs ds ++ dd) with
  | .rt d => .ok d ρ1
  | .ex c xs => .ex c xs ρ1
  | .bad => .bad
theorem Owns.append : ∀ {ds es : List D} {vs us : List V}, Owns K cl F H ds vs zf → Owns K cl F H es us zf → Owns K cl F H (ds ++ es) (vs ++ us) zf
  | [], es, vs, us, h, e => by
    have ev : vs = [] := h
    subst ev
    exact e
  | d :: ds, es, vs, us, h, e => by
    obtain ⟨v, r, B, C, ev, p, q, s⟩ := h
    subst ev
    have zB : ∀ x, B x ≤ zf x := fun x => by have := s x; omega
    have zC : ∀ x, C x ≤ zf x := fun x => by have := s x; omega
    exact ⟨v, _, zf, zf, rfl, p.up zB, Owns.append (q.up zC) e, fun x => Nat.le_refl _⟩
/-- behind a call -/
theorem Ev.call {F2 H2 : Hp} {B2 : Fp} (e : Ev K cl G F H R F' H' σ ρ' A' zf) (le : Le F' F2) (lh : Le H' H2) (st : Sta ⟨H', F'⟩ F2 H2 B2) : Ev K cl G F H R F2 H2 σ ρ' A' B2 := by
  have old : ∀ a, 0 < A' a + R a → F' a = none ∧ G.E a = none ∧ ∃ o, H' a = some o := fun a ha => e.st.own a (by show 0 < A' a + (zf a + R a); unfold zf; omega)
  have keepF : ∀ a, 0 < A' a + R a → F2 a = none := fun a ha => by
    obtain ⟨h1, h2, o, h3⟩ := old a ha
    cases q : F2 a with
    | none => rfl
    | some w =>
      rcases st.fr a w q with z | z | ⟨ys, z⟩
      · rw [show F' a = some w from z] at h1; cases h1
      · rw [show H' a = none from z] at h3; cases h3
      · subst z
        have h4 := st.sub a _ q
        have h5 := lh a o h3
        rw [h4] at h5
        cases h5
        exact absurd h3 (e.st.nt a ys (by show 0 < A' a + (zf a + R a); unfold zf; omega))
  refine ⟨e.le.trans le, fun a ha => ?_, ⟨st.sub, fun a o z => lh a o (e.st.ent a o z), fun a o z => le a o (e.st.low a o z), fun a o z => ?_, fun a ha => ?_, fun a => ?_, fun a xs ha => ?_⟩, e.en.mono le (fun a ha => ?_) fun _ => Nat.le_refl _⟩
  · obtain ⟨_, _, o, h3⟩ := old a (by omega)
    rw [lh a o h3]
    rw [← e.ag a ha]
    exact h3.symm
  · rcases st.fr a o z with q | q | q
    · exact e.st.fr a o q
    rotate_left
    · exact .inr (.inr q)
    · right; left
      cases w : G.E a with
      | none => rfl
      | some u =>
        have := e.st.ent a u w
        rw [show H' a = none from q] at this; cases this
  · have ha' : 0 < A' a + (B2 a + R a) := ha
    by_cases hb : 0 < B2 a
    · obtain ⟨h1, h2, o, h3⟩ := st.own a hb
      refine ⟨h1, ?_, o, h3⟩
      cases w : G.E a with
      | none => rfl
      | some u =>
        have := e.st.ent a u w
        rw [show H' a = none from h2] at this; cases this
    · obtain ⟨h1, h2, o, h3⟩ := old a (by omega)
      exact ⟨keepF a (by omega), h2, o, lh a o h3⟩
  · show A' a + (B2 a + R a) ≤ 1
    have h1 : A' a + (zf a + R a) ≤ 1 := e.st.nd a
    have h2 : B2 a ≤ 1 := st.nd a
    unfold zf at h1
    by_cases hb : 0 < B2 a
    · by_cases ha : 0 < A' a + R a
      · obtain ⟨_, _, o, h3⟩ := old a ha
        obtain ⟨_, h2, _⟩ := st.own a hb
        rw [show H' a = none from h2] at h3; cases h3
      · omega
    · omega
  · have ha' : 0 < A' a + (B2 a + R a) := ha
    by_cases hb : 0 < B2 a
    · exact st.nt a xs hb
    · obtain ⟨h1, h2, o, h3⟩ := old a (by omega)
      rw [lh a o h3, ← h3]
      exact e.st.nt a xs (by show 0 < A' a + (zf a + R a); unfold zf; omega)
  · obtain ⟨_, _, o, h3⟩ := old a (by omega)
    exact ⟨(lh a o h3).trans h3.symm, keepF a (by omega)⟩
theorem call_imp {n : Nat} {m : List D → RF} {dd : List D} {dv : List V} {a : Rho → RX (List D)} (hdd : ∀ F H, Owns X.K cl F H dd dv zf) (hlen : ∀ l, m l ≠ .bad → l.length = n) (σ : St) (H : Hp) (Q : VK) (q : tX X.K cl W (rD X.K cl) (eCall m dd a) σ H Q) :
    tCallSD (spF X.K cl n m) dv (WE W) (tX X.K cl W (rL X.K cl) a) σ H Q := by
  obtain ⟨G, F, ρ, A, R, st, en, p⟩ := q
  refine ⟨G, F, ρ, A, R, st, en, Pst.bind p fun x ρ1 v1 F1 H1 A1 B1 e1 o1 p1 => ?_⟩
  obtain ⟨e2, le2⟩ := e1.fz
  have o2 : Owns X.K cl (fz F1 H1 B1) H1 (D.frzs x) v1 zf := Owns.freeze o1 le2 fun a ha => fz_at ha
  have o3 := Owns.append o2 (hdd (fz F1 H1 B1) H1)
  refine ⟨?_, fz F1 H1 B1, D.frzs x ++ dd, e2.st.sub, o3, ?_⟩
  · rw [← Owns.length o3]
    refine hlen _ fun z => ?_
    simp only [z] at p1
    exact p1
  · have e3 : Ev X.K cl G F1 H1 R (fz F1 H1 B1) H1 σ ρ1 A1 zf := ⟨le2, fun _ _ => rfl, e2.st, e2.en⟩
    cases hm : m (D.frzs x ++ dd) with
    | rt d =>
      simp only [hm] at p1
      exact fun v F' H' B le lh st' o => p1 v F' H' A1 B (e3.call le lh st') o
    | ex c xs =>
      simp only [hm] at p1
      exact fun u d F' H' le lh st' o => p1 u d F' H' A1 (e3.call le lh st') o
    | bad => simp only [hm] at p1; exact p1.elim
end
end FL

set_option Elab.async false
set_option linter.all false
set_option maxRecDepth 100000
namespace FL
open PySem L2
section
variable {X : Cx} {cl : Tb} {W : WX'} {K : PySem.W.Frag}
variable {G : Gh} {F H F' H' : Hp} {R B A A' : Fp} {σ : St} {ρ ρ' : Rho} {pos : Pos}

/-! ### operators upon ints -/
def iOp (C : Int → Int → Bool) (g : Int → Int → D) (x y : D) : Option D :=
  match x, y with
  | .int i, .int j => if C i j then some (g i j) else none
  | _, _ => none
theorem iOp_some {C : Int → Int → Bool} {g : Int → Int → D} {x y d : D} (h : iOp C g x y = some d) : ∃ i j, x = .int i ∧ y = .int j ∧ C i j = true ∧ d = g i j := by
  unfold iOp at h
  split at h
  · rename_i i j
    split at h
    · rename_i hc; exact ⟨i, j, rfl, rfl, hc, (Option.some.inj h).symm⟩
    · cases h
  · cases h
def yes2 : Int → Int → Bool := fun _ _ => true
noncomputable def mulOk (i j : Int) : Bool := yes ((-(2 ^ 64) < i ∧ i < 2 ^ 64) ∨ (-(2 ^ 64) < j ∧ j < 2 ^ 64))
noncomputable def divOk (_ j : Int) : Bool := yes (0 < j ∧ j < 1073741824)
noncomputable def modOk (_ j : Int) : Bool := yes (0 < j)
theorem does_iOp {C : Int → Int → Bool} {g : Int → Int → D} {C' : Int → Int → Prop} {g' : Int → Int → V} (hC : ∀ i j, C i j = true → C' i j) (hg : ∀ i j F H, Own X.K cl F H (g i j) (g' i j) zf) : Does2 X cl (iOp C g) (rI C' g') := fun x y d hd G F H S B C vx vy Q st ox oy k => by
  obtain ⟨i, j, rfl, rfl, hc, rfl⟩ := iOp_some hd
  have e1 : vx = .int i := ox
  have e2 : vy = .int j := oy
  exact ⟨i, j, e1, e2, hC i j hc, k _ F H zf Le.refl (fun _ _ => rfl) (st.less fun z => by show zf z + S z ≤ _; unfold zf; omega) (hg i j F H)⟩
theorem does_iOp0 {g : Int → Int → D} {g' : Int → Int → V} (hg : ∀ i j F H, Own X.K cl F H (g i j) (g' i j) zf) : Does2 X cl (iOp yes2 g) (rI0 g') := fun x y d hd G F H S B C vx vy Q st ox oy k => by
  obtain ⟨i, j, rfl, rfl, hc, rfl⟩ := iOp_some hd
  have e1 : vx = .int i := ox
  have e2 : vy = .int j := oy
  exact ⟨i, j, e1, e2, k _ F H zf Le.refl (fun _ _ => rfl) (st.less fun z => by show zf z + S z ≤ _; unfold zf; omega) (hg i j F H)⟩
def subD : D → D → Option D := iOp yes2 fun i j => .int (i - j)
noncomputable def mulD : D → D → Option D := iOp mulOk fun i j => .int (i * j)
noncomputable def modD : D → D → Option D := iOp modOk fun i j => .int (i % j)
noncomputable def divD : D → D → Option D := iOp divOk fun i j => .int (i / j)
def ltD : D → D → Option D := iOp yes2 fun i j => .bl (decide (i < j))
def leD : D → D → Option D := iOp yes2 fun i j => .bl (decide (i ≤ j))
def gtD : D → D → Option D := iOp yes2 fun i j => .bl (decide (j < i))
def geD : D → D → Option D := iOp yes2 fun i j => .bl (decide (j ≤ i))
def addI : D → D → Option D := iOp yes2 fun i j => .int (i + j)
abbrev rSub' : R2 := rI0 fun i j => .int (i - j)
theorem d_sub : Does2 X cl subD (rI0 fun i j => .int (i - j)) := does_iOp0 fun _ _ _ _ => rfl
theorem d_addI : Does2 X cl addI (rI0 fun i j => .int (i + j)) := does_iOp0 fun _ _ _ _ => rfl
theorem d_mul : Does2 X cl mulD (rI CMul fun i j => .int (i * j)) := does_iOp (fun i j h => by unfold mulOk at h; have h' := of_yes h; exact h') fun _ _ _ _ => rfl
theorem d_mod : Does2 X cl modD (rI (fun _ j => 0 < j) fun i j => .int (i % j)) := does_iOp (fun _ _ h => of_yes h) fun _ _ _ _ => rfl
theorem d_div : Does2 X cl divD (rI CDiv fun i j => .int (i / j)) := does_iOp (fun i j h => by unfold divOk at h; have h' := of_yes h; exact h') fun _ _ _ _ => rfl
theorem d_lt : Does2 X cl ltD (rI0 fun i j => .bl (decide (i < j))) := does_iOp0 fun _ _ _ _ => rfl
theorem d_le : Does2 X cl leD (rI0 fun i j => .bl (decide (i ≤ j))) := does_iOp0 fun _ _ _ _ => rfl
theorem d_gt : Does2 X cl gtD (rI0 fun i j => .bl (decide (j < i))) := does_iOp0 fun _ _ _ _ => rfl
theorem d_ge : Does2 X cl geD (rI0 fun i j => .bl (decide (j ≤ i))) := does_iOp0 fun _ _ _ _ => rfl
def negD : D → Option D := fun x => match x with | .int i => some (.int (-i)) | _ => none
theorem d_neg : Does1 X cl negD (rU fun i => .int (-i)) := fun x d hd G F H S C vx Q st ox k => by
  cases x with
  | int i =>
    have e : d = .int (-i) := (Option.some.inj hd).symm
    subst e
    exact ⟨i, ox, k _ F H zf Le.refl (fun _ _ => rfl) (st.less fun z => by show zf z + S z ≤ _; unfold zf; omega) rfl⟩
  | _ => cases hd

/-! ### scalars -/
def scl : D → Option V
  | .non => some .non | .bl b => some (.bl b) | .int i => some (.int i) | .str s => some (.str s)
  | _ => none
theorem scl_own {d : D} {v w : V} {A : Fp} (h : scl d = some w) (o : Own K cl F H d v A) : v = w := by
  cases d with
  | non => cases h; exact o
  | bl b => cases h; exact o
  | int i => cases h; exact o
  | str s => cases h; exact o
  | _ => cases h
def eqS (x y : D) : Option D := match scl x, scl y with | some v, some w => if scal v w then some (.bl (decide (v = w))) else none | _, _ => none
def neS (x y : D) : Option D := match scl x, scl y with | some v, some w => if scal v w then some (.bl (!decide (v = w))) else none | _, _ => none
theorem d_eqS : Does2 X cl eqS rEq := fun x y d hd G F H S B C vx vy Q st ox oy k => by
  unfold eqS at hd
  cases hx : scl x with
  | none => rw [hx] at hd; cases hd
  | some v =>
    cases hy : scl y with
    | none => rw [hx, hy] at hd; cases hd
    | some w =>
      rw [hx, hy] at hd
      simp only at hd
      split at hd
      · rename_i hs
        have e1 := scl_own hx ox
        have e2 := scl_own hy oy
        subst e1 e2
        have e3 := (Option.some.inj hd).symm
        subst e3
        exact ⟨hs, k _ F H zf Le.refl (fun _ _ => rfl) (st.less fun z => by show zf z + S z ≤ _; unfold zf; omega) rfl⟩
      · cases hd
theorem d_neS : Does2 X cl neS rNe := fun x y d hd G F H S B C vx vy Q st ox oy k => by
  unfold neS at hd
  cases hx : scl x with
  | none => rw [hx] at hd; cases hd
  | some v =>
    cases hy : scl y with
    | none => rw [hx, hy] at hd; cases hd
    | some w =>
      rw [hx, hy] at hd
      simp only at hd
      split at hd
      · rename_i hs
        have e1 := scl_own hx ox
        have e2 := scl_own hy oy
        subst e1 e2
        have e3 := (Option.some.inj hd).symm
        subst e3
        exact ⟨hs, k _ F H zf Le.refl (fun _ _ => rfl) (st.less fun z => by show zf z + S z ≤ _; unfold zf; omega) rfl⟩
      · cases hd
def isB (x y : D) : Option D := match x, y with | .bl a, .bl b => some (.bl (decide (a = b))) | _, _ => none
theorem d_isB : Does2 X cl isB rIsB := fun x y d hd G F H S B C vx vy Q st ox oy k => by
  unfold isB at hd
  split at hd
  · rename_i a b
    have e := (Option.some.inj hd).symm
    subst e
    exact ⟨a, b, ox, oy, k _ F H zf Le.refl (fun _ _ => rfl) (st.less fun z => by show zf z + S z ≤ _; unfold zf; omega) rfl⟩
  · cases hd
/-- is None -/
def D.isNon : D → Bool
  | .non => true
  | .val w => decide (w = .non)
  | _ => false
def isN (x y : D) : Option D := if y.isNon then some (.bl x.isNon) else none
def notN (x y : D) : Option D := if y.isNon then some (.bl (!x.isNon)) else none
theorem isNon_own {d : D} {v : V} {A : Fp} (h : d.isNon = true) (o : Own K cl F H d v A) : v = .non := by
  cases d with
  | non => exact o
  | val w => have e : v = w := o; subst e; exact of_decide_eq_true h
  | _ => cases h
theorem own_non {d : D} {v : V} {A : Fp} (o : Own K cl F H d v A) : decide (v = .non) = d.isNon := by
  cases d with
  | non => have e : v = .non := o; subst e; rfl
  | bl b => have e : v = .bl b := o; subst e; rfl
  | int b => have e : v = .int b := o; subst e; rfl
  | str b => have e : v = .str b := o; subst e; rfl
  | tup ds => obtain ⟨a, xs, e, _⟩ := o; subst e; rfl
  | lst ds => obtain ⟨a, xs, e, _⟩ := o; subst e; rfl
  | vec ds => obtain ⟨a, xs, B, e, _⟩ := o; subst e; rfl
  | obj c ds => obtain ⟨a, xs, B, e, _⟩ := o; subst e; rfl
  | mobj c ds => obtain ⟨a, xs, B, C, ⟨e, _⟩, _⟩ := o; subst e; rfl
  | exc c ds => obtain ⟨xs, ⟨e, _⟩, _⟩ := o; subst e; rfl
  | dT ks ds => obtain ⟨a, xs, e, _⟩ := o; subst e; rfl
  | vT ks ds => obtain ⟨a, xs, B, e, _⟩ := o; subst e; rfl
  | dK ks ds => obtain ⟨a, xs, e, _⟩ := o; subst e; rfl
  | vK ks ds => obtain ⟨a, xs, B, e, _⟩ := o; subst e; rfl
  | val w => have e : v = w := o; subst e; rfl
theorem d_isN : Does2 X cl isN (fun x y H Q => y = .non ∧ Q (.bl (decide (x = .non))) H) := fun x y d hd G F H S B C vx vy Q st ox oy k => by
  unfold isN at hd
  split at hd
  · rename_i hy
    have e := (Option.some.inj hd).symm
    subst e
    refine ⟨isNon_own hy oy, ?_⟩
    rw [own_non ox]
    exact k _ F H zf Le.refl (fun _ _ => rfl) (st.less fun z => by show zf z + S z ≤ _; unfold zf; omega) rfl
  · cases hd
theorem d_notN : Does2 X cl notN (fun x y H Q => y = .non ∧ Q (.bl (!decide (x = .non))) H) := fun x y d hd G F H S B C vx vy Q st ox oy k => by
  unfold notN at hd
  split at hd
  · rename_i hy
    have e := (Option.some.inj hd).symm
    subst e
    refine ⟨isNon_own hy oy, ?_⟩
    rw [own_non ox]
    exact k _ F H zf Le.refl (fun _ _ => rfl) (st.less fun z => by show zf z + S z ≤ _; unfold zf; omega) rfl
  · cases hd

/-! ### lists and tuples -/
/-- the items of any list or tuple -/
def sq : D → Option (List D)
  | .lst ds => some ds | .vec ds => some ds | .tup ds => some ds
  | _ => none
theorem own_sq {d : D} {ds : List D} {v : V} {A : Fp} (h : sq d = some ds) (o : Own K cl F H d v A) (sub : Le F H) : ∃ a xs, v = .ref a ∧ (SqL K H a xs ∨ SqT K H a xs) ∧ Owns K cl F H ds xs A := by
  cases d with
  | lst es => cases h; obtain ⟨a, xs, e, q, r⟩ := o; exact ⟨a, xs, e, .inl (sub.sqL q), r⟩
  | vec es => cases h; obtain ⟨a, xs, B, e, n, q, r, s⟩ := o; exact ⟨a, xs, e, .inl (SqL.of q), r.up fun x => by have := s x; omega⟩
  | tup es => cases h; obtain ⟨a, xs, e, q, r⟩ := o; exact ⟨a, xs, e, .inr (sub.sqT q.1), r⟩
  | _ => cases h
noncomputable def lenL (xs : List D) : Option D := match xs with | [d] => (match sq d with | some ds => some (.int ds.length) | none => (match d with | .str s => if yes (s.length ≤ 16777216) then some (.int s.length) else none | _ => none)) | _ => none
theorem d_len : DoesL X cl lenL (fun xs H Q => ∃ x n, xs = [x] ∧ LenV X.K x H n ∧ Q (.int n) H) := fun x d hd G F H S C vx Q st ox k => by
  unfold lenL at hd
  split at hd
  · rename_i d0
    obtain ⟨v, r, B, C', rfl, ov, os, hs⟩ := ox
    have er : r = [] := os
    subst er
    cases hq : sq d0 with
    | some ds =>
      rw [hq] at hd
      have e := (Option.some.inj hd).symm
      subst e
      obtain ⟨a, xs, rfl, q, r⟩ := own_sq hq ov st.sub
      have hl := Owns.length r
      refine ⟨.ref a, ds.length, rfl, ?_, k _ F H zf Le.refl (fun _ _ => rfl) (st.less fun z => by show zf z + S z ≤ _; unfold zf; omega) rfl⟩
      rcases q with q | q
      · exact .inl ⟨xs, q, hl⟩
      · exact .inr ⟨xs, q, hl⟩
    | none =>
      rw [hq] at hd
      cases d0 with
      | str s =>
        simp only at hd
        split at hd
        · rename_i hc
          have e := (Option.some.inj hd).symm
          subst e
          have ev : v = .str s := ov
          subst ev
          refine ⟨_, s.length, rfl, ⟨by have h1 := of_yes hc; rw [sizeLine_eq]; exact h1, rfl⟩, k _ F H zf Le.refl (fun _ _ => rfl) (st.less fun z => by show zf z + S z ≤ _; unfold zf; omega) rfl⟩
        · cases hd
      | _ => cases hd
  · cases hd
def maxL (xs : List D) : Option D := match xs with | [.int i, .int j] => some (.int (if j > i then j else i)) | _ => none
def minL (xs : List D) : Option D := match xs with | [.int i, .int j] => some (.int (if j < i then j else i)) | _ => none
theorem owns2 {x y : D} {vs : List V} {A : Fp} (o : Owns K cl F H [x, y] vs A) : ∃ v w, vs = [v, w] ∧ Own K cl F H x v A ∧ Own K cl F H y w A := by
  obtain ⟨v, r, B, C, rfl, o1, os, hs⟩ := o
  obtain ⟨w, r', B', C', rfl, o2, os', hs'⟩ := os
  have er : r' = [] := os'
  subst er
  exact ⟨v, w, rfl, o1.up fun x => by have := hs x; omega, o2.up fun x => by have := hs x; have := hs' x; omega⟩
theorem owns1 {x : D} {vs : List V} {A : Fp} (o : Owns K cl F H [x] vs A) : ∃ v, vs = [v] ∧ Own K cl F H x v A := by
  obtain ⟨v, r, B, C, rfl, o1, os, hs⟩ := o
  have er : r = [] := os
  subst er
  exact ⟨v, rfl, o1.up fun x => by have := hs x; omega⟩
theorem d_max : DoesL X cl maxL (fun xs H Q => ∃ i j, xs = [.int i, .int j] ∧ Q (.int (if j > i then j else i)) H) := fun x d hd G F H S C vx Q st ox k => by
  unfold maxL at hd
  split at hd
  · rename_i i j
    obtain ⟨v, w, rfl, o1, o2⟩ := owns2 ox
    have e := (Option.some.inj hd).symm
    subst e
    have e1 : v = .int i := o1
    have e2 : w = .int j := o2
    subst e1 e2
    exact ⟨i, j, rfl, k _ F H zf Le.refl (fun _ _ => rfl) (st.less fun z => by show zf z + S z ≤ _; unfold zf; omega) rfl⟩
  · cases hd
theorem d_min : DoesL X cl minL (fun xs H Q => ∃ i j, xs = [.int i, .int j] ∧ Q (.int (if j < i then j else i)) H) := fun x d hd G F H S C vx Q st ox k => by
  unfold minL at hd
  split at hd
  · rename_i i j
    obtain ⟨v, w, rfl, o1, o2⟩ := owns2 ox
    have e := (Option.some.inj hd).symm
    subst e
    have e1 : v = .int i := o1
    have e2 : w = .int j := o2
    subst e1 e2
    exact ⟨i, j, rfl, k _ F H zf Le.refl (fun _ _ => rfl) (st.less fun z => by show zf z + S z ≤ _; unfold zf; omega) rfl⟩
  · cases hd
def intL (xs : List D) : Option D := match xs with | [.int i] => some (.int i) | [.bl b] => some (.int (if b then 1 else 0)) | _ => none
theorem d_int : DoesL X cl intL (fun xs H Q => (∃ i, xs = [.int i] ∧ Q (.int i) H) ∨ ∃ k, xs = [.bl k] ∧ Q (.int (if k then 1 else 0)) H) := fun x d hd G F H S C vx Q st ox k => by
  unfold intL at hd
  split at hd
  · rename_i i
    obtain ⟨v, rfl, o1⟩ := owns1 ox
    have e := (Option.some.inj hd).symm
    subst e
    have e1 : v = .int i := o1
    subst e1
    exact .inl ⟨i, rfl, k _ F H zf Le.refl (fun _ _ => rfl) (st.less fun z => by show zf z + S z ≤ _; unfold zf; omega) rfl⟩
  · rename_i b
    obtain ⟨v, rfl, o1⟩ := owns1 ox
    have e := (Option.some.inj hd).symm
    subst e
    have e1 : v = .bl b := o1
    subst e1
    exact .inr ⟨b, rfl, k _ F H zf Le.refl (fun _ _ => rfl) (st.less fun z => by show zf z + S z ≤ _; unfold zf; omega) rfl⟩
  · cases hd
/-- tuple(xs) -/
def tupL (xs : List D) : Option D := match xs with | [d] => (match sq d with | some ds => some (.tup ds) | none => none) | _ => none
theorem d_tuple : DoesL X cl tupL (fun xs H Q => ∃ p ys, xs = [.ref p] ∧ ((SqL X.K H p ys ∧ ∀ l, H l = none → Q (.ref l) (upd H l (.tup ys))) ∨ (SqT X.K H p ys ∧ Q (.ref p) H))) := fun x d hd G F H S C vx Q st ox k => by
  unfold tupL at hd
  split at hd
  · rename_i d0
    obtain ⟨v, rfl, ov⟩ := owns1 ox
    have new : ∀ (ds : List D) (a : Addr) (xs : List V), SqL X.K H a xs → Owns X.K cl F H ds xs C → d = .tup ds → ∃ p ys, [V.ref a] = [.ref p] ∧ ((SqL X.K H p ys ∧ ∀ l, H l = none → Q (.ref l) (upd H l (.tup ys))) ∨ (SqT X.K H p ys ∧ Q (.ref p) H)) := fun ds a xs q r ed => by
      subst ed
      refine ⟨a, xs, rfl, .inl ⟨q, fun l hl => ?_⟩⟩
      obtain ⟨le, st2⟩ := lay_frozen (o := .tup xs) st hl
      refine k (.ref l) _ _ C le (fun b hb => ?_) st2 ⟨l, xs, rfl, ⟨SqT.of upd_same, fun _ => upd_same⟩, r.laid st hl le fun b hb => (st2.own b (by show 0 < C b + S b; omega)).1⟩
      obtain ⟨_, _, u, h3⟩ := st.own b (by show 0 < C b + S b; omega)
      exact upd_ne (ne_of_none h3 hl)
    cases d0 with
    | lst ds =>
      obtain ⟨a, xs, rfl, q, r⟩ := ov
      exact new ds a xs (st.sub.sqL q) r (Option.some.inj hd).symm
    | vec ds =>
      obtain ⟨a, xs, B, rfl, n, q, r, s⟩ := ov
      exact new ds a xs (SqL.of q) (r.up fun x => by have := s x; omega) (Option.some.inj hd).symm
    | tup ds =>
      obtain ⟨a, xs, rfl, q, r⟩ := ov
      have e := (Option.some.inj hd).symm
      subst e
      exact ⟨a, xs, rfl, .inr ⟨st.sub.sqT q.1, k _ F H C Le.refl (fun _ _ => rfl) st ⟨a, xs, rfl, q, r⟩⟩⟩
    | _ => cases hd
  · cases hd
/-- list(xs) -/
def lisL (xs : List D) : Option D := match xs with | [d] => (match sq d with | some ds => some (.vec ds) | none => none) | _ => none
theorem d_list : DoesL X cl lisL (fun xs H Q => ∃ p ys, xs = [.ref p] ∧ (SqL X.K H p ys ∨ SqT X.K H p ys) ∧ ∀ l, H l = none → Q (.ref l) (upd H l (.lst ys))) := fun x d hd G F H S C vx Q st ox k => by
  unfold lisL at hd
  split at hd
  · rename_i d0
    obtain ⟨v, rfl, ov⟩ := owns1 ox
    cases hq : sq d0 with
    | none => rw [hq] at hd; cases hd
    | some ds =>
      rw [hq] at hd
      have e := (Option.some.inj hd).symm
      subst e
      obtain ⟨a, xs, rfl, q, r⟩ := own_sq hq ov st.sub
      refine ⟨a, xs, rfl, q, fun l hl => ?_⟩
      obtain ⟨fl, sl, st2⟩ := lay_owned (o := .lst xs) st hl
      refine k (.ref l) F _ (fun z => one l z + C z) Le.refl (fun b hb => ?_) (st2.less fun z => by show one l z + C z + S z ≤ one l z + (C z + S z); omega) ⟨l, xs, C, rfl, fl, upd_same, r.laid st hl Le.refl (fun b hb => (st.own b (by show 0 < C b + S b; omega)).1), fun _ => Nat.le_refl _⟩
      obtain ⟨_, _, u, h3⟩ := st.own b (by show 0 < C b + S b; omega)
      exact upd_ne (ne_of_none h3 hl)
  · cases hd
/-- x in xs, flat items -/
def flatD (d : D) : Bool := (scl d).isSome
def eqvD (x y : D) : Bool := match scl x, scl y with | some v, some w => eqV v w | _, _ => false
def inD (x y : D) : Option D := match sq y with | some ds => if flatD x && ds.all flatD then some (.bl (ds.any fun d => eqvD d x)) else none | none => none
def ninD (x y : D) : Option D := match sq y with | some ds => if flatD x && ds.all flatD then some (.bl (!ds.any fun d => eqvD d x)) else none | none => none
theorem flat_own {d : D} {v : V} {A : Fp} (h : flatD d = true) (o : Own K cl F H d v A) : scl d = some v ∧ flatV v = true := by
  cases d with
  | non => have e : v = .non := o; subst e; exact ⟨rfl, rfl⟩
  | bl b => have e : v = .bl b := o; subst e; exact ⟨rfl, rfl⟩
  | int b => have e : v = .int b := o; subst e; exact ⟨rfl, rfl⟩
  | str b => have e : v = .str b := o; subst e; exact ⟨rfl, rfl⟩
  | _ => cases h
theorem any_own {x : D} {v : V} (hx : scl x = some v) : ∀ {ds : List D} {vs : List V} {A : Fp}, ds.all flatD = true → Owns K cl F H ds vs A → vs.all flatV = true ∧ (vs.any fun y => eqV y v) = ds.any fun d => eqvD d x
  | [], vs, _, _, o => by have e : vs = [] := o; subst e; exact ⟨rfl, rfl⟩
  | d :: ds, vs, A, h, o => by
    obtain ⟨w, r, B, C, rfl, p, q, s⟩ := o
    rw [List.all_cons, Bool.and_eq_true] at h
    obtain ⟨h1, h2⟩ := flat_own h.1 p
    obtain ⟨h3, h4⟩ := any_own hx h.2 q
    refine ⟨by rw [List.all_cons, h2, h3]; rfl, ?_⟩
    rw [List.any_cons, List.any_cons, h4]
    have : eqvD d x = eqV w v := by unfold eqvD; rw [h1, hx]
    rw [this]
theorem d_in : Does2 X cl inD (rIn X.K false) := fun x y d hd G F H S B C vx vy Q st ox oy k => by
  unfold inD at hd
  cases hq : sq y with
  | none => rw [hq] at hd; cases hd
  | some ds =>
    rw [hq] at hd
    simp only at hd
    split at hd
    · rename_i hf
      rw [Bool.and_eq_true] at hf
      have e := (Option.some.inj hd).symm
      subst e
      obtain ⟨a, xs, rfl, q, r⟩ := own_sq hq oy st.sub
      obtain ⟨h1, h2⟩ := flat_own hf.1 ox
      obtain ⟨h3, h4⟩ := any_own h1 hf.2 r
      refine ⟨a, xs, rfl, q, h2, h3, ?_⟩
      rw [if_neg Bool.false_ne_true]
      unfold inV
      rw [h4]
      exact k _ F H zf Le.refl (fun _ _ => rfl) (st.less fun z => by show zf z + S z ≤ _; unfold zf; omega) rfl
    · cases hd
theorem d_nin : Does2 X cl ninD (rIn X.K true) := fun x y d hd G F H S B C vx vy Q st ox oy k => by
  unfold ninD at hd
  cases hq : sq y with
  | none => rw [hq] at hd; cases hd
  | some ds =>
    rw [hq] at hd
    simp only at hd
    split at hd
    · rename_i hf
      rw [Bool.and_eq_true] at hf
      have e := (Option.some.inj hd).symm
      subst e
      obtain ⟨a, xs, rfl, q, r⟩ := own_sq hq oy st.sub
      obtain ⟨h1, h2⟩ := flat_own hf.1 ox
      obtain ⟨h3, h4⟩ := any_own h1 hf.2 r
      refine ⟨a, xs, rfl, q, h2, h3, ?_⟩
      rw [if_pos rfl]
      unfold inV
      rw [h4]
      exact k _ F H zf Le.refl (fun _ _ => rfl) (st.less fun z => by show zf z + S z ≤ _; unfold zf; omega) rfl
    · cases hd
/-- xs[i], of what is no name -/
def ixD (x y : D) : Option D := match sq x, y with | some ds, .int i => atI ds i | _, _ => none
theorem atI_own {ds : List D} {vs : List V} {A : Fp} {i : Int} {d : D} (o : Owns K cl F H ds vs A) (h : atI ds i = some d) : ∃ v, atI vs i = some v ∧ Own K cl F H d v A := by
  have hl := Owns.length o
  unfold atI at h ⊢
  rw [← hl]
  cases hq : ixN ds.length i with
  | none => rw [hq] at h; cases h
  | some j =>
    rw [hq] at h
    exact o.get h
theorem d_ix : Does2 X cl ixD (rIx X.K) := fun x y d hd G F H S B C vx vy Q st ox oy k => by
  unfold ixD at hd
  split at hd
  · rename_i ds i hq
    obtain ⟨a, xs, rfl, q, r⟩ := own_sq hq ox st.sub
    obtain ⟨v, hv, ov⟩ := atI_own r hd
    have ei : vy = .int i := oy
    have kk := k v F H C Le.refl (fun _ _ => rfl) (st.less fun z => by show C z + S z ≤ B z + (C z + S z); omega) ov
    rcases q with q | q
    · exact .inl ⟨a, xs, i, v, rfl, ei, q, hv, kk⟩
    · exact .inr (.inl ⟨a, xs, i, v, rfl, ei, q, hv, kk⟩)
  · cases hd
end
end FL

set_option Elab.async false
set_option linter.all false
set_option maxRecDepth 100000
namespace FL
open PySem L2
section
variable {X : Cx} {cl : Tb} {W : WX'} {K : PySem.W.Frag}
variable {G : Gh} {F H F' H' : Hp} {R B A A' : Fp} {σ : St} {ρ ρ' : Rho} {pos : Pos}

/-! ### operators, as written -/
theorem bin_imp {a b : Rho → RX D} {f : D → D → Option D} {r : R2} (hf : Does2 X cl f r) {σ : St} {H : Hp} {Q : VK} (q : tX X.K cl W (rD X.K cl) (eBin f a b) σ H Q) : tOp r (tX X.K cl W (rD X.K cl) a) (tX X.K cl W (rD X.K cl) b) σ H Q := by
  obtain ⟨G, F, ρ, A, R, st, en, p⟩ := q
  refine ⟨G, F, ρ, A, R, st, en, Pst.bind p fun x ρ1 v1 F1 H1 A1 B1 e1 o1 p1 => ?_⟩
  refine tX.run e1 (Pst.bindC p1 fun y ρ2 v2 F2 H2 A2 B2 e2 o2 p2 => ?_)
  cases hd : f x y with
  | none => rw [hd] at p2; exact p2.elim
  | some d =>
    rw [hd] at p2
    refine hf x y d hd G F2 H2 (fun z => A2 z + R z) B2 B1 v1 v2 Q (e2.st.less fun z => ?_) (e2.keep o1) o2 (Pst.does p2 (e2.st.less fun z => ?_) e2.en)
    · show B2 z + (B1 z + (A2 z + R z)) ≤ A2 z + (B2 z + (B1 z + R z)); omega
    · show A2 z + R z ≤ A2 z + (B2 z + (B1 z + R z)); omega
/-- two ways to read an operator -/
def orO (f g : D → D → Option D) (x y : D) : Option D := match f x y with | some d => some d | none => g x y
theorem Does2.or {f g : D → D → Option D} {r r' : R2} (h : Does2 X cl f r) (h' : Does2 X cl g r') : Does2 X cl (orO f g) (fun x y H Q => r x y H Q ∨ r' x y H Q) := fun x y d hd G F H S B C vx vy Q st ox oy k => by
  unfold orO at hd
  cases hf : f x y with
  | some w =>
    rw [hf] at hd
    have e := Option.some.inj hd
    subst e
    exact .inl (h x y _ hf G F H S B C vx vy Q st ox oy k)
  | none =>
    rw [hf] at hd
    exact .inr (h' x y d hd G F H S B C vx vy Q st ox oy k)
section
variable {a b c : Expr} {ma mb mc : Rho → RX D}
theorem fe_op {op : Operator} {f : D → D → Option D} {r : R2} (hf : Does2 X cl f r) (ho : OpR X (binaryOp op) r) (ha : FE X cl W a ma) (hb : FE X cl W b mb) : FE X cl W (.BinOp a op b pos) (eBin f ma mb) := fe_bin hf (pe_op ho ha hb)
theorem fe_neg (ha : FE X cl W a ma) : FE X cl W (.UnaryOp .USub a pos) (eUn negD ma) := fe_un d_neg (pe_un un_neg ha)
theorem fe_cmp {op : CmpOp} {f : D → D → Option D} {r : R2} (hf : Does2 X cl f r) (ho : OpR X (compareOp op) r) (ha : FE X cl W a ma) (hb : FE X cl W b mb) (hm : behindInMarks op b = false) : FE X cl W (.Compare a [op] [b] pos) (eBin f ma mb) := fe_bin hf (pe_cmpR ho ha hb hm)
theorem ft_cmpR {op : CmpOp} {f : D → D → Option D} {r : R2} (hf : Does2 X cl f r) (ho : OpR X (compareOp op) r) (ha : FE X cl W a ma) (hb : FE X cl W b mb) (hm : behindInMarks op b = false) : FT X cl W (.Compare a [op] [b] pos) (tB1 (eBin f ma mb)) := ft_cmp (pt_cmpR ho ha hb hm) fun _ _ _ q => bin_imp hf q
theorem fe_chain {op op' : CmpOp} {f g : D → D → Option D} {r r' : R2} (hf : Does2 X cl f r) (hg : Does2 X cl g r') (ho : OpR X (compareOp op) r) (ho' : OpR X (compareOp op') r') (ha : FE X cl W a ma) (hb : FE X cl W b mb) (hc : FE X cl W c mc)
    (hm : lastMarks [op, op'] [b, c] = false) : FE X cl W (.Compare a [op, op'] [b, c] pos) (eChain f g ma mb mc) := PE_imp (pe_chain ho ho' ha hb hc hm) fun _ _ _ q => chain_imp hf hg q
theorem ft_chain {op op' : CmpOp} {f g : D → D → Option D} {r r' : R2} (hf : Does2 X cl f r) (hg : Does2 X cl g r') (ho : OpR X (compareOp op) r) (ho' : OpR X (compareOp op') r') (ha : FE X cl W a ma) (hb : FE X cl W b mb) (hc : FE X cl W c mc)
    (hm : lastMarks [op, op'] [b, c] = false) : FT X cl W (.Compare a [op, op'] [b, c] pos) (tB1 (eChain f g ma mb mc)) := PT_imp (pt_chain ho ho' ha hb hc hm) fun σ H Q q => by
  have q' : tX X.K cl W (rD X.K cl) (eChain f g ma mb mc) σ H (fun x H' => ∃ k, x = .bl k ∧ Q k H') := by
    obtain ⟨G, F, ρ, A, R, st, en, p⟩ := q
    refine ⟨G, F, ρ, A, R, st, en, Pst.bind p fun x ρ1 v1 F1 H1 A1 B1 e1 o1 p1 => ?_⟩
    cases x with
    | bl k => exact ⟨k, o1, Pst.ok p1 e1 rfl⟩
    | _ => exact p1.elim
  exact chain_imp hf hg q'
theorem fe_ix (ha : FE X cl W a ma) (hb : FE X cl W b mb) (hs : PlainIx b) : FE X cl W (.Subscript a b pos) (eBin ixD ma mb) := fe_bin d_ix (pe_ix ix_seq ha hb hs)
end

/-! ### the names' rules -/
theorem fe_v (i : Nat) {x : Str} {pos : Pos} (hN : X.N[i]? = some x := by rfl) (hv : Vis X.env.scope x := by first | exact Or.inl rfl | exact Or.inr (Or.inl rfl) | exact Or.inr (Or.inr rfl)) (hd : (x == ("__debug__" : Str)) = false := by decide)
    (hcd : (x == ("__classdict__" : Str)) = false := by decide) : FE X cl W (.Name x pos) (eV i) := fe_var (pv i hN hv hd hcd)
theorem fe_m (i : Nat) {x : Str} {pos : Pos} (hN : X.N[i]? = some x := by rfl) (hv : Vis X.env.scope x := by first | exact Or.inl rfl | exact Or.inr (Or.inl rfl) | exact Or.inr (Or.inr rfl)) (hd : (x == ("__debug__" : Str)) = false := by decide)
    (hcd : (x == ("__classdict__" : Str)) = false := by decide) : FE X cl W (.Name x pos) (eM i) := fe_move (pv i hN hv hd hcd)

/-! ### quiet parts: nothing is made, nothing changes; what it comes to may stay in the frame -/
def tQ (K : PySem.W.Frag) (cl : Tb) (m : Rho → Option D) (σ : St) (H : Hp) (Q : V → Hp → Prop) : Prop :=
  ∃ (G : Gh) (F : Hp) (ρ : Rho) (A R : Fp), Sta G F H (fun x => A x + R x) ∧ EnvR K cl F H ρ σ A ∧ match m ρ with | some d => ∀ v, Own K cl F H d v A → Q v H | none => False
def tQT (K : PySem.W.Frag) (cl : Tb) (m : Rho → Option Bool) (σ : St) (H : Hp) (Q : Bool → Hp → Prop) : Prop :=
  ∃ (G : Gh) (F : Hp) (ρ : Rho) (A R : Fp), Sta G F H (fun x => A x + R x) ∧ EnvR K cl F H ρ σ A ∧ match m ρ with | some b => Q b H | none => False
abbrev FQ (X : Cx) (cl : Tb) (e : Expr) (m : Rho → Option D) : Prop := PE X e (tQ X.K cl m)
abbrev FQT (X : Cx) (cl : Tb) (e : Expr) (m : Rho → Option Bool) : Prop := PT X e (tQT X.K cl m)
def qV (i : Nat) : Rho → Option D := fun ρ => match ρ[i]? with | some (some d) => some d | _ => none
def qC (d : D) : Rho → Option D := fun _ => some d
def qBin (f : D → D → Option D) (a b : Rho → Option D) : Rho → Option D := fun ρ => (a ρ).bind fun x => (b ρ).bind fun y => f x y
def qUn (f : D → Option D) (a : Rho → Option D) : Rho → Option D := fun ρ => (a ρ).bind f
def qB (a : Rho → Option D) : Rho → Option Bool := fun ρ => (a ρ).bind fun x => match x with | .bl b => some b | _ => none
def andB : D → Option D → Option D
  | .bl true, k => k
  | .bl false, _ => some (.bl false)
  | _, _ => none
def orB : D → Option D → Option D
  | .bl true, _ => some (.bl true)
  | .bl false, k => k
  | _, _ => none
def qAnd (a b : Rho → Option D) : Rho → Option D := fun ρ => (a ρ).bind fun x => andB x (b ρ)
def qOr (a b : Rho → Option D) : Rho → Option D := fun ρ => (a ρ).bind fun x => orB x (b ρ)
def qNot (a : Rho → Option D) : Rho → Option D := fun ρ => (a ρ).bind fun x => match x with | .bl b => some (.bl (!b)) | _ => none
def qIf (t : Rho → Option Bool) (a b : Rho → Option D) : Rho → Option D := fun ρ => (t ρ).bind fun x => if x then a ρ else b ρ
def qAndT (a b : Rho → Option Bool) : Rho → Option Bool := fun ρ => (a ρ).bind fun x => if x then b ρ else some false
def qOrT (a b : Rho → Option Bool) : Rho → Option Bool := fun ρ => (a ρ).bind fun x => if x then some true else b ρ
def qNotT (a : Rho → Option Bool) : Rho → Option Bool := fun ρ => (a ρ).bind fun x => some (!x)
def qChain (f g : D → D → Option D) (a b c : Rho → Option D) : Rho → Option D := fun ρ => (a ρ).bind fun x => (b ρ).bind fun y => (f x y).bind fun r => andB r ((c ρ).bind fun z => g y z)

/-- a rule that changes nothing -/
def Quiet2 (X : Cx) (cl : Tb) (f : D → D → Option D) (r : R2) : Prop :=
  ∀ (x y d : D), f x y = some d → ∀ (F H : Hp) (A : Fp) (vx vy : V) (Q : VK), Le F H → Own X.K cl F H x vx A → Own X.K cl F H y vy A → (∀ v, Own X.K cl F H d v A → Q v H) → r vx vy H Q
def QuietL (X : Cx) (cl : Tb) (f : List D → Option D) (r : List V → Hp → VK → Prop) : Prop :=
  ∀ (x : List D) (d : D), f x = some d → ∀ (F H : Hp) (A : Fp) (vx : List V) (Q : VK), Le F H → Owns X.K cl F H x vx (fun z => A z + A z) → (∀ v, Own X.K cl F H d v A → Q v H) → r vx H Q
theorem q_iOp {C : Int → Int → Bool} {g : Int → Int → D} {C' : Int → Int → Prop} {g' : Int → Int → V} (hC : ∀ i j, C i j = true → C' i j) (hg : ∀ i j F H A, Own X.K cl F H (g i j) (g' i j) A) : Quiet2 X cl (iOp C g) (rI C' g') := fun x y d hd F H A vx vy Q sub ox oy k => by
  obtain ⟨i, j, rfl, rfl, hc, rfl⟩ := iOp_some hd
  exact ⟨i, j, ox, oy, hC i j hc, k _ (hg i j F H A)⟩
theorem q_iOp0 {g : Int → Int → D} {g' : Int → Int → V} (hg : ∀ i j F H A, Own X.K cl F H (g i j) (g' i j) A) : Quiet2 X cl (iOp yes2 g) (rI0 g') := fun x y d hd F H A vx vy Q sub ox oy k => by
  obtain ⟨i, j, rfl, rfl, hc, rfl⟩ := iOp_some hd
  exact ⟨i, j, ox, oy, k _ (hg i j F H A)⟩
theorem q_sub : Quiet2 X cl subD (rI0 fun i j => .int (i - j)) := q_iOp0 fun _ _ _ _ _ => rfl
theorem q_addI : Quiet2 X cl addI (rI0 fun i j => .int (i + j)) := q_iOp0 fun _ _ _ _ _ => rfl
theorem q_mul : Quiet2 X cl mulD (rI CMul fun i j => .int (i * j)) := q_iOp (fun i j h => by unfold mulOk at h; have h' := of_yes h; exact h') fun _ _ _ _ _ => rfl
theorem q_mod : Quiet2 X cl modD (rI (fun _ j => 0 < j) fun i j => .int (i % j)) := q_iOp (fun _ _ h => of_yes h) fun _ _ _ _ _ => rfl
theorem q_div : Quiet2 X cl divD (rI CDiv fun i j => .int (i / j)) := q_iOp (fun i j h => by unfold divOk at h; have h' := of_yes h; exact h') fun _ _ _ _ _ => rfl
theorem q_lt : Quiet2 X cl ltD (rI0 fun i j => .bl (decide (i < j))) := q_iOp0 fun _ _ _ _ _ => rfl
theorem q_le : Quiet2 X cl leD (rI0 fun i j => .bl (decide (i ≤ j))) := q_iOp0 fun _ _ _ _ _ => rfl
theorem q_gt : Quiet2 X cl gtD (rI0 fun i j => .bl (decide (j < i))) := q_iOp0 fun _ _ _ _ _ => rfl
theorem q_ge : Quiet2 X cl geD (rI0 fun i j => .bl (decide (j ≤ i))) := q_iOp0 fun _ _ _ _ _ => rfl
theorem q_eqS : Quiet2 X cl eqS rEq := fun x y d hd F H A vx vy Q sub ox oy k => by
  unfold eqS at hd
  cases hx : scl x with
  | none => rw [hx] at hd; cases hd
  | some v =>
    cases hy : scl y with
    | none => rw [hx, hy] at hd; cases hd
    | some w =>
      rw [hx, hy] at hd
      simp only at hd
      split at hd
      · rename_i hs
        have e1 := scl_own hx ox
        have e2 := scl_own hy oy
        subst e1 e2
        have e3 := (Option.some.inj hd).symm
        subst e3
        exact ⟨hs, k _ rfl⟩
      · cases hd
theorem q_neS : Quiet2 X cl neS rNe := fun x y d hd F H A vx vy Q sub ox oy k => by
  unfold neS at hd
  cases hx : scl x with
  | none => rw [hx] at hd; cases hd
  | some v =>
    cases hy : scl y with
    | none => rw [hx, hy] at hd; cases hd
    | some w =>
      rw [hx, hy] at hd
      simp only at hd
      split at hd
      · rename_i hs
        have e1 := scl_own hx ox
        have e2 := scl_own hy oy
        subst e1 e2
        have e3 := (Option.some.inj hd).symm
        subst e3
        exact ⟨hs, k _ rfl⟩
      · cases hd
theorem q_isB : Quiet2 X cl isB rIsB := fun x y d hd F H A vx vy Q sub ox oy k => by
  unfold isB at hd
  split at hd
  · rename_i a b
    have e := (Option.some.inj hd).symm
    subst e
    exact ⟨a, b, ox, oy, k _ rfl⟩
  · cases hd
theorem q_isN : Quiet2 X cl isN (fun x y H Q => y = .non ∧ Q (.bl (decide (x = .non))) H) := fun x y d hd F H A vx vy Q sub ox oy k => by
  unfold isN at hd
  split at hd
  · rename_i hy
    have e := (Option.some.inj hd).symm
    subst e
    refine ⟨isNon_own hy oy, ?_⟩
    rw [own_non ox]
    exact k _ rfl
  · cases hd
theorem q_notN : Quiet2 X cl notN (fun x y H Q => y = .non ∧ Q (.bl (!decide (x = .non))) H) := fun x y d hd F H A vx vy Q sub ox oy k => by
  unfold notN at hd
  split at hd
  · rename_i hy
    have e := (Option.some.inj hd).symm
    subst e
    refine ⟨isNon_own hy oy, ?_⟩
    rw [own_non ox]
    exact k _ rfl
  · cases hd
theorem q_in : Quiet2 X cl inD (rIn X.K false) := fun x y d hd F H A vx vy Q sub ox oy k => by
  unfold inD at hd
  cases hq : sq y with
  | none => rw [hq] at hd; cases hd
  | some ds =>
    rw [hq] at hd
    simp only at hd
    split at hd
    · rename_i hf
      rw [Bool.and_eq_true] at hf
      have e := (Option.some.inj hd).symm
      subst e
      obtain ⟨a, xs, rfl, q, r⟩ := own_sq hq oy sub
      obtain ⟨h1, h2⟩ := flat_own hf.1 ox
      obtain ⟨h3, h4⟩ := any_own h1 hf.2 r
      refine ⟨a, xs, rfl, q, h2, h3, ?_⟩
      rw [if_neg Bool.false_ne_true]
      unfold inV
      rw [h4]
      exact k _ rfl
    · cases hd
theorem q_nin : Quiet2 X cl ninD (rIn X.K true) := fun x y d hd F H A vx vy Q sub ox oy k => by
  unfold ninD at hd
  cases hq : sq y with
  | none => rw [hq] at hd; cases hd
  | some ds =>
    rw [hq] at hd
    simp only at hd
    split at hd
    · rename_i hf
      rw [Bool.and_eq_true] at hf
      have e := (Option.some.inj hd).symm
      subst e
      obtain ⟨a, xs, rfl, q, r⟩ := own_sq hq oy sub
      obtain ⟨h1, h2⟩ := flat_own hf.1 ox
      obtain ⟨h3, h4⟩ := any_own h1 hf.2 r
      refine ⟨a, xs, rfl, q, h2, h3, ?_⟩
      rw [if_pos rfl]
      unfold inV
      rw [h4]
      exact k _ rfl
    · cases hd
theorem q_ix : Quiet2 X cl ixD (rIx X.K) := fun x y d hd F H A vx vy Q sub ox oy k => by
  unfold ixD at hd
  split at hd
  · rename_i ds i hq
    obtain ⟨a, xs, rfl, q, r⟩ := own_sq hq ox sub
    obtain ⟨v, hv, ov⟩ := atI_own r hd
    have ei : vy = .int i := oy
    rcases q with q | q
    · exact .inl ⟨a, xs, i, v, rfl, ei, q, hv, k v ov⟩
    · exact .inr (.inl ⟨a, xs, i, v, rfl, ei, q, hv, k v ov⟩)
  · cases hd
theorem Quiet2.or {f g : D → D → Option D} {r r' : R2} (h : Quiet2 X cl f r) (h' : Quiet2 X cl g r') : Quiet2 X cl (orO f g) (fun x y H Q => r x y H Q ∨ r' x y H Q) := fun x y d hd F H A vx vy Q sub ox oy k => by
  unfold orO at hd
  cases hf : f x y with
  | some w =>
    rw [hf] at hd
    have e := Option.some.inj hd
    subst e
    exact .inl (h x y _ hf F H A vx vy Q sub ox oy k)
  | none =>
    rw [hf] at hd
    exact .inr (h' x y d hd F H A vx vy Q sub ox oy k)

theorem fq_const {e : Expr} {d : D} {v : V} (h : PE X e (tC v)) (hd : ∀ F H A w, Own X.K cl F H d w A ↔ w = v) : FQ X cl e (qC d) := PE_imp h fun σ H Q q => by
  obtain ⟨G, F, ρ, A, R, st, en, p⟩ := q
  exact p v ((hd _ _ _ _).mpr rfl)
theorem fq_int {i j pos} : FQ X cl (.Constant (.int i) j pos) (qC (.int i)) := fq_const pe_int fun _ _ _ _ => Iff.rfl
theorem fq_bl {b j pos} : FQ X cl (.Constant (.bool b) j pos) (qC (.bl b)) := fq_const pe_bl fun _ _ _ _ => Iff.rfl
theorem fq_non {j pos} : FQ X cl (.Constant .none j pos) (qC .non) := fq_const pe_non fun _ _ _ _ => Iff.rfl
theorem fq_str {x j pos} : FQ X cl (.Constant (.str x) j pos) (qC (.str x)) := fq_const pe_str fun _ _ _ _ => Iff.rfl
theorem fq_var {i : Nat} {x : Str} {pos : Pos} (h : PE X (.Name x pos) (tVar i)) : FQ X cl (.Name x pos) (qV i) := PE_imp h fun σ H Q q => by
  obtain ⟨G, F, ρ, A, R, st, en, p⟩ := q
  unfold qV at p
  cases e : ρ[i]? with
  | none => rw [e] at p; exact p.elim
  | some o =>
    cases o with
    | none => rw [e] at p; exact p.elim
    | some d =>
      rw [e] at p
      obtain ⟨v, B, C, hv, o, en', hs⟩ := en.get e
      exact ⟨v, hv, p v (o.up fun x => by have := hs x; omega)⟩
theorem fq_v (i : Nat) {x : Str} {pos : Pos} (hN : X.N[i]? = some x := by rfl) (hv : Vis X.env.scope x := by first | exact Or.inl rfl | exact Or.inr (Or.inl rfl) | exact Or.inr (Or.inr rfl)) (hd : (x == ("__debug__" : Str)) = false := by decide)
    (hcd : (x == ("__classdict__" : Str)) = false := by decide) : FQ X cl (.Name x pos) (qV i) := fq_var (pv i hN hv hd hcd)
/-- a quiet part as a value: it must be pure, or its frame's thing is taken by hand -/
def eQ (m : Rho → Option D) : Rho → RX D := fun ρ => match m ρ with | some d => if d.pure then .ok d ρ else .bad | none => .bad
theorem fe_q {e : Expr} {m : Rho → Option D} (h : FQ X cl e m) : FE X cl W e (eQ m) := PE_imp h fun σ H Q q => by
  obtain ⟨G, F, ρ, A, R, st, en, p⟩ := q
  refine ⟨G, F, ρ, A, R, st, en, ?_⟩
  unfold eQ at p
  cases hm : m ρ with
  | none => rw [hm] at p; exact p.elim
  | some d =>
    rw [hm] at p
    by_cases hp : d.pure = true
    · simp only [hp, if_true] at p
      exact fun v o => p v F H A zf (Ev.self st en) (o.of_pure hp)
    · simp only [hp] at p; exact p.elim
def tQ1 (m : Rho → Option Bool) : Rho → RX Bool := fun ρ => match m ρ with | some b => .ok b ρ | none => .bad
theorem ft_q {e : Expr} {m : Rho → Option Bool} (h : FQT X cl e m) : FT X cl W e (tQ1 m) := PT_imp h fun σ H Q q => by
  obtain ⟨G, F, ρ, A, R, st, en, p⟩ := q
  refine ⟨G, F, ρ, A, R, st, en, ?_⟩
  unfold tQ1 at p
  cases hm : m ρ with
  | none => rw [hm] at p; exact p.elim
  | some b => rw [hm] at p; exact p b F H A zf (Ev.self st en) rfl
theorem qbin_imp {a b : Rho → Option D} {f : D → D → Option D} {r : R2} (hf : Quiet2 X cl f r) {σ : St} {H : Hp} {Q : VK} (q : tQ X.K cl (qBin f a b) σ H Q) : tOp r (tQ X.K cl a) (tQ X.K cl b) σ H Q := by
  obtain ⟨G, F, ρ, A, R, st, en, p⟩ := q
  refine ⟨G, F, ρ, A, R, st, en, ?_⟩
  unfold qBin at p
  cases ha : a ρ with
  | none => rw [ha] at p; exact p.elim
  | some x =>
    rw [ha] at p
    intro v1 o1
    refine ⟨G, F, ρ, A, R, st, en, ?_⟩
    cases hb : b ρ with
    | none => simp only [Option.bind_some, hb] at p; exact p.elim
    | some y =>
      simp only [Option.bind_some, hb] at p
      intro v2 o2
      cases hd : f x y with
      | none => rw [hd] at p; exact p.elim
      | some d =>
        rw [hd] at p
        exact hf x y d hd F H A v1 v2 Q st.sub o1 o2 p
theorem fq_bin {e : Expr} {a b : Rho → Option D} {f : D → D → Option D} {r : R2} (hf : Quiet2 X cl f r) (h : PE X e (tOp r (tQ X.K cl a) (tQ X.K cl b))) : FQ X cl e (qBin f a b) := PE_imp h fun _ _ _ q => qbin_imp hf q
section
variable {a b c : Expr} {ma mb mc : Rho → Option D} {rest : List Expr}
theorem fq_op {op : Operator} {f : D → D → Option D} {r : R2} (hf : Quiet2 X cl f r) (ho : OpR X (binaryOp op) r) (ha : FQ X cl a ma) (hb : FQ X cl b mb) : FQ X cl (.BinOp a op b pos) (qBin f ma mb) := fq_bin hf (pe_op ho ha hb)
theorem fq_cmp {op : CmpOp} {f : D → D → Option D} {r : R2} (hf : Quiet2 X cl f r) (ho : OpR X (compareOp op) r) (ha : FQ X cl a ma) (hb : FQ X cl b mb) (hm : behindInMarks op b = false) : FQ X cl (.Compare a [op] [b] pos) (qBin f ma mb) := fq_bin hf (pe_cmpR ho ha hb hm)
theorem fq_ix (ha : FQ X cl a ma) (hb : FQ X cl b mb) (hs : PlainIx b) : FQ X cl (.Subscript a b pos) (qBin ixD ma mb) := fq_bin q_ix (pe_ix ix_seq ha hb hs)
theorem fq_neg (ha : FQ X cl a ma) : FQ X cl (.UnaryOp .USub a pos) (qUn negD ma) := PE_imp (pe_un un_neg ha) fun σ H Q q => by
  obtain ⟨G, F, ρ, A, R, st, en, p⟩ := q
  refine ⟨G, F, ρ, A, R, st, en, ?_⟩
  unfold qUn at p
  cases ha : ma ρ with
  | none => rw [ha] at p; exact p.elim
  | some x =>
    rw [ha] at p
    intro v1 o1
    cases x with
    | int i => exact ⟨i, o1, p _ rfl⟩
    | _ => exact p.elim
theorem fqt_val {e : Expr} {m : Rho → Option D} (h : FQ X cl e m) (he : ∀ whole, isTrue e X.env whole = (do let v ← whole; standAt e.pos; holding [v] (truthy v)) := by intro _; rfl) : FQT X cl e (qB m) := PT_imp (pt_val h he) fun σ H Q q => by
  obtain ⟨G, F, ρ, A, R, st, en, p⟩ := q
  refine ⟨G, F, ρ, A, R, st, en, ?_⟩
  unfold qB at p
  cases ha : m ρ with
  | none => rw [ha] at p; exact p.elim
  | some x =>
    rw [ha] at p
    intro v1 o1
    cases x with
    | bl b => exact ⟨b, o1, p⟩
    | _ => exact p.elim
theorem fqt_cmp {op : CmpOp} {f : D → D → Option D} {r : R2} (hf : Quiet2 X cl f r) (ho : OpR X (compareOp op) r) (ha : FQ X cl a ma) (hb : FQ X cl b mb) (hm : behindInMarks op b = false) : FQT X cl (.Compare a [op] [b] pos) (qB (qBin f ma mb)) := PT_imp (pt_cmpR ho ha hb hm) fun σ H Q q => by
  refine qbin_imp hf ?_
  obtain ⟨G, F, ρ, A, R, st, en, p⟩ := q
  refine ⟨G, F, ρ, A, R, st, en, ?_⟩
  unfold qB at p
  cases ha : qBin f ma mb ρ with
  | none => rw [ha] at p; exact p.elim
  | some x =>
    rw [ha] at p
    intro v1 o1
    cases x with
    | bl b => exact ⟨b, o1, p⟩
    | _ => exact p.elim
theorem qchain_imp {f g : D → D → Option D} {r r' : R2} (hf : Quiet2 X cl f r) (hg : Quiet2 X cl g r') {σ : St} {H : Hp} {Q : VK} (q : tQ X.K cl (qChain f g ma mb mc) σ H Q) : tChain r r' (tQ X.K cl ma) (tQ X.K cl mb) (tQ X.K cl mc) σ H Q := by
  obtain ⟨G, F, ρ, A, R, st, en, p⟩ := q
  refine ⟨G, F, ρ, A, R, st, en, ?_⟩
  unfold qChain at p
  cases ha : ma ρ with
  | none => rw [ha] at p; exact p.elim
  | some x =>
    rw [ha] at p
    intro v1 o1
    refine ⟨G, F, ρ, A, R, st, en, ?_⟩
    cases hb : mb ρ with
    | none => simp only [Option.bind_some, hb] at p; exact p.elim
    | some y =>
      simp only [Option.bind_some, hb] at p
      intro v2 o2
      cases hd : f x y with
      | none => rw [hd] at p; exact p.elim
      | some d =>
        simp only [Option.bind_some, hd] at p
        cases d with
        | bl k =>
          refine hf x y _ hd F H A v1 v2 _ st.sub o1 o2 fun w ow => ⟨k, ow, ?_⟩
          cases k with
          | true =>
            rw [if_pos rfl]
            refine ⟨G, F, ρ, A, R, st, en, ?_⟩
            have p : match (mc ρ).bind fun z => g y z with | some d => ∀ v, Own X.K cl F H d v A → Q v H | none => False := p
            cases hc : mc ρ with
            | none => simp only [hc] at p; exact p.elim
            | some z =>
              simp only [hc, Option.bind_some] at p
              intro v3 o3
              cases hd2 : g y z with
              | none => rw [hd2] at p; exact p.elim
              | some d =>
                rw [hd2] at p
                exact hg y z d hd2 F H A v2 v3 Q st.sub o2 o3 p
          | false => rw [if_neg Bool.false_ne_true]; exact p _ rfl
        | _ => exact p.elim
theorem fq_chain {op op' : CmpOp} {f g : D → D → Option D} {r r' : R2} (hf : Quiet2 X cl f r) (hg : Quiet2 X cl g r') (ho : OpR X (compareOp op) r) (ho' : OpR X (compareOp op') r') (ha : FQ X cl a ma) (hb : FQ X cl b mb) (hc : FQ X cl c mc)
    (hm : lastMarks [op, op'] [b, c] = false) : FQ X cl (.Compare a [op, op'] [b, c] pos) (qChain f g ma mb mc) := PE_imp (pe_chain ho ho' ha hb hc hm) fun _ _ _ q => qchain_imp hf hg q
theorem fqt_chain {op op' : CmpOp} {f g : D → D → Option D} {r r' : R2} (hf : Quiet2 X cl f r) (hg : Quiet2 X cl g r') (ho : OpR X (compareOp op) r) (ho' : OpR X (compareOp op') r') (ha : FQ X cl a ma) (hb : FQ X cl b mb) (hc : FQ X cl c mc)
    (hm : lastMarks [op, op'] [b, c] = false) : FQT X cl (.Compare a [op, op'] [b, c] pos) (qB (qChain f g ma mb mc)) := PT_imp (pt_chain ho ho' ha hb hc hm) fun σ H Q q => by
  have q' : tQ X.K cl (qChain f g ma mb mc) σ H (fun x H' => ∃ k, x = .bl k ∧ Q k H') := by
    obtain ⟨G, F, ρ, A, R, st, en, p⟩ := q
    refine ⟨G, F, ρ, A, R, st, en, ?_⟩
    unfold qB at p
    cases ha : qChain f g ma mb mc ρ with
    | none => rw [ha] at p; exact p.elim
    | some x =>
      rw [ha] at p
      intro v1 o1
      cases x with
      | bl b => exact ⟨b, o1, p⟩
      | _ => exact p.elim
  exact qchain_imp hf hg q'
theorem fq_and (ha : FQ X cl a ma) (hb : FQ X cl (.BoolOp .And (b :: rest) pos) mb) : FQ X cl (.BoolOp .And (a :: b :: rest) pos) (qAnd ma mb) := PE_imp (pe_and ha hb) fun σ H Q q => by
  obtain ⟨G, F, ρ, A, R, st, en, p⟩ := q
  refine ⟨G, F, ρ, A, R, st, en, ?_⟩
  unfold qAnd at p
  cases ha : ma ρ with
  | none => rw [ha] at p; exact p.elim
  | some x =>
    rw [ha] at p
    intro v1 o1
    cases x with
    | bl k =>
      refine ⟨k, o1, ?_⟩
      cases k with
      | true => exact ⟨G, F, ρ, A, R, st, en, p⟩
      | false => exact p _ rfl
    | _ => exact p.elim
theorem fq_or (ha : FQ X cl a ma) (hb : FQ X cl (.BoolOp .Or (b :: rest) pos) mb) : FQ X cl (.BoolOp .Or (a :: b :: rest) pos) (qOr ma mb) := PE_imp (pe_or ha hb) fun σ H Q q => by
  obtain ⟨G, F, ρ, A, R, st, en, p⟩ := q
  refine ⟨G, F, ρ, A, R, st, en, ?_⟩
  unfold qOr at p
  cases ha : ma ρ with
  | none => rw [ha] at p; exact p.elim
  | some x =>
    rw [ha] at p
    intro v1 o1
    cases x with
    | bl k =>
      refine ⟨k, o1, ?_⟩
      cases k with
      | true => exact p _ rfl
      | false => exact ⟨G, F, ρ, A, R, st, en, p⟩
    | _ => exact p.elim
theorem fq_one {op} (ha : FQ X cl a ma) : FQ X cl (.BoolOp op [a] pos) ma := pe_one ha
theorem fq_not (ha : FQ X cl a ma) : FQ X cl (.UnaryOp .Not a pos) (qNot ma) := PE_imp (pe_not ha) fun σ H Q q => by
  obtain ⟨G, F, ρ, A, R, st, en, p⟩ := q
  refine ⟨G, F, ρ, A, R, st, en, ?_⟩
  unfold qNot at p
  cases ha : ma ρ with
  | none => rw [ha] at p; exact p.elim
  | some x =>
    rw [ha] at p
    intro v1 o1
    cases x with
    | bl k => exact ⟨k, o1, p _ rfl⟩
    | _ => exact p.elim
abbrev FQW (X : Cx) (cl : Tb) (e : Expr) (m : Rho → Option Bool) : Prop := PW X e (tQT X.K cl m)
theorem fqw_and1 {m : Rho → Option Bool} (h : FQT X cl a m) : FQW X cl (.BoolOp .And [a] pos) m := pw_and1 h
theorem fqw_or1 {m : Rho → Option Bool} (h : FQT X cl a m) : FQW X cl (.BoolOp .Or [a] pos) m := pw_or1 h
theorem fqw_and {m n : Rho → Option Bool} (ha : FQT X cl a m) (hb : FQW X cl (.BoolOp .And (b :: rest) pos) n) : FQW X cl (.BoolOp .And (a :: b :: rest) pos) (qAndT m n) := PW_imp (pw_and ha hb) fun σ H Q q => by
  obtain ⟨G, F, ρ, A, R, st, en, p⟩ := q
  refine ⟨G, F, ρ, A, R, st, en, ?_⟩
  unfold qAndT at p
  cases ha : m ρ with
  | none => rw [ha] at p; exact p.elim
  | some x =>
    rw [ha] at p
    cases x with
    | true => exact ⟨G, F, ρ, A, R, st, en, p⟩
    | false => exact p
theorem fqw_or {m n : Rho → Option Bool} (ha : FQT X cl a m) (hb : FQW X cl (.BoolOp .Or (b :: rest) pos) n) : FQW X cl (.BoolOp .Or (a :: b :: rest) pos) (qOrT m n) := PW_imp (pw_or ha hb) fun σ H Q q => by
  obtain ⟨G, F, ρ, A, R, st, en, p⟩ := q
  refine ⟨G, F, ρ, A, R, st, en, ?_⟩
  unfold qOrT at p
  cases ha : m ρ with
  | none => rw [ha] at p; exact p.elim
  | some x =>
    rw [ha] at p
    cases x with
    | true => exact p
    | false => exact ⟨G, F, ρ, A, R, st, en, p⟩
theorem fqt_not {m : Rho → Option Bool} (h : FQT X cl a m) : FQT X cl (.UnaryOp .Not a pos) (qNotT m) := PT_imp (pt_not h) fun σ H Q q => by
  obtain ⟨G, F, ρ, A, R, st, en, p⟩ := q
  refine ⟨G, F, ρ, A, R, st, en, ?_⟩
  unfold qNotT at p
  cases ha : m ρ with
  | none => rw [ha] at p; exact p.elim
  | some x => rw [ha] at p; exact p
theorem fq_if {t : Rho → Option Bool} (hc : FQT X cl c t) (ha : FQ X cl a ma) (hb : FQ X cl b mb) : FQ X cl (.IfExp c a b pos) (qIf t ma mb) := PE_imp (pe_ifExp hc ha hb) fun σ H Q q => by
  obtain ⟨G, F, ρ, A, R, st, en, p⟩ := q
  refine ⟨G, F, ρ, A, R, st, en, ?_⟩
  unfold qIf at p
  cases ht : t ρ with
  | none => rw [ht] at p; exact p.elim
  | some x =>
    rw [ht] at p
    cases x with
    | true => exact ⟨G, F, ρ, A, R, st, en, p⟩
    | false => exact ⟨G, F, ρ, A, R, st, en, p⟩
end
end
end FL

set_option Elab.async false
set_option linter.all false
set_option maxRecDepth 100000
namespace FL
open PySem L2
/-! ### calls -/
/-- a def at hand: x its name, n its parameters, m what it does, dd the defaults that fill up -/
structure Fnc (P : Program) (w : World) (K : PySem.W.Frag) (mg : Str → Option Value) (base : Heap) (cl : Tb) (x : Str) (k n : Nat) (m : List D → RF) (dd : List D) : Prop where
  ex : ∃ (f : Addr) (fd : FuncData) (ps : List Str) (ds : List Value) (dv : List V), FnOk P w K mg base (L2N.CX P w) k f fd ps (spF K cl n m) ∧ mg x = some (.ref f) ∧ PySem.W.keepIn K (.ref f) = true ∧ Binds K fd ps ds ∧ Vals dv ds ∧ ∀ F H, Owns K cl F H dd dv zf
  len : ∀ l, m l ≠ .bad → l.length = n
def pick {α : Type} (idx : List Nat) (l : List α) : List α := idx.filterMap fun i => l[i]?
/-- .. called with nu positional values and the keywords ks -/
structure FncK (P : Program) (w : World) (K : PySem.W.Frag) (mg : Str → Option Value) (base : Heap) (cl : Tb) (x : Str) (k n : Nat) (m : List D → RF) (nu : Nat) (ks : List Str) (idx : List Nat) (dd : List D) : Prop where
  ex : ∃ (f : Addr) (fd : FuncData) (ps : List Str) (ds : List Value) (dv : List V), FnOk P w K mg base (L2N.CX P w) k f fd ps (spF K cl n m) ∧ mg x = some (.ref f) ∧ PySem.W.keepIn K (.ref f) = true ∧ Vals dv ds ∧ (∀ F H, Owns K cl F H dd dv zf) ∧
    ∀ (s : Shared) (us ws : List Value), K.In s.heap → us.length = nu → ws.length = ks.length → BindsTo s fd ⟨us, ks.zip ws⟩ (ps.zip (pick idx (us ++ ws ++ ds)))
  len : ∀ l, m l ≠ .bad → l.length = n
def eCallK (m : List D → RF) (nu nk : Nat) (idx : List Nat) (dd : List D) (a b : Rho → RX (List D)) : Rho → RX D := fun ρ => (a ρ).bind fun xs ρ1 => (b ρ1).bind fun ys ρ2 =>
  if xs.length = nu ∧ ys.length = nk then
    match m (pick idx (D.frzs xs ++ D.frzs ys ++ dd)) with
    | .rt d => .ok d ρ2
    | .ex c zs => .ex c zs ρ2
    | .bad => .bad
  else .bad
section
variable {X : Cx} {cl : Tb} {W : WX'} {K : PySem.W.Frag}
variable {G : Gh} {F H F' H' : Hp} {R B A A' : Fp} {σ : St} {ρ ρ' : Rho} {pos : Pos}
theorem fe_call {x : Str} {k n : Nat} {m : List D → RF} {dd : List D} {p : Pos} {e : Expr} {es : List Expr} {a : Rho → RX (List D)} (Fc : Fnc X.prog X.w X.K X.mg X.base cl x k n m dd) (hr : Room k X.A) (hg : Gl X x) (tk : L2N.Takes X W) (ha : FA X cl W (e :: es) a)
    (hdb : (x == ("__debug__" : Str)) = false := by decide) (he : starEach (e :: es) X.env = (false, eval e X.env) :: starEach es X.env := by rfl) (hpl : (backTo pos (starEach es X.env)).any (·.1) = false := by rfl) : FE X cl W (.Call (.Name x p) (e :: es) [] pos) (eCall m dd a) := by
  obtain ⟨⟨f, fd, ps, ds, dv, h1, h2, h3, h4, h5, h6⟩, hl⟩ := Fc
  exact PE_imp (pe_callSD h1 hr hg h2 h3 h4 h5 (L2N.passAt tk) ha hdb he hpl) fun σ H Q q => call_imp h6 hl σ H Q q
theorem Vals.pick : ∀ (idx : List Nat) {vs : List V} {us : List Value}, Vals vs us → Vals (FL.pick idx vs) (FL.pick idx us)
  | [], _, _, _ => .nil
  | i :: idx, vs, us, r => by
    have ih := Vals.pick idx r
    unfold FL.pick at ih ⊢
    rw [List.filterMap_cons, List.filterMap_cons]
    cases h : vs[i]? with
    | none => rw [Vals.none_of r h]; exact ih
    | some v =>
      obtain ⟨u, hu, ru⟩ := r.get h
      rw [hu]
      exact .cons ru ih
theorem Owns.pick : ∀ (idx : List Nat) {ds : List D} {vs : List V}, Owns K cl F H ds vs zf → Owns K cl F H (FL.pick idx ds) (FL.pick idx vs) zf
  | [], _, _, _ => rfl
  | i :: idx, ds, vs, o => by
    have ih := Owns.pick idx o
    unfold FL.pick at ih ⊢
    rw [List.filterMap_cons, List.filterMap_cons]
    cases h : ds[i]? with
    | none =>
      have : vs[i]? = none := List.getElem?_eq_none_iff.mpr (by rw [← Owns.length o]; exact List.getElem?_eq_none_iff.mp h)
      rw [this]; exact ih
    | some d =>
      obtain ⟨v, hv, ov⟩ := o.get h
      rw [hv]
      exact ⟨v, _, zf, zf, rfl, ov, ih, fun _ => Nat.le_refl _⟩
abbrev FK (X : Cx) (cl : Tb) (W : WX') (ks : List Keyword) (m : Rho → RX (List D)) : Prop := PK X ks (tX X.K cl W (rL X.K cl) m)
theorem PK_imp {X : Cx} {ks : List Keyword} {t t' : TA} (h : PK X ks t) (i : ∀ σ H Q, t' σ H Q → t σ H Q) : PK X ks t' := ⟨fun pos pins s σ H Q I q => h.run pos pins s σ H Q I (i σ H Q q)⟩
theorem fk_nil : FK X cl W [] aNil := PK_imp pk_nil fun σ H Q q => by
  obtain ⟨G, F, ρ, A, R, st, en, p⟩ := q
  exact p [] F H A zf (Ev.self st en) rfl
theorem fk_cons {e : Expr} {nm : Option Str} {kpos : Pos} {ks : List Keyword} {a : Rho → RX D} {b : Rho → RX (List D)} (ha : FE X cl W e a) (hb : FK X cl W ks b) : FK X cl W (⟨nm, e, kpos⟩ :: ks) (aCons a b) := PK_imp (pk_cons ha hb) fun σ H Q q => by
  obtain ⟨G, F, ρ, A, R, st, en, p⟩ := q
  refine ⟨G, F, ρ, A, R, st, en, Pst.bind p fun x ρ1 v1 F1 H1 A1 B1 e1 o1 p1 => ?_⟩
  refine tX.run e1 (Pst.bindC p1 fun y ρ2 v2 F2 H2 A2 B2 e2 o2 p2 => ?_)
  exact Pst.okB (B := fun z => B1 z + B2 z) p2 (e2.st.less fun z => by show A2 z + (B1 z + B2 z + R z) ≤ A2 z + (B2 z + (B1 z + R z)); omega) e2.en ⟨v1, v2, B1, B2, rfl, e2.keep o1, o2, fun _ => Nat.le_refl _⟩
/-- the reading of a call with keywords, at the caller's slots -/
def tCallNS (n m : Nat) (sp : Sp) (gV : List V → List V → List V) (E : St → XK) (t tk : TA) : TE := fun σ H Q => t σ H fun vs H1 => tk σ H1 fun zs H2 => vs.length = n ∧ zs.length = m ∧ sp (gV vs zs) H2 Q (E σ)
theorem run_fnNS {CX : CXT} {k n : Nat} {f : Addr} {fd : FuncData} {ps ks : List Str} {sp : Sp} {E : St → XK} {g : List Value → List Value → List Value} {gV : List V → List V → List V} {pins : List (Addr × Obj)} {σ : St} {H : Hp} {s : Shared} {Q : VK} {us ws : List Value} {vs zs : List V}
    (F : FnOk X.prog X.w X.K X.mg X.base CX k f fd ps sp) (hr : Room k X.A) (hb : KBn X.K fd ps n ks g gV) (hx : PassesAt CX X σ (E σ))
    (I : Inv X pins σ H s) (r : Vals vs us) (rz : Vals zs ws) (l1 : vs.length = n) (l2 : zs.length = ks.length) (h : sp (gV vs zs) H Q (E σ)) : wpAny (model X.prog X.w) X.A (call (.ref f) us (ks.zip ws)) (EP X pins σ Q) X.xe s := by
  have r2 := hb.rel r rz
  refine wpAny_call (codeAny_mono (F.run X.A X.stack s H ⟨us, ks.zip ws⟩ (g us ws) (gV vs zs) Q (E σ) hr I.env0 (hb.to s us ws I.kIn (r.length.symm.trans l1) (rz.length.symm.trans l2)) r2 h) fun r s' hq => ?_)
  cases r with
  | error e => exact hx pins H s e s' I hq
  | ok fl =>
    cases fl with
    | ret u => exact I.after hq
    | next => exact False.elim hq
    | brk => exact False.elim hq
    | cont => exact False.elim hq
theorem callK_imp {n nu nk : Nat} {m : List D → RF} {idx : List Nat} {dd : List D} {dv : List V} {a b : Rho → RX (List D)} (hdd : ∀ F H, Owns X.K cl F H dd dv zf) (hlen : ∀ l, m l ≠ .bad → l.length = n) (σ : St) (H : Hp) (Q : VK) (q : tX X.K cl W (rD X.K cl) (eCallK m nu nk idx dd a b) σ H Q) :
    tCallNS nu nk (spF X.K cl n m) (fun vs zs => pick idx (vs ++ zs ++ dv)) (WE W) (tX X.K cl W (rL X.K cl) a) (tX X.K cl W (rL X.K cl) b) σ H Q := by
  obtain ⟨G, F, ρ, A, R, st, en, p⟩ := q
  refine ⟨G, F, ρ, A, R, st, en, Pst.bind p fun x ρ1 v1 F1 H1 A1 B1 e1 o1 p1 => ?_⟩
  refine tX.run e1 (Pst.bindC p1 fun y ρ2 v2 F2 H2 A2 B2 e2 o2 p2 => ?_)
  by_cases hl : x.length = nu ∧ y.length = nk
  · rw [if_pos hl] at p2
    refine ⟨(Owns.length o1).symm.trans hl.1, (Owns.length o2).symm.trans hl.2, ?_⟩
    -- all that is held is frozen
    have e3 : Ev X.K cl G F2 H2 R F2 H2 σ ρ2 A2 (fun z => B2 z + B1 z) := ⟨Le.refl, fun _ _ => rfl, e2.st.less fun z => by show A2 z + (B2 z + B1 z + R z) ≤ A2 z + (B2 z + (B1 z + R z)); omega, e2.en⟩
    obtain ⟨e4, le4⟩ := e3.fz
    have ox : Owns X.K cl (fz F2 H2 fun z => B2 z + B1 z) H2 (D.frzs x) v1 zf := Owns.freeze (e2.keeps o1) le4 fun a ha => fz_at (by show 0 < B2 a + B1 a; omega)
    have oy : Owns X.K cl (fz F2 H2 fun z => B2 z + B1 z) H2 (D.frzs y) v2 zf := Owns.freeze o2 le4 fun a ha => fz_at (by show 0 < B2 a + B1 a; omega)
    have oo := Owns.pick idx (Owns.append (Owns.append ox oy) (hdd (fz F2 H2 fun z => B2 z + B1 z) H2))
    refine ⟨?_, fz F2 H2 (fun z => B2 z + B1 z), _, e4.st.sub, oo, ?_⟩
    · rw [← Owns.length oo]
      refine hlen _ fun z => ?_
      simp only [z] at p2
      exact p2
    · cases hm : m (pick idx (D.frzs x ++ D.frzs y ++ dd)) with
      | rt d =>
        simp only [hm] at p2
        exact fun v F' H' B le lh st' o => p2 v F' H' A2 B (e4.call le lh st') o
      | ex c xs =>
        simp only [hm] at p2
        exact fun u d F' H' le lh st' o => p2 u d F' H' A2 (e4.call le lh st') o
      | bad => simp only [hm] at p2; exact p2.elim
  · rw [if_neg hl] at p2; exact p2.elim
theorem fe_callK {x : Str} {k n nu : Nat} {ks : List Str} {idx : List Nat} {m : List D → RF} {dd : List D} {p : Pos} {e : Expr} {es : List Expr} {kws : List Keyword} {a b : Rho → RX (List D)} (Fc : FncK X.prog X.w X.K X.mg X.base cl x k n m nu ks idx dd) (hr : Room k X.A) (hg : Gl X x) (tk : L2N.Takes X W)
    (ha : FA X cl W (e :: es) a) (hkw : FK X cl W kws b) (hall : (backToKw pos (keywordEach kws X.env)).all (·.1.isSome) = true := by rfl) (hks : (backToKw pos (keywordEach kws X.env)).filterMap (·.1) = ks := by rfl)
    (hdb : (x == ("__debug__" : Str)) = false := by decide) (he : starEach (e :: es) X.env = (false, eval e X.env) :: starEach es X.env := by rfl)
    (hpl : ((backTo pos (starEach (e :: es) X.env)).any (·.1) || (backToKw pos (keywordEach kws X.env)).any (·.1.isNone)) = false := by rfl) : FE X cl W (.Call (.Name x p) (e :: es) kws pos) (eCallK m nu ks.length idx dd a b) := by
  obtain ⟨⟨f, fd, ps, ds, dv, h1, h2, h3, h4, h5, h6⟩, hl⟩ := Fc
  have kb : KBn X.K fd ps nu ks (fun us ws => pick idx (us ++ ws ++ ds)) (fun vs zs => pick idx (vs ++ zs ++ dv)) := ⟨h6, fun r1 r2 => Vals.pick idx ((r1.append r2).append h4)⟩
  refine PE_imp (t := tCallNS nu ks.length (spF X.K cl n m) (fun vs zs => pick idx (vs ++ zs ++ dv)) (WE W) (tX X.K cl W (rL X.K cl) a) (tX X.K cl W (rL X.K cl) b)) ⟨fun pins s σ H Q I h => ?_⟩ fun σ H Q q => callK_imp h5 hl σ H Q q
  refine wpAny_Call_Name_kw (ld_glob I hg h2 ?_ hdb)
  refine PySem.W.callWith_KW (h₀ := X.base) I.ok.mod.kin h3 hall (thn (ha.run pos pins s σ H _ I h) fun us s1 ⟨vs, H1, I1, r, q⟩ => ?_) hpl he
  refine thn (hkw.run pos pins s1 σ H1 _ I1 q) fun ws s2 ⟨zs, H2, I2, rz, l1, l2, q2⟩ => ⟨I2.kIn, ?_⟩
  rw [hks]
  exact run_fnNS h1 hr kb (L2N.passAt tk σ) I2 r rz l1 l2 q2
theorem fe_callK0 {x : Str} {k n : Nat} {ks : List Str} {idx : List Nat} {m : List D → RF} {dd : List D} {p : Pos} {kws : List Keyword} {b : Rho → RX (List D)} (Fc : FncK X.prog X.w X.K X.mg X.base cl x k n m 0 ks idx dd) (hr : Room k X.A) (hg : Gl X x) (tk : L2N.Takes X W)
    (hkw : FK X cl W kws b) (hall : (backToKw pos (keywordEach kws X.env)).all (·.1.isSome) = true := by rfl) (hks : (backToKw pos (keywordEach kws X.env)).filterMap (·.1) = ks := by rfl)
    (hdb : (x == ("__debug__" : Str)) = false := by decide) (hpl : ((backTo pos (starEach [] X.env)).any (·.1) || (backToKw pos (keywordEach kws X.env)).any (·.1.isNone)) = false := by rfl) : FE X cl W (.Call (.Name x p) [] kws pos) (eCallK m 0 ks.length idx dd aNil b) := by
  obtain ⟨⟨f, fd, ps, ds, dv, h1, h2, h3, h4, h5, h6⟩, hl⟩ := Fc
  have kb : KBn X.K fd ps 0 ks (fun us ws => pick idx (us ++ ws ++ ds)) (fun vs zs => pick idx (vs ++ zs ++ dv)) := ⟨h6, fun r1 r2 => Vals.pick idx ((r1.append r2).append h4)⟩
  refine PE_imp (t := fun σ H Q => tX X.K cl W (rL X.K cl) aNil σ H fun vs H1 => tX X.K cl W (rL X.K cl) b σ H1 fun zs H2 => vs.length = 0 ∧ zs.length = ks.length ∧ spF X.K cl n m (pick idx (vs ++ zs ++ dv)) H2 Q (WE W σ)) ⟨fun pins s σ H Q I h => ?_⟩ fun σ H Q q => callK_imp h5 hl σ H Q q
  refine wpAny_Call_Name_kw (ld_glob I hg h2 ?_ hdb)
  refine PySem.W.callWith_KW0 (h₀ := X.base) I.ok.mod.kin h3 hall ?_ hpl
  have h' : tX X.K cl W (rL X.K cl) b σ H fun zs H2 => zs.length = ks.length ∧ spF X.K cl n m (pick idx (zs ++ dv)) H2 Q (WE W σ) := by
    obtain ⟨G, F, ρ, A, R, st, en, p⟩ := h
    have p' := p [] F H A zf (Ev.self st en) rfl
    obtain ⟨G', F', ρ', A', R', st', en', p''⟩ := p'
    refine ⟨G', F', ρ', A', R', st', en', ?_⟩
    unfold Pst at p'' ⊢
    split at p''
    · exact fun v F2 H2 A2 B2 e2 o2 => (p'' v F2 H2 A2 B2 e2 o2).2
    · exact p''
    · exact p''
  refine thn (hkw.run pos pins s σ H _ I h') fun ws s2 ⟨zs, H2, I2, rz, l2, q2⟩ => ⟨I2.kIn, ?_⟩
  rw [hks]
  exact run_fnNS (us := []) (vs := []) h1 hr kb (L2N.passAt tk σ) I2 .nil rz rfl l2 q2

/-! ### built-ins called -/
theorem fe_callB {x : Str} {p : Pos} {e : Expr} {es : List Expr} {a : Rho → RX (List D)} {f : List D → Option D} {r : List V → Hp → VK → Prop} {id : String} (hf : DoesL X cl f r) (hc : CallR X (.builtin id) r) (hg : Gl X x) (hm : X.mg x = none) (hv : bootBuiltins x = some (.builtin id)) (ha : FA X cl W (e :: es) a) (hn : x ≠ "__name__" := by decide) (hdb : (x == ("__debug__" : Str)) = false := by decide)
    (he : starEach (e :: es) X.env = (false, eval e X.env) :: starEach es X.env := by rfl) (hpl : (backTo pos (starEach es X.env)).any (·.1) = false := by rfl) : FE X cl W (.Call (.Name x p) (e :: es) [] pos) (eFn f a) := fe_fn hf (pe_callB hc hg hm hv ha hn hdb he hpl)
theorem fe_callTy {x : Str} {p : Pos} {e : Expr} {es : List Expr} {a : Rho → RX (List D)} {f : List D → Option D} {r : List V → Hp → VK → Prop} {T : String} (hf : DoesL X cl f r) (hc : CallR X (.type T) r) (hg : Gl X x) (hm : X.mg x = none) (hv : bootBuiltins x = some (.type T)) (ha : FA X cl W (e :: es) a) (hn : x ≠ "__name__" := by decide) (hdb : (x == ("__debug__" : Str)) = false := by decide)
    (he : starEach (e :: es) X.env = (false, eval e X.env) :: starEach es X.env := by rfl) (hpl : (backTo pos (starEach es X.env)).any (·.1) = false := by rfl) : FE X cl W (.Call (.Name x p) (e :: es) [] pos) (eFn f a) := fe_fn hf (pe_callTy hc hg hm hv ha hn hdb he hpl)
/-- .. of quiet arguments, nothing made -/
def Quiet1 (X : Cx) (cl : Tb) (f : D → Option D) (r : List V → Hp → VK → Prop) : Prop :=
  ∀ (x d : D), f x = some d → ∀ (F H : Hp) (A : Fp) (vx : V) (Q : VK), Le F H → Own X.K cl F H x vx A → (∀ v, Own X.K cl F H d v A → Q v H) → r [vx] H Q
def Quiet12 (X : Cx) (cl : Tb) (f : D → D → Option D) (r : List V → Hp → VK → Prop) : Prop :=
  ∀ (x y d : D), f x y = some d → ∀ (F H : Hp) (A : Fp) (vx vy : V) (Q : VK), Le F H → Own X.K cl F H x vx A → Own X.K cl F H y vy A → (∀ v, Own X.K cl F H d v A → Q v H) → r [vx, vy] H Q
theorem fq_1 {e a : Expr} {m : Rho → Option D} {f : D → Option D} {r : List V → Hp → VK → Prop} (hf : Quiet1 X cl f r) (h : PE X e (tCB r (tCons (tQ X.K cl m) tNil))) : FQ X cl e (qUn f m) := PE_imp h fun σ H Q q => by
  obtain ⟨G, F, ρ, A, R, st, en, p⟩ := q
  refine ⟨G, F, ρ, A, R, st, en, ?_⟩
  unfold qUn at p
  cases ha : m ρ with
  | none => rw [ha] at p; exact p.elim
  | some x =>
    rw [ha] at p
    intro v1 o1
    cases hd : f x with
    | none => rw [Option.bind_some, hd] at p; exact p.elim
    | some d =>
      rw [Option.bind_some, hd] at p
      exact hf x d hd F H A v1 Q st.sub o1 p
theorem fq_2 {e : Expr} {m n : Rho → Option D} {f : D → D → Option D} {r : List V → Hp → VK → Prop} (hf : Quiet12 X cl f r) (h : PE X e (tCB r (tCons (tQ X.K cl m) (tCons (tQ X.K cl n) tNil)))) : FQ X cl e (qBin f m n) := PE_imp h fun σ H Q q => by
  obtain ⟨G, F, ρ, A, R, st, en, p⟩ := q
  refine ⟨G, F, ρ, A, R, st, en, ?_⟩
  unfold qBin at p
  cases ha : m ρ with
  | none => rw [ha] at p; exact p.elim
  | some x =>
    rw [ha] at p
    intro v1 o1
    refine ⟨G, F, ρ, A, R, st, en, ?_⟩
    cases hb : n ρ with
    | none => simp only [Option.bind_some, hb] at p; exact p.elim
    | some y =>
      simp only [Option.bind_some, hb] at p
      intro v2 o2
      cases hd : f x y with
      | none => rw [hd] at p; exact p.elim
      | some d =>
        rw [hd] at p
        exact hf x y d hd F H A v1 v2 Q st.sub o1 o2 p
noncomputable def len1 (d : D) : Option D := lenL [d]
def max2 (x y : D) : Option D := maxL [x, y]
def min2 (x y : D) : Option D := minL [x, y]
def int1 (d : D) : Option D := intL [d]
theorem q_len : Quiet1 X cl len1 (fun xs H Q => ∃ x n, xs = [x] ∧ LenV X.K x H n ∧ Q (.int n) H) := fun x d hd F H A v Q sub o k => by
  unfold len1 lenL at hd
  simp only at hd
  cases hq : sq x with
  | some ds =>
    rw [hq] at hd
    have e := (Option.some.inj hd).symm
    subst e
    obtain ⟨a, xs, rfl, q, r⟩ := own_sq hq o sub
    have hl := Owns.length r
    refine ⟨.ref a, ds.length, rfl, ?_, k _ rfl⟩
    rcases q with q | q
    · exact .inl ⟨xs, q, hl⟩
    · exact .inr ⟨xs, q, hl⟩
  | none =>
    rw [hq] at hd
    cases x with
    | str s =>
      simp only at hd
      split at hd
      · rename_i hc
        have e := (Option.some.inj hd).symm
        subst e
        have ev : v = .str s := o
        subst ev
        exact ⟨_, s.length, rfl, ⟨by have h1 := of_yes hc; rw [sizeLine_eq]; exact h1, rfl⟩, k _ rfl⟩
      · cases hd
    | _ => cases hd
theorem q_max : Quiet12 X cl max2 (fun xs H Q => ∃ i j, xs = [.int i, .int j] ∧ Q (.int (if j > i then j else i)) H) := fun x y d hd F H A v w Q sub o o' k => by
  unfold max2 maxL at hd
  split at hd
  · rename_i i j he
    cases he
    have e := (Option.some.inj hd).symm
    subst e
    have e1 : v = .int i := o
    have e2 : w = .int j := o'
    subst e1 e2
    exact ⟨i, j, rfl, k _ rfl⟩
  · cases hd
theorem q_min : Quiet12 X cl min2 (fun xs H Q => ∃ i j, xs = [.int i, .int j] ∧ Q (.int (if j < i then j else i)) H) := fun x y d hd F H A v w Q sub o o' k => by
  unfold min2 minL at hd
  split at hd
  · rename_i i j he
    cases he
    have e := (Option.some.inj hd).symm
    subst e
    have e1 : v = .int i := o
    have e2 : w = .int j := o'
    subst e1 e2
    exact ⟨i, j, rfl, k _ rfl⟩
  · cases hd
theorem q_int : Quiet1 X cl int1 (fun xs H Q => (∃ i, xs = [.int i] ∧ Q (.int i) H) ∨ ∃ k, xs = [.bl k] ∧ Q (.int (if k then 1 else 0)) H) := fun x d hd F H A v Q sub o k => by
  unfold int1 intL at hd
  split at hd
  · rename_i i he
    cases he
    have e := (Option.some.inj hd).symm
    subst e
    have e1 : v = .int i := o
    subst e1
    exact .inl ⟨i, rfl, k _ rfl⟩
  · rename_i b he
    cases he
    have e := (Option.some.inj hd).symm
    subst e
    have e1 : v = .bl b := o
    subst e1
    exact .inr ⟨b, rfl, k _ rfl⟩
  · cases hd
theorem fq_callB1 {x : Str} {p : Pos} {e : Expr} {m : Rho → Option D} {f : D → Option D} {r : List V → Hp → VK → Prop} {id : String} (hf : Quiet1 X cl f r) (hc : CallR X (.builtin id) r) (hg : Gl X x) (hm : X.mg x = none) (hv : bootBuiltins x = some (.builtin id)) (ha : FQ X cl e m) (hn : x ≠ "__name__" := by decide) (hdb : (x == ("__debug__" : Str)) = false := by decide)
    (he : starEach [e] X.env = [(false, eval e X.env)] := by rfl) : FQ X cl (.Call (.Name x p) [e] [] pos) (qUn f m) := fq_1 (a := e) hf (pe_callB hc hg hm hv (pa_cons ha pa_nil he) hn hdb he rfl)
theorem fq_callB2 {x : Str} {p : Pos} {e e' : Expr} {m n : Rho → Option D} {f : D → D → Option D} {r : List V → Hp → VK → Prop} {id : String} (hf : Quiet12 X cl f r) (hc : CallR X (.builtin id) r) (hg : Gl X x) (hm : X.mg x = none) (hv : bootBuiltins x = some (.builtin id)) (ha : FQ X cl e m) (hb : FQ X cl e' n) (hn : x ≠ "__name__" := by decide) (hdb : (x == ("__debug__" : Str)) = false := by decide)
    (he : starEach [e, e'] X.env = (false, eval e X.env) :: starEach [e'] X.env := by rfl) (he' : starEach [e'] X.env = [(false, eval e' X.env)] := by rfl) (hpl : (backTo pos (starEach [e'] X.env)).any (·.1) = false := by rfl) : FQ X cl (.Call (.Name x p) [e, e'] [] pos) (qBin f m n) := fq_2 hf (pe_callB hc hg hm hv (pa_cons ha (pa_cons hb pa_nil he') he) hn hdb he hpl)
theorem fq_callTy1 {x : Str} {p : Pos} {e : Expr} {m : Rho → Option D} {f : D → Option D} {r : List V → Hp → VK → Prop} {T : String} (hf : Quiet1 X cl f r) (hc : CallR X (.type T) r) (hg : Gl X x) (hm : X.mg x = none) (hv : bootBuiltins x = some (.type T)) (ha : FQ X cl e m) (hn : x ≠ "__name__" := by decide) (hdb : (x == ("__debug__" : Str)) = false := by decide)
    (he : starEach [e] X.env = [(false, eval e X.env)] := by rfl) : FQ X cl (.Call (.Name x p) [e] [] pos) (qUn f m) := fq_1 (a := e) hf (pe_callTy hc hg hm hv (pa_cons ha pa_nil he) hn hdb he rfl)

/-! ### isinstance -/
/-- what an own class must have to be asked for -/
structure InsTy (K : PySem.W.Frag) (C : Addr) : Prop where
  cls : Cls K C
  ha : PySem.W.findIn K (.ref C) "__class__" = some (some (.builtin "object.__class__"))
  hn : PySem.W.specialIn K (.builtin "object.__class__") "__get__" = some (some (.builtin "getset_descriptor.__get__"))
  ht : PySem.W.takesIn K (.builtin "object.__class__") = some true
  hm : PySem.W.mroIn K C (.type "object") = some true
/-- the kind: a built-in type's name, or an own class -/
def kindD : D → Option (String ⊕ Nat)
  | .non => some (.inl "NoneType") | .bl _ => some (.inl "bool") | .int _ => some (.inl "int") | .str _ => some (.inl "str")
  | .tup _ => some (.inl "tuple") | .lst _ => some (.inl "list") | .vec _ => some (.inl "list") | .obj c _ => some (.inr c) | .mobj c _ => some (.inr c)
  | .dT _ _ => some (.inl "dict") | .vT _ _ => some (.inl "dict") | .dK _ _ => some (.inl "dict") | .vK _ _ => some (.inl "dict") | _ => none
def isiD (tab : String ⊕ Nat → Option Bool) (d : D) : Option D := (kindD d).bind fun k => (tab k).map D.bl
def Tab (K : PySem.W.Frag) (cl : Tb) (u : Value) (tab : String ⊕ Nat → Option Bool) : Prop :=
  (∀ n b, tab (.inl n) = some b → PySem.W.kitOne K (.type n) u = some b) ∧ ∀ c b, tab (.inr c) = some b → InsTy K (cl c).at_ ∧ PySem.W.kitOne K (.ref (cl c).at_) u = some b
theorem ty_list {a : Addr} {xs : List V} (h : SqL K H a xs) : TyX K H (.ref a) (.type "list") := by
  rcases h with (h | ⟨o, h⟩) | ⟨o, its, n, h, c, _⟩
  · exact .base (.lst h)
  · exact .base (.frz h)
  · exact .kList h c
theorem ty_tup {a : Addr} {xs : List V} (h : SqT K H a xs) : TyX K H (.ref a) (.type "tuple") := by
  rcases h with (h | ⟨o, h⟩) | ⟨o, its, n, h, c, _⟩
  · exact .base (.tup h)
  · exact .fTuple h
  · exact .kTuple h c
theorem fq_isi {e c : Expr} {m : Rho → Option D} {vc : V} {u : Value} {tab : String ⊕ Nat → Option Bool} {p : Pos} (ht : Tab X.K cl u tab) (hu : ClsV vc u) (hg : Gl X "isinstance") (hm : X.mg "isinstance" = none) (ha : FQ X cl e m) (hc : PE X c (tC vc))
    (he : starEach [e, c] X.env = (false, eval e X.env) :: starEach [c] X.env := by rfl) (he' : starEach [c] X.env = [(false, eval c X.env)] := by rfl) (hpl : (backTo pos (starEach [c] X.env)).any (·.1) = false := by rfl) : FQ X cl (.Call (.Name "isinstance" p) [e, c] [] pos) (qUn (isiD tab) m) :=
  PE_imp (pe_callB call_isi hg hm (by decide +kernel) (pa_cons ha (pa_cons hc pa_nil he') he) (by decide) (by decide) he hpl) fun σ H Q q => by
  obtain ⟨G, F, ρ, A, R, st, en, p⟩ := q
  refine ⟨G, F, ρ, A, R, st, en, ?_⟩
  unfold qUn at p
  cases hx : m ρ with
  | none => rw [hx] at p; exact p.elim
  | some x =>
    rw [hx] at p
    intro v o
    have p' : match isiD tab x with | some d => ∀ v, Own X.K cl F H d v A → Q v H | none => False := p
    unfold isiD at p'
    cases hk : kindD x with
    | none => rw [hk] at p'; exact p'.elim
    | some k =>
      rw [hk] at p'
      cases hb : tab k with
      | none => simp only [Option.bind_some, hb] at p'; exact p'.elim
      | some b =>
        simp only [Option.bind_some, hb, Option.map_some] at p'
        have fin : ∀ t, TyX X.K H v t → PySem.W.kitOne X.K t u = some b → rIsi X.K [v, vc] H Q := fun t ty e => ⟨v, vc, t, u, b, rfl, hu, ty, e, p' _ rfl⟩
        cases x with
        | non => cases hk; have e : v = .non := o; subst e; exact fin _ (.base .non) (ht.1 _ _ hb)
        | bl k => cases hk; have e : v = .bl k := o; subst e; exact fin _ (.base (.bl k)) (ht.1 _ _ hb)
        | int k => cases hk; have e : v = .int k := o; subst e; exact fin _ (.base (.int k)) (ht.1 _ _ hb)
        | str k => cases hk; have e : v = .str k := o; subst e; exact fin _ (.base (.str k)) (ht.1 _ _ hb)
        | tup ds => cases hk; obtain ⟨a, xs, rfl, q, r⟩ := o; exact fin _ (ty_tup (st.sub.sqT q.1)) (ht.1 _ _ hb)
        | lst ds => cases hk; obtain ⟨a, xs, rfl, q, r⟩ := o; exact fin _ (ty_list (st.sub.sqL q)) (ht.1 _ _ hb)
        | vec ds => cases hk; obtain ⟨a, xs, B, rfl, n, q, r, s⟩ := o; exact fin _ (ty_list (SqL.of q)) (ht.1 _ _ hb)
        | obj c ds =>
          cases hk
          obtain ⟨a, dx, xs, rfl, q, z, r⟩ := o
          obtain ⟨i, e⟩ := ht.2 _ _ hb
          exact fin _ (.base (.ins (st.sub _ _ q) i.cls i.ha i.hn i.ht i.hm)) e
        | mobj c ds =>
          cases hk
          obtain ⟨a, dx, xs, B, ⟨rfl, _⟩, n, q, z, r, s⟩ := o
          obtain ⟨i, e⟩ := ht.2 _ _ hb
          exact fin _ (.base (.ins q i.cls i.ha i.hn i.ht i.hm)) e
        | exc c ds => cases hk
        | dT ks ds => cases hk; obtain ⟨a, xs, rfl, q, r⟩ := o; exact fin _ (.base (.dT (st.sub _ _ q))) (ht.1 _ _ hb)
        | vT ks ds => cases hk; obtain ⟨a, xs, B, rfl, n, q, r⟩ := o; exact fin _ (.base (.dT q)) (ht.1 _ _ hb)
        | dK ks ds => cases hk; obtain ⟨a, xs, rfl, q, r⟩ := o; exact fin _ (.base (.dK (st.sub _ _ q))) (ht.1 _ _ hb)
        | vK ks ds => cases hk; obtain ⟨a, xs, B, rfl, n, q, r⟩ := o; exact fin _ (.base (.dK q)) (ht.1 _ _ hb)
        | val w => cases hk
/-- a built-in type asked for, own classes left out -/
def tabTy (T : String) : String ⊕ Nat → Option Bool
  | .inl n => kitB n T
  | .inr _ => none
theorem tab_ty {T : String} : Tab K cl (.type T) (tabTy T) := ⟨fun n b h => kit_ty h, fun c b h => by cases h⟩

/-! ### xs.append(e), xs a name -/
noncomputable def eApp (i : Nat) (m : Rho → RX D) : Rho → RX D := fun ρ => match ρ[i]? with
  | some (some (.vec _)) => (m ρ).bind fun d ρ1 => match ρ1[i]? with
    | some (some (.vec ds)) => if cap ds.length then .ok .non (ρ1.set i (some (.vec (ds ++ [d])))) else .bad
    | _ => .bad
  | _ => .bad
theorem fe_app {i : Nat} {x : Str} {p apos : Pos} {e : Expr} {m : Rho → RX D} (hx : PE X (.Name x p) (tVar i)) (ha : FE X cl W e m) (hN : i < X.N.length ∨ True := .inr trivial)
    (hbase : attributeBase (.Name x p) "append" X.env (eval (.Name x p) X.env) = eval (.Name x p) X.env := by rfl)
    (hfew : ((backTo pos (starEach [e] X.env)).all (fun x => !x.1) && (backToKw pos (keywordEach [] X.env)).all (fun x => x.1.isSome)
      && decide ([e].length + ([] : List Keyword).length + (if ([] : List Keyword).isEmpty then 0 else 1) < 30)) = true := by rfl)
    (hline : (apos.endLine == pos.line) = true := by rfl) (hs : starEach [e] X.env = [(false, eval e X.env)] := by rfl) :
    FE X cl W (.Call (.Attribute (.Name x p) "append" apos) [e] [] pos) (eApp i m) :=
  PE_imp (pe_bm PySem.F.plainAttrs_list PySem.F.slot_list_append PySem.F.type_list_append mt_append hx (pa_cons ha pa_nil hs) hbase hfew hline hs rfl) fun σ H Q q => by
  obtain ⟨G, F, ρ, A, R, st, en, p⟩ := q
  unfold eApp at p
  split at p
  · rename_i es hρ
    obtain ⟨v, B, C, hv, o, en', hs⟩ := en.get hρ
    obtain ⟨a, xs, B', rfl, fa, hH, os, hs'⟩ := o
    refine ⟨.ref a, hv, .inl ⟨rfl, xs, SqL.of hH⟩, ?_⟩
    refine ⟨G, F, ρ, A, R, st, en, Pst.bind p fun d ρ1 v1 F1 H1 A1 B1 e1 o1 p1 => ?_⟩
    split at p1
    · rename_i ds hρ1
      split at p1
      · rename_i hc
        obtain ⟨w, B2, C2, hw, o2, en2, hs2⟩ := e1.en.get hρ1
        rw [hv] at hw
        cases hw
        obtain ⟨a2, ys, B3, ev, fa2, hH2, os2, hs3⟩ := o2
        cases ev
        have hB2 : 0 < B2 a := by have := hs3 a; rw [one_self] at this; omega
        have hl : ds.length = ys.length := Owns.length os2
        refine ⟨a, ys, v1, rfl, rfl, hH2, by rw [← hl]; exact cap_line hc, ?_⟩
        have hA1 : 0 < A1 a := by have := hs2 a; omega
        have nd := e1.st.nd
        have st2 := upd_own (o := .lst (ys ++ [v1])) e1.st (show 0 < A1 a + (B1 a + R a) by omega)
        -- nothing else lies at a
        have off : ∀ b, 0 < C2 b + (B3 b + (B1 b + R b)) → b ≠ a := fun b hb e => by
          subst e
          have h1 : A1 b + (B1 b + R b) ≤ 1 := nd b
          have h2 := hs2 b
          have h3 := hs3 b
          rw [one_self] at h3
          omega
        have own1 : ∀ b, 0 < A1 b + (B1 b + R b) → F1 b = none := fun b hb => (e1.st.own b hb).1
        have en3 : EnvR X.K cl F1 (upd H1 a (.lst (ys ++ [v1]))) (ρ1.set i none) σ C2 := en2.mono Le.refl (fun b hb => ⟨upd_ne (off b (by omega)), own1 b (by have := hs2 b; omega)⟩) fun _ => Nat.le_refl _
        have os3 : Owns X.K cl F1 (upd H1 a (.lst (ys ++ [v1]))) ds ys B3 := os2.mono Le.refl (fun b hb => ⟨upd_ne (off b (by omega)), own1 b (by have := hs2 b; have := hs3 b; omega)⟩) fun _ => Nat.le_refl _
        have o3 : Own X.K cl F1 (upd H1 a (.lst (ys ++ [v1]))) d v1 B1 := o1.mono Le.refl (fun b hb => ⟨upd_ne (off b (by omega)), own1 b (by omega)⟩) fun _ => Nat.le_refl _
        have ov : Own X.K cl F1 (upd H1 a (.lst (ys ++ [v1]))) (.vec (ds ++ [d])) (.ref a) (fun z => one a z + (B3 z + B1 z)) := ⟨a, _, fun z => B3 z + B1 z, rfl, fa2, upd_same, os3.snoc o3, fun _ => Nat.le_refl _⟩
        have en4 := en3.put (i := i) ov
        rw [List.set_set] at en4
        have hσ : σ.set i (some (.ref a)) = σ := by
          obtain ⟨hl, hg⟩ := List.getElem?_eq_some_iff.mp hv
          rw [← hg]
          exact List.set_getElem_self hl
        rw [hσ] at en4
        refine p1 .non F1 _ _ zf ⟨Le.refl, fun b hb => upd_ne (off b (by omega)), st2.less fun z => ?_, en4⟩ rfl
        have h2 := hs2 z
        have h3 := hs3 z
        show one a z + (B3 z + B1 z) + C2 z + (zf z + R z) ≤ A1 z + (B1 z + R z)
        unfold zf
        omega
      · exact p1.elim
    · exact p1.elim
  · exact p.elim
end
end FL

set_option Elab.async false
set_option linter.all false
set_option maxRecDepth 100000
namespace FL
open PySem L2
open PyProof.Rows (envOfC)
/-! ### what a def's body hands to the rules -/
section
variable {P : Program} {w : World} {K : PySem.W.Frag} {mg : Str → Option Value} {base : Heap} {N : List Str} {qual : Str} {scope : Scope} {f : Addr} {cd : Value} {A : Around} {outer : List Env} {s : Shared} {H : Hp} {E : XK}
theorem tk_of : L2N.Takes (cxOf (L2N.CX P w) P w K mg base N qual scope f cd A outer s H E) (fun c d _ H => E c d H) := L2N.takes_of rfl rfl rfl rfl
theorem pw_of : PassesOwn (model (cxOf (L2N.CX P w) P w K mg base N qual scope f cd A outer s H E).prog (cxOf (L2N.CX P w) P w K mg base N qual scope f cd A outer s H E).w) (cxOf (L2N.CX P w) P w K mg base N qual scope f cd A outer s H E).A (cxOf (L2N.CX P w) P w K mg base N qual scope f cd A outer s H E).env (cxOf (L2N.CX P w) P w K mg base N qual scope f cd A outer s H E).xe := passes_of rfl
end
/-- a def that stands at hand -/
theorem fnc_mk {P : Program} {w : World} {K : PySem.W.Frag} {mg : Str → Option Value} {base : Heap} {cl : Tb} {x : Str} {k n : Nat} {m : List D → RF} {f : Addr} {fd : FuncData} {ps : List Str} (F : FnOk P w K mg base (L2N.CX P w) k f fd ps (spF K cl n m)) (hm : mg x = some (.ref f)) (hk : PySem.W.keepIn K (.ref f) = true) (hb : Binds K fd ps []) (hl : ∀ l, m l ≠ .bad → l.length = n) : Fnc P w K mg base cl x k n m [] :=
  ⟨⟨f, fd, ps, [], [], F, hm, hk, hb, .nil, fun _ _ => rfl⟩, hl⟩
theorem fncK_mk {P : Program} {w : World} {K : PySem.W.Frag} {mg : Str → Option Value} {base : Heap} {cl : Tb} {x : Str} {k n nu : Nat} {ks : List Str} {idx : List Nat} {m : List D → RF} {f : Addr} {fd : FuncData} {ps : List Str} (F : FnOk P w K mg base (L2N.CX P w) k f fd ps (spF K cl n m)) (hm : mg x = some (.ref f)) (hk : PySem.W.keepIn K (.ref f) = true) (hl : ∀ l, m l ≠ .bad → l.length = n)
    (hb : ∀ (us ws : List Value), us.length = nu → ws.length = ks.length → bindArgs fd ⟨us, ks.zip ws⟩ = pure (ps.zip (pick idx (us ++ ws ++ [])))) : FncK P w K mg base cl x k n m nu ks idx [] :=
  ⟨⟨f, fd, ps, [], [], F, hm, hk, .nil, fun _ _ => rfl, fun s us ws _ h1 h2 => .of_eq (hb us ws h1 h2)⟩, hl⟩
/-- the law's end -/
theorem walk_FL {l : PySem.W.OpenLaw} {k : Nat} {q : Program} {loose : List Str} {XP : (Str → Option Value) → Heap → Prop} {YP : World → Heap → Prop} {d : DefRec} {K : Params → PySem.W.Frag} {x : Str} {cl : World → Tb} {m : World → List D → RF}
    (hn : l.most = some 63) (hdf : d.params.defaults = []) (hr : Room k callerA) (hY : ∀ (w : World) (h : Heap), YP w h → (K w.params).In h)
    (F : ∀ (w : World) (mg : Str → Option Value) (fa : Addr) (h : Heap), (K w.params).In h → h.Ns mainGlobals mg → mg d.name = some (.ref fa) →
      ∃ fd : FuncData, (∀ (s : Shared) (u : Value), BindsTo s fd ⟨[u], []⟩ [(x, u)]) ∧
        ∀ base : Heap, (K w.params).In base → base.Ns mainGlobals mg → FnOk l.prog w (K w.params) mg base (L2N.CX l.prog w) k fa fd [x] (spF (K w.params) (cl w) 1 (m w)))
    (hm : ∀ (w : World) (ns : List Int), ns.length ≤ 63 → m w [.lst (ns.map D.int)] = .rt (.bl true)) :
    PySem.W.WalkO q loose XP YP l.row.toRowW d [] (fun f vs => PySem.call f vs) :=
  L2.walk_of (n := 63) (k := k) (x := x) (CX := fun w => L2N.CX l.prog w) (sp := fun w => spF (K w.params) (cl w) 1 (m w)) hn (by decide) hdf hr hY F (fun w H a ns hl _ hS => by
    have own : ∀ (ns : List Int) , Owns (K w.params) (cl w) H H (ns.map D.int) (ns.map V.int) zf := fun ns => by
      induction ns with
      | nil => rfl
      | cons i r ih => exact ⟨.int i, _, zf, zf, rfl, rfl, ih, fun _ => Nat.le_refl _⟩
    refine ⟨rfl, H, [.lst (ns.map D.int)], Le.refl, ⟨.ref a, [], zf, zf, rfl, ⟨a, _, rfl, hS, own ns⟩, rfl, fun _ => Nat.le_refl _⟩, ?_⟩
    rw [hm w ns hl]
    exact fun v F' H' B _ _ _ o => o) fun w H s e s' z => by
      obtain ⟨_, _, _, _, _, _, _, _, _, _, _, _, z⟩ := z
      exact z
end FL

set_option Elab.async false
set_option linter.all false
set_option maxRecDepth 100000
namespace FL
open PySem L2
/-! ### reckoning with the functions -/
theorem loop_ind {α : Type} {g : D → Rho → Option Rho} {b : Rho → RS} (f : α → D) (P : List α → Rho → Prop) (Q : RS → Prop) (h0 : ∀ ρ, P [] ρ → Q (.nx ρ))
    (hs : ∀ x xs ρ, P (x :: xs) ρ → ∃ ρ1, g (f x) ρ = some ρ1 ∧ ((∃ ρ2, (b ρ1 = .nx ρ2 ∨ b ρ1 = .ct ρ2) ∧ P xs ρ2) ∨ (∃ ρ2, b ρ1 = .bk ρ2 ∧ Q (.nx ρ2)) ∨ (∃ d, b ρ1 = .rt d ∧ Q (.rt d)) ∨ (∃ c ds ρ2, b ρ1 = .ex c ds ρ2 ∧ Q (.ex c ds ρ2)))) :
    ∀ (xs : List α) (ρ : Rho), P xs ρ → Q (loop g b (xs.map f) ρ)
  | [], ρ, h => h0 ρ h
  | x :: xs, ρ, h => by
    obtain ⟨ρ1, hg, h⟩ := hs x xs ρ h
    rw [List.map_cons]
    unfold loop
    rw [hg]
    rcases h with ⟨ρ2, h1, h2⟩ | ⟨ρ2, h1, h2⟩ | ⟨d, h1, h2⟩ | ⟨c, ds, ρ2, h1, h2⟩
    · have ih := loop_ind f P Q h0 hs xs ρ2 h2
      rcases h1 with h1 | h1 <;> (simp only [h1]; exact ih)
    · simp only [h1]; exact h2
    · simp only [h1]; exact h2
    · simp only [h1]; exact h2
theorem loop_fold {α S : Type} {g : D → Rho → Option Rho} {b : Rho → RS} (f : α → D) (env : S → Rho) (step : S → α → S) (I : S → Prop) (xs : List α) (hI : ∀ s, ∀ x ∈ xs, I s → I (step s x))
    (hs : ∀ s, ∀ x ∈ xs, I s → ∃ ρ1, g (f x) (env s) = some ρ1 ∧ b ρ1 = .nx (env (step s x))) : ∀ s, I s → loop g b (xs.map f) (env s) = .nx (env (xs.foldl step s)) ∧ I (xs.foldl step s) := by
  induction xs with
  | nil => exact fun s h => ⟨rfl, h⟩
  | cons x xs ih =>
    intro s h
    obtain ⟨ρ1, h1, h2⟩ := hs s x List.mem_cons_self h
    rw [List.map_cons, List.foldl_cons]
    unfold loop
    simp only [h1, h2]
    exact ih (fun s y hy => hI s y (List.mem_cons_of_mem _ hy)) (fun s y hy => hs s y (List.mem_cons_of_mem _ hy)) _ (hI s x List.mem_cons_self h)
/-- a loop whose turns leave the frame as it is -/
theorem loop_same {α : Type} {g : D → Rho → Option Rho} {b : Rho → RS} (f : α → D) (xs : List α) (ρ : Rho) (hs : ∀ x ∈ xs, ∃ ρ1, g (f x) ρ = some ρ1 ∧ b ρ1 = .nx ρ) : loop g b (xs.map f) ρ = .nx ρ := by
  induction xs with
  | nil => rfl
  | cons x xs ih =>
    obtain ⟨ρ1, h1, h2⟩ := hs x List.mem_cons_self
    rw [List.map_cons]
    unfold loop
    simp only [h1, h2]
    exact ih fun y hy => hs y (List.mem_cons_of_mem _ hy)
theorem lcl_map {α : Type} {vs : List Nat} {g : D → Rho → Option Rho} {t : Rho → RX Bool} {e : Rho → RX D} {ρ : Rho} (f : α → D) (p : α → Bool) (h : α → D) : ∀ (xs : List α) (acc : List D), acc.length + xs.length < 16777216 →
    (∀ x ∈ xs, ∃ ρ1 ρ2, g (f x) ρ = some ρ1 ∧ t ρ1 = .ok (p x) ρ2 ∧ (p x = true → ∃ ρ3, e ρ2 = .ok (h x) ρ3 ∧ fgt vs ρ3 = ρ) ∧ (p x = false → fgt vs ρ2 = ρ)) → lcl vs g t e (xs.map f) acc ρ = .ok (acc ++ (xs.filter p).map h) ρ
  | [], acc, _, _ => by simp [lcl]
  | x :: xs, acc, hl, H => by
    obtain ⟨ρ1, ρ2, h1, h2, h3, h4⟩ := H x List.mem_cons_self
    have H' := fun y hy => H y (List.mem_cons_of_mem x hy)
    rw [List.map_cons]
    unfold lcl
    rw [List.length_cons] at hl
    cases hp : p x with
    | true =>
      obtain ⟨ρ3, h5, h6⟩ := h3 hp
      rw [hp] at h2
      have hc : cap acc.length = true := yes_of (by omega)
      simp only [h1, h2, h5, hc, if_true, h6]
      rw [lcl_map f p h xs (acc ++ [h x]) (by simp only [List.length_append, List.length_cons, List.length_nil]; omega) H']
      simp [hp]
    | false =>
      rw [hp] at h2
      simp only [h1, h2, h4 hp]
      rw [lcl_map f p h xs acc (by omega) H']
      simp [hp]
/-- .. without a test -/
theorem lcl_all {α : Type} {vs : List Nat} {g : D → Rho → Option Rho} {e : Rho → RX D} {ρ : Rho} (f : α → D) (h : α → D) (xs : List α) (hl : xs.length < 16777216)
    (H : ∀ x ∈ xs, ∃ ρ1 ρ3, g (f x) ρ = some ρ1 ∧ e ρ1 = .ok (h x) ρ3 ∧ fgt vs ρ3 = ρ) : lcl vs g tT e (xs.map f) [] ρ = .ok (xs.map h) ρ := by
  rw [lcl_map f (fun _ => true) h xs [] (by simpa using hl) fun x hx => by
    obtain ⟨ρ1, ρ3, h1, h2, h3⟩ := H x hx
    exact ⟨ρ1, ρ1, h1, rfl, fun _ => ⟨ρ3, h2, h3⟩, fun z => by cases z⟩]
  rw [List.nil_append]
  congr 2
  exact List.filter_eq_self.mpr fun _ _ => rfl
theorem cap_of {n : Nat} (h : n < 16777216) : cap n = true := yes_of h
theorem cap_0 : cap 0 = true := cap_of (by decide)
theorem cap_1 : cap 1 = true := cap_of (by decide)
theorem cap_2 : cap 2 = true := cap_of (by decide)
theorem cap_3 : cap 3 = true := cap_of (by decide)
theorem cap_4 : cap 4 = true := cap_of (by decide)
theorem cap_5 : cap 5 = true := cap_of (by decide)
theorem cap_6 : cap 6 = true := cap_of (by decide)
theorem cap_7 : cap 7 = true := cap_of (by decide)
theorem cap_8 : cap 8 = true := cap_of (by decide)
theorem cap_9 : cap 9 = true := cap_of (by decide)
theorem cap_10 : cap 10 = true := cap_of (by decide)
theorem cap_11 : cap 11 = true := cap_of (by decide)
theorem cap_12 : cap 12 = true := cap_of (by decide)
theorem cap_13 : cap 13 = true := cap_of (by decide)
theorem cap_14 : cap 14 = true := cap_of (by decide)
theorem cap_15 : cap 15 = true := cap_of (by decide)
theorem cap_16 : cap 16 = true := cap_of (by decide)
theorem cap_17 : cap 17 = true := cap_of (by decide)
theorem cap_18 : cap 18 = true := cap_of (by decide)
theorem cap_19 : cap 19 = true := cap_of (by decide)
theorem cap_20 : cap 20 = true := cap_of (by decide)
theorem cap_21 : cap 21 = true := cap_of (by decide)
theorem cap_22 : cap 22 = true := cap_of (by decide)
theorem cap_23 : cap 23 = true := cap_of (by decide)
theorem cap_24 : cap 24 = true := cap_of (by decide)
theorem cap_25 : cap 25 = true := cap_of (by decide)
theorem cap_26 : cap 26 = true := cap_of (by decide)
theorem cap_27 : cap 27 = true := cap_of (by decide)
theorem cap_28 : cap 28 = true := cap_of (by decide)
theorem cap_29 : cap 29 = true := cap_of (by decide)
theorem cap_30 : cap 30 = true := cap_of (by decide)
theorem cap_31 : cap 31 = true := cap_of (by decide)
theorem cap_32 : cap 32 = true := cap_of (by decide)
theorem cap_33 : cap 33 = true := cap_of (by decide)
theorem cap_34 : cap 34 = true := cap_of (by decide)
theorem cap_35 : cap 35 = true := cap_of (by decide)
theorem cap_36 : cap 36 = true := cap_of (by decide)
theorem cap_37 : cap 37 = true := cap_of (by decide)
theorem cap_38 : cap 38 = true := cap_of (by decide)
theorem cap_39 : cap 39 = true := cap_of (by decide)
theorem cap_40 : cap 40 = true := cap_of (by decide)
theorem bnd_of {i : Int} (h : -(2 ^ 62) ≤ i ∧ i < 2 ^ 62) : bnd i = true := yes_of h
theorem D.pures_map {α : Type} {f : α → D} (h : ∀ x, (f x).pure = true) : ∀ (l : List α), D.pures (l.map f) = true
  | [] => rfl
  | x :: l => by rw [List.map_cons, D.pures, h x, D.pures_map h l]; rfl
theorem D.pures_int (l : List Int) : D.pures (l.map D.int) = true := D.pures_map (fun _ => rfl) l
theorem D.frzs_map {α : Type} {f : α → D} (h : ∀ x, (f x).pure = true) (l : List α) : D.frzs (l.map f) = l.map f := D.frzs_of_pure (D.pures_map h l)
theorem D.frzs_int (l : List Int) : D.frzs (l.map D.int) = l.map D.int := D.frzs_map (fun _ => rfl) l
theorem rng_eq (lo : Int) (n : Nat) : rng lo n = ((List.range n).map fun (k : Nat) => lo + k).map D.int := by unfold rng; rw [List.map_map]; rfl
theorem atI_lt {α : Type} {xs : List α} {i : Int} (h0 : 0 ≤ i) (h : i.toNat < xs.length) : atI xs i = some (xs[i.toNat]) := by
  have q := atI_nat (List.getElem?_eq_getElem h)
  rw [Int.toNat_of_nonneg h0] at q
  exact q
theorem flat_all (l : List Int) : (l.map D.int).all flatD = true := by
  rw [List.all_eq_true]
  intro d hd
  obtain ⟨i, _, rfl⟩ := List.mem_map.mp hd
  rfl
theorem eqv_int (i j : Int) : eqvD (.int i) (.int j) = decide (i = j) := by
  show eqV (.int i) (.int j) = _
  unfold eqV
  by_cases h : i = j <;> simp [h]
theorem any_int (l : List Int) (x : Int) : ((l.map D.int).any fun d => eqvD d (.int x)) = decide (x ∈ l) := by
  rw [List.any_map, Bool.eq_iff_iff, List.any_eq_true, decide_eq_true_iff]
  constructor
  · rintro ⟨y, hy, h⟩
    have h' : eqvD (.int y) (.int x) = true := h
    rw [eqv_int, decide_eq_true_iff] at h'
    exact h' ▸ hy
  · exact fun h => ⟨x, h, by show eqvD (.int x) (.int x) = true; rw [eqv_int]; simp⟩
theorem inD_ints {d : D} {l : List Int} (h : sq d = some (l.map D.int)) (x : Int) : inD (.int x) d = some (.bl (decide (x ∈ l))) := by
  unfold inD
  rw [h]
  simp only [flat_all, any_int]
  rfl
theorem ninD_ints {d : D} {l : List Int} (h : sq d = some (l.map D.int)) (x : Int) : ninD (.int x) d = some (.bl (!decide (x ∈ l))) := by
  unfold ninD
  rw [h]
  simp only [flat_all, any_int]
  rfl
theorem eqS_int (i j : Int) : eqS (.int i) (.int j) = some (.bl (decide (i = j))) := by
  unfold eqS scl scal; simp
theorem neS_int (i j : Int) : neS (.int i) (.int j) = some (.bl (!decide (i = j))) := by
  unfold neS scl scal; simp
theorem eqS_bl (i j : Bool) : eqS (.bl i) (.bl j) = some (.bl (decide (i = j))) := by
  unfold eqS scl scal; simp
theorem neS_bl (i j : Bool) : neS (.bl i) (.bl j) = some (.bl (!decide (i = j))) := by
  unfold neS scl scal; simp
theorem addI_i (i j : Int) : addI (.int i) (.int j) = some (.int (i + j)) := rfl
theorem subD_i (i j : Int) : subD (.int i) (.int j) = some (.int (i - j)) := rfl
theorem ltD_i (i j : Int) : ltD (.int i) (.int j) = some (.bl (decide (i < j))) := rfl
theorem leD_i (i j : Int) : leD (.int i) (.int j) = some (.bl (decide (i ≤ j))) := rfl
theorem gtD_i (i j : Int) : gtD (.int i) (.int j) = some (.bl (decide (j < i))) := rfl
theorem geD_i (i j : Int) : geD (.int i) (.int j) = some (.bl (decide (j ≤ i))) := rfl
theorem modD_i {i j : Int} (h : 0 < j) : modD (.int i) (.int j) = some (.int (i % j)) := by
  show (if modOk i j then some (D.int (i % j)) else none) = _
  exact if_pos (yes_of h)
theorem divD_i {i j : Int} (h : 0 < j ∧ j < 1073741824) : divD (.int i) (.int j) = some (.int (i / j)) := by
  show (if divOk i j then some (D.int (i / j)) else none) = _
  exact if_pos (yes_of h)
theorem mulD_i {i j : Int} (h : (-(2 ^ 64) < i ∧ i < 2 ^ 64) ∨ (-(2 ^ 64) < j ∧ j < 2 ^ 64)) : mulD (.int i) (.int j) = some (.int (i * j)) := by
  show (if mulOk i j then some (D.int (i * j)) else none) = _
  exact if_pos (yes_of h)
theorem max2_i (i j : Int) : max2 (.int i) (.int j) = some (.int (max i j)) := by
  show some (D.int (if j > i then j else i)) = _
  rw [Int.max_def]
  congr 2
  split <;> split <;> omega
theorem min2_i (i j : Int) : min2 (.int i) (.int j) = some (.int (min i j)) := by
  show some (D.int (if j < i then j else i)) = _
  rw [Int.min_def]
  congr 2
  split <;> split <;> omega
theorem maxL_i (i j : Int) : maxL [.int i, .int j] = some (.int (max i j)) := max2_i i j
theorem minL_i (i j : Int) : minL [.int i, .int j] = some (.int (min i j)) := min2_i i j
theorem int1_i (i : Int) : int1 (.int i) = some (.int i) := rfl
theorem intL_i (i : Int) : intL [.int i] = some (.int i) := rfl
theorem len1_sq {d : D} {ds : List D} (h : sq d = some ds) : len1 d = some (.int ds.length) := by
  show (match sq d with | some ds => some (D.int ds.length) | none => _) = _
  rw [h]
theorem lenL_sq {d : D} {ds : List D} (h : sq d = some ds) : lenL [d] = some (.int ds.length) := len1_sq h
theorem tupL_sq {d : D} {ds : List D} (h : sq d = some ds) : tupL [d] = some (.tup ds) := by
  show (match sq d with | some ds => some (D.tup ds) | none => none) = _
  rw [h]
theorem ixD_sq {d e : D} {ds : List D} {i : Int} (h : sq d = some ds) (h2 : atI ds i = some e) : ixD d (.int i) = some e := by
  unfold ixD
  rw [h]
  exact h2
theorem isi_ty {T : String} {d : D} {n : String} {b : Bool} (h : kindD d = some (.inl n)) (h2 : kitB n T = some b) : isiD (tabTy T) d = some (.bl b) := by
  unfold isiD
  rw [h]
  show (kitB n T).map D.bl = _
  rw [h2]
  rfl
theorem isi_int_int (i : Int) : isiD (tabTy "int") (.int i) = some (.bl true) := isi_ty rfl (by decide +kernel)
theorem isi_bool_int (i : Int) : isiD (tabTy "bool") (.int i) = some (.bl false) := isi_ty rfl (by decide +kernel)
theorem isi_tuple_tup (l : List D) : isiD (tabTy "tuple") (.tup l) = some (.bl true) := isi_ty rfl (by decide +kernel)
end FL
namespace FL
open PySem L2
section
variable {α β : Type} {a : α} {ρ : Rho} {c : Nat} {ds : List D} {d : D}
theorem bind_ok {k : α → Rho → RX β} : (RX.ok a ρ).bind k = k a ρ := rfl
theorem bind_ex {k : α → Rho → RX β} : (RX.ex c ds ρ : RX α).bind k = .ex c ds ρ := rfl
theorem stmt_ok {k : α → Rho → RS} : (RX.ok a ρ).stmt k = k a ρ := rfl
theorem stmt_ex {k : α → Rho → RS} : (RX.ex c ds ρ : RX α).stmt k = .ex c ds ρ := rfl
theorem seq_nx {k : Rho → RS} : (RS.nx ρ).seq k = k ρ := rfl
theorem seq_rt {k : Rho → RS} : (RS.rt d).seq k = .rt d := rfl
theorem seq_ex {k : Rho → RS} : (RS.ex c ds ρ).seq k = .ex c ds ρ := rfl
theorem seq_bk {k : Rho → RS} : (RS.bk ρ).seq k = .bk ρ := rfl
theorem seq_ct {k : Rho → RS} : (RS.ct ρ).seq k = .ct ρ := rfl
theorem fgt_nx {l : List Nat} : (RS.nx ρ).fgt l = .nx (fgt l ρ) := rfl
theorem fgt_bk {l : List Nat} : (RS.bk ρ).fgt l = .bk (fgt l ρ) := rfl
theorem fgt_ct {l : List Nat} : (RS.ct ρ).fgt l = .ct (fgt l ρ) := rfl
theorem fgt_rt {l : List Nat} : (RS.rt d).fgt l = .rt d := rfl
theorem fgt_ex {l : List Nat} : (RS.ex c ds ρ).fgt l = .ex c ds ρ := rfl
theorem out_nx : (RS.nx ρ).out = .rt .non := rfl
theorem out_rt : (RS.rt d).out = .rt d := rfl
theorem out_ex : (RS.ex c ds ρ).out = .ex c ds := rfl
theorem andB_tt {k : Option D} : andB (.bl true) k = k := rfl
theorem andB_ff {k : Option D} : andB (.bl false) k = some (.bl false) := rfl
theorem andB_some {p q : Bool} : andB (.bl p) (some (.bl q)) = some (.bl (p && q)) := by cases p <;> rfl
theorem orB_tt {k : Option D} : orB (.bl true) k = some (.bl true) := rfl
theorem orB_ff {k : Option D} : orB (.bl false) k = k := rfl
theorem orB_some {p q : Bool} : orB (.bl p) (some (.bl q)) = some (.bl (p || q)) := by cases p <;> rfl
theorem andX_tt {k : RX D} : andX (.bl true) k ρ = k := rfl
theorem andX_ff {k : RX D} : andX (.bl false) k ρ = .ok (.bl false) ρ := rfl
theorem andX_some {p q : Bool} : andX (.bl p) (.ok (.bl q) ρ) ρ = .ok (.bl (p && q)) ρ := by cases p <;> rfl
theorem orX_tt {k : RX D} : orX (.bl true) k ρ = .ok (.bl true) ρ := rfl
theorem orX_ff {k : RX D} : orX (.bl false) k ρ = k := rfl
theorem orX_some {p q : Bool} : orX (.bl p) (.ok (.bl q) ρ) ρ = .ok (.bl (p || q)) ρ := by cases p <;> rfl
theorem itAnd {p q : Bool} : (if p = true then some q else some false) = some (p && q) := by cases p <;> rfl
theorem itOr {p q : Bool} : (if p = true then some true else some q) = some (p || q) := by cases p <;> rfl
theorem itAndX {p q : Bool} : (if p = true then RX.ok q ρ else RX.ok false ρ) = RX.ok (p && q) ρ := by cases p <;> rfl
theorem itOrX {p q : Bool} : (if p = true then RX.ok true ρ else RX.ok q ρ) = RX.ok (p || q) ρ := by cases p <;> rfl
theorem opt_some : opt (some d) ρ = .ok d ρ := rfl
theorem optL_some : optL (some ds) ρ = .ok ds ρ := rfl
end
end FL

set_option Elab.async false
set_option linter.all false
set_option maxRecDepth 100000
namespace FL
open PySem L2
open PyProof.Rows (envOfC)
noncomputable section
/-! ### own classes -/
/-- what a class of the program has: its name, its fields in the order in which __init__ stores them -/
structure ClsT (K : PySem.W.Frag) (mg : Str → Option Value) (cl : Tb) (c : Nat) (nm : Str) (fl : List Str) : Prop where
  mgC : mg nm = some (.ref (cl c).at_)
  fse : (cl c).fs = fl
  cls : Cls K (cl c).at_
  no : ∀ f ∈ fl, NoAttr K (cl c).at_ f
  ins : InsTy K (cl c).at_
  fst : PySem.W.selfFirst K (cl c).at_ = true
  kit : PySem.W.kitOne K (.ref (cl c).at_) (.ref (cl c).at_) = some true
structure FldOk (K : PySem.W.Frag) (cl : Tb) (c i : Nat) (f : Str) : Prop where
  cls : Cls K (cl c).at_
  no : NoAttr K (cl c).at_ f
  at_ : (cl c).fs[i]? = some f
  fst : ∀ j, j < i → (cl c).fs[j]? ≠ some f
theorem ClsT.fld {K : PySem.W.Frag} {mg : Str → Option Value} {cl : Tb} {c : Nat} {nm f : Str} {fs : List Str} {i : Nat} (T : ClsT K mg cl c nm fs) (h : fs[i]? = some f) (h2 : (fs.take i).contains f = false) : FldOk K cl c i f := by
  refine ⟨T.cls, T.no f (List.mem_of_getElem? h), by rw [T.fse]; exact h, fun j hj e => ?_⟩
  rw [T.fse] at e
  have : f ∈ fs.take i := List.mem_of_getElem? (i := j) (by rw [List.getElem?_take]; rw [if_pos hj]; exact e)
  rw [List.contains_iff_mem.mpr this] at h2
  cases h2
theorem zip_lookup : ∀ {fs : List Str} {i : Nat} {f : Str} (xs : List V), fs[i]? = some f → (∀ j, j < i → fs[j]? ≠ some f) → (fs.zip xs).lookup f = xs[i]?
  | [], _, _, _, h, _ => by simp at h
  | g :: fs, i, f, [], h, _ => by simp
  | g :: fs, 0, f, x :: xs, h, _ => by
    have e : g = f := by simpa using h
    subst e
    simp
  | g :: fs, i + 1, f, x :: xs, h, h2 => by
    have ne : ¬ f = g := fun e => h2 0 (Nat.succ_pos _) (by simp [e])
    have hb : (f == g) = false := by simpa using ne
    rw [List.zip_cons_cons, List.lookup_cons, hb]
    simpa using zip_lookup xs (i := i) (by simpa using h) fun j hj e => h2 (j + 1) (by omega) (by simpa using e)
theorem zip_none : ∀ {fs : List Str} {f : Str} (xs : List V), f ∉ fs → (fs.zip xs).lookup f = none
  | [], f, xs, _ => by simp
  | g :: fs, f, [], _ => by simp
  | g :: fs, f, x :: xs, h => by
    have hb : (f == g) = false := by
      have : ¬ f = g := fun e => h (by rw [e]; exact List.mem_cons_self)
      simpa using this
    rw [List.zip_cons_cons, List.lookup_cons, hb]
    exact zip_none xs fun m => h (List.mem_cons_of_mem _ m)
/-- a field stored: a new one, an old one -/
theorem putF_zip : ∀ {fs : List Str} {i : Nat} {f : Str} {y : V} {xs : List V}, fs[i]? = some f → (∀ j, j < i → fs[j]? ≠ some f) → i ≤ xs.length → putF f y (fs.zip xs) = fs.zip (if i < xs.length then xs.set i y else xs ++ [y]) ∨ xs.length > fs.length
  | [], _, _, _, _, h, _, _ => by simp at h
  | g :: fs, 0, f, y, [], h, _, _ => by
    have e : g = f := by simpa using h
    subst e
    left; simp [putF]
  | g :: fs, i + 1, f, y, [], h, _, hl => by simp at hl
  | g :: fs, 0, f, y, x :: xs, h, _, _ => by
    have e : g = f := by simpa using h
    subst e
    left; simp [putF]
  | g :: fs, i + 1, f, y, x :: xs, h, h2, hl => by
    have ne : ¬ g = f := fun e => h2 0 (Nat.succ_pos _) (by simp [e])
    rcases putF_zip (fs := fs) (i := i) (f := f) (y := y) (xs := xs) (by simpa using h) (fun j hj e => h2 (j + 1) (by omega) (by simpa using e)) (by simpa using hl) with q | q
    · left
      rw [List.zip_cons_cons]
      show (if g = f then _ else (g, x) :: putF f y (fs.zip xs)) = _
      rw [if_neg ne, q]
      by_cases hi : i < xs.length
      · rw [if_pos hi, if_pos (by simpa using hi)]; simp
      · rw [if_neg hi, if_neg (by simpa using hi)]; simp
    · right; simp; omega

section
variable {X : Cx} {cl : Tb} {W : WX'} {K : PySem.W.Frag}
variable {G : Gh} {F H F' H' : Hp} {R B A A' : Fp} {σ : St} {ρ ρ' : Rho} {pos : Pos}

/-- a field's value -/
def qFld (c i : Nat) (a : Rho → Option D) : Rho → Option D := fun ρ => (a ρ).bind fun x => match x with
  | .obj c' ds => if c' = c then ds[i]? else none
  | .mobj c' ds => if c' = c then ds[i]? else none
  | _ => none
theorem fq_fld {e : Expr} {f : Str} {m : Rho → Option D} (c i : Nat) (ok : FldOk X.K cl c i f) (h : FQ X cl e m) (hb : attributeBase e f X.env (eval e X.env) = eval e X.env) : FQ X cl (.Attribute e f pos) (qFld c i m) := PE_imp (pe_fld h hb) fun σ H Q q => by
  obtain ⟨G, F, ρ, A, R, st, en, p⟩ := q
  refine ⟨G, F, ρ, A, R, st, en, ?_⟩
  unfold qFld at p
  cases hm : m ρ with
  | none => rw [hm] at p; exact p.elim
  | some x =>
    rw [hm, Option.bind_some] at p
    intro v o
    cases x with
    | obj c' ds =>
      by_cases hc : c' = c
      · subst hc
        simp only [if_true] at p
        obtain ⟨a, dx, xs, rfl, q, z, r⟩ := o
        cases hd : ds[i]? with
        | none => rw [hd] at p; exact p.elim
        | some d =>
          rw [hd] at p
          obtain ⟨w, hw, ow⟩ := r.get hd
          exact ⟨a, _, dx, _, w, rfl, st.sub _ _ q, ok.cls, ok.no, (zip_lookup xs ok.at_ ok.fst).trans hw, p w ow⟩
      · simp only [hc, if_false] at p
    | mobj c' ds =>
      by_cases hc : c' = c
      · subst hc
        simp only [if_true] at p
        obtain ⟨a, dx, xs, B, ⟨rfl, _⟩, n, q, z, r, s⟩ := o
        cases hd : ds[i]? with
        | none => rw [hd] at p; exact p.elim
        | some d =>
          rw [hd] at p
          obtain ⟨w, hw, ow⟩ := r.get hd
          exact ⟨a, _, dx, _, w, rfl, q, ok.cls, ok.no, (zip_lookup xs ok.at_ ok.fst).trans hw, p w (ow.up fun x => by have := s x; omega)⟩
      · simp only [hc, if_false] at p
    | _ => exact p.elim

/-- self.f = e, in __init__: slot i holds self, j is f's place -/
def sFld (i c j : Nat) (m : Rho → RX D) : Rho → RS := fun ρ => (m ρ).stmt fun d ρ1 => match ρ1[i]? with
  | some (some (.mobj c' ds)) => if c' = c ∧ j ≤ ds.length then .nx (ρ1.set i (some (.mobj c (if j < ds.length then ds.set j d else ds ++ [d])))) else .bad
  | _ => .bad
theorem Owns.set {K : PySem.W.Frag} {cl : Tb} {F H : Hp} : ∀ {ds : List D} {vs : List V} {A B : Fp} {d : D} {v : V} (i : Nat), Owns K cl F H ds vs A → Own K cl F H d v B → Owns K cl F H (ds.set i d) (vs.set i v) (fun x => A x + B x)
  | [], vs, A, B, d, v, i, h, o => by
    have e : vs = [] := h
    subst e; exact rfl
  | d' :: ds, vs, A, B, d, v, 0, h, o => by
    obtain ⟨v', r, B', C', es, p, q, s⟩ := h
    subst es
    exact ⟨v, r, B, C', rfl, o, q, fun x => by have := s x; show B x + C' x ≤ A x + B x; omega⟩
  | d' :: ds, vs, A, B, d, v, i + 1, h, o => by
    obtain ⟨v', r, B', C', es, p, q, s⟩ := h
    subst es
    exact ⟨v', _, B', fun x => C' x + B x, rfl, p, Owns.set i q o, fun x => by have := s x; show B' x + (C' x + B x) ≤ A x + B x; omega⟩
theorem sn_set {K : PySem.W.Frag} {cl : Tb} {F H : Hp} {ds : List D} {vs : List V} {A B : Fp} {d : D} {v : V} {j : Nat} (h : Owns K cl F H ds vs A) (o : Own K cl F H d v B) : Owns K cl F H (if j < vs.length then ds.set j d else ds ++ [d]) (if j < vs.length then vs.set j v else vs ++ [v]) (fun x => A x + B x) := by
  split
  · exact h.set j o
  · exact h.snoc o
theorem fs_fld {i c j : Nat} {x f : Str} {p : Pos} {pos' : Pos} {e : Expr} {m : Rho → RX D} (ok : FldOk X.K cl c j f) (hl : (cl c).fs.length < 1000) (hx : PE X (.Name x p) (tVar i)) (h : FE X cl W e m)
    (hs : swapsWith e (some (.Attribute (.Name x p) f pos')) pos.line X.env = pure false := by rfl) : FS X cl W (.Assign [.Attribute (.Name x p) f pos'] e pos) (sFld i c j m) := PS_imp (ps_fld hx h hs) fun E σ H q => by
  obtain ⟨G, F, ρ, A, R, st, en, p⟩ := q
  refine ⟨G, F, ρ, A, R, st, en, Pst.stmt p fun d ρ1 v1 F1 H1 A1 B1 e1 o1 p1 => ?_⟩
  split at p1
  · rename_i c' ds hρ
    by_cases hc : c' = c ∧ j ≤ ds.length
    · rw [if_pos hc] at p1
      obtain ⟨rfl, hj⟩ := hc
      obtain ⟨w, B2, C2, hw, o2, en2, hs2⟩ := e1.en.get hρ
      obtain ⟨a, dx, xs, B3, ⟨rfl, ea⟩, fa, hH, hz, os, hs3⟩ := o2
      have hds : ds.length = xs.length := Owns.length os
      refine ⟨.ref a, hw, a, _, dx, _, rfl, hH, ok.cls, ok.no, by rw [List.length_zip]; omega, ?_⟩
      have hput : putF f v1 ((cl c').fs.zip xs) = (cl c').fs.zip (if j < xs.length then xs.set j v1 else xs ++ [v1]) := by
        rcases putF_zip (y := v1) (xs := xs) ok.at_ ok.fst (by omega) with q | q
        · exact q
        · omega
      rw [hput]
      have hB2 : 0 < B2 a := by have := hs3 a; rw [one_self] at this; omega
      have hA1 : 0 < A1 a := by have := hs2 a; omega
      have nd := e1.st.nd
      have st2 := upd_own (o := .ins (cl c').at_ dx ((cl c').fs.zip (if j < xs.length then xs.set j v1 else xs ++ [v1]))) e1.st (show 0 < A1 a + (B1 a + R a) by omega)
      have off : ∀ b, 0 < C2 b + (B3 b + (B1 b + R b)) → b ≠ a := fun b hb e => by
        subst e
        have h1 : A1 b + (B1 b + R b) ≤ 1 := nd b
        have h2 := hs2 b
        have h3 := hs3 b
        rw [one_self] at h3
        omega
      have own1 : ∀ b, 0 < A1 b + (B1 b + R b) → F1 b = none := fun b hb => (e1.st.own b hb).1
      have en3 : EnvR X.K cl F1 (upd H1 a (.ins (cl c').at_ dx ((cl c').fs.zip (if j < xs.length then xs.set j v1 else xs ++ [v1])))) (ρ1.set i none) σ C2 := en2.mono Le.refl (fun b hb => ⟨upd_ne (off b (by omega)), own1 b (by have := hs2 b; omega)⟩) fun _ => Nat.le_refl _
      have os3 : Owns X.K cl F1 (upd H1 a (.ins (cl c').at_ dx ((cl c').fs.zip (if j < xs.length then xs.set j v1 else xs ++ [v1])))) ds xs B3 := os.mono Le.refl (fun b hb => ⟨upd_ne (off b (by omega)), own1 b (by have := hs2 b; have := hs3 b; omega)⟩) fun _ => Nat.le_refl _
      have o3 : Own X.K cl F1 (upd H1 a (.ins (cl c').at_ dx ((cl c').fs.zip (if j < xs.length then xs.set j v1 else xs ++ [v1])))) d v1 B1 := o1.mono Le.refl (fun b hb => ⟨upd_ne (off b (by omega)), own1 b (by omega)⟩) fun _ => Nat.le_refl _
      have hjf : j < (cl c').fs.length := (List.getElem?_eq_some_iff.mp ok.at_).1
      have ov : Own X.K cl F1 (upd H1 a (.ins (cl c').at_ dx ((cl c').fs.zip (if j < xs.length then xs.set j v1 else xs ++ [v1])))) (.mobj c' (if j < ds.length then ds.set j d else ds ++ [d])) (.ref a) (fun z => one a z + (B3 z + B1 z)) := by
        refine ⟨a, dx, _, fun z => B3 z + B1 z, ⟨rfl, ea⟩, fa, upd_same, ?_, ?_, fun _ => Nat.le_refl _⟩
        · split
          · rw [List.length_set]; exact hz
          · rw [List.length_append, List.length_singleton]; omega
        · rw [hds]
          exact sn_set os3 o3
      have en4 := en3.put (i := i) ov
      rw [List.set_set] at en4
      have hσ : σ.set i (some (.ref a)) = σ := by
        obtain ⟨hl, hg⟩ := List.getElem?_eq_some_iff.mp hw
        rw [← hg]
        exact List.set_getElem_self hl
      rw [hσ] at en4
      refine p1 σ F1 _ _ ⟨Le.refl, fun b hb => upd_ne (off b (by omega)), st2.less fun z => ?_, en4⟩
      have h2 := hs2 z
      have h3 := hs3 z
      show one a z + (B3 z + B1 z) + C2 z + (zf z + R z) ≤ A1 z + (B1 z + R z)
      unfold zf
      omega
    · rw [if_neg hc] at p1; exact p1.elim
  · exact p1.elim

/-! ### another place of self -/
def Tb.at' (cl : Tb) (x : Option Addr) : Tb := { cl with sf := x }
mutual
theorem Own.tb {x : Option Addr} : ∀ {d : D} {v : V}, Own K cl F H d v zf → Own K (cl.at' x) F H d v zf
  | .non, _, h => h
  | .bl _, _, h => h
  | .int _, _, h => h
  | .str _, _, h => h
  | .tup ds, v, h => by obtain ⟨a, xs, e, q, r⟩ := h; exact ⟨a, xs, e, q, Owns.tb r⟩
  | .lst ds, v, h => by obtain ⟨a, xs, e, q, r⟩ := h; exact ⟨a, xs, e, q, Owns.tb r⟩
  | .vec ds, v, h => by
    obtain ⟨a, xs, B, e, n, q, r, s⟩ := h
    have := s a; rw [one_self] at this; unfold zf at this; omega
  | .obj c ds, v, h => by obtain ⟨a, dx, xs, e, q, z, r⟩ := h; exact ⟨a, dx, xs, e, q, z, Owns.tb r⟩
  | .mobj c ds, v, h => by
    obtain ⟨a, dx, xs, B, e, n, q, z, r, s⟩ := h
    have := s a; rw [one_self] at this; unfold zf at this; omega
  | .exc c ds, v, h => by obtain ⟨xs, e, q, z, r⟩ := h; exact ⟨xs, e, q, z, Owns.tb r⟩
  | .dT ks ds, v, h => by obtain ⟨a, xs, e, q, z, r⟩ := h; exact ⟨a, xs, e, q, z, Owns.tb r⟩
  | .dK ks ds, v, h => by obtain ⟨a, xs, e, q, z, r⟩ := h; exact ⟨a, xs, e, q, z, Owns.tb r⟩
  | .vT ks ds, v, h => by
    obtain ⟨a, xs, B, e, n, q, z, r, s⟩ := h
    have := s a; rw [one_self] at this; unfold zf at this; omega
  | .vK ks ds, v, h => by
    obtain ⟨a, xs, B, e, n, q, z, r, s⟩ := h
    have := s a; rw [one_self] at this; unfold zf at this; omega
  | .val _, _, h => h
theorem Owns.tb {x : Option Addr} : ∀ {ds : List D} {vs : List V}, Owns K cl F H ds vs zf → Owns K (cl.at' x) F H ds vs zf
  | [], _, h => h
  | d :: ds, vs, h => by
    obtain ⟨v, r, B, C, e, p, q, s⟩ := h
    exact ⟨v, r, zf, zf, e, Own.tb (p.up fun x => by have := s x; omega), Owns.tb (q.up fun x => by have := s x; omega), fun _ => Nat.le_refl _⟩
end
theorem Own.untb {x : Option Addr} {d : D} {v : V} (h : Own K (cl.at' x) F H d v zf) : Own K cl F H d v zf := Own.tb (cl := cl.at' x) (x := cl.sf) h
theorem Owns.untb {x : Option Addr} {d : List D} {v : List V} (h : Owns K (cl.at' x) F H d v zf) : Owns K cl F H d v zf := Owns.tb (cl := cl.at' x) (x := cl.sf) h

/-! ### an instance is made -/
/-- what __init__ makes of data: the fields -/
def runI (c np nN : Nat) (b : Rho → RS) (ds : List D) : RF := if ds.length = np then
    match b (some (.mobj c []) :: (ds.map some ++ List.replicate (nN - 1 - np) none)) with
    | .nx ρ => (match (ρ[0]? : Option (Option D)) with | some (some (D.mobj c' es)) => if c' = c then .rt (.obj c (D.frzs es)) else .bad | _ => .bad)
    | .ex c' es _ => .ex c' es
    | _ => .bad
  else .bad
def del' (H : Hp) (x : Addr) : Hp := fun a => if a = x then none else H a
/-- the promise of an __init__ -/
def spI (K : PySem.W.Frag) (cl : Tb) (c n : Nat) (m : List D → RF) : Sp := fun vs H Q E => vs.length = n + 1 ∧ ∃ x dx vs' F ds, vs = .ref x :: vs' ∧ H x = some (.ins (cl c).at_ dx []) ∧ F x = none ∧ Le F H ∧ Owns K cl F H ds vs' zf ∧
  match m ds with
  | .rt d => ∀ F' H', Le F F' → (∀ a o, a ≠ x → H a = some o → H' a = some o) → Sta ⟨del' H x, F⟩ F' H' zf → Own K cl F' H' d (.ref x) zf → Q .non H'
  | .ex c' es => ∀ u d F' H', Le F F' → (∀ a o, a ≠ x → H a = some o → H' a = some o) → Sta ⟨del' H x, F⟩ F' H' zf → ExR K cl F' c' es u d → E u d H'
  | .bad => False
theorem ExR.untb {x : Option Addr} {c : Nat} {ds : List D} {v : Value} {d : Option Addr} (h : ExR K (cl.at' x) F c ds v d) : ExR K cl F c ds v d := by
  obtain ⟨e, dd, xs, e2, e3, e4, o⟩ := h
  exact ⟨e, dd, xs, e2, e3, e4, o.untb⟩
theorem fn_I {P : Program} {w : World} {K : PySem.W.Frag} {mg : Str → Option Value} {base : Heap} {x qual : Str} {st : Stmt} {f : Addr} {fd : FuncData} {N ps : List Str} {k n nN c : Nat} {b : Rho → RS}
    (Fn : Fun K x qual st f fd) (S : FnScope N ps (defScope st)) (hn : n + 1 = ps.length) (hN : nN = N.length)
    (hb : ∀ (sf : Addr) (cdv : Value) (A : Around) (outer : List Env) (s : Shared) (H : Hp) (E : XK), Room k (A.deeper (envOfC qual (defScope st) s.heap.objs.size f cdv)) →
      FSs (cxOf (L2N.CX P w) P w K mg base N qual (defScope st) f cdv A outer s H E) (cl.at' (some sf)) (fun c d _ H => E c d H) (defBody st) b) :
    FnOk P w K mg base (L2N.CX P w) (k + 1) f fd ps (spI K cl c n (runI c n nN b)) := by
  refine okN Fn S (fun vs H Q E h => h.1.trans hn) fun cdv A outer s H vs Q E hr h => ?_
  obtain ⟨hl, x, dx, vs', F, ds, rfl, hx, fx, le, os, p⟩ := h
  refine ⟨_, hb x cdv A outer s H E hr, ?_⟩
  have hds : ds.length = vs'.length := Owns.length os
  have hl' : vs'.length = n := by simpa using hl
  have st0 : Sta ⟨del' H x, F⟩ F H (one x) := by
    refine ⟨le, fun a o e => ?_, Le.refl, fun a o e => .inl e, fun a ha => ?_, fun a => ?_, fun a xs ha => ?_⟩
    · have e' : (if a = x then none else H a) = some o := e
      split at e'
      · cases e'
      · exact e'
    · unfold one at ha
      by_cases h : a = x
      · subst h; exact ⟨fx, by show (if a = a then none else H a) = none; simp, _, hx⟩
      · rw [if_neg h] at ha; omega
    · unfold one; split <;> omega
    · unfold one at ha
      by_cases h : a = x
      · subst h; rw [hx]; intro e; cases e
      · rw [if_neg h] at ha; omega
  have slots : EnvR K (cl.at' (some x)) F H (some (.mobj c []) :: (ds.map some ++ List.replicate (nN - 1 - n) none)) (L2.start N (.ref x :: vs')) (one x) := by
    have e1 : L2.start N (V.ref x :: vs') = some (.ref x) :: (vs'.map some ++ List.replicate (nN - 1 - n) none) := by
      unfold L2.start
      rw [List.map_cons, List.cons_append, List.length_cons, hl', hN]
      congr 3
      omega
    rw [e1]
    refine ⟨.ref x, _, one x, zf, rfl, ⟨x, dx, [], zf, ⟨rfl, rfl⟩, fx, by simpa [Tb.at'] using hx, by simp, rfl, fun z => by show one x z + zf z ≤ one x z; unfold zf; omega⟩, EnvR.args os.tb (EnvR.none_all _), fun z => by show one x z + zf z ≤ one x z; unfold zf; omega⟩
  refine ⟨⟨del' H x, F⟩, F, _, one x, zf, st0.less fun z => by show one x z + zf z ≤ one x z; unfold zf; omega, slots, ?_⟩
  have keepH : ∀ {F' H' : Hp} {S : Fp}, Sta ⟨del' H x, F⟩ F' H' S → ∀ a o, a ≠ x → H a = some o → H' a = some o := fun {F' H' S} s a o ne e => s.ent a o (by show (if a = x then none else H a) = some o; rw [if_neg ne]; exact e)
  unfold runI at p
  rw [if_pos (hds.trans hl')] at p
  split at p
  · rename_i d heq
    split at heq
    · rename_i ρ hb2
      rw [hb2]
      split at heq
      · rename_i c' es hρ
        by_cases hc : c' = c
        · rw [if_pos hc] at heq
          cases heq
          subst hc
          intro σ F' H' A' e
          obtain ⟨v, B, C, hv, o, _, hs⟩ := e.en.get hρ
          obtain ⟨a, dx', xs, B', ⟨rfl, ea⟩, fa, hH, hz, oo, hs'⟩ := o
          have ea' : a = x := by injection ea
          subst ea'
          -- self is frozen
          have st1 : Sta ⟨del' H a, F⟩ F' H' (fun z => zf z + (B z + zf z)) := e.st.less fun z => by have := hs z; show zf z + (B z + zf z) ≤ A' z + (zf z + zf z); unfold zf; omega
          obtain ⟨le2, st2⟩ := fz_st (B := B) st1
          have ov : Own K (cl.at' (some a)) (fz F' H' B) H' (.obj c' (D.frzs es)) (.ref a) zf := by
            have o1 : Own K (cl.at' (some a)) F' H' (.mobj c' es) (.ref a) B := ⟨a, dx', xs, B', ⟨rfl, rfl⟩, fa, hH, hz, oo, hs'⟩
            exact o1.freeze le2 fun b hb => fz_at hb
          exact p _ H' (e.le.trans le2) (keepH e.st) (st2.less fun z => by show zf z ≤ _; exact Nat.zero_le _) ov.untb
        · rw [if_neg hc] at heq; cases heq
      · cases heq
    · cases heq
    · cases heq
  · rename_i c' es heq
    split at heq
    · split at heq
      · split at heq <;> cases heq
      · cases heq
    · rename_i hb2
      rw [hb2]
      cases heq
      exact fun u d σ F' H' A' e o => p u d F' H' e.le (keepH e.st) (e.st.less fun z => by show zf z ≤ _; exact Nat.zero_le _) o.untb
    · cases heq
  · exact p.elim

/-- a class that can be called: its __init__ is at hand -/
structure MakC (P : Program) (w : World) (K : PySem.W.Frag) (mg : Str → Option Value) (base : Heap) (cl : Tb) (c : Nat) (x : Str) (k n : Nat) (m : List D → RF) (dd : List D) : Prop where
  ex : ∃ (f : Addr) (fd : FuncData) (ps : List Str) (ds : List Value) (dv : List V), FnOk P w K mg base (L2N.CX P w) k f fd ps (spI K cl c n m) ∧ mg x = some (.ref (cl c).at_) ∧ Mk K (cl c).at_ f ∧ Binds K fd ps ds ∧ Vals dv ds ∧ ∀ F H, Owns K cl F H dd dv zf
  len : ∀ l, m l ≠ .bad → l.length = n
/-- the reading of C(..) at the caller's slots -/
def tMakeS (C : Addr) (sp : Sp) (dvs : List V) (E : St → XK) (t : TA) : TE := fun σ H Q => t σ H fun vs H1 => ∀ x dx, H1 x = none → H1 dx = none → dx ≠ x →
  sp (.ref x :: (vs ++ dvs)) (upd (upd H1 dx (.own x)) x (.ins C dx [])) (fun v H2 => v = .non ∧ Q (.ref x) H2) (E σ)
theorem run_makeS {CX : CXT} {k : Nat} {f C : Addr} {fd : FuncData} {ps : List Str} {sp : Sp} {dvs : List V} {ds : List Value} {E : St → XK} {pins : List (Addr × Obj)} {σ : St} {H : Hp} {s : Shared} {Q : VK} {us : List Value} {vs : List V} (M : Mk X.K C f) (F : FnOk X.prog X.w X.K X.mg X.base CX k f fd ps sp) (hr : Room (k + 1) X.A) (hb : Binds X.K fd ps ds) (hd : Vals dvs ds)
    (hx : PassesAt CX X σ (E σ)) (I : Inv X pins σ H s) (r : Vals vs us)
    (h : ∀ x dx, H x = none → H dx = none → dx ≠ x → sp (.ref x :: (vs ++ dvs)) (upd (upd H dx (.own x)) x (.ins C dx [])) (fun v H2 => v = .non ∧ Q (.ref x) H2) (E σ)) :
    wpAny (model X.prog X.w) X.A (call (.ref C) us) (EP X pins σ Q) X.xe s := by
  have hq := h (s.heap.objs.size + 1) s.heap.objs.size (I.hok.fresh (Nat.le_succ _)) (I.hok.fresh (Nat.le_refl _)) (Nat.ne_of_lt (Nat.lt_succ_self _))
  have I2 := Inv.made (C := C) I
  have r2 : Vals (V.ref (s.heap.objs.size + 1) :: (vs ++ dvs)) (Value.ref (s.heap.objs.size + 1) :: (us ++ ds)) := .cons rfl (r.append hd)
  have hl : (Value.ref (s.heap.objs.size + 1) :: us ++ ds).length = ps.length := by
    have e := r2.length
    rw [F.len _ _ _ _ hq] at e
    exact e.symm
  refine wpAny_call (make_map (f := f) I.kIn M.makes M.init (beq_iff_eq.mp M.fn) (codeAny_mono (F.run _ X.stack _ _ ⟨Value.ref (s.heap.objs.size + 1) :: us, []⟩ (Value.ref (s.heap.objs.size + 1) :: (us ++ ds)) _ _ (E σ) (hr.make C us [])
    (I2.env0.make C us []) (hb _ (Value.ref (s.heap.objs.size + 1) :: us) I2.kIn hl) r2 hq) fun r s' hq' => ?_))
  cases r with
  | error e => exact hx pins _ _ e s' I2 hq'
  | ok fl =>
    cases fl with
    | ret u =>
      obtain ⟨v, H', I3, rv, ev, q3⟩ := I2.after hq'
      subst ev
      exact ⟨rv, ⟨V.ref (s.heap.objs.size + 1), H', I3, rfl, q3⟩⟩
    | next => exact False.elim hq'
    | brk => exact False.elim hq'
    | cont => exact False.elim hq'
theorem make_imp {c n : Nat} {m : List D → RF} {dd : List D} {dv : List V} {a : Rho → RX (List D)} (hdd : ∀ F H, Owns X.K cl F H dd dv zf) (hlen : ∀ l, m l ≠ .bad → l.length = n) (σ : St) (H : Hp) (Q : VK) (q : tX X.K cl W (rD X.K cl) (eCall m dd a) σ H Q) :
    tMakeS (cl c).at_ (spI X.K cl c n m) dv (WE W) (tX X.K cl W (rL X.K cl) a) σ H Q := by
  obtain ⟨G, F, ρ, A, R, st, en, p⟩ := q
  refine ⟨G, F, ρ, A, R, st, en, Pst.bind p fun xs ρ1 v1 F1 H1 A1 B1 e1 o1 p1 => ?_⟩
  intro x dx nx ndx hne
  obtain ⟨e2, le2⟩ := e1.fz
  have o2 : Owns X.K cl (fz F1 H1 B1) H1 (D.frzs xs) v1 zf := Owns.freeze o1 le2 fun a ha => fz_at ha
  have o3 := Owns.append o2 (hdd (fz F1 H1 B1) H1)
  have e3 : Ev X.K cl G F1 H1 R (fz F1 H1 B1) H1 σ ρ1 A1 zf := ⟨le2, fun _ _ => rfl, e2.st, e2.en⟩
  have fx : fz F1 H1 B1 x = none := by
    cases q : fz F1 H1 B1 x with
    | none => rfl
    | some w => rw [e2.st.sub x w q] at nx; cases nx
  have leU : Le H1 (upd (upd H1 dx (.own x)) x (.ins (cl c).at_ dx [])) := fun a o e => by rw [upd_ne (ne_of_none e nx), upd_ne (ne_of_none e ndx)]; exact e
  -- what __init__ leaves is behind a call
  have after : ∀ {F' H' : Hp}, Le (fz F1 H1 B1) F' → (∀ a o, a ≠ x → upd (upd H1 dx (.own x)) x (.ins (cl c).at_ dx []) a = some o → H' a = some o) → Sta ⟨del' (upd (upd H1 dx (.own x)) x (.ins (cl c).at_ dx [])) x, fz F1 H1 B1⟩ F' H' zf → Ev X.K cl G F1 H1 R F' H' σ ρ1 A1 zf := fun {F' H'} le lh st' => by
    refine e3.call le (fun a o e => lh a o (ne_of_none e nx) (leU a o e)) ⟨st'.sub, fun a o e => lh a o (ne_of_none e nx) (leU a o e), le, fun a o e => ?_, fun a ha => absurd ha (Nat.lt_irrefl _), fun a => Nat.zero_le _, fun a _ ha => absurd ha (Nat.lt_irrefl _)⟩
    rcases st'.fr a o e with z | z | z
    · exact .inl z
    rotate_left
    · exact .inr (.inr z)
    · right; left
      show H1 a = none
      have z' : (if a = x then none else upd (upd H1 dx (.own x)) x (.ins (cl c).at_ dx []) a) = none := z
      split at z'
      · rename_i h; rw [h]; exact nx
      · cases q : H1 a with
        | none => rfl
        | some w => rw [leU a w q] at z'; cases z'
  refine ⟨?_, x, dx, v1 ++ dv, fz F1 H1 B1, D.frzs xs ++ dd, rfl, upd_same, fx, fun a o e => leU a o (e2.st.sub a o e), zero_owns o3 Le.refl, ?_⟩
  · rw [List.length_cons, ← Owns.length o3]
    congr 1
    refine hlen _ fun z => ?_
    simp only [z] at p1
    exact p1
  · cases hm : m (D.frzs xs ++ dd) with
    | rt d =>
      simp only [hm] at p1
      exact fun F' H' le lh st' o => ⟨rfl, p1 (.ref x) F' H' A1 zf (after le lh st') o⟩
    | ex c' es =>
      simp only [hm] at p1
      exact fun u d F' H' le lh st' o => p1 u d F' H' A1 (after le lh st') o
    | bad => simp only [hm] at p1; exact p1.elim
theorem fe_make {c : Nat} {x : Str} {k n : Nat} {m : List D → RF} {dd : List D} {p : Pos} {e : Expr} {es : List Expr} {a : Rho → RX (List D)} (Mc : MakC X.prog X.w X.K X.mg X.base cl c x k n m dd) (hr : Room (k + 1) X.A) (hg : Gl X x) (tk : L2N.Takes X W) (ha : FA X cl W (e :: es) a)
    (hdb : (x == ("__debug__" : Str)) = false := by decide) (he : starEach (e :: es) X.env = (false, eval e X.env) :: starEach es X.env := by rfl) (hpl : (backTo pos (starEach es X.env)).any (·.1) = false := by rfl) : FE X cl W (.Call (.Name x p) (e :: es) [] pos) (eCall m dd a) := by
  obtain ⟨⟨f, fd, ps, ds, dv, h1, h2, h3, h4, h5, h6⟩, hl⟩ := Mc
  refine PE_imp (t := tMakeS (cl c).at_ (spI X.K cl c n m) dv (WE W) (tX X.K cl W (rL X.K cl) a)) ⟨fun pins s σ H Q I h => ?_⟩ fun σ H Q q => make_imp h6 hl σ H Q q
  refine wpAny_Call_Name_kw (ld_glob I hg h2 ?_ hdb)
  refine PySem.W.callWith_K (h₀ := X.base) I.ok.mod.kin h3.kp (thn (ha.run pos pins s σ H _ I h) fun us s1 ⟨vs, H1, I1, r, q⟩ => ⟨I1.kIn, ?_⟩) he hpl
  exact run_makeS h3 h1 hr h4 h5 (L2N.passAt tk σ) I1 r q

/-! ### methods -/
/-- a method at hand: of the class c, by the name x -/
structure MthC (P : Program) (w : World) (K : PySem.W.Frag) (mg : Str → Option Value) (base : Heap) (cl : Tb) (c : Nat) (x : Str) (k n : Nat) (m : List D → RF) (dd : List D) : Prop where
  ex : ∃ (f : Addr) (fd : FuncData) (ps : List Str) (ds : List Value) (dv : List V), FnOk P w K mg base (L2N.CX P w) k f fd ps (spF K cl n m) ∧ Cls K (cl c).at_ ∧ Meth K (cl c).at_ x f ∧ x ∉ (cl c).fs ∧ Binds K fd ps ds ∧ Vals dv ds ∧ ∀ F H, Owns K cl F H dd dv zf
  len : ∀ l, m l ≠ .bad → l.length = n
def isObj' (c : Nat) : D → Bool
  | .obj c' _ => c' == c
  | _ => false
/-- o.m(..): o is quiet -/
def eMth (c : Nat) (m : List D → RF) (dd : List D) (o : Rho → Option D) (a : Rho → RX (List D)) : Rho → RX D := fun ρ => match o ρ with
  | some d => if isObj' c d && d.pure then (a ρ).bind fun ds ρ1 => (match m (d :: (D.frzs ds ++ dd)) with
    | .rt r => .ok r ρ1
    | .ex c' xs => .ex c' xs ρ1
    | .bad => .bad) else .bad
  | none => .bad
def tMethS (C : Addr) (x : Str) (sp : Sp) (dvs : List V) (E : St → XK) (ta : TE) (t : TA) : TE := fun σ H Q => ta σ H fun v H1 => ∃ a dx fs, v = .ref a ∧ H1 a = some (.ins C dx fs) ∧ fs.lookup x = none ∧
  t σ H1 fun vs H2 => sp (v :: (vs ++ dvs)) H2 Q (E σ)
theorem meth_imp {c n : Nat} {x : Str} {m : List D → RF} {dd : List D} {dv : List V} {o : Rho → Option D} {a : Rho → RX (List D)} (hdd : ∀ F H, Owns X.K cl F H dd dv zf) (hlen : ∀ l, m l ≠ .bad → l.length = n) (hx : x ∉ (cl c).fs) (σ : St) (H : Hp) (Q : VK) (q : tX X.K cl W (rD X.K cl) (eMth c m dd o a) σ H Q) :
    tMethS (cl c).at_ x (spF X.K cl n m) dv (WE W) (tQ X.K cl o) (tX X.K cl W (rL X.K cl) a) σ H Q := by
  obtain ⟨G, F, ρ, A, R, st, en, p⟩ := q
  refine ⟨G, F, ρ, A, R, st, en, ?_⟩
  unfold eMth at p
  cases ho : o ρ with
  | none => rw [ho] at p; exact p.elim
  | some d =>
    rw [ho] at p
    intro v ov
    by_cases hc : (isObj' c d && d.pure) = true
    · simp only [hc, if_true] at p
      rw [Bool.and_eq_true] at hc
      obtain ⟨hc1, hp⟩ := hc
      cases d with
      | obj c' ds =>
        have ec : c' = c := by simpa [isObj'] using hc1
        subst ec
        have oz := ov.of_pure (H' := H) hp
        obtain ⟨b, dx, xs, rfl, hb, hz, os⟩ := oz
        refine ⟨b, dx, _, rfl, st.sub _ _ hb, zip_none xs hx, G, F, ρ, A, R, st, en, Pst.bind p fun es ρ1 v1 F1 H1 A1 B1 e1 o1 p1 => ?_⟩
        obtain ⟨e2, le2⟩ := e1.fz
        have o2 : Owns X.K cl (fz F1 H1 B1) H1 (D.frzs es) v1 zf := Owns.freeze o1 le2 fun a ha => fz_at ha
        have o3 := Owns.append o2 (hdd (fz F1 H1 B1) H1)
        have oself : Own X.K cl (fz F1 H1 B1) H1 (.obj c' ds) (.ref b) zf := zero_own ⟨b, dx, xs, rfl, hb, hz, os⟩ (e1.le.trans le2)
        have o4 : Owns X.K cl (fz F1 H1 B1) H1 (.obj c' ds :: (D.frzs es ++ dd)) (.ref b :: (v1 ++ dv)) zf := ⟨.ref b, _, zf, zf, rfl, oself, o3, fun _ => Nat.le_refl _⟩
        have e3 : Ev X.K cl G F1 H1 R (fz F1 H1 B1) H1 σ ρ1 A1 zf := ⟨le2, fun _ _ => rfl, e2.st, e2.en⟩
        refine ⟨?_, fz F1 H1 B1, _, e2.st.sub, o4, ?_⟩
        · rw [← Owns.length o4]
          refine hlen _ fun z => ?_
          simp only [z] at p1
          exact p1
        · cases hm : m (.obj c' ds :: (D.frzs es ++ dd)) with
          | rt d =>
            simp only [hm] at p1
            exact fun v F' H' B le lh st' o => p1 v F' H' A1 B (e3.call le lh st') o
          | ex c xs =>
            simp only [hm] at p1
            exact fun u d F' H' le lh st' o => p1 u d F' H' A1 (e3.call le lh st') o
          | bad => simp only [hm] at p1; exact p1.elim
      | _ => cases hc1
    · simp only [hc] at p; exact p.elim
theorem fe_meth {pl : Sem Bool} {c : Nat} {x : Str} {k n : Nat} {m : List D → RF} {dd : List D} {apos : Pos} {oe e : Expr} {es : List Expr} {o : Rho → Option D} {a : Rho → RX (List D)} (Mc : MthC X.prog X.w X.K X.mg X.base cl c x k n m dd) (hr : Room k X.A) (tk : L2N.Takes X W) (ho : FQ X cl oe o) (ha : FA X cl W (e :: es) a)
    (hst : starEach (e :: es) X.env = (false, eval e X.env) :: starEach es X.env := by rfl) (hpl : (backTo pos (starEach es X.env)).any (·.1) = false := by rfl)
    (ht : eval (.Call (.Attribute oe x apos) (e :: es) [] pos) X.env = (do
      let ov ← eval oe X.env
      standAt apos.atName
      let (f, first) ← holding [ov] (getMethod ov x pl)
      callWith pos f first (backTo pos (starEach (e :: es) X.env)) (backToKw pos (keywordEach [] X.env))) := by rfl) : FE X cl W (.Call (.Attribute oe x apos) (e :: es) [] pos) (eMth c m dd o a) := by
  obtain ⟨⟨f, fd, ps, ds, dv, h1, h2, h3, hx, h4, h5, h6⟩, hl⟩ := Mc
  refine PE_imp (t := tMethS (cl c).at_ x (spF X.K cl n m) dv (WE W) (tQ X.K cl o) (tX X.K cl W (rL X.K cl) a)) ⟨fun pins s σ H Q I h => ?_⟩ fun σ H Q q => meth_imp h6 hl hx σ H Q q
  refine PySem.W.methodCall_KW (pl := pl) (thn (ho.run pins s σ H _ I h) fun u s1 ⟨v, H1, I1, rx, b, dx, fs, ex, eb, l, q⟩ => ?_) ht
  subst ex
  obtain rfl : u = Value.ref b := rx
  refine getmeth_ok I1 eb h2 h3 l ?_
  refine PySem.W.callWith_K (first := [.ref b]) (h₀ := X.base) I.ok.mod.kin h3.kp (thn (ha.run pos pins s1 σ H1 _ I1 q) fun us s2 ⟨vs, H2, I2, r, q2⟩ => ⟨I2.kIn, ?_⟩) hst hpl
  exact run_fnSD (us := .ref b :: us) (vs := .ref b :: vs) h1 hr h4 h5 (L2N.passAt tk σ) I2 (.cons rfl r) q2
theorem fe_meth0 {pl : Sem Bool} {c : Nat} {x : Str} {k n : Nat} {m : List D → RF} {dd : List D} {apos : Pos} {oe : Expr} {o : Rho → Option D} (Mc : MthC X.prog X.w X.K X.mg X.base cl c x k n m dd) (hr : Room k X.A) (tk : L2N.Takes X W) (ho : FQ X cl oe o)
    (ht : eval (.Call (.Attribute oe x apos) [] [] pos) X.env = (do
      let ov ← eval oe X.env
      standAt apos.atName
      let (f, first) ← holding [ov] (getMethod ov x pl)
      callWith pos f first (backTo pos (starEach [] X.env)) (backToKw pos (keywordEach [] X.env))) := by rfl) : FE X cl W (.Call (.Attribute oe x apos) [] [] pos) (eMth c m dd o aNil) := by
  obtain ⟨⟨f, fd, ps, ds, dv, h1, h2, h3, hx, h4, h5, h6⟩, hl⟩ := Mc
  refine PE_imp (t := fun σ H Q => tQ X.K cl o σ H fun v H1 => ∃ a dx fs, v = .ref a ∧ H1 a = some (.ins (cl c).at_ dx fs) ∧ fs.lookup x = none ∧ spF X.K cl n m (v :: dv) H1 Q (WE W σ)) ⟨fun pins s σ H Q I h => ?_⟩ fun σ H Q q => ?_
  · refine PySem.W.methodCall_KW (pl := pl) (thn (ho.run pins s σ H _ I h) fun u s1 ⟨v, H1, I1, rx, b, dx, fs, ex, eb, l, q⟩ => ?_) ht
    subst ex
    obtain rfl : u = Value.ref b := rx
    refine getmeth_ok I1 eb h2 h3 l ?_
    exact PySem.W.callWith_K0 (first := [.ref b]) I1.kIn h3.kp (run_fnSD (us := [.ref b]) (vs := [.ref b]) (E := WE W) h1 hr h4 h5 (L2N.passAt tk σ) I1 (.cons rfl .nil) q)
  · have q' := meth_imp h6 hl hx σ H Q q
    obtain ⟨G, F, ρ, A, R, st, en, p⟩ := q'
    refine ⟨G, F, ρ, A, R, st, en, ?_⟩
    split at p
    · intro v ov
      obtain ⟨b, dx, fs, e1, e2, e3, G', F', ρ', A', R', st', en', p'⟩ := p v ov
      exact ⟨b, dx, fs, e1, e2, e3, p' [] F' H A' zf (Ev.self st' en') rfl⟩
    · exact p
end
end
end FL

set_option Elab.async false
set_option linter.all false
set_option maxRecDepth 100000
namespace FL
open PySem L2
noncomputable section
/-! ### ints, pairs -/
def intsD : List D → Option (List Int)
  | [] => some []
  | .int i :: ds => (intsD ds).map (i :: ·)
  | _ => none
theorem intsD_is : ∀ {ds : List D} {ns : List Int}, intsD ds = some ns → ds = ns.map D.int
  | [], ns, h => by cases h; rfl
  | .int i :: ds, ns, h => by
    unfold intsD at h
    cases e : intsD ds with
    | none => rw [e] at h; cases h
    | some l => rw [e] at h; cases h; rw [intsD_is e]; rfl
  | .non :: _, _, h => by cases h
  | .bl _ :: _, _, h => by cases h
  | .str _ :: _, _, h => by cases h
  | .tup _ :: _, _, h => by cases h
  | .lst _ :: _, _, h => by cases h
  | .vec _ :: _, _, h => by cases h
  | .obj _ _ :: _, _, h => by cases h
  | .mobj _ _ :: _, _, h => by cases h
  | .exc _ _ :: _, _, h => by cases h
  | .dT _ _ :: _, _, h => by cases h
  | .vT _ _ :: _, _, h => by cases h
  | .dK _ _ :: _, _, h => by cases h
  | .vK _ _ :: _, _, h => by cases h
  | .val _ :: _, _, h => by cases h
theorem intsD_map : ∀ ns : List Int, intsD (ns.map D.int) = some ns
  | [] => rfl
  | n :: ns => by rw [List.map_cons, intsD, intsD_map ns]; rfl
theorem owns_ints {K : PySem.W.Frag} {cl : Tb} {F H : Hp} : ∀ {ns : List Int} {vs : List V} {A : Fp}, Owns K cl F H (ns.map D.int) vs A → vs = ns.map V.int
  | [], vs, _, o => o
  | n :: ns, vs, A, o => by
    obtain ⟨v, r, B, C, rfl, p, q, s⟩ := o
    have e : v = .int n := p
    rw [e, owns_ints q]; rfl
theorem owns_ints' {K : PySem.W.Frag} {cl : Tb} {F H : Hp} {A : Fp} : ∀ ns : List Int, Owns K cl F H (ns.map D.int) (ns.map V.int) A
  | [] => rfl
  | n :: ns => ⟨.int n, _, zf, A, rfl, rfl, owns_ints' ns, fun _ => by show 0 + _ ≤ _; omega⟩

def mkP (p : Int × Int) : D := .tup [.int p.1, .int p.2]
def pairO : D → Option (Int × Int)
  | .tup [.int i, .int j] => some (i, j)
  | _ => none
theorem pairO_is {d : D} {p : Int × Int} (h : pairO d = some p) : d = mkP p := by
  unfold pairO at h
  split at h
  · cases h; rfl
  · cases h
def pairsD : List D → Option (List (Int × Int))
  | [] => some []
  | d :: ds => (pairO d).bind fun p => (pairsD ds).map (p :: ·)
theorem pairsD_is : ∀ {ds : List D} {ns : List (Int × Int)}, pairsD ds = some ns → ds = ns.map mkP
  | [], ns, h => by cases h; rfl
  | d :: ds, ns, h => by
    unfold pairsD at h
    cases e1 : pairO d with
    | none => rw [e1] at h; cases h
    | some p =>
      rw [e1, Option.bind_some] at h
      cases e : pairsD ds with
      | none => rw [e] at h; cases h
      | some l => rw [e] at h; cases h; rw [pairsD_is e, pairO_is e1]; rfl
theorem pairsD_map : ∀ ns : List (Int × Int), pairsD (ns.map mkP) = some ns
  | [] => rfl
  | n :: ns => by
    rw [List.map_cons, pairsD]
    show (some (n.1, n.2)).bind _ = _
    rw [Option.bind_some, pairsD_map ns]; rfl
def leP (p q : Int × Int) : Bool := decide (p.1 < q.1 ∨ (p.1 = q.1 ∧ p.2 ≤ q.2))
def sortP (ps : List (Int × Int)) : List (Int × Int) := ps.mergeSort leP
theorem leP_trans (a b c : Int × Int) (h1 : leP a b = true) (h2 : leP b c = true) : leP a c = true := by
  unfold leP at *
  rw [decide_eq_true_eq] at *
  omega
theorem leP_total (a b : Int × Int) : (leP a b || leP b a) = true := by
  unfold leP
  rw [Bool.or_eq_true, decide_eq_true_eq, decide_eq_true_eq]
  omega
theorem leP_anti (a b : Int × Int) (h1 : leP a b = true) (h2 : leP b a = true) : a = b := by
  unfold leP at *
  rw [decide_eq_true_eq] at *
  exact Prod.ext (by omega) (by omega)
theorem sortP_pw (ps : List (Int × Int)) : (sortP ps).Pairwise fun a b => leP a b = true := List.pairwise_mergeSort leP_trans leP_total ps
theorem sortP_perm (ps : List (Int × Int)) : (sortP ps).Perm ps := List.mergeSort_perm ps leP
/-- two sorted lists of the same pairs -/
theorem sort_uniq : ∀ {l m : List (Int × Int)}, l.Perm m → l.Pairwise (fun a b => leP a b = true) → m.Pairwise (fun a b => leP a b = true) → l = m := fun p h1 h2 => List.Perm.eq_of_pairwise (fun a b _ _ => leP_anti a b) h1 h2 p

section
variable {X : Cx} {cl : Tb} {W : WX'}
variable {G : Gh} {F H F' H' : Hp} {R B A A' : Fp} {σ : St} {ρ ρ' : Rho} {pos : Pos}

/-! ### sum(xs) -/
def sumL (xs : List D) : Option D := match xs with | [.vec ds] => (intsD ds).map fun ns => .int ns.sum | [.lst ds] => (intsD ds).map fun ns => .int ns.sum | _ => none
theorem d_sum : DoesL X cl sumL (rSum X.K) := fun x d hd G F H S C vx Q st ox k => by
  unfold sumL at hd
  split at hd
  · rename_i ds
    obtain ⟨v, rfl, ov⟩ := owns1 ox
    obtain ⟨a, xs, B, rfl, n, q, r, s⟩ := ov
    cases e : intsD ds with
    | none => rw [e] at hd; cases hd
    | some ns =>
      rw [e] at hd
      cases hd
      rw [intsD_is e] at r
      rw [owns_ints r] at q
      exact ⟨a, ns, rfl, SqL.of q, k _ F H zf Le.refl (fun _ _ => rfl) (st.less fun z => by show zf z + S z ≤ _; unfold zf; omega) rfl⟩
  · rename_i ds
    obtain ⟨v, rfl, ov⟩ := owns1 ox
    obtain ⟨a, xs, rfl, q, r⟩ := ov
    cases e : intsD ds with
    | none => rw [e] at hd; cases hd
    | some ns =>
      rw [e] at hd
      cases hd
      rw [intsD_is e] at r
      rw [owns_ints r] at q
      exact ⟨a, ns, rfl, st.sub.sqL q, k _ F H zf Le.refl (fun _ _ => rfl) (st.less fun z => by show zf z + S z ≤ _; unfold zf; omega) rfl⟩
  · cases hd

/-! ### sorted(..) of pairs: of a list, of a dict's keys -/
theorem pr_own {p : Int × Int} {v : V} {A : Fp} (o : Own X.K cl F H (mkP p) v A) : ∃ t, v = V.ref t ∧ F t = some (.tup [.int p.1, .int p.2]) := by
  obtain ⟨a, xs, rfl, q, r⟩ := o
  have e := owns_ints (ns := [p.1, p.2]) r
  subst e
  exact ⟨a, rfl, q.2 rfl⟩
/-- the tuples of the heap are frozen -/
def ft (F H : Hp) : Hp := fun a => match H a with | some (.tup xs) => some (.tup xs) | _ => F a
theorem ft_at {a : Addr} {xs : List V} (h : H a = some (.tup xs)) : ft F H a = some (.tup xs) := by unfold ft; rw [h]
theorem ft_cases {a : Addr} {o : HO} (e : ft F H a = some o) : (∃ xs, o = .tup xs ∧ H a = some (.tup xs)) ∨ F a = some o := by
  unfold ft at e
  split at e
  · rename_i xs h
    cases e
    exact .inl ⟨xs, rfl, h⟩
  · exact .inr e
theorem ft_st {S : Fp} (st : Sta G F H S) : Le F (ft F H) ∧ Sta G (ft F H) H S := by
  have le : Le F (ft F H) := fun a o e => by
    have h := st.sub a o e
    unfold ft
    split
    · rename_i xs h2
      rw [h] at h2
      exact h2 ▸ rfl
    · exact e
  refine ⟨le, fun a o e => ?_, st.ent, fun a o e => le a o (st.low a o e), fun a o e => ?_, fun a ha => ?_, st.nd, st.nt⟩
  · rcases ft_cases e with ⟨xs, rfl, h⟩ | h
    · exact h
    · exact st.sub a o h
  · rcases ft_cases e with ⟨xs, rfl, h⟩ | h
    · exact .inr (.inr ⟨xs, rfl⟩)
    · exact st.fr a o h
  · obtain ⟨h1, h2, u, h3⟩ := st.own a ha
    refine ⟨?_, h2, u, h3⟩
    cases e : ft F H a with
    | none => rfl
    | some o =>
      rcases ft_cases e with ⟨xs, rfl, h⟩ | h
      · exact absurd h (st.nt a xs ha)
      · rw [h1] at h; cases h

end
/-! the sort itself -/
section
open PySem.Spec PyProof.Rows
variable {X : Cx} {H : Hp} {σ : L2.St}
theorem isPair_uniq {h : Heap} {v : Value} {x y x' y' : Int} (p : Srt.IsPair h v x y) (q : Srt.IsPair h v x' y') : x = x' ∧ y = y' := by
  obtain ⟨a, o, t, u, n, e, ho, hc, hd⟩ := p
  obtain ⟨a', o', t', u', n', e', ho', hc', hd'⟩ := q
  rw [e] at e'; cases e'
  rw [ho] at ho'; cases ho'
  rw [hd] at hd'
  have z : (#[Value.int x t, .int y u] : Array Value) = #[Value.int x' t', .int y' u'] := by injection hd'
  have z2 := congrArg Array.toList z
  simp at z2
  exact ⟨z2.1.1, z2.2.1⟩
/-- which ints a pair holds -/
def kOf (h : Heap) (v : Value) : Int × Int := @dite _ (∃ p : Int × Int, Srt.IsPair h v p.1 p.2) (Classical.propDecidable _) (fun e => Classical.choose e) (fun _ => (0, 0))
theorem kOf_is {h : Heap} {v : Value} {p : Int × Int} (q : Srt.IsPair h v p.1 p.2) : kOf h v = p := by
  have e : ∃ p : Int × Int, Srt.IsPair h v p.1 p.2 := ⟨p, q⟩
  have r : kOf h v = Classical.choose e := dif_pos e
  have s := Classical.choose_spec e
  rw [← r] at s
  obtain ⟨a, b⟩ := isPair_uniq s q
  exact Prod.ext a b
def PairV (K : PySem.W.Frag) (H : Hp) (v : V) (p : Int × Int) : Prop := ∃ t, v = .ref t ∧ H t = some (.tup [.int p.1, .int p.2])
theorem pairV_is {pins : List (Addr × Obj)} {s : Shared} (I : L2.Inv X pins σ H s) {v : V} {u : Value} {p : Int × Int} (h : PairV X.K H v p) (r : RelV v u) : Srt.IsPair s.heap u p.1 p.2 := by
  obtain ⟨t, rfl, q⟩ := h
  cases r
  obtain ⟨its, rv, ⟨o, e, hc, n, hd⟩, _⟩ := I.tuple (SqT.of q)
  obtain ⟨u1, u2, rfl, ri, rj⟩ := rv.two
  obtain ⟨t1, rfl⟩ := ri
  obtain ⟨t2, rfl⟩ := rj
  exact ⟨t, o, t1, t2, n, rfl, e, hc, hd⟩
theorem paired_mem {α β : Type} {P : α → β → Prop} : ∀ {l : List α} {m : List β}, Paired P l m → ∀ x ∈ l, ∃ y ∈ m, P x y
  | _, _, .nil, x, h => by cases h
  | _, _, .cons p t, x, h => by
    rcases List.mem_cons.mp h with e | h
    · subst e; exact ⟨_, List.mem_cons_self, p⟩
    · obtain ⟨y, m, q⟩ := paired_mem t x h
      exact ⟨y, List.mem_cons_of_mem _ m, q⟩
theorem paired_map {α β γ : Type} {P : α → β → Prop} {f : γ → α} {g : γ → β} : ∀ {l : List γ}, (∀ x ∈ l, P (f x) (g x)) → Paired P (l.map f) (l.map g)
  | [], _ => .nil
  | x :: l, h => .cons (h x List.mem_cons_self) (paired_map fun y m => h y (List.mem_cons_of_mem _ m))
theorem paired_eq {α β : Type} {P : α → β → Prop} {f : α → β} : ∀ {l : List α} {m : List β}, Paired P l m → (∀ x ∈ l, ∀ y, P x y → y = f x) → m = l.map f
  | _, _, .nil, _ => rfl
  | _, _, .cons p t, h => by rw [List.map_cons, h _ List.mem_cons_self _ p, ← paired_eq t fun x m => h x (List.mem_cons_of_mem _ m)]
/-- what the sort leaves -/
theorem sort_out {pins : List (Addr × Obj)} {s : Shared} (I : L2.Inv X pins σ H s) {P : V → Int × Int → Prop} (hP : ∀ v p, P v p → PairV X.K H v p) {xs : List V} {us out : List Value} {ps : List (Int × Int)} (rv : Vals xs us) (hx : Paired P xs ps)
    (h1 : SrtO.Srtd (fun v u => SrtO.lexB (kOf s.heap v) (kOf s.heap u)) out) (h2 : out.Perm us) : Vals (out.map backV) out ∧ Paired P (out.map backV) (sortP ps) := by
  obtain ⟨e1, e2⟩ := refs_back rv fun x m => by
    obtain ⟨p, _, q⟩ := paired_mem hx x m
    obtain ⟨t, e, _⟩ := hP _ _ q
    exact ⟨t, e⟩
  have e3 : ∀ u ∈ out, ∃ a, u = Value.ref a := fun u hu => e2 u (h2.mem_iff.mp hu)
  refine ⟨vals_back e3, ?_⟩
  have key : ∀ u ∈ us, P (backV u) (kOf s.heap u) := fun u hu => by
    obtain ⟨a, rfl⟩ := e2 u hu
    have hm : V.ref a ∈ xs := by rw [e1]; exact List.mem_map.mpr ⟨_, hu, rfl⟩
    obtain ⟨p, _, q⟩ := paired_mem hx _ hm
    have ip := pairV_is I (hP _ _ q) (show RelV (V.ref a) (Value.ref a) from rfl)
    rw [kOf_is ip]
    exact q
  have hps : ps = us.map (kOf s.heap) := by
    rw [e1] at hx
    have : ∀ {us : List Value} {ps : List (Int × Int)}, (∀ u ∈ us, ∃ a, u = Value.ref a) → Paired P (us.map backV) ps → ps = us.map (kOf s.heap) := by
      intro us
      induction us with
      | nil => intro ps _ h; cases h; rfl
      | cons u us ih =>
        intro ps hr h
        cases h with
        | cons p t =>
          obtain ⟨a, rfl⟩ := hr u List.mem_cons_self
          rw [List.map_cons, kOf_is (pairV_is I (hP _ _ p) (show RelV (V.ref a) (Value.ref a) from rfl)), ← ih (fun u m => hr u (List.mem_cons_of_mem _ m)) t]
    exact this e2 hx
  have hs : sortP ps = out.map (kOf s.heap) := by
    refine sort_uniq ((sortP_perm ps).trans ?_) (sortP_pw ps) ?_
    · rw [hps]; exact (h2.map _).symm
    · refine List.pairwise_map.mpr (h1.imp fun {x y} z => ?_)
      have z2 := SrtO.lexB_no.mp z
      unfold leP
      rw [decide_eq_true_eq]
      omega
  rw [hs]
  exact paired_map fun u hu => key u (h2.mem_iff.mp hu)
/-- sorted(xs), xs a list of pairs of ints -/
def rSoL (K : PySem.W.Frag) : List V → Hp → VK → Prop := fun vs H Q => ∃ (a : Addr) (xs : List V) (P : V → Int × Int → Prop) (ps : List (Int × Int)), vs = [V.ref a] ∧ SqL K H a xs ∧ (∀ v p, P v p → PairV K H v p) ∧ Paired P xs ps ∧
  ∀ ys p, Paired P ys (sortP ps) → H p = none → Q (.ref p) (upd H p (.lst ys))
theorem cr_soL : CallR X (.builtin "sorted") (rSoL X.K) := by
  intro pins s σ H vs us Q I r h
  obtain ⟨a, xs, P, ps, rfl, hs, hP, hx, q⟩ := h
  obtain ⟨its, rv, hl, hz⟩ := I.list hs
  obtain ⟨u, rfl, ru⟩ := r.one
  obtain rfl : u = Value.ref a := ru
  refine SrtO.sorted_pairsO (k := kOf s.heap) hl.isList (by rw [← rv.length]; exact hz) (fun v hv => ?_) fun h' d out h1 h2 kp hd hn => ?_
  · obtain ⟨e1, e2⟩ := refs_back rv fun x m => by
      obtain ⟨p, _, q⟩ := paired_mem hx x m
      obtain ⟨t, e, _⟩ := hP _ _ q
      exact ⟨t, e⟩
    obtain ⟨t, rfl⟩ := e2 v hv
    have hm : V.ref t ∈ xs := by rw [e1]; exact List.mem_map.mpr ⟨_, hv, rfl⟩
    obtain ⟨p, _, q⟩ := paired_mem hx _ hm
    have ip := pairV_is I (hP _ _ q) (show RelV (V.ref t) (Value.ref t) from rfl)
    rw [kOf_is ip]
    exact ip
  · obtain ⟨n, hn⟩ := hn
    obtain ⟨rv2, hx2⟩ := sort_out I hP rv hx h1 h2.perm
    refine ⟨.ref d, upd H d (.lst (out.map backV)), I.laid (t' := s.toks) kp hd ⟨?_, out, n, rv2, hn⟩, rfl, q _ d hx2 (I.hok.fresh hd)⟩
    have := h2.len
    rw [List.length_map, this, ← rv.length]
    exact hz
/-- sorted(d) of a dict whose keys are pairs of ints -/
def rSoD (K : PySem.W.Frag) : List V → Hp → VK → Prop := fun vs H Q => ∃ (a : Addr) (kvs : List (List Key × V)) (ps : List (Int × Int)), vs = [V.ref a] ∧ Rd H a (.dT kvs) ∧ kvs.map (·.1) = ps.map (fun p => [Sum.inl p.1, Sum.inl p.2]) ∧
  ∀ ys p, Paired (fun v p => ∃ t, v = V.ref t ∧ H t = some (.tup [.int p.1, .int p.2])) ys (sortP ps) → H p = none → Q (.ref p) (upd H p (.lst ys))
theorem keys_pairs {H : Hp} : ∀ {kvs : List (List Key × V)} {xs : List (List Key × Addr × Value)} {ps : List (Int × Int)}, KT H kvs xs → kvs.map (·.1) = ps.map (fun p => [Sum.inl p.1, Sum.inl p.2]) →
    Paired (fun v p => ∃ t, v = V.ref t ∧ H t = some (.tup [.int p.1, .int p.2])) (xs.map fun x => V.ref x.2.1) ps
  | _, _, [], .nil, _ => .nil
  | _, _, p :: ps, .nil, h => by cases h
  | _, _, [], .cons _ _, h => by cases h
  | _, _, p :: ps, .cons (a := kv) (b := x) r t, h => by
    rw [List.map_cons, List.map_cons] at h
    injection h with h1 h2
    refine .cons ⟨x.2.1, rfl, ?_⟩ (keys_pairs t h2)
    have := r.2.1
    rw [h1] at this
    exact this
theorem cr_soD (hc : X.calm = true) : CallR X (.builtin "sorted") (rSoD X.K) := by
  intro pins s σ H xs us Q I r h
  obtain ⟨d, kvs, ps, rfl, hd, hk, q⟩ := h
  obtain ⟨u, rfl, rx⟩ := r.one
  cases rx
  obtain ⟨z, hs, ks, pr, o, es, ep, ho, hx, hdt, he, hn⟩ := (show ObjOk X.prog X.w H s.heap d (.dT kvs) from hd.ok I.hok)
  have l1 : es.size = ks.length := size_of_entries he
  have l2 : kvs.length = ks.length := Paired.length pr
  refine PySem.Calls.call_function_entry PyProof.Rows.kind_sorted PyProof.Rows.plain_sorted PyProof.Rows.entry_sorted (PyProof.Rows.args_sorted1 _) ?_
  unfold Builtin.«sorted»
  refine wpAny_bind (m := checkCount "sorted" 1 1 _) (wpAny_pure ?_)
  refine wpAny_bind (PySem.W.kdu_collect (A := X.A.in1) (kdl_raw hs hx hdt) (I.ok.hd hc) ho (by omega) fun h' tk acc' kp it => ?_)
  have ea : acc'.toList = ks.map fun x => Value.ref x.2.1 := by
    have hl : acc'.toList.length = ks.length := by rw [Array.length_toList, it.1]; exact l1
    apply List.ext_getElem?
    intro j
    rw [List.getElem?_map]
    cases hj : acc'.toList[j]? with
    | none =>
      have h1 := List.getElem?_eq_none_iff.mp hj
      rw [List.getElem?_eq_none (by omega)]
      all_goals rfl
    | some v =>
      obtain ⟨en, hen, hv⟩ := it.2 j v (by rw [← Array.getElem?_toList]; exact hj)
      have qe := entry_at he j
      rw [hen] at qe
      cases hb : ks[j]? with
      | none =>
        rw [hb] at qe
        exact nomatch (show some en = none from qe)
      | some b =>
        rw [hb] at qe
        have e2 : en = entryOfKey (tupleKind (mixKind X.prog X.w)) b := Option.some.inj qe
        rw [hv, e2]
        all_goals rfl
  have I1 : L2.Inv X pins σ H { s with heap := h', toks := tk } := I.kept kp
  have hpr := keys_pairs pr hk
  have rv : Vals (ks.map fun x => V.ref x.2.1) acc'.toList := by
    rw [ea]
    have : ∀ ks : List (List Key × Addr × Value), Vals (ks.map fun x => V.ref x.2.1) (ks.map fun x => Value.ref x.2.1) := fun ks => by
      induction ks with
      | nil => exact .nil
      | cons k ks ih => exact .cons rfl ih
    exact this ks
  have hlen : acc'.toList.length ≤ sizeLine := by rw [ea, List.length_map]; omega
  have hP : ∀ (v : V) (p : Int × Int), (∃ t, v = V.ref t ∧ H t = some (.tup [.int p.1, .int p.2])) → PairV X.K H v p := fun v p h => h
  refine wpAny_bind (wpAny_newList ?_ hlen)
  have hoL : (h'.push (seqObj "list" acc'.toList.toArray 0)).get? h'.objs.size = some (seqObj "list" acc'.toList.toArray 0) := Heap.get?_push_size _ rfl
  show wpAny _ _ _ _ _ { s with heap := h'.push (seqObj "list" acc'.toList.toArray 0), toks := tk }
  refine wpAny_bind (wpAny_holding (wpAny_call_entry PyProof.Rows.slot_list_sort ⟨_, hoL, rfl⟩ PyProof.Rows.entry_list_sort
    (SrtO.list_sort_ord (s := { s with heap := h'.push (seqObj "list" acc'.toList.toArray 0), toks := tk }) (SrtO.swo_lex (kOf h')) hoL hlen (fun h2 => SrtO.pairs_sortableO (by omega) (fun v hv => ?_) fun o' e => ?_) fun out g1 g2 => ⟨_, rfl, ?_⟩) (PyProof.Rows.args_list_sort _)))
  · have hv' : v ∈ ks.map fun x => Value.ref x.2.1 := by rw [← ea]; exact hv
    obtain ⟨x, hx', rfl⟩ := List.mem_map.mp hv'
    obtain ⟨p, _, q⟩ := paired_mem hpr (V.ref x.2.1) (List.mem_map.mpr ⟨x, hx', rfl⟩)
    have ip := pairV_is I1 (hP _ _ q) (show RelV (V.ref x.2.1) (Value.ref x.2.1) from rfl)
    rw [kOf_is ip]
    exact ip.keeps fun b o e _ => Heap.get?_push_of_some _ e
  · have e' : some o' = some (seqObj "list" acc'.toList.toArray 0) := e.symm.trans hoL
    cases e'
    intro c
    exact absurd (Value.type.inj c) (by decide)
  · obtain ⟨rv2, hx2⟩ := sort_out (s := { s with heap := h', toks := tk }) I1 hP rv hpr g1 g2.perm
    obtain ⟨e', he'⟩ := PyProof.Rows.sortedHeap_at (vs := acc'.toList) (out := out.toArray) hoL
    refine wpAny_pure ⟨_, rfl, .ref h'.objs.size, upd H h'.objs.size (.lst (out.map backV)), I1.laid (t' := tk) (fun b u e => ?_) (Nat.le_refl _)
      (show ObjOk X.prog X.w _ _ _ (.lst (out.map backV)) from ⟨by rw [List.length_map, g2.len]; exact hlen, out, e', rv2, he'⟩), rfl, q _ _ hx2 (I1.hok.fresh (Nat.le_refl _))⟩
    have hb : b < h'.objs.size := Heap.lt_size e
    rw [PyProof.Rows.sortedHeap_old (Nat.ne_of_lt hb) (by rw [PyProof.Rows.size_push']; exact Nat.lt_succ_of_lt hb)]
    exact Heap.get?_push_of_some _ e
end

section
variable {X : Cx} {cl : Tb} {W : WX'}
variable {G : Gh} {F H F' H' : Hp} {R B A A' : Fp} {σ : St} {ρ ρ' : Rho} {pos : Pos}
def keyPair : List Key → Option (Int × Int)
  | [Sum.inl i, Sum.inl j] => some (i, j)
  | _ => none
theorem keyPair_is {k : List Key} {p : Int × Int} (h : keyPair k = some p) : k = [Sum.inl p.1, Sum.inl p.2] := by
  unfold keyPair at h
  split at h
  · cases h; rfl
  · cases h
def keyPairs : List (List Key) → Option (List (Int × Int))
  | [] => some []
  | d :: ds => (keyPair d).bind fun p => (keyPairs ds).map (p :: ·)
theorem keyPairs_is : ∀ {ds : List (List Key)} {ns : List (Int × Int)}, keyPairs ds = some ns → ds = ns.map fun p => [Sum.inl p.1, Sum.inl p.2]
  | [], ns, h => by cases h; rfl
  | d :: ds, ns, h => by
    unfold keyPairs at h
    cases e1 : keyPair d with
    | none => rw [e1] at h; cases h
    | some p =>
      rw [e1, Option.bind_some] at h
      cases e : keyPairs ds with
      | none => rw [e] at h; cases h
      | some l => rw [e] at h; cases h; rw [List.map_cons, ← keyPairs_is e, keyPair_is e1]
theorem keyPairs_map : ∀ ns : List (Int × Int), keyPairs (ns.map fun p => [Sum.inl p.1, Sum.inl p.2]) = some ns
  | [] => rfl
  | n :: ns => by
    rw [List.map_cons, keyPairs]
    show (some (n.1, n.2)).bind _ = _
    rw [Option.bind_some, keyPairs_map ns]; rfl
def soL (xs : List D) : Option D := match xs with
  | [.lst ds] => (pairsD ds).map fun ps => .vec ((sortP ps).map mkP)
  | [.vec ds] => (pairsD ds).map fun ps => .vec ((sortP ps).map mkP)
  | [.dT ks _] => (keyPairs ks).map fun ps => .vec ((sortP ps).map mkP)
  | [.vT ks _] => (keyPairs ks).map fun ps => .vec ((sortP ps).map mkP)
  | _ => none
def rSo (K : PySem.W.Frag) : List V → Hp → VK → Prop := fun vs H Q => rSoL K vs H Q ∨ rSoD K vs H Q
theorem cr_so (hc : X.calm = true) : CallR X (.builtin "sorted") (rSo X.K) := by
  intro pins s σ H vs us Q I r h
  rcases h with h | h
  · exact cr_soL pins s σ H vs us Q I r h
  · exact cr_soD hc pins s σ H vs us Q I r h
theorem owns_pairs {ps : List (Int × Int)} : ∀ {vs : List V}, Paired (fun v p => PairV X.K F v p) vs ps → Owns X.K cl F H (ps.map mkP) vs zf := by
  induction ps with
  | nil => intro vs h; cases h; rfl
  | cons p ps ih =>
    intro vs h
    cases h with
    | cons q t =>
      obtain ⟨t', rfl, q⟩ := q
      exact ⟨_, _, zf, zf, rfl, ⟨t', _, rfl, ⟨SqT.of q, fun _ => q⟩, owns_ints' [p.1, p.2]⟩, ih t, fun _ => Nat.le_refl _⟩
theorem pairs_own {ps : List (Int × Int)} : ∀ {vs : List V} {A : Fp}, Owns X.K cl F H (ps.map mkP) vs A → Paired (fun v p => PairV X.K F v p) vs ps := by
  induction ps with
  | nil => intro vs A h; have e : vs = [] := h; subst e; exact .nil
  | cons p ps ih =>
    intro vs A h
    obtain ⟨v, r, B, C, rfl, o, q, s⟩ := h
    obtain ⟨t, e, z⟩ := pr_own o
    exact .cons ⟨t, e, z⟩ (ih q)
theorem paired_imp {α β : Type} {P P' : α → β → Prop} (h : ∀ x y, P x y → P' x y) : ∀ {l : List α} {m : List β}, Paired P l m → Paired P' l m
  | _, _, .nil => .nil
  | _, _, .cons p t => .cons (h _ _ p) (paired_imp h t)
theorem d_so : DoesL X cl soL (rSo X.K) := fun x d hd G F H S C vx Q st ox k => by
  -- a new list of frozen pairs
  have new : ∀ (ps : List (Int × Int)) (F' : Hp), Le F F' → Sta G F' H (fun z => C z + S z) → d = .vec ((sortP ps).map mkP) → ∀ ys p, Paired (fun v q => PairV X.K F' v q) ys (sortP ps) → H p = none → Q (.ref p) (upd H p (.lst ys)) := by
    rintro ps F' le st' rfl ys p hy hp
    obtain ⟨fl, sl, st2⟩ := lay_owned (o := .lst ys) st' hp
    refine k (.ref p) F' _ (one p) le (fun b hb => ?_) (st2.less fun z => by show one p z + S z ≤ one p z + (C z + S z); omega) ⟨p, ys, zf, rfl, fl, upd_same, owns_pairs hy, fun _ => Nat.le_refl _⟩
    obtain ⟨_, _, u, h3⟩ := st.own b (by show 0 < C b + S b; omega)
    exact upd_ne (ne_of_none h3 hp)
  unfold soL at hd
  split at hd
  · rename_i ds
    obtain ⟨v, rfl, ov⟩ := owns1 ox
    obtain ⟨a, xs, rfl, q, r⟩ := ov
    cases e : pairsD ds with
    | none => rw [e] at hd; cases hd
    | some ps =>
      rw [e] at hd
      rw [pairsD_is e] at r
      exact .inl ⟨a, xs, fun v p => PairV X.K F v p, ps, rfl, st.sub.sqL q, fun v p ⟨t, h1, h2⟩ => ⟨t, h1, st.sub _ _ h2⟩, pairs_own r, new ps F Le.refl st (Option.some.inj hd).symm⟩
  · rename_i ds
    obtain ⟨v, rfl, ov⟩ := owns1 ox
    obtain ⟨a, xs, B, rfl, n, q, r, s⟩ := ov
    cases e : pairsD ds with
    | none => rw [e] at hd; cases hd
    | some ps =>
      rw [e] at hd
      rw [pairsD_is e] at r
      exact .inl ⟨a, xs, fun v p => PairV X.K F v p, ps, rfl, SqL.of q, fun v p ⟨t, h1, h2⟩ => ⟨t, h1, st.sub _ _ h2⟩, pairs_own r, new ps F Le.refl st (Option.some.inj hd).symm⟩
  · rename_i ks ds
    obtain ⟨v, rfl, ov⟩ := owns1 ox
    obtain ⟨a, xs, rfl, q, hl, r⟩ := ov
    cases e : keyPairs ks with
    | none => rw [e] at hd; cases hd
    | some ps =>
      rw [e] at hd
      obtain ⟨le, st'⟩ := ft_st st
      refine .inr ⟨a, _, ps, rfl, .inl (st.sub _ _ q), ?_, fun ys p hy hp => new ps _ le st' (Option.some.inj hd).symm ys p (paired_imp (fun v q ⟨t, h1, h2⟩ => ⟨t, h1, ft_at h2⟩) hy) hp⟩
      rw [List.map_fst_zip (Nat.le_of_eq hl), keyPairs_is e]
  · rename_i ks ds
    obtain ⟨v, rfl, ov⟩ := owns1 ox
    obtain ⟨a, xs, B, rfl, n, q, hl, r, s⟩ := ov
    cases e : keyPairs ks with
    | none => rw [e] at hd; cases hd
    | some ps =>
      rw [e] at hd
      obtain ⟨le, st'⟩ := ft_st st
      refine .inr ⟨a, _, ps, rfl, .inl q, ?_, fun ys p hy hp => new ps _ le st' (Option.some.inj hd).symm ys p (paired_imp (fun v q ⟨t, h1, h2⟩ => ⟨t, h1, ft_at h2⟩) hy) hp⟩
      rw [List.map_fst_zip (Nat.le_of_eq hl), keyPairs_is e]
  · cases hd
end
end
end FL

set_option Elab.async false
set_option linter.all false
set_option maxRecDepth 100000
namespace FL
open PySem L2
noncomputable section
/-! ### dicts whose keys are tuples of ints -/
def getT : List (List Key) → List D → List Key → Option D
  | k' :: ks, d :: ds, k => if k' = k then some d else getT ks ds k
  | _, _, _ => none
def hasT (ks : List (List Key)) (k : List Key) : Bool := ks.any fun k' => decide (k' = k)
def putTk (ks : List (List Key)) (k : List Key) : List (List Key) := if hasT ks k = true then ks else ks ++ [k]
def putTz : List (List Key) → List D → List Key → D → List D
  | k' :: ks, d' :: ds, k, d => (if k' = k then d else d') :: putTz ks ds k d
  | _, _, _, _ => []
def putTd (ks : List (List Key)) (ds : List D) (k : List Key) (d : D) : List D := if hasT ks k = true then putTz ks ds k d else ds ++ [d]
def keyD : D → Option Key
  | .int i => some (Sum.inl i)
  | _ => none
def keysD : List D → Option (List Key)
  | [] => some []
  | d :: ds => (keyD d).bind fun k => (keysD ds).map (k :: ·)
/-- the key that a tuple of ints is -/
def keyT : D → Option (List Key)
  | .tup ds => if keyI ds then keysD ds else none
  | _ => none
section
variable {X : Cx} {cl : Tb} {W : WX'}
variable {G : Gh} {F H F' H' : Hp} {R B A A' : Fp} {σ : St} {ρ ρ' : Rho} {pos : Pos}
theorem keysD_own {K : PySem.W.Frag} : ∀ {ds : List D} {k : List Key} {vs : List V} {A : Fp}, keysD ds = some k → Owns K cl F H ds vs A → vs = k.map kV
  | [], k, vs, A, h, o => by cases h; exact o
  | d :: ds, k, vs, A, h, o => by
    obtain ⟨v, r, B, C, rfl, p, q, s⟩ := o
    unfold keysD at h
    cases d with
    | int i =>
      rw [show keyD (.int i) = some (Sum.inl i) from rfl, Option.bind_some] at h
      cases e : keysD ds with
      | none => rw [e] at h; cases h
      | some k' =>
        rw [e] at h
        cases h
        have ev : v = .int i := p
        rw [ev, keysD_own e q]
        rfl
    | _ => cases h
theorem keyT_own {K : PySem.W.Frag} {d : D} {k : List Key} {v : V} {A : Fp} (h : keyT d = some k) (o : Own K cl F H d v A) : ∃ b, v = .ref b ∧ F b = some (.tup (k.map kV)) := by
  unfold keyT at h
  split at h
  · rename_i ds
    split at h
    · rename_i hk
      obtain ⟨a, xs, rfl, q, r⟩ := o
      have e := keysD_own h r
      subst e
      exact ⟨a, rfl, q.2 hk⟩
    · cases h
  · cases h
theorem getT_own {K : PySem.W.Frag} : ∀ {ks : List (List Key)} {ds : List D} {vs : List V} {A : Fp} (k : List Key), Owns K cl F H ds vs A → ks.length = vs.length →
    (∀ d, getT ks ds k = some d → ∃ v, valV (ks.zip vs) k = some v ∧ Own K cl F H d v A) ∧ (getT ks ds k = none → valV (ks.zip vs) k = none)
  | [], ds, vs, A, k, o, h => ⟨fun d e => by simp [getT] at e, fun _ => rfl⟩
  | k' :: ks, [], vs, A, k, o, h => by
    have e : vs = [] := o
    subst e
    cases h
  | k' :: ks, d' :: ds, vs, A, k, o, h => by
    obtain ⟨v, r, B, C, rfl, p, q, s⟩ := o
    unfold getT
    rw [List.zip_cons_cons]
    by_cases e : k' = k
    · rw [if_pos e, valV_pos e]
      exact ⟨fun d hd => by cases hd; exact ⟨v, rfl, p.up fun x => by have := s x; omega⟩, fun z => by cases z⟩
    · rw [if_neg e, valV_neg e]
      obtain ⟨g1, g2⟩ := getT_own (ks := ks) (A := C) k q (by simpa using h)
      exact ⟨fun d hd => by obtain ⟨w, h1, h2⟩ := g1 d hd; exact ⟨w, h1, h2.up fun x => by have := s x; omega⟩, g2⟩
theorem any_mem : ∀ (ks : List (List Key)) (vs : List V) (k : List Key) (h : ks.length = vs.length), ((ks.zip vs).any fun kv => decide (kv.1 = k)) = hasT ks k
  | [], vs, k, _ => rfl
  | k' :: ks, [], k, h => by cases h
  | k' :: ks, v :: vs, k, h => by
    unfold hasT
    rw [List.zip_cons_cons, List.any_cons, List.any_cons, any_mem ks vs k (by simpa using h)]
    rfl
def putTv : List (List Key) → List V → List Key → V → List V
  | k' :: ks, d' :: ds, k, d => (if k' = k then d else d') :: putTv ks ds k d
  | _, _, _, _ => []
theorem putTv_map : ∀ {ks : List (List Key)} {vs : List V} (k : List Key) (v : V), ks.length = vs.length → (ks.zip vs).map (fun kv => if kv.1 = k then (kv.1, v) else kv) = ks.zip (putTv ks vs k v) ∧ (putTv ks vs k v).length = ks.length
  | [], vs, k, v, _ => ⟨rfl, rfl⟩
  | k' :: ks, [], k, v, h => by cases h
  | k' :: ks, w :: vs, k, v, h => by
    obtain ⟨e1, e2⟩ := putTv_map (ks := ks) (vs := vs) k v (by simpa using h)
    unfold putTv
    rw [List.zip_cons_cons, List.map_cons, e1, List.zip_cons_cons]
    refine ⟨?_, by simp [e2]⟩
    by_cases e : k' = k
    · simp only [e, if_true]
    · simp only [e, if_false]
theorem putTz_own {K : PySem.W.Frag} : ∀ {ks : List (List Key)} {ds : List D} {vs : List V} {A : Fp} (k : List Key) {d : D} {v : V}, Owns K cl F H ds vs A → ks.length = vs.length → Own K cl F H d v zf → Owns K cl F H (putTz ks ds k d) (putTv ks vs k v) A
  | [], ds, vs, A, k, d, v, o, h, p => by unfold putTz putTv; exact rfl
  | k' :: ks, [], vs, A, k, d, v, o, h, p => by
    have e : vs = [] := o
    subst e
    cases h
  | k' :: ks, d' :: ds, vs, A, k, d, v, o, h, p => by
    obtain ⟨w, r, B, C, rfl, q, t, s⟩ := o
    unfold putTz putTv
    have ih := putTz_own (ks := ks) k t (by simpa using h) p
    by_cases e : k' = k
    · rw [if_pos e, if_pos e]
      exact ⟨v, _, zf, C, rfl, p, ih, fun x => by have := s x; unfold zf; omega⟩
    · rw [if_neg e, if_neg e]
      exact ⟨w, _, B, C, rfl, q, ih, s⟩
theorem put_own {K : PySem.W.Frag} {ks : List (List Key)} {ds : List D} {vs : List V} {A : Fp} (k : List Key) {d : D} {v : V} (o : Owns K cl F H ds vs A) (h : ks.length = vs.length) (p : Own K cl F H d v zf) :
    ∃ vs', putK (ks.zip vs) k v = (putTk ks k).zip vs' ∧ (putTk ks k).length = vs'.length ∧ Owns K cl F H (putTd ks ds k d) vs' A := by
  unfold putK putTk putTd
  rw [any_mem ks vs k h]
  by_cases e : hasT ks k = true
  · rw [if_pos e, if_pos e, if_pos e]
    obtain ⟨e1, e2⟩ := putTv_map k v h
    exact ⟨_, e1, e2.symm, putTz_own k o h p⟩
  · rw [if_neg e, if_neg e, if_neg e]
    refine ⟨vs ++ [v], ?_, by simp [h], ?_⟩
    · rw [List.zip_append h]; rfl
    · exact (o.snoc p).up fun x => by show A x + zf x ≤ A x; unfold zf; omega

/-- {} -/
theorem fe_dnew : FE X cl W (.Dict [] [] pos) (eC (.vT [] [])) := PE_imp pe_dnewT fun σ H Q q => by
  obtain ⟨G, F, ρ, A, R, st, en, p⟩ := q
  intro a na
  obtain ⟨fa, sa, st2⟩ := lay_owned (o := .dT []) st na
  refine Pst.does p st en (.ref a) F _ (one a) Le.refl (fun b hb => ?_) (st2.less fun z => by show one a z + (A z + R z) ≤ _; exact Nat.le_refl _) ⟨a, [], zf, rfl, fa, upd_same, rfl, rfl, fun _ => Nat.le_refl _⟩
  obtain ⟨_, _, u, h3⟩ := st.own b hb
  exact upd_ne (ne_of_none h3 na)
/-- what a dict's slot holds -/
def dicO : Option (Option D) → Option (List (List Key) × List D)
  | some (some (.vT ks ds)) => some (ks, ds)
  | some (some (.dT ks ds)) => some (ks, ds)
  | _ => none
theorem dic_own {ρ : Rho} {σ : St} {A : Fp} {i : Nat} {ks : List (List Key)} {ds : List D} {S : Fp} (st : Sta G F H (fun x => A x + S x)) (en : EnvR X.K cl F H ρ σ A) (h : dicO ρ[i]? = some (ks, ds)) :
    ∃ a xs B, σ[i]? = some (some (.ref a)) ∧ H a = some (.dT (ks.zip xs)) ∧ ks.length = xs.length ∧ Owns X.K cl F H ds xs B ∧ ∀ x, B x ≤ A x := by
  unfold dicO at h
  split at h
  · rename_i ks' ds' hρ
    cases h
    obtain ⟨v, B, C, hv, o, en', hs⟩ := en.get hρ
    obtain ⟨a, xs, B', rfl, fa, hH, hl, os, hs'⟩ := o
    exact ⟨a, xs, B', hv, hH, hl, os, fun x => by have := hs x; have := hs' x; omega⟩
  · rename_i ks' ds' hρ
    cases h
    obtain ⟨v, B, C, hv, o, en', hs⟩ := en.get hρ
    obtain ⟨a, xs, rfl, fa, hl, os⟩ := o
    exact ⟨a, xs, B, hv, st.sub _ _ fa, hl, os, fun x => by have := hs x; omega⟩
  · cases h
/-- d[k], of a variable; what it holds is plain -/
def eDget (i : Nat) (key : Rho → RX D) : Rho → RX D := fun ρ => match dicO ρ[i]? with
  | some _ => (key ρ).bind fun kd ρ1 => (match dicO ρ1[i]?, keyT kd with
    | some p, some k => (match getT p.1 p.2 k with | some d => if d.pure then .ok d ρ1 else .bad | none => .bad)
    | _, _ => .bad)
  | none => .bad
theorem fe_dget {i k : Nat} {x : Str} {p : Pos} {ie : Expr} {key : Rho → RX D} (hr : Room k X.A) (hx : PE X (.Name x p) (tVar i)) (hk : FE X cl W ie key) (hs : NoSl ie) : FE X cl W (.Subscript (.Name x p) ie pos) (eDget i key) :=
  PE_imp (pe_dget (by have := hr.units; omega) hx hk hs) fun σ H Q q => by
  obtain ⟨G, F, ρ, A, R, st, en, p⟩ := q
  unfold eDget at p
  cases hd : dicO ρ[i]? with
  | none => rw [hd] at p; exact p.elim
  | some kd0 =>
    rw [hd] at p
    obtain ⟨a0, xs0, B0, hσ0, _⟩ := dic_own st en hd
    refine ⟨_, hσ0, G, F, ρ, A, R, st, en, Pst.bind p fun kd ρ1 v1 F1 H1 A1 B1 e1 o1 p1 => ?_⟩
    split at p1
    · rename_i pr kk h1 h2
      obtain ⟨ks, ds⟩ := pr
      obtain ⟨a, xs, B2, hσ, hH, hl, os, hs2⟩ := dic_own (e1.st.less fun x => by show A1 x + R x ≤ A1 x + (B1 x + R x); omega) e1.en h1
      rw [hσ0] at hσ
      cases hσ
      obtain ⟨b, rfl, hb⟩ := keyT_own h2 o1
      obtain ⟨g1, _⟩ := getT_own kk os hl
      cases hg : getT ks ds kk with
      | none => simp only [hg] at p1; exact p1.elim
      | some d =>
        simp only [hg] at p1
        split at p1
        · rename_i hp
          obtain ⟨w, hw, ow⟩ := g1 d hg
          exact ⟨a0, w, rfl, hw ▸ DGet.t hH (e1.st.sub _ _ hb), Pst.ok p1 e1 (ow.of_pure hp)⟩
        · exact p1.elim
    · exact p1.elim
/-- d.get(k, x) -/
def eDget2 (i : Nat) (key : Rho → RX D) (x : Rho → Option D) : Rho → RX D := fun ρ => match dicO ρ[i]? with
  | some _ => (key ρ).bind fun kd ρ1 => (match dicO ρ1[i]?, keyT kd, x ρ1 with
    | some p, some k, some dx => (match getT p.1 p.2 k with | some d => if d.pure then .ok d ρ1 else .bad | none => if dx.pure then .ok dx ρ1 else .bad)
    | _, _, _ => .bad)
  | none => .bad
theorem fe_dget2 {i k : Nat} {x : Str} {p apos : Pos} {ie xe : Expr} {key : Rho → RX D} {xm : Rho → Option D} (hr : Room k X.A) (hx : PE X (.Name x p) (tVar i)) (hk : FE X cl W ie key) (hm : FQ X cl xe xm) (m : M2 X (.Name x p) "get" apos ie xe pos) :
    FE X cl W (.Call (.Attribute (.Name x p) "get" apos) [ie, xe] [] pos) (eDget2 i key xm) :=
  PE_imp (pe_dget2 (by have := hr.units; omega) hx hk hm m) fun σ H Q q => by
  obtain ⟨G, F, ρ, A, R, st, en, p⟩ := q
  unfold eDget2 at p
  cases hd : dicO ρ[i]? with
  | none => rw [hd] at p; exact p.elim
  | some kd0 =>
    rw [hd] at p
    obtain ⟨ks0, ds0⟩ := kd0
    obtain ⟨a0, xs0, B0, hσ0, hH0, _⟩ := dic_own st en hd
    refine ⟨_, hσ0, a0, rfl, .inr ⟨_, .inl hH0⟩, G, F, ρ, A, R, st, en, Pst.bind p fun kd ρ1 v1 F1 H1 A1 B1 e1 o1 p1 => ?_⟩
    have st1 : Sta G F1 H1 (fun x => A1 x + R x) := e1.st.less fun x => by show A1 x + R x ≤ A1 x + (B1 x + R x); omega
    refine ⟨G, F1, ρ1, A1, R, st1, e1.en, ?_⟩
    split at p1
    · rename_i pr kk dx h1 h2 h3
      rw [h3]
      intro vx ox
      obtain ⟨ks, ds⟩ := pr
      obtain ⟨a, xs, B2, hσ, hH, hl, os, hs2⟩ := dic_own st1 e1.en h1
      rw [hσ0] at hσ
      cases hσ
      obtain ⟨b, rfl, hb⟩ := keyT_own h2 o1
      obtain ⟨g1, g2⟩ := getT_own kk os hl
      refine ⟨_, DGet.t hH (e1.st.sub _ _ hb), ?_⟩
      cases hg : getT ks ds kk with
      | none =>
        simp only [hg] at p1
        rw [g2 hg]
        split at p1
        · rename_i hp
          exact Pst.ok p1 e1 (ox.of_pure hp)
        · exact p1.elim
      | some d =>
        simp only [hg] at p1
        obtain ⟨w, hw, ow⟩ := g1 d hg
        rw [hw]
        split at p1
        · rename_i hp
          exact Pst.ok p1 e1 (ow.of_pure hp)
        · exact p1.elim
    · exact p1.elim
/-- d[k] = v: v is frozen -/
def sDput (i : Nat) (key : Rho → RX D) (m : Rho → RX D) : Rho → RS := fun ρ => (m ρ).stmt fun d ρ1 => match dicO ρ1[i]? with
  | some _ => (key ρ1).stmt fun kd ρ2 => (match ρ2[i]?, keyT kd with
    | some (some (.vT ks ds)), some k => if cap ks.length then .nx (ρ2.set i (some (.vT (putTk ks k) (putTd ks ds k d.frz)))) else .bad
    | _, _ => .bad)
  | none => .bad
theorem fs_dput {i k : Nat} {x : Str} {p pos' : Pos} {ie e : Expr} {key m : Rho → RX D} (hr : Room k X.A) (hx : PE X (.Name x p) (tVar i)) (hk : FE X cl W ie key) (h : FE X cl W e m)
    (hs : swapsWith e (some (.Subscript (.Name x p) ie pos')) pos.line X.env = pure false := by rfl) : FS X cl W (.Assign [.Subscript (.Name x p) ie pos'] e pos) (sDput i key m) :=
  PS_imp (ps_dput (by have := hr.units; omega) hx hk h hs) fun E σ H q => by
  obtain ⟨G, F, ρ, A, R, st, en, p⟩ := q
  refine ⟨G, F, ρ, A, R, st, en, Pst.stmt p fun d ρ1 v1 F1 H1 A1 B1 e1 o1 p1 => ?_⟩
  obtain ⟨e2, le2⟩ := e1.fz
  have ov : Own X.K cl (fz F1 H1 B1) H1 d.frz v1 zf := o1.freeze le2 fun a ha => fz_at ha
  have e3 : Ev X.K cl G F1 H1 R (fz F1 H1 B1) H1 σ ρ1 A1 zf := ⟨le2, fun _ _ => rfl, e2.st, e2.en⟩
  cases hd : dicO ρ1[i]? with
  | none => rw [hd] at p1; exact p1.elim
  | some kd0 =>
    rw [hd] at p1
    obtain ⟨a0, xs0, B0, hσ0, _⟩ := dic_own (e3.st.less fun x => by show A1 x + R x ≤ A1 x + (zf x + R x); omega) e3.en hd
    refine ⟨_, hσ0, tX.run0 e3 (Pst.stmt (SPst.next p1 e3) fun kd ρ2 v2 F2 H2 A2 B2 e4 o4 p2 => ?_)⟩
    split at p2
    · rename_i ks ds kk hρ hkk
      split at p2
      · rename_i hc
        obtain ⟨w, B5, C5, hw, o5, en5, hs5⟩ := e4.en.get hρ
        rw [hσ0] at hw
        cases hw
        obtain ⟨a, xs, B3, ev, fa, hH, hl, os, hs3⟩ := o5
        cases ev
        obtain ⟨b, rfl, hb⟩ := keyT_own hkk o4
        have ov2 : Own X.K cl F2 H2 d.frz v1 zf := zero_own ov e4.le
        have hzl : (ks.zip xs).length < sizeLine := by rw [List.length_zip, ← hl, Nat.min_self]; exact cap_line hc
        refine ⟨a0, _, rfl, DPut.t hH (e4.st.sub _ _ hb) hzl, ?_⟩
        obtain ⟨xs', hput, hl', os'⟩ := put_own kk os hl ov2
        rw [hput]
        have hB5 : 0 < B5 a0 := by have := hs3 a0; rw [one_self] at this; omega
        have hA2 : 0 < A2 a0 := by have := hs5 a0; omega
        have nd := e4.st.nd
        have st2 := upd_own (o := .dT ((putTk ks kk).zip xs')) e4.st (show 0 < A2 a0 + (B2 a0 + R a0) by omega)
        have off : ∀ b, 0 < C5 b + (B3 b + (B2 b + R b)) → b ≠ a0 := fun b hb e => by
          subst e
          have h1 : A2 b + (B2 b + R b) ≤ 1 := nd b
          have h2 := hs5 b
          have h3 := hs3 b
          rw [one_self] at h3
          omega
        have own1 : ∀ b, 0 < A2 b + (B2 b + R b) → F2 b = none := fun b hb => (e4.st.own b hb).1
        have en6 : EnvR X.K cl F2 (upd H2 a0 (.dT ((putTk ks kk).zip xs'))) (ρ2.set i none) σ C5 := en5.mono Le.refl (fun b hb => ⟨upd_ne (off b (by omega)), own1 b (by have := hs5 b; omega)⟩) fun _ => Nat.le_refl _
        have os6 : Owns X.K cl F2 (upd H2 a0 (.dT ((putTk ks kk).zip xs'))) (putTd ks ds kk d.frz) xs' B3 := os'.mono Le.refl (fun b hb => ⟨upd_ne (off b (by omega)), own1 b (by have := hs5 b; have := hs3 b; omega)⟩) fun _ => Nat.le_refl _
        have ov3 : Own X.K cl F2 (upd H2 a0 (.dT ((putTk ks kk).zip xs'))) (.vT (putTk ks kk) (putTd ks ds kk d.frz)) (.ref a0) (fun z => one a0 z + B3 z) :=
          ⟨a0, xs', B3, rfl, fa, upd_same, hl', os6, fun _ => Nat.le_refl _⟩
        have en7 := en6.put (i := i) ov3
        rw [List.set_set] at en7
        have hσ : σ.set i (some (.ref a0)) = σ := by
          obtain ⟨hl, hg⟩ := List.getElem?_eq_some_iff.mp hσ0
          rw [← hg]
          exact List.set_getElem_self hl
        rw [hσ] at en7
        refine p2 σ F2 _ _ ⟨Le.refl, fun b hb => upd_ne (off b (by omega)), st2.less fun z => ?_, en7⟩
        have h2 := hs5 z
        have h3 := hs3 z
        show one a0 z + B3 z + C5 z + (zf z + R z) ≤ A2 z + (B2 z + R z)
        unfold zf
        omega
      · exact p2.elim
    · exact p2.elim
end
end
end FL

set_option Elab.async false
set_option linter.all false
set_option maxRecDepth 100000
namespace FL
open PySem L2
noncomputable section
section
variable {X : Cx} {cl : Tb} {W : WX'}
variable {G : Gh} {F H F' H' : Hp} {R B A A' : Fp} {σ : St} {ρ ρ' : Rho} {pos : Pos}
/-- what is not reached -/
def sBad : Rho → RS := fun _ => .bad
theorem fs_bad {s : Stmt} : FS X cl W s sBad := ⟨fun pins s σ H D I h => by
  obtain ⟨G, F, ρ, A, R, st, en, p⟩ := h
  exact p.elim⟩
def eBad : Rho → RX D := fun _ => .bad
theorem fe_bad {e : Expr} : FE X cl W e eBad := ⟨fun pins s σ H Q I h => by
  obtain ⟨G, F, ρ, A, R, st, en, p⟩ := h
  exact p.elim⟩

/-! ### xs[i] = v -/
theorem Owns.split {K : PySem.W.Frag} : ∀ {ds : List D} {vs : List V} {A : Fp} {j : Nat} {d : D}, Owns K cl F H ds vs A → ds[j]? = some d → ∃ v B C, vs[j]? = some v ∧ Own K cl F H d v B ∧ Owns K cl F H (ds.set j .non) (vs.set j .non) C ∧ ∀ x, B x + C x ≤ A x
  | [], vs, A, j, d, o, h => by simp at h
  | d' :: ds, vs, A, 0, d, o, h => by
    obtain ⟨v, r, B, C, rfl, p, q, s⟩ := o
    have e : d' = d := by simpa using h
    subst e
    exact ⟨v, B, C, rfl, p, ⟨.non, r, zf, C, rfl, rfl, q, fun x => by show 0 + C x ≤ C x; omega⟩, s⟩
  | d' :: ds, vs, A, j + 1, d, o, h => by
    obtain ⟨v, r, B, C, rfl, p, q, s⟩ := o
    obtain ⟨w, B', C', h1, h2, h3, h4⟩ := Owns.split (j := j) q (by simpa using h)
    exact ⟨w, B', fun x => B x + C' x, by simpa using h1, h2, ⟨v, _, B, C', rfl, p, h3, fun x => Nat.le_refl _⟩, fun x => by have := s x; have := h4 x; show B' x + (B x + C' x) ≤ A x; omega⟩
/-- the frame behind a store at an owned list -/
def sPut (i : Nat) (k : Rho → Option D) (m : Rho → RX D) : Rho → RS := fun ρ => (m ρ).stmt fun d ρ1 => match ρ1[i]?, k ρ1 with
  | some (some (.vec ds)), some (.int n) => (match ixN ds.length n with | some j => .nx (ρ1.set i (some (.vec (ds.set j d)))) | none => .bad)
  | _, _ => .bad
theorem fs_put {i : Nat} {x : Str} {p pos' : Pos} {ie e : Expr} {k : Rho → Option D} {m : Rho → RX D} (hx : PE X (.Name x p) (tVar i)) (hk : FQ X cl ie k) (h : FE X cl W e m)
    (ha : ∀ v, assign (.Subscript (.Name x p) ie pos') X.env v = (do
      let ov ← holding [v] (eval (.Name x p) X.env)
      let iv ← holding [v, ov] (eval ie X.env)
      standAt pos'
      holding [v, ov, iv] (setItem ov iv v)
      release [v, ov, iv] []) := by intro _; rfl)
    (hs : swapsWithSole [.Subscript (.Name x p) ie pos'] e pos.line X.env = pure false := by rfl) (hw : swappedStores [.Subscript (.Name x p) ie pos'] e X.env = pure none := by rfl)
    (h1 : (assignEach [.Subscript (.Name x p) ie pos'] X.env).map (·.2) = [assign (.Subscript (.Name x p) ie pos') X.env] := by rfl) : FS X cl W (.Assign [.Subscript (.Name x p) ie pos'] e pos) (sPut i k m) :=
  PS_imp (ps_asg h (pg_sub hx hk set_list ha) hs hw h1) fun E σ H q => by
  obtain ⟨G, F, ρ, A, R, st, en, p⟩ := q
  refine ⟨G, F, ρ, A, R, st, en, Pst.stmt p fun d ρ1 v1 F1 H1 A1 B1 e1 o1 p1 => ?_⟩
  split at p1
  · rename_i ds n hρ hk
    cases hj : ixN ds.length n with
    | none => simp only [hj] at p1; exact p1.elim
    | some j =>
      simp only [hj] at p1
      obtain ⟨w, B2, C2, hw, o2, en2, hs2⟩ := e1.en.get hρ
      obtain ⟨a, ys, B3, rfl, fa, hH, os, hs3⟩ := o2
      refine ⟨.ref a, hw, G, F1, ρ1, A1, fun x => B1 x + R x, e1.st, e1.en, ?_⟩
      rw [hk]
      rintro v rfl
      refine ⟨a, ys, n, j, rfl, rfl, hH, by rw [← Owns.length os]; exact hj, ?_⟩
      have hB2 : 0 < B2 a := by have := hs3 a; rw [one_self] at this; omega
      have hA1 : 0 < A1 a := by have := hs2 a; omega
      have nd := e1.st.nd
      have st2 := upd_own (o := .lst (ys.set j v1)) e1.st (show 0 < A1 a + (B1 a + R a) by omega)
      have off : ∀ b, 0 < C2 b + (B3 b + (B1 b + R b)) → b ≠ a := fun b hb e => by
        subst e
        have h1 : A1 b + (B1 b + R b) ≤ 1 := nd b
        have h2 := hs2 b
        have h3 := hs3 b
        rw [one_self] at h3
        omega
      have own1 : ∀ b, 0 < A1 b + (B1 b + R b) → F1 b = none := fun b hb => (e1.st.own b hb).1
      have en3 : EnvR X.K cl F1 (upd H1 a (.lst (ys.set j v1))) (ρ1.set i none) σ C2 := en2.mono Le.refl (fun b hb => ⟨upd_ne (off b (by omega)), own1 b (by have := hs2 b; omega)⟩) fun _ => Nat.le_refl _
      have os3 : Owns X.K cl F1 (upd H1 a (.lst (ys.set j v1))) ds ys B3 := os.mono Le.refl (fun b hb => ⟨upd_ne (off b (by omega)), own1 b (by have := hs2 b; have := hs3 b; omega)⟩) fun _ => Nat.le_refl _
      have o3 : Own X.K cl F1 (upd H1 a (.lst (ys.set j v1))) d v1 B1 := o1.mono Le.refl (fun b hb => ⟨upd_ne (off b (by omega)), own1 b (by omega)⟩) fun _ => Nat.le_refl _
      have ov : Own X.K cl F1 (upd H1 a (.lst (ys.set j v1))) (.vec (ds.set j d)) (.ref a) (fun z => one a z + (B3 z + B1 z)) :=
        ⟨a, ys.set j v1, fun z => B3 z + B1 z, rfl, fa, upd_same, os3.set j o3, fun _ => Nat.le_refl _⟩
      have en4 := en3.put (i := i) ov
      rw [List.set_set] at en4
      have hσ : σ.set i (some (.ref a)) = σ := by
        obtain ⟨hl, hg⟩ := List.getElem?_eq_some_iff.mp hw
        rw [← hg]
        exact List.set_getElem_self hl
      rw [hσ] at en4
      refine p1 σ F1 _ _ ⟨Le.refl, fun b hb => upd_ne (off b (by omega)), st2.less fun z => ?_, en4⟩
      have h2 := hs2 z
      have h3 := hs3 z
      show one a z + (B3 z + B1 z) + C2 z + (zf z + R z) ≤ A1 z + (B1 z + R z)
      unfold zf
      omega
  · exact p1.elim
/-- xs[k][l] = v -/
def sPut2 (i : Nat) (k l : Rho → Option D) (m : Rho → RX D) : Rho → RS := fun ρ => (m ρ).stmt fun d ρ1 => match ρ1[i]?, k ρ1, l ρ1 with
  | some (some (.vec ds)), some (.int n), some (.int n2) => (match ixN ds.length n with
    | some j => (match ds[j]? with
      | some (.vec es) => (match ixN es.length n2 with | some j2 => .nx (ρ1.set i (some (.vec (ds.set j (.vec (es.set j2 d)))))) | none => .bad)
      | _ => .bad)
    | none => .bad)
  | _, _, _ => .bad
theorem fs_put2 {i : Nat} {x : Str} {p pos' pos2 : Pos} {ke le e : Expr} {k l : Rho → Option D} {m : Rho → RX D} (hx : PE X (.Name x p) (tVar i)) (hk : FQ X cl ke k) (hl : FQ X cl le l) (h : FE X cl W e m) (hp : PlainIx ke)
    (ha : ∀ v, assign (.Subscript (.Subscript (.Name x p) ke pos2) le pos') X.env v = (do
      let ov ← holding [v] (eval (.Subscript (.Name x p) ke pos2) X.env)
      let iv ← holding [v, ov] (eval le X.env)
      standAt pos'
      holding [v, ov, iv] (setItem ov iv v)
      release [v, ov, iv] []) := by intro _; rfl)
    (hs : swapsWithSole [.Subscript (.Subscript (.Name x p) ke pos2) le pos'] e pos.line X.env = pure false := by rfl) (hw : swappedStores [.Subscript (.Subscript (.Name x p) ke pos2) le pos'] e X.env = pure none := by rfl)
    (h1 : (assignEach [.Subscript (.Subscript (.Name x p) ke pos2) le pos'] X.env).map (·.2) = [assign (.Subscript (.Subscript (.Name x p) ke pos2) le pos') X.env] := by rfl) :
    FS X cl W (.Assign [.Subscript (.Subscript (.Name x p) ke pos2) le pos'] e pos) (sPut2 i k l m) :=
  PS_imp (ps_asg h (pg_sub (pe_ix ix_seq hx hk hp) hl set_list ha) hs hw h1) fun E σ H q => by
  obtain ⟨G, F, ρ, A, R, st, en, p⟩ := q
  refine ⟨G, F, ρ, A, R, st, en, Pst.stmt p fun d ρ1 v1 F1 H1 A1 B1 e1 o1 p1 => ?_⟩
  split at p1
  · rename_i ds n n2 hρ hk hl
    cases hj : ixN ds.length n with
    | none => simp only [hj] at p1; exact p1.elim
    | some j =>
      simp only [hj] at p1
      split at p1
      · rename_i es hes
        cases hj2 : ixN es.length n2 with
        | none => simp only [hj2] at p1; exact p1.elim
        | some j2 =>
          simp only [hj2] at p1
          obtain ⟨w, B2, C2, hw, o2, en2, hs2⟩ := e1.en.get hρ
          obtain ⟨a, ys, B3, rfl, fa, hH, os, hs3⟩ := o2
          obtain ⟨vi, B4, C4, hvi, oi, osr, hs4⟩ := os.split hes
          obtain ⟨a2, zs, B5, rfl, fa2, hH2, os5, hs5⟩ := oi
          refine ⟨.ref a, hw, G, F1, ρ1, A1, fun x => B1 x + R x, e1.st, e1.en, ?_⟩
          rw [hk]
          rintro v rfl
          refine .inl ⟨a, ys, n, .ref a2, rfl, rfl, SqL.of hH, ?_, G, F1, ρ1, A1, fun x => B1 x + R x, e1.st, e1.en, ?_⟩
          · unfold atI
            rw [← Owns.length os, hj]
            exact hvi
          rw [hl]
          rintro v rfl
          refine ⟨a2, zs, n2, j2, rfl, rfl, hH2, by rw [← Owns.length os5]; exact hj2, ?_⟩
          have nd := e1.st.nd
          have hB4 : 0 < B4 a2 := by have := hs5 a2; rw [one_self] at this; omega
          have hA1 : 0 < A1 a2 := by have := hs2 a2; have := hs3 a2; have := hs4 a2; omega
          have st2 := upd_own (o := .lst (zs.set j2 v1)) e1.st (show 0 < A1 a2 + (B1 a2 + R a2) by omega)
          have off : ∀ b, 0 < one a b + (C2 b + (C4 b + (B5 b + (B1 b + R b)))) → b ≠ a2 := fun b hb e => by
            subst e
            have h1 : A1 b + (B1 b + R b) ≤ 1 := nd b
            have h2 := hs2 b
            have h3 := hs3 b
            have h4 := hs4 b
            have h5 := hs5 b
            rw [one_self] at h5
            omega
          have own1 : ∀ b, 0 < A1 b + (B1 b + R b) → F1 b = none := fun b hb => (e1.st.own b hb).1
          have le : ∀ b, one a b + (C2 b + (C4 b + B5 b)) ≤ A1 b := fun b => by have := hs2 b; have := hs3 b; have := hs4 b; have := hs5 b; omega
          have en3 : EnvR X.K cl F1 (upd H1 a2 (.lst (zs.set j2 v1))) (ρ1.set i none) σ C2 := en2.mono Le.refl (fun b hb => ⟨upd_ne (off b (by omega)), own1 b (by have := le b; omega)⟩) fun _ => Nat.le_refl _
          have osr3 : Owns X.K cl F1 (upd H1 a2 (.lst (zs.set j2 v1))) (ds.set j .non) (ys.set j .non) C4 := osr.mono Le.refl (fun b hb => ⟨upd_ne (off b (by omega)), own1 b (by have := le b; omega)⟩) fun _ => Nat.le_refl _
          have os5' : Owns X.K cl F1 (upd H1 a2 (.lst (zs.set j2 v1))) es zs B5 := os5.mono Le.refl (fun b hb => ⟨upd_ne (off b (by omega)), own1 b (by have := le b; omega)⟩) fun _ => Nat.le_refl _
          have o3 : Own X.K cl F1 (upd H1 a2 (.lst (zs.set j2 v1))) d v1 B1 := o1.mono Le.refl (fun b hb => ⟨upd_ne (off b (by omega)), own1 b (by omega)⟩) fun _ => Nat.le_refl _
          have oi3 : Own X.K cl F1 (upd H1 a2 (.lst (zs.set j2 v1))) (.vec (es.set j2 d)) (.ref a2) (fun z => one a2 z + (B5 z + B1 z)) :=
            ⟨a2, zs.set j2 v1, fun z => B5 z + B1 z, rfl, fa2, upd_same, os5'.set j2 o3, fun _ => Nat.le_refl _⟩
          have osx := osr3.set j oi3
          rw [List.set_set, List.set_set] at osx
          have hys : ys.set j (.ref a2) = ys := by
            obtain ⟨h, g⟩ := List.getElem?_eq_some_iff.mp hvi
            rw [← g]
            exact List.set_getElem_self h
          rw [hys] at osx
          have hHa : upd H1 a2 (.lst (zs.set j2 v1)) a = some (.lst ys) := by rw [upd_ne (off a (by rw [one_self]; omega))]; exact hH
          have ov : Own X.K cl F1 (upd H1 a2 (.lst (zs.set j2 v1))) (.vec (ds.set j (.vec (es.set j2 d)))) (.ref a) (fun z => one a z + (C4 z + (one a2 z + (B5 z + B1 z)))) :=
            ⟨a, ys, fun z => C4 z + (one a2 z + (B5 z + B1 z)), rfl, fa, hHa, osx, fun _ => Nat.le_refl _⟩
          have en4 := en3.put (i := i) ov
          rw [List.set_set] at en4
          have hσ : σ.set i (some (.ref a)) = σ := by
            obtain ⟨hl, hg⟩ := List.getElem?_eq_some_iff.mp hw
            rw [← hg]
            exact List.set_getElem_self hl
          rw [hσ] at en4
          refine p1 σ F1 _ _ ⟨Le.refl, fun b hb => upd_ne (off b (by omega)), st2.less fun z => ?_, en4⟩
          have h2 := hs2 z
          have h3 := hs3 z
          have h4 := hs4 z
          have h5 := hs5 z
          show one a z + (C4 z + (one a2 z + (B5 z + B1 z))) + C2 z + (zf z + R z) ≤ A1 z + (B1 z + R z)
          unfold zf
          omega
      · exact p1.elim
  · exact p1.elim
end
end
end FL

set_option Elab.async false
set_option linter.all false
set_option maxRecDepth 100000
namespace FL
open PySem L2
noncomputable section
theorem wipe_in {σ : St} {i : Nat} : ∀ {vs : List Nat}, i ∈ vs → i < σ.length → (L2.wipe σ vs)[i]? = some none
  | v :: vs, h, hl => by
    unfold L2.wipe
    by_cases e : v = i
    · subst e
      rw [List.getElem?_set_self (by rw [wipe_length]; exact hl)]
    · rw [List.getElem?_set_ne e]
      exact wipe_in (by rcases List.mem_cons.mp h with z | z; exact absurd z.symm e; exact z) hl
theorem wipe_ext {σ σ' : St} {vs : List Nat} (hl : σ'.length = σ.length) (h : ∀ i, i ∉ vs → σ'[i]? = σ[i]?) : L2.wipe σ' vs = L2.wipe σ vs := by
  apply List.ext_getElem?
  intro i
  by_cases hi : i ∈ vs
  · by_cases hb : i < σ.length
    · rw [wipe_in hi hb, wipe_in hi (by omega)]
    · rw [List.getElem?_eq_none (by rw [wipe_length]; omega), List.getElem?_eq_none (by rw [wipe_length]; omega)]
  · rw [wipe_out hi, wipe_out hi, h i hi]
theorem wipe_len {σ σ' : St} {vs : List Nat} (h : L2.wipe σ' vs = L2.wipe σ vs) : σ'.length = σ.length := by
  have := congrArg List.length h
  rwa [wipe_length, wipe_length] at this
theorem wipe_at {σ σ' : St} {vs : List Nat} (h : L2.wipe σ' vs = L2.wipe σ vs) {i : Nat} (hi : i ∉ vs) : σ'[i]? = σ[i]? := by
  rw [← wipe_out (σ := σ') hi, h, wipe_out hi]
theorem wipe_comp {σ σ1 σ2 : St} {a b : List Nat} (h1 : L2.wipe σ1 a = L2.wipe σ a) (h2 : L2.wipe σ2 b = L2.wipe σ1 b) : L2.wipe σ2 (a ++ b) = L2.wipe σ (a ++ b) :=
  wipe_ext ((wipe_len h2).trans (wipe_len h1)) fun i hi => by
    rw [List.mem_append, not_or] at hi
    rw [wipe_at h2 hi.2, wipe_at h1 hi.1]
section
variable {X : Cx} {cl : Tb} {W : WX'}
variable {G : Gh} {F H F' H' : Hp} {R B A A' : Fp} {σ : St} {ρ ρ' : Rho} {pos : Pos}
def tGs (K : PySem.W.Frag) (cl : Tb) (vs : List Nat) (m : List D → Rho → Option Rho) : TGs := fun xs σ H Q =>
  ∃ G F ρ A B R ds, Sta G F H (fun x => A x + (B x + R x)) ∧ EnvR K cl F H ρ σ A ∧ Owns K cl F H ds xs B ∧
    match m ds ρ with
    | some ρ1 => ∀ σ' F' H' A', L2.wipe σ' vs = L2.wipe σ vs → Ev K cl G F H R F' H' σ' ρ1 A' zf → Q σ' H'
    | none => False
abbrev FGs (X : Cx) (cl : Tb) (tg : List Expr) (vs : List Nat) (m : List D → Rho → Option Rho) : Prop := PGs X tg (tGs X.K cl vs m)
theorem PGs_imp {X : Cx} {e : List Expr} {t t' : TGs} (h : PGs X e t) (i : ∀ v σ H Q, t' v σ H Q → t v σ H Q) : PGs X e t' := ⟨fun pins s σ H v u Q I r q => h.run pins s σ H v u Q I r (i v σ H Q q)⟩
def gNl : List D → Rho → Option Rho := fun ds ρ => match ds with | [] => some ρ | _ => none
def gCo (m : D → Rho → Option Rho) (n : List D → Rho → Option Rho) : List D → Rho → Option Rho := fun ds ρ => match ds with | d :: ds => (m d ρ).bind fun ρ1 => n ds ρ1 | [] => none
theorem fgs_nil : FGs X cl [] [] gNl := PGs_imp pgs_nil fun xs σ H Q q => by
  obtain ⟨G, F, ρ, A, B, R, ds, st, en, o, q⟩ := q
  unfold gNl at q
  cases ds with
  | nil => exact ⟨o, q σ F H A rfl ⟨Le.refl, fun _ _ => rfl, st.less fun x => by show A x + (zf x + R x) ≤ A x + (B x + R x); unfold zf; omega, en⟩⟩
  | cons d ds => exact q.elim
theorem fgs_cons {e : Expr} {es : List Expr} {v1 v2 : List Nat} {m : D → Rho → Option Rho} {n : List D → Rho → Option Rho} (h1 : FG X cl e v1 m) (h2 : FGs X cl es v2 n)
    (hs : (assignEach (e :: es) X.env).map (·.2) = assign e X.env :: (assignEach es X.env).map (·.2) := by rfl) : FGs X cl (e :: es) (v1 ++ v2) (gCo m n) := PGs_imp (pgs_cons h1 h2 hs) fun xs σ H Q q => by
  obtain ⟨G, F, ρ, A, B, R, ds, st, en, o, q⟩ := q
  unfold gCo at q
  cases ds with
  | nil => exact q.elim
  | cons d ds =>
    obtain ⟨v, r, B1, C1, rfl, o1, os, hs⟩ := o
    refine ⟨v, r, rfl, G, F, ρ, A, B1, fun x => C1 x + R x, d, st.less fun x => by have := hs x; show A x + (B1 x + (C1 x + R x)) ≤ A x + (B x + R x); omega, en, o1, ?_⟩
    cases hm : m d ρ with
    | none => simp only [hm] at q; exact q.elim
    | some ρ1 =>
      simp only [hm] at q
      intro σ1 F1 H1 A1 hw e1
      refine ⟨G, F1, ρ1, A1, C1, R, ds, e1.st.less fun x => by show A1 x + (C1 x + R x) ≤ A1 x + (zf x + (C1 x + R x)); omega, e1.en, e1.keeps os, ?_⟩
      rw [Option.bind_some] at q
      cases hn : n ds ρ1 with
      | none => rw [hn] at q; exact q.elim
      | some ρ2 =>
        rw [hn] at q
        intro σ2 F2 H2 A2 hw2 e2
        refine q σ2 F2 H2 A2 (wipe_comp hw hw2) ⟨e1.le.trans e2.le, fun a ha => ?_, e2.st, e2.en⟩
        exact (e2.ag a ha).trans (e1.ag a (by show 0 < C1 a + R a; omega))
/-- a tuple's, a list's items -/
def gT (n : Nat) (m : List D → Rho → Option Rho) : D → Rho → Option Rho := fun d ρ => match sq d with | some ds => if ds.length = n then m ds ρ else none | none => none
theorem fg_tup {es : List Expr} {k : Nat} {vs : List Nat} {m : List D → Rho → Option Rho} {n : Nat} (hc : X.calm = true) (h : FGs X cl es vs m)
    (hn : (assignEach es X.env).length = n := by rfl) (hst : (assignEach es X.env).findIdx? (·.1) = none := by rfl) : FG X cl (.Tuple es k pos) vs (gT n m) := by
  have key : ∀ (v : V) (σ : St) (H : Hp) (Q : St → Hp → Prop), tG X.K cl vs (gT n m) v σ H Q → gTup X.K n (tGs X.K cl vs m) v σ H Q ∨ gLst X.K n (tGs X.K cl vs m) v σ H Q := by
    intro v σ H Q q
    obtain ⟨G, F, ρ, A, B, R, d, st, en, o, q⟩ := q
    unfold gT at q
    cases hq : sq d with
    | none => simp only [hq] at q
    | some ds =>
      simp only [hq] at q
      obtain ⟨a, xs, rfl, z, os⟩ := own_sq hq o st.sub
      by_cases hl : ds.length = n
      · rw [if_pos hl] at q
        have hx : xs.length = n := by rw [← Owns.length os]; exact hl
        rcases z with z | z
        · exact .inr ⟨a, xs, rfl, z, hx, G, F, ρ, A, B, R, ds, st, en, os, q⟩
        · exact .inl ⟨a, xs, rfl, z, hx, G, F, ρ, A, B, R, ds, st, en, os, q⟩
      · rw [if_neg hl] at q; exact q.elim
  refine ⟨fun pins s σ H v u Q I r q => ?_⟩
  rcases key v σ H Q q with q | q
  · exact (pg_tup hc h hn hst).run pins s σ H v u Q I r q
  · exact (pg_lst hc h hn hst).run pins s σ H v u Q I r q
/-- target = e -/
def sAsg (m : Rho → RX D) (g : D → Rho → Option Rho) : Rho → RS := fun ρ => (m ρ).stmt fun d ρ1 => match g d ρ1 with | some ρ2 => .nx ρ2 | none => .bad
theorem fs_asg {tg e : Expr} {vs : List Nat} {m : Rho → RX D} {g : D → Rho → Option Rho} (he : FE X cl W e m) (hg : FG X cl tg vs g) (hs : swapsWithSole [tg] e pos.line X.env = pure false := by rfl) (hw : swappedStores [tg] e X.env = pure none := by rfl)
    (h1 : (assignEach [tg] X.env).map (·.2) = [assign tg X.env] := by rfl) : FS X cl W (.Assign [tg] e pos) (sAsg m g) := PS_imp (ps_asg he hg hs hw h1) fun E σ H q => by
  obtain ⟨G, F, ρ, A, R, st, en, p⟩ := q
  refine ⟨G, F, ρ, A, R, st, en, Pst.stmt p fun d ρ1 v1 F1 H1 A1 B1 e1 o1 p1 => ?_⟩
  refine ⟨G, F1, ρ1, A1, B1, R, d, e1.st, e1.en, o1, ?_⟩
  cases hg : g d ρ1 with
  | none => simp only [hg] at p1; exact p1.elim
  | some ρ2 =>
    simp only [hg] at p1
    exact fun σ2 F2 H2 A2 hw e2 => p1 σ2 F2 H2 A2 e2
end
end
end FL

set_option Elab.async false
set_option linter.all false
set_option maxRecDepth 100000
namespace FL
open PySem L2
noncomputable section
/-! ### data at any depth -/
mutual
def pdO : D → Option PyData
  | .non => some .none
  | .bl b => some (.bool b)
  | .int i => some (.int i)
  | .str s => some (.str s)
  | .tup ds => (pdsO ds).map .tuple
  | .lst ds => (pdsO ds).map .list
  | .vec ds => (pdsO ds).map .list
  | _ => none
def pdsO : List D → Option (List PyData)
  | [] => some []
  | d :: ds => (pdO d).bind fun p => (pdsO ds).map (p :: ·)
end
section
variable {X : Cx} {cl : Tb} {W : WX'}
variable {G : Gh} {F H F' H' : Hp} {R B A A' : Fp} {σ : St} {ρ ρ' : Rho} {pos : Pos}
mutual
theorem pd_own {K : PySem.W.Frag} (sub : Le F H) : ∀ {d : D} {v : V} {A : Fp} {p : PyData}, pdO d = some p → Own K cl F H d v A → Dp K H v p
  | .non, v, A, p, h, o => by cases h; have e : v = .non := o; subst e; exact .non
  | .bl b, v, A, p, h, o => by cases h; have e : v = .bl b := o; subst e; exact .bl b
  | .int i, v, A, p, h, o => by cases h; have e : v = .int i := o; subst e; exact .int i
  | .str s, v, A, p, h, o => by cases h; have e : v = .str s := o; subst e; exact .str s
  | .tup ds, v, A, p, h, o => by
    obtain ⟨a, xs, rfl, q, r⟩ := o
    unfold pdO at h
    cases e : pdsO ds with
    | none => rw [e] at h; cases h
    | some ps => rw [e] at h; cases h; exact .tup (sub.sqT q.1) (pds_own sub e r)
  | .lst ds, v, A, p, h, o => by
    obtain ⟨a, xs, rfl, q, r⟩ := o
    unfold pdO at h
    cases e : pdsO ds with
    | none => rw [e] at h; cases h
    | some ps => rw [e] at h; cases h; exact .lst (sub.sqL q) (pds_own sub e r)
  | .vec ds, v, A, p, h, o => by
    obtain ⟨a, xs, B, rfl, n, q, r, s⟩ := o
    unfold pdO at h
    cases e : pdsO ds with
    | none => rw [e] at h; cases h
    | some ps => rw [e] at h; cases h; exact .lst (SqL.of q) (pds_own sub e r)
  | .obj _ _, _, _, _, h, _ => by cases h
  | .mobj _ _, _, _, _, h, _ => by cases h
  | .exc _ _, _, _, _, h, _ => by cases h
  | .dT _ _, _, _, _, h, _ => by cases h
  | .vT _ _, _, _, _, h, _ => by cases h
  | .dK _ _, _, _, _, h, _ => by cases h
  | .vK _ _, _, _, _, h, _ => by cases h
  | .val _, _, _, _, h, _ => by cases h
theorem pds_own {K : PySem.W.Frag} (sub : Le F H) : ∀ {ds : List D} {vs : List V} {A : Fp} {ps : List PyData}, pdsO ds = some ps → Owns K cl F H ds vs A → DpAll K H vs ps
  | [], vs, A, ps, h, o => by cases h; have e : vs = [] := o; subst e; exact .nil
  | d :: ds, vs, A, ps, h, o => by
    obtain ⟨v, r, B, C, rfl, p, q, s⟩ := o
    unfold pdsO at h
    cases e1 : pdO d with
    | none => rw [e1] at h; cases h
    | some p1 =>
      rw [e1, Option.bind_some] at h
      cases e2 : pdsO ds with
      | none => rw [e2] at h; cases h
      | some ps' => rw [e2] at h; cases h; exact .cons (pd_own sub e1 p) (pds_own sub e2 q)
end
def deepOk (p q : PyData) : Bool := yes (SeqAt.shaped p = true ∧ SeqAt.shaped q = true)
def dEq (x y : D) : Option D := match pdO x, pdO y with | some p, some q => if deepOk p q then some (.bl (PyData.eqv p q)) else none | _, _ => none
def dNe (x y : D) : Option D := match pdO x, pdO y with | some p, some q => if deepOk p q then some (.bl (!PyData.eqv p q)) else none | _, _ => none
def dIn (x y : D) : Option D := match pdO x, pdO y with | some p, some (.list qs) => if deepOk p (.list qs) then some (.bl (qs.any fun z => PyData.eqv z p)) else none | _, _ => none
def dNin (x y : D) : Option D := match pdO x, pdO y with | some p, some (.list qs) => if deepOk p (.list qs) then some (.bl (!qs.any fun z => PyData.eqv z p)) else none | _, _ => none
theorem dEq_of {x y d : D} (h : dEq x y = some d) : ∃ p q, pdO x = some p ∧ pdO y = some q ∧ SeqAt.shaped p = true ∧ SeqAt.shaped q = true ∧ d = .bl (PyData.eqv p q) := by
  unfold dEq at h
  split at h
  · rename_i p q e1 e2
    split at h
    · rename_i ok
      obtain ⟨a, b⟩ := of_yes ok
      exact ⟨p, q, e1, e2, a, b, (Option.some.inj h).symm⟩
    · cases h
  · cases h
theorem dNe_of {x y d : D} (h : dNe x y = some d) : ∃ p q, pdO x = some p ∧ pdO y = some q ∧ SeqAt.shaped p = true ∧ SeqAt.shaped q = true ∧ d = .bl (!PyData.eqv p q) := by
  unfold dNe at h
  split at h
  · rename_i p q e1 e2
    split at h
    · rename_i ok
      obtain ⟨a, b⟩ := of_yes ok
      exact ⟨p, q, e1, e2, a, b, (Option.some.inj h).symm⟩
    · cases h
  · cases h
theorem dIn_of {x y d : D} (h : dIn x y = some d) : ∃ p q, pdO x = some p ∧ pdO y = some (.list q) ∧ SeqAt.shaped p = true ∧ SeqAt.shaped (.list q) = true ∧ d = .bl (q.any fun z => PyData.eqv z p) := by
  unfold dIn at h
  split at h
  · rename_i p q e1 e2
    split at h
    · rename_i ok
      obtain ⟨a, b⟩ := of_yes ok
      exact ⟨p, q, e1, e2, a, b, (Option.some.inj h).symm⟩
    · cases h
  · cases h
theorem dNin_of {x y d : D} (h : dNin x y = some d) : ∃ p q, pdO x = some p ∧ pdO y = some (.list q) ∧ SeqAt.shaped p = true ∧ SeqAt.shaped (.list q) = true ∧ d = .bl (!q.any fun z => PyData.eqv z p) := by
  unfold dNin at h
  split at h
  · rename_i p q e1 e2
    split at h
    · rename_i ok
      obtain ⟨a, b⟩ := of_yes ok
      exact ⟨p, q, e1, e2, a, b, (Option.some.inj h).symm⟩
    · cases h
  · cases h
theorem q_dEq : Quiet2 X cl dEq (rEqD X.K) := fun x y d hd F H A vx vy Q sub ox oy k => by
  obtain ⟨p, q, e1, e2, s1, s2, rfl⟩ := dEq_of hd
  exact ⟨p, q, pd_own sub e1 ox, pd_own sub e2 oy, s1, s2, k _ rfl⟩
theorem q_dNe : Quiet2 X cl dNe (rNeD X.K) := fun x y d hd F H A vx vy Q sub ox oy k => by
  obtain ⟨p, q, e1, e2, s1, s2, rfl⟩ := dNe_of hd
  exact ⟨p, q, pd_own sub e1 ox, pd_own sub e2 oy, s1, s2, k _ rfl⟩
theorem q_dIn : Quiet2 X cl dIn (rInD X.K) := fun x y d hd F H A vx vy Q sub ox oy k => by
  obtain ⟨p, q, e1, e2, s1, s2, rfl⟩ := dIn_of hd
  exact ⟨p, q, pd_own sub e1 ox, pd_own sub e2 oy, s1, s2, k _ rfl⟩
theorem q_dNin : Quiet2 X cl dNin (rNotInD X.K) := fun x y d hd F H A vx vy Q sub ox oy k => by
  obtain ⟨p, q, e1, e2, s1, s2, rfl⟩ := dNin_of hd
  exact ⟨p, q, pd_own sub e1 ox, pd_own sub e2 oy, s1, s2, k _ rfl⟩
theorem zst {S B C : Fp} (st : Sta G F H (fun z => B z + (C z + S z))) : Sta G F H (fun z => zf z + S z) := st.less fun z => by show zf z + S z ≤ _; unfold zf; omega
theorem d_dEq : Does2 X cl dEq (rEqD X.K) := fun x y d hd G F H S B C vx vy Q st ox oy k => by
  obtain ⟨p, q, e1, e2, s1, s2, rfl⟩ := dEq_of hd
  exact ⟨p, q, pd_own st.sub e1 ox, pd_own st.sub e2 oy, s1, s2, k _ F H zf Le.refl (fun _ _ => rfl) (zst st) rfl⟩
theorem d_dNe : Does2 X cl dNe (rNeD X.K) := fun x y d hd G F H S B C vx vy Q st ox oy k => by
  obtain ⟨p, q, e1, e2, s1, s2, rfl⟩ := dNe_of hd
  exact ⟨p, q, pd_own st.sub e1 ox, pd_own st.sub e2 oy, s1, s2, k _ F H zf Le.refl (fun _ _ => rfl) (zst st) rfl⟩
theorem d_dIn : Does2 X cl dIn (rInD X.K) := fun x y d hd G F H S B C vx vy Q st ox oy k => by
  obtain ⟨p, q, e1, e2, s1, s2, rfl⟩ := dIn_of hd
  exact ⟨p, q, pd_own st.sub e1 ox, pd_own st.sub e2 oy, s1, s2, k _ F H zf Le.refl (fun _ _ => rfl) (zst st) rfl⟩
theorem d_dNin : Does2 X cl dNin (rNotInD X.K) := fun x y d hd G F H S B C vx vy Q st ox oy k => by
  obtain ⟨p, q, e1, e2, s1, s2, rfl⟩ := dNin_of hd
  exact ⟨p, q, pd_own st.sub e1 ox, pd_own st.sub e2 oy, s1, s2, k _ F H zf Le.refl (fun _ _ => rfl) (zst st) rfl⟩
theorem o_dEq {k : Nat} (hr : Room k X.A) : OpR X (compareOp .Eq) (rEqD X.K) := op_eqD hr.units
theorem o_dNe {k : Nat} (hr : Room k X.A) : OpR X (compareOp .NotEq) (rNeD X.K) := op_neD hr.units
theorem o_dIn {k : Nat} (hr : Room k X.A) : OpR X (compareOp .In) (rInD X.K) := op_inD (by have := hr.un; omega)
theorem o_dNin {k : Nat} (hr : Room k X.A) : OpR X (compareOp .NotIn) (rNotInD X.K) := op_notInD (by have := hr.un; omega)

theorem o_dEqH {k : Nat} (hr : L2H.RoomH k X.A) : OpR X (compareOp .Eq) (rEqD X.K) := op_eqD (by have := hr.un; omega)
theorem o_dNeH {k : Nat} (hr : L2H.RoomH k X.A) : OpR X (compareOp .NotEq) (rNeD X.K) := op_neD (by have := hr.un; omega)
/-! ### a property of an own class -/
structure PrpC (P : Program) (w : World) (K : PySem.W.Frag) (mg : Str → Option Value) (base : Heap) (cl : Tb) (c : Nat) (x : Str) (k : Nat) (m : List D → RF) : Prop where
  ex : ∃ (f p : Addr) (fd : FuncData) (ps : List Str), FnOk P w K mg base (L2N.CX P w) k f fd ps (spF K cl 1 m) ∧ Cls K (cl c).at_ ∧ PropOf K (cl c).at_ x p f ∧ Binds K fd ps []
/-- o.x: o is quiet, nothing is raised -/
def eProp (c : Nat) (m : List D → RF) (o : Rho → Option D) : Rho → RX D := fun ρ => match o ρ with
  | some d => if isObj' c d && d.pure then (match m [d] with | .rt r => .ok r ρ | _ => .bad) else .bad
  | none => .bad
theorem fe_prop {c : Nat} {x : Str} {k : Nat} {m : List D → RF} {oe : Expr} {o : Rho → Option D} (Pc : PrpC X.prog X.w X.K X.mg X.base cl c x k m) (hr : Room (k + 1) X.A) (ho : FQ X cl oe o)
    (hb : attributeBase oe x X.env (eval oe X.env) = eval oe X.env := by rfl) : FE X cl W (.Attribute oe x pos) (eProp c m o) := by
  obtain ⟨f, p, fd, ps, h1, h2, h3, h4⟩ := Pc.ex
  refine PE_imp (pe_prop (dvs := []) ho h2 h3 h1 hr h4 .nil (passLN (X := X.nox)) hb) fun σ H Q q => ?_
  obtain ⟨G, F, ρ, A, R, st, en, p⟩ := q
  refine ⟨G, F, ρ, A, R, st, en, ?_⟩
  unfold eProp at p
  cases ho : o ρ with
  | none => rw [ho] at p; exact p.elim
  | some d =>
    rw [ho] at p
    intro v ov
    by_cases hc : (isObj' c d && d.pure) = true
    · simp only [hc, if_true] at p
      rw [Bool.and_eq_true] at hc
      obtain ⟨hc1, hp⟩ := hc
      cases d with
      | obj c' ds =>
        have ec : c' = c := by simpa [isObj'] using hc1
        subst ec
        have oz := ov.of_pure (H' := H) hp
        obtain ⟨b, dx, xs, rfl, hb, hz, os⟩ := oz
        have e1 : Ev X.K cl G F H R F H σ ρ A zf := Ev.self st en
        have oself : Own X.K cl F H (.obj c' ds) (.ref b) zf := ⟨b, dx, xs, rfl, hb, hz, os⟩
        refine ⟨b, dx, _, rfl, st.sub _ _ hb, rfl, F, [.obj c' ds], st.sub, ⟨.ref b, _, zf, zf, rfl, oself, rfl, fun _ => Nat.le_refl _⟩, ?_⟩
        cases hm : m [.obj c' ds] with
        | rt d =>
          simp only [hm] at p
          exact fun v F' H' B le lh st' o => p v F' H' A B (e1.call le lh st') o
        | ex c xs => simp only [hm] at p; exact p.elim
        | bad => simp only [hm] at p; exact p.elim
      | _ => cases hc1
    · simp only [hc] at p; exact p.elim
end
end
end FL

set_option Elab.async false
set_option linter.all false
set_option maxRecDepth 100000
namespace FL
open PySem L2
noncomputable section
/-- a method by its name, of two: self and another thing -/
structure OpC (P : Program) (w : World) (K : PySem.W.Frag) (mg : Str → Option Value) (base : Heap) (cl : Tb) (c : Nat) (x : Str) (n k : Nat) (m : List D → RF) : Prop where
  ex : ∃ (f : Addr) (fd : FuncData) (ps : List Str), FnOk P w K mg base (L2N.CX P w) k f fd ps (spF K cl n m) ∧ PySem.W.findIn K (.ref (cl c).at_) x = some (some (.ref f)) ∧ PySem.W.isFn K (.ref f) = true ∧ Binds K fd ps []
def opO (c : Nat) (m : List D → RF) (x y : D) : Option D := if isObj' c x && x.pure && y.pure then (match m [x, y] with | .rt r => some r | _ => none) else none
def opOS (c : Nat) (m : List D → RF) (x y : D) : Option D := if isObj' c x && x.pure && isObj' c y && y.pure then (match m [x, y] with | .rt r => some r | _ => none) else none
def opOI (c : Nat) (m : List D → RF) (x y : D) : Option D := if isObj' c x && x.pure && y.isI then (match m [x, y] with | .rt r => some r | _ => none) else none
/-- the readings -/
def rOwnS (K : PySem.W.Frag) (cl : Tb) (c : Nat) (m : List D → RF) : R2 := fun x y H Q => ∃ a b dx dy fs gs, x = .ref a ∧ y = .ref b ∧ H a = some (.ins (cl c).at_ dx fs) ∧ H b = some (.ins (cl c).at_ dy gs) ∧ spF K cl 2 m [x, y] H Q E0
def rOwnI (K : PySem.W.Frag) (cl : Tb) (c : Nat) (m : List D → RF) : R2 := fun x y H Q => ∃ a i dx fs, x = .ref a ∧ y = .int i ∧ H a = some (.ins (cl c).at_ dx fs) ∧ spF K cl 2 m [x, y] H Q E0
section
variable {X : Cx} {cl : Tb} {W : WX'}
variable {G : Gh} {F H F' H' : Hp} {R B A A' : Fp} {σ : St} {ρ ρ' : Rho} {pos : Pos}
theorem obj_own {K : PySem.W.Frag} {c : Nat} {d : D} {v : V} {A : Fp} (h : isObj' c d = true) (o : Own K cl F H d v A) : ∃ a dx fs, v = .ref a ∧ F a = some (.ins (cl c).at_ dx fs) := by
  cases d with
  | obj c' ds =>
    have ec : c' = c := by simpa [isObj'] using h
    subst ec
    obtain ⟨a, dx, xs, e, q, _⟩ := o
    exact ⟨a, dx, _, e, q⟩
  | _ => cases h
theorem sp_does {K : PySem.W.Frag} {m : List D → RF} {x y d : D} {vx vy : V} {B C S : Fp} {Q : VK} (hm : m [x, y] = .rt d) (px : x.pure = true) (py : y.pure = true) (st : Sta G F H (fun z => B z + (C z + S z))) (ox : Own K cl F H x vx C) (oy : Own K cl F H y vy B)
    (k : ∀ v F' H' B', Le F F' → (∀ a, 0 < S a → H' a = H a) → Sta G F' H' (fun z => B' z + S z) → Own K cl F' H' d v B' → Q v H') : spF K cl 2 m [vx, vy] H Q E0 := by
  refine ⟨rfl, F, [x, y], st.sub, ⟨vx, _, zf, zf, rfl, ox.of_pure px, ⟨vy, _, zf, zf, rfl, oy.of_pure py, rfl, fun _ => Nat.le_refl _⟩, fun _ => Nat.le_refl _⟩, ?_⟩
  rw [hm]
  intro v F' H' B' le lh st' o
  have st1 : Sta G F H (fun z => zf z + S z) := st.less fun z => by show zf z + S z ≤ B z + (C z + S z); unfold zf; omega
  have e1 : Ev K cl G F H S F H [] [] zf zf := Ev.self st1 rfl
  have e2 := e1.call le lh st'
  exact k v F' H' B' le e2.ag (e2.st.less fun z => by show B' z + S z ≤ zf z + (B' z + S z); unfold zf; omega) o
theorem d_ownS {c : Nat} {m : List D → RF} : Does2 X cl (opOS c m) (rOwnS X.K cl c m) := fun x y d hd G F H S B C vx vy Q st ox oy k => by
  unfold opOS at hd
  split at hd
  · rename_i h
    rw [Bool.and_eq_true, Bool.and_eq_true, Bool.and_eq_true] at h
    obtain ⟨⟨⟨h1, h2⟩, h3⟩, h4⟩ := h
    cases hm : m [x, y] with
    | rt r =>
      rw [hm] at hd
      cases hd
      obtain ⟨a, dx, fs, rfl, ha⟩ := obj_own h1 ox
      obtain ⟨b, dy, gs, rfl, hb⟩ := obj_own h3 oy
      exact ⟨a, b, dx, dy, fs, gs, rfl, rfl, st.sub _ _ ha, st.sub _ _ hb, sp_does hm h2 h4 st ox oy k⟩
    | _ => rw [hm] at hd; cases hd
  · cases hd
theorem d_ownI {c : Nat} {m : List D → RF} : Does2 X cl (opOI c m) (rOwnI X.K cl c m) := fun x y d hd G F H S B C vx vy Q st ox oy k => by
  unfold opOI at hd
  split at hd
  · rename_i h
    rw [Bool.and_eq_true, Bool.and_eq_true] at h
    obtain ⟨⟨h1, h2⟩, h3⟩ := h
    cases hm : m [x, y] with
    | rt r =>
      rw [hm] at hd
      cases hd
      obtain ⟨a, dx, fs, rfl, ha⟩ := obj_own h1 ox
      cases y with
      | int i =>
        have e : vy = .int i := oy
        subst e
        exact ⟨a, i, dx, fs, rfl, rfl, st.sub _ _ ha, sp_does hm h2 rfl st ox oy k⟩
      | _ => cases h3
    | _ => rw [hm] at hd; cases hd
  · cases hd
end
section
variable {X : Cx} {cl : Tb}
open PySem.Spec PyProof.Rows
theorem own_call {n k : Nat} {m : List D → RF} {pins : List (Addr × Obj)} {σ : L2.St} {H : Hp} {s : Shared} {us : List Value} {vs : List V} {Q : VK} {A : Around} {f : Addr} {fd : FuncData} {ps : List Str} (F : FnOk X.prog X.w X.K X.mg X.base (L2N.CX X.prog X.w) k f fd ps (spF X.K cl n m))
    (hb : Binds X.K fd ps []) (hr : Room k A) (e0 : Env0 X.prog X.w X.K X.mg X.base A X.stack s H) (I : L2.Inv X pins σ H s) (r : Vals vs us) (h : spF X.K cl n m vs H Q E0) : wpAny (model X.prog X.w) A (call (.ref f) us) (EP X pins σ Q) X.xe s := by
  have hl := F.len _ _ _ _ h
  refine wpAny_call (codeAny_mono (F.run A X.stack s H ⟨us, []⟩ us vs _ E0 hr e0 (by
    have := hb s us I.kIn (by rw [List.append_nil, ← r.length]; exact hl)
    simpa using this) r h) fun r s' hq => ?_)
  cases r with
  | error e => exact (passLN (X := X)) pins σ H s e s' I hq
  | ok fl =>
    cases fl with
    | ret w => exact I.after hq
    | next => exact False.elim hq
    | brk => exact False.elim hq
    | cont => exact False.elim hq
/-- a + b, a - b of one own class -/
theorem op_ownS {c k : Nat} {m : List D → RF} {op : Operator} {nm : Str} (O : OpC X.prog X.w X.K X.mg X.base cl c nm 2 k m) (hn : PySem.dunder op.info.2 = nm) (hc : PySem.W.selfFirst X.K (cl c).at_ = true) (hr : Room k X.A) : OpR X (binaryOp op) (rOwnS X.K cl c m) := by
  obtain ⟨f, fd, ps, F, hs, hf, hb⟩ := O.ex
  intro pins s σ H x y v u Q I rx ry h
  obtain ⟨a, b, dx, dy, fs, gs, rfl, rfl, ha, hb', hsp⟩ := h
  cases rx
  cases ry
  obtain ⟨mA, J, _⟩ := ins_get I.hok ha
  obtain ⟨mB, J', _⟩ := ins_get I.hok hb'
  obtain ⟨od, J, _⟩ := J.look
  obtain ⟨od', J', _⟩ := J'.look
  obtain ⟨m', hF⟩ := I.fr
  refine PySem.W.binop_K hF I.ok.mod.kin J J'.type hc (by rw [hn]; exact hs) hf ?_
  have r2 : Vals [V.ref a, V.ref b] [Value.ref a, Value.ref b] := .cons rfl (.cons rfl .nil)
  refine wpAny_mono (own_call F hb hr I.env0 I r2 hsp) (fun v s' q => ?_) fun _ _ e => e
  obtain ⟨z, H', I', rz, q⟩ := q
  have : PySem.W.CmpBack (EP X pins σ Q) v s' := by
    have g : EP X pins σ Q v s' := ⟨z, H', I', rz, q⟩
    cases v <;> first | exact g | (cases z <;> first | (cases rz; done) | (obtain ⟨t, e⟩ := rz; cases e))
  exact this
theorem op_ownEq {c k : Nat} {m : List D → RF} (O : OpC X.prog X.w X.K X.mg X.base cl c "__eq__" 2 k m) (hr : Room k X.A) : OpR X (compareOp .Eq) (rOwnS X.K cl c m) := by
  obtain ⟨f, fd, ps, F, hs, hf, hb⟩ := O.ex
  intro pins s σ H x y v u Q I rx ry h
  obtain ⟨a, b, dx, dy, fs, gs, rfl, rfl, ha, hb', hsp⟩ := h
  cases rx
  cases ry
  obtain ⟨mA, J, _⟩ := ins_get I.hok ha
  obtain ⟨mB, J', _⟩ := ins_get I.hok hb'
  obtain ⟨od, J, _⟩ := J.look
  obtain ⟨od', J', _⟩ := J'.look
  obtain ⟨m', hF⟩ := I.fr
  refine PySem.W.cmp_K (op := .Eq) (tb := .ref (cl c).at_) hr.units0 hF I.ok.mod.kin J J'.type (by simp [PySem.W.notFirst]) hs hf ?_
  have r2 : Vals [V.ref a, V.ref b] [Value.ref a, Value.ref b] := .cons rfl (.cons rfl .nil)
  refine wpAny_mono (own_call F hb hr I.env0 I r2 hsp) (fun v s' q => ?_) fun _ _ e => e
  obtain ⟨z, H', I', rz, q⟩ := q
  have g : EP X pins σ Q v s' := ⟨z, H', I', rz, q⟩
  have : PySem.W.CmpBack (EP X pins σ Q) v s' := by
    cases v <;> first | exact g | (cases z <;> first | (cases rz; done) | (obtain ⟨t, e⟩ := rz; cases e))
  exact this
/-- a * n -/
theorem op_ownI {c k : Nat} {m : List D → RF} {op : Operator} {nm : Str} {fo ro rc : Option Value} (O : OpC X.prog X.w X.K X.mg X.base cl c nm 2 k m) (hn : PySem.dunder op.info.2 = nm) (hc : PySem.W.selfFirst X.K (cl c).at_ = true)
    (hR : PySem.W.findIn X.K (.ref (cl c).at_) (dunderR op.info.2) = some rc) (hp : rc = none ∨ ∃ g : Addr, rc = some (.ref g)) (h1 : PySem.W.findIn X.K (.type "int") (PySem.dunder op.info.2) = some fo) (h2 : PySem.W.findIn X.K (.type "int") (dunderR op.info.2) = some ro) (hsub : PySem.W.subIn X.K (.type "int") (.ref (cl c).at_) = some false)
    (hr : Room k X.A) : OpR X (binaryOp op) (rOwnI X.K cl c m) := by
  obtain ⟨f, fd, ps, F, hs, hf, hb⟩ := O.ex
  intro pins s σ H x y v u Q I rx ry h
  obtain ⟨a, i, dx, fs, rfl, rfl, ha, hsp⟩ := h
  cases rx
  obtain ⟨t, rfl⟩ := ry
  obtain ⟨mA, J, _⟩ := ins_get I.hok ha
  obtain ⟨od, J, _⟩ := J.look
  obtain ⟨m', hF⟩ := I.fr
  refine PySem.W.ksp_binT (T := "int") hF I.ok.mod.kin J rfl hc (by rw [hn]; exact hs) hf hR hp h1 h2 hsub ?_
  have r2 : Vals [V.ref a, V.int i] [Value.ref a, Value.int i t] := .cons rfl (.cons ⟨t, rfl⟩ .nil)
  refine wpAny_mono (own_call F hb hr I.env0 I r2 hsp) (fun v s' q => ?_) fun _ _ e => e
  obtain ⟨z, H', I', rz, q⟩ := q
  have g : EP X pins σ Q v s' := ⟨z, H', I', rz, q⟩
  have : PySem.W.CmpBack (EP X pins σ Q) v s' := by
    cases v <;> first | exact g | (cases z <;> first | (cases rz; done) | (obtain ⟨t, e⟩ := rz; cases e))
  exact this
/-- len(a) -/
def rLenO (K : PySem.W.Frag) (cl : Tb) (c : Nat) (m : List D → RF) : List V → Hp → VK → Prop := fun vs H Q => ∃ a dx fs, vs = [V.ref a] ∧ H a = some (.ins (cl c).at_ dx fs) ∧ spF K cl 1 m [V.ref a] H (fun v H' => ∃ n : Int, v = .int n ∧ 0 ≤ n ∧ n < 2 ^ 63 ∧ Q v H') E0
theorem cr_lenO {c k : Nat} {m : List D → RF} (O : OpC X.prog X.w X.K X.mg X.base cl c "__len__" 1 k m) (hr : Room (k + 1) X.A) : CallR X (.builtin "len") (rLenO X.K cl c m) := by
  obtain ⟨f, fd, ps, F, hs, hf, hb⟩ := O.ex
  intro pins s σ H vs us Q I r h
  obtain ⟨a, dx, fs, rfl, ha, hsp⟩ := h
  obtain ⟨u, rfl, ru⟩ := r.one
  obtain rfl : u = Value.ref a := ru
  obtain ⟨mA, J, _⟩ := ins_get I.hok ha
  obtain ⟨od, J, _⟩ := J.look
  obtain ⟨m', hF⟩ := I.fr
  refine PySem.W.len_K hF I.ok.mod.kin J hs hf ?_
  have e0 : Env0 X.prog X.w X.K X.mg X.base X.A.in1 X.stack s H := by
    have e := I.env0
    exact ⟨e.frames, e.mod, e.bs, e.bsz, e.funs, e.frf, e.hok, e.bare⟩
  have r2 : Vals [V.ref a] [Value.ref a] := .cons rfl .nil
  refine wpAny_mono (own_call F hb hr.in1 e0 I r2 hsp) (fun v s' q => ?_) fun _ _ e => e
  obtain ⟨z, H', I', rz, n, rfl, h0, h1, q⟩ := q
  obtain ⟨t, rfl⟩ := rz
  exact ⟨⟨h0, h1⟩, .int n, H', I'.tok _, ⟨_, rfl⟩, q⟩
end
section
variable {X : Cx} {cl : Tb} {W : WX'}
def lenO (c : Nat) (m : List D → RF) (xs : List D) : Option D := match xs with
  | [x] => if isObj' c x && x.pure then (match m [x] with | .rt (.int n) => if yes (0 ≤ n ∧ n < 2 ^ 63) then some (.int n) else none | _ => none) else none
  | _ => none
theorem d_lenO {c : Nat} {m : List D → RF} : DoesL X cl (lenO c m) (rLenO X.K cl c m) := fun x d hd G F H S C vx Q st ox k => by
  unfold lenO at hd
  split at hd
  · rename_i x
    split at hd
    · rename_i h
      rw [Bool.and_eq_true] at h
      obtain ⟨h1, h2⟩ := h
      split at hd
      · rename_i n hm
        split at hd
        · rename_i hn
          cases hd
          obtain ⟨v, rfl, o⟩ := owns1 ox
          obtain ⟨a, dx, fs, rfl, ha⟩ := obj_own h1 o
          obtain ⟨hn0, hn1⟩ := of_yes hn
          refine ⟨a, dx, fs, rfl, st.sub _ _ ha, rfl, F, [x], st.sub, ⟨.ref a, _, zf, zf, rfl, o.of_pure h2, rfl, fun _ => Nat.le_refl _⟩, ?_⟩
          rw [hm]
          intro v F' H' B' le lh st' ov
          have ev : v = .int n := ov
          subst ev
          have st1 : Sta G F H (fun z => zf z + S z) := st.less fun z => by show zf z + S z ≤ C z + S z; unfold zf; omega
          have e1 : Ev X.K cl G F H S F H [] [] zf zf := Ev.self st1 rfl
          have e2 := e1.call le lh st'
          exact ⟨n, rfl, hn0, hn1, k _ F' H' zf le e2.ag (e2.st.less fun z => by show zf z + S z ≤ zf z + (B' z + S z); unfold zf; omega) rfl⟩
        · cases hd
      · cases hd
    · cases hd
  · cases hd
end
end
end FL

set_option Elab.async false
set_option linter.all false
set_option maxRecDepth 100000
namespace FL
open PySem L2
open PyProof.Rows (envOfC)
noncomputable section
/-! ### o.m(), o an expression -/
def eMth0 (c : Nat) (m : List D → RF) (dd : List D) (o : Rho → RX D) : Rho → RX D := fun ρ => (o ρ).bind fun d ρ1 => if isObj' c d && d.pure then (match m (d :: dd) with
  | .rt r => .ok r ρ1
  | .ex c' xs => .ex c' xs ρ1
  | .bad => .bad) else .bad
section
variable {X : Cx} {cl : Tb} {W : WX'}
variable {G : Gh} {F H F' H' : Hp} {R B A A' : Fp} {σ : St} {ρ ρ' : Rho} {pos : Pos}
theorem fe_methE0 {pl : Sem Bool} {c : Nat} {x : Str} {k n : Nat} {m : List D → RF} {dd : List D} {apos : Pos} {oe : Expr} {o : Rho → RX D} (Mc : MthC X.prog X.w X.K X.mg X.base cl c x k n m dd) (hr : Room k X.A) (tk : L2N.Takes X W) (ho : FE X cl W oe o)
    (ht : eval (.Call (.Attribute oe x apos) [] [] pos) X.env = (do
      let ov ← eval oe X.env
      standAt apos.atName
      let (f, first) ← holding [ov] (getMethod ov x pl)
      callWith pos f first (backTo pos (starEach [] X.env)) (backToKw pos (keywordEach [] X.env))) := by rfl) : FE X cl W (.Call (.Attribute oe x apos) [] [] pos) (eMth0 c m dd o) := by
  obtain ⟨⟨f, fd, ps, ds, dv, h1, h2, h3, hx, h4, h5, h6⟩, hl⟩ := Mc
  refine PE_imp (t := fun σ H Q => tX X.K cl W (rD X.K cl) o σ H fun v H1 => ∃ a dx fs, v = .ref a ∧ H1 a = some (.ins (cl c).at_ dx fs) ∧ fs.lookup x = none ∧ spF X.K cl n m (v :: dv) H1 Q (WE W σ)) ⟨fun pins s σ H Q I h => ?_⟩ fun σ H Q q => ?_
  · refine PySem.W.methodCall_KW (pl := pl) (thn (ho.run pins s σ H _ I h) fun u s1 ⟨v, H1, I1, rx, b, dx, fs, ex, eb, l, q⟩ => ?_) ht
    subst ex
    obtain rfl : u = Value.ref b := rx
    refine getmeth_ok I1 eb h2 h3 l ?_
    exact PySem.W.callWith_K0 (first := [.ref b]) I1.kIn h3.kp (run_fnSD (us := [.ref b]) (vs := [.ref b]) (E := WE W) h1 hr h4 h5 (L2N.passAt tk σ) I1 (.cons rfl .nil) q)
  · obtain ⟨G, F, ρ, A, R, st, en, p⟩ := q
    refine ⟨G, F, ρ, A, R, st, en, Pst.bind p fun d ρ1 v1 F1 H1 A1 B1 e1 o1 p1 => ?_⟩
    by_cases hc : (isObj' c d && d.pure) = true
    · simp only [hc, if_true] at p1
      rw [Bool.and_eq_true] at hc
      obtain ⟨hc1, hp⟩ := hc
      cases d with
      | obj c' ds =>
        have ec : c' = c := by simpa [isObj'] using hc1
        subst ec
        have oz := o1.of_pure (H' := H1) hp
        obtain ⟨b, dx, xs, rfl, hb, hz, os⟩ := oz
        have e3 : Ev X.K cl G F1 H1 R F1 H1 σ ρ1 A1 zf := Ev.self (e1.st.less fun x => by show A1 x + R x ≤ A1 x + (B1 x + R x); omega) e1.en
        have oself : Own X.K cl F1 H1 (.obj c' ds) (.ref b) zf := ⟨b, dx, xs, rfl, hb, hz, os⟩
        have o4 : Owns X.K cl F1 H1 (.obj c' ds :: dd) (.ref b :: dv) zf := ⟨.ref b, _, zf, zf, rfl, oself, h6 _ _, fun _ => Nat.le_refl _⟩
        refine ⟨b, dx, _, rfl, e1.st.sub _ _ hb, zip_none xs hx, ?_, F1, _, e1.st.sub, o4, ?_⟩
        · rw [← Owns.length o4]
          refine hl _ fun z => ?_
          simp only [z] at p1
          exact p1
        · cases hm : m (.obj c' ds :: dd) with
          | rt d =>
            simp only [hm] at p1
            exact fun v F' H' B le lh st' o => p1 v F' H' A1 B (e3.call le lh st') o
          | ex c xs =>
            simp only [hm] at p1
            exact fun u d F' H' le lh st' o => p1 u d F' H' A1 (e3.call le lh st') o
          | bad => simp only [hm] at p1; exact p1.elim
      | _ => cases hc1
    · simp only [hc] at p1; exact p1.elim
end

/-! ### a def that calls itself: by fuel -/
def mBad : List D → RF := fun _ => .bad
theorem fn_bad {P : Program} {w : World} {K : PySem.W.Frag} {cl : Tb} {mg : Str → Option Value} {base : Heap} {x qual : Str} {st : Stmt} {f : Addr} {fd : FuncData} {N ps : List Str} {k n : Nat}
    (Fn : Fun K x qual st f fd) (S : FnScope N ps (defScope st)) : FnOk P w K mg base (L2N.CX P w) (k + 1) f fd ps (spF K cl n mBad) := by
  refine okN Fn S (fun vs H Q E h => ?_) fun cdv A outer s H vs Q E hr h => ?_
  · obtain ⟨hl, F, ds, le, os, p⟩ := h
    exact p.elim
  · obtain ⟨hl, F, ds, le, os, p⟩ := h
    exact p.elim
/-- the function, by fuel -/
def fuel (g : (List D → RF) → List D → RF) : Nat → List D → RF
  | 0 => mBad
  | n + 1 => g (fuel g n)
theorem fuel_len {g : (List D → RF) → List D → RF} {np : Nat} (h : ∀ f l, g f l ≠ .bad → l.length = np) : ∀ n l, fuel g n l ≠ .bad → l.length = np
  | 0, l, q => absurd rfl q
  | n + 1, l, q => h _ l q
theorem fn_fuel {P : Program} {w : World} {K : PySem.W.Frag} {cl : Tb} {mg : Str → Option Value} {base : Heap} {x qual : Str} {st : Stmt} {f : Addr} {fd : FuncData} {N ps : List Str} {k n : Nat} {g : (List D → RF) → List D → RF}
    (Fn : Fun K x qual st f fd) (S : FnScope N ps (defScope st)) (hg : ∀ j m, (∀ l, m l ≠ .bad → l.length = n) → FnOk P w K mg base (L2N.CX P w) (k + 1 + j) f fd ps (spF K cl n m) → FnOk P w K mg base (L2N.CX P w) (k + 1 + j + 1) f fd ps (spF K cl n (g m)))
    (hl : ∀ f l, g f l ≠ .bad → l.length = n) : ∀ j, FnOk P w K mg base (L2N.CX P w) (k + 1 + j) f fd ps (spF K cl n (fuel g j))
  | 0 => fn_bad Fn S
  | j + 1 => hg j _ (fuel_len hl j) (fn_fuel Fn S hg hl j)

/-! ### own classes: isinstance -/
/-- is it one of the class c? -/
def tabC (c : Nat) : String ⊕ Nat → Option Bool
  | .inr c' => if c' = c then some true else none
  | _ => none
theorem tab_C {K : PySem.W.Frag} {cl : Tb} {c : Nat} (h : InsTy K (cl c).at_) (hk : PySem.W.kitOne K (.ref (cl c).at_) (.ref (cl c).at_) = some true) : Tab K cl (.ref (cl c).at_) (tabC c) := by
  refine ⟨(fun n b e => by cases e), (fun c' b e => ?_)⟩
  · have e' : (if c' = c then some true else none) = some b := e
    by_cases h2 : c' = c
    · subst h2
      rw [if_pos rfl] at e'
      cases e'
      exact ⟨h, hk⟩
    · rw [if_neg h2] at e'; cases e'
/-! ### the classes' facts -/
theorem mthC_mk {P : Program} {w : World} {K : PySem.W.Frag} {mg : Str → Option Value} {base : Heap} {cl : Tb} {c : Nat} {x : Str} {k n : Nat} {m : List D → RF} {f : Addr} {fd : FuncData} {ps : List Str} (F : FnOk P w K mg base (L2N.CX P w) k f fd ps (spF K cl n m)) (hc : Cls K (cl c).at_)
    (ha : PySem.W.findIn K (.ref (cl c).at_) x = some (some (.ref f))) (hi : PySem.W.isFn K (.ref f) = true) (hk : PySem.W.keepIn K (.ref f) = true) (hx : x ∉ (cl c).fs) (hb : Binds K fd ps []) (hl : ∀ l, m l ≠ .bad → l.length = n) : MthC P w K mg base cl c x k n m [] :=
  ⟨⟨f, fd, ps, [], [], F, hc, ⟨ha, hi, hk⟩, hx, hb, .nil, fun _ _ => rfl⟩, hl⟩
theorem makC_mk {P : Program} {w : World} {K : PySem.W.Frag} {mg : Str → Option Value} {base : Heap} {cl : Tb} {c : Nat} {x : Str} {k n : Nat} {m : List D → RF} {f : Addr} {fd : FuncData} {ps : List Str} (F : FnOk P w K mg base (L2N.CX P w) k f fd ps (spI K cl c n m)) (hm : mg x = some (.ref (cl c).at_))
    (mk : PySem.W.makesIn K (cl c).at_ = true) (ha : PySem.W.findIn K (.ref (cl c).at_) "__init__" = some (some (.ref f))) (hi : PySem.W.isFn K (.ref f) = true) (hk : PySem.W.keepIn K (.ref (cl c).at_) = true) (hb : Binds K fd ps []) (hl : ∀ l, m l ≠ .bad → l.length = n) : MakC P w K mg base cl c x k n m [] :=
  ⟨⟨f, fd, ps, [], [], F, hm, ⟨mk, ha, hi, hk⟩, hb, .nil, fun _ _ => rfl⟩, hl⟩
theorem prpC_mk {P : Program} {w : World} {K : PySem.W.Frag} {mg : Str → Option Value} {base : Heap} {cl : Tb} {c : Nat} {x : Str} {k : Nat} {m : List D → RF} {f p : Addr} {fd : FuncData} {ps : List Str} {rest : List Value} (F : FnOk P w K mg base (L2N.CX P w) k f fd ps (spF K cl 1 m)) (hc : Cls K (cl c).at_)
    (ha : PySem.W.findIn K (.ref (cl c).at_) x = some (some (.ref p))) (hg : PySem.W.specialIn K (.ref p) "__get__" = some (some (.builtin "property.__get__"))) (ht : PySem.W.takesIn K (.ref p) = some true) (hr : PySem.W.recIn K p "property" = some (.ref f :: rest)) (hb : Binds K fd ps []) : PrpC P w K mg base cl c x k m :=
  ⟨f, p, fd, ps, F, hc, ⟨ha, hg, ht, rest, hr⟩, hb⟩
theorem opC_mk {P : Program} {w : World} {K : PySem.W.Frag} {mg : Str → Option Value} {base : Heap} {cl : Tb} {c : Nat} {x : Str} {k n : Nat} {m : List D → RF} {f : Addr} {fd : FuncData} {ps : List Str} (F : FnOk P w K mg base (L2N.CX P w) k f fd ps (spF K cl n m))
    (ha : PySem.W.findIn K (.ref (cl c).at_) x = some (some (.ref f))) (hi : PySem.W.isFn K (.ref f) = true) (hb : Binds K fd ps []) : OpC P w K mg base cl c x n k m := ⟨f, fd, ps, F, ha, hi, hb⟩
/-! ### the law's end, whatever the classes are -/
def spTop (K : PySem.W.Frag) (m : List D → RF) : Sp := fun vs H Q _ => ∃ (a : Addr) (ns : List Int), vs = [V.ref a] ∧ SqL K H a (ns.map V.int) ∧ m [.lst (ns.map D.int)] = .rt (.bl true) ∧ ∀ H', Q (.bl true) H'
theorem fn_top {P : Program} {w : World} {K : PySem.W.Frag} {mg : Str → Option Value} {base : Heap} {cl : Tb} {k : Nat} {m : List D → RF} {f : Addr} {fd : FuncData} {ps : List Str} (F : FnOk P w K mg base (L2N.CX P w) k f fd ps (spF K cl 1 m)) : FnOk P w K mg base (L2N.CX P w) k f fd ps (spTop K m) :=
  F.imp fun vs H Q E ⟨a, ns, e, hS, hm, q⟩ => by
    subst e
    refine ⟨rfl, H, [.lst (ns.map D.int)], Le.refl, ⟨.ref a, [], zf, zf, rfl, ⟨a, _, rfl, hS, owns_ints' ns⟩, rfl, fun _ => Nat.le_refl _⟩, ?_⟩
    rw [hm]
    exact fun v F' H' B _ _ _ o => by
      have e : v = .bl true := o
      subst e
      exact q H'
theorem walk_top {l : PySem.W.OpenLaw} {k : Nat} {q : Program} {loose : List Str} {XP : (Str → Option Value) → Heap → Prop} {YP : World → Heap → Prop} {d : DefRec} {K : Params → PySem.W.Frag} {x : Str} {m : World → List D → RF}
    (hn : l.most = some 63) (hdf : d.params.defaults = []) (hr : Room k callerA) (hY : ∀ (w : World) (h : Heap), YP w h → (K w.params).In h)
    (F : ∀ (w : World) (mg : Str → Option Value) (fa : Addr) (h : Heap), (K w.params).In h → h.Ns mainGlobals mg → mg d.name = some (.ref fa) →
      ∃ fd : FuncData, (∀ (s : Shared) (u : Value), BindsTo s fd ⟨[u], []⟩ [(x, u)]) ∧
        ∀ base : Heap, (K w.params).In base → base.Ns mainGlobals mg → FnOk l.prog w (K w.params) mg base (L2N.CX l.prog w) k fa fd [x] (spTop (K w.params) (m w)))
    (hm : ∀ (w : World) (ns : List Int), ns.length ≤ 63 → m w [.lst (ns.map D.int)] = .rt (.bl true)) :
    PySem.W.WalkO q loose XP YP l.row.toRowW d [] (fun f vs => PySem.call f vs) :=
  L2.walk_of (n := 63) (k := k) (x := x) (CX := fun w => L2N.CX l.prog w) (sp := fun w => spTop (K w.params) (m w)) hn (by decide) hdf hr hY F (fun w H a ns hl _ hS => ⟨a, ns, rfl, hS, hm w ns hl, fun _ => rfl⟩) fun w H s e s' z => by
      obtain ⟨_, _, _, _, _, _, _, _, _, _, _, _, z⟩ := z
      exact z
/-- a def within a class -/
def inCls (s : Stmt) (i : Nat) : Stmt := match s with
  | .ClassDef _ _ _ b _ _ _ _ _ _ _ => b.getD i (.Pass ⟨0, 0, 0, 0⟩)
  | _ => .Pass ⟨0, 0, 0, 0⟩
end
end FL

set_option Elab.async false
set_option linter.all false
set_option maxRecDepth 100000
namespace FL
open PySem L2
noncomputable section
theorem ClsT.at' {K : PySem.W.Frag} {mg : Str → Option Value} {cl : Tb} {c : Nat} {nm : Str} {fl : List Str} (T : ClsT K mg cl c nm fl) (sf : Option Addr) : ClsT K mg (cl.at' sf) c nm fl := ⟨T.mgC, T.fse, T.cls, T.no, T.ins, T.fst, T.kit⟩
section
variable {X : Cx} {cl : Tb} {W : WX'} {pos : Pos}
/-- a power of two constants -/
theorem fq_pow {a b c : Int} {j1 j2 p1 p2} (hc : CPow a b) (e : a ^ b.toNat = c) : FQ X cl (.BinOp (.Constant (.int a) j1 p1) .Pow (.Constant (.int b) j2 p2) pos) (qC (.int c)) :=
  PE_imp (pe_op op_pow pe_int pe_int) fun σ H Q q => by
  obtain ⟨G, F, ρ, A, R, st, en, p⟩ := q
  have p' : Q (.int c) H := p (.int c) rfl
  exact ⟨a, b, rfl, rfl, hc, by show Q (.int (a ^ b.toNat)) H; rw [e]; exact p'⟩
theorem fg_sub {tg : Expr} {vs vs' : List Nat} {m : D → Rho → Option Rho} (h : FG X cl tg vs m) (hs : ∀ i ∈ vs, i ∈ vs') : FG X cl tg vs' m := PG_imp h fun v σ H Q q => by
  obtain ⟨G, F, ρ, A, B, R, d, st, en, o, q⟩ := q
  refine ⟨G, F, ρ, A, B, R, d, st, en, o, ?_⟩
  cases hm : m d ρ with
  | none => rw [hm] at q; exact q.elim
  | some ρ1 =>
    rw [hm] at q
    exact fun σ' F' H' A' hw e => q σ' F' H' A' (wipe_ext (wipe_len hw) fun i hi => wipe_at hw fun z => hi (hs i z)) e
/-- isinstance(x, C) of an own class -/
theorem fq_isC {e : Expr} {m : Rho → Option D} {c : Nat} {nm : Str} {fl : List Str} {p p2 : Pos} (T : ClsT X.K X.mg cl c nm fl) (hg : Gl X "isinstance") (hm : X.mg "isinstance" = none) (hn : Gl X nm) (ha : FQ X cl e m)
    (hd : (nm == ("__debug__" : Str)) = false := by decide)
    (he : starEach [e, .Name nm p2] X.env = (false, eval e X.env) :: starEach [.Name nm p2] X.env := by rfl) (he' : starEach [.Name nm p2] X.env = [(false, eval (.Name nm p2) X.env)] := by rfl) (hpl : (backTo pos (starEach [.Name nm p2] X.env)).any (·.1) = false := by rfl) :
    FQ X cl (.Call (.Name "isinstance" p) [e, .Name nm p2] [] pos) (qUn (isiD (tabC c)) m) :=
  fq_isi (tab_C T.ins T.kit) (.own _) hg hm ha (pe_glob hn T.mgC rfl hd) he he' hpl
end
section
open PyProof.Rows (envOfC)
variable {cl : Tb} {F H F' H' : Hp}
theorem fn_ID {P : Program} {w : World} {K : PySem.W.Frag} {mg : Str → Option Value} {base : Heap} {x qual : Str} {st : Stmt} {f : Addr} {fd : FuncData} {N ps : List Str} {k n nN c : Nat} {b : Rho → RS}
    {dvs : List V} {kws : List (Str × V)} (Fn : FunD K x qual (defArgs st) (defBody st) (defScope st) dvs kws f fd) (S : FnScope N ps (defScope st)) (hn : n + 1 = ps.length) (hN : nN = N.length)
    (hb : ∀ (sf : Addr) (cdv : Value) (A : Around) (outer : List Env) (s : Shared) (H : Hp) (E : XK), Room k (A.deeper (envOfC qual (defScope st) s.heap.objs.size f cdv)) →
      FSs (cxOf (L2N.CX P w) P w K mg base N qual (defScope st) f cdv A outer s H E) (cl.at' (some sf)) (fun c d _ H => E c d H) (defBody st) b) :
    FnOk P w K mg base (L2N.CX P w) (k + 1) f fd ps (spI K cl c n (runI c n nN b)) := by
  refine Fn.ok S (fun vs H Q E h => h.1.trans hn) fun cdv A outer s H vs Q E hr h => ?_
  obtain ⟨hl, x, dx, vs', F, ds, rfl, hx, fx, le, os, p⟩ := h
  refine ⟨_, hb x cdv A outer s H E hr, ?_⟩
  have hds : ds.length = vs'.length := Owns.length os
  have hl' : vs'.length = n := by simpa using hl
  have st0 : Sta ⟨del' H x, F⟩ F H (one x) := by
    refine ⟨le, fun a o e => ?_, Le.refl, fun a o e => .inl e, fun a ha => ?_, fun a => ?_, fun a xs ha => ?_⟩
    · have e' : (if a = x then none else H a) = some o := e
      split at e'
      · cases e'
      · exact e'
    · unfold one at ha
      by_cases h : a = x
      · subst h; exact ⟨fx, by show (if a = a then none else H a) = none; simp, _, hx⟩
      · rw [if_neg h] at ha; omega
    · unfold one; split <;> omega
    · unfold one at ha
      by_cases h : a = x
      · subst h; rw [hx]; intro e; cases e
      · rw [if_neg h] at ha; omega
  have slots : EnvR K (cl.at' (some x)) F H (some (.mobj c []) :: (ds.map some ++ List.replicate (nN - 1 - n) none)) (L2.start N (.ref x :: vs')) (one x) := by
    have e1 : L2.start N (V.ref x :: vs') = some (.ref x) :: (vs'.map some ++ List.replicate (nN - 1 - n) none) := by
      unfold L2.start
      rw [List.map_cons, List.cons_append, List.length_cons, hl', hN]
      congr 3
      omega
    rw [e1]
    refine ⟨.ref x, _, one x, zf, rfl, ⟨x, dx, [], zf, ⟨rfl, rfl⟩, fx, by simpa [Tb.at'] using hx, by simp, rfl, fun z => by show one x z + zf z ≤ one x z; unfold zf; omega⟩, EnvR.args os.tb (EnvR.none_all _), fun z => by show one x z + zf z ≤ one x z; unfold zf; omega⟩
  refine ⟨⟨del' H x, F⟩, F, _, one x, zf, st0.less fun z => by show one x z + zf z ≤ one x z; unfold zf; omega, slots, ?_⟩
  have keepH : ∀ {F' H' : Hp} {S : Fp}, Sta ⟨del' H x, F⟩ F' H' S → ∀ a o, a ≠ x → H a = some o → H' a = some o := fun {F' H' S} s a o ne e => s.ent a o (by show (if a = x then none else H a) = some o; rw [if_neg ne]; exact e)
  unfold runI at p
  rw [if_pos (hds.trans hl')] at p
  split at p
  · rename_i d heq
    split at heq
    · rename_i ρ hb2
      rw [hb2]
      split at heq
      · rename_i c' es hρ
        by_cases hc : c' = c
        · rw [if_pos hc] at heq
          cases heq
          subst hc
          intro σ F' H' A' e
          obtain ⟨v, B, C, hv, o, _, hs⟩ := e.en.get hρ
          obtain ⟨a, dx', xs, B', ⟨rfl, ea⟩, fa, hH, hz, oo, hs'⟩ := o
          have ea' : a = x := by injection ea
          subst ea'
          -- self is frozen
          have st1 : Sta ⟨del' H a, F⟩ F' H' (fun z => zf z + (B z + zf z)) := e.st.less fun z => by have := hs z; show zf z + (B z + zf z) ≤ A' z + (zf z + zf z); unfold zf; omega
          obtain ⟨le2, st2⟩ := fz_st (B := B) st1
          have ov : Own K (cl.at' (some a)) (fz F' H' B) H' (.obj c' (D.frzs es)) (.ref a) zf := by
            have o1 : Own K (cl.at' (some a)) F' H' (.mobj c' es) (.ref a) B := ⟨a, dx', xs, B', ⟨rfl, rfl⟩, fa, hH, hz, oo, hs'⟩
            exact o1.freeze le2 fun b hb => fz_at hb
          exact p _ H' (e.le.trans le2) (keepH e.st) (st2.less fun z => by show zf z ≤ _; exact Nat.zero_le _) ov.untb
        · rw [if_neg hc] at heq; cases heq
      · cases heq
    · cases heq
    · cases heq
  · rename_i c' es heq
    split at heq
    · split at heq
      · split at heq <;> cases heq
      · cases heq
    · rename_i hb2
      rw [hb2]
      cases heq
      exact fun u d σ F' H' A' e o => p u d F' H' e.le (keepH e.st) (e.st.less fun z => by show zf z ≤ _; exact Nat.zero_le _) o.untb
    · cases heq
  · exact p.elim

theorem runI_len {c np n : Nat} {b : Rho → RS} : ∀ l, runI c np n b l ≠ .bad → l.length = np := fun l h => by
  unfold runI at h
  split at h
  · assumption
  · exact absurd rfl h
end
/-! ### o.m(k=e) -/
structure MthK (P : Program) (w : World) (K : PySem.W.Frag) (mg : Str → Option Value) (base : Heap) (cl : Tb) (c : Nat) (x : Str) (k n : Nat) (m : List D → RF) (ks : List Str) : Prop where
  ex : ∃ (f : Addr) (fd : FuncData) (ps : List Str), FnOk P w K mg base (L2N.CX P w) k f fd ps (spF K cl n m) ∧ Cls K (cl c).at_ ∧ Meth K (cl c).at_ x f ∧ x ∉ (cl c).fs ∧ n = 1 + ks.length ∧
    ∀ (us ws : List Value), us.length = 1 → ws.length = ks.length → bindArgs fd ⟨us, ks.zip ws⟩ = pure (ps.zip (us ++ ws))
  len : ∀ l, m l ≠ .bad → l.length = n
theorem mthK_mk {P : Program} {w : World} {K : PySem.W.Frag} {mg : Str → Option Value} {base : Heap} {cl : Tb} {c : Nat} {x : Str} {k n : Nat} {m : List D → RF} {f : Addr} {fd : FuncData} {ps ks : List Str} (F : FnOk P w K mg base (L2N.CX P w) k f fd ps (spF K cl n m)) (hc : Cls K (cl c).at_)
    (ha : PySem.W.findIn K (.ref (cl c).at_) x = some (some (.ref f))) (hi : PySem.W.isFn K (.ref f) = true) (hk : PySem.W.keepIn K (.ref f) = true) (hx : x ∉ (cl c).fs) (hn : n = 1 + ks.length)
    (hb : ∀ (us ws : List Value), us.length = 1 → ws.length = ks.length → bindArgs fd ⟨us, ks.zip ws⟩ = pure (ps.zip (us ++ ws))) (hl : ∀ l, m l ≠ .bad → l.length = n) : MthK P w K mg base cl c x k n m ks := ⟨⟨f, fd, ps, F, hc, ⟨ha, hi, hk⟩, hx, hn, hb⟩, hl⟩
section
variable {X : Cx} {cl : Tb} {W : WX'} {pos : Pos}
theorem fe_methK0 {pl : Sem Bool} {c : Nat} {x : Str} {k n : Nat} {m : List D → RF} {ks : List Str} {apos : Pos} {oe : Expr} {kws : List Keyword} {o : Rho → Option D} {b : Rho → RX (List D)} (Mc : MthK X.prog X.w X.K X.mg X.base cl c x k n m ks) (hr : Room k X.A) (tk : L2N.Takes X W) (ho : FQ X cl oe o) (hkw : FK X cl W kws b)
    (hall : (backToKw pos (keywordEach kws X.env)).all (·.1.isSome) = true := by rfl) (hks : (backToKw pos (keywordEach kws X.env)).filterMap (·.1) = ks := by rfl)
    (hpl : ((backTo pos (starEach [] X.env)).any (·.1) || (backToKw pos (keywordEach kws X.env)).any (·.1.isNone)) = false := by rfl)
    (ht : eval (.Call (.Attribute oe x apos) [] kws pos) X.env = (do
      let ov ← eval oe X.env
      standAt apos.atName
      let (f, first) ← holding [ov] (getMethod ov x pl)
      callWith pos f first (backTo pos (starEach [] X.env)) (backToKw pos (keywordEach kws X.env))) := by rfl) : FE X cl W (.Call (.Attribute oe x apos) [] kws pos) (eMth c m [] o b) := by
  obtain ⟨⟨f, fd, ps, h1, h2, h3, hx, hn, hb⟩, hl⟩ := Mc
  have kb : KBn X.K fd ps 1 ks (fun us ws => us ++ ws) (fun vs zs => vs ++ zs) := ⟨fun s us ws _ l1 l2 => .of_eq (hb us ws l1 l2), fun r1 r2 => r1.append r2⟩
  refine PE_imp (t := tMethS (cl c).at_ x (spF X.K cl n m) [] (WE W) (tQ X.K cl o) (tX X.K cl W (rL X.K cl) b)) ⟨fun pins s σ H Q I h => ?_⟩ fun σ H Q q => meth_imp (dd := []) (dv := []) (fun _ _ => rfl) hl hx σ H Q q
  refine PySem.W.methodCall_KW (pl := pl) (thn (ho.run pins s σ H _ I h) fun u s1 ⟨v, H1, I1, rx, b', dx, fs, ex, eb, l, q⟩ => ?_) ht
  subst ex
  obtain rfl : u = Value.ref b' := rx
  refine getmeth_ok I1 eb h2 h3 l ?_
  refine PySem.W.callWith_KW0 (first := [.ref b']) (h₀ := X.base) I.ok.mod.kin h3.kp hall ?_ hpl
  refine thn (hkw.run pos pins s1 σ H1 _ I1 q) fun ws s2 ⟨zs, H2, I2, rz, q2⟩ => ⟨I2.kIn, ?_⟩
  rw [hks]
  have q3 : spF X.K cl n m ([V.ref b'] ++ zs) H2 Q (WE W σ) := by
    have : (V.ref b' :: (zs ++ [])) = [V.ref b'] ++ zs := by rw [List.append_nil]; rfl
    rw [← this]
    exact q2
  have l2 : zs.length = ks.length := by
    have := q3.1
    rw [List.length_append, List.length_singleton] at this
    omega
  exact run_fnNS (us := [.ref b']) (vs := [.ref b']) h1 hr kb (L2N.passAt tk σ) I2 (.cons rfl .nil) rz rfl l2 q3
end
/-! ### isinstance(x, (list, tuple)) -/
def tabLT (n : String) : Option Bool := if n = "list" then some true else if n = "tuple" then some true else if n = "int" then some false else if n = "bool" then some false else if n = "str" then some false else if n = "NoneType" then some false else if n = "dict" then some false else none
theorem tabLT_is {K : PySem.W.Frag} {n : String} {b : Bool} (h : tabLT n = some b) : PySem.W.kitAny K (.type n) [.type "list", .type "tuple"] = some b := by
  unfold tabLT at h
  have tt : ∀ m : String, PySem.W.kitOne K (.type m) (.type "list") = some true → PySem.W.kitAny K (.type m) [.type "list", .type "tuple"] = some true := fun m h => kitAny_cons (b := true) h (fun z => nomatch z) fun _ => rfl
  have ft : ∀ (m : String) (r : Bool), PySem.W.kitOne K (.type m) (.type "list") = some false → PySem.W.kitOne K (.type m) (.type "tuple") = some r → PySem.W.kitAny K (.type m) [.type "list", .type "tuple"] = some r := fun m r h h2 =>
    kitAny_cons (b := false) h (fun _ => kitAny_cons (b := r) h2 (fun e => by subst e; rfl) fun e => by subst e; rfl) fun z => nomatch z
  split at h
  · rename_i e; subst e; cases h; exact tt _ (kit_ty (by decide +kernel))
  split at h
  · rename_i e; subst e; cases h; exact ft _ _ (kit_ty (by decide +kernel)) (kit_ty (by decide +kernel))
  split at h
  · rename_i e; subst e; cases h; exact ft _ _ (kit_ty (by decide +kernel)) (kit_ty (by decide +kernel))
  split at h
  · rename_i e; subst e; cases h; exact ft _ _ (kit_ty (by decide +kernel)) (kit_ty (by decide +kernel))
  split at h
  · rename_i e; subst e; cases h; exact ft _ _ (kit_ty (by decide +kernel)) (kit_ty (by decide +kernel))
  split at h
  · rename_i e; subst e; cases h; exact ft _ _ (kit_ty (by decide +kernel)) (kit_ty (by decide +kernel))
  split at h
  · rename_i e; subst e; cases h; exact ft _ _ (kit_ty (by decide +kernel)) (kit_ty (by decide +kernel))
  · cases h
def ltV : List D := [.val (.ty "list"), .val (.ty "tuple")]
def isLT : D → Option D
  | .tup _ => some (.bl true) | .lst _ => some (.bl true) | .vec _ => some (.bl true)
  | .int _ => some (.bl false) | .bl _ => some (.bl false) | .str _ => some (.bl false) | .non => some (.bl false)
  | .dT _ _ => some (.bl false) | .vT _ _ => some (.bl false) | .dK _ _ => some (.bl false) | .vK _ _ => some (.bl false)
  | _ => none
def isiLT (xs : List D) : Option D := match xs with
  | [d, .tup [.val (.ty a), .val (.ty b)]] => if a = "list" ∧ b = "tuple" then isLT d else none
  | _ => none
section
variable {X : Cx} {cl : Tb} {W : WX'} {pos : Pos}
theorem isLT_ty {K : PySem.W.Frag} {F H : Hp} {d r : D} {v : V} {A : Fp} (h : isLT d = some r) (sub : Le F H) (o : Own K cl F H d v A) : ∃ n b, r = .bl b ∧ TyX K H v (.type n) ∧ tabLT n = some b := by
  cases d with
  | non => cases h; have e : v = .non := o; subst e; exact ⟨_, _, rfl, .base .non, rfl⟩
  | bl k => cases h; have e : v = .bl k := o; subst e; exact ⟨_, _, rfl, .base (.bl k), rfl⟩
  | int k => cases h; have e : v = .int k := o; subst e; exact ⟨_, _, rfl, .base (.int k), rfl⟩
  | str k => cases h; have e : v = .str k := o; subst e; exact ⟨_, _, rfl, .base (.str k), rfl⟩
  | tup ds => cases h; obtain ⟨a, xs, rfl, q, r⟩ := o; exact ⟨_, _, rfl, ty_tup (sub.sqT q.1), rfl⟩
  | lst ds => cases h; obtain ⟨a, xs, rfl, q, r⟩ := o; exact ⟨_, _, rfl, ty_list (sub.sqL q), rfl⟩
  | vec ds => cases h; obtain ⟨a, xs, B, rfl, n, q, r, s⟩ := o; exact ⟨_, _, rfl, ty_list (SqL.of q), rfl⟩
  | obj c ds => cases h
  | mobj c ds => cases h
  | exc c ds => cases h
  | dT ks ds => cases h; obtain ⟨a, xs, rfl, q, r⟩ := o; exact ⟨_, _, rfl, .base (.dT (sub _ _ q)), rfl⟩
  | vT ks ds => cases h; obtain ⟨a, xs, B, rfl, n, q, r⟩ := o; exact ⟨_, _, rfl, .base (.dT q), rfl⟩
  | dK ks ds => cases h; obtain ⟨a, xs, rfl, q, r⟩ := o; exact ⟨_, _, rfl, .base (.dK (sub _ _ q)), rfl⟩
  | vK ks ds => cases h; obtain ⟨a, xs, B, rfl, n, q, r⟩ := o; exact ⟨_, _, rfl, .base (.dK q), rfl⟩
  | val w => cases h
theorem d_isiLT : DoesL X cl isiLT (rIsiT X.K) := fun x d hd G F H S C vx Q st ox k => by
  unfold isiLT at hd
  split at hd
  · rename_i d0 a b
    split at hd
    · rename_i hab
      obtain ⟨rfl, rfl⟩ := hab
      obtain ⟨v, r, B1, C1, rfl, o1, o2, hs⟩ := ox
      obtain ⟨v2, er, o3⟩ := owns1 o2
      obtain ⟨t, xs, ev, q, os⟩ := o3
      subst er ev
      obtain ⟨w1, r1, _, _, ex, h1, h2, _⟩ := os
      obtain ⟨w2, er, h3⟩ := owns1 h2
      have e1 : w1 = .ty "list" := h1
      have e2 : w2 = .ty "tuple" := h3
      subst ex er e1 e2
      obtain ⟨n, b, rfl, ty, ht⟩ := isLT_ty hd st.sub o1
      refine ⟨v, t, [.ty "list", .ty "tuple"], .type n, [.type "list", .type "tuple"], b, rfl, st.sub _ _ (q.2 rfl), .cons (.ty _) (.cons (.ty _) .nil), ty, tabLT_is ht, ?_⟩
      exact k _ F H zf Le.refl (fun _ _ => rfl) (st.less fun z => by show zf z + S z ≤ _; unfold zf; omega) rfl
    · cases hd
  · cases hd
theorem fe_val {e : Expr} {v : V} (h : PE X e (tC v)) : FE X cl W e (eC (.val v)) := fe_const h fun _ _ => rfl
end
theorem ref_inj {a b : Addr} (h : some (Value.ref a) = some (Value.ref b)) : a = b := by cases h; rfl
/-! ### the right side is quiet: it stays as it is -/
def eBinR (f : D → D → Option D) (a : Rho → RX D) (b : Rho → Option D) : Rho → RX D := fun ρ => (a ρ).bind fun x ρ1 => match b ρ1 with
  | some y => (match f x y with | some d => if d.pure then .ok d ρ1 else .bad | none => .bad)
  | none => .bad
section
variable {X : Cx} {cl : Tb} {W : WX'} {pos : Pos} {a b : Expr} {ma : Rho → RX D} {mb : Rho → Option D}
theorem binR_imp {f : D → D → Option D} {r : R2} (hf : Quiet2 X cl f r) {σ : St} {H : Hp} {Q : VK} (q : tX X.K cl W (rD X.K cl) (eBinR f ma mb) σ H Q) : tOp r (tX X.K cl W (rD X.K cl) ma) (tQ X.K cl mb) σ H Q := by
  obtain ⟨G, F, ρ, A, R, st, en, p⟩ := q
  refine ⟨G, F, ρ, A, R, st, en, Pst.bind p fun x ρ1 v1 F1 H1 A1 B1 e1 o1 p1 => ?_⟩
  refine ⟨G, F1, ρ1, A1, fun z => B1 z + R z, e1.st, e1.en, ?_⟩
  cases hb : mb ρ1 with
  | none => simp only [hb] at p1; exact p1.elim
  | some y =>
    simp only [hb] at p1
    intro v2 o2
    cases hd : f x y with
    | none => simp only [hd] at p1; exact p1.elim
    | some d =>
      simp only [hd] at p1
      split at p1
      · rename_i hp
        exact hf x y d hd F1 H1 (fun z => A1 z + B1 z) v1 v2 Q e1.st.sub (o1.up fun z => by show B1 z ≤ A1 z + B1 z; omega) (o2.up fun z => by show A1 z ≤ A1 z + B1 z; omega) fun v o => Pst.ok p1 e1 (o.of_pure hp)
      · exact p1.elim
theorem fe_cmpR {op : CmpOp} {f : D → D → Option D} {r : R2} (hf : Quiet2 X cl f r) (ho : OpR X (compareOp op) r) (ha : FE X cl W a ma) (hb : FQ X cl b mb) (hm : behindInMarks op b = false) : FE X cl W (.Compare a [op] [b] pos) (eBinR f ma mb) := PE_imp (pe_cmpR ho ha hb hm) fun _ _ _ q => binR_imp hf q
theorem ft_cmpRQ {op : CmpOp} {f : D → D → Option D} {r : R2} (hf : Quiet2 X cl f r) (ho : OpR X (compareOp op) r) (ha : FE X cl W a ma) (hb : FQ X cl b mb) (hm : behindInMarks op b = false) : FT X cl W (.Compare a [op] [b] pos) (tB1 (eBinR f ma mb)) := ft_cmp (pt_cmpR ho ha hb hm) fun _ _ _ q => binR_imp hf q
end
theorem kit_self (K : PySem.W.Frag) (C : Addr) : PySem.W.kitOne K (.ref C) (.ref C) = some true := by
  unfold PySem.W.kitOne
  simp
end
end FL

set_option Elab.async false
set_option linter.all false
set_option maxRecDepth 100000
namespace FL
open PySem L2
noncomputable section
section
variable {X : Cx} {cl : Tb} {W : WX'}
variable {G : Gh} {F H F' H' : Hp} {R B A A' : Fp} {σ : St} {ρ ρ' : Rho} {pos : Pos}
theorem Owns.cat {K : PySem.W.Frag} : ∀ {ds es : List D} {vs us : List V} {A B : Fp}, Owns K cl F H ds vs A → Owns K cl F H es us B → Owns K cl F H (ds ++ es) (vs ++ us) (fun x => A x + B x)
  | [], es, vs, us, A, B, h, e => by
    have ev : vs = [] := h
    subst ev
    exact e.up fun x => by show B x ≤ A x + B x; omega
  | d :: ds, es, vs, us, A, B, h, e => by
    obtain ⟨v, r, B1, C1, rfl, p, q, s⟩ := h
    exact ⟨v, _, B1, fun x => C1 x + B x, rfl, p, Owns.cat q e, fun x => by have := s x; show B1 x + (C1 x + B x) ≤ A x + B x; omega⟩
/-- [..] + [..], both made here -/
def catV (x y : D) : Option D := match x, y with | .vec ds, .vec es => if yes (ds.length + es.length ≤ 16777216) then some (.vec (ds ++ es)) else none | _, _ => none
theorem d_catV : Does2 X cl catV rCat := fun x y d hd G F H S B C vx vy Q st ox oy k => by
  unfold catV at hd
  split at hd
  · rename_i ds es
    split at hd
    · rename_i hl
      cases hd
      have hl' := of_yes hl
      obtain ⟨a, xs, B1, rfl, fa, ha, os, hs⟩ := ox
      obtain ⟨b, ys, B2, rfl, fb, hb, os2, hs2⟩ := oy
      refine ⟨a, b, xs, ys, rfl, rfl, ha, hb, by rw [← Owns.length os, ← Owns.length os2, sizeLine_eq]; omega, fun p hp => ?_⟩
      have st1 : Sta G F H (fun z => (B1 z + B2 z) + S z) := st.less fun z => by have := hs z; have := hs2 z; show B1 z + B2 z + S z ≤ B z + (C z + S z); omega
      obtain ⟨fl, sl, st2⟩ := lay_owned (o := .lst (xs ++ ys)) st1 hp
      have oc := (Owns.cat os os2).laid (o := .lst (xs ++ ys)) st1 hp Le.refl fun z hz => (st1.own z (by show 0 < B1 z + B2 z + S z; omega)).1
      refine k (.ref p) F _ (fun z => one p z + (B1 z + B2 z)) Le.refl (fun z hz => ?_) (st2.less fun z => by show one p z + (B1 z + B2 z) + S z ≤ one p z + (B1 z + B2 z + S z); omega) ⟨p, xs ++ ys, fun z => B1 z + B2 z, rfl, fl, upd_same, oc, fun _ => Nat.le_refl _⟩
      obtain ⟨_, _, u, h3⟩ := st.own z (by show 0 < B z + (C z + S z); omega)
      exact upd_ne (ne_of_none h3 hp)
    · cases hd
  · cases hd
/-- t + u of tuples -/
def catT (x y : D) : Option D := match x, y with | .tup ds, .tup es => if yes (ds.length + es.length ≤ 16777216) then some (.tup (ds ++ es)) else none | _, _ => none
theorem d_catT : Does2 X cl catT (rCatA X.K) := fun x y d hd G F H S B C vx vy Q st ox oy k => by
  unfold catT at hd
  split at hd
  · rename_i ds es
    split at hd
    · rename_i hl
      cases hd
      have hl' := of_yes hl
      have ox' := ox
      have oy' := oy
      obtain ⟨a, xs, rfl, qa, os⟩ := ox
      obtain ⟨b, ys, rfl, qb, os2⟩ := oy
      have st1 : Sta G F H (fun z => (C z + B z) + S z) := st.less fun z => by show C z + B z + S z ≤ B z + (C z + S z); omega
      refine ⟨a, b, xs, ys, rfl, rfl, st.sub.sqT qa.1, st.sub.sqT qb.1, by rw [← Owns.length os, ← Owns.length os2, sizeLine_eq]; omega, fun e => ?_, fun e e2 => ?_, fun _ _ p hp => ?_⟩
      · subst e
        have ed : ds = [] := by have := Owns.length os; cases ds with | nil => rfl | cons _ _ => cases this
        subst ed
        exact k (.ref b) F H (fun z => C z + B z) Le.refl (fun _ _ => rfl) st1 (oy'.up fun z => by show B z ≤ C z + B z; omega)
      · subst e2
        have ed : es = [] := by have := Owns.length os2; cases es with | nil => rfl | cons _ _ => cases this
        subst ed
        simp only [List.append_nil] at k
        exact k (.ref a) F H (fun z => C z + B z) Le.refl (fun _ _ => rfl) st1 (ox'.up fun z => by show C z ≤ C z + B z; omega)
      · obtain ⟨le, st2⟩ := lay_frozen (o := .tup (xs ++ ys)) st1 hp
        have oc := (Owns.cat os os2).laid (o := .tup (xs ++ ys)) st1 hp le fun z hz => (st2.own z (by show 0 < C z + B z + S z; omega)).1
        refine k (.ref p) _ _ (fun z => C z + B z) le (fun z hz => ?_) st2 ⟨p, xs ++ ys, rfl, ⟨SqT.of upd_same, fun _ => upd_same⟩, oc⟩
        obtain ⟨_, _, u, h3⟩ := st.own z (by show 0 < B z + (C z + S z); omega)
        exact upd_ne (ne_of_none h3 hp)
    · cases hd
  · cases hd
/-- max(xs) of a list of ints -/
def lmax : List Int → Int
  | [] => 0
  | x :: xs => xs.foldl max x
theorem foldl_max_ge : ∀ (l : List Int) (a : Int), a ≤ l.foldl max a ∧ ∀ y ∈ l, y ≤ l.foldl max a
  | [], a => ⟨Int.le_refl a, fun y h => by cases h⟩
  | x :: l, a => by
    obtain ⟨h1, h2⟩ := foldl_max_ge l (max a x)
    rw [List.foldl_cons]
    refine ⟨by omega, fun y hy => ?_⟩
    rcases List.mem_cons.mp hy with e | hy
    · subst e; omega
    · exact h2 y hy
theorem foldl_max_mem : ∀ (l : List Int) (a : Int), l.foldl max a = a ∨ l.foldl max a ∈ l
  | [], a => .inl rfl
  | x :: l, a => by
    rw [List.foldl_cons]
    rcases foldl_max_mem l (max a x) with h | h
    · rw [h]
      rcases Int.le_total a x with z | z
      · rw [Int.max_eq_right z]; exact .inr List.mem_cons_self
      · rw [Int.max_eq_left z]; exact .inl rfl
    · exact .inr (List.mem_cons_of_mem _ h)
theorem lmax_is {ns : List Int} {m : Int} (h1 : m ∈ ns) (h2 : ∀ y, y ∈ ns → y ≤ m) : m = lmax ns := by
  cases ns with
  | nil => cases h1
  | cons x l =>
    obtain ⟨g1, g2⟩ := foldl_max_ge l x
    have e1 : m ≤ l.foldl max x := by
      rcases List.mem_cons.mp h1 with e | h
      · rw [e]; exact g1
      · exact g2 m h
    have e2 : l.foldl max x ≤ m := by
      rcases foldl_max_mem l x with e | h
      · rw [e]; exact h2 x List.mem_cons_self
      · exact h2 _ (List.mem_cons_of_mem _ h)
    show m = l.foldl max x
    omega
def maxLs (xs : List D) : Option D := match xs with | [.vec ds] => (match intsD ds with | some (n :: ns) => some (.int (lmax (n :: ns))) | _ => none) | _ => none
theorem d_maxLs : DoesL X cl maxLs (rMax X.K) := fun x d hd G F H S C vx Q st ox k => by
  unfold maxLs at hd
  split at hd
  · rename_i ds
    obtain ⟨v, rfl, ov⟩ := owns1 ox
    obtain ⟨a, xs, B, rfl, n, q, r, s⟩ := ov
    split at hd
    · rename_i n0 ns e
      cases hd
      rw [intsD_is e] at r
      rw [owns_ints r] at q
      refine ⟨a, n0 :: ns, rfl, SqL.of q, Nat.succ_pos _, fun m h1 h2 => ?_⟩
      rw [lmax_is h1 h2]
      exact k _ F H zf Le.refl (fun _ _ => rfl) (st.less fun z => by show zf z + S z ≤ _; unfold zf; omega) rfl
    · cases hd
  · cases hd
end
/-- an empty tuple of the written part -/
theorem own_empty {K : PySem.W.Frag} {cl : Tb} {F H : Hp} {e : Addr} {od : Option Addr} {n : Nat} {sl : Array (Option Value)} (he : K.lookup e = some ⟨.type "tuple", od, .seq #[] n, sl⟩) : Owns K cl F H [.tup []] [.ref e] zf :=
  ⟨.ref e, [], zf, zf, rfl, ⟨e, [], rfl, ⟨.inr ⟨_, #[], n, he, rfl, rfl, Nat.zero_le _, .nil⟩, fun z => by cases z⟩, rfl⟩, rfl, fun _ => Nat.le_refl _⟩
/-- C(..) with the last argument left out, () by default -/
theorem makC_mkD {P : Program} {w : World} {K : PySem.W.Frag} {mg : Str → Option Value} {base : Heap} {cl : Tb} {c : Nat} {x : Str} {k n : Nat} {m : List D → RF} {f e : Addr} {fd : FuncData} {ps : List Str} {od : Option Addr} {en : Nat} {sl : Array (Option Value)} (F : FnOk P w K mg base (L2N.CX P w) k f fd ps (spI K cl c n m)) (hm : mg x = some (.ref (cl c).at_))
    (mk : PySem.W.makesIn K (cl c).at_ = true) (ha : PySem.W.findIn K (.ref (cl c).at_) "__init__" = some (some (.ref f))) (hi : PySem.W.isFn K (.ref f) = true) (hk : PySem.W.keepIn K (.ref (cl c).at_) = true) (hb : Binds K fd ps [.ref e]) (he : K.lookup e = some ⟨.type "tuple", od, .seq #[] en, sl⟩) (hl : ∀ l, m l ≠ .bad → l.length = n) : MakC P w K mg base cl c x k n m [.tup []] :=
  ⟨⟨f, fd, ps, [.ref e], [.ref e], F, hm, ⟨mk, ha, hi, hk⟩, hb, .cons rfl .nil, fun _ _ => own_empty he⟩, hl⟩
end
end FL

set_option Elab.async false
set_option linter.all false
set_option maxRecDepth 100000
set_option maxHeartbeats 1000000
namespace FL
open PySem L2
open PyProof.Rows (envOfC)
/-! ### own errors: made and raised -/
theorem exd_ext {d : Addr} {fs gs : List (Str × V)} (h : ∀ f, fs.lookup f = gs.lookup f) : exd d fs = exd d gs := by
  unfold exd
  congr 1
  funext x
  simp only [h]
/-- what an error's __init__ does: every field kept -/
def spX (K : PySem.W.Frag) (C : Addr) (fs : List Str) : Sp := fun vs H Q _ => ∃ (a : Addr) (ys : List V), vs = .ref a :: ys ∧ ys.length = fs.length ∧ H a = some (exo a C none) ∧
  ∀ d, H d = none → d ≠ a → Q .non (upd (upd H d (exd d (fs.zip ys))) a (exo a C (some d)))
theorem upd_again {H : Hp} {a d : Addr} {o u v : HO} (ne : d ≠ a) : upd (upd (upd H d o) a u) d v = upd (upd H d v) a u := by
  funext b
  by_cases h1 : b = d
  · subst h1; rw [upd_same, upd_ne ne, upd_same]
  · rw [upd_ne h1]
    by_cases h2 : b = a
    · subst h2; rw [upd_same, upd_same]
    · rw [upd_ne h2, upd_ne h2, upd_ne h1, upd_ne h1]
structure XCl (P : Program) (w : World) (K : PySem.W.Frag) (mg : Str → Option Value) (base : Heap) (cl : Tb) (c : Nat) (x : Str) : Prop where
  mgC : mg x = some (.ref (cl c).at_)
  oex : OexC K (cl c).at_
  ex : ∃ (f : Addr) (fd : FuncData) (ps : List Str), PySem.W.findIn K (.ref (cl c).at_) "__init__" = some (some (.ref f)) ∧ PySem.W.typeIn K (.ref f) = some (.type "function") ∧
    FnOk P w K mg base (L2N.CX P w) 1 f fd ps (spX K (cl c).at_ (cl c).fs) ∧ Binds K fd ps []
section
variable {X : Cx} {cl : Tb} {W : WX'} {pos : Pos}
/-- the error that a call of its class makes: its context is None -/
theorem pmkN {x : Str} {C fI : Addr} {k : Nat} {fd : FuncData} {ps : List Str} {sp : Sp} {e : Expr} {es : List Expr} {ta : TA} {p : Pos} (T : OexC X.K C) (hi : PySem.W.findIn X.K (.ref C) "__init__" = some (some (.ref fI)))
    (ht : PySem.W.typeIn X.K (.ref fI) = some (.type "function")) (Fi : FnOk X.prog X.w X.K X.mg X.base (L2N.CX X.prog X.w) k fI fd ps sp) (hr : Room (k + 1) X.A) (hb : Binds X.K fd ps []) (hg : Gl X x) (hm : X.mg x = some (.ref C))
    (ha : PA X (e :: es) ta) (hdb : (x == ("__debug__" : Str)) = false := by decide) (he : starEach (e :: es) X.env = (false, eval e X.env) :: starEach es X.env := by rfl)
    (hpl : (backTo pos (starEach es X.env)).any (·.1) = false := by rfl) : L2N.PMk X (.Call (.Name x p) (e :: es) [] pos) (tMkO C sp [] ta) := fun pins s0 σ H0 Q I0 q0 => by
  obtain ⟨nm, qn, N, bs, bm, sn, sub, ab, col, dd, k0, k1, k2, k3, k5, hC, hbm⟩ := T.cls
  refine wpAny_Call_Name_kw (ld_glob I0 hg hm ?_ hdb)
  refine PySem.W.callWith_K (h₀ := X.base) I0.ok.mod.kin T.kC (thn (ha.run pos pins s0 σ H0 _ I0 q0) fun us s1 z => ?_) he hpl
  obtain ⟨vs, H1, I1, r1, hz, q1⟩ := z
  refine ⟨I1.kIn, ?_⟩
  show wpAny _ _ (call (.ref C) us) _ _ _
  obtain ⟨h1, g1, d1, t1, o1⟩ := s1
  generalize ea : h1.objs.size + 1 = a
  have sz : h1.objs.size ≤ a := by rw [← ea]; exact Nat.le_succ _
  have na : H1 a = none := I1.hok.fresh sz
  have q2 := q1 a na
  rw [List.append_nil] at q2
  have up : ∀ b o, h1.get? b = some o → ((h1.push (PySem.W.kdv_tup us)).push (PySem.HandSPX.excO C h1.objs.size)).get? b = some o := fun b o z => Heap.get?_push_of_some _ (Heap.get?_push_of_some _ z)
  have at_ : ((h1.push (PySem.W.kdv_tup us)).push (PySem.HandSPX.excO C h1.objs.size)).get? a = some (PySem.HandSPX.excO C h1.objs.size) := by rw [← ea]; heap_get
  have J : L2.Inv X pins σ (upd H1 a (exo a C none)) ⟨(h1.push (PySem.W.kdv_tup us)).push (PySem.HandSPX.excO C h1.objs.size), g1, d1, t1, o1⟩ := I1.laid (t' := t1) (o := exo a C none) up sz (exo_ok at_)
  have rr : Vals (V.ref a :: vs) (Value.ref a :: us) := .cons rfl r1
  have ln : (Value.ref a :: us).length = ps.length := by rw [← rr.length]; exact Fi.len _ _ _ _ q2
  have few : us.length ≤ sizeLine := by
    have e1 := Paired.length r1
    rw [sizeLine_eq]
    omega
  have bb := hb _ (Value.ref a :: us) J.kIn (by rw [List.append_nil]; exact ln)
  rw [List.append_nil] at bb
  have run := Fi.run _ X.stack _ _ ⟨Value.ref a :: us, []⟩ (Value.ref a :: us) _ _ (fun _ _ _ => False) (hr.make C us []) (J.env0.make C us []) bb rr q2
  subst ea
  refine wpAny_call (PySem.HandSPX.call_own F.excBase_ValueError (fun Y => PySem.HandSPX.refsVE_contains Y bm hbm) (I1.kIn _ _ hC) (PySem.W.looks_findIn I1.kIn hi) (fun self => PySem.W.bind_fn I1.kIn self ht) few
    (codeAny_mono run fun r s2 z => ?_))
  cases r with
  | error er =>
    obtain ⟨_, _, _, _, _, _, _, _, _, _, _, _, no⟩ := z
    exact no.elim
  | ok fl =>
    cases fl with
    | ret u =>
      obtain ⟨v, H2, os2, bare2, un2, hok2, rv, ev, d, fs, ea, ed, hd1, q3⟩ := z
      subst ev
      obtain ⟨h2, g2, d2, t2, o2⟩ := s2
      obtain ⟨t0, G, J2, kG, ge, hoe, na2⟩ := mk_end0 (d2 := d2) (t2 := t2) I1 sz up un2 hok2 os2 bare2 ea ed hd1
      exact ⟨rv, _, _, _, ⟨G, g2, d2, t2, o2⟩, _, .ref C, some d, rfl, J2, kG, ge, hoe, ⟨rfl, rfl, fun vs hv => by cases hv; rfl⟩, rfl, rfl, na2, rfl, bare2, raises_own T.exC T.tyC, q3⟩
    | next => exact z.elim
    | brk => exact z.elim
    | cont => exact z.elim

def sRaise (c n : Nat) (a : Rho → RX (List D)) : Rho → RS := fun ρ => (a ρ).stmt fun ds ρ1 => if ds.length = n then .ex c (D.frzs ds) ρ1 else .bad
theorem fs_raise {c n : Nat} {x : Str} {e : Expr} {es : List Expr} {a : Rho → RX (List D)} {p pos' : Pos} (Xc : XCl X.prog X.w X.K X.mg X.base cl c x) (hr : Room 2 X.A) (hc : X.calm = true) (tk : L2N.Takes X W) (hg : Gl X x) (hn : (cl c).fs.length = n) (hz : n ≤ 1000)
    (ha : FA X cl W (e :: es) a) (hdb : (x == ("__debug__" : Str)) = false := by decide) (he : starEach (e :: es) X.env = (false, eval e X.env) :: starEach es X.env := by rfl)
    (hpl : (backTo pos (starEach es X.env)).any (·.1) = false := by rfl) : FS X cl W (.Raise (some (.Call (.Name x p) (e :: es) [] pos)) none pos') (sRaise c n a) := by
  obtain ⟨f, fd, ps, h1, h2, h3, h4⟩ := Xc.ex
  refine PS_imp (L2N.ps_raise hc tk (pmkN Xc.oex h1 h2 h3 hr h4 hg Xc.mgC ha hdb he hpl)) fun E σ H q => ?_
  obtain ⟨G, F, ρ, A, R, st, en, p⟩ := q
  refine ⟨G, F, ρ, A, R, st, en, Pst.stmt p fun ds ρ1 v1 F1 H1 A1 B1 e1 o1 p1 => ?_⟩
  by_cases hl : ds.length = n
  · rw [if_pos hl] at p1
    obtain ⟨e2, le2⟩ := e1.fz
    have o2 : Owns X.K cl (fz F1 H1 B1) H1 (D.frzs ds) v1 zf := Owns.freeze o1 le2 fun a ha => fz_at ha
    have hv : v1.length = n := by rw [← Owns.length o1]; exact hl
    refine ⟨by omega, fun a na => ⟨a, v1, by rw [List.append_nil], by rw [hv, hn], upd_same, fun d nd hd => ⟨rfl, d, (cl c).fs.zip v1, upd_same, ?_, ?_, ?_⟩⟩⟩
    · rw [upd_ne hd, upd_same]
    · rw [← nd, upd_ne hd]
    · have nd1 : H1 d = none := by rw [← nd, upd_ne hd]
      have eH : upd (del (upd (upd (upd H1 a (exo a (cl c).at_ none)) d (exd d ((cl c).fs.zip v1))) a (exo a (cl c).at_ (some d))) a) d (.xd ((cl c).fs.zip v1)) = upd H1 d (.xd ((cl c).fs.zip v1)) := by
        funext b
        by_cases hb : b = d
        · subst hb; rw [upd_same, upd_same]
        · rw [upd_ne hb, upd_ne hb]
          by_cases hba : b = a
          · subst hba; rw [del_same, na]
          · rw [del_ne hba, upd_ne hba, upd_ne hb, upd_ne hba]
      rw [eH]
      obtain ⟨le3, st3⟩ := lay_frozen (o := .xd ((cl c).fs.zip v1)) e2.st nd1
      refine p1 _ (some d) σ (upd (fz F1 H1 B1) d (.xd ((cl c).fs.zip v1))) _ A1 ⟨le2.trans le3, fun b hb => ?_, st3, ?_⟩ ⟨rfl, d, v1, rfl, upd_same, by omega, ?_⟩
      · have := (e2.st.own b (by show 0 < A1 b + (zf b + R b); omega)).2.2
        obtain ⟨o, ho⟩ := this
        exact upd_ne (ne_of_none ho nd1)
      · refine e2.en.mono le3 (fun b hb => ?_) fun _ => Nat.le_refl _
        obtain ⟨h1, _, o, ho⟩ := e2.st.own b (by show 0 < A1 b + (zf b + R b); omega)
        have hne := ne_of_none ho nd1
        exact ⟨upd_ne hne, by rw [upd_ne hne]; exact h1⟩
      · exact zero_owns o2 le3
  · rw [if_neg hl] at p1; exact p1.elim
end

/-! ### an error is handled -/
mutual
/-- no error that is being handled stands in it -/
def D.noX : D → Bool
  | .non => true | .bl _ => true | .int _ => true | .str _ => true
  | .tup ds => D.noXs ds | .lst ds => D.noXs ds | .vec ds => D.noXs ds
  | .obj _ ds => D.noXs ds | .mobj _ ds => D.noXs ds | .exc _ _ => false
  | .dT _ ds => D.noXs ds | .vT _ ds => D.noXs ds | .dK _ ds => D.noXs ds | .vK _ ds => D.noXs ds | .val _ => true
def D.noXs : List D → Bool
  | [] => true
  | d :: ds => d.noX && D.noXs ds
end
def Tb.exc (cl : Tb) (a dd : Addr) (cv : Value) : Tb := { cl with ex := a, ed := dd, ec := cv }
section
variable {K : PySem.W.Frag} {cl : Tb} {F H : Hp} {a dd : Addr} {cv : Value}
mutual
theorem Own.unX : ∀ {d : D} {v : V} {A : Fp}, d.noX = true → Own K cl F H d v A → Own K (cl.exc a dd cv) F H d v A
  | .non, _, _, _, h => h
  | .bl _, _, _, _, h => h
  | .int _, _, _, _, h => h
  | .str _, _, _, _, h => h
  | .tup ds, v, A, p, h => by obtain ⟨a, xs, e, q, r⟩ := h; exact ⟨a, xs, e, q, Owns.unX p r⟩
  | .lst ds, v, A, p, h => by obtain ⟨a, xs, e, q, r⟩ := h; exact ⟨a, xs, e, q, Owns.unX p r⟩
  | .vec ds, v, A, p, h => by obtain ⟨a, xs, B, e, n, q, r, s⟩ := h; exact ⟨a, xs, B, e, n, q, Owns.unX p r, s⟩
  | .obj c ds, v, A, p, h => by obtain ⟨a, dx, xs, e, q, z, r⟩ := h; exact ⟨a, dx, xs, e, q, z, Owns.unX p r⟩
  | .mobj c ds, v, A, p, h => by obtain ⟨a, dx, xs, B, e, n, q, z, r, s⟩ := h; exact ⟨a, dx, xs, B, e, n, q, z, Owns.unX p r, s⟩
  | .exc c ds, v, A, p, h => by cases p
  | .dT ks ds, v, A, p, h => by obtain ⟨a, xs, e, q, z, r⟩ := h; exact ⟨a, xs, e, q, z, Owns.unX p r⟩
  | .dK ks ds, v, A, p, h => by obtain ⟨a, xs, e, q, z, r⟩ := h; exact ⟨a, xs, e, q, z, Owns.unX p r⟩
  | .vT ks ds, v, A, p, h => by obtain ⟨a, xs, B, e, n, q, z, r, s⟩ := h; exact ⟨a, xs, B, e, n, q, z, Owns.unX p r, s⟩
  | .vK ks ds, v, A, p, h => by obtain ⟨a, xs, B, e, n, q, z, r, s⟩ := h; exact ⟨a, xs, B, e, n, q, z, Owns.unX p r, s⟩
  | .val _, _, _, _, h => h
theorem Owns.unX : ∀ {ds : List D} {vs : List V} {A : Fp}, D.noXs ds = true → Owns K cl F H ds vs A → Owns K (cl.exc a dd cv) F H ds vs A
  | [], _, _, _, h => h
  | d :: ds, vs, A, p, h => by
    obtain ⟨v, r, B, C, e, q, t, s⟩ := h
    have p' : d.noX = true ∧ D.noXs ds = true := by simpa [D.noXs] using p
    exact ⟨v, r, B, C, e, Own.unX p'.1 q, Owns.unX p'.2 t, s⟩
end
theorem Own.reX {d : D} {v : V} {A : Fp} (p : d.noX = true) (h : Own K (cl.exc a dd cv) F H d v A) : Own K cl F H d v A := Own.unX (cl := cl.exc a dd cv) (a := cl.ex) (dd := cl.ed) (cv := cl.ec) p h
/-- errors are forgotten -/
def cleanR : Rho → Rho
  | [] => []
  | none :: ρ => none :: cleanR ρ
  | some d :: ρ => (if d.noX then some d else none) :: cleanR ρ
theorem EnvR.clean : ∀ {ρ : Rho} {σ : St} {A : Fp}, EnvR K cl F H ρ σ A → EnvR K (cl.exc a dd cv) F H (cleanR ρ) σ A
  | [], _, _, h => h
  | none :: ρ, σ, A, h => by obtain ⟨s, r, e, h⟩ := h; exact ⟨s, r, e, EnvR.clean h⟩
  | some d :: ρ, σ, A, h => by
    obtain ⟨v, r, B, C, e, p, q, s⟩ := h
    show EnvR K (cl.exc a dd cv) F H ((if d.noX then some d else none) :: cleanR ρ) σ A
    by_cases hx : d.noX = true
    · rw [if_pos hx]
      exact ⟨v, r, B, C, e, p.unX hx, EnvR.clean q, s⟩
    · rw [if_neg hx]
      exact ⟨some v, r, e, (EnvR.clean q).up fun x => by have := s x; omega⟩
theorem EnvR.recl {ρ : Rho} {σ : St} {A : Fp} (h : EnvR K (cl.exc a dd cv) F H ρ σ A) : EnvR K cl F H (cleanR ρ) σ A := EnvR.clean (cl := cl.exc a dd cv) (a := cl.ex) (dd := cl.ed) (cv := cl.ec) h
end
def RS.unx (i : Nat) : RS → RS
  | .nx ρ => .nx (cleanR (ρ.set i none))
  | .bk ρ => .bk (cleanR (ρ.set i none))
  | .ct ρ => .ct (cleanR (ρ.set i none))
  | .rt d => if d.noX then .rt d else .bad
  | _ => .bad
/-- try: b, except .. as slot i: h. tab: whether an error's class is meant -/
def sTry (i : Nat) (tab : Nat → Option Bool) (b h : Rho → RS) : Rho → RS := fun ρ => match b ρ with
  | .ex c ds ρ1 => (match tab c with
    | some true => if D.noXs ds then (h ((cleanR ρ1).set i (some (.exc c ds)))).unx i else .bad
    | some false => .ex c ds ρ1
    | none => .bad)
  | r => r
section
variable {X : Cx} {cl : Tb} {W : WX'} {pos : Pos}
theorem fs_try {i : Nat} {tab : Nat → Option Bool} {b h : Rho → RS} {body suite : List Stmt} {b₀ : Stmt} {x n : Str} {cv : Value} {np pos' : Pos} (hs : X.stack = X.env :: X.outer) (hf : X.env.frame = some X.env.locals) (hN : X.N.Nodup) (hi : X.N[i]? = some n)
    (hln : X.env.kindOf n = some .local) (hcn : Names X x cv) (tk : L2N.Takes X W) (ht : ∀ c b, tab c = some b → PySem.W.exmOne X.K (.ref (cl c).at_) cv = some b)
    (hb : ∀ (W' : WX') (pn : List (Addr × Obj)) (xe : Value → Shared → Prop), L2N.Takes (X.tr pn xe) W' → PassesOwn (model X.prog X.w) X.A X.env xe → FSs (X.tr pn xe) cl W' body b)
    (hsu : ∀ (a : Addr) (oe : Obj) (cls : Value) (dd : Addr) (pn : List (Addr × Obj)), L2N.Zn cls (some dd) oe → (∃ vs, oe.data = .fields vs) → FSs (X.suite a ((a, oe) :: pn)) (cl.exc a dd cls) W0 (b₀ :: suite) h) :
    FS X cl W (.Try body [.ExceptHandler (some (.Name x np)) (some n) (b₀ :: suite) pos'] [] [] pos) (sTry i tab b h) := by
  refine PS_imp (L2N.ps_try_as hs hf hN hi hln hcn tk (tb := fun W' => tS X.K cl W' b) (ts := fun a cls d E σ H => ∃ dd, d = some dd ∧ tS X.K (cl.exc a dd cls) W0 h E σ H) hb fun a oe cls d pn hz hv => ⟨fun pins s σ H E I z => by obtain ⟨dd, rfl, z⟩ := z; exact (hsu a oe cls dd pn hz hv).run pins s σ H E I z⟩) fun E σ H q => ?_
  obtain ⟨G, F, ρ, A, R, st, en, p⟩ := q
  refine ⟨G, F, ρ, A, R, st, en, ?_⟩
  unfold sTry at p
  cases hbr : b ρ with
  | nx ρ' => rw [hbr] at p; exact p
  | bk ρ' => rw [hbr] at p; exact p
  | ct ρ' => rw [hbr] at p; exact p
  | rt d => rw [hbr] at p; exact p
  | bad => rw [hbr] at p; exact p
  | ex c ds ρ1 =>
    rw [hbr] at p
    intro u d σ1 F1 H1 A1 e1 x1
    dsimp only at p
    cases htb : tab c with
    | none => rw [htb] at p; exact p.elim
    | some t =>
      rw [htb] at p
      obtain ⟨rfl, dd, xs, rfl, hF, hl, os⟩ := x1
      cases t with
      | false => exact ⟨false, ht c _ htb, (fun z => Bool.noConfusion z), fun _ => p _ _ _ _ _ _ e1 ⟨rfl, dd, xs, rfl, hF, hl, os⟩⟩
      | true =>
        dsimp only at p
        refine ⟨true, ht c _ htb, fun _ a na => ?_, fun z => Bool.noConfusion z⟩
        by_cases hx : D.noXs ds = true
        · rw [if_pos hx] at p
          have os2 : Owns X.K (cl.exc a dd (.ref (cl c).at_)) F1 H1 ds xs zf := zero_owns (Owns.unX hx os) Le.refl
          have ov : Own X.K (cl.exc a dd (.ref (cl c).at_)) F1 H1 (.exc c ds) (.ref a) zf := ⟨xs, ⟨rfl, rfl⟩, hF, hl, os2⟩
          have en2 := (EnvR.clean (a := a) (dd := dd) (cv := .ref (cl c).at_) e1.en).put (i := i) ov
          refine ⟨dd, rfl, G, F1, _, _, R, e1.st.less fun z => by show zf z + A1 z + R z ≤ A1 z + (zf z + R z); unfold zf; omega, en2, ?_⟩
          have join : ∀ {F2 H2 : Hp} {σ2 : St} {ρ2 : Rho} {A2 : Fp}, Ev X.K (cl.exc a dd (.ref (cl c).at_)) G F1 H1 R F2 H2 σ2 ρ2 A2 zf → Ev X.K cl G F H R F2 H2 (σ2.set i none) (cleanR (ρ2.set i none)) A2 zf := fun {F2 H2 σ2 ρ2 A2} e2 =>
            ⟨e1.le.trans e2.le, fun b hb => (e2.ag b hb).trans (e1.ag b hb), e2.st, EnvR.recl (e2.en.set2 i)⟩
          show SPst X.K (cl.exc a dd (.ref (cl c).at_)) W0 G F1 H1 R (h ((cleanR ρ1).set i (some (.exc c ds)))) _
          cases hh : h ((cleanR ρ1).set i (some (.exc c ds))) with
          | nx ρ2 => rw [hh] at p; exact fun σ2 F2 H2 A2 e2 => p _ F2 H2 A2 (join e2)
          | bk ρ2 => rw [hh] at p; exact fun σ2 F2 H2 A2 e2 => p _ F2 H2 A2 (join e2)
          | ct ρ2 => rw [hh] at p; exact fun σ2 F2 H2 A2 e2 => p _ F2 H2 A2 (join e2)
          | rt d2 =>
            rw [hh] at p
            unfold RS.unx at p
            dsimp only at p
            by_cases hd : d2.noX = true
            · rw [if_pos hd] at p
              exact fun v F2 H2 B2 e2 o2 => p v F2 H2 B2 ⟨e1.le.trans e2.le, fun b hb => (e2.ag b hb).trans (e1.ag b hb), e2.st, rfl⟩ (o2.reX hd)
            · rw [if_neg hd] at p; exact p.elim
          | ex c2 ds2 ρ2 => rw [hh] at p; exact p.elim
          | bad => rw [hh] at p; exact p.elim
        · rw [if_neg hx] at p; exact p.elim
end
/-! ### within the suite -/
theorem excIsa {K : PySem.W.Frag} {C a : Addr} {ox : Obj} {od : Option Obj} (T : ExcC K C) : PySem.W.KitX K (.ref a) (.ref C) (fun h => PySem.W.InstAt h a ox C od) :=
  PySem.W.kitx_exc (by obtain ⟨cd, hc, _⟩ := PySem.W.any_some T.hd; rw [hc]; rfl) T.hg T.hk T.hs T.ha T.hn T.ht T.hm
/-- isinstance(e, c), e the error that the suite holds, d its dict -/
def rIsX (K : PySem.W.Frag) (C a : Addr) (d : Option Addr) : List V → Hp → VK → Prop := fun xs H Q => ∃ (c : V) (cv : Value) (b : Bool) (dd : Addr) (fs : List (Str × V)), xs = [.ref a, c] ∧ (∀ u, RelV c u → u = cv) ∧ PySem.W.kitOne K (.ref C) cv = some b ∧ d = some dd ∧ H dd = some (.xd fs) ∧ Q (.bl b) H
theorem call_isX {X : Cx} {a C : Addr} {d : Option Addr} {oe : Obj} {pn : List (Addr × Obj)} (T : ExcC X.K C) (hz : Zc (.ref C) d oe) (hf : ∃ vs, oe.data = .fields vs) : CallR (X.suite a ((a, oe) :: pn)) (.builtin "isinstance") (rIsX X.K C a d) := by
  intro pins s σ H xs us Q I r z
  obtain ⟨c, cv, b, dd, fs, rfl, hc, e, rfl, hd, q⟩ := z
  obtain ⟨u1, u2, rfl, r1, r2⟩ := vals2 r
  cases (show u1 = Value.ref a from r1)
  cases hc _ r2
  obtain ⟨get, _⟩ := I.pin (a, oe) (List.mem_append.mpr (.inl List.mem_cons_self))
  obtain ⟨vs, hv⟩ := hf
  have ok : ObjOk X.prog X.w H s.heap dd (.xd fs) := I.hok dd _ hd
  obtain ⟨mA, hns, _⟩ := ok
  obtain ⟨od, ho, _⟩ := lookIn_ns hns
  have J : PySem.W.InstAt s.heap a oe C (some od) := ⟨get, hz.1, by unfold PySem.W.notCls; rw [hv] <;> rfl, by rw [hz.2]; exact ho⟩
  exact PySem.W.kia_one (excIsa T) I.kIn J e (fun z => nomatch z) fun tk => ⟨.bl b, H, I.kept (t' := tk) fun _ _ z => z, rfl, q⟩
def rIsXT (K : PySem.W.Frag) (C a : Addr) (d : Option Addr) : List V → Hp → VK → Prop := fun xs H Q => ∃ (tp : Addr) (cs : List V) (ws : List Value) (b : Bool) (dd : Addr) (fs : List (Str × V)), xs = [.ref a, .ref tp] ∧ H tp = some (.tup cs) ∧ Paired ClsV cs ws ∧ PySem.W.kitAny K (.ref C) ws = some b ∧ d = some dd ∧ H dd = some (.xd fs) ∧ Q (.bl b) H
theorem call_isXT {X : Cx} {a C : Addr} {d : Option Addr} {oe : Obj} {pn : List (Addr × Obj)} (T : ExcC X.K C) (hz : Zc (.ref C) d oe) (hf : ∃ vs, oe.data = .fields vs) : CallR (X.suite a ((a, oe) :: pn)) (.builtin "isinstance") (rIsXT X.K C a d) := by
  intro pins s σ H xs us Q I r z
  obtain ⟨tp, cs, ws, b, dd, fs, rfl, hT, k, e, rfl, hd, q⟩ := z
  obtain ⟨u1, u2, rfl, r1, r2⟩ := vals2 r
  cases (show u1 = Value.ref a from r1)
  cases (show u2 = Value.ref tp from r2)
  obtain ⟨get, _⟩ := I.pin (a, oe) (List.mem_append.mpr (.inl List.mem_cons_self))
  obtain ⟨vs, hv⟩ := hf
  have ok : ObjOk X.prog X.w H s.heap dd (.xd fs) := I.hok dd _ hd
  obtain ⟨mA, hns, _⟩ := ok
  obtain ⟨od, ho, _⟩ := lookIn_ns hns
  have J : PySem.W.InstAt s.heap a oe C (some od) := ⟨get, hz.1, by unfold PySem.W.notCls; rw [hv] <;> rfl, by rw [hz.2]; exact ho⟩
  obtain ⟨_, its, rv, o, h1, h2, n, h3⟩ := (show ObjOk X.prog X.w H s.heap tp (.tup cs) from I.hok tp _ hT)
  have e3 := ClsV.all k rv
  subst e3
  obtain ⟨oc, od2, dt, sl⟩ := o
  simp only at h2 h3
  subst h2 h3
  exact PySem.W.kia_tup (excIsa T) I.kIn J h1 e (fun z => nomatch z) fun tk => ⟨.bl b, H, I.tok tk, rfl, q⟩
def qXf (tab : Nat → Option Nat) (m : Rho → Option D) : Rho → Option D := fun ρ => match m ρ with
  | some (.exc c ds) => (match tab c with | some j => ds[j]? | none => none)
  | _ => none
/-- a field of an error's class: where it stands -/
structure XFld (K : PySem.W.Frag) (cl : Tb) (f : Str) (c j : Nat) : Prop where
  xf : XfC K (cl c).at_
  no : PySem.W.findIn K (.ref (cl c).at_) f = some none
  at_ : (cl c).fs[j]? = some f
  fst : ∀ i, i < j → (cl c).fs[i]? ≠ some f
theorem lookup_zip {f : Str} : ∀ {fs : List Str} {xs : List V} {j : Nat} {v : V}, fs[j]? = some f → (∀ i, i < j → fs[i]? ≠ some f) → xs[j]? = some v → (fs.zip xs).lookup f = some v
  | [], _, _, _, h, _, _ => by simp at h
  | _ :: _, [], _, _, _, _, h => by simp at h
  | g :: fs, x :: xs, 0, v, h, _, hx => by
    have e : g = f := by simpa using h
    have ex : x = v := by simpa using hx
    subst e ex
    simp
  | g :: fs, x :: xs, j + 1, v, h, n, hx => by
    have ne : (f == g) = false := by
      have := n 0 (Nat.succ_pos _)
      simp at this
      exact beq_eq_false_iff_ne.mpr fun z => this z.symm
    rw [List.zip_cons_cons, List.lookup_cons, ne]
    exact lookup_zip (by simpa using h) (fun i hi => by have := n (i + 1) (by omega); simpa using this) (by simpa using hx)
section
variable {X : Cx} {cl : Tb} {pos : Pos} {a dd : Addr} {oe : Obj} {cls : Value} {pn : List (Addr × Obj)}
theorem excOwn {K : PySem.W.Frag} {F H : Hp} {c : Nat} {ds : List D} {v : V} {A : Fp} (o : Own K (cl.exc a dd cls) F H (.exc c ds) v A) : v = .ref a ∧ cls = .ref (cl c).at_ ∧ ∃ xs, F dd = some (.xd ((cl c).fs.zip xs)) ∧ Owns K (cl.exc a dd cls) F H ds xs A := by
  obtain ⟨xs, ⟨e1, e2⟩, hF, _, os⟩ := o
  exact ⟨e1, e2, xs, hF, os⟩
/-- e.f -/
theorem fq_xf {tab : Nat → Option Nat} {f : Str} {e : Expr} {m : Rho → Option D} (ht : ∀ c j, tab c = some j → XFld X.K cl f c j) (hz : L2N.Zn cls (some dd) oe) (hf : ∃ vs, oe.data = .fields vs) (he : FQ (X.suite a ((a, oe) :: pn)) (cl.exc a dd cls) e m)
    (hb : attributeBase e f X.env (eval e X.env) = eval e X.env := by rfl) : FQ (X.suite a ((a, oe) :: pn)) (cl.exc a dd cls) (.Attribute e f pos) (qXf tab m) := by
  refine ⟨fun pins s σ H Q I q => ?_⟩
  obtain ⟨G, F, ρ, A, R, st, en, p⟩ := q
  unfold qXf at p
  cases hm : m ρ with
  | none => rw [hm] at p; exact p.elim
  | some x =>
    rw [hm] at p
    cases x with
    | exc c ds =>
      dsimp only at p
      cases htb : tab c with
      | none => rw [htb] at p; exact p.elim
      | some j =>
        rw [htb] at p
        dsimp only at p
        have T := ht c j htb
        by_cases hc : cls = .ref (cl c).at_
        · subst hc
          refine (pe_xf (pos := pos) T.xf T.no hz.zc hf he hb).run pins s σ H Q I ?_
          refine ⟨G, F, ρ, A, R, st, en, ?_⟩
          rw [hm]
          intro v o
          obtain ⟨e1, _, xs, hF, os⟩ := excOwn o
          cases hj : ds[j]? with
          | none => rw [hj] at p; exact p.elim
          | some y =>
            rw [hj] at p
            obtain ⟨w, hw, ow⟩ := Owns.get os hj
            exact ⟨e1, rfl, dd, _, w, rfl, st.sub _ _ hF, lookup_zip T.at_ T.fst hw, p w ow⟩
        · refine attr_of hb (thn (he.run pins s σ H (fun _ _ => False) I ⟨G, F, ρ, A, R, st, en, ?_⟩) fun u s1 hh => ?_)
          · rw [hm]
            intro v o
            exact hc (excOwn o).2.1
          · obtain ⟨_, _, _, _, no⟩ := hh
            exact no.elim
    | _ => exact p.elim
/-- isinstance(e, C) -/
def isE (tab : Nat → Option Bool) (x : D) : Option D := match x with | .exc c _ => (tab c).map D.bl | _ => none
structure XIs (K : PySem.W.Frag) (cl : Tb) (cv : Value) (c : Nat) (b : Bool) : Prop where
  ex : ExcC K (cl c).at_
  kit : PySem.W.kitOne K (.ref (cl c).at_) cv = some b
theorem fq_isE {tab : Nat → Option Bool} {e g : Expr} {vc : V} {cv : Value} {m : Rho → Option D} {p : Pos} (ht : ∀ c b, tab c = some b → XIs X.K cl cv c b) (hz : L2N.Zn cls (some dd) oe) (hf : ∃ vs, oe.data = .fields vs) (hv : ∀ u, RelV vc u → u = cv)
    (hg : Gl X "isinstance") (hm : X.mg "isinstance" = none) (he : FQ (X.suite a ((a, oe) :: pn)) (cl.exc a dd cls) e m) (hc : PE (X.suite a ((a, oe) :: pn)) g (tC vc))
    (hs : starEach [e, g] X.env = (false, eval e X.env) :: starEach [g] X.env := by rfl) (hs' : starEach [g] X.env = [(false, eval g X.env)] := by rfl) (hpl : (backTo pos (starEach [g] X.env)).any (·.1) = false := by rfl) :
    FQ (X.suite a ((a, oe) :: pn)) (cl.exc a dd cls) (.Call (.Name "isinstance" p) [e, g] [] pos) (qUn (isE tab) m) := by
  refine ⟨fun pins s σ H Q I q => ?_⟩
  obtain ⟨G, F, ρ, A, R, st, en, p⟩ := q
  unfold qUn at p
  cases hx : m ρ with
  | none => rw [hx] at p; exact p.elim
  | some x =>
    rw [hx] at p
    cases x with
    | exc c ds =>
      have p' : match (tab c).map D.bl with | some d => ∀ v, Own X.K (cl.exc a dd cls) F H d v A → Q v H | none => False := p
      cases hb : tab c with
      | none => rw [hb] at p'; exact p'.elim
      | some b =>
        rw [hb] at p'
        have T := ht c b hb
        by_cases hcc : cls = .ref (cl c).at_
        · subst hcc
          refine (pe_callB (X := X.suite a ((a, oe) :: pn)) (call_isX T.ex hz.zc hf) hg hm (by decide +kernel) (pa_cons he (pa_cons hc pa_nil hs') hs) (by decide) (by decide) hs hpl).run pins s σ H Q I ?_
          refine ⟨G, F, ρ, A, R, st, en, ?_⟩
          rw [hx]
          intro v o
          obtain ⟨e1, _, xs, hF, os⟩ := excOwn o
          subst e1
          exact ⟨vc, cv, b, dd, _, rfl, hv, T.kit, rfl, st.sub _ _ hF, p' _ rfl⟩
        · refine (pe_callB (X := X.suite a ((a, oe) :: pn)) (id := "isinstance") (r := fun _ _ _ => False) (fun _ _ _ _ _ _ _ _ _ z => z.elim) hg hm (by decide +kernel) (pa_cons he (pa_cons hc pa_nil hs') hs) (by decide) (by decide) hs hpl).run pins s σ H Q I ?_
          refine ⟨G, F, ρ, A, R, st, en, ?_⟩
          rw [hx]
          intro v o
          exact hcc (excOwn o).2.1
    | _ => exact p.elim
/-- isinstance(e, (C, ..)) -/
def eIsE (tab : Nat → Option Bool) (m : Rho → Option D) : Rho → RX D := fun ρ => opt ((m ρ).bind (isE tab)) ρ
structure XIsT (K : PySem.W.Frag) (cl : Tb) (ws : List Value) (c : Nat) (b : Bool) : Prop where
  ex : ExcC K (cl c).at_
  kit : PySem.W.kitAny K (.ref (cl c).at_) ws = some b
theorem fe_isET {W : WX'} {tab : Nat → Option Bool} {e : Expr} {gs : List Expr} {vs : List V} {ws : List Value} {m : Rho → Option D} {tcs : TA} {p x1 p2} (ht : ∀ c b, tab c = some b → XIsT X.K cl ws c b) (hz : L2N.Zn cls (some dd) oe) (hf : ∃ vs, oe.data = .fields vs)
    (hv : Paired ClsV vs ws) (hl : vs.length ≤ 1000) (hg : Gl X "isinstance") (hm : X.mg "isinstance" = none) (he : FQ (X.suite a ((a, oe) :: pn)) (cl.exc a dd cls) e m) (hc : PA (X.suite a ((a, oe) :: pn)) gs tcs) (htc : ∀ σ H Q, Q vs H → tcs σ H Q)
    (hs : starEach [e, .Tuple gs x1 p2] X.env = (false, eval e X.env) :: starEach [.Tuple gs x1 p2] X.env := by rfl) (hs' : starEach [.Tuple gs x1 p2] X.env = [(false, eval (.Tuple gs x1 p2) X.env)] := by rfl) (hpl : (backTo pos (starEach [.Tuple gs x1 p2] X.env)).any (·.1) = false := by rfl) :
    FE (X.suite a ((a, oe) :: pn)) (cl.exc a dd cls) W (.Call (.Name "isinstance" p) [e, .Tuple gs x1 p2] [] pos) (eIsE tab m) := by
  refine ⟨fun pins s σ H Q I q => ?_⟩
  obtain ⟨G, F, ρ, A, R, st, en, p⟩ := q
  unfold eIsE opt at p
  cases hx : m ρ with
  | none => rw [hx] at p; exact p.elim
  | some x =>
    rw [hx] at p
    cases x with
    | exc c ds =>
      cases hb : tab c with
      | none => simp only [Option.bind_some, isE, hb] at p; exact p.elim
      | some b =>
        simp only [Option.bind_some, isE, hb, Option.map_some] at p
        have T := ht c b hb
        by_cases hcc : cls = .ref (cl c).at_
        · subst hcc
          refine (pe_callB (X := X.suite a ((a, oe) :: pn)) (call_isXT T.ex hz.zc hf) hg hm (by decide +kernel) (pa_cons he (pa_cons (pe_tup hc) pa_nil hs') hs) (by decide) (by decide) hs hpl).run pins s σ H Q I ?_
          refine ⟨G, F, ρ, A, R, st, en, ?_⟩
          rw [hx]
          intro v o
          obtain ⟨e1, _, xs, hF, os⟩ := excOwn o
          subst e1
          refine htc _ _ _ ⟨by rw [sizeLine_eq]; omega, fun t nt => ?_⟩
          obtain ⟨le, st2⟩ := lay_frozen (o := .tup vs) st nt
          have hF' : H dd = some (.xd ((cl c).fs.zip xs)) := st.sub _ _ hF
          have hdd : upd H t (.tup vs) dd = some (.xd ((cl c).fs.zip xs)) := by rw [upd_ne (ne_of_none hF' nt)]; exact hF'
          refine ⟨t, vs, ws, b, dd, _, rfl, upd_same, hv, T.kit, rfl, hdd, ?_⟩
          refine p (.bl b) _ _ A zf ⟨le, fun z hz => ?_, st2.less fun z => by show A z + (zf z + R z) ≤ A z + R z; unfold zf; omega, en.mono le (fun z hz => ?_) fun _ => Nat.le_refl _⟩ rfl
          · obtain ⟨_, _, u, h3⟩ := st.own z (by show 0 < A z + R z; omega)
            exact upd_ne (ne_of_none h3 nt)
          · obtain ⟨h1, _, u, h3⟩ := st.own z (by show 0 < A z + R z; omega)
            exact ⟨upd_ne (ne_of_none h3 nt), by rw [upd_ne (ne_of_none h3 nt)]; exact h1⟩
        · refine (pe_callB (X := X.suite a ((a, oe) :: pn)) (id := "isinstance") (r := fun _ _ _ => False) (fun _ _ _ _ _ _ _ _ _ z => z.elim) hg hm (by decide +kernel) (pa_cons he (pa_cons (pe_tup hc) pa_nil hs') hs) (by decide) (by decide) hs hpl).run pins s σ H Q I ?_
          refine ⟨G, F, ρ, A, R, st, en, ?_⟩
          rw [hx]
          intro v o
          exact (hcc (excOwn o).2.1).elim
    | _ => exact p.elim
end
/-! ### calls while an error is handled -/
structure FncH (P : Program) (w : World) (K : PySem.W.Frag) (mg : Str → Option Value) (base : Heap) (cl : Tb) (x : Str) (k n : Nat) (m : List D → RF) : Prop where
  ex : ∃ (f : Addr) (fd : FuncData) (ps : List Str), L2H.FnH P w K mg base (L2N.CX P w) k f fd ps (spF K cl n m) ∧ mg x = some (.ref f) ∧ PySem.W.keepIn K (.ref f) = true ∧ Binds K fd ps []
  len : ∀ l, m l ≠ .bad → l.length = n
theorem hotSuite {X : Cx} {a : Addr} {oe : Obj} {cls : Value} {d : Option Addr} {pn : List (Addr × Obj)} (hz : L2N.Zn cls d oe) (hf : ∃ vs, oe.data = .fields vs) : L2H.HotC (X.suite a ((a, oe) :: pn)) := by
  obtain ⟨vs, hv⟩ := hf
  exact ⟨(a, oe), ⟨rfl, vs, hv, hz.2.2 vs hv⟩, List.mem_cons_self⟩
theorem takesN0 {X : Cx} : L2N.Takes X W0 := fun _ _ z => by
  obtain ⟨_, _, _, _, _, _, _, _, _, _, _, _, _, _, _, _, no⟩ := z
  exact no.elim
section
variable {X : Cx} {cl : Tb} {W : WX'} {pos : Pos}
theorem fe_callH {x : Str} {k n : Nat} {m : List D → RF} {p : Pos} {e : Expr} {es : List Expr} {a : Rho → RX (List D)} (Fc : FncH X.prog X.w X.K X.mg X.base cl x k n m) (hr : L2H.RoomH k X.A) (hot : L2H.HotC X) (hg : Gl X x) (tk : L2N.Takes X W) (ha : FA X cl W (e :: es) a)
    (hdb : (x == ("__debug__" : Str)) = false := by decide) (he : starEach (e :: es) X.env = (false, eval e X.env) :: starEach es X.env := by rfl) (hpl : (backTo pos (starEach es X.env)).any (·.1) = false := by rfl) : FE X cl W (.Call (.Name x p) (e :: es) [] pos) (eCall m [] a) := by
  obtain ⟨⟨f, fd, ps, h1, h2, h3, h4⟩, hl⟩ := Fc
  refine PE_imp (L2H.pe_callH h1 hr hot hg h2 h3 h4 (L2N.passAt tk) ha hdb he hpl) fun σ H Q q => ?_
  have z := call_imp (X := X) (cl := cl) (W := W) (dd := []) (dv := []) (a := a) (n := n) (m := m) (fun F H => show ([] : List V) = [] from rfl) hl σ H Q q
  simpa only [tCallSD, tCallS, List.append_nil] using z
theorem fs_forH {tg a : Expr} {body : List Stmt} {p q : Pos} {m : Rho → RX (List D)} {g : D → Rho → Option Rho} {b : Rho → RS} {vs : List Nat} (hp : PassesOwn (model X.prog X.w) X.A X.env X.xe) (hot : L2H.HotC X) (hgl : Gl X "range") (hm : X.mg "range" = none) (ha : FA X cl W [a] m) (hg : FG X cl tg vs g) (hb : FSs X cl W body b)
    (h1 : starEach [a] X.env = [(false, eval a X.env)] := by rfl) (hs : ∀ x, foldedSetIterable (.Call (.Name "range" p) [a] [] q) X.env x = pure x := by intro _; rfl) : FS X cl W (.For tg (.Call (.Name "range" p) [a] [] q) body [] pos) (sFor (iRg1 m) g b) := by
  have pi := L2H.pi_range1H (tg := tg) (p := p) (pos := q) hgl hm ha h1
  have pi2 : L2H.PIH X tg (.Call (.Name "range" p) [a] [] q) (tX X.K cl W (rIt X.K cl) (iRg1 m)) := ⟨fun pins s σ H R' I z => pi.run pins s σ H R' I (rg1_imp z)⟩
  exact PS_imp (L2H.ps_forH hp hot pi2 hg hb hs) fun E σ H z => for_imp E σ H z
end
section
variable {cl : Tb} {P : Program} {w : World} {K : PySem.W.Frag} {mg : Str → Option Value} {base : Heap}
theorem hot_cx {N : List Str} {qual : Str} {scope : Scope} {f : Addr} {cd : Value} {A : Around} {outer : List Env} {s : Shared} {H : Hp} {E : XK} {p : Addr × Obj} (h : L2H.Hot1 A p) : L2H.HotC (L2H.cxH (L2N.CX P w) P w K mg base N qual scope f cd A outer s H E p) := ⟨p, ⟨h.1, h.2⟩, List.mem_singleton.mpr rfl⟩
theorem tkH_of {N : List Str} {qual : Str} {scope : Scope} {f : Addr} {cd : Value} {A : Around} {outer : List Env} {s : Shared} {H : Hp} {E : XK} {p : Addr × Obj} : L2N.Takes (L2H.cxH (L2N.CX P w) P w K mg base N qual scope f cd A outer s H E p) (fun c d _ H => E c d H) := L2N.takes_of rfl rfl rfl rfl
theorem pwH_of {N : List Str} {qual : Str} {scope : Scope} {f : Addr} {cd : Value} {A : Around} {outer : List Env} {s : Shared} {H : Hp} {E : XK} {p : Addr × Obj} : PassesOwn (model (L2H.cxH (L2N.CX P w) P w K mg base N qual scope f cd A outer s H E p).prog (L2H.cxH (L2N.CX P w) P w K mg base N qual scope f cd A outer s H E p).w) (L2H.cxH (L2N.CX P w) P w K mg base N qual scope f cd A outer s H E p).A
  (L2H.cxH (L2N.CX P w) P w K mg base N qual scope f cd A outer s H E p).env (L2H.cxH (L2N.CX P w) P w K mg base N qual scope f cd A outer s H E p).xe := passes_of rfl
theorem fn_H {x qual : Str} {st : Stmt} {f : Addr} {fd : FuncData} {N ps : List Str} {k n nN : Nat} {b : Rho → RS} (Fn : Fun K x qual st f fd) (S : FnScope N ps (defScope st)) (hn : n = ps.length) (hN : nN = N.length)
    (hb : ∀ (c : Value) (A : Around) (outer : List Env) (s : Shared) (H : Hp) (E : XK) (p : Addr × Obj), L2H.HotC (L2H.cxH (L2N.CX P w) P w K mg base N qual (defScope st) f c A outer s H E p) → L2H.RoomH k (A.deeper (envOfC qual (defScope st) s.heap.objs.size f c)) →
      FSs (L2H.cxH (L2N.CX P w) P w K mg base N qual (defScope st) f c A outer s H E p) cl (fun c d _ H => E c d H) (defBody st) b) :
    L2H.FnH P w K mg base (L2N.CX P w) (k + 1) f fd ps (spF K cl n (runF n nN b)) := by
  obtain ⟨_, _, _, _, _, _, c, _, _, e, lk, hc⟩ := Fn.ex
  subst e
  refine L2H.fn_ofH lk hc S (fun vs H Q E h => h.1.trans hn) fun A outer s H vs Q E p hot hr h => ?_
  refine ⟨_, hb c A outer s H E p (hot_cx hot) hr, ?_⟩
  obtain ⟨hl, F, ds, le, os, q⟩ := h
  have hds : ds.length = vs.length := Owns.length os
  refine ⟨⟨H, F⟩, F, ds.map some ++ List.replicate (nN - ds.length) none, zf, zf, ⟨le, Le.refl, Le.refl, fun a o z => .inl z, fun a z => absurd z (Nat.lt_irrefl _), fun a => Nat.zero_le _, fun a _ z => absurd z (Nat.lt_irrefl _)⟩, ?_, ?_⟩
  · show EnvR K cl F H (ds.map some ++ List.replicate (nN - ds.length) none) (vs.map some ++ List.replicate (N.length - vs.length) none) zf
    rw [hN, hds]
    exact EnvR.args os (EnvR.none_all _)
  · unfold runF at q
    have hdn : ds.length = n := hds.trans hl
    rw [if_pos hdn, ← hdn] at q
    cases hr2 : b (ds.map some ++ List.replicate (nN - ds.length) none) with
    | nx ρ => rw [hr2] at q; exact fun σ F' H' A' z => q .non F' H' zf z.le z.st.ent (z.st.less fun x => by show zf x ≤ _; exact Nat.zero_le _) rfl
    | rt d => rw [hr2] at q; exact fun v F' H' B z o => q v F' H' B z.le z.st.ent (z.st.less fun x => by show B x ≤ zf x + (B x + zf x); omega) o
    | ex c2 xs ρ => rw [hr2] at q; exact fun u d σ F' H' A' z o => q u d F' H' z.le z.st.ent (z.st.less fun x => by show zf x ≤ _; exact Nat.zero_le _) o
    | bk ρ => rw [hr2] at q; exact q.elim
    | ct ρ => rw [hr2] at q; exact q.elim
    | bad => rw [hr2] at q; exact q.elim
theorem fncH_mk {x : Str} {k n : Nat} {m : List D → RF} {f : Addr} {fd : FuncData} {ps : List Str} (Fn : L2H.FnH P w K mg base (L2N.CX P w) k f fd ps (spF K cl n m)) (hm : mg x = some (.ref f)) (hk : PySem.W.keepIn K (.ref f) = true) (hb : Binds K fd ps []) (hl : ∀ l, m l ≠ .bad → l.length = n) : FncH P w K mg base cl x k n m := ⟨⟨f, fd, ps, Fn, hm, hk, hb⟩, hl⟩
end
/-! ### small things -/
theorem ClsT.exc {K : PySem.W.Frag} {mg : Str → Option Value} {cl : Tb} {c : Nat} {nm : Str} {fl : List Str} (T : ClsT K mg cl c nm fl) (a dd : Addr) (cv : Value) : ClsT K mg (cl.exc a dd cv) c nm fl := ⟨T.mgC, T.fse, T.cls, T.no, T.ins, T.fst, T.kit⟩
theorem XCl.to {P : Program} {w : World} {K : PySem.W.Frag} {mg : Str → Option Value} {base : Heap} {cl cl' : Tb} {c : Nat} {x : Str} (h : XCl P w K mg base cl c x) (e : cl'.of = cl.of) : XCl P w K mg base cl' c x := by
  have e1 : cl' c = cl c := congrFun e c
  exact ⟨by rw [e1]; exact h.mgC, by rw [e1]; exact h.oex, by rw [e1]; exact h.ex⟩
theorem kit_ref {K : PySem.W.Frag} {C C' : Addr} {b : Bool} (h1 : PySem.W.isClsIn K C' = true) (h2 : PySem.W.typeIn K (.ref C') = some (.type "type")) (h3 : PySem.W.subIn K (.ref C) (.ref C') = some b) (h4 : PySem.W.subIn K (.ref C) (.ref C) = some true) : PySem.W.kitOne K (.ref C) (.ref C') = some b := by
  unfold PySem.W.kitOne
  by_cases e : C = C'
  · subst e
    rw [h4] at h3
    cases h3
    rw [if_pos (by simp)]
  · rw [if_neg (by simpa using e)]
    unfold PySem.W.kitCls
    have h1' : (PySem.W.clsIn K C').isSome = true := h1
    simp only [h1', h2, beq_self_eq_true, Bool.and_self, if_true]
    exact h3
theorem kit_type {K : PySem.W.Frag} {C : Addr} {T : String} {b : Bool} (h1 : PySem.W.kitMeta T = true) (h3 : PySem.W.subIn K (.ref C) (.type T) = some b) : PySem.W.kitOne K (.ref C) (.type T) = some b := by
  unfold PySem.W.kitOne
  rw [if_neg (by simp)]
  unfold PySem.W.kitCls
  simp only [h1, if_true]
  exact h3
theorem kitAny_of {K : PySem.W.Frag} {t : Value} {cs : List Value} {bs : List Bool} (p : Paired (fun c b => PySem.W.kitOne K t c = some b) cs bs) : PySem.W.kitAny K t cs = some (bs.any id) := by
  induction p with
  | nil => rfl
  | @cons c b cs bs h r ih =>
    unfold PySem.W.kitAny
    rw [h]
    cases b with
    | true => rfl
    | false => exact ih
/-! ### a def that calls itself while an error is handled -/
section
variable {P : Program} {w : World} {K : PySem.W.Frag} {cl : Tb} {mg : Str → Option Value} {base : Heap}
theorem fnH_bad {f : Addr} {fd : FuncData} {ps : List Str} {k n : Nat} (hn : n = ps.length) : L2H.FnH P w K mg base (L2N.CX P w) k f fd ps (spF K cl n mBad) := by
  refine ⟨fun vs H Q E h => ?_, fun A outer s H args us vs Q E p _ _ _ _ _ _ h => ?_⟩
  · obtain ⟨_, _, _, _, _, q⟩ := h
    exact q.elim
  · obtain ⟨_, _, _, _, _, q⟩ := h
    exact q.elim
theorem fnH_fuel {f : Addr} {fd : FuncData} {ps : List Str} {k n : Nat} {g : (List D → RF) → List D → RF} (hn : n = ps.length)
    (hg : ∀ j m, (∀ l, m l ≠ .bad → l.length = n) → L2H.FnH P w K mg base (L2N.CX P w) (k + 1 + j) f fd ps (spF K cl n m) → L2H.FnH P w K mg base (L2N.CX P w) (k + 1 + j + 1) f fd ps (spF K cl n (g m)))
    (hl : ∀ f l, g f l ≠ .bad → l.length = n) : ∀ j, L2H.FnH P w K mg base (L2N.CX P w) (k + 1 + j) f fd ps (spF K cl n (fuel g j))
  | 0 => fnH_bad hn
  | j + 1 => hg j _ (fuel_len hl j) (fnH_fuel hn hg hl j)
end
/-! ### readings of an error's __init__ -/
theorem spx_1 {ys : List V} (h : ys.length = 1) : ∃ y0, ys = [y0] := by
  match ys, h with
  | [a], _ => exact ⟨a, rfl⟩
theorem spx_2 {ys : List V} (h : ys.length = 2) : ∃ y0 y1, ys = [y0, y1] := by
  match ys, h with
  | [a, b], _ => exact ⟨a, b, rfl⟩
theorem spx_3 {ys : List V} (h : ys.length = 3) : ∃ y0 y1 y2, ys = [y0, y1, y2] := by
  match ys, h with
  | [a, b, c], _ => exact ⟨a, b, c, rfl⟩
theorem spx_4 {ys : List V} (h : ys.length = 4) : ∃ y0 y1 y2 y3, ys = [y0, y1, y2, y3] := by
  match ys, h with
  | [a, b, c, d], _ => exact ⟨a, b, c, d, rfl⟩
theorem lookup_snoc {f : Str} {y : V} : ∀ {fs : List (Str × V)}, (fs.map (·.1)).elem f = false → ∀ g, ((f, y) :: fs).lookup g = (fs ++ [(f, y)]).lookup g
  | [], _, g => rfl
  | (k, v) :: fs, h, g => by
    rw [List.map_cons, List.elem_cons] at h
    have hk : (f == k) = false := by revert h; cases (f == k) <;> simp
    have hr : (fs.map (·.1)).elem f = false := by revert h; cases (f == k) <;> simp
    have ih := lookup_snoc (y := y) hr g
    rw [List.cons_append, List.lookup_cons, List.lookup_cons, List.lookup_cons]
    rw [List.lookup_cons] at ih
    by_cases e : g = f
    · subst e
      rw [hk]
      simp only [beq_self_eq_true] at ih ⊢
      exact ih
    · rw [beq_eq_false_iff_ne.mpr e] at ih ⊢
      cases (g == k) with
      | true => rfl
      | false => exact ih
theorem spx_step {H : Hp} {a d : Addr} {u : HO} {f : Str} {y : V} {fs : List (Str × V)} {ks : List Str} (ne : d ≠ a) (hk : fs.map (·.1) = ks) (h : ks.elem f = false) : upd (upd (upd H d (exd d fs)) a u) d (exd d ((f, y) :: fs)) = upd (upd H d (exd d (fs ++ [(f, y)]))) a u := by
  rw [upd_again ne, exd_ext (lookup_snoc (by rw [hk]; exact h))]
end FL

set_option Elab.async false
set_option linter.all false
set_option maxRecDepth 100000
set_option maxHeartbeats 1000000
namespace FL
open PySem L2
open PyProof.Rows (envOfC)
/-! ### a part of the program that only looks -/
mutual
/-- no frozen list, no frozen dict stands in it -/
def D.noL : D → Bool
  | .non => true | .bl _ => true | .int _ => true | .str _ => true
  | .tup ds => D.noLs ds | .lst _ => false | .vec ds => D.noLs ds
  | .obj _ ds => D.noLs ds | .mobj _ _ => false | .exc _ _ => false
  | .dT _ _ => false | .vT _ ds => D.noLs ds | .dK _ _ => false | .vK _ ds => D.noLs ds | .val _ => true
def D.noLs : List D → Bool
  | [] => true
  | d :: ds => d.noL && D.noLs ds
end
def HdOk (H : Hp) (a : Addr) : Prop := (∃ xs, H a = some (.lst xs)) ∨ (∃ k, H a = some (.dT k)) ∨ ∃ k, H a = some (.dK k)
section
variable {K : PySem.W.Frag} {cl : Tb} {F F' H H' : Hp}
/-- the least footprint -/
def MinOf (H : Hp) (A : Fp) (P : Fp → Prop) : Prop := ∃ B : Fp, (∀ x, B x ≤ A x) ∧ P B ∧ ∀ x, 0 < B x → HdOk H x
theorem MinOf.imp {A : Fp} {P P' : Fp → Prop} (h : MinOf H A P) (i : ∀ B, P B → P' B) : MinOf H A P' := by
  obtain ⟨B, h1, h2, h3⟩ := h
  exact ⟨B, h1, i B h2, h3⟩
theorem MinOf.zero {A : Fp} {P : Fp → Prop} (h : P zf) : MinOf H A P := ⟨zf, fun _ => Nat.zero_le _, h, fun x hx => absurd hx (Nat.lt_irrefl _)⟩
theorem MinOf.plus {A B : Fp} {a : Addr} {P : Fp → Prop} (h : MinOf H B P) (hd : HdOk H a) (hs : ∀ x, one a x + B x ≤ A x) : MinOf H A fun C => ∃ B', P B' ∧ ∀ x, one a x + B' x ≤ C x := by
  obtain ⟨C, h1, h2, h3⟩ := h
  refine ⟨fun x => one a x + C x, fun x => by have := hs x; have := h1 x; show one a x + C x ≤ A x; omega, ⟨C, h2, fun _ => Nat.le_refl _⟩, fun x hx => ?_⟩
  by_cases hc : 0 < C x
  · exact h3 x hc
  · have hx' : 0 < one a x + C x := hx
    have : 0 < one a x := by omega
    unfold one at this
    split at this
    · rename_i e; rw [e]; exact hd
    · omega
mutual
theorem Own.min (hs : cl.sf = none) : ∀ {d : D} {v : V} {A : Fp}, Own K cl F H d v A → MinOf H A (Own K cl F H d v)
  | .non, _, _, h => .zero h
  | .bl _, _, _, h => .zero h
  | .int _, _, _, h => .zero h
  | .str _, _, _, h => .zero h
  | .tup ds, v, A, h => by obtain ⟨a, xs, e, q, r⟩ := h; exact (Owns.min hs r).imp fun B r => ⟨a, xs, e, q, r⟩
  | .lst ds, v, A, h => by obtain ⟨a, xs, e, q, r⟩ := h; exact (Owns.min hs r).imp fun B r => ⟨a, xs, e, q, r⟩
  | .vec ds, v, A, h => by
    obtain ⟨a, xs, B, e, n, q, r, s⟩ := h
    exact ((Owns.min hs r).plus (.inl ⟨_, q⟩) s).imp fun C ⟨B', r, s⟩ => ⟨a, xs, B', e, n, q, r, s⟩
  | .obj c ds, v, A, h => by obtain ⟨a, dx, xs, e, q, z, r⟩ := h; exact (Owns.min hs r).imp fun B r => ⟨a, dx, xs, e, q, z, r⟩
  | .mobj c ds, v, A, h => by
    obtain ⟨a, dx, xs, B, ⟨e, ea⟩, n, q, z, r, s⟩ := h
    rw [hs] at ea
    cases ea
  | .exc c ds, v, A, h => by obtain ⟨xs, e, q, z, r⟩ := h; exact (Owns.min hs r).imp fun B r => ⟨xs, e, q, z, r⟩
  | .dT ks ds, v, A, h => by obtain ⟨a, xs, e, q, z, r⟩ := h; exact (Owns.min hs r).imp fun B r => ⟨a, xs, e, q, z, r⟩
  | .dK ks ds, v, A, h => by obtain ⟨a, xs, e, q, z, r⟩ := h; exact (Owns.min hs r).imp fun B r => ⟨a, xs, e, q, z, r⟩
  | .vT ks ds, v, A, h => by
    obtain ⟨a, xs, B, e, n, q, z, r, s⟩ := h
    exact ((Owns.min hs r).plus (.inr (.inl ⟨_, q⟩)) s).imp fun C ⟨B', r, s⟩ => ⟨a, xs, B', e, n, q, z, r, s⟩
  | .vK ks ds, v, A, h => by
    obtain ⟨a, xs, B, e, n, q, z, r, s⟩ := h
    exact ((Owns.min hs r).plus (.inr (.inr ⟨_, q⟩)) s).imp fun C ⟨B', r, s⟩ => ⟨a, xs, B', e, n, q, z, r, s⟩
  | .val _, _, _, h => .zero h
theorem Owns.min (hs : cl.sf = none) : ∀ {ds : List D} {vs : List V} {A : Fp}, Owns K cl F H ds vs A → MinOf H A (Owns K cl F H ds vs)
  | [], _, _, h => .zero h
  | d :: ds, vs, A, h => by
    obtain ⟨v, r, B, C, e, p, q, s⟩ := h
    obtain ⟨B1, b1, p1, k1⟩ := Own.min hs p
    obtain ⟨C1, c1, q1, l1⟩ := Owns.min hs q
    refine ⟨fun x => B1 x + C1 x, fun x => by have := s x; have := b1 x; have := c1 x; show B1 x + C1 x ≤ A x; omega, ⟨v, r, B1, C1, e, p1, q1, fun _ => Nat.le_refl _⟩, fun x hx => ?_⟩
    by_cases h : 0 < B1 x
    · exact k1 x h
    · exact l1 x (by have hx' : 0 < B1 x + C1 x := hx; omega)
end
theorem EnvR.min (hs : cl.sf = none) : ∀ {ρ : Rho} {σ : St} {A : Fp}, EnvR K cl F H ρ σ A → MinOf H A (EnvR K cl F H ρ σ)
  | [], _, _, h => .zero h
  | none :: ρ, σ, A, h => by obtain ⟨s, r, e, h⟩ := h; exact (EnvR.min hs h).imp fun B h => ⟨s, r, e, h⟩
  | some d :: ρ, σ, A, h => by
    obtain ⟨v, r, B, C, e, p, q, s⟩ := h
    obtain ⟨B1, b1, p1, k1⟩ := Own.min hs p
    obtain ⟨C1, c1, q1, l1⟩ := EnvR.min hs q
    refine ⟨fun x => B1 x + C1 x, fun x => by have := s x; have := b1 x; have := c1 x; show B1 x + C1 x ≤ A x; omega, ⟨v, r, B1, C1, e, p1, q1, fun _ => Nat.le_refl _⟩, fun x hx => ?_⟩
    by_cases h : 0 < B1 x
    · exact k1 x h
    · exact l1 x (by have hx' : 0 < B1 x + C1 x := hx; omega)
theorem rd_unfz (k : ∀ a o, F a = some o → F' a = none → HdOk F a) {a : Addr} {u : HO} (hu : ∀ xs, u ≠ .lst xs) (hu1 : ∀ k, u ≠ .dT k) (hu2 : ∀ k, u ≠ .dK k) (l : Le F' F) (h : F a = some u) : F' a = some u := by
  cases e : F' a with
  | none =>
    rcases k a u h e with ⟨_, z⟩ | ⟨_, z⟩ | ⟨_, z⟩
    · rw [h] at z; injection z with z; exact absurd z (hu _)
    · rw [h] at z; injection z with z; exact absurd z (hu1 _)
    · rw [h] at z; injection z with z; exact absurd z (hu2 _)
  | some w => rw [← h, l a w e]
theorem sqT_unfz {a : Addr} {xs : List V} (k : ∀ a o, F a = some o → F' a = none → HdOk F a) (l : Le F' F) (h : SqT K F a xs) : SqT K F' a xs := by
  rcases h with (h | ⟨o, h⟩) | h
  · exact .inl (.inl (rd_unfz k (fun _ z => nomatch z) (fun _ z => nomatch z) (fun _ z => nomatch z) l h))
  · exact .inl (.inr ⟨o, rd_unfz k (fun _ z => nomatch z) (fun _ z => nomatch z) (fun _ z => nomatch z) l h⟩)
  · exact .inr h
mutual
/-- what was frozen for a while is let go: F' is F without it -/
theorem Own.unfz (k : ∀ a o, F a = some o → F' a = none → HdOk F a) (l : Le F' F) : ∀ {d : D} {v : V} {A : Fp}, d.noL = true → Own K cl F H d v A → Own K cl F' H d v A
  | .non, _, _, _, h => h
  | .bl _, _, _, _, h => h
  | .int _, _, _, _, h => h
  | .str _, _, _, _, h => h
  | .tup ds, v, A, p, h => by
    obtain ⟨a, xs, e, q, r⟩ := h
    exact ⟨a, xs, e, ⟨sqT_unfz k l q.1, fun z => rd_unfz k (fun _ z => nomatch z) (fun _ z => nomatch z) (fun _ z => nomatch z) l (q.2 z)⟩, Owns.unfz k l p r⟩
  | .lst ds, v, A, p, h => by cases p
  | .vec ds, v, A, p, h => by
    obtain ⟨a, xs, B, e, n, q, r, s⟩ := h
    refine ⟨a, xs, B, e, ?_, q, Owns.unfz k l p r, s⟩
    cases z : F' a with
    | none => rfl
    | some w => rw [l a w z] at n; cases n
  | .obj c ds, v, A, p, h => by
    obtain ⟨a, dx, xs, e, q, z, r⟩ := h
    exact ⟨a, dx, xs, e, rd_unfz k (fun _ z => nomatch z) (fun _ z => nomatch z) (fun _ z => nomatch z) l q, z, Owns.unfz k l p r⟩
  | .mobj c ds, v, A, p, h => by cases p
  | .exc c ds, v, A, p, h => by cases p
  | .dT ks ds, v, A, p, h => by cases p
  | .dK ks ds, v, A, p, h => by cases p
  | .vT ks ds, v, A, p, h => by
    obtain ⟨a, xs, B, e, n, q, z, r, s⟩ := h
    refine ⟨a, xs, B, e, ?_, q, z, Owns.unfz k l p r, s⟩
    cases z : F' a with
    | none => rfl
    | some w => rw [l a w z] at n; cases n
  | .vK ks ds, v, A, p, h => by
    obtain ⟨a, xs, B, e, n, q, z, r, s⟩ := h
    refine ⟨a, xs, B, e, ?_, q, z, Owns.unfz k l p r, s⟩
    cases z : F' a with
    | none => rfl
    | some w => rw [l a w z] at n; cases n
  | .val _, _, _, _, h => h
theorem Owns.unfz (k : ∀ a o, F a = some o → F' a = none → HdOk F a) (l : Le F' F) : ∀ {ds : List D} {vs : List V} {A : Fp}, D.noLs ds = true → Owns K cl F H ds vs A → Owns K cl F' H ds vs A
  | [], _, _, _, h => h
  | d :: ds, vs, A, p, h => by
    obtain ⟨v, r, B, C, e, q, t, s⟩ := h
    have p' : d.noL = true ∧ D.noLs ds = true := by simpa [D.noLs] using p
    exact ⟨v, r, B, C, e, Own.unfz k l p'.1 q, Owns.unfz k l p'.2 t, s⟩
end
/-- the slots of the mask, frozen -/
def brw : List Bool → Rho → Rho
  | _, [] => []
  | [], _ :: ρ => none :: brw [] ρ
  | true :: m, o :: ρ => o.map D.frz :: brw m ρ
  | false :: m, _ :: ρ => none :: brw m ρ
theorem EnvR.brw {F1 : Hp} (le : Le F F1) : ∀ (m : List Bool) {ρ : Rho} {σ : St} {A : Fp}, EnvR K cl F H ρ σ A → (∀ a, 0 < A a → F1 a = H a) → EnvR K cl F1 H (FL.brw m ρ) σ zf
  | m, [], σ, A, h, _ => by cases m <;> exact h
  | [], none :: ρ, σ, A, h, k => by obtain ⟨s, r, e, h⟩ := h; exact ⟨s, r, e, EnvR.brw le [] h k⟩
  | true :: m, none :: ρ, σ, A, h, k => by obtain ⟨s, r, e, h⟩ := h; exact ⟨s, r, e, EnvR.brw le m h k⟩
  | false :: m, none :: ρ, σ, A, h, k => by obtain ⟨s, r, e, h⟩ := h; exact ⟨s, r, e, EnvR.brw le m h k⟩
  | [], some d :: ρ, σ, A, h, k => by
    obtain ⟨v, r, B, C, e, p, q, s⟩ := h
    exact ⟨some v, r, e, EnvR.brw le [] q fun a ha => k a (by have := s a; omega)⟩
  | false :: m, some d :: ρ, σ, A, h, k => by
    obtain ⟨v, r, B, C, e, p, q, s⟩ := h
    exact ⟨some v, r, e, EnvR.brw le m q fun a ha => k a (by have := s a; omega)⟩
  | true :: m, some d :: ρ, σ, A, h, k => by
    obtain ⟨v, r, B, C, e, p, q, s⟩ := h
    exact ⟨v, r, zf, zf, e, p.freeze le fun a ha => k a (by have := s a; omega), EnvR.brw le m q fun a ha => k a (by have := s a; omega), fun _ => Nat.le_refl _⟩
end
/-- a part that only looks at the slots of the mask: they stay as they are -/
def eBor (msk : List Bool) (m : Rho → RX D) : Rho → RX D := fun ρ => match m (brw msk ρ) with
  | .ok d _ => if d.noL then .ok d ρ else .bad
  | .ex c ds _ => if D.noLs ds then .ex c ds ρ else .bad
  | .bad => .bad
section
variable {X : Cx} {cl : Tb} {W : WX'} {pos : Pos}
theorem fe_bor {e : Expr} {m : Rho → RX D} (hsf : cl.sf = none) (msk : List Bool) (h : FE X cl W e m) : FE X cl W e (eBor msk m) := PE_imp h fun σ H Q q => by
  obtain ⟨G, F, ρ, A', R, st', en', p⟩ := q
  obtain ⟨A, hA, en, hd⟩ := EnvR.min hsf en'
  have st : Sta G F H (fun x => zf x + (A x + R x)) := st'.less fun x => by have := hA x; show zf x + (A x + R x) ≤ A' x + R x; unfold zf; omega
  have own : ∀ a, 0 < A a → F a = none ∧ G.E a = none ∧ ∃ o, H a = some o := fun a ha => st.own a (by show 0 < zf a + (A a + R a); omega)
  have one1 : ∀ a, A a + R a ≤ 1 := fun a => by have h : zf a + (A a + R a) ≤ 1 := st.nd a; unfold zf at h; omega
  obtain ⟨le1, st1⟩ := fz_st st
  have en1 : EnvR X.K cl (FL.fz F H A) H (FL.brw msk ρ) σ zf := en.brw le1 msk fun a ha => fz_at ha
  refine ⟨G, FL.fz F H A, FL.brw msk ρ, zf, R, st1, en1, ?_⟩
  -- behind it
  have after : ∀ {F' H' : Hp} {ρ' : Rho} {C B : Fp}, Ev X.K cl G (FL.fz F H A) H R F' H' σ ρ' C B →
      Ev X.K cl G F H R (fun a => if 0 < A a then none else F' a) H' σ ρ A B ∧ Le (fun a => if 0 < A a then none else F' a) F' ∧ ∀ a o, F' a = some o → (if 0 < A a then none else F' a) = none → HdOk F' a := fun {F' H' ρ' C B} e => by
    have same : ∀ a, 0 < A a → F' a = H a ∧ H' a = H a := fun a ha => by
      obtain ⟨_, _, o, ho⟩ := own a ha
      have h1 : FL.fz F H A a = some o := by rw [fz_at ha]; exact ho
      have h2 := e.le a o h1
      exact ⟨h2.trans ho.symm, (e.st.sub a o h2).trans ho.symm⟩
    have gone : ∀ a, 0 < A a → B a + R a = 0 := fun a ha => by
      obtain ⟨_, _, o, ho⟩ := own a ha
      have h2 : F' a = some o := (same a ha).1.trans ho
      by_cases hz : 0 < C a + (B a + R a)
      · rw [(e.st.own a hz).1] at h2; cases h2
      · omega
    have pos_ : ∀ a, ¬ 0 < A a → (if 0 < A a then none else F' a) = F' a := fun a ha => if_neg ha
    refine ⟨⟨fun a o h => ?_, e.ag, ⟨fun a o h => ?_, e.st.ent, fun a o h => ?_, fun a o h => ?_, fun a ha => ?_, fun a => ?_, fun a xs ha => ?_⟩, ?_⟩, fun a o h => ?_, fun a o h z => ?_⟩
    · have ha : ¬ 0 < A a := fun ha => by rw [(own a ha).1] at h; cases h
      show (if 0 < A a then none else F' a) = some o
      rw [if_neg ha]
      exact e.le a o (le1 a o h)
    · have h' : (if 0 < A a then none else F' a) = some o := h
      split at h'
      · cases h'
      · exact e.st.sub a o h'
    · have ha : ¬ 0 < A a := fun ha => by have := st.low a o h; rw [(own a ha).1] at this; cases this
      show (if 0 < A a then none else F' a) = some o
      rw [if_neg ha]
      exact e.st.low a o h
    · have h' : (if 0 < A a then none else F' a) = some o := h
      split at h'
      · cases h'
      · exact e.st.fr a o h'
    · by_cases h : 0 < A a
      · refine ⟨if_pos h, (own a h).2.1, ?_⟩
        obtain ⟨_, _, o, ho⟩ := own a h
        exact ⟨o, (same a h).2.trans ho⟩
      · have ha' : 0 < A a + (B a + R a) := ha
        obtain ⟨h1, h2, h3⟩ := e.st.own a (by show 0 < C a + (B a + R a); omega)
        exact ⟨(if_neg h).trans h1, h2, h3⟩
    · show A a + (B a + R a) ≤ 1
      by_cases h : 0 < A a
      · have := gone a h; have := one1 a; omega
      · have q : C a + (B a + R a) ≤ 1 := e.st.nd a; omega
    · by_cases h : 0 < A a
      · rw [(same a h).2]; exact st.nt a xs (by show 0 < zf a + (A a + R a); omega)
      · have ha' : 0 < A a + (B a + R a) := ha
        exact e.st.nt a xs (by show 0 < C a + (B a + R a); omega)
    · refine en.mono (fun a o h => ?_) (fun a ha => ⟨(same a ha).2, if_pos ha⟩) fun _ => Nat.le_refl _
      have ha : ¬ 0 < A a := fun ha => by rw [(own a ha).1] at h; cases h
      show (if 0 < A a then none else F' a) = some o
      rw [if_neg ha]
      exact e.le a o (le1 a o h)
    · have h' : (if 0 < A a then none else F' a) = some o := h
      split at h'
      · cases h'
      · exact h'
    · by_cases ha : 0 < A a
      · have hh := hd a ha
        unfold HdOk at hh ⊢
        rw [(same a ha).1]
        exact hh
      · rw [if_neg ha, h] at z; cases z
  unfold eBor at p
  cases hm : m (FL.brw msk ρ) with
  | ok d ρ1 =>
    rw [hm] at p
    dsimp only at p
    by_cases hl : d.noL = true
    · rw [if_pos hl] at p
      intro v F' H' C B e o
      obtain ⟨e2, l2, k2⟩ := after e
      refine (show Pst X.K cl W (rD X.K cl) G F H σ R (.ok d ρ) Q from p) v _ H' A B e2 ?_
      exact Own.unfz k2 l2 hl o
    · rw [if_neg hl] at p; exact p.elim
  | ex c ds ρ1 =>
    rw [hm] at p
    dsimp only at p
    by_cases hl : D.noLs ds = true
    · rw [if_pos hl] at p
      intro u dd F' H' C e x
      obtain ⟨e2, l2, k2⟩ := after e
      obtain ⟨x1, dd', xs, x2, x3, x4, x5⟩ := x
      refine (show Pst X.K cl W (rD X.K cl) G F H σ R (.ex c ds ρ) Q from p) u dd _ H' A e2 ⟨x1, dd', xs, x2, ?_, x4, ?_⟩
      · exact rd_unfz k2 (fun _ z => nomatch z) (fun _ z => nomatch z) (fun _ z => nomatch z) l2 x3
      · exact zero_owns (Owns.unfz k2 l2 hl x5) Le.refl
    · rw [if_neg hl] at p; exact p.elim
  | bad => rw [hm] at p; exact p
end
/-! ### a body at a table without an instance that is being made -/
section
variable {K : PySem.W.Frag} {cl : Tb} {F H : Hp}
mutual
theorem Own.ofNone {x : Option Addr} : ∀ {d : D} {v : V} {A : Fp}, Own K (cl.at' none) F H d v A → Own K (cl.at' x) F H d v A
  | .non, _, _, h => h
  | .bl _, _, _, h => h
  | .int _, _, _, h => h
  | .str _, _, _, h => h
  | .tup ds, v, A, h => by obtain ⟨a, xs, e, q, r⟩ := h; exact ⟨a, xs, e, q, Owns.ofNone r⟩
  | .lst ds, v, A, h => by obtain ⟨a, xs, e, q, r⟩ := h; exact ⟨a, xs, e, q, Owns.ofNone r⟩
  | .vec ds, v, A, h => by obtain ⟨a, xs, B, e, n, q, r, s⟩ := h; exact ⟨a, xs, B, e, n, q, Owns.ofNone r, s⟩
  | .obj c ds, v, A, h => by obtain ⟨a, dx, xs, e, q, z, r⟩ := h; exact ⟨a, dx, xs, e, q, z, Owns.ofNone r⟩
  | .mobj c ds, v, A, h => by obtain ⟨a, dx, xs, B, ⟨e, ea⟩, n, q, z, r, s⟩ := h; cases ea
  | .exc c ds, v, A, h => by obtain ⟨xs, e, q, z, r⟩ := h; exact ⟨xs, e, q, z, Owns.ofNone r⟩
  | .dT ks ds, v, A, h => by obtain ⟨a, xs, e, q, z, r⟩ := h; exact ⟨a, xs, e, q, z, Owns.ofNone r⟩
  | .dK ks ds, v, A, h => by obtain ⟨a, xs, e, q, z, r⟩ := h; exact ⟨a, xs, e, q, z, Owns.ofNone r⟩
  | .vT ks ds, v, A, h => by obtain ⟨a, xs, B, e, n, q, z, r, s⟩ := h; exact ⟨a, xs, B, e, n, q, z, Owns.ofNone r, s⟩
  | .vK ks ds, v, A, h => by obtain ⟨a, xs, B, e, n, q, z, r, s⟩ := h; exact ⟨a, xs, B, e, n, q, z, Owns.ofNone r, s⟩
  | .val _, _, _, h => h
theorem Owns.ofNone {x : Option Addr} : ∀ {ds : List D} {vs : List V} {A : Fp}, Owns K (cl.at' none) F H ds vs A → Owns K (cl.at' x) F H ds vs A
  | [], _, _, h => h
  | d :: ds, vs, A, h => by obtain ⟨v, r, B, C, e, p, q, s⟩ := h; exact ⟨v, r, B, C, e, Own.ofNone p, Owns.ofNone q, s⟩
end
/-- a promise at the one table is one at the other -/
theorem spF_none {n : Nat} {m : List D → RF} {vs : List V} {H : Hp} {Q : VK} {E : XK} (h : spF K cl n m vs H Q E) : spF K (cl.at' none) n m vs H Q E := by
  obtain ⟨hl, F, ds, le, os, p⟩ := h
  refine ⟨hl, F, ds, le, Owns.tb os, ?_⟩
  cases hm : m ds with
  | rt d => rw [hm] at p; exact fun v F' H' B l1 l2 s o => p v F' H' B l1 l2 s (Own.ofNone (cl := cl) (x := cl.sf) o)
  | ex c xs => rw [hm] at p; exact fun u d F' H' l1 l2 s o => p u d F' H' l1 l2 s (ExR.untb (cl := cl) o)
  | bad => rw [hm] at p; exact p
theorem fn_FB {P : Program} {w : World} {mg : Str → Option Value} {base : Heap} {x qual : Str} {st : Stmt} {f : Addr} {fd : FuncData} {N ps : List Str} {k n nN : Nat} {b : Rho → RS}
    (Fn : Fun K x qual st f fd) (S : FnScope N ps (defScope st)) (hn : n = ps.length) (hN : nN = N.length)
    (hb : ∀ (c : Value) (A : Around) (outer : List Env) (s : Shared) (H : Hp) (E : XK), Room k (A.deeper (envOfC qual (defScope st) s.heap.objs.size f c)) →
      FSs (cxOf (L2N.CX P w) P w K mg base N qual (defScope st) f c A outer s H E) (cl.at' none) (fun c d _ H => E c d H) (defBody st) b) :
    FnOk P w K mg base (L2N.CX P w) (k + 1) f fd ps (spF K cl n (runF n nN b)) :=
  (fn_F (cl := cl.at' none) Fn S hn hN hb).imp fun _ _ _ _ h => spF_none h
end
end FL

set_option Elab.async false
set_option linter.all false
set_option maxRecDepth 100000
set_option maxHeartbeats 1000000
namespace FL
open PySem L2
open PyProof.Rows (envOfC)
theorem pe_cls {X : Cx} {x : Str} {p : Pos} {C : Addr} (hg : Gl X x) (hm : X.mg x = some (.ref C)) (hd : (x == ("__debug__" : Str)) = false) : PE X (.Name x p) (tC (.ref C)) := pe_glob hg hm rfl hd
theorem rel_ref {C : Addr} {u : Value} (h : RelV (.ref C) u) : u = .ref C := h
theorem rel_ty {n : String} {u : Value} (h : RelV (.ty n) u) : u = .type n := h
/-! ### slices -/
def cutD (xs : List D) (lo hi : Option Int) : List D := (xs.drop (HT.sIx xs.length 0 lo)).take (HT.sIx xs.length xs.length hi - HT.sIx xs.length 0 lo)
noncomputable def slD (d : D) (lo hi : Option Int) : Option D := match d with
  | .lst ds => some (.vec (cutD ds lo hi))
  | .tup ds => some (.tup (cutD ds lo hi))
  | .str s => if yes (s.length ≤ 16777216) then some (.str (cutS s lo hi)) else none
  | _ => none
section
variable {K : PySem.W.Frag} {cl : Tb} {F H : Hp}
theorem Owns.drop : ∀ (n : Nat) {ds : List D} {vs : List V}, Owns K cl F H ds vs zf → Owns K cl F H (ds.drop n) (vs.drop n) zf
  | 0, _, _, h => by rw [List.drop_zero, List.drop_zero]; exact h
  | n + 1, [], vs, h => by
    have e : vs = [] := h
    subst e
    exact h
  | n + 1, d :: ds, vs, h => by
    obtain ⟨v, r, B, C, e, p, q, s⟩ := h
    subst e
    exact Owns.drop n (q.up fun x => by have := s x; unfold zf at *; omega)
theorem Owns.take : ∀ (n : Nat) {ds : List D} {vs : List V}, Owns K cl F H ds vs zf → Owns K cl F H (ds.take n) (vs.take n) zf
  | 0, _, _, h => by rw [List.take_zero, List.take_zero]; exact rfl
  | n + 1, [], vs, h => by
    have e : vs = [] := h
    subst e
    exact h
  | n + 1, d :: ds, vs, h => by
    obtain ⟨v, r, B, C, e, p, q, s⟩ := h
    subst e
    rw [List.take_succ_cons, List.take_succ_cons]
    exact ⟨v, _, zf, zf, rfl, p.up fun x => by have := s x; unfold zf at *; omega, Owns.take n (q.up fun x => by have := s x; unfold zf at *; omega), fun _ => Nat.le_refl _⟩
theorem cut_own {ds : List D} {vs : List V} (h : Owns K cl F H ds vs zf) (lo hi : Option Int) : Owns K cl F H (cutD ds lo hi) (cutV vs lo hi) zf := by
  unfold cutD cutV
  rw [Owns.length h]
  exact (h.drop _).take _
end
def tP (K : PySem.W.Frag) (cl : Tb) (m : Rho → Option (Option Int)) (σ : St) (H : Hp) (Q : Option Int → Hp → Prop) : Prop :=
  ∃ (G : Gh) (F : Hp) (ρ : Rho) (A R : Fp), Sta G F H (fun x => A x + R x) ∧ EnvR K cl F H ρ σ A ∧ match m ρ with | some o => Q o H | none => False
abbrev FP (X : Cx) (cl : Tb) (e : Option Expr) (m : Rho → Option (Option Int)) : Prop := PO X e (tP X.K cl m)
def pNo : Rho → Option (Option Int) := fun _ => some none
def pIt (m : Rho → Option D) : Rho → Option (Option Int) := fun ρ => match m ρ with | some (.int i) => some (some i) | _ => none
noncomputable def eSl (a : Rho → RX D) (lo hi : Rho → Option (Option Int)) : Rho → RX D := fun ρ => (a ρ).bind fun d ρ1 => match lo ρ1, hi ρ1 with
  | some l, some h => opt (slD d.frz l h) ρ1
  | _, _ => .bad
section
variable {X : Cx} {cl : Tb} {W : WX'} {pos : Pos}
theorem fp_no : FP X cl none pNo := ⟨fun pins s σ H Q I q => po_none.run pins s σ H Q I (by obtain ⟨G, F, ρ, A, R, st, en, p⟩ := q; exact p)⟩
theorem fp_it {e : Expr} {m : Rho → Option D} (h : FQ X cl e m) : FP X cl (some e) (pIt m) := ⟨fun pins s σ H Q I q => (po_some h).run pins s σ H Q I (by
  obtain ⟨G, F, ρ, A, R, st, en, p⟩ := q
  refine ⟨G, F, ρ, A, R, st, en, ?_⟩
  unfold pIt at p
  cases hm : m ρ with
  | none => rw [hm] at p; exact p.elim
  | some d =>
    rw [hm] at p
    cases d with
    | int i => intro v o; exact ⟨i, o, p⟩
    | _ => exact p.elim)⟩
theorem fe_sl {e : Expr} {lo hi : Option Expr} {a : Rho → RX D} {ml mh : Rho → Option (Option Int)} {p2 : Pos} (ha : FE X cl W e a) (hl : FP X cl lo ml) (hh : FP X cl hi mh) : FE X cl W (.Subscript e (.Slice lo hi none p2) pos) (eSl a ml mh) := by
  refine PE_imp (pe_slice ((sl_list.or sl_tupA).or sl_str) ha hl hh) fun σ H Q q => ?_
  obtain ⟨G, F, ρ, A, R, st, en, p⟩ := q
  refine ⟨G, F, ρ, A, R, st, en, Pst.bind p fun d ρ1 v1 F1 H1 A1 B1 e1 o1 p1 => ?_⟩
  obtain ⟨e2, le2⟩ := e1.fz
  have o2 : Own X.K cl (fz F1 H1 B1) H1 d.frz v1 zf := o1.freeze le2 fun a ha => fz_at ha
  have st2 : Sta G (fz F1 H1 B1) H1 (fun x => A1 x + R x) := e2.st.less fun x => by show A1 x + R x ≤ A1 x + (zf x + R x); omega
  refine ⟨G, fz F1 H1 B1, ρ1, A1, R, st2, e2.en, ?_⟩
  cases hml : ml ρ1 with
  | none => rw [hml] at p1; exact p1.elim
  | some l =>
    dsimp only
    refine ⟨G, fz F1 H1 B1, ρ1, A1, R, st2, e2.en, ?_⟩
    cases hmh : mh ρ1 with
    | none => rw [hml, hmh] at p1; exact p1.elim
    | some h =>
      rw [hml, hmh] at p1
      dsimp only at p1 ⊢
      have e3 : Ev X.K cl G F1 H1 R (fz F1 H1 B1) H1 σ ρ1 A1 zf := ⟨le2, fun _ _ => rfl, e2.st, e2.en⟩
      have sub := e2.st.sub
      cases hd : d.frz with
      | lst ds =>
        rw [hd] at o2 p1
        obtain ⟨b, xs, rfl, hq, os⟩ := o2
        refine .inl (.inl ⟨b, xs, rfl, sub.sqL hq, fun t nt => ?_⟩)
        obtain ⟨fa, _, st4⟩ := lay_owned (o := .lst (cutV xs l h)) st2 nt
        have os2 := cut_own os l h
        have p2 : Pst X.K cl W (rD X.K cl) G F1 H1 σ R (.ok (.vec (cutD ds l h)) ρ1) Q := p1
        refine p2 (.ref t) (fz F1 H1 B1) _ A1 (one t) ⟨le2, fun z hz => ?_, st4.less fun z => by show A1 z + (one t z + R z) ≤ one t z + (A1 z + R z); omega, e2.en.mono Le.refl (fun z hz => ?_) fun _ => Nat.le_refl _⟩ ⟨t, _, zf, rfl, fa, upd_same, zero_owns os2 Le.refl, fun z => by show one t z + zf z ≤ one t z; unfold zf; omega⟩
        · obtain ⟨_, _, u, h3⟩ := st2.own z (by show 0 < A1 z + R z; omega)
          exact upd_ne (ne_of_none h3 nt)
        · obtain ⟨h1, _, u, h3⟩ := st2.own z (by show 0 < A1 z + R z; omega)
          exact ⟨upd_ne (ne_of_none h3 nt), h1⟩
      | tup ds =>
        rw [hd] at o2 p1
        obtain ⟨b, xs, rfl, hq, os⟩ := o2
        have hl2 := Owns.length os
        have os2 := cut_own os l h
        have p2 : Pst X.K cl W (rD X.K cl) G F1 H1 σ R (.ok (.tup (cutD ds l h)) ρ1) Q := p1
        refine .inl (.inr ⟨b, xs, rfl, sub.sqT hq.1, fun hw => ?_, fun hw t nt => ?_⟩)
        · have ec : cutD ds l h = ds := by unfold cutD; rw [hl2, hw.1, hw.2, List.drop_zero, Nat.sub_zero, ← hl2, List.take_length]
          rw [ec] at p2
          exact p2 (.ref b) (fz F1 H1 B1) H1 A1 zf e3 ⟨b, xs, rfl, hq, os⟩
        · obtain ⟨le4, st4⟩ := lay_frozen (o := .tup (cutV xs l h)) st2 nt
          refine p2 (.ref t) _ _ A1 zf ⟨le2.trans le4, fun z hz => ?_, st4.less fun z => by show A1 z + (zf z + R z) ≤ A1 z + R z; unfold zf; omega, e2.en.mono le4 (fun z hz => ?_) fun _ => Nat.le_refl _⟩ ⟨t, _, rfl, ⟨SqT.of upd_same, fun _ => upd_same⟩, zero_owns os2 le4⟩
          · obtain ⟨_, _, u, h3⟩ := st2.own z (by show 0 < A1 z + R z; omega)
            exact upd_ne (ne_of_none h3 nt)
          · obtain ⟨h1, _, u, h3⟩ := st2.own z (by show 0 < A1 z + R z; omega)
            exact ⟨upd_ne (ne_of_none h3 nt), by rw [upd_ne (ne_of_none h3 nt)]; exact h1⟩
      | str s =>
        rw [hd] at o2 p1
        have ev : v1 = .str s := o2
        subst ev
        unfold slD opt at p1
        dsimp only at p1
        by_cases hz : yes (s.length ≤ 16777216) = true
        · rw [if_pos hz] at p1
          have p2 : Pst X.K cl W (rD X.K cl) G F1 H1 σ R (.ok (.str (cutS s l h)) ρ1) Q := p1
          exact .inr ⟨s, rfl, by rw [sizeLine_eq]; exact of_yes hz, p2 (.str (cutS s l h)) (fz F1 H1 B1) H1 A1 zf e3 rfl⟩
        · rw [if_neg hz] at p1; exact p1.elim
      | _ => rw [hd] at p1; exact p1.elim
end
/-! ### methods of a list that a name holds, with a plain answer -/
def isLst : D → Bool
  | .lst _ => true
  | .vec _ => true
  | _ => false
def eBmN (i : Nat) (f : D → List D → Option D) (a : Rho → RX (List D)) : Rho → RX D := fun ρ => match (ρ[i]? : Option (Option D)) with
  | some (some d0) => if isLst d0 then (a ρ).bind fun ds ρ1 => (match (ρ1[i]? : Option (Option D)) with
    | some (some d) => opt (f d ds) ρ1
    | _ => .bad) else .bad
  | _ => .bad
def QuietM (X : Cx) (cl : Tb) (f : D → List D → Option D) (r : V → List V → Hp → VK → Prop) : Prop :=
  ∀ (x : D) (ds : List D) (d : D), f x ds = some d → ∀ (F H : Hp) (A B : Fp) (vx : V) (vs : List V) (Q : VK), Le F H → Own X.K cl F H x vx A → Owns X.K cl F H ds vs B → (∀ v, Own X.K cl F H d v zf → Q v H) → r vx vs H Q
theorem isLst_own {K : PySem.W.Frag} {cl : Tb} {F H : Hp} {d : D} {v : V} {A : Fp} (h : isLst d = true) (o : Own K cl F H d v A) (sub : Le F H) : ∃ a xs, v = .ref a ∧ SqL K H a xs := by
  cases d with
  | lst ds => obtain ⟨a, xs, e, q, _⟩ := o; exact ⟨a, xs, e, sub.sqL q⟩
  | vec ds => obtain ⟨a, xs, B, e, n, q, _⟩ := o; exact ⟨a, xs, e, SqL.of q⟩
  | _ => cases h
section
variable {X : Cx} {cl : Tb} {W : WX'} {pos : Pos}
theorem fe_bmN {i : Nat} {f : D → List D → Option D} {r : V → List V → Hp → VK → Prop} {x name : Str} {id : String} {p apos : Pos} {e : Expr} {es : List Expr} {a : Rho → RX (List D)} (hf : QuietM X cl f r) (hm : MtR X id r) (slot : Slot "list" name id) (hty : typeOf (.builtin id) = pure (.type "method_descriptor"))
    (hx : PE X (.Name x p) (tVar i)) (ha : FA X cl W (e :: es) a) (hbase : attributeBase (.Name x p) name X.env (eval (.Name x p) X.env) = eval (.Name x p) X.env := by rfl)
    (hfew : ((backTo pos (starEach (e :: es) X.env)).all (fun x => !x.1) && (backToKw pos (keywordEach [] X.env)).all (fun x => x.1.isSome)
      && decide ((e :: es).length + ([] : List Keyword).length + (if ([] : List Keyword).isEmpty then 0 else 1) < 30)) = true := by rfl)
    (hline : (apos.endLine == pos.line) = true := by rfl) (hs : starEach (e :: es) X.env = (false, eval e X.env) :: starEach es X.env := by rfl) (hplain : (backTo pos (starEach es X.env)).any (·.1) = false := by rfl) :
    FE X cl W (.Call (.Attribute (.Name x p) name apos) (e :: es) [] pos) (eBmN i f a) := by
  refine PE_imp (pe_bm PySem.F.plainAttrs_list slot hty hm hx ha hbase hfew hline hs hplain) fun σ H Q q => ?_
  obtain ⟨G, F, ρ, A, R, st, en, p⟩ := q
  unfold eBmN at p
  split at p
  · rename_i d0 hρ
    by_cases hl : isLst d0 = true
    · rw [if_pos hl] at p
      obtain ⟨v, B, C, hv, o, _, _⟩ := en.get hρ
      obtain ⟨b, xs, rfl, hq⟩ := isLst_own hl o st.sub
      refine ⟨.ref b, hv, .inl ⟨rfl, xs, hq⟩, G, F, ρ, A, R, st, en, Pst.bind p fun ds ρ1 v1 F1 H1 A1 B1 e1 o1 p1 => ?_⟩
      split at p1
      · rename_i d hρ1
        obtain ⟨w, B2, C2, hw, o2, _, _⟩ := e1.en.get hρ1
        rw [hv] at hw
        cases hw
        unfold opt at p1
        cases hfd : f d ds with
        | none => rw [hfd] at p1; exact p1.elim
        | some r =>
          rw [hfd] at p1
          exact hf d ds r hfd F1 H1 _ _ _ _ Q e1.st.sub o2 o1 fun v ov => p1 v F1 H1 A1 zf (Ev.self (e1.st.less fun x => by show A1 x + R x ≤ A1 x + (B1 x + R x); omega) e1.en) ov
      · exact p1.elim
    · rw [if_neg hl] at p; exact p.elim
  · exact p.elim
noncomputable def cntL (x : D) (ds : List D) : Option D := match ds with
  | [e] => (match pdO e, pdO x with
    | some p, some (.list qs) => if deepOk p (.list qs) then some (.int ((qs.countP fun z => PyData.eqv z p : Nat) : Int)) else none
    | _, _ => none)
  | _ => none
def rCntD (K : PySem.W.Frag) : V → List V → Hp → VK → Prop := fun x xs H Q => ∃ (a : Addr) (y : V) (d : PyData) (ds : List PyData), x = V.ref a ∧ xs = [y] ∧ Dp K H (V.ref a) (.list ds) ∧ Dp K H y d ∧ SeqAt.shaped (.list ds) = true ∧ SeqAt.shaped d = true ∧ Q (.int ((ds.countP fun z => PyData.eqv z d : Nat) : Int)) H
theorem mt_countD (hu : X.A.units + 65 < cLine) : MtR X "list.count" (rCntD X.K) := by
  intro pins s σ H x xs v us Q I rx rxs z
  obtain ⟨a, y, d, ds, rfl, rfl, hl, hy, sl, sd, q⟩ := z
  cases rx
  obtain ⟨uy, rfl, ry⟩ := rxs.one
  obtain ⟨bs, rd⟩ := Dp.reads I d y uy hy ry
  have lay : PyData.canLayAll0 ds = true := SeqAt.canLay_of_shaped sl
  have room : X.A.units + 1 + min (PyData.depthAll ds) d.depth < cLine := PyProof.Rows.room_in_shaped sd hu
  cases hl with
  | lst hs ha =>
    obtain ⟨its, rv, ⟨⟨cls, dd, data, sls⟩, n, ho, hc, hdn, hdt⟩, hlen⟩ := I.list hs
    simp only at hc hdt
    subst hc hdt
    obtain ⟨as, h4⟩ := Dp.readsAll I ds _ its ha rv
    have hmap : its.map (SeqAt.readOf s.heap) = ds := SeqAt.readsAll_map ds its as lay h4
    refine call_meets PySem.F.slot_list_count ⟨_, ho, rfl⟩ PySem.F.entry_list_count (PySem.F.args_list_count_2 _ _)
      (SeqAt.list_countAt a its.toArray n dd sls uy (fun u => PyData.eqv (SeqAt.readOf s.heap u) d)) ⟨ho, SeqAt.items_eqAt (vs := its.toArray) (show PySem.ReadsAll s.heap its.toArray.toList ds as from h4) rd lay (SeqAt.canLay_of_shaped sd) room, ?_⟩
    refine ⟨.int _, H, I.tok _, ⟨_, rfl⟩, ?_⟩
    have e : (its.toArray.toList.countP fun u => PyData.eqv (SeqAt.readOf s.heap u) d) = ds.countP fun z => PyData.eqv z d := by
      rw [← hmap, List.countP_map]
      rfl
    rw [e]
    exact q
theorem mt_countR {k : Nat} (hr : Room k X.A) : MtR X "list.count" (rCntD X.K) := mt_countD (by have := hr.un; omega)
theorem q_cnt : QuietM X cl cntL (rCntD X.K) := fun x ds d hd F H A B vx vs Q sub ox os k => by
  unfold cntL at hd
  split at hd
  · rename_i e
    split at hd
    · rename_i p qs h1 h2
      split at hd
      · rename_i h3
        cases hd
        obtain ⟨w, rfl, ow⟩ := owns1 os
        obtain ⟨s1, s2⟩ := of_yes h3
        have hx := pd_own sub h2 ox
        have hy := pd_own sub h1 ow
        have : ∃ a, vx = .ref a := by cases hx; exact ⟨_, rfl⟩
        obtain ⟨a, rfl⟩ := this
        exact ⟨a, w, p, qs, rfl, rfl, hx, hy, s2, s1, k _ rfl⟩
      · cases hd
    · cases hd
  · cases hd
end
end FL

set_option Elab.async false
set_option linter.all false
set_option maxRecDepth 100000
set_option maxHeartbeats 1000000
namespace FL
open PySem L2
open PyProof.Rows (envOfC)
/-! ### own operators that may raise -/
def OpS (X : Cx) (f : Value → Value → Sem Value) (r : L2.St → R2) : Prop :=
  ∀ (pins : List (Addr × Obj)) (s : Shared) (σ : L2.St) (H : Hp) (x y : V) (v u : Value) (Q : VK), L2.Inv X pins σ H s → RelV x v → RelV y u → r σ x y H Q → wpAny (model X.prog X.w) X.A (f v u) (EP X pins σ Q) X.xe s
def tOpS (r : L2.St → R2) (ta tb : TE) : TE := fun σ H Q => ta σ H fun x H1 => tb σ H1 fun y H2 => r σ x y H2 Q
section
variable {X : Cx} {a b : Expr} {ta tb : TE} {pos : Pos}
theorem pe_opS {op : Operator} {r : L2.St → R2} (ho : OpS X (binaryOp op) r) (ha : PE X a ta) (hb : PE X b tb) : PE X (.BinOp a op b pos) (tOpS r ta tb) :=
  ⟨fun pins s σ H Q I h => wpAny_BinOp (binT (R := fun x y H => r σ x y H Q) ha hb I h fun v u s2 x y H2 I2 rx ry q => ho pins s2 σ H2 x y v u Q I2 rx ry q)⟩
theorem pe_cmpS {op : CmpOp} {r : L2.St → R2} (ho : OpS X (compareOp op) r) (ha : PE X a ta) (hb : PE X b tb) (hm : behindInMarks op b = false) : PE X (.Compare a [op] [b] pos) (tOpS r ta tb) :=
  ⟨fun pins s σ H Q I h => wpAny_Compare1 (binT (R := fun x y H => r σ x y H Q) ha hb I h fun v u s2 x y H2 I2 rx ry q => ho pins s2 σ H2 x y v u Q I2 rx ry q) hm⟩
theorem pt_cmpS {op : CmpOp} {r : L2.St → R2} (ho : OpS X (compareOp op) r) (ha : PE X a ta) (hb : PE X b tb) (hm : behindInMarks op b = false) : PT X (.Compare a [op] [b] pos) (tTest (tOpS r ta tb)) := by
  refine ⟨fun pins s σ H Q I h => wpAny_isTrue_Compare1 (thn (ha.run pins s σ H _ I h) fun v s1 z1 => ?_) hm⟩
  obtain ⟨x, H1, I1, r1, q1⟩ := z1
  refine thn (hb.run pins s1 σ H1 _ I1 q1) fun u s2 z2 => ?_
  obtain ⟨y, H2, I2, r2, q2⟩ := z2
  refine thn (ho pins s2 σ H2 x y v u _ I2 r1 r2 q2) fun c s3 z3 => ?_
  obtain ⟨z, H3, I3, r3, k, e, q3⟩ := z3
  subst e
  cases r3
  exact wpAny_truthy_bool ⟨H3, I3, q3⟩
end
/-- what an own operator comes to -/
def rfX (r : RF) (ρ : Rho) : RX D := match r with
  | .rt d => .ok d ρ
  | .ex c xs => .ex c xs ρ
  | .bad => .bad
def eOwn (c : Nat) (m : List D → RF) (a b : Rho → RX D) : Rho → RX D := fun ρ => (a ρ).bind fun x ρ1 => (b ρ1).bind fun y ρ2 => if isObj' c x.frz && isObj' c y.frz then rfX (m [x.frz, y.frz]) ρ2 else .bad
def boolF (r : RF) : RF := match r with
  | .rt (.bl k) => .rt (.bl k)
  | .ex c xs => .ex c xs
  | _ => .bad
def eOwnIn (c : Nat) (m : List D → RF) (a b : Rho → RX D) : Rho → RX D := fun ρ => (a ρ).bind fun x ρ1 => (b ρ1).bind fun y ρ2 => if isObj' c y.frz then rfX (boolF (m [y.frz, x.frz])) ρ2 else .bad
section
variable {X : Cx} {cl : Tb} {W : WX'} {pos : Pos}
def rOwnX (K : PySem.W.Frag) (cl : Tb) (W : WX') (c : Nat) (m : List D → RF) (σ : L2.St) : R2 := fun x y H Q => ∃ a b dx dy fs gs, x = .ref a ∧ y = .ref b ∧ H a = some (.ins (cl c).at_ dx fs) ∧ H b = some (.ins (cl c).at_ dy gs) ∧ spF K cl 2 m [x, y] H Q (WE W σ)
def rOwnInX (K : PySem.W.Frag) (cl : Tb) (W : WX') (c : Nat) (m : List D → RF) (σ : L2.St) : R2 := fun x y H Q => ∃ b dy gs, y = .ref b ∧ H b = some (.ins (cl c).at_ dy gs) ∧ spF K cl 2 m [y, x] H (fun v H' => ∃ k, v = .bl k ∧ Q (.bl k) H') (WE W σ)
theorem own_callX {n k : Nat} {m : List D → RF} {pins : List (Addr × Obj)} {σ : L2.St} {H : Hp} {s : Shared} {us : List Value} {vs : List V} {Q : VK} {A : Around} {f : Addr} {fd : FuncData} {ps : List Str} (F : FnOk X.prog X.w X.K X.mg X.base (L2N.CX X.prog X.w) k f fd ps (spF X.K cl n m))
    (hb : Binds X.K fd ps []) (hr : Room k A) (e0 : Env0 X.prog X.w X.K X.mg X.base A X.stack s H) (tk : L2N.Takes X W) (I : L2.Inv X pins σ H s) (r : Vals vs us) (h : spF X.K cl n m vs H Q (WE W σ)) : wpAny (model X.prog X.w) A (call (.ref f) us) (EP X pins σ Q) X.xe s := by
  have hl := F.len _ _ _ _ h
  refine wpAny_call (codeAny_mono (F.run A X.stack s H ⟨us, []⟩ us vs _ (WE W σ) hr e0 (by
    have z := hb s us I.kIn (by rw [List.append_nil, ← r.length]; exact hl)
    simpa using z) r h) fun r s' hq => ?_)
  cases r with
  | error e => exact L2N.passAt tk σ pins H s e s' I hq
  | ok fl =>
    cases fl with
    | ret w => exact I.after hq
    | next => exact False.elim hq
    | brk => exact False.elim hq
    | cont => exact False.elim hq
theorem op_ownX {c k : Nat} {m : List D → RF} {op : Operator} {nm : Str} (O : OpC X.prog X.w X.K X.mg X.base cl c nm 2 k m) (hn : PySem.dunder op.info.2 = nm) (hc : PySem.W.selfFirst X.K (cl c).at_ = true) (hr : Room k X.A) (tk : L2N.Takes X W) : OpS X (binaryOp op) (rOwnX X.K cl W c m) := by
  obtain ⟨f, fd, ps, F, hs, hf, hb⟩ := O.ex
  intro pins s σ H x y v u Q I rx ry h
  obtain ⟨a, b, dx, dy, fs, gs, rfl, rfl, ha, hb', hsp⟩ := h
  cases rx
  cases ry
  obtain ⟨mA, J, _⟩ := ins_get I.hok ha
  obtain ⟨mB, J', _⟩ := ins_get I.hok hb'
  obtain ⟨od, J, _⟩ := J.look
  obtain ⟨od', J', _⟩ := J'.look
  obtain ⟨m', hF⟩ := I.fr
  refine PySem.W.binop_K hF I.ok.mod.kin J J'.type hc (by rw [hn]; exact hs) hf ?_
  have r2 : Vals [V.ref a, V.ref b] [Value.ref a, Value.ref b] := .cons rfl (.cons rfl .nil)
  refine wpAny_mono (own_callX F hb hr I.env0 tk I r2 hsp) (fun v s' q => ?_) fun _ _ e => e
  obtain ⟨z, H', I', rz, q⟩ := q
  have g : EP X pins σ Q v s' := ⟨z, H', I', rz, q⟩
  have : PySem.W.CmpBack (EP X pins σ Q) v s' := by
    cases v <;> first | exact g | (cases z <;> first | (cases rz; done) | (obtain ⟨t, e⟩ := rz; cases e))
  exact this
theorem op_ownInX {c k : Nat} {m : List D → RF} (O : OpC X.prog X.w X.K X.mg X.base cl c "__contains__" 2 k m) (hr : Room k X.A) (tk : L2N.Takes X W) : OpS X (compareOp .In) (rOwnInX X.K cl W c m) := by
  obtain ⟨f, fd, ps, F, hs, hf, hb⟩ := O.ex
  intro pins s σ H x y v u Q I rx ry h
  obtain ⟨b, dy, gs, rfl, hb', hsp⟩ := h
  cases ry
  obtain ⟨mB, J', _⟩ := ins_get I.hok hb'
  obtain ⟨od', J', _⟩ := J'.look
  obtain ⟨m', hF⟩ := I.fr
  refine PySem.W.in_K hF I.ok.mod.kin J' hs hf ?_
  have r2 : Vals [V.ref b, x] [Value.ref b, v] := .cons rfl (.cons rx .nil)
  refine wpAny_mono (own_callX F hb hr I.env0 tk I r2 hsp) (fun v s' q => ?_) fun _ _ e => e
  obtain ⟨z, H', I', rz, kk, ez, q⟩ := q
  subst ez
  cases rz
  exact wpAny_truthy_bool ⟨.bl kk, H', I', rfl, q⟩
/-- behind an own operator's call -/
theorem own_sp {G : Gh} {F H F1 H1 : Hp} {R A1 : Fp} {σ : L2.St} {ρ2 : Rho} {m : List D → RF} {xs : List D} {vs : List V} {Q Q' : VK} (e3 : Ev X.K cl G F H R F1 H1 σ ρ2 A1 zf) (os : Owns X.K cl F1 H1 xs vs zf) (hl : vs.length = 2) (hQ : ∀ v H', Q v H' → Q' v H')
    (p : Pst X.K cl W (rD X.K cl) G F H σ R (rfX (m xs) ρ2) Q) : spF X.K cl 2 m vs H1 Q' (WE W σ) := by
  refine ⟨hl, F1, xs, e3.st.sub, os, ?_⟩
  cases hm : m xs with
  | rt d =>
    rw [hm] at p
    exact fun v F' H' B le lh st' o => hQ _ _ ((show Pst X.K cl W (rD X.K cl) G F H σ R (.ok d ρ2) Q from p) v F' H' A1 B (e3.call le lh st') o)
  | ex c zs =>
    rw [hm] at p
    exact fun u d F' H' le lh st' o => (show Pst X.K cl W (rD X.K cl) G F H σ R (.ex c zs ρ2) Q from p) u d F' H' A1 (e3.call le lh st') o
  | bad => rw [hm] at p; exact p.elim
theorem two_frz {G : Gh} {F H : Hp} {R A2 B1 B2 : Fp} {σ : L2.St} {ρ2 : Rho} {x y : D} {v w : V} (st : Sta G F H (fun z => A2 z + (B2 z + (B1 z + R z)))) (en : EnvR X.K cl F H ρ2 σ A2) (o1 : Own X.K cl F H x v B1) (o2 : Own X.K cl F H y w B2) :
    ∃ F3, Ev X.K cl G F H R F3 H σ ρ2 A2 zf ∧ Own X.K cl F3 H x.frz v zf ∧ Own X.K cl F3 H y.frz w zf := by
  have e : Ev X.K cl G F H R F H σ ρ2 A2 (fun z => B1 z + B2 z) := ⟨Le.refl, fun _ _ => rfl, st.less fun z => by show A2 z + ((B1 z + B2 z) + R z) ≤ A2 z + (B2 z + (B1 z + R z)); omega, en⟩
  obtain ⟨e3, le3⟩ := e.fz
  exact ⟨fz F H (fun z => B1 z + B2 z), e3, o1.freeze le3 fun a ha => fz_at (by show 0 < B1 a + B2 a; omega), o2.freeze le3 fun a ha => fz_at (by show 0 < B1 a + B2 a; omega)⟩
theorem fe_own {c k : Nat} {m : List D → RF} {op : Operator} {nm : Str} {a b : Expr} {ma mb : Rho → RX D} (O : OpC X.prog X.w X.K X.mg X.base cl c nm 2 k m) (hn : PySem.dunder op.info.2 = nm) (hc : PySem.W.selfFirst X.K (cl c).at_ = true) (hr : Room k X.A) (tk : L2N.Takes X W)
    (ha : FE X cl W a ma) (hb : FE X cl W b mb) : FE X cl W (.BinOp a op b pos) (eOwn c m ma mb) := PE_imp (pe_opS (op_ownX O hn hc hr tk) ha hb) fun σ H Q q => by
  obtain ⟨G, F, ρ, A, R, st, en, p⟩ := q
  refine ⟨G, F, ρ, A, R, st, en, Pst.bind p fun x ρ1 v F1 H1 A1 B1 e1 o1 p1 => ?_⟩
  refine tX.run e1 (Pst.bindC p1 fun y ρ2 w F2 H2 A2 B2 e2 o2 p2 => ?_)
  by_cases hc : (isObj' c x.frz && isObj' c y.frz) = true
  · rw [if_pos hc] at p2
    rw [Bool.and_eq_true] at hc
    obtain ⟨F3, e3, o3, o4⟩ := two_frz e2.st e2.en (e2.keep o1) o2
    obtain ⟨a, dx, fs, rfl, hA⟩ := obj_own hc.1 o3
    obtain ⟨b, dy, gs, rfl, hB⟩ := obj_own hc.2 o4
    exact ⟨a, b, dx, dy, fs, gs, rfl, rfl, e3.st.sub _ _ hA, e3.st.sub _ _ hB, own_sp (xs := [x.frz, y.frz]) e3 ⟨_, _, zf, zf, rfl, o3, ⟨_, _, zf, zf, rfl, o4, rfl, fun _ => Nat.le_refl _⟩, fun _ => Nat.le_refl _⟩ rfl (fun _ _ z => z) p2⟩
  · rw [if_neg hc] at p2; exact p2.elim
theorem in_imp {c : Nat} {m : List D → RF} {ma mb : Rho → RX D} {σ : L2.St} {H : Hp} {Q : VK} {Q' : VK} (hQ : ∀ k H', Q (.bl k) H' → Q' (.bl k) H') (q : tX X.K cl W (rD X.K cl) (eOwnIn c m ma mb) σ H Q) : tOpS (rOwnInX X.K cl W c m) (tX X.K cl W (rD X.K cl) ma) (tX X.K cl W (rD X.K cl) mb) σ H Q' := by
  obtain ⟨G, F, ρ, A, R, st, en, p⟩ := q
  refine ⟨G, F, ρ, A, R, st, en, Pst.bind p fun x ρ1 v F1 H1 A1 B1 e1 o1 p1 => ?_⟩
  refine tX.run e1 (Pst.bindC p1 fun y ρ2 w F2 H2 A2 B2 e2 o2 p2 => ?_)
  by_cases hc : isObj' c y.frz = true
  · rw [if_pos hc] at p2
    obtain ⟨F3, e3, o3, o4⟩ := two_frz e2.st e2.en (e2.keep o1) o2
    obtain ⟨b, dy, gs, rfl, hB⟩ := obj_own hc o4
    refine ⟨b, dy, gs, rfl, e3.st.sub _ _ hB, rfl, F3, [y.frz, x.frz], e3.st.sub, ⟨_, _, zf, zf, rfl, o4, ⟨_, _, zf, zf, rfl, o3, rfl, fun _ => Nat.le_refl _⟩, fun _ => Nat.le_refl _⟩, ?_⟩
    cases hm : m [y.frz, x.frz] with
    | rt d =>
      rw [hm] at p2
      cases d with
      | bl k =>
        intro v F' H' B le lh st' o
        have ev : v = .bl k := o
        subst ev
        exact ⟨k, rfl, hQ _ _ ((show Pst X.K cl W (rD X.K cl) G F2 H2 σ R (.ok (.bl k) ρ2) Q from p2) (.bl k) F' H' A2 B (e3.call le lh st') rfl)⟩
      | _ => exact p2.elim
    | ex c zs =>
      rw [hm] at p2
      exact fun u d F' H' le lh st' o => (show Pst X.K cl W (rD X.K cl) G F2 H2 σ R (.ex c zs ρ2) Q from p2) u d F' H' A2 (e3.call le lh st') o
    | bad => rw [hm] at p2; exact p2.elim
  · rw [if_neg hc] at p2; exact p2.elim
theorem fe_ownIn {c k : Nat} {m : List D → RF} {a b : Expr} {ma mb : Rho → RX D} (O : OpC X.prog X.w X.K X.mg X.base cl c "__contains__" 2 k m) (hr : Room k X.A) (tk : L2N.Takes X W) (ha : FE X cl W a ma) (hb : FE X cl W b mb) (hm : behindInMarks .In b = false := by rfl) :
    FE X cl W (.Compare a [.In] [b] pos) (eOwnIn c m ma mb) := PE_imp (pe_cmpS (op_ownInX O hr tk) ha hb hm) fun σ H Q q => in_imp (fun _ _ z => z) q
theorem ft_ownIn {c k : Nat} {m : List D → RF} {a b : Expr} {ma mb : Rho → RX D} (O : OpC X.prog X.w X.K X.mg X.base cl c "__contains__" 2 k m) (hr : Room k X.A) (tk : L2N.Takes X W) (ha : FE X cl W a ma) (hb : FE X cl W b mb) (hm : behindInMarks .In b = false := by rfl) :
    FT X cl W (.Compare a [.In] [b] pos) (tB1 (eOwnIn c m ma mb)) := ft_cmp (pt_cmpS (op_ownInX O hr tk) ha hb hm) fun σ H Q q => in_imp (fun _ _ z => z) q
end
end FL

set_option Elab.async false
set_option linter.all false
set_option maxRecDepth 100000
set_option maxHeartbeats 2000000
namespace FL
open PySem L2
open PyProof.Rows (envOfC)
/-! ### {(a, b): n for ..}: a dict whose keys are tuples -/
section
variable {X : Cx}
/-- an entry is set -/
theorem kept_put {pins : List (Addr × Obj)} {σ : L2.St} {Ha : Hp} {s : Shared} {E : Value → Shared → Prop} {D b : Addr} {es : List (List Key × V)} {k : List Key} {v : V} {r : Value} {Z : Unit → Shared → Prop} (hu : X.A.units < cLine) (I : L2.Inv X pins σ Ha s)
    (at_ : Ha D = some (.dT es)) (few : es.length < sizeLine) (key : Ha b = some (.tup (k.map kV))) (rv : RelV v r) (fin : ∀ s', L2.Inv X pins σ (upd Ha D (.dT (putK es k v))) s' → Z () s') :
    wpAny (model X.prog X.w) X.A (dictSet D (.ref b) r) Z E s := by
  obtain ⟨z, nsys, xs, rel, of⟩ := dt_of I.hok at_
  have lx : xs.length ≤ sizeLine := by rw [← Paired.length rel]; exact z
  have ly : (putK es k v).length ≤ sizeLine := by have := length_putK es k v; omega
  refine wpAny_dictSet_heap (hsz := lx) hu (key_of I.hok key) of fun h' of' but => fin _ ?_
  obtain ⟨q, es', ep, hq, c2, c3, c4, _, c5⟩ := of'
  refine d_write I (by rw [at_]; exact True.intro) but ⟨q, hq⟩ ⟨ly, nsys, _, (rel.put k key rv).keeps fun c ys ec => ?_, q, es', ep, hq, c2, c3, c4, c5⟩
  rw [upd_ne (ne_of ec at_ (fun z => nomatch z))]
  exact ec
/-- D: the new dict -/
def tDcT (wi : TI) (g : TG) (tt : TT) (tk tv : TE) (vs : List Nat) : TE := fun σ H Q => wi σ H fun J H1 => ∀ D, H1 D = none →
  ∃ W : Nat → Nat → Hp → Prop, (∃ m, W 0 m (upd H1 D (.dT []))) ∧ ∀ i m H, W i m H →
    (J.stop i H ∧ Q (.ref D) H) ∨
    (J.go i H ∧ ∃ Nx : Hp → Prop, (∀ H', Nx H' → ∃ m', m' < m ∧ W (i + 1) m' H') ∧
      ∀ x H', J.yld i H x H' → g x (wipe σ vs) H' fun σ2 H2 => wipe σ2 vs = wipe σ vs ∧ tt σ2 H2 fun ok H3 =>
        if ok = true then tk σ2 H3 fun y H4 => tv σ2 H4 fun z H5 => ∃ b es k, y = .ref b ∧ H5 b = some (.tup (k.map kV)) ∧ H5 D = some (.dT es) ∧ es.length < sizeLine ∧ Nx (upd H5 D (.dT (putK es k z)))
        else Nx H3)
/-- one turn, seen from within the block Y -/
theorem turn_dcT {Y : Cx} {kx vx tg : Expr} {ifs : List Expr} {it : Addr} {fp : List Addr} {tn : Nat → Heap → Prop} {J : It} {g : TG} {tt : TT} {tk tv : TE} {vs : List Nat} {σ0 : L2.St} {Rr : Result → Shared → Prop} {E1 E2 E3 E4 E5 E6 E7 : Value → Shared → Prop} {D : Addr} {W : Nat → Nat → Hp → Prop}
    (hu : Y.A.units < cLine) (T : Turn Y.prog Y.w Y.K tg J fp it tn) (hcl : Y.calm = true) (hxe : Y.xe = fun _ _ => False) (hpn : Y.pn = []) (young : ∀ {σ' : L2.St} {H' : Hp} {s' : Shared}, L2.Inv Y [] σ' H' s' → (∀ b ∈ fp, H' b = none) → ∀ b ∈ fp, FpOk Y [] H' b)
    (pg : PG Y tg g) (pt : PTs Y ifs tt) (pk : PE Y kx tk) (pv : PE Y vx tv) {n i : Nat} {s5 : Shared} {H5 : Hp} (I5 : L2.Inv Y [] (wipe σ0 vs) H5 s5) (t5 : tn i s5.heap) (n5 : ∀ b ∈ fp, H5 b = none)
    (word : (J.stop i H5 ∧ ∀ s', L2.Inv Y [] (wipe σ0 vs) H5 s' → Rr (.ok .next) s') ∨ (J.go i H5 ∧ ∃ Nx : Hp → Prop, (∀ H', Nx H' → ∃ m', m' < n ∧ W (i + 1) m' H') ∧
      ∀ x H', J.yld i H5 x H' → g x (wipe σ0 vs) H' fun σ2 H2 => wipe σ2 vs = wipe σ0 vs ∧ tt σ2 H2 fun ok H3 =>
        if ok = true then tk σ2 H3 fun y H4 => tv σ2 H4 fun z H5 => ∃ b es k, y = .ref b ∧ H5 b = some (.tup (k.map kV)) ∧ H5 D = some (.dT es) ∧ es.length < sizeLine ∧ Nx (upd H5 D (.dT (putK es k z)))
        else Nx H3)) :
    wpAny (model Y.prog Y.w) Y.A (pyNext (.ref it)) (fun r s₁ => match r with
      | none => Rr (.ok .next) s₁
      | some v => wpAny (model Y.prog Y.w) Y.A (letOwnedTupleGo tg (.ref it) v) (fun _ s₂ => wpAny (model Y.prog Y.w) Y.A (assign tg Y.env v) (fun _ s₃ =>
          wpAny (model Y.prog Y.w) Y.A (forIn ifs true fun c r => if r = true then do let ok ← isTrue c Y.env (eval c Y.env); pure (ForInStep.yield ok) else pure (ForInStep.yield r)) (fun ok s₄ =>
            if ok = true then wpAny (model Y.prog Y.w) Y.A (eval kx Y.env) (fun kv s₅ => wpAny (model Y.prog Y.w) Y.A (eval vx Y.env) (fun vv s₆ =>
              wpAny (model Y.prog Y.w) Y.A (dictSet D kv vv) (fun _ s₇ => ∃ m, m < n ∧ ∃ i H', L2.Inv Y [] (wipe σ0 vs) H' s₇ ∧ tn i s₇.heap ∧ (∀ b ∈ fp, H' b = none) ∧ W i m H') E1 s₆) E2 s₅) E3 s₄
            else ∃ m, m < n ∧ ∃ i H', L2.Inv Y [] (wipe σ0 vs) H' s₄ ∧ tn i s₄.heap ∧ (∀ b ∈ fp, H' b = none) ∧ W i m H') E4 s₃) E5 s₂) E6 s₁) E7 s5 := by
  have cut : ∀ {α : Type} {t : Sem α} {P P' : α → Shared → Prop} {E : Value → Shared → Prop} {s : Shared}, wpAny (model Y.prog Y.w) Y.A t P Y.xe s → (∀ a s, P a s → P' a s) → wpAny (model Y.prog Y.w) Y.A t P' E s := fun h k => wpAny_mono h k fun _ _ z => by rw [hxe] at z; exact z.elim
  rcases word with ⟨halt, last⟩ | ⟨goes, Nx, down, turn⟩
  · refine wpAny_mono (T.done Y rfl rfl rfl hcl i [] s5 _ H5 (fun _ _ => False) I5 (young I5 n5) t5 halt) (fun r s6 z => ?_) fun _ _ z => z.elim
    obtain ⟨e, I6⟩ := z
    subst e
    exact last s6 I6
  · refine wpAny_mono (T.item Y rfl rfl rfl hcl i [] s5 _ H5 (fun _ _ => False) I5 (young I5 n5) t5 goes) (fun r s6 z => ?_) fun _ _ z => z.elim
    obtain ⟨u, e, got⟩ := z
    subst e
    refine wpAny_mono got (fun _ s7 z => ?_) fun _ _ z => z.elim
    obtain ⟨x, H7, I7, r7, y7, t7, n7⟩ := z
    have J7 := I7.pinned (young I7 n7) (T.obj _ _ t7)
    refine cut (pg.run _ s7 _ H7 x u _ J7 r7 (turn x H7 y7)) fun _ s8 z => ?_
    obtain ⟨σ8, H8, I8, w8, z8⟩ := z
    -- how a turn ends
    have over : ∀ {sz : Shared} {Hz : Hp}, L2.Inv Y ([] ++ pinsAt fp s7.heap) σ8 Hz sz → Nx Hz → ∃ m, m < n ∧ ∃ i H', L2.Inv Y [] (wipe σ0 vs) H' sz ∧ tn i sz.heap ∧ (∀ b ∈ fp, H' b = none) ∧ W i m H' := fun {sz Hz} Iz nx => by
      obtain ⟨m', less, w'⟩ := down Hz nx
      have held : ∀ b ∈ fp, ∀ o, s7.heap.get? b = some o → sz.heap.get? b = some o ∧ Hz b = none := fun b hb o e => by
        have z := Iz.pin (b, o) (List.mem_append_right _ (List.mem_append_right _ (mem_pinsAt hb e)))
        exact ⟨z.1, z.2.1⟩
      have same : (wipe σ0 vs).length = σ8.length := by rw [← w8, wipe_length]
      refine ⟨m', less, i + 1, Hz, (Iz.unpinned (pins := [])).weak same (fun j v e => ?_), T.keep _ _ _ t7 fun b hb o e => (held b hb o e).1, fun b hb => ?_, w'⟩
      · rw [← w8] at e
        exact (wipe_some e).1
      · obtain ⟨o, e, _⟩ := T.obj _ _ t7 b hb
        exact (held b hb o e).2
    refine cut (pt.run _ s8 σ8 H8 _ I8 z8) fun ok s9 z => ?_
    obtain ⟨H9, I9, z9⟩ := z
    cases ok with
    | false =>
      rw [if_neg Bool.false_ne_true] at z9 ⊢
      exact over I9 z9
    | true =>
      rw [if_pos rfl] at z9 ⊢
      refine cut (pk.run _ s9 σ8 H9 _ I9 z9) fun kv sa z => ?_
      obtain ⟨yk, Ha, Ia, ra, za⟩ := z
      refine cut (pv.run _ sa σ8 Ha _ Ia za) fun vv sb z => ?_
      obtain ⟨yv, Hb, Ib, rb, b, es, k, ek, kb, atD, few, nx⟩ := z
      subst ek
      cases (show kv = Value.ref b from ra)
      exact kept_put hu Ib atD few kb rb fun sc Ic => over Ic nx
/-- the block that a comprehension opens -/
theorem pe_dcT {kx vx tg iter : Expr} {ifs : List Expr} {scope : Scope} {own : List (Str × Nat)} {pos : Pos} {wi : TI} {g : TG} {tt : TT} {tk tv : TE} (hu : X.A.units < cLine) (hc : X.calm = true) (hN : X.N.Nodup) (hi : PI X tg iter wi) (ok : BlkOk X.N X.env.scope scope own)
    (hg : ∀ (s : Shared) (Hb : Hp) (C : Addr) (clo : List (Str × Addr)) (fp : List Addr), PG (X.blk s Hb scope (compEnvC scope clo C X.env) fp) tg g)
    (ht : ∀ (s : Shared) (Hb : Hp) (C : Addr) (clo : List (Str × Addr)) (fp : List Addr), PTs (X.blk s Hb scope (compEnvC scope clo C X.env) fp) ifs tt)
    (hk : ∀ (s : Shared) (Hb : Hp) (C : Addr) (clo : List (Str × Addr)) (fp : List Addr), PE (X.blk s Hb scope (compEnvC scope clo C X.env) fp) kx tk)
    (hv : ∀ (s : Shared) (Hb : Hp) (C : Addr) (clo : List (Str × Addr)) (fp : List Addr), PE (X.blk s Hb scope (compEnvC scope clo C X.env) fp) vx tv) (hs : ∀ x, foldedSetIterable iter X.env x = pure x := by intro _; rfl) :
    PE X (.DictComp kx vx [⟨tg, iter, ifs, 0⟩] scope pos) (tDcT wi g tt tk tv (own.map (·.2))) := ⟨fun pins s σ Hi Q I h => by
  rw [arm_eval_DictComp]
  have outer : ∀ y ∈ scope.names, y.2 = .free → ∃ c, X.env.cells.lookup y.1 = some c := fun y hy e => (ok.free y hy e).elim (fun k => I.ok.has _ (.inl k)) fun k => I.ok.has _ (.inr k)
  refine wpAny_comprehension_free rfl hs (closure_ok outer) ok.kind (fun y hy e => by rw [ok.uniq y hy, e]) (wpAny_mono (hi.run pins s σ Hi _ I h) (fun xv sa ha => wpAny_mono ha (fun itv sb hb => ?_) fun _ _ z => z) fun _ _ z => z)
  obtain ⟨it, fp, tn, J, Hj, e, Ij, T, t2, f2, q⟩ := hb
  subst e
  refine wpAny_newObj_type (newEnv_comp ?_)
  obtain ⟨W, ⟨m0, w0⟩, turn⟩ := q sb.heap.objs.size (Ij.hok.fresh (Nat.le_refl _))
  have If : L2.Inv X pins σ (upd Hj sb.heap.objs.size (.dT [])) { sb with heap := sb.heap.push { cls := .type "dict", data := .dict #[] } } :=
    Ij.laid (t' := sb.toks) (fun b o e => Heap.get?_push_of_some _ e) (Nat.le_refl _) (dt_empty sb.heap Ij.big)
  have f3 : ∀ b ∈ fp, FpOk X pins (upd Hj sb.heap.objs.size (.dT [])) b ∧ b < (sb.heap.push { cls := .type "dict", data := .dict #[] }).objs.size := fun b hb => by
    obtain ⟨o, e, _⟩ := T.obj _ _ t2 b hb
    have lt := Heap.lt_size e
    exact ⟨⟨by rw [upd_ne (Nat.ne_of_lt lt)]; exact (f2 b hb).1, (f2 b hb).2⟩, by rw [Heap.size_push]; exact Nat.lt_succ_of_lt lt⟩
  have t3 : tn 0 (sb.heap.push { cls := .type "dict", data := .dict #[] }) := T.keep _ _ _ t2 fun b _ o e => Heap.get?_push_of_some _ e
  generalize sb.heap.objs.size = D at turn If f3 w0 ⊢
  generalize hsc : ({ sb with heap := sb.heap.push { cls := .type "dict", data := .dict #[] } } : Shared) = sc at If
  have hsh : sb.heap.push { cls := .type "dict", data := .dict #[] } = sc.heap := by rw [← hsc]
  rw [hsh] at f3 t3
  generalize upd Hj D (.dT []) = Hc at If f3 w0
  have Ib := block_start If ok hN f3
  have pg := hg sc Hc sc.heap.objs.size (cellsFrom (sc.heap.objs.size + 1) scope.names (cloFrom X.env.cells scope.names [])) fp
  have pt := ht sc Hc sc.heap.objs.size (cellsFrom (sc.heap.objs.size + 1) scope.names (cloFrom X.env.cells scope.names [])) fp
  have pk := hk sc Hc sc.heap.objs.size (cellsFrom (sc.heap.objs.size + 1) scope.names (cloFrom X.env.cells scope.names [])) fp
  have pv := hv sc Hc sc.heap.objs.size (cellsFrom (sc.heap.objs.size + 1) scope.names (cloFrom X.env.cells scope.names [])) fp
  have goal : codeAny (model X.prog X.w) X.A (.compStart (.DictComp kx vx [⟨tg, iter, ifs, 0⟩] scope pos) 0 (.ref it) (.ref D) (compEnvC scope (cellsFrom (sc.heap.objs.size + 1) scope.names (cloFrom X.env.cells scope.names [])) sc.heap.objs.size X.env))
      (compPost (model X.prog X.w) X.A X.xe none (fun v s' => ∃ w H', L2.Inv X pins σ H' s' ∧ RelV w v ∧ Q w H') (.ref D) sc.heap.objs.size) { sc with heap := pushCells (sc.heap.push { cls := .type "dict", data := .dict #[] }) scope.names } := by
    have locs : (compEnvC scope (cellsFrom (sc.heap.objs.size + 1) scope.names (cloFrom X.env.cells scope.names [])) sc.heap.objs.size X.env).locals = sc.heap.objs.size := rfl
    generalize compEnvC scope (cellsFrom (sc.heap.objs.size + 1) scope.names (cloFrom X.env.cells scope.names [])) sc.heap.objs.size X.env = ce at Ib pg pt pk pv locs ⊢
    have t4 : tn 0 (pushCells (sc.heap.push { cls := .type "dict", data := .dict #[] }) scope.names) := T.keep _ _ _ t3 fun b _ o e => pushCells_keeps _ _ _ _ (Heap.get?_push_of_some _ e)
    have n3 : ∀ b ∈ fp, Hc b = none := fun b hb => (f3 b hb).1.1
    have young : ∀ {σ' : L2.St} {H' : Hp} {s' : Shared}, L2.Inv (X.blk sc Hc scope ce fp) [] σ' H' s' → (∀ b ∈ fp, H' b = none) → ∀ b ∈ fp, FpOk (X.blk sc Hc scope ce fp) [] H' b := fun {σ' H' s'} Iy hn b hb =>
      ⟨hn b hb, (Iy.ok.exf b hb).1, Iy.ok.exfs b hb, .inl hb, fun x c e => (Iy.ok.exf b hb).2 x c e, fun p hp => absurd (show p ∈ ([] : List (Addr × Obj)) ++ [] from hp) (by simp)⟩
    have back : ∀ (H5 : Hp) (s' : Shared), L2.Inv (X.blk sc Hc scope ce fp) [] (wipe σ (own.map (·.2))) H5 s' → Q (.ref D) H5 → compPost (model X.prog X.w) X.A X.xe none (fun v s' => ∃ w H', L2.Inv X pins σ H' s' ∧ RelV w v ∧ Q w H') (.ref D) sc.heap.objs.size (.ok .next) s' := fun H5 s' Iy qd => by
      have Ix : L2.Inv X pins σ H5 s' := If.call' (ch := fp) Iy.os Iy.base Iy.hok Iy.bare fun b hb => ⟨(f3 b hb).1.2.2.2.1, (f3 b hb).1.2.1, (f3 b hb).1.2.2.2.2.1, (f3 b hb).1.2.2.2.2.2⟩
      have gone : H5 ce.locals = none := Iy.free
      obtain ⟨m, ns, _⟩ := Iy.loc
      have ns' : s'.heap.Ns ce.locals m := ns
      rw [locs] at ns' gone
      obtain ⟨f0, f1, f2, f3', f4, f5⟩ := If.fpOk (Nat.le_refl _) gone
      exact ⟨m, ns', fun h'' but => ⟨.ref D, H5, Ix.turned (t' := s'.toks) (fun b o hb e => (but.2 b hb).trans e) f0 f1 f3' f4 f5, rfl, qd⟩⟩
    refine codeAny_compStart_dict ?_ (T.self X.A 0 _ _ _ t4 ?_) <;>
    · refine compLoop_anyD (fun n s' => ∃ i H', L2.Inv (X.blk sc Hc scope ce fp) [] (wipe σ (own.map (·.2))) H' s' ∧ tn i s'.heap ∧ (∀ b ∈ fp, H' b = none) ∧ W i n H') (fun n s' z => ?_) m0 ⟨0, Hc, Ib, t4, n3, w0⟩
      obtain ⟨i, H5, I5, t5, n5, w5⟩ := z
      refine turn_dcT (Y := X.blk sc Hc scope ce fp) (W := W) (J := J) (g := g) (tt := tt) (tk := tk) (tv := tv) hu T hc rfl rfl young pg pt pk pv I5 t5 n5 ?_
      rcases turn i n H5 w5 with ⟨halt, qd⟩ | ⟨goes, Nx, down, step⟩
      · exact .inl ⟨halt, fun s6 I6 => back H5 s6 I6 qd⟩
      · exact .inr ⟨goes, Nx, down, step⟩
  exact goal⟩
end
/-! ### as a function of data -/
noncomputable def dcl (vs : List Nat) (g : D → Rho → Option Rho) (t : Rho → RX Bool) (mk mv : Rho → RX D) : List D → List (List Key) → List D → Rho → RX (List (List Key) × List D)
  | [], ks, ds, ρ => .ok (ks, ds) ρ
  | d :: rest, ks, ds, ρ =>
    match g d ρ with
    | none => .bad
    | some ρ1 =>
      match t ρ1 with
      | .ok true ρ2 =>
        match mk ρ2 with
        | .ok kd ρ3 =>
          match keyT kd with
          | some k =>
            match mv ρ3 with
            | .ok v ρ4 => if cap ks.length then dcl vs g t mk mv rest (putTk ks k) (putTd ks ds k v.frz) (fgt vs ρ4) else .bad
            | _ => .bad
          | none => .bad
        | _ => .bad
      | .ok false ρ2 => dcl vs g t mk mv rest ks ds (fgt vs ρ2)
      | _ => .bad
noncomputable def eDcT (vs : List Nat) (it : Rho → RX (List D)) (g : D → Rho → Option Rho) (t : Rho → RX Bool) (mk mv : Rho → RX D) : Rho → RX D := fun ρ =>
  (it ρ).bind fun ds ρ1 => (dcl vs g t mk mv ds [] [] (fgt vs ρ1)).bind fun p ρ2 => .ok (.vT p.1 p.2) (rst ρ1 vs ρ2)
section
variable {X : Cx} {cl : Tb} {W : WX'}
theorem dc_imp {wi : TI} {g : TG} {tt : TT} {tk tv : TE} {it : Rho → RX (List D)} {gm : D → Rho → Option Rho} {t : Rho → RX Bool} {mk mv : Rho → RX D} {vs : List Nat}
    (hwi : ∀ σ H Q, tX X.K cl W (rIt X.K cl) it σ H Q → wi σ H Q) (hg : ∀ v σ H Q, tG X.K cl vs gm v σ H Q → g v σ H Q)
    (ht : ∀ σ H Q, tX X.K cl (fun _ _ _ _ => False) rB t σ H Q → tt σ H Q) (hk : ∀ σ H Q, tX X.K cl (fun _ _ _ _ => False) (rD X.K cl) mk σ H Q → tk σ H Q)
    (hv : ∀ σ H Q, tX X.K cl (fun _ _ _ _ => False) (rD X.K cl) mv σ H Q → tv σ H Q)
    (σ : L2.St) (H : Hp) (Q : VK) (q : tX X.K cl W (rD X.K cl) (eDcT vs it gm t mk mv) σ H Q) : tDcT wi g tt tk tv vs σ H Q := by
  obtain ⟨G, F, ρ, A, R, st, en, p⟩ := q
  refine hwi _ _ _ ⟨G, F, ρ, A, R, st, en, Pst.bind p fun ds ρ1 J F1 H1 A1 B1 e1 o1 p1 => ?_⟩
  intro Dd nD
  let Wd : Nat → Hp → Prop := fun i H => ∃ F ρ2 A ks vd xs, Le F1 F ∧ F Dd = none ∧ H Dd = some (.dT (ks.zip xs)) ∧ ks.length = xs.length ∧ Sta G F H (fun x => A x + (one Dd x + R x)) ∧ (∀ a, 0 < R a → H a = H1 a) ∧ EnvR X.K cl F H ρ2 (wipe σ vs) A ∧ Owns X.K cl F H vd xs zf ∧
    Pst X.K cl W (rD X.K cl) G F1 H1 σ R ((dcl vs gm t mk mv (ds.drop i) ks vd ρ2).bind fun p ρ2 => .ok (.vT p.1 p.2) (rst ρ1 vs ρ2)) Q
  have st1 : Sta G F1 H1 (fun x => A1 x + R x) := e1.st.less fun x => by show A1 x + R x ≤ A1 x + (B1 x + R x); omega
  obtain ⟨fD, sD, stD⟩ := lay_owned (o := .dT []) st1 nD
  have off1 : ∀ a, 0 < A1 a + R a → a ≠ Dd := fun a ha e => by subst e; have : A1 a + R a = 0 := sD; omega
  have start : Wd 0 (upd H1 Dd (.dT [])) := by
    refine ⟨F1, fgt vs ρ1, A1, [], [], [], Le.refl, fD, upd_same, rfl, stD.less fun x => ?_, fun a ha => upd_ne (off1 a (by omega)), ?_, rfl, p1⟩
    · show A1 x + (one Dd x + R x) ≤ one Dd x + (A1 x + R x); omega
    · exact (EnvR.wipe vs e1.en).mono Le.refl (fun a ha => ⟨upd_ne (off1 a (by omega)), (st1.own a (by show 0 < A1 a + R a; omega)).1⟩) fun _ => Nat.le_refl _
  refine ⟨fun i m H => m = ds.length - i ∧ i ≤ ds.length ∧ Wd i H, ⟨ds.length, rfl, Nat.zero_le _, start⟩, ?_⟩
  rintro i mm H2 ⟨rfl, hi, F2, ρ2, A2, ks, vd, xs, le2, fD2, hD2, hl2, st2, ag2, en2, oa2, p2⟩
  obtain ⟨go, stop⟩ := o1 G F2 H2 _ le2 st2
  by_cases hlt : i < ds.length
  · refine .inr ?_
    obtain ⟨g1, g2⟩ := go i _ (List.getElem?_eq_getElem hlt)
    refine ⟨g1, Wd (i + 1), fun H' n => ⟨ds.length - (i + 1), by omega, rfl, hlt, n⟩, fun x H' y => ?_⟩
    obtain ⟨F3, le3, ag3, st3, o3⟩ := g2 x H' y
    rw [List.drop_eq_getElem_cons hlt] at p2
    unfold dcl at p2
    have en3 : EnvR X.K cl F3 H' ρ2 (wipe σ vs) A2 := en2.mono le3 (fun a ha => ⟨ag3 a (by show 0 < A2 a + _; omega), (st3.own a (by show 0 < A2 a + _; omega)).1⟩) fun _ => Nat.le_refl _
    refine hg _ _ _ _ ⟨G, F3, ρ2, A2, zf, fun x => one Dd x + R x, ds[i], st3.less fun x => by show A2 x + (zf x + (one Dd x + R x)) ≤ A2 x + (one Dd x + R x); unfold zf; omega, en3, o3, ?_⟩
    cases hgd : gm ds[i] ρ2 with
    | none => simp only [hgd] at p2; exact p2.elim
    | some ρ3 =>
      simp only [hgd] at p2
      intro σ4 F4 H4 A4 hw e4
      rw [wipe_idem] at hw
      refine ⟨hw, ?_⟩
      refine ht _ _ _ ⟨G, F4, ρ3, A4, fun x => one Dd x + R x, e4.st.less fun x => by show A4 x + (one Dd x + R x) ≤ A4 x + (zf x + (one Dd x + R x)); omega, e4.en, ?_⟩
      cases htr : t ρ3 with
      | ex c xs ρ4 => simp only [htr] at p2; exact p2.elim
      | bad => simp only [htr] at p2; exact p2.elim
      | ok b ρ4 =>
        intro b' F5 H5 A5 B5 e5 ob
        have ob' : b = b' := ob
        subst ob'
        have ag5 : ∀ a, 0 < one Dd a + R a → H5 a = H2 a := fun a ha => (e5.ag a ha).trans ((e4.ag a ha).trans (ag3 a (by show 0 < A2 a + (one Dd a + R a); omega)))
        have le5 : Le F2 F5 := le3.trans (e4.le.trans e5.le)
        have fre5 : ∀ a, 0 < one Dd a + R a → F5 a = none := fun a ha => (e5.st.own a (by show 0 < A5 a + (B5 a + (one Dd a + R a)); omega)).1
        have oneD : 0 < one Dd Dd := by rw [one_self]; exact Nat.one_pos
        cases b with
        | false =>
          simp only [htr] at p2
          rw [if_neg Bool.false_ne_true]
          refine ⟨F5, fgt vs ρ4, A5, ks, vd, xs, le2.trans le5, fre5 Dd (by omega), (ag5 Dd (by omega)).trans hD2, hl2, e5.st.less fun x => ?_, fun a ha => (ag5 a (by omega)).trans (ag2 a ha), ?_, oa2.mono le5 (fun a ha => absurd ha (Nat.lt_irrefl 0)) (fun _ => Nat.le_refl _), p2⟩
          · show A5 x + (one Dd x + R x) ≤ A5 x + (B5 x + (one Dd x + R x)); omega
          · rw [← hw]; exact EnvR.wipe vs e5.en
        | true =>
          simp only [htr] at p2
          rw [if_pos rfl]
          refine hk _ _ _ ⟨G, F5, ρ4, A5, fun x => one Dd x + R x, e5.st.less fun x => by show A5 x + (one Dd x + R x) ≤ A5 x + (B5 x + (one Dd x + R x)); omega, e5.en, ?_⟩
          cases hkr : mk ρ4 with
          | ex c xs ρ5 => simp only [hkr] at p2; exact p2.elim
          | bad => simp only [hkr] at p2; exact p2.elim
          | ok kd ρ5 =>
            simp only [hkr] at p2
            cases hkk : keyT kd with
            | none => simp only [hkk] at p2; exact p2.elim
            | some k =>
              simp only [hkk] at p2
              intro v6 F6 H6 A6 B6 e6 o6
              obtain ⟨b6, rfl, hb6⟩ := keyT_own hkk o6
              refine hv _ _ _ ⟨G, F6, ρ5, A6, fun x => one Dd x + R x, e6.st.less fun x => by show A6 x + (one Dd x + R x) ≤ A6 x + (B6 x + (one Dd x + R x)); omega, e6.en, ?_⟩
              cases hvr : mv ρ5 with
              | ex c xs ρ6 => simp only [hvr] at p2; exact p2.elim
              | bad => simp only [hvr] at p2; exact p2.elim
              | ok d ρ6 =>
                simp only [hvr] at p2
                intro v7 F7 H7 A7 B7 e7 o7
                obtain ⟨e8, le8⟩ := e7.fz
                have ov := o7.freeze (H' := H7) le8 fun a ha => fz_at ha
                by_cases hc : cap ks.length = true
                · rw [if_pos hc] at p2
                  have ag7 : ∀ a, 0 < one Dd a + R a → H7 a = H2 a := fun a ha => (e7.ag a ha).trans ((e6.ag a ha).trans (ag5 a ha))
                  have le7 : Le F2 (FL.fz F7 H7 B7) := (le5.trans e6.le).trans (e7.le.trans le8)
                  have fre8 : ∀ a, 0 < A7 a + (one Dd a + R a) → FL.fz F7 H7 B7 a = none := fun a ha => (e8.st.own a (by show 0 < A7 a + (zf a + (one Dd a + R a)); unfold zf; omega)).1
                  have os7 : Owns X.K cl (FL.fz F7 H7 B7) H7 vd xs zf := oa2.mono le7 (fun a ha => absurd ha (Nat.lt_irrefl 0)) (fun _ => Nat.le_refl _)
                  obtain ⟨xs', hput, hl', os'⟩ := put_own k os7 hl2 ov
                  refine ⟨b6, ks.zip xs, k, rfl, e7.st.sub _ _ (e7.le _ _ hb6), (ag7 Dd (by omega)).trans hD2, by rw [List.length_zip, ← hl2, Nat.min_self]; exact cap_line hc, ?_⟩
                  rw [hput]
                  have st8 := upd_own (o := .dT ((putTk ks k).zip xs')) e8.st (show 0 < A7 Dd + (zf Dd + (one Dd Dd + R Dd)) by omega)
                  have off : ∀ a, 0 < A7 a + R a → a ≠ Dd := fun a ha e => by
                    subst e
                    have h1 : A7 a + (zf a + (one a a + R a)) ≤ 1 := e8.st.nd a
                    rw [one_self] at h1
                    omega
                  refine ⟨FL.fz F7 H7 B7, fgt vs ρ6, A7, putTk ks k, putTd ks vd k d.frz, xs', le2.trans le7, fre8 Dd (by omega), upd_same, hl', st8.less fun x => ?_, fun a ha => ?_, ?_, ?_, p2⟩
                  · show A7 x + (one Dd x + R x) ≤ A7 x + (zf x + (one Dd x + R x)); omega
                  · rw [upd_ne (off a (by omega))]; exact (ag7 a (by omega)).trans (ag2 a ha)
                  · rw [← hw]
                    exact (EnvR.wipe vs e8.en).mono Le.refl (fun a ha => ⟨upd_ne (off a (by omega)), fre8 a (by omega)⟩) fun _ => Nat.le_refl _
                  · exact os'.mono Le.refl (fun a ha => absurd ha (Nat.lt_irrefl 0)) fun _ => Nat.le_refl _
                · rw [if_neg hc] at p2; exact p2.elim
  · have e : i = ds.length := by omega
    subst e
    refine .inl ⟨stop, ?_⟩
    rw [List.drop_length] at p2
    refine p2 (.ref Dd) F2 H2 A2 (fun x => one Dd x) ⟨le2, ag2, st2, EnvR.rst e1.en le2 vs en2.unwipe⟩ ⟨Dd, xs, zf, rfl, fD2, hD2, hl2, oa2, fun x => by show one Dd x + 0 ≤ one Dd x; omega⟩
theorem fe_dcT {k : Nat} {kx vx tg iter : Expr} {ifs : List Expr} {scope : Scope} {own : List (Str × Nat)} {pos : Pos} {it : Rho → RX (List D)} {g : D → Rho → Option Rho} {t : Rho → RX Bool} {mk mv : Rho → RX D} (hr : Room k X.A) (hc : X.calm = true) (hN : X.N.Nodup) (hi : FI X cl W tg iter it) (ok : BlkOk X.N X.env.scope scope own)
    (hg : ∀ (s : Shared) (H : Hp) (C : Addr) (clo : List (Str × Addr)) (fp : List Addr), FG (X.blk s H scope (compEnvC scope clo C X.env) fp) cl tg (own.map (·.2)) g)
    (ht : ∀ (s : Shared) (H : Hp) (C : Addr) (clo : List (Str × Addr)) (fp : List Addr), PTs (X.blk s H scope (compEnvC scope clo C X.env) fp) ifs (tX X.K cl W0 rB t))
    (hk : ∀ (s : Shared) (H : Hp) (C : Addr) (clo : List (Str × Addr)) (fp : List Addr), FE (X.blk s H scope (compEnvC scope clo C X.env) fp) cl W0 kx mk)
    (hv : ∀ (s : Shared) (H : Hp) (C : Addr) (clo : List (Str × Addr)) (fp : List Addr), FE (X.blk s H scope (compEnvC scope clo C X.env) fp) cl W0 vx mv) (hs : ∀ x, foldedSetIterable iter X.env x = pure x := by intro _; rfl) :
    FE X cl W (.DictComp kx vx [⟨tg, iter, ifs, 0⟩] scope pos) (eDcT (own.map (·.2)) it g t mk mv) :=
  PE_imp (pe_dcT (by have := hr.units; omega) hc hN hi ok hg ht hk hv hs) fun σ H Q q => dc_imp (fun _ _ _ q => q) (fun _ _ _ _ q => q) (fun _ _ _ q => q) (fun _ _ _ q => q) (fun _ _ _ q => q) σ H Q q
end
end FL

set_option Elab.async false
set_option linter.all false
set_option maxRecDepth 100000
set_option maxHeartbeats 1000000
namespace FL
open PySem L2
open PyProof.Rows (envOfC)
/-! ### an own operator whose right side is an int -/
/-- what is asked of the class and of int -/
structure MulI (K : PySem.W.Frag) (C : Addr) (op : Operator) : Prop where
  rev : ∃ rc, PySem.W.findIn K (.ref C) (dunderR op.info.2) = some rc ∧ (rc = none ∨ ∃ g : Addr, rc = some (.ref g))
  own : ∃ fo, PySem.W.findIn K (.type "int") (PySem.dunder op.info.2) = some fo
  orv : ∃ ro, PySem.W.findIn K (.type "int") (dunderR op.info.2) = some ro
  sub : PySem.W.subIn K (.type "int") (.ref C) = some false
def eOwnI (c : Nat) (m : List D → RF) (a b : Rho → RX D) : Rho → RX D := fun ρ => (a ρ).bind fun x ρ1 => (b ρ1).bind fun y ρ2 => match y with
  | .int i => if isObj' c x.frz then rfX (m [x.frz, .int i]) ρ2 else .bad
  | _ => .bad
section
variable {X : Cx} {cl : Tb} {W : WX'} {pos : Pos}
def rOwnIX (K : PySem.W.Frag) (cl : Tb) (W : WX') (c : Nat) (m : List D → RF) (σ : L2.St) : R2 := fun x y H Q => ∃ a i dx fs, x = .ref a ∧ y = .int i ∧ H a = some (.ins (cl c).at_ dx fs) ∧ spF K cl 2 m [x, y] H Q (WE W σ)
theorem op_ownIX {c k : Nat} {m : List D → RF} {op : Operator} {nm : Str} (O : OpC X.prog X.w X.K X.mg X.base cl c nm 2 k m) (hn : PySem.dunder op.info.2 = nm) (hc : PySem.W.selfFirst X.K (cl c).at_ = true) (M : MulI X.K (cl c).at_ op) (hr : Room k X.A) (tk : L2N.Takes X W) : OpS X (binaryOp op) (rOwnIX X.K cl W c m) := by
  obtain ⟨f, fd, ps, F, hs, hf, hb⟩ := O.ex
  obtain ⟨⟨rc, hR, hp⟩, ⟨fo, h1⟩, ⟨ro, h2⟩, hsub⟩ := M
  intro pins s σ H x y v u Q I rx ry h
  obtain ⟨a, i, dx, fs, rfl, rfl, ha, hsp⟩ := h
  cases rx
  obtain ⟨t, rfl⟩ := ry
  obtain ⟨mA, J, _⟩ := ins_get I.hok ha
  obtain ⟨od, J, _⟩ := J.look
  obtain ⟨m', hF⟩ := I.fr
  refine PySem.W.ksp_binT (T := "int") hF I.ok.mod.kin J rfl hc (by rw [hn]; exact hs) hf hR hp h1 h2 hsub ?_
  have r2 : Vals [V.ref a, V.int i] [Value.ref a, Value.int i t] := .cons rfl (.cons ⟨t, rfl⟩ .nil)
  refine wpAny_mono (own_callX F hb hr I.env0 tk I r2 hsp) (fun v s' q => ?_) fun _ _ e => e
  obtain ⟨z, H', I', rz, q⟩ := q
  have g : EP X pins σ Q v s' := ⟨z, H', I', rz, q⟩
  have : PySem.W.CmpBack (EP X pins σ Q) v s' := by
    cases v <;> first | exact g | (cases z <;> first | (cases rz; done) | (obtain ⟨t, e⟩ := rz; cases e))
  exact this
theorem fe_ownI {c k : Nat} {m : List D → RF} {op : Operator} {nm : Str} {a b : Expr} {ma mb : Rho → RX D} (O : OpC X.prog X.w X.K X.mg X.base cl c nm 2 k m) (hn : PySem.dunder op.info.2 = nm) (hc : PySem.W.selfFirst X.K (cl c).at_ = true) (M : MulI X.K (cl c).at_ op) (hr : Room k X.A) (tk : L2N.Takes X W)
    (ha : FE X cl W a ma) (hb : FE X cl W b mb) : FE X cl W (.BinOp a op b pos) (eOwnI c m ma mb) := PE_imp (pe_opS (op_ownIX O hn hc M hr tk) ha hb) fun σ H Q q => by
  obtain ⟨G, F, ρ, A, R, st, en, p⟩ := q
  refine ⟨G, F, ρ, A, R, st, en, Pst.bind p fun x ρ1 v F1 H1 A1 B1 e1 o1 p1 => ?_⟩
  refine tX.run e1 (Pst.bindC p1 fun y ρ2 w F2 H2 A2 B2 e2 o2 p2 => ?_)
  cases y with
  | int i =>
    replace p2 : Pst X.K cl W (rD X.K cl) G F2 H2 σ R (if isObj' c x.frz = true then rfX (m [x.frz, .int i]) ρ2 else .bad) Q := p2
    by_cases hc : isObj' c x.frz = true
    · rw [if_pos hc] at p2
      obtain ⟨F3, e3, o3, o4⟩ := two_frz e2.st e2.en (e2.keep o1) o2
      obtain ⟨a, dx, fs, rfl, hA⟩ := obj_own hc o3
      have ew : w = .int i := o4
      subst ew
      exact ⟨a, i, dx, fs, rfl, rfl, e3.st.sub _ _ hA, own_sp (xs := [x.frz, .int i]) e3 ⟨_, _, zf, zf, rfl, o3, ⟨_, _, zf, zf, rfl, o4, rfl, fun _ => Nat.le_refl _⟩, fun _ => Nat.le_refl _⟩ rfl (fun _ _ z => z) p2⟩
    · rw [if_neg hc] at p2; exact p2.elim
  | _ => exact p2.elim
end
end FL

set_option Elab.async false
set_option linter.all false
set_option maxRecDepth 100000
set_option maxHeartbeats 2000000
namespace FL
open PySem L2
open PyProof.Rows (envOfC)
/-! ### [(a, b, d[a, b]) for a, b in d], d a dict in a slot -/
noncomputable def rowsT (ks0 : List (List Key)) (ds0 : List D) : List (List Key) → Option (List D)
  | [] => some []
  | k :: r => match k, getT ks0 ds0 k with
    | [Sum.inl a, Sum.inl b], some d => if d.pure then (rowsT ks0 ds0 r).map fun l => .tup [.int a, .int b, d] :: l else none
    | _, _ => none
noncomputable def eItT (i jx jy : Nat) : Rho → RX D := fun ρ => match ρ[i]? with
  | some (some (.vT ks ds)) => (match rowsT ks ds ks with
    | some l => if cap ks.length && decide (jx < ρ.length) && decide (jy < ρ.length) then .ok (.vec l) ρ else .bad
    | none => .bad)
  | _ => .bad
section
variable {X : Cx} {cl : Tb} {W : WX'}
theorem rowsT_at {ks0 : List (List Key)} {ds0 : List D} : ∀ {ks : List (List Key)} {l : List D}, rowsT ks0 ds0 ks = some l → l.length = ks.length ∧ ∀ (i : Nat) (k : List Key), ks[i]? = some k → ∃ (a b : Int) (d : D), k = [Sum.inl a, Sum.inl b] ∧ getT ks0 ds0 k = some d ∧ d.pure = true ∧ l[i]? = some (D.tup [D.int a, D.int b, d])
  | [], l, h => by cases h; exact ⟨rfl, fun i k e => by simp at e⟩
  | k :: r, l, h => by
    unfold rowsT at h
    split at h
    · rename_i a b d hg
      split at h
      · rename_i hp
        cases hr : rowsT ks0 ds0 r with
        | none => rw [hr] at h; cases h
        | some l' =>
          rw [hr] at h
          cases h
          obtain ⟨e, ih⟩ := rowsT_at hr
          refine ⟨by rw [List.length_cons, List.length_cons, e], fun i k' e' => ?_⟩
          cases i with
          | zero =>
            have e2 : [Sum.inl a, Sum.inl b] = k' := by simpa using e'
            subst e2
            exact ⟨a, b, d, rfl, hg, hp, rfl⟩
          | succ i => exact ih i k' (by simpa using e')
      · cases h
    · cases h
theorem Owns.cat0 {K : PySem.W.Frag} {F H : Hp} {ds : List D} {vs : List V} {d : D} {v : V} (h : Owns K cl F H ds vs zf) (p : Own K cl F H d v zf) : Owns K cl F H (ds ++ [d]) (vs ++ [v]) zf := (h.snoc p).up fun x => by show zf x + zf x ≤ zf x; unfold zf; omega
theorem zero_owns' {K : PySem.W.Frag} {F H F' H' : Hp} {ds : List D} {vs : List V} (h : Owns K cl F H ds vs zf) (le : Le F F') : Owns K cl F' H' ds vs zf := h.mono le (fun a ha => absurd ha (Nat.lt_irrefl 0)) fun _ => Nat.le_refl _
theorem zero_own' {K : PySem.W.Frag} {F H F' H' : Hp} {d : D} {v : V} (h : Own K cl F H d v zf) (le : Le F F') : Own K cl F' H' d v zf := h.mono le (fun a ha => absurd ha (Nat.lt_irrefl 0)) fun _ => Nat.le_refl _
def tRow (i jx jy : Nat) : TE := tTup (tCons (tVar jx) (tCons (tVar jy) (tCons (tDGet (tVar i) (tTup (tCons (tVar jx) (tCons (tVar jy) tNil)))) tNil)))
theorem it_imp {i jx jy : Nat} (h1 : jx ≠ jy) (h2 : i ≠ jx) (h3 : i ≠ jy) (σ : L2.St) (H : Hp) (Q : VK) (q : tX X.K cl W (rD X.K cl) (eItT i jx jy) σ H Q) :
    tLockE (tLc (iKeys (tVar i)) (gTup X.K 2 (gCons (gName jx) (gCons (gName jy) gNil))) tYes (tRow i jx jy) [jx, jy]) σ H Q := by
  obtain ⟨G, F, ρ, A, R, st, en, p⟩ := q
  unfold eItT at p
  split at p
  · rename_i ks ds hρ
    split at p
    · rename_i l hrow
      split at p
      · rename_i hcond
        rw [Bool.and_eq_true, Bool.and_eq_true, decide_eq_true_eq, decide_eq_true_eq] at hcond
        obtain ⟨⟨hcap, jxl⟩, jyl⟩ := hcond
        have hlen := en.length
        obtain ⟨v, B, C, hv, o, _, hs⟩ := en.get hρ
        obtain ⟨a, xs, B', rfl, fa, hH, hl, os, hs'⟩ := o
        have hBa : 0 < A a := by have := hs a; have := hs' a; rw [one_self] at this; omega
        obtain ⟨rl, rat⟩ := rowsT_at hrow
        refine ⟨a, .dT (ks.zip xs), hH, True.intro, fun od => ?_⟩
        refine ⟨.ref a, hv, a, od, rfl, .inr ⟨ks.zip xs, upd_same, ?_⟩⟩
        intro Dd nD
        have neD : Dd ≠ a := fun e => by subst e; rw [upd_same] at nD; cases nD
        have nD' : H Dd = none := by rw [upd_ne neD] at nD; exact nD
        obtain ⟨fD, sD, stD⟩ := lay_owned (o := .lst []) st nD'
        have kl : (ks.zip xs).length = ks.length := by rw [List.length_zip, ← hl, Nat.min_self]
        -- the word of a turn; the heap with the dict as it was: upd H a (.dT ..)
        let Wd : Nat → Hp → Prop := fun n Hc => ∃ F' Hn acc, Le F F' ∧ F' Dd = none ∧ Hc = upd Hn a (.frz od (.dT (ks.zip xs))) ∧ Hn a = some (.dT (ks.zip xs)) ∧ Hn Dd = some (.lst acc) ∧ Sta G F' Hn (fun x => one Dd x + (A x + R x)) ∧ (∀ b, 0 < A b + R b → Hn b = H b) ∧ Owns X.K cl F' Hn (l.take n) acc zf
        have start : Wd 0 (upd (upd H a (.frz od (.dT (ks.zip xs)))) Dd (.lst [])) := by
          refine ⟨F, upd H Dd (.lst []), [], Le.refl, fD, ?_, by rw [upd_ne (Ne.symm neD)]; exact hH, upd_same, stD, fun b hb => ?_, rfl⟩
          · funext z
            by_cases e1 : z = Dd
            · subst e1; rw [upd_same, upd_ne neD, upd_same]
            · by_cases e2 : z = a
              · subst e2; rw [upd_ne e1, upd_same, upd_same]
              · rw [upd_ne e1, upd_ne e2, upd_ne e2, upd_ne e1]
          · have hne : b ≠ Dd := fun e => by subst e; have : A b + R b = 0 := sD; omega
            exact upd_ne hne
        refine ⟨fun n m Hc => m = ks.length - n ∧ n ≤ ks.length ∧ Wd n Hc, ⟨ks.length, rfl, Nat.zero_le _, start⟩, ?_⟩
        rintro n mm Hc ⟨rfl, hn, F', Hn, acc, le', fD', rfl, ha, hD, st', ag', oacc⟩
        have hfr : (upd Hn a (.frz od (.dT (ks.zip xs)))) a = some (.frz od (.dT (ks.zip xs))) := upd_same
        by_cases hlt : n < ks.length
        · refine .inr ⟨⟨hfr, by rw [kl]; exact hlt⟩, Wd (n + 1), fun H' w => ⟨ks.length - (n + 1), by omega, rfl, hlt, w⟩, ?_⟩
          rintro x Hy ⟨rfl, k, v0, q, hk, rfl, hq⟩
          have hkn : ks[n]? = some k := by
            have e := congrArg (Option.map Prod.fst) hk
            rw [← List.getElem?_map] at e
            have : (ks.zip xs).map Prod.fst = ks := List.map_fst_zip (by omega)
            rw [this] at e
            exact e
          obtain ⟨ka, kb, d, rfl, hget, hpure, hln⟩ := rat n k hkn
          have qa : q ≠ a := fun e => by subst e; rw [upd_same] at hq; cases hq
          refine ⟨q, [.int ka, .int kb], rfl, SqT.of hq, rfl, .int ka, [.int kb], rfl, ?_⟩
          refine ⟨.int kb, [], rfl, rfl, ?_⟩
          have wl : (wipe σ [jx, jy]).length = σ.length := wipe_length σ _
          have sx : ((wipe σ [jx, jy]).set jx (some (.int ka)) |>.set jy (some (.int kb)))[jx]? = some (some (.int ka)) := by
            rw [List.getElem?_set_ne (Ne.symm h1), List.getElem?_set_self (by rw [wl, ← hlen]; exact jxl)]
          have sy : ((wipe σ [jx, jy]).set jx (some (.int ka)) |>.set jy (some (.int kb)))[jy]? = some (some (.int kb)) := by
            rw [List.getElem?_set_self (by rw [List.length_set, wl, ← hlen]; exact jyl)]
          have si : ((wipe σ [jx, jy]).set jx (some (.int ka)) |>.set jy (some (.int kb)))[i]? = some (some (.ref a)) := by
            rw [List.getElem?_set_ne (Ne.symm h3), List.getElem?_set_ne (Ne.symm h2), wipe_out (by simp [h2, h3])]
            exact hv
          have hw : wipe ((wipe σ [jx, jy]).set jx (some (.int ka)) |>.set jy (some (.int kb))) [jx, jy] = wipe (wipe σ [jx, jy]) [jx, jy] := wipe_ext (by rw [List.length_set, List.length_set]) fun j hj => by
            simp only [List.mem_cons, List.not_mem_nil, or_false, not_or] at hj
            rw [List.getElem?_set_ne (Ne.symm hj.2), List.getElem?_set_ne (Ne.symm hj.1)]
          refine ⟨by rw [hw, wipe_idem], ?_⟩
          simp only [tYes, if_true]
          -- the row
          refine ⟨.int ka, sx, .int kb, sy, .ref a, si, .int ka, sx, .int kb, sy, by show 2 ≤ sizeLine; decide, ?_⟩
          intro p1 np1
          have p1a : p1 ≠ a := fun e => by subst e; rw [upd_same] at np1; cases np1
          have np1' : Hn p1 = none := by rw [upd_ne p1a] at np1; exact np1
          obtain ⟨le1, st1⟩ := lay_frozen (o := .tup [.int ka, .int kb]) st' np1'
          obtain ⟨g1, _⟩ := getT_own (ks := ks) [Sum.inl ka, Sum.inl kb] os hl
          obtain ⟨w, hw2, ow⟩ := g1 d hget
          have ow' : Own X.K cl F Hn d w zf := ow.of_pure hpure
          refine ⟨a, w, rfl, .inr ⟨ks.zip xs, [Sum.inl ka, Sum.inl kb], p1, .inr ⟨od, by rw [upd_ne (Ne.symm p1a)]; exact upd_same⟩, rfl, upd_same, hw2.symm⟩, by show 3 ≤ sizeLine; decide, ?_⟩
          intro p2 np2
          have p21 : p2 ≠ p1 := fun e => by subst e; rw [upd_same] at np2; cases np2
          have p2a : p2 ≠ a := fun e => by subst e; rw [upd_ne (Ne.symm p1a), upd_same] at np2; cases np2
          have np2' : (upd Hn p1 (.tup [.int ka, .int kb])) p2 = none := by
            rw [upd_ne p21]
            rw [upd_ne p21, upd_ne p2a] at np2
            exact np2
          obtain ⟨le2, st2⟩ := lay_frozen (o := .tup [.int ka, .int kb, w]) st1 np2'
          have d1 : Dd ≠ p1 := fun e => by subst e; rw [np1'] at hD; cases hD
          have d2 : Dd ≠ p2 := fun e => by subst e; rw [upd_ne d1, hD] at np2'; cases np2'
          have hacc : acc.length = n := by
            have := Owns.length oacc
            rw [List.length_take, rl] at this
            omega
          refine ⟨acc, by rw [upd_ne d2, upd_ne d1, upd_ne neD]; exact hD, by have := cap_line hcap; rw [hacc]; omega, ?_⟩
          have st3 := upd_own (p := Dd) (o := .lst (acc ++ [.ref p2])) st2 (by show 0 < one Dd Dd + (A Dd + R Dd); rw [one_self]; omega)
          refine ⟨_, upd (upd (upd Hn p1 (.tup [.int ka, .int kb])) p2 (.tup [.int ka, .int kb, w])) Dd (.lst (acc ++ [.ref p2])), acc ++ [.ref p2], le'.trans (le1.trans le2), by rw [upd_ne d2, upd_ne d1]; exact fD', ?_, by rw [upd_ne (Ne.symm neD), upd_ne (Ne.symm p2a), upd_ne (Ne.symm p1a)]; exact ha, upd_same, st3, fun b hb => ?_, ?_⟩
          · funext z
            by_cases e1 : z = Dd
            · subst e1; rw [upd_same, upd_ne neD, upd_same]
            · by_cases e2 : z = a
              · subst e2; rw [upd_ne e1, upd_ne (Ne.symm p2a), upd_ne (Ne.symm p1a), upd_same, upd_same]
              · rw [upd_ne e1, upd_ne e2, upd_ne e1]
                by_cases e3 : z = p2
                · subst e3; rw [upd_same, upd_same]
                · rw [upd_ne e3, upd_ne e3]
                  by_cases e4 : z = p1
                  · subst e4; rw [upd_same, upd_same]
                  · rw [upd_ne e4, upd_ne e4, upd_ne e2]
          · have b0 : Hn b = H b := ag' b hb
            obtain ⟨o0, ho0⟩ := (st.own b hb).2.2
            have bD : b ≠ Dd := fun e => by subst e; have : A b + R b = 0 := sD; omega
            have bp1 : b ≠ p1 := fun e => by subst e; rw [b0, ho0] at np1'; cases np1'
            have bp2 : b ≠ p2 := fun e => by subst e; rw [upd_ne bp1, b0, ho0] at np2'; cases np2'
            rw [upd_ne bD, upd_ne bp2, upd_ne bp1]
            exact b0
          · have tk : l.take (n + 1) = l.take n ++ [.tup [.int ka, .int kb, d]] := by
              rw [List.take_succ, hln]; rfl
            rw [tk]
            refine (zero_owns' oacc (le1.trans le2)).cat0 ⟨p2, [.int ka, .int kb, w], rfl, ⟨SqT.of upd_same, fun _ => upd_same⟩, ?_⟩
            exact ⟨_, _, zf, zf, rfl, rfl, ⟨_, _, zf, zf, rfl, rfl, ⟨_, _, zf, zf, rfl, zero_own' ow' (le'.trans (le1.trans le2)), rfl, fun _ => Nat.le_refl _⟩, fun _ => Nat.le_refl _⟩, fun _ => Nat.le_refl _⟩
        · have e : n = ks.length := by omega
          refine .inl ⟨⟨hfr, by rw [kl]; omega⟩, hfr, ?_⟩
          have hback : upd (upd Hn a (.frz od (.dT (ks.zip xs)))) a (.dT (ks.zip xs)) = Hn := by
            funext z
            by_cases e2 : z = a
            · subst e2; rw [upd_same]; exact ha.symm
            · rw [upd_ne e2, upd_ne e2]
          rw [hback]
          have tk : l.take n = l := by rw [e, ← rl]; exact List.take_length
          rw [tk] at oacc
          have en' : EnvR X.K cl F' Hn ρ σ A := en.mono le' (fun b hb => ⟨ag' b (by omega), (st'.own b (by show 0 < one Dd b + (A b + R b); omega)).1⟩) fun _ => Nat.le_refl _
          refine p (.ref Dd) F' Hn A (fun x => one Dd x) ⟨le', fun b hb => ag' b (by omega), st'.less fun x => by show A x + (one Dd x + R x) ≤ one Dd x + (A x + R x); omega, en'⟩ ⟨Dd, acc, zf, rfl, fD', hD, oacc, fun x => by show one Dd x + 0 ≤ one Dd x; omega⟩
      · exact p.elim
    · exact p.elim
  · exact p.elim
theorem fe_itT {i jx jy k k1 k2 k3 : Nat} {x y d : Str} {pd0 pd px py px2 py2 p1 p2 t1 t2 t3 sp pos : Pos} {scope : Scope} {own : List (Str × Nat)} (hr : Room k X.A) (h1 : jx ≠ jy) (h2 : i ≠ jx) (h3 : i ≠ jy) (hc : X.calm = true) (hN : X.N.Nodup) (ho : own.map (·.2) = [jx, jy])
    (ok : BlkOk X.N X.env.scope scope own) (hd : PE X (.Name d pd0) (tVar i))
    (gx : ∀ (s : Shared) (H : Hp) (C : Addr) (clo : List (Str × Addr)) (fp : List Addr), PG (X.blk s H scope (compEnvC scope clo C X.env) fp) (.Name x p1) (gName jx))
    (gy : ∀ (s : Shared) (H : Hp) (C : Addr) (clo : List (Str × Addr)) (fp : List Addr), PG (X.blk s H scope (compEnvC scope clo C X.env) fp) (.Name y p2) (gName jy))
    (ex : ∀ (s : Shared) (H : Hp) (C : Addr) (clo : List (Str × Addr)) (fp : List Addr) (p : Pos), PE (X.blk s H scope (compEnvC scope clo C X.env) fp) (.Name x p) (tVar jx))
    (ey : ∀ (s : Shared) (H : Hp) (C : Addr) (clo : List (Str × Addr)) (fp : List Addr) (p : Pos), PE (X.blk s H scope (compEnvC scope clo C X.env) fp) (.Name y p) (tVar jy))
    (ed : ∀ (s : Shared) (H : Hp) (C : Addr) (clo : List (Str × Addr)) (fp : List Addr) (p : Pos), PE (X.blk s H scope (compEnvC scope clo C X.env) fp) (.Name d p) (tVar i)) (hs : ∀ z, foldedSetIterable (.Name d pd0) X.env z = pure z := by intro _; rfl) :
    FE X cl W (.ListComp (.Tuple [.Name x px, .Name y py, .Subscript (.Name d pd) (.Tuple [.Name x px2, .Name y py2] k1 t1) sp] k2 t2) [⟨.Tuple [.Name x p1, .Name y p2] k3 t3, .Name d pd0, [], 0⟩] scope pos) (eItT i jx jy) := by
  refine PE_imp (pe_lock (pe_lc (wi := iKeys (tVar i)) (g := gTup X.K 2 (gCons (gName jx) (gCons (gName jy) gNil))) (tt := tYes) (te := tRow i jx jy) hc hN (pi_keys hd) ok (fun s H C clo fp => pg_tup hc (pgs_cons (gx s H C clo fp) (pgs_cons (gy s H C clo fp) pgs_nil))) (fun _ _ _ _ _ => pts_nil) (fun s H C clo fp => ?_) hs)) fun σ H Q q => ?_
  · exact pe_tup (pa_cons (ex s H C clo fp _) (pa_cons (ey s H C clo fp _) (pa_cons (pe_dget (show X.A.units + 1 < cLine by have := hr.units; omega) (ed s H C clo fp _) (pe_tup (pa_cons (ex s H C clo fp _) (pa_cons (ey s H C clo fp _) pa_nil))) (fun _ _ => rfl)) pa_nil)))
  · rw [ho]
    exact it_imp h1 h2 h3 σ H Q q
end
end FL

set_option Elab.async false
set_option linter.all false
set_option maxRecDepth 100000
set_option maxHeartbeats 4000000
/-! the program of rimcords_k04_tables_whole: its defs as functions, and their walks -/
namespace Prg
open PySem L2 FL
open PyProof.Rows (envOfC)
def topS (i : Nat) : Stmt := PySem.Challenge.pw_rimcords_k04_tables_whole.main.body.getD i (.Pass ⟨0, 0, 0, 0⟩)
abbrev s_d_law_digits : Stmt := (topS 29)
abbrev N_d_law_digits : List Str := ["_law_cell_here", "_law_sizes", "_law_row", "_law_rest", "_law_size", "_law_seed", "_law_k", "_law_twice"]
noncomputable def B1_d_law_digits : Rho → RS := (sFgt [4] (sSeq (sEx (eApp 2 (eQ (qBin modD (qUn int1 (qV 3)) (qV 4))))) (sSet 3 (eQ (qBin divD (qUn int1 (qV 3)) (qV 4))))))
noncomputable def B2_d_law_digits : Rho → RS := (sFgt [6, 7] (sSeq (sSet 5 (eQ (qBin modD (qUn int1 (qBin addI (qBin addI (qBin mulD (qV 5) (qC (.int 48271))) (qBin mulD (qC (.int 974711)) (qV 6))) (qC (.int 12345)))) (qC (.int 2147483647))))) (sSeq (sSet 7 (eQ (qBin modD (qUn int1 (qBin mulD (qV 5) (qBin addI (qBin divD (qV 5) (qC (.int 65537))) (qC (.int 3))))) (qC (.int 2147483629))))) (sEx (eApp 2 (eQ (qBin modD (qBin divD (qV 7) (qC (.int 19))) (qBin ixD (qV 1) (qV 6)))))))))
noncomputable def b_d_law_digits : Rho → RS := (sSeq (sSet 2 (eLst aNil)) (sSeq (sSet 3 (eQ (qUn int1 (qV 0)))) (sSeq (sFgt [4] (sIf (tQ1 (qB (qBin geD (qV 3) (qC (.int 1000000000000000000))))) (sSeq (sSet 3 (eQ (qBin subD (qV 3) (qC (.int 1000000000000000000))))) (sSeq (sFgt [3, 4] (sFor (iSq (eV 1)) (gN 4) B1_d_law_digits)) (sRet (eM 2)))) sNx)) (sSeq (sSet 5 (eQ (qBin modD (qUn int1 (qV 3)) (qC (.int 2147483629))))) (sSeq (sFgt [6, 5, 7] (sFor (iRg1 (aCons (eQ (qUn len1 (qV 1))) aNil)) (gN 6) B2_d_law_digits)) (sRet (eM 2)))))))
noncomputable def d_law_digits : List D → RF := runF 2 8 b_d_law_digits
abbrev s_d_law_pins : Stmt := (topS 32)
abbrev N_d_law_pins : List Str := ["_law_cell_here", "_law_row"]
noncomputable def b_d_law_pins : Rho → RS := (sSeq (sSet 1 (eCall d_law_digits [] (aCons (eV 0) (aCons (eLst (aCons (eQ (qC (.int 8))) (aCons (eQ (qC (.int 30))) (aCons (eQ (qC (.int 41))) aNil)))) aNil)))) (sSeq (sIf (tQ1 (qB (qBin ltD (qBin ixD (qV 1) (qC (.int 0))) (qC (.int 5))))) (sRet (eQ (qBin addI (qC (.int 2)) (qBin modD (qUn int1 (qBin ixD (qV 1) (qC (.int 1)))) (qC (.int 5)))))) sNx) (sSeq (sIf (tQ1 (qB (qBin eqS (qBin ixD (qV 1) (qC (.int 0))) (qC (.int 5))))) (sRet (eQ (qBin addI (qC (.int 7)) (qBin modD (qUn int1 (qBin ixD (qV 1) (qC (.int 1)))) (qC (.int 6)))))) sNx) (sSeq (sIf (tQ1 (qB (qBin eqS (qBin ixD (qV 1) (qC (.int 0))) (qC (.int 6))))) (sRet (eQ (qBin modD (qUn int1 (qBin ixD (qV 1) (qC (.int 1)))) (qC (.int 2))))) sNx) (sRet (eQ (qBin ixD (qV 1) (qC (.int 2)))))))))
noncomputable def d_law_pins : List D → RF := runF 1 2 b_d_law_pins
abbrev s_d_law_cell : Stmt := (topS 28)
abbrev N_d_law_cell : List Str := ["_law_script", "_law_k", "_law_seed", "_law_cell_here"]
noncomputable def B1_d_law_cell : Rho → RS := (sFgt [3] (sSet 2 (eQ (qBin modD (qUn int1 (qBin addI (qBin mulD (qV 2) (qC (.int 31))) (qBin modD (qUn int1 (qV 3)) (qC (.int 1000003))))) (qC (.int 1000003))))))
noncomputable def b_d_law_cell : Rho → RS := (sSeq (sIf (tQ1 (qB (qBin ltD (qV 1) (qUn len1 (qV 0))))) (sRet (eQ (qBin ixD (qV 0) (qV 1)))) sNx) (sSeq (sSet 2 (eQ (qC (.int 17)))) (sSeq (sFgt [3] (sFor (iSq (eV 0)) (gN 3) B1_d_law_cell)) (sRet (eQ (qBin modD (qUn int1 (qBin mulD (qBin mulD (qBin addI (qV 2) (qC (.int 7))) (qBin addI (qV 1) (qC (.int 3)))) (qC (.int 69621)))) (qC (.int 2147483647))))))))
noncomputable def d_law_cell : List D → RF := runF 2 4 b_d_law_cell
abbrev s_d_law_norm : Stmt := (topS 31)
abbrev N_d_law_norm : List Str := ["_law_triples", "_law_pairs", "_law_entry", "_law_low", "_law_high", "_law_row", "_law_pair", "_law_many"]
noncomputable def B1_d_law_norm : Rho → RS := (sFgt [2, 4, 3] (sSeq (sSet 3 (eQ (qBin min2 (qBin ixD (qV 2) (qC (.int 0))) (qBin ixD (qV 2) (qC (.int 1)))))) (sSeq (sSet 4 (eQ (qBin max2 (qBin ixD (qV 2) (qC (.int 0))) (qBin ixD (qV 2) (qC (.int 1)))))) (sIf (tAnd (tQ1 (qB (qBin gtD (qBin ixD (qV 2) (qC (.int 2))) (qC (.int 0))))) (tB1 (eBinR dNin (eTup (aCons (eV 3) (aCons (eV 4) aNil))) (qV 1)))) (sEx (eApp 1 (eTup (aCons (eV 3) (aCons (eV 4) aNil))))) sNx))))
noncomputable def B2_d_law_norm : Rho → RS := (sFgt [2] (sIf (tQ1 (qAndT (qB (qBin eqS (qBin min2 (qBin ixD (qV 2) (qC (.int 0))) (qBin ixD (qV 2) (qC (.int 1)))) (qBin ixD (qV 6) (qC (.int 0))))) (qB (qBin eqS (qBin max2 (qBin ixD (qV 2) (qC (.int 0))) (qBin ixD (qV 2) (qC (.int 1)))) (qBin ixD (qV 6) (qC (.int 1))))))) (sSet 7 (eQ (qBin addI (qV 7) (qBin ixD (qV 2) (qC (.int 2)))))) sNx))
noncomputable def B3_d_law_norm : Rho → RS := (sFgt [2, 7, 6] (sSeq (sSet 7 (eQ (qC (.int 0)))) (sSeq (sFgt [2] (sFor (iSq (eV 0)) (gN 2) B2_d_law_norm)) (sEx (eApp 5 (eTup (aCons (eQ (qBin ixD (qV 6) (qC (.int 0)))) (aCons (eQ (qBin ixD (qV 6) (qC (.int 1)))) (aCons (eV 7) aNil)))))))))
noncomputable def b_d_law_norm : Rho → RS := (sSeq (sSet 1 (eLst aNil)) (sSeq (sFgt [2, 4, 3] (sFor (iSq (eV 0)) (gN 2) B1_d_law_norm)) (sSeq (sSet 5 (eLst aNil)) (sSeq (sFgt [2, 7, 6] (sFor (iSq (eFn soL (aCons (eV 1) aNil))) (gN 6) B3_d_law_norm)) (sRet (eFn tupL (aCons (eV 5) aNil)))))))
noncomputable def d_law_norm : List D → RF := runF 1 8 b_d_law_norm
abbrev s_d_law_lot : Stmt := (topS 35)
abbrev N_d_law_lot : List Str := ["_law_script", "_law_start", "_law_count", "_law_pins_here", "_law_row", "_law_k", "_law_draw", "_law_other", "_law_c"]
noncomputable def B1_d_law_lot : Rho → RS := (sFgt [6, 5, 7] (sFgt [6, 7] (sIf (tQ1 (qB (qBin geD (qV 3) (qC (.int 2))))) (sSeq (sSet 6 (eCall d_law_digits [] (aCons (eCall d_law_cell [] (aCons (eV 0) (aCons (eQ (qBin addI (qV 1) (qV 5))) aNil))) (aCons (eLst (aCons (eV 3) (aCons (eQ (qBin subD (qV 3) (qC (.int 1)))) (aCons (eQ (qC (.int 6))) (aCons (eQ (qBin mulD (qC (.int 5)) (qC (.int 100000000)))) aNil))))) aNil)))) (sSeq (sSet 7 (eQ (qBin modD (qUn int1 (qBin addI (qBin addI (qBin ixD (qV 6) (qC (.int 0))) (qC (.int 1))) (qBin ixD (qV 6) (qC (.int 1))))) (qV 3)))) (sEx (eApp 4 (eTup (aCons (eQ (qBin ixD (qV 6) (qC (.int 0)))) (aCons (eV 7) (aCons (eBin addI (eQ (qC (.int 1))) (eBin modD (eQ (qUn int1 (qBin ixD (qV 6) (qC (.int 3))))) (eBin ixD (eLst (aCons (eQ (qC (.int 3))) (aCons (eQ (qC (.int 3))) (aCons (eQ (qC (.int 3))) (aCons (eQ (qC (.int 3))) (aCons (eQ (qC (.int 1000))) (aCons (eQ (qBin mulD (qC (.int 5)) (qC (.int 100000000)))) aNil))))))) (eQ (qBin ixD (qV 6) (qC (.int 2))))))) aNil)))))))) sNx)))
noncomputable def E1_d_law_lot : Rho → RX D := (eTup (aCons (eQ (qBin ixD (qV 8) (qC (.int 0)))) (aCons (eQ (qBin ixD (qV 8) (qC (.int 1)))) (aCons (eQ (qBin min2 (qBin ixD (qV 8) (qC (.int 2))) (qBin mulD (qC (.int 5)) (qC (.int 100000000))))) aNil))))
noncomputable def b_d_law_lot : Rho → RS := (sSeq (sSet 4 (eLst aNil)) (sSeq (sFgt [6, 5, 7] (sFor (iRg1 (aCons (eV 2) aNil)) (gN 5) B1_d_law_lot)) (sRet (eFn tupL (aCons (eLc [8] (iSq (eCall d_law_norm [] (aCons (eV 4) aNil))) (gN 8) tT E1_d_law_lot) aNil)))))
noncomputable def d_law_lot : List D → RF := runF 4 9 b_d_law_lot
abbrev s_d_law_table : Stmt := (topS 33)
abbrev N_d_law_table : List Str := ["_law_pins_here", "_law_bunch", "_law_size", "_law_i", "_law_j", "_law_table_here", "_law_met", "_law_step", "_law_row", "_law_entry"]
noncomputable def E1_d_law_table : Rho → RX D := (eQ (qC (.int 0)))
noncomputable def E2_d_law_table : Rho → RX D := (eLc [4] (iRg1 (aCons (eV 2) aNil)) (gN 4) tT E1_d_law_table)
noncomputable def E3_d_law_table : Rho → RX D := (eQ (qC (.bl false)))
noncomputable def T1_d_law_table : Rho → RX Bool := (tQ1 (qB (qBin neS (qBin ixD (qV 6) (qBin ixD (qV 9) (qC (.int 0)))) (qBin ixD (qV 6) (qBin ixD (qV 9) (qC (.int 1)))))))
noncomputable def E4_d_law_table : Rho → RX D := (eQ (qBin ixD (qV 9) (qC (.int 2))))
noncomputable def B1_d_law_table : Rho → RS := (sFgt [9, 4, 7] (sSeq (sSet 4 (eQ (qBin modD (qUn int1 (qBin addI (qV 3) (qV 7))) (qV 2)))) (sSeq (sPut 6 (qV 4) (eQ (qC (.bl true)))) (sPut2 5 (qV 3) (qV 4) (eBor [false, true, false, false, false, false, true, false, false, false] (eFn sumL (aCons (eLc [9] (iSq (eV 1)) (gN 9) T1_d_law_table E4_d_law_table) aNil)))))))
noncomputable def B2_d_law_table : Rho → RS := (sFgt [9, 3, 4, 6, 7] (sSeq (sSet 6 (eLc [4] (iRg1 (aCons (eV 2) aNil)) (gN 4) tT E3_d_law_table)) (sFgt [9, 4, 7] (sFor (iRg2 (aCons (eQ (qC (.int 1))) (aCons (eV 2) aNil))) (gN 7) B1_d_law_table))))
noncomputable def E5_d_law_table : Rho → RX D := (eFn tupL (aCons (eV 8) aNil))
noncomputable def b_d_law_table : Rho → RS := (sSeq (sSet 2 (eQ (qBin max2 (qV 0) (qC (.int 1))))) (sSeq (sSet 5 (eLc [3] (iRg1 (aCons (eV 2) aNil)) (gN 3) tT E2_d_law_table)) (sSeq (sFgt [9, 3, 4, 6, 7] (sFor (iRg1 (aCons (eV 2) aNil)) (gN 3) B2_d_law_table)) (sRet (eFn tupL (aCons (eLc [8] (iSq (eV 5)) (gN 8) tT E5_d_law_table) aNil))))))
noncomputable def d_law_table : List D → RF := runF 2 10 b_d_law_table
abbrev s_d_law_whole : Stmt := (topS 27)
abbrev N_d_law_whole : List Str := ["_law_value"]
noncomputable def b_d_law_whole : Rho → RS := (sRet (eQ (qAnd (qUn (isiD (tabTy "int")) (qV 0)) (qNot (qUn (isiD (tabTy "bool")) (qV 0))))))
noncomputable def d_law_whole : List D → RF := runF 1 1 b_d_law_whole
abbrev s_d_law_same : Stmt := (topS 30)
abbrev N_d_law_same : List Str := ["_law_value", "_law_due", "_law_k"]
noncomputable def B1_d_law_same (fself : List D → RF) : Rho → RS := (sFgt [2] (sIf (tNot (tB1 (eCall fself [] (aCons (eQ (qBin ixD (qV 0) (qV 2))) (aCons (eQ (qBin ixD (qV 1) (qV 2))) aNil))))) (sRet (eQ (qC (.bl false)))) sNx))
noncomputable def C1_d_law_same (fself : List D → RF) : Rho → RS := (sSeq (sIf (tQ1 (qAndT (qB (qUn (isiD (tabTy "tuple")) (qV 1))) (qNotT (qB (qUn (isiD (tabTy "tuple")) (qV 0)))))) (sRet (eQ (qC (.bl false)))) sNx) (sSeq (sIf (tQ1 (qB (qBin neS (qUn len1 (qV 0)) (qUn len1 (qV 1))))) (sRet (eQ (qC (.bl false)))) sNx) (sSeq (sFgt [2] (sFor (iRg1 (aCons (eQ (qUn len1 (qV 1))) aNil)) (gN 2) (B1_d_law_same fself))) (sRet (eQ (qC (.bl true)))))))
noncomputable def b_d_law_same (fself : List D → RF) : Rho → RS := (sSeq (sIf (tQ1 (qB (qBin isN (qV 1) (qC .non)))) (sRet (eQ (qBin isN (qV 0) (qC .non)))) sNx) (sSeq (sIf (tQ1 (qB (qUn (isiD (tabTy "bool")) (qV 1)))) (sRet (eQ (qAnd (qUn (isiD (tabTy "bool")) (qV 0)) (qBin eqS (qV 0) (qV 1))))) sNx) (sSeq (sIf (tQ1 (qB (qUn (isiD (tabTy "int")) (qV 1)))) (sRet (eAnd (eCall d_law_whole [] (aCons (eV 0) aNil)) (eQ (qBin eqS (qV 0) (qV 1))))) sNx) (sSeq (sIf (tQ1 (qB (qUn (isiD (tabTy "str")) (qV 1)))) (sRet (eQ (qAnd (qUn (isiD (tabTy "str")) (qV 0)) (qBin eqS (qV 0) (qV 1))))) sNx) (sSeq (sIf (tQ1 (qAndT (qB (qUn (isiD (tabTy "list")) (qV 1))) (qNotT (qB (qUn (isiD (tabTy "list")) (qV 0)))))) (sRet (eQ (qC (.bl false)))) sNx) (C1_d_law_same fself))))))
noncomputable def g_d_law_same (fself : List D → RF) : List D → RF := runF 2 3 (b_d_law_same fself)
noncomputable def d_law_same : List D → RF := fuel g_d_law_same 5
abbrev s_d_gaps : Stmt := (topS 10)
abbrev N_d_gaps : List Str := ["pins"]
noncomputable def b_d_gaps : Rho → RS := (sRet (eQ (qBin max2 (qV 0) (qC (.int 1)))))
noncomputable def d_gaps : List D → RF := runF 1 1 b_d_gaps
abbrev s_d_raw_passing : Stmt := (topS 14)
abbrev N_d_raw_passing : List Str := ["cords", "i", "j", "a", "b", "n"]
noncomputable def T1_d_raw_passing : Rho → RX Bool := (tQ1 (qB (qBin neS (qChain leD ltD (qV 3) (qV 1) (qV 4)) (qChain leD ltD (qV 3) (qV 2) (qV 4)))))
noncomputable def b_d_raw_passing : Rho → RS := (sRet (eFn sumL (aCons (eLc [3, 4, 5] (iSq (eV 0)) (gT 3 (gCo (gN 3) (gCo (gN 4) (gCo (gN 5) gNl)))) T1_d_raw_passing (eV 5)) aNil)))
noncomputable def d_raw_passing : List D → RF := runF 3 6 b_d_raw_passing
abbrev s_d_raw_table : Stmt := (topS 15)
abbrev N_d_raw_table : List Str := ["pins", "cords", "size", "i", "j"]
noncomputable def E1_d_raw_table : Rho → RX D := (eCall d_raw_passing [] (aCons (eV 1) (aCons (eV 3) (aCons (eV 4) aNil))))
noncomputable def E2_d_raw_table : Rho → RX D := (eFn tupL (aCons (eLc [4] (iRg1 (aCons (eV 2) aNil)) (gN 4) tT E1_d_raw_table) aNil))
noncomputable def b_d_raw_table : Rho → RS := (sSeq (sSet 2 (eCall d_gaps [] (aCons (eV 0) aNil))) (sRet (eFn tupL (aCons (eLc [3] (iRg1 (aCons (eV 2) aNil)) (gN 3) tT E2_d_raw_table) aNil))))
noncomputable def d_raw_table : List D → RF := runF 2 5 b_d_raw_table
abbrev s_d_table_of : Stmt := (topS 25)
abbrev N_d_table_of : List Str := ["lot"]
noncomputable def b_d_table_of : Rho → RS := (sRet (eCall d_raw_table [] (aCons (eQ (qFld 0 0 (qV 0))) (aCons (eQ (qFld 0 1 (qV 0))) aNil))))
noncomputable def d_table_of : List D → RF := runF 1 1 b_d_table_of
abbrev s_d_Lot_table : Stmt := (inCls (topS 23) 8)
abbrev N_d_Lot_table : List Str := ["self"]
noncomputable def b_d_Lot_table : Rho → RS := (sRet (eCall d_raw_table [] (aCons (eQ (qFld 0 0 (qV 0))) (aCons (eQ (qFld 0 1 (qV 0))) aNil))))
noncomputable def d_Lot_table : List D → RF := runF 1 1 b_d_Lot_table
abbrev s_d_law_told : Stmt := (topS 36)
abbrev N_d_law_told : List Str := ["_law_thing", "_law_table_here"]
noncomputable def b_d_law_told : Rho → RS := (sRet (eAnd (eCall d_law_same [] (aCons (eCall d_table_of [] (aCons (eV 0) aNil)) (aCons (eV 1) aNil))) (eCall d_law_same [] (aCons (eProp 0 d_Lot_table (qV 0)) (aCons (eV 1) aNil)))))
noncomputable def d_law_told : List D → RF := runF 2 2 b_d_law_told
abbrev s_d_law_mirror : Stmt := (topS 39)
abbrev N_d_law_mirror : List Str := ["_law_table_here", "_law_i", "_law_j"]
noncomputable def E1_d_law_mirror : Rho → RX D := (eQ (qBin ixD (qBin ixD (qV 0) (qV 2)) (qV 1)))
noncomputable def E2_d_law_mirror : Rho → RX D := (eFn tupL (aCons (eLc [2] (iRg1 (aCons (eQ (qUn len1 (qV 0))) aNil)) (gN 2) tT E1_d_law_mirror) aNil))
noncomputable def b_d_law_mirror : Rho → RS := (sRet (eFn tupL (aCons (eLc [1] (iRg1 (aCons (eQ (qUn len1 (qV 0))) aNil)) (gN 1) tT E2_d_law_mirror) aNil)))
noncomputable def d_law_mirror : List D → RF := runF 1 3 b_d_law_mirror
abbrev s_d_law_sum : Stmt := (topS 37)
abbrev N_d_law_sum : List Str := ["_law_one", "_law_two", "_law_i", "_law_j"]
noncomputable def E1_d_law_sum : Rho → RX D := (eQ (qBin addI (qBin ixD (qBin ixD (qV 0) (qV 2)) (qV 3)) (qBin ixD (qBin ixD (qV 1) (qV 2)) (qV 3))))
noncomputable def E2_d_law_sum : Rho → RX D := (eFn tupL (aCons (eLc [3] (iRg1 (aCons (eQ (qUn len1 (qV 0))) aNil)) (gN 3) tT E1_d_law_sum) aNil))
noncomputable def b_d_law_sum : Rho → RS := (sRet (eFn tupL (aCons (eLc [2] (iRg1 (aCons (eQ (qUn len1 (qV 0))) aNil)) (gN 2) tT E2_d_law_sum) aNil)))
noncomputable def d_law_sum : List D → RF := runF 2 4 b_d_law_sum
abbrev s_d_law_times : Stmt := (topS 38)
abbrev N_d_law_times : List Str := ["_law_one", "_law_factor", "_law_i", "_law_j"]
noncomputable def E1_d_law_times : Rho → RX D := (eQ (qBin mulD (qBin ixD (qBin ixD (qV 0) (qV 2)) (qV 3)) (qV 1)))
noncomputable def E2_d_law_times : Rho → RX D := (eFn tupL (aCons (eLc [3] (iRg1 (aCons (eQ (qUn len1 (qV 0))) aNil)) (gN 3) tT E1_d_law_times) aNil))
noncomputable def b_d_law_times : Rho → RS := (sRet (eFn tupL (aCons (eLc [2] (iRg1 (aCons (eQ (qUn len1 (qV 0))) aNil)) (gN 2) tT E2_d_law_times) aNil)))
noncomputable def d_law_times : List D → RF := runF 2 4 b_d_law_times
abbrev s_d_law_lot_is : Stmt := (topS 34)
abbrev N_d_law_lot_is : List Str := ["_law_thing", "_law_pins_here", "_law_bunch"]
noncomputable def b_d_law_lot_is : Rho → RS := (sRet (eAnd (eCall d_law_same [] (aCons (eQ (qFld 0 0 (qV 0))) (aCons (eV 1) aNil))) (eCall d_law_same [] (aCons (eQ (qFld 0 1 (qV 0))) (aCons (eV 2) aNil)))))
noncomputable def d_law_lot_is : List D → RF := runF 3 3 b_d_law_lot_is
abbrev s_d_is_whole : Stmt := (topS 12)
abbrev N_d_is_whole : List Str := ["value"]
noncomputable def b_d_is_whole : Rho → RS := (sRet (eQ (qAnd (qUn (isiD (tabTy "int")) (qV 0)) (qNot (qUn (isiD (tabTy "bool")) (qV 0))))))
noncomputable def d_is_whole : List D → RF := runF 1 1 b_d_is_whole
abbrev s_d_is_pin : Stmt := (topS 20)
abbrev N_d_is_pin : List Str := ["pins", "value"]
noncomputable def b_d_is_pin : Rho → RS := (sRet (eAnd (eCall d_is_whole [] (aCons (eV 1) aNil)) (eQ (qChain leD ltD (qC (.int 0)) (qV 1) (qV 0)))))
noncomputable def d_is_pin : List D → RF := runF 2 2 b_d_is_pin
abbrev s_d_is_entry : Stmt := (topS 21)
abbrev N_d_is_entry : List Str := ["pins", "entry", "a", "b", "n"]
noncomputable def b_d_is_entry : Rho → RS := (sSeq (sIf (tOr (tNot (tB1 (eFn isiLT (aCons (eV 1) (aCons (eTup (aCons (eC (.val (.ty "list"))) (aCons (eC (.val (.ty "tuple"))) aNil))) aNil))))) (tQ1 (qB (qBin neS (qUn len1 (qV 1)) (qC (.int 3)))))) (sRet (eQ (qC (.bl false)))) sNx) (sSeq (sAsg (eV 1) (gT 3 (gCo (gN 2) (gCo (gN 3) (gCo (gN 4) gNl))))) (sRet (eAnd (eCall d_is_pin [] (aCons (eV 0) (aCons (eV 2) aNil))) (eAnd (eCall d_is_pin [] (aCons (eV 0) (aCons (eV 3) aNil))) (eAnd (eQ (qBin neS (qV 2) (qV 3))) (eAnd (eCall d_is_whole [] (aCons (eV 4) aNil)) (eQ (qBin geD (qV 4) (qC (.int 1)))))))))))
noncomputable def d_is_entry : List D → RF := runF 2 5 b_d_is_entry
abbrev s_d_combined : Stmt := (topS 13)
abbrev N_d_combined : List Str := ["triples", "many", "a", "b", "n", "pair"]
noncomputable def B1_d_combined : Rho → RS := (sFgt [2, 3, 4, 5] (sFgt [5] (sIf (tQ1 (qAndT (qB (qBin neS (qV 2) (qV 3))) (qB (qBin gtD (qV 4) (qC (.int 0)))))) (sSeq (sSet 5 (eTup (aCons (eQ (qBin min2 (qV 2) (qV 3))) (aCons (eQ (qBin max2 (qV 2) (qV 3))) aNil)))) (sDput 1 (eV 5) (eBor [false, true, false, false, true, true] (eBin addI (eDget2 1 (eV 5) (qC (.int 0))) (eV 4))))) sNx)))
noncomputable def E1_d_combined : Rho → RX D := (eTup (aCons (eV 2) (aCons (eV 3) (aCons (eDget 1 (eTup (aCons (eV 2) (aCons (eV 3) aNil)))) aNil))))
noncomputable def b_d_combined : Rho → RS := (sSeq (sSet 1 (eC (.vT [] []))) (sSeq (sFgt [2, 3, 4, 5] (sFor (iSq (eV 0)) (gT 3 (gCo (gN 2) (gCo (gN 3) (gCo (gN 4) gNl)))) B1_d_combined)) (sRet (eFn tupL (aCons (eLc [2, 3] (iSq (eFn soL (aCons (eV 1) aNil))) (gT 2 (gCo (gN 2) (gCo (gN 3) gNl))) tT E1_d_combined) aNil)))))
noncomputable def d_combined : List D → RF := runF 1 6 b_d_combined
abbrev s_d_Lot___init__ : Stmt := (inCls (topS 23) 0)
abbrev N_d_Lot___init__ : List Str := ["self", "pins", "cords", "entry"]
noncomputable def B1_d_Lot___init__ : Rho → RS := (sFgt [3] (sIf (tNot (tB1 (eCall d_is_entry [] (aCons (eV 1) (aCons (eV 3) aNil))))) sBad sNx))
noncomputable def b_d_Lot___init__ : Rho → RS := (sSeq (sIf (tOr (tNot (tB1 (eCall d_is_whole [] (aCons (eV 1) aNil)))) (tQ1 (qB (qBin ltD (qV 1) (qC (.int 0)))))) sBad sNx) (sSeq (sFgt [3] (sFor (iSq (eV 2)) (gN 3) B1_d_Lot___init__)) (sSeq (sFld 0 0 0 (eV 1)) (sFld 0 0 1 (eCall d_combined [] (aCons (eV 2) aNil))))))
noncomputable def d_Lot___init__ : List D → RF := runI 0 2 4 b_d_Lot___init__
abbrev s_d_Lot___add__ : Stmt := (inCls (topS 23) 4)
abbrev N_d_Lot___add__ : List Str := ["self", "other"]
noncomputable def b_d_Lot___add__ : Rho → RS := (sSeq (sIf (tQ1 (qB (qBin neS (qFld 0 0 (qV 0)) (qFld 0 0 (qV 1))))) sBad sNx) (sRet (eCall d_Lot___init__ [] (aCons (eQ (qFld 0 0 (qV 0))) (aCons (eBin catT (eQ (qFld 0 1 (qV 0))) (eQ (qFld 0 1 (qV 1)))) aNil)))))
noncomputable def d_Lot___add__ : List D → RF := runF 2 2 b_d_Lot___add__
abbrev s_d_Lot___sub__ : Stmt := (inCls (topS 23) 5)
abbrev N_d_Lot___sub__ : List Str := ["self", "other", "a", "b", "n", "left"]
noncomputable def B1_d_Lot___sub__ : Rho → RS := (sFgt [2, 3, 4] (sSeq (sIf (tB1 (eBin gtD (eV 4) (eBor [false, false, true, true, false, true] (eDget2 5 (eTup (aCons (eV 2) (aCons (eV 3) aNil))) (qC (.int 0)))))) sBad sNx) (sDput 5 (eTup (aCons (eV 2) (aCons (eV 3) aNil))) (eBor [false, false, true, true, true, true] (eBin subD (eDget 5 (eTup (aCons (eV 2) (aCons (eV 3) aNil)))) (eV 4))))))
noncomputable def b_d_Lot___sub__ : Rho → RS := (sSeq (sIf (tQ1 (qB (qBin neS (qFld 0 0 (qV 0)) (qFld 0 0 (qV 1))))) sBad sNx) (sSeq (sSet 5 (eDcT [2, 3, 4] (iSq (eQ (qFld 0 1 (qV 0)))) (gT 3 (gCo (gN 2) (gCo (gN 3) (gCo (gN 4) gNl)))) tT (eTup (aCons (eV 2) (aCons (eV 3) aNil))) (eV 4))) (sSeq (sFgt [2, 3, 4] (sFor (iSq (eQ (qFld 0 1 (qV 1)))) (gT 3 (gCo (gN 2) (gCo (gN 3) (gCo (gN 4) gNl)))) B1_d_Lot___sub__)) (sRet (eCall d_Lot___init__ [] (aCons (eQ (qFld 0 0 (qV 0))) (aCons (eCall d_combined [] (aCons (eItT 5 2 3) aNil)) aNil)))))))
noncomputable def d_Lot___sub__ : List D → RF := runF 2 6 b_d_Lot___sub__
abbrev s_d_Lot___mul__ : Stmt := (inCls (topS 23) 6)
abbrev N_d_Lot___mul__ : List Str := ["self", "number", "a", "b", "n"]
noncomputable def E1_d_Lot___mul__ : Rho → RX D := (eTup (aCons (eV 2) (aCons (eV 3) (aCons (eQ (qBin mulD (qV 4) (qV 1))) aNil))))
noncomputable def b_d_Lot___mul__ : Rho → RS := (sSeq (sIf (tOr (tNot (tB1 (eCall d_is_whole [] (aCons (eV 1) aNil)))) (tQ1 (qB (qBin ltD (qV 1) (qC (.int 0)))))) sBad sNx) (sRet (eCall d_Lot___init__ [] (aCons (eQ (qFld 0 0 (qV 0))) (aCons (eCall d_combined [] (aCons (eLc [2, 3, 4] (iSq (eQ (qFld 0 1 (qV 0)))) (gT 3 (gCo (gN 2) (gCo (gN 3) (gCo (gN 4) gNl)))) tT E1_d_Lot___mul__) aNil)) aNil)))))
noncomputable def d_Lot___mul__ : List D → RF := runF 2 5 b_d_Lot___mul__
abbrev s_d_law : Stmt := (topS 40)
abbrev N_d_law : List Str := ["_law_script", "_law_pins_here", "_law_held", "_law_wished", "_law_one", "_law_two", "_law_table_here", "_law_other", "_law_told_here", "_law_both", "_law_draw", "_law_factor", "_law_times_here", "_law_far", "_law_i", "_law_entry"]
noncomputable def E1_d_law : Rho → RX D := (eQ (qBin ixD (qBin ixD (qV 8) (qV 14)) (qV 14)))
noncomputable def E2_d_law : Rho → RX D := (eQ (qBin ixD (qV 15) (qC (.int 2))))
noncomputable def C1_d_law : Rho → RS := (sSeq (sIf (tNot (tB1 (eCall d_law_told [] (aCons (eCall d_Lot___init__ [.tup []] (aCons (eV 1) aNil)) (aCons (eCall d_law_times [] (aCons (eV 6) (aCons (eQ (qC (.int 0))) aNil))) aNil))))) (sRet (eQ (qC (.bl false)))) sNx) (sSeq (sIf (tOr (tNot (tB1 (eCall d_law_lot_is [] (aCons (eV 4) (aCons (eV 1) (aCons (eV 2) aNil)))))) (tOr (tNot (tB1 (eCall d_law_told [] (aCons (eV 5) (aCons (eV 7) aNil))))) (tNot (tB1 (eCall d_law_told [] (aCons (eV 4) (aCons (eV 6) aNil))))))) (sRet (eQ (qC (.bl false)))) sNx) (sRet (eCall d_law_same [] (aCons (eCallK d_table_of 0 1 [0] [] aNil (aCons (eV 4) aNil)) (aCons (eV 6) aNil))))))
noncomputable def C2_d_law : Rho → RS := (sSeq (sFgt [15] (sIf (tQ1 (qB (qBin ltD (qBin ixD (qV 10) (qC (.int 0))) (qC (.int 4))))) (sSet 11 (eBin ixD (eLst (aCons (eQ (qC (.int 0))) (aCons (eQ (qC (.int 1))) (aCons (eQ (qC (.int 2))) (aCons (eBin modD (eQ (qUn int1 (qV 11))) (eBin addI (eBin divD (eQ (qC (.int 1000000000))) (eFn maxLs (aCons (eBin catV (eLc [15] (iSq (eV 2)) (gN 15) tT E2_d_law) (eLst (aCons (eQ (qC (.int 1))) aNil))) aNil))) (eQ (qC (.int 1))))) aNil))))) (eQ (qBin ixD (qV 10) (qC (.int 0)))))) sNx)) (sSeq (sSet 12 (eOwnI 0 d_Lot___mul__ (eV 4) (eV 11))) (sSeq (sIf (tNot (tB1 (eCall d_law_same [] (aCons (eProp 0 d_Lot_table (qV 12)) (aCons (eCall d_law_times [] (aCons (eV 6) (aCons (eV 11) aNil))) aNil))))) (sRet (eQ (qC (.bl false)))) sNx) (sSeq (sIf (tAnd (tQ1 (qB (qBin ltD (qBin ixD (qV 10) (qC (.int 0))) (qC (.int 4))))) (tNot (tB1 (eCall d_law_same [] (aCons (eCall d_table_of [] (aCons (eV 12) aNil)) (aCons (eCall d_law_times [] (aCons (eV 6) (aCons (eV 11) aNil))) aNil)))))) (sRet (eQ (qC (.bl false)))) sNx) (sSeq (sFgt [13] (sIf (tQ1 (qB (qBin ltD (qV 1) (qC (.int 40))))) (sSeq (sSet 13 (eBin addI (eQ (qBin addI (qV 1) (qC (.int 1)))) (eBin modD (eFn intL (aCons (eCall d_law_cell [] (aCons (eV 0) (aCons (eQ (qC (.int 36))) aNil))) aNil)) (eQ (qBin subD (qC (.int 40)) (qV 1)))))) (sIf (tNot (tB1 (eCall d_law_told [] (aCons (eCall d_Lot___init__ [] (aCons (eV 13) (aCons (eV 2) aNil))) (aCons (eCall d_law_table [] (aCons (eV 13) (aCons (eV 2) aNil))) aNil))))) (sRet (eQ (qC (.bl false)))) sNx)) sNx)) C1_d_law)))))
noncomputable def C3_d_law : Rho → RS := (sSeq (sSet 9 (eOwn 0 d_Lot___add__ (eV 4) (eV 5))) (sSeq (sIf (tNot (tB1 (eCall d_law_told [] (aCons (eV 9) (aCons (eCall d_law_sum [] (aCons (eV 6) (aCons (eV 7) aNil))) aNil))))) (sRet (eQ (qC (.bl false)))) sNx) (sSeq (sIf (tOr (tNot (tB1 (eCall d_law_told [] (aCons (eV 9) (aCons (eCall d_law_table [] (aCons (eV 1) (aCons (eCall d_law_norm [] (aCons (eBin catT (eV 2) (eV 3)) aNil)) aNil))) aNil))))) (tNot (tB1 (eCall d_law_told [] (aCons (eOwn 0 d_Lot___sub__ (eV 9) (eV 5)) (aCons (eV 6) aNil)))))) (sRet (eQ (qC (.bl false)))) sNx) (sSeq (sSet 10 (eCall d_law_digits [] (aCons (eCall d_law_cell [] (aCons (eV 0) (aCons (eQ (qC (.int 3))) aNil))) (aCons (eLst (aCons (eQ (qC (.int 5))) (aCons (eQ (qC (.int 1000000001))) aNil))) aNil)))) (sSeq (sSet 11 (eQ (qBin ixD (qV 10) (qC (.int 1))))) C2_d_law)))))
noncomputable def C4_d_law : Rho → RS := (sSeq (sSet 6 (eCall d_law_table [] (aCons (eV 1) (aCons (eV 2) aNil)))) (sSeq (sSet 7 (eCall d_law_table [] (aCons (eV 1) (aCons (eV 3) aNil)))) (sSeq (sIf (tOr (tNot (tB1 (eCall d_law_told [] (aCons (eV 4) (aCons (eV 6) aNil))))) (tNot (tB1 (eCall d_law_told [] (aCons (eV 5) (aCons (eV 7) aNil)))))) (sRet (eQ (qC (.bl false)))) sNx) (sSeq (sSet 8 (eCall d_table_of [] (aCons (eV 4) aNil))) (sSeq (sIf (tOr (tB1 (eBin dNe (eV 8) (eCall d_law_mirror [] (aCons (eV 8) aNil)))) (tB1 (eBinR neS (eFn sumL (aCons (eLc [14] (iRg1 (aCons (eQ (qUn len1 (qV 6))) aNil)) (gN 14) tT E1_d_law) aNil)) (qC (.int 0))))) (sRet (eQ (qC (.bl false)))) sNx) C3_d_law)))))
noncomputable def b_d_law : Rho → RS := (sSeq (sSet 1 (eCall d_law_pins [] (aCons (eCall d_law_cell [] (aCons (eV 0) (aCons (eQ (qC (.int 0))) aNil))) aNil))) (sSeq (sSet 2 (eCall d_law_lot [] (aCons (eV 0) (aCons (eQ (qC (.int 4))) (aCons (eBin ixD (eCall d_law_digits [] (aCons (eCall d_law_cell [] (aCons (eV 0) (aCons (eQ (qC (.int 1))) aNil))) (aCons (eLst (aCons (eQ (qC (.int 17))) aNil)) aNil))) (eQ (qC (.int 0)))) (aCons (eV 1) aNil)))))) (sSeq (sSet 3 (eCall d_law_lot [] (aCons (eV 0) (aCons (eQ (qC (.int 20))) (aCons (eBin ixD (eCall d_law_digits [] (aCons (eCall d_law_cell [] (aCons (eV 0) (aCons (eQ (qC (.int 2))) aNil))) (aCons (eLst (aCons (eQ (qC (.int 17))) aNil)) aNil))) (eQ (qC (.int 0)))) (aCons (eV 1) aNil)))))) (sSeq (sSet 4 (eCall d_Lot___init__ [] (aCons (eV 1) (aCons (eV 2) aNil)))) (sSeq (sSet 5 (eCall d_Lot___init__ [] (aCons (eV 1) (aCons (eV 3) aNil)))) C4_d_law)))))
noncomputable def d_law : List D → RF := runF 1 16 b_d_law
structure Txt (mg : Str → Option Value) : Prop where
  n_bool : mg "bool" = none
  n_int : mg "int" = none
  n_isinstance : mg "isinstance" = none
  n_len : mg "len" = none
  n_list : mg "list" = none
  n_max : mg "max" = none
  n_min : mg "min" = none
  n_range : mg "range" = none
  n_sorted : mg "sorted" = none
  n_str : mg "str" = none
  n_sum : mg "sum" = none
  n_tuple : mg "tuple" = none
structure ErrT (P : Program) (w : World) (K : PySem.W.Frag) (mg : Str → Option Value) (base : Heap) (cl : Tb) (ea : Nat → Addr) : Prop where
  mul0 : MulI K (cl 0).at_ .Mult
theorem ErrT.exc {P : Program} {w : World} {K : PySem.W.Frag} {mg : Str → Option Value} {base : Heap} {cl : Tb} {ea : Nat → Addr} (T : ErrT P w K mg base cl ea) (a dd : Addr) (cv : Value) : ErrT P w K mg base (cl.exc a dd cv) ea := ⟨T.mul0⟩
theorem ErrT.at' {P : Program} {w : World} {K : PySem.W.Frag} {mg : Str → Option Value} {base : Heap} {cl : Tb} {ea : Nat → Addr} (T : ErrT P w K mg base cl ea) (sf : Option Addr) : ErrT P w K mg base (cl.at' sf) ea := ⟨T.mul0⟩
theorem sc_d_law_digits : FnScope N_d_law_digits ["_law_cell_here", "_law_sizes"] (defScope s_d_law_digits) := ⟨rfl, rfl, rfl, by decide +kernel, rfl, by decide +kernel, by decide +kernel⟩
theorem sc_d_law_pins : FnScope N_d_law_pins ["_law_cell_here"] (defScope s_d_law_pins) := ⟨rfl, rfl, rfl, by decide +kernel, rfl, by decide +kernel, by decide +kernel⟩
theorem sc_d_law_cell : FnScope N_d_law_cell ["_law_script", "_law_k"] (defScope s_d_law_cell) := ⟨rfl, rfl, rfl, by decide +kernel, rfl, by decide +kernel, by decide +kernel⟩
theorem sc_d_law_norm : FnScope N_d_law_norm ["_law_triples"] (defScope s_d_law_norm) := ⟨rfl, rfl, rfl, by decide +kernel, rfl, by decide +kernel, by decide +kernel⟩
theorem sc_d_law_lot : FnScope N_d_law_lot ["_law_script", "_law_start", "_law_count", "_law_pins_here"] (defScope s_d_law_lot) := ⟨rfl, rfl, rfl, by decide +kernel, rfl, by decide +kernel, by decide +kernel⟩
abbrev lit_d_law_lot_245_17 : Scope := { kind := .function, names := [(".0", .local), ("_law_c", .local), ("min", .globalImplicit)], isGenerator := false, isCoroutine := false, more := [] }
theorem sc_d_law_table : FnScope N_d_law_table ["_law_pins_here", "_law_bunch"] (defScope s_d_law_table) := ⟨rfl, rfl, rfl, by decide +kernel, rfl, by decide +kernel, by decide +kernel⟩
abbrev lit_d_law_table_228_22 : Scope := { kind := .function, names := [(".0", .local), ("_law_i", .local), ("range", .globalImplicit), ("_law_size", .free)], isGenerator := false, isCoroutine := false, more := [] }
abbrev lit_d_law_table_228_23 : Scope := { kind := .function, names := [(".0", .local), ("_law_j", .local)], isGenerator := false, isCoroutine := false, more := [] }
abbrev lit_d_law_table_230_19 : Scope := { kind := .function, names := [(".0", .local), ("_law_j", .local)], isGenerator := false, isCoroutine := false, more := [] }
abbrev lit_d_law_table_234_50 : Scope := { kind := .function, names := [(".0", .local), ("_law_entry", .local), ("_law_met", .free)], isGenerator := false, isCoroutine := false, more := [] }
abbrev lit_d_law_table_235_17 : Scope := { kind := .function, names := [(".0", .local), ("_law_row", .local), ("tuple", .globalImplicit)], isGenerator := false, isCoroutine := false, more := [] }
theorem sc_d_law_whole : FnScope N_d_law_whole ["_law_value"] (defScope s_d_law_whole) := ⟨rfl, rfl, rfl, by decide +kernel, rfl, by decide +kernel, by decide +kernel⟩
theorem sc_d_law_same : FnScope N_d_law_same ["_law_value", "_law_due"] (defScope s_d_law_same) := ⟨rfl, rfl, rfl, by decide +kernel, rfl, by decide +kernel, by decide +kernel⟩
theorem sc_d_gaps : FnScope N_d_gaps ["pins"] (defScope s_d_gaps) := ⟨rfl, rfl, rfl, by decide +kernel, rfl, by decide +kernel, by decide +kernel⟩
theorem sc_d_raw_passing : FnScope N_d_raw_passing ["cords", "i", "j"] (defScope s_d_raw_passing) := ⟨rfl, rfl, rfl, by decide +kernel, rfl, by decide +kernel, by decide +kernel⟩
abbrev lit_d_raw_passing_47_15 : Scope := { kind := .function, names := [(".0", .local), ("a", .local), ("b", .local), ("n", .local), ("i", .free), ("j", .free)], isGenerator := false, isCoroutine := false, more := [] }
theorem sc_d_raw_table : FnScope N_d_raw_table ["pins", "cords"] (defScope s_d_raw_table) := ⟨rfl, rfl, rfl, by decide +kernel, rfl, by decide +kernel, by decide +kernel⟩
abbrev lit_d_raw_table_50_17 : Scope := { kind := .function, names := [(".0", .local), ("i", .cell), ("tuple", .globalImplicit), ("range", .globalImplicit), ("cords", .free), ("size", .free)], isGenerator := false, isCoroutine := false, more := [] }
abbrev lit_d_raw_table_50_24 : Scope := { kind := .function, names := [(".0", .local), ("j", .local), ("raw_passing", .globalImplicit), ("cords", .free), ("i", .free)], isGenerator := false, isCoroutine := false, more := [] }
theorem sc_d_table_of : FnScope N_d_table_of ["lot"] (defScope s_d_table_of) := ⟨rfl, rfl, rfl, by decide +kernel, rfl, by decide +kernel, by decide +kernel⟩
theorem sc_d_Lot_table : FnScope N_d_Lot_table ["self"] (defScope s_d_Lot_table) := ⟨rfl, rfl, rfl, by decide +kernel, rfl, by decide +kernel, by decide +kernel⟩
theorem sc_d_law_told : FnScope N_d_law_told ["_law_thing", "_law_table_here"] (defScope s_d_law_told) := ⟨rfl, rfl, rfl, by decide +kernel, rfl, by decide +kernel, by decide +kernel⟩
theorem sc_d_law_mirror : FnScope N_d_law_mirror ["_law_table_here"] (defScope s_d_law_mirror) := ⟨rfl, rfl, rfl, by decide +kernel, rfl, by decide +kernel, by decide +kernel⟩
abbrev lit_d_law_mirror_253_17 : Scope := { kind := .function, names := [(".0", .local), ("_law_i", .cell), ("tuple", .globalImplicit), ("range", .globalImplicit), ("len", .globalImplicit), ("_law_table_here", .free)], isGenerator := false, isCoroutine := false, more := [] }
abbrev lit_d_law_mirror_253_24 : Scope := { kind := .function, names := [(".0", .local), ("_law_j", .local), ("_law_i", .free), ("_law_table_here", .free)], isGenerator := false, isCoroutine := false, more := [] }
theorem sc_d_law_sum : FnScope N_d_law_sum ["_law_one", "_law_two"] (defScope s_d_law_sum) := ⟨rfl, rfl, rfl, by decide +kernel, rfl, by decide +kernel, by decide +kernel⟩
abbrev lit_d_law_sum_249_17 : Scope := { kind := .function, names := [(".0", .local), ("_law_i", .cell), ("tuple", .globalImplicit), ("range", .globalImplicit), ("len", .globalImplicit), ("_law_one", .free), ("_law_two", .free)], isGenerator := false, isCoroutine := false, more := [] }
abbrev lit_d_law_sum_249_24 : Scope := { kind := .function, names := [(".0", .local), ("_law_j", .local), ("_law_i", .free), ("_law_one", .free), ("_law_two", .free)], isGenerator := false, isCoroutine := false, more := [] }
theorem sc_d_law_times : FnScope N_d_law_times ["_law_one", "_law_factor"] (defScope s_d_law_times) := ⟨rfl, rfl, rfl, by decide +kernel, rfl, by decide +kernel, by decide +kernel⟩
abbrev lit_d_law_times_251_17 : Scope := { kind := .function, names := [(".0", .local), ("_law_i", .cell), ("tuple", .globalImplicit), ("range", .globalImplicit), ("len", .globalImplicit), ("_law_factor", .free), ("_law_one", .free)], isGenerator := false, isCoroutine := false, more := [] }
abbrev lit_d_law_times_251_24 : Scope := { kind := .function, names := [(".0", .local), ("_law_j", .local), ("_law_factor", .free), ("_law_i", .free), ("_law_one", .free)], isGenerator := false, isCoroutine := false, more := [] }
theorem sc_d_law_lot_is : FnScope N_d_law_lot_is ["_law_thing", "_law_pins_here", "_law_bunch"] (defScope s_d_law_lot_is) := ⟨rfl, rfl, rfl, by decide +kernel, rfl, by decide +kernel, by decide +kernel⟩
theorem sc_d_is_whole : FnScope N_d_is_whole ["value"] (defScope s_d_is_whole) := ⟨rfl, rfl, rfl, by decide +kernel, rfl, by decide +kernel, by decide +kernel⟩
theorem sc_d_is_pin : FnScope N_d_is_pin ["pins", "value"] (defScope s_d_is_pin) := ⟨rfl, rfl, rfl, by decide +kernel, rfl, by decide +kernel, by decide +kernel⟩
theorem sc_d_is_entry : FnScope N_d_is_entry ["pins", "entry"] (defScope s_d_is_entry) := ⟨rfl, rfl, rfl, by decide +kernel, rfl, by decide +kernel, by decide +kernel⟩
theorem sc_d_combined : FnScope N_d_combined ["triples"] (defScope s_d_combined) := ⟨rfl, rfl, rfl, by decide +kernel, rfl, by decide +kernel, by decide +kernel⟩
abbrev lit_d_combined_45_17 : Scope := { kind := .function, names := [(".0", .local), ("a", .local), ("b", .local), ("many", .free)], isGenerator := false, isCoroutine := false, more := [] }
theorem sc_d_Lot___init__ : FnScope N_d_Lot___init__ ["self", "pins", "cords"] (defScope s_d_Lot___init__) := ⟨rfl, rfl, rfl, by decide +kernel, rfl, by decide +kernel, by decide +kernel⟩
theorem sc_d_Lot___add__ : FnScope N_d_Lot___add__ ["self", "other"] (defScope s_d_Lot___add__) := ⟨rfl, rfl, rfl, by decide +kernel, rfl, by decide +kernel, by decide +kernel⟩
theorem sc_d_Lot___sub__ : FnScope N_d_Lot___sub__ ["self", "other"] (defScope s_d_Lot___sub__) := ⟨rfl, rfl, rfl, by decide +kernel, rfl, by decide +kernel, by decide +kernel⟩
abbrev lit_d_Lot___sub___100_15 : Scope := { kind := .function, names := [(".0", .local), ("a", .local), ("b", .local), ("n", .local)], isGenerator := false, isCoroutine := false, more := [] }
abbrev lit_d_Lot___sub___105_39 : Scope := { kind := .function, names := [(".0", .local), ("a", .local), ("b", .local), ("left", .free)], isGenerator := false, isCoroutine := false, more := [] }
theorem sc_d_Lot___mul__ : FnScope N_d_Lot___mul__ ["self", "number"] (defScope s_d_Lot___mul__) := ⟨rfl, rfl, rfl, by decide +kernel, rfl, by decide +kernel, by decide +kernel⟩
abbrev lit_d_Lot___mul___110_39 : Scope := { kind := .function, names := [(".0", .local), ("a", .local), ("b", .local), ("n", .local), ("number", .free)], isGenerator := false, isCoroutine := false, more := [] }
theorem sc_d_law : FnScope N_d_law ["_law_script"] (defScope s_d_law) := ⟨rfl, rfl, rfl, by decide +kernel, rfl, by decide +kernel, by decide +kernel⟩
abbrev lit_d_law_265_60 : Scope := { kind := .function, names := [(".0", .local), ("_law_i", .local), ("_law_told_here", .free)], isGenerator := false, isCoroutine := false, more := [] }
abbrev lit_d_law_275_67 : Scope := { kind := .function, names := [(".0", .local), ("_law_entry", .local)], isGenerator := false, isCoroutine := false, more := [] }
section
variable {P : Program} {w : World} {K : PySem.W.Frag} {mg : Str → Option Value} {base : Heap} {cl : Tb} {ea : Nat → Addr}
theorem ok_d_law_digits {fa : Addr} {fd : FuncData} (Fn : Fun K "_law_digits" "_law_digits" s_d_law_digits fa fd) (T : Txt mg) (C0 : ClsT K mg cl 0 "Lot" ["pins", "cords"]) (XE : ErrT P w K mg base cl ea) : FnOk P w K mg base (L2N.CX P w) 1 fa fd ["_law_cell_here", "_law_sizes"] (spF K cl 2 d_law_digits) :=
  fn_F Fn sc_d_law_digits rfl rfl fun cdv A outer s H E hr => (fss_cons (fs_set (i := 2) sc_d_law_digits.nd rfl (by first | exact .inl rfl | exact .inr rfl) (fe_lst fa_nil)) (fss_cons (fs_set (i := 3) sc_d_law_digits.nd rfl (by first | exact .inl rfl | exact .inr rfl) (fe_q (fq_callTy1 q_int call_int1 (by rfl) T.n_int (by decide +kernel) (fq_v 0)))) (fss_cons (fs_fgt [4] (fs_if (ft_q (fqt_cmp q_ge op_ge (fq_v 3) (fq_pow ⟨by decide, by decide, by decide⟩ (by decide +kernel)) (nomark _))) (fss_cons (fs_set (i := 3) sc_d_law_digits.nd rfl (by first | exact .inl rfl | exact .inr rfl) (fe_q (fq_op q_sub op_sub (fq_v 3) (fq_pow ⟨by decide, by decide, by decide⟩ (by decide +kernel))))) (fss_cons (fs_fgt [3, 4] (fs_for pw_of rfl (fi_seq (fe_v 1)) (fg_name (i := 4) sc_d_law_digits.nd rfl (by first | exact .inl rfl | exact .inr rfl)) (fss_fgt [4] (fss_cons (fs_expr (fe_app (pv 2) (fe_q (fq_op q_mod op_mod (fq_callTy1 q_int call_int1 (by rfl) T.n_int (by decide +kernel) (fq_v 3)) (fq_v 4))))) (fss_one (fs_set (i := 3) sc_d_law_digits.nd rfl (by first | exact .inl rfl | exact .inr rfl) (fe_q (fq_op q_div op_fdiv (fq_callTy1 q_int call_int1 (by rfl) T.n_int (by decide +kernel) (fq_v 3)) (fq_v 4))))))))) (fss_one (fs_ret (fe_m 2))))) fss_nil)) (fss_cons (fs_set (i := 5) sc_d_law_digits.nd rfl (by first | exact .inl rfl | exact .inr rfl) (fe_q (fq_op q_mod op_mod (fq_callTy1 q_int call_int1 (by rfl) T.n_int (by decide +kernel) (fq_v 3)) fq_int))) (fss_cons (fs_fgt [6, 5, 7] (fs_for pw_of rfl (fi_range1 (by rfl) T.n_range (fa_cons (fe_q (fq_callB1 q_len call_len (by rfl) T.n_len (by decide +kernel) (fq_v 1))) fa_nil)) (fg_name (i := 6) sc_d_law_digits.nd rfl (by first | exact .inl rfl | exact .inr rfl)) (fss_fgt [6, 7] (fss_cons (fs_set (i := 5) sc_d_law_digits.nd rfl (by first | exact .inl rfl | exact .inr rfl) (fe_q (fq_op q_mod op_mod (fq_callTy1 q_int call_int1 (by rfl) T.n_int (by decide +kernel) (fq_op q_addI op_add (fq_op q_addI op_add (fq_op q_mul op_mul (fq_v 5) fq_int) (fq_op q_mul op_mul fq_int (fq_v 6))) fq_int)) fq_int))) (fss_cons (fs_set (i := 7) sc_d_law_digits.nd rfl (by first | exact .inl rfl | exact .inr rfl) (fe_q (fq_op q_mod op_mod (fq_callTy1 q_int call_int1 (by rfl) T.n_int (by decide +kernel) (fq_op q_mul op_mul (fq_v 5) (fq_op q_addI op_add (fq_op q_div op_fdiv (fq_v 5) fq_int) fq_int))) fq_int))) (fss_one (fs_expr (fe_app (pv 2) (fe_q (fq_op q_mod op_mod (fq_op q_div op_fdiv (fq_v 7) fq_int) (fq_ix (fq_v 1) (fq_v 6) (fun _ _ => rfl)))))))))))) (fss_one (fs_ret (fe_m 2))))))))
theorem ok_d_law_pins {fa : Addr} {fd : FuncData} (Fn : Fun K "_law_pins" "_law_pins" s_d_law_pins fa fd) (T : Txt mg) (C0 : ClsT K mg cl 0 "Lot" ["pins", "cords"]) (XE : ErrT P w K mg base cl ea) (h_d_law_digits : Fnc P w K mg base cl "_law_digits" 1 2 d_law_digits []) : FnOk P w K mg base (L2N.CX P w) 2 fa fd ["_law_cell_here"] (spF K cl 1 d_law_pins) :=
  fn_F Fn sc_d_law_pins rfl rfl fun cdv A outer s H E hr => (fss_cons (fs_set (i := 1) sc_d_law_pins.nd rfl (by first | exact .inl rfl | exact .inr rfl) (fe_call h_d_law_digits (hr.mono (by decide)) (by rfl) tk_of (fa_cons (fe_v 0) (fa_cons (fe_lst (fa_cons (fe_q fq_int) (fa_cons (fe_q fq_int) (fa_cons (fe_q fq_int) fa_nil)))) fa_nil)))) (fss_cons (fs_if (ft_q (fqt_cmp q_lt op_lt (fq_ix (fq_v 1) fq_int (fun _ _ => rfl)) fq_int (nomark _))) (fss_one (fs_ret (fe_q (fq_op q_addI op_add fq_int (fq_op q_mod op_mod (fq_callTy1 q_int call_int1 (by rfl) T.n_int (by decide +kernel) (fq_ix (fq_v 1) fq_int (fun _ _ => rfl))) fq_int))))) fss_nil) (fss_cons (fs_if (ft_q (fqt_cmp q_eqS op_eq (fq_ix (fq_v 1) fq_int (fun _ _ => rfl)) fq_int (nomark _))) (fss_one (fs_ret (fe_q (fq_op q_addI op_add fq_int (fq_op q_mod op_mod (fq_callTy1 q_int call_int1 (by rfl) T.n_int (by decide +kernel) (fq_ix (fq_v 1) fq_int (fun _ _ => rfl))) fq_int))))) fss_nil) (fss_cons (fs_if (ft_q (fqt_cmp q_eqS op_eq (fq_ix (fq_v 1) fq_int (fun _ _ => rfl)) fq_int (nomark _))) (fss_one (fs_ret (fe_q (fq_op q_mod op_mod (fq_callTy1 q_int call_int1 (by rfl) T.n_int (by decide +kernel) (fq_ix (fq_v 1) fq_int (fun _ _ => rfl))) fq_int)))) fss_nil) (fss_one (fs_ret (fe_q (fq_ix (fq_v 1) fq_int (fun _ _ => rfl)))))))))
theorem ok_d_law_cell {fa : Addr} {fd : FuncData} (Fn : Fun K "_law_cell" "_law_cell" s_d_law_cell fa fd) (T : Txt mg) (C0 : ClsT K mg cl 0 "Lot" ["pins", "cords"]) (XE : ErrT P w K mg base cl ea) : FnOk P w K mg base (L2N.CX P w) 1 fa fd ["_law_script", "_law_k"] (spF K cl 2 d_law_cell) :=
  fn_F Fn sc_d_law_cell rfl rfl fun cdv A outer s H E hr => (fss_cons (fs_if (ft_q (fqt_cmp q_lt op_lt (fq_v 1) (fq_callB1 q_len call_len (by rfl) T.n_len (by decide +kernel) (fq_v 0)) (nomark _))) (fss_one (fs_ret (fe_q (fq_ix (fq_v 0) (fq_v 1) (fun _ _ => rfl))))) fss_nil) (fss_cons (fs_set (i := 2) sc_d_law_cell.nd rfl (by first | exact .inl rfl | exact .inr rfl) (fe_q fq_int)) (fss_cons (fs_fgt [3] (fs_for pw_of rfl (fi_seq (fe_v 0)) (fg_name (i := 3) sc_d_law_cell.nd rfl (by first | exact .inl rfl | exact .inr rfl)) (fss_fgt [3] (fss_one (fs_set (i := 2) sc_d_law_cell.nd rfl (by first | exact .inl rfl | exact .inr rfl) (fe_q (fq_op q_mod op_mod (fq_callTy1 q_int call_int1 (by rfl) T.n_int (by decide +kernel) (fq_op q_addI op_add (fq_op q_mul op_mul (fq_v 2) fq_int) (fq_op q_mod op_mod (fq_callTy1 q_int call_int1 (by rfl) T.n_int (by decide +kernel) (fq_v 3)) fq_int))) fq_int))))))) (fss_one (fs_ret (fe_q (fq_op q_mod op_mod (fq_callTy1 q_int call_int1 (by rfl) T.n_int (by decide +kernel) (fq_op q_mul op_mul (fq_op q_mul op_mul (fq_op q_addI op_add (fq_v 2) fq_int) (fq_op q_addI op_add (fq_v 1) fq_int)) fq_int)) fq_int)))))))
theorem ok_d_law_norm {fa : Addr} {fd : FuncData} (Fn : Fun K "_law_norm" "_law_norm" s_d_law_norm fa fd) (T : Txt mg) (C0 : ClsT K mg cl 0 "Lot" ["pins", "cords"]) (XE : ErrT P w K mg base cl ea) : FnOk P w K mg base (L2N.CX P w) 1 fa fd ["_law_triples"] (spF K cl 1 d_law_norm) :=
  fn_F Fn sc_d_law_norm rfl rfl fun cdv A outer s H E hr => (fss_cons (fs_set (i := 1) sc_d_law_norm.nd rfl (by first | exact .inl rfl | exact .inr rfl) (fe_lst fa_nil)) (fss_cons (fs_fgt [2, 4, 3] (fs_for pw_of rfl (fi_seq (fe_v 0)) (fg_name (i := 2) sc_d_law_norm.nd rfl (by first | exact .inl rfl | exact .inr rfl)) (fss_fgt [2, 4, 3] (fss_cons (fs_set (i := 3) sc_d_law_norm.nd rfl (by first | exact .inl rfl | exact .inr rfl) (fe_q (fq_callB2 q_min (call_min2 rfl) (by rfl) T.n_min (by decide +kernel) (fq_ix (fq_v 2) fq_int (fun _ _ => rfl)) (fq_ix (fq_v 2) fq_int (fun _ _ => rfl))))) (fss_cons (fs_set (i := 4) sc_d_law_norm.nd rfl (by first | exact .inl rfl | exact .inr rfl) (fe_q (fq_callB2 q_max (call_max2 rfl) (by rfl) T.n_max (by decide +kernel) (fq_ix (fq_v 2) fq_int (fun _ _ => rfl)) (fq_ix (fq_v 2) fq_int (fun _ _ => rfl))))) (fss_one (fs_if (PW.pt (fw_and (ft_q (fqt_cmp q_gt op_gt (fq_ix (fq_v 2) fq_int (fun _ _ => rfl)) fq_int (nomark _))) (fw_and1 (ft_cmpRQ q_dNin (o_dNin hr) (fe_tup (fa_cons (fe_v 3) (fa_cons (fe_v 4) fa_nil))) (fq_v 1) (by rfl))))) (fss_one (fs_expr (fe_app (pv 1) (fe_tup (fa_cons (fe_v 3) (fa_cons (fe_v 4) fa_nil)))))) fss_nil))))))) (fss_cons (fs_set (i := 5) sc_d_law_norm.nd rfl (by first | exact .inl rfl | exact .inr rfl) (fe_lst fa_nil)) (fss_cons (fs_fgt [2, 7, 6] (fs_for pw_of rfl (fi_seq (fe_callB d_so (cr_so rfl) (by rfl) T.n_sorted (by decide +kernel) (fa_cons (fe_v 1) fa_nil))) (fg_name (i := 6) sc_d_law_norm.nd rfl (by first | exact .inl rfl | exact .inr rfl)) (fss_fgt [2, 7, 6] (fss_cons (fs_set (i := 7) sc_d_law_norm.nd rfl (by first | exact .inl rfl | exact .inr rfl) (fe_q fq_int)) (fss_cons (fs_fgt [2] (fs_for pw_of rfl (fi_seq (fe_v 0)) (fg_name (i := 2) sc_d_law_norm.nd rfl (by first | exact .inl rfl | exact .inr rfl)) (fss_fgt [2] (fss_one (fs_if (ft_q (PW.pt (fqw_and (fqt_cmp q_eqS op_eq (fq_callB2 q_min (call_min2 rfl) (by rfl) T.n_min (by decide +kernel) (fq_ix (fq_v 2) fq_int (fun _ _ => rfl)) (fq_ix (fq_v 2) fq_int (fun _ _ => rfl))) (fq_ix (fq_v 6) fq_int (fun _ _ => rfl)) (nomark _)) (fqw_and1 (fqt_cmp q_eqS op_eq (fq_callB2 q_max (call_max2 rfl) (by rfl) T.n_max (by decide +kernel) (fq_ix (fq_v 2) fq_int (fun _ _ => rfl)) (fq_ix (fq_v 2) fq_int (fun _ _ => rfl))) (fq_ix (fq_v 6) fq_int (fun _ _ => rfl)) (nomark _)))))) (fss_one (fs_set (i := 7) sc_d_law_norm.nd rfl (by first | exact .inl rfl | exact .inr rfl) (fe_q (fq_op q_addI op_add (fq_v 7) (fq_ix (fq_v 2) fq_int (fun _ _ => rfl)))))) fss_nil))))) (fss_one (fs_expr (fe_app (pv 5) (fe_tup (fa_cons (fe_q (fq_ix (fq_v 6) fq_int (fun _ _ => rfl))) (fa_cons (fe_q (fq_ix (fq_v 6) fq_int (fun _ _ => rfl))) (fa_cons (fe_v 7) fa_nil)))))))))))) (fss_one (fs_ret (fe_callTy d_tuple call_tuple_of (by rfl) T.n_tuple (by decide +kernel) (fa_cons (fe_v 5) fa_nil))))))))
theorem ok_d_law_lot {fa : Addr} {fd : FuncData} (Fn : Fun K "_law_lot" "_law_lot" s_d_law_lot fa fd) (T : Txt mg) (C0 : ClsT K mg cl 0 "Lot" ["pins", "cords"]) (XE : ErrT P w K mg base cl ea) (h_d_law_digits : Fnc P w K mg base cl "_law_digits" 1 2 d_law_digits []) (h_d_law_cell : Fnc P w K mg base cl "_law_cell" 1 2 d_law_cell []) (h_d_law_norm : Fnc P w K mg base cl "_law_norm" 1 1 d_law_norm []) : FnOk P w K mg base (L2N.CX P w) 2 fa fd ["_law_script", "_law_start", "_law_count", "_law_pins_here"] (spF K cl 4 d_law_lot) :=
  fn_F Fn sc_d_law_lot rfl rfl fun cdv A outer s H E hr => (fss_cons (fs_set (i := 4) sc_d_law_lot.nd rfl (by first | exact .inl rfl | exact .inr rfl) (fe_lst fa_nil)) (fss_cons (fs_fgt [6, 5, 7] (fs_for pw_of rfl (fi_range1 (by rfl) T.n_range (fa_cons (fe_v 2) fa_nil)) (fg_name (i := 5) sc_d_law_lot.nd rfl (by first | exact .inl rfl | exact .inr rfl)) (fss_fgt [6, 5, 7] (fss_one (fs_fgt [6, 7] (fs_if (ft_q (fqt_cmp q_ge op_ge (fq_v 3) fq_int (nomark _))) (fss_cons (fs_set (i := 6) sc_d_law_lot.nd rfl (by first | exact .inl rfl | exact .inr rfl) (fe_call h_d_law_digits (hr.mono (by decide)) (by rfl) tk_of (fa_cons (fe_call h_d_law_cell (hr.mono (by decide)) (by rfl) tk_of (fa_cons (fe_v 0) (fa_cons (fe_q (fq_op q_addI op_add (fq_v 1) (fq_v 5))) fa_nil))) (fa_cons (fe_lst (fa_cons (fe_v 3) (fa_cons (fe_q (fq_op q_sub op_sub (fq_v 3) fq_int)) (fa_cons (fe_q fq_int) (fa_cons (fe_q (fq_op q_mul op_mul fq_int (fq_pow ⟨by decide, by decide, by decide⟩ (by decide +kernel)))) fa_nil))))) fa_nil)))) (fss_cons (fs_set (i := 7) sc_d_law_lot.nd rfl (by first | exact .inl rfl | exact .inr rfl) (fe_q (fq_op q_mod op_mod (fq_callTy1 q_int call_int1 (by rfl) T.n_int (by decide +kernel) (fq_op q_addI op_add (fq_op q_addI op_add (fq_ix (fq_v 6) fq_int (fun _ _ => rfl)) fq_int) (fq_ix (fq_v 6) fq_int (fun _ _ => rfl)))) (fq_v 3)))) (fss_one (fs_expr (fe_app (pv 4) (fe_tup (fa_cons (fe_q (fq_ix (fq_v 6) fq_int (fun _ _ => rfl))) (fa_cons (fe_v 7) (fa_cons (fe_op d_addI op_add (fe_q fq_int) (fe_op d_mod op_mod (fe_q (fq_callTy1 q_int call_int1 (by rfl) T.n_int (by decide +kernel) (fq_ix (fq_v 6) fq_int (fun _ _ => rfl)))) (fe_ix (fe_lst (fa_cons (fe_q fq_int) (fa_cons (fe_q fq_int) (fa_cons (fe_q fq_int) (fa_cons (fe_q fq_int) (fa_cons (fe_q fq_int) (fa_cons (fe_q (fq_op q_mul op_mul fq_int (fq_pow ⟨by decide, by decide, by decide⟩ (by decide +kernel)))) fa_nil))))))) (fe_q (fq_ix (fq_v 6) fq_int (fun _ _ => rfl))) (fun _ _ => rfl)))) fa_nil))))))))) fss_nil)))))) (fss_one (fs_ret (fe_callTy d_tuple call_tuple_of (by rfl) T.n_tuple (by decide +kernel) (fa_cons (fe_lc (own := [("_law_c", 8)]) rfl sc_d_law_lot.nd (fi_seq (fe_call h_d_law_norm (hr.mono (by decide)) (by rfl) tk_of (fa_cons (fe_v 4) fa_nil))) (blkOk_by (own := [("_law_c", 8)]) (N := N_d_law_lot) (sc := (defScope s_d_law_lot)) (by decide +kernel)) (fun _ _ _ _ _ => (fg_name (i := 8) sc_d_law_lot.nd rfl (by first | exact .inl rfl | exact .inr rfl))) (fun _ _ _ _ _ => ft_nil) (fun _ _ _ _ _ => (fe_tup (fa_cons (fe_q (fq_ix (fq_v 8) fq_int (fun _ _ => rfl))) (fa_cons (fe_q (fq_ix (fq_v 8) fq_int (fun _ _ => rfl))) (fa_cons (fe_q (fq_callB2 q_min (call_min2 rfl) (by rfl) T.n_min (by decide +kernel) (fq_ix (fq_v 8) fq_int (fun _ _ => rfl)) (fq_op q_mul op_mul fq_int (fq_pow ⟨by decide, by decide, by decide⟩ (by decide +kernel))))) fa_nil)))))) fa_nil))))))
theorem ok_d_law_table {fa : Addr} {fd : FuncData} (Fn : Fun K "_law_table" "_law_table" s_d_law_table fa fd) (T : Txt mg) (C0 : ClsT K mg cl 0 "Lot" ["pins", "cords"]) (XE : ErrT P w K mg base cl ea) : FnOk P w K mg base (L2N.CX P w) 1 fa fd ["_law_pins_here", "_law_bunch"] (spF K cl 2 d_law_table) :=
  fn_FB Fn sc_d_law_table rfl rfl fun cdv A outer s H E hr => by
    have C0 := C0.at' none
    have XE := XE.at' none
    exact (fss_cons (fs_set (i := 2) sc_d_law_table.nd rfl (by first | exact .inl rfl | exact .inr rfl) (fe_q (fq_callB2 q_max (call_max2 rfl) (by rfl) T.n_max (by decide +kernel) (fq_v 0) fq_int))) (fss_cons (fs_setLc (i := 5) (own := [("_law_i", 3)]) rfl sc_d_law_table.nd rfl rfl (sw_true rfl rfl rfl (by decide +kernel)) (fi_range1 (by rfl) T.n_range (fa_cons (fe_v 2) fa_nil)) (blkOk_by (own := [("_law_i", 3)]) (N := N_d_law_table) (sc := (defScope s_d_law_table)) (by decide +kernel)) (fun _ _ _ _ _ => (fg_name (i := 3) sc_d_law_table.nd rfl (by first | exact .inl rfl | exact .inr rfl))) (fun _ _ _ _ _ => ft_nil) (fun _ _ _ _ _ => (fe_lc (own := [("_law_j", 4)]) rfl sc_d_law_table.nd (fi_range1 (by rfl) T.n_range (fa_cons (fe_v 2) fa_nil)) (blkOk_by (own := [("_law_j", 4)]) (N := N_d_law_table) (sc := (relS lit_d_law_table_228_22 (defScope s_d_law_table))) (by decide +kernel)) (fun _ _ _ _ _ => (fg_name (i := 4) sc_d_law_table.nd rfl (by first | exact .inl rfl | exact .inr rfl))) (fun _ _ _ _ _ => ft_nil) (fun _ _ _ _ _ => (fe_q fq_int))))) (fss_cons (fs_fgt [9, 3, 4, 6, 7] (fs_for pw_of rfl (fi_range1 (by rfl) T.n_range (fa_cons (fe_v 2) fa_nil)) (fg_name (i := 3) sc_d_law_table.nd rfl (by first | exact .inl rfl | exact .inr rfl)) (fss_fgt [9, 3, 4, 6, 7] (fss_cons (fs_set (i := 6) sc_d_law_table.nd rfl (by first | exact .inl rfl | exact .inr rfl) (fe_lc (own := [("_law_j", 4)]) rfl sc_d_law_table.nd (fi_range1 (by rfl) T.n_range (fa_cons (fe_v 2) fa_nil)) (blkOk_by (own := [("_law_j", 4)]) (N := N_d_law_table) (sc := (defScope s_d_law_table)) (by decide +kernel)) (fun _ _ _ _ _ => (fg_name (i := 4) sc_d_law_table.nd rfl (by first | exact .inl rfl | exact .inr rfl))) (fun _ _ _ _ _ => ft_nil) (fun _ _ _ _ _ => (fe_q fq_bl)))) (fss_one (fs_fgt [9, 4, 7] (fs_for pw_of rfl (fi_range2 (by rfl) T.n_range (fa_cons (fe_q fq_int) (fa_cons (fe_v 2) fa_nil))) (fg_name (i := 7) sc_d_law_table.nd rfl (by first | exact .inl rfl | exact .inr rfl)) (fss_fgt [9, 4, 7] (fss_cons (fs_set (i := 4) sc_d_law_table.nd rfl (by first | exact .inl rfl | exact .inr rfl) (fe_q (fq_op q_mod op_mod (fq_callTy1 q_int call_int1 (by rfl) T.n_int (by decide +kernel) (fq_op q_addI op_add (fq_v 3) (fq_v 7))) (fq_v 2)))) (fss_cons (fs_put (pv 6) (fq_v 4) (fe_q fq_bl)) (fss_one (fs_put2 (pv 5) (fq_v 3) (fq_v 4) (fe_bor rfl [false, true, false, false, false, false, true, false, false, false] (fe_callB d_sum (cr_sum rfl) (by rfl) T.n_sum (by decide +kernel) (fa_cons (fe_lc (own := [("_law_entry", 9)]) rfl sc_d_law_table.nd (fi_seq (fe_v 1)) (blkOk_by (own := [("_law_entry", 9)]) (N := N_d_law_table) (sc := (defScope s_d_law_table)) (by decide +kernel)) (fun _ _ _ _ _ => (fg_name (i := 9) sc_d_law_table.nd rfl (by first | exact .inl rfl | exact .inr rfl))) (fun _ _ _ _ _ => (ft_one (ft_q (fqt_cmp q_neS op_ne (fq_ix (fq_v 6) (fq_ix (fq_v 9) fq_int (fun _ _ => rfl)) (fun _ _ => rfl)) (fq_ix (fq_v 6) (fq_ix (fq_v 9) fq_int (fun _ _ => rfl)) (fun _ _ => rfl)) (nomark _))))) (fun _ _ _ _ _ => (fe_q (fq_ix (fq_v 9) fq_int (fun _ _ => rfl))))) fa_nil))) (fun _ _ => rfl))))))))))))) (fss_one (fs_ret (fe_callTy d_tuple call_tuple_of (by rfl) T.n_tuple (by decide +kernel) (fa_cons (fe_lc (own := [("_law_row", 8)]) rfl sc_d_law_table.nd (fi_seq (fe_v 5)) (blkOk_by (own := [("_law_row", 8)]) (N := N_d_law_table) (sc := (defScope s_d_law_table)) (by decide +kernel)) (fun _ _ _ _ _ => (fg_name (i := 8) sc_d_law_table.nd rfl (by first | exact .inl rfl | exact .inr rfl))) (fun _ _ _ _ _ => ft_nil) (fun _ _ _ _ _ => (fe_callTy d_tuple call_tuple_of (by rfl) T.n_tuple (by decide +kernel) (fa_cons (fe_v 8) fa_nil)))) fa_nil)))))))
theorem ok_d_law_whole {fa : Addr} {fd : FuncData} (Fn : Fun K "_law_whole" "_law_whole" s_d_law_whole fa fd) (T : Txt mg) (C0 : ClsT K mg cl 0 "Lot" ["pins", "cords"]) (XE : ErrT P w K mg base cl ea) : FnOk P w K mg base (L2N.CX P w) 1 fa fd ["_law_value"] (spF K cl 1 d_law_whole) :=
  fn_F Fn sc_d_law_whole rfl rfl fun cdv A outer s H E hr => (fss_one (fs_ret (fe_q (fq_and (fq_isi tab_ty (.ty "int") (by rfl) T.n_isinstance (fq_v 0) (pe_bltn (v := .ty "int") (by rfl) T.n_int (by decide +kernel) rfl)) (fq_one (fq_not (fq_isi tab_ty (.ty "bool") (by rfl) T.n_isinstance (fq_v 0) (pe_bltn (v := .ty "bool") (by rfl) T.n_bool (by decide +kernel) rfl))))))))
theorem ok_d_law_same {fa : Addr} {fd : FuncData} (Fn : Fun K "_law_same" "_law_same" s_d_law_same fa fd) (T : Txt mg) (C0 : ClsT K mg cl 0 "Lot" ["pins", "cords"]) (XE : ErrT P w K mg base cl ea) (h_d_law_whole : Fnc P w K mg base cl "_law_whole" 1 1 d_law_whole []) (hself : ∀ (k : Nat) (m : List D → RF), (∀ l, m l ≠ .bad → l.length = 2) → FnOk P w K mg base (L2N.CX P w) k fa fd ["_law_value", "_law_due"] (spF K cl 2 m) → Fnc P w K mg base cl "_law_same" k 2 m []) : FnOk P w K mg base (L2N.CX P w) 7 fa fd ["_law_value", "_law_due"] (spF K cl 2 d_law_same) :=
  fn_fuel (k := 1) Fn sc_d_law_same (fun j fself hm F0 => by
    have h_self := hself _ fself hm F0
    exact fn_F (b := b_d_law_same fself) Fn sc_d_law_same rfl rfl fun cdv A outer s H E hr => (fss_cons (fs_if (ft_q (fqt_cmp q_isN op_isN (fq_v 1) fq_non (nomark _))) (fss_one (fs_ret (fe_q (fq_cmp q_isN op_isN (fq_v 0) fq_non (nomark _))))) fss_nil) (fss_cons (fs_if (ft_q (fqt_val (fq_isi tab_ty (.ty "bool") (by rfl) T.n_isinstance (fq_v 1) (pe_bltn (v := .ty "bool") (by rfl) T.n_bool (by decide +kernel) rfl)))) (fss_one (fs_ret (fe_q (fq_and (fq_isi tab_ty (.ty "bool") (by rfl) T.n_isinstance (fq_v 0) (pe_bltn (v := .ty "bool") (by rfl) T.n_bool (by decide +kernel) rfl)) (fq_one (fq_cmp q_eqS op_eq (fq_v 0) (fq_v 1) (nomark _))))))) fss_nil) (fss_cons (fs_if (ft_q (fqt_val (fq_isi tab_ty (.ty "int") (by rfl) T.n_isinstance (fq_v 1) (pe_bltn (v := .ty "int") (by rfl) T.n_int (by decide +kernel) rfl)))) (fss_one (fs_ret (fe_and (fe_call h_d_law_whole (hr.mono (by omega)) (by rfl) tk_of (fa_cons (fe_v 0) fa_nil)) (fe_one (fe_q (fq_cmp q_eqS op_eq (fq_v 0) (fq_v 1) (nomark _))))))) fss_nil) (fss_cons (fs_if (ft_q (fqt_val (fq_isi tab_ty (.ty "str") (by rfl) T.n_isinstance (fq_v 1) (pe_bltn (v := .ty "str") (by rfl) T.n_str (by decide +kernel) rfl)))) (fss_one (fs_ret (fe_q (fq_and (fq_isi tab_ty (.ty "str") (by rfl) T.n_isinstance (fq_v 0) (pe_bltn (v := .ty "str") (by rfl) T.n_str (by decide +kernel) rfl)) (fq_one (fq_cmp q_eqS op_eq (fq_v 0) (fq_v 1) (nomark _))))))) fss_nil) (fss_cons (fs_if (ft_q (PW.pt (fqw_and (fqt_val (fq_isi tab_ty (.ty "list") (by rfl) T.n_isinstance (fq_v 1) (pe_bltn (v := .ty "list") (by rfl) T.n_list (by decide +kernel) rfl))) (fqw_and1 (fqt_not (fqt_val (fq_isi tab_ty (.ty "list") (by rfl) T.n_isinstance (fq_v 0) (pe_bltn (v := .ty "list") (by rfl) T.n_list (by decide +kernel) rfl)))))))) (fss_one (fs_ret (fe_q fq_bl))) fss_nil) (fss_cons (fs_if (ft_q (PW.pt (fqw_and (fqt_val (fq_isi tab_ty (.ty "tuple") (by rfl) T.n_isinstance (fq_v 1) (pe_bltn (v := .ty "tuple") (by rfl) T.n_tuple (by decide +kernel) rfl))) (fqw_and1 (fqt_not (fqt_val (fq_isi tab_ty (.ty "tuple") (by rfl) T.n_isinstance (fq_v 0) (pe_bltn (v := .ty "tuple") (by rfl) T.n_tuple (by decide +kernel) rfl)))))))) (fss_one (fs_ret (fe_q fq_bl))) fss_nil) (fss_cons (fs_if (ft_q (fqt_cmp q_neS op_ne (fq_callB1 q_len call_len (by rfl) T.n_len (by decide +kernel) (fq_v 0)) (fq_callB1 q_len call_len (by rfl) T.n_len (by decide +kernel) (fq_v 1)) (nomark _))) (fss_one (fs_ret (fe_q fq_bl))) fss_nil) (fss_cons (fs_fgt [2] (fs_for pw_of rfl (fi_range1 (by rfl) T.n_range (fa_cons (fe_q (fq_callB1 q_len call_len (by rfl) T.n_len (by decide +kernel) (fq_v 1))) fa_nil)) (fg_name (i := 2) sc_d_law_same.nd rfl (by first | exact .inl rfl | exact .inr rfl)) (fss_fgt [2] (fss_one (fs_if (ft_not (ft_val (fe_call h_self hr (by rfl) tk_of (fa_cons (fe_q (fq_ix (fq_v 0) (fq_v 2) (fun _ _ => rfl))) (fa_cons (fe_q (fq_ix (fq_v 1) (fq_v 2) (fun _ _ => rfl))) fa_nil))))) (fss_one (fs_ret (fe_q fq_bl))) fss_nil))))) (fss_one (fs_ret (fe_q fq_bl)))))))))))) (fun _ => runF_len) 5
theorem ok_d_gaps {fa : Addr} {fd : FuncData} (Fn : Fun K "gaps" "gaps" s_d_gaps fa fd) (T : Txt mg) (C0 : ClsT K mg cl 0 "Lot" ["pins", "cords"]) (XE : ErrT P w K mg base cl ea) : FnOk P w K mg base (L2N.CX P w) 1 fa fd ["pins"] (spF K cl 1 d_gaps) :=
  fn_F Fn sc_d_gaps rfl rfl fun cdv A outer s H E hr => (fss_one (fs_ret (fe_q (fq_callB2 q_max (call_max2 rfl) (by rfl) T.n_max (by decide +kernel) (fq_v 0) fq_int))))
theorem ok_d_raw_passing {fa : Addr} {fd : FuncData} (Fn : Fun K "raw_passing" "raw_passing" s_d_raw_passing fa fd) (T : Txt mg) (C0 : ClsT K mg cl 0 "Lot" ["pins", "cords"]) (XE : ErrT P w K mg base cl ea) : FnOk P w K mg base (L2N.CX P w) 1 fa fd ["cords", "i", "j"] (spF K cl 3 d_raw_passing) :=
  fn_F Fn sc_d_raw_passing rfl rfl fun cdv A outer s H E hr => (fss_one (fs_ret (fe_callB d_sum (cr_sum rfl) (by rfl) T.n_sum (by decide +kernel) (fa_cons (fe_lc (own := [("a", 3), ("b", 4), ("n", 5)]) rfl sc_d_raw_passing.nd (fi_seq (fe_v 0)) (blkOk_by (own := [("a", 3), ("b", 4), ("n", 5)]) (N := N_d_raw_passing) (sc := (defScope s_d_raw_passing)) (by decide +kernel)) (fun _ _ _ _ _ => (fg_sub (vs := [3, 4, 5]) (fg_tup rfl (fgs_cons (fg_name (i := 3) sc_d_raw_passing.nd rfl (by first | exact .inl rfl | exact .inr rfl)) (fgs_cons (fg_name (i := 4) sc_d_raw_passing.nd rfl (by first | exact .inl rfl | exact .inr rfl)) (fgs_cons (fg_name (i := 5) sc_d_raw_passing.nd rfl (by first | exact .inl rfl | exact .inr rfl)) fgs_nil)))) (by decide))) (fun _ _ _ _ _ => (ft_one (ft_q (fqt_cmp q_neS op_ne (fq_chain q_le q_lt op_le op_lt (fq_v 3) (fq_v 1) (fq_v 4) (by rfl)) (fq_chain q_le q_lt op_le op_lt (fq_v 3) (fq_v 2) (fq_v 4) (by rfl)) (nomark _))))) (fun _ _ _ _ _ => (fe_v 5))) fa_nil))))
theorem ok_d_raw_table {fa : Addr} {fd : FuncData} (Fn : Fun K "raw_table" "raw_table" s_d_raw_table fa fd) (T : Txt mg) (C0 : ClsT K mg cl 0 "Lot" ["pins", "cords"]) (XE : ErrT P w K mg base cl ea) (h_d_gaps : Fnc P w K mg base cl "gaps" 1 1 d_gaps []) (h_d_raw_passing : Fnc P w K mg base cl "raw_passing" 1 3 d_raw_passing []) : FnOk P w K mg base (L2N.CX P w) 2 fa fd ["pins", "cords"] (spF K cl 2 d_raw_table) :=
  fn_F Fn sc_d_raw_table rfl rfl fun cdv A outer s H E hr => (fss_cons (fs_set (i := 2) sc_d_raw_table.nd rfl (by first | exact .inl rfl | exact .inr rfl) (fe_call h_d_gaps (hr.mono (by decide)) (by rfl) tk_of (fa_cons (fe_v 0) fa_nil))) (fss_one (fs_ret (fe_callTy d_tuple call_tuple_of (by rfl) T.n_tuple (by decide +kernel) (fa_cons (fe_lc (own := [("i", 3)]) rfl sc_d_raw_table.nd (fi_range1 (by rfl) T.n_range (fa_cons (fe_v 2) fa_nil)) (blkOk_by (own := [("i", 3)]) (N := N_d_raw_table) (sc := (defScope s_d_raw_table)) (by decide +kernel)) (fun _ _ _ _ _ => (fg_name (i := 3) sc_d_raw_table.nd rfl (by first | exact .inl rfl | exact .inr rfl))) (fun _ _ _ _ _ => ft_nil) (fun _ _ _ _ _ => (fe_callTy d_tuple call_tuple_of (by rfl) T.n_tuple (by decide +kernel) (fa_cons (fe_lc (own := [("j", 4)]) rfl sc_d_raw_table.nd (fi_range1 (by rfl) T.n_range (fa_cons (fe_v 2) fa_nil)) (blkOk_by (own := [("j", 4)]) (N := N_d_raw_table) (sc := (relS lit_d_raw_table_50_17 (defScope s_d_raw_table))) (by decide +kernel)) (fun _ _ _ _ _ => (fg_name (i := 4) sc_d_raw_table.nd rfl (by first | exact .inl rfl | exact .inr rfl))) (fun _ _ _ _ _ => ft_nil) (fun _ _ _ _ _ => (fe_call h_d_raw_passing (hr.mono (by decide)) (by rfl) takesN0 (fa_cons (fe_v 1) (fa_cons (fe_v 3) (fa_cons (fe_v 4) fa_nil)))))) fa_nil)))) fa_nil)))))
theorem ok_d_table_of {fa : Addr} {fd : FuncData} (Fn : Fun K "table_of" "table_of" s_d_table_of fa fd) (T : Txt mg) (C0 : ClsT K mg cl 0 "Lot" ["pins", "cords"]) (XE : ErrT P w K mg base cl ea) (h_d_raw_table : Fnc P w K mg base cl "raw_table" 2 2 d_raw_table []) : FnOk P w K mg base (L2N.CX P w) 3 fa fd ["lot"] (spF K cl 1 d_table_of) :=
  fn_F Fn sc_d_table_of rfl rfl fun cdv A outer s H E hr => (fss_one (fs_ret (fe_call h_d_raw_table (hr.mono (by decide)) (by rfl) tk_of (fa_cons (fe_q (fq_fld 0 0 (C0.fld (by rfl) (by decide +kernel)) (fq_v 0) rfl)) (fa_cons (fe_q (fq_fld 0 1 (C0.fld (by rfl) (by decide +kernel)) (fq_v 0) rfl)) fa_nil)))))
theorem ok_d_Lot_table {fa : Addr} {fd : FuncData} (Fn : Fun K "table" "Lot.table" s_d_Lot_table fa fd) (T : Txt mg) (C0 : ClsT K mg cl 0 "Lot" ["pins", "cords"]) (XE : ErrT P w K mg base cl ea) (h_d_raw_table : Fnc P w K mg base cl "raw_table" 2 2 d_raw_table []) : FnOk P w K mg base (L2N.CX P w) 3 fa fd ["self"] (spF K cl 1 d_Lot_table) :=
  fn_F Fn sc_d_Lot_table rfl rfl fun cdv A outer s H E hr => (fss_one (fs_ret (fe_call h_d_raw_table (hr.mono (by decide)) (by rfl) tk_of (fa_cons (fe_q (fq_fld 0 0 (C0.fld (by rfl) (by decide +kernel)) (fq_v 0) rfl)) (fa_cons (fe_q (fq_fld 0 1 (C0.fld (by rfl) (by decide +kernel)) (fq_v 0) rfl)) fa_nil)))))
theorem ok_d_law_told {fa : Addr} {fd : FuncData} (Fn : Fun K "_law_told" "_law_told" s_d_law_told fa fd) (T : Txt mg) (C0 : ClsT K mg cl 0 "Lot" ["pins", "cords"]) (XE : ErrT P w K mg base cl ea) (h_d_law_same : Fnc P w K mg base cl "_law_same" 7 2 d_law_same []) (h_d_table_of : Fnc P w K mg base cl "table_of" 3 1 d_table_of []) (P_d_Lot_table : PrpC P w K mg base cl 0 "table" 3 d_Lot_table) : FnOk P w K mg base (L2N.CX P w) 8 fa fd ["_law_thing", "_law_table_here"] (spF K cl 2 d_law_told) :=
  fn_F Fn sc_d_law_told rfl rfl fun cdv A outer s H E hr => (fss_one (fs_ret (fe_and (fe_call h_d_law_same (hr.mono (by decide)) (by rfl) tk_of (fa_cons (fe_call h_d_table_of (hr.mono (by decide)) (by rfl) tk_of (fa_cons (fe_v 0) fa_nil)) (fa_cons (fe_v 1) fa_nil))) (fe_one (fe_call h_d_law_same (hr.mono (by decide)) (by rfl) tk_of (fa_cons (fe_prop P_d_Lot_table (hr.mono (by decide)) (fq_v 0)) (fa_cons (fe_v 1) fa_nil)))))))
theorem ok_d_law_mirror {fa : Addr} {fd : FuncData} (Fn : Fun K "_law_mirror" "_law_mirror" s_d_law_mirror fa fd) (T : Txt mg) (C0 : ClsT K mg cl 0 "Lot" ["pins", "cords"]) (XE : ErrT P w K mg base cl ea) : FnOk P w K mg base (L2N.CX P w) 1 fa fd ["_law_table_here"] (spF K cl 1 d_law_mirror) :=
  fn_F Fn sc_d_law_mirror rfl rfl fun cdv A outer s H E hr => (fss_one (fs_ret (fe_callTy d_tuple call_tuple_of (by rfl) T.n_tuple (by decide +kernel) (fa_cons (fe_lc (own := [("_law_i", 1)]) rfl sc_d_law_mirror.nd (fi_range1 (by rfl) T.n_range (fa_cons (fe_q (fq_callB1 q_len call_len (by rfl) T.n_len (by decide +kernel) (fq_v 0))) fa_nil)) (blkOk_by (own := [("_law_i", 1)]) (N := N_d_law_mirror) (sc := (defScope s_d_law_mirror)) (by decide +kernel)) (fun _ _ _ _ _ => (fg_name (i := 1) sc_d_law_mirror.nd rfl (by first | exact .inl rfl | exact .inr rfl))) (fun _ _ _ _ _ => ft_nil) (fun _ _ _ _ _ => (fe_callTy d_tuple call_tuple_of (by rfl) T.n_tuple (by decide +kernel) (fa_cons (fe_lc (own := [("_law_j", 2)]) rfl sc_d_law_mirror.nd (fi_range1 (by rfl) T.n_range (fa_cons (fe_q (fq_callB1 q_len call_len (by rfl) T.n_len (by decide +kernel) (fq_v 0))) fa_nil)) (blkOk_by (own := [("_law_j", 2)]) (N := N_d_law_mirror) (sc := (relS lit_d_law_mirror_253_17 (defScope s_d_law_mirror))) (by decide +kernel)) (fun _ _ _ _ _ => (fg_name (i := 2) sc_d_law_mirror.nd rfl (by first | exact .inl rfl | exact .inr rfl))) (fun _ _ _ _ _ => ft_nil) (fun _ _ _ _ _ => (fe_q (fq_ix (fq_ix (fq_v 0) (fq_v 2) (fun _ _ => rfl)) (fq_v 1) (fun _ _ => rfl))))) fa_nil)))) fa_nil))))
theorem ok_d_law_sum {fa : Addr} {fd : FuncData} (Fn : Fun K "_law_sum" "_law_sum" s_d_law_sum fa fd) (T : Txt mg) (C0 : ClsT K mg cl 0 "Lot" ["pins", "cords"]) (XE : ErrT P w K mg base cl ea) : FnOk P w K mg base (L2N.CX P w) 1 fa fd ["_law_one", "_law_two"] (spF K cl 2 d_law_sum) :=
  fn_F Fn sc_d_law_sum rfl rfl fun cdv A outer s H E hr => (fss_one (fs_ret (fe_callTy d_tuple call_tuple_of (by rfl) T.n_tuple (by decide +kernel) (fa_cons (fe_lc (own := [("_law_i", 2)]) rfl sc_d_law_sum.nd (fi_range1 (by rfl) T.n_range (fa_cons (fe_q (fq_callB1 q_len call_len (by rfl) T.n_len (by decide +kernel) (fq_v 0))) fa_nil)) (blkOk_by (own := [("_law_i", 2)]) (N := N_d_law_sum) (sc := (defScope s_d_law_sum)) (by decide +kernel)) (fun _ _ _ _ _ => (fg_name (i := 2) sc_d_law_sum.nd rfl (by first | exact .inl rfl | exact .inr rfl))) (fun _ _ _ _ _ => ft_nil) (fun _ _ _ _ _ => (fe_callTy d_tuple call_tuple_of (by rfl) T.n_tuple (by decide +kernel) (fa_cons (fe_lc (own := [("_law_j", 3)]) rfl sc_d_law_sum.nd (fi_range1 (by rfl) T.n_range (fa_cons (fe_q (fq_callB1 q_len call_len (by rfl) T.n_len (by decide +kernel) (fq_v 0))) fa_nil)) (blkOk_by (own := [("_law_j", 3)]) (N := N_d_law_sum) (sc := (relS lit_d_law_sum_249_17 (defScope s_d_law_sum))) (by decide +kernel)) (fun _ _ _ _ _ => (fg_name (i := 3) sc_d_law_sum.nd rfl (by first | exact .inl rfl | exact .inr rfl))) (fun _ _ _ _ _ => ft_nil) (fun _ _ _ _ _ => (fe_q (fq_op q_addI op_add (fq_ix (fq_ix (fq_v 0) (fq_v 2) (fun _ _ => rfl)) (fq_v 3) (fun _ _ => rfl)) (fq_ix (fq_ix (fq_v 1) (fq_v 2) (fun _ _ => rfl)) (fq_v 3) (fun _ _ => rfl)))))) fa_nil)))) fa_nil))))
theorem ok_d_law_times {fa : Addr} {fd : FuncData} (Fn : Fun K "_law_times" "_law_times" s_d_law_times fa fd) (T : Txt mg) (C0 : ClsT K mg cl 0 "Lot" ["pins", "cords"]) (XE : ErrT P w K mg base cl ea) : FnOk P w K mg base (L2N.CX P w) 1 fa fd ["_law_one", "_law_factor"] (spF K cl 2 d_law_times) :=
  fn_F Fn sc_d_law_times rfl rfl fun cdv A outer s H E hr => (fss_one (fs_ret (fe_callTy d_tuple call_tuple_of (by rfl) T.n_tuple (by decide +kernel) (fa_cons (fe_lc (own := [("_law_i", 2)]) rfl sc_d_law_times.nd (fi_range1 (by rfl) T.n_range (fa_cons (fe_q (fq_callB1 q_len call_len (by rfl) T.n_len (by decide +kernel) (fq_v 0))) fa_nil)) (blkOk_by (own := [("_law_i", 2)]) (N := N_d_law_times) (sc := (defScope s_d_law_times)) (by decide +kernel)) (fun _ _ _ _ _ => (fg_name (i := 2) sc_d_law_times.nd rfl (by first | exact .inl rfl | exact .inr rfl))) (fun _ _ _ _ _ => ft_nil) (fun _ _ _ _ _ => (fe_callTy d_tuple call_tuple_of (by rfl) T.n_tuple (by decide +kernel) (fa_cons (fe_lc (own := [("_law_j", 3)]) rfl sc_d_law_times.nd (fi_range1 (by rfl) T.n_range (fa_cons (fe_q (fq_callB1 q_len call_len (by rfl) T.n_len (by decide +kernel) (fq_v 0))) fa_nil)) (blkOk_by (own := [("_law_j", 3)]) (N := N_d_law_times) (sc := (relS lit_d_law_times_251_17 (defScope s_d_law_times))) (by decide +kernel)) (fun _ _ _ _ _ => (fg_name (i := 3) sc_d_law_times.nd rfl (by first | exact .inl rfl | exact .inr rfl))) (fun _ _ _ _ _ => ft_nil) (fun _ _ _ _ _ => (fe_q (fq_op q_mul op_mul (fq_ix (fq_ix (fq_v 0) (fq_v 2) (fun _ _ => rfl)) (fq_v 3) (fun _ _ => rfl)) (fq_v 1))))) fa_nil)))) fa_nil))))
theorem ok_d_law_lot_is {fa : Addr} {fd : FuncData} (Fn : Fun K "_law_lot_is" "_law_lot_is" s_d_law_lot_is fa fd) (T : Txt mg) (C0 : ClsT K mg cl 0 "Lot" ["pins", "cords"]) (XE : ErrT P w K mg base cl ea) (h_d_law_same : Fnc P w K mg base cl "_law_same" 7 2 d_law_same []) : FnOk P w K mg base (L2N.CX P w) 8 fa fd ["_law_thing", "_law_pins_here", "_law_bunch"] (spF K cl 3 d_law_lot_is) :=
  fn_F Fn sc_d_law_lot_is rfl rfl fun cdv A outer s H E hr => (fss_one (fs_ret (fe_and (fe_call h_d_law_same (hr.mono (by decide)) (by rfl) tk_of (fa_cons (fe_q (fq_fld 0 0 (C0.fld (by rfl) (by decide +kernel)) (fq_v 0) rfl)) (fa_cons (fe_v 1) fa_nil))) (fe_one (fe_call h_d_law_same (hr.mono (by decide)) (by rfl) tk_of (fa_cons (fe_q (fq_fld 0 1 (C0.fld (by rfl) (by decide +kernel)) (fq_v 0) rfl)) (fa_cons (fe_v 2) fa_nil)))))))
theorem ok_d_is_whole {fa : Addr} {fd : FuncData} (Fn : Fun K "is_whole" "is_whole" s_d_is_whole fa fd) (T : Txt mg) (C0 : ClsT K mg cl 0 "Lot" ["pins", "cords"]) (XE : ErrT P w K mg base cl ea) : FnOk P w K mg base (L2N.CX P w) 1 fa fd ["value"] (spF K cl 1 d_is_whole) :=
  fn_F Fn sc_d_is_whole rfl rfl fun cdv A outer s H E hr => (fss_one (fs_ret (fe_q (fq_and (fq_isi tab_ty (.ty "int") (by rfl) T.n_isinstance (fq_v 0) (pe_bltn (v := .ty "int") (by rfl) T.n_int (by decide +kernel) rfl)) (fq_one (fq_not (fq_isi tab_ty (.ty "bool") (by rfl) T.n_isinstance (fq_v 0) (pe_bltn (v := .ty "bool") (by rfl) T.n_bool (by decide +kernel) rfl))))))))
theorem ok_d_is_pin {fa : Addr} {fd : FuncData} (Fn : Fun K "is_pin" "is_pin" s_d_is_pin fa fd) (T : Txt mg) (C0 : ClsT K mg cl 0 "Lot" ["pins", "cords"]) (XE : ErrT P w K mg base cl ea) (h_d_is_whole : Fnc P w K mg base cl "is_whole" 1 1 d_is_whole []) : FnOk P w K mg base (L2N.CX P w) 2 fa fd ["pins", "value"] (spF K cl 2 d_is_pin) :=
  fn_F Fn sc_d_is_pin rfl rfl fun cdv A outer s H E hr => (fss_one (fs_ret (fe_and (fe_call h_d_is_whole (hr.mono (by decide)) (by rfl) tk_of (fa_cons (fe_v 1) fa_nil)) (fe_one (fe_q (fq_chain q_le q_lt op_le op_lt fq_int (fq_v 1) (fq_v 0) (by rfl)))))))
theorem ok_d_is_entry {fa : Addr} {fd : FuncData} (Fn : Fun K "is_entry" "is_entry" s_d_is_entry fa fd) (T : Txt mg) (C0 : ClsT K mg cl 0 "Lot" ["pins", "cords"]) (XE : ErrT P w K mg base cl ea) (h_d_is_pin : Fnc P w K mg base cl "is_pin" 2 2 d_is_pin []) (h_d_is_whole : Fnc P w K mg base cl "is_whole" 1 1 d_is_whole []) : FnOk P w K mg base (L2N.CX P w) 3 fa fd ["pins", "entry"] (spF K cl 2 d_is_entry) :=
  fn_F Fn sc_d_is_entry rfl rfl fun cdv A outer s H E hr => (fss_cons (fs_if (PW.pt (fw_or (ft_not (ft_val (fe_callB d_isiLT call_isiT (by rfl) T.n_isinstance (by decide +kernel) (fa_cons (fe_v 1) (fa_cons (fe_tup (fa_cons (fe_val (pe_bltn (v := .ty "list") (by rfl) T.n_list (by decide +kernel) rfl)) (fa_cons (fe_val (pe_bltn (v := .ty "tuple") (by rfl) T.n_tuple (by decide +kernel) rfl)) fa_nil))) fa_nil))))) (fw_or1 (ft_q (fqt_cmp q_neS op_ne (fq_callB1 q_len call_len (by rfl) T.n_len (by decide +kernel) (fq_v 1)) fq_int (nomark _)))))) (fss_one (fs_ret (fe_q fq_bl))) fss_nil) (fss_cons (fs_asg (fe_v 1) (fg_tup rfl (fgs_cons (fg_name (i := 2) sc_d_is_entry.nd rfl (by first | exact .inl rfl | exact .inr rfl)) (fgs_cons (fg_name (i := 3) sc_d_is_entry.nd rfl (by first | exact .inl rfl | exact .inr rfl)) (fgs_cons (fg_name (i := 4) sc_d_is_entry.nd rfl (by first | exact .inl rfl | exact .inr rfl)) fgs_nil))))) (fss_one (fs_ret (fe_and (fe_call h_d_is_pin (hr.mono (by decide)) (by rfl) tk_of (fa_cons (fe_v 0) (fa_cons (fe_v 2) fa_nil))) (fe_and (fe_call h_d_is_pin (hr.mono (by decide)) (by rfl) tk_of (fa_cons (fe_v 0) (fa_cons (fe_v 3) fa_nil))) (fe_and (fe_q (fq_cmp q_neS op_ne (fq_v 2) (fq_v 3) (nomark _))) (fe_and (fe_call h_d_is_whole (hr.mono (by decide)) (by rfl) tk_of (fa_cons (fe_v 4) fa_nil)) (fe_one (fe_q (fq_cmp q_ge op_ge (fq_v 4) fq_int (nomark _))))))))))))
theorem ok_d_combined {fa : Addr} {fd : FuncData} (Fn : Fun K "combined" "combined" s_d_combined fa fd) (T : Txt mg) (C0 : ClsT K mg cl 0 "Lot" ["pins", "cords"]) (XE : ErrT P w K mg base cl ea) : FnOk P w K mg base (L2N.CX P w) 1 fa fd ["triples"] (spF K cl 1 d_combined) :=
  fn_FB Fn sc_d_combined rfl rfl fun cdv A outer s H E hr => by
    have C0 := C0.at' none
    have XE := XE.at' none
    exact (fss_cons (fs_set (i := 1) sc_d_combined.nd rfl (by first | exact .inl rfl | exact .inr rfl) fe_dnew) (fss_cons (fs_fgt [2, 3, 4, 5] (fs_for pw_of rfl (fi_seq (fe_v 0)) (fg_tup rfl (fgs_cons (fg_name (i := 2) sc_d_combined.nd rfl (by first | exact .inl rfl | exact .inr rfl)) (fgs_cons (fg_name (i := 3) sc_d_combined.nd rfl (by first | exact .inl rfl | exact .inr rfl)) (fgs_cons (fg_name (i := 4) sc_d_combined.nd rfl (by first | exact .inl rfl | exact .inr rfl)) fgs_nil)))) (fss_fgt [2, 3, 4, 5] (fss_one (fs_fgt [5] (fs_if (ft_q (PW.pt (fqw_and (fqt_cmp q_neS op_ne (fq_v 2) (fq_v 3) (nomark _)) (fqw_and1 (fqt_cmp q_gt op_gt (fq_v 4) fq_int (nomark _)))))) (fss_cons (fs_set (i := 5) sc_d_combined.nd rfl (by first | exact .inl rfl | exact .inr rfl) (fe_tup (fa_cons (fe_q (fq_callB2 q_min (call_min2 rfl) (by rfl) T.n_min (by decide +kernel) (fq_v 2) (fq_v 3))) (fa_cons (fe_q (fq_callB2 q_max (call_max2 rfl) (by rfl) T.n_max (by decide +kernel) (fq_v 2) (fq_v 3))) fa_nil)))) (fss_one (fs_dput hr (pv 1) (fe_v 5) (fe_bor rfl [false, true, false, false, true, true] (fe_op d_addI op_add (fe_dget2 hr (pv 1) (fe_v 5) fq_int ⟨rfl, rfl, rfl, rfl⟩) (fe_v 4)))))) fss_nil)))))) (fss_one (fs_ret (fe_callTy d_tuple call_tuple_of (by rfl) T.n_tuple (by decide +kernel) (fa_cons (fe_lc (own := [("a", 2), ("b", 3)]) rfl sc_d_combined.nd (fi_seq (fe_callB d_so (cr_so rfl) (by rfl) T.n_sorted (by decide +kernel) (fa_cons (fe_v 1) fa_nil))) (blkOk_by (own := [("a", 2), ("b", 3)]) (N := N_d_combined) (sc := (defScope s_d_combined)) (by decide +kernel)) (fun _ _ _ _ _ => (fg_sub (vs := [2, 3]) (fg_tup rfl (fgs_cons (fg_name (i := 2) sc_d_combined.nd rfl (by first | exact .inl rfl | exact .inr rfl)) (fgs_cons (fg_name (i := 3) sc_d_combined.nd rfl (by first | exact .inl rfl | exact .inr rfl)) fgs_nil))) (by decide))) (fun _ _ _ _ _ => ft_nil) (fun _ _ _ _ _ => (fe_tup (fa_cons (fe_v 2) (fa_cons (fe_v 3) (fa_cons (fe_dget hr (pv 1) (fe_tup (fa_cons (fe_v 2) (fa_cons (fe_v 3) fa_nil))) (fun _ _ => rfl)) fa_nil)))))) fa_nil))))))
theorem ok_d_Lot___init__ {fa : Addr} {fd : FuncData} {dvs : List V} (Fn : FunD K "__init__" "Lot.__init__" (defArgs s_d_Lot___init__) (defBody s_d_Lot___init__) (defScope s_d_Lot___init__) dvs [] fa fd) (T : Txt mg) (C0 : ClsT K mg cl 0 "Lot" ["pins", "cords"]) (XE : ErrT P w K mg base cl ea) (h_d_is_whole : ∀ (cl : Tb), ClsT K mg cl 0 "Lot" ["pins", "cords"] → ErrT P w K mg base cl ea → Fnc P w K mg base cl "is_whole" 1 1 d_is_whole []) (h_d_is_entry : ∀ (cl : Tb), ClsT K mg cl 0 "Lot" ["pins", "cords"] → ErrT P w K mg base cl ea → Fnc P w K mg base cl "is_entry" 3 2 d_is_entry []) (h_d_combined : ∀ (cl : Tb), ClsT K mg cl 0 "Lot" ["pins", "cords"] → ErrT P w K mg base cl ea → Fnc P w K mg base cl "combined" 1 1 d_combined []) : FnOk P w K mg base (L2N.CX P w) 4 fa fd ["self", "pins", "cords"] (spI K cl 0 2 d_Lot___init__) :=
  fn_ID Fn sc_d_Lot___init__ rfl rfl fun sf cdv A outer s H E hr => by
    have C0 := C0.at' (some sf)
    have XE := XE.at' (some sf)
    have h_d_is_whole := h_d_is_whole (cl.at' (some sf)) C0 XE
    have h_d_is_entry := h_d_is_entry (cl.at' (some sf)) C0 XE
    have h_d_combined := h_d_combined (cl.at' (some sf)) C0 XE
    exact (fss_cons (fs_if (PW.pt (fw_or (ft_not (ft_val (fe_call h_d_is_whole (hr.mono (by decide)) (by rfl) tk_of (fa_cons (fe_v 1) fa_nil)))) (fw_or1 (ft_q (fqt_cmp q_lt op_lt (fq_v 1) fq_int (nomark _)))))) (fss_one fs_bad) fss_nil) (fss_cons (fs_fgt [3] (fs_for pw_of rfl (fi_seq (fe_v 2)) (fg_name (i := 3) sc_d_Lot___init__.nd rfl (by first | exact .inl rfl | exact .inr rfl)) (fss_fgt [3] (fss_one (fs_if (ft_not (ft_val (fe_call h_d_is_entry (hr.mono (by decide)) (by rfl) tk_of (fa_cons (fe_v 1) (fa_cons (fe_v 3) fa_nil))))) (fss_one fs_bad) fss_nil))))) (fss_cons (fs_fld (C0.fld (by rfl) (by decide +kernel)) (by rw [C0.fse]; decide) (pv 0) (fe_v 1)) (fss_one (fs_fld (C0.fld (by rfl) (by decide +kernel)) (by rw [C0.fse]; decide) (pv 0) (fe_call h_d_combined (hr.mono (by decide)) (by rfl) tk_of (fa_cons (fe_v 2) fa_nil)))))))
theorem ok_d_Lot___add__ {fa : Addr} {fd : FuncData} (Fn : Fun K "__add__" "Lot.__add__" s_d_Lot___add__ fa fd) (T : Txt mg) (C0 : ClsT K mg cl 0 "Lot" ["pins", "cords"]) (XE : ErrT P w K mg base cl ea) (M_d_Lot___init__ : MakC P w K mg base cl 0 "Lot" 4 2 d_Lot___init__ []) : FnOk P w K mg base (L2N.CX P w) 6 fa fd ["self", "other"] (spF K cl 2 d_Lot___add__) :=
  fn_F Fn sc_d_Lot___add__ rfl rfl fun cdv A outer s H E hr => (fss_cons (fs_if (ft_q (fqt_cmp q_neS op_ne (fq_fld 0 0 (C0.fld (by rfl) (by decide +kernel)) (fq_v 0) rfl) (fq_fld 0 0 (C0.fld (by rfl) (by decide +kernel)) (fq_v 1) rfl) (nomark _))) (fss_one fs_bad) fss_nil) (fss_one (fs_ret (fe_make M_d_Lot___init__ (hr.mono (by decide)) (by rfl) tk_of (fa_cons (fe_q (fq_fld 0 0 (C0.fld (by rfl) (by decide +kernel)) (fq_v 0) rfl)) (fa_cons (fe_op d_catT op_catA (fe_q (fq_fld 0 1 (C0.fld (by rfl) (by decide +kernel)) (fq_v 0) rfl)) (fe_q (fq_fld 0 1 (C0.fld (by rfl) (by decide +kernel)) (fq_v 1) rfl))) fa_nil))))))
theorem ok_d_Lot___sub__ {fa : Addr} {fd : FuncData} (Fn : Fun K "__sub__" "Lot.__sub__" s_d_Lot___sub__ fa fd) (T : Txt mg) (C0 : ClsT K mg cl 0 "Lot" ["pins", "cords"]) (XE : ErrT P w K mg base cl ea) (h_d_combined : ∀ (cl : Tb), ClsT K mg cl 0 "Lot" ["pins", "cords"] → ErrT P w K mg base cl ea → Fnc P w K mg base cl "combined" 1 1 d_combined []) (M_d_Lot___init__ : ∀ (cl : Tb), ClsT K mg cl 0 "Lot" ["pins", "cords"] → ErrT P w K mg base cl ea → MakC P w K mg base cl 0 "Lot" 4 2 d_Lot___init__ []) : FnOk P w K mg base (L2N.CX P w) 6 fa fd ["self", "other"] (spF K cl 2 d_Lot___sub__) :=
  fn_FB Fn sc_d_Lot___sub__ rfl rfl fun cdv A outer s H E hr => by
    have C0 := C0.at' none
    have XE := XE.at' none
    have h_d_combined := h_d_combined (cl.at' none) C0 XE
    have M_d_Lot___init__ := M_d_Lot___init__ (cl.at' none) C0 XE
    exact (fss_cons (fs_if (ft_q (fqt_cmp q_neS op_ne (fq_fld 0 0 (C0.fld (by rfl) (by decide +kernel)) (fq_v 0) rfl) (fq_fld 0 0 (C0.fld (by rfl) (by decide +kernel)) (fq_v 1) rfl) (nomark _))) (fss_one fs_bad) fss_nil) (fss_cons (fs_set (i := 5) sc_d_Lot___sub__.nd rfl (by first | exact .inl rfl | exact .inr rfl) (fe_dcT (own := [("a", 2), ("b", 3), ("n", 4)]) hr rfl sc_d_Lot___sub__.nd (fi_seq (fe_q (fq_fld 0 1 (C0.fld (by rfl) (by decide +kernel)) (fq_v 0) rfl))) (blkOk_by (own := [("a", 2), ("b", 3), ("n", 4)]) (N := N_d_Lot___sub__) (sc := (defScope s_d_Lot___sub__)) (by decide +kernel)) (fun _ _ _ _ _ => (fg_sub (vs := [2, 3, 4]) (fg_tup rfl (fgs_cons (fg_name (i := 2) sc_d_Lot___sub__.nd rfl (by first | exact .inl rfl | exact .inr rfl)) (fgs_cons (fg_name (i := 3) sc_d_Lot___sub__.nd rfl (by first | exact .inl rfl | exact .inr rfl)) (fgs_cons (fg_name (i := 4) sc_d_Lot___sub__.nd rfl (by first | exact .inl rfl | exact .inr rfl)) fgs_nil)))) (by decide))) (fun _ _ _ _ _ => ft_nil) (fun _ _ _ _ _ => (fe_tup (fa_cons (fe_v 2) (fa_cons (fe_v 3) fa_nil)))) (fun _ _ _ _ _ => (fe_v 4)))) (fss_cons (fs_fgt [2, 3, 4] (fs_for pw_of rfl (fi_seq (fe_q (fq_fld 0 1 (C0.fld (by rfl) (by decide +kernel)) (fq_v 1) rfl))) (fg_tup rfl (fgs_cons (fg_name (i := 2) sc_d_Lot___sub__.nd rfl (by first | exact .inl rfl | exact .inr rfl)) (fgs_cons (fg_name (i := 3) sc_d_Lot___sub__.nd rfl (by first | exact .inl rfl | exact .inr rfl)) (fgs_cons (fg_name (i := 4) sc_d_Lot___sub__.nd rfl (by first | exact .inl rfl | exact .inr rfl)) fgs_nil)))) (fss_fgt [2, 3, 4] (fss_cons (fs_if (ft_cmpR d_gt op_gt (fe_v 4) (fe_bor rfl [false, false, true, true, false, true] (fe_dget2 hr (pv 5) (fe_tup (fa_cons (fe_v 2) (fa_cons (fe_v 3) fa_nil))) fq_int ⟨rfl, rfl, rfl, rfl⟩)) (nomark _)) (fss_one fs_bad) fss_nil) (fss_one (fs_dput hr (pv 5) (fe_tup (fa_cons (fe_v 2) (fa_cons (fe_v 3) fa_nil))) (fe_bor rfl [false, false, true, true, true, true] (fe_op d_sub op_sub (fe_dget hr (pv 5) (fe_tup (fa_cons (fe_v 2) (fa_cons (fe_v 3) fa_nil))) (fun _ _ => rfl)) (fe_v 4))))))))) (fss_one (fs_ret (fe_make M_d_Lot___init__ (hr.mono (by decide)) (by rfl) tk_of (fa_cons (fe_q (fq_fld 0 0 (C0.fld (by rfl) (by decide +kernel)) (fq_v 0) rfl)) (fa_cons (fe_call h_d_combined (hr.mono (by decide)) (by rfl) tk_of (fa_cons (fe_itT (own := [("a", 2), ("b", 3)]) hr (by decide) (by decide) (by decide) rfl sc_d_Lot___sub__.nd rfl (blkOk_by (own := [("a", 2), ("b", 3)]) (N := N_d_Lot___sub__) (sc := (defScope s_d_Lot___sub__)) (by decide +kernel)) (pv 5) (fun _ _ _ _ _ => pg_name (i := 2) sc_d_Lot___sub__.nd rfl (by first | exact .inl rfl | exact .inr rfl)) (fun _ _ _ _ _ => pg_name (i := 3) sc_d_Lot___sub__.nd rfl (by first | exact .inl rfl | exact .inr rfl)) (fun _ _ _ _ _ => fun _ => pv 2) (fun _ _ _ _ _ => fun _ => pv 3) (fun _ _ _ _ _ => fun _ => pv 5)) fa_nil)) fa_nil))))))))
theorem ok_d_Lot___mul__ {fa : Addr} {fd : FuncData} (Fn : Fun K "__mul__" "Lot.__mul__" s_d_Lot___mul__ fa fd) (T : Txt mg) (C0 : ClsT K mg cl 0 "Lot" ["pins", "cords"]) (XE : ErrT P w K mg base cl ea) (h_d_is_whole : Fnc P w K mg base cl "is_whole" 1 1 d_is_whole []) (h_d_combined : Fnc P w K mg base cl "combined" 1 1 d_combined []) (M_d_Lot___init__ : MakC P w K mg base cl 0 "Lot" 4 2 d_Lot___init__ []) : FnOk P w K mg base (L2N.CX P w) 6 fa fd ["self", "number"] (spF K cl 2 d_Lot___mul__) :=
  fn_F Fn sc_d_Lot___mul__ rfl rfl fun cdv A outer s H E hr => (fss_cons (fs_if (PW.pt (fw_or (ft_not (ft_val (fe_call h_d_is_whole (hr.mono (by decide)) (by rfl) tk_of (fa_cons (fe_v 1) fa_nil)))) (fw_or1 (ft_q (fqt_cmp q_lt op_lt (fq_v 1) fq_int (nomark _)))))) (fss_one fs_bad) fss_nil) (fss_one (fs_ret (fe_make M_d_Lot___init__ (hr.mono (by decide)) (by rfl) tk_of (fa_cons (fe_q (fq_fld 0 0 (C0.fld (by rfl) (by decide +kernel)) (fq_v 0) rfl)) (fa_cons (fe_call h_d_combined (hr.mono (by decide)) (by rfl) tk_of (fa_cons (fe_lc (own := [("a", 2), ("b", 3), ("n", 4)]) rfl sc_d_Lot___mul__.nd (fi_seq (fe_q (fq_fld 0 1 (C0.fld (by rfl) (by decide +kernel)) (fq_v 0) rfl))) (blkOk_by (own := [("a", 2), ("b", 3), ("n", 4)]) (N := N_d_Lot___mul__) (sc := (defScope s_d_Lot___mul__)) (by decide +kernel)) (fun _ _ _ _ _ => (fg_sub (vs := [2, 3, 4]) (fg_tup rfl (fgs_cons (fg_name (i := 2) sc_d_Lot___mul__.nd rfl (by first | exact .inl rfl | exact .inr rfl)) (fgs_cons (fg_name (i := 3) sc_d_Lot___mul__.nd rfl (by first | exact .inl rfl | exact .inr rfl)) (fgs_cons (fg_name (i := 4) sc_d_Lot___mul__.nd rfl (by first | exact .inl rfl | exact .inr rfl)) fgs_nil)))) (by decide))) (fun _ _ _ _ _ => ft_nil) (fun _ _ _ _ _ => (fe_tup (fa_cons (fe_v 2) (fa_cons (fe_v 3) (fa_cons (fe_q (fq_op q_mul op_mul (fq_v 4) (fq_v 1))) fa_nil)))))) fa_nil)) fa_nil))))))
theorem ok_d_law {fa : Addr} {fd : FuncData} (Fn : Fun K "law" "law" s_d_law fa fd) (T : Txt mg) (C0 : ClsT K mg cl 0 "Lot" ["pins", "cords"]) (XE : ErrT P w K mg base cl ea) (h_d_law_pins : Fnc P w K mg base cl "_law_pins" 2 1 d_law_pins []) (h_d_law_cell : Fnc P w K mg base cl "_law_cell" 1 2 d_law_cell []) (h_d_law_lot : Fnc P w K mg base cl "_law_lot" 2 4 d_law_lot []) (h_d_law_digits : Fnc P w K mg base cl "_law_digits" 1 2 d_law_digits []) (h_d_law_table : Fnc P w K mg base cl "_law_table" 1 2 d_law_table []) (h_d_law_told : Fnc P w K mg base cl "_law_told" 8 2 d_law_told []) (h_d_table_of : Fnc P w K mg base cl "table_of" 3 1 d_table_of []) (h_d_law_mirror : Fnc P w K mg base cl "_law_mirror" 1 1 d_law_mirror []) (h_d_law_sum : Fnc P w K mg base cl "_law_sum" 1 2 d_law_sum []) (h_d_law_norm : Fnc P w K mg base cl "_law_norm" 1 1 d_law_norm []) (h_d_law_same : Fnc P w K mg base cl "_law_same" 7 2 d_law_same []) (h_d_law_times : Fnc P w K mg base cl "_law_times" 1 2 d_law_times []) (h_d_law_lot_is : Fnc P w K mg base cl "_law_lot_is" 8 3 d_law_lot_is []) (k_d_table_of_klot_0 : FncK P w K mg base cl "table_of" 3 1 d_table_of 0 ["lot"] [0] []) (M_d_Lot___init__ : MakC P w K mg base cl 0 "Lot" 4 2 d_Lot___init__ []) (P_d_Lot_table : PrpC P w K mg base cl 0 "table" 3 d_Lot_table) (MD_d_Lot___init__ : MakC P w K mg base cl 0 "Lot" 4 2 d_Lot___init__ [.tup []]) (O_d_Lot___add__ : OpC P w K mg base cl 0 "__add__" 2 6 d_Lot___add__) (O_d_Lot___sub__ : OpC P w K mg base cl 0 "__sub__" 2 6 d_Lot___sub__) (O_d_Lot___mul__ : OpC P w K mg base cl 0 "__mul__" 2 6 d_Lot___mul__) : FnOk P w K mg base (L2N.CX P w) 9 fa fd ["_law_script"] (spF K cl 1 d_law) :=
  fn_F Fn sc_d_law rfl rfl fun cdv A outer s H E hr => (fss_cons (fs_set (i := 1) sc_d_law.nd rfl (by first | exact .inl rfl | exact .inr rfl) (fe_call h_d_law_pins (hr.mono (by decide)) (by rfl) tk_of (fa_cons (fe_call h_d_law_cell (hr.mono (by decide)) (by rfl) tk_of (fa_cons (fe_v 0) (fa_cons (fe_q fq_int) fa_nil))) fa_nil))) (fss_cons (fs_set (i := 2) sc_d_law.nd rfl (by first | exact .inl rfl | exact .inr rfl) (fe_call h_d_law_lot (hr.mono (by decide)) (by rfl) tk_of (fa_cons (fe_v 0) (fa_cons (fe_q fq_int) (fa_cons (fe_ix (fe_call h_d_law_digits (hr.mono (by decide)) (by rfl) tk_of (fa_cons (fe_call h_d_law_cell (hr.mono (by decide)) (by rfl) tk_of (fa_cons (fe_v 0) (fa_cons (fe_q fq_int) fa_nil))) (fa_cons (fe_lst (fa_cons (fe_q fq_int) fa_nil)) fa_nil))) (fe_q fq_int) (fun _ _ => rfl)) (fa_cons (fe_v 1) fa_nil)))))) (fss_cons (fs_set (i := 3) sc_d_law.nd rfl (by first | exact .inl rfl | exact .inr rfl) (fe_call h_d_law_lot (hr.mono (by decide)) (by rfl) tk_of (fa_cons (fe_v 0) (fa_cons (fe_q fq_int) (fa_cons (fe_ix (fe_call h_d_law_digits (hr.mono (by decide)) (by rfl) tk_of (fa_cons (fe_call h_d_law_cell (hr.mono (by decide)) (by rfl) tk_of (fa_cons (fe_v 0) (fa_cons (fe_q fq_int) fa_nil))) (fa_cons (fe_lst (fa_cons (fe_q fq_int) fa_nil)) fa_nil))) (fe_q fq_int) (fun _ _ => rfl)) (fa_cons (fe_v 1) fa_nil)))))) (fss_cons (fs_set (i := 4) sc_d_law.nd rfl (by first | exact .inl rfl | exact .inr rfl) (fe_make M_d_Lot___init__ (hr.mono (by decide)) (by rfl) tk_of (fa_cons (fe_v 1) (fa_cons (fe_v 2) fa_nil)))) (fss_cons (fs_set (i := 5) sc_d_law.nd rfl (by first | exact .inl rfl | exact .inr rfl) (fe_make M_d_Lot___init__ (hr.mono (by decide)) (by rfl) tk_of (fa_cons (fe_v 1) (fa_cons (fe_v 3) fa_nil)))) (fss_cons (fs_set (i := 6) sc_d_law.nd rfl (by first | exact .inl rfl | exact .inr rfl) (fe_call h_d_law_table (hr.mono (by decide)) (by rfl) tk_of (fa_cons (fe_v 1) (fa_cons (fe_v 2) fa_nil)))) (fss_cons (fs_set (i := 7) sc_d_law.nd rfl (by first | exact .inl rfl | exact .inr rfl) (fe_call h_d_law_table (hr.mono (by decide)) (by rfl) tk_of (fa_cons (fe_v 1) (fa_cons (fe_v 3) fa_nil)))) (fss_cons (fs_if (PW.pt (fw_or (ft_not (ft_val (fe_call h_d_law_told (hr.mono (by decide)) (by rfl) tk_of (fa_cons (fe_v 4) (fa_cons (fe_v 6) fa_nil))))) (fw_or1 (ft_not (ft_val (fe_call h_d_law_told (hr.mono (by decide)) (by rfl) tk_of (fa_cons (fe_v 5) (fa_cons (fe_v 7) fa_nil)))))))) (fss_one (fs_ret (fe_q fq_bl))) fss_nil) (fss_cons (fs_set (i := 8) sc_d_law.nd rfl (by first | exact .inl rfl | exact .inr rfl) (fe_call h_d_table_of (hr.mono (by decide)) (by rfl) tk_of (fa_cons (fe_v 4) fa_nil))) (fss_cons (fs_if (PW.pt (fw_or (ft_cmpR d_dNe (o_dNe hr) (fe_v 8) (fe_call h_d_law_mirror (hr.mono (by decide)) (by rfl) tk_of (fa_cons (fe_v 8) fa_nil)) (nomark _)) (fw_or1 (ft_cmpRQ q_neS op_ne (fe_callB d_sum (cr_sum rfl) (by rfl) T.n_sum (by decide +kernel) (fa_cons (fe_lc (own := [("_law_i", 14)]) rfl sc_d_law.nd (fi_range1 (by rfl) T.n_range (fa_cons (fe_q (fq_callB1 q_len call_len (by rfl) T.n_len (by decide +kernel) (fq_v 6))) fa_nil)) (blkOk_by (own := [("_law_i", 14)]) (N := N_d_law) (sc := (defScope s_d_law)) (by decide +kernel)) (fun _ _ _ _ _ => (fg_name (i := 14) sc_d_law.nd rfl (by first | exact .inl rfl | exact .inr rfl))) (fun _ _ _ _ _ => ft_nil) (fun _ _ _ _ _ => (fe_q (fq_ix (fq_ix (fq_v 8) (fq_v 14) (fun _ _ => rfl)) (fq_v 14) (fun _ _ => rfl))))) fa_nil)) fq_int (nomark _))))) (fss_one (fs_ret (fe_q fq_bl))) fss_nil) (fss_cons (fs_set (i := 9) sc_d_law.nd rfl (by first | exact .inl rfl | exact .inr rfl) (fe_own O_d_Lot___add__ rfl C0.fst (hr.mono (by decide)) tk_of (fe_v 4) (fe_v 5))) (fss_cons (fs_if (ft_not (ft_val (fe_call h_d_law_told (hr.mono (by decide)) (by rfl) tk_of (fa_cons (fe_v 9) (fa_cons (fe_call h_d_law_sum (hr.mono (by decide)) (by rfl) tk_of (fa_cons (fe_v 6) (fa_cons (fe_v 7) fa_nil))) fa_nil))))) (fss_one (fs_ret (fe_q fq_bl))) fss_nil) (fss_cons (fs_if (PW.pt (fw_or (ft_not (ft_val (fe_call h_d_law_told (hr.mono (by decide)) (by rfl) tk_of (fa_cons (fe_v 9) (fa_cons (fe_call h_d_law_table (hr.mono (by decide)) (by rfl) tk_of (fa_cons (fe_v 1) (fa_cons (fe_call h_d_law_norm (hr.mono (by decide)) (by rfl) tk_of (fa_cons (fe_op d_catT op_catA (fe_v 2) (fe_v 3)) fa_nil)) fa_nil))) fa_nil))))) (fw_or1 (ft_not (ft_val (fe_call h_d_law_told (hr.mono (by decide)) (by rfl) tk_of (fa_cons (fe_own O_d_Lot___sub__ rfl C0.fst (hr.mono (by decide)) tk_of (fe_v 9) (fe_v 5)) (fa_cons (fe_v 6) fa_nil)))))))) (fss_one (fs_ret (fe_q fq_bl))) fss_nil) (fss_cons (fs_set (i := 10) sc_d_law.nd rfl (by first | exact .inl rfl | exact .inr rfl) (fe_call h_d_law_digits (hr.mono (by decide)) (by rfl) tk_of (fa_cons (fe_call h_d_law_cell (hr.mono (by decide)) (by rfl) tk_of (fa_cons (fe_v 0) (fa_cons (fe_q fq_int) fa_nil))) (fa_cons (fe_lst (fa_cons (fe_q fq_int) (fa_cons (fe_q fq_int) fa_nil))) fa_nil)))) (fss_cons (fs_set (i := 11) sc_d_law.nd rfl (by first | exact .inl rfl | exact .inr rfl) (fe_q (fq_ix (fq_v 10) fq_int (fun _ _ => rfl)))) (fss_cons (fs_fgt [15] (fs_if (ft_q (fqt_cmp q_lt op_lt (fq_ix (fq_v 10) fq_int (fun _ _ => rfl)) fq_int (nomark _))) (fss_one (fs_set (i := 11) sc_d_law.nd rfl (by first | exact .inl rfl | exact .inr rfl) (fe_ix (fe_lst (fa_cons (fe_q fq_int) (fa_cons (fe_q fq_int) (fa_cons (fe_q fq_int) (fa_cons (fe_op d_mod op_mod (fe_q (fq_callTy1 q_int call_int1 (by rfl) T.n_int (by decide +kernel) (fq_v 11))) (fe_op d_addI op_add (fe_op d_div op_fdiv (fe_q (fq_pow ⟨by decide, by decide, by decide⟩ (by decide +kernel))) (fe_callB d_maxLs (cr_max rfl) (by rfl) T.n_max (by decide +kernel) (fa_cons (fe_op d_catV op_cat (fe_lc (own := [("_law_entry", 15)]) rfl sc_d_law.nd (fi_seq (fe_v 2)) (blkOk_by (own := [("_law_entry", 15)]) (N := N_d_law) (sc := (defScope s_d_law)) (by decide +kernel)) (fun _ _ _ _ _ => (fg_name (i := 15) sc_d_law.nd rfl (by first | exact .inl rfl | exact .inr rfl))) (fun _ _ _ _ _ => ft_nil) (fun _ _ _ _ _ => (fe_q (fq_ix (fq_v 15) fq_int (fun _ _ => rfl))))) (fe_lst (fa_cons (fe_q fq_int) fa_nil))) fa_nil))) (fe_q fq_int))) fa_nil))))) (fe_q (fq_ix (fq_v 10) fq_int (fun _ _ => rfl))) (fun _ _ => rfl)))) fss_nil)) (fss_cons (fs_set (i := 12) sc_d_law.nd rfl (by first | exact .inl rfl | exact .inr rfl) (fe_ownI O_d_Lot___mul__ rfl C0.fst XE.mul0 (hr.mono (by decide)) tk_of (fe_v 4) (fe_v 11))) (fss_cons (fs_if (ft_not (ft_val (fe_call h_d_law_same (hr.mono (by decide)) (by rfl) tk_of (fa_cons (fe_prop P_d_Lot_table (hr.mono (by decide)) (fq_v 12)) (fa_cons (fe_call h_d_law_times (hr.mono (by decide)) (by rfl) tk_of (fa_cons (fe_v 6) (fa_cons (fe_v 11) fa_nil))) fa_nil))))) (fss_one (fs_ret (fe_q fq_bl))) fss_nil) (fss_cons (fs_if (PW.pt (fw_and (ft_q (fqt_cmp q_lt op_lt (fq_ix (fq_v 10) fq_int (fun _ _ => rfl)) fq_int (nomark _))) (fw_and1 (ft_not (ft_val (fe_call h_d_law_same (hr.mono (by decide)) (by rfl) tk_of (fa_cons (fe_call h_d_table_of (hr.mono (by decide)) (by rfl) tk_of (fa_cons (fe_v 12) fa_nil)) (fa_cons (fe_call h_d_law_times (hr.mono (by decide)) (by rfl) tk_of (fa_cons (fe_v 6) (fa_cons (fe_v 11) fa_nil))) fa_nil)))))))) (fss_one (fs_ret (fe_q fq_bl))) fss_nil) (fss_cons (fs_fgt [13] (fs_if (ft_q (fqt_cmp q_lt op_lt (fq_v 1) fq_int (nomark _))) (fss_cons (fs_set (i := 13) sc_d_law.nd rfl (by first | exact .inl rfl | exact .inr rfl) (fe_op d_addI op_add (fe_q (fq_op q_addI op_add (fq_v 1) fq_int)) (fe_op d_mod op_mod (fe_callTy d_int call_int1 (by rfl) T.n_int (by decide +kernel) (fa_cons (fe_call h_d_law_cell (hr.mono (by decide)) (by rfl) tk_of (fa_cons (fe_v 0) (fa_cons (fe_q fq_int) fa_nil))) fa_nil)) (fe_q (fq_op q_sub op_sub fq_int (fq_v 1)))))) (fss_one (fs_if (ft_not (ft_val (fe_call h_d_law_told (hr.mono (by decide)) (by rfl) tk_of (fa_cons (fe_make M_d_Lot___init__ (hr.mono (by decide)) (by rfl) tk_of (fa_cons (fe_v 13) (fa_cons (fe_v 2) fa_nil))) (fa_cons (fe_call h_d_law_table (hr.mono (by decide)) (by rfl) tk_of (fa_cons (fe_v 13) (fa_cons (fe_v 2) fa_nil))) fa_nil))))) (fss_one (fs_ret (fe_q fq_bl))) fss_nil))) fss_nil)) (fss_cons (fs_if (ft_not (ft_val (fe_call h_d_law_told (hr.mono (by decide)) (by rfl) tk_of (fa_cons (fe_make MD_d_Lot___init__ (hr.mono (by decide)) (by rfl) tk_of (fa_cons (fe_v 1) fa_nil)) (fa_cons (fe_call h_d_law_times (hr.mono (by decide)) (by rfl) tk_of (fa_cons (fe_v 6) (fa_cons (fe_q fq_int) fa_nil))) fa_nil))))) (fss_one (fs_ret (fe_q fq_bl))) fss_nil) (fss_cons (fs_if (PW.pt (fw_or (ft_not (ft_val (fe_call h_d_law_lot_is (hr.mono (by decide)) (by rfl) tk_of (fa_cons (fe_v 4) (fa_cons (fe_v 1) (fa_cons (fe_v 2) fa_nil)))))) (fw_or (ft_not (ft_val (fe_call h_d_law_told (hr.mono (by decide)) (by rfl) tk_of (fa_cons (fe_v 5) (fa_cons (fe_v 7) fa_nil))))) (fw_or1 (ft_not (ft_val (fe_call h_d_law_told (hr.mono (by decide)) (by rfl) tk_of (fa_cons (fe_v 4) (fa_cons (fe_v 6) fa_nil))))))))) (fss_one (fs_ret (fe_q fq_bl))) fss_nil) (fss_one (fs_ret (fe_call h_d_law_same (hr.mono (by decide)) (by rfl) tk_of (fa_cons (fe_callK0 k_d_table_of_klot_0 (hr.mono (by decide)) (by rfl) tk_of (fk_cons (fe_v 4) fk_nil)) (fa_cons (fe_v 6) fa_nil)))))))))))))))))))))))))))
end
end Prg

set_option Elab.async false
set_option linter.all false
set_option maxRecDepth 100000
namespace FL
open PySem
open L2 (Key)
/-! ### entries of cords, in plain Lean -/
abbrev T3 := Int × Int × Int
def tD (t : T3) : D := .tup [.int t.1, .int t.2.1, .int t.2.2]
def kk (p : Int × Int) : List Key := [Sum.inl p.1, Sum.inl p.2]
theorem kk_inj {p q : Int × Int} : kk p = kk q ↔ p = q := by
  constructor
  · intro h
    unfold kk at h
    injection h with h1 h2
    injection h2 with h3 h4
    exact Prod.ext (Sum.inl.inj h1) (Sum.inl.inj h3)
  · intro h; rw [h]
def good (t : T3) : Bool := !decide (t.1 = t.2.1) && decide (0 < t.2.2)
def prT (t : T3) : Int × Int := (min t.1 t.2.1, max t.1 t.2.1)
def wt (t : T3) (p : Int × Int) : Int := if good t = true ∧ prT t = p then t.2.2 else 0
def tot (ts : List T3) (p : Int × Int) : Int := (ts.map fun t => wt t p).sum
def addK (ks : List (Int × Int)) (p : Int × Int) : List (Int × Int) := if p ∈ ks then ks else ks ++ [p]
def met (ts : List T3) : List (Int × Int) := ts.foldl (fun ks t => if good t then addK ks (prT t) else ks) []
def comb (ts : List T3) : List T3 := (sortP (met ts)).map fun p => (p.1, p.2, tot ts p)
theorem met_snoc (ts : List T3) (t : T3) : met (ts ++ [t]) = if good t then addK (met ts) (prT t) else met ts := by
  unfold met
  rw [List.foldl_append]
  rfl
theorem tot_snoc (ts : List T3) (t : T3) (p : Int × Int) : tot (ts ++ [t]) p = tot ts p + wt t p := by
  unfold tot
  rw [List.map_append, List.sum_append]
  simp
theorem mem_addK {ks : List (Int × Int)} {p q : Int × Int} : q ∈ addK ks p ↔ q ∈ ks ∨ q = p := by
  unfold addK
  split
  · constructor
    · exact .inl
    · rintro (h | h)
      · exact h
      · rw [h]; assumption
  · simp
theorem nd_addK {ks : List (Int × Int)} {p : Int × Int} (h : ks.Nodup) : (addK ks p).Nodup := by
  unfold addK
  split
  · exact h
  · rename_i hp
    rw [List.nodup_append]
    exact ⟨h, by simp, fun a ha b hb => by
      simp at hb
      subst hb
      exact fun e => hp (e ▸ ha)⟩
/-- by the last entry -/
theorem snoc_ind {α : Type} {P : List α → Prop} (h0 : P []) (hs : ∀ l a, P l → P (l ++ [a])) (l : List α) : P l := by
  rw [← List.reverse_reverse l]
  induction l.reverse with
  | nil => exact h0
  | cons a r ih => rw [List.reverse_cons]; exact hs _ _ ih
theorem mem_met (ts : List T3) : ∀ p, p ∈ met ts ↔ ∃ t ∈ ts, good t = true ∧ prT t = p := by
  refine snoc_ind (P := fun ts => ∀ p, p ∈ met ts ↔ ∃ t ∈ ts, good t = true ∧ prT t = p) (fun p => by simp [met]) (fun l a ih p => ?_) ts
  rw [met_snoc]
  by_cases h : good a = true
  · rw [if_pos h, mem_addK, ih p]
    constructor
    · rintro (⟨t, h1, h2⟩ | h1)
      · exact ⟨t, List.mem_append_left _ h1, h2⟩
      · exact ⟨a, by simp, h, h1.symm⟩
    · rintro ⟨t, h1, h2, h3⟩
      rw [List.mem_append] at h1
      rcases h1 with h1 | h1
      · exact .inl ⟨t, h1, h2, h3⟩
      · simp at h1
        subst h1
        exact .inr h3.symm
  · rw [if_neg h, ih p]
    constructor
    · rintro ⟨t, h1, h2⟩
      exact ⟨t, List.mem_append_left _ h1, h2⟩
    · rintro ⟨t, h1, h2, h3⟩
      rw [List.mem_append] at h1
      rcases h1 with h1 | h1
      · exact ⟨t, h1, h2, h3⟩
      · simp at h1
        subst h1
        exact absurd h2 h
theorem nd_met (ts : List T3) : (met ts).Nodup := by
  refine snoc_ind (P := fun ts => (met ts).Nodup) (by simp [met]) (fun l a ih => ?_) ts
  rw [met_snoc]
  split
  · exact nd_addK ih
  · exact ih
theorem len_met (ts : List T3) : (met ts).length ≤ ts.length := by
  refine snoc_ind (P := fun ts => (met ts).length ≤ ts.length) (by simp [met]) (fun l a ih => ?_) ts
  rw [met_snoc, List.length_append, List.length_singleton]
  split
  · unfold addK
    split
    · omega
    · rw [List.length_append, List.length_singleton]; omega
  · omega
theorem sum_zeros {α : Type} : ∀ ts : List α, (ts.map fun _ => (0 : Int)).sum = 0
  | [] => rfl
  | t :: ts => by rw [List.map_cons, List.sum_cons, sum_zeros ts]; rfl
theorem tot_zero {ts : List T3} {p : Int × Int} (h : p ∉ met ts) : tot ts p = 0 := by
  unfold tot
  have : (ts.map fun t => wt t p) = ts.map fun _ => 0 := List.map_congr_left fun t ht => by
    unfold wt
    rw [if_neg]
    intro z
    exact h ((mem_met ts p).mpr ⟨t, ht, z⟩)
  rw [this]
  exact sum_zeros ts
/-! the dict, as pairs -/
def vI (f : Int × Int → Int) (p : Int × Int) : D := .int (f p)
theorem getT_map (f : Int × Int → Int) (p : Int × Int) : ∀ ks : List (Int × Int), getT (ks.map kk) (ks.map (vI f)) (kk p) = if p ∈ ks then some (.int (f p)) else none
  | [] => rfl
  | q :: ks => by
    rw [List.map_cons, List.map_cons]
    unfold getT
    by_cases h : q = p
    · subst h
      simp [vI]
    · rw [if_neg (fun z => h (kk_inj.mp z)), getT_map f p ks]
      have : (p ∈ q :: ks) ↔ p ∈ ks := by simp [Ne.symm h]
      simp only [this]
theorem hasT_map (p : Int × Int) : ∀ ks : List (Int × Int), hasT (ks.map kk) (kk p) = decide (p ∈ ks)
  | [] => rfl
  | q :: ks => by
    have ih := hasT_map p ks
    unfold hasT at ih ⊢
    rw [List.map_cons, List.any_cons, ih]
    by_cases h : q = p
    · rw [decide_eq_true (show kk q = kk p by rw [h]), decide_eq_true (show p ∈ q :: ks by rw [h]; exact List.mem_cons_self)]; rfl
    · rw [decide_eq_false (fun z => h (kk_inj.mp z)), Bool.false_or]
      have e : (p ∈ q :: ks) ↔ p ∈ ks := by simp [Ne.symm h]
      by_cases h2 : p ∈ ks
      · rw [decide_eq_true h2, decide_eq_true (e.mpr h2)]
      · rw [decide_eq_false h2, decide_eq_false (fun z => h2 (e.mp z))]
theorem putTk_map (p : Int × Int) (ks : List (Int × Int)) : putTk (ks.map kk) (kk p) = (addK ks p).map kk := by
  unfold putTk addK
  rw [hasT_map]
  by_cases h : p ∈ ks <;> simp [h]
theorem putTz_map (f : Int × Int → Int) (p : Int × Int) (v : Int) : ∀ ks : List (Int × Int), putTz (ks.map kk) (ks.map (vI f)) (kk p) (.int v) = ks.map (vI fun q => if q = p then v else f q)
  | [] => rfl
  | q :: ks => by
    rw [List.map_cons, List.map_cons, List.map_cons]
    unfold putTz
    rw [putTz_map f p v ks]
    congr 1
    show _ = D.int (if q = p then v else f q)
    by_cases h : q = p
    · rw [if_pos (by rw [h]), if_pos h]
    · rw [if_neg (fun z => h (kk_inj.mp z)), if_neg h]; rfl
theorem putTd_map (f : Int × Int → Int) (p : Int × Int) (v : Int) (ks : List (Int × Int)) : putTd (ks.map kk) (ks.map (vI f)) (kk p) (.int v) = (addK ks p).map (vI fun q => if q = p then v else f q) := by
  unfold putTd addK
  rw [hasT_map]
  by_cases h : p ∈ ks
  · simp only [h, decide_true, if_true]
    exact putTz_map f p v ks
  · have e : ks.map (vI f) = ks.map (vI fun q => if q = p then v else f q) := List.map_congr_left fun q hq => by
      show D.int (f q) = D.int (if q = p then v else f q)
      rw [if_neg (show ¬ q = p from fun e => h (e ▸ hq))]
    simp only [h, decide_false, Bool.false_eq_true, if_false]
    rw [List.map_append, e]
    simp [vI]
theorem keyT_pair (i j : Int) : keyT (.tup [.int i, .int j]) = some (kk (i, j)) := rfl
theorem keyPairs_kk : ∀ ps : List (Int × Int), keyPairs (ps.map kk) = some ps := keyPairs_map
theorem soL_vT (ps : List (Int × Int)) (ds : List D) : soL [.vT (ps.map kk) ds] = some (.vec ((sortP ps).map mkP)) := by
  show (keyPairs (ps.map kk)).map _ = _
  rw [keyPairs_kk]; rfl
theorem soL_dT (ps : List (Int × Int)) (ds : List D) : soL [.dT (ps.map kk) ds] = some (.vec ((sortP ps).map mkP)) := by
  show (keyPairs (ps.map kk)).map _ = _
  rw [keyPairs_kk]; rfl
theorem soL_lst (ps : List (Int × Int)) : soL [.lst (ps.map mkP)] = some (.vec ((sortP ps).map mkP)) := by
  show (pairsD (ps.map mkP)).map _ = _
  rw [pairsD_map]; rfl
theorem sumL_vec (ns : List Int) : sumL [.vec (ns.map D.int)] = some (.int ns.sum) := by
  show (intsD (ns.map D.int)).map _ = _
  rw [intsD_map]; rfl
theorem sq_tup (ds : List D) : sq (.tup ds) = some ds := rfl
theorem sq_lst (ds : List D) : sq (.lst ds) = some ds := rfl
theorem sq_vec (ds : List D) : sq (.vec ds) = some ds := rfl
theorem tD_pure (t : T3) : (tD t).pure = true := rfl
theorem mkP_pure (t : Int × Int) : (mkP t).pure = true := rfl
theorem vI_pure (f : Int × Int → Int) (t : Int × Int) : (vI f t).pure = true := rfl
theorem frzs_vI (f : Int × Int → Int) (l : List (Int × Int)) : D.frzs (l.map (vI f)) = l.map (vI f) := D.frzs_map (vI_pure f) l
theorem frzs_tD (l : List T3) : D.frzs (l.map tD) = l.map tD := D.frzs_map tD_pure l
theorem pures_tD (l : List T3) : D.pures (l.map tD) = true := D.pures_map tD_pure l
theorem frzs_mkP (l : List (Int × Int)) : D.frzs (l.map mkP) = l.map mkP := D.frzs_map mkP_pure l
theorem pures_mkP (l : List (Int × Int)) : D.pures (l.map mkP) = true := D.pures_map mkP_pure l
theorem len_sortP (ps : List (Int × Int)) : (sortP ps).length = ps.length := (sortP_perm ps).length_eq
theorem len_comb (ts : List T3) : (comb ts).length ≤ ts.length := by
  unfold comb
  rw [List.length_map, len_sortP]
  exact len_met ts
theorem isObj_0 (ds : List D) : isObj' 0 (.obj 0 ds) = true := rfl
theorem pure_obj (c : Nat) (ds : List D) : (D.obj c ds).pure = D.pures ds := by rw [D.pure]
/-- a lot -/
def lotD (p : Int) (cs : List T3) : D := .obj 0 [.int p, .tup (cs.map tD)]
theorem lot_pure (p : Int) (cs : List T3) : (lotD p cs).pure = true := by
  unfold lotD
  rw [D.pure, D.pures, D.pures, D.pures, D.pure, D.pure, pures_tD]
  rfl
theorem lot_frz (p : Int) (cs : List T3) : (lotD p cs).frz = lotD p cs := D.frz_of_pure (lot_pure p cs)
theorem lot_isO (p : Int) (cs : List T3) : isObj' 0 (lotD p cs) = true := rfl
end FL

set_option Elab.async false
set_option linter.all false
set_option maxRecDepth 100000
namespace FL
open PySem
def sm {α : Type} (l : List α) (f : α → Int) : Int := (l.map f).sum
theorem sm_nil {α : Type} (f : α → Int) : sm [] f = 0 := rfl
theorem sm_cons {α : Type} (x : α) (l : List α) (f : α → Int) : sm (x :: l) f = f x + sm l f := by unfold sm; rw [List.map_cons, List.sum_cons]
theorem sm_append {α : Type} (l m : List α) (f : α → Int) : sm (l ++ m) f = sm l f + sm m f := by unfold sm; rw [List.map_append, List.sum_append]
theorem sm_congr {α : Type} {l : List α} {f g : α → Int} (h : ∀ x ∈ l, f x = g x) : sm l f = sm l g := by unfold sm; rw [List.map_congr_left h]
theorem sm_map {α β : Type} (l : List α) (g : α → β) (f : β → Int) : sm (l.map g) f = sm l fun x => f (g x) := by unfold sm; rw [List.map_map]; rfl
theorem sm_perm {α : Type} {l m : List α} (h : l.Perm m) (f : α → Int) : sm l f = sm m f := by
  unfold sm
  induction h with
  | nil => rfl
  | cons x _ ih => rw [List.map_cons, List.map_cons, List.sum_cons, List.sum_cons, ih]
  | swap x y l => simp only [List.map_cons, List.sum_cons]; omega
  | trans _ _ h1 h2 => rw [h1, h2]
theorem sm_add {α : Type} (f g : α → Int) : ∀ l : List α, sm l (fun x => f x + g x) = sm l f + sm l g
  | [] => rfl
  | x :: l => by rw [sm_cons, sm_cons, sm_cons, sm_add f g l]; omega
theorem sm_zero {α : Type} : ∀ l : List α, sm l (fun _ => 0) = 0
  | [] => rfl
  | x :: l => by rw [sm_cons, sm_zero l]; rfl
theorem sm_filter {α : Type} (p : α → Bool) (f : α → Int) : ∀ l : List α, sm (l.filter p) f = sm l fun x => if p x then f x else 0
  | [] => rfl
  | x :: l => by
    rw [sm_cons, List.filter_cons]
    by_cases h : p x = true
    · rw [if_pos h, if_pos h, sm_cons, sm_filter p f l]
    · rw [if_neg h, if_neg h, sm_filter p f l]; omega
theorem sm_nonneg {α : Type} {f : α → Int} : ∀ {l : List α}, (∀ x ∈ l, 0 ≤ f x) → 0 ≤ sm l f
  | [], _ => by rw [sm_nil]; omega
  | x :: l, h => by
    rw [sm_cons]
    have h1 := h x List.mem_cons_self
    have h2 := sm_nonneg (l := l) fun y hy => h y (List.mem_cons_of_mem _ hy)
    omega
theorem sm_ge {α : Type} {f : α → Int} : ∀ {l : List α}, (∀ x ∈ l, 0 ≤ f x) → ∀ x ∈ l, f x ≤ sm l f
  | [], _, x, h => by cases h
  | y :: l, h, x, hx => by
    rw [sm_cons]
    have h1 := h y List.mem_cons_self
    have h2 := sm_nonneg (l := l) fun z hz => h z (List.mem_cons_of_mem _ hz)
    rcases List.mem_cons.mp hx with e | hx
    · rw [e]; omega
    · have := sm_ge (l := l) (fun z hz => h z (List.mem_cons_of_mem _ hz)) x hx
      omega
/-- at one place alone -/
theorem sm_one {α : Type} [DecidableEq α] (p : α) (c : Int) : ∀ {l : List α}, l.Nodup → sm l (fun q => if q = p then c else 0) = if p ∈ l then c else 0
  | [], _ => by simp [sm_nil]
  | x :: l, h => by
    rw [List.nodup_cons] at h
    rw [sm_cons, sm_one p c h.2]
    by_cases e : x = p
    · subst e
      rw [if_pos rfl, if_neg h.1, if_pos List.mem_cons_self]; omega
    · rw [if_neg e]
      have e2 : (p ∈ x :: l) ↔ p ∈ l := by simp [Ne.symm e]
      simp only [e2]
      omega
/-! ### what is linear in the cords -/
def lin (ts : List T3) (φ : Int × Int → Int) : Int := sm ts fun t => if good t = true then t.2.2 * φ (prT t) else 0
theorem tot_lin (ts : List T3) (q : Int × Int) : tot ts q = lin ts fun p => if p = q then 1 else 0 := by
  unfold tot lin
  refine sm_congr (f := fun t => wt t q) fun t _ => ?_
  unfold wt
  by_cases h : good t = true
  · by_cases h2 : prT t = q
    · simp [h, h2]
    · simp [h, h2]
  · simp [h]
theorem met_lin (φ : Int × Int → Int) (ts : List T3) : sm (met ts) (fun p => tot ts p * φ p) = lin ts φ := by
  refine snoc_ind (P := fun ts => sm (met ts) (fun p => tot ts p * φ p) = lin ts φ) rfl (fun l a ih => ?_) ts
  have el : lin (l ++ [a]) φ = lin l φ + if good a = true then a.2.2 * φ (prT a) else 0 := by
    unfold lin
    rw [sm_append, sm_cons, sm_nil, Int.add_zero]
  rw [el, ← ih, met_snoc]
  have e1 : ∀ ks : List (Int × Int), sm ks (fun p => tot (l ++ [a]) p * φ p) = sm ks (fun p => tot l p * φ p) + sm ks (fun p => wt a p * φ p) := fun ks => by
    rw [← sm_add]
    exact sm_congr fun p _ => by rw [tot_snoc, Int.add_mul]
  by_cases h : good a = true
  · rw [if_pos h, if_pos h, e1]
    have e2 : sm (addK (met l) (prT a)) (fun p => tot l p * φ p) = sm (met l) (fun p => tot l p * φ p) := by
      unfold addK
      split
      · rfl
      · rename_i hp
        rw [sm_append, sm_cons, sm_nil, tot_zero hp]; omega
    have e3 : sm (addK (met l) (prT a)) (fun p => wt a p * φ p) = a.2.2 * φ (prT a) := by
      have : sm (addK (met l) (prT a)) (fun p => wt a p * φ p) = sm (addK (met l) (prT a)) (fun p => if p = prT a then a.2.2 * φ (prT a) else 0) := sm_congr fun p _ => by
        unfold wt
        by_cases e : p = prT a
        · subst e; rw [if_pos ⟨h, rfl⟩, if_pos rfl]
        · rw [if_neg (fun z => e z.2.symm), if_neg e, Int.zero_mul]
      rw [this, sm_one _ _ (nd_addK (nd_met l)), if_pos (mem_addK.mpr (.inr rfl))]
    rw [e2, e3]
  · rw [if_neg h, if_neg h, e1]
    have : sm (met l) (fun p => wt a p * φ p) = 0 := by
      rw [← sm_zero (met l)]
      exact sm_congr fun p _ => by unfold wt; rw [if_neg (fun z => h z.1), Int.zero_mul]
    rw [this]
theorem wt_nonneg (t : T3) (p : Int × Int) : 0 ≤ wt t p := by
  unfold wt
  split
  · rename_i h
    have := h.1
    unfold good at this
    rw [Bool.and_eq_true, decide_eq_true_eq] at this
    omega
  · omega
theorem met_pos {ts : List T3} {p : Int × Int} : p ∈ met ts ↔ 0 < tot ts p := by
  constructor
  · intro h
    obtain ⟨t, ht, hg, hp⟩ := (mem_met ts p).mp h
    have h1 : wt t p ≤ tot ts p := sm_ge (f := fun t => wt t p) (fun x _ => wt_nonneg x p) t ht
    have h2 : wt t p = t.2.2 := by unfold wt; rw [if_pos ⟨hg, hp⟩]
    have h3 : 0 < t.2.2 := by unfold good at hg; rw [Bool.and_eq_true, decide_eq_true_eq] at hg; exact hg.2
    omega
  · intro h
    by_cases hm : p ∈ met ts
    · exact hm
    · rw [tot_zero hm] at h; omega
/-- a normal form is told by its totals -/
theorem comb_ext {ts us : List T3} (h : ∀ p, tot ts p = tot us p) : comb ts = comb us := by
  have pm : (met ts).Perm (met us) := (List.perm_ext_iff_of_nodup (nd_met ts) (nd_met us)).mpr fun p => by rw [met_pos, met_pos, h]
  have e : sortP (met ts) = sortP (met us) := sort_uniq ((sortP_perm _).trans (pm.trans (sortP_perm _).symm)) (sortP_pw _) (sortP_pw _)
  unfold comb
  rw [e]
  exact List.map_congr_left fun p _ => by rw [h]
/-- the entries of a normal form -/
theorem comb_good {ts : List T3} {t : T3} (h : t ∈ comb ts) : t.1 < t.2.1 ∧ 0 < t.2.2 ∧ (t.1, t.2.1) ∈ met ts := by
  unfold comb at h
  obtain ⟨p, hp, rfl⟩ := List.mem_map.mp h
  have hm : p ∈ met ts := (sortP_perm _).mem_iff.mp hp
  obtain ⟨u, hu, hg, e⟩ := (mem_met ts p).mp hm
  refine ⟨?_, met_pos.mp hm, hm⟩
  have : u.1 ≠ u.2.1 := by unfold good at hg; rw [Bool.and_eq_true] at hg; have := hg.1; simpa using this
  rw [← e]
  show min u.1 u.2.1 < max u.1 u.2.1
  omega
theorem good_of {t : T3} (h : t.1 < t.2.1 ∧ 0 < t.2.2) : good t = true ∧ prT t = (t.1, t.2.1) := by
  unfold good prT
  refine ⟨?_, ?_⟩
  · rw [Bool.and_eq_true, decide_eq_true_eq]
    refine ⟨?_, h.2⟩
    have : ¬ t.1 = t.2.1 := by omega
    simp [this]
  · rw [Int.min_eq_left (by omega), Int.max_eq_right (by omega)]
theorem comb_lin (ts : List T3) (φ : Int × Int → Int) : lin (comb ts) φ = lin ts φ := by
  rw [← met_lin φ ts]
  have : lin (comb ts) φ = sm (comb ts) fun t => t.2.2 * φ (t.1, t.2.1) := sm_congr fun t ht => by
    have g := comb_good ht
    obtain ⟨h1, h2⟩ := good_of ⟨g.1, g.2.1⟩
    rw [if_pos h1, h2]
  rw [this]
  unfold comb
  rw [sm_map]
  exact sm_perm (sortP_perm _) _
theorem comb_tot (ts : List T3) (p : Int × Int) : tot (comb ts) p = tot ts p := by rw [tot_lin, tot_lin, comb_lin]
theorem comb_comb (ts : List T3) : comb (comb ts) = comb ts := comb_ext (comb_tot ts)
end FL

set_option Elab.async false
set_option linter.all false
set_option maxRecDepth 100000
set_option maxHeartbeats 2000000
namespace Math
open PySem FL Prg
open L2 (atI atI_nat ixN)
theorem gaps_eq (p : Int) : d_gaps [.int p] = .rt (.int (max p 1)) := by
  simp -implicitDefEqProofs only [d_gaps, b_d_gaps, runF, eBinR, qFld, eMth, eMth0, eProp, lot_pure, lot_frz, lot_isO, eBad, sBad, gT, gCo, gNl, sAsg, sDput, eDget, eDget2, dicO, sPut, sPut2, sq_tup, sq_lst, sq_vec, sNx, sSeq, sIf, sRet, sSet, sEx, sBk, sCt, sFgt, fgt, eC, eV, eM, eBin, eUn, aNil, aCons, eTup, eLst, eFn, tB1, tAnd, tOr, tNot, eAnd, eOr, eNot, eIf, eCall, eCallK, pick, eQ, tQ1, qV, qC, qBin, qUn, qB, qAnd, qOr, qNot, qIf, qAndT, qOrT, qNotT, qChain, eChain, eLc, sFor, iSq, iRg1, iRg2, gN, itms, rst, eApp, D.frz, D.frzs, D.pure, D.pures, bind_ok, bind_ex, stmt_ok, stmt_ex, seq_nx, seq_rt, seq_ex, seq_bk, seq_ct, fgt_nx, fgt_bk, fgt_ct, fgt_rt, fgt_ex, out_nx, out_rt, out_ex, opt_some, optL_some, andB_tt, andB_ff, andB_some, orB_tt, orB_ff, orB_some, andX_tt, andX_ff, andX_some, orX_tt, orX_ff, orX_some, itAnd, itOr, itAndX, itOrX, Option.bind_some, List.map_cons, List.map_nil, List.length_cons, List.length_nil, List.cons_append, List.nil_append, List.getElem?_cons_zero, List.getElem?_cons_succ, List.getElem?_nil, List.set_cons_zero, List.set_cons_succ, List.replicate, addI_i, subD_i, ltD_i, leD_i, gtD_i, geD_i, eqS_int, neS_int, eqS_bl, neS_bl, max2_i, min2_i, maxL_i, minL_i, int1_i, intL_i, if_true, if_false, ite_true, ite_false, and_true, true_and, and_self, Bool.and_self, Bool.and_true, Bool.true_and, Bool.and_false, Bool.false_and, Bool.or_true, Bool.true_or, Bool.or_false, Bool.false_or, Bool.not_true, Bool.not_false, Nat.reduceAdd, Nat.reduceSub, Nat.reduceEqDiff, List.filterMap_cons, List.filterMap_nil, decide_true, decide_false, Bool.false_eq_true, reduceIte, Int.reduceAdd, Int.reduceSub, Int.reduceMul, Int.reduceNeg, Int.reduceLT, Int.reduceLE, Int.reduceEq, Int.reduceMod, Int.reduceDiv, Int.lt_irrefl, reduceCtorEq, D.frzs_int, D.pures_int, cap_0, cap_1, cap_2, cap_3, cap_4, cap_5, cap_6, cap_7, cap_8, cap_9, cap_10, cap_11, cap_12, cap_13, cap_14, cap_15, cap_16, cap_17, cap_18, cap_19, cap_20, cap_21, cap_22, cap_23, cap_24, cap_25, cap_26, cap_27, cap_28, cap_29, cap_30, cap_31, cap_32, cap_33, cap_34, cap_35, cap_36, cap_37, cap_38, cap_39, cap_40, eBor, brw, D.noL, D.noLs, sRaise, sTry, isE, qXf, cleanR, D.noX, D.noXs, rfX, boolF, Option.map_some, Option.map_none, Option.getD_some, C1_d_law_same]
def envC (d : D) (ts : List T3) : Rho := [some d, some (.vT ((met ts).map kk) ((met ts).map (vI (tot ts)))), none, none, none, none]
theorem tot_step (ts : List T3) (t : T3) (hg : good t = true) : (addK (met ts) (prT t)).map (vI fun q => if q = prT t then tot ts (prT t) + t.2.2 else tot ts q) = (met (ts ++ [t])).map (vI (tot (ts ++ [t]))) := by
  rw [met_snoc, if_pos hg]
  refine List.map_congr_left fun q _ => ?_
  show D.int (if q = prT t then tot ts (prT t) + t.2.2 else tot ts q) = D.int (tot (ts ++ [t]) q)
  rw [tot_snoc]
  unfold wt
  by_cases h : q = prT t
  · subst h; rw [if_pos rfl, if_pos ⟨hg, rfl⟩]
  · rw [if_neg h, if_neg (fun z => h z.2.symm)]; rw [Int.add_zero]
theorem comb_step (d : D) (ts : List T3) (t : T3) (hl : ts.length < 1000000) :
    B1_d_combined [some d, some (.vT ((met ts).map kk) ((met ts).map (vI (tot ts)))), some (.int t.1), some (.int t.2.1), some (.int t.2.2), none] = .nx (envC d (ts ++ [t])) := by
  have hc : cap ((met ts).map kk).length = true := cap_of (by have := len_met ts; rw [List.length_map]; omega)
  have hp : keyT (.tup [.int (min t.1 t.2.1), .int (max t.1 t.2.1)]) = some (kk (prT t)) := rfl
  have hv : D.frzs ((met ts).map (vI (tot ts))) = (met ts).map (vI (tot ts)) := frzs_vI _ _
  by_cases hg : good t = true
  · have h1 : (!decide (t.1 = t.2.1)) = true := by unfold good at hg; rw [Bool.and_eq_true] at hg; exact hg.1
    have h2 : decide (0 < t.2.2) = true := by unfold good at hg; rw [Bool.and_eq_true] at hg; exact hg.2
    have hs := tot_step ts t hg
    have hk : (addK (met ts) (prT t)).map kk = (met (ts ++ [t])).map kk := by rw [met_snoc, if_pos hg]
    by_cases hm : prT t ∈ met ts
    · simp -implicitDefEqProofs only [B1_d_combined, runF, eBinR, qFld, eMth, eMth0, eProp, lot_pure, lot_frz, lot_isO, eBad, sBad, gT, gCo, gNl, sAsg, sDput, eDget, eDget2, dicO, sPut, sPut2, sq_tup, sq_lst, sq_vec, sNx, sSeq, sIf, sRet, sSet, sEx, sBk, sCt, sFgt, fgt, eC, eV, eM, eBin, eUn, aNil, aCons, eTup, eLst, eFn, tB1, tAnd, tOr, tNot, eAnd, eOr, eNot, eIf, eCall, eCallK, pick, eQ, tQ1, qV, qC, qBin, qUn, qB, qAnd, qOr, qNot, qIf, qAndT, qOrT, qNotT, qChain, eChain, eLc, sFor, iSq, iRg1, iRg2, gN, itms, rst, eApp, D.frz, D.frzs, D.pure, D.pures, bind_ok, bind_ex, stmt_ok, stmt_ex, seq_nx, seq_rt, seq_ex, seq_bk, seq_ct, fgt_nx, fgt_bk, fgt_ct, fgt_rt, fgt_ex, out_nx, out_rt, out_ex, opt_some, optL_some, andB_tt, andB_ff, andB_some, orB_tt, orB_ff, orB_some, andX_tt, andX_ff, andX_some, orX_tt, orX_ff, orX_some, itAnd, itOr, itAndX, itOrX, Option.bind_some, List.map_cons, List.map_nil, List.length_cons, List.length_nil, List.cons_append, List.nil_append, List.getElem?_cons_zero, List.getElem?_cons_succ, List.getElem?_nil, List.set_cons_zero, List.set_cons_succ, List.replicate, addI_i, subD_i, ltD_i, leD_i, gtD_i, geD_i, eqS_int, neS_int, eqS_bl, neS_bl, max2_i, min2_i, maxL_i, minL_i, int1_i, intL_i, if_true, if_false, ite_true, ite_false, and_true, true_and, and_self, Bool.and_self, Bool.and_true, Bool.true_and, Bool.and_false, Bool.false_and, Bool.or_true, Bool.true_or, Bool.or_false, Bool.false_or, Bool.not_true, Bool.not_false, Nat.reduceAdd, Nat.reduceSub, Nat.reduceEqDiff, List.filterMap_cons, List.filterMap_nil, decide_true, decide_false, Bool.false_eq_true, reduceIte, Int.reduceAdd, Int.reduceSub, Int.reduceMul, Int.reduceNeg, Int.reduceLT, Int.reduceLE, Int.reduceEq, Int.reduceMod, Int.reduceDiv, Int.lt_irrefl, reduceCtorEq, D.frzs_int, D.pures_int, cap_0, cap_1, cap_2, cap_3, cap_4, cap_5, cap_6, cap_7, cap_8, cap_9, cap_10, cap_11, cap_12, cap_13, cap_14, cap_15, cap_16, cap_17, cap_18, cap_19, cap_20, cap_21, cap_22, cap_23, cap_24, cap_25, cap_26, cap_27, cap_28, cap_29, cap_30, cap_31, cap_32, cap_33, cap_34, cap_35, cap_36, cap_37, cap_38, cap_39, cap_40, eBor, brw, D.noL, D.noLs, sRaise, sTry, isE, qXf, cleanR, D.noX, D.noXs, rfX, boolF, Option.map_some, Option.map_none, Option.getD_some, C1_d_law_same, h1, h2, hp, getT_map, hm, putTk_map, putTd_map, hc, hv, hs, hk, envC]
    · rw [tot_zero hm] at hs
      simp -implicitDefEqProofs only [B1_d_combined, runF, eBinR, qFld, eMth, eMth0, eProp, lot_pure, lot_frz, lot_isO, eBad, sBad, gT, gCo, gNl, sAsg, sDput, eDget, eDget2, dicO, sPut, sPut2, sq_tup, sq_lst, sq_vec, sNx, sSeq, sIf, sRet, sSet, sEx, sBk, sCt, sFgt, fgt, eC, eV, eM, eBin, eUn, aNil, aCons, eTup, eLst, eFn, tB1, tAnd, tOr, tNot, eAnd, eOr, eNot, eIf, eCall, eCallK, pick, eQ, tQ1, qV, qC, qBin, qUn, qB, qAnd, qOr, qNot, qIf, qAndT, qOrT, qNotT, qChain, eChain, eLc, sFor, iSq, iRg1, iRg2, gN, itms, rst, eApp, D.frz, D.frzs, D.pure, D.pures, bind_ok, bind_ex, stmt_ok, stmt_ex, seq_nx, seq_rt, seq_ex, seq_bk, seq_ct, fgt_nx, fgt_bk, fgt_ct, fgt_rt, fgt_ex, out_nx, out_rt, out_ex, opt_some, optL_some, andB_tt, andB_ff, andB_some, orB_tt, orB_ff, orB_some, andX_tt, andX_ff, andX_some, orX_tt, orX_ff, orX_some, itAnd, itOr, itAndX, itOrX, Option.bind_some, List.map_cons, List.map_nil, List.length_cons, List.length_nil, List.cons_append, List.nil_append, List.getElem?_cons_zero, List.getElem?_cons_succ, List.getElem?_nil, List.set_cons_zero, List.set_cons_succ, List.replicate, addI_i, subD_i, ltD_i, leD_i, gtD_i, geD_i, eqS_int, neS_int, eqS_bl, neS_bl, max2_i, min2_i, maxL_i, minL_i, int1_i, intL_i, if_true, if_false, ite_true, ite_false, and_true, true_and, and_self, Bool.and_self, Bool.and_true, Bool.true_and, Bool.and_false, Bool.false_and, Bool.or_true, Bool.true_or, Bool.or_false, Bool.false_or, Bool.not_true, Bool.not_false, Nat.reduceAdd, Nat.reduceSub, Nat.reduceEqDiff, List.filterMap_cons, List.filterMap_nil, decide_true, decide_false, Bool.false_eq_true, reduceIte, Int.reduceAdd, Int.reduceSub, Int.reduceMul, Int.reduceNeg, Int.reduceLT, Int.reduceLE, Int.reduceEq, Int.reduceMod, Int.reduceDiv, Int.lt_irrefl, reduceCtorEq, D.frzs_int, D.pures_int, cap_0, cap_1, cap_2, cap_3, cap_4, cap_5, cap_6, cap_7, cap_8, cap_9, cap_10, cap_11, cap_12, cap_13, cap_14, cap_15, cap_16, cap_17, cap_18, cap_19, cap_20, cap_21, cap_22, cap_23, cap_24, cap_25, cap_26, cap_27, cap_28, cap_29, cap_30, cap_31, cap_32, cap_33, cap_34, cap_35, cap_36, cap_37, cap_38, cap_39, cap_40, eBor, brw, D.noL, D.noLs, sRaise, sTry, isE, qXf, cleanR, D.noX, D.noXs, rfX, boolF, Option.map_some, Option.map_none, Option.getD_some, C1_d_law_same, h1, h2, hp, getT_map, hm, putTk_map, putTd_map, hc, hv, hs, hk, envC]
  · have hb : (!decide (t.1 = t.2.1)) = false ∨ decide (0 < t.2.2) = false := by
      unfold good at hg
      rw [Bool.and_eq_true] at hg
      by_cases q : (!decide (t.1 = t.2.1)) = true
      · exact .inr (by cases z : decide (0 < t.2.2) with | false => rfl | true => exact absurd ⟨q, z⟩ hg)
      · exact .inl (by cases z : (!decide (t.1 = t.2.1)) with | false => rfl | true => exact absurd z q)
    have hk : met (ts ++ [t]) = met ts := by rw [met_snoc, if_neg hg]
    have hv : ((met ts).map (vI (tot ts))) = (met ts).map (vI (tot (ts ++ [t]))) := List.map_congr_left fun q _ => by
      show D.int (tot ts q) = D.int (tot (ts ++ [t]) q)
      rw [tot_snoc]
      unfold wt
      rw [if_neg (fun z => hg z.1), Int.add_zero]
    rcases hb with h1 | h1
    · simp -implicitDefEqProofs only [B1_d_combined, runF, eBinR, qFld, eMth, eMth0, eProp, lot_pure, lot_frz, lot_isO, eBad, sBad, gT, gCo, gNl, sAsg, sDput, eDget, eDget2, dicO, sPut, sPut2, sq_tup, sq_lst, sq_vec, sNx, sSeq, sIf, sRet, sSet, sEx, sBk, sCt, sFgt, fgt, eC, eV, eM, eBin, eUn, aNil, aCons, eTup, eLst, eFn, tB1, tAnd, tOr, tNot, eAnd, eOr, eNot, eIf, eCall, eCallK, pick, eQ, tQ1, qV, qC, qBin, qUn, qB, qAnd, qOr, qNot, qIf, qAndT, qOrT, qNotT, qChain, eChain, eLc, sFor, iSq, iRg1, iRg2, gN, itms, rst, eApp, D.frz, D.frzs, D.pure, D.pures, bind_ok, bind_ex, stmt_ok, stmt_ex, seq_nx, seq_rt, seq_ex, seq_bk, seq_ct, fgt_nx, fgt_bk, fgt_ct, fgt_rt, fgt_ex, out_nx, out_rt, out_ex, opt_some, optL_some, andB_tt, andB_ff, andB_some, orB_tt, orB_ff, orB_some, andX_tt, andX_ff, andX_some, orX_tt, orX_ff, orX_some, itAnd, itOr, itAndX, itOrX, Option.bind_some, List.map_cons, List.map_nil, List.length_cons, List.length_nil, List.cons_append, List.nil_append, List.getElem?_cons_zero, List.getElem?_cons_succ, List.getElem?_nil, List.set_cons_zero, List.set_cons_succ, List.replicate, addI_i, subD_i, ltD_i, leD_i, gtD_i, geD_i, eqS_int, neS_int, eqS_bl, neS_bl, max2_i, min2_i, maxL_i, minL_i, int1_i, intL_i, if_true, if_false, ite_true, ite_false, and_true, true_and, and_self, Bool.and_self, Bool.and_true, Bool.true_and, Bool.and_false, Bool.false_and, Bool.or_true, Bool.true_or, Bool.or_false, Bool.false_or, Bool.not_true, Bool.not_false, Nat.reduceAdd, Nat.reduceSub, Nat.reduceEqDiff, List.filterMap_cons, List.filterMap_nil, decide_true, decide_false, Bool.false_eq_true, reduceIte, Int.reduceAdd, Int.reduceSub, Int.reduceMul, Int.reduceNeg, Int.reduceLT, Int.reduceLE, Int.reduceEq, Int.reduceMod, Int.reduceDiv, Int.lt_irrefl, reduceCtorEq, D.frzs_int, D.pures_int, cap_0, cap_1, cap_2, cap_3, cap_4, cap_5, cap_6, cap_7, cap_8, cap_9, cap_10, cap_11, cap_12, cap_13, cap_14, cap_15, cap_16, cap_17, cap_18, cap_19, cap_20, cap_21, cap_22, cap_23, cap_24, cap_25, cap_26, cap_27, cap_28, cap_29, cap_30, cap_31, cap_32, cap_33, cap_34, cap_35, cap_36, cap_37, cap_38, cap_39, cap_40, eBor, brw, D.noL, D.noLs, sRaise, sTry, isE, qXf, cleanR, D.noX, D.noXs, rfX, boolF, Option.map_some, Option.map_none, Option.getD_some, C1_d_law_same, h1, envC, hk, hv]
    · by_cases h2 : t.1 = t.2.1
      · simp -implicitDefEqProofs only [B1_d_combined, runF, eBinR, qFld, eMth, eMth0, eProp, lot_pure, lot_frz, lot_isO, eBad, sBad, gT, gCo, gNl, sAsg, sDput, eDget, eDget2, dicO, sPut, sPut2, sq_tup, sq_lst, sq_vec, sNx, sSeq, sIf, sRet, sSet, sEx, sBk, sCt, sFgt, fgt, eC, eV, eM, eBin, eUn, aNil, aCons, eTup, eLst, eFn, tB1, tAnd, tOr, tNot, eAnd, eOr, eNot, eIf, eCall, eCallK, pick, eQ, tQ1, qV, qC, qBin, qUn, qB, qAnd, qOr, qNot, qIf, qAndT, qOrT, qNotT, qChain, eChain, eLc, sFor, iSq, iRg1, iRg2, gN, itms, rst, eApp, D.frz, D.frzs, D.pure, D.pures, bind_ok, bind_ex, stmt_ok, stmt_ex, seq_nx, seq_rt, seq_ex, seq_bk, seq_ct, fgt_nx, fgt_bk, fgt_ct, fgt_rt, fgt_ex, out_nx, out_rt, out_ex, opt_some, optL_some, andB_tt, andB_ff, andB_some, orB_tt, orB_ff, orB_some, andX_tt, andX_ff, andX_some, orX_tt, orX_ff, orX_some, itAnd, itOr, itAndX, itOrX, Option.bind_some, List.map_cons, List.map_nil, List.length_cons, List.length_nil, List.cons_append, List.nil_append, List.getElem?_cons_zero, List.getElem?_cons_succ, List.getElem?_nil, List.set_cons_zero, List.set_cons_succ, List.replicate, addI_i, subD_i, ltD_i, leD_i, gtD_i, geD_i, eqS_int, neS_int, eqS_bl, neS_bl, max2_i, min2_i, maxL_i, minL_i, int1_i, intL_i, if_true, if_false, ite_true, ite_false, and_true, true_and, and_self, Bool.and_self, Bool.and_true, Bool.true_and, Bool.and_false, Bool.false_and, Bool.or_true, Bool.true_or, Bool.or_false, Bool.false_or, Bool.not_true, Bool.not_false, Nat.reduceAdd, Nat.reduceSub, Nat.reduceEqDiff, List.filterMap_cons, List.filterMap_nil, decide_true, decide_false, Bool.false_eq_true, reduceIte, Int.reduceAdd, Int.reduceSub, Int.reduceMul, Int.reduceNeg, Int.reduceLT, Int.reduceLE, Int.reduceEq, Int.reduceMod, Int.reduceDiv, Int.lt_irrefl, reduceCtorEq, D.frzs_int, D.pures_int, cap_0, cap_1, cap_2, cap_3, cap_4, cap_5, cap_6, cap_7, cap_8, cap_9, cap_10, cap_11, cap_12, cap_13, cap_14, cap_15, cap_16, cap_17, cap_18, cap_19, cap_20, cap_21, cap_22, cap_23, cap_24, cap_25, cap_26, cap_27, cap_28, cap_29, cap_30, cap_31, cap_32, cap_33, cap_34, cap_35, cap_36, cap_37, cap_38, cap_39, cap_40, eBor, brw, D.noL, D.noLs, sRaise, sTry, isE, qXf, cleanR, D.noX, D.noXs, rfX, boolF, Option.map_some, Option.map_none, Option.getD_some, C1_d_law_same, h1, h2, envC, hk, hv]
      · simp -implicitDefEqProofs only [B1_d_combined, runF, eBinR, qFld, eMth, eMth0, eProp, lot_pure, lot_frz, lot_isO, eBad, sBad, gT, gCo, gNl, sAsg, sDput, eDget, eDget2, dicO, sPut, sPut2, sq_tup, sq_lst, sq_vec, sNx, sSeq, sIf, sRet, sSet, sEx, sBk, sCt, sFgt, fgt, eC, eV, eM, eBin, eUn, aNil, aCons, eTup, eLst, eFn, tB1, tAnd, tOr, tNot, eAnd, eOr, eNot, eIf, eCall, eCallK, pick, eQ, tQ1, qV, qC, qBin, qUn, qB, qAnd, qOr, qNot, qIf, qAndT, qOrT, qNotT, qChain, eChain, eLc, sFor, iSq, iRg1, iRg2, gN, itms, rst, eApp, D.frz, D.frzs, D.pure, D.pures, bind_ok, bind_ex, stmt_ok, stmt_ex, seq_nx, seq_rt, seq_ex, seq_bk, seq_ct, fgt_nx, fgt_bk, fgt_ct, fgt_rt, fgt_ex, out_nx, out_rt, out_ex, opt_some, optL_some, andB_tt, andB_ff, andB_some, orB_tt, orB_ff, orB_some, andX_tt, andX_ff, andX_some, orX_tt, orX_ff, orX_some, itAnd, itOr, itAndX, itOrX, Option.bind_some, List.map_cons, List.map_nil, List.length_cons, List.length_nil, List.cons_append, List.nil_append, List.getElem?_cons_zero, List.getElem?_cons_succ, List.getElem?_nil, List.set_cons_zero, List.set_cons_succ, List.replicate, addI_i, subD_i, ltD_i, leD_i, gtD_i, geD_i, eqS_int, neS_int, eqS_bl, neS_bl, max2_i, min2_i, maxL_i, minL_i, int1_i, intL_i, if_true, if_false, ite_true, ite_false, and_true, true_and, and_self, Bool.and_self, Bool.and_true, Bool.true_and, Bool.and_false, Bool.false_and, Bool.or_true, Bool.true_or, Bool.or_false, Bool.false_or, Bool.not_true, Bool.not_false, Nat.reduceAdd, Nat.reduceSub, Nat.reduceEqDiff, List.filterMap_cons, List.filterMap_nil, decide_true, decide_false, Bool.false_eq_true, reduceIte, Int.reduceAdd, Int.reduceSub, Int.reduceMul, Int.reduceNeg, Int.reduceLT, Int.reduceLE, Int.reduceEq, Int.reduceMod, Int.reduceDiv, Int.lt_irrefl, reduceCtorEq, D.frzs_int, D.pures_int, cap_0, cap_1, cap_2, cap_3, cap_4, cap_5, cap_6, cap_7, cap_8, cap_9, cap_10, cap_11, cap_12, cap_13, cap_14, cap_15, cap_16, cap_17, cap_18, cap_19, cap_20, cap_21, cap_22, cap_23, cap_24, cap_25, cap_26, cap_27, cap_28, cap_29, cap_30, cap_31, cap_32, cap_33, cap_34, cap_35, cap_36, cap_37, cap_38, cap_39, cap_40, eBor, brw, D.noL, D.noLs, sRaise, sTry, isE, qXf, cleanR, D.noX, D.noXs, rfX, boolF, Option.map_some, Option.map_none, Option.getD_some, C1_d_law_same, h1, h2, envC, hk, hv]
def SeqD (d : D) (l : List D) : Prop := d = .tup l ∨ d = .lst l
theorem comb_loop (d : D) (ts : List T3) (hl : ts.length < 1000000) : loop (gT 3 (gCo (gN 2) (gCo (gN 3) (gCo (gN 4) gNl)))) B1_d_combined (ts.map tD) [some d, some (.vT [] []), none, none, none, none] = .nx (envC d ts) := by
  refine loop_ind (f := tD) (fun xs ρ => ∃ pre, pre ++ xs = ts ∧ ρ = envC d pre) (fun r => r = .nx (envC d ts)) ?_ ?_ ts _ ⟨[], rfl, rfl⟩
  · rintro ρ ⟨pre, h1, rfl⟩
    rw [List.append_nil] at h1
    rw [h1]
  · rintro t xs ρ ⟨pre, h1, rfl⟩
    refine ⟨_, rfl, .inl ⟨_, .inl (comb_step d pre t ?_), pre ++ [t], by rw [List.append_assoc]; exact h1, rfl⟩⟩
    rw [← h1, List.length_append] at hl
    omega
theorem comb_item (d : D) (ts : List T3) (p : Int × Int) (hp : p ∈ met ts) : ∃ ρ1 ρ3, gT 2 (gCo (gN 2) (gCo (gN 3) gNl)) (mkP p) [some d, some (.dT ((met ts).map kk) ((met ts).map (vI (tot ts)))), none, none, none, none] = some ρ1 ∧
    E1_d_combined ρ1 = .ok (tD (p.1, p.2, tot ts p)) ρ3 ∧ FL.fgt [2, 3] ρ3 = [some d, some (.dT ((met ts).map kk) ((met ts).map (vI (tot ts)))), none, none, none, none] := by
  have hk : keyT (.tup [.int p.1, .int p.2]) = some (kk p) := rfl
  have hq : (vI (tot ts) p).pure = true := rfl
  refine ⟨_, [some d, some (.dT ((met ts).map kk) ((met ts).map (vI (tot ts)))), some (.int p.1), some (.int p.2), none, none], rfl, ?_, rfl⟩
  simp -implicitDefEqProofs only [E1_d_combined, runF, eBinR, qFld, eMth, eMth0, eProp, lot_pure, lot_frz, lot_isO, eBad, sBad, gT, gCo, gNl, sAsg, sDput, eDget, eDget2, dicO, sPut, sPut2, sq_tup, sq_lst, sq_vec, sNx, sSeq, sIf, sRet, sSet, sEx, sBk, sCt, sFgt, fgt, eC, eV, eM, eBin, eUn, aNil, aCons, eTup, eLst, eFn, tB1, tAnd, tOr, tNot, eAnd, eOr, eNot, eIf, eCall, eCallK, pick, eQ, tQ1, qV, qC, qBin, qUn, qB, qAnd, qOr, qNot, qIf, qAndT, qOrT, qNotT, qChain, eChain, eLc, sFor, iSq, iRg1, iRg2, gN, itms, rst, eApp, D.frz, D.frzs, D.pure, D.pures, bind_ok, bind_ex, stmt_ok, stmt_ex, seq_nx, seq_rt, seq_ex, seq_bk, seq_ct, fgt_nx, fgt_bk, fgt_ct, fgt_rt, fgt_ex, out_nx, out_rt, out_ex, opt_some, optL_some, andB_tt, andB_ff, andB_some, orB_tt, orB_ff, orB_some, andX_tt, andX_ff, andX_some, orX_tt, orX_ff, orX_some, itAnd, itOr, itAndX, itOrX, Option.bind_some, List.map_cons, List.map_nil, List.length_cons, List.length_nil, List.cons_append, List.nil_append, List.getElem?_cons_zero, List.getElem?_cons_succ, List.getElem?_nil, List.set_cons_zero, List.set_cons_succ, List.replicate, addI_i, subD_i, ltD_i, leD_i, gtD_i, geD_i, eqS_int, neS_int, eqS_bl, neS_bl, max2_i, min2_i, maxL_i, minL_i, int1_i, intL_i, if_true, if_false, ite_true, ite_false, and_true, true_and, and_self, Bool.and_self, Bool.and_true, Bool.true_and, Bool.and_false, Bool.false_and, Bool.or_true, Bool.true_or, Bool.or_false, Bool.false_or, Bool.not_true, Bool.not_false, Nat.reduceAdd, Nat.reduceSub, Nat.reduceEqDiff, List.filterMap_cons, List.filterMap_nil, decide_true, decide_false, Bool.false_eq_true, reduceIte, Int.reduceAdd, Int.reduceSub, Int.reduceMul, Int.reduceNeg, Int.reduceLT, Int.reduceLE, Int.reduceEq, Int.reduceMod, Int.reduceDiv, Int.lt_irrefl, reduceCtorEq, D.frzs_int, D.pures_int, cap_0, cap_1, cap_2, cap_3, cap_4, cap_5, cap_6, cap_7, cap_8, cap_9, cap_10, cap_11, cap_12, cap_13, cap_14, cap_15, cap_16, cap_17, cap_18, cap_19, cap_20, cap_21, cap_22, cap_23, cap_24, cap_25, cap_26, cap_27, cap_28, cap_29, cap_30, cap_31, cap_32, cap_33, cap_34, cap_35, cap_36, cap_37, cap_38, cap_39, cap_40, eBor, brw, D.noL, D.noLs, sRaise, sTry, isE, qXf, cleanR, D.noX, D.noXs, rfX, boolF, Option.map_some, Option.map_none, Option.getD_some, C1_d_law_same, hk, getT_map, hp, tD]
theorem combined_eq (d : D) (ts : List T3) (h : SeqD d (ts.map tD)) (hl : ts.length < 1000000) : d_combined [d] = .rt (.tup ((comb ts).map tD)) := by
  have hl2 : (sortP (met ts)).length < 16777216 := by rw [len_sortP]; have := len_met ts; omega
  rcases h with rfl | rfl
  · simp -implicitDefEqProofs only [d_combined, b_d_combined, runF, eBinR, qFld, eMth, eMth0, eProp, lot_pure, lot_frz, lot_isO, eBad, sBad, gT, gCo, gNl, sAsg, sDput, eDget, eDget2, dicO, sPut, sPut2, sq_tup, sq_lst, sq_vec, sNx, sSeq, sIf, sRet, sSet, sEx, sBk, sCt, sFgt, fgt, eC, eV, eM, eBin, eUn, aNil, aCons, eTup, eLst, eFn, tB1, tAnd, tOr, tNot, eAnd, eOr, eNot, eIf, eCall, eCallK, pick, eQ, tQ1, qV, qC, qBin, qUn, qB, qAnd, qOr, qNot, qIf, qAndT, qOrT, qNotT, qChain, eChain, eLc, sFor, iSq, iRg1, iRg2, gN, itms, rst, eApp, D.frz, D.frzs, D.pure, D.pures, bind_ok, bind_ex, stmt_ok, stmt_ex, seq_nx, seq_rt, seq_ex, seq_bk, seq_ct, fgt_nx, fgt_bk, fgt_ct, fgt_rt, fgt_ex, out_nx, out_rt, out_ex, opt_some, optL_some, andB_tt, andB_ff, andB_some, orB_tt, orB_ff, orB_some, andX_tt, andX_ff, andX_some, orX_tt, orX_ff, orX_some, itAnd, itOr, itAndX, itOrX, Option.bind_some, List.map_cons, List.map_nil, List.length_cons, List.length_nil, List.cons_append, List.nil_append, List.getElem?_cons_zero, List.getElem?_cons_succ, List.getElem?_nil, List.set_cons_zero, List.set_cons_succ, List.replicate, addI_i, subD_i, ltD_i, leD_i, gtD_i, geD_i, eqS_int, neS_int, eqS_bl, neS_bl, max2_i, min2_i, maxL_i, minL_i, int1_i, intL_i, if_true, if_false, ite_true, ite_false, and_true, true_and, and_self, Bool.and_self, Bool.and_true, Bool.true_and, Bool.and_false, Bool.false_and, Bool.or_true, Bool.true_or, Bool.or_false, Bool.false_or, Bool.not_true, Bool.not_false, Nat.reduceAdd, Nat.reduceSub, Nat.reduceEqDiff, List.filterMap_cons, List.filterMap_nil, decide_true, decide_false, Bool.false_eq_true, reduceIte, Int.reduceAdd, Int.reduceSub, Int.reduceMul, Int.reduceNeg, Int.reduceLT, Int.reduceLE, Int.reduceEq, Int.reduceMod, Int.reduceDiv, Int.lt_irrefl, reduceCtorEq, D.frzs_int, D.pures_int, cap_0, cap_1, cap_2, cap_3, cap_4, cap_5, cap_6, cap_7, cap_8, cap_9, cap_10, cap_11, cap_12, cap_13, cap_14, cap_15, cap_16, cap_17, cap_18, cap_19, cap_20, cap_21, cap_22, cap_23, cap_24, cap_25, cap_26, cap_27, cap_28, cap_29, cap_30, cap_31, cap_32, cap_33, cap_34, cap_35, cap_36, cap_37, cap_38, cap_39, cap_40, eBor, brw, D.noL, D.noLs, sRaise, sTry, isE, qXf, cleanR, D.noX, D.noXs, rfX, boolF, Option.map_some, Option.map_none, Option.getD_some, C1_d_law_same, frzs_tD, comb_loop _ ts hl, envC, frzs_vI, soL_dT, frzs_mkP]
    rw [lcl_all mkP (fun p => tD (p.1, p.2, tot ts p)) _ hl2 fun p hp => comb_item _ ts p ((sortP_perm (met ts)).mem_iff.mp hp)]
    simp -implicitDefEqProofs only [runF, eBinR, qFld, eMth, eMth0, eProp, lot_pure, lot_frz, lot_isO, eBad, sBad, gT, gCo, gNl, sAsg, sDput, eDget, eDget2, dicO, sPut, sPut2, sq_tup, sq_lst, sq_vec, sNx, sSeq, sIf, sRet, sSet, sEx, sBk, sCt, sFgt, fgt, eC, eV, eM, eBin, eUn, aNil, aCons, eTup, eLst, eFn, tB1, tAnd, tOr, tNot, eAnd, eOr, eNot, eIf, eCall, eCallK, pick, eQ, tQ1, qV, qC, qBin, qUn, qB, qAnd, qOr, qNot, qIf, qAndT, qOrT, qNotT, qChain, eChain, eLc, sFor, iSq, iRg1, iRg2, gN, itms, rst, eApp, D.frz, D.frzs, D.pure, D.pures, bind_ok, bind_ex, stmt_ok, stmt_ex, seq_nx, seq_rt, seq_ex, seq_bk, seq_ct, fgt_nx, fgt_bk, fgt_ct, fgt_rt, fgt_ex, out_nx, out_rt, out_ex, opt_some, optL_some, andB_tt, andB_ff, andB_some, orB_tt, orB_ff, orB_some, andX_tt, andX_ff, andX_some, orX_tt, orX_ff, orX_some, itAnd, itOr, itAndX, itOrX, Option.bind_some, List.map_cons, List.map_nil, List.length_cons, List.length_nil, List.cons_append, List.nil_append, List.getElem?_cons_zero, List.getElem?_cons_succ, List.getElem?_nil, List.set_cons_zero, List.set_cons_succ, List.replicate, addI_i, subD_i, ltD_i, leD_i, gtD_i, geD_i, eqS_int, neS_int, eqS_bl, neS_bl, max2_i, min2_i, maxL_i, minL_i, int1_i, intL_i, if_true, if_false, ite_true, ite_false, and_true, true_and, and_self, Bool.and_self, Bool.and_true, Bool.true_and, Bool.and_false, Bool.false_and, Bool.or_true, Bool.true_or, Bool.or_false, Bool.false_or, Bool.not_true, Bool.not_false, Nat.reduceAdd, Nat.reduceSub, Nat.reduceEqDiff, List.filterMap_cons, List.filterMap_nil, decide_true, decide_false, Bool.false_eq_true, reduceIte, Int.reduceAdd, Int.reduceSub, Int.reduceMul, Int.reduceNeg, Int.reduceLT, Int.reduceLE, Int.reduceEq, Int.reduceMod, Int.reduceDiv, Int.lt_irrefl, reduceCtorEq, D.frzs_int, D.pures_int, cap_0, cap_1, cap_2, cap_3, cap_4, cap_5, cap_6, cap_7, cap_8, cap_9, cap_10, cap_11, cap_12, cap_13, cap_14, cap_15, cap_16, cap_17, cap_18, cap_19, cap_20, cap_21, cap_22, cap_23, cap_24, cap_25, cap_26, cap_27, cap_28, cap_29, cap_30, cap_31, cap_32, cap_33, cap_34, cap_35, cap_36, cap_37, cap_38, cap_39, cap_40, eBor, brw, D.noL, D.noLs, sRaise, sTry, isE, qXf, cleanR, D.noX, D.noXs, rfX, boolF, Option.map_some, Option.map_none, Option.getD_some, C1_d_law_same, tupL_sq (sq_vec _), comb, List.map_map]
    rfl
  · simp -implicitDefEqProofs only [d_combined, b_d_combined, runF, eBinR, qFld, eMth, eMth0, eProp, lot_pure, lot_frz, lot_isO, eBad, sBad, gT, gCo, gNl, sAsg, sDput, eDget, eDget2, dicO, sPut, sPut2, sq_tup, sq_lst, sq_vec, sNx, sSeq, sIf, sRet, sSet, sEx, sBk, sCt, sFgt, fgt, eC, eV, eM, eBin, eUn, aNil, aCons, eTup, eLst, eFn, tB1, tAnd, tOr, tNot, eAnd, eOr, eNot, eIf, eCall, eCallK, pick, eQ, tQ1, qV, qC, qBin, qUn, qB, qAnd, qOr, qNot, qIf, qAndT, qOrT, qNotT, qChain, eChain, eLc, sFor, iSq, iRg1, iRg2, gN, itms, rst, eApp, D.frz, D.frzs, D.pure, D.pures, bind_ok, bind_ex, stmt_ok, stmt_ex, seq_nx, seq_rt, seq_ex, seq_bk, seq_ct, fgt_nx, fgt_bk, fgt_ct, fgt_rt, fgt_ex, out_nx, out_rt, out_ex, opt_some, optL_some, andB_tt, andB_ff, andB_some, orB_tt, orB_ff, orB_some, andX_tt, andX_ff, andX_some, orX_tt, orX_ff, orX_some, itAnd, itOr, itAndX, itOrX, Option.bind_some, List.map_cons, List.map_nil, List.length_cons, List.length_nil, List.cons_append, List.nil_append, List.getElem?_cons_zero, List.getElem?_cons_succ, List.getElem?_nil, List.set_cons_zero, List.set_cons_succ, List.replicate, addI_i, subD_i, ltD_i, leD_i, gtD_i, geD_i, eqS_int, neS_int, eqS_bl, neS_bl, max2_i, min2_i, maxL_i, minL_i, int1_i, intL_i, if_true, if_false, ite_true, ite_false, and_true, true_and, and_self, Bool.and_self, Bool.and_true, Bool.true_and, Bool.and_false, Bool.false_and, Bool.or_true, Bool.true_or, Bool.or_false, Bool.false_or, Bool.not_true, Bool.not_false, Nat.reduceAdd, Nat.reduceSub, Nat.reduceEqDiff, List.filterMap_cons, List.filterMap_nil, decide_true, decide_false, Bool.false_eq_true, reduceIte, Int.reduceAdd, Int.reduceSub, Int.reduceMul, Int.reduceNeg, Int.reduceLT, Int.reduceLE, Int.reduceEq, Int.reduceMod, Int.reduceDiv, Int.lt_irrefl, reduceCtorEq, D.frzs_int, D.pures_int, cap_0, cap_1, cap_2, cap_3, cap_4, cap_5, cap_6, cap_7, cap_8, cap_9, cap_10, cap_11, cap_12, cap_13, cap_14, cap_15, cap_16, cap_17, cap_18, cap_19, cap_20, cap_21, cap_22, cap_23, cap_24, cap_25, cap_26, cap_27, cap_28, cap_29, cap_30, cap_31, cap_32, cap_33, cap_34, cap_35, cap_36, cap_37, cap_38, cap_39, cap_40, eBor, brw, D.noL, D.noLs, sRaise, sTry, isE, qXf, cleanR, D.noX, D.noXs, rfX, boolF, Option.map_some, Option.map_none, Option.getD_some, C1_d_law_same, frzs_tD, comb_loop _ ts hl, envC, frzs_vI, soL_dT, frzs_mkP]
    rw [lcl_all mkP (fun p => tD (p.1, p.2, tot ts p)) _ hl2 fun p hp => comb_item _ ts p ((sortP_perm (met ts)).mem_iff.mp hp)]
    simp -implicitDefEqProofs only [runF, eBinR, qFld, eMth, eMth0, eProp, lot_pure, lot_frz, lot_isO, eBad, sBad, gT, gCo, gNl, sAsg, sDput, eDget, eDget2, dicO, sPut, sPut2, sq_tup, sq_lst, sq_vec, sNx, sSeq, sIf, sRet, sSet, sEx, sBk, sCt, sFgt, fgt, eC, eV, eM, eBin, eUn, aNil, aCons, eTup, eLst, eFn, tB1, tAnd, tOr, tNot, eAnd, eOr, eNot, eIf, eCall, eCallK, pick, eQ, tQ1, qV, qC, qBin, qUn, qB, qAnd, qOr, qNot, qIf, qAndT, qOrT, qNotT, qChain, eChain, eLc, sFor, iSq, iRg1, iRg2, gN, itms, rst, eApp, D.frz, D.frzs, D.pure, D.pures, bind_ok, bind_ex, stmt_ok, stmt_ex, seq_nx, seq_rt, seq_ex, seq_bk, seq_ct, fgt_nx, fgt_bk, fgt_ct, fgt_rt, fgt_ex, out_nx, out_rt, out_ex, opt_some, optL_some, andB_tt, andB_ff, andB_some, orB_tt, orB_ff, orB_some, andX_tt, andX_ff, andX_some, orX_tt, orX_ff, orX_some, itAnd, itOr, itAndX, itOrX, Option.bind_some, List.map_cons, List.map_nil, List.length_cons, List.length_nil, List.cons_append, List.nil_append, List.getElem?_cons_zero, List.getElem?_cons_succ, List.getElem?_nil, List.set_cons_zero, List.set_cons_succ, List.replicate, addI_i, subD_i, ltD_i, leD_i, gtD_i, geD_i, eqS_int, neS_int, eqS_bl, neS_bl, max2_i, min2_i, maxL_i, minL_i, int1_i, intL_i, if_true, if_false, ite_true, ite_false, and_true, true_and, and_self, Bool.and_self, Bool.and_true, Bool.true_and, Bool.and_false, Bool.false_and, Bool.or_true, Bool.true_or, Bool.or_false, Bool.false_or, Bool.not_true, Bool.not_false, Nat.reduceAdd, Nat.reduceSub, Nat.reduceEqDiff, List.filterMap_cons, List.filterMap_nil, decide_true, decide_false, Bool.false_eq_true, reduceIte, Int.reduceAdd, Int.reduceSub, Int.reduceMul, Int.reduceNeg, Int.reduceLT, Int.reduceLE, Int.reduceEq, Int.reduceMod, Int.reduceDiv, Int.lt_irrefl, reduceCtorEq, D.frzs_int, D.pures_int, cap_0, cap_1, cap_2, cap_3, cap_4, cap_5, cap_6, cap_7, cap_8, cap_9, cap_10, cap_11, cap_12, cap_13, cap_14, cap_15, cap_16, cap_17, cap_18, cap_19, cap_20, cap_21, cap_22, cap_23, cap_24, cap_25, cap_26, cap_27, cap_28, cap_29, cap_30, cap_31, cap_32, cap_33, cap_34, cap_35, cap_36, cap_37, cap_38, cap_39, cap_40, eBor, brw, D.noL, D.noLs, sRaise, sTry, isE, qXf, cleanR, D.noX, D.noXs, rfX, boolF, Option.map_some, Option.map_none, Option.getD_some, C1_d_law_same, tupL_sq (sq_vec _), comb, List.map_map]
    rfl
theorem seq_frz {d : D} {ts : List T3} (h : SeqD d (ts.map tD)) : d.frz = d := by rcases h with rfl | rfl <;> simp only [D.frz, frzs_tD]
theorem seq_itms {d : D} {ts : List T3} (h : SeqD d (ts.map tD)) : itms d = some (ts.map tD) := by rcases h with rfl | rfl <;> rfl
theorem seq_sq {d : D} {ts : List T3} (h : SeqD d (ts.map tD)) : sq d = some (ts.map tD) := by rcases h with rfl | rfl <;> rfl

end Math

set_option Elab.async false
set_option linter.all false
set_option maxRecDepth 100000
set_option maxHeartbeats 2000000
namespace Math
open PySem FL Prg
open L2 (atI atI_nat ixN)
theorem whole_eq (i : Int) : d_is_whole [.int i] = .rt (.bl true) := by
  simp -implicitDefEqProofs only [d_is_whole, b_d_is_whole, runF, eBinR, qFld, eMth, eMth0, eProp, lot_pure, lot_frz, lot_isO, eBad, sBad, gT, gCo, gNl, sAsg, sDput, eDget, eDget2, dicO, sPut, sPut2, sq_tup, sq_lst, sq_vec, sNx, sSeq, sIf, sRet, sSet, sEx, sBk, sCt, sFgt, fgt, eC, eV, eM, eBin, eUn, aNil, aCons, eTup, eLst, eFn, tB1, tAnd, tOr, tNot, eAnd, eOr, eNot, eIf, eCall, eCallK, pick, eQ, tQ1, qV, qC, qBin, qUn, qB, qAnd, qOr, qNot, qIf, qAndT, qOrT, qNotT, qChain, eChain, eLc, sFor, iSq, iRg1, iRg2, gN, itms, rst, eApp, D.frz, D.frzs, D.pure, D.pures, bind_ok, bind_ex, stmt_ok, stmt_ex, seq_nx, seq_rt, seq_ex, seq_bk, seq_ct, fgt_nx, fgt_bk, fgt_ct, fgt_rt, fgt_ex, out_nx, out_rt, out_ex, opt_some, optL_some, andB_tt, andB_ff, andB_some, orB_tt, orB_ff, orB_some, andX_tt, andX_ff, andX_some, orX_tt, orX_ff, orX_some, itAnd, itOr, itAndX, itOrX, Option.bind_some, List.map_cons, List.map_nil, List.length_cons, List.length_nil, List.cons_append, List.nil_append, List.getElem?_cons_zero, List.getElem?_cons_succ, List.getElem?_nil, List.set_cons_zero, List.set_cons_succ, List.replicate, addI_i, subD_i, ltD_i, leD_i, gtD_i, geD_i, eqS_int, neS_int, eqS_bl, neS_bl, max2_i, min2_i, maxL_i, minL_i, int1_i, intL_i, if_true, if_false, ite_true, ite_false, and_true, true_and, and_self, Bool.and_self, Bool.and_true, Bool.true_and, Bool.and_false, Bool.false_and, Bool.or_true, Bool.true_or, Bool.or_false, Bool.false_or, Bool.not_true, Bool.not_false, Nat.reduceAdd, Nat.reduceSub, Nat.reduceEqDiff, List.filterMap_cons, List.filterMap_nil, decide_true, decide_false, Bool.false_eq_true, reduceIte, Int.reduceAdd, Int.reduceSub, Int.reduceMul, Int.reduceNeg, Int.reduceLT, Int.reduceLE, Int.reduceEq, Int.reduceMod, Int.reduceDiv, Int.lt_irrefl, reduceCtorEq, D.frzs_int, D.pures_int, cap_0, cap_1, cap_2, cap_3, cap_4, cap_5, cap_6, cap_7, cap_8, cap_9, cap_10, cap_11, cap_12, cap_13, cap_14, cap_15, cap_16, cap_17, cap_18, cap_19, cap_20, cap_21, cap_22, cap_23, cap_24, cap_25, cap_26, cap_27, cap_28, cap_29, cap_30, cap_31, cap_32, cap_33, cap_34, cap_35, cap_36, cap_37, cap_38, cap_39, cap_40, eBor, brw, D.noL, D.noLs, sRaise, sTry, isE, qXf, cleanR, D.noX, D.noXs, rfX, boolF, Option.map_some, Option.map_none, Option.getD_some, C1_d_law_same, isi_int_int, isi_bool_int]
theorem pin_eq (p i : Int) (h : 0 ≤ i ∧ i < p) : d_is_pin [.int p, .int i] = .rt (.bl true) := by
  have h1 : decide (0 ≤ i) = true := decide_eq_true h.1
  have h2 : decide (i < p) = true := decide_eq_true h.2
  simp -implicitDefEqProofs only [d_is_pin, b_d_is_pin, runF, eBinR, qFld, eMth, eMth0, eProp, lot_pure, lot_frz, lot_isO, eBad, sBad, gT, gCo, gNl, sAsg, sDput, eDget, eDget2, dicO, sPut, sPut2, sq_tup, sq_lst, sq_vec, sNx, sSeq, sIf, sRet, sSet, sEx, sBk, sCt, sFgt, fgt, eC, eV, eM, eBin, eUn, aNil, aCons, eTup, eLst, eFn, tB1, tAnd, tOr, tNot, eAnd, eOr, eNot, eIf, eCall, eCallK, pick, eQ, tQ1, qV, qC, qBin, qUn, qB, qAnd, qOr, qNot, qIf, qAndT, qOrT, qNotT, qChain, eChain, eLc, sFor, iSq, iRg1, iRg2, gN, itms, rst, eApp, D.frz, D.frzs, D.pure, D.pures, bind_ok, bind_ex, stmt_ok, stmt_ex, seq_nx, seq_rt, seq_ex, seq_bk, seq_ct, fgt_nx, fgt_bk, fgt_ct, fgt_rt, fgt_ex, out_nx, out_rt, out_ex, opt_some, optL_some, andB_tt, andB_ff, andB_some, orB_tt, orB_ff, orB_some, andX_tt, andX_ff, andX_some, orX_tt, orX_ff, orX_some, itAnd, itOr, itAndX, itOrX, Option.bind_some, List.map_cons, List.map_nil, List.length_cons, List.length_nil, List.cons_append, List.nil_append, List.getElem?_cons_zero, List.getElem?_cons_succ, List.getElem?_nil, List.set_cons_zero, List.set_cons_succ, List.replicate, addI_i, subD_i, ltD_i, leD_i, gtD_i, geD_i, eqS_int, neS_int, eqS_bl, neS_bl, max2_i, min2_i, maxL_i, minL_i, int1_i, intL_i, if_true, if_false, ite_true, ite_false, and_true, true_and, and_self, Bool.and_self, Bool.and_true, Bool.true_and, Bool.and_false, Bool.false_and, Bool.or_true, Bool.true_or, Bool.or_false, Bool.false_or, Bool.not_true, Bool.not_false, Nat.reduceAdd, Nat.reduceSub, Nat.reduceEqDiff, List.filterMap_cons, List.filterMap_nil, decide_true, decide_false, Bool.false_eq_true, reduceIte, Int.reduceAdd, Int.reduceSub, Int.reduceMul, Int.reduceNeg, Int.reduceLT, Int.reduceLE, Int.reduceEq, Int.reduceMod, Int.reduceDiv, Int.lt_irrefl, reduceCtorEq, D.frzs_int, D.pures_int, cap_0, cap_1, cap_2, cap_3, cap_4, cap_5, cap_6, cap_7, cap_8, cap_9, cap_10, cap_11, cap_12, cap_13, cap_14, cap_15, cap_16, cap_17, cap_18, cap_19, cap_20, cap_21, cap_22, cap_23, cap_24, cap_25, cap_26, cap_27, cap_28, cap_29, cap_30, cap_31, cap_32, cap_33, cap_34, cap_35, cap_36, cap_37, cap_38, cap_39, cap_40, eBor, brw, D.noL, D.noLs, sRaise, sTry, isE, qXf, cleanR, D.noX, D.noXs, rfX, boolF, Option.map_some, Option.map_none, Option.getD_some, C1_d_law_same, whole_eq, h1, h2]
def okE (p : Int) (t : T3) : Prop := (0 ≤ t.1 ∧ t.1 < p) ∧ (0 ≤ t.2.1 ∧ t.2.1 < p) ∧ t.1 ≠ t.2.1 ∧ 1 ≤ t.2.2
theorem isiLT_tup (ds : List D) : isiLT [.tup ds, .tup [.val (.ty "list"), .val (.ty "tuple")]] = some (.bl true) := by
  show (if ("list" : String) = "list" ∧ ("tuple" : String) = "tuple" then isLT (.tup ds) else none) = _
  rw [if_pos ⟨rfl, rfl⟩]; rfl
theorem entry_eq (p : Int) (t : T3) (h : okE p t) : d_is_entry [.int p, tD t] = .rt (.bl true) := by
  obtain ⟨h1, h2, h3, h4⟩ := h
  have h5 : decide (1 ≤ t.2.2) = true := decide_eq_true h4
  have hl : len1 (.tup [.int t.1, .int t.2.1, .int t.2.2]) = some (.int 3) := rfl
  simp -implicitDefEqProofs only [d_is_entry, b_d_is_entry, tD, runF, eBinR, qFld, eMth, eMth0, eProp, lot_pure, lot_frz, lot_isO, eBad, sBad, gT, gCo, gNl, sAsg, sDput, eDget, eDget2, dicO, sPut, sPut2, sq_tup, sq_lst, sq_vec, sNx, sSeq, sIf, sRet, sSet, sEx, sBk, sCt, sFgt, fgt, eC, eV, eM, eBin, eUn, aNil, aCons, eTup, eLst, eFn, tB1, tAnd, tOr, tNot, eAnd, eOr, eNot, eIf, eCall, eCallK, pick, eQ, tQ1, qV, qC, qBin, qUn, qB, qAnd, qOr, qNot, qIf, qAndT, qOrT, qNotT, qChain, eChain, eLc, sFor, iSq, iRg1, iRg2, gN, itms, rst, eApp, D.frz, D.frzs, D.pure, D.pures, bind_ok, bind_ex, stmt_ok, stmt_ex, seq_nx, seq_rt, seq_ex, seq_bk, seq_ct, fgt_nx, fgt_bk, fgt_ct, fgt_rt, fgt_ex, out_nx, out_rt, out_ex, opt_some, optL_some, andB_tt, andB_ff, andB_some, orB_tt, orB_ff, orB_some, andX_tt, andX_ff, andX_some, orX_tt, orX_ff, orX_some, itAnd, itOr, itAndX, itOrX, Option.bind_some, List.map_cons, List.map_nil, List.length_cons, List.length_nil, List.cons_append, List.nil_append, List.getElem?_cons_zero, List.getElem?_cons_succ, List.getElem?_nil, List.set_cons_zero, List.set_cons_succ, List.replicate, addI_i, subD_i, ltD_i, leD_i, gtD_i, geD_i, eqS_int, neS_int, eqS_bl, neS_bl, max2_i, min2_i, maxL_i, minL_i, int1_i, intL_i, if_true, if_false, ite_true, ite_false, and_true, true_and, and_self, Bool.and_self, Bool.and_true, Bool.true_and, Bool.and_false, Bool.false_and, Bool.or_true, Bool.true_or, Bool.or_false, Bool.false_or, Bool.not_true, Bool.not_false, Nat.reduceAdd, Nat.reduceSub, Nat.reduceEqDiff, List.filterMap_cons, List.filterMap_nil, decide_true, decide_false, Bool.false_eq_true, reduceIte, Int.reduceAdd, Int.reduceSub, Int.reduceMul, Int.reduceNeg, Int.reduceLT, Int.reduceLE, Int.reduceEq, Int.reduceMod, Int.reduceDiv, Int.lt_irrefl, reduceCtorEq, D.frzs_int, D.pures_int, cap_0, cap_1, cap_2, cap_3, cap_4, cap_5, cap_6, cap_7, cap_8, cap_9, cap_10, cap_11, cap_12, cap_13, cap_14, cap_15, cap_16, cap_17, cap_18, cap_19, cap_20, cap_21, cap_22, cap_23, cap_24, cap_25, cap_26, cap_27, cap_28, cap_29, cap_30, cap_31, cap_32, cap_33, cap_34, cap_35, cap_36, cap_37, cap_38, cap_39, cap_40, eBor, brw, D.noL, D.noLs, sRaise, sTry, isE, qXf, cleanR, D.noX, D.noXs, rfX, boolF, Option.map_some, Option.map_none, Option.getD_some, C1_d_law_same, isiLT_tup, hl, pin_eq p _ h1, pin_eq p _ h2, whole_eq, h3, h5]
theorem init_loop (p : Int) (d c : D) (ts : List T3) (h : ∀ t ∈ ts, okE p t) : loop (gN 3) B1_d_Lot___init__ (ts.map tD) [some c, some (.int p), some d, none] = .nx [some c, some (.int p), some d, none] := by
  refine loop_same tD ts _ fun t ht => ⟨_, rfl, ?_⟩
  have e := entry_eq p t (h t ht)
  have e1 : (tD t).frz = tD t := rfl
  simp -implicitDefEqProofs only [B1_d_Lot___init__, runF, eBinR, qFld, eMth, eMth0, eProp, lot_pure, lot_frz, lot_isO, eBad, sBad, gT, gCo, gNl, sAsg, sDput, eDget, eDget2, dicO, sPut, sPut2, sq_tup, sq_lst, sq_vec, sNx, sSeq, sIf, sRet, sSet, sEx, sBk, sCt, sFgt, fgt, eC, eV, eM, eBin, eUn, aNil, aCons, eTup, eLst, eFn, tB1, tAnd, tOr, tNot, eAnd, eOr, eNot, eIf, eCall, eCallK, pick, eQ, tQ1, qV, qC, qBin, qUn, qB, qAnd, qOr, qNot, qIf, qAndT, qOrT, qNotT, qChain, eChain, eLc, sFor, iSq, iRg1, iRg2, gN, itms, rst, eApp, D.frz, D.frzs, D.pure, D.pures, bind_ok, bind_ex, stmt_ok, stmt_ex, seq_nx, seq_rt, seq_ex, seq_bk, seq_ct, fgt_nx, fgt_bk, fgt_ct, fgt_rt, fgt_ex, out_nx, out_rt, out_ex, opt_some, optL_some, andB_tt, andB_ff, andB_some, orB_tt, orB_ff, orB_some, andX_tt, andX_ff, andX_some, orX_tt, orX_ff, orX_some, itAnd, itOr, itAndX, itOrX, Option.bind_some, List.map_cons, List.map_nil, List.length_cons, List.length_nil, List.cons_append, List.nil_append, List.getElem?_cons_zero, List.getElem?_cons_succ, List.getElem?_nil, List.set_cons_zero, List.set_cons_succ, List.replicate, addI_i, subD_i, ltD_i, leD_i, gtD_i, geD_i, eqS_int, neS_int, eqS_bl, neS_bl, max2_i, min2_i, maxL_i, minL_i, int1_i, intL_i, if_true, if_false, ite_true, ite_false, and_true, true_and, and_self, Bool.and_self, Bool.and_true, Bool.true_and, Bool.and_false, Bool.false_and, Bool.or_true, Bool.true_or, Bool.or_false, Bool.false_or, Bool.not_true, Bool.not_false, Nat.reduceAdd, Nat.reduceSub, Nat.reduceEqDiff, List.filterMap_cons, List.filterMap_nil, decide_true, decide_false, Bool.false_eq_true, reduceIte, Int.reduceAdd, Int.reduceSub, Int.reduceMul, Int.reduceNeg, Int.reduceLT, Int.reduceLE, Int.reduceEq, Int.reduceMod, Int.reduceDiv, Int.lt_irrefl, reduceCtorEq, D.frzs_int, D.pures_int, cap_0, cap_1, cap_2, cap_3, cap_4, cap_5, cap_6, cap_7, cap_8, cap_9, cap_10, cap_11, cap_12, cap_13, cap_14, cap_15, cap_16, cap_17, cap_18, cap_19, cap_20, cap_21, cap_22, cap_23, cap_24, cap_25, cap_26, cap_27, cap_28, cap_29, cap_30, cap_31, cap_32, cap_33, cap_34, cap_35, cap_36, cap_37, cap_38, cap_39, cap_40, eBor, brw, D.noL, D.noLs, sRaise, sTry, isE, qXf, cleanR, D.noX, D.noXs, rfX, boolF, Option.map_some, Option.map_none, Option.getD_some, C1_d_law_same, e1, e]
theorem make_eq (p : Int) (d : D) (ts : List T3) (hd : SeqD d (ts.map tD)) (hp : 0 ≤ p) (h : ∀ t ∈ ts, okE p t) (hl : ts.length < 1000000) : d_Lot___init__ [.int p, d] = .rt (lotD p (comb ts)) := by
  have h1 : decide (p < 0) = false := decide_eq_false (by omega)
  unfold lotD
  rcases hd with rfl | rfl
  · simp -implicitDefEqProofs only [d_Lot___init__, b_d_Lot___init__, runI, runF, eBinR, qFld, eMth, eMth0, eProp, lot_pure, lot_frz, lot_isO, eBad, sBad, gT, gCo, gNl, sAsg, sDput, eDget, eDget2, dicO, sPut, sPut2, sq_tup, sq_lst, sq_vec, sNx, sSeq, sIf, sRet, sSet, sEx, sBk, sCt, sFgt, fgt, eC, eV, eM, eBin, eUn, aNil, aCons, eTup, eLst, eFn, tB1, tAnd, tOr, tNot, eAnd, eOr, eNot, eIf, eCall, eCallK, pick, eQ, tQ1, qV, qC, qBin, qUn, qB, qAnd, qOr, qNot, qIf, qAndT, qOrT, qNotT, qChain, eChain, eLc, sFor, iSq, iRg1, iRg2, gN, itms, rst, eApp, D.frz, D.frzs, D.pure, D.pures, bind_ok, bind_ex, stmt_ok, stmt_ex, seq_nx, seq_rt, seq_ex, seq_bk, seq_ct, fgt_nx, fgt_bk, fgt_ct, fgt_rt, fgt_ex, out_nx, out_rt, out_ex, opt_some, optL_some, andB_tt, andB_ff, andB_some, orB_tt, orB_ff, orB_some, andX_tt, andX_ff, andX_some, orX_tt, orX_ff, orX_some, itAnd, itOr, itAndX, itOrX, Option.bind_some, List.map_cons, List.map_nil, List.length_cons, List.length_nil, List.cons_append, List.nil_append, List.getElem?_cons_zero, List.getElem?_cons_succ, List.getElem?_nil, List.set_cons_zero, List.set_cons_succ, List.replicate, addI_i, subD_i, ltD_i, leD_i, gtD_i, geD_i, eqS_int, neS_int, eqS_bl, neS_bl, max2_i, min2_i, maxL_i, minL_i, int1_i, intL_i, if_true, if_false, ite_true, ite_false, and_true, true_and, and_self, Bool.and_self, Bool.and_true, Bool.true_and, Bool.and_false, Bool.false_and, Bool.or_true, Bool.true_or, Bool.or_false, Bool.false_or, Bool.not_true, Bool.not_false, Nat.reduceAdd, Nat.reduceSub, Nat.reduceEqDiff, List.filterMap_cons, List.filterMap_nil, decide_true, decide_false, Bool.false_eq_true, reduceIte, Int.reduceAdd, Int.reduceSub, Int.reduceMul, Int.reduceNeg, Int.reduceLT, Int.reduceLE, Int.reduceEq, Int.reduceMod, Int.reduceDiv, Int.lt_irrefl, reduceCtorEq, D.frzs_int, D.pures_int, cap_0, cap_1, cap_2, cap_3, cap_4, cap_5, cap_6, cap_7, cap_8, cap_9, cap_10, cap_11, cap_12, cap_13, cap_14, cap_15, cap_16, cap_17, cap_18, cap_19, cap_20, cap_21, cap_22, cap_23, cap_24, cap_25, cap_26, cap_27, cap_28, cap_29, cap_30, cap_31, cap_32, cap_33, cap_34, cap_35, cap_36, cap_37, cap_38, cap_39, cap_40, eBor, brw, D.noL, D.noLs, sRaise, sTry, isE, qXf, cleanR, D.noX, D.noXs, rfX, boolF, Option.map_some, Option.map_none, Option.getD_some, C1_d_law_same, whole_eq, h1, frzs_tD, init_loop p _ _ ts h, sFld, combined_eq _ ts (.inl rfl) hl, Nat.le_refl, Nat.lt_irrefl]
  · simp -implicitDefEqProofs only [d_Lot___init__, b_d_Lot___init__, runI, runF, eBinR, qFld, eMth, eMth0, eProp, lot_pure, lot_frz, lot_isO, eBad, sBad, gT, gCo, gNl, sAsg, sDput, eDget, eDget2, dicO, sPut, sPut2, sq_tup, sq_lst, sq_vec, sNx, sSeq, sIf, sRet, sSet, sEx, sBk, sCt, sFgt, fgt, eC, eV, eM, eBin, eUn, aNil, aCons, eTup, eLst, eFn, tB1, tAnd, tOr, tNot, eAnd, eOr, eNot, eIf, eCall, eCallK, pick, eQ, tQ1, qV, qC, qBin, qUn, qB, qAnd, qOr, qNot, qIf, qAndT, qOrT, qNotT, qChain, eChain, eLc, sFor, iSq, iRg1, iRg2, gN, itms, rst, eApp, D.frz, D.frzs, D.pure, D.pures, bind_ok, bind_ex, stmt_ok, stmt_ex, seq_nx, seq_rt, seq_ex, seq_bk, seq_ct, fgt_nx, fgt_bk, fgt_ct, fgt_rt, fgt_ex, out_nx, out_rt, out_ex, opt_some, optL_some, andB_tt, andB_ff, andB_some, orB_tt, orB_ff, orB_some, andX_tt, andX_ff, andX_some, orX_tt, orX_ff, orX_some, itAnd, itOr, itAndX, itOrX, Option.bind_some, List.map_cons, List.map_nil, List.length_cons, List.length_nil, List.cons_append, List.nil_append, List.getElem?_cons_zero, List.getElem?_cons_succ, List.getElem?_nil, List.set_cons_zero, List.set_cons_succ, List.replicate, addI_i, subD_i, ltD_i, leD_i, gtD_i, geD_i, eqS_int, neS_int, eqS_bl, neS_bl, max2_i, min2_i, maxL_i, minL_i, int1_i, intL_i, if_true, if_false, ite_true, ite_false, and_true, true_and, and_self, Bool.and_self, Bool.and_true, Bool.true_and, Bool.and_false, Bool.false_and, Bool.or_true, Bool.true_or, Bool.or_false, Bool.false_or, Bool.not_true, Bool.not_false, Nat.reduceAdd, Nat.reduceSub, Nat.reduceEqDiff, List.filterMap_cons, List.filterMap_nil, decide_true, decide_false, Bool.false_eq_true, reduceIte, Int.reduceAdd, Int.reduceSub, Int.reduceMul, Int.reduceNeg, Int.reduceLT, Int.reduceLE, Int.reduceEq, Int.reduceMod, Int.reduceDiv, Int.lt_irrefl, reduceCtorEq, D.frzs_int, D.pures_int, cap_0, cap_1, cap_2, cap_3, cap_4, cap_5, cap_6, cap_7, cap_8, cap_9, cap_10, cap_11, cap_12, cap_13, cap_14, cap_15, cap_16, cap_17, cap_18, cap_19, cap_20, cap_21, cap_22, cap_23, cap_24, cap_25, cap_26, cap_27, cap_28, cap_29, cap_30, cap_31, cap_32, cap_33, cap_34, cap_35, cap_36, cap_37, cap_38, cap_39, cap_40, eBor, brw, D.noL, D.noLs, sRaise, sTry, isE, qXf, cleanR, D.noX, D.noXs, rfX, boolF, Option.map_some, Option.map_none, Option.getD_some, C1_d_law_same, whole_eq, h1, frzs_tD, init_loop p _ _ ts h, sFld, combined_eq _ ts (.inr rfl) hl, Nat.le_refl, Nat.lt_irrefl]
/-- cords of a rim with p pins -/
def okL (p : Int) (cs : List T3) : Prop := ∀ t ∈ cs, okE p t
theorem okE_good {p : Int} {t : T3} (h : okE p t) : good t = true := by
  unfold good
  rw [Bool.and_eq_true, decide_eq_true_eq]
  have := h.2.2.1
  exact ⟨by simp [this], by have := h.2.2.2; omega⟩
theorem ok_comb {p : Int} {cs : List T3} (h : okL p cs) : okL p (comb cs) := fun t ht => by
  obtain ⟨h1, h2, h3⟩ := comb_good ht
  obtain ⟨u, hu, hg, e⟩ := (mem_met cs _).mp h3
  obtain ⟨k1, k2, k3, k4⟩ := h u hu
  have e1 : min u.1 u.2.1 = t.1 := congrArg (·.1) e
  have e2 : max u.1 u.2.1 = t.2.1 := congrArg (·.2) e
  refine ⟨?_, ?_, ?_, ?_⟩ <;> omega
/-- the cords in normal form on the rim -/
def NF (p : Int) (cs : List T3) : Prop := okL p cs ∧ comb cs = cs
theorem nf_comb {p : Int} {cs : List T3} (h : okL p cs) : NF p (comb cs) := ⟨ok_comb h, comb_comb cs⟩
theorem nf_lt {p : Int} {cs : List T3} (h : NF p cs) : ∀ t ∈ cs, t.1 < t.2.1 := fun t ht => (comb_good (ts := cs) (by rw [h.2]; exact ht)).1
theorem make_nf (p : Int) (d : D) (ts : List T3) (hd : SeqD d (ts.map tD)) (hp : 0 ≤ p) (h : NF p ts) (hl : ts.length < 1000000) : d_Lot___init__ [.int p, d] = .rt (lotD p ts) := by
  rw [make_eq p d ts hd hp h.1 hl, h.2]

end Math

set_option Elab.async false
set_option linter.all false
set_option maxRecDepth 100000
set_option maxHeartbeats 2000000
namespace Math
open PySem FL Prg
open L2 (atI atI_nat ixN)
theorem mem2 (a c d : Int) : a ∈ [c, d] ↔ a = c ∨ a = d := by simp
theorem sum_ints {α : Type} (l : List α) (f : α → Int) : sumL [.vec (l.map fun t => .int (f t))] = some (.int (l.map f).sum) := by
  have e2 : (l.map fun t => D.int (f t)) = (l.map f).map D.int := by rw [List.map_map]; rfl
  rw [e2]; exact sumL_vec _
/-- the cords met on a walk from one gap to another -/
def sepM (i j : Int) (t : T3) : Bool := !decide (decide (t.1 ≤ i ∧ i < t.2.1) = decide (t.1 ≤ j ∧ j < t.2.1))
def passM (ts : List T3) (i j : Int) : Int := ((ts.filter (sepM i j)).map fun t => t.2.2).sum
theorem pass_eq (d : D) (ts : List T3) (hd : SeqD d (ts.map tD)) (i j : Int) (hl : ts.length < 1000000) : d_raw_passing [d, .int i, .int j] = .rt (.int (passM ts i j)) := by
  have key : ∀ x : D, lcl [3, 4, 5] (gT 3 (gCo (gN 3) (gCo (gN 4) (gCo (gN 5) gNl)))) T1_d_raw_passing (eV 5) (ts.map tD) [] [some x, some (.int i), some (.int j), none, none, none] = .ok ([] ++ (ts.filter (sepM i j)).map fun t => .int t.2.2) [some x, some (.int i), some (.int j), none, none, none] := fun x =>
    lcl_map tD _ _ ts [] (by simp only [List.length_nil]; omega) fun t ht => by
      refine ⟨_, [some x, some (.int i), some (.int j), some (.int t.1), some (.int t.2.1), some (.int t.2.2)], rfl, ?_, fun _ => ⟨[some x, some (.int i), some (.int j), some (.int t.1), some (.int t.2.1), some (.int t.2.2)], rfl, rfl⟩, fun _ => rfl⟩
      by_cases h1 : t.1 ≤ i <;> by_cases h2 : i < t.2.1 <;> by_cases h3 : t.1 ≤ j <;> by_cases h4 : j < t.2.1 <;> simp -implicitDefEqProofs only [T1_d_raw_passing, runF, eBinR, qFld, eMth, eMth0, eProp, lot_pure, lot_frz, lot_isO, eBad, sBad, gT, gCo, gNl, sAsg, sDput, eDget, eDget2, dicO, sPut, sPut2, sq_tup, sq_lst, sq_vec, sNx, sSeq, sIf, sRet, sSet, sEx, sBk, sCt, sFgt, fgt, eC, eV, eM, eBin, eUn, aNil, aCons, eTup, eLst, eFn, tB1, tAnd, tOr, tNot, eAnd, eOr, eNot, eIf, eCall, eCallK, pick, eQ, tQ1, qV, qC, qBin, qUn, qB, qAnd, qOr, qNot, qIf, qAndT, qOrT, qNotT, qChain, eChain, eLc, sFor, iSq, iRg1, iRg2, gN, itms, rst, eApp, D.frz, D.frzs, D.pure, D.pures, bind_ok, bind_ex, stmt_ok, stmt_ex, seq_nx, seq_rt, seq_ex, seq_bk, seq_ct, fgt_nx, fgt_bk, fgt_ct, fgt_rt, fgt_ex, out_nx, out_rt, out_ex, opt_some, optL_some, andB_tt, andB_ff, andB_some, orB_tt, orB_ff, orB_some, andX_tt, andX_ff, andX_some, orX_tt, orX_ff, orX_some, itAnd, itOr, itAndX, itOrX, Option.bind_some, List.map_cons, List.map_nil, List.length_cons, List.length_nil, List.cons_append, List.nil_append, List.getElem?_cons_zero, List.getElem?_cons_succ, List.getElem?_nil, List.set_cons_zero, List.set_cons_succ, List.replicate, addI_i, subD_i, ltD_i, leD_i, gtD_i, geD_i, eqS_int, neS_int, eqS_bl, neS_bl, max2_i, min2_i, maxL_i, minL_i, int1_i, intL_i, if_true, if_false, ite_true, ite_false, and_true, true_and, and_self, Bool.and_self, Bool.and_true, Bool.true_and, Bool.and_false, Bool.false_and, Bool.or_true, Bool.true_or, Bool.or_false, Bool.false_or, Bool.not_true, Bool.not_false, Nat.reduceAdd, Nat.reduceSub, Nat.reduceEqDiff, List.filterMap_cons, List.filterMap_nil, decide_true, decide_false, Bool.false_eq_true, reduceIte, Int.reduceAdd, Int.reduceSub, Int.reduceMul, Int.reduceNeg, Int.reduceLT, Int.reduceLE, Int.reduceEq, Int.reduceMod, Int.reduceDiv, Int.lt_irrefl, reduceCtorEq, D.frzs_int, D.pures_int, cap_0, cap_1, cap_2, cap_3, cap_4, cap_5, cap_6, cap_7, cap_8, cap_9, cap_10, cap_11, cap_12, cap_13, cap_14, cap_15, cap_16, cap_17, cap_18, cap_19, cap_20, cap_21, cap_22, cap_23, cap_24, cap_25, cap_26, cap_27, cap_28, cap_29, cap_30, cap_31, cap_32, cap_33, cap_34, cap_35, cap_36, cap_37, cap_38, cap_39, cap_40, eBor, brw, D.noL, D.noLs, sRaise, sTry, isE, qXf, cleanR, D.noX, D.noXs, rfX, boolF, Option.map_some, Option.map_none, Option.getD_some, C1_d_law_same, h1, h2, h3, h4, sepM]
  rcases hd with rfl | rfl
  · simp -implicitDefEqProofs only [d_raw_passing, b_d_raw_passing, runF, eBinR, qFld, eMth, eMth0, eProp, lot_pure, lot_frz, lot_isO, eBad, sBad, gT, gCo, gNl, sAsg, sDput, eDget, eDget2, dicO, sPut, sPut2, sq_tup, sq_lst, sq_vec, sNx, sSeq, sIf, sRet, sSet, sEx, sBk, sCt, sFgt, fgt, eC, eV, eM, eBin, eUn, aNil, aCons, eTup, eLst, eFn, tB1, tAnd, tOr, tNot, eAnd, eOr, eNot, eIf, eCall, eCallK, pick, eQ, tQ1, qV, qC, qBin, qUn, qB, qAnd, qOr, qNot, qIf, qAndT, qOrT, qNotT, qChain, eChain, eLc, sFor, iSq, iRg1, iRg2, gN, itms, rst, eApp, D.frz, D.frzs, D.pure, D.pures, bind_ok, bind_ex, stmt_ok, stmt_ex, seq_nx, seq_rt, seq_ex, seq_bk, seq_ct, fgt_nx, fgt_bk, fgt_ct, fgt_rt, fgt_ex, out_nx, out_rt, out_ex, opt_some, optL_some, andB_tt, andB_ff, andB_some, orB_tt, orB_ff, orB_some, andX_tt, andX_ff, andX_some, orX_tt, orX_ff, orX_some, itAnd, itOr, itAndX, itOrX, Option.bind_some, List.map_cons, List.map_nil, List.length_cons, List.length_nil, List.cons_append, List.nil_append, List.getElem?_cons_zero, List.getElem?_cons_succ, List.getElem?_nil, List.set_cons_zero, List.set_cons_succ, List.replicate, addI_i, subD_i, ltD_i, leD_i, gtD_i, geD_i, eqS_int, neS_int, eqS_bl, neS_bl, max2_i, min2_i, maxL_i, minL_i, int1_i, intL_i, if_true, if_false, ite_true, ite_false, and_true, true_and, and_self, Bool.and_self, Bool.and_true, Bool.true_and, Bool.and_false, Bool.false_and, Bool.or_true, Bool.true_or, Bool.or_false, Bool.false_or, Bool.not_true, Bool.not_false, Nat.reduceAdd, Nat.reduceSub, Nat.reduceEqDiff, List.filterMap_cons, List.filterMap_nil, decide_true, decide_false, Bool.false_eq_true, reduceIte, Int.reduceAdd, Int.reduceSub, Int.reduceMul, Int.reduceNeg, Int.reduceLT, Int.reduceLE, Int.reduceEq, Int.reduceMod, Int.reduceDiv, Int.lt_irrefl, reduceCtorEq, D.frzs_int, D.pures_int, cap_0, cap_1, cap_2, cap_3, cap_4, cap_5, cap_6, cap_7, cap_8, cap_9, cap_10, cap_11, cap_12, cap_13, cap_14, cap_15, cap_16, cap_17, cap_18, cap_19, cap_20, cap_21, cap_22, cap_23, cap_24, cap_25, cap_26, cap_27, cap_28, cap_29, cap_30, cap_31, cap_32, cap_33, cap_34, cap_35, cap_36, cap_37, cap_38, cap_39, cap_40, eBor, brw, D.noL, D.noLs, sRaise, sTry, isE, qXf, cleanR, D.noX, D.noXs, rfX, boolF, Option.map_some, Option.map_none, Option.getD_some, C1_d_law_same, frzs_tD, key, sum_ints, passM]
  · simp -implicitDefEqProofs only [d_raw_passing, b_d_raw_passing, runF, eBinR, qFld, eMth, eMth0, eProp, lot_pure, lot_frz, lot_isO, eBad, sBad, gT, gCo, gNl, sAsg, sDput, eDget, eDget2, dicO, sPut, sPut2, sq_tup, sq_lst, sq_vec, sNx, sSeq, sIf, sRet, sSet, sEx, sBk, sCt, sFgt, fgt, eC, eV, eM, eBin, eUn, aNil, aCons, eTup, eLst, eFn, tB1, tAnd, tOr, tNot, eAnd, eOr, eNot, eIf, eCall, eCallK, pick, eQ, tQ1, qV, qC, qBin, qUn, qB, qAnd, qOr, qNot, qIf, qAndT, qOrT, qNotT, qChain, eChain, eLc, sFor, iSq, iRg1, iRg2, gN, itms, rst, eApp, D.frz, D.frzs, D.pure, D.pures, bind_ok, bind_ex, stmt_ok, stmt_ex, seq_nx, seq_rt, seq_ex, seq_bk, seq_ct, fgt_nx, fgt_bk, fgt_ct, fgt_rt, fgt_ex, out_nx, out_rt, out_ex, opt_some, optL_some, andB_tt, andB_ff, andB_some, orB_tt, orB_ff, orB_some, andX_tt, andX_ff, andX_some, orX_tt, orX_ff, orX_some, itAnd, itOr, itAndX, itOrX, Option.bind_some, List.map_cons, List.map_nil, List.length_cons, List.length_nil, List.cons_append, List.nil_append, List.getElem?_cons_zero, List.getElem?_cons_succ, List.getElem?_nil, List.set_cons_zero, List.set_cons_succ, List.replicate, addI_i, subD_i, ltD_i, leD_i, gtD_i, geD_i, eqS_int, neS_int, eqS_bl, neS_bl, max2_i, min2_i, maxL_i, minL_i, int1_i, intL_i, if_true, if_false, ite_true, ite_false, and_true, true_and, and_self, Bool.and_self, Bool.and_true, Bool.true_and, Bool.and_false, Bool.false_and, Bool.or_true, Bool.true_or, Bool.or_false, Bool.false_or, Bool.not_true, Bool.not_false, Nat.reduceAdd, Nat.reduceSub, Nat.reduceEqDiff, List.filterMap_cons, List.filterMap_nil, decide_true, decide_false, Bool.false_eq_true, reduceIte, Int.reduceAdd, Int.reduceSub, Int.reduceMul, Int.reduceNeg, Int.reduceLT, Int.reduceLE, Int.reduceEq, Int.reduceMod, Int.reduceDiv, Int.lt_irrefl, reduceCtorEq, D.frzs_int, D.pures_int, cap_0, cap_1, cap_2, cap_3, cap_4, cap_5, cap_6, cap_7, cap_8, cap_9, cap_10, cap_11, cap_12, cap_13, cap_14, cap_15, cap_16, cap_17, cap_18, cap_19, cap_20, cap_21, cap_22, cap_23, cap_24, cap_25, cap_26, cap_27, cap_28, cap_29, cap_30, cap_31, cap_32, cap_33, cap_34, cap_35, cap_36, cap_37, cap_38, cap_39, cap_40, eBor, brw, D.noL, D.noLs, sRaise, sTry, isE, qXf, cleanR, D.noX, D.noXs, rfX, boolF, Option.map_some, Option.map_none, Option.getD_some, C1_d_law_same, frzs_tD, key, sum_ints, passM]
/-- a table -/
def rowD (n : Nat) (f : Int → Int → Int) (i : Int) : D := .tup ((List.range n).map fun (j : Nat) => .int (f i j))
def tblD (n : Nat) (f : Int → Int → Int) : D := .tup ((List.range n).map fun (i : Nat) => rowD n f i)
theorem row_pure (n : Nat) (f : Int → Int → Int) (i : Int) : (rowD n f i).pure = true := by
  unfold rowD
  rw [D.pure]
  exact D.pures_map (fun _ => rfl) _
theorem tbl_pure (n : Nat) (f : Int → Int → Int) : (tblD n f).pure = true := by
  unfold tblD
  rw [D.pure]
  exact D.pures_map (f := fun i : Nat => rowD n f i) (fun i => row_pure n f i) _
theorem tbl_frz (n : Nat) (f : Int → Int → Int) : (tblD n f).frz = tblD n f := D.frz_of_pure (tbl_pure n f)
theorem row_frz (n : Nat) (f : Int → Int → Int) (i : Int) : (rowD n f i).frz = rowD n f i := D.frz_of_pure (row_pure n f i)
theorem ix_row (n : Nat) (f : Int → Int → Int) (i j : Int) (h : 0 ≤ j ∧ j < n) : ixD (rowD n f i) (.int j) = some (.int (f i j)) := by
  have e : atI ((List.range n).map fun (j : Nat) => D.int (f i j)) j = some (.int (f i j)) := by
    have hj : j = ((j.toNat : Nat) : Int) := by omega
    rw [hj]
    refine atI_nat ?_
    rw [List.getElem?_map, List.getElem?_range (by omega)]
    rfl
  exact ixD_sq (sq_tup _) e
theorem ix_tbl (n : Nat) (f : Int → Int → Int) (i : Int) (h : 0 ≤ i ∧ i < n) : ixD (tblD n f) (.int i) = some (rowD n f i) := by
  have e : atI ((List.range n).map fun (i : Nat) => rowD n f i) i = some (rowD n f i) := by
    have hj : i = ((i.toNat : Nat) : Int) := by omega
    rw [hj]
    refine atI_nat ?_
    rw [List.getElem?_map, List.getElem?_range (by omega)]
    rfl
  exact ixD_sq (sq_tup _) e
theorem isi_row (n : Nat) (f : Int → Int → Int) (i : Int) : isiD (tabTy "tuple") (rowD n f i) = some (.bl true) := rfl
theorem isi_tbl (n : Nat) (f : Int → Int → Int) : isiD (tabTy "tuple") (tblD n f) = some (.bl true) := rfl
theorem len_row (n : Nat) (f : Int → Int → Int) (i : Int) : len1 (rowD n f i) = some (.int n) := by
  have := len1_sq (sq_tup ((List.range n).map fun (j : Nat) => D.int (f i j)))
  rw [List.length_map, List.length_range] at this
  exact this
theorem len_tbl (n : Nat) (f : Int → Int → Int) : len1 (tblD n f) = some (.int n) := by
  have := len1_sq (sq_tup ((List.range n).map fun (i : Nat) => rowD n f i))
  rw [List.length_map, List.length_range] at this
  exact this
theorem itms_tbl (n : Nat) (f : Int → Int → Int) : itms (tblD n f) = some ((List.range n).map fun (i : Nat) => rowD n f i) := rfl
theorem rng0 (n : Nat) : ((List.range n).map fun (k : Nat) => (0 : Int) + k).map D.int = (List.range n).map fun (k : Nat) => D.int k := by
  rw [List.map_map]
  exact List.map_congr_left fun k _ => by show D.int ((0 : Int) + k) = _; rw [Int.zero_add]
theorem tab_eq (p : Int) (d : D) (ts : List T3) (hd : SeqD d (ts.map tD)) (hp : 0 ≤ p ∧ p ≤ 1000) (hl : ts.length < 1000000) : d_raw_table [.int p, d] = .rt (tblD (max p 1).toNat (passM ts)) := by
  have hb : bnd (max p 1) = true := bnd_of ⟨by omega, by omega⟩
  have e0 : (max p 1 - 0).toNat = (max p 1).toNat := by rw [Int.sub_zero]
  have hf := seq_frz hd
  have row : ∀ (i : Int), lcl [4] (gN 4) tT E1_d_raw_table ((List.range (max p 1).toNat).map fun (k : Nat) => D.int k) [] [some (.int p), some d, some (.int (max p 1)), some (.int i), none] =
      .ok ((List.range (max p 1).toNat).map fun (j : Nat) => .int (passM ts i j)) [some (.int p), some d, some (.int (max p 1)), some (.int i), none] := fun i =>
    lcl_all (fun (k : Nat) => D.int k) (fun (j : Nat) => .int (passM ts i j)) _ (by rw [List.length_range]; omega) fun j hj => by
      refine ⟨_, [some (.int p), some d, some (.int (max p 1)), some (.int i), some (.int j)], rfl, ?_, rfl⟩
      simp -implicitDefEqProofs only [E1_d_raw_table, runF, eBinR, qFld, eMth, eMth0, eProp, lot_pure, lot_frz, lot_isO, eBad, sBad, gT, gCo, gNl, sAsg, sDput, eDget, eDget2, dicO, sPut, sPut2, sq_tup, sq_lst, sq_vec, sNx, sSeq, sIf, sRet, sSet, sEx, sBk, sCt, sFgt, fgt, eC, eV, eM, eBin, eUn, aNil, aCons, eTup, eLst, eFn, tB1, tAnd, tOr, tNot, eAnd, eOr, eNot, eIf, eCall, eCallK, pick, eQ, tQ1, qV, qC, qBin, qUn, qB, qAnd, qOr, qNot, qIf, qAndT, qOrT, qNotT, qChain, eChain, eLc, sFor, iSq, iRg1, iRg2, gN, itms, rst, eApp, D.frz, D.frzs, D.pure, D.pures, bind_ok, bind_ex, stmt_ok, stmt_ex, seq_nx, seq_rt, seq_ex, seq_bk, seq_ct, fgt_nx, fgt_bk, fgt_ct, fgt_rt, fgt_ex, out_nx, out_rt, out_ex, opt_some, optL_some, andB_tt, andB_ff, andB_some, orB_tt, orB_ff, orB_some, andX_tt, andX_ff, andX_some, orX_tt, orX_ff, orX_some, itAnd, itOr, itAndX, itOrX, Option.bind_some, List.map_cons, List.map_nil, List.length_cons, List.length_nil, List.cons_append, List.nil_append, List.getElem?_cons_zero, List.getElem?_cons_succ, List.getElem?_nil, List.set_cons_zero, List.set_cons_succ, List.replicate, addI_i, subD_i, ltD_i, leD_i, gtD_i, geD_i, eqS_int, neS_int, eqS_bl, neS_bl, max2_i, min2_i, maxL_i, minL_i, int1_i, intL_i, if_true, if_false, ite_true, ite_false, and_true, true_and, and_self, Bool.and_self, Bool.and_true, Bool.true_and, Bool.and_false, Bool.false_and, Bool.or_true, Bool.true_or, Bool.or_false, Bool.false_or, Bool.not_true, Bool.not_false, Nat.reduceAdd, Nat.reduceSub, Nat.reduceEqDiff, List.filterMap_cons, List.filterMap_nil, decide_true, decide_false, Bool.false_eq_true, reduceIte, Int.reduceAdd, Int.reduceSub, Int.reduceMul, Int.reduceNeg, Int.reduceLT, Int.reduceLE, Int.reduceEq, Int.reduceMod, Int.reduceDiv, Int.lt_irrefl, reduceCtorEq, D.frzs_int, D.pures_int, cap_0, cap_1, cap_2, cap_3, cap_4, cap_5, cap_6, cap_7, cap_8, cap_9, cap_10, cap_11, cap_12, cap_13, cap_14, cap_15, cap_16, cap_17, cap_18, cap_19, cap_20, cap_21, cap_22, cap_23, cap_24, cap_25, cap_26, cap_27, cap_28, cap_29, cap_30, cap_31, cap_32, cap_33, cap_34, cap_35, cap_36, cap_37, cap_38, cap_39, cap_40, eBor, brw, D.noL, D.noLs, sRaise, sTry, isE, qXf, cleanR, D.noX, D.noXs, rfX, boolF, Option.map_some, Option.map_none, Option.getD_some, C1_d_law_same, hf, pass_eq d ts hd i j hl]
  have all : lcl [3] (gN 3) tT E2_d_raw_table ((List.range (max p 1).toNat).map fun (k : Nat) => D.int k) [] [some (.int p), some d, some (.int (max p 1)), none, none] =
      .ok ((List.range (max p 1).toNat).map fun (i : Nat) => rowD (max p 1).toNat (passM ts) i) [some (.int p), some d, some (.int (max p 1)), none, none] :=
    lcl_all (fun (k : Nat) => D.int k) (fun (i : Nat) => rowD (max p 1).toNat (passM ts) i) _ (by rw [List.length_range]; omega) fun i hi => by
      refine ⟨_, [some (.int p), some d, some (.int (max p 1)), some (.int i), none], rfl, ?_, rfl⟩
      simp -implicitDefEqProofs only [E2_d_raw_table, runF, eBinR, qFld, eMth, eMth0, eProp, lot_pure, lot_frz, lot_isO, eBad, sBad, gT, gCo, gNl, sAsg, sDput, eDget, eDget2, dicO, sPut, sPut2, sq_tup, sq_lst, sq_vec, sNx, sSeq, sIf, sRet, sSet, sEx, sBk, sCt, sFgt, fgt, eC, eV, eM, eBin, eUn, aNil, aCons, eTup, eLst, eFn, tB1, tAnd, tOr, tNot, eAnd, eOr, eNot, eIf, eCall, eCallK, pick, eQ, tQ1, qV, qC, qBin, qUn, qB, qAnd, qOr, qNot, qIf, qAndT, qOrT, qNotT, qChain, eChain, eLc, sFor, iSq, iRg1, iRg2, gN, itms, rst, eApp, D.frz, D.frzs, D.pure, D.pures, bind_ok, bind_ex, stmt_ok, stmt_ex, seq_nx, seq_rt, seq_ex, seq_bk, seq_ct, fgt_nx, fgt_bk, fgt_ct, fgt_rt, fgt_ex, out_nx, out_rt, out_ex, opt_some, optL_some, andB_tt, andB_ff, andB_some, orB_tt, orB_ff, orB_some, andX_tt, andX_ff, andX_some, orX_tt, orX_ff, orX_some, itAnd, itOr, itAndX, itOrX, Option.bind_some, List.map_cons, List.map_nil, List.length_cons, List.length_nil, List.cons_append, List.nil_append, List.getElem?_cons_zero, List.getElem?_cons_succ, List.getElem?_nil, List.set_cons_zero, List.set_cons_succ, List.replicate, addI_i, subD_i, ltD_i, leD_i, gtD_i, geD_i, eqS_int, neS_int, eqS_bl, neS_bl, max2_i, min2_i, maxL_i, minL_i, int1_i, intL_i, if_true, if_false, ite_true, ite_false, and_true, true_and, and_self, Bool.and_self, Bool.and_true, Bool.true_and, Bool.and_false, Bool.false_and, Bool.or_true, Bool.true_or, Bool.or_false, Bool.false_or, Bool.not_true, Bool.not_false, Nat.reduceAdd, Nat.reduceSub, Nat.reduceEqDiff, List.filterMap_cons, List.filterMap_nil, decide_true, decide_false, Bool.false_eq_true, reduceIte, Int.reduceAdd, Int.reduceSub, Int.reduceMul, Int.reduceNeg, Int.reduceLT, Int.reduceLE, Int.reduceEq, Int.reduceMod, Int.reduceDiv, Int.lt_irrefl, reduceCtorEq, D.frzs_int, D.pures_int, cap_0, cap_1, cap_2, cap_3, cap_4, cap_5, cap_6, cap_7, cap_8, cap_9, cap_10, cap_11, cap_12, cap_13, cap_14, cap_15, cap_16, cap_17, cap_18, cap_19, cap_20, cap_21, cap_22, cap_23, cap_24, cap_25, cap_26, cap_27, cap_28, cap_29, cap_30, cap_31, cap_32, cap_33, cap_34, cap_35, cap_36, cap_37, cap_38, cap_39, cap_40, eBor, brw, D.noL, D.noLs, sRaise, sTry, isE, qXf, cleanR, D.noX, D.noXs, rfX, boolF, Option.map_some, Option.map_none, Option.getD_some, C1_d_law_same, hb, rng_eq, e0, rng0, row, tupL_sq (sq_vec _)]
      rfl
  simp -implicitDefEqProofs only [d_raw_table, b_d_raw_table, runF, eBinR, qFld, eMth, eMth0, eProp, lot_pure, lot_frz, lot_isO, eBad, sBad, gT, gCo, gNl, sAsg, sDput, eDget, eDget2, dicO, sPut, sPut2, sq_tup, sq_lst, sq_vec, sNx, sSeq, sIf, sRet, sSet, sEx, sBk, sCt, sFgt, fgt, eC, eV, eM, eBin, eUn, aNil, aCons, eTup, eLst, eFn, tB1, tAnd, tOr, tNot, eAnd, eOr, eNot, eIf, eCall, eCallK, pick, eQ, tQ1, qV, qC, qBin, qUn, qB, qAnd, qOr, qNot, qIf, qAndT, qOrT, qNotT, qChain, eChain, eLc, sFor, iSq, iRg1, iRg2, gN, itms, rst, eApp, D.frz, D.frzs, D.pure, D.pures, bind_ok, bind_ex, stmt_ok, stmt_ex, seq_nx, seq_rt, seq_ex, seq_bk, seq_ct, fgt_nx, fgt_bk, fgt_ct, fgt_rt, fgt_ex, out_nx, out_rt, out_ex, opt_some, optL_some, andB_tt, andB_ff, andB_some, orB_tt, orB_ff, orB_some, andX_tt, andX_ff, andX_some, orX_tt, orX_ff, orX_some, itAnd, itOr, itAndX, itOrX, Option.bind_some, List.map_cons, List.map_nil, List.length_cons, List.length_nil, List.cons_append, List.nil_append, List.getElem?_cons_zero, List.getElem?_cons_succ, List.getElem?_nil, List.set_cons_zero, List.set_cons_succ, List.replicate, addI_i, subD_i, ltD_i, leD_i, gtD_i, geD_i, eqS_int, neS_int, eqS_bl, neS_bl, max2_i, min2_i, maxL_i, minL_i, int1_i, intL_i, if_true, if_false, ite_true, ite_false, and_true, true_and, and_self, Bool.and_self, Bool.and_true, Bool.true_and, Bool.and_false, Bool.false_and, Bool.or_true, Bool.true_or, Bool.or_false, Bool.false_or, Bool.not_true, Bool.not_false, Nat.reduceAdd, Nat.reduceSub, Nat.reduceEqDiff, List.filterMap_cons, List.filterMap_nil, decide_true, decide_false, Bool.false_eq_true, reduceIte, Int.reduceAdd, Int.reduceSub, Int.reduceMul, Int.reduceNeg, Int.reduceLT, Int.reduceLE, Int.reduceEq, Int.reduceMod, Int.reduceDiv, Int.lt_irrefl, reduceCtorEq, D.frzs_int, D.pures_int, cap_0, cap_1, cap_2, cap_3, cap_4, cap_5, cap_6, cap_7, cap_8, cap_9, cap_10, cap_11, cap_12, cap_13, cap_14, cap_15, cap_16, cap_17, cap_18, cap_19, cap_20, cap_21, cap_22, cap_23, cap_24, cap_25, cap_26, cap_27, cap_28, cap_29, cap_30, cap_31, cap_32, cap_33, cap_34, cap_35, cap_36, cap_37, cap_38, cap_39, cap_40, eBor, brw, D.noL, D.noLs, sRaise, sTry, isE, qXf, cleanR, D.noX, D.noXs, rfX, boolF, Option.map_some, Option.map_none, Option.getD_some, C1_d_law_same, gaps_eq, hf, hb, rng_eq, e0, rng0, all, tupL_sq (sq_vec _)]
  rfl

end Math

set_option Elab.async false
set_option linter.all false
set_option maxRecDepth 100000
set_option maxHeartbeats 2000000
namespace Math
open PySem FL Prg
open L2 (atI atI_nat ixN)
/-! ### the law's own normal form -/
def pdP (p : Int × Int) : PyData := .tuple [.int p.1, .int p.2]
theorem pd_pair (i j : Int) : pdO (.tup [.int i, .int j]) = some (.tuple [.int i, .int j]) := rfl
theorem pds_pairs : ∀ ks : List (Int × Int), pdsO (ks.map mkP) = some (ks.map pdP)
  | [] => rfl
  | k :: ks => by
    rw [List.map_cons]
    unfold pdsO
    rw [show pdO (mkP k) = some (pdP k) from rfl, Option.bind_some, pds_pairs ks]
    rfl
theorem eqv_pair (p q : Int × Int) : PyData.eqv (pdP p) (pdP q) = decide (p = q) := by
  show (p.1 == q.1 && (p.2 == q.2 && true)) = _
  rw [Bool.and_true, Bool.eq_iff_iff, Bool.and_eq_true, decide_eq_true_eq]
  simp [Prod.ext_iff]
theorem any_pairs (ks : List (Int × Int)) (p : Int × Int) : ((ks.map pdP).any fun z => PyData.eqv z (pdP p)) = decide (p ∈ ks) := by
  rw [List.any_map, Bool.eq_iff_iff, List.any_eq_true, decide_eq_true_eq]
  constructor
  · rintro ⟨q, hq, e⟩
    have e' : PyData.eqv (pdP q) (pdP p) = true := e
    rw [eqv_pair, decide_eq_true_eq] at e'
    exact e' ▸ hq
  · intro h
    exact ⟨p, h, by show PyData.eqv (pdP p) (pdP p) = true; rw [eqv_pair]; simp⟩
theorem shaped_pair (p : Int × Int) : SeqAt.shaped (pdP p) = true := rfl
theorem canAll_pairs : ∀ ks : List (Int × Int), PyData.canLayAll0 (ks.map pdP) = true
  | [] => rfl
  | k :: ks => by
    rw [List.map_cons, PyData.canLayAll0, canAll_pairs ks]
    rfl
theorem depth_pairs : ∀ ks : List (Int × Int), PyData.depthAll (ks.map pdP) ≤ 1
  | [] => by decide
  | k :: ks => by
    rw [List.map_cons, PyData.depthAll]
    have := depth_pairs ks
    have e : PyData.depth (pdP k) = 1 := rfl
    omega
theorem shaped_pairs (ks : List (Int × Int)) : SeqAt.shaped (.list (ks.map pdP)) = true := by
  unfold SeqAt.shaped
  rw [Bool.and_eq_true, decide_eq_true_eq]
  refine ⟨?_, ?_⟩
  · show PyData.canLay0 (.list _) = true
    rw [PyData.canLay0]
    exact canAll_pairs ks
  · rw [PyData.depth]
    have := depth_pairs ks
    omega
theorem nin_pairs (i j : Int) (ks : List (Int × Int)) : dNin (.tup [.int i, .int j]) (.vec (ks.map mkP)) = some (.bl (!decide ((i, j) ∈ ks))) := by
  have e2 : pdO (.vec (ks.map mkP)) = some (.list (ks.map pdP)) := by
    unfold pdO
    rw [pds_pairs]
    rfl
  unfold dNin
  rw [pd_pair, e2]
  show (if deepOk (pdP (i, j)) (.list (ks.map pdP)) then some (D.bl (!(ks.map pdP).any fun z => PyData.eqv z (pdP (i, j)))) else none) = _
  have hy : deepOk (pdP (i, j)) (.list (ks.map pdP)) = true := yes_of ⟨shaped_pair _, shaped_pairs ks⟩
  rw [if_pos hy, any_pairs]

theorem atI_0 {α : Type} (a b c : α) : atI [a, b, c] 0 = some a := rfl
theorem atI_1 {α : Type} (a b c : α) : atI [a, b, c] 1 = some b := rfl
theorem atI_2 {α : Type} (a b c : α) : atI [a, b, c] 2 = some c := rfl
theorem ix_0 (t : T3) : ixD (tD t) (.int 0) = some (.int t.1) := rfl
theorem ix_1 (t : T3) : ixD (tD t) (.int 1) = some (.int t.2.1) := rfl
theorem ix_2 (t : T3) : ixD (tD t) (.int 2) = some (.int t.2.2) := rfl
theorem px_0 (t : Int × Int) : ixD (mkP t) (.int 0) = some (.int t.1) := rfl
theorem px_1 (t : Int × Int) : ixD (mkP t) (.int 1) = some (.int t.2) := rfl
/-- entries that a normal form may be made of: some of them of no width -/
def okZ (ts : List T3) : Prop := ∀ t ∈ ts, t.1 ≠ t.2.1 ∧ 0 ≤ t.2.2
theorem okZ_of {p : Int} {ts : List T3} (h : okL p ts) : okZ ts := fun t ht => ⟨(h t ht).2.2.1, by have := (h t ht).2.2.2; omega⟩
def envN (d : D) (ks : List (Int × Int)) : Rho := [some d, some (.vec (ks.map mkP)), none, none, none, none, none, none]
theorem norm_step (d : D) (pre : List T3) (t : T3) (hn : t.1 ≠ t.2.1) (hl : pre.length < 1000000) :
    B1_d_law_norm [some d, some (.vec ((met pre).map mkP)), some (tD t), none, none, none, none, none] = .nx (envN d (met (pre ++ [t]))) := by
  have hm := len_met pre
  have hc : cap ((met pre).map mkP).length = true := cap_of (by rw [List.length_map]; omega)
  rw [met_snoc]
  by_cases hp : 0 < t.2.2
  · have h1 : decide (0 < t.2.2) = true := decide_eq_true hp
    have hg : good t = true := by unfold good; rw [Bool.and_eq_true]; exact ⟨by simp [hn], h1⟩
    rw [if_pos hg]
    by_cases h : prT t ∈ met pre
    · have e : addK (met pre) (prT t) = met pre := if_pos h
      have h' : (min t.1 t.2.1, max t.1 t.2.1) ∈ met pre := h
      simp -implicitDefEqProofs only [B1_d_law_norm, runF, eBinR, qFld, eMth, eMth0, eProp, lot_pure, lot_frz, lot_isO, eBad, sBad, gT, gCo, gNl, sAsg, sDput, eDget, eDget2, dicO, sPut, sPut2, sq_tup, sq_lst, sq_vec, sNx, sSeq, sIf, sRet, sSet, sEx, sBk, sCt, sFgt, fgt, eC, eV, eM, eBin, eUn, aNil, aCons, eTup, eLst, eFn, tB1, tAnd, tOr, tNot, eAnd, eOr, eNot, eIf, eCall, eCallK, pick, eQ, tQ1, qV, qC, qBin, qUn, qB, qAnd, qOr, qNot, qIf, qAndT, qOrT, qNotT, qChain, eChain, eLc, sFor, iSq, iRg1, iRg2, gN, itms, rst, eApp, D.frz, D.frzs, D.pure, D.pures, bind_ok, bind_ex, stmt_ok, stmt_ex, seq_nx, seq_rt, seq_ex, seq_bk, seq_ct, fgt_nx, fgt_bk, fgt_ct, fgt_rt, fgt_ex, out_nx, out_rt, out_ex, opt_some, optL_some, andB_tt, andB_ff, andB_some, orB_tt, orB_ff, orB_some, andX_tt, andX_ff, andX_some, orX_tt, orX_ff, orX_some, itAnd, itOr, itAndX, itOrX, Option.bind_some, List.map_cons, List.map_nil, List.length_cons, List.length_nil, List.cons_append, List.nil_append, List.getElem?_cons_zero, List.getElem?_cons_succ, List.getElem?_nil, List.set_cons_zero, List.set_cons_succ, List.replicate, addI_i, subD_i, ltD_i, leD_i, gtD_i, geD_i, eqS_int, neS_int, eqS_bl, neS_bl, max2_i, min2_i, maxL_i, minL_i, int1_i, intL_i, if_true, if_false, ite_true, ite_false, and_true, true_and, and_self, Bool.and_self, Bool.and_true, Bool.true_and, Bool.and_false, Bool.false_and, Bool.or_true, Bool.true_or, Bool.or_false, Bool.false_or, Bool.not_true, Bool.not_false, Nat.reduceAdd, Nat.reduceSub, Nat.reduceEqDiff, List.filterMap_cons, List.filterMap_nil, decide_true, decide_false, Bool.false_eq_true, reduceIte, Int.reduceAdd, Int.reduceSub, Int.reduceMul, Int.reduceNeg, Int.reduceLT, Int.reduceLE, Int.reduceEq, Int.reduceMod, Int.reduceDiv, Int.lt_irrefl, reduceCtorEq, D.frzs_int, D.pures_int, cap_0, cap_1, cap_2, cap_3, cap_4, cap_5, cap_6, cap_7, cap_8, cap_9, cap_10, cap_11, cap_12, cap_13, cap_14, cap_15, cap_16, cap_17, cap_18, cap_19, cap_20, cap_21, cap_22, cap_23, cap_24, cap_25, cap_26, cap_27, cap_28, cap_29, cap_30, cap_31, cap_32, cap_33, cap_34, cap_35, cap_36, cap_37, cap_38, cap_39, cap_40, eBor, brw, D.noL, D.noLs, sRaise, sTry, isE, qXf, cleanR, D.noX, D.noXs, rfX, boolF, Option.map_some, Option.map_none, Option.getD_some, C1_d_law_same, ix_0, ix_1, ix_2, h1, nin_pairs, h', e, envN]
    · have e : addK (met pre) (prT t) = met pre ++ [prT t] := if_neg h
      have h' : ¬ (min t.1 t.2.1, max t.1 t.2.1) ∈ met pre := h
      simp -implicitDefEqProofs only [B1_d_law_norm, runF, eBinR, qFld, eMth, eMth0, eProp, lot_pure, lot_frz, lot_isO, eBad, sBad, gT, gCo, gNl, sAsg, sDput, eDget, eDget2, dicO, sPut, sPut2, sq_tup, sq_lst, sq_vec, sNx, sSeq, sIf, sRet, sSet, sEx, sBk, sCt, sFgt, fgt, eC, eV, eM, eBin, eUn, aNil, aCons, eTup, eLst, eFn, tB1, tAnd, tOr, tNot, eAnd, eOr, eNot, eIf, eCall, eCallK, pick, eQ, tQ1, qV, qC, qBin, qUn, qB, qAnd, qOr, qNot, qIf, qAndT, qOrT, qNotT, qChain, eChain, eLc, sFor, iSq, iRg1, iRg2, gN, itms, rst, eApp, D.frz, D.frzs, D.pure, D.pures, bind_ok, bind_ex, stmt_ok, stmt_ex, seq_nx, seq_rt, seq_ex, seq_bk, seq_ct, fgt_nx, fgt_bk, fgt_ct, fgt_rt, fgt_ex, out_nx, out_rt, out_ex, opt_some, optL_some, andB_tt, andB_ff, andB_some, orB_tt, orB_ff, orB_some, andX_tt, andX_ff, andX_some, orX_tt, orX_ff, orX_some, itAnd, itOr, itAndX, itOrX, Option.bind_some, List.map_cons, List.map_nil, List.length_cons, List.length_nil, List.cons_append, List.nil_append, List.getElem?_cons_zero, List.getElem?_cons_succ, List.getElem?_nil, List.set_cons_zero, List.set_cons_succ, List.replicate, addI_i, subD_i, ltD_i, leD_i, gtD_i, geD_i, eqS_int, neS_int, eqS_bl, neS_bl, max2_i, min2_i, maxL_i, minL_i, int1_i, intL_i, if_true, if_false, ite_true, ite_false, and_true, true_and, and_self, Bool.and_self, Bool.and_true, Bool.true_and, Bool.and_false, Bool.false_and, Bool.or_true, Bool.true_or, Bool.or_false, Bool.false_or, Bool.not_true, Bool.not_false, Nat.reduceAdd, Nat.reduceSub, Nat.reduceEqDiff, List.filterMap_cons, List.filterMap_nil, decide_true, decide_false, Bool.false_eq_true, reduceIte, Int.reduceAdd, Int.reduceSub, Int.reduceMul, Int.reduceNeg, Int.reduceLT, Int.reduceLE, Int.reduceEq, Int.reduceMod, Int.reduceDiv, Int.lt_irrefl, reduceCtorEq, D.frzs_int, D.pures_int, cap_0, cap_1, cap_2, cap_3, cap_4, cap_5, cap_6, cap_7, cap_8, cap_9, cap_10, cap_11, cap_12, cap_13, cap_14, cap_15, cap_16, cap_17, cap_18, cap_19, cap_20, cap_21, cap_22, cap_23, cap_24, cap_25, cap_26, cap_27, cap_28, cap_29, cap_30, cap_31, cap_32, cap_33, cap_34, cap_35, cap_36, cap_37, cap_38, cap_39, cap_40, eBor, brw, D.noL, D.noLs, sRaise, sTry, isE, qXf, cleanR, D.noX, D.noXs, rfX, boolF, Option.map_some, Option.map_none, Option.getD_some, C1_d_law_same, ix_0, ix_1, ix_2, h1, nin_pairs, h', e, envN, hc, List.map_append]
      rfl
  · have h1 : decide (0 < t.2.2) = false := decide_eq_false hp
    have hg : ¬ good t = true := by unfold good; rw [h1, Bool.and_false]; simp
    rw [if_neg hg]
    simp -implicitDefEqProofs only [B1_d_law_norm, runF, eBinR, qFld, eMth, eMth0, eProp, lot_pure, lot_frz, lot_isO, eBad, sBad, gT, gCo, gNl, sAsg, sDput, eDget, eDget2, dicO, sPut, sPut2, sq_tup, sq_lst, sq_vec, sNx, sSeq, sIf, sRet, sSet, sEx, sBk, sCt, sFgt, fgt, eC, eV, eM, eBin, eUn, aNil, aCons, eTup, eLst, eFn, tB1, tAnd, tOr, tNot, eAnd, eOr, eNot, eIf, eCall, eCallK, pick, eQ, tQ1, qV, qC, qBin, qUn, qB, qAnd, qOr, qNot, qIf, qAndT, qOrT, qNotT, qChain, eChain, eLc, sFor, iSq, iRg1, iRg2, gN, itms, rst, eApp, D.frz, D.frzs, D.pure, D.pures, bind_ok, bind_ex, stmt_ok, stmt_ex, seq_nx, seq_rt, seq_ex, seq_bk, seq_ct, fgt_nx, fgt_bk, fgt_ct, fgt_rt, fgt_ex, out_nx, out_rt, out_ex, opt_some, optL_some, andB_tt, andB_ff, andB_some, orB_tt, orB_ff, orB_some, andX_tt, andX_ff, andX_some, orX_tt, orX_ff, orX_some, itAnd, itOr, itAndX, itOrX, Option.bind_some, List.map_cons, List.map_nil, List.length_cons, List.length_nil, List.cons_append, List.nil_append, List.getElem?_cons_zero, List.getElem?_cons_succ, List.getElem?_nil, List.set_cons_zero, List.set_cons_succ, List.replicate, addI_i, subD_i, ltD_i, leD_i, gtD_i, geD_i, eqS_int, neS_int, eqS_bl, neS_bl, max2_i, min2_i, maxL_i, minL_i, int1_i, intL_i, if_true, if_false, ite_true, ite_false, and_true, true_and, and_self, Bool.and_self, Bool.and_true, Bool.true_and, Bool.and_false, Bool.false_and, Bool.or_true, Bool.true_or, Bool.or_false, Bool.false_or, Bool.not_true, Bool.not_false, Nat.reduceAdd, Nat.reduceSub, Nat.reduceEqDiff, List.filterMap_cons, List.filterMap_nil, decide_true, decide_false, Bool.false_eq_true, reduceIte, Int.reduceAdd, Int.reduceSub, Int.reduceMul, Int.reduceNeg, Int.reduceLT, Int.reduceLE, Int.reduceEq, Int.reduceMod, Int.reduceDiv, Int.lt_irrefl, reduceCtorEq, D.frzs_int, D.pures_int, cap_0, cap_1, cap_2, cap_3, cap_4, cap_5, cap_6, cap_7, cap_8, cap_9, cap_10, cap_11, cap_12, cap_13, cap_14, cap_15, cap_16, cap_17, cap_18, cap_19, cap_20, cap_21, cap_22, cap_23, cap_24, cap_25, cap_26, cap_27, cap_28, cap_29, cap_30, cap_31, cap_32, cap_33, cap_34, cap_35, cap_36, cap_37, cap_38, cap_39, cap_40, eBor, brw, D.noL, D.noLs, sRaise, sTry, isE, qXf, cleanR, D.noX, D.noXs, rfX, boolF, Option.map_some, Option.map_none, Option.getD_some, C1_d_law_same, ix_0, ix_1, ix_2, h1, envN]
theorem norm_loop1 (d : D) (ts : List T3) (h : okZ ts) (hl : ts.length < 1000000) : loop (gN 2) B1_d_law_norm
    (ts.map tD) [some d, some (.vec []), none, none, none, none, none, none] = .nx (envN d (met ts)) := by
  refine loop_ind (f := tD) (fun xs ρ => ∃ pre, pre ++ xs = ts ∧ ρ = envN d (met pre)) (fun r => r = .nx (envN d (met ts))) ?_ ?_ ts _ ⟨[], rfl, rfl⟩
  · rintro ρ ⟨pre, h1, rfl⟩
    rw [List.append_nil] at h1
    rw [h1]
  · rintro t xs ρ ⟨pre, h1, rfl⟩
    have ht : t ∈ ts := by rw [← h1]; simp
    rw [← h1, List.length_append] at hl
    exact ⟨_, rfl, .inl ⟨_, .inl (norm_step d pre t (h t ht).1 (by omega)), pre ++ [t], by rw [List.append_assoc]; exact h1, rfl⟩⟩
def envS (d v r : D) (p : Int × Int) (m : Int) : Rho := [some d, some v, none, none, none, some r, some (mkP p), some (.int m)]
theorem wt_z {t : T3} (h : t.1 ≠ t.2.1 ∧ 0 ≤ t.2.2) (p : Int × Int) : wt t p = if prT t = p then t.2.2 else 0 := by
  unfold wt
  by_cases e : prT t = p
  · rw [if_pos e]
    by_cases g : good t = true
    · rw [if_pos ⟨g, e⟩]
    · rw [if_neg fun z => g z.1]
      unfold good at g
      rw [Bool.and_eq_true, decide_eq_true_eq] at g
      have : ¬ 0 < t.2.2 := fun z => g ⟨by simp [h.1], z⟩
      omega
  · rw [if_neg e, if_neg fun z => e z.2]
theorem norm_in (d v r : D) (p : Int × Int) (ts : List T3) (h : okZ ts) : loop (gN 2) B2_d_law_norm
    (ts.map tD) (envS d v r p 0) = .nx (envS d v r p (tot ts p)) := by
  refine loop_ind (f := tD) (fun xs ρ => ∃ pre, pre ++ xs = ts ∧ ρ = envS d v r p (tot pre p)) (fun z => z = .nx (envS d v r p (tot ts p))) ?_ ?_ ts _ ⟨[], rfl, rfl⟩
  · rintro ρ ⟨pre, h1, rfl⟩
    rw [List.append_nil] at h1
    rw [h1]
  · rintro t xs ρ ⟨pre, h1, rfl⟩
    have ht : t ∈ ts := by rw [← h1]; simp
    refine ⟨_, rfl, .inl ⟨envS d v r p (tot (pre ++ [t]) p), .inl ?_, pre ++ [t], by rw [List.append_assoc]; exact h1, rfl⟩⟩
    rw [tot_snoc, wt_z (h t ht)]
    by_cases e1 : min t.1 t.2.1 = p.1
    · by_cases e2 : max t.1 t.2.1 = p.2
      · rw [if_pos (show prT t = p from Prod.ext e1 e2)]
        simp -implicitDefEqProofs only [B2_d_law_norm, envS, runF, eBinR, qFld, eMth, eMth0, eProp, lot_pure, lot_frz, lot_isO, eBad, sBad, gT, gCo, gNl, sAsg, sDput, eDget, eDget2, dicO, sPut, sPut2, sq_tup, sq_lst, sq_vec, sNx, sSeq, sIf, sRet, sSet, sEx, sBk, sCt, sFgt, fgt, eC, eV, eM, eBin, eUn, aNil, aCons, eTup, eLst, eFn, tB1, tAnd, tOr, tNot, eAnd, eOr, eNot, eIf, eCall, eCallK, pick, eQ, tQ1, qV, qC, qBin, qUn, qB, qAnd, qOr, qNot, qIf, qAndT, qOrT, qNotT, qChain, eChain, eLc, sFor, iSq, iRg1, iRg2, gN, itms, rst, eApp, D.frz, D.frzs, D.pure, D.pures, bind_ok, bind_ex, stmt_ok, stmt_ex, seq_nx, seq_rt, seq_ex, seq_bk, seq_ct, fgt_nx, fgt_bk, fgt_ct, fgt_rt, fgt_ex, out_nx, out_rt, out_ex, opt_some, optL_some, andB_tt, andB_ff, andB_some, orB_tt, orB_ff, orB_some, andX_tt, andX_ff, andX_some, orX_tt, orX_ff, orX_some, itAnd, itOr, itAndX, itOrX, Option.bind_some, List.map_cons, List.map_nil, List.length_cons, List.length_nil, List.cons_append, List.nil_append, List.getElem?_cons_zero, List.getElem?_cons_succ, List.getElem?_nil, List.set_cons_zero, List.set_cons_succ, List.replicate, addI_i, subD_i, ltD_i, leD_i, gtD_i, geD_i, eqS_int, neS_int, eqS_bl, neS_bl, max2_i, min2_i, maxL_i, minL_i, int1_i, intL_i, if_true, if_false, ite_true, ite_false, and_true, true_and, and_self, Bool.and_self, Bool.and_true, Bool.true_and, Bool.and_false, Bool.false_and, Bool.or_true, Bool.true_or, Bool.or_false, Bool.false_or, Bool.not_true, Bool.not_false, Nat.reduceAdd, Nat.reduceSub, Nat.reduceEqDiff, List.filterMap_cons, List.filterMap_nil, decide_true, decide_false, Bool.false_eq_true, reduceIte, Int.reduceAdd, Int.reduceSub, Int.reduceMul, Int.reduceNeg, Int.reduceLT, Int.reduceLE, Int.reduceEq, Int.reduceMod, Int.reduceDiv, Int.lt_irrefl, reduceCtorEq, D.frzs_int, D.pures_int, cap_0, cap_1, cap_2, cap_3, cap_4, cap_5, cap_6, cap_7, cap_8, cap_9, cap_10, cap_11, cap_12, cap_13, cap_14, cap_15, cap_16, cap_17, cap_18, cap_19, cap_20, cap_21, cap_22, cap_23, cap_24, cap_25, cap_26, cap_27, cap_28, cap_29, cap_30, cap_31, cap_32, cap_33, cap_34, cap_35, cap_36, cap_37, cap_38, cap_39, cap_40, eBor, brw, D.noL, D.noLs, sRaise, sTry, isE, qXf, cleanR, D.noX, D.noXs, rfX, boolF, Option.map_some, Option.map_none, Option.getD_some, C1_d_law_same, ix_0, ix_1, ix_2, px_0, px_1, e1, e2]
      · rw [if_neg (fun z : prT t = p => e2 (congrArg (·.2) z))]
        simp -implicitDefEqProofs only [B2_d_law_norm, envS, runF, eBinR, qFld, eMth, eMth0, eProp, lot_pure, lot_frz, lot_isO, eBad, sBad, gT, gCo, gNl, sAsg, sDput, eDget, eDget2, dicO, sPut, sPut2, sq_tup, sq_lst, sq_vec, sNx, sSeq, sIf, sRet, sSet, sEx, sBk, sCt, sFgt, fgt, eC, eV, eM, eBin, eUn, aNil, aCons, eTup, eLst, eFn, tB1, tAnd, tOr, tNot, eAnd, eOr, eNot, eIf, eCall, eCallK, pick, eQ, tQ1, qV, qC, qBin, qUn, qB, qAnd, qOr, qNot, qIf, qAndT, qOrT, qNotT, qChain, eChain, eLc, sFor, iSq, iRg1, iRg2, gN, itms, rst, eApp, D.frz, D.frzs, D.pure, D.pures, bind_ok, bind_ex, stmt_ok, stmt_ex, seq_nx, seq_rt, seq_ex, seq_bk, seq_ct, fgt_nx, fgt_bk, fgt_ct, fgt_rt, fgt_ex, out_nx, out_rt, out_ex, opt_some, optL_some, andB_tt, andB_ff, andB_some, orB_tt, orB_ff, orB_some, andX_tt, andX_ff, andX_some, orX_tt, orX_ff, orX_some, itAnd, itOr, itAndX, itOrX, Option.bind_some, List.map_cons, List.map_nil, List.length_cons, List.length_nil, List.cons_append, List.nil_append, List.getElem?_cons_zero, List.getElem?_cons_succ, List.getElem?_nil, List.set_cons_zero, List.set_cons_succ, List.replicate, addI_i, subD_i, ltD_i, leD_i, gtD_i, geD_i, eqS_int, neS_int, eqS_bl, neS_bl, max2_i, min2_i, maxL_i, minL_i, int1_i, intL_i, if_true, if_false, ite_true, ite_false, and_true, true_and, and_self, Bool.and_self, Bool.and_true, Bool.true_and, Bool.and_false, Bool.false_and, Bool.or_true, Bool.true_or, Bool.or_false, Bool.false_or, Bool.not_true, Bool.not_false, Nat.reduceAdd, Nat.reduceSub, Nat.reduceEqDiff, List.filterMap_cons, List.filterMap_nil, decide_true, decide_false, Bool.false_eq_true, reduceIte, Int.reduceAdd, Int.reduceSub, Int.reduceMul, Int.reduceNeg, Int.reduceLT, Int.reduceLE, Int.reduceEq, Int.reduceMod, Int.reduceDiv, Int.lt_irrefl, reduceCtorEq, D.frzs_int, D.pures_int, cap_0, cap_1, cap_2, cap_3, cap_4, cap_5, cap_6, cap_7, cap_8, cap_9, cap_10, cap_11, cap_12, cap_13, cap_14, cap_15, cap_16, cap_17, cap_18, cap_19, cap_20, cap_21, cap_22, cap_23, cap_24, cap_25, cap_26, cap_27, cap_28, cap_29, cap_30, cap_31, cap_32, cap_33, cap_34, cap_35, cap_36, cap_37, cap_38, cap_39, cap_40, eBor, brw, D.noL, D.noLs, sRaise, sTry, isE, qXf, cleanR, D.noX, D.noXs, rfX, boolF, Option.map_some, Option.map_none, Option.getD_some, C1_d_law_same, ix_0, ix_1, ix_2, px_0, px_1, e1, e2, Int.add_zero]
    · rw [if_neg (fun z : prT t = p => e1 (congrArg (·.1) z))]
      simp -implicitDefEqProofs only [B2_d_law_norm, envS, runF, eBinR, qFld, eMth, eMth0, eProp, lot_pure, lot_frz, lot_isO, eBad, sBad, gT, gCo, gNl, sAsg, sDput, eDget, eDget2, dicO, sPut, sPut2, sq_tup, sq_lst, sq_vec, sNx, sSeq, sIf, sRet, sSet, sEx, sBk, sCt, sFgt, fgt, eC, eV, eM, eBin, eUn, aNil, aCons, eTup, eLst, eFn, tB1, tAnd, tOr, tNot, eAnd, eOr, eNot, eIf, eCall, eCallK, pick, eQ, tQ1, qV, qC, qBin, qUn, qB, qAnd, qOr, qNot, qIf, qAndT, qOrT, qNotT, qChain, eChain, eLc, sFor, iSq, iRg1, iRg2, gN, itms, rst, eApp, D.frz, D.frzs, D.pure, D.pures, bind_ok, bind_ex, stmt_ok, stmt_ex, seq_nx, seq_rt, seq_ex, seq_bk, seq_ct, fgt_nx, fgt_bk, fgt_ct, fgt_rt, fgt_ex, out_nx, out_rt, out_ex, opt_some, optL_some, andB_tt, andB_ff, andB_some, orB_tt, orB_ff, orB_some, andX_tt, andX_ff, andX_some, orX_tt, orX_ff, orX_some, itAnd, itOr, itAndX, itOrX, Option.bind_some, List.map_cons, List.map_nil, List.length_cons, List.length_nil, List.cons_append, List.nil_append, List.getElem?_cons_zero, List.getElem?_cons_succ, List.getElem?_nil, List.set_cons_zero, List.set_cons_succ, List.replicate, addI_i, subD_i, ltD_i, leD_i, gtD_i, geD_i, eqS_int, neS_int, eqS_bl, neS_bl, max2_i, min2_i, maxL_i, minL_i, int1_i, intL_i, if_true, if_false, ite_true, ite_false, and_true, true_and, and_self, Bool.and_self, Bool.and_true, Bool.true_and, Bool.and_false, Bool.false_and, Bool.or_true, Bool.true_or, Bool.or_false, Bool.false_or, Bool.not_true, Bool.not_false, Nat.reduceAdd, Nat.reduceSub, Nat.reduceEqDiff, List.filterMap_cons, List.filterMap_nil, decide_true, decide_false, Bool.false_eq_true, reduceIte, Int.reduceAdd, Int.reduceSub, Int.reduceMul, Int.reduceNeg, Int.reduceLT, Int.reduceLE, Int.reduceEq, Int.reduceMod, Int.reduceDiv, Int.lt_irrefl, reduceCtorEq, D.frzs_int, D.pures_int, cap_0, cap_1, cap_2, cap_3, cap_4, cap_5, cap_6, cap_7, cap_8, cap_9, cap_10, cap_11, cap_12, cap_13, cap_14, cap_15, cap_16, cap_17, cap_18, cap_19, cap_20, cap_21, cap_22, cap_23, cap_24, cap_25, cap_26, cap_27, cap_28, cap_29, cap_30, cap_31, cap_32, cap_33, cap_34, cap_35, cap_36, cap_37, cap_38, cap_39, cap_40, eBor, brw, D.noL, D.noLs, sRaise, sTry, isE, qXf, cleanR, D.noX, D.noXs, rfX, boolF, Option.map_some, Option.map_none, Option.getD_some, C1_d_law_same, ix_0, ix_1, ix_2, px_0, px_1, e1, Int.add_zero]
theorem isq_seq {d : D} {ts : List T3} (h : SeqD d (ts.map tD)) (r : Rho) : (iSq (eV 0) : Rho → RX (List D)) (some d :: r) = .ok (ts.map tD) (some d :: r) := by
  have hf := seq_frz h
  show (RX.ok d.frz (some d.frz :: r)).bind _ = _
  rw [hf]
  show optL (itms d.frz) _ = _
  rw [hf, seq_itms h]; rfl
def envR (d v : D) (acc : List T3) : Rho := [some d, some v, none, none, none, some (.vec (acc.map tD)), none, none]
theorem norm_step2 (d v : D) (ts acc : List T3) (p : Int × Int) (hd : SeqD d (ts.map tD)) (h : okZ ts) (hl : acc.length < 1000000) :
    B3_d_law_norm [some d, some v, none, none, none, some (.vec (acc.map tD)), some (mkP p), none] = .nx (envR d v (acc ++ [(p.1, p.2, tot ts p)])) := by
  have hc : cap (acc.map tD).length = true := cap_of (by rw [List.length_map]; omega)
  have e := norm_in d v (.vec (acc.map tD)) p ts h
  simp only [envS] at e
  have h1 : (sFor (iSq (eV 0)) (gN 2) B2_d_law_norm) [some d, some v, none, none, none, some (.vec (acc.map tD)), some (mkP p), some (.int 0)] = .nx [some d, some v, none, none, none, some (.vec (acc.map tD)), some (mkP p), some (.int (tot ts p))] := by
    unfold sFor
    rw [isq_seq hd]
    exact e
  unfold B3_d_law_norm
  generalize (sFor (iSq (eV 0)) (gN 2) B2_d_law_norm) = lp at h1 ⊢
  simp -implicitDefEqProofs only [runF, eBinR, qFld, eMth, eMth0, eProp, lot_pure, lot_frz, lot_isO, eBad, sBad, gT, gCo, gNl, sAsg, sDput, eDget, eDget2, dicO, sPut, sPut2, sq_tup, sq_lst, sq_vec, sNx, sSeq, sIf, sRet, sSet, sEx, sBk, sCt, sFgt, fgt, eC, eV, eM, eBin, eUn, aNil, aCons, eTup, eLst, eFn, tB1, tAnd, tOr, tNot, eAnd, eOr, eNot, eIf, eCall, eCallK, pick, eQ, tQ1, qV, qC, qBin, qUn, qB, qAnd, qOr, qNot, qIf, qAndT, qOrT, qNotT, qChain, eChain, eLc, sFor, iSq, iRg1, iRg2, gN, itms, rst, eApp, D.frz, D.frzs, D.pure, D.pures, bind_ok, bind_ex, stmt_ok, stmt_ex, seq_nx, seq_rt, seq_ex, seq_bk, seq_ct, fgt_nx, fgt_bk, fgt_ct, fgt_rt, fgt_ex, out_nx, out_rt, out_ex, opt_some, optL_some, andB_tt, andB_ff, andB_some, orB_tt, orB_ff, orB_some, andX_tt, andX_ff, andX_some, orX_tt, orX_ff, orX_some, itAnd, itOr, itAndX, itOrX, Option.bind_some, List.map_cons, List.map_nil, List.length_cons, List.length_nil, List.cons_append, List.nil_append, List.getElem?_cons_zero, List.getElem?_cons_succ, List.getElem?_nil, List.set_cons_zero, List.set_cons_succ, List.replicate, addI_i, subD_i, ltD_i, leD_i, gtD_i, geD_i, eqS_int, neS_int, eqS_bl, neS_bl, max2_i, min2_i, maxL_i, minL_i, int1_i, intL_i, if_true, if_false, ite_true, ite_false, and_true, true_and, and_self, Bool.and_self, Bool.and_true, Bool.true_and, Bool.and_false, Bool.false_and, Bool.or_true, Bool.true_or, Bool.or_false, Bool.false_or, Bool.not_true, Bool.not_false, Nat.reduceAdd, Nat.reduceSub, Nat.reduceEqDiff, List.filterMap_cons, List.filterMap_nil, decide_true, decide_false, Bool.false_eq_true, reduceIte, Int.reduceAdd, Int.reduceSub, Int.reduceMul, Int.reduceNeg, Int.reduceLT, Int.reduceLE, Int.reduceEq, Int.reduceMod, Int.reduceDiv, Int.lt_irrefl, reduceCtorEq, D.frzs_int, D.pures_int, cap_0, cap_1, cap_2, cap_3, cap_4, cap_5, cap_6, cap_7, cap_8, cap_9, cap_10, cap_11, cap_12, cap_13, cap_14, cap_15, cap_16, cap_17, cap_18, cap_19, cap_20, cap_21, cap_22, cap_23, cap_24, cap_25, cap_26, cap_27, cap_28, cap_29, cap_30, cap_31, cap_32, cap_33, cap_34, cap_35, cap_36, cap_37, cap_38, cap_39, cap_40, eBor, brw, D.noL, D.noLs, sRaise, sTry, isE, qXf, cleanR, D.noX, D.noXs, rfX, boolF, Option.map_some, Option.map_none, Option.getD_some, C1_d_law_same, h1, px_0, px_1, hc, envR, List.map_append, tD]
theorem norm_eq (d : D) (ts : List T3) (hd : SeqD d (ts.map tD)) (h : okZ ts) (hl : ts.length < 1000000) : d_law_norm [d] = .rt (.tup ((comb ts).map tD)) := by
  have hm := len_met ts
  have l2 : ∀ v : D, loop (gN 6) B3_d_law_norm
      ((sortP (met ts)).map mkP) [some d, some v, none, none, none, some (.vec []), none, none] = .nx (envR d v (comb ts)) := fun v => by
    refine loop_ind (f := mkP) (fun xs ρ => ∃ pre, pre ++ xs = sortP (met ts) ∧ ρ = envR d v (pre.map fun p => (p.1, p.2, tot ts p))) (fun z => z = .nx (envR d v (comb ts))) ?_ ?_ _ _ ⟨[], rfl, rfl⟩
    · rintro ρ ⟨pre, h1, rfl⟩
      rw [List.append_nil] at h1
      rw [h1]; rfl
    · rintro p xs ρ ⟨pre, h1, rfl⟩
      have hp : pre.length ≤ ts.length := by
        have := len_sortP (met ts)
        rw [← h1, List.length_append] at this
        omega
      refine ⟨_, rfl, .inl ⟨_, .inl (norm_step2 d v ts _ p hd h (by rw [List.length_map]; omega)), pre ++ [p], by rw [List.append_assoc]; exact h1, by rw [List.map_append]; rfl⟩⟩
  have l1 := norm_loop1 d ts h hl
  unfold d_law_norm b_d_law_norm
  have i0 := isq_seq hd
  generalize (iSq (eV 0) : Rho → RX (List D)) = i at i0 ⊢
  simp -implicitDefEqProofs only [runF, eBinR, qFld, eMth, eMth0, eProp, lot_pure, lot_frz, lot_isO, eBad, sBad, gT, gCo, gNl, sAsg, sDput, eDget, eDget2, dicO, sPut, sPut2, sq_tup, sq_lst, sq_vec, sNx, sSeq, sIf, sRet, sSet, sEx, sBk, sCt, sFgt, fgt, eC, eV, eM, eBin, eUn, aNil, aCons, eTup, eLst, eFn, tB1, tAnd, tOr, tNot, eAnd, eOr, eNot, eIf, eCall, eCallK, pick, eQ, tQ1, qV, qC, qBin, qUn, qB, qAnd, qOr, qNot, qIf, qAndT, qOrT, qNotT, qChain, eChain, eLc, sFor, iSq, iRg1, iRg2, gN, itms, rst, eApp, D.frz, D.frzs, D.pure, D.pures, bind_ok, bind_ex, stmt_ok, stmt_ex, seq_nx, seq_rt, seq_ex, seq_bk, seq_ct, fgt_nx, fgt_bk, fgt_ct, fgt_rt, fgt_ex, out_nx, out_rt, out_ex, opt_some, optL_some, andB_tt, andB_ff, andB_some, orB_tt, orB_ff, orB_some, andX_tt, andX_ff, andX_some, orX_tt, orX_ff, orX_some, itAnd, itOr, itAndX, itOrX, Option.bind_some, List.map_cons, List.map_nil, List.length_cons, List.length_nil, List.cons_append, List.nil_append, List.getElem?_cons_zero, List.getElem?_cons_succ, List.getElem?_nil, List.set_cons_zero, List.set_cons_succ, List.replicate, addI_i, subD_i, ltD_i, leD_i, gtD_i, geD_i, eqS_int, neS_int, eqS_bl, neS_bl, max2_i, min2_i, maxL_i, minL_i, int1_i, intL_i, if_true, if_false, ite_true, ite_false, and_true, true_and, and_self, Bool.and_self, Bool.and_true, Bool.true_and, Bool.and_false, Bool.false_and, Bool.or_true, Bool.true_or, Bool.or_false, Bool.false_or, Bool.not_true, Bool.not_false, Nat.reduceAdd, Nat.reduceSub, Nat.reduceEqDiff, List.filterMap_cons, List.filterMap_nil, decide_true, decide_false, Bool.false_eq_true, reduceIte, Int.reduceAdd, Int.reduceSub, Int.reduceMul, Int.reduceNeg, Int.reduceLT, Int.reduceLE, Int.reduceEq, Int.reduceMod, Int.reduceDiv, Int.lt_irrefl, reduceCtorEq, D.frzs_int, D.pures_int, cap_0, cap_1, cap_2, cap_3, cap_4, cap_5, cap_6, cap_7, cap_8, cap_9, cap_10, cap_11, cap_12, cap_13, cap_14, cap_15, cap_16, cap_17, cap_18, cap_19, cap_20, cap_21, cap_22, cap_23, cap_24, cap_25, cap_26, cap_27, cap_28, cap_29, cap_30, cap_31, cap_32, cap_33, cap_34, cap_35, cap_36, cap_37, cap_38, cap_39, cap_40, eBor, brw, D.noL, D.noLs, sRaise, sTry, isE, qXf, cleanR, D.noX, D.noXs, rfX, boolF, Option.map_some, Option.map_none, Option.getD_some, C1_d_law_same, i0, l1, envN, frzs_mkP, soL_lst, l2, envR, frzs_tD, tupL_sq (sq_lst _)]

end Math

set_option Elab.async false
set_option linter.all false
set_option maxRecDepth 100000
set_option maxHeartbeats 2000000
namespace Math
open PySem FL Prg
open L2 (atI atI_nat ixN)
theorem fuel_succ (g : (List D → RF) → List D → RF) (n : Nat) : fuel g (n + 1) = g (fuel g n) := by rw [fuel]
theorem isN_int (i : Int) : isN (.int i) .non = some (.bl false) := rfl
theorem isN_tup (i : List D) : isN (.tup i) .non = some (.bl false) := rfl
theorem isi_bool_tup (ds : List D) : isiD (tabTy "bool") (.tup ds) = some (.bl false) := rfl
theorem isi_int_tup (ds : List D) : isiD (tabTy "int") (.tup ds) = some (.bl false) := rfl
theorem isi_str_tup (ds : List D) : isiD (tabTy "str") (.tup ds) = some (.bl false) := rfl
theorem isi_list_tup (ds : List D) : isiD (tabTy "list") (.tup ds) = some (.bl false) := rfl
theorem lwhole_eq (i : Int) : d_law_whole [.int i] = .rt (.bl true) := by
  simp -implicitDefEqProofs only [d_law_whole, b_d_law_whole, runF, eBinR, qFld, eMth, eMth0, eProp, lot_pure, lot_frz, lot_isO, eBad, sBad, gT, gCo, gNl, sAsg, sDput, eDget, eDget2, dicO, sPut, sPut2, sq_tup, sq_lst, sq_vec, sNx, sSeq, sIf, sRet, sSet, sEx, sBk, sCt, sFgt, fgt, eC, eV, eM, eBin, eUn, aNil, aCons, eTup, eLst, eFn, tB1, tAnd, tOr, tNot, eAnd, eOr, eNot, eIf, eCall, eCallK, pick, eQ, tQ1, qV, qC, qBin, qUn, qB, qAnd, qOr, qNot, qIf, qAndT, qOrT, qNotT, qChain, eChain, eLc, sFor, iSq, iRg1, iRg2, gN, itms, rst, eApp, D.frz, D.frzs, D.pure, D.pures, bind_ok, bind_ex, stmt_ok, stmt_ex, seq_nx, seq_rt, seq_ex, seq_bk, seq_ct, fgt_nx, fgt_bk, fgt_ct, fgt_rt, fgt_ex, out_nx, out_rt, out_ex, opt_some, optL_some, andB_tt, andB_ff, andB_some, orB_tt, orB_ff, orB_some, andX_tt, andX_ff, andX_some, orX_tt, orX_ff, orX_some, itAnd, itOr, itAndX, itOrX, Option.bind_some, List.map_cons, List.map_nil, List.length_cons, List.length_nil, List.cons_append, List.nil_append, List.getElem?_cons_zero, List.getElem?_cons_succ, List.getElem?_nil, List.set_cons_zero, List.set_cons_succ, List.replicate, addI_i, subD_i, ltD_i, leD_i, gtD_i, geD_i, eqS_int, neS_int, eqS_bl, neS_bl, max2_i, min2_i, maxL_i, minL_i, int1_i, intL_i, if_true, if_false, ite_true, ite_false, and_true, true_and, and_self, Bool.and_self, Bool.and_true, Bool.true_and, Bool.and_false, Bool.false_and, Bool.or_true, Bool.true_or, Bool.or_false, Bool.false_or, Bool.not_true, Bool.not_false, Nat.reduceAdd, Nat.reduceSub, Nat.reduceEqDiff, List.filterMap_cons, List.filterMap_nil, decide_true, decide_false, Bool.false_eq_true, reduceIte, Int.reduceAdd, Int.reduceSub, Int.reduceMul, Int.reduceNeg, Int.reduceLT, Int.reduceLE, Int.reduceEq, Int.reduceMod, Int.reduceDiv, Int.lt_irrefl, reduceCtorEq, D.frzs_int, D.pures_int, cap_0, cap_1, cap_2, cap_3, cap_4, cap_5, cap_6, cap_7, cap_8, cap_9, cap_10, cap_11, cap_12, cap_13, cap_14, cap_15, cap_16, cap_17, cap_18, cap_19, cap_20, cap_21, cap_22, cap_23, cap_24, cap_25, cap_26, cap_27, cap_28, cap_29, cap_30, cap_31, cap_32, cap_33, cap_34, cap_35, cap_36, cap_37, cap_38, cap_39, cap_40, eBor, brw, D.noL, D.noLs, sRaise, sTry, isE, qXf, cleanR, D.noX, D.noXs, rfX, boolF, Option.map_some, Option.map_none, Option.getD_some, C1_d_law_same, isi_int_int, isi_bool_int]
theorem gsame_int (f : List D → RF) (a b : Int) : g_d_law_same f [.int a, .int b] = .rt (.bl (decide (a = b))) := by
  simp -implicitDefEqProofs only [g_d_law_same, b_d_law_same, runF, eBinR, qFld, eMth, eMth0, eProp, lot_pure, lot_frz, lot_isO, eBad, sBad, gT, gCo, gNl, sAsg, sDput, eDget, eDget2, dicO, sPut, sPut2, sq_tup, sq_lst, sq_vec, sNx, sSeq, sIf, sRet, sSet, sEx, sBk, sCt, sFgt, fgt, eC, eV, eM, eBin, eUn, aNil, aCons, eTup, eLst, eFn, tB1, tAnd, tOr, tNot, eAnd, eOr, eNot, eIf, eCall, eCallK, pick, eQ, tQ1, qV, qC, qBin, qUn, qB, qAnd, qOr, qNot, qIf, qAndT, qOrT, qNotT, qChain, eChain, eLc, sFor, iSq, iRg1, iRg2, gN, itms, rst, eApp, D.frz, D.frzs, D.pure, D.pures, bind_ok, bind_ex, stmt_ok, stmt_ex, seq_nx, seq_rt, seq_ex, seq_bk, seq_ct, fgt_nx, fgt_bk, fgt_ct, fgt_rt, fgt_ex, out_nx, out_rt, out_ex, opt_some, optL_some, andB_tt, andB_ff, andB_some, orB_tt, orB_ff, orB_some, andX_tt, andX_ff, andX_some, orX_tt, orX_ff, orX_some, itAnd, itOr, itAndX, itOrX, Option.bind_some, List.map_cons, List.map_nil, List.length_cons, List.length_nil, List.cons_append, List.nil_append, List.getElem?_cons_zero, List.getElem?_cons_succ, List.getElem?_nil, List.set_cons_zero, List.set_cons_succ, List.replicate, addI_i, subD_i, ltD_i, leD_i, gtD_i, geD_i, eqS_int, neS_int, eqS_bl, neS_bl, max2_i, min2_i, maxL_i, minL_i, int1_i, intL_i, if_true, if_false, ite_true, ite_false, and_true, true_and, and_self, Bool.and_self, Bool.and_true, Bool.true_and, Bool.and_false, Bool.false_and, Bool.or_true, Bool.true_or, Bool.or_false, Bool.false_or, Bool.not_true, Bool.not_false, Nat.reduceAdd, Nat.reduceSub, Nat.reduceEqDiff, List.filterMap_cons, List.filterMap_nil, decide_true, decide_false, Bool.false_eq_true, reduceIte, Int.reduceAdd, Int.reduceSub, Int.reduceMul, Int.reduceNeg, Int.reduceLT, Int.reduceLE, Int.reduceEq, Int.reduceMod, Int.reduceDiv, Int.lt_irrefl, reduceCtorEq, D.frzs_int, D.pures_int, cap_0, cap_1, cap_2, cap_3, cap_4, cap_5, cap_6, cap_7, cap_8, cap_9, cap_10, cap_11, cap_12, cap_13, cap_14, cap_15, cap_16, cap_17, cap_18, cap_19, cap_20, cap_21, cap_22, cap_23, cap_24, cap_25, cap_26, cap_27, cap_28, cap_29, cap_30, cap_31, cap_32, cap_33, cap_34, cap_35, cap_36, cap_37, cap_38, cap_39, cap_40, eBor, brw, D.noL, D.noLs, sRaise, sTry, isE, qXf, cleanR, D.noX, D.noXs, rfX, boolF, Option.map_some, Option.map_none, Option.getD_some, C1_d_law_same, isN_int, isi_bool_int, isi_int_int, lwhole_eq]
theorem pures_mem : ∀ {l : List D}, D.pures l = true → ∀ x ∈ l, x.pure = true
  | [], _, x, hx => by cases hx
  | y :: l, h, x, hx => by
    rw [D.pures, Bool.and_eq_true] at h
    rcases List.mem_cons.mp hx with e | hx
    · rw [e]; exact h.1
    · exact pures_mem h.2 x hx
theorem gsame_tup (f : List D → RF) (xs : List D) (hp : D.pures xs = true) (hl : xs.length < 1000000) (h : ∀ x ∈ xs, f [x, x] = .rt (.bl true)) : g_d_law_same f [.tup xs, .tup xs] = .rt (.bl true) := by
  have hb : bnd (xs.length : Int) = true := bnd_of ⟨by omega, by omega⟩
  have hf : D.frzs xs = xs := D.frzs_of_pure hp
  have lp : loop (gN 2) (B1_d_law_same f) (((List.range xs.length).map fun (k : Nat) => (0 : Int) + k).map D.int) [some (.tup xs), some (.tup xs), none] = .nx [some (.tup xs), some (.tup xs), none] := by
    refine loop_same D.int _ _ fun x hx => ⟨_, rfl, ?_⟩
    obtain ⟨k, hk, rfl⟩ := List.mem_map.mp hx
    have hk' : k < xs.length := List.mem_range.mp hk
    have a1 : atI xs (0 + (k : Int)) = some (xs[k]) := by
      rw [Int.zero_add]; exact atI_nat (List.getElem?_eq_getElem hk')
    have hm : xs[k] ∈ xs := List.getElem_mem hk'
    have hq : (xs[k]).pure = true := pures_mem hp _ hm
    have hs := h _ hm
    have hfx : (xs[k]).frz = xs[k] := D.frz_of_pure hq
    generalize xs[k] = y at a1 hq hs hfx
    simp -implicitDefEqProofs only [B1_d_law_same, runF, eBinR, qFld, eMth, eMth0, eProp, lot_pure, lot_frz, lot_isO, eBad, sBad, gT, gCo, gNl, sAsg, sDput, eDget, eDget2, dicO, sPut, sPut2, sq_tup, sq_lst, sq_vec, sNx, sSeq, sIf, sRet, sSet, sEx, sBk, sCt, sFgt, fgt, eC, eV, eM, eBin, eUn, aNil, aCons, eTup, eLst, eFn, tB1, tAnd, tOr, tNot, eAnd, eOr, eNot, eIf, eCall, eCallK, pick, eQ, tQ1, qV, qC, qBin, qUn, qB, qAnd, qOr, qNot, qIf, qAndT, qOrT, qNotT, qChain, eChain, eLc, sFor, iSq, iRg1, iRg2, gN, itms, rst, eApp, D.frz, D.frzs, D.pure, D.pures, bind_ok, bind_ex, stmt_ok, stmt_ex, seq_nx, seq_rt, seq_ex, seq_bk, seq_ct, fgt_nx, fgt_bk, fgt_ct, fgt_rt, fgt_ex, out_nx, out_rt, out_ex, opt_some, optL_some, andB_tt, andB_ff, andB_some, orB_tt, orB_ff, orB_some, andX_tt, andX_ff, andX_some, orX_tt, orX_ff, orX_some, itAnd, itOr, itAndX, itOrX, Option.bind_some, List.map_cons, List.map_nil, List.length_cons, List.length_nil, List.cons_append, List.nil_append, List.getElem?_cons_zero, List.getElem?_cons_succ, List.getElem?_nil, List.set_cons_zero, List.set_cons_succ, List.replicate, addI_i, subD_i, ltD_i, leD_i, gtD_i, geD_i, eqS_int, neS_int, eqS_bl, neS_bl, max2_i, min2_i, maxL_i, minL_i, int1_i, intL_i, if_true, if_false, ite_true, ite_false, and_true, true_and, and_self, Bool.and_self, Bool.and_true, Bool.true_and, Bool.and_false, Bool.false_and, Bool.or_true, Bool.true_or, Bool.or_false, Bool.false_or, Bool.not_true, Bool.not_false, Nat.reduceAdd, Nat.reduceSub, Nat.reduceEqDiff, List.filterMap_cons, List.filterMap_nil, decide_true, decide_false, Bool.false_eq_true, reduceIte, Int.reduceAdd, Int.reduceSub, Int.reduceMul, Int.reduceNeg, Int.reduceLT, Int.reduceLE, Int.reduceEq, Int.reduceMod, Int.reduceDiv, Int.lt_irrefl, reduceCtorEq, D.frzs_int, D.pures_int, cap_0, cap_1, cap_2, cap_3, cap_4, cap_5, cap_6, cap_7, cap_8, cap_9, cap_10, cap_11, cap_12, cap_13, cap_14, cap_15, cap_16, cap_17, cap_18, cap_19, cap_20, cap_21, cap_22, cap_23, cap_24, cap_25, cap_26, cap_27, cap_28, cap_29, cap_30, cap_31, cap_32, cap_33, cap_34, cap_35, cap_36, cap_37, cap_38, cap_39, cap_40, eBor, brw, D.noL, D.noLs, sRaise, sTry, isE, qXf, cleanR, D.noX, D.noXs, rfX, boolF, Option.map_some, Option.map_none, Option.getD_some, C1_d_law_same, ixD_sq (sq_tup xs) a1, hq, hfx, hs]
  unfold g_d_law_same b_d_law_same
  simp -implicitDefEqProofs only [runF, eBinR, qFld, eMth, eMth0, eProp, lot_pure, lot_frz, lot_isO, eBad, sBad, gT, gCo, gNl, sAsg, sDput, eDget, eDget2, dicO, sPut, sPut2, sq_tup, sq_lst, sq_vec, sNx, sSeq, sIf, sRet, sSet, sEx, sBk, sCt, sFgt, fgt, eC, eV, eM, eBin, eUn, aNil, aCons, eTup, eLst, eFn, tB1, tAnd, tOr, tNot, eAnd, eOr, eNot, eIf, eCall, eCallK, pick, eQ, tQ1, qV, qC, qBin, qUn, qB, qAnd, qOr, qNot, qIf, qAndT, qOrT, qNotT, qChain, eChain, eLc, sFor, iSq, iRg1, iRg2, gN, itms, rst, eApp, D.frz, D.frzs, D.pure, D.pures, bind_ok, bind_ex, stmt_ok, stmt_ex, seq_nx, seq_rt, seq_ex, seq_bk, seq_ct, fgt_nx, fgt_bk, fgt_ct, fgt_rt, fgt_ex, out_nx, out_rt, out_ex, opt_some, optL_some, andB_tt, andB_ff, andB_some, orB_tt, orB_ff, orB_some, andX_tt, andX_ff, andX_some, orX_tt, orX_ff, orX_some, itAnd, itOr, itAndX, itOrX, Option.bind_some, List.map_cons, List.map_nil, List.length_cons, List.length_nil, List.cons_append, List.nil_append, List.getElem?_cons_zero, List.getElem?_cons_succ, List.getElem?_nil, List.set_cons_zero, List.set_cons_succ, List.replicate, addI_i, subD_i, ltD_i, leD_i, gtD_i, geD_i, eqS_int, neS_int, eqS_bl, neS_bl, max2_i, min2_i, maxL_i, minL_i, int1_i, intL_i, if_true, if_false, ite_true, ite_false, and_true, true_and, and_self, Bool.and_self, Bool.and_true, Bool.true_and, Bool.and_false, Bool.false_and, Bool.or_true, Bool.true_or, Bool.or_false, Bool.false_or, Bool.not_true, Bool.not_false, Nat.reduceAdd, Nat.reduceSub, Nat.reduceEqDiff, List.filterMap_cons, List.filterMap_nil, decide_true, decide_false, Bool.false_eq_true, reduceIte, Int.reduceAdd, Int.reduceSub, Int.reduceMul, Int.reduceNeg, Int.reduceLT, Int.reduceLE, Int.reduceEq, Int.reduceMod, Int.reduceDiv, Int.lt_irrefl, reduceCtorEq, D.frzs_int, D.pures_int, cap_0, cap_1, cap_2, cap_3, cap_4, cap_5, cap_6, cap_7, cap_8, cap_9, cap_10, cap_11, cap_12, cap_13, cap_14, cap_15, cap_16, cap_17, cap_18, cap_19, cap_20, cap_21, cap_22, cap_23, cap_24, cap_25, cap_26, cap_27, cap_28, cap_29, cap_30, cap_31, cap_32, cap_33, cap_34, cap_35, cap_36, cap_37, cap_38, cap_39, cap_40, eBor, brw, D.noL, D.noLs, sRaise, sTry, isE, qXf, cleanR, D.noX, D.noXs, rfX, boolF, Option.map_some, Option.map_none, Option.getD_some, C1_d_law_same, isN_tup, isi_bool_tup, isi_int_tup, isi_str_tup, isi_list_tup, isi_tuple_tup, len1_sq (sq_tup xs), hb, rng_eq, Int.toNat_natCast, lp]
theorem same_int (n : Nat) (a b : Int) : fuel g_d_law_same (n + 1) [.int a, .int b] = .rt (.bl (decide (a = b))) := by
  rw [fuel_succ]; exact gsame_int _ a b
theorem same_tup (n : Nat) (xs : List D) (hp : D.pures xs = true) (hl : xs.length < 1000000) (h : ∀ x ∈ xs, fuel g_d_law_same n [x, x] = .rt (.bl true)) : fuel g_d_law_same (n + 1) [.tup xs, .tup xs] = .rt (.bl true) := by
  rw [fuel_succ]; exact gsame_tup _ xs hp hl h
theorem same_tD (n : Nat) (t : T3) : fuel g_d_law_same (n + 2) [tD t, tD t] = .rt (.bl true) := by
  refine same_tup (n + 1) _ rfl (by show 3 < 1000000; decide) fun x hx => ?_
  simp only [List.mem_cons, List.not_mem_nil, or_false] at hx
  rcases hx with rfl | rfl | rfl <;> (rw [same_int]; simp)
theorem same_csN (n : Nat) (cs : List T3) (hl : cs.length < 1000000) : fuel g_d_law_same (n + 3) [.tup (cs.map tD), .tup (cs.map tD)] = .rt (.bl true) := by
  refine same_tup (n + 2) _ (pures_tD cs) (by rw [List.length_map]; exact hl) fun x hx => ?_
  obtain ⟨t, _, rfl⟩ := List.mem_map.mp hx
  exact same_tD n t

end Math

set_option Elab.async false
set_option linter.all false
set_option maxRecDepth 100000
set_option maxHeartbeats 2000000
namespace Math
open PySem FL Prg
open L2 (atI atI_nat ixN)
theorem mod_2 {z n : Int} (h0 : 0 ≤ z) (h : z < 2 * n) : z % n = if z < n then z else z - n := by
  split
  · exact Int.emod_eq_of_lt h0 (by omega)
  · rw [show z = (z - n) + n by omega, Int.add_emod_right]
    rw [show z - n + n - n = z - n by omega]
    exact Int.emod_eq_of_lt (by omega) (by omega)
theorem mod_m {z n : Int} (h0 : -n < z) (h : z < n) : z % n = if 0 ≤ z then z else z + n := by
  split
  · exact Int.emod_eq_of_lt (by omega) h
  · rw [← Int.add_emod_right]
    exact Int.emod_eq_of_lt (by omega) (by omega)
theorem cell_eq (ns : List Int) (k : Int) (h0 : 0 ≤ k) (h1 : k ≤ 1000) (hl : ns.length ≤ 63) : ∃ c, d_law_cell [.lst (ns.map .int), .int k] = .rt (.int c) := by
  have e : sq (.lst (ns.map D.int)) = some (ns.map .int) := rfl
  by_cases h : k < (ns.length : Int)
  · refine ⟨ns[k.toNat]'(by omega), ?_⟩
    have a1 : atI (ns.map D.int) k = some (.int (ns[k.toNat]'(by omega))) := by
      rw [atI_lt h0 (by simp; omega)]; simp
    simp -implicitDefEqProofs only [d_law_cell, b_d_law_cell, runF, eBinR, qFld, eMth, eMth0, eProp, lot_pure, lot_frz, lot_isO, eBad, sBad, gT, gCo, gNl, sAsg, sDput, eDget, eDget2, dicO, sPut, sPut2, sq_tup, sq_lst, sq_vec, sNx, sSeq, sIf, sRet, sSet, sEx, sBk, sCt, sFgt, fgt, eC, eV, eM, eBin, eUn, aNil, aCons, eTup, eLst, eFn, tB1, tAnd, tOr, tNot, eAnd, eOr, eNot, eIf, eCall, eCallK, pick, eQ, tQ1, qV, qC, qBin, qUn, qB, qAnd, qOr, qNot, qIf, qAndT, qOrT, qNotT, qChain, eChain, eLc, sFor, iSq, iRg1, iRg2, gN, itms, rst, eApp, D.frz, D.frzs, D.pure, D.pures, bind_ok, bind_ex, stmt_ok, stmt_ex, seq_nx, seq_rt, seq_ex, seq_bk, seq_ct, fgt_nx, fgt_bk, fgt_ct, fgt_rt, fgt_ex, out_nx, out_rt, out_ex, opt_some, optL_some, andB_tt, andB_ff, andB_some, orB_tt, orB_ff, orB_some, andX_tt, andX_ff, andX_some, orX_tt, orX_ff, orX_some, itAnd, itOr, itAndX, itOrX, Option.bind_some, List.map_cons, List.map_nil, List.length_cons, List.length_nil, List.cons_append, List.nil_append, List.getElem?_cons_zero, List.getElem?_cons_succ, List.getElem?_nil, List.set_cons_zero, List.set_cons_succ, List.replicate, addI_i, subD_i, ltD_i, leD_i, gtD_i, geD_i, eqS_int, neS_int, eqS_bl, neS_bl, max2_i, min2_i, maxL_i, minL_i, int1_i, intL_i, if_true, if_false, ite_true, ite_false, and_true, true_and, and_self, Bool.and_self, Bool.and_true, Bool.true_and, Bool.and_false, Bool.false_and, Bool.or_true, Bool.true_or, Bool.or_false, Bool.false_or, Bool.not_true, Bool.not_false, Nat.reduceAdd, Nat.reduceSub, Nat.reduceEqDiff, List.filterMap_cons, List.filterMap_nil, decide_true, decide_false, Bool.false_eq_true, reduceIte, Int.reduceAdd, Int.reduceSub, Int.reduceMul, Int.reduceNeg, Int.reduceLT, Int.reduceLE, Int.reduceEq, Int.reduceMod, Int.reduceDiv, Int.lt_irrefl, reduceCtorEq, D.frzs_int, D.pures_int, cap_0, cap_1, cap_2, cap_3, cap_4, cap_5, cap_6, cap_7, cap_8, cap_9, cap_10, cap_11, cap_12, cap_13, cap_14, cap_15, cap_16, cap_17, cap_18, cap_19, cap_20, cap_21, cap_22, cap_23, cap_24, cap_25, cap_26, cap_27, cap_28, cap_29, cap_30, cap_31, cap_32, cap_33, cap_34, cap_35, cap_36, cap_37, cap_38, cap_39, cap_40, eBor, brw, D.noL, D.noLs, sRaise, sTry, isE, qXf, cleanR, D.noX, D.noXs, rfX, boolF, Option.map_some, Option.map_none, Option.getD_some, C1_d_law_same, len1_sq e, List.length_map, h, ixD_sq e a1]
  · simp -implicitDefEqProofs only [d_law_cell, b_d_law_cell, runF, eBinR, qFld, eMth, eMth0, eProp, lot_pure, lot_frz, lot_isO, eBad, sBad, gT, gCo, gNl, sAsg, sDput, eDget, eDget2, dicO, sPut, sPut2, sq_tup, sq_lst, sq_vec, sNx, sSeq, sIf, sRet, sSet, sEx, sBk, sCt, sFgt, fgt, eC, eV, eM, eBin, eUn, aNil, aCons, eTup, eLst, eFn, tB1, tAnd, tOr, tNot, eAnd, eOr, eNot, eIf, eCall, eCallK, pick, eQ, tQ1, qV, qC, qBin, qUn, qB, qAnd, qOr, qNot, qIf, qAndT, qOrT, qNotT, qChain, eChain, eLc, sFor, iSq, iRg1, iRg2, gN, itms, rst, eApp, D.frz, D.frzs, D.pure, D.pures, bind_ok, bind_ex, stmt_ok, stmt_ex, seq_nx, seq_rt, seq_ex, seq_bk, seq_ct, fgt_nx, fgt_bk, fgt_ct, fgt_rt, fgt_ex, out_nx, out_rt, out_ex, opt_some, optL_some, andB_tt, andB_ff, andB_some, orB_tt, orB_ff, orB_some, andX_tt, andX_ff, andX_some, orX_tt, orX_ff, orX_some, itAnd, itOr, itAndX, itOrX, Option.bind_some, List.map_cons, List.map_nil, List.length_cons, List.length_nil, List.cons_append, List.nil_append, List.getElem?_cons_zero, List.getElem?_cons_succ, List.getElem?_nil, List.set_cons_zero, List.set_cons_succ, List.replicate, addI_i, subD_i, ltD_i, leD_i, gtD_i, geD_i, eqS_int, neS_int, eqS_bl, neS_bl, max2_i, min2_i, maxL_i, minL_i, int1_i, intL_i, if_true, if_false, ite_true, ite_false, and_true, true_and, and_self, Bool.and_self, Bool.and_true, Bool.true_and, Bool.and_false, Bool.false_and, Bool.or_true, Bool.true_or, Bool.or_false, Bool.false_or, Bool.not_true, Bool.not_false, Nat.reduceAdd, Nat.reduceSub, Nat.reduceEqDiff, List.filterMap_cons, List.filterMap_nil, decide_true, decide_false, Bool.false_eq_true, reduceIte, Int.reduceAdd, Int.reduceSub, Int.reduceMul, Int.reduceNeg, Int.reduceLT, Int.reduceLE, Int.reduceEq, Int.reduceMod, Int.reduceDiv, Int.lt_irrefl, reduceCtorEq, D.frzs_int, D.pures_int, cap_0, cap_1, cap_2, cap_3, cap_4, cap_5, cap_6, cap_7, cap_8, cap_9, cap_10, cap_11, cap_12, cap_13, cap_14, cap_15, cap_16, cap_17, cap_18, cap_19, cap_20, cap_21, cap_22, cap_23, cap_24, cap_25, cap_26, cap_27, cap_28, cap_29, cap_30, cap_31, cap_32, cap_33, cap_34, cap_35, cap_36, cap_37, cap_38, cap_39, cap_40, eBor, brw, D.noL, D.noLs, sRaise, sTry, isE, qXf, cleanR, D.noX, D.noXs, rfX, boolF, Option.map_some, Option.map_none, Option.getD_some, C1_d_law_same, len1_sq e, List.length_map, h]
    obtain ⟨h2, h3⟩ := loop_fold (g := gN 3) (b := B1_d_law_cell) D.int (fun s : Int => [some (.lst (ns.map D.int)), some (.int k), some (.int s), none]) (fun s x => (s * 31 + x % 1000003) % 1000003) (fun s => 0 ≤ s ∧ s < 1000003) ns
      (fun s x _ _ => by omega) (fun s x _ hs => ⟨_, rfl, by
        simp -implicitDefEqProofs only [B1_d_law_cell, runF, eBinR, qFld, eMth, eMth0, eProp, lot_pure, lot_frz, lot_isO, eBad, sBad, gT, gCo, gNl, sAsg, sDput, eDget, eDget2, dicO, sPut, sPut2, sq_tup, sq_lst, sq_vec, sNx, sSeq, sIf, sRet, sSet, sEx, sBk, sCt, sFgt, fgt, eC, eV, eM, eBin, eUn, aNil, aCons, eTup, eLst, eFn, tB1, tAnd, tOr, tNot, eAnd, eOr, eNot, eIf, eCall, eCallK, pick, eQ, tQ1, qV, qC, qBin, qUn, qB, qAnd, qOr, qNot, qIf, qAndT, qOrT, qNotT, qChain, eChain, eLc, sFor, iSq, iRg1, iRg2, gN, itms, rst, eApp, D.frz, D.frzs, D.pure, D.pures, bind_ok, bind_ex, stmt_ok, stmt_ex, seq_nx, seq_rt, seq_ex, seq_bk, seq_ct, fgt_nx, fgt_bk, fgt_ct, fgt_rt, fgt_ex, out_nx, out_rt, out_ex, opt_some, optL_some, andB_tt, andB_ff, andB_some, orB_tt, orB_ff, orB_some, andX_tt, andX_ff, andX_some, orX_tt, orX_ff, orX_some, itAnd, itOr, itAndX, itOrX, Option.bind_some, List.map_cons, List.map_nil, List.length_cons, List.length_nil, List.cons_append, List.nil_append, List.getElem?_cons_zero, List.getElem?_cons_succ, List.getElem?_nil, List.set_cons_zero, List.set_cons_succ, List.replicate, addI_i, subD_i, ltD_i, leD_i, gtD_i, geD_i, eqS_int, neS_int, eqS_bl, neS_bl, max2_i, min2_i, maxL_i, minL_i, int1_i, intL_i, if_true, if_false, ite_true, ite_false, and_true, true_and, and_self, Bool.and_self, Bool.and_true, Bool.true_and, Bool.and_false, Bool.false_and, Bool.or_true, Bool.true_or, Bool.or_false, Bool.false_or, Bool.not_true, Bool.not_false, Nat.reduceAdd, Nat.reduceSub, Nat.reduceEqDiff, List.filterMap_cons, List.filterMap_nil, decide_true, decide_false, Bool.false_eq_true, reduceIte, Int.reduceAdd, Int.reduceSub, Int.reduceMul, Int.reduceNeg, Int.reduceLT, Int.reduceLE, Int.reduceEq, Int.reduceMod, Int.reduceDiv, Int.lt_irrefl, reduceCtorEq, D.frzs_int, D.pures_int, cap_0, cap_1, cap_2, cap_3, cap_4, cap_5, cap_6, cap_7, cap_8, cap_9, cap_10, cap_11, cap_12, cap_13, cap_14, cap_15, cap_16, cap_17, cap_18, cap_19, cap_20, cap_21, cap_22, cap_23, cap_24, cap_25, cap_26, cap_27, cap_28, cap_29, cap_30, cap_31, cap_32, cap_33, cap_34, cap_35, cap_36, cap_37, cap_38, cap_39, cap_40, eBor, brw, D.noL, D.noLs, sRaise, sTry, isE, qXf, cleanR, D.noX, D.noXs, rfX, boolF, Option.map_some, Option.map_none, Option.getD_some, C1_d_law_same, mulD_i (show (-(2 ^ 64) < s ∧ s < 2 ^ 64) ∨ _ from .inl ⟨by omega, by omega⟩), modD_i (show (0 : Int) < 1000003 by decide)]⟩) 17 (by decide)
    rw [h2]
    have m1 : ∀ s : Int, 0 ≤ s ∧ s < 1000003 → mulD (.int (s + 7)) (.int (k + 3)) = some (.int ((s + 7) * (k + 3))) := fun s hs => mulD_i (.inl ⟨by omega, by omega⟩)
    have m2 : ∀ z : Int, mulD (.int z) (.int 69621) = some (.int (z * 69621)) := fun z => mulD_i (.inr ⟨by decide, by decide⟩)
    exact ⟨_, by simp -implicitDefEqProofs only [runF, eBinR, qFld, eMth, eMth0, eProp, lot_pure, lot_frz, lot_isO, eBad, sBad, gT, gCo, gNl, sAsg, sDput, eDget, eDget2, dicO, sPut, sPut2, sq_tup, sq_lst, sq_vec, sNx, sSeq, sIf, sRet, sSet, sEx, sBk, sCt, sFgt, fgt, eC, eV, eM, eBin, eUn, aNil, aCons, eTup, eLst, eFn, tB1, tAnd, tOr, tNot, eAnd, eOr, eNot, eIf, eCall, eCallK, pick, eQ, tQ1, qV, qC, qBin, qUn, qB, qAnd, qOr, qNot, qIf, qAndT, qOrT, qNotT, qChain, eChain, eLc, sFor, iSq, iRg1, iRg2, gN, itms, rst, eApp, D.frz, D.frzs, D.pure, D.pures, bind_ok, bind_ex, stmt_ok, stmt_ex, seq_nx, seq_rt, seq_ex, seq_bk, seq_ct, fgt_nx, fgt_bk, fgt_ct, fgt_rt, fgt_ex, out_nx, out_rt, out_ex, opt_some, optL_some, andB_tt, andB_ff, andB_some, orB_tt, orB_ff, orB_some, andX_tt, andX_ff, andX_some, orX_tt, orX_ff, orX_some, itAnd, itOr, itAndX, itOrX, Option.bind_some, List.map_cons, List.map_nil, List.length_cons, List.length_nil, List.cons_append, List.nil_append, List.getElem?_cons_zero, List.getElem?_cons_succ, List.getElem?_nil, List.set_cons_zero, List.set_cons_succ, List.replicate, addI_i, subD_i, ltD_i, leD_i, gtD_i, geD_i, eqS_int, neS_int, eqS_bl, neS_bl, max2_i, min2_i, maxL_i, minL_i, int1_i, intL_i, if_true, if_false, ite_true, ite_false, and_true, true_and, and_self, Bool.and_self, Bool.and_true, Bool.true_and, Bool.and_false, Bool.false_and, Bool.or_true, Bool.true_or, Bool.or_false, Bool.false_or, Bool.not_true, Bool.not_false, Nat.reduceAdd, Nat.reduceSub, Nat.reduceEqDiff, List.filterMap_cons, List.filterMap_nil, decide_true, decide_false, Bool.false_eq_true, reduceIte, Int.reduceAdd, Int.reduceSub, Int.reduceMul, Int.reduceNeg, Int.reduceLT, Int.reduceLE, Int.reduceEq, Int.reduceMod, Int.reduceDiv, Int.lt_irrefl, reduceCtorEq, D.frzs_int, D.pures_int, cap_0, cap_1, cap_2, cap_3, cap_4, cap_5, cap_6, cap_7, cap_8, cap_9, cap_10, cap_11, cap_12, cap_13, cap_14, cap_15, cap_16, cap_17, cap_18, cap_19, cap_20, cap_21, cap_22, cap_23, cap_24, cap_25, cap_26, cap_27, cap_28, cap_29, cap_30, cap_31, cap_32, cap_33, cap_34, cap_35, cap_36, cap_37, cap_38, cap_39, cap_40, eBor, brw, D.noL, D.noLs, sRaise, sTry, isE, qXf, cleanR, D.noX, D.noXs, rfX, boolF, Option.map_some, Option.map_none, Option.getD_some, C1_d_law_same, m1 _ h3, m2, modD_i (show (0 : Int) < 2147483647 by decide)]; rfl⟩

def InR : List Int → List Int → Prop
  | [], [] => True
  | r :: rs, s :: ss => (0 ≤ r ∧ r < s) ∧ InR rs ss
  | _, _ => False
theorem inR_snoc : ∀ {rs ss : List Int} {r s : Int}, InR rs ss → 0 ≤ r ∧ r < s → InR (rs ++ [r]) (ss ++ [s])
  | [], [], r, s, _, h => ⟨h, trivial⟩
  | [], _ :: _, _, _, h, _ => h.elim
  | _ :: _, [], _, _, h, _ => h.elim
  | _ :: _, _ :: _, _, _, h, h2 => ⟨h.1, inR_snoc h.2 h2⟩
theorem inR_len : ∀ {rs ss : List Int}, InR rs ss → rs.length = ss.length
  | [], [], _ => rfl
  | [], _ :: _, h => h.elim
  | _ :: _, [], h => h.elim
  | _ :: _, _ :: _, h => by rw [List.length_cons, List.length_cons, inR_len h.2]
theorem digits_eq (c : Int) (ss : List Int) (hs : ∀ s ∈ ss, 0 < s ∧ s < 1073741824) (hl : ss.length ≤ 1000) : ∃ row, d_law_digits [.int c, .lst (ss.map .int)] = .rt (.vec (row.map .int)) ∧ InR row ss := by
  have hb : bnd (ss.length : Int) = true := bnd_of ⟨by omega, by omega⟩
  have e1 : sq (.lst (ss.map D.int)) = some (ss.map .int) := rfl
  by_cases hc : (1000000000000000000 : Int) ≤ c
  · have lp := loop_ind (g := gN 4) (b := B1_d_law_digits) D.int
      (fun xs ρ => ∃ pre row rest, pre ++ xs = ss ∧ InR row pre ∧ ρ = [some (.int c), some (.lst (ss.map .int)), some (.vec (row.map .int)), some (.int rest), none, none, none, none])
      (fun z => ∃ row rest, InR row ss ∧ z = .nx [some (.int c), some (.lst (ss.map .int)), some (.vec (row.map .int)), some (.int rest), none, none, none, none])
      (fun ρ ⟨pre, row, rest, h1, h2, h3⟩ => by
        rw [List.append_nil] at h1
        subst h1 h3
        exact ⟨row, rest, h2, rfl⟩)
      (fun x xs ρ ⟨pre, row, rest, h1, h2, h3⟩ => by
        subst h3
        have hx : 0 < x ∧ x < 1073741824 := hs x (by rw [← h1]; simp)
        have hln := inR_len h2
        have hc : cap (row.map D.int).length = true := cap_of (by
          rw [List.length_map]
          rw [← h1, List.length_append] at hl
          omega)
        refine ⟨_, rfl, .inl ⟨[some (.int c), some (.lst (ss.map .int)), some (.vec ((row ++ [rest % x]).map .int)), some (.int (rest / x)), none, none, none, none], .inl ?_, pre ++ [x], row ++ [rest % x], rest / x, by rw [List.append_assoc]; exact h1, inR_snoc h2 ⟨Int.emod_nonneg _ (by omega), Int.emod_lt_of_pos _ hx.1⟩, rfl⟩⟩
        simp -implicitDefEqProofs only [B1_d_law_digits, runF, eBinR, qFld, eMth, eMth0, eProp, lot_pure, lot_frz, lot_isO, eBad, sBad, gT, gCo, gNl, sAsg, sDput, eDget, eDget2, dicO, sPut, sPut2, sq_tup, sq_lst, sq_vec, sNx, sSeq, sIf, sRet, sSet, sEx, sBk, sCt, sFgt, fgt, eC, eV, eM, eBin, eUn, aNil, aCons, eTup, eLst, eFn, tB1, tAnd, tOr, tNot, eAnd, eOr, eNot, eIf, eCall, eCallK, pick, eQ, tQ1, qV, qC, qBin, qUn, qB, qAnd, qOr, qNot, qIf, qAndT, qOrT, qNotT, qChain, eChain, eLc, sFor, iSq, iRg1, iRg2, gN, itms, rst, eApp, D.frz, D.frzs, D.pure, D.pures, bind_ok, bind_ex, stmt_ok, stmt_ex, seq_nx, seq_rt, seq_ex, seq_bk, seq_ct, fgt_nx, fgt_bk, fgt_ct, fgt_rt, fgt_ex, out_nx, out_rt, out_ex, opt_some, optL_some, andB_tt, andB_ff, andB_some, orB_tt, orB_ff, orB_some, andX_tt, andX_ff, andX_some, orX_tt, orX_ff, orX_some, itAnd, itOr, itAndX, itOrX, Option.bind_some, List.map_cons, List.map_nil, List.length_cons, List.length_nil, List.cons_append, List.nil_append, List.getElem?_cons_zero, List.getElem?_cons_succ, List.getElem?_nil, List.set_cons_zero, List.set_cons_succ, List.replicate, addI_i, subD_i, ltD_i, leD_i, gtD_i, geD_i, eqS_int, neS_int, eqS_bl, neS_bl, max2_i, min2_i, maxL_i, minL_i, int1_i, intL_i, if_true, if_false, ite_true, ite_false, and_true, true_and, and_self, Bool.and_self, Bool.and_true, Bool.true_and, Bool.and_false, Bool.false_and, Bool.or_true, Bool.true_or, Bool.or_false, Bool.false_or, Bool.not_true, Bool.not_false, Nat.reduceAdd, Nat.reduceSub, Nat.reduceEqDiff, List.filterMap_cons, List.filterMap_nil, decide_true, decide_false, Bool.false_eq_true, reduceIte, Int.reduceAdd, Int.reduceSub, Int.reduceMul, Int.reduceNeg, Int.reduceLT, Int.reduceLE, Int.reduceEq, Int.reduceMod, Int.reduceDiv, Int.lt_irrefl, reduceCtorEq, D.frzs_int, D.pures_int, cap_0, cap_1, cap_2, cap_3, cap_4, cap_5, cap_6, cap_7, cap_8, cap_9, cap_10, cap_11, cap_12, cap_13, cap_14, cap_15, cap_16, cap_17, cap_18, cap_19, cap_20, cap_21, cap_22, cap_23, cap_24, cap_25, cap_26, cap_27, cap_28, cap_29, cap_30, cap_31, cap_32, cap_33, cap_34, cap_35, cap_36, cap_37, cap_38, cap_39, cap_40, eBor, brw, D.noL, D.noLs, sRaise, sTry, isE, qXf, cleanR, D.noX, D.noXs, rfX, boolF, Option.map_some, Option.map_none, Option.getD_some, C1_d_law_same, modD_i hx.1, divD_i hx, hc, List.map_append]) ss _ ⟨[], [], c - 1000000000000000000, rfl, trivial, rfl⟩
    obtain ⟨row, rest, h1, h2⟩ := lp
    refine ⟨row, ?_, h1⟩
    have h2' : loop (gN 4) B1_d_law_digits (ss.map D.int) [some (.int c), some (.lst (ss.map .int)), some (.vec []), some (.int (c - 1000000000000000000)), none, none, none, none] = _ := h2
    unfold d_law_digits b_d_law_digits
    simp -implicitDefEqProofs only [runF, eBinR, qFld, eMth, eMth0, eProp, lot_pure, lot_frz, lot_isO, eBad, sBad, gT, gCo, gNl, sAsg, sDput, eDget, eDget2, dicO, sPut, sPut2, sq_tup, sq_lst, sq_vec, sNx, sSeq, sIf, sRet, sSet, sEx, sBk, sCt, sFgt, fgt, eC, eV, eM, eBin, eUn, aNil, aCons, eTup, eLst, eFn, tB1, tAnd, tOr, tNot, eAnd, eOr, eNot, eIf, eCall, eCallK, pick, eQ, tQ1, qV, qC, qBin, qUn, qB, qAnd, qOr, qNot, qIf, qAndT, qOrT, qNotT, qChain, eChain, eLc, sFor, iSq, iRg1, iRg2, gN, itms, rst, eApp, D.frz, D.frzs, D.pure, D.pures, bind_ok, bind_ex, stmt_ok, stmt_ex, seq_nx, seq_rt, seq_ex, seq_bk, seq_ct, fgt_nx, fgt_bk, fgt_ct, fgt_rt, fgt_ex, out_nx, out_rt, out_ex, opt_some, optL_some, andB_tt, andB_ff, andB_some, orB_tt, orB_ff, orB_some, andX_tt, andX_ff, andX_some, orX_tt, orX_ff, orX_some, itAnd, itOr, itAndX, itOrX, Option.bind_some, List.map_cons, List.map_nil, List.length_cons, List.length_nil, List.cons_append, List.nil_append, List.getElem?_cons_zero, List.getElem?_cons_succ, List.getElem?_nil, List.set_cons_zero, List.set_cons_succ, List.replicate, addI_i, subD_i, ltD_i, leD_i, gtD_i, geD_i, eqS_int, neS_int, eqS_bl, neS_bl, max2_i, min2_i, maxL_i, minL_i, int1_i, intL_i, if_true, if_false, ite_true, ite_false, and_true, true_and, and_self, Bool.and_self, Bool.and_true, Bool.true_and, Bool.and_false, Bool.false_and, Bool.or_true, Bool.true_or, Bool.or_false, Bool.false_or, Bool.not_true, Bool.not_false, Nat.reduceAdd, Nat.reduceSub, Nat.reduceEqDiff, List.filterMap_cons, List.filterMap_nil, decide_true, decide_false, Bool.false_eq_true, reduceIte, Int.reduceAdd, Int.reduceSub, Int.reduceMul, Int.reduceNeg, Int.reduceLT, Int.reduceLE, Int.reduceEq, Int.reduceMod, Int.reduceDiv, Int.lt_irrefl, reduceCtorEq, D.frzs_int, D.pures_int, cap_0, cap_1, cap_2, cap_3, cap_4, cap_5, cap_6, cap_7, cap_8, cap_9, cap_10, cap_11, cap_12, cap_13, cap_14, cap_15, cap_16, cap_17, cap_18, cap_19, cap_20, cap_21, cap_22, cap_23, cap_24, cap_25, cap_26, cap_27, cap_28, cap_29, cap_30, cap_31, cap_32, cap_33, cap_34, cap_35, cap_36, cap_37, cap_38, cap_39, cap_40, eBor, brw, D.noL, D.noLs, sRaise, sTry, isE, qXf, cleanR, D.noX, D.noXs, rfX, boolF, Option.map_some, Option.map_none, Option.getD_some, C1_d_law_same, hc, h2']
  · have lp := loop_ind (g := gN 6) (b := B2_d_law_digits) (fun k : Nat => D.int ((0 : Int) + k))
      (fun xs ρ => ∃ (k : Nat) (row : List Int) (seed : Int), k + xs.length = ss.length ∧ xs = List.range' k xs.length ∧ (0 ≤ seed ∧ seed < 2147483647) ∧ InR row (ss.take k) ∧ ρ = [some (.int c), some (.lst (ss.map .int)), some (.vec (row.map .int)), some (.int c), none, some (.int seed), none, none])
      (fun z => ∃ row seed, InR row ss ∧ z = .nx [some (.int c), some (.lst (ss.map .int)), some (.vec (row.map .int)), some (.int c), none, some (.int seed), none, none])
      (fun ρ ⟨k, row, seed, h1, _, h2, h3, h4⟩ => by
        subst h4
        simp only [List.length_nil, Nat.add_zero] at h1
        rw [h1, List.take_length] at h3
        exact ⟨row, seed, h3, rfl⟩)
      (fun x xs ρ ⟨k, row, seed, h1, hx, h2, h3, h4⟩ => by
        subst h4
        rw [List.length_cons, List.range'_succ] at hx
        injection hx with hx1 hx2
        subst hx1
        rw [List.length_cons] at h1
        have hk : x < ss.length := by omega
        have a1 : atI (ss.map D.int) ((0 : Int) + x) = some (.int ss[x]) := by
          rw [Int.zero_add]; exact atI_nat (by simp [hk])
        have hsx := hs ss[x] (List.getElem_mem hk)
        have hln := inR_len h3
        have hc : cap (row.map D.int).length = true := cap_of (by
          rw [List.length_map, hln, List.length_take]
          omega)
        have m1 : mulD (.int seed) (.int 48271) = some (.int (seed * 48271)) := mulD_i (.inr ⟨by decide, by decide⟩)
        have m2 : mulD (.int 974711) (.int ((0 : Int) + x)) = some (.int (974711 * ((0 : Int) + x))) := mulD_i (.inl ⟨by decide, by decide⟩)
        have n1 : 0 ≤ (seed * 48271 + 974711 * ((0 : Int) + x) + 12345) % 2147483647 := Int.emod_nonneg _ (by decide)
        have n2 : (seed * 48271 + 974711 * ((0 : Int) + x) + 12345) % 2147483647 < 2147483647 := Int.emod_lt_of_pos _ (by decide)
        generalize hsd : (seed * 48271 + 974711 * ((0 : Int) + x) + 12345) % 2147483647 = sd at n1 n2
        have m3 : mulD (.int sd) (.int (sd / 65537 + 3)) = some (.int (sd * (sd / 65537 + 3))) := mulD_i (.inl ⟨by omega, by omega⟩)
        refine ⟨_, rfl, .inl ⟨[some (.int c), some (.lst (ss.map .int)), some (.vec ((row ++ [sd * (sd / 65537 + 3) % 2147483629 / 19 % ss[x]]).map .int)), some (.int c), none, some (.int sd), none, none], .inl ?_, x + 1, row ++ [sd * (sd / 65537 + 3) % 2147483629 / 19 % ss[x]], sd, by omega, hx2, ⟨n1, n2⟩, ?_, rfl⟩⟩
        · simp -implicitDefEqProofs only [B2_d_law_digits, runF, eBinR, qFld, eMth, eMth0, eProp, lot_pure, lot_frz, lot_isO, eBad, sBad, gT, gCo, gNl, sAsg, sDput, eDget, eDget2, dicO, sPut, sPut2, sq_tup, sq_lst, sq_vec, sNx, sSeq, sIf, sRet, sSet, sEx, sBk, sCt, sFgt, fgt, eC, eV, eM, eBin, eUn, aNil, aCons, eTup, eLst, eFn, tB1, tAnd, tOr, tNot, eAnd, eOr, eNot, eIf, eCall, eCallK, pick, eQ, tQ1, qV, qC, qBin, qUn, qB, qAnd, qOr, qNot, qIf, qAndT, qOrT, qNotT, qChain, eChain, eLc, sFor, iSq, iRg1, iRg2, gN, itms, rst, eApp, D.frz, D.frzs, D.pure, D.pures, bind_ok, bind_ex, stmt_ok, stmt_ex, seq_nx, seq_rt, seq_ex, seq_bk, seq_ct, fgt_nx, fgt_bk, fgt_ct, fgt_rt, fgt_ex, out_nx, out_rt, out_ex, opt_some, optL_some, andB_tt, andB_ff, andB_some, orB_tt, orB_ff, orB_some, andX_tt, andX_ff, andX_some, orX_tt, orX_ff, orX_some, itAnd, itOr, itAndX, itOrX, Option.bind_some, List.map_cons, List.map_nil, List.length_cons, List.length_nil, List.cons_append, List.nil_append, List.getElem?_cons_zero, List.getElem?_cons_succ, List.getElem?_nil, List.set_cons_zero, List.set_cons_succ, List.replicate, addI_i, subD_i, ltD_i, leD_i, gtD_i, geD_i, eqS_int, neS_int, eqS_bl, neS_bl, max2_i, min2_i, maxL_i, minL_i, int1_i, intL_i, if_true, if_false, ite_true, ite_false, and_true, true_and, and_self, Bool.and_self, Bool.and_true, Bool.true_and, Bool.and_false, Bool.false_and, Bool.or_true, Bool.true_or, Bool.or_false, Bool.false_or, Bool.not_true, Bool.not_false, Nat.reduceAdd, Nat.reduceSub, Nat.reduceEqDiff, List.filterMap_cons, List.filterMap_nil, decide_true, decide_false, Bool.false_eq_true, reduceIte, Int.reduceAdd, Int.reduceSub, Int.reduceMul, Int.reduceNeg, Int.reduceLT, Int.reduceLE, Int.reduceEq, Int.reduceMod, Int.reduceDiv, Int.lt_irrefl, reduceCtorEq, D.frzs_int, D.pures_int, cap_0, cap_1, cap_2, cap_3, cap_4, cap_5, cap_6, cap_7, cap_8, cap_9, cap_10, cap_11, cap_12, cap_13, cap_14, cap_15, cap_16, cap_17, cap_18, cap_19, cap_20, cap_21, cap_22, cap_23, cap_24, cap_25, cap_26, cap_27, cap_28, cap_29, cap_30, cap_31, cap_32, cap_33, cap_34, cap_35, cap_36, cap_37, cap_38, cap_39, cap_40, eBor, brw, D.noL, D.noLs, sRaise, sTry, isE, qXf, cleanR, D.noX, D.noXs, rfX, boolF, Option.map_some, Option.map_none, Option.getD_some, C1_d_law_same, m1, m2, modD_i (show (0 : Int) < 2147483647 by decide), hsd, divD_i (show (0 : Int) < 65537 ∧ (65537 : Int) < 1073741824 by decide), m3, modD_i (show (0 : Int) < 2147483629 by decide), divD_i (show (0 : Int) < 19 ∧ (19 : Int) < 1073741824 by decide), ixD_sq e1 a1, modD_i hsx.1, hc, List.map_append]
        · rw [List.take_succ, List.getElem?_eq_getElem hk]
          exact inR_snoc h3 ⟨Int.emod_nonneg _ (by omega), Int.emod_lt_of_pos _ hsx.1⟩) (List.range ss.length) _ ⟨0, [], c % 2147483629, by simp, by rw [List.length_range, List.range_eq_range'], ⟨Int.emod_nonneg _ (by decide), by have := Int.emod_lt_of_pos c (show (0 : Int) < 2147483629 by decide); omega⟩, trivial, rfl⟩
    obtain ⟨row, seed, h1, h2⟩ := lp
    refine ⟨row, ?_, h1⟩
    have h2' : loop (gN 6) B2_d_law_digits (((List.range ss.length).map fun (k : Nat) => (0 : Int) + k).map D.int) [some (.int c), some (.lst (ss.map .int)), some (.vec []), some (.int c), none, some (.int (c % 2147483629)), none, none] = .nx [some (.int c), some (.lst (ss.map .int)), some (.vec (row.map .int)), some (.int c), none, some (.int seed), none, none] := by rw [List.map_map]; exact h2
    unfold d_law_digits b_d_law_digits
    simp -implicitDefEqProofs only [runF, eBinR, qFld, eMth, eMth0, eProp, lot_pure, lot_frz, lot_isO, eBad, sBad, gT, gCo, gNl, sAsg, sDput, eDget, eDget2, dicO, sPut, sPut2, sq_tup, sq_lst, sq_vec, sNx, sSeq, sIf, sRet, sSet, sEx, sBk, sCt, sFgt, fgt, eC, eV, eM, eBin, eUn, aNil, aCons, eTup, eLst, eFn, tB1, tAnd, tOr, tNot, eAnd, eOr, eNot, eIf, eCall, eCallK, pick, eQ, tQ1, qV, qC, qBin, qUn, qB, qAnd, qOr, qNot, qIf, qAndT, qOrT, qNotT, qChain, eChain, eLc, sFor, iSq, iRg1, iRg2, gN, itms, rst, eApp, D.frz, D.frzs, D.pure, D.pures, bind_ok, bind_ex, stmt_ok, stmt_ex, seq_nx, seq_rt, seq_ex, seq_bk, seq_ct, fgt_nx, fgt_bk, fgt_ct, fgt_rt, fgt_ex, out_nx, out_rt, out_ex, opt_some, optL_some, andB_tt, andB_ff, andB_some, orB_tt, orB_ff, orB_some, andX_tt, andX_ff, andX_some, orX_tt, orX_ff, orX_some, itAnd, itOr, itAndX, itOrX, Option.bind_some, List.map_cons, List.map_nil, List.length_cons, List.length_nil, List.cons_append, List.nil_append, List.getElem?_cons_zero, List.getElem?_cons_succ, List.getElem?_nil, List.set_cons_zero, List.set_cons_succ, List.replicate, addI_i, subD_i, ltD_i, leD_i, gtD_i, geD_i, eqS_int, neS_int, eqS_bl, neS_bl, max2_i, min2_i, maxL_i, minL_i, int1_i, intL_i, if_true, if_false, ite_true, ite_false, and_true, true_and, and_self, Bool.and_self, Bool.and_true, Bool.true_and, Bool.and_false, Bool.false_and, Bool.or_true, Bool.true_or, Bool.or_false, Bool.false_or, Bool.not_true, Bool.not_false, Nat.reduceAdd, Nat.reduceSub, Nat.reduceEqDiff, List.filterMap_cons, List.filterMap_nil, decide_true, decide_false, Bool.false_eq_true, reduceIte, Int.reduceAdd, Int.reduceSub, Int.reduceMul, Int.reduceNeg, Int.reduceLT, Int.reduceLE, Int.reduceEq, Int.reduceMod, Int.reduceDiv, Int.lt_irrefl, reduceCtorEq, D.frzs_int, D.pures_int, cap_0, cap_1, cap_2, cap_3, cap_4, cap_5, cap_6, cap_7, cap_8, cap_9, cap_10, cap_11, cap_12, cap_13, cap_14, cap_15, cap_16, cap_17, cap_18, cap_19, cap_20, cap_21, cap_22, cap_23, cap_24, cap_25, cap_26, cap_27, cap_28, cap_29, cap_30, cap_31, cap_32, cap_33, cap_34, cap_35, cap_36, cap_37, cap_38, cap_39, cap_40, eBor, brw, D.noL, D.noLs, sRaise, sTry, isE, qXf, cleanR, D.noX, D.noXs, rfX, boolF, Option.map_some, Option.map_none, Option.getD_some, C1_d_law_same, hc, modD_i (show (0 : Int) < 2147483629 by decide), len1_sq e1, List.length_map, hb, rng_eq, Int.sub_zero, Int.toNat_natCast, h2']
theorem inR3 {row : List Int} {a b c : Int} (h : InR row [a, b, c]) : ∃ x y z, row = [x, y, z] ∧ (0 ≤ x ∧ x < a) ∧ (0 ≤ y ∧ y < b) ∧ (0 ≤ z ∧ z < c) := by
  match row, h with
  | [x, y, z], h => exact ⟨x, y, z, rfl, h.1, h.2.1, h.2.2.1⟩
theorem inR4 {row : List Int} {a b c d : Int} (h : InR row [a, b, c, d]) : ∃ x y z w, row = [x, y, z, w] ∧ (0 ≤ x ∧ x < a) ∧ (0 ≤ y ∧ y < b) ∧ (0 ≤ z ∧ z < c) ∧ (0 ≤ w ∧ w < d) := by
  match row, h with
  | [x, y, z, w], h => exact ⟨x, y, z, w, rfl, h.1, h.2.1, h.2.2.1, h.2.2.2.1⟩
theorem inR1 {row : List Int} {a : Int} (h : InR row [a]) : ∃ x, row = [x] ∧ (0 ≤ x ∧ x < a) := by
  match row, h with
  | [x], h => exact ⟨x, rfl, h.1⟩
theorem iv0 (x : Int) (l : List D) : ixD (.lst (.int x :: l)) (.int 0) = some (.int x) := by
  refine ixD_sq (sq_lst _) ?_
  exact atI_nat (j := 0) rfl
theorem iv0v (x : Int) (l : List D) : ixD (.vec (.int x :: l)) (.int 0) = some (.int x) := by
  refine ixD_sq (sq_vec _) ?_
  exact atI_nat (j := 0) rfl
theorem iv1v (x y : Int) (l : List D) : ixD (.vec (.int x :: .int y :: l)) (.int 1) = some (.int y) := by
  refine ixD_sq (sq_vec _) ?_
  exact atI_nat (j := 1) rfl
theorem iv2v (x y z : Int) (l : List D) : ixD (.vec (.int x :: .int y :: .int z :: l)) (.int 2) = some (.int z) := by
  refine ixD_sq (sq_vec _) ?_
  exact atI_nat (j := 2) rfl
theorem iv3v (x y z w : Int) (l : List D) : ixD (.vec (.int x :: .int y :: .int z :: .int w :: l)) (.int 3) = some (.int w) := by
  refine ixD_sq (sq_vec _) ?_
  exact atI_nat (j := 3) rfl

end Math

set_option Elab.async false
set_option linter.all false
set_option maxRecDepth 100000
set_option maxHeartbeats 2000000
namespace Math
open PySem FL Prg
open L2 (atI atI_nat ixN)
theorem tot_keys (w : Int × Int → Int) (q : Int × Int) : ∀ {ks : List (Int × Int)}, ks.Nodup → (∀ p ∈ ks, p.1 < p.2 ∧ 0 < w p) → tot (ks.map fun p => (p.1, p.2, w p)) q = if q ∈ ks then w q else 0
  | [], _, _ => by simp [tot]
  | p :: ks, nd, h => by
    rw [List.nodup_cons] at nd
    have ih := tot_keys w q nd.2 fun x hx => h x (List.mem_cons_of_mem _ hx)
    have hp := h p List.mem_cons_self
    obtain ⟨g1, g2⟩ := good_of (t := (p.1, p.2, w p)) ⟨hp.1, hp.2⟩
    have e : tot ((p :: ks).map fun p => (p.1, p.2, w p)) q = wt (p.1, p.2, w p) q + tot (ks.map fun p => (p.1, p.2, w p)) q := by
      unfold tot
      rw [List.map_cons, List.map_cons, List.sum_cons]
    rw [e, ih]
    unfold wt
    by_cases h2 : q = p
    · subst h2
      rw [if_pos ⟨g1, g2⟩, if_neg nd.1, if_pos List.mem_cons_self]
      show w q + 0 = w q
      omega
    · have e2 : (q ∈ p :: ks) ↔ q ∈ ks := by simp [h2]
      rw [if_neg (fun z => h2 (z.2.symm.trans g2))]
      simp only [e2]
      omega
theorem comb_keys (w : Int × Int → Int) {ks : List (Int × Int)} (so : ks.Pairwise fun a b => leP a b = true) (nd : ks.Nodup) (h : ∀ p ∈ ks, p.1 < p.2 ∧ 0 < w p) : comb (ks.map fun p => (p.1, p.2, w p)) = ks.map fun p => (p.1, p.2, w p) := by
  have hm : ∀ q, q ∈ met (ks.map fun p => (p.1, p.2, w p)) ↔ q ∈ ks := fun q => by
    rw [met_pos, tot_keys w q nd h]
    by_cases hq : q ∈ ks
    · rw [if_pos hq]; exact ⟨fun _ => hq, fun _ => (h q hq).2⟩
    · rw [if_neg hq]; exact ⟨fun z => absurd z (by omega), fun z => absurd z hq⟩
  have pm : (met (ks.map fun p => (p.1, p.2, w p))).Perm ks := (List.perm_ext_iff_of_nodup (nd_met _) nd).mpr hm
  have e : sortP (met (ks.map fun p => (p.1, p.2, w p))) = ks := sort_uniq ((sortP_perm _).trans pm) (sortP_pw _) so
  conv => lhs; unfold comb
  rw [e]
  refine List.map_congr_left fun p hp => ?_
  rw [tot_keys w p nd h, if_pos hp]
/-- other widths in a normal form -/
theorem nf_wid {p : Int} {cs : List T3} (h : NF p cs) (g : T3 → Int) (hg : ∀ t ∈ cs, 1 ≤ g t) : NF p (cs.map fun t => (t.1, t.2.1, g t)) := by
  refine ⟨fun t ht => ?_, ?_⟩
  · obtain ⟨u, hu, rfl⟩ := List.mem_map.mp ht
    obtain ⟨k1, k2, k3, _⟩ := h.1 u hu
    exact ⟨k1, k2, k3, hg u hu⟩
  · have e : cs.map (fun t => (t.1, t.2.1, g t)) = (sortP (met cs)).map fun q => (q.1, q.2, g (q.1, q.2, tot cs q)) := by
      conv => lhs; rw [← h.2]
      unfold comb
      rw [List.map_map]
      rfl
    rw [e]
    refine comb_keys (fun q => g (q.1, q.2, tot cs q)) (sortP_pw _) ((sortP_perm _).nodup_iff.mpr (nd_met _)) fun q hq => ?_
    have hq' := (sortP_perm _).mem_iff.mp hq
    have hm : (q.1, q.2, tot cs q) ∈ cs := by
      have z : (q.1, q.2, tot cs q) ∈ comb cs := List.mem_map.mpr ⟨q, hq, rfl⟩
      rwa [h.2] at z
    refine ⟨nf_lt h _ hm, ?_⟩
    have := hg _ hm
    omega
/-- entries within the rim, some perhaps of no width -/
def okW (p : Int) (cs : List T3) : Prop := ∀ t ∈ cs, (0 ≤ t.1 ∧ t.1 < p) ∧ (0 ≤ t.2.1 ∧ t.2.1 < p) ∧ t.1 ≠ t.2.1 ∧ 0 ≤ t.2.2
theorem okW_of {p : Int} {cs : List T3} (h : okL p cs) : okW p cs := fun t ht => ⟨(h t ht).1, (h t ht).2.1, (h t ht).2.2.1, by have := (h t ht).2.2.2; omega⟩
theorem nf_combW {p : Int} {cs : List T3} (h : okW p cs) : NF p (comb cs) := ⟨fun t ht => by
  obtain ⟨h1, h2, h3⟩ := comb_good ht
  obtain ⟨u, hu, hg, e⟩ := (mem_met cs _).mp h3
  obtain ⟨k1, k2, k3, k4⟩ := h u hu
  have e1 : min u.1 u.2.1 = t.1 := congrArg (·.1) e
  have e2 : max u.1 u.2.1 = t.2.1 := congrArg (·.2) e
  refine ⟨?_, ?_, ?_, ?_⟩ <;> omega, comb_comb cs⟩
theorem nf_tot {p : Int} {cs : List T3} (h : NF p cs) {t : T3} (ht : t ∈ cs) : tot cs (t.1, t.2.1) = t.2.2 := by
  rw [← h.2] at ht
  unfold comb at ht
  obtain ⟨q, _, rfl⟩ := List.mem_map.mp ht
  rfl

end Math

set_option Elab.async false
set_option linter.all false
set_option maxRecDepth 100000
set_option maxHeartbeats 2000000
namespace Math
open PySem FL Prg
open L2 (atI atI_nat ixN)
/-- the cords in order -/
def sepQ (i j : Int) (q : Int × Int) : Int := if sepM i j (q.1, q.2, 0) = true then 1 else 0
theorem filter_sum {α : Type} (p : α → Bool) (f : α → Int) : ∀ l : List α, ((l.filter p).map f).sum = sm l fun x => if p x = true then f x else 0
  | [] => rfl
  | x :: l => by
    rw [sm_cons, ← filter_sum p f l, List.filter_cons]
    by_cases h : p x = true
    · rw [if_pos h, if_pos h, List.map_cons, List.sum_cons]
    · rw [if_neg h, if_neg h]; omega
theorem pass_lin {ts : List T3} (h : ∀ t ∈ ts, t.1 < t.2.1 ∧ 0 ≤ t.2.2) (i j : Int) : passM ts i j = lin ts (sepQ i j) := by
  unfold passM lin
  rw [filter_sum]
  refine sm_congr fun t ht => ?_
  obtain ⟨h1, h2⟩ := h t ht
  have e : sepM i j t = sepM i j (t.1, t.2.1, 0) := rfl
  by_cases hz : 0 < t.2.2
  · obtain ⟨g1, g2⟩ := good_of ⟨h1, hz⟩
    rw [if_pos g1, g2]
    unfold sepQ
    show _ = t.2.2 * (if sepM i j (t.1, t.2.1, 0) = true then 1 else 0)
    rw [← e]
    by_cases hs : sepM i j t = true
    · rw [if_pos hs, if_pos hs]; omega
    · rw [if_neg hs, if_neg hs]; omega
  · have z : t.2.2 = 0 := by omega
    have g : ¬ good t = true := by unfold good; rw [z]; simp
    rw [if_neg g, z]
    split <;> rfl
theorem nf_ord {p : Int} {cs : List T3} (h : NF p cs) : ∀ t ∈ cs, t.1 < t.2.1 ∧ 0 ≤ t.2.2 := fun t ht => ⟨nf_lt h t ht, by have := (h.1 t ht).2.2.2; omega⟩
theorem comb_ord (ts : List T3) : ∀ t ∈ comb ts, t.1 < t.2.1 ∧ 0 ≤ t.2.2 := fun t ht => by
  obtain ⟨h1, h2, _⟩ := comb_good ht
  exact ⟨h1, by omega⟩
theorem lin_append (a b : List T3) (φ : Int × Int → Int) : lin (a ++ b) φ = lin a φ + lin b φ := sm_append _ _ _
theorem pass_add {p : Int} {a b : List T3} (ha : NF p a) (hb : NF p b) (i j : Int) : passM (comb (a ++ b)) i j = passM a i j + passM b i j := by
  rw [pass_lin (comb_ord _), comb_lin, lin_append, pass_lin (nf_ord ha), pass_lin (nf_ord hb)]
theorem lin_mul (a : List T3) (m : Int) (hm : 0 ≤ m) (φ : Int × Int → Int) : lin (a.map fun t => (t.1, t.2.1, t.2.2 * m)) φ = lin a φ * m := by
  unfold lin
  rw [sm_map]
  have e : ∀ l : List T3, (sm l fun t => if good t = true then t.2.2 * φ (prT t) else 0) * m = sm l fun t => (if good t = true then t.2.2 * φ (prT t) else 0) * m := fun l => by
    induction l with
    | nil => rw [sm_nil, sm_nil, Int.zero_mul]
    | cons x l ih => rw [sm_cons, sm_cons, Int.add_mul, ih]
  rw [e]
  refine sm_congr fun t _ => ?_
  by_cases hz : m = 0
  · subst hz
    have g : ¬ good (t.1, t.2.1, t.2.2 * 0) = true := by unfold good; simp
    rw [if_neg g, Int.mul_zero]
  · have hp : 0 < m := by omega
    have g : good (t.1, t.2.1, t.2.2 * m) = good t := by
      unfold good
      show (!decide (t.1 = t.2.1) && decide (0 < t.2.2 * m)) = _
      congr 1
      rw [decide_eq_decide]
      constructor
      · intro h
        by_cases hq : 0 < t.2.2
        · exact hq
        · have := Int.mul_nonneg (show 0 ≤ -t.2.2 by omega) hm
          rw [Int.neg_mul] at this
          omega
      · intro h
        exact Int.mul_pos h hp
    rw [g]
    by_cases hg : good t = true
    · rw [if_pos hg, if_pos hg]
      show t.2.2 * m * φ (prT t) = t.2.2 * φ (prT t) * m
      rw [Int.mul_assoc, Int.mul_comm m, ← Int.mul_assoc]
    · rw [if_neg hg, if_neg hg, Int.zero_mul]
theorem pass_mul {p : Int} {a : List T3} (ha : NF p a) (m : Int) (hm : 0 ≤ m) (i j : Int) : passM (comb (a.map fun t => (t.1, t.2.1, t.2.2 * m))) i j = passM a i j * m := by
  rw [pass_lin (comb_ord _), comb_lin, lin_mul a m hm, pass_lin (nf_ord ha)]
theorem sep_comm (i j : Int) (t : T3) : sepM i j t = sepM j i t := by
  unfold sepM
  congr 1
  rw [decide_eq_decide]
  exact eq_comm
theorem pass_comm (ts : List T3) (i j : Int) : passM ts i j = passM ts j i := by
  unfold passM
  rw [show sepM i j = sepM j i from funext fun t => sep_comm i j t]
/-- a normal form, its pairs and widths -/
theorem nf_keys {p : Int} {c : List T3} (h : NF p c) : c = (sortP (met c)).map fun q => (q.1, q.2, tot c q) := by
  conv => lhs; rw [← h.2]
  rfl
theorem keys_nd (c : List T3) : (sortP (met c)).Nodup := (sortP_perm _).nodup_iff.mpr (nd_met _)
theorem mem_keys {c : List T3} {q : Int × Int} : q ∈ sortP (met c) ↔ q ∈ met c := (sortP_perm _).mem_iff
theorem tot_keys0 (w : Int × Int → Int) (q : Int × Int) : ∀ {ks : List (Int × Int)}, ks.Nodup → (∀ p ∈ ks, p.1 < p.2 ∧ 0 ≤ w p) → tot (ks.map fun p => (p.1, p.2, w p)) q = if q ∈ ks then w q else 0
  | [], _, _ => by simp [tot]
  | p :: ks, nd, h => by
    rw [List.nodup_cons] at nd
    have ih := tot_keys0 w q nd.2 fun x hx => h x (List.mem_cons_of_mem _ hx)
    have hp := h p List.mem_cons_self
    have e : tot ((p :: ks).map fun p => (p.1, p.2, w p)) q = wt (p.1, p.2, w p) q + tot (ks.map fun p => (p.1, p.2, w p)) q := by
      unfold tot
      rw [List.map_cons, List.map_cons, List.sum_cons]
    rw [e, ih]
    have pr : prT (p.1, p.2, w p) = p := by
      unfold prT
      exact Prod.ext (Int.min_eq_left (show p.1 ≤ p.2 by omega)) (Int.max_eq_right (show p.1 ≤ p.2 by omega))
    unfold wt
    rw [pr]
    by_cases h2 : p = q
    · subst h2
      rw [if_neg nd.1, if_pos List.mem_cons_self]
      by_cases hz : 0 < w p
      · rw [if_pos ⟨(good_of (t := (p.1, p.2, w p)) ⟨hp.1, hz⟩).1, rfl⟩]
        show w p + 0 = w p
        omega
      · have z : w p = 0 := by omega
        split
        · show w p + 0 = w p; omega
        · omega
    · have e2 : (q ∈ p :: ks) ↔ q ∈ ks := by simp [Ne.symm h2]
      rw [if_neg (fun z => h2 z.2)]
      simp only [e2]
      omega

end Math

set_option Elab.async false
set_option linter.all false
set_option maxRecDepth 100000
set_option maxHeartbeats 2000000
namespace Math
open PySem FL Prg
open L2 (atI atI_nat ixN)
theorem cat_tup (a b : List T3) (h : a.length + b.length ≤ 1000000) : catT (.tup (a.map tD)) (.tup (b.map tD)) = some (.tup ((a ++ b).map tD)) := by
  rw [List.map_append]
  exact if_pos (yes_of (by rw [List.length_map, List.length_map]; omega))
theorem ok_app {p : Int} {a b : List T3} (ha : okL p a) (hb : okL p b) : okL p (a ++ b) := fun t ht => (List.mem_append.mp ht).elim (ha t) (hb t)
theorem add_eq (p : Int) (a b : List T3) (hp : 0 ≤ p) (ha : okL p a) (hb : okL p b) (h : a.length + b.length ≤ 100000) : d_Lot___add__ [lotD p a, lotD p b] = .rt (lotD p (comb (a ++ b))) := by
  have e := make_eq p (.tup ((a ++ b).map tD)) _ (.inl rfl) hp (ok_app ha hb) (by rw [List.length_append]; omega)
  have ct := cat_tup a b (by omega)
  unfold lotD at e ⊢
  simp -implicitDefEqProofs only [d_Lot___add__, b_d_Lot___add__, runF, eBinR, qFld, eMth, eMth0, eProp, lot_pure, lot_frz, lot_isO, eBad, sBad, gT, gCo, gNl, sAsg, sDput, eDget, eDget2, dicO, sPut, sPut2, sq_tup, sq_lst, sq_vec, sNx, sSeq, sIf, sRet, sSet, sEx, sBk, sCt, sFgt, fgt, eC, eV, eM, eBin, eUn, aNil, aCons, eTup, eLst, eFn, tB1, tAnd, tOr, tNot, eAnd, eOr, eNot, eIf, eCall, eCallK, pick, eQ, tQ1, qV, qC, qBin, qUn, qB, qAnd, qOr, qNot, qIf, qAndT, qOrT, qNotT, qChain, eChain, eLc, sFor, iSq, iRg1, iRg2, gN, itms, rst, eApp, D.frz, D.frzs, D.pure, D.pures, bind_ok, bind_ex, stmt_ok, stmt_ex, seq_nx, seq_rt, seq_ex, seq_bk, seq_ct, fgt_nx, fgt_bk, fgt_ct, fgt_rt, fgt_ex, out_nx, out_rt, out_ex, opt_some, optL_some, andB_tt, andB_ff, andB_some, orB_tt, orB_ff, orB_some, andX_tt, andX_ff, andX_some, orX_tt, orX_ff, orX_some, itAnd, itOr, itAndX, itOrX, Option.bind_some, List.map_cons, List.map_nil, List.length_cons, List.length_nil, List.cons_append, List.nil_append, List.getElem?_cons_zero, List.getElem?_cons_succ, List.getElem?_nil, List.set_cons_zero, List.set_cons_succ, List.replicate, addI_i, subD_i, ltD_i, leD_i, gtD_i, geD_i, eqS_int, neS_int, eqS_bl, neS_bl, max2_i, min2_i, maxL_i, minL_i, int1_i, intL_i, if_true, if_false, ite_true, ite_false, and_true, true_and, and_self, Bool.and_self, Bool.and_true, Bool.true_and, Bool.and_false, Bool.false_and, Bool.or_true, Bool.true_or, Bool.or_false, Bool.false_or, Bool.not_true, Bool.not_false, Nat.reduceAdd, Nat.reduceSub, Nat.reduceEqDiff, List.filterMap_cons, List.filterMap_nil, decide_true, decide_false, Bool.false_eq_true, reduceIte, Int.reduceAdd, Int.reduceSub, Int.reduceMul, Int.reduceNeg, Int.reduceLT, Int.reduceLE, Int.reduceEq, Int.reduceMod, Int.reduceDiv, Int.lt_irrefl, reduceCtorEq, D.frzs_int, D.pures_int, cap_0, cap_1, cap_2, cap_3, cap_4, cap_5, cap_6, cap_7, cap_8, cap_9, cap_10, cap_11, cap_12, cap_13, cap_14, cap_15, cap_16, cap_17, cap_18, cap_19, cap_20, cap_21, cap_22, cap_23, cap_24, cap_25, cap_26, cap_27, cap_28, cap_29, cap_30, cap_31, cap_32, cap_33, cap_34, cap_35, cap_36, cap_37, cap_38, cap_39, cap_40, eBor, brw, D.noL, D.noLs, sRaise, sTry, isE, qXf, cleanR, D.noX, D.noXs, rfX, boolF, eOwn, eOwnI, eDcT, eItT, Option.map_some, Option.map_none, Option.getD_some, C1_d_law_same, pures_tD, frzs_tD, ct, e]
theorem mul_eq (p m : Int) (a : List T3) (hp : 0 ≤ p) (ha : NF p a) (hm : 0 ≤ m) (hm2 : m < 2 ^ 64) (h : a.length ≤ 100000) : d_Lot___mul__ [lotD p a, .int m] = .rt (lotD p (comb (a.map fun t => (t.1, t.2.1, t.2.2 * m)))) := by
  have okw : okW p (a.map fun t => (t.1, t.2.1, t.2.2 * m)) := fun t ht => by
    obtain ⟨u, hu, rfl⟩ := List.mem_map.mp ht
    obtain ⟨k1, k2, k3, k4⟩ := ha.1 u hu
    exact ⟨k1, k2, k3, Int.mul_nonneg (show 0 ≤ u.2.2 by omega) hm⟩
  have nf := nf_combW okw
  have hl : (a.map fun t => ((t.1, t.2.1, t.2.2 * m) : T3)).length ≤ 100000 := by rw [List.length_map]; exact h
  have hc := len_comb (a.map fun t => ((t.1, t.2.1, t.2.2 * m) : T3))
  have ce := combined_eq (.lst ((a.map fun t => ((t.1, t.2.1, t.2.2 * m) : T3)).map tD)) _ (.inr rfl) (by omega)
  have me := make_nf p (.tup ((comb (a.map fun t => (t.1, t.2.1, t.2.2 * m))).map tD)) _ (.inl rfl) hp nf (by omega)
  have key : ∀ x : D, lcl [2, 3, 4] (gT 3 (gCo (gN 2) (gCo (gN 3) (gCo (gN 4) gNl)))) tT E1_d_Lot___mul__ (a.map tD) [] [some x, some (.int m), none, none, none] = .ok (a.map fun t => tD (t.1, t.2.1, t.2.2 * m)) [some x, some (.int m), none, none, none] := fun x =>
    lcl_all tD _ a (by omega) fun t ht => by
      refine ⟨_, [some x, some (.int m), some (.int t.1), some (.int t.2.1), some (.int t.2.2)], rfl, ?_, rfl⟩
      simp -implicitDefEqProofs only [E1_d_Lot___mul__, runF, eBinR, qFld, eMth, eMth0, eProp, lot_pure, lot_frz, lot_isO, eBad, sBad, gT, gCo, gNl, sAsg, sDput, eDget, eDget2, dicO, sPut, sPut2, sq_tup, sq_lst, sq_vec, sNx, sSeq, sIf, sRet, sSet, sEx, sBk, sCt, sFgt, fgt, eC, eV, eM, eBin, eUn, aNil, aCons, eTup, eLst, eFn, tB1, tAnd, tOr, tNot, eAnd, eOr, eNot, eIf, eCall, eCallK, pick, eQ, tQ1, qV, qC, qBin, qUn, qB, qAnd, qOr, qNot, qIf, qAndT, qOrT, qNotT, qChain, eChain, eLc, sFor, iSq, iRg1, iRg2, gN, itms, rst, eApp, D.frz, D.frzs, D.pure, D.pures, bind_ok, bind_ex, stmt_ok, stmt_ex, seq_nx, seq_rt, seq_ex, seq_bk, seq_ct, fgt_nx, fgt_bk, fgt_ct, fgt_rt, fgt_ex, out_nx, out_rt, out_ex, opt_some, optL_some, andB_tt, andB_ff, andB_some, orB_tt, orB_ff, orB_some, andX_tt, andX_ff, andX_some, orX_tt, orX_ff, orX_some, itAnd, itOr, itAndX, itOrX, Option.bind_some, List.map_cons, List.map_nil, List.length_cons, List.length_nil, List.cons_append, List.nil_append, List.getElem?_cons_zero, List.getElem?_cons_succ, List.getElem?_nil, List.set_cons_zero, List.set_cons_succ, List.replicate, addI_i, subD_i, ltD_i, leD_i, gtD_i, geD_i, eqS_int, neS_int, eqS_bl, neS_bl, max2_i, min2_i, maxL_i, minL_i, int1_i, intL_i, if_true, if_false, ite_true, ite_false, and_true, true_and, and_self, Bool.and_self, Bool.and_true, Bool.true_and, Bool.and_false, Bool.false_and, Bool.or_true, Bool.true_or, Bool.or_false, Bool.false_or, Bool.not_true, Bool.not_false, Nat.reduceAdd, Nat.reduceSub, Nat.reduceEqDiff, List.filterMap_cons, List.filterMap_nil, decide_true, decide_false, Bool.false_eq_true, reduceIte, Int.reduceAdd, Int.reduceSub, Int.reduceMul, Int.reduceNeg, Int.reduceLT, Int.reduceLE, Int.reduceEq, Int.reduceMod, Int.reduceDiv, Int.lt_irrefl, reduceCtorEq, D.frzs_int, D.pures_int, cap_0, cap_1, cap_2, cap_3, cap_4, cap_5, cap_6, cap_7, cap_8, cap_9, cap_10, cap_11, cap_12, cap_13, cap_14, cap_15, cap_16, cap_17, cap_18, cap_19, cap_20, cap_21, cap_22, cap_23, cap_24, cap_25, cap_26, cap_27, cap_28, cap_29, cap_30, cap_31, cap_32, cap_33, cap_34, cap_35, cap_36, cap_37, cap_38, cap_39, cap_40, eBor, brw, D.noL, D.noLs, sRaise, sTry, isE, qXf, cleanR, D.noX, D.noXs, rfX, boolF, eOwn, eOwnI, eDcT, eItT, Option.map_some, Option.map_none, Option.getD_some, C1_d_law_same, mulD_i (show _ ∨ (-(2 ^ 64) < m ∧ m < 2 ^ 64) from .inr ⟨by omega, hm2⟩)]
      rfl
  have e2 : (a.map fun t => tD (t.1, t.2.1, t.2.2 * m)) = (a.map fun t => ((t.1, t.2.1, t.2.2 * m) : T3)).map tD := by rw [List.map_map]; rfl
  have h1 : decide (m < 0) = false := decide_eq_false (by omega)
  rw [e2] at key
  generalize (a.map fun t => ((t.1, t.2.1, t.2.2 * m) : T3)) = U at *
  unfold lotD at me ⊢
  simp -implicitDefEqProofs only [d_Lot___mul__, b_d_Lot___mul__, runF, eBinR, qFld, eMth, eMth0, eProp, lot_pure, lot_frz, lot_isO, eBad, sBad, gT, gCo, gNl, sAsg, sDput, eDget, eDget2, dicO, sPut, sPut2, sq_tup, sq_lst, sq_vec, sNx, sSeq, sIf, sRet, sSet, sEx, sBk, sCt, sFgt, fgt, eC, eV, eM, eBin, eUn, aNil, aCons, eTup, eLst, eFn, tB1, tAnd, tOr, tNot, eAnd, eOr, eNot, eIf, eCall, eCallK, pick, eQ, tQ1, qV, qC, qBin, qUn, qB, qAnd, qOr, qNot, qIf, qAndT, qOrT, qNotT, qChain, eChain, eLc, sFor, iSq, iRg1, iRg2, gN, itms, rst, eApp, D.frz, D.frzs, D.pure, D.pures, bind_ok, bind_ex, stmt_ok, stmt_ex, seq_nx, seq_rt, seq_ex, seq_bk, seq_ct, fgt_nx, fgt_bk, fgt_ct, fgt_rt, fgt_ex, out_nx, out_rt, out_ex, opt_some, optL_some, andB_tt, andB_ff, andB_some, orB_tt, orB_ff, orB_some, andX_tt, andX_ff, andX_some, orX_tt, orX_ff, orX_some, itAnd, itOr, itAndX, itOrX, Option.bind_some, List.map_cons, List.map_nil, List.length_cons, List.length_nil, List.cons_append, List.nil_append, List.getElem?_cons_zero, List.getElem?_cons_succ, List.getElem?_nil, List.set_cons_zero, List.set_cons_succ, List.replicate, addI_i, subD_i, ltD_i, leD_i, gtD_i, geD_i, eqS_int, neS_int, eqS_bl, neS_bl, max2_i, min2_i, maxL_i, minL_i, int1_i, intL_i, if_true, if_false, ite_true, ite_false, and_true, true_and, and_self, Bool.and_self, Bool.and_true, Bool.true_and, Bool.and_false, Bool.false_and, Bool.or_true, Bool.true_or, Bool.or_false, Bool.false_or, Bool.not_true, Bool.not_false, Nat.reduceAdd, Nat.reduceSub, Nat.reduceEqDiff, List.filterMap_cons, List.filterMap_nil, decide_true, decide_false, Bool.false_eq_true, reduceIte, Int.reduceAdd, Int.reduceSub, Int.reduceMul, Int.reduceNeg, Int.reduceLT, Int.reduceLE, Int.reduceEq, Int.reduceMod, Int.reduceDiv, Int.lt_irrefl, reduceCtorEq, D.frzs_int, D.pures_int, cap_0, cap_1, cap_2, cap_3, cap_4, cap_5, cap_6, cap_7, cap_8, cap_9, cap_10, cap_11, cap_12, cap_13, cap_14, cap_15, cap_16, cap_17, cap_18, cap_19, cap_20, cap_21, cap_22, cap_23, cap_24, cap_25, cap_26, cap_27, cap_28, cap_29, cap_30, cap_31, cap_32, cap_33, cap_34, cap_35, cap_36, cap_37, cap_38, cap_39, cap_40, eBor, brw, D.noL, D.noLs, sRaise, sTry, isE, qXf, cleanR, D.noX, D.noXs, rfX, boolF, eOwn, eOwnI, eDcT, eItT, Option.map_some, Option.map_none, Option.getD_some, C1_d_law_same, whole_eq, h1, pures_tD, frzs_tD, key, ce, me]
/-! a lot less another -/
theorem dcl_rows (f : Int × Int → Int) (x y : D) : ∀ (K pre : List (Int × Int)), (pre ++ K).Nodup → (pre ++ K).length < 1000000 →
    dcl [2, 3, 4] (gT 3 (gCo (gN 2) (gCo (gN 3) (gCo (gN 4) gNl)))) tT (eTup (aCons (eV 2) (aCons (eV 3) aNil))) (eV 4) (K.map fun q => tD (q.1, q.2, f q)) (pre.map kk) (pre.map (vI f)) [some x, some y, none, none, none, none] = .ok ((pre ++ K).map kk, (pre ++ K).map (vI f)) [some x, some y, none, none, none, none]
  | [], pre, _, _ => by rw [List.append_nil]; rfl
  | q :: K, pre, nd, hl => by
    have hq : q ∉ pre := fun hm => by
      rw [List.nodup_append] at nd
      exact nd.2.2 q hm q List.mem_cons_self rfl
    have ih := dcl_rows f x y K (pre ++ [q]) (by rw [List.append_assoc]; exact nd) (by rw [List.append_assoc]; exact hl)
    have hc : cap (pre.map kk).length = true := cap_of (by rw [List.length_append, List.length_cons] at hl; rw [List.length_map]; omega)
    have hk : keyT (.tup [.int q.1, .int q.2]) = some (kk q) := rfl
    have pk : putTk (pre.map kk) (kk q) = (pre ++ [q]).map kk := by rw [putTk_map]; unfold addK; rw [if_neg hq]
    have pd : putTd (pre.map kk) (pre.map (vI f)) (kk q) (.int (f q)) = (pre ++ [q]).map (vI f) := by
      rw [putTd_map]
      unfold addK
      rw [if_neg hq]
      refine List.map_congr_left fun z _ => ?_
      show D.int (if z = q then f q else f z) = D.int (f z)
      by_cases e : z = q
      · subst e; rw [if_pos rfl]
      · rw [if_neg e]
    rw [show pre ++ q :: K = (pre ++ [q]) ++ K by rw [List.append_assoc]; rfl]
    rw [List.map_cons]
    unfold dcl
    have g1 : gT 3 (gCo (gN 2) (gCo (gN 3) (gCo (gN 4) gNl))) (tD (q.1, q.2, f q)) [some x, some y, none, none, none, none] = some [some x, some y, some (.int q.1), some (.int q.2), some (.int (f q)), none] := rfl
    have t1 : tT [some x, some y, some (.int q.1), some (.int q.2), some (.int (f q)), none] = .ok true [some x, some y, some (.int q.1), some (.int q.2), some (.int (f q)), none] := rfl
    have k1 : eTup (aCons (eV 2) (aCons (eV 3) aNil)) [some x, some y, some (.int q.1), some (.int q.2), some (.int (f q)), none] = .ok (.tup [.int q.1, .int q.2]) [some x, some y, some (.int q.1), some (.int q.2), some (.int (f q)), none] := by simp -implicitDefEqProofs only [runF, eBinR, qFld, eMth, eMth0, eProp, lot_pure, lot_frz, lot_isO, eBad, sBad, gT, gCo, gNl, sAsg, sDput, eDget, eDget2, dicO, sPut, sPut2, sq_tup, sq_lst, sq_vec, sNx, sSeq, sIf, sRet, sSet, sEx, sBk, sCt, sFgt, fgt, eC, eV, eM, eBin, eUn, aNil, aCons, eTup, eLst, eFn, tB1, tAnd, tOr, tNot, eAnd, eOr, eNot, eIf, eCall, eCallK, pick, eQ, tQ1, qV, qC, qBin, qUn, qB, qAnd, qOr, qNot, qIf, qAndT, qOrT, qNotT, qChain, eChain, eLc, sFor, iSq, iRg1, iRg2, gN, itms, rst, eApp, D.frz, D.frzs, D.pure, D.pures, bind_ok, bind_ex, stmt_ok, stmt_ex, seq_nx, seq_rt, seq_ex, seq_bk, seq_ct, fgt_nx, fgt_bk, fgt_ct, fgt_rt, fgt_ex, out_nx, out_rt, out_ex, opt_some, optL_some, andB_tt, andB_ff, andB_some, orB_tt, orB_ff, orB_some, andX_tt, andX_ff, andX_some, orX_tt, orX_ff, orX_some, itAnd, itOr, itAndX, itOrX, Option.bind_some, List.map_cons, List.map_nil, List.length_cons, List.length_nil, List.cons_append, List.nil_append, List.getElem?_cons_zero, List.getElem?_cons_succ, List.getElem?_nil, List.set_cons_zero, List.set_cons_succ, List.replicate, addI_i, subD_i, ltD_i, leD_i, gtD_i, geD_i, eqS_int, neS_int, eqS_bl, neS_bl, max2_i, min2_i, maxL_i, minL_i, int1_i, intL_i, if_true, if_false, ite_true, ite_false, and_true, true_and, and_self, Bool.and_self, Bool.and_true, Bool.true_and, Bool.and_false, Bool.false_and, Bool.or_true, Bool.true_or, Bool.or_false, Bool.false_or, Bool.not_true, Bool.not_false, Nat.reduceAdd, Nat.reduceSub, Nat.reduceEqDiff, List.filterMap_cons, List.filterMap_nil, decide_true, decide_false, Bool.false_eq_true, reduceIte, Int.reduceAdd, Int.reduceSub, Int.reduceMul, Int.reduceNeg, Int.reduceLT, Int.reduceLE, Int.reduceEq, Int.reduceMod, Int.reduceDiv, Int.lt_irrefl, reduceCtorEq, D.frzs_int, D.pures_int, cap_0, cap_1, cap_2, cap_3, cap_4, cap_5, cap_6, cap_7, cap_8, cap_9, cap_10, cap_11, cap_12, cap_13, cap_14, cap_15, cap_16, cap_17, cap_18, cap_19, cap_20, cap_21, cap_22, cap_23, cap_24, cap_25, cap_26, cap_27, cap_28, cap_29, cap_30, cap_31, cap_32, cap_33, cap_34, cap_35, cap_36, cap_37, cap_38, cap_39, cap_40, eBor, brw, D.noL, D.noLs, sRaise, sTry, isE, qXf, cleanR, D.noX, D.noXs, rfX, boolF, eOwn, eOwnI, eDcT, eItT, Option.map_some, Option.map_none, Option.getD_some, C1_d_law_same]
    have v1 : eV 4 [some x, some y, some (.int q.1), some (.int q.2), some (.int (f q)), none] = .ok (.int (f q)) [some x, some y, some (.int q.1), some (.int q.2), some (.int (f q)), none] := rfl
    simp only [g1, t1, k1, hk, v1, hc, if_true, pk, D.frz, pd]
    exact ih
theorem rows_T (f : Int × Int → Int) (K0 : List (Int × Int)) : ∀ K : List (Int × Int), (∀ q ∈ K, q ∈ K0) → rowsT (K0.map kk) (K0.map (vI f)) (K.map kk) = some (K.map fun q => tD (q.1, q.2, f q))
  | [], _ => rfl
  | q :: K, h => by
    have ih := rows_T f K0 K fun z hz => h z (List.mem_cons_of_mem _ hz)
    have hg : getT (K0.map kk) (K0.map (vI f)) (kk q) = some (.int (f q)) := by rw [getT_map, if_pos (h q List.mem_cons_self)]
    rw [List.map_cons, List.map_cons]
    unfold rowsT
    rw [hg]
    show (if D.pure (.int (f q)) = true then (rowsT (K0.map kk) (K0.map (vI f)) (K.map kk)).map fun l => D.tup [.int q.1, .int q.2, .int (f q)] :: l else none) = _
    rw [if_pos (show (D.int (f q)).pure = true from rfl), ih]
    rfl
theorem sub_step (x y : D) (K : List (Int × Int)) (f : Int × Int → Int) (t : T3) (hq : (t.1, t.2.1) ∈ K) (hn : t.2.2 ≤ f (t.1, t.2.1)) (hl : K.length < 1000000) :
    B1_d_Lot___sub__ [some x, some y, some (.int t.1), some (.int t.2.1), some (.int t.2.2), some (.vT (K.map kk) (K.map (vI f)))] = .nx [some x, some y, none, none, none, some (.vT (K.map kk) (K.map (vI fun z => if z = (t.1, t.2.1) then f (t.1, t.2.1) - t.2.2 else f z)))] := by
  have hk : keyT (.tup [.int t.1, .int t.2.1]) = some (kk (t.1, t.2.1)) := rfl
  have hg : getT (K.map kk) (K.map (vI f)) (kk (t.1, t.2.1)) = some (.int (f (t.1, t.2.1))) := by rw [getT_map, if_pos hq]
  have h1 : decide (f (t.1, t.2.1) < t.2.2) = false := decide_eq_false (by omega)
  have hc : cap (K.map kk).length = true := cap_of (by rw [List.length_map]; exact Nat.lt_trans hl (by decide))
  have pk : putTk (K.map kk) (kk (t.1, t.2.1)) = K.map kk := by rw [putTk_map]; unfold addK; rw [if_pos hq]
  have pd : putTd (K.map kk) (K.map (vI f)) (kk (t.1, t.2.1)) (.int (f (t.1, t.2.1) - t.2.2)) = K.map (vI fun z => if z = (t.1, t.2.1) then f (t.1, t.2.1) - t.2.2 else f z) := by
    rw [putTd_map]; unfold addK; rw [if_pos hq]
  have fz : D.frzs (K.map (vI f)) = K.map (vI f) := frzs_vI f K
  simp -implicitDefEqProofs only [B1_d_Lot___sub__, runF, eBinR, qFld, eMth, eMth0, eProp, lot_pure, lot_frz, lot_isO, eBad, sBad, gT, gCo, gNl, sAsg, sDput, eDget, eDget2, dicO, sPut, sPut2, sq_tup, sq_lst, sq_vec, sNx, sSeq, sIf, sRet, sSet, sEx, sBk, sCt, sFgt, fgt, eC, eV, eM, eBin, eUn, aNil, aCons, eTup, eLst, eFn, tB1, tAnd, tOr, tNot, eAnd, eOr, eNot, eIf, eCall, eCallK, pick, eQ, tQ1, qV, qC, qBin, qUn, qB, qAnd, qOr, qNot, qIf, qAndT, qOrT, qNotT, qChain, eChain, eLc, sFor, iSq, iRg1, iRg2, gN, itms, rst, eApp, D.frz, D.frzs, D.pure, D.pures, bind_ok, bind_ex, stmt_ok, stmt_ex, seq_nx, seq_rt, seq_ex, seq_bk, seq_ct, fgt_nx, fgt_bk, fgt_ct, fgt_rt, fgt_ex, out_nx, out_rt, out_ex, opt_some, optL_some, andB_tt, andB_ff, andB_some, orB_tt, orB_ff, orB_some, andX_tt, andX_ff, andX_some, orX_tt, orX_ff, orX_some, itAnd, itOr, itAndX, itOrX, Option.bind_some, List.map_cons, List.map_nil, List.length_cons, List.length_nil, List.cons_append, List.nil_append, List.getElem?_cons_zero, List.getElem?_cons_succ, List.getElem?_nil, List.set_cons_zero, List.set_cons_succ, List.replicate, addI_i, subD_i, ltD_i, leD_i, gtD_i, geD_i, eqS_int, neS_int, eqS_bl, neS_bl, max2_i, min2_i, maxL_i, minL_i, int1_i, intL_i, if_true, if_false, ite_true, ite_false, and_true, true_and, and_self, Bool.and_self, Bool.and_true, Bool.true_and, Bool.and_false, Bool.false_and, Bool.or_true, Bool.true_or, Bool.or_false, Bool.false_or, Bool.not_true, Bool.not_false, Nat.reduceAdd, Nat.reduceSub, Nat.reduceEqDiff, List.filterMap_cons, List.filterMap_nil, decide_true, decide_false, Bool.false_eq_true, reduceIte, Int.reduceAdd, Int.reduceSub, Int.reduceMul, Int.reduceNeg, Int.reduceLT, Int.reduceLE, Int.reduceEq, Int.reduceMod, Int.reduceDiv, Int.lt_irrefl, reduceCtorEq, D.frzs_int, D.pures_int, cap_0, cap_1, cap_2, cap_3, cap_4, cap_5, cap_6, cap_7, cap_8, cap_9, cap_10, cap_11, cap_12, cap_13, cap_14, cap_15, cap_16, cap_17, cap_18, cap_19, cap_20, cap_21, cap_22, cap_23, cap_24, cap_25, cap_26, cap_27, cap_28, cap_29, cap_30, cap_31, cap_32, cap_33, cap_34, cap_35, cap_36, cap_37, cap_38, cap_39, cap_40, eBor, brw, D.noL, D.noLs, sRaise, sTry, isE, qXf, cleanR, D.noX, D.noXs, rfX, boolF, eOwn, eOwnI, eDcT, eItT, Option.map_some, Option.map_none, Option.getD_some, C1_d_law_same, hk, hg, h1, hc, pk, pd, fz]
theorem sub_loop (x y : D) (K : List (Int × Int)) (f : Int × Int → Int) (hl : K.length < 1000000) : ∀ (b : List T3) (g : Int × Int → Int), (∀ t ∈ b, t.1 < t.2.1 ∧ 0 < t.2.2 ∧ (t.1, t.2.1) ∈ K) → (∀ q, tot b q ≤ g q) →
    ∃ g', (∀ q, g' q = g q - tot b q) ∧ loop (gT 3 (gCo (gN 2) (gCo (gN 3) (gCo (gN 4) gNl)))) B1_d_Lot___sub__ (b.map tD) [some x, some y, none, none, none, some (.vT (K.map kk) (K.map (vI g)))] = .nx [some x, some y, none, none, none, some (.vT (K.map kk) (K.map (vI g')))]
  | [], g, _, _ => ⟨g, fun q => by show g q = g q - 0; omega, rfl⟩
  | t :: b, g, h, hg => by
    obtain ⟨h1, h2, h3⟩ := h t List.mem_cons_self
    obtain ⟨e1, e2⟩ := good_of (t := t) ⟨h1, h2⟩
    have te : ∀ q, tot (t :: b) q = wt t q + tot b q := fun q => by unfold tot; rw [List.map_cons, List.sum_cons]
    have w1 : ∀ q, wt t q = if q = (t.1, t.2.1) then t.2.2 else 0 := fun q => by
      unfold wt
      rw [e2]
      by_cases e : q = (t.1, t.2.1)
      · rw [if_pos ⟨e1, e.symm⟩, if_pos e]
      · rw [if_neg (fun z => e z.2.symm), if_neg e]
    have nb : ∀ q, 0 ≤ tot b q := fun q => sm_nonneg (f := fun t => wt t q) fun t _ => wt_nonneg t q
    have hn : t.2.2 ≤ g (t.1, t.2.1) := by
      have a := hg (t.1, t.2.1)
      rw [te, w1, if_pos rfl] at a
      have := nb (t.1, t.2.1)
      omega
    have st := sub_step x y K g t h3 hn hl
    obtain ⟨g', k1, k2⟩ := sub_loop x y K f hl b (fun z => if z = (t.1, t.2.1) then g (t.1, t.2.1) - t.2.2 else g z) (fun u hu => h u (List.mem_cons_of_mem _ hu)) fun q => by
      have a := hg q
      rw [te, w1] at a
      show tot b q ≤ if q = (t.1, t.2.1) then g (t.1, t.2.1) - t.2.2 else g q
      by_cases e : q = (t.1, t.2.1)
      · rw [if_pos e] at a ⊢; rw [e] at a ⊢; omega
      · rw [if_neg e] at a ⊢; omega
    refine ⟨g', fun q => ?_, ?_⟩
    · rw [k1, te, w1]
      show (if q = (t.1, t.2.1) then g (t.1, t.2.1) - t.2.2 else g q) - tot b q = _
      by_cases e : q = (t.1, t.2.1)
      · rw [if_pos e, if_pos e, e]; omega
      · rw [if_neg e, if_neg e]; omega
    · rw [List.map_cons]
      conv => lhs; unfold loop
      have g1 : gT 3 (gCo (gN 2) (gCo (gN 3) (gCo (gN 4) gNl))) (tD t) [some x, some y, none, none, none, some (.vT (K.map kk) (K.map (vI g)))] = some [some x, some y, some (.int t.1), some (.int t.2.1), some (.int t.2.2), some (.vT (K.map kk) (K.map (vI g)))] := rfl
      simp only [g1, st]
      exact k2
/-- what b is a part of -/
theorem sub_eq (p : Int) (c b : List T3) (hp : 0 ≤ p) (hc : NF p c) (hb : NF p b) (hle : ∀ q, tot b q ≤ tot c q) (hl : c.length ≤ 100000) : ∃ d, d_Lot___sub__ [lotD p c, lotD p b] = .rt (lotD p d) ∧ NF p d ∧ (∀ q, tot d q = tot c q - tot b q) ∧ d.length ≤ c.length := by
  have hk := nf_keys hc
  have nd := keys_nd c
  have lk : (sortP (met c)).length = c.length := by
    have := congrArg List.length hk
    rw [List.length_map] at this
    omega
  have dc := fun x y => dcl_rows (tot c) x y (sortP (met c)) [] (by simpa using nd) (by rw [List.nil_append]; omega)
  have e1 : (sortP (met c)).map (fun q => tD (q.1, q.2, tot c q)) = c.map tD := by
    conv => rhs; rw [hk]
    rw [List.map_map]; rfl
  simp only [e1, List.nil_append, List.map_nil] at dc
  have mem : ∀ t ∈ b, t.1 < t.2.1 ∧ 0 < t.2.2 ∧ (t.1, t.2.1) ∈ sortP (met c) := fun t ht => by
    have h1 := nf_lt hb t ht
    have h2 := (hb.1 t ht).2.2.2
    refine ⟨h1, by omega, ?_⟩
    rw [mem_keys, met_pos]
    have := hle (t.1, t.2.1)
    rw [nf_tot hb ht] at this
    omega
  have slp := fun x y => sub_loop x y (sortP (met c)) (tot c) (by omega) b (tot c) mem hle
  -- the rows that are left
  have okw : ∀ g' : Int × Int → Int, (∀ q, g' q = tot c q - tot b q) → okW p ((sortP (met c)).map fun q => (q.1, q.2, g' q)) := fun g' hg t ht => by
    obtain ⟨q, hq, rfl⟩ := List.mem_map.mp ht
    have hm : (q.1, q.2, tot c q) ∈ c := by
      have : (q.1, q.2, tot c q) ∈ (sortP (met c)).map fun q => (q.1, q.2, tot c q) := List.mem_map.mpr ⟨q, hq, rfl⟩
      rwa [← hk] at this
    obtain ⟨k1, k2, k3, _⟩ := hc.1 _ hm
    refine ⟨k1, k2, k3, ?_⟩
    show 0 ≤ g' q
    rw [hg]
    have := hle q
    omega
  obtain ⟨g', k1, k2⟩ := slp (lotD p c) (lotD p b)
  have nf := nf_combW (okw g' k1)
  have hlr : ((sortP (met c)).map fun q => ((q.1, q.2, g' q) : T3)).length = c.length := by rw [List.length_map, lk]
  have hcr := len_comb ((sortP (met c)).map fun q => ((q.1, q.2, g' q) : T3))
  refine ⟨comb ((sortP (met c)).map fun q => (q.1, q.2, g' q)), ?_, nf, fun q => ?_, by omega⟩
  · have ce := combined_eq (.lst (((sortP (met c)).map fun q => ((q.1, q.2, g' q) : T3)).map tD)) _ (.inr rfl) (by omega)
    have me := make_nf p (.tup ((comb ((sortP (met c)).map fun q => (q.1, q.2, g' q))).map tD)) _ (.inl rfl) hp nf (by omega)
    have rT := rows_T g' (sortP (met c)) (sortP (met c)) fun q h => h
    have e3 : ((sortP (met c)).map fun q => tD (q.1, q.2, g' q)) = ((sortP (met c)).map fun q => ((q.1, q.2, g' q) : T3)).map tD := by rw [List.map_map]; rfl
    rw [e3] at rT
    have hcap : cap ((sortP (met c)).map kk).length = true := cap_of (by rw [List.length_map]; omega)
    generalize ((sortP (met c)).map fun q => ((q.1, q.2, g' q) : T3)) = U at *
    unfold lotD at me k2 ⊢
    have dcc := dc (.obj 0 [.int p, .tup (c.map tD)]) (.obj 0 [.int p, .tup (b.map tD)])
    have l2 : decide (2 < 6) = true := by decide
    have l3 : decide (3 < 6) = true := by decide
    simp -implicitDefEqProofs only [d_Lot___sub__, b_d_Lot___sub__, runF, eBinR, qFld, eMth, eMth0, eProp, lot_pure, lot_frz, lot_isO, eBad, sBad, gT, gCo, gNl, sAsg, sDput, eDget, eDget2, dicO, sPut, sPut2, sq_tup, sq_lst, sq_vec, sNx, sSeq, sIf, sRet, sSet, sEx, sBk, sCt, sFgt, fgt, eC, eV, eM, eBin, eUn, aNil, aCons, eTup, eLst, eFn, tB1, tAnd, tOr, tNot, eAnd, eOr, eNot, eIf, eCall, eCallK, pick, eQ, tQ1, qV, qC, qBin, qUn, qB, qAnd, qOr, qNot, qIf, qAndT, qOrT, qNotT, qChain, eChain, eLc, sFor, iSq, iRg1, iRg2, gN, itms, rst, eApp, D.frz, D.frzs, D.pure, D.pures, bind_ok, bind_ex, stmt_ok, stmt_ex, seq_nx, seq_rt, seq_ex, seq_bk, seq_ct, fgt_nx, fgt_bk, fgt_ct, fgt_rt, fgt_ex, out_nx, out_rt, out_ex, opt_some, optL_some, andB_tt, andB_ff, andB_some, orB_tt, orB_ff, orB_some, andX_tt, andX_ff, andX_some, orX_tt, orX_ff, orX_some, itAnd, itOr, itAndX, itOrX, Option.bind_some, List.map_cons, List.map_nil, List.length_cons, List.length_nil, List.cons_append, List.nil_append, List.getElem?_cons_zero, List.getElem?_cons_succ, List.getElem?_nil, List.set_cons_zero, List.set_cons_succ, List.replicate, addI_i, subD_i, ltD_i, leD_i, gtD_i, geD_i, eqS_int, neS_int, eqS_bl, neS_bl, max2_i, min2_i, maxL_i, minL_i, int1_i, intL_i, if_true, if_false, ite_true, ite_false, and_true, true_and, and_self, Bool.and_self, Bool.and_true, Bool.true_and, Bool.and_false, Bool.false_and, Bool.or_true, Bool.true_or, Bool.or_false, Bool.false_or, Bool.not_true, Bool.not_false, Nat.reduceAdd, Nat.reduceSub, Nat.reduceEqDiff, List.filterMap_cons, List.filterMap_nil, decide_true, decide_false, Bool.false_eq_true, reduceIte, Int.reduceAdd, Int.reduceSub, Int.reduceMul, Int.reduceNeg, Int.reduceLT, Int.reduceLE, Int.reduceEq, Int.reduceMod, Int.reduceDiv, Int.lt_irrefl, reduceCtorEq, D.frzs_int, D.pures_int, cap_0, cap_1, cap_2, cap_3, cap_4, cap_5, cap_6, cap_7, cap_8, cap_9, cap_10, cap_11, cap_12, cap_13, cap_14, cap_15, cap_16, cap_17, cap_18, cap_19, cap_20, cap_21, cap_22, cap_23, cap_24, cap_25, cap_26, cap_27, cap_28, cap_29, cap_30, cap_31, cap_32, cap_33, cap_34, cap_35, cap_36, cap_37, cap_38, cap_39, cap_40, eBor, brw, D.noL, D.noLs, sRaise, sTry, isE, qXf, cleanR, D.noX, D.noXs, rfX, boolF, eOwn, eOwnI, eDcT, eItT, Option.map_some, Option.map_none, Option.getD_some, C1_d_law_same, pures_tD, frzs_tD, dcc, k2, rT, hcap, l2, l3, ce, me]
  · rw [comb_tot, tot_keys0 g' q nd fun z hz => by
      have := (okw g' k1) (z.1, z.2, g' z) (List.mem_map.mpr ⟨z, hz, rfl⟩)
      have h2 : (z.1, z.2, tot c z) ∈ c := by
        have : (z.1, z.2, tot c z) ∈ (sortP (met c)).map fun q => (q.1, q.2, tot c q) := List.mem_map.mpr ⟨z, hz, rfl⟩
        rwa [← hk] at this
      exact ⟨nf_lt hc _ h2, this.2.2.2⟩]
    by_cases hm : q ∈ sortP (met c)
    · rw [if_pos hm, k1]
    · rw [if_neg hm]
      rw [mem_keys] at hm
      have z := tot_zero hm
      have := hle q
      have nb : 0 ≤ tot b q := sm_nonneg (f := fun t => wt t q) fun t _ => wt_nonneg t q
      omega

end Math

set_option Elab.async false
set_option linter.all false
set_option maxRecDepth 100000
set_option maxHeartbeats 2000000
namespace Math
open PySem FL Prg
open L2 (atI atI_nat ixN)
theorem set_map {α : Type} (n k : Nat) (g : Nat → α) (y : α) : ((List.range n).map g).set k y = (List.range n).map fun i => if i = k then y else g i := by
  apply List.ext_getElem?
  intro i
  by_cases hi : i < n
  · rw [List.getElem?_map, List.getElem?_range hi]
    by_cases h : i = k
    · subst h
      rw [List.getElem?_set_self (by rw [List.length_map, List.length_range]; exact hi)]
      simp
    · rw [List.getElem?_set_ne (Ne.symm h), List.getElem?_map, List.getElem?_range hi]
      simp [h]
  · rw [List.getElem?_eq_none (by rw [List.length_set, List.length_map, List.length_range]; omega), List.getElem?_eq_none (by rw [List.length_map, List.length_range]; omega)]
theorem ixN_of {n : Nat} {k : Int} (h : 0 ≤ k ∧ k < n) : ixN n k = some k.toNat := by
  unfold L2.ixN
  rw [if_pos h.1, if_pos h.2]
def Mz (n i s x : Int) : Bool := decide (1 ≤ (x - i) % n ∧ (x - i) % n ≤ s)
def vecB (n : Nat) (i s : Int) : List D := (List.range n).map fun (x : Nat) => .bl (Mz n i s x)
def Tz (ts : List T3) (n i s r c : Int) : Int := if r < i then passM ts r c else if r = i ∧ Mz n i s c = true then passM ts r c else 0
def rowV (ts : List T3) (n : Nat) (i s r : Int) : List D := (List.range n).map fun (c : Nat) => .int (Tz ts n i s r c)
def vecT (ts : List T3) (n : Nat) (i s : Int) : List D := (List.range n).map fun (r : Nat) => .vec (rowV ts n i s r)
theorem ix_vecB (n : Nat) (i s x : Int) (h : 0 ≤ x ∧ x < n) : ixD (.vec (vecB n i s)) (.int x) = some (.bl (Mz n i s x)) := by
  have e : atI (vecB n i s) x = some (.bl (Mz n i s x)) := by
    have hj : x = ((x.toNat : Nat) : Int) := by omega
    rw [hj]
    refine atI_nat ?_
    unfold vecB
    rw [List.getElem?_map, List.getElem?_range (by omega)]
    rfl
  exact ixD_sq (sq_vec _) e
theorem ix_vecBl (n : Nat) (i s x : Int) (h : 0 ≤ x ∧ x < n) : ixD (.lst (vecB n i s)) (.int x) = some (.bl (Mz n i s x)) := by
  have e : atI (vecB n i s) x = some (.bl (Mz n i s x)) := by
    have hj : x = ((x.toNat : Nat) : Int) := by omega
    rw [hj]
    refine atI_nat ?_
    unfold vecB
    rw [List.getElem?_map, List.getElem?_range (by omega)]
    rfl
  exact ixD_sq (sq_lst _) e
theorem Mz_next {n i s x : Int} (hi : 0 ≤ i ∧ i < n) (hs : 0 ≤ s ∧ s + 1 < n) (hx : 0 ≤ x ∧ x < n) : Mz n i (s + 1) x = (if x = (i + (s + 1)) % n then true else Mz n i s x) := by
  have e1 := mod_2 (z := i + (s + 1)) (n := n) (by omega) (by omega)
  have e2 := mod_m (z := x - i) (n := n) (by omega) (by omega)
  unfold Mz
  rw [e1, e2]
  rw [Bool.eq_iff_iff]
  by_cases h : x = if i + (s + 1) < n then i + (s + 1) else i + (s + 1) - n
  · rw [if_pos h]
    simp only [decide_eq_true_eq]
    constructor
    · intro _; trivial
    · intro _; split at h <;> split <;> omega
  · rw [if_neg h]
    simp only [decide_eq_true_eq]
    split at h <;> split <;> omega
theorem vecB_set (n : Nat) (i s : Int) (hi : 0 ≤ i ∧ i < n) (hs : 0 ≤ s ∧ s + 1 < n) : (vecB n i s).set ((i + (s + 1)) % n).toNat (.bl true) = vecB n i (s + 1) := by
  unfold vecB
  rw [set_map]
  refine List.map_congr_left fun x hx => ?_
  have hx' : x < n := List.mem_range.mp hx
  have h0 := Int.emod_nonneg (i + (s + 1)) (show (n : Int) ≠ 0 by omega)
  rw [Mz_next hi hs ⟨by omega, by omega⟩]
  by_cases h : x = ((i + (s + 1)) % n).toNat
  · rw [if_pos h, if_pos (by omega)]
  · rw [if_neg h, if_neg (by omega)]
theorem vecT_set (ts : List T3) (n : Nat) (i s : Int) (hi : 0 ≤ i ∧ i < n) (hs : 0 ≤ s ∧ s + 1 < n) :
    (vecT ts n i s).set i.toNat (.vec ((rowV ts n i s i).set ((i + (s + 1)) % n).toNat (.int (passM ts i ((i + (s + 1)) % n))))) = vecT ts n i (s + 1) := by
  have h0 := Int.emod_nonneg (i + (s + 1)) (show (n : Int) ≠ 0 by omega)
  unfold vecT
  rw [set_map]
  refine List.map_congr_left fun r hr => ?_
  have hr' : r < n := List.mem_range.mp hr
  by_cases h : r = i.toNat
  · have hri : (r : Int) = i := by omega
    rw [if_pos h, hri]
    congr 1
    unfold rowV
    rw [set_map]
    refine List.map_congr_left fun c hc => ?_
    have hc' : c < n := List.mem_range.mp hc
    unfold Tz
    rw [Mz_next hi hs ⟨by omega, by omega⟩]
    simp only [Int.lt_irrefl, if_false, true_and]
    by_cases h2 : c = ((i + (s + 1)) % n).toNat
    · have e : (c : Int) = (i + (s + 1)) % n := by omega
      rw [if_pos h2, if_pos e, e, if_pos rfl]
    · have e : ¬ (c : Int) = (i + (s + 1)) % n := by omega
      simp only [h2, e, if_false]
  · rw [if_neg h]
    congr 1
    refine List.map_congr_left fun c hc => ?_
    unfold Tz
    have : ¬ (r : Int) = i := by omega
    simp only [this, false_and, if_false]
theorem sep_met {p n i s : Int} {t : T3} (ht : okE p t) (hn : n = max p 1) (hlt : t.1 < t.2.1) (hi : 0 ≤ i ∧ i < n) (hs : 0 ≤ s ∧ s + 1 < n) : (!decide (Mz n i (s + 1) t.1 = Mz n i (s + 1) t.2.1)) = sepM i ((i + (s + 1)) % n) t := by
  obtain ⟨k1, k2, k3, k4⟩ := ht
  have e0 := mod_2 (z := i + (s + 1)) (n := n) (by omega) (by omega)
  have e1 := mod_m (z := t.1 - i) (n := n) (by omega) (by omega)
  have e2 := mod_m (z := t.2.1 - i) (n := n) (by omega) (by omega)
  unfold sepM Mz
  rw [e0, e1, e2]
  congr 1
  rw [Bool.eq_iff_iff, decide_eq_true_eq, decide_eq_true_eq, decide_eq_decide, decide_eq_decide]
  split <;> split <;> split <;> omega
theorem frzs_vecB (n : Nat) (i s : Int) : D.frzs (vecB n i s) = vecB n i s := D.frzs_map (f := fun x : Nat => D.bl (Mz n i s x)) (fun _ => rfl) _
theorem tT_row {ts : List T3} {n : Nat} {i s : Int} (h : 0 ≤ i ∧ i < n) : (vecT ts n i s)[i.toNat]? = some (.vec (rowV ts n i s i)) := by
  unfold vecT
  rw [List.getElem?_map, List.getElem?_range (by omega)]
  show some (D.vec (rowV ts n i s ((i.toNat : Nat) : Int))) = _
  rw [Int.toNat_of_nonneg h.1]
theorem len_vecB (n : Nat) (i s : Int) : (vecB n i s).length = n := by unfold vecB; rw [List.length_map, List.length_range]
theorem len_vecT (ts : List T3) (n : Nat) (i s : Int) : (vecT ts n i s).length = n := by unfold vecT; rw [List.length_map, List.length_range]
theorem len_rowV (ts : List T3) (n : Nat) (i s r : Int) : (rowV ts n i s r).length = n := by unfold rowV; rw [List.length_map, List.length_range]
def envT (p : Int) (cs : List T3) (n : Nat) (i s : Int) : Rho := [some (.int p), some (.tup (cs.map tD)), some (.int n), some (.int i), none, some (.vec (vecT cs n i s)), some (.vec (vecB n i s)), none, none, none]
theorem tab_step (p : Int) (cs : List T3) (n : Nat) (i s : Int) (hn : (n : Int) = max p 1) (hc : NF p cs) (hl : cs.length < 1000000) (hi : 0 ≤ i ∧ i < n) (hs : 0 ≤ s ∧ s + 1 < n) :
    B1_d_law_table
      [some (.int p), some (.tup (cs.map tD)), some (.int n), some (.int i), none, some (.vec (vecT cs n i s)), some (.vec (vecB n i s)), some (.int (s + 1)), none, none] = .nx (envT p cs n i (s + 1)) := by
  have hm : modD (.int (i + (s + 1))) (.int n) = some (.int ((i + (s + 1)) % n)) := modD_i (by omega)
  have j0 := Int.emod_nonneg (i + (s + 1)) (show (n : Int) ≠ 0 by omega)
  have j1 := Int.emod_lt_of_pos (i + (s + 1)) (show (0 : Int) < n by omega)
  have x1 : ixN (vecB n i s).length ((i + (s + 1)) % n) = some ((i + (s + 1)) % n).toNat := by rw [len_vecB]; exact ixN_of ⟨j0, j1⟩
  have x2 : ixN (vecT cs n i s).length i = some i.toNat := by rw [len_vecT]; exact ixN_of hi
  have x3 : ixN (rowV cs n i s i).length ((i + (s + 1)) % n) = some ((i + (s + 1)) % n).toNat := by rw [len_rowV]; exact ixN_of ⟨j0, j1⟩
  have b1 := vecB_set n i s hi hs
  have b2 := vecT_set cs n i s hi hs
  have r1 := tT_row (ts := cs) (s := s) hi
  have key : lcl [9] (gN 9) T1_d_law_table E4_d_law_table (cs.map tD) []
      [none, some (.tup (cs.map tD)), none, none, none, none, some (.lst (vecB n i (s + 1))), none, none, none] =
      .ok ([] ++ (cs.filter (sepM i ((i + (s + 1)) % n))).map fun t => .int t.2.2) [none, some (.tup (cs.map tD)), none, none, none, none, some (.lst (vecB n i (s + 1))), none, none, none] :=
    lcl_map tD _ _ cs [] (by simp only [List.length_nil]; omega) fun t ht => by
      have ok := hc.1 t ht
      have k1 : 0 ≤ t.1 ∧ t.1 < n := by have := ok.1; omega
      have k2 : 0 ≤ t.2.1 ∧ t.2.1 < n := by have := ok.2.1; omega
      refine ⟨_, [none, some (.tup (cs.map tD)), none, none, none, none, some (.lst (vecB n i (s + 1))), none, none, some (tD t)], rfl, ?_, fun _ => ⟨[none, some (.tup (cs.map tD)), none, none, none, none, some (.lst (vecB n i (s + 1))), none, none, some (tD t)], ?_, rfl⟩, fun _ => rfl⟩
      · simp -implicitDefEqProofs only [T1_d_law_table, runF, eBinR, qFld, eMth, eMth0, eProp, lot_pure, lot_frz, lot_isO, eBad, sBad, gT, gCo, gNl, sAsg, sDput, eDget, eDget2, dicO, sPut, sPut2, sq_tup, sq_lst, sq_vec, sNx, sSeq, sIf, sRet, sSet, sEx, sBk, sCt, sFgt, fgt, eC, eV, eM, eBin, eUn, aNil, aCons, eTup, eLst, eFn, tB1, tAnd, tOr, tNot, eAnd, eOr, eNot, eIf, eCall, eCallK, pick, eQ, tQ1, qV, qC, qBin, qUn, qB, qAnd, qOr, qNot, qIf, qAndT, qOrT, qNotT, qChain, eChain, eLc, sFor, iSq, iRg1, iRg2, gN, itms, rst, eApp, D.frz, D.frzs, D.pure, D.pures, bind_ok, bind_ex, stmt_ok, stmt_ex, seq_nx, seq_rt, seq_ex, seq_bk, seq_ct, fgt_nx, fgt_bk, fgt_ct, fgt_rt, fgt_ex, out_nx, out_rt, out_ex, opt_some, optL_some, andB_tt, andB_ff, andB_some, orB_tt, orB_ff, orB_some, andX_tt, andX_ff, andX_some, orX_tt, orX_ff, orX_some, itAnd, itOr, itAndX, itOrX, Option.bind_some, List.map_cons, List.map_nil, List.length_cons, List.length_nil, List.cons_append, List.nil_append, List.getElem?_cons_zero, List.getElem?_cons_succ, List.getElem?_nil, List.set_cons_zero, List.set_cons_succ, List.replicate, addI_i, subD_i, ltD_i, leD_i, gtD_i, geD_i, eqS_int, neS_int, eqS_bl, neS_bl, max2_i, min2_i, maxL_i, minL_i, int1_i, intL_i, if_true, if_false, ite_true, ite_false, and_true, true_and, and_self, Bool.and_self, Bool.and_true, Bool.true_and, Bool.and_false, Bool.false_and, Bool.or_true, Bool.true_or, Bool.or_false, Bool.false_or, Bool.not_true, Bool.not_false, Nat.reduceAdd, Nat.reduceSub, Nat.reduceEqDiff, List.filterMap_cons, List.filterMap_nil, decide_true, decide_false, Bool.false_eq_true, reduceIte, Int.reduceAdd, Int.reduceSub, Int.reduceMul, Int.reduceNeg, Int.reduceLT, Int.reduceLE, Int.reduceEq, Int.reduceMod, Int.reduceDiv, Int.lt_irrefl, reduceCtorEq, D.frzs_int, D.pures_int, cap_0, cap_1, cap_2, cap_3, cap_4, cap_5, cap_6, cap_7, cap_8, cap_9, cap_10, cap_11, cap_12, cap_13, cap_14, cap_15, cap_16, cap_17, cap_18, cap_19, cap_20, cap_21, cap_22, cap_23, cap_24, cap_25, cap_26, cap_27, cap_28, cap_29, cap_30, cap_31, cap_32, cap_33, cap_34, cap_35, cap_36, cap_37, cap_38, cap_39, cap_40, eBor, brw, D.noL, D.noLs, sRaise, sTry, isE, qXf, cleanR, D.noX, D.noXs, rfX, boolF, Option.map_some, Option.map_none, Option.getD_some, C1_d_law_same, ix_0, ix_1, ix_vecBl n i (s + 1) _ k1, ix_vecBl n i (s + 1) _ k2, sep_met ok hn (nf_lt hc t ht) hi hs]
      · simp -implicitDefEqProofs only [E4_d_law_table, runF, eBinR, qFld, eMth, eMth0, eProp, lot_pure, lot_frz, lot_isO, eBad, sBad, gT, gCo, gNl, sAsg, sDput, eDget, eDget2, dicO, sPut, sPut2, sq_tup, sq_lst, sq_vec, sNx, sSeq, sIf, sRet, sSet, sEx, sBk, sCt, sFgt, fgt, eC, eV, eM, eBin, eUn, aNil, aCons, eTup, eLst, eFn, tB1, tAnd, tOr, tNot, eAnd, eOr, eNot, eIf, eCall, eCallK, pick, eQ, tQ1, qV, qC, qBin, qUn, qB, qAnd, qOr, qNot, qIf, qAndT, qOrT, qNotT, qChain, eChain, eLc, sFor, iSq, iRg1, iRg2, gN, itms, rst, eApp, D.frz, D.frzs, D.pure, D.pures, bind_ok, bind_ex, stmt_ok, stmt_ex, seq_nx, seq_rt, seq_ex, seq_bk, seq_ct, fgt_nx, fgt_bk, fgt_ct, fgt_rt, fgt_ex, out_nx, out_rt, out_ex, opt_some, optL_some, andB_tt, andB_ff, andB_some, orB_tt, orB_ff, orB_some, andX_tt, andX_ff, andX_some, orX_tt, orX_ff, orX_some, itAnd, itOr, itAndX, itOrX, Option.bind_some, List.map_cons, List.map_nil, List.length_cons, List.length_nil, List.cons_append, List.nil_append, List.getElem?_cons_zero, List.getElem?_cons_succ, List.getElem?_nil, List.set_cons_zero, List.set_cons_succ, List.replicate, addI_i, subD_i, ltD_i, leD_i, gtD_i, geD_i, eqS_int, neS_int, eqS_bl, neS_bl, max2_i, min2_i, maxL_i, minL_i, int1_i, intL_i, if_true, if_false, ite_true, ite_false, and_true, true_and, and_self, Bool.and_self, Bool.and_true, Bool.true_and, Bool.and_false, Bool.false_and, Bool.or_true, Bool.true_or, Bool.or_false, Bool.false_or, Bool.not_true, Bool.not_false, Nat.reduceAdd, Nat.reduceSub, Nat.reduceEqDiff, List.filterMap_cons, List.filterMap_nil, decide_true, decide_false, Bool.false_eq_true, reduceIte, Int.reduceAdd, Int.reduceSub, Int.reduceMul, Int.reduceNeg, Int.reduceLT, Int.reduceLE, Int.reduceEq, Int.reduceMod, Int.reduceDiv, Int.lt_irrefl, reduceCtorEq, D.frzs_int, D.pures_int, cap_0, cap_1, cap_2, cap_3, cap_4, cap_5, cap_6, cap_7, cap_8, cap_9, cap_10, cap_11, cap_12, cap_13, cap_14, cap_15, cap_16, cap_17, cap_18, cap_19, cap_20, cap_21, cap_22, cap_23, cap_24, cap_25, cap_26, cap_27, cap_28, cap_29, cap_30, cap_31, cap_32, cap_33, cap_34, cap_35, cap_36, cap_37, cap_38, cap_39, cap_40, eBor, brw, D.noL, D.noLs, sRaise, sTry, isE, qXf, cleanR, D.noX, D.noXs, rfX, boolF, Option.map_some, Option.map_none, Option.getD_some, C1_d_law_same, ix_2]
  have e2 : ((cs.filter (sepM i ((i + (s + 1)) % n))).map fun t => D.int t.2.2) = (((cs.filter (sepM i ((i + (s + 1)) % n))).map fun t => t.2.2)).map D.int := by rw [List.map_map]; rfl
  have e3 : (((cs.filter (sepM i ((i + (s + 1)) % n))).map fun t => t.2.2)).sum = passM cs i ((i + (s + 1)) % n) := rfl
  simp -implicitDefEqProofs only [B1_d_law_table, runF, eBinR, qFld, eMth, eMth0, eProp, lot_pure, lot_frz, lot_isO, eBad, sBad, gT, gCo, gNl, sAsg, sDput, eDget, eDget2, dicO, sPut, sPut2, sq_tup, sq_lst, sq_vec, sNx, sSeq, sIf, sRet, sSet, sEx, sBk, sCt, sFgt, fgt, eC, eV, eM, eBin, eUn, aNil, aCons, eTup, eLst, eFn, tB1, tAnd, tOr, tNot, eAnd, eOr, eNot, eIf, eCall, eCallK, pick, eQ, tQ1, qV, qC, qBin, qUn, qB, qAnd, qOr, qNot, qIf, qAndT, qOrT, qNotT, qChain, eChain, eLc, sFor, iSq, iRg1, iRg2, gN, itms, rst, eApp, D.frz, D.frzs, D.pure, D.pures, bind_ok, bind_ex, stmt_ok, stmt_ex, seq_nx, seq_rt, seq_ex, seq_bk, seq_ct, fgt_nx, fgt_bk, fgt_ct, fgt_rt, fgt_ex, out_nx, out_rt, out_ex, opt_some, optL_some, andB_tt, andB_ff, andB_some, orB_tt, orB_ff, orB_some, andX_tt, andX_ff, andX_some, orX_tt, orX_ff, orX_some, itAnd, itOr, itAndX, itOrX, Option.bind_some, List.map_cons, List.map_nil, List.length_cons, List.length_nil, List.cons_append, List.nil_append, List.getElem?_cons_zero, List.getElem?_cons_succ, List.getElem?_nil, List.set_cons_zero, List.set_cons_succ, List.replicate, addI_i, subD_i, ltD_i, leD_i, gtD_i, geD_i, eqS_int, neS_int, eqS_bl, neS_bl, max2_i, min2_i, maxL_i, minL_i, int1_i, intL_i, if_true, if_false, ite_true, ite_false, and_true, true_and, and_self, Bool.and_self, Bool.and_true, Bool.true_and, Bool.and_false, Bool.false_and, Bool.or_true, Bool.true_or, Bool.or_false, Bool.false_or, Bool.not_true, Bool.not_false, Nat.reduceAdd, Nat.reduceSub, Nat.reduceEqDiff, List.filterMap_cons, List.filterMap_nil, decide_true, decide_false, Bool.false_eq_true, reduceIte, Int.reduceAdd, Int.reduceSub, Int.reduceMul, Int.reduceNeg, Int.reduceLT, Int.reduceLE, Int.reduceEq, Int.reduceMod, Int.reduceDiv, Int.lt_irrefl, reduceCtorEq, D.frzs_int, D.pures_int, cap_0, cap_1, cap_2, cap_3, cap_4, cap_5, cap_6, cap_7, cap_8, cap_9, cap_10, cap_11, cap_12, cap_13, cap_14, cap_15, cap_16, cap_17, cap_18, cap_19, cap_20, cap_21, cap_22, cap_23, cap_24, cap_25, cap_26, cap_27, cap_28, cap_29, cap_30, cap_31, cap_32, cap_33, cap_34, cap_35, cap_36, cap_37, cap_38, cap_39, cap_40, eBor, brw, D.noL, D.noLs, sRaise, sTry, isE, qXf, cleanR, D.noX, D.noXs, rfX, boolF, Option.map_some, Option.map_none, Option.getD_some, C1_d_law_same, hm, x1, b1, frzs_tD, frzs_vecB, key, e2, sumL_vec, x2, r1, x3, e3, b2, envT]
theorem loop_nat {g : D → Rho → Option Rho} {b : Rho → RS} (f : Nat → D) (E : Nat → Rho) (m : Nat) (h : ∀ k, k < m → ∃ ρ1, g (f k) (E k) = some ρ1 ∧ b ρ1 = .nx (E (k + 1))) : loop g b ((List.range m).map f) (E 0) = .nx (E m) := by
  have key : ∀ j s, s + j = m → loop g b ((List.range' s j).map f) (E s) = .nx (E m) := by
    intro j
    induction j with
    | zero => intro s hs; simp only [Nat.add_zero] at hs; subst hs; rfl
    | succ j ih =>
      intro s hs
      obtain ⟨ρ1, h1, h2⟩ := h s (by omega)
      rw [List.range'_succ, List.map_cons]
      unfold loop
      simp only [h1, h2]
      exact ih (s + 1) (by omega)
  rw [List.range_eq_range']
  exact key m 0 (by omega)
theorem Mz_0 (n i x : Int) : Mz n i 0 x = false := by
  unfold Mz
  exact decide_eq_false (by omega)
theorem vecB_0 (n : Nat) (i : Int) : vecB n i 0 = (List.range n).map fun _ => .bl false := by
  unfold vecB
  exact List.map_congr_left fun x _ => by rw [Mz_0]
theorem pass_ii (ts : List T3) (i : Int) : passM ts i i = 0 := by
  unfold passM
  have : ts.filter (sepM i i) = [] := List.filter_eq_nil_iff.mpr fun t _ => by unfold sepM; simp
  rw [this]; rfl
theorem vecT_next (ts : List T3) (n : Nat) (i : Nat) (hi : i < n) : vecT ts n i ((n - 1 : Nat) : Int) = vecT ts n ((i + 1 : Nat) : Int) 0 := by
  unfold vecT
  refine List.map_congr_left fun r hr => ?_
  have hr' : r < n := List.mem_range.mp hr
  congr 1
  unfold rowV
  refine List.map_congr_left fun c hc => ?_
  have hc' : c < n := List.mem_range.mp hc
  congr 1
  unfold Tz
  rw [Mz_0]
  by_cases h1 : r < i
  · rw [if_pos (by omega), if_pos (by omega)]
  · rw [if_neg (by omega)]
    by_cases h2 : r = i
    · rw [if_pos (show (r : Int) < ((i + 1 : Nat) : Int) by omega)]
      by_cases h3 : c = i
      · rw [if_neg (fun z => by
          have := z.2
          unfold Mz at this
          rw [decide_eq_true_eq, h3, show ((i : Int) - i) = 0 by omega, Int.zero_emod] at this
          omega), h2, h3, pass_ii]
      · have e := mod_m (z := (c : Int) - i) (n := n) (by omega) (by omega)
        rw [if_pos ⟨by omega, by unfold Mz; rw [decide_eq_true_eq, e]; split <;> omega⟩]
    · rw [if_neg (fun z => h2 (by have := z.1; omega)), if_neg (by omega), if_neg (fun z => by cases z.2)]
theorem vecT_first (ts : List T3) (n : Nat) : vecT ts n 0 0 = (List.range n).map fun _ => .vec ((List.range n).map fun _ => .int 0) := by
  unfold vecT
  refine List.map_congr_left fun r _ => ?_
  congr 1
  unfold rowV
  refine List.map_congr_left fun c _ => ?_
  congr 1
  unfold Tz
  rw [Mz_0, if_neg (by omega), if_neg (fun z => by cases z.2)]
theorem inner_loop (p : Int) (cs : List T3) (n : Nat) (i : Int) (hn : (n : Int) = max p 1) (hc : NF p cs) (hl : cs.length < 1000000) (hi : 0 ≤ i ∧ i < n) :
    loop (gN 7) B1_d_law_table
      (((List.range (n - 1)).map fun (k : Nat) => (1 : Int) + k).map D.int) (envT p cs n i 0) = .nx (envT p cs n i ((n - 1 : Nat) : Int)) := by
  rw [List.map_map]
  refine loop_nat (fun k : Nat => D.int ((1 : Int) + k)) (fun s : Nat => envT p cs n i s) (n - 1) fun k hk => ⟨_, rfl, ?_⟩
  have e := tab_step p cs n i k hn hc hl hi ⟨by omega, by omega⟩
  have c1 : (1 : Int) + k = k + 1 := by omega
  have c2 : ((k + 1 : Nat) : Int) = k + 1 := by omega
  rw [c2, ← e]
  show B1_d_law_table [_, _, _, _, _, _, _, some (.int ((1 : Int) + k)), _, _] = _
  rw [c1]
def envO (p : Int) (cs : List T3) (n : Nat) (i : Nat) : Rho := [some (.int p), some (.tup (cs.map tD)), some (.int n), none, none, some (.vec (vecT cs n i 0)), none, none, none, none]
theorem outer_step (p : Int) (cs : List T3) (n : Nat) (i : Nat) (hn : (n : Int) = max p 1) (hN : n ≤ 1000) (hc : NF p cs) (hl : cs.length < 1000000) (hi : i < n) :
    B2_d_law_table
      [some (.int p), some (.tup (cs.map tD)), some (.int n), some (.int i), none, some (.vec (vecT cs n i 0)), none, none, none, none] = .nx (envO p cs n (i + 1)) := by
  have hb : bnd (n : Int) = true := bnd_of ⟨by omega, by omega⟩
  have hb1 : bnd (1 : Int) = true := bnd_of ⟨by decide, by decide⟩
  have il := inner_loop p cs n i hn hc hl ⟨by omega, by omega⟩
  have vn := vecT_next cs n i hi
  have fl : lcl [4] (gN 4) tT E3_d_law_table (((List.range n).map fun (k : Nat) => (0 : Int) + k).map D.int) [] [some (.int p), some (.tup (cs.map tD)), some (.int n), some (.int i), none, some (.vec (vecT cs n i 0)), none, none, none, none] =
      .ok (vecB n i 0) [some (.int p), some (.tup (cs.map tD)), some (.int n), some (.int i), none, some (.vec (vecT cs n i 0)), none, none, none, none] := by
    have := lcl_all (vs := [4]) (g := gN 4) (e := E3_d_law_table) (ρ := [some (.int p), some (.tup (cs.map tD)), some (.int n), some (.int i), none, some (.vec (vecT cs n i 0)), none, none, none, none]) D.int (fun _ => D.bl false) ((List.range n).map fun (k : Nat) => (0 : Int) + k) (by rw [List.length_map, List.length_range]; omega) fun x _ => ⟨_, [some (.int p), some (.tup (cs.map tD)), some (.int n), some (.int i), some (.int x), some (.vec (vecT cs n i 0)), none, none, none, none], rfl, rfl, rfl⟩
    rw [this, vecB_0, List.map_map]
    rfl
  have e1 : ((n : Int) - 1).toNat = n - 1 := by omega
  unfold envT at il
  simp -implicitDefEqProofs only [B2_d_law_table, runF, eBinR, qFld, eMth, eMth0, eProp, lot_pure, lot_frz, lot_isO, eBad, sBad, gT, gCo, gNl, sAsg, sDput, eDget, eDget2, dicO, sPut, sPut2, sq_tup, sq_lst, sq_vec, sNx, sSeq, sIf, sRet, sSet, sEx, sBk, sCt, sFgt, fgt, eC, eV, eM, eBin, eUn, aNil, aCons, eTup, eLst, eFn, tB1, tAnd, tOr, tNot, eAnd, eOr, eNot, eIf, eCall, eCallK, pick, eQ, tQ1, qV, qC, qBin, qUn, qB, qAnd, qOr, qNot, qIf, qAndT, qOrT, qNotT, qChain, eChain, eLc, sFor, iSq, iRg1, iRg2, gN, itms, rst, eApp, D.frz, D.frzs, D.pure, D.pures, bind_ok, bind_ex, stmt_ok, stmt_ex, seq_nx, seq_rt, seq_ex, seq_bk, seq_ct, fgt_nx, fgt_bk, fgt_ct, fgt_rt, fgt_ex, out_nx, out_rt, out_ex, opt_some, optL_some, andB_tt, andB_ff, andB_some, orB_tt, orB_ff, orB_some, andX_tt, andX_ff, andX_some, orX_tt, orX_ff, orX_some, itAnd, itOr, itAndX, itOrX, Option.bind_some, List.map_cons, List.map_nil, List.length_cons, List.length_nil, List.cons_append, List.nil_append, List.getElem?_cons_zero, List.getElem?_cons_succ, List.getElem?_nil, List.set_cons_zero, List.set_cons_succ, List.replicate, addI_i, subD_i, ltD_i, leD_i, gtD_i, geD_i, eqS_int, neS_int, eqS_bl, neS_bl, max2_i, min2_i, maxL_i, minL_i, int1_i, intL_i, if_true, if_false, ite_true, ite_false, and_true, true_and, and_self, Bool.and_self, Bool.and_true, Bool.true_and, Bool.and_false, Bool.false_and, Bool.or_true, Bool.true_or, Bool.or_false, Bool.false_or, Bool.not_true, Bool.not_false, Nat.reduceAdd, Nat.reduceSub, Nat.reduceEqDiff, List.filterMap_cons, List.filterMap_nil, decide_true, decide_false, Bool.false_eq_true, reduceIte, Int.reduceAdd, Int.reduceSub, Int.reduceMul, Int.reduceNeg, Int.reduceLT, Int.reduceLE, Int.reduceEq, Int.reduceMod, Int.reduceDiv, Int.lt_irrefl, reduceCtorEq, D.frzs_int, D.pures_int, cap_0, cap_1, cap_2, cap_3, cap_4, cap_5, cap_6, cap_7, cap_8, cap_9, cap_10, cap_11, cap_12, cap_13, cap_14, cap_15, cap_16, cap_17, cap_18, cap_19, cap_20, cap_21, cap_22, cap_23, cap_24, cap_25, cap_26, cap_27, cap_28, cap_29, cap_30, cap_31, cap_32, cap_33, cap_34, cap_35, cap_36, cap_37, cap_38, cap_39, cap_40, eBor, brw, D.noL, D.noLs, sRaise, sTry, isE, qXf, cleanR, D.noX, D.noXs, rfX, boolF, Option.map_some, Option.map_none, Option.getD_some, C1_d_law_same, hb, hb1, rng_eq, Int.sub_zero, Int.toNat_natCast, fl, e1, il, vn, envO]
theorem table_eq (p : Int) (cs : List T3) (n : Nat) (hn : (n : Int) = max p 1) (hN : n ≤ 1000) (hc : NF p cs) (hl : cs.length < 1000000) : d_law_table [.int p, .tup (cs.map tD)] = .rt (tblD n (passM cs)) := by
  have hb : bnd (n : Int) = true := bnd_of ⟨by omega, by omega⟩
  have lo := loop_nat (g := gN 3) (b := B2_d_law_table)
    (fun k : Nat => D.int ((0 : Int) + k)) (envO p cs n) n fun k hk => ⟨_, rfl, by
      have e := outer_step p cs n k hn hN hc hl hk
      rw [← e]
      show B2_d_law_table [_, _, _, some (.int ((0 : Int) + k)), _, _, _, _, _, _] = _
      rw [Int.zero_add]⟩
  have z1 : ∀ i : D, lcl [4] (gN 4) tT E1_d_law_table (((List.range n).map fun (k : Nat) => (0 : Int) + k).map D.int) [] [some (.int p), some (.tup (cs.map tD)), some (.int n), some i, none, none, none, none, none, none] =
      .ok ((List.range n).map fun _ => D.int 0) [some (.int p), some (.tup (cs.map tD)), some (.int n), some i, none, none, none, none, none, none] := fun i => by
    rw [lcl_all (vs := [4]) (g := gN 4) (e := E1_d_law_table) (ρ := [some (.int p), some (.tup (cs.map tD)), some (.int n), some i, none, none, none, none, none, none]) D.int (fun _ => D.int 0) ((List.range n).map fun (k : Nat) => (0 : Int) + k) (by rw [List.length_map, List.length_range]; omega) fun x _ => ⟨_, [some (.int p), some (.tup (cs.map tD)), some (.int n), some i, some (.int x), none, none, none, none, none], rfl, rfl, rfl⟩, List.map_map]
    rfl
  have z2 : lcl [3] (gN 3) tT E2_d_law_table (((List.range n).map fun (k : Nat) => (0 : Int) + k).map D.int) [] [some (.int p), some (.tup (cs.map tD)), some (.int n), none, none, none, none, none, none, none] =
      .ok (vecT cs n 0 0) [some (.int p), some (.tup (cs.map tD)), some (.int n), none, none, none, none, none, none, none] := by
    rw [lcl_all (vs := [3]) (g := gN 3) (e := E2_d_law_table) (ρ := [some (.int p), some (.tup (cs.map tD)), some (.int n), none, none, none, none, none, none, none]) D.int (fun _ => D.vec ((List.range n).map fun _ => D.int 0)) ((List.range n).map fun (k : Nat) => (0 : Int) + k) (by rw [List.length_map, List.length_range]; omega) fun x _ => ⟨_, [some (.int p), some (.tup (cs.map tD)), some (.int n), some (.int x), none, none, none, none, none, none], rfl, by simp -implicitDefEqProofs only [E2_d_law_table, runF, eBinR, qFld, eMth, eMth0, eProp, lot_pure, lot_frz, lot_isO, eBad, sBad, gT, gCo, gNl, sAsg, sDput, eDget, eDget2, dicO, sPut, sPut2, sq_tup, sq_lst, sq_vec, sNx, sSeq, sIf, sRet, sSet, sEx, sBk, sCt, sFgt, fgt, eC, eV, eM, eBin, eUn, aNil, aCons, eTup, eLst, eFn, tB1, tAnd, tOr, tNot, eAnd, eOr, eNot, eIf, eCall, eCallK, pick, eQ, tQ1, qV, qC, qBin, qUn, qB, qAnd, qOr, qNot, qIf, qAndT, qOrT, qNotT, qChain, eChain, eLc, sFor, iSq, iRg1, iRg2, gN, itms, rst, eApp, D.frz, D.frzs, D.pure, D.pures, bind_ok, bind_ex, stmt_ok, stmt_ex, seq_nx, seq_rt, seq_ex, seq_bk, seq_ct, fgt_nx, fgt_bk, fgt_ct, fgt_rt, fgt_ex, out_nx, out_rt, out_ex, opt_some, optL_some, andB_tt, andB_ff, andB_some, orB_tt, orB_ff, orB_some, andX_tt, andX_ff, andX_some, orX_tt, orX_ff, orX_some, itAnd, itOr, itAndX, itOrX, Option.bind_some, List.map_cons, List.map_nil, List.length_cons, List.length_nil, List.cons_append, List.nil_append, List.getElem?_cons_zero, List.getElem?_cons_succ, List.getElem?_nil, List.set_cons_zero, List.set_cons_succ, List.replicate, addI_i, subD_i, ltD_i, leD_i, gtD_i, geD_i, eqS_int, neS_int, eqS_bl, neS_bl, max2_i, min2_i, maxL_i, minL_i, int1_i, intL_i, if_true, if_false, ite_true, ite_false, and_true, true_and, and_self, Bool.and_self, Bool.and_true, Bool.true_and, Bool.and_false, Bool.false_and, Bool.or_true, Bool.true_or, Bool.or_false, Bool.false_or, Bool.not_true, Bool.not_false, Nat.reduceAdd, Nat.reduceSub, Nat.reduceEqDiff, List.filterMap_cons, List.filterMap_nil, decide_true, decide_false, Bool.false_eq_true, reduceIte, Int.reduceAdd, Int.reduceSub, Int.reduceMul, Int.reduceNeg, Int.reduceLT, Int.reduceLE, Int.reduceEq, Int.reduceMod, Int.reduceDiv, Int.lt_irrefl, reduceCtorEq, D.frzs_int, D.pures_int, cap_0, cap_1, cap_2, cap_3, cap_4, cap_5, cap_6, cap_7, cap_8, cap_9, cap_10, cap_11, cap_12, cap_13, cap_14, cap_15, cap_16, cap_17, cap_18, cap_19, cap_20, cap_21, cap_22, cap_23, cap_24, cap_25, cap_26, cap_27, cap_28, cap_29, cap_30, cap_31, cap_32, cap_33, cap_34, cap_35, cap_36, cap_37, cap_38, cap_39, cap_40, eBor, brw, D.noL, D.noLs, sRaise, sTry, isE, qXf, cleanR, D.noX, D.noXs, rfX, boolF, Option.map_some, Option.map_none, Option.getD_some, C1_d_law_same, hb, rng_eq, Int.sub_zero, Int.toNat_natCast, z1], rfl⟩, List.map_map, vecT_first]
    rfl
  have fz : D.frzs (vecT cs n n 0) = (List.range n).map fun (r : Nat) => D.lst (rowV cs n n 0 r) := by
    have rp : ∀ r : Int, D.frzs (rowV cs n n 0 r) = rowV cs n n 0 r := fun r => D.frzs_map (f := fun c : Nat => D.int (Tz cs n n 0 r c)) (fun _ => rfl) _
    have gen : ∀ l : List Nat, D.frzs (l.map fun (r : Nat) => D.vec (rowV cs n n 0 r)) = l.map fun (r : Nat) => D.lst (rowV cs n n 0 r) := fun l => by
      induction l with
      | nil => rfl
      | cons r l ih => rw [List.map_cons, D.frzs, ih, D.frz, rp]; rfl
    exact gen _
  have f1 : lcl [8] (gN 8) tT E5_d_law_table ((List.range n).map fun (r : Nat) => D.lst (rowV cs n n 0 r)) [] [some (.int p), some (.tup (cs.map tD)), some (.int n), none, none, some (.lst ((List.range n).map fun (r : Nat) => D.lst (rowV cs n n 0 r))), none, none, none, none] =
      .ok ((List.range n).map fun (r : Nat) => rowD n (passM cs) r) [some (.int p), some (.tup (cs.map tD)), some (.int n), none, none, some (.lst ((List.range n).map fun (r : Nat) => D.lst (rowV cs n n 0 r))), none, none, none, none] := by
    refine lcl_all (fun r : Nat => D.lst (rowV cs n n 0 r)) (fun r : Nat => rowD n (passM cs) r) (List.range n) (by rw [List.length_range]; omega) fun r hr => ?_
    have hr' : r < n := List.mem_range.mp hr
    have e : D.tup (rowV cs n n 0 r) = rowD n (passM cs) r := by
      unfold rowV rowD
      congr 1
      refine List.map_congr_left fun c _ => ?_
      unfold Tz
      rw [if_pos (by omega)]
    have rp : D.frzs (rowV cs n n 0 r) = rowV cs n n 0 r := D.frzs_map (f := fun c : Nat => D.int (Tz cs n n 0 r c)) (fun _ => rfl) _
    refine ⟨_, [some (.int p), some (.tup (cs.map tD)), some (.int n), none, none, some (.lst ((List.range n).map fun (r : Nat) => D.lst (rowV cs n n 0 r))), none, none, some (.lst (rowV cs n n 0 r)), none], rfl, ?_, rfl⟩
    simp -implicitDefEqProofs only [E5_d_law_table, runF, eBinR, qFld, eMth, eMth0, eProp, lot_pure, lot_frz, lot_isO, eBad, sBad, gT, gCo, gNl, sAsg, sDput, eDget, eDget2, dicO, sPut, sPut2, sq_tup, sq_lst, sq_vec, sNx, sSeq, sIf, sRet, sSet, sEx, sBk, sCt, sFgt, fgt, eC, eV, eM, eBin, eUn, aNil, aCons, eTup, eLst, eFn, tB1, tAnd, tOr, tNot, eAnd, eOr, eNot, eIf, eCall, eCallK, pick, eQ, tQ1, qV, qC, qBin, qUn, qB, qAnd, qOr, qNot, qIf, qAndT, qOrT, qNotT, qChain, eChain, eLc, sFor, iSq, iRg1, iRg2, gN, itms, rst, eApp, D.frz, D.frzs, D.pure, D.pures, bind_ok, bind_ex, stmt_ok, stmt_ex, seq_nx, seq_rt, seq_ex, seq_bk, seq_ct, fgt_nx, fgt_bk, fgt_ct, fgt_rt, fgt_ex, out_nx, out_rt, out_ex, opt_some, optL_some, andB_tt, andB_ff, andB_some, orB_tt, orB_ff, orB_some, andX_tt, andX_ff, andX_some, orX_tt, orX_ff, orX_some, itAnd, itOr, itAndX, itOrX, Option.bind_some, List.map_cons, List.map_nil, List.length_cons, List.length_nil, List.cons_append, List.nil_append, List.getElem?_cons_zero, List.getElem?_cons_succ, List.getElem?_nil, List.set_cons_zero, List.set_cons_succ, List.replicate, addI_i, subD_i, ltD_i, leD_i, gtD_i, geD_i, eqS_int, neS_int, eqS_bl, neS_bl, max2_i, min2_i, maxL_i, minL_i, int1_i, intL_i, if_true, if_false, ite_true, ite_false, and_true, true_and, and_self, Bool.and_self, Bool.and_true, Bool.true_and, Bool.and_false, Bool.false_and, Bool.or_true, Bool.true_or, Bool.or_false, Bool.false_or, Bool.not_true, Bool.not_false, Nat.reduceAdd, Nat.reduceSub, Nat.reduceEqDiff, List.filterMap_cons, List.filterMap_nil, decide_true, decide_false, Bool.false_eq_true, reduceIte, Int.reduceAdd, Int.reduceSub, Int.reduceMul, Int.reduceNeg, Int.reduceLT, Int.reduceLE, Int.reduceEq, Int.reduceMod, Int.reduceDiv, Int.lt_irrefl, reduceCtorEq, D.frzs_int, D.pures_int, cap_0, cap_1, cap_2, cap_3, cap_4, cap_5, cap_6, cap_7, cap_8, cap_9, cap_10, cap_11, cap_12, cap_13, cap_14, cap_15, cap_16, cap_17, cap_18, cap_19, cap_20, cap_21, cap_22, cap_23, cap_24, cap_25, cap_26, cap_27, cap_28, cap_29, cap_30, cap_31, cap_32, cap_33, cap_34, cap_35, cap_36, cap_37, cap_38, cap_39, cap_40, eBor, brw, D.noL, D.noLs, sRaise, sTry, isE, qXf, cleanR, D.noX, D.noXs, rfX, boolF, Option.map_some, Option.map_none, Option.getD_some, C1_d_law_same, rp, tupL_sq (sq_lst _), e]
  have lo' : loop (gN 3) B2_d_law_table (((List.range n).map fun (k : Nat) => (0 : Int) + k).map D.int) [some (.int p), some (.tup (cs.map tD)), some (.int n), none, none, some (.vec (vecT cs n 0 0)), none, none, none, none] = .nx [some (.int p), some (.tup (cs.map tD)), some (.int n), none, none, some (.vec (vecT cs n n 0)), none, none, none, none] := by
    rw [List.map_map]
    exact lo
  unfold d_law_table b_d_law_table
  have hmax : max p 1 = (n : Int) := hn.symm
  have lrp : (D.lst ((List.range n).map fun (r : Nat) => D.lst (rowV cs n n 0 r))).frz = D.lst ((List.range n).map fun (r : Nat) => D.lst (rowV cs n n 0 r)) := by
    refine D.frz_of_pure ?_
    rw [D.pure]
    exact D.pures_map (f := fun r : Nat => D.lst (rowV cs n n 0 r)) (fun r => by rw [D.pure]; exact D.pures_map (f := fun c : Nat => D.int (Tz cs n n 0 r c)) (fun _ => rfl) _) _
  have lrp2 : D.frzs ((List.range n).map fun (r : Nat) => D.lst (rowV cs n n 0 r)) = (List.range n).map fun (r : Nat) => D.lst (rowV cs n n 0 r) := by
    exact D.frzs_map (f := fun r : Nat => D.lst (rowV cs n n 0 r)) (fun r => by rw [D.pure]; exact D.pures_map (f := fun c : Nat => D.int (Tz cs n n 0 r c)) (fun _ => rfl) _) _
  simp -implicitDefEqProofs only [runF, eBinR, qFld, eMth, eMth0, eProp, lot_pure, lot_frz, lot_isO, eBad, sBad, gT, gCo, gNl, sAsg, sDput, eDget, eDget2, dicO, sPut, sPut2, sq_tup, sq_lst, sq_vec, sNx, sSeq, sIf, sRet, sSet, sEx, sBk, sCt, sFgt, fgt, eC, eV, eM, eBin, eUn, aNil, aCons, eTup, eLst, eFn, tB1, tAnd, tOr, tNot, eAnd, eOr, eNot, eIf, eCall, eCallK, pick, eQ, tQ1, qV, qC, qBin, qUn, qB, qAnd, qOr, qNot, qIf, qAndT, qOrT, qNotT, qChain, eChain, eLc, sFor, iSq, iRg1, iRg2, gN, itms, rst, eApp, D.frz, D.frzs, D.pure, D.pures, bind_ok, bind_ex, stmt_ok, stmt_ex, seq_nx, seq_rt, seq_ex, seq_bk, seq_ct, fgt_nx, fgt_bk, fgt_ct, fgt_rt, fgt_ex, out_nx, out_rt, out_ex, opt_some, optL_some, andB_tt, andB_ff, andB_some, orB_tt, orB_ff, orB_some, andX_tt, andX_ff, andX_some, orX_tt, orX_ff, orX_some, itAnd, itOr, itAndX, itOrX, Option.bind_some, List.map_cons, List.map_nil, List.length_cons, List.length_nil, List.cons_append, List.nil_append, List.getElem?_cons_zero, List.getElem?_cons_succ, List.getElem?_nil, List.set_cons_zero, List.set_cons_succ, List.replicate, addI_i, subD_i, ltD_i, leD_i, gtD_i, geD_i, eqS_int, neS_int, eqS_bl, neS_bl, max2_i, min2_i, maxL_i, minL_i, int1_i, intL_i, if_true, if_false, ite_true, ite_false, and_true, true_and, and_self, Bool.and_self, Bool.and_true, Bool.true_and, Bool.and_false, Bool.false_and, Bool.or_true, Bool.true_or, Bool.or_false, Bool.false_or, Bool.not_true, Bool.not_false, Nat.reduceAdd, Nat.reduceSub, Nat.reduceEqDiff, List.filterMap_cons, List.filterMap_nil, decide_true, decide_false, Bool.false_eq_true, reduceIte, Int.reduceAdd, Int.reduceSub, Int.reduceMul, Int.reduceNeg, Int.reduceLT, Int.reduceLE, Int.reduceEq, Int.reduceMod, Int.reduceDiv, Int.lt_irrefl, reduceCtorEq, D.frzs_int, D.pures_int, cap_0, cap_1, cap_2, cap_3, cap_4, cap_5, cap_6, cap_7, cap_8, cap_9, cap_10, cap_11, cap_12, cap_13, cap_14, cap_15, cap_16, cap_17, cap_18, cap_19, cap_20, cap_21, cap_22, cap_23, cap_24, cap_25, cap_26, cap_27, cap_28, cap_29, cap_30, cap_31, cap_32, cap_33, cap_34, cap_35, cap_36, cap_37, cap_38, cap_39, cap_40, eBor, brw, D.noL, D.noLs, sRaise, sTry, isE, qXf, cleanR, D.noX, D.noXs, rfX, boolF, Option.map_some, Option.map_none, Option.getD_some, C1_d_law_same, hmax, hb, rng_eq, Int.sub_zero, Int.toNat_natCast, z2, lo', fz, lrp2, f1, tupL_sq (sq_vec _), tblD]

end Math

set_option Elab.async false
set_option linter.all false
set_option maxRecDepth 100000
set_option maxHeartbeats 2000000
namespace Math
open PySem FL Prg
open L2 (atI atI_nat ixN)
theorem pins_eq (c : Int) : ∃ p, d_law_pins [.int c] = .rt (.int p) ∧ 0 ≤ p ∧ p ≤ 40 := by
  obtain ⟨row, h1, h2⟩ := digits_eq c [8, 30, 41] (by intro s hs; simp only [List.mem_cons, List.not_mem_nil, or_false] at hs; omega) (by decide)
  obtain ⟨x, y, z, rfl, hx, hy, hz⟩ := inR3 h2
  have h1' : d_law_digits [.int c, .lst [.int 8, .int 30, .int 41]] = .rt (.vec [.int x, .int y, .int z]) := h1
  by_cases g1 : x < 5
  · exact ⟨2 + y % 5, by simp -implicitDefEqProofs only [d_law_pins, b_d_law_pins, runF, eBinR, qFld, eMth, eMth0, eProp, lot_pure, lot_frz, lot_isO, eBad, sBad, gT, gCo, gNl, sAsg, sDput, eDget, eDget2, dicO, sPut, sPut2, sq_tup, sq_lst, sq_vec, sNx, sSeq, sIf, sRet, sSet, sEx, sBk, sCt, sFgt, fgt, eC, eV, eM, eBin, eUn, aNil, aCons, eTup, eLst, eFn, tB1, tAnd, tOr, tNot, eAnd, eOr, eNot, eIf, eCall, eCallK, pick, eQ, tQ1, qV, qC, qBin, qUn, qB, qAnd, qOr, qNot, qIf, qAndT, qOrT, qNotT, qChain, eChain, eLc, sFor, iSq, iRg1, iRg2, gN, itms, rst, eApp, D.frz, D.frzs, D.pure, D.pures, bind_ok, bind_ex, stmt_ok, stmt_ex, seq_nx, seq_rt, seq_ex, seq_bk, seq_ct, fgt_nx, fgt_bk, fgt_ct, fgt_rt, fgt_ex, out_nx, out_rt, out_ex, opt_some, optL_some, andB_tt, andB_ff, andB_some, orB_tt, orB_ff, orB_some, andX_tt, andX_ff, andX_some, orX_tt, orX_ff, orX_some, itAnd, itOr, itAndX, itOrX, Option.bind_some, List.map_cons, List.map_nil, List.length_cons, List.length_nil, List.cons_append, List.nil_append, List.getElem?_cons_zero, List.getElem?_cons_succ, List.getElem?_nil, List.set_cons_zero, List.set_cons_succ, List.replicate, addI_i, subD_i, ltD_i, leD_i, gtD_i, geD_i, eqS_int, neS_int, eqS_bl, neS_bl, max2_i, min2_i, maxL_i, minL_i, int1_i, intL_i, if_true, if_false, ite_true, ite_false, and_true, true_and, and_self, Bool.and_self, Bool.and_true, Bool.true_and, Bool.and_false, Bool.false_and, Bool.or_true, Bool.true_or, Bool.or_false, Bool.false_or, Bool.not_true, Bool.not_false, Nat.reduceAdd, Nat.reduceSub, Nat.reduceEqDiff, List.filterMap_cons, List.filterMap_nil, decide_true, decide_false, Bool.false_eq_true, reduceIte, Int.reduceAdd, Int.reduceSub, Int.reduceMul, Int.reduceNeg, Int.reduceLT, Int.reduceLE, Int.reduceEq, Int.reduceMod, Int.reduceDiv, Int.lt_irrefl, reduceCtorEq, D.frzs_int, D.pures_int, cap_0, cap_1, cap_2, cap_3, cap_4, cap_5, cap_6, cap_7, cap_8, cap_9, cap_10, cap_11, cap_12, cap_13, cap_14, cap_15, cap_16, cap_17, cap_18, cap_19, cap_20, cap_21, cap_22, cap_23, cap_24, cap_25, cap_26, cap_27, cap_28, cap_29, cap_30, cap_31, cap_32, cap_33, cap_34, cap_35, cap_36, cap_37, cap_38, cap_39, cap_40, eBor, brw, D.noL, D.noLs, sRaise, sTry, isE, qXf, cleanR, D.noX, D.noXs, rfX, boolF, Option.map_some, Option.map_none, Option.getD_some, C1_d_law_same, h1', iv0v, iv1v, g1, modD_i (show (0 : Int) < 5 by decide)], by omega, by omega⟩
  · by_cases g2 : x = 5
    · subst g2
      exact ⟨7 + y % 6, by simp -implicitDefEqProofs only [d_law_pins, b_d_law_pins, runF, eBinR, qFld, eMth, eMth0, eProp, lot_pure, lot_frz, lot_isO, eBad, sBad, gT, gCo, gNl, sAsg, sDput, eDget, eDget2, dicO, sPut, sPut2, sq_tup, sq_lst, sq_vec, sNx, sSeq, sIf, sRet, sSet, sEx, sBk, sCt, sFgt, fgt, eC, eV, eM, eBin, eUn, aNil, aCons, eTup, eLst, eFn, tB1, tAnd, tOr, tNot, eAnd, eOr, eNot, eIf, eCall, eCallK, pick, eQ, tQ1, qV, qC, qBin, qUn, qB, qAnd, qOr, qNot, qIf, qAndT, qOrT, qNotT, qChain, eChain, eLc, sFor, iSq, iRg1, iRg2, gN, itms, rst, eApp, D.frz, D.frzs, D.pure, D.pures, bind_ok, bind_ex, stmt_ok, stmt_ex, seq_nx, seq_rt, seq_ex, seq_bk, seq_ct, fgt_nx, fgt_bk, fgt_ct, fgt_rt, fgt_ex, out_nx, out_rt, out_ex, opt_some, optL_some, andB_tt, andB_ff, andB_some, orB_tt, orB_ff, orB_some, andX_tt, andX_ff, andX_some, orX_tt, orX_ff, orX_some, itAnd, itOr, itAndX, itOrX, Option.bind_some, List.map_cons, List.map_nil, List.length_cons, List.length_nil, List.cons_append, List.nil_append, List.getElem?_cons_zero, List.getElem?_cons_succ, List.getElem?_nil, List.set_cons_zero, List.set_cons_succ, List.replicate, addI_i, subD_i, ltD_i, leD_i, gtD_i, geD_i, eqS_int, neS_int, eqS_bl, neS_bl, max2_i, min2_i, maxL_i, minL_i, int1_i, intL_i, if_true, if_false, ite_true, ite_false, and_true, true_and, and_self, Bool.and_self, Bool.and_true, Bool.true_and, Bool.and_false, Bool.false_and, Bool.or_true, Bool.true_or, Bool.or_false, Bool.false_or, Bool.not_true, Bool.not_false, Nat.reduceAdd, Nat.reduceSub, Nat.reduceEqDiff, List.filterMap_cons, List.filterMap_nil, decide_true, decide_false, Bool.false_eq_true, reduceIte, Int.reduceAdd, Int.reduceSub, Int.reduceMul, Int.reduceNeg, Int.reduceLT, Int.reduceLE, Int.reduceEq, Int.reduceMod, Int.reduceDiv, Int.lt_irrefl, reduceCtorEq, D.frzs_int, D.pures_int, cap_0, cap_1, cap_2, cap_3, cap_4, cap_5, cap_6, cap_7, cap_8, cap_9, cap_10, cap_11, cap_12, cap_13, cap_14, cap_15, cap_16, cap_17, cap_18, cap_19, cap_20, cap_21, cap_22, cap_23, cap_24, cap_25, cap_26, cap_27, cap_28, cap_29, cap_30, cap_31, cap_32, cap_33, cap_34, cap_35, cap_36, cap_37, cap_38, cap_39, cap_40, eBor, brw, D.noL, D.noLs, sRaise, sTry, isE, qXf, cleanR, D.noX, D.noXs, rfX, boolF, Option.map_some, Option.map_none, Option.getD_some, C1_d_law_same, h1', iv0v, iv1v, modD_i (show (0 : Int) < 6 by decide)], by omega, by omega⟩
    · by_cases g3 : x = 6
      · subst g3
        exact ⟨y % 2, by simp -implicitDefEqProofs only [d_law_pins, b_d_law_pins, runF, eBinR, qFld, eMth, eMth0, eProp, lot_pure, lot_frz, lot_isO, eBad, sBad, gT, gCo, gNl, sAsg, sDput, eDget, eDget2, dicO, sPut, sPut2, sq_tup, sq_lst, sq_vec, sNx, sSeq, sIf, sRet, sSet, sEx, sBk, sCt, sFgt, fgt, eC, eV, eM, eBin, eUn, aNil, aCons, eTup, eLst, eFn, tB1, tAnd, tOr, tNot, eAnd, eOr, eNot, eIf, eCall, eCallK, pick, eQ, tQ1, qV, qC, qBin, qUn, qB, qAnd, qOr, qNot, qIf, qAndT, qOrT, qNotT, qChain, eChain, eLc, sFor, iSq, iRg1, iRg2, gN, itms, rst, eApp, D.frz, D.frzs, D.pure, D.pures, bind_ok, bind_ex, stmt_ok, stmt_ex, seq_nx, seq_rt, seq_ex, seq_bk, seq_ct, fgt_nx, fgt_bk, fgt_ct, fgt_rt, fgt_ex, out_nx, out_rt, out_ex, opt_some, optL_some, andB_tt, andB_ff, andB_some, orB_tt, orB_ff, orB_some, andX_tt, andX_ff, andX_some, orX_tt, orX_ff, orX_some, itAnd, itOr, itAndX, itOrX, Option.bind_some, List.map_cons, List.map_nil, List.length_cons, List.length_nil, List.cons_append, List.nil_append, List.getElem?_cons_zero, List.getElem?_cons_succ, List.getElem?_nil, List.set_cons_zero, List.set_cons_succ, List.replicate, addI_i, subD_i, ltD_i, leD_i, gtD_i, geD_i, eqS_int, neS_int, eqS_bl, neS_bl, max2_i, min2_i, maxL_i, minL_i, int1_i, intL_i, if_true, if_false, ite_true, ite_false, and_true, true_and, and_self, Bool.and_self, Bool.and_true, Bool.true_and, Bool.and_false, Bool.false_and, Bool.or_true, Bool.true_or, Bool.or_false, Bool.false_or, Bool.not_true, Bool.not_false, Nat.reduceAdd, Nat.reduceSub, Nat.reduceEqDiff, List.filterMap_cons, List.filterMap_nil, decide_true, decide_false, Bool.false_eq_true, reduceIte, Int.reduceAdd, Int.reduceSub, Int.reduceMul, Int.reduceNeg, Int.reduceLT, Int.reduceLE, Int.reduceEq, Int.reduceMod, Int.reduceDiv, Int.lt_irrefl, reduceCtorEq, D.frzs_int, D.pures_int, cap_0, cap_1, cap_2, cap_3, cap_4, cap_5, cap_6, cap_7, cap_8, cap_9, cap_10, cap_11, cap_12, cap_13, cap_14, cap_15, cap_16, cap_17, cap_18, cap_19, cap_20, cap_21, cap_22, cap_23, cap_24, cap_25, cap_26, cap_27, cap_28, cap_29, cap_30, cap_31, cap_32, cap_33, cap_34, cap_35, cap_36, cap_37, cap_38, cap_39, cap_40, eBor, brw, D.noL, D.noLs, sRaise, sTry, isE, qXf, cleanR, D.noX, D.noXs, rfX, boolF, Option.map_some, Option.map_none, Option.getD_some, C1_d_law_same, h1', iv0v, iv1v, modD_i (show (0 : Int) < 2 by decide)], by omega, by omega⟩
      · exact ⟨z, by simp -implicitDefEqProofs only [d_law_pins, b_d_law_pins, runF, eBinR, qFld, eMth, eMth0, eProp, lot_pure, lot_frz, lot_isO, eBad, sBad, gT, gCo, gNl, sAsg, sDput, eDget, eDget2, dicO, sPut, sPut2, sq_tup, sq_lst, sq_vec, sNx, sSeq, sIf, sRet, sSet, sEx, sBk, sCt, sFgt, fgt, eC, eV, eM, eBin, eUn, aNil, aCons, eTup, eLst, eFn, tB1, tAnd, tOr, tNot, eAnd, eOr, eNot, eIf, eCall, eCallK, pick, eQ, tQ1, qV, qC, qBin, qUn, qB, qAnd, qOr, qNot, qIf, qAndT, qOrT, qNotT, qChain, eChain, eLc, sFor, iSq, iRg1, iRg2, gN, itms, rst, eApp, D.frz, D.frzs, D.pure, D.pures, bind_ok, bind_ex, stmt_ok, stmt_ex, seq_nx, seq_rt, seq_ex, seq_bk, seq_ct, fgt_nx, fgt_bk, fgt_ct, fgt_rt, fgt_ex, out_nx, out_rt, out_ex, opt_some, optL_some, andB_tt, andB_ff, andB_some, orB_tt, orB_ff, orB_some, andX_tt, andX_ff, andX_some, orX_tt, orX_ff, orX_some, itAnd, itOr, itAndX, itOrX, Option.bind_some, List.map_cons, List.map_nil, List.length_cons, List.length_nil, List.cons_append, List.nil_append, List.getElem?_cons_zero, List.getElem?_cons_succ, List.getElem?_nil, List.set_cons_zero, List.set_cons_succ, List.replicate, addI_i, subD_i, ltD_i, leD_i, gtD_i, geD_i, eqS_int, neS_int, eqS_bl, neS_bl, max2_i, min2_i, maxL_i, minL_i, int1_i, intL_i, if_true, if_false, ite_true, ite_false, and_true, true_and, and_self, Bool.and_self, Bool.and_true, Bool.true_and, Bool.and_false, Bool.false_and, Bool.or_true, Bool.true_or, Bool.or_false, Bool.false_or, Bool.not_true, Bool.not_false, Nat.reduceAdd, Nat.reduceSub, Nat.reduceEqDiff, List.filterMap_cons, List.filterMap_nil, decide_true, decide_false, Bool.false_eq_true, reduceIte, Int.reduceAdd, Int.reduceSub, Int.reduceMul, Int.reduceNeg, Int.reduceLT, Int.reduceLE, Int.reduceEq, Int.reduceMod, Int.reduceDiv, Int.lt_irrefl, reduceCtorEq, D.frzs_int, D.pures_int, cap_0, cap_1, cap_2, cap_3, cap_4, cap_5, cap_6, cap_7, cap_8, cap_9, cap_10, cap_11, cap_12, cap_13, cap_14, cap_15, cap_16, cap_17, cap_18, cap_19, cap_20, cap_21, cap_22, cap_23, cap_24, cap_25, cap_26, cap_27, cap_28, cap_29, cap_30, cap_31, cap_32, cap_33, cap_34, cap_35, cap_36, cap_37, cap_38, cap_39, cap_40, eBor, brw, D.noL, D.noLs, sRaise, sTry, isE, qXf, cleanR, D.noX, D.noXs, rfX, boolF, Option.map_some, Option.map_none, Option.getD_some, C1_d_law_same, h1', iv0v, iv2v, g1, g2, g3], by omega, by omega⟩
theorem wt_at (z : Int) (h : 0 ≤ z ∧ z < 6) : ∃ m, ixD (.vec [.int 3, .int 3, .int 3, .int 3, .int 1000, .int 500000000]) (.int z) = some (.int m) ∧ 0 < m := by
  have : z = 0 ∨ z = 1 ∨ z = 2 ∨ z = 3 ∨ z = 4 ∨ z = 5 := by omega
  rcases this with rfl | rfl | rfl | rfl | rfl | rfl
  · exact ⟨3, ixD_sq (sq_vec _) (atI_nat (j := 0) rfl), by decide⟩
  · exact ⟨3, ixD_sq (sq_vec _) (atI_nat (j := 1) rfl), by decide⟩
  · exact ⟨3, ixD_sq (sq_vec _) (atI_nat (j := 2) rfl), by decide⟩
  · exact ⟨3, ixD_sq (sq_vec _) (atI_nat (j := 3) rfl), by decide⟩
  · exact ⟨1000, ixD_sq (sq_vec _) (atI_nat (j := 4) rfl), by decide⟩
  · exact ⟨500000000, ixD_sq (sq_vec _) (atI_nat (j := 5) rfl), by decide⟩
theorem m5 : mulD (.int 5) (.int 100000000) = some (.int 500000000) := mulD_i (.inl ⟨by decide, by decide⟩)
theorem lot_step (ns : List Int) (st ct p : Int) (row : List T3) (k : Nat) (hns : ns.length ≤ 63) (hst : 0 ≤ st ∧ st ≤ 100) (hp : 0 ≤ p ∧ p ≤ 40) (hk : k ≤ 100) (h : okL p row) (hl : row.length ≤ 100) :
    ∃ row', B1_d_law_lot [some (.lst (ns.map .int)), some (.int st), some (.int ct), some (.int p), some (.vec (row.map tD)), some (.int ((0 : Int) + k)), none, none, none] = .nx [some (.lst (ns.map .int)), some (.int st), some (.int ct), some (.int p), some (.vec (row'.map tD)), none, none, none, none] ∧ okL p row' ∧ row'.length ≤ row.length + 1 := by
  by_cases hp2 : 2 ≤ p
  · obtain ⟨c, hc⟩ := cell_eq ns (st + ((0 : Int) + k)) (by omega) (by omega) hns
    obtain ⟨dr, h1, h2⟩ := digits_eq c [p, p - 1, 6, 500000000] (by intro s hs; simp only [List.mem_cons, List.not_mem_nil, or_false] at hs; omega) (by show 4 ≤ 1000; decide)
    obtain ⟨x, y, z, w, rfl, hx, hy, hz, hw⟩ := inR4 h2
    have h1' : d_law_digits [.int c, .lst [.int p, .int (p - 1), .int 6, .int 500000000]] = .rt (.vec [.int x, .int y, .int z, .int w]) := h1
    obtain ⟨m, hm, hm0⟩ := wt_at z hz
    have hcap : cap (row.map tD).length = true := cap_of (by rw [List.length_map]; omega)
    have o0 := Int.emod_nonneg (x + 1 + y) (show p ≠ 0 by omega)
    have o1 := Int.emod_lt_of_pos (x + 1 + y) (show 0 < p by omega)
    have e0 := mod_2 (z := x + 1 + y) (n := p) (by omega) (by omega)
    have w0 := Int.emod_nonneg w (show m ≠ 0 by omega)
    refine ⟨row ++ [(x, (x + 1 + y) % p, 1 + w % m)], ?_, ?_, by rw [List.length_append, List.length_singleton]; omega⟩
    · simp -implicitDefEqProofs only [B1_d_law_lot, runF, eBinR, qFld, eMth, eMth0, eProp, lot_pure, lot_frz, lot_isO, eBad, sBad, gT, gCo, gNl, sAsg, sDput, eDget, eDget2, dicO, sPut, sPut2, sq_tup, sq_lst, sq_vec, sNx, sSeq, sIf, sRet, sSet, sEx, sBk, sCt, sFgt, fgt, eC, eV, eM, eBin, eUn, aNil, aCons, eTup, eLst, eFn, tB1, tAnd, tOr, tNot, eAnd, eOr, eNot, eIf, eCall, eCallK, pick, eQ, tQ1, qV, qC, qBin, qUn, qB, qAnd, qOr, qNot, qIf, qAndT, qOrT, qNotT, qChain, eChain, eLc, sFor, iSq, iRg1, iRg2, gN, itms, rst, eApp, D.frz, D.frzs, D.pure, D.pures, bind_ok, bind_ex, stmt_ok, stmt_ex, seq_nx, seq_rt, seq_ex, seq_bk, seq_ct, fgt_nx, fgt_bk, fgt_ct, fgt_rt, fgt_ex, out_nx, out_rt, out_ex, opt_some, optL_some, andB_tt, andB_ff, andB_some, orB_tt, orB_ff, orB_some, andX_tt, andX_ff, andX_some, orX_tt, orX_ff, orX_some, itAnd, itOr, itAndX, itOrX, Option.bind_some, List.map_cons, List.map_nil, List.length_cons, List.length_nil, List.cons_append, List.nil_append, List.getElem?_cons_zero, List.getElem?_cons_succ, List.getElem?_nil, List.set_cons_zero, List.set_cons_succ, List.replicate, addI_i, subD_i, ltD_i, leD_i, gtD_i, geD_i, eqS_int, neS_int, eqS_bl, neS_bl, max2_i, min2_i, maxL_i, minL_i, int1_i, intL_i, if_true, if_false, ite_true, ite_false, and_true, true_and, and_self, Bool.and_self, Bool.and_true, Bool.true_and, Bool.and_false, Bool.false_and, Bool.or_true, Bool.true_or, Bool.or_false, Bool.false_or, Bool.not_true, Bool.not_false, Nat.reduceAdd, Nat.reduceSub, Nat.reduceEqDiff, List.filterMap_cons, List.filterMap_nil, decide_true, decide_false, Bool.false_eq_true, reduceIte, Int.reduceAdd, Int.reduceSub, Int.reduceMul, Int.reduceNeg, Int.reduceLT, Int.reduceLE, Int.reduceEq, Int.reduceMod, Int.reduceDiv, Int.lt_irrefl, reduceCtorEq, D.frzs_int, D.pures_int, cap_0, cap_1, cap_2, cap_3, cap_4, cap_5, cap_6, cap_7, cap_8, cap_9, cap_10, cap_11, cap_12, cap_13, cap_14, cap_15, cap_16, cap_17, cap_18, cap_19, cap_20, cap_21, cap_22, cap_23, cap_24, cap_25, cap_26, cap_27, cap_28, cap_29, cap_30, cap_31, cap_32, cap_33, cap_34, cap_35, cap_36, cap_37, cap_38, cap_39, cap_40, eBor, brw, D.noL, D.noLs, sRaise, sTry, isE, qXf, cleanR, D.noX, D.noXs, rfX, boolF, Option.map_some, Option.map_none, Option.getD_some, C1_d_law_same, m5, hp2, hc, h1', iv0v, iv1v, iv2v, iv3v, modD_i (show (0 : Int) < p by omega), hm, modD_i hm0, hcap, List.map_append, tD, D.frzs_int]
    · intro t ht
      rw [List.mem_append] at ht
      rcases ht with ht | ht
      · exact h t ht
      · simp only [List.mem_cons, List.not_mem_nil, or_false] at ht
        subst ht
        refine ⟨hx, ⟨o0, o1⟩, ?_, by show 1 ≤ 1 + w % m; omega⟩
        show x ≠ (x + 1 + y) % p
        rw [e0]
        split <;> omega
  · exact ⟨row, by simp -implicitDefEqProofs only [B1_d_law_lot, runF, eBinR, qFld, eMth, eMth0, eProp, lot_pure, lot_frz, lot_isO, eBad, sBad, gT, gCo, gNl, sAsg, sDput, eDget, eDget2, dicO, sPut, sPut2, sq_tup, sq_lst, sq_vec, sNx, sSeq, sIf, sRet, sSet, sEx, sBk, sCt, sFgt, fgt, eC, eV, eM, eBin, eUn, aNil, aCons, eTup, eLst, eFn, tB1, tAnd, tOr, tNot, eAnd, eOr, eNot, eIf, eCall, eCallK, pick, eQ, tQ1, qV, qC, qBin, qUn, qB, qAnd, qOr, qNot, qIf, qAndT, qOrT, qNotT, qChain, eChain, eLc, sFor, iSq, iRg1, iRg2, gN, itms, rst, eApp, D.frz, D.frzs, D.pure, D.pures, bind_ok, bind_ex, stmt_ok, stmt_ex, seq_nx, seq_rt, seq_ex, seq_bk, seq_ct, fgt_nx, fgt_bk, fgt_ct, fgt_rt, fgt_ex, out_nx, out_rt, out_ex, opt_some, optL_some, andB_tt, andB_ff, andB_some, orB_tt, orB_ff, orB_some, andX_tt, andX_ff, andX_some, orX_tt, orX_ff, orX_some, itAnd, itOr, itAndX, itOrX, Option.bind_some, List.map_cons, List.map_nil, List.length_cons, List.length_nil, List.cons_append, List.nil_append, List.getElem?_cons_zero, List.getElem?_cons_succ, List.getElem?_nil, List.set_cons_zero, List.set_cons_succ, List.replicate, addI_i, subD_i, ltD_i, leD_i, gtD_i, geD_i, eqS_int, neS_int, eqS_bl, neS_bl, max2_i, min2_i, maxL_i, minL_i, int1_i, intL_i, if_true, if_false, ite_true, ite_false, and_true, true_and, and_self, Bool.and_self, Bool.and_true, Bool.true_and, Bool.and_false, Bool.false_and, Bool.or_true, Bool.true_or, Bool.or_false, Bool.false_or, Bool.not_true, Bool.not_false, Nat.reduceAdd, Nat.reduceSub, Nat.reduceEqDiff, List.filterMap_cons, List.filterMap_nil, decide_true, decide_false, Bool.false_eq_true, reduceIte, Int.reduceAdd, Int.reduceSub, Int.reduceMul, Int.reduceNeg, Int.reduceLT, Int.reduceLE, Int.reduceEq, Int.reduceMod, Int.reduceDiv, Int.lt_irrefl, reduceCtorEq, D.frzs_int, D.pures_int, cap_0, cap_1, cap_2, cap_3, cap_4, cap_5, cap_6, cap_7, cap_8, cap_9, cap_10, cap_11, cap_12, cap_13, cap_14, cap_15, cap_16, cap_17, cap_18, cap_19, cap_20, cap_21, cap_22, cap_23, cap_24, cap_25, cap_26, cap_27, cap_28, cap_29, cap_30, cap_31, cap_32, cap_33, cap_34, cap_35, cap_36, cap_37, cap_38, cap_39, cap_40, eBor, brw, D.noL, D.noLs, sRaise, sTry, isE, qXf, cleanR, D.noX, D.noXs, rfX, boolF, Option.map_some, Option.map_none, Option.getD_some, C1_d_law_same, m5, hp2], h, by omega⟩
theorem lot_eq (ns : List Int) (st ct p : Int) (hns : ns.length ≤ 63) (hst : 0 ≤ st ∧ st ≤ 100) (hct : 0 ≤ ct ∧ ct ≤ 90) (hp : 0 ≤ p ∧ p ≤ 40) :
    ∃ cs, d_law_lot [.lst (ns.map .int), .int st, .int ct, .int p] = .rt (.tup (cs.map tD)) ∧ NF p cs ∧ cs.length ≤ 90 ∧ ∀ t ∈ cs, t.2.2 ≤ 500000000 := by
  have hb : bnd ct = true := bnd_of ⟨by omega, by omega⟩
  have lp := loop_ind (g := gN 5) (b := B1_d_law_lot) (fun k : Nat => D.int ((0 : Int) + k))
      (fun xs ρ => ∃ (k : Nat) (row : List T3), k + xs.length = ct.toNat ∧ xs = List.range' k xs.length ∧ row.length ≤ k ∧ okL p row ∧ ρ = [some (.lst (ns.map .int)), some (.int st), some (.int ct), some (.int p), some (.vec (row.map tD)), none, none, none, none])
      (fun z => ∃ row : List T3, row.length ≤ ct.toNat ∧ okL p row ∧ z = .nx [some (.lst (ns.map .int)), some (.int st), some (.int ct), some (.int p), some (.vec (row.map tD)), none, none, none, none])
      (fun ρ ⟨k, row, h1, _, h2, h3, h4⟩ => ⟨row, by simp only [List.length_nil, Nat.add_zero] at h1; omega, h3, by rw [h4]⟩)
      (fun x xs ρ ⟨k, row, h1, hx, h2, h3, h4⟩ => by
        subst h4
        rw [List.length_cons, List.range'_succ] at hx
        injection hx with hx1 hx2
        subst hx1
        rw [List.length_cons] at h1
        obtain ⟨row', r1, r2, r3⟩ := lot_step ns st ct p row x hns hst hp (by omega) h3 (by omega)
        exact ⟨_, rfl, .inl ⟨_, .inl r1, x + 1, row', by omega, hx2, by omega, r2, rfl⟩⟩)
      (List.range ct.toNat) [some (.lst (ns.map .int)), some (.int st), some (.int ct), some (.int p), some (.vec []), none, none, none, none] ⟨0, [], by simp, by rw [List.length_range, List.range_eq_range'], by decide, (fun t ht => by cases ht), rfl⟩
  obtain ⟨row, h1, h2, h3⟩ := lp
  have h3' : loop (gN 5) B1_d_law_lot (((List.range ct.toNat).map fun (k : Nat) => (0 : Int) + k).map D.int) [some (.lst (ns.map .int)), some (.int st), some (.int ct), some (.int p), some (.vec []), none, none, none, none] = .nx [some (.lst (ns.map .int)), some (.int st), some (.int ct), some (.int p), some (.vec (row.map tD)), none, none, none, none] := by rw [List.map_map]; exact h3
  have hln := len_comb row
  have e := norm_eq (.lst (row.map tD)) row (.inr rfl) (okZ_of h2) (by omega)
  have nf := nf_comb h2
  have rl : lcl [8] (gN 8) tT E1_d_law_lot ((comb row).map tD) [] [some (.lst (ns.map .int)), some (.int st), some (.int ct), some (.int p), some (.lst (row.map tD)), none, none, none, none] = .ok ((comb row).map fun t => tD (t.1, t.2.1, min t.2.2 500000000)) [some (.lst (ns.map .int)), some (.int st), some (.int ct), some (.int p), some (.lst (row.map tD)), none, none, none, none] :=
    lcl_all tD (fun t => tD (t.1, t.2.1, min t.2.2 500000000)) _ (by omega) fun t _ => ⟨_, [some (.lst (ns.map .int)), some (.int st), some (.int ct), some (.int p), some (.lst (row.map tD)), none, none, none, some (tD t)], rfl, by simp -implicitDefEqProofs only [E1_d_law_lot, runF, eBinR, qFld, eMth, eMth0, eProp, lot_pure, lot_frz, lot_isO, eBad, sBad, gT, gCo, gNl, sAsg, sDput, eDget, eDget2, dicO, sPut, sPut2, sq_tup, sq_lst, sq_vec, sNx, sSeq, sIf, sRet, sSet, sEx, sBk, sCt, sFgt, fgt, eC, eV, eM, eBin, eUn, aNil, aCons, eTup, eLst, eFn, tB1, tAnd, tOr, tNot, eAnd, eOr, eNot, eIf, eCall, eCallK, pick, eQ, tQ1, qV, qC, qBin, qUn, qB, qAnd, qOr, qNot, qIf, qAndT, qOrT, qNotT, qChain, eChain, eLc, sFor, iSq, iRg1, iRg2, gN, itms, rst, eApp, D.frz, D.frzs, D.pure, D.pures, bind_ok, bind_ex, stmt_ok, stmt_ex, seq_nx, seq_rt, seq_ex, seq_bk, seq_ct, fgt_nx, fgt_bk, fgt_ct, fgt_rt, fgt_ex, out_nx, out_rt, out_ex, opt_some, optL_some, andB_tt, andB_ff, andB_some, orB_tt, orB_ff, orB_some, andX_tt, andX_ff, andX_some, orX_tt, orX_ff, orX_some, itAnd, itOr, itAndX, itOrX, Option.bind_some, List.map_cons, List.map_nil, List.length_cons, List.length_nil, List.cons_append, List.nil_append, List.getElem?_cons_zero, List.getElem?_cons_succ, List.getElem?_nil, List.set_cons_zero, List.set_cons_succ, List.replicate, addI_i, subD_i, ltD_i, leD_i, gtD_i, geD_i, eqS_int, neS_int, eqS_bl, neS_bl, max2_i, min2_i, maxL_i, minL_i, int1_i, intL_i, if_true, if_false, ite_true, ite_false, and_true, true_and, and_self, Bool.and_self, Bool.and_true, Bool.true_and, Bool.and_false, Bool.false_and, Bool.or_true, Bool.true_or, Bool.or_false, Bool.false_or, Bool.not_true, Bool.not_false, Nat.reduceAdd, Nat.reduceSub, Nat.reduceEqDiff, List.filterMap_cons, List.filterMap_nil, decide_true, decide_false, Bool.false_eq_true, reduceIte, Int.reduceAdd, Int.reduceSub, Int.reduceMul, Int.reduceNeg, Int.reduceLT, Int.reduceLE, Int.reduceEq, Int.reduceMod, Int.reduceDiv, Int.lt_irrefl, reduceCtorEq, D.frzs_int, D.pures_int, cap_0, cap_1, cap_2, cap_3, cap_4, cap_5, cap_6, cap_7, cap_8, cap_9, cap_10, cap_11, cap_12, cap_13, cap_14, cap_15, cap_16, cap_17, cap_18, cap_19, cap_20, cap_21, cap_22, cap_23, cap_24, cap_25, cap_26, cap_27, cap_28, cap_29, cap_30, cap_31, cap_32, cap_33, cap_34, cap_35, cap_36, cap_37, cap_38, cap_39, cap_40, eBor, brw, D.noL, D.noLs, sRaise, sTry, isE, qXf, cleanR, D.noX, D.noXs, rfX, boolF, Option.map_some, Option.map_none, Option.getD_some, C1_d_law_same, m5, ix_0, ix_1, ix_2]; rfl, rfl⟩
  have nw := nf_wid nf (fun t => min t.2.2 500000000) fun t ht => by have := (nf.1 t ht).2.2.2; omega
  refine ⟨(comb row).map fun t => (t.1, t.2.1, min t.2.2 500000000), ?_, nw, by rw [List.length_map]; omega, fun t ht => by
    obtain ⟨u, _, rfl⟩ := List.mem_map.mp ht
    exact Int.min_le_right _ _⟩
  simp -implicitDefEqProofs only [d_law_lot, b_d_law_lot, runF, eBinR, qFld, eMth, eMth0, eProp, lot_pure, lot_frz, lot_isO, eBad, sBad, gT, gCo, gNl, sAsg, sDput, eDget, eDget2, dicO, sPut, sPut2, sq_tup, sq_lst, sq_vec, sNx, sSeq, sIf, sRet, sSet, sEx, sBk, sCt, sFgt, fgt, eC, eV, eM, eBin, eUn, aNil, aCons, eTup, eLst, eFn, tB1, tAnd, tOr, tNot, eAnd, eOr, eNot, eIf, eCall, eCallK, pick, eQ, tQ1, qV, qC, qBin, qUn, qB, qAnd, qOr, qNot, qIf, qAndT, qOrT, qNotT, qChain, eChain, eLc, sFor, iSq, iRg1, iRg2, gN, itms, rst, eApp, D.frz, D.frzs, D.pure, D.pures, bind_ok, bind_ex, stmt_ok, stmt_ex, seq_nx, seq_rt, seq_ex, seq_bk, seq_ct, fgt_nx, fgt_bk, fgt_ct, fgt_rt, fgt_ex, out_nx, out_rt, out_ex, opt_some, optL_some, andB_tt, andB_ff, andB_some, orB_tt, orB_ff, orB_some, andX_tt, andX_ff, andX_some, orX_tt, orX_ff, orX_some, itAnd, itOr, itAndX, itOrX, Option.bind_some, List.map_cons, List.map_nil, List.length_cons, List.length_nil, List.cons_append, List.nil_append, List.getElem?_cons_zero, List.getElem?_cons_succ, List.getElem?_nil, List.set_cons_zero, List.set_cons_succ, List.replicate, addI_i, subD_i, ltD_i, leD_i, gtD_i, geD_i, eqS_int, neS_int, eqS_bl, neS_bl, max2_i, min2_i, maxL_i, minL_i, int1_i, intL_i, if_true, if_false, ite_true, ite_false, and_true, true_and, and_self, Bool.and_self, Bool.and_true, Bool.true_and, Bool.and_false, Bool.false_and, Bool.or_true, Bool.true_or, Bool.or_false, Bool.false_or, Bool.not_true, Bool.not_false, Nat.reduceAdd, Nat.reduceSub, Nat.reduceEqDiff, List.filterMap_cons, List.filterMap_nil, decide_true, decide_false, Bool.false_eq_true, reduceIte, Int.reduceAdd, Int.reduceSub, Int.reduceMul, Int.reduceNeg, Int.reduceLT, Int.reduceLE, Int.reduceEq, Int.reduceMod, Int.reduceDiv, Int.lt_irrefl, reduceCtorEq, D.frzs_int, D.pures_int, cap_0, cap_1, cap_2, cap_3, cap_4, cap_5, cap_6, cap_7, cap_8, cap_9, cap_10, cap_11, cap_12, cap_13, cap_14, cap_15, cap_16, cap_17, cap_18, cap_19, cap_20, cap_21, cap_22, cap_23, cap_24, cap_25, cap_26, cap_27, cap_28, cap_29, cap_30, cap_31, cap_32, cap_33, cap_34, cap_35, cap_36, cap_37, cap_38, cap_39, cap_40, eBor, brw, D.noL, D.noLs, sRaise, sTry, isE, qXf, cleanR, D.noX, D.noXs, rfX, boolF, Option.map_some, Option.map_none, Option.getD_some, C1_d_law_same, hb, rng_eq, Int.sub_zero, h3', frzs_tD, e, rl, tupL_sq (sq_vec _)]
  rw [List.map_map]
  rfl

end Math

set_option Elab.async false
set_option linter.all false
set_option maxRecDepth 100000
set_option maxHeartbeats 2000000
namespace Math
open PySem FL Prg
open L2 (atI atI_nat ixN)
theorem mtab_eq (p : Int) (cs : List T3) (hp : 0 ≤ p ∧ p ≤ 1000) (hl : cs.length < 1000000) : d_Lot_table [lotD p cs] = .rt (tblD (max p 1).toNat (passM cs)) := by
  simp -implicitDefEqProofs only [d_Lot_table, b_d_Lot_table, runF, eBinR, qFld, eMth, eMth0, eProp, lot_pure, lot_frz, lot_isO, eBad, sBad, gT, gCo, gNl, sAsg, sDput, eDget, eDget2, dicO, sPut, sPut2, sq_tup, sq_lst, sq_vec, sNx, sSeq, sIf, sRet, sSet, sEx, sBk, sCt, sFgt, fgt, eC, eV, eM, eBin, eUn, aNil, aCons, eTup, eLst, eFn, tB1, tAnd, tOr, tNot, eAnd, eOr, eNot, eIf, eCall, eCallK, pick, eQ, tQ1, qV, qC, qBin, qUn, qB, qAnd, qOr, qNot, qIf, qAndT, qOrT, qNotT, qChain, eChain, eLc, sFor, iSq, iRg1, iRg2, gN, itms, rst, eApp, D.frz, D.frzs, D.pure, D.pures, bind_ok, bind_ex, stmt_ok, stmt_ex, seq_nx, seq_rt, seq_ex, seq_bk, seq_ct, fgt_nx, fgt_bk, fgt_ct, fgt_rt, fgt_ex, out_nx, out_rt, out_ex, opt_some, optL_some, andB_tt, andB_ff, andB_some, orB_tt, orB_ff, orB_some, andX_tt, andX_ff, andX_some, orX_tt, orX_ff, orX_some, itAnd, itOr, itAndX, itOrX, Option.bind_some, List.map_cons, List.map_nil, List.length_cons, List.length_nil, List.cons_append, List.nil_append, List.getElem?_cons_zero, List.getElem?_cons_succ, List.getElem?_nil, List.set_cons_zero, List.set_cons_succ, List.replicate, addI_i, subD_i, ltD_i, leD_i, gtD_i, geD_i, eqS_int, neS_int, eqS_bl, neS_bl, max2_i, min2_i, maxL_i, minL_i, int1_i, intL_i, if_true, if_false, ite_true, ite_false, and_true, true_and, and_self, Bool.and_self, Bool.and_true, Bool.true_and, Bool.and_false, Bool.false_and, Bool.or_true, Bool.true_or, Bool.or_false, Bool.false_or, Bool.not_true, Bool.not_false, Nat.reduceAdd, Nat.reduceSub, Nat.reduceEqDiff, List.filterMap_cons, List.filterMap_nil, decide_true, decide_false, Bool.false_eq_true, reduceIte, Int.reduceAdd, Int.reduceSub, Int.reduceMul, Int.reduceNeg, Int.reduceLT, Int.reduceLE, Int.reduceEq, Int.reduceMod, Int.reduceDiv, Int.lt_irrefl, reduceCtorEq, D.frzs_int, D.pures_int, cap_0, cap_1, cap_2, cap_3, cap_4, cap_5, cap_6, cap_7, cap_8, cap_9, cap_10, cap_11, cap_12, cap_13, cap_14, cap_15, cap_16, cap_17, cap_18, cap_19, cap_20, cap_21, cap_22, cap_23, cap_24, cap_25, cap_26, cap_27, cap_28, cap_29, cap_30, cap_31, cap_32, cap_33, cap_34, cap_35, cap_36, cap_37, cap_38, cap_39, cap_40, eBor, brw, D.noL, D.noLs, sRaise, sTry, isE, qXf, cleanR, D.noX, D.noXs, rfX, boolF, eOwn, eOwnI, eDcT, eItT, Option.map_some, Option.map_none, Option.getD_some, C1_d_law_same, lotD, pures_tD, frzs_tD, tab_eq p _ cs (.inl rfl) hp hl]
theorem tof_eq (p : Int) (cs : List T3) (hp : 0 ≤ p ∧ p ≤ 1000) (hl : cs.length < 1000000) : d_table_of [lotD p cs] = .rt (tblD (max p 1).toNat (passM cs)) := by
  simp -implicitDefEqProofs only [d_table_of, b_d_table_of, runF, eBinR, qFld, eMth, eMth0, eProp, lot_pure, lot_frz, lot_isO, eBad, sBad, gT, gCo, gNl, sAsg, sDput, eDget, eDget2, dicO, sPut, sPut2, sq_tup, sq_lst, sq_vec, sNx, sSeq, sIf, sRet, sSet, sEx, sBk, sCt, sFgt, fgt, eC, eV, eM, eBin, eUn, aNil, aCons, eTup, eLst, eFn, tB1, tAnd, tOr, tNot, eAnd, eOr, eNot, eIf, eCall, eCallK, pick, eQ, tQ1, qV, qC, qBin, qUn, qB, qAnd, qOr, qNot, qIf, qAndT, qOrT, qNotT, qChain, eChain, eLc, sFor, iSq, iRg1, iRg2, gN, itms, rst, eApp, D.frz, D.frzs, D.pure, D.pures, bind_ok, bind_ex, stmt_ok, stmt_ex, seq_nx, seq_rt, seq_ex, seq_bk, seq_ct, fgt_nx, fgt_bk, fgt_ct, fgt_rt, fgt_ex, out_nx, out_rt, out_ex, opt_some, optL_some, andB_tt, andB_ff, andB_some, orB_tt, orB_ff, orB_some, andX_tt, andX_ff, andX_some, orX_tt, orX_ff, orX_some, itAnd, itOr, itAndX, itOrX, Option.bind_some, List.map_cons, List.map_nil, List.length_cons, List.length_nil, List.cons_append, List.nil_append, List.getElem?_cons_zero, List.getElem?_cons_succ, List.getElem?_nil, List.set_cons_zero, List.set_cons_succ, List.replicate, addI_i, subD_i, ltD_i, leD_i, gtD_i, geD_i, eqS_int, neS_int, eqS_bl, neS_bl, max2_i, min2_i, maxL_i, minL_i, int1_i, intL_i, if_true, if_false, ite_true, ite_false, and_true, true_and, and_self, Bool.and_self, Bool.and_true, Bool.true_and, Bool.and_false, Bool.false_and, Bool.or_true, Bool.true_or, Bool.or_false, Bool.false_or, Bool.not_true, Bool.not_false, Nat.reduceAdd, Nat.reduceSub, Nat.reduceEqDiff, List.filterMap_cons, List.filterMap_nil, decide_true, decide_false, Bool.false_eq_true, reduceIte, Int.reduceAdd, Int.reduceSub, Int.reduceMul, Int.reduceNeg, Int.reduceLT, Int.reduceLE, Int.reduceEq, Int.reduceMod, Int.reduceDiv, Int.lt_irrefl, reduceCtorEq, D.frzs_int, D.pures_int, cap_0, cap_1, cap_2, cap_3, cap_4, cap_5, cap_6, cap_7, cap_8, cap_9, cap_10, cap_11, cap_12, cap_13, cap_14, cap_15, cap_16, cap_17, cap_18, cap_19, cap_20, cap_21, cap_22, cap_23, cap_24, cap_25, cap_26, cap_27, cap_28, cap_29, cap_30, cap_31, cap_32, cap_33, cap_34, cap_35, cap_36, cap_37, cap_38, cap_39, cap_40, eBor, brw, D.noL, D.noLs, sRaise, sTry, isE, qXf, cleanR, D.noX, D.noXs, rfX, boolF, eOwn, eOwnI, eDcT, eItT, Option.map_some, Option.map_none, Option.getD_some, C1_d_law_same, lotD, pures_tD, frzs_tD, tab_eq p _ cs (.inl rfl) hp hl]
theorem same_i (a b : Int) : d_law_same [.int a, .int b] = .rt (.bl (decide (a = b))) := same_int 4 a b
theorem same_cs (cs : List T3) (hl : cs.length < 1000000) : d_law_same [.tup (cs.map tD), .tup (cs.map tD)] = .rt (.bl true) := same_csN 2 cs hl
theorem same_row (m n : Nat) (f : Int → Int → Int) (i : Int) (hn : n ≤ 1000) : fuel g_d_law_same (m + 2) [rowD n f i, rowD n f i] = .rt (.bl true) := by
  refine same_tup (m + 1) _ (D.pures_map (f := fun j : Nat => D.int (f i j)) (fun _ => rfl) _) (by rw [List.length_map, List.length_range]; omega) fun x hx => ?_
  obtain ⟨t, _, rfl⟩ := List.mem_map.mp hx
  rw [same_int]; simp
theorem same_tbl (n : Nat) (f : Int → Int → Int) (hn : n ≤ 1000) : d_law_same [tblD n f, tblD n f] = .rt (.bl true) := by
  refine same_tup 4 _ (D.pures_map (f := fun i : Nat => rowD n f i) (fun i => row_pure n f i) _) (by rw [List.length_map, List.length_range]; omega) fun x hx => ?_
  obtain ⟨t, _, rfl⟩ := List.mem_map.mp hx
  exact same_row 2 n f t hn
theorem told_eq (p : Int) (cs : List T3) (f : Int → Int → Int) (hp : 0 ≤ p ∧ p ≤ 1000) (hl : cs.length < 1000000) (h : passM cs = f) : d_law_told [lotD p cs, tblD (max p 1).toNat f] = .rt (.bl true) := by
  subst h
  have e1 := tof_eq p cs hp hl
  have e2 := mtab_eq p cs hp hl
  have s := same_tbl (max p 1).toNat (passM cs) (by omega)
  simp -implicitDefEqProofs only [d_law_told, b_d_law_told, runF, eBinR, qFld, eMth, eMth0, eProp, lot_pure, lot_frz, lot_isO, eBad, sBad, gT, gCo, gNl, sAsg, sDput, eDget, eDget2, dicO, sPut, sPut2, sq_tup, sq_lst, sq_vec, sNx, sSeq, sIf, sRet, sSet, sEx, sBk, sCt, sFgt, fgt, eC, eV, eM, eBin, eUn, aNil, aCons, eTup, eLst, eFn, tB1, tAnd, tOr, tNot, eAnd, eOr, eNot, eIf, eCall, eCallK, pick, eQ, tQ1, qV, qC, qBin, qUn, qB, qAnd, qOr, qNot, qIf, qAndT, qOrT, qNotT, qChain, eChain, eLc, sFor, iSq, iRg1, iRg2, gN, itms, rst, eApp, D.frz, D.frzs, D.pure, D.pures, bind_ok, bind_ex, stmt_ok, stmt_ex, seq_nx, seq_rt, seq_ex, seq_bk, seq_ct, fgt_nx, fgt_bk, fgt_ct, fgt_rt, fgt_ex, out_nx, out_rt, out_ex, opt_some, optL_some, andB_tt, andB_ff, andB_some, orB_tt, orB_ff, orB_some, andX_tt, andX_ff, andX_some, orX_tt, orX_ff, orX_some, itAnd, itOr, itAndX, itOrX, Option.bind_some, List.map_cons, List.map_nil, List.length_cons, List.length_nil, List.cons_append, List.nil_append, List.getElem?_cons_zero, List.getElem?_cons_succ, List.getElem?_nil, List.set_cons_zero, List.set_cons_succ, List.replicate, addI_i, subD_i, ltD_i, leD_i, gtD_i, geD_i, eqS_int, neS_int, eqS_bl, neS_bl, max2_i, min2_i, maxL_i, minL_i, int1_i, intL_i, if_true, if_false, ite_true, ite_false, and_true, true_and, and_self, Bool.and_self, Bool.and_true, Bool.true_and, Bool.and_false, Bool.false_and, Bool.or_true, Bool.true_or, Bool.or_false, Bool.false_or, Bool.not_true, Bool.not_false, Nat.reduceAdd, Nat.reduceSub, Nat.reduceEqDiff, List.filterMap_cons, List.filterMap_nil, decide_true, decide_false, Bool.false_eq_true, reduceIte, Int.reduceAdd, Int.reduceSub, Int.reduceMul, Int.reduceNeg, Int.reduceLT, Int.reduceLE, Int.reduceEq, Int.reduceMod, Int.reduceDiv, Int.lt_irrefl, reduceCtorEq, D.frzs_int, D.pures_int, cap_0, cap_1, cap_2, cap_3, cap_4, cap_5, cap_6, cap_7, cap_8, cap_9, cap_10, cap_11, cap_12, cap_13, cap_14, cap_15, cap_16, cap_17, cap_18, cap_19, cap_20, cap_21, cap_22, cap_23, cap_24, cap_25, cap_26, cap_27, cap_28, cap_29, cap_30, cap_31, cap_32, cap_33, cap_34, cap_35, cap_36, cap_37, cap_38, cap_39, cap_40, eBor, brw, D.noL, D.noLs, sRaise, sTry, isE, qXf, cleanR, D.noX, D.noXs, rfX, boolF, eOwn, eOwnI, eDcT, eItT, Option.map_some, Option.map_none, Option.getD_some, C1_d_law_same, e1, e2, tbl_frz, s]
theorem lotis_eq (p : Int) (cs : List T3) (hl : cs.length < 1000000) : d_law_lot_is [lotD p cs, .int p, .tup (cs.map tD)] = .rt (.bl true) := by
  unfold lotD
  simp -implicitDefEqProofs only [d_law_lot_is, b_d_law_lot_is, runF, eBinR, qFld, eMth, eMth0, eProp, lot_pure, lot_frz, lot_isO, eBad, sBad, gT, gCo, gNl, sAsg, sDput, eDget, eDget2, dicO, sPut, sPut2, sq_tup, sq_lst, sq_vec, sNx, sSeq, sIf, sRet, sSet, sEx, sBk, sCt, sFgt, fgt, eC, eV, eM, eBin, eUn, aNil, aCons, eTup, eLst, eFn, tB1, tAnd, tOr, tNot, eAnd, eOr, eNot, eIf, eCall, eCallK, pick, eQ, tQ1, qV, qC, qBin, qUn, qB, qAnd, qOr, qNot, qIf, qAndT, qOrT, qNotT, qChain, eChain, eLc, sFor, iSq, iRg1, iRg2, gN, itms, rst, eApp, D.frz, D.frzs, D.pure, D.pures, bind_ok, bind_ex, stmt_ok, stmt_ex, seq_nx, seq_rt, seq_ex, seq_bk, seq_ct, fgt_nx, fgt_bk, fgt_ct, fgt_rt, fgt_ex, out_nx, out_rt, out_ex, opt_some, optL_some, andB_tt, andB_ff, andB_some, orB_tt, orB_ff, orB_some, andX_tt, andX_ff, andX_some, orX_tt, orX_ff, orX_some, itAnd, itOr, itAndX, itOrX, Option.bind_some, List.map_cons, List.map_nil, List.length_cons, List.length_nil, List.cons_append, List.nil_append, List.getElem?_cons_zero, List.getElem?_cons_succ, List.getElem?_nil, List.set_cons_zero, List.set_cons_succ, List.replicate, addI_i, subD_i, ltD_i, leD_i, gtD_i, geD_i, eqS_int, neS_int, eqS_bl, neS_bl, max2_i, min2_i, maxL_i, minL_i, int1_i, intL_i, if_true, if_false, ite_true, ite_false, and_true, true_and, and_self, Bool.and_self, Bool.and_true, Bool.true_and, Bool.and_false, Bool.false_and, Bool.or_true, Bool.true_or, Bool.or_false, Bool.false_or, Bool.not_true, Bool.not_false, Nat.reduceAdd, Nat.reduceSub, Nat.reduceEqDiff, List.filterMap_cons, List.filterMap_nil, decide_true, decide_false, Bool.false_eq_true, reduceIte, Int.reduceAdd, Int.reduceSub, Int.reduceMul, Int.reduceNeg, Int.reduceLT, Int.reduceLE, Int.reduceEq, Int.reduceMod, Int.reduceDiv, Int.lt_irrefl, reduceCtorEq, D.frzs_int, D.pures_int, cap_0, cap_1, cap_2, cap_3, cap_4, cap_5, cap_6, cap_7, cap_8, cap_9, cap_10, cap_11, cap_12, cap_13, cap_14, cap_15, cap_16, cap_17, cap_18, cap_19, cap_20, cap_21, cap_22, cap_23, cap_24, cap_25, cap_26, cap_27, cap_28, cap_29, cap_30, cap_31, cap_32, cap_33, cap_34, cap_35, cap_36, cap_37, cap_38, cap_39, cap_40, eBor, brw, D.noL, D.noLs, sRaise, sTry, isE, qXf, cleanR, D.noX, D.noXs, rfX, boolF, eOwn, eOwnI, eDcT, eItT, Option.map_some, Option.map_none, Option.getD_some, C1_d_law_same, pures_tD, frzs_tD, same_i, same_cs cs hl]
theorem lsum_eq (n : Nat) (f g : Int → Int → Int) (hn : n ≤ 1000) : d_law_sum [tblD n f, tblD n g] = .rt (tblD n fun i j => f i j + g i j) := by
  have hb : bnd (n : Int) = true := bnd_of ⟨by omega, by omega⟩
  have row : ∀ (i : Int), 0 ≤ i ∧ i < n → lcl [3] (gN 3) tT E1_d_law_sum ((List.range n).map fun (k : Nat) => D.int k) [] [some (tblD n f), some (tblD n g), some (.int i), none] =
      .ok ((List.range n).map fun (j : Nat) => .int (f i j + g i j)) [some (tblD n f), some (tblD n g), some (.int i), none] := fun i hi =>
    lcl_all (fun (k : Nat) => D.int k) (fun (j : Nat) => .int (f i j + g i j)) _ (by rw [List.length_range]; omega) fun j hj => by
      have hj' : 0 ≤ (j : Int) ∧ (j : Int) < n := by have := List.mem_range.mp hj; omega
      refine ⟨_, [some (tblD n f), some (tblD n g), some (.int i), some (.int j)], rfl, ?_, rfl⟩
      simp -implicitDefEqProofs only [E1_d_law_sum, runF, eBinR, qFld, eMth, eMth0, eProp, lot_pure, lot_frz, lot_isO, eBad, sBad, gT, gCo, gNl, sAsg, sDput, eDget, eDget2, dicO, sPut, sPut2, sq_tup, sq_lst, sq_vec, sNx, sSeq, sIf, sRet, sSet, sEx, sBk, sCt, sFgt, fgt, eC, eV, eM, eBin, eUn, aNil, aCons, eTup, eLst, eFn, tB1, tAnd, tOr, tNot, eAnd, eOr, eNot, eIf, eCall, eCallK, pick, eQ, tQ1, qV, qC, qBin, qUn, qB, qAnd, qOr, qNot, qIf, qAndT, qOrT, qNotT, qChain, eChain, eLc, sFor, iSq, iRg1, iRg2, gN, itms, rst, eApp, D.frz, D.frzs, D.pure, D.pures, bind_ok, bind_ex, stmt_ok, stmt_ex, seq_nx, seq_rt, seq_ex, seq_bk, seq_ct, fgt_nx, fgt_bk, fgt_ct, fgt_rt, fgt_ex, out_nx, out_rt, out_ex, opt_some, optL_some, andB_tt, andB_ff, andB_some, orB_tt, orB_ff, orB_some, andX_tt, andX_ff, andX_some, orX_tt, orX_ff, orX_some, itAnd, itOr, itAndX, itOrX, Option.bind_some, List.map_cons, List.map_nil, List.length_cons, List.length_nil, List.cons_append, List.nil_append, List.getElem?_cons_zero, List.getElem?_cons_succ, List.getElem?_nil, List.set_cons_zero, List.set_cons_succ, List.replicate, addI_i, subD_i, ltD_i, leD_i, gtD_i, geD_i, eqS_int, neS_int, eqS_bl, neS_bl, max2_i, min2_i, maxL_i, minL_i, int1_i, intL_i, if_true, if_false, ite_true, ite_false, and_true, true_and, and_self, Bool.and_self, Bool.and_true, Bool.true_and, Bool.and_false, Bool.false_and, Bool.or_true, Bool.true_or, Bool.or_false, Bool.false_or, Bool.not_true, Bool.not_false, Nat.reduceAdd, Nat.reduceSub, Nat.reduceEqDiff, List.filterMap_cons, List.filterMap_nil, decide_true, decide_false, Bool.false_eq_true, reduceIte, Int.reduceAdd, Int.reduceSub, Int.reduceMul, Int.reduceNeg, Int.reduceLT, Int.reduceLE, Int.reduceEq, Int.reduceMod, Int.reduceDiv, Int.lt_irrefl, reduceCtorEq, D.frzs_int, D.pures_int, cap_0, cap_1, cap_2, cap_3, cap_4, cap_5, cap_6, cap_7, cap_8, cap_9, cap_10, cap_11, cap_12, cap_13, cap_14, cap_15, cap_16, cap_17, cap_18, cap_19, cap_20, cap_21, cap_22, cap_23, cap_24, cap_25, cap_26, cap_27, cap_28, cap_29, cap_30, cap_31, cap_32, cap_33, cap_34, cap_35, cap_36, cap_37, cap_38, cap_39, cap_40, eBor, brw, D.noL, D.noLs, sRaise, sTry, isE, qXf, cleanR, D.noX, D.noXs, rfX, boolF, eOwn, eOwnI, eDcT, eItT, Option.map_some, Option.map_none, Option.getD_some, C1_d_law_same, ix_tbl n f i hi, ix_tbl n g i hi, ix_row n f i _ hj', ix_row n g i _ hj']
  have all : lcl [2] (gN 2) tT E2_d_law_sum ((List.range n).map fun (k : Nat) => D.int k) [] [some (tblD n f), some (tblD n g), none, none] =
      .ok ((List.range n).map fun (i : Nat) => rowD n (fun i j => f i j + g i j) i) [some (tblD n f), some (tblD n g), none, none] :=
    lcl_all (fun (k : Nat) => D.int k) (fun (i : Nat) => rowD n (fun i j => f i j + g i j) i) _ (by rw [List.length_range]; omega) fun i hi => by
      refine ⟨_, [some (tblD n f), some (tblD n g), some (.int i), none], rfl, ?_, rfl⟩
      simp -implicitDefEqProofs only [E2_d_law_sum, runF, eBinR, qFld, eMth, eMth0, eProp, lot_pure, lot_frz, lot_isO, eBad, sBad, gT, gCo, gNl, sAsg, sDput, eDget, eDget2, dicO, sPut, sPut2, sq_tup, sq_lst, sq_vec, sNx, sSeq, sIf, sRet, sSet, sEx, sBk, sCt, sFgt, fgt, eC, eV, eM, eBin, eUn, aNil, aCons, eTup, eLst, eFn, tB1, tAnd, tOr, tNot, eAnd, eOr, eNot, eIf, eCall, eCallK, pick, eQ, tQ1, qV, qC, qBin, qUn, qB, qAnd, qOr, qNot, qIf, qAndT, qOrT, qNotT, qChain, eChain, eLc, sFor, iSq, iRg1, iRg2, gN, itms, rst, eApp, D.frz, D.frzs, D.pure, D.pures, bind_ok, bind_ex, stmt_ok, stmt_ex, seq_nx, seq_rt, seq_ex, seq_bk, seq_ct, fgt_nx, fgt_bk, fgt_ct, fgt_rt, fgt_ex, out_nx, out_rt, out_ex, opt_some, optL_some, andB_tt, andB_ff, andB_some, orB_tt, orB_ff, orB_some, andX_tt, andX_ff, andX_some, orX_tt, orX_ff, orX_some, itAnd, itOr, itAndX, itOrX, Option.bind_some, List.map_cons, List.map_nil, List.length_cons, List.length_nil, List.cons_append, List.nil_append, List.getElem?_cons_zero, List.getElem?_cons_succ, List.getElem?_nil, List.set_cons_zero, List.set_cons_succ, List.replicate, addI_i, subD_i, ltD_i, leD_i, gtD_i, geD_i, eqS_int, neS_int, eqS_bl, neS_bl, max2_i, min2_i, maxL_i, minL_i, int1_i, intL_i, if_true, if_false, ite_true, ite_false, and_true, true_and, and_self, Bool.and_self, Bool.and_true, Bool.true_and, Bool.and_false, Bool.false_and, Bool.or_true, Bool.true_or, Bool.or_false, Bool.false_or, Bool.not_true, Bool.not_false, Nat.reduceAdd, Nat.reduceSub, Nat.reduceEqDiff, List.filterMap_cons, List.filterMap_nil, decide_true, decide_false, Bool.false_eq_true, reduceIte, Int.reduceAdd, Int.reduceSub, Int.reduceMul, Int.reduceNeg, Int.reduceLT, Int.reduceLE, Int.reduceEq, Int.reduceMod, Int.reduceDiv, Int.lt_irrefl, reduceCtorEq, D.frzs_int, D.pures_int, cap_0, cap_1, cap_2, cap_3, cap_4, cap_5, cap_6, cap_7, cap_8, cap_9, cap_10, cap_11, cap_12, cap_13, cap_14, cap_15, cap_16, cap_17, cap_18, cap_19, cap_20, cap_21, cap_22, cap_23, cap_24, cap_25, cap_26, cap_27, cap_28, cap_29, cap_30, cap_31, cap_32, cap_33, cap_34, cap_35, cap_36, cap_37, cap_38, cap_39, cap_40, eBor, brw, D.noL, D.noLs, sRaise, sTry, isE, qXf, cleanR, D.noX, D.noXs, rfX, boolF, eOwn, eOwnI, eDcT, eItT, Option.map_some, Option.map_none, Option.getD_some, C1_d_law_same, len_tbl, hb, rng_eq, Int.sub_zero, Int.toNat_natCast, rng0, row i (by have := List.mem_range.mp hi; omega), tupL_sq (sq_vec _)]
      rfl
  simp -implicitDefEqProofs only [d_law_sum, b_d_law_sum, runF, eBinR, qFld, eMth, eMth0, eProp, lot_pure, lot_frz, lot_isO, eBad, sBad, gT, gCo, gNl, sAsg, sDput, eDget, eDget2, dicO, sPut, sPut2, sq_tup, sq_lst, sq_vec, sNx, sSeq, sIf, sRet, sSet, sEx, sBk, sCt, sFgt, fgt, eC, eV, eM, eBin, eUn, aNil, aCons, eTup, eLst, eFn, tB1, tAnd, tOr, tNot, eAnd, eOr, eNot, eIf, eCall, eCallK, pick, eQ, tQ1, qV, qC, qBin, qUn, qB, qAnd, qOr, qNot, qIf, qAndT, qOrT, qNotT, qChain, eChain, eLc, sFor, iSq, iRg1, iRg2, gN, itms, rst, eApp, D.frz, D.frzs, D.pure, D.pures, bind_ok, bind_ex, stmt_ok, stmt_ex, seq_nx, seq_rt, seq_ex, seq_bk, seq_ct, fgt_nx, fgt_bk, fgt_ct, fgt_rt, fgt_ex, out_nx, out_rt, out_ex, opt_some, optL_some, andB_tt, andB_ff, andB_some, orB_tt, orB_ff, orB_some, andX_tt, andX_ff, andX_some, orX_tt, orX_ff, orX_some, itAnd, itOr, itAndX, itOrX, Option.bind_some, List.map_cons, List.map_nil, List.length_cons, List.length_nil, List.cons_append, List.nil_append, List.getElem?_cons_zero, List.getElem?_cons_succ, List.getElem?_nil, List.set_cons_zero, List.set_cons_succ, List.replicate, addI_i, subD_i, ltD_i, leD_i, gtD_i, geD_i, eqS_int, neS_int, eqS_bl, neS_bl, max2_i, min2_i, maxL_i, minL_i, int1_i, intL_i, if_true, if_false, ite_true, ite_false, and_true, true_and, and_self, Bool.and_self, Bool.and_true, Bool.true_and, Bool.and_false, Bool.false_and, Bool.or_true, Bool.true_or, Bool.or_false, Bool.false_or, Bool.not_true, Bool.not_false, Nat.reduceAdd, Nat.reduceSub, Nat.reduceEqDiff, List.filterMap_cons, List.filterMap_nil, decide_true, decide_false, Bool.false_eq_true, reduceIte, Int.reduceAdd, Int.reduceSub, Int.reduceMul, Int.reduceNeg, Int.reduceLT, Int.reduceLE, Int.reduceEq, Int.reduceMod, Int.reduceDiv, Int.lt_irrefl, reduceCtorEq, D.frzs_int, D.pures_int, cap_0, cap_1, cap_2, cap_3, cap_4, cap_5, cap_6, cap_7, cap_8, cap_9, cap_10, cap_11, cap_12, cap_13, cap_14, cap_15, cap_16, cap_17, cap_18, cap_19, cap_20, cap_21, cap_22, cap_23, cap_24, cap_25, cap_26, cap_27, cap_28, cap_29, cap_30, cap_31, cap_32, cap_33, cap_34, cap_35, cap_36, cap_37, cap_38, cap_39, cap_40, eBor, brw, D.noL, D.noLs, sRaise, sTry, isE, qXf, cleanR, D.noX, D.noXs, rfX, boolF, eOwn, eOwnI, eDcT, eItT, Option.map_some, Option.map_none, Option.getD_some, C1_d_law_same, len_tbl, hb, rng_eq, Int.sub_zero, Int.toNat_natCast, rng0, all, tupL_sq (sq_vec _)]
  rfl
theorem ltimes_eq (n : Nat) (f : Int → Int → Int) (m : Int) (hn : n ≤ 1000) (hm : 0 ≤ m) (hm2 : m < 2 ^ 64) : d_law_times [tblD n f, .int m] = .rt (tblD n fun i j => f i j * m) := by
  have hb : bnd (n : Int) = true := bnd_of ⟨by omega, by omega⟩
  have row : ∀ (i : Int), 0 ≤ i ∧ i < n → lcl [3] (gN 3) tT E1_d_law_times ((List.range n).map fun (k : Nat) => D.int k) [] [some (tblD n f), some (.int m), some (.int i), none] =
      .ok ((List.range n).map fun (j : Nat) => .int (f i j * m)) [some (tblD n f), some (.int m), some (.int i), none] := fun i hi =>
    lcl_all (fun (k : Nat) => D.int k) (fun (j : Nat) => .int (f i j * m)) _ (by rw [List.length_range]; omega) fun j hj => by
      have hj' : 0 ≤ (j : Int) ∧ (j : Int) < n := by have := List.mem_range.mp hj; omega
      refine ⟨_, [some (tblD n f), some (.int m), some (.int i), some (.int j)], rfl, ?_, rfl⟩
      simp -implicitDefEqProofs only [E1_d_law_times, runF, eBinR, qFld, eMth, eMth0, eProp, lot_pure, lot_frz, lot_isO, eBad, sBad, gT, gCo, gNl, sAsg, sDput, eDget, eDget2, dicO, sPut, sPut2, sq_tup, sq_lst, sq_vec, sNx, sSeq, sIf, sRet, sSet, sEx, sBk, sCt, sFgt, fgt, eC, eV, eM, eBin, eUn, aNil, aCons, eTup, eLst, eFn, tB1, tAnd, tOr, tNot, eAnd, eOr, eNot, eIf, eCall, eCallK, pick, eQ, tQ1, qV, qC, qBin, qUn, qB, qAnd, qOr, qNot, qIf, qAndT, qOrT, qNotT, qChain, eChain, eLc, sFor, iSq, iRg1, iRg2, gN, itms, rst, eApp, D.frz, D.frzs, D.pure, D.pures, bind_ok, bind_ex, stmt_ok, stmt_ex, seq_nx, seq_rt, seq_ex, seq_bk, seq_ct, fgt_nx, fgt_bk, fgt_ct, fgt_rt, fgt_ex, out_nx, out_rt, out_ex, opt_some, optL_some, andB_tt, andB_ff, andB_some, orB_tt, orB_ff, orB_some, andX_tt, andX_ff, andX_some, orX_tt, orX_ff, orX_some, itAnd, itOr, itAndX, itOrX, Option.bind_some, List.map_cons, List.map_nil, List.length_cons, List.length_nil, List.cons_append, List.nil_append, List.getElem?_cons_zero, List.getElem?_cons_succ, List.getElem?_nil, List.set_cons_zero, List.set_cons_succ, List.replicate, addI_i, subD_i, ltD_i, leD_i, gtD_i, geD_i, eqS_int, neS_int, eqS_bl, neS_bl, max2_i, min2_i, maxL_i, minL_i, int1_i, intL_i, if_true, if_false, ite_true, ite_false, and_true, true_and, and_self, Bool.and_self, Bool.and_true, Bool.true_and, Bool.and_false, Bool.false_and, Bool.or_true, Bool.true_or, Bool.or_false, Bool.false_or, Bool.not_true, Bool.not_false, Nat.reduceAdd, Nat.reduceSub, Nat.reduceEqDiff, List.filterMap_cons, List.filterMap_nil, decide_true, decide_false, Bool.false_eq_true, reduceIte, Int.reduceAdd, Int.reduceSub, Int.reduceMul, Int.reduceNeg, Int.reduceLT, Int.reduceLE, Int.reduceEq, Int.reduceMod, Int.reduceDiv, Int.lt_irrefl, reduceCtorEq, D.frzs_int, D.pures_int, cap_0, cap_1, cap_2, cap_3, cap_4, cap_5, cap_6, cap_7, cap_8, cap_9, cap_10, cap_11, cap_12, cap_13, cap_14, cap_15, cap_16, cap_17, cap_18, cap_19, cap_20, cap_21, cap_22, cap_23, cap_24, cap_25, cap_26, cap_27, cap_28, cap_29, cap_30, cap_31, cap_32, cap_33, cap_34, cap_35, cap_36, cap_37, cap_38, cap_39, cap_40, eBor, brw, D.noL, D.noLs, sRaise, sTry, isE, qXf, cleanR, D.noX, D.noXs, rfX, boolF, eOwn, eOwnI, eDcT, eItT, Option.map_some, Option.map_none, Option.getD_some, C1_d_law_same, ix_tbl n f i hi, ix_row n f i _ hj', mulD_i (show _ ∨ (-(2 ^ 64) < m ∧ m < 2 ^ 64) from .inr ⟨by omega, hm2⟩)]
  have all : lcl [2] (gN 2) tT E2_d_law_times ((List.range n).map fun (k : Nat) => D.int k) [] [some (tblD n f), some (.int m), none, none] =
      .ok ((List.range n).map fun (i : Nat) => rowD n (fun i j => f i j * m) i) [some (tblD n f), some (.int m), none, none] :=
    lcl_all (fun (k : Nat) => D.int k) (fun (i : Nat) => rowD n (fun i j => f i j * m) i) _ (by rw [List.length_range]; omega) fun i hi => by
      refine ⟨_, [some (tblD n f), some (.int m), some (.int i), none], rfl, ?_, rfl⟩
      simp -implicitDefEqProofs only [E2_d_law_times, runF, eBinR, qFld, eMth, eMth0, eProp, lot_pure, lot_frz, lot_isO, eBad, sBad, gT, gCo, gNl, sAsg, sDput, eDget, eDget2, dicO, sPut, sPut2, sq_tup, sq_lst, sq_vec, sNx, sSeq, sIf, sRet, sSet, sEx, sBk, sCt, sFgt, fgt, eC, eV, eM, eBin, eUn, aNil, aCons, eTup, eLst, eFn, tB1, tAnd, tOr, tNot, eAnd, eOr, eNot, eIf, eCall, eCallK, pick, eQ, tQ1, qV, qC, qBin, qUn, qB, qAnd, qOr, qNot, qIf, qAndT, qOrT, qNotT, qChain, eChain, eLc, sFor, iSq, iRg1, iRg2, gN, itms, rst, eApp, D.frz, D.frzs, D.pure, D.pures, bind_ok, bind_ex, stmt_ok, stmt_ex, seq_nx, seq_rt, seq_ex, seq_bk, seq_ct, fgt_nx, fgt_bk, fgt_ct, fgt_rt, fgt_ex, out_nx, out_rt, out_ex, opt_some, optL_some, andB_tt, andB_ff, andB_some, orB_tt, orB_ff, orB_some, andX_tt, andX_ff, andX_some, orX_tt, orX_ff, orX_some, itAnd, itOr, itAndX, itOrX, Option.bind_some, List.map_cons, List.map_nil, List.length_cons, List.length_nil, List.cons_append, List.nil_append, List.getElem?_cons_zero, List.getElem?_cons_succ, List.getElem?_nil, List.set_cons_zero, List.set_cons_succ, List.replicate, addI_i, subD_i, ltD_i, leD_i, gtD_i, geD_i, eqS_int, neS_int, eqS_bl, neS_bl, max2_i, min2_i, maxL_i, minL_i, int1_i, intL_i, if_true, if_false, ite_true, ite_false, and_true, true_and, and_self, Bool.and_self, Bool.and_true, Bool.true_and, Bool.and_false, Bool.false_and, Bool.or_true, Bool.true_or, Bool.or_false, Bool.false_or, Bool.not_true, Bool.not_false, Nat.reduceAdd, Nat.reduceSub, Nat.reduceEqDiff, List.filterMap_cons, List.filterMap_nil, decide_true, decide_false, Bool.false_eq_true, reduceIte, Int.reduceAdd, Int.reduceSub, Int.reduceMul, Int.reduceNeg, Int.reduceLT, Int.reduceLE, Int.reduceEq, Int.reduceMod, Int.reduceDiv, Int.lt_irrefl, reduceCtorEq, D.frzs_int, D.pures_int, cap_0, cap_1, cap_2, cap_3, cap_4, cap_5, cap_6, cap_7, cap_8, cap_9, cap_10, cap_11, cap_12, cap_13, cap_14, cap_15, cap_16, cap_17, cap_18, cap_19, cap_20, cap_21, cap_22, cap_23, cap_24, cap_25, cap_26, cap_27, cap_28, cap_29, cap_30, cap_31, cap_32, cap_33, cap_34, cap_35, cap_36, cap_37, cap_38, cap_39, cap_40, eBor, brw, D.noL, D.noLs, sRaise, sTry, isE, qXf, cleanR, D.noX, D.noXs, rfX, boolF, eOwn, eOwnI, eDcT, eItT, Option.map_some, Option.map_none, Option.getD_some, C1_d_law_same, len_tbl, hb, rng_eq, Int.sub_zero, Int.toNat_natCast, rng0, row i (by have := List.mem_range.mp hi; omega), tupL_sq (sq_vec _)]
      rfl
  simp -implicitDefEqProofs only [d_law_times, b_d_law_times, runF, eBinR, qFld, eMth, eMth0, eProp, lot_pure, lot_frz, lot_isO, eBad, sBad, gT, gCo, gNl, sAsg, sDput, eDget, eDget2, dicO, sPut, sPut2, sq_tup, sq_lst, sq_vec, sNx, sSeq, sIf, sRet, sSet, sEx, sBk, sCt, sFgt, fgt, eC, eV, eM, eBin, eUn, aNil, aCons, eTup, eLst, eFn, tB1, tAnd, tOr, tNot, eAnd, eOr, eNot, eIf, eCall, eCallK, pick, eQ, tQ1, qV, qC, qBin, qUn, qB, qAnd, qOr, qNot, qIf, qAndT, qOrT, qNotT, qChain, eChain, eLc, sFor, iSq, iRg1, iRg2, gN, itms, rst, eApp, D.frz, D.frzs, D.pure, D.pures, bind_ok, bind_ex, stmt_ok, stmt_ex, seq_nx, seq_rt, seq_ex, seq_bk, seq_ct, fgt_nx, fgt_bk, fgt_ct, fgt_rt, fgt_ex, out_nx, out_rt, out_ex, opt_some, optL_some, andB_tt, andB_ff, andB_some, orB_tt, orB_ff, orB_some, andX_tt, andX_ff, andX_some, orX_tt, orX_ff, orX_some, itAnd, itOr, itAndX, itOrX, Option.bind_some, List.map_cons, List.map_nil, List.length_cons, List.length_nil, List.cons_append, List.nil_append, List.getElem?_cons_zero, List.getElem?_cons_succ, List.getElem?_nil, List.set_cons_zero, List.set_cons_succ, List.replicate, addI_i, subD_i, ltD_i, leD_i, gtD_i, geD_i, eqS_int, neS_int, eqS_bl, neS_bl, max2_i, min2_i, maxL_i, minL_i, int1_i, intL_i, if_true, if_false, ite_true, ite_false, and_true, true_and, and_self, Bool.and_self, Bool.and_true, Bool.true_and, Bool.and_false, Bool.false_and, Bool.or_true, Bool.true_or, Bool.or_false, Bool.false_or, Bool.not_true, Bool.not_false, Nat.reduceAdd, Nat.reduceSub, Nat.reduceEqDiff, List.filterMap_cons, List.filterMap_nil, decide_true, decide_false, Bool.false_eq_true, reduceIte, Int.reduceAdd, Int.reduceSub, Int.reduceMul, Int.reduceNeg, Int.reduceLT, Int.reduceLE, Int.reduceEq, Int.reduceMod, Int.reduceDiv, Int.lt_irrefl, reduceCtorEq, D.frzs_int, D.pures_int, cap_0, cap_1, cap_2, cap_3, cap_4, cap_5, cap_6, cap_7, cap_8, cap_9, cap_10, cap_11, cap_12, cap_13, cap_14, cap_15, cap_16, cap_17, cap_18, cap_19, cap_20, cap_21, cap_22, cap_23, cap_24, cap_25, cap_26, cap_27, cap_28, cap_29, cap_30, cap_31, cap_32, cap_33, cap_34, cap_35, cap_36, cap_37, cap_38, cap_39, cap_40, eBor, brw, D.noL, D.noLs, sRaise, sTry, isE, qXf, cleanR, D.noX, D.noXs, rfX, boolF, eOwn, eOwnI, eDcT, eItT, Option.map_some, Option.map_none, Option.getD_some, C1_d_law_same, len_tbl, hb, rng_eq, Int.sub_zero, Int.toNat_natCast, rng0, all, tupL_sq (sq_vec _)]
  rfl
theorem lmirror_eq (n : Nat) (f : Int → Int → Int) (hn : n ≤ 1000) : d_law_mirror [tblD n f] = .rt (tblD n fun i j => f j i) := by
  have hb : bnd (n : Int) = true := bnd_of ⟨by omega, by omega⟩
  have row : ∀ (i : Int), 0 ≤ i ∧ i < n → lcl [2] (gN 2) tT E1_d_law_mirror ((List.range n).map fun (k : Nat) => D.int k) [] [some (tblD n f), some (.int i), none] =
      .ok ((List.range n).map fun (j : Nat) => .int (f j i)) [some (tblD n f), some (.int i), none] := fun i hi =>
    lcl_all (fun (k : Nat) => D.int k) (fun (j : Nat) => .int (f j i)) _ (by rw [List.length_range]; omega) fun j hj => by
      have hj' : 0 ≤ (j : Int) ∧ (j : Int) < n := by have := List.mem_range.mp hj; omega
      refine ⟨_, [some (tblD n f), some (.int i), some (.int j)], rfl, ?_, rfl⟩
      simp -implicitDefEqProofs only [E1_d_law_mirror, runF, eBinR, qFld, eMth, eMth0, eProp, lot_pure, lot_frz, lot_isO, eBad, sBad, gT, gCo, gNl, sAsg, sDput, eDget, eDget2, dicO, sPut, sPut2, sq_tup, sq_lst, sq_vec, sNx, sSeq, sIf, sRet, sSet, sEx, sBk, sCt, sFgt, fgt, eC, eV, eM, eBin, eUn, aNil, aCons, eTup, eLst, eFn, tB1, tAnd, tOr, tNot, eAnd, eOr, eNot, eIf, eCall, eCallK, pick, eQ, tQ1, qV, qC, qBin, qUn, qB, qAnd, qOr, qNot, qIf, qAndT, qOrT, qNotT, qChain, eChain, eLc, sFor, iSq, iRg1, iRg2, gN, itms, rst, eApp, D.frz, D.frzs, D.pure, D.pures, bind_ok, bind_ex, stmt_ok, stmt_ex, seq_nx, seq_rt, seq_ex, seq_bk, seq_ct, fgt_nx, fgt_bk, fgt_ct, fgt_rt, fgt_ex, out_nx, out_rt, out_ex, opt_some, optL_some, andB_tt, andB_ff, andB_some, orB_tt, orB_ff, orB_some, andX_tt, andX_ff, andX_some, orX_tt, orX_ff, orX_some, itAnd, itOr, itAndX, itOrX, Option.bind_some, List.map_cons, List.map_nil, List.length_cons, List.length_nil, List.cons_append, List.nil_append, List.getElem?_cons_zero, List.getElem?_cons_succ, List.getElem?_nil, List.set_cons_zero, List.set_cons_succ, List.replicate, addI_i, subD_i, ltD_i, leD_i, gtD_i, geD_i, eqS_int, neS_int, eqS_bl, neS_bl, max2_i, min2_i, maxL_i, minL_i, int1_i, intL_i, if_true, if_false, ite_true, ite_false, and_true, true_and, and_self, Bool.and_self, Bool.and_true, Bool.true_and, Bool.and_false, Bool.false_and, Bool.or_true, Bool.true_or, Bool.or_false, Bool.false_or, Bool.not_true, Bool.not_false, Nat.reduceAdd, Nat.reduceSub, Nat.reduceEqDiff, List.filterMap_cons, List.filterMap_nil, decide_true, decide_false, Bool.false_eq_true, reduceIte, Int.reduceAdd, Int.reduceSub, Int.reduceMul, Int.reduceNeg, Int.reduceLT, Int.reduceLE, Int.reduceEq, Int.reduceMod, Int.reduceDiv, Int.lt_irrefl, reduceCtorEq, D.frzs_int, D.pures_int, cap_0, cap_1, cap_2, cap_3, cap_4, cap_5, cap_6, cap_7, cap_8, cap_9, cap_10, cap_11, cap_12, cap_13, cap_14, cap_15, cap_16, cap_17, cap_18, cap_19, cap_20, cap_21, cap_22, cap_23, cap_24, cap_25, cap_26, cap_27, cap_28, cap_29, cap_30, cap_31, cap_32, cap_33, cap_34, cap_35, cap_36, cap_37, cap_38, cap_39, cap_40, eBor, brw, D.noL, D.noLs, sRaise, sTry, isE, qXf, cleanR, D.noX, D.noXs, rfX, boolF, eOwn, eOwnI, eDcT, eItT, Option.map_some, Option.map_none, Option.getD_some, C1_d_law_same, ix_tbl n f _ hj', ix_row n f _ _ hi]
  have all : lcl [1] (gN 1) tT E2_d_law_mirror ((List.range n).map fun (k : Nat) => D.int k) [] [some (tblD n f), none, none] =
      .ok ((List.range n).map fun (i : Nat) => rowD n (fun i j => f j i) i) [some (tblD n f), none, none] :=
    lcl_all (fun (k : Nat) => D.int k) (fun (i : Nat) => rowD n (fun i j => f j i) i) _ (by rw [List.length_range]; omega) fun i hi => by
      refine ⟨_, [some (tblD n f), some (.int i), none], rfl, ?_, rfl⟩
      simp -implicitDefEqProofs only [E2_d_law_mirror, runF, eBinR, qFld, eMth, eMth0, eProp, lot_pure, lot_frz, lot_isO, eBad, sBad, gT, gCo, gNl, sAsg, sDput, eDget, eDget2, dicO, sPut, sPut2, sq_tup, sq_lst, sq_vec, sNx, sSeq, sIf, sRet, sSet, sEx, sBk, sCt, sFgt, fgt, eC, eV, eM, eBin, eUn, aNil, aCons, eTup, eLst, eFn, tB1, tAnd, tOr, tNot, eAnd, eOr, eNot, eIf, eCall, eCallK, pick, eQ, tQ1, qV, qC, qBin, qUn, qB, qAnd, qOr, qNot, qIf, qAndT, qOrT, qNotT, qChain, eChain, eLc, sFor, iSq, iRg1, iRg2, gN, itms, rst, eApp, D.frz, D.frzs, D.pure, D.pures, bind_ok, bind_ex, stmt_ok, stmt_ex, seq_nx, seq_rt, seq_ex, seq_bk, seq_ct, fgt_nx, fgt_bk, fgt_ct, fgt_rt, fgt_ex, out_nx, out_rt, out_ex, opt_some, optL_some, andB_tt, andB_ff, andB_some, orB_tt, orB_ff, orB_some, andX_tt, andX_ff, andX_some, orX_tt, orX_ff, orX_some, itAnd, itOr, itAndX, itOrX, Option.bind_some, List.map_cons, List.map_nil, List.length_cons, List.length_nil, List.cons_append, List.nil_append, List.getElem?_cons_zero, List.getElem?_cons_succ, List.getElem?_nil, List.set_cons_zero, List.set_cons_succ, List.replicate, addI_i, subD_i, ltD_i, leD_i, gtD_i, geD_i, eqS_int, neS_int, eqS_bl, neS_bl, max2_i, min2_i, maxL_i, minL_i, int1_i, intL_i, if_true, if_false, ite_true, ite_false, and_true, true_and, and_self, Bool.and_self, Bool.and_true, Bool.true_and, Bool.and_false, Bool.false_and, Bool.or_true, Bool.true_or, Bool.or_false, Bool.false_or, Bool.not_true, Bool.not_false, Nat.reduceAdd, Nat.reduceSub, Nat.reduceEqDiff, List.filterMap_cons, List.filterMap_nil, decide_true, decide_false, Bool.false_eq_true, reduceIte, Int.reduceAdd, Int.reduceSub, Int.reduceMul, Int.reduceNeg, Int.reduceLT, Int.reduceLE, Int.reduceEq, Int.reduceMod, Int.reduceDiv, Int.lt_irrefl, reduceCtorEq, D.frzs_int, D.pures_int, cap_0, cap_1, cap_2, cap_3, cap_4, cap_5, cap_6, cap_7, cap_8, cap_9, cap_10, cap_11, cap_12, cap_13, cap_14, cap_15, cap_16, cap_17, cap_18, cap_19, cap_20, cap_21, cap_22, cap_23, cap_24, cap_25, cap_26, cap_27, cap_28, cap_29, cap_30, cap_31, cap_32, cap_33, cap_34, cap_35, cap_36, cap_37, cap_38, cap_39, cap_40, eBor, brw, D.noL, D.noLs, sRaise, sTry, isE, qXf, cleanR, D.noX, D.noXs, rfX, boolF, eOwn, eOwnI, eDcT, eItT, Option.map_some, Option.map_none, Option.getD_some, C1_d_law_same, len_tbl, hb, rng_eq, Int.sub_zero, Int.toNat_natCast, rng0, row i (by have := List.mem_range.mp hi; omega), tupL_sq (sq_vec _)]
      rfl
  simp -implicitDefEqProofs only [d_law_mirror, b_d_law_mirror, runF, eBinR, qFld, eMth, eMth0, eProp, lot_pure, lot_frz, lot_isO, eBad, sBad, gT, gCo, gNl, sAsg, sDput, eDget, eDget2, dicO, sPut, sPut2, sq_tup, sq_lst, sq_vec, sNx, sSeq, sIf, sRet, sSet, sEx, sBk, sCt, sFgt, fgt, eC, eV, eM, eBin, eUn, aNil, aCons, eTup, eLst, eFn, tB1, tAnd, tOr, tNot, eAnd, eOr, eNot, eIf, eCall, eCallK, pick, eQ, tQ1, qV, qC, qBin, qUn, qB, qAnd, qOr, qNot, qIf, qAndT, qOrT, qNotT, qChain, eChain, eLc, sFor, iSq, iRg1, iRg2, gN, itms, rst, eApp, D.frz, D.frzs, D.pure, D.pures, bind_ok, bind_ex, stmt_ok, stmt_ex, seq_nx, seq_rt, seq_ex, seq_bk, seq_ct, fgt_nx, fgt_bk, fgt_ct, fgt_rt, fgt_ex, out_nx, out_rt, out_ex, opt_some, optL_some, andB_tt, andB_ff, andB_some, orB_tt, orB_ff, orB_some, andX_tt, andX_ff, andX_some, orX_tt, orX_ff, orX_some, itAnd, itOr, itAndX, itOrX, Option.bind_some, List.map_cons, List.map_nil, List.length_cons, List.length_nil, List.cons_append, List.nil_append, List.getElem?_cons_zero, List.getElem?_cons_succ, List.getElem?_nil, List.set_cons_zero, List.set_cons_succ, List.replicate, addI_i, subD_i, ltD_i, leD_i, gtD_i, geD_i, eqS_int, neS_int, eqS_bl, neS_bl, max2_i, min2_i, maxL_i, minL_i, int1_i, intL_i, if_true, if_false, ite_true, ite_false, and_true, true_and, and_self, Bool.and_self, Bool.and_true, Bool.true_and, Bool.and_false, Bool.false_and, Bool.or_true, Bool.true_or, Bool.or_false, Bool.false_or, Bool.not_true, Bool.not_false, Nat.reduceAdd, Nat.reduceSub, Nat.reduceEqDiff, List.filterMap_cons, List.filterMap_nil, decide_true, decide_false, Bool.false_eq_true, reduceIte, Int.reduceAdd, Int.reduceSub, Int.reduceMul, Int.reduceNeg, Int.reduceLT, Int.reduceLE, Int.reduceEq, Int.reduceMod, Int.reduceDiv, Int.lt_irrefl, reduceCtorEq, D.frzs_int, D.pures_int, cap_0, cap_1, cap_2, cap_3, cap_4, cap_5, cap_6, cap_7, cap_8, cap_9, cap_10, cap_11, cap_12, cap_13, cap_14, cap_15, cap_16, cap_17, cap_18, cap_19, cap_20, cap_21, cap_22, cap_23, cap_24, cap_25, cap_26, cap_27, cap_28, cap_29, cap_30, cap_31, cap_32, cap_33, cap_34, cap_35, cap_36, cap_37, cap_38, cap_39, cap_40, eBor, brw, D.noL, D.noLs, sRaise, sTry, isE, qXf, cleanR, D.noX, D.noXs, rfX, boolF, eOwn, eOwnI, eDcT, eItT, Option.map_some, Option.map_none, Option.getD_some, C1_d_law_same, len_tbl, hb, rng_eq, Int.sub_zero, Int.toNat_natCast, rng0, all, tupL_sq (sq_vec _)]
  rfl
/-! tables compared -/
theorem pd_ints : ∀ l : List Int, pdsO (l.map D.int) = some (l.map PyData.int)
  | [] => rfl
  | i :: l => by
    rw [List.map_cons]
    unfold pdsO
    rw [show pdO (D.int i) = some (.int i) from rfl, Option.bind_some, pd_ints l]
    rfl
theorem canAll_ints : ∀ l : List Int, PyData.canLayAll0 (l.map PyData.int) = true
  | [] => rfl
  | k :: l => by
    rw [List.map_cons, PyData.canLayAll0, canAll_ints l]
    rfl
theorem depth_ints : ∀ l : List Int, PyData.depthAll (l.map PyData.int) ≤ 1
  | [] => by decide
  | k :: l => by
    rw [List.map_cons, PyData.depthAll]
    have := depth_ints l
    have e : PyData.depth (PyData.int k) = 0 := rfl
    omega
def pdRow (n : Nat) (f : Int → Int → Int) (i : Int) : PyData := .tuple (((List.range n).map fun (j : Nat) => f i j).map PyData.int)
theorem pd_row (n : Nat) (f : Int → Int → Int) (i : Int) : pdO (rowD n f i) = some (pdRow n f i) := by
  have e : rowD n f i = .tup (((List.range n).map fun (j : Nat) => f i j).map D.int) := by unfold rowD; rw [List.map_map]; rfl
  rw [e]
  unfold pdO
  rw [pd_ints]; rfl
theorem pd_rows (n : Nat) (f : Int → Int → Int) : ∀ l : List Nat, pdsO (l.map fun (i : Nat) => rowD n f i) = some (l.map fun (i : Nat) => pdRow n f i)
  | [] => rfl
  | i :: l => by
    rw [List.map_cons]
    unfold pdsO
    rw [pd_row, Option.bind_some, pd_rows n f l]
    rfl
theorem can_rows (n : Nat) (f : Int → Int → Int) : ∀ l : List Nat, PyData.canLayAll0 (l.map fun (i : Nat) => pdRow n f i) = true
  | [] => rfl
  | i :: l => by
    rw [List.map_cons, PyData.canLayAll0, can_rows n f l, Bool.and_true]
    unfold pdRow
    rw [PyData.canLay0]
    exact canAll_ints _
theorem depth_rows (n : Nat) (f : Int → Int → Int) : ∀ l : List Nat, PyData.depthAll (l.map fun (i : Nat) => pdRow n f i) ≤ 3
  | [] => by show PyData.depthAll [] ≤ 3; decide
  | i :: l => by
    rw [List.map_cons, PyData.depthAll]
    have := depth_rows n f l
    have e : PyData.depth (pdRow n f i) ≤ 2 := by
      unfold pdRow
      rw [PyData.depth]
      have := depth_ints ((List.range n).map fun (j : Nat) => f i j)
      omega
    omega
theorem dne_tbl (n : Nat) (f : Int → Int → Int) : dNe (tblD n f) (tblD n f) = some (.bl false) := by
  have e : pdO (tblD n f) = some (.tuple ((List.range n).map fun (i : Nat) => pdRow n f i)) := by
    unfold tblD pdO
    rw [pd_rows]; rfl
  have c : PyData.canLay0 (.tuple ((List.range n).map fun (i : Nat) => pdRow n f i)) = true := by
    rw [PyData.canLay0]
    exact can_rows n f _
  have sh : SeqAt.shaped (.tuple ((List.range n).map fun (i : Nat) => pdRow n f i)) = true := by
    unfold SeqAt.shaped
    rw [Bool.and_eq_true, decide_eq_true_eq]
    refine ⟨c, ?_⟩
    rw [PyData.depth]
    have := depth_rows n f (List.range n)
    omega
  unfold dNe
  rw [e]
  show (if deepOk _ _ then some (D.bl (!PyData.eqv _ _)) else none) = _
  rw [if_pos (show deepOk (.tuple ((List.range n).map fun (i : Nat) => pdRow n f i)) (.tuple ((List.range n).map fun (i : Nat) => pdRow n f i)) = true from yes_of ⟨sh, sh⟩), SeqAt.eqv_refl _ c]
  rfl
theorem lmax_in (n : Int) (ns : List Int) : lmax (n :: ns) ∈ n :: ns ∧ ∀ y ∈ n :: ns, y ≤ lmax (n :: ns) := by
  obtain ⟨g1, g2⟩ := foldl_max_ge ns n
  show ns.foldl max n ∈ n :: ns ∧ ∀ y ∈ n :: ns, y ≤ ns.foldl max n
  refine ⟨?_, fun y hy => ?_⟩
  · rcases foldl_max_mem ns n with e | h
    · rw [e]; exact List.mem_cons_self
    · exact List.mem_cons_of_mem _ h
  · rcases List.mem_cons.mp hy with e | h
    · rw [e]; exact g1
    · exact g2 y h
theorem max_wid (cs : List T3) (h : ∀ t ∈ cs, t.2.2 ≤ 500000000) (hl : cs.length ≤ 1000) : ∃ m, catV (.vec (cs.map fun t => .int t.2.2)) (.vec [.int 1]) = some (.vec (((cs.map fun (t : T3) => t.2.2) ++ [1]).map .int)) ∧ maxLs [.vec (((cs.map fun (t : T3) => t.2.2) ++ [1]).map .int)] = some (.int m) ∧ 1 ≤ m ∧ m ≤ 500000000 := by
  have e1 : catV (.vec (cs.map fun t => .int t.2.2)) (.vec [.int 1]) = some (.vec (((cs.map fun (t : T3) => t.2.2) ++ [1]).map .int)) := by
    have : ((cs.map fun (t : T3) => t.2.2) ++ [1]).map D.int = (cs.map fun t => .int t.2.2) ++ [.int 1] := by rw [List.map_append, List.map_map]; rfl
    rw [this]
    exact if_pos (yes_of (by rw [List.length_map]; show cs.length + 1 ≤ 16777216; omega))
  have hall : ∀ y ∈ (cs.map fun (t : T3) => t.2.2) ++ [1], y ≤ 500000000 := fun y hy => by
    rw [List.mem_append] at hy
    rcases hy with hy | hy
    · obtain ⟨t, ht, rfl⟩ := List.mem_map.mp hy
      exact h t ht
    · simp at hy; omega
  have h1 : (1 : Int) ∈ (cs.map fun (t : T3) => t.2.2) ++ [1] := by simp
  generalize hL : (cs.map fun (t : T3) => t.2.2) ++ [1] = L at *
  cases L with
  | nil => cases h1
  | cons n ns =>
    obtain ⟨k1, k2⟩ := lmax_in n ns
    refine ⟨lmax (n :: ns), e1, ?_, k2 1 h1, hall _ k1⟩
    show (match intsD ((n :: ns).map D.int) with | some (n :: ns) => some (D.int (lmax (n :: ns))) | _ => none) = _
    rw [intsD_map]

end Math

set_option Elab.async false
set_option linter.all false
set_option maxRecDepth 100000
set_option maxHeartbeats 2000000
namespace Math
open PySem FL Prg
open L2 (atI atI_nat ixN)
theorem nf_more {p q : Int} {cs : List T3} (h : NF p cs) (hq : p ≤ q) : NF q cs := ⟨fun t ht => by
  obtain ⟨k1, k2, k3, k4⟩ := h.1 t ht
  exact ⟨⟨k1.1, by omega⟩, ⟨k2.1, by omega⟩, k3, k4⟩, h.2⟩
theorem pass_nil : passM [] = fun _ _ => 0 := rfl
theorem made0 (p : Int) (hp : 0 ≤ p) : d_Lot___init__ [.int p, .tup []] = .rt (lotD p []) := make_nf p (.tup []) [] (.inl rfl) hp ⟨(fun t ht => by cases ht), by simp [comb, met, sortP]⟩ (by decide)
structure Two (p : Int) (h w : List T3) : Prop where
  p0 : 0 ≤ p ∧ p ≤ 40
  nh : NF p h
  nw : NF p w
  lh : h.length ≤ 100
  lw : w.length ≤ 100
  wd : ∀ t ∈ h, t.2.2 ≤ 500000000
def T (p : Int) (c : List T3) : D := tblD (max p 1).toNat (passM c)
theorem T_frz (p : Int) (c : List T3) : (T p c).frz = T p c := tbl_frz _ _
theorem T_pure (p : Int) (c : List T3) : (T p c).pure = true := tbl_pure _ _
theorem c1_eq {p : Int} {h w : List T3} (H : Two p h w) (s : D) (o8 o9 o10 o11 o12 : Option D) :
    C1_d_law [some s, some (.int p), some (.tup (h.map tD)), some (.tup (w.map tD)), some (lotD p h), some (lotD p w), some (T p h), some (T p w), o8, o9, o10, o11, o12, none, none, none] = .rt (.bl true) := by
  have p0 := H.p0
  have l1 := H.lh
  have l2 := H.lw
  have m0 := made0 p p0.1
  have t0 := ltimes_eq (max p 1).toNat (passM h) 0 (by omega) (by decide) (by decide)
  have e0 := told_eq p [] (fun i j => passM h i j * 0) ⟨by omega, by omega⟩ (by decide) (by rw [pass_nil]; funext i j; rw [Int.mul_zero])
  have e1 := lotis_eq p h (by omega)
  have e2 := told_eq p h (passM h) ⟨by omega, by omega⟩ (by omega) rfl
  have e3 := told_eq p w (passM w) ⟨by omega, by omega⟩ (by omega) rfl
  have e4 := tof_eq p h ⟨by omega, by omega⟩ (by omega)
  have e5 := same_tbl (max p 1).toNat (passM h) (by omega)
  unfold T
  simp -implicitDefEqProofs only [C1_d_law, runF, eBinR, qFld, eMth, eMth0, eProp, lot_pure, lot_frz, lot_isO, eBad, sBad, gT, gCo, gNl, sAsg, sDput, eDget, eDget2, dicO, sPut, sPut2, sq_tup, sq_lst, sq_vec, sNx, sSeq, sIf, sRet, sSet, sEx, sBk, sCt, sFgt, fgt, eC, eV, eM, eBin, eUn, aNil, aCons, eTup, eLst, eFn, tB1, tAnd, tOr, tNot, eAnd, eOr, eNot, eIf, eCall, eCallK, pick, eQ, tQ1, qV, qC, qBin, qUn, qB, qAnd, qOr, qNot, qIf, qAndT, qOrT, qNotT, qChain, eChain, eLc, sFor, iSq, iRg1, iRg2, gN, itms, rst, eApp, D.frz, D.frzs, D.pure, D.pures, bind_ok, bind_ex, stmt_ok, stmt_ex, seq_nx, seq_rt, seq_ex, seq_bk, seq_ct, fgt_nx, fgt_bk, fgt_ct, fgt_rt, fgt_ex, out_nx, out_rt, out_ex, opt_some, optL_some, andB_tt, andB_ff, andB_some, orB_tt, orB_ff, orB_some, andX_tt, andX_ff, andX_some, orX_tt, orX_ff, orX_some, itAnd, itOr, itAndX, itOrX, Option.bind_some, List.map_cons, List.map_nil, List.length_cons, List.length_nil, List.cons_append, List.nil_append, List.getElem?_cons_zero, List.getElem?_cons_succ, List.getElem?_nil, List.set_cons_zero, List.set_cons_succ, List.replicate, addI_i, subD_i, ltD_i, leD_i, gtD_i, geD_i, eqS_int, neS_int, eqS_bl, neS_bl, max2_i, min2_i, maxL_i, minL_i, int1_i, intL_i, if_true, if_false, ite_true, ite_false, and_true, true_and, and_self, Bool.and_self, Bool.and_true, Bool.true_and, Bool.and_false, Bool.false_and, Bool.or_true, Bool.true_or, Bool.or_false, Bool.false_or, Bool.not_true, Bool.not_false, Nat.reduceAdd, Nat.reduceSub, Nat.reduceEqDiff, List.filterMap_cons, List.filterMap_nil, decide_true, decide_false, Bool.false_eq_true, reduceIte, Int.reduceAdd, Int.reduceSub, Int.reduceMul, Int.reduceNeg, Int.reduceLT, Int.reduceLE, Int.reduceEq, Int.reduceMod, Int.reduceDiv, Int.lt_irrefl, reduceCtorEq, D.frzs_int, D.pures_int, cap_0, cap_1, cap_2, cap_3, cap_4, cap_5, cap_6, cap_7, cap_8, cap_9, cap_10, cap_11, cap_12, cap_13, cap_14, cap_15, cap_16, cap_17, cap_18, cap_19, cap_20, cap_21, cap_22, cap_23, cap_24, cap_25, cap_26, cap_27, cap_28, cap_29, cap_30, cap_31, cap_32, cap_33, cap_34, cap_35, cap_36, cap_37, cap_38, cap_39, cap_40, eBor, brw, D.noL, D.noLs, sRaise, sTry, isE, qXf, cleanR, D.noX, D.noXs, rfX, boolF, eOwn, eOwnI, eDcT, eItT, Option.map_some, Option.map_none, Option.getD_some, C1_d_law_same, tbl_frz, tbl_pure, m0, t0, e0, pures_tD, frzs_tD, e1, e2, e3, e4, e5]
theorem c2_eq {p : Int} {h w : List T3} (H : Two p h w) (ns : List Int) (hns : ns.length ≤ 63) (d0 d1 : Int) (h0 : 0 ≤ d0 ∧ d0 < 5) (h1 : 0 ≤ d1 ∧ d1 < 1000000001) (x8 x9 : D) :
    C2_d_law [some (.lst (ns.map .int)), some (.int p), some (.tup (h.map tD)), some (.tup (w.map tD)), some (lotD p h), some (lotD p w), some (T p h), some (T p w), some x8, some x9, some (.vec [.int d0, .int d1]), some (.int d1), none, none, none, none] = .rt (.bl true) := by
  have p0 := H.p0
  have l1 := H.lh
  obtain ⟨c, hc⟩ := cell_eq ns 36 (by decide) (by decide) hns
  -- what holds for every factor
  have fac : ∀ m : Int, 0 ≤ m ∧ m ≤ 1000000000 → d_Lot___mul__ [lotD p h, .int m] = .rt (lotD p (comb (h.map fun t => (t.1, t.2.1, t.2.2 * m)))) ∧ d_law_times [T p h, .int m] = .rt (tblD (max p 1).toNat fun i j => passM h i j * m) ∧
      d_Lot_table [lotD p (comb (h.map fun t => (t.1, t.2.1, t.2.2 * m)))] = .rt (tblD (max p 1).toNat fun i j => passM h i j * m) ∧ d_table_of [lotD p (comb (h.map fun t => (t.1, t.2.1, t.2.2 * m)))] = .rt (tblD (max p 1).toNat fun i j => passM h i j * m) ∧
      d_law_same [tblD (max p 1).toNat fun i j => passM h i j * m, tblD (max p 1).toNat fun i j => passM h i j * m] = .rt (.bl true) := fun m hm => by
    have e := pass_mul H.nh m hm.1
    have e' : passM (comb (h.map fun t => (t.1, t.2.1, t.2.2 * m))) = fun i j => passM h i j * m := funext fun i => funext fun j => e i j
    have hl := len_comb (h.map fun t => ((t.1, t.2.1, t.2.2 * m) : T3))
    rw [List.length_map] at hl
    have a := mtab_eq p (comb (h.map fun t => (t.1, t.2.1, t.2.2 * m))) ⟨by omega, by omega⟩ (by omega)
    have b := tof_eq p (comb (h.map fun t => (t.1, t.2.1, t.2.2 * m))) ⟨by omega, by omega⟩ (by omega)
    rw [e'] at a b
    exact ⟨mul_eq p m h p0.1 H.nh hm.1 (by omega) (by omega), ltimes_eq _ _ m (by omega) hm.1 (by omega), a, b, same_tbl _ _ (by omega)⟩
  -- the far rim
  have far : p < 40 → ∃ q, modD (.int c) (.int (40 - p)) = some (.int q) ∧ d_Lot___init__ [.int (p + 1 + q), .tup (h.map tD)] = .rt (lotD (p + 1 + q) h) ∧ d_law_table [.int (p + 1 + q), .tup (h.map tD)] = .rt (tblD (max (p + 1 + q) 1).toNat (passM h)) ∧ d_law_told [lotD (p + 1 + q) h, tblD (max (p + 1 + q) 1).toNat (passM h)] = .rt (.bl true) := fun hp => by
    have q0 := Int.emod_nonneg c (show 40 - p ≠ 0 by omega)
    have q1 := Int.emod_lt_of_pos c (show 0 < 40 - p by omega)
    have nf := nf_more H.nh (show p ≤ p + 1 + c % (40 - p) by omega)
    exact ⟨c % (40 - p), modD_i (by omega), make_nf _ _ h (.inl rfl) (by omega) nf (by omega), table_eq _ h _ (by omega) (by omega) nf (by omega), told_eq _ h _ ⟨by omega, by omega⟩ (by omega) rfl⟩
  have key : lcl [15] (gN 15) tT E2_d_law (h.map tD) [] [some (.lst (ns.map .int)), some (.int p), some (.tup (h.map tD)), some (.tup (w.map tD)), some (lotD p h), some (lotD p w), some (T p h), some (T p w), some x8, some x9, some (.vec [.int d0, .int d1]), some (.int d1), none, none, none, none] = .ok (h.map fun t => .int t.2.2) [some (.lst (ns.map .int)), some (.int p), some (.tup (h.map tD)), some (.tup (w.map tD)), some (lotD p h), some (lotD p w), some (T p h), some (T p w), some x8, some x9, some (.vec [.int d0, .int d1]), some (.int d1), none, none, none, none] :=
    lcl_all tD (fun t => .int t.2.2) h (by omega) fun t _ => ⟨_, [some (.lst (ns.map .int)), some (.int p), some (.tup (h.map tD)), some (.tup (w.map tD)), some (lotD p h), some (lotD p w), some (T p h), some (T p w), some x8, some x9, some (.vec [.int d0, .int d1]), some (.int d1), none, none, none, some (tD t)], rfl, by simp -implicitDefEqProofs only [E2_d_law, runF, eBinR, qFld, eMth, eMth0, eProp, lot_pure, lot_frz, lot_isO, eBad, sBad, gT, gCo, gNl, sAsg, sDput, eDget, eDget2, dicO, sPut, sPut2, sq_tup, sq_lst, sq_vec, sNx, sSeq, sIf, sRet, sSet, sEx, sBk, sCt, sFgt, fgt, eC, eV, eM, eBin, eUn, aNil, aCons, eTup, eLst, eFn, tB1, tAnd, tOr, tNot, eAnd, eOr, eNot, eIf, eCall, eCallK, pick, eQ, tQ1, qV, qC, qBin, qUn, qB, qAnd, qOr, qNot, qIf, qAndT, qOrT, qNotT, qChain, eChain, eLc, sFor, iSq, iRg1, iRg2, gN, itms, rst, eApp, D.frz, D.frzs, D.pure, D.pures, bind_ok, bind_ex, stmt_ok, stmt_ex, seq_nx, seq_rt, seq_ex, seq_bk, seq_ct, fgt_nx, fgt_bk, fgt_ct, fgt_rt, fgt_ex, out_nx, out_rt, out_ex, opt_some, optL_some, andB_tt, andB_ff, andB_some, orB_tt, orB_ff, orB_some, andX_tt, andX_ff, andX_some, orX_tt, orX_ff, orX_some, itAnd, itOr, itAndX, itOrX, Option.bind_some, List.map_cons, List.map_nil, List.length_cons, List.length_nil, List.cons_append, List.nil_append, List.getElem?_cons_zero, List.getElem?_cons_succ, List.getElem?_nil, List.set_cons_zero, List.set_cons_succ, List.replicate, addI_i, subD_i, ltD_i, leD_i, gtD_i, geD_i, eqS_int, neS_int, eqS_bl, neS_bl, max2_i, min2_i, maxL_i, minL_i, int1_i, intL_i, if_true, if_false, ite_true, ite_false, and_true, true_and, and_self, Bool.and_self, Bool.and_true, Bool.true_and, Bool.and_false, Bool.false_and, Bool.or_true, Bool.true_or, Bool.or_false, Bool.false_or, Bool.not_true, Bool.not_false, Nat.reduceAdd, Nat.reduceSub, Nat.reduceEqDiff, List.filterMap_cons, List.filterMap_nil, decide_true, decide_false, Bool.false_eq_true, reduceIte, Int.reduceAdd, Int.reduceSub, Int.reduceMul, Int.reduceNeg, Int.reduceLT, Int.reduceLE, Int.reduceEq, Int.reduceMod, Int.reduceDiv, Int.lt_irrefl, reduceCtorEq, D.frzs_int, D.pures_int, cap_0, cap_1, cap_2, cap_3, cap_4, cap_5, cap_6, cap_7, cap_8, cap_9, cap_10, cap_11, cap_12, cap_13, cap_14, cap_15, cap_16, cap_17, cap_18, cap_19, cap_20, cap_21, cap_22, cap_23, cap_24, cap_25, cap_26, cap_27, cap_28, cap_29, cap_30, cap_31, cap_32, cap_33, cap_34, cap_35, cap_36, cap_37, cap_38, cap_39, cap_40, eBor, brw, D.noL, D.noLs, sRaise, sTry, isE, qXf, cleanR, D.noX, D.noXs, rfX, boolF, eOwn, eOwnI, eDcT, eItT, Option.map_some, Option.map_none, Option.getD_some, C1_d_law_same, ix_2], rfl⟩
  obtain ⟨M, k1, k2, k3, k4⟩ := max_wid h H.wd (by omega)
  have dv : divD (.int 1000000000) (.int M) = some (.int (1000000000 / M)) := divD_i ⟨by omega, by omega⟩
  have v0 : 0 ≤ 1000000000 / M := Int.ediv_nonneg (by decide) (by omega)
  have v1 : 1000000000 / M ≤ 1000000000 := Int.ediv_le_self _ (by decide)
  have md : modD (.int d1) (.int (1000000000 / M + 1)) = some (.int (d1 % (1000000000 / M + 1))) := modD_i (by omega)
  have w0 := Int.emod_nonneg d1 (show 1000000000 / M + 1 ≠ 0 by omega)
  have w1 := Int.emod_lt_of_pos d1 (show 0 < 1000000000 / M + 1 by omega)
  generalize d1 % (1000000000 / M + 1) = r at md w0 w1
  have i0 : ixD (.vec [.int d0, .int d1]) (.int 0) = some (.int d0) := iv0v _ _
  have c1 := fun o11 o12 => c1_eq H (.lst (ns.map .int)) (some x8) (some x9) (some (.vec [.int d0, .int d1])) o11 o12
  by_cases g : d0 < 4
  · have hx : ∃ m, ixD (.vec [.int 0, .int 1, .int 2, .int r]) (.int d0) = some (.int m) ∧ 0 ≤ m ∧ m ≤ 1000000000 := by
      have : d0 = 0 ∨ d0 = 1 ∨ d0 = 2 ∨ d0 = 3 := by omega
      rcases this with z | z | z | z <;> rw [z]
      · exact ⟨0, ixD_sq (sq_vec _) (atI_nat (j := 0) rfl), by decide, by decide⟩
      · exact ⟨1, ixD_sq (sq_vec _) (atI_nat (j := 1) rfl), by decide, by decide⟩
      · exact ⟨2, ixD_sq (sq_vec _) (atI_nat (j := 2) rfl), by decide, by decide⟩
      · exact ⟨r, ixD_sq (sq_vec _) (atI_nat (j := 3) rfl), w0, by omega⟩
    obtain ⟨m, m1, m2⟩ := hx
    obtain ⟨f1, f2, f3, f4, f5⟩ := fac m m2
    generalize comb (h.map fun t => (t.1, t.2.1, t.2.2 * m)) = hm at f1 f3 f4
    by_cases hp : p < 40
    · obtain ⟨q, r1, r2, r3, r4⟩ := far hp
      simp -implicitDefEqProofs only [C2_d_law, runF, eBinR, qFld, eMth, eMth0, eProp, lot_pure, lot_frz, lot_isO, eBad, sBad, gT, gCo, gNl, sAsg, sDput, eDget, eDget2, dicO, sPut, sPut2, sq_tup, sq_lst, sq_vec, sNx, sSeq, sIf, sRet, sSet, sEx, sBk, sCt, sFgt, fgt, eC, eV, eM, eBin, eUn, aNil, aCons, eTup, eLst, eFn, tB1, tAnd, tOr, tNot, eAnd, eOr, eNot, eIf, eCall, eCallK, pick, eQ, tQ1, qV, qC, qBin, qUn, qB, qAnd, qOr, qNot, qIf, qAndT, qOrT, qNotT, qChain, eChain, eLc, sFor, iSq, iRg1, iRg2, gN, itms, rst, eApp, D.frz, D.frzs, D.pure, D.pures, bind_ok, bind_ex, stmt_ok, stmt_ex, seq_nx, seq_rt, seq_ex, seq_bk, seq_ct, fgt_nx, fgt_bk, fgt_ct, fgt_rt, fgt_ex, out_nx, out_rt, out_ex, opt_some, optL_some, andB_tt, andB_ff, andB_some, orB_tt, orB_ff, orB_some, andX_tt, andX_ff, andX_some, orX_tt, orX_ff, orX_some, itAnd, itOr, itAndX, itOrX, Option.bind_some, List.map_cons, List.map_nil, List.length_cons, List.length_nil, List.cons_append, List.nil_append, List.getElem?_cons_zero, List.getElem?_cons_succ, List.getElem?_nil, List.set_cons_zero, List.set_cons_succ, List.replicate, addI_i, subD_i, ltD_i, leD_i, gtD_i, geD_i, eqS_int, neS_int, eqS_bl, neS_bl, max2_i, min2_i, maxL_i, minL_i, int1_i, intL_i, if_true, if_false, ite_true, ite_false, and_true, true_and, and_self, Bool.and_self, Bool.and_true, Bool.true_and, Bool.and_false, Bool.false_and, Bool.or_true, Bool.true_or, Bool.or_false, Bool.false_or, Bool.not_true, Bool.not_false, Nat.reduceAdd, Nat.reduceSub, Nat.reduceEqDiff, List.filterMap_cons, List.filterMap_nil, decide_true, decide_false, Bool.false_eq_true, reduceIte, Int.reduceAdd, Int.reduceSub, Int.reduceMul, Int.reduceNeg, Int.reduceLT, Int.reduceLE, Int.reduceEq, Int.reduceMod, Int.reduceDiv, Int.lt_irrefl, reduceCtorEq, D.frzs_int, D.pures_int, cap_0, cap_1, cap_2, cap_3, cap_4, cap_5, cap_6, cap_7, cap_8, cap_9, cap_10, cap_11, cap_12, cap_13, cap_14, cap_15, cap_16, cap_17, cap_18, cap_19, cap_20, cap_21, cap_22, cap_23, cap_24, cap_25, cap_26, cap_27, cap_28, cap_29, cap_30, cap_31, cap_32, cap_33, cap_34, cap_35, cap_36, cap_37, cap_38, cap_39, cap_40, eBor, brw, D.noL, D.noLs, sRaise, sTry, isE, qXf, cleanR, D.noX, D.noXs, rfX, boolF, eOwn, eOwnI, eDcT, eItT, Option.map_some, Option.map_none, Option.getD_some, C1_d_law_same, i0, g, frzs_tD, key, k1, k2, dv, md, m1, f1, T_frz, f2, f3, tbl_pure, tbl_frz, f5, f4, hp, hc, r1, r2, r3, r4, c1]
    · simp -implicitDefEqProofs only [C2_d_law, runF, eBinR, qFld, eMth, eMth0, eProp, lot_pure, lot_frz, lot_isO, eBad, sBad, gT, gCo, gNl, sAsg, sDput, eDget, eDget2, dicO, sPut, sPut2, sq_tup, sq_lst, sq_vec, sNx, sSeq, sIf, sRet, sSet, sEx, sBk, sCt, sFgt, fgt, eC, eV, eM, eBin, eUn, aNil, aCons, eTup, eLst, eFn, tB1, tAnd, tOr, tNot, eAnd, eOr, eNot, eIf, eCall, eCallK, pick, eQ, tQ1, qV, qC, qBin, qUn, qB, qAnd, qOr, qNot, qIf, qAndT, qOrT, qNotT, qChain, eChain, eLc, sFor, iSq, iRg1, iRg2, gN, itms, rst, eApp, D.frz, D.frzs, D.pure, D.pures, bind_ok, bind_ex, stmt_ok, stmt_ex, seq_nx, seq_rt, seq_ex, seq_bk, seq_ct, fgt_nx, fgt_bk, fgt_ct, fgt_rt, fgt_ex, out_nx, out_rt, out_ex, opt_some, optL_some, andB_tt, andB_ff, andB_some, orB_tt, orB_ff, orB_some, andX_tt, andX_ff, andX_some, orX_tt, orX_ff, orX_some, itAnd, itOr, itAndX, itOrX, Option.bind_some, List.map_cons, List.map_nil, List.length_cons, List.length_nil, List.cons_append, List.nil_append, List.getElem?_cons_zero, List.getElem?_cons_succ, List.getElem?_nil, List.set_cons_zero, List.set_cons_succ, List.replicate, addI_i, subD_i, ltD_i, leD_i, gtD_i, geD_i, eqS_int, neS_int, eqS_bl, neS_bl, max2_i, min2_i, maxL_i, minL_i, int1_i, intL_i, if_true, if_false, ite_true, ite_false, and_true, true_and, and_self, Bool.and_self, Bool.and_true, Bool.true_and, Bool.and_false, Bool.false_and, Bool.or_true, Bool.true_or, Bool.or_false, Bool.false_or, Bool.not_true, Bool.not_false, Nat.reduceAdd, Nat.reduceSub, Nat.reduceEqDiff, List.filterMap_cons, List.filterMap_nil, decide_true, decide_false, Bool.false_eq_true, reduceIte, Int.reduceAdd, Int.reduceSub, Int.reduceMul, Int.reduceNeg, Int.reduceLT, Int.reduceLE, Int.reduceEq, Int.reduceMod, Int.reduceDiv, Int.lt_irrefl, reduceCtorEq, D.frzs_int, D.pures_int, cap_0, cap_1, cap_2, cap_3, cap_4, cap_5, cap_6, cap_7, cap_8, cap_9, cap_10, cap_11, cap_12, cap_13, cap_14, cap_15, cap_16, cap_17, cap_18, cap_19, cap_20, cap_21, cap_22, cap_23, cap_24, cap_25, cap_26, cap_27, cap_28, cap_29, cap_30, cap_31, cap_32, cap_33, cap_34, cap_35, cap_36, cap_37, cap_38, cap_39, cap_40, eBor, brw, D.noL, D.noLs, sRaise, sTry, isE, qXf, cleanR, D.noX, D.noXs, rfX, boolF, eOwn, eOwnI, eDcT, eItT, Option.map_some, Option.map_none, Option.getD_some, C1_d_law_same, i0, g, frzs_tD, key, k1, k2, dv, md, m1, f1, T_frz, f2, f3, tbl_pure, tbl_frz, f5, f4, hp, c1]
  · obtain ⟨f1, f2, f3, f4, f5⟩ := fac d1 ⟨h1.1, by omega⟩
    generalize comb (h.map fun t => (t.1, t.2.1, t.2.2 * d1)) = hm at f1 f3 f4
    by_cases hp : p < 40
    · obtain ⟨q, r1, r2, r3, r4⟩ := far hp
      simp -implicitDefEqProofs only [C2_d_law, runF, eBinR, qFld, eMth, eMth0, eProp, lot_pure, lot_frz, lot_isO, eBad, sBad, gT, gCo, gNl, sAsg, sDput, eDget, eDget2, dicO, sPut, sPut2, sq_tup, sq_lst, sq_vec, sNx, sSeq, sIf, sRet, sSet, sEx, sBk, sCt, sFgt, fgt, eC, eV, eM, eBin, eUn, aNil, aCons, eTup, eLst, eFn, tB1, tAnd, tOr, tNot, eAnd, eOr, eNot, eIf, eCall, eCallK, pick, eQ, tQ1, qV, qC, qBin, qUn, qB, qAnd, qOr, qNot, qIf, qAndT, qOrT, qNotT, qChain, eChain, eLc, sFor, iSq, iRg1, iRg2, gN, itms, rst, eApp, D.frz, D.frzs, D.pure, D.pures, bind_ok, bind_ex, stmt_ok, stmt_ex, seq_nx, seq_rt, seq_ex, seq_bk, seq_ct, fgt_nx, fgt_bk, fgt_ct, fgt_rt, fgt_ex, out_nx, out_rt, out_ex, opt_some, optL_some, andB_tt, andB_ff, andB_some, orB_tt, orB_ff, orB_some, andX_tt, andX_ff, andX_some, orX_tt, orX_ff, orX_some, itAnd, itOr, itAndX, itOrX, Option.bind_some, List.map_cons, List.map_nil, List.length_cons, List.length_nil, List.cons_append, List.nil_append, List.getElem?_cons_zero, List.getElem?_cons_succ, List.getElem?_nil, List.set_cons_zero, List.set_cons_succ, List.replicate, addI_i, subD_i, ltD_i, leD_i, gtD_i, geD_i, eqS_int, neS_int, eqS_bl, neS_bl, max2_i, min2_i, maxL_i, minL_i, int1_i, intL_i, if_true, if_false, ite_true, ite_false, and_true, true_and, and_self, Bool.and_self, Bool.and_true, Bool.true_and, Bool.and_false, Bool.false_and, Bool.or_true, Bool.true_or, Bool.or_false, Bool.false_or, Bool.not_true, Bool.not_false, Nat.reduceAdd, Nat.reduceSub, Nat.reduceEqDiff, List.filterMap_cons, List.filterMap_nil, decide_true, decide_false, Bool.false_eq_true, reduceIte, Int.reduceAdd, Int.reduceSub, Int.reduceMul, Int.reduceNeg, Int.reduceLT, Int.reduceLE, Int.reduceEq, Int.reduceMod, Int.reduceDiv, Int.lt_irrefl, reduceCtorEq, D.frzs_int, D.pures_int, cap_0, cap_1, cap_2, cap_3, cap_4, cap_5, cap_6, cap_7, cap_8, cap_9, cap_10, cap_11, cap_12, cap_13, cap_14, cap_15, cap_16, cap_17, cap_18, cap_19, cap_20, cap_21, cap_22, cap_23, cap_24, cap_25, cap_26, cap_27, cap_28, cap_29, cap_30, cap_31, cap_32, cap_33, cap_34, cap_35, cap_36, cap_37, cap_38, cap_39, cap_40, eBor, brw, D.noL, D.noLs, sRaise, sTry, isE, qXf, cleanR, D.noX, D.noXs, rfX, boolF, eOwn, eOwnI, eDcT, eItT, Option.map_some, Option.map_none, Option.getD_some, C1_d_law_same, i0, g, f1, T_frz, f2, f3, tbl_pure, tbl_frz, f5, f4, hp, hc, frzs_tD, r1, r2, r3, r4, c1]
    · simp -implicitDefEqProofs only [C2_d_law, runF, eBinR, qFld, eMth, eMth0, eProp, lot_pure, lot_frz, lot_isO, eBad, sBad, gT, gCo, gNl, sAsg, sDput, eDget, eDget2, dicO, sPut, sPut2, sq_tup, sq_lst, sq_vec, sNx, sSeq, sIf, sRet, sSet, sEx, sBk, sCt, sFgt, fgt, eC, eV, eM, eBin, eUn, aNil, aCons, eTup, eLst, eFn, tB1, tAnd, tOr, tNot, eAnd, eOr, eNot, eIf, eCall, eCallK, pick, eQ, tQ1, qV, qC, qBin, qUn, qB, qAnd, qOr, qNot, qIf, qAndT, qOrT, qNotT, qChain, eChain, eLc, sFor, iSq, iRg1, iRg2, gN, itms, rst, eApp, D.frz, D.frzs, D.pure, D.pures, bind_ok, bind_ex, stmt_ok, stmt_ex, seq_nx, seq_rt, seq_ex, seq_bk, seq_ct, fgt_nx, fgt_bk, fgt_ct, fgt_rt, fgt_ex, out_nx, out_rt, out_ex, opt_some, optL_some, andB_tt, andB_ff, andB_some, orB_tt, orB_ff, orB_some, andX_tt, andX_ff, andX_some, orX_tt, orX_ff, orX_some, itAnd, itOr, itAndX, itOrX, Option.bind_some, List.map_cons, List.map_nil, List.length_cons, List.length_nil, List.cons_append, List.nil_append, List.getElem?_cons_zero, List.getElem?_cons_succ, List.getElem?_nil, List.set_cons_zero, List.set_cons_succ, List.replicate, addI_i, subD_i, ltD_i, leD_i, gtD_i, geD_i, eqS_int, neS_int, eqS_bl, neS_bl, max2_i, min2_i, maxL_i, minL_i, int1_i, intL_i, if_true, if_false, ite_true, ite_false, and_true, true_and, and_self, Bool.and_self, Bool.and_true, Bool.true_and, Bool.and_false, Bool.false_and, Bool.or_true, Bool.true_or, Bool.or_false, Bool.false_or, Bool.not_true, Bool.not_false, Nat.reduceAdd, Nat.reduceSub, Nat.reduceEqDiff, List.filterMap_cons, List.filterMap_nil, decide_true, decide_false, Bool.false_eq_true, reduceIte, Int.reduceAdd, Int.reduceSub, Int.reduceMul, Int.reduceNeg, Int.reduceLT, Int.reduceLE, Int.reduceEq, Int.reduceMod, Int.reduceDiv, Int.lt_irrefl, reduceCtorEq, D.frzs_int, D.pures_int, cap_0, cap_1, cap_2, cap_3, cap_4, cap_5, cap_6, cap_7, cap_8, cap_9, cap_10, cap_11, cap_12, cap_13, cap_14, cap_15, cap_16, cap_17, cap_18, cap_19, cap_20, cap_21, cap_22, cap_23, cap_24, cap_25, cap_26, cap_27, cap_28, cap_29, cap_30, cap_31, cap_32, cap_33, cap_34, cap_35, cap_36, cap_37, cap_38, cap_39, cap_40, eBor, brw, D.noL, D.noLs, sRaise, sTry, isE, qXf, cleanR, D.noX, D.noXs, rfX, boolF, eOwn, eOwnI, eDcT, eItT, Option.map_some, Option.map_none, Option.getD_some, C1_d_law_same, i0, g, f1, T_frz, f2, f3, tbl_pure, tbl_frz, f5, f4, hp, c1]
theorem c3_eq {p : Int} {h w : List T3} (H : Two p h w) (ns : List Int) (hns : ns.length ≤ 63) (x8 : D) :
    C3_d_law [some (.lst (ns.map .int)), some (.int p), some (.tup (h.map tD)), some (.tup (w.map tD)), some (lotD p h), some (lotD p w), some (T p h), some (T p w), some x8, none, none, none, none, none, none, none] = .rt (.bl true) := by
  have p0 := H.p0
  have l1 := H.lh
  have l2 := H.lw
  obtain ⟨c, hc⟩ := cell_eq ns 3 (by decide) (by decide) hns
  obtain ⟨dr, g1, g2⟩ := digits_eq c [5, 1000000001] (by intro s hs; simp only [List.mem_cons, List.not_mem_nil, or_false] at hs; omega) (by decide)
  have hd : ∃ d0 d1, dr = [d0, d1] ∧ (0 ≤ d0 ∧ d0 < 5) ∧ (0 ≤ d1 ∧ d1 < 1000000001) := by
    match dr, g2 with
    | [x, y], g2 => exact ⟨x, y, rfl, g2.1, g2.2.1⟩
  obtain ⟨d0, d1, rfl, b0, b1⟩ := hd
  have g1' : d_law_digits [.int c, .lst [.int 5, .int 1000000001]] = .rt (.vec [.int d0, .int d1]) := g1
  have ad := add_eq p h w p0.1 H.nh.1 H.nw.1 (by omega)
  have okb := ok_app H.nh.1 H.nw.1
  have nfb := nf_comb okb
  have lb := len_comb (h ++ w)
  rw [List.length_append] at lb
  have pa : passM (comb (h ++ w)) = fun i j => passM h i j + passM w i j := funext fun i => funext fun j => pass_add H.nh H.nw i j
  have sm := lsum_eq (max p 1).toNat (passM h) (passM w) (by omega)
  have e1 := told_eq p (comb (h ++ w)) _ ⟨by omega, by omega⟩ (by omega) pa
  have e2 := told_eq p (comb (h ++ w)) _ ⟨by omega, by omega⟩ (by omega) rfl
  have ct := cat_tup h w (by omega)
  have nm := norm_eq (.tup ((h ++ w).map tD)) (h ++ w) (.inl rfl) (okZ_of okb) (by rw [List.length_append]; omega)
  have tb := table_eq p (comb (h ++ w)) (max p 1).toNat (by omega) (by omega) nfb (by omega)
  obtain ⟨d, s1, s2, s3, s4⟩ := sub_eq p (comb (h ++ w)) w p0.1 nfb H.nw (fun q => by
    rw [comb_tot]
    have : tot (h ++ w) q = tot h q + tot w q := by unfold tot; rw [List.map_append, List.sum_append]
    have nb : 0 ≤ tot h q := sm_nonneg (f := fun t => wt t q) fun t _ => wt_nonneg t q
    omega) (by omega)
  have de : d = h := by
    have : comb d = comb h := comb_ext fun q => by
      rw [s3, comb_tot]
      have : tot (h ++ w) q = tot h q + tot w q := by unfold tot; rw [List.map_append, List.sum_append]
      omega
    rw [s2.2, H.nh.2] at this
    exact this
  rw [de] at s1
  have e3 := told_eq p h (passM h) ⟨by omega, by omega⟩ (by omega) rfl
  have c2 := fun x9 => c2_eq H ns hns d0 d1 b0 b1 x8 x9
  have i1 : ixD (.vec [.int d0, .int d1]) (.int 1) = some (.int d1) := iv1v _ _ _
  unfold T at c2 ⊢
  simp -implicitDefEqProofs only [C3_d_law, runF, eBinR, qFld, eMth, eMth0, eProp, lot_pure, lot_frz, lot_isO, eBad, sBad, gT, gCo, gNl, sAsg, sDput, eDget, eDget2, dicO, sPut, sPut2, sq_tup, sq_lst, sq_vec, sNx, sSeq, sIf, sRet, sSet, sEx, sBk, sCt, sFgt, fgt, eC, eV, eM, eBin, eUn, aNil, aCons, eTup, eLst, eFn, tB1, tAnd, tOr, tNot, eAnd, eOr, eNot, eIf, eCall, eCallK, pick, eQ, tQ1, qV, qC, qBin, qUn, qB, qAnd, qOr, qNot, qIf, qAndT, qOrT, qNotT, qChain, eChain, eLc, sFor, iSq, iRg1, iRg2, gN, itms, rst, eApp, D.frz, D.frzs, D.pure, D.pures, bind_ok, bind_ex, stmt_ok, stmt_ex, seq_nx, seq_rt, seq_ex, seq_bk, seq_ct, fgt_nx, fgt_bk, fgt_ct, fgt_rt, fgt_ex, out_nx, out_rt, out_ex, opt_some, optL_some, andB_tt, andB_ff, andB_some, orB_tt, orB_ff, orB_some, andX_tt, andX_ff, andX_some, orX_tt, orX_ff, orX_some, itAnd, itOr, itAndX, itOrX, Option.bind_some, List.map_cons, List.map_nil, List.length_cons, List.length_nil, List.cons_append, List.nil_append, List.getElem?_cons_zero, List.getElem?_cons_succ, List.getElem?_nil, List.set_cons_zero, List.set_cons_succ, List.replicate, addI_i, subD_i, ltD_i, leD_i, gtD_i, geD_i, eqS_int, neS_int, eqS_bl, neS_bl, max2_i, min2_i, maxL_i, minL_i, int1_i, intL_i, if_true, if_false, ite_true, ite_false, and_true, true_and, and_self, Bool.and_self, Bool.and_true, Bool.true_and, Bool.and_false, Bool.false_and, Bool.or_true, Bool.true_or, Bool.or_false, Bool.false_or, Bool.not_true, Bool.not_false, Nat.reduceAdd, Nat.reduceSub, Nat.reduceEqDiff, List.filterMap_cons, List.filterMap_nil, decide_true, decide_false, Bool.false_eq_true, reduceIte, Int.reduceAdd, Int.reduceSub, Int.reduceMul, Int.reduceNeg, Int.reduceLT, Int.reduceLE, Int.reduceEq, Int.reduceMod, Int.reduceDiv, Int.lt_irrefl, reduceCtorEq, D.frzs_int, D.pures_int, cap_0, cap_1, cap_2, cap_3, cap_4, cap_5, cap_6, cap_7, cap_8, cap_9, cap_10, cap_11, cap_12, cap_13, cap_14, cap_15, cap_16, cap_17, cap_18, cap_19, cap_20, cap_21, cap_22, cap_23, cap_24, cap_25, cap_26, cap_27, cap_28, cap_29, cap_30, cap_31, cap_32, cap_33, cap_34, cap_35, cap_36, cap_37, cap_38, cap_39, cap_40, eBor, brw, D.noL, D.noLs, sRaise, sTry, isE, qXf, cleanR, D.noX, D.noXs, rfX, boolF, eOwn, eOwnI, eDcT, eItT, Option.map_some, Option.map_none, Option.getD_some, C1_d_law_same, ad, tbl_frz, sm, e1, frzs_tD, ct, nm, tb, e2, s1, e3, hc, g1', i1, c2]
theorem c4_eq {p : Int} {h w : List T3} (H : Two p h w) (ns : List Int) (hns : ns.length ≤ 63) :
    C4_d_law [some (.lst (ns.map .int)), some (.int p), some (.tup (h.map tD)), some (.tup (w.map tD)), some (lotD p h), some (lotD p w), none, none, none, none, none, none, none, none, none, none] = .rt (.bl true) := by
  have p0 := H.p0
  have l1 := H.lh
  have l2 := H.lw
  have t1 := table_eq p h (max p 1).toNat (by omega) (by omega) H.nh (by omega)
  have t2 := table_eq p w (max p 1).toNat (by omega) (by omega) H.nw (by omega)
  have e1 := told_eq p h (passM h) ⟨by omega, by omega⟩ (by omega) rfl
  have e2 := told_eq p w (passM w) ⟨by omega, by omega⟩ (by omega) rfl
  have tf := tof_eq p h ⟨by omega, by omega⟩ (by omega)
  have mr := lmirror_eq (max p 1).toNat (passM h) (by omega)
  have sy : (fun i j => passM h j i) = passM h := funext fun i => funext fun j => pass_comm h j i
  rw [sy] at mr
  have dn := dne_tbl (max p 1).toNat (passM h)
  have c3 := c3_eq H ns hns (T p h)
  have hb : bnd (((max p 1).toNat : Nat) : Int) = true := bnd_of ⟨by omega, by omega⟩
  have key : lcl [14] (gN 14) tT E1_d_law ((List.range (max p 1).toNat).map fun (k : Nat) => D.int k) [] [some (.lst (ns.map .int)), some (.int p), some (.tup (h.map tD)), some (.tup (w.map tD)), some (lotD p h), some (lotD p w), some (T p h), some (T p w), some (T p h), none, none, none, none, none, none, none] = .ok ((List.range (max p 1).toNat).map fun (_ : Nat) => .int 0) [some (.lst (ns.map .int)), some (.int p), some (.tup (h.map tD)), some (.tup (w.map tD)), some (lotD p h), some (lotD p w), some (T p h), some (T p w), some (T p h), none, none, none, none, none, none, none] :=
    lcl_all (fun (k : Nat) => D.int k) (fun (_ : Nat) => .int 0) _ (by rw [List.length_range]; omega) fun k hk => by
      have hk' : 0 ≤ (k : Int) ∧ (k : Int) < (max p 1).toNat := by have := List.mem_range.mp hk; omega
      refine ⟨_, [some (.lst (ns.map .int)), some (.int p), some (.tup (h.map tD)), some (.tup (w.map tD)), some (lotD p h), some (lotD p w), some (T p h), some (T p w), some (T p h), none, none, none, none, none, some (.int k), none], rfl, ?_, rfl⟩
      unfold T
      simp -implicitDefEqProofs only [E1_d_law, runF, eBinR, qFld, eMth, eMth0, eProp, lot_pure, lot_frz, lot_isO, eBad, sBad, gT, gCo, gNl, sAsg, sDput, eDget, eDget2, dicO, sPut, sPut2, sq_tup, sq_lst, sq_vec, sNx, sSeq, sIf, sRet, sSet, sEx, sBk, sCt, sFgt, fgt, eC, eV, eM, eBin, eUn, aNil, aCons, eTup, eLst, eFn, tB1, tAnd, tOr, tNot, eAnd, eOr, eNot, eIf, eCall, eCallK, pick, eQ, tQ1, qV, qC, qBin, qUn, qB, qAnd, qOr, qNot, qIf, qAndT, qOrT, qNotT, qChain, eChain, eLc, sFor, iSq, iRg1, iRg2, gN, itms, rst, eApp, D.frz, D.frzs, D.pure, D.pures, bind_ok, bind_ex, stmt_ok, stmt_ex, seq_nx, seq_rt, seq_ex, seq_bk, seq_ct, fgt_nx, fgt_bk, fgt_ct, fgt_rt, fgt_ex, out_nx, out_rt, out_ex, opt_some, optL_some, andB_tt, andB_ff, andB_some, orB_tt, orB_ff, orB_some, andX_tt, andX_ff, andX_some, orX_tt, orX_ff, orX_some, itAnd, itOr, itAndX, itOrX, Option.bind_some, List.map_cons, List.map_nil, List.length_cons, List.length_nil, List.cons_append, List.nil_append, List.getElem?_cons_zero, List.getElem?_cons_succ, List.getElem?_nil, List.set_cons_zero, List.set_cons_succ, List.replicate, addI_i, subD_i, ltD_i, leD_i, gtD_i, geD_i, eqS_int, neS_int, eqS_bl, neS_bl, max2_i, min2_i, maxL_i, minL_i, int1_i, intL_i, if_true, if_false, ite_true, ite_false, and_true, true_and, and_self, Bool.and_self, Bool.and_true, Bool.true_and, Bool.and_false, Bool.false_and, Bool.or_true, Bool.true_or, Bool.or_false, Bool.false_or, Bool.not_true, Bool.not_false, Nat.reduceAdd, Nat.reduceSub, Nat.reduceEqDiff, List.filterMap_cons, List.filterMap_nil, decide_true, decide_false, Bool.false_eq_true, reduceIte, Int.reduceAdd, Int.reduceSub, Int.reduceMul, Int.reduceNeg, Int.reduceLT, Int.reduceLE, Int.reduceEq, Int.reduceMod, Int.reduceDiv, Int.lt_irrefl, reduceCtorEq, D.frzs_int, D.pures_int, cap_0, cap_1, cap_2, cap_3, cap_4, cap_5, cap_6, cap_7, cap_8, cap_9, cap_10, cap_11, cap_12, cap_13, cap_14, cap_15, cap_16, cap_17, cap_18, cap_19, cap_20, cap_21, cap_22, cap_23, cap_24, cap_25, cap_26, cap_27, cap_28, cap_29, cap_30, cap_31, cap_32, cap_33, cap_34, cap_35, cap_36, cap_37, cap_38, cap_39, cap_40, eBor, brw, D.noL, D.noLs, sRaise, sTry, isE, qXf, cleanR, D.noX, D.noXs, rfX, boolF, eOwn, eOwnI, eDcT, eItT, Option.map_some, Option.map_none, Option.getD_some, C1_d_law_same, ix_tbl _ _ _ hk', ix_row _ _ _ _ hk', pass_ii]
  have sz : sumL [.vec ((List.range (max p 1).toNat).map fun (_ : Nat) => .int 0)] = some (.int 0) := by
    rw [sum_ints (List.range (max p 1).toNat) fun _ => 0, sum_zeros]
  unfold T at key c3
  simp -implicitDefEqProofs only [C4_d_law, runF, eBinR, qFld, eMth, eMth0, eProp, lot_pure, lot_frz, lot_isO, eBad, sBad, gT, gCo, gNl, sAsg, sDput, eDget, eDget2, dicO, sPut, sPut2, sq_tup, sq_lst, sq_vec, sNx, sSeq, sIf, sRet, sSet, sEx, sBk, sCt, sFgt, fgt, eC, eV, eM, eBin, eUn, aNil, aCons, eTup, eLst, eFn, tB1, tAnd, tOr, tNot, eAnd, eOr, eNot, eIf, eCall, eCallK, pick, eQ, tQ1, qV, qC, qBin, qUn, qB, qAnd, qOr, qNot, qIf, qAndT, qOrT, qNotT, qChain, eChain, eLc, sFor, iSq, iRg1, iRg2, gN, itms, rst, eApp, D.frz, D.frzs, D.pure, D.pures, bind_ok, bind_ex, stmt_ok, stmt_ex, seq_nx, seq_rt, seq_ex, seq_bk, seq_ct, fgt_nx, fgt_bk, fgt_ct, fgt_rt, fgt_ex, out_nx, out_rt, out_ex, opt_some, optL_some, andB_tt, andB_ff, andB_some, orB_tt, orB_ff, orB_some, andX_tt, andX_ff, andX_some, orX_tt, orX_ff, orX_some, itAnd, itOr, itAndX, itOrX, Option.bind_some, List.map_cons, List.map_nil, List.length_cons, List.length_nil, List.cons_append, List.nil_append, List.getElem?_cons_zero, List.getElem?_cons_succ, List.getElem?_nil, List.set_cons_zero, List.set_cons_succ, List.replicate, addI_i, subD_i, ltD_i, leD_i, gtD_i, geD_i, eqS_int, neS_int, eqS_bl, neS_bl, max2_i, min2_i, maxL_i, minL_i, int1_i, intL_i, if_true, if_false, ite_true, ite_false, and_true, true_and, and_self, Bool.and_self, Bool.and_true, Bool.true_and, Bool.and_false, Bool.false_and, Bool.or_true, Bool.true_or, Bool.or_false, Bool.false_or, Bool.not_true, Bool.not_false, Nat.reduceAdd, Nat.reduceSub, Nat.reduceEqDiff, List.filterMap_cons, List.filterMap_nil, decide_true, decide_false, Bool.false_eq_true, reduceIte, Int.reduceAdd, Int.reduceSub, Int.reduceMul, Int.reduceNeg, Int.reduceLT, Int.reduceLE, Int.reduceEq, Int.reduceMod, Int.reduceDiv, Int.lt_irrefl, reduceCtorEq, D.frzs_int, D.pures_int, cap_0, cap_1, cap_2, cap_3, cap_4, cap_5, cap_6, cap_7, cap_8, cap_9, cap_10, cap_11, cap_12, cap_13, cap_14, cap_15, cap_16, cap_17, cap_18, cap_19, cap_20, cap_21, cap_22, cap_23, cap_24, cap_25, cap_26, cap_27, cap_28, cap_29, cap_30, cap_31, cap_32, cap_33, cap_34, cap_35, cap_36, cap_37, cap_38, cap_39, cap_40, eBor, brw, D.noL, D.noLs, sRaise, sTry, isE, qXf, cleanR, D.noX, D.noXs, rfX, boolF, eOwn, eOwnI, eDcT, eItT, Option.map_some, Option.map_none, Option.getD_some, C1_d_law_same, frzs_tD, t1, t2, tbl_frz, e1, e2, tf, mr, dn, len_tbl, hb, rng_eq, Int.sub_zero, Int.toNat_natCast, rng0, key, sz, c3]
theorem law_runs (ns : List Int) (hns : ns.length ≤ 63) : d_law [.lst (ns.map D.int)] = .rt (.bl true) := by
  obtain ⟨c0, h0⟩ := cell_eq ns 0 (by decide) (by decide) hns
  obtain ⟨c1, h1⟩ := cell_eq ns 1 (by decide) (by decide) hns
  obtain ⟨c2, h2⟩ := cell_eq ns 2 (by decide) (by decide) hns
  obtain ⟨p, hp, hp1⟩ := pins_eq c0
  obtain ⟨r1, g1, g2⟩ := digits_eq c1 [17] (by intro s hs; simp only [List.mem_cons, List.not_mem_nil, or_false] at hs; omega) (by decide)
  obtain ⟨n1, rfl, b1⟩ := inR1 g2
  have g1' : d_law_digits [.int c1, .lst [.int 17]] = .rt (.vec [.int n1]) := g1
  obtain ⟨r2, g3, g4⟩ := digits_eq c2 [17] (by intro s hs; simp only [List.mem_cons, List.not_mem_nil, or_false] at hs; omega) (by decide)
  obtain ⟨n2, rfl, b2⟩ := inR1 g4
  have g3' : d_law_digits [.int c2, .lst [.int 17]] = .rt (.vec [.int n2]) := g3
  obtain ⟨h, l1, l2, l3, l4⟩ := lot_eq ns 4 n1 p hns (by decide) (by omega) hp1
  obtain ⟨w, l5, l6, l7, _⟩ := lot_eq ns 20 n2 p hns (by decide) (by omega) hp1
  have H : Two p h w := ⟨hp1, l2, l6, by omega, by omega, l4⟩
  have m1 := make_nf p (.tup (h.map tD)) h (.inl rfl) hp1.1 l2 (by omega)
  have m2 := make_nf p (.tup (w.map tD)) w (.inl rfl) hp1.1 l6 (by omega)
  have c4 := c4_eq H ns hns
  simp -implicitDefEqProofs only [d_law, b_d_law, runF, eBinR, qFld, eMth, eMth0, eProp, lot_pure, lot_frz, lot_isO, eBad, sBad, gT, gCo, gNl, sAsg, sDput, eDget, eDget2, dicO, sPut, sPut2, sq_tup, sq_lst, sq_vec, sNx, sSeq, sIf, sRet, sSet, sEx, sBk, sCt, sFgt, fgt, eC, eV, eM, eBin, eUn, aNil, aCons, eTup, eLst, eFn, tB1, tAnd, tOr, tNot, eAnd, eOr, eNot, eIf, eCall, eCallK, pick, eQ, tQ1, qV, qC, qBin, qUn, qB, qAnd, qOr, qNot, qIf, qAndT, qOrT, qNotT, qChain, eChain, eLc, sFor, iSq, iRg1, iRg2, gN, itms, rst, eApp, D.frz, D.frzs, D.pure, D.pures, bind_ok, bind_ex, stmt_ok, stmt_ex, seq_nx, seq_rt, seq_ex, seq_bk, seq_ct, fgt_nx, fgt_bk, fgt_ct, fgt_rt, fgt_ex, out_nx, out_rt, out_ex, opt_some, optL_some, andB_tt, andB_ff, andB_some, orB_tt, orB_ff, orB_some, andX_tt, andX_ff, andX_some, orX_tt, orX_ff, orX_some, itAnd, itOr, itAndX, itOrX, Option.bind_some, List.map_cons, List.map_nil, List.length_cons, List.length_nil, List.cons_append, List.nil_append, List.getElem?_cons_zero, List.getElem?_cons_succ, List.getElem?_nil, List.set_cons_zero, List.set_cons_succ, List.replicate, addI_i, subD_i, ltD_i, leD_i, gtD_i, geD_i, eqS_int, neS_int, eqS_bl, neS_bl, max2_i, min2_i, maxL_i, minL_i, int1_i, intL_i, if_true, if_false, ite_true, ite_false, and_true, true_and, and_self, Bool.and_self, Bool.and_true, Bool.true_and, Bool.and_false, Bool.false_and, Bool.or_true, Bool.true_or, Bool.or_false, Bool.false_or, Bool.not_true, Bool.not_false, Nat.reduceAdd, Nat.reduceSub, Nat.reduceEqDiff, List.filterMap_cons, List.filterMap_nil, decide_true, decide_false, Bool.false_eq_true, reduceIte, Int.reduceAdd, Int.reduceSub, Int.reduceMul, Int.reduceNeg, Int.reduceLT, Int.reduceLE, Int.reduceEq, Int.reduceMod, Int.reduceDiv, Int.lt_irrefl, reduceCtorEq, D.frzs_int, D.pures_int, cap_0, cap_1, cap_2, cap_3, cap_4, cap_5, cap_6, cap_7, cap_8, cap_9, cap_10, cap_11, cap_12, cap_13, cap_14, cap_15, cap_16, cap_17, cap_18, cap_19, cap_20, cap_21, cap_22, cap_23, cap_24, cap_25, cap_26, cap_27, cap_28, cap_29, cap_30, cap_31, cap_32, cap_33, cap_34, cap_35, cap_36, cap_37, cap_38, cap_39, cap_40, eBor, brw, D.noL, D.noLs, sRaise, sTry, isE, qXf, cleanR, D.noX, D.noXs, rfX, boolF, eOwn, eOwnI, eDcT, eItT, Option.map_some, Option.map_none, Option.getD_some, C1_d_law_same, h0, h1, h2, hp, g1', g3', iv0v, l1, l5, frzs_tD, m1, m2, c4]

end Math

namespace Prg
open PySem L2 FL
open PyProof.Rows (envOfC)
theorem all_mk {l : PySem.W.OpenLaw} {w : World} {K : PySem.W.Frag} {h : Heap} {mg : Str → Option Value} {fa cA0 f0 f1 f2 f3 f4 f5 f6 f7 f8 f9 f10 f11 f12 p12 f13 f14 f15 f16 f17 f18 f19 f20 f21 f22 t22 e22 f23 f24 f25 f26 : Addr} (X : K.In h) (G : h.Ns mainGlobals mg) (hfa : mg "law" = some (.ref fa))
    {od0 an0 od1 an1 od2 an2 od3 an3 od4 an4 od5 an5 od6 an6 od7 an7 od8 an8 od9 an9 od10 an10 od11 an11 od12 an12 od13 an13 od14 an14 od15 an15 od16 an16 od17 an17 od18 an18 od19 an19 od20 an20 od21 an21 od22 an22 td22 ed22 od23 an23 od24 an24 od25 an25 od26 an26 : Option Addr} {sl0 sl1 sl2 sl3 sl4 sl5 sl6 sl7 sl8 sl9 sl10 sl11 sl12 sl13 sl14 sl15 sl16 sl17 sl18 sl19 sl20 sl21 sl22 ts22 es22 sl23 sl24 sl25 sl26 : Array (Option Value)} {oc0 kV0 dc0 pm0 cd0 ct0 oc1 kV1 dc1 pm1 cd1 ct1 oc2 kV2 dc2 pm2 cd2 ct2 oc3 kV3 dc3 pm3 cd3 ct3 oc4 kV4 dc4 pm4 cd4 ct4 oc5 kV5 dc5 pm5 cd5 ct5 oc6 kV6 dc6 pm6 cd6 ct6 oc7 kV7 dc7 pm7 cd7 ct7 oc8 kV8 dc8 pm8 cd8 ct8 oc9 kV9 dc9 pm9 cd9 ct9 oc10 kV10 dc10 pm10 cd10 ct10 oc11 kV11 dc11 pm11 cd11 ct11 oc12 kV12 dc12 pm12 cd12 ct12 oc13 kV13 dc13 pm13 cd13 ct13 oc14 kV14 dc14 pm14 cd14 ct14 oc15 kV15 dc15 pm15 cd15 ct15 oc16 kV16 dc16 pm16 cd16 ct16 oc17 kV17 dc17 pm17 cd17 ct17 oc18 kV18 dc18 pm18 cd18 ct18 oc19 kV19 dc19 pm19 cd19 ct19 oc20 kV20 dc20 pm20 cd20 ct20 oc21 kV21 dc21 pm21 cd21 ct21 oc22 kV22 dc22 pm22 cd22 ct22 tc22 oc23 kV23 dc23 pm23 cd23 ct23 oc24 kV24 dc24 pm24 cd24 ct24 oc25 kV25 dc25 pm25 cd25 ct25 oc26 kV26 dc26 pm26 cd26 ct26 : Value} {pr12 : List Value} {tn22 en22 : Nat} {mi_fo mi_ro : Option Value}
    (aC0 : PySem.W.nsIn K mainGlobals "Lot" = some (some (.ref cA0)))
    (pg0 : PySem.W.plainGet K cA0 Str.empty = true)
    (hd0 : PySem.W.hasDictIn K cA0 = true)
    (po0 : PySem.W.plainOver K cA0 = true)
    (sa0 : PySem.W.findIn K (.ref cA0) "__setattr__" = some (some (.builtin "object.__setattr__")))
    (mk0 : PySem.W.makesIn K cA0 = true)
    (kc0 : PySem.W.keepIn K (.ref cA0) = true)
    (sf0 : PySem.W.selfFirst K cA0 = true)
    (ia0 : PySem.W.findIn K (.ref cA0) "__class__" = some (some (.builtin "object.__class__")))
    (ib : PySem.W.specialIn K (.builtin "object.__class__") "__get__" = some (some (.builtin "getset_descriptor.__get__")))
    (ic : PySem.W.takesIn K (.builtin "object.__class__") = some true)
    (im0 : PySem.W.mroIn K cA0 (.type "object") = some true)
    (n0_0 : PySem.W.findIn K (.ref cA0) "pins" = some none)
    (n0_1 : PySem.W.findIn K (.ref cA0) "cords" = some none)
    (a0 : PySem.W.nsIn K mainGlobals "_law_digits" = some (some (.ref f0)))
    (l0 : K.lookup f0 = some ⟨oc0, od0, .func (PySem.W.fnOf "_law_digits" "_law_digits" (defArgs s_d_law_digits) (defBody s_d_law_digits) (defScope s_d_law_digits) .none kV0 dc0 pm0 an0 cd0 ct0), sl0⟩)
    (c0 : PySem.W.codeIn K cd0 "_law_digits" = true)
    (k0 : PySem.W.keepIn K (.ref f0) = true)
    (a1 : PySem.W.nsIn K mainGlobals "_law_pins" = some (some (.ref f1)))
    (l1 : K.lookup f1 = some ⟨oc1, od1, .func (PySem.W.fnOf "_law_pins" "_law_pins" (defArgs s_d_law_pins) (defBody s_d_law_pins) (defScope s_d_law_pins) .none kV1 dc1 pm1 an1 cd1 ct1), sl1⟩)
    (c1 : PySem.W.codeIn K cd1 "_law_pins" = true)
    (k1 : PySem.W.keepIn K (.ref f1) = true)
    (a2 : PySem.W.nsIn K mainGlobals "_law_cell" = some (some (.ref f2)))
    (l2 : K.lookup f2 = some ⟨oc2, od2, .func (PySem.W.fnOf "_law_cell" "_law_cell" (defArgs s_d_law_cell) (defBody s_d_law_cell) (defScope s_d_law_cell) .none kV2 dc2 pm2 an2 cd2 ct2), sl2⟩)
    (c2 : PySem.W.codeIn K cd2 "_law_cell" = true)
    (k2 : PySem.W.keepIn K (.ref f2) = true)
    (a3 : PySem.W.nsIn K mainGlobals "_law_norm" = some (some (.ref f3)))
    (l3 : K.lookup f3 = some ⟨oc3, od3, .func (PySem.W.fnOf "_law_norm" "_law_norm" (defArgs s_d_law_norm) (defBody s_d_law_norm) (defScope s_d_law_norm) .none kV3 dc3 pm3 an3 cd3 ct3), sl3⟩)
    (c3 : PySem.W.codeIn K cd3 "_law_norm" = true)
    (k3 : PySem.W.keepIn K (.ref f3) = true)
    (a4 : PySem.W.nsIn K mainGlobals "_law_lot" = some (some (.ref f4)))
    (l4 : K.lookup f4 = some ⟨oc4, od4, .func (PySem.W.fnOf "_law_lot" "_law_lot" (defArgs s_d_law_lot) (defBody s_d_law_lot) (defScope s_d_law_lot) .none kV4 dc4 pm4 an4 cd4 ct4), sl4⟩)
    (c4 : PySem.W.codeIn K cd4 "_law_lot" = true)
    (k4 : PySem.W.keepIn K (.ref f4) = true)
    (a5 : PySem.W.nsIn K mainGlobals "_law_table" = some (some (.ref f5)))
    (l5 : K.lookup f5 = some ⟨oc5, od5, .func (PySem.W.fnOf "_law_table" "_law_table" (defArgs s_d_law_table) (defBody s_d_law_table) (defScope s_d_law_table) .none kV5 dc5 pm5 an5 cd5 ct5), sl5⟩)
    (c5 : PySem.W.codeIn K cd5 "_law_table" = true)
    (k5 : PySem.W.keepIn K (.ref f5) = true)
    (a6 : PySem.W.nsIn K mainGlobals "_law_whole" = some (some (.ref f6)))
    (l6 : K.lookup f6 = some ⟨oc6, od6, .func (PySem.W.fnOf "_law_whole" "_law_whole" (defArgs s_d_law_whole) (defBody s_d_law_whole) (defScope s_d_law_whole) .none kV6 dc6 pm6 an6 cd6 ct6), sl6⟩)
    (c6 : PySem.W.codeIn K cd6 "_law_whole" = true)
    (k6 : PySem.W.keepIn K (.ref f6) = true)
    (a7 : PySem.W.nsIn K mainGlobals "_law_same" = some (some (.ref f7)))
    (l7 : K.lookup f7 = some ⟨oc7, od7, .func (PySem.W.fnOf "_law_same" "_law_same" (defArgs s_d_law_same) (defBody s_d_law_same) (defScope s_d_law_same) .none kV7 dc7 pm7 an7 cd7 ct7), sl7⟩)
    (c7 : PySem.W.codeIn K cd7 "_law_same" = true)
    (k7 : PySem.W.keepIn K (.ref f7) = true)
    (a8 : PySem.W.nsIn K mainGlobals "gaps" = some (some (.ref f8)))
    (l8 : K.lookup f8 = some ⟨oc8, od8, .func (PySem.W.fnOf "gaps" "gaps" (defArgs s_d_gaps) (defBody s_d_gaps) (defScope s_d_gaps) .none kV8 dc8 pm8 an8 cd8 ct8), sl8⟩)
    (c8 : PySem.W.codeIn K cd8 "gaps" = true)
    (k8 : PySem.W.keepIn K (.ref f8) = true)
    (a9 : PySem.W.nsIn K mainGlobals "raw_passing" = some (some (.ref f9)))
    (l9 : K.lookup f9 = some ⟨oc9, od9, .func (PySem.W.fnOf "raw_passing" "raw_passing" (defArgs s_d_raw_passing) (defBody s_d_raw_passing) (defScope s_d_raw_passing) .none kV9 dc9 pm9 an9 cd9 ct9), sl9⟩)
    (c9 : PySem.W.codeIn K cd9 "raw_passing" = true)
    (k9 : PySem.W.keepIn K (.ref f9) = true)
    (a10 : PySem.W.nsIn K mainGlobals "raw_table" = some (some (.ref f10)))
    (l10 : K.lookup f10 = some ⟨oc10, od10, .func (PySem.W.fnOf "raw_table" "raw_table" (defArgs s_d_raw_table) (defBody s_d_raw_table) (defScope s_d_raw_table) .none kV10 dc10 pm10 an10 cd10 ct10), sl10⟩)
    (c10 : PySem.W.codeIn K cd10 "raw_table" = true)
    (k10 : PySem.W.keepIn K (.ref f10) = true)
    (a11 : PySem.W.nsIn K mainGlobals "table_of" = some (some (.ref f11)))
    (l11 : K.lookup f11 = some ⟨oc11, od11, .func (PySem.W.fnOf "table_of" "table_of" (defArgs s_d_table_of) (defBody s_d_table_of) (defScope s_d_table_of) .none kV11 dc11 pm11 an11 cd11 ct11), sl11⟩)
    (c11 : PySem.W.codeIn K cd11 "table_of" = true)
    (k11 : PySem.W.keepIn K (.ref f11) = true)
    (a12 : PySem.W.findIn K (.ref cA0) "table" = some (some (.ref p12)))
    (g12 : PySem.W.specialIn K (.ref p12) "__get__" = some (some (.builtin "property.__get__")))
    (u12 : PySem.W.takesIn K (.ref p12) = some true)
    (r12 : PySem.W.recIn K p12 "property" = some (.ref f12 :: pr12))
    (l12 : K.lookup f12 = some ⟨oc12, od12, .func (PySem.W.fnOf "table" "Lot.table" (defArgs s_d_Lot_table) (defBody s_d_Lot_table) (defScope s_d_Lot_table) .none kV12 dc12 pm12 an12 cd12 ct12), sl12⟩)
    (c12 : PySem.W.codeIn K cd12 "Lot.table" = true)
    (k12 : PySem.W.keepIn K (.ref f12) = true)
    (a13 : PySem.W.nsIn K mainGlobals "_law_told" = some (some (.ref f13)))
    (l13 : K.lookup f13 = some ⟨oc13, od13, .func (PySem.W.fnOf "_law_told" "_law_told" (defArgs s_d_law_told) (defBody s_d_law_told) (defScope s_d_law_told) .none kV13 dc13 pm13 an13 cd13 ct13), sl13⟩)
    (c13 : PySem.W.codeIn K cd13 "_law_told" = true)
    (k13 : PySem.W.keepIn K (.ref f13) = true)
    (a14 : PySem.W.nsIn K mainGlobals "_law_mirror" = some (some (.ref f14)))
    (l14 : K.lookup f14 = some ⟨oc14, od14, .func (PySem.W.fnOf "_law_mirror" "_law_mirror" (defArgs s_d_law_mirror) (defBody s_d_law_mirror) (defScope s_d_law_mirror) .none kV14 dc14 pm14 an14 cd14 ct14), sl14⟩)
    (c14 : PySem.W.codeIn K cd14 "_law_mirror" = true)
    (k14 : PySem.W.keepIn K (.ref f14) = true)
    (a15 : PySem.W.nsIn K mainGlobals "_law_sum" = some (some (.ref f15)))
    (l15 : K.lookup f15 = some ⟨oc15, od15, .func (PySem.W.fnOf "_law_sum" "_law_sum" (defArgs s_d_law_sum) (defBody s_d_law_sum) (defScope s_d_law_sum) .none kV15 dc15 pm15 an15 cd15 ct15), sl15⟩)
    (c15 : PySem.W.codeIn K cd15 "_law_sum" = true)
    (k15 : PySem.W.keepIn K (.ref f15) = true)
    (a16 : PySem.W.nsIn K mainGlobals "_law_times" = some (some (.ref f16)))
    (l16 : K.lookup f16 = some ⟨oc16, od16, .func (PySem.W.fnOf "_law_times" "_law_times" (defArgs s_d_law_times) (defBody s_d_law_times) (defScope s_d_law_times) .none kV16 dc16 pm16 an16 cd16 ct16), sl16⟩)
    (c16 : PySem.W.codeIn K cd16 "_law_times" = true)
    (k16 : PySem.W.keepIn K (.ref f16) = true)
    (a17 : PySem.W.nsIn K mainGlobals "_law_lot_is" = some (some (.ref f17)))
    (l17 : K.lookup f17 = some ⟨oc17, od17, .func (PySem.W.fnOf "_law_lot_is" "_law_lot_is" (defArgs s_d_law_lot_is) (defBody s_d_law_lot_is) (defScope s_d_law_lot_is) .none kV17 dc17 pm17 an17 cd17 ct17), sl17⟩)
    (c17 : PySem.W.codeIn K cd17 "_law_lot_is" = true)
    (k17 : PySem.W.keepIn K (.ref f17) = true)
    (a18 : PySem.W.nsIn K mainGlobals "is_whole" = some (some (.ref f18)))
    (l18 : K.lookup f18 = some ⟨oc18, od18, .func (PySem.W.fnOf "is_whole" "is_whole" (defArgs s_d_is_whole) (defBody s_d_is_whole) (defScope s_d_is_whole) .none kV18 dc18 pm18 an18 cd18 ct18), sl18⟩)
    (c18 : PySem.W.codeIn K cd18 "is_whole" = true)
    (k18 : PySem.W.keepIn K (.ref f18) = true)
    (a19 : PySem.W.nsIn K mainGlobals "is_pin" = some (some (.ref f19)))
    (l19 : K.lookup f19 = some ⟨oc19, od19, .func (PySem.W.fnOf "is_pin" "is_pin" (defArgs s_d_is_pin) (defBody s_d_is_pin) (defScope s_d_is_pin) .none kV19 dc19 pm19 an19 cd19 ct19), sl19⟩)
    (c19 : PySem.W.codeIn K cd19 "is_pin" = true)
    (k19 : PySem.W.keepIn K (.ref f19) = true)
    (a20 : PySem.W.nsIn K mainGlobals "is_entry" = some (some (.ref f20)))
    (l20 : K.lookup f20 = some ⟨oc20, od20, .func (PySem.W.fnOf "is_entry" "is_entry" (defArgs s_d_is_entry) (defBody s_d_is_entry) (defScope s_d_is_entry) .none kV20 dc20 pm20 an20 cd20 ct20), sl20⟩)
    (c20 : PySem.W.codeIn K cd20 "is_entry" = true)
    (k20 : PySem.W.keepIn K (.ref f20) = true)
    (a21 : PySem.W.nsIn K mainGlobals "combined" = some (some (.ref f21)))
    (l21 : K.lookup f21 = some ⟨oc21, od21, .func (PySem.W.fnOf "combined" "combined" (defArgs s_d_combined) (defBody s_d_combined) (defScope s_d_combined) .none kV21 dc21 pm21 an21 cd21 ct21), sl21⟩)
    (c21 : PySem.W.codeIn K cd21 "combined" = true)
    (k21 : PySem.W.keepIn K (.ref f21) = true)
    (a22 : PySem.W.findIn K (.ref cA0) "__init__" = some (some (.ref f22)))
    (i22 : PySem.W.isFn K (.ref f22) = true)
    (l22 : K.lookup f22 = some ⟨oc22, od22, .func (PySem.W.fnOf "__init__" "Lot.__init__" (defArgs s_d_Lot___init__) (defBody s_d_Lot___init__) (defScope s_d_Lot___init__) (.ref t22) kV22 dc22 pm22 an22 cd22 ct22), sl22⟩)
    (t22l : K.lookup t22 = some ⟨tc22, td22, .seq #[Value.ref e22] tn22, ts22⟩)
    (e22l : K.lookup e22 = some ⟨.type "tuple", ed22, .seq #[] en22, es22⟩)
    (c22 : PySem.W.codeIn K cd22 "Lot.__init__" = true)
    (k22 : PySem.W.keepIn K (.ref f22) = true)
    (a23 : PySem.W.findIn K (.ref cA0) "__add__" = some (some (.ref f23)))
    (i23 : PySem.W.isFn K (.ref f23) = true)
    (l23 : K.lookup f23 = some ⟨oc23, od23, .func (PySem.W.fnOf "__add__" "Lot.__add__" (defArgs s_d_Lot___add__) (defBody s_d_Lot___add__) (defScope s_d_Lot___add__) .none kV23 dc23 pm23 an23 cd23 ct23), sl23⟩)
    (c23 : PySem.W.codeIn K cd23 "Lot.__add__" = true)
    (k23 : PySem.W.keepIn K (.ref f23) = true)
    (a24 : PySem.W.findIn K (.ref cA0) "__sub__" = some (some (.ref f24)))
    (i24 : PySem.W.isFn K (.ref f24) = true)
    (l24 : K.lookup f24 = some ⟨oc24, od24, .func (PySem.W.fnOf "__sub__" "Lot.__sub__" (defArgs s_d_Lot___sub__) (defBody s_d_Lot___sub__) (defScope s_d_Lot___sub__) .none kV24 dc24 pm24 an24 cd24 ct24), sl24⟩)
    (c24 : PySem.W.codeIn K cd24 "Lot.__sub__" = true)
    (k24 : PySem.W.keepIn K (.ref f24) = true)
    (a25 : PySem.W.findIn K (.ref cA0) "__mul__" = some (some (.ref f25)))
    (i25 : PySem.W.isFn K (.ref f25) = true)
    (l25 : K.lookup f25 = some ⟨oc25, od25, .func (PySem.W.fnOf "__mul__" "Lot.__mul__" (defArgs s_d_Lot___mul__) (defBody s_d_Lot___mul__) (defScope s_d_Lot___mul__) .none kV25 dc25 pm25 an25 cd25 ct25), sl25⟩)
    (c25 : PySem.W.codeIn K cd25 "Lot.__mul__" = true)
    (k25 : PySem.W.keepIn K (.ref f25) = true)
    (a26 : PySem.W.nsIn K mainGlobals "law" = some (some (.ref f26)))
    (l26 : K.lookup f26 = some ⟨oc26, od26, .func (PySem.W.fnOf "law" "law" (defArgs s_d_law) (defBody s_d_law) (defScope s_d_law) .none kV26 dc26 pm26 an26 cd26 ct26), sl26⟩)
    (c26 : PySem.W.codeIn K cd26 "law" = true)
    (k26 : PySem.W.keepIn K (.ref f26) = true)
    (z_bool : PySem.W.nsIn K mainGlobals "bool" = some none)
    (z_int : PySem.W.nsIn K mainGlobals "int" = some none)
    (z_isinstance : PySem.W.nsIn K mainGlobals "isinstance" = some none)
    (z_len : PySem.W.nsIn K mainGlobals "len" = some none)
    (z_list : PySem.W.nsIn K mainGlobals "list" = some none)
    (z_max : PySem.W.nsIn K mainGlobals "max" = some none)
    (z_min : PySem.W.nsIn K mainGlobals "min" = some none)
    (z_range : PySem.W.nsIn K mainGlobals "range" = some none)
    (z_sorted : PySem.W.nsIn K mainGlobals "sorted" = some none)
    (z_str : PySem.W.nsIn K mainGlobals "str" = some none)
    (z_sum : PySem.W.nsIn K mainGlobals "sum" = some none)
    (z_tuple : PySem.W.nsIn K mainGlobals "tuple" = some none)
    (mi_r : PySem.W.findIn K (.ref cA0) "__rmul__" = some none)
    (mi_o : PySem.W.findIn K (.type "int") "__mul__" = some mi_fo)
    (mi_v : PySem.W.findIn K (.type "int") "__rmul__" = some mi_ro)
    (mi_s : PySem.W.subIn K (.type "int") (.ref cA0) = some false)
    : ∃ fd : FuncData, (∀ (s : Shared) (v : Value), BindsTo s fd ⟨[v], []⟩ [("_law_script", v)]) ∧ ∀ base : Heap, K.In base → base.Ns mainGlobals mg → FnOk l.prog w K mg base (L2N.CX l.prog w) 9 fa fd ["_law_script"] (spTop K d_law) := by
  have e := hfa.symm.trans (PySem.W.mg_of X G a26)
  cases e
  have T : Txt mg := ⟨PySem.W.mg_none_of X G z_bool, PySem.W.mg_none_of X G z_int, PySem.W.mg_none_of X G z_isinstance, PySem.W.mg_none_of X G z_len, PySem.W.mg_none_of X G z_list, PySem.W.mg_none_of X G z_max, PySem.W.mg_none_of X G z_min, PySem.W.mg_none_of X G z_range, PySem.W.mg_none_of X G z_sorted, PySem.W.mg_none_of X G z_str, PySem.W.mg_none_of X G z_sum, PySem.W.mg_none_of X G z_tuple⟩
  have cls0 : Cls K cA0 := ⟨pg0, hd0, po0, sa0⟩
  let cl0 : Tb := ⟨fun n => match n with | 0 => ⟨cA0, ["pins", "cords"]⟩ | _ => ⟨0, []⟩, none, 0, 0, .none⟩
  let ea : Nat → Addr := fun n => match n with  | _ => 0
  have T0 : ClsT K mg cl0 0 "Lot" ["pins", "cords"] := ⟨PySem.W.mg_of X G aC0, rfl, cls0, (List.forall_mem_cons.mpr ⟨n0_0, (List.forall_mem_cons.mpr ⟨n0_1, (List.forall_mem_nil _)⟩)⟩), ⟨cls0, ia0, ib, ic, im0⟩, sf0, kit_self _ _⟩
  have F0 := fun_mk (st := s_d_law_digits) l0 c0 k0
  have F1 := fun_mk (st := s_d_law_pins) l1 c1 k1
  have F2 := fun_mk (st := s_d_law_cell) l2 c2 k2
  have F3 := fun_mk (st := s_d_law_norm) l3 c3 k3
  have F4 := fun_mk (st := s_d_law_lot) l4 c4 k4
  have F5 := fun_mk (st := s_d_law_table) l5 c5 k5
  have F6 := fun_mk (st := s_d_law_whole) l6 c6 k6
  have F7 := fun_mk (st := s_d_law_same) l7 c7 k7
  have F8 := fun_mk (st := s_d_gaps) l8 c8 k8
  have F9 := fun_mk (st := s_d_raw_passing) l9 c9 k9
  have F10 := fun_mk (st := s_d_raw_table) l10 c10 k10
  have F11 := fun_mk (st := s_d_table_of) l11 c11 k11
  have F12 := fun_mk (st := s_d_Lot_table) l12 c12 k12
  have F13 := fun_mk (st := s_d_law_told) l13 c13 k13
  have F14 := fun_mk (st := s_d_law_mirror) l14 c14 k14
  have F15 := fun_mk (st := s_d_law_sum) l15 c15 k15
  have F16 := fun_mk (st := s_d_law_times) l16 c16 k16
  have F17 := fun_mk (st := s_d_law_lot_is) l17 c17 k17
  have F18 := fun_mk (st := s_d_is_whole) l18 c18 k18
  have F19 := fun_mk (st := s_d_is_pin) l19 c19 k19
  have F20 := fun_mk (st := s_d_is_entry) l20 c20 k20
  have F21 := fun_mk (st := s_d_combined) l21 c21 k21
  have F22 : FunD K "__init__" "Lot.__init__" (defArgs s_d_Lot___init__) (defBody s_d_Lot___init__) (defScope s_d_Lot___init__) [V.ref e22] [] f22 _ := ⟨⟨oc22, od22, .ref t22, kV22, dc22, pm22, an22, cd22, ct22, sl22, rfl, l22, c22, .inr ⟨List.cons_ne_nil _ _, t22, _, [Value.ref e22], tn22, rfl, t22l, rfl, .cons rfl .nil⟩, .inl rfl⟩, k22⟩
  have F23 := fun_mk (st := s_d_Lot___add__) l23 c23 k23
  have F24 := fun_mk (st := s_d_Lot___sub__) l24 c24 k24
  have F25 := fun_mk (st := s_d_Lot___mul__) l25 c25 k25
  have F26 := fun_mk (st := s_d_law) l26 c26 k26
  refine ⟨PySem.W.fnOf "law" "law" (defArgs s_d_law) (defBody s_d_law) (defScope s_d_law) .none kV26 dc26 pm26 an26 cd26 ct26, fun s v => .of_eq rfl, fun base _ _ => ?_⟩
  have XE0 : ErrT l.prog w K mg base cl0 ea := ⟨⟨⟨none, mi_r, .inl rfl⟩, ⟨_, mi_o⟩, ⟨_, mi_v⟩, mi_s⟩⟩
  have o_d_law_digits := fun (cl : Tb) (C0 : ClsT K mg cl 0 "Lot" ["pins", "cords"]) (XE : ErrT l.prog w K mg base cl ea) (h0 : (cl 0).at_ = cA0) => ok_d_law_digits (P := l.prog) (w := w) (mg := mg) (base := base) (cl := cl) F0 T C0 XE 
  have h_d_law_digits := fun (cl : Tb) (C0 : ClsT K mg cl 0 "Lot" ["pins", "cords"]) (XE : ErrT l.prog w K mg base cl ea) (h0 : (cl 0).at_ = cA0) => fnc_mk (cl := cl) (o_d_law_digits cl C0 XE h0) (PySem.W.mg_of X G a0) k0 (F0.binds (ps := ["_law_cell_here", "_law_sizes"]) fun _ _ _ _ _ _ us hl => match us, hl with | [_, _], _ => rfl) runF_len
  have o_d_law_pins := fun (cl : Tb) (C0 : ClsT K mg cl 0 "Lot" ["pins", "cords"]) (XE : ErrT l.prog w K mg base cl ea) (h0 : (cl 0).at_ = cA0) => ok_d_law_pins (P := l.prog) (w := w) (mg := mg) (base := base) (cl := cl) F1 T C0 XE (h_d_law_digits cl C0 XE h0)
  have h_d_law_pins := fun (cl : Tb) (C0 : ClsT K mg cl 0 "Lot" ["pins", "cords"]) (XE : ErrT l.prog w K mg base cl ea) (h0 : (cl 0).at_ = cA0) => fnc_mk (cl := cl) (o_d_law_pins cl C0 XE h0) (PySem.W.mg_of X G a1) k1 (F1.binds (ps := ["_law_cell_here"]) fun _ _ _ _ _ _ us hl => match us, hl with | [_], _ => rfl) runF_len
  have o_d_law_cell := fun (cl : Tb) (C0 : ClsT K mg cl 0 "Lot" ["pins", "cords"]) (XE : ErrT l.prog w K mg base cl ea) (h0 : (cl 0).at_ = cA0) => ok_d_law_cell (P := l.prog) (w := w) (mg := mg) (base := base) (cl := cl) F2 T C0 XE 
  have h_d_law_cell := fun (cl : Tb) (C0 : ClsT K mg cl 0 "Lot" ["pins", "cords"]) (XE : ErrT l.prog w K mg base cl ea) (h0 : (cl 0).at_ = cA0) => fnc_mk (cl := cl) (o_d_law_cell cl C0 XE h0) (PySem.W.mg_of X G a2) k2 (F2.binds (ps := ["_law_script", "_law_k"]) fun _ _ _ _ _ _ us hl => match us, hl with | [_, _], _ => rfl) runF_len
  have o_d_law_norm := fun (cl : Tb) (C0 : ClsT K mg cl 0 "Lot" ["pins", "cords"]) (XE : ErrT l.prog w K mg base cl ea) (h0 : (cl 0).at_ = cA0) => ok_d_law_norm (P := l.prog) (w := w) (mg := mg) (base := base) (cl := cl) F3 T C0 XE 
  have h_d_law_norm := fun (cl : Tb) (C0 : ClsT K mg cl 0 "Lot" ["pins", "cords"]) (XE : ErrT l.prog w K mg base cl ea) (h0 : (cl 0).at_ = cA0) => fnc_mk (cl := cl) (o_d_law_norm cl C0 XE h0) (PySem.W.mg_of X G a3) k3 (F3.binds (ps := ["_law_triples"]) fun _ _ _ _ _ _ us hl => match us, hl with | [_], _ => rfl) runF_len
  have o_d_law_lot := fun (cl : Tb) (C0 : ClsT K mg cl 0 "Lot" ["pins", "cords"]) (XE : ErrT l.prog w K mg base cl ea) (h0 : (cl 0).at_ = cA0) => ok_d_law_lot (P := l.prog) (w := w) (mg := mg) (base := base) (cl := cl) F4 T C0 XE (h_d_law_digits cl C0 XE h0) (h_d_law_cell cl C0 XE h0) (h_d_law_norm cl C0 XE h0)
  have h_d_law_lot := fun (cl : Tb) (C0 : ClsT K mg cl 0 "Lot" ["pins", "cords"]) (XE : ErrT l.prog w K mg base cl ea) (h0 : (cl 0).at_ = cA0) => fnc_mk (cl := cl) (o_d_law_lot cl C0 XE h0) (PySem.W.mg_of X G a4) k4 (F4.binds (ps := ["_law_script", "_law_start", "_law_count", "_law_pins_here"]) fun _ _ _ _ _ _ us hl => match us, hl with | [_, _, _, _], _ => rfl) runF_len
  have o_d_law_table := fun (cl : Tb) (C0 : ClsT K mg cl 0 "Lot" ["pins", "cords"]) (XE : ErrT l.prog w K mg base cl ea) (h0 : (cl 0).at_ = cA0) => ok_d_law_table (P := l.prog) (w := w) (mg := mg) (base := base) (cl := cl) F5 T C0 XE 
  have h_d_law_table := fun (cl : Tb) (C0 : ClsT K mg cl 0 "Lot" ["pins", "cords"]) (XE : ErrT l.prog w K mg base cl ea) (h0 : (cl 0).at_ = cA0) => fnc_mk (cl := cl) (o_d_law_table cl C0 XE h0) (PySem.W.mg_of X G a5) k5 (F5.binds (ps := ["_law_pins_here", "_law_bunch"]) fun _ _ _ _ _ _ us hl => match us, hl with | [_, _], _ => rfl) runF_len
  have o_d_law_whole := fun (cl : Tb) (C0 : ClsT K mg cl 0 "Lot" ["pins", "cords"]) (XE : ErrT l.prog w K mg base cl ea) (h0 : (cl 0).at_ = cA0) => ok_d_law_whole (P := l.prog) (w := w) (mg := mg) (base := base) (cl := cl) F6 T C0 XE 
  have h_d_law_whole := fun (cl : Tb) (C0 : ClsT K mg cl 0 "Lot" ["pins", "cords"]) (XE : ErrT l.prog w K mg base cl ea) (h0 : (cl 0).at_ = cA0) => fnc_mk (cl := cl) (o_d_law_whole cl C0 XE h0) (PySem.W.mg_of X G a6) k6 (F6.binds (ps := ["_law_value"]) fun _ _ _ _ _ _ us hl => match us, hl with | [_], _ => rfl) runF_len
  have o_d_law_same := fun (cl : Tb) (C0 : ClsT K mg cl 0 "Lot" ["pins", "cords"]) (XE : ErrT l.prog w K mg base cl ea) (h0 : (cl 0).at_ = cA0) => ok_d_law_same (P := l.prog) (w := w) (mg := mg) (base := base) (cl := cl) F7 T C0 XE (h_d_law_whole cl C0 XE h0) (fun k m hl F => fnc_mk F (PySem.W.mg_of X G a7) k7 (F7.binds (ps := ["_law_value", "_law_due"]) fun _ _ _ _ _ _ us hl => match us, hl with | [_, _], _ => rfl) hl)
  have h_d_law_same := fun (cl : Tb) (C0 : ClsT K mg cl 0 "Lot" ["pins", "cords"]) (XE : ErrT l.prog w K mg base cl ea) (h0 : (cl 0).at_ = cA0) => fnc_mk (cl := cl) (o_d_law_same cl C0 XE h0) (PySem.W.mg_of X G a7) k7 (F7.binds (ps := ["_law_value", "_law_due"]) fun _ _ _ _ _ _ us hl => match us, hl with | [_, _], _ => rfl) (fuel_len (fun _ => runF_len) _)
  have o_d_gaps := fun (cl : Tb) (C0 : ClsT K mg cl 0 "Lot" ["pins", "cords"]) (XE : ErrT l.prog w K mg base cl ea) (h0 : (cl 0).at_ = cA0) => ok_d_gaps (P := l.prog) (w := w) (mg := mg) (base := base) (cl := cl) F8 T C0 XE 
  have h_d_gaps := fun (cl : Tb) (C0 : ClsT K mg cl 0 "Lot" ["pins", "cords"]) (XE : ErrT l.prog w K mg base cl ea) (h0 : (cl 0).at_ = cA0) => fnc_mk (cl := cl) (o_d_gaps cl C0 XE h0) (PySem.W.mg_of X G a8) k8 (F8.binds (ps := ["pins"]) fun _ _ _ _ _ _ us hl => match us, hl with | [_], _ => rfl) runF_len
  have o_d_raw_passing := fun (cl : Tb) (C0 : ClsT K mg cl 0 "Lot" ["pins", "cords"]) (XE : ErrT l.prog w K mg base cl ea) (h0 : (cl 0).at_ = cA0) => ok_d_raw_passing (P := l.prog) (w := w) (mg := mg) (base := base) (cl := cl) F9 T C0 XE 
  have h_d_raw_passing := fun (cl : Tb) (C0 : ClsT K mg cl 0 "Lot" ["pins", "cords"]) (XE : ErrT l.prog w K mg base cl ea) (h0 : (cl 0).at_ = cA0) => fnc_mk (cl := cl) (o_d_raw_passing cl C0 XE h0) (PySem.W.mg_of X G a9) k9 (F9.binds (ps := ["cords", "i", "j"]) fun _ _ _ _ _ _ us hl => match us, hl with | [_, _, _], _ => rfl) runF_len
  have o_d_raw_table := fun (cl : Tb) (C0 : ClsT K mg cl 0 "Lot" ["pins", "cords"]) (XE : ErrT l.prog w K mg base cl ea) (h0 : (cl 0).at_ = cA0) => ok_d_raw_table (P := l.prog) (w := w) (mg := mg) (base := base) (cl := cl) F10 T C0 XE (h_d_gaps cl C0 XE h0) (h_d_raw_passing cl C0 XE h0)
  have h_d_raw_table := fun (cl : Tb) (C0 : ClsT K mg cl 0 "Lot" ["pins", "cords"]) (XE : ErrT l.prog w K mg base cl ea) (h0 : (cl 0).at_ = cA0) => fnc_mk (cl := cl) (o_d_raw_table cl C0 XE h0) (PySem.W.mg_of X G a10) k10 (F10.binds (ps := ["pins", "cords"]) fun _ _ _ _ _ _ us hl => match us, hl with | [_, _], _ => rfl) runF_len
  have o_d_table_of := fun (cl : Tb) (C0 : ClsT K mg cl 0 "Lot" ["pins", "cords"]) (XE : ErrT l.prog w K mg base cl ea) (h0 : (cl 0).at_ = cA0) => ok_d_table_of (P := l.prog) (w := w) (mg := mg) (base := base) (cl := cl) F11 T C0 XE (h_d_raw_table cl C0 XE h0)
  have h_d_table_of := fun (cl : Tb) (C0 : ClsT K mg cl 0 "Lot" ["pins", "cords"]) (XE : ErrT l.prog w K mg base cl ea) (h0 : (cl 0).at_ = cA0) => fnc_mk (cl := cl) (o_d_table_of cl C0 XE h0) (PySem.W.mg_of X G a11) k11 (F11.binds (ps := ["lot"]) fun _ _ _ _ _ _ us hl => match us, hl with | [_], _ => rfl) runF_len
  have k_d_table_of_klot_0 := fun (cl : Tb) (C0 : ClsT K mg cl 0 "Lot" ["pins", "cords"]) (XE : ErrT l.prog w K mg base cl ea) (h0 : (cl 0).at_ = cA0) => fncK_mk (cl := cl) (nu := 0) (ks := ["lot"]) (idx := [0]) (o_d_table_of cl C0 XE h0) (PySem.W.mg_of X G a11) k11 runF_len (fun us ws h1 h2 => match us, ws, h1, h2 with | [], [_], _, _ => rfl)
  have o_d_Lot_table := fun (cl : Tb) (C0 : ClsT K mg cl 0 "Lot" ["pins", "cords"]) (XE : ErrT l.prog w K mg base cl ea) (h0 : (cl 0).at_ = cA0) => ok_d_Lot_table (P := l.prog) (w := w) (mg := mg) (base := base) (cl := cl) F12 T C0 XE (h_d_raw_table cl C0 XE h0)
  have P_d_Lot_table : ∀ (cl : Tb) (C0 : ClsT K mg cl 0 "Lot" ["pins", "cords"]) (XE : ErrT l.prog w K mg base cl ea) (h0 : (cl 0).at_ = cA0), PrpC l.prog w K mg base cl 0 "table" 3 d_Lot_table := fun (cl : Tb) (C0 : ClsT K mg cl 0 "Lot" ["pins", "cords"]) (XE : ErrT l.prog w K mg base cl ea) (h0 : (cl 0).at_ = cA0) => by
    subst h0
    exact prpC_mk (o_d_Lot_table cl C0 XE rfl) C0.cls a12 g12 u12 r12 (F12.binds (ps := ["self"]) fun _ _ _ _ _ _ us hl => match us, hl with | [_], _ => rfl)
  have o_d_law_told := fun (cl : Tb) (C0 : ClsT K mg cl 0 "Lot" ["pins", "cords"]) (XE : ErrT l.prog w K mg base cl ea) (h0 : (cl 0).at_ = cA0) => ok_d_law_told (P := l.prog) (w := w) (mg := mg) (base := base) (cl := cl) F13 T C0 XE (h_d_law_same cl C0 XE h0) (h_d_table_of cl C0 XE h0) (P_d_Lot_table cl C0 XE h0)
  have h_d_law_told := fun (cl : Tb) (C0 : ClsT K mg cl 0 "Lot" ["pins", "cords"]) (XE : ErrT l.prog w K mg base cl ea) (h0 : (cl 0).at_ = cA0) => fnc_mk (cl := cl) (o_d_law_told cl C0 XE h0) (PySem.W.mg_of X G a13) k13 (F13.binds (ps := ["_law_thing", "_law_table_here"]) fun _ _ _ _ _ _ us hl => match us, hl with | [_, _], _ => rfl) runF_len
  have o_d_law_mirror := fun (cl : Tb) (C0 : ClsT K mg cl 0 "Lot" ["pins", "cords"]) (XE : ErrT l.prog w K mg base cl ea) (h0 : (cl 0).at_ = cA0) => ok_d_law_mirror (P := l.prog) (w := w) (mg := mg) (base := base) (cl := cl) F14 T C0 XE 
  have h_d_law_mirror := fun (cl : Tb) (C0 : ClsT K mg cl 0 "Lot" ["pins", "cords"]) (XE : ErrT l.prog w K mg base cl ea) (h0 : (cl 0).at_ = cA0) => fnc_mk (cl := cl) (o_d_law_mirror cl C0 XE h0) (PySem.W.mg_of X G a14) k14 (F14.binds (ps := ["_law_table_here"]) fun _ _ _ _ _ _ us hl => match us, hl with | [_], _ => rfl) runF_len
  have o_d_law_sum := fun (cl : Tb) (C0 : ClsT K mg cl 0 "Lot" ["pins", "cords"]) (XE : ErrT l.prog w K mg base cl ea) (h0 : (cl 0).at_ = cA0) => ok_d_law_sum (P := l.prog) (w := w) (mg := mg) (base := base) (cl := cl) F15 T C0 XE 
  have h_d_law_sum := fun (cl : Tb) (C0 : ClsT K mg cl 0 "Lot" ["pins", "cords"]) (XE : ErrT l.prog w K mg base cl ea) (h0 : (cl 0).at_ = cA0) => fnc_mk (cl := cl) (o_d_law_sum cl C0 XE h0) (PySem.W.mg_of X G a15) k15 (F15.binds (ps := ["_law_one", "_law_two"]) fun _ _ _ _ _ _ us hl => match us, hl with | [_, _], _ => rfl) runF_len
  have o_d_law_times := fun (cl : Tb) (C0 : ClsT K mg cl 0 "Lot" ["pins", "cords"]) (XE : ErrT l.prog w K mg base cl ea) (h0 : (cl 0).at_ = cA0) => ok_d_law_times (P := l.prog) (w := w) (mg := mg) (base := base) (cl := cl) F16 T C0 XE 
  have h_d_law_times := fun (cl : Tb) (C0 : ClsT K mg cl 0 "Lot" ["pins", "cords"]) (XE : ErrT l.prog w K mg base cl ea) (h0 : (cl 0).at_ = cA0) => fnc_mk (cl := cl) (o_d_law_times cl C0 XE h0) (PySem.W.mg_of X G a16) k16 (F16.binds (ps := ["_law_one", "_law_factor"]) fun _ _ _ _ _ _ us hl => match us, hl with | [_, _], _ => rfl) runF_len
  have o_d_law_lot_is := fun (cl : Tb) (C0 : ClsT K mg cl 0 "Lot" ["pins", "cords"]) (XE : ErrT l.prog w K mg base cl ea) (h0 : (cl 0).at_ = cA0) => ok_d_law_lot_is (P := l.prog) (w := w) (mg := mg) (base := base) (cl := cl) F17 T C0 XE (h_d_law_same cl C0 XE h0)
  have h_d_law_lot_is := fun (cl : Tb) (C0 : ClsT K mg cl 0 "Lot" ["pins", "cords"]) (XE : ErrT l.prog w K mg base cl ea) (h0 : (cl 0).at_ = cA0) => fnc_mk (cl := cl) (o_d_law_lot_is cl C0 XE h0) (PySem.W.mg_of X G a17) k17 (F17.binds (ps := ["_law_thing", "_law_pins_here", "_law_bunch"]) fun _ _ _ _ _ _ us hl => match us, hl with | [_, _, _], _ => rfl) runF_len
  have o_d_is_whole := fun (cl : Tb) (C0 : ClsT K mg cl 0 "Lot" ["pins", "cords"]) (XE : ErrT l.prog w K mg base cl ea) (h0 : (cl 0).at_ = cA0) => ok_d_is_whole (P := l.prog) (w := w) (mg := mg) (base := base) (cl := cl) F18 T C0 XE 
  have h_d_is_whole := fun (cl : Tb) (C0 : ClsT K mg cl 0 "Lot" ["pins", "cords"]) (XE : ErrT l.prog w K mg base cl ea) (h0 : (cl 0).at_ = cA0) => fnc_mk (cl := cl) (o_d_is_whole cl C0 XE h0) (PySem.W.mg_of X G a18) k18 (F18.binds (ps := ["value"]) fun _ _ _ _ _ _ us hl => match us, hl with | [_], _ => rfl) runF_len
  have o_d_is_pin := fun (cl : Tb) (C0 : ClsT K mg cl 0 "Lot" ["pins", "cords"]) (XE : ErrT l.prog w K mg base cl ea) (h0 : (cl 0).at_ = cA0) => ok_d_is_pin (P := l.prog) (w := w) (mg := mg) (base := base) (cl := cl) F19 T C0 XE (h_d_is_whole cl C0 XE h0)
  have h_d_is_pin := fun (cl : Tb) (C0 : ClsT K mg cl 0 "Lot" ["pins", "cords"]) (XE : ErrT l.prog w K mg base cl ea) (h0 : (cl 0).at_ = cA0) => fnc_mk (cl := cl) (o_d_is_pin cl C0 XE h0) (PySem.W.mg_of X G a19) k19 (F19.binds (ps := ["pins", "value"]) fun _ _ _ _ _ _ us hl => match us, hl with | [_, _], _ => rfl) runF_len
  have o_d_is_entry := fun (cl : Tb) (C0 : ClsT K mg cl 0 "Lot" ["pins", "cords"]) (XE : ErrT l.prog w K mg base cl ea) (h0 : (cl 0).at_ = cA0) => ok_d_is_entry (P := l.prog) (w := w) (mg := mg) (base := base) (cl := cl) F20 T C0 XE (h_d_is_pin cl C0 XE h0) (h_d_is_whole cl C0 XE h0)
  have h_d_is_entry := fun (cl : Tb) (C0 : ClsT K mg cl 0 "Lot" ["pins", "cords"]) (XE : ErrT l.prog w K mg base cl ea) (h0 : (cl 0).at_ = cA0) => fnc_mk (cl := cl) (o_d_is_entry cl C0 XE h0) (PySem.W.mg_of X G a20) k20 (F20.binds (ps := ["pins", "entry"]) fun _ _ _ _ _ _ us hl => match us, hl with | [_, _], _ => rfl) runF_len
  have o_d_combined := fun (cl : Tb) (C0 : ClsT K mg cl 0 "Lot" ["pins", "cords"]) (XE : ErrT l.prog w K mg base cl ea) (h0 : (cl 0).at_ = cA0) => ok_d_combined (P := l.prog) (w := w) (mg := mg) (base := base) (cl := cl) F21 T C0 XE 
  have h_d_combined := fun (cl : Tb) (C0 : ClsT K mg cl 0 "Lot" ["pins", "cords"]) (XE : ErrT l.prog w K mg base cl ea) (h0 : (cl 0).at_ = cA0) => fnc_mk (cl := cl) (o_d_combined cl C0 XE h0) (PySem.W.mg_of X G a21) k21 (F21.binds (ps := ["triples"]) fun _ _ _ _ _ _ us hl => match us, hl with | [_], _ => rfl) runF_len
  have o_d_Lot___init__ := fun (cl : Tb) (C0 : ClsT K mg cl 0 "Lot" ["pins", "cords"]) (XE : ErrT l.prog w K mg base cl ea) (h0 : (cl 0).at_ = cA0) => ok_d_Lot___init__ (P := l.prog) (w := w) (mg := mg) (base := base) (cl := cl) F22 T C0 XE (fun cl' (D0 : ClsT K mg cl' 0 "Lot" ["pins", "cords"]) (DE : ErrT l.prog w K mg base cl' ea) => h_d_is_whole cl' D0 DE (ref_inj (D0.mgC.symm.trans (PySem.W.mg_of X G aC0)))) (fun cl' (D0 : ClsT K mg cl' 0 "Lot" ["pins", "cords"]) (DE : ErrT l.prog w K mg base cl' ea) => h_d_is_entry cl' D0 DE (ref_inj (D0.mgC.symm.trans (PySem.W.mg_of X G aC0)))) (fun cl' (D0 : ClsT K mg cl' 0 "Lot" ["pins", "cords"]) (DE : ErrT l.prog w K mg base cl' ea) => h_d_combined cl' D0 DE (ref_inj (D0.mgC.symm.trans (PySem.W.mg_of X G aC0))))
  obtain ⟨ds_22, r_22, bi_22⟩ := F22.binds1 (ps := ["self", "pins", "cords"]) 3 1 (List.cons_ne_nil _ _) rfl fun _ _ _ _ _ _ _ us its h1 h2 => match us, its, h1, h2 with | [_, _, _], [_], _, _ => ⟨_, rfl, rfl⟩
  cases r_22
  have M_d_Lot___init__ : ∀ (cl : Tb) (C0 : ClsT K mg cl 0 "Lot" ["pins", "cords"]) (XE : ErrT l.prog w K mg base cl ea) (h0 : (cl 0).at_ = cA0), MakC l.prog w K mg base cl 0 "Lot" 4 2 d_Lot___init__ [] := fun (cl : Tb) (C0 : ClsT K mg cl 0 "Lot" ["pins", "cords"]) (XE : ErrT l.prog w K mg base cl ea) (h0 : (cl 0).at_ = cA0) => by
    subst h0
    exact makC_mk (o_d_Lot___init__ cl C0 XE rfl) C0.mgC mk0 a22 i22 kc0 bi_22 runI_len
  obtain ⟨dd_22, rd_22, bd_22⟩ := F22.binds1 (ps := ["self", "pins", "cords"]) 2 0 (List.cons_ne_nil _ _) rfl fun _ _ _ _ _ _ _ us its h1 h2 => match us, its, h1, h2 with | [_, _], [_], _, _ => ⟨_, rfl, rfl⟩
  have ed_22 : dd_22 = [Value.ref e22] := by
    obtain ⟨u, eu, ru⟩ := Vals.one rd_22
    subst eu; cases ru; rfl
  subst ed_22
  have MD_d_Lot___init__ : ∀ (cl : Tb) (C0 : ClsT K mg cl 0 "Lot" ["pins", "cords"]) (XE : ErrT l.prog w K mg base cl ea) (h0 : (cl 0).at_ = cA0), MakC l.prog w K mg base cl 0 "Lot" 4 2 d_Lot___init__ [.tup []] := fun (cl : Tb) (C0 : ClsT K mg cl 0 "Lot" ["pins", "cords"]) (XE : ErrT l.prog w K mg base cl ea) (h0 : (cl 0).at_ = cA0) => by
    subst h0
    exact makC_mkD (o_d_Lot___init__ cl C0 XE rfl) C0.mgC mk0 a22 i22 kc0 bd_22 e22l runI_len
  have o_d_Lot___add__ := fun (cl : Tb) (C0 : ClsT K mg cl 0 "Lot" ["pins", "cords"]) (XE : ErrT l.prog w K mg base cl ea) (h0 : (cl 0).at_ = cA0) => ok_d_Lot___add__ (P := l.prog) (w := w) (mg := mg) (base := base) (cl := cl) F23 T C0 XE (M_d_Lot___init__ cl C0 XE h0)
  have O_d_Lot___add__ : ∀ (cl : Tb) (C0 : ClsT K mg cl 0 "Lot" ["pins", "cords"]) (XE : ErrT l.prog w K mg base cl ea) (h0 : (cl 0).at_ = cA0), OpC l.prog w K mg base cl 0 "__add__" 2 6 d_Lot___add__ := fun (cl : Tb) (C0 : ClsT K mg cl 0 "Lot" ["pins", "cords"]) (XE : ErrT l.prog w K mg base cl ea) (h0 : (cl 0).at_ = cA0) => by
    subst h0
    exact opC_mk (o_d_Lot___add__ cl C0 XE rfl) a23 i23 (F23.binds (ps := ["self", "other"]) fun _ _ _ _ _ _ us hl => match us, hl with | [_, _], _ => rfl)
  have o_d_Lot___sub__ := fun (cl : Tb) (C0 : ClsT K mg cl 0 "Lot" ["pins", "cords"]) (XE : ErrT l.prog w K mg base cl ea) (h0 : (cl 0).at_ = cA0) => ok_d_Lot___sub__ (P := l.prog) (w := w) (mg := mg) (base := base) (cl := cl) F24 T C0 XE (fun cl' (D0 : ClsT K mg cl' 0 "Lot" ["pins", "cords"]) (DE : ErrT l.prog w K mg base cl' ea) => h_d_combined cl' D0 DE (ref_inj (D0.mgC.symm.trans (PySem.W.mg_of X G aC0)))) (fun cl' (D0 : ClsT K mg cl' 0 "Lot" ["pins", "cords"]) (DE : ErrT l.prog w K mg base cl' ea) => M_d_Lot___init__ cl' D0 DE (ref_inj (D0.mgC.symm.trans (PySem.W.mg_of X G aC0))))
  have O_d_Lot___sub__ : ∀ (cl : Tb) (C0 : ClsT K mg cl 0 "Lot" ["pins", "cords"]) (XE : ErrT l.prog w K mg base cl ea) (h0 : (cl 0).at_ = cA0), OpC l.prog w K mg base cl 0 "__sub__" 2 6 d_Lot___sub__ := fun (cl : Tb) (C0 : ClsT K mg cl 0 "Lot" ["pins", "cords"]) (XE : ErrT l.prog w K mg base cl ea) (h0 : (cl 0).at_ = cA0) => by
    subst h0
    exact opC_mk (o_d_Lot___sub__ cl C0 XE rfl) a24 i24 (F24.binds (ps := ["self", "other"]) fun _ _ _ _ _ _ us hl => match us, hl with | [_, _], _ => rfl)
  have o_d_Lot___mul__ := fun (cl : Tb) (C0 : ClsT K mg cl 0 "Lot" ["pins", "cords"]) (XE : ErrT l.prog w K mg base cl ea) (h0 : (cl 0).at_ = cA0) => ok_d_Lot___mul__ (P := l.prog) (w := w) (mg := mg) (base := base) (cl := cl) F25 T C0 XE (h_d_is_whole cl C0 XE h0) (h_d_combined cl C0 XE h0) (M_d_Lot___init__ cl C0 XE h0)
  have O_d_Lot___mul__ : ∀ (cl : Tb) (C0 : ClsT K mg cl 0 "Lot" ["pins", "cords"]) (XE : ErrT l.prog w K mg base cl ea) (h0 : (cl 0).at_ = cA0), OpC l.prog w K mg base cl 0 "__mul__" 2 6 d_Lot___mul__ := fun (cl : Tb) (C0 : ClsT K mg cl 0 "Lot" ["pins", "cords"]) (XE : ErrT l.prog w K mg base cl ea) (h0 : (cl 0).at_ = cA0) => by
    subst h0
    exact opC_mk (o_d_Lot___mul__ cl C0 XE rfl) a25 i25 (F25.binds (ps := ["self", "number"]) fun _ _ _ _ _ _ us hl => match us, hl with | [_, _], _ => rfl)
  exact fn_top (ok_d_law (cl := cl0) F26 T T0 XE0 (h_d_law_pins cl0 T0 XE0 rfl) (h_d_law_cell cl0 T0 XE0 rfl) (h_d_law_lot cl0 T0 XE0 rfl) (h_d_law_digits cl0 T0 XE0 rfl) (h_d_law_table cl0 T0 XE0 rfl) (h_d_law_told cl0 T0 XE0 rfl) (h_d_table_of cl0 T0 XE0 rfl) (h_d_law_mirror cl0 T0 XE0 rfl) (h_d_law_sum cl0 T0 XE0 rfl) (h_d_law_norm cl0 T0 XE0 rfl) (h_d_law_same cl0 T0 XE0 rfl) (h_d_law_times cl0 T0 XE0 rfl) (h_d_law_lot_is cl0 T0 XE0 rfl) (k_d_table_of_klot_0 cl0 T0 XE0 rfl) (M_d_Lot___init__ cl0 T0 XE0 rfl) (P_d_Lot_table cl0 T0 XE0 rfl) (MD_d_Lot___init__ cl0 T0 XE0 rfl) (O_d_Lot___add__ cl0 T0 XE0 rfl) (O_d_Lot___sub__ cl0 T0 XE0 rfl) (O_d_Lot___mul__ cl0 T0 XE0 rfl))
theorem walk {l : PySem.W.OpenLaw} {q : Program} {loose : List Str} {XP : (Str → Option Value) → Heap → Prop} {YP : World → Heap → Prop} {d : DefRec} {K : Params → PySem.W.Frag} (hn : l.most = some 63) (hdf : d.params.defaults = [])
    (hY : ∀ (w : World) (h : Heap), YP w h → (K w.params).In h)
    (F : ∀ (w : World) (mg : Str → Option Value) (fa : Addr) (h : Heap), (K w.params).In h → h.Ns mainGlobals mg → mg d.name = some (.ref fa) →
      ∃ fd : FuncData, (∀ (s : Shared) (u : Value), BindsTo s fd ⟨[u], []⟩ [("_law_script", u)]) ∧ ∀ base : Heap, (K w.params).In base → base.Ns mainGlobals mg → FnOk l.prog w (K w.params) mg base (L2N.CX l.prog w) 9 fa fd ["_law_script"] (spTop (K w.params) d_law)) :
    PySem.W.WalkO q loose XP YP l.row.toRowW d [] (fun f vs => PySem.call f vs) :=
  walk_top (m := fun _ => d_law) hn hdf ⟨rfl, by decide, by decide⟩ hY F fun _ ns h => Math.law_runs ns h
end Prg
open PySem PySem.W PyProof.Rows
set_option maxRecDepth 100000 in
set_option maxHeartbeats 0 in
theorem PySem.Challenge.cw_rimcords_k04_tables_whole_holds : PySem.Challenge.rw_rimcords_k04_tables_whole.Holds := by
  w_on; o_law; k_head; (case hw => w_witness2)
  k_fill
  refine Prg.walk (l := PySem.Challenge.rw_rimcords_k04_tables_whole) rfl rfl (fun w h Y => PySem.W.kIn_of Y) ?F
  case F =>
    intro w mg fa h KX G hmg
    refine' Prg.all_mk KX G hmg ?aC0 ?pg0 ?hd0 ?po0 ?sa0 ?mk0 ?kc0 ?sf0 ?ia0 ?ib ?ic ?im0 ?n0_0 ?n0_1 ?a0 ?l0 ?c0 ?k0 ?a1 ?l1 ?c1 ?k1 ?a2 ?l2 ?c2 ?k2 ?a3 ?l3 ?c3 ?k3 ?a4 ?l4 ?c4 ?k4 ?a5 ?l5 ?c5 ?k5 ?a6 ?l6 ?c6 ?k6 ?a7 ?l7 ?c7 ?k7 ?a8 ?l8 ?c8 ?k8 ?a9 ?l9 ?c9 ?k9 ?a10 ?l10 ?c10 ?k10 ?a11 ?l11 ?c11 ?k11 ?a12 ?g12 ?u12 ?r12 ?l12 ?c12 ?k12 ?a13 ?l13 ?c13 ?k13 ?a14 ?l14 ?c14 ?k14 ?a15 ?l15 ?c15 ?k15 ?a16 ?l16 ?c16 ?k16 ?a17 ?l17 ?c17 ?k17 ?a18 ?l18 ?c18 ?k18 ?a19 ?l19 ?c19 ?k19 ?a20 ?l20 ?c20 ?k20 ?a21 ?l21 ?c21 ?k21 ?a22 ?i22 ?l22 ?t22l ?e22l ?c22 ?k22 ?a23 ?i23 ?l23 ?c23 ?k23 ?a24 ?i24 ?l24 ?c24 ?k24 ?a25 ?i25 ?l25 ?c25 ?k25 ?a26 ?l26 ?c26 ?k26 ?z_bool ?z_int ?z_isinstance ?z_len ?z_list ?z_max ?z_min ?z_range ?z_sorted ?z_str ?z_sum ?z_tuple ?mi_r ?mi_o ?mi_v ?mi_s
    (case aC0 => k_is)
    (case pg0 => k_is)
    (case hd0 => k_is)
    (case po0 => k_is)
    (case sa0 => k_is)
    (case mk0 => k_is)
    (case kc0 => k_is)
    (case sf0 => k_is)
    (case ia0 => k_is)
    (case ib => k_is)
    (case ic => k_is)
    (case im0 => k_is)
    (case n0_0 => k_is)
    (case n0_1 => k_is)
    (case a0 => k_is)
    (case l0 => k_is)
    (case c0 => k_is)
    (case k0 => k_is)
    (case a1 => k_is)
    (case l1 => k_is)
    (case c1 => k_is)
    (case k1 => k_is)
    (case a2 => k_is)
    (case l2 => k_is)
    (case c2 => k_is)
    (case k2 => k_is)
    (case a3 => k_is)
    (case l3 => k_is)
    (case c3 => k_is)
    (case k3 => k_is)
    (case a4 => k_is)
    (case l4 => k_is)
    (case c4 => k_is)
    (case k4 => k_is)
    (case a5 => k_is)
    (case l5 => k_is)
    (case c5 => k_is)
    (case k5 => k_is)
    (case a6 => k_is)
    (case l6 => k_is)
    (case c6 => k_is)
    (case k6 => k_is)
    (case a7 => k_is)
    (case l7 => k_is)
    (case c7 => k_is)
    (case k7 => k_is)
    (case a8 => k_is)
    (case l8 => k_is)
    (case c8 => k_is)
    (case k8 => k_is)
    (case a9 => k_is)
    (case l9 => k_is)
    (case c9 => k_is)
    (case k9 => k_is)
    (case a10 => k_is)
    (case l10 => k_is)
    (case c10 => k_is)
    (case k10 => k_is)
    (case a11 => k_is)
    (case l11 => k_is)
    (case c11 => k_is)
    (case k11 => k_is)
    (case a12 => k_is)
    (case g12 => k_is)
    (case u12 => k_is)
    (case r12 => k_is)
    (case l12 => k_is)
    (case c12 => k_is)
    (case k12 => k_is)
    (case a13 => k_is)
    (case l13 => k_is)
    (case c13 => k_is)
    (case k13 => k_is)
    (case a14 => k_is)
    (case l14 => k_is)
    (case c14 => k_is)
    (case k14 => k_is)
    (case a15 => k_is)
    (case l15 => k_is)
    (case c15 => k_is)
    (case k15 => k_is)
    (case a16 => k_is)
    (case l16 => k_is)
    (case c16 => k_is)
    (case k16 => k_is)
    (case a17 => k_is)
    (case l17 => k_is)
    (case c17 => k_is)
    (case k17 => k_is)
    (case a18 => k_is)
    (case l18 => k_is)
    (case c18 => k_is)
    (case k18 => k_is)
    (case a19 => k_is)
    (case l19 => k_is)
    (case c19 => k_is)
    (case k19 => k_is)
    (case a20 => k_is)
    (case l20 => k_is)
    (case c20 => k_is)
    (case k20 => k_is)
    (case a21 => k_is)
    (case l21 => k_is)
    (case c21 => k_is)
    (case k21 => k_is)
    (case a22 => k_is)
    (case i22 => k_is)
    (case l22 => k_is)
    (case t22l => k_is)
    (case e22l => k_is)
    (case c22 => k_is)
    (case k22 => k_is)
    (case a23 => k_is)
    (case i23 => k_is)
    (case l23 => k_is)
    (case c23 => k_is)
    (case k23 => k_is)
    (case a24 => k_is)
    (case i24 => k_is)
    (case l24 => k_is)
    (case c24 => k_is)
    (case k24 => k_is)
    (case a25 => k_is)
    (case i25 => k_is)
    (case l25 => k_is)
    (case c25 => k_is)
    (case k25 => k_is)
    (case a26 => k_is)
    (case l26 => k_is)
    (case c26 => k_is)
    (case k26 => k_is)
    (case z_bool => k_is)
    (case z_int => k_is)
    (case z_isinstance => k_is)
    (case z_len => k_is)
    (case z_list => k_is)
    (case z_max => k_is)
    (case z_min => k_is)
    (case z_range => k_is)
    (case z_sorted => k_is)
    (case z_str => k_is)
    (case z_sum => k_is)
    (case z_tuple => k_is)
    (case mi_r => k_is)
    (case mi_o => k_is)
    (case mi_v => k_is)
    (case mi_s => k_is)
