import PyProof.Rows.All
import Wide.All
import OpenK.AllK
import Wide.FinOn
import HandS.ForMost
import HandS.SetFor
import HandS.TupAny
import HandS.SortInts
import HandS.Conv
import HandS.IsInst
import KE.GoesMore
import KE.KMathGC
import HandS.Gcd
import HandS.Strs
import HandS.Iter
import HandS.SetBool
import HandS.SetKeys
import HandS.TupMul
import KE.KSuper
import KE.KExcSuper
import HandS.Base
import HandS.Call
import HandS.Exc
import HandS.ExcInit
import HandS.FStr
import PyProof.EqAt
import PyProof.EqKinds
import PyProof.TupleCall
import KE.KExcIs
import HandS.ExcIs
import HandS.ExcField
import HandS.ExcOwn
import HandS.Words
import HandS.WordsExc
import HandS.GenCall
import HandS.GenList
import PySem.Challenge.RW_redolots_k31_safe_goals
import KE.OsGo
import KE.RegKSuper
import KE.RegKIsAll
set_option Elab.async false
set_option linter.all false
set_option maxRecDepth 100000
set_option maxHeartbeats 1000000
section
set_option Elab.async false
set_option linter.all false
set_option maxRecDepth 100000
set_option maxHeartbeats 1000000
/-! G1: what a value stands for, and an environment of such (frozen things, owned lists) -/
namespace G
open PySem L2

abbrev FK := PySem.W.Frag

/-- a Lean type whose members are Python values -/
class Py (α : Type) where
  rep : FK → Hp → V → α → Prop
  mono : ∀ {K : FK} {H H' : Hp} {v : V} {x : α}, Same H H' → rep K H v x → rep K H' v x

theorem same_sqT {K : FK} {H H' : Hp} {a : Addr} {xs : List V} (e : Same H H') (h : SqT K H a xs) : SqT K H' a xs := by
  rcases h with (h | ⟨o, h⟩) | h
  · exact .inl (.inl (e _ _ h))
  · exact .inl (.inr ⟨o, e _ _ h⟩)
  · exact .inr h

structure Tup (α : Type) where
  l : List α
  deriving DecidableEq
structure Lst (α : Type) where
  l : List α
  deriving DecidableEq

instance : Py Int := ⟨fun _ _ v x => v = .int x, fun _ h => h⟩
instance : Py Bool := ⟨fun _ _ v x => v = .bl x, fun _ h => h⟩
instance : Py Str := ⟨fun _ _ v x => v = .str x, fun _ h => h⟩
instance : Py Unit := ⟨fun _ _ v _ => v = .non, fun _ h => h⟩
instance : Py V := ⟨fun _ _ v x => v = x, fun _ h => h⟩

abbrev Reps {α : Type} [Py α] (K : FK) (H : Hp) : List V → List α → Prop := Paired (Py.rep K H)
theorem Reps.mono {α : Type} [Py α] {K : FK} {H H' : Hp} (e : Same H H') : ∀ {vs : List V} {xs : List α}, Reps K H vs xs → Reps K H' vs xs
  | _, _, .nil => .nil
  | _, _, .cons a r => .cons (Py.mono e a) (Reps.mono e r)
theorem Reps.length {α : Type} [Py α] {K : FK} {H : Hp} {vs : List V} {xs : List α} (r : Reps K H vs xs) : vs.length = xs.length := by
  induction r with
  | nil => rfl
  | cons _ _ ih => simp [ih]
theorem Reps.get {α : Type} [Py α] {K : FK} {H : Hp} : ∀ {vs : List V} {xs : List α} {i : Nat} {x : α}, Reps K H vs xs → xs[i]? = some x → ∃ v, vs[i]? = some v ∧ Py.rep K H v x
  | _, _, _, _, .nil, h => by simp at h
  | _, _, 0, _, .cons a _, h => by simp at h; subst h; exact ⟨_, rfl, a⟩
  | _, _, i + 1, _, .cons _ r, h => by
    obtain ⟨v, e, q⟩ := Reps.get (i := i) r (by simpa using h)
    exact ⟨v, by simpa using e, q⟩
theorem Reps.get' {α : Type} [Py α] {K : FK} {H : Hp} : ∀ {vs : List V} {xs : List α} {i : Nat} {v : V}, Reps K H vs xs → vs[i]? = some v → ∃ x, xs[i]? = some x ∧ Py.rep K H v x
  | _, _, _, _, .nil, h => by simp at h
  | _, _, 0, _, .cons a _, h => by simp at h; subst h; exact ⟨_, rfl, a⟩
  | _, _, i + 1, _, .cons _ r, h => by
    obtain ⟨v, e, q⟩ := Reps.get' (i := i) r (by simpa using h)
    exact ⟨v, by simpa using e, q⟩
theorem Reps.append {α : Type} [Py α] {K : FK} {H : Hp} : ∀ {vs us : List V} {xs ys : List α}, Reps K H vs xs → Reps K H us ys → Reps K H (vs ++ us) (xs ++ ys)
  | _, _, _, _, .nil, s => s
  | _, _, _, _, .cons a r, s => .cons a (Reps.append r s)
theorem Reps.set {α : Type} [Py α] {K : FK} {H : Hp} {v : V} {x : α} (q : Py.rep K H v x) : ∀ {vs : List V} {xs : List α} (i : Nat), Reps K H vs xs → Reps K H (vs.set i v) (xs.set i x)
  | _, _, _, .nil => .nil
  | _, _, 0, .cons _ r => .cons q r
  | _, _, i + 1, .cons a r => .cons a (Reps.set q i r)
theorem Reps.ints {K : FK} {H : Hp} : ∀ {vs : List V} {xs : List Int}, Reps K H vs xs → vs = xs.map V.int
  | _, _, .nil => rfl
  | _, _, .cons a r => by
    have e : _ = V.int _ := a
    rw [e, Reps.ints r]; rfl
theorem Reps.of_ints {K : FK} {H : Hp} : ∀ (xs : List Int), Reps K H (xs.map V.int) xs
  | [] => .nil
  | _ :: r => .cons rfl (Reps.of_ints r)
theorem Reps.strs {K : FK} {H : Hp} : ∀ {vs : List V} {xs : List Str}, Reps K H vs xs → vs = xs.map V.str
  | _, _, .nil => rfl
  | _, _, .cons a r => by
    have e : _ = V.str _ := a
    rw [e, Reps.strs r]; rfl
theorem Reps.drop {α : Type} [Py α] {K : FK} {H : Hp} : ∀ {vs : List V} {xs : List α} (n : Nat), Reps K H vs xs → Reps K H (vs.drop n) (xs.drop n)
  | _, _, 0, r => r
  | _, _, _ + 1, .nil => .nil
  | _, _, n + 1, .cons _ r => Reps.drop n r
theorem Reps.take {α : Type} [Py α] {K : FK} {H : Hp} : ∀ {vs : List V} {xs : List α} (n : Nat), Reps K H vs xs → Reps K H (vs.take n) (xs.take n)
  | _, _, 0, _ => .nil
  | _, _, _ + 1, .nil => .nil
  | _, _, n + 1, .cons a r => .cons a (Reps.take n r)

theorem Reps.erase {α : Type} [Py α] {K : FK} {H : Hp} : ∀ {vs : List V} {xs : List α}, Reps K H vs xs → ∀ n : Nat, Reps K H (vs.eraseIdx n) (xs.eraseIdx n)
  | _, _, .nil, _ => .nil
  | _, _, .cons _ r, 0 => r
  | _, _, .cons a r, n + 1 => .cons a (Reps.erase r n)
instance instTup {α : Type} [Py α] : Py (Tup α) := ⟨fun K H v x => ∃ p vs, v = .ref p ∧ H p = some (.tup vs) ∧ Reps K H vs x.l, fun e h => by
  obtain ⟨p, vs, a, b, c⟩ := h
  exact ⟨p, vs, a, e p _ b, c.mono e⟩⟩
instance instLst {α : Type} [Py α] : Py (Lst α) := ⟨fun K H v x => ∃ p vs, v = .ref p ∧ H p = some (.lst vs) ∧ Reps K H vs x.l, fun e h => by
  obtain ⟨p, vs, a, b, c⟩ := h
  exact ⟨p, vs, a, e p _ b, c.mono e⟩⟩
/-- the script: a list that is read -/
structure Scr where
  l : List Int
instance : Py Scr := ⟨fun K H v x => ∃ p, v = .ref p ∧ SqL K H p (x.l.map V.int), fun e h => by
  obtain ⟨p, a, b⟩ := h
  exact ⟨p, a, e.seq b⟩⟩
/-- a list of two -/
structure LP (α β : Type) where
  a : α
  b : β
instance instLP {α β : Type} [Py α] [Py β] : Py (LP α β) := ⟨fun K H v x => ∃ p a b, v = .ref p ∧ H p = some (.lst [a, b]) ∧ Py.rep K H a x.a ∧ Py.rep K H b x.b, fun e h => by
  obtain ⟨p, a, b, h1, h2, h3, h4⟩ := h
  exact ⟨p, a, b, h1, e p _ h2, Py.mono e h3, Py.mono e h4⟩⟩
instance instProd {α β : Type} [Py α] [Py β] : Py (α × β) := ⟨fun K H v x => ∃ p a b, v = .ref p ∧ H p = some (.tup [a, b]) ∧ Py.rep K H a x.1 ∧ Py.rep K H b x.2, fun e h => by
  obtain ⟨p, a, b, h1, h2, h3, h4⟩ := h
  exact ⟨p, a, b, h1, e p _ h2, Py.mono e h3, Py.mono e h4⟩⟩
instance instOption {α : Type} [Py α] : Py (Option α) := ⟨fun K H v x => match x with
    | none => v = .non
    | some y => Py.rep K H v y, fun {K H H' v x} e h => by
  cases x with
  | none => exact h
  | some y => exact Py.mono (x := y) e h⟩
instance instSum {α β : Type} [Py α] [Py β] : Py (Sum α β) := ⟨fun K H v x => match x with
    | .inl y => Py.rep K H v y
    | .inr y => Py.rep K H v y, fun {K H H' v x} e h => by
  cases x with
  | inl y => exact Py.mono (x := y) e h
  | inr y => exact Py.mono (x := y) e h⟩

/-- values without objects -/
class Scal (α : Type) [Py α] where
  any : ∀ {K K' : FK} {H H' : Hp} {v : V} {x : α}, Py.rep K H v x → Py.rep K' H' v x
instance : Scal Int := ⟨fun h => h⟩
instance : Scal Bool := ⟨fun h => h⟩
instance : Scal Str := ⟨fun h => h⟩
instance : Scal Unit := ⟨fun h => h⟩
instance : Scal V := ⟨fun h => h⟩

/-- what a slot stands for: with the frozen heap, the heap, its value, the objects that it owns -/
structure Ent where
  P : FK → Hp → Hp → V → List Addr → Prop
  loc : ∀ {K : FK} {Hf Hf' H H' : Hp} {v : V} {fp : List Addr}, Same Hf Hf' → (∀ a ∈ fp, H' a = H a) → P K Hf H v fp → P K Hf' H' v fp

/-- frozen: nothing that it is made of will ever change -/
def fz {α : Type} [Py α] (x : α) : Ent := ⟨fun K Hf _ v fp => fp = [] ∧ Py.rep K Hf v x, fun e _ h => ⟨h.1, Py.mono e h.2⟩⟩
/-- a list of one's own, its items frozen -/
def ow {α : Type} [Py α] (xs : List α) : Ent := ⟨fun K Hf H v fp => ∃ p vs, v = .ref p ∧ fp = [p] ∧ H p = some (.lst vs) ∧ Reps K Hf vs xs, fun {K Hf Hf' H H' v fp} e k h => by
  obtain ⟨p, vs, h1, h2, h3, h4⟩ := h
  subst h2
  exact ⟨p, vs, h1, rfl, (k p (by simp)).trans h3, h4.mono e⟩⟩
/-- something -/
def anyE : Ent := ⟨fun _ _ _ _ fp => fp = [], fun _ _ h => h⟩
/-- e, and the value is v0 -/
def atV (v0 : V) (e : Ent) : Ent := ⟨fun K Hf H v fp => v = v0 ∧ e.P K Hf H v fp, fun s k h => ⟨h.1, e.loc s k h.2⟩⟩

structure Bs where
  K : FK
  Hs : Hp
  Hf0 : Hp
  br : List Addr

structure EnvAt (B : Bs) (H : Hp) (σ : List (Option V)) (Γ : List (Option Ent)) (Hf : Hp) (F : Nat → List Addr) : Prop where
  b0 : Same B.Hf0 Hf
  b1 : Same Hf H
  dj : ∀ i j a, a ∈ F i → a ∈ F j → i = j
  own : ∀ i a, a ∈ F i → Hf a = none ∧ H a ≠ none
  keep : ∀ a o, a ∉ B.br → B.Hs a = some o → H a = some o
  fresh : ∀ a, (Hf a ≠ none ∨ ∃ i, a ∈ F i) → B.Hf0 a = none → B.Hs a = none ∨ a ∈ B.br
  hold : ∀ (i : Nat) (e : Ent), Γ[i]? = some (some e) → ∃ v, σ[i]? = some (some v) ∧ e.P B.K Hf H v (F i)
/-- what the slots hold -/
def Known (K : FK) (Hf H : Hp) (σ : List (Option V)) (Γ : List (Option Ent)) : Prop := ∀ (i : Nat) (e : Ent), Γ[i]? = some (some e) → ∃ v fp, σ[i]? = some (some v) ∧ e.P K Hf H v fp
def Env (B : Bs) (H : Hp) (σ : List (Option V)) (Γ : List (Option Ent)) : Prop := ∃ Hf F, EnvAt B H σ Γ Hf F

section
variable {B : Bs} {H H' : Hp} {σ τ : List (Option V)} {Γ Δ : List (Option Ent)} {v w : V} {e e' : Ent} {i j : Nat} {p : Addr} {o : HO}

/-- the heap grows -/
theorem Env.grow (E : Env B H σ Γ) (s : Same H H') : Env B H' σ Γ := by
  obtain ⟨Hf, F, E⟩ := E
  refine ⟨Hf, F, E.b0, E.b1.trans s, E.dj, fun i a h => ⟨(E.own i a h).1, ?_⟩, fun a o h q => s a o (E.keep a o h q), E.fresh, fun i e h => ?_⟩
  · intro z
    cases q : H a with
    | none => exact (E.own i a h).2 q
    | some u => rw [s a u q] at z; cases z
  · obtain ⟨v, h1, h2⟩ := E.hold i e h
    refine ⟨v, h1, e.loc (Same.refl _) (fun a ha => ?_) h2⟩
    cases q : H a with
    | none => exact absurd q (E.own i a ha).2
    | some u => exact s a u q

def consF (fp : List Addr) (F : Nat → List Addr) : Nat → List Addr
  | 0 => fp
  | i + 1 => F i

/-- a value more, nothing new -/
theorem Env.push (E : Env B H σ Γ) (h : ∀ Hf, Same B.Hf0 Hf → Same Hf H → Known B.K Hf H σ Γ → e.P B.K Hf H v []) : Env B H (some v :: σ) (some e :: Γ) := by
  obtain ⟨Hf, F, E⟩ := E
  have hv : e.P B.K Hf H v [] := h Hf E.b0 E.b1 fun i e' q => by
    obtain ⟨v', h1, h2⟩ := E.hold i e' q
    exact ⟨v', F i, h1, h2⟩
  refine ⟨Hf, consF [] F, E.b0, E.b1, ?_, ?_, E.keep, ?_, ?_⟩
  · intro i j a h1 h2
    cases i with
    | zero => simp [consF] at h1
    | succ i =>
      cases j with
      | zero => simp [consF] at h2
      | succ j => exact congrArg _ (E.dj i j a h1 h2)
  · intro i a h1
    cases i with
    | zero => simp [consF] at h1
    | succ i => exact E.own i a h1
  · intro a h1 h2
    refine E.fresh a ?_ h2
    rcases h1 with h1 | ⟨i, h1⟩
    · exact .inl h1
    · cases i with
      | zero => simp [consF] at h1
      | succ i => exact .inr ⟨i, h1⟩
  · intro i e0 h1
    cases i with
    | zero =>
      have : e = e0 := by simpa using h1
      subst this
      exact ⟨v, rfl, hv⟩
    | succ i =>
      obtain ⟨v', q1, q2⟩ := E.hold i e0 (by simpa using h1)
      exact ⟨v', by simpa using q1, q2⟩
theorem Env.pushS {α : Type} [Py α] [Scal α] {x : α} (E : Env B H σ Γ) (h : Py.rep B.K (fun _ => none) v x) : Env B H (some v :: σ) (some (fz x) :: Γ) :=
  E.push fun Hf _ _ _ => ⟨rfl, Scal.any h⟩
theorem Env.drop (E : Env B H (some v :: σ) (some e :: Γ)) : Env B H σ Γ := by
  obtain ⟨Hf, F, E⟩ := E
  refine ⟨Hf, fun i => F (i + 1), E.b0, E.b1, fun i j a h1 h2 => Nat.succ.inj (E.dj _ _ a h1 h2), fun i a h => E.own _ a h, E.keep, fun a h1 h2 => E.fresh a ?_ h2, fun i e0 h => ?_⟩
  · rcases h1 with h1 | ⟨i, h1⟩
    · exact .inl h1
    · exact .inr ⟨_, h1⟩
  · obtain ⟨v', q1, q2⟩ := E.hold (i + 1) e0 (by simpa using h)
    exact ⟨v', by simpa using q1, q2⟩
/-- a slot holds what is said of it -/
theorem Env.top (E : Env B H σ Γ) (h : Γ[i]? = some (some e)) : ∃ v Hf fp, σ[i]? = some (some v) ∧ Same B.Hf0 Hf ∧ Same Hf H ∧ e.P B.K Hf H v fp := by
  obtain ⟨Hf, F, E⟩ := E
  obtain ⟨v, h1, h2⟩ := E.hold i e h
  exact ⟨v, Hf, F i, h1, E.b0, E.b1, h2⟩
/-- one slot less is known -/
theorem Env.weak (E : Env B H σ Γ) {Γ' : List (Option Ent)} (h : ∀ (i : Nat) (e : Ent), Γ'[i]? = some (some e) → Γ[i]? = some (some e)) : Env B H σ Γ' := by
  obtain ⟨Hf, F, E⟩ := E
  exact ⟨Hf, F, E.b0, E.b1, E.dj, E.own, E.keep, E.fresh, fun i e q => E.hold i e (h i e q)⟩
/-- each slot is said more weakly, by its frozen heap alone -/
theorem Env.imp (E : Env B H σ Γ) {Γ' : List (Option Ent)} (h : ∀ (i : Nat) (e' : Ent), Γ'[i]? = some (some e') → ∃ e : Ent, Γ[i]? = some (some e) ∧ ∀ K Hf H v fp, e.P K Hf H v fp → e'.P K Hf H v fp) : Env B H σ Γ' := by
  obtain ⟨Hf, F, E⟩ := E
  refine ⟨Hf, F, E.b0, E.b1, E.dj, E.own, E.keep, E.fresh, fun i e' q => ?_⟩
  obtain ⟨e, q1, q2⟩ := h i e' q
  obtain ⟨v, q3, q4⟩ := E.hold i e q1
  exact ⟨v, q3, q2 _ _ _ _ _ q4⟩

/-- a new frozen object -/
theorem Env.new (E : Env B H σ Γ) (hp : H p = none) (h : ∀ Hf, Same B.Hf0 Hf → Same Hf H → Known B.K Hf H σ Γ → e.P B.K (upd Hf p o) (upd H p o) (.ref p) []) :
    Env B (upd H p o) (some (.ref p) :: σ) (some e :: Γ) := by
  obtain ⟨Hf, F, E⟩ := E
  have hfp : Hf p = none := E.b1.free hp
  have nw : ∀ {a : Addr}, H a ≠ none → upd H p o a = H a := fun {a} q => upd_ne (fun z => q (by rw [z]; exact hp))
  have s1 : Same Hf (upd Hf p o) := fun a u q => by rw [upd_ne (ne_of_none q hfp)]; exact q
  have s2 : Same H (upd H p o) := fun a u q => by rw [upd_ne (ne_of_none q hp)]; exact q
  have hv : e.P B.K (upd Hf p o) (upd H p o) (.ref p) [] := h Hf E.b0 E.b1 fun i e' q => by
    obtain ⟨v', h1, h2⟩ := E.hold i e' q
    exact ⟨v', F i, h1, h2⟩
  refine ⟨upd Hf p o, consF [] F, E.b0.trans s1, ?_, ?_, ?_, fun a u h1 h2 => s2 a u (E.keep a u h1 h2), ?_, ?_⟩
  · intro a u q
    by_cases z : a = p
    · subst z; rw [upd_same] at q ⊢; exact q
    · rw [upd_ne z] at q ⊢; exact E.b1 a u q
  · intro i j a h1 h2
    cases i with
    | zero => simp [consF] at h1
    | succ i =>
      cases j with
      | zero => simp [consF] at h2
      | succ j => exact congrArg _ (E.dj i j a h1 h2)
  · intro i a h1
    cases i with
    | zero => simp [consF] at h1
    | succ i =>
      obtain ⟨q1, q2⟩ := E.own i a h1
      have z : a ≠ p := fun z => q2 (by rw [z]; exact hp)
      exact ⟨by rw [upd_ne z]; exact q1, by rw [upd_ne z]; exact q2⟩
  · intro a h1 h2
    by_cases z : a = p
    · subst z
      cases q : B.Hs a with
      | none => exact .inl rfl
      | some u =>
        by_cases hb : a ∈ B.br
        · exact .inr hb
        · have := E.keep a u hb q
          rw [hp] at this; cases this
    · refine E.fresh a ?_ h2
      rcases h1 with h1 | ⟨i, h1⟩
      · exact .inl (by rw [upd_ne z] at h1; exact h1)
      · cases i with
        | zero => simp [consF] at h1
        | succ i => exact .inr ⟨i, h1⟩
  · intro i e0 h1
    cases i with
    | zero =>
      have : e = e0 := by simpa using h1
      subst this
      exact ⟨_, rfl, hv⟩
    | succ i =>
      obtain ⟨v', q1, q2⟩ := E.hold i e0 (by simpa using h1)
      exact ⟨v', by simpa using q1, e0.loc s1 (fun a ha => nw (E.own i a ha).2) q2⟩
/-- a new object of one's own -/
theorem Env.newO (E : Env B H σ Γ) (hp : H p = none) (h : ∀ Hf, Same B.Hf0 Hf → Same Hf H → Known B.K Hf H σ Γ → e.P B.K Hf (upd H p o) (.ref p) [p]) :
    Env B (upd H p o) (some (.ref p) :: σ) (some e :: Γ) := by
  obtain ⟨Hf, F, E⟩ := E
  have hfp : Hf p = none := E.b1.free hp
  have nw : ∀ {a : Addr}, H a ≠ none → upd H p o a = H a := fun {a} q => upd_ne (fun z => q (by rw [z]; exact hp))
  have s2 : Same H (upd H p o) := fun a u q => by rw [upd_ne (ne_of_none q hp)]; exact q
  have hv : e.P B.K Hf (upd H p o) (.ref p) [p] := h Hf E.b0 E.b1 fun i e' q => by
    obtain ⟨v', h1, h2⟩ := E.hold i e' q
    exact ⟨v', F i, h1, h2⟩
  have pn : ∀ i, p ∉ F i := fun i q => (E.own i p q).2 hp
  refine ⟨Hf, consF [p] F, E.b0, E.b1.trans s2, ?_, ?_, fun a u h1 h2 => s2 a u (E.keep a u h1 h2), ?_, ?_⟩
  · intro i j a h1 h2
    cases i with
    | zero =>
      cases j with
      | zero => rfl
      | succ j =>
        have : a = p := by simpa [consF] using h1
        subst this
        exact absurd h2 (pn j)
    | succ i =>
      cases j with
      | zero =>
        have : a = p := by simpa [consF] using h2
        subst this
        exact absurd h1 (pn i)
      | succ j => exact congrArg _ (E.dj i j a h1 h2)
  · intro i a h1
    cases i with
    | zero =>
      have : a = p := by simpa [consF] using h1
      subst this
      exact ⟨hfp, by rw [upd_same]; simp⟩
    | succ i =>
      obtain ⟨q1, q2⟩ := E.own i a h1
      have z : a ≠ p := fun z => q2 (by rw [z]; exact hp)
      exact ⟨q1, by rw [upd_ne z]; exact q2⟩
  · intro a h1 h2
    by_cases z : a = p
    · subst z
      cases q : B.Hs a with
      | none => exact .inl rfl
      | some u =>
        by_cases hb : a ∈ B.br
        · exact .inr hb
        · have := E.keep a u hb q
          rw [hp] at this; cases this
    · refine E.fresh a ?_ h2
      rcases h1 with h1 | ⟨i, h1⟩
      · exact .inl h1
      · cases i with
        | zero => exact absurd (by simpa [consF] using h1) z
        | succ i => exact .inr ⟨i, h1⟩
  · intro i e0 h1
    cases i with
    | zero =>
      have : e = e0 := by simpa using h1
      subst this
      exact ⟨_, rfl, hv⟩
    | succ i =>
      obtain ⟨v', q1, q2⟩ := E.hold i e0 (by simpa using h1)
      exact ⟨v', by simpa using q1, e0.loc (Same.refl _) (fun a ha => nw (E.own i a ha).2) q2⟩
/-- an owned object is changed: slot i from e to e', at an address that it owns -/
theorem Env.mut (E : Env B H σ Γ) (hi : Γ[i]? = some (some e)) (h : ∀ Hf v fp, Same B.Hf0 Hf → Same Hf H → σ[i]? = some (some v) → e.P B.K Hf H v fp → p ∈ fp ∧ e'.P B.K Hf (upd H p o) v fp) : Env B (upd H p o) σ (Γ.set i (some e')) := by
  obtain ⟨Hf, F, E⟩ := E
  obtain ⟨v, hv, he⟩ := E.hold i e hi
  obtain ⟨hp, he'⟩ := h Hf v (F i) E.b0 E.b1 hv he
  have hfp := (E.own i p hp).1
  refine ⟨Hf, F, E.b0, fun a u q => by rw [upd_ne (ne_of_none q hfp)]; exact E.b1 a u q, E.dj, fun k a q => ⟨(E.own k a q).1, ?_⟩, fun a u h1 h2 => ?_, E.fresh, fun k e0 q => ?_⟩
  · by_cases z : a = p
    · rw [z, upd_same]; simp
    · rw [upd_ne z]; exact (E.own k a q).2
  · have z : a ≠ p := fun z => by
      subst z
      have e1 := E.keep a u h1 h2
      rcases E.fresh a (.inr ⟨i, hp⟩) (E.b0.free hfp) with q | q
      · rw [q] at h2; cases h2
      · exact h1 q
    rw [upd_ne z]; exact E.keep a u h1 h2
  · by_cases z : k = i
    · subst z
      have hk : k < Γ.length := (List.getElem?_eq_some_iff.mp hi).1
      rw [List.getElem?_set_self hk] at q
      cases q
      exact ⟨v, hv, he'⟩
    · rw [List.getElem?_set_ne (Ne.symm z)] at q
      obtain ⟨v', q1, q2⟩ := E.hold k e0 q
      refine ⟨v', q1, e0.loc (Same.refl _) (fun a ha => upd_ne (fun y => ?_)) q2⟩
      subst y
      exact z (E.dj k i a ha hp)
/-- the value on top goes to a slot -/
theorem Env.put (E : Env B H (some v :: σ) (some e :: Γ)) (hi : i < σ.length) (hl : σ.length = Γ.length) : Env B H (σ.set i (some v)) (Γ.set i (some e)) := by
  obtain ⟨Hf, F, E⟩ := E
  refine ⟨Hf, fun k => if k = i then F 0 else F (k + 1), E.b0, E.b1, ?_, ?_, E.keep, ?_, ?_⟩
  · intro k j a h1 h2
    by_cases z : k = i
    · by_cases y : j = i
      · rw [z, y]
      · rw [if_pos z] at h1; rw [if_neg y] at h2
        exact absurd (E.dj _ _ a h1 h2) (by simp)
    · by_cases y : j = i
      · rw [if_neg z] at h1; rw [if_pos y] at h2
        exact absurd (E.dj _ _ a h1 h2) (by simp)
      · rw [if_neg z] at h1; rw [if_neg y] at h2
        exact Nat.succ.inj (E.dj _ _ a h1 h2)
  · intro k a h1
    by_cases z : k = i
    · rw [if_pos z] at h1; exact E.own _ a h1
    · rw [if_neg z] at h1; exact E.own _ a h1
  · intro a h1 h2
    refine E.fresh a ?_ h2
    rcases h1 with h1 | ⟨k, h1⟩
    · exact .inl h1
    · by_cases z : k = i
      · rw [if_pos z] at h1; exact .inr ⟨_, h1⟩
      · rw [if_neg z] at h1; exact .inr ⟨_, h1⟩
  · intro k e0 q
    by_cases z : k = i
    · subst z
      rw [List.getElem?_set_self (by omega)] at q
      cases q
      obtain ⟨v', q1, q2⟩ := E.hold 0 e rfl
      simp only [if_pos]
      rw [List.getElem?_set_self hi]
      refine ⟨v, rfl, ?_⟩
      have : v = v' := by simpa using q1
      rw [this]; exact q2
    · rw [List.getElem?_set_ne (Ne.symm z)] at q ⊢
      obtain ⟨v', q1, q2⟩ := E.hold (k + 1) e0 (by simpa using q)
      rw [if_neg z]
      exact ⟨v', by simpa using q1, q2⟩
/-- frozen from now on -/
theorem Env.freezeAt {α : Type} [Py α] {xs : List α} (E : Env B H σ Γ) (hi : Γ[i]? = some (some (ow xs))) : Env B H σ (Γ.set i (some (fz (Lst.mk xs)))) := by
  obtain ⟨Hf, F, E⟩ := E
  obtain ⟨v, hv, p, vs, ev, ef, hp, hr⟩ := E.hold i _ hi
  have hpf : p ∈ F i := by rw [ef]; simp
  have hfp := (E.own i p hpf).1
  have s1 : Same Hf (upd Hf p (.lst vs)) := fun a u q => by rw [upd_ne (ne_of_none q hfp)]; exact q
  refine ⟨upd Hf p (.lst vs), fun k => if k = i then [] else F k, E.b0.trans s1, ?_, ?_, ?_, E.keep, ?_, ?_⟩
  · intro a u q
    by_cases z : a = p
    · subst z; rw [upd_same] at q; rw [hp]; exact q
    · rw [upd_ne z] at q; exact E.b1 a u q
  · intro k j a h1 h2
    by_cases z : k = i
    · rw [if_pos z] at h1; simp at h1
    · by_cases y : j = i
      · rw [if_pos y] at h2; simp at h2
      · rw [if_neg z] at h1; rw [if_neg y] at h2
        exact E.dj _ _ a h1 h2
  · intro k a h1
    by_cases z : k = i
    · rw [if_pos z] at h1; simp at h1
    · rw [if_neg z] at h1
      have y : a ≠ p := fun y => z (E.dj k i a h1 (by rw [y]; exact hpf))
      exact ⟨by rw [upd_ne y]; exact (E.own k a h1).1, (E.own k a h1).2⟩
  · intro a h1 h2
    refine E.fresh a ?_ h2
    rcases h1 with h1 | ⟨k, h1⟩
    · by_cases z : a = p
      · exact .inr ⟨i, by rw [z]; exact hpf⟩
      · rw [upd_ne z] at h1; exact .inl h1
    · by_cases z : k = i
      · rw [if_pos z] at h1; simp at h1
      · rw [if_neg z] at h1; exact .inr ⟨k, h1⟩
  · intro k e0 q
    by_cases z : k = i
    · subst z
      have hk : k < Γ.length := (List.getElem?_eq_some_iff.mp hi).1
      rw [List.getElem?_set_self hk] at q
      cases q
      rw [if_pos rfl]
      exact ⟨v, hv, rfl, p, vs, ev, upd_same, hr.mono s1⟩
    · rw [List.getElem?_set_ne (Ne.symm z)] at q
      obtain ⟨v', q1, q2⟩ := E.hold k e0 q
      rw [if_neg z]
      exact ⟨v', q1, e0.loc s1 (fun _ _ => rfl) q2⟩
end
end G
end

section
set_option Elab.async false
set_option linter.all false
set_option maxRecDepth 100000
set_option maxHeartbeats 1000000
/-! G2: readings over an environment: expressions, tests, arguments, statements -/
namespace G
open PySem L2

def RE (B : Bs) (Γ : List (Option Ent)) (te : TE) (ent : Ent) : Prop := ∀ (σ : L2.St) (H : Hp) (τ : List (Option V)) (Δ : List (Option Ent)), τ.length = Δ.length → σ.length = Γ.length →
  Env B H (τ ++ σ) (Δ ++ Γ) → ∀ Q : VK, (∀ v H', Env B H' (some v :: (τ ++ σ)) (some ent :: (Δ ++ Γ)) → Q v H') → te σ H Q
def RT (B : Bs) (Γ : List (Option Ent)) (tt : TT) (b : Bool) : Prop := ∀ (σ : L2.St) (H : Hp) (τ : List (Option V)) (Δ : List (Option Ent)), τ.length = Δ.length → σ.length = Γ.length →
  Env B H (τ ++ σ) (Δ ++ Γ) → ∀ Q : Bool → Hp → Prop, (∀ H', Env B H' (τ ++ σ) (Δ ++ Γ) → Q b H') → tt σ H Q
def RA (B : Bs) (Γ : List (Option Ent)) (ta : TA) (es : List Ent) : Prop := ∀ (σ : L2.St) (H : Hp) (τ : List (Option V)) (Δ : List (Option Ent)), τ.length = Δ.length → σ.length = Γ.length →
  Env B H (τ ++ σ) (Δ ++ Γ) → ∀ Q : List V → Hp → Prop, (∀ vs H', vs.length = es.length → Env B H' ((vs.map some).reverseAux (τ ++ σ)) ((es.map some).reverseAux (Δ ++ Γ)) → Q vs H') → ta σ H Q
/-- a two-place operation on values; a one-place one; a call on values -/
def OpS (K : FK) (r : R2) (ex ey ez : Ent) : Prop := ∀ (B : Bs) (H : Hp) (l : List (Option V)) (L : List (Option Ent)) (x y : V), B.K = K → Env B H (some y :: some x :: l) (some ey :: some ex :: L) →
  ∀ Q : VK, (∀ v H', Env B H' (some v :: l) (some ez :: L) → Q v H') → r x y H Q
def UnS (K : FK) (r : V → Hp → VK → Prop) (ex ez : Ent) : Prop := ∀ (B : Bs) (H : Hp) (l : List (Option V)) (L : List (Option Ent)) (x : V), B.K = K → Env B H (some x :: l) (some ex :: L) →
  ∀ Q : VK, (∀ v H', Env B H' (some v :: l) (some ez :: L) → Q v H') → r x H Q
def CbS (K : FK) (r : List V → Hp → VK → Prop) (es : List Ent) (ez : Ent) : Prop := ∀ (B : Bs) (H : Hp) (l : List (Option V)) (L : List (Option Ent)) (vs : List V), B.K = K → vs.length = es.length →
  Env B H ((vs.map some).reverseAux l) ((es.map some).reverseAux L) → ∀ Q : VK, (∀ v H', Env B H' (some v :: l) (some ez :: L) → Q v H') → r vs H Q

section
variable {B : Bs} {K : FK} {H H' : Hp} {σ l : List (Option V)} {Γ Γ' L : List (Option Ent)} {v w : V} {e e' ex ey ez : Ent} {i j : Nat} {te ta tb : TE} {tt tu : TT}

/-- the first two of the list change places / the second goes -/
theorem Env.drop1 (E : Env B H (some v :: some w :: σ) (some e :: some e' :: Γ)) : Env B H (some v :: σ) (some e :: Γ) := by
  obtain ⟨Hf, F, E⟩ := E
  refine ⟨Hf, fun i => match i with | 0 => F 0 | i + 1 => F (i + 2), E.b0, E.b1, fun i j a h1 h2 => ?_, fun i a h => ?_, E.keep, fun a h1 h2 => E.fresh a ?_ h2, fun i e0 h => ?_⟩
  · cases i with
    | zero =>
      cases j with
      | zero => rfl
      | succ j => exact absurd (E.dj _ _ a h1 h2) (by simp)
    | succ i =>
      cases j with
      | zero => exact absurd (E.dj _ _ a h1 h2) (by simp)
      | succ j => have := E.dj _ _ a h1 h2; omega
  · cases i with
    | zero => exact E.own _ a h
    | succ i => exact E.own _ a h
  · rcases h1 with h1 | ⟨i, h1⟩
    · exact .inl h1
    · cases i with
      | zero => exact .inr ⟨_, h1⟩
      | succ i => exact .inr ⟨_, h1⟩
  · cases i with
    | zero =>
      obtain ⟨v', q1, q2⟩ := E.hold 0 e0 (by simpa using h)
      exact ⟨v', by simpa using q1, q2⟩
    | succ i =>
      obtain ⟨v', q1, q2⟩ := E.hold (i + 2) e0 (by simpa using h)
      exact ⟨v', by simpa using q1, q2⟩
/-- what is seen of a frozen value now -/
theorem Env.view {α : Type} [Py α] {x : α} (E : Env B H (some v :: l) (some (fz x) :: L)) : Py.rep B.K H v x := by
  obtain ⟨w, Hf, fp, h1, _, s, h2⟩ := E.top (i := 0) rfl
  have : v = w := by simpa using h1
  subst this
  exact Py.mono s h2.2
theorem Env.viewO {α : Type} [Py α] {xs : List α} (E : Env B H (some v :: l) (some (ow xs) :: L)) : ∃ p vs, v = .ref p ∧ H p = some (.lst vs) ∧ Reps B.K H vs xs := by
  obtain ⟨w, Hf, fp, h1, _, s, p, vs, h2, h3, h4, h5⟩ := E.top (i := 0) rfl
  have : v = w := by simpa using h1
  subst this
  exact ⟨p, vs, h2, h4, h5.mono s⟩
theorem Env.pushX {R : V → Prop} (E : Env B H σ Γ) (h : ∀ Hf, Same B.Hf0 Hf → Same Hf H → Known B.K Hf H σ Γ → ∃ v, R v ∧ e.P B.K Hf H v []) : ∃ v, R v ∧ Env B H (some v :: σ) (some e :: Γ) := by
  have E' := E
  obtain ⟨Hf, F, E1⟩ := E
  have kn : Known B.K Hf H σ Γ := fun i e' q => by
    obtain ⟨v', h1, h2⟩ := E1.hold i e' q
    exact ⟨v', F i, h1, h2⟩
  obtain ⟨v, hr, hp⟩ := h Hf E1.b0 E1.b1 kn
  refine ⟨v, hr, ?_⟩
  have E2 : EnvAt B H (some v :: σ) (some e :: Γ) Hf (consF [] F) := by
    refine ⟨E1.b0, E1.b1, ?_, ?_, E1.keep, ?_, ?_⟩
    · intro i j a h1 h2
      cases i with
      | zero => simp [consF] at h1
      | succ i =>
        cases j with
        | zero => simp [consF] at h2
        | succ j => exact congrArg _ (E1.dj i j a h1 h2)
    · intro i a h1
      cases i with
      | zero => simp [consF] at h1
      | succ i => exact E1.own i a h1
    · intro a h1 h2
      refine E1.fresh a ?_ h2
      rcases h1 with h1 | ⟨i, h1⟩
      · exact .inl h1
      · cases i with
        | zero => simp [consF] at h1
        | succ i => exact .inr ⟨i, h1⟩
    · intro i e0 h1
      cases i with
      | zero =>
        have : e = e0 := by simpa using h1
        subst this
        exact ⟨v, rfl, hp⟩
      | succ i =>
        obtain ⟨v', q1, q2⟩ := E1.hold i e0 (by simpa using h1)
        exact ⟨v', by simpa using q1, q2⟩
  exact ⟨Hf, _, E2⟩
theorem Env.pushI {x : Int} (E : Env B H σ Γ) : Env B H (some (.int x) :: σ) (some (fz x) :: Γ) := E.pushS rfl
theorem Env.pushB {x : Bool} (E : Env B H σ Γ) : Env B H (some (.bl x) :: σ) (some (fz x) :: Γ) := E.pushS rfl
theorem Env.pushStr {x : Str} (E : Env B H σ Γ) : Env B H (some (.str x) :: σ) (some (fz x) :: Γ) := E.pushS rfl
theorem Env.pushN (E : Env B H σ Γ) : Env B H (some .non :: σ) (some (fz ()) :: Γ) := E.pushS rfl

/-! ### expressions -/
theorem slot_shift {τ σ : List (Option V)} (i : Nat) : (τ ++ σ)[τ.length + i]? = σ[i]? := by
  rw [List.getElem?_append_right (by omega)]
  congr 1; omega
theorem slot_shiftE {τ σ : List (Option Ent)} (i : Nat) : (τ ++ σ)[τ.length + i]? = σ[i]? := by
  rw [List.getElem?_append_right (by omega)]
  congr 1; omega
theorem re_var {α : Type} [Py α] {x : α} (h : Γ[i]? = some (some (fz x))) : RE B Γ (tVar i) (fz x) := fun σ H τ Δ hl hs E Q k => by
  have h' : (Δ ++ Γ)[τ.length + i]? = some (some (fz x)) := by rw [hl, slot_shiftE]; exact h
  obtain ⟨v, hv, E'⟩ := E.pushX (e := fz x) (R := fun v => (τ ++ σ)[τ.length + i]? = some (some v)) fun Hf _ _ kn => by
    obtain ⟨v, fp, q1, q2⟩ := kn _ _ h'
    exact ⟨v, q1, rfl, q2.2⟩
  refine ⟨v, ?_, k v H E'⟩
  rw [slot_shift] at hv
  exact hv
theorem re_cI {x : Int} : RE B Γ (tC (.int x)) (fz x) := fun _ _ _ _ _ _ E _ k => k _ _ E.pushI
theorem re_cB {x : Bool} : RE B Γ (tC (.bl x)) (fz x) := fun _ _ _ _ _ _ E _ k => k _ _ E.pushB
theorem re_cS {x : Str} : RE B Γ (tC (.str x)) (fz x) := fun _ _ _ _ _ _ E _ k => k _ _ E.pushStr
theorem re_cN : RE B Γ (tC .non) (fz ()) := fun _ _ _ _ _ _ E _ k => k _ _ E.pushN
theorem re_op {r : R2} (ha : RE B Γ ta ex) (hb : RE B Γ tb ey) (ho : OpS B.K r ex ey ez) : RE B Γ (tOp r ta tb) ez := fun σ H τ Δ hl hs E Q k =>
  ha σ H τ Δ hl hs E _ fun va H1 E1 => hb σ H1 (some va :: τ) (some ex :: Δ) (by simp [hl]) hs E1 _ fun vb H2 E2 => ho B H2 _ _ va vb rfl E2 Q k
theorem re_un {r : V → Hp → VK → Prop} (ha : RE B Γ ta ex) (ho : UnS B.K r ex ez) : RE B Γ (tUn r ta) ez := fun σ H τ Δ hl hs E Q k =>
  ha σ H τ Δ hl hs E _ fun va H1 E1 => ho B H1 _ _ va rfl E1 Q k
theorem ra_nil : RA B Γ tNil [] := fun _ H _ _ _ _ E Q k => k [] H rfl E
theorem ra_cons {tr : TA} {es : List Ent} (h : RE B Γ ta e) (hr : RA B Γ tr es) : RA B Γ (tCons ta tr) (e :: es) := fun σ H τ Δ hl hs E Q k =>
  h σ H τ Δ hl hs E _ fun v H1 E1 => hr σ H1 (some v :: τ) (some e :: Δ) (by simp [hl]) hs E1 _ fun vs H2 hv E2 => k (v :: vs) H2 (by simp [hv]) E2
theorem re_cb {r : List V → Hp → VK → Prop} {ta : TA} {es : List Ent} (h : RA B Γ ta es) (ho : CbS B.K r es ez) : RE B Γ (tCB r ta) ez := fun σ H τ Δ hl hs E Q k =>
  h σ H τ Δ hl hs E _ fun vs H1 hv E1 => ho B H1 _ _ vs rfl hv E1 Q k
theorem re_if {b : Bool} (h : RT B Γ tt b) (h1 : b = true → RE B Γ ta e) (h2 : b = false → RE B Γ tb e) : RE B Γ (tIf tt ta tb) e := fun σ H τ Δ hl hs E Q k =>
  h σ H τ Δ hl hs E _ fun H1 E1 => by
    cases b with
    | true => exact h1 rfl σ H1 τ Δ hl hs E1 Q k
    | false => exact h2 rfl σ H1 τ Δ hl hs E1 Q k
theorem re_is (h : RE B Γ te e) (q : e = e') : RE B Γ te e' := q ▸ h
theorem re_isF {α : Type} [Py α] {x y : α} (h : RE B Γ te (fz x)) (q : x = y) : RE B Γ te (fz y) := q ▸ h
theorem re_freeze {α : Type} [Py α] {xs : List α} (h : RE B Γ te (ow xs)) : RE B Γ te (fz (Lst.mk xs)) := fun σ H τ Δ hl hs E Q k =>
  h σ H τ Δ hl hs E Q fun v H1 E1 => k v H1 (E1.freezeAt (i := 0) rfl)

/-! ### tests -/
theorem rt_test {b : Bool} (h : RE B Γ te (fz b)) : RT B Γ (tTest te) b := fun σ H τ Δ hl hs E Q k =>
  h σ H τ Δ hl hs E _ fun v H1 E1 => ⟨b, E1.view, k H1 E1.drop⟩
theorem rt_B {b : Bool} (h : RE B Γ te (fz b)) : RT B Γ (tB te) b := fun σ H τ Δ hl hs E Q k =>
  h σ H τ Δ hl hs E _ fun v H1 E1 => ⟨b, E1.view, k H1 E1.drop⟩
theorem rt_not {a : Bool} (h : RT B Γ tt a) : RT B Γ (tNot tt) (!a) := fun σ H τ Δ hl hs E Q k => h σ H τ Δ hl hs E _ k
theorem rt_and {a b : Bool} (h1 : RT B Γ tt a) (h2 : a = true → RT B Γ tu b) : RT B Γ (tAnd tt tu) (a && b) := fun σ H τ Δ hl hs E Q k =>
  h1 σ H τ Δ hl hs E _ fun H1 E1 => by
    cases a with
    | true => exact h2 rfl σ H1 τ Δ hl hs E1 Q k
    | false => exact k H1 E1
theorem rt_or {a b : Bool} (h1 : RT B Γ tt a) (h2 : a = false → RT B Γ tu b) : RT B Γ (tOr tt tu) (a || b) := fun σ H τ Δ hl hs E Q k =>
  h1 σ H τ Δ hl hs E _ fun H1 E1 => by
    cases a with
    | true => exact k H1 E1
    | false => exact h2 rfl σ H1 τ Δ hl hs E1 Q k
theorem rt_yes : RT B Γ tYes true := fun _ H _ _ _ _ E _ k => k H E
theorem rt_is {a b : Bool} (h : RT B Γ tt a) (q : a = b) : RT B Γ tt b := q ▸ h
theorem re_andV {a b : Bool} (h1 : RE B Γ ta (fz a)) (h2 : a = true → RE B Γ tb (fz b)) : RE B Γ (tAndV ta tb) (fz (a && b)) := fun σ H τ Δ hl hs E Q k =>
  h1 σ H τ Δ hl hs E _ fun v H1 E1 => ⟨a, E1.view, by
    have ev : v = .bl a := E1.view
    cases a with
    | true => exact h2 rfl σ H1 τ Δ hl hs E1.drop Q k
    | false => subst ev; exact k _ H1 E1⟩
theorem re_orV {a b : Bool} (h1 : RE B Γ ta (fz a)) (h2 : a = false → RE B Γ tb (fz b)) : RE B Γ (tOrV ta tb) (fz (a || b)) := fun σ H τ Δ hl hs E Q k =>
  h1 σ H τ Δ hl hs E _ fun v H1 E1 => ⟨a, E1.view, by
    have ev : v = .bl a := E1.view
    cases a with
    | true => subst ev; exact k _ H1 E1
    | false => exact h2 rfl σ H1 τ Δ hl hs E1.drop Q k⟩
theorem re_notV {a : Bool} (h1 : RE B Γ ta (fz a)) : RE B Γ (tNotV ta) (fz (!a)) := fun σ H τ Δ hl hs E Q k =>
  h1 σ H τ Δ hl hs E _ fun v H1 E1 => ⟨a, E1.view, k _ H1 E1.drop.pushB⟩
/-- a chain of two comparisons -/
theorem re_chain {β : Type} [Py β] [Scal β] {y : β} {r r' : R2} {tc : TE} {a b : Bool} (ha : RE B Γ ta ex) (hb : RE B Γ tb (fz y)) (ho : OpS B.K r ex (fz y) (fz a)) (hc : a = true → RE B Γ tc ez) (ho' : a = true → OpS B.K r' (fz y) ez (fz b)) :
    RE B Γ (tChain r r' ta tb tc) (fz (a && b)) := fun σ H τ Δ hl hs E Q k => by
  refine ha σ H τ Δ hl hs E _ fun va H1 E1 => hb σ H1 (some va :: τ) (some ex :: Δ) (by simp [hl]) hs E1 _ fun vb H2 E2 => ?_
  have evb : Py.rep B.K H2 vb y := E2.view
  refine ho B H2 _ _ va vb rfl E2 _ fun v H3 E3 => ⟨a, E3.view, ?_⟩
  have ev : v = .bl a := E3.view
  cases a with
  | true =>
    show tc σ H3 _
    have E4 : Env B H3 (some vb :: (τ ++ σ)) (some (fz y) :: (Δ ++ Γ)) := E3.drop.pushS (Scal.any evb)
    exact hc rfl σ H3 (some vb :: τ) (some (fz y) :: Δ) (by simp [hl]) hs E4 _ fun vc H4 E5 => ho' rfl B H4 _ _ vb vc rfl E5 Q k
  | false =>
    show Q (.bl false) H3
    subst ev
    exact k _ H3 E3
end

/-! ### operations on values -/
section
variable {K : FK} {x y z : Int} {s u : Str} {a b : Bool}
theorem os_I0 {g : Int → Int → V} {γ : Type} [Py γ] [Scal γ] {c : γ} (h : ∀ K H, Py.rep K H (g x y) c) : OpS K (rI0 g) (fz x) (fz y) (fz c) := fun B H l L vx vy _ E Q k => by
  have e2 : vy = .int y := E.view
  have e1 : vx = .int x := E.drop.view
  exact ⟨x, y, e1, e2, k _ _ (E.drop.drop.pushS (h _ _))⟩
theorem os_I {C : Int → Int → Prop} {g : Int → Int → V} {γ : Type} [Py γ] [Scal γ] {c : γ} (hc : C x y) (h : ∀ K H, Py.rep K H (g x y) c) : OpS K (rI C g) (fz x) (fz y) (fz c) := fun B H l L vx vy _ E Q k => by
  have e2 : vy = .int y := E.view
  have e1 : vx = .int x := E.drop.view
  exact ⟨x, y, e1, e2, hc, k _ _ (E.drop.drop.pushS (h _ _))⟩
theorem os_add : OpS K (rI0 fun i j => .int (i + j)) (fz x) (fz y) (fz (x + y)) := os_I0 fun _ _ => rfl
theorem os_sub : OpS K (rI0 fun i j => .int (i - j)) (fz x) (fz y) (fz (x - y)) := os_I0 fun _ _ => rfl
theorem os_mul (h : CMul x y) : OpS K (rI CMul fun i j => .int (i * j)) (fz x) (fz y) (fz (x * y)) := os_I h fun _ _ => rfl
theorem os_mod (h : 0 < y) : OpS K (rI (fun _ j => 0 < j) fun i j => .int (i % j)) (fz x) (fz y) (fz (x % y)) := os_I h fun _ _ => rfl
theorem os_div (h : CDiv x y) : OpS K (rI CDiv fun i j => .int (i / j)) (fz x) (fz y) (fz (x / y)) := os_I h fun _ _ => rfl
theorem os_pow (h : CPow x y) : OpS K (rI CPow fun i j => .int (i ^ j.toNat)) (fz x) (fz y) (fz (x ^ y.toNat)) := os_I h fun _ _ => rfl
theorem os_lt : OpS K (rI0 fun i j => .bl (decide (i < j))) (fz x) (fz y) (fz (decide (x < y))) := os_I0 fun _ _ => rfl
theorem os_le : OpS K (rI0 fun i j => .bl (decide (i ≤ j))) (fz x) (fz y) (fz (decide (x ≤ y))) := os_I0 fun _ _ => rfl
theorem os_gt : OpS K (rI0 fun i j => .bl (decide (j < i))) (fz x) (fz y) (fz (decide (y < x))) := os_I0 fun _ _ => rfl
theorem os_ge : OpS K (rI0 fun i j => .bl (decide (j ≤ i))) (fz x) (fz y) (fz (decide (y ≤ x))) := os_I0 fun _ _ => rfl
theorem us_neg : UnS K (rU fun i => .int (-i)) (fz x) (fz (-x)) := fun B H l L vx _ E Q k => by
  have e1 : vx = .int x := E.view
  exact ⟨x, e1, k _ _ E.drop.pushI⟩
/-- == of ints -/
theorem os_eqI : OpS K rEq (fz x) (fz y) (fz (decide (x = y))) := fun B H l L vx vy _ E Q k => by
  have e2 : vy = .int y := E.view
  have e1 : vx = .int x := E.drop.view
  subst e1; subst e2
  have q : decide (V.int x = V.int y) = decide (x = y) := by by_cases h : x = y <;> simp [h]
  refine ⟨rfl, ?_⟩
  rw [q]
  exact k _ _ E.drop.drop.pushB
theorem os_neI : OpS K rNe (fz x) (fz y) (fz (!decide (x = y))) := fun B H l L vx vy _ E Q k => by
  have e2 : vy = .int y := E.view
  have e1 : vx = .int x := E.drop.view
  subst e1; subst e2
  have q : decide (V.int x = V.int y) = decide (x = y) := by by_cases h : x = y <;> simp [h]
  refine ⟨rfl, ?_⟩
  rw [q]
  exact k _ _ E.drop.drop.pushB
theorem os_eqS : OpS K rEq (fz s) (fz u) (fz (decide (s = u))) := fun B H l L vx vy _ E Q k => by
  have e2 : vy = .str u := E.view
  have e1 : vx = .str s := E.drop.view
  subst e1; subst e2
  have q : decide (V.str s = V.str u) = decide (s = u) := by by_cases h : s = u <;> simp [h]
  refine ⟨rfl, ?_⟩
  rw [q]
  exact k _ _ E.drop.drop.pushB
theorem os_neS : OpS K rNe (fz s) (fz u) (fz (!decide (s = u))) := fun B H l L vx vy _ E Q k => by
  have e2 : vy = .str u := E.view
  have e1 : vx = .str s := E.drop.view
  subst e1; subst e2
  have q : decide (V.str s = V.str u) = decide (s = u) := by by_cases h : s = u <;> simp [h]
  refine ⟨rfl, ?_⟩
  rw [q]
  exact k _ _ E.drop.drop.pushB
end
end G
end

section
set_option Elab.async false
set_option linter.all false
set_option maxRecDepth 100000
set_option maxHeartbeats 1000000
/-! G3: tuples, lists, texts: operations on what values stand for -/
namespace G
open PySem L2

theorem atI_reps {α : Type} [Py α] {K : FK} {H : Hp} {vs : List V} {xs : List α} {i : Int} {x : α} (r : Reps K H vs xs) (h : atI xs i = some x) : ∃ v, atI vs i = some v ∧ Py.rep K H v x := by
  unfold atI at h ⊢
  rw [r.length]
  cases q : ixN xs.length i with
  | none => rw [q] at h; simp at h
  | some j =>
    rw [q] at h
    obtain ⟨v, h1, h2⟩ := Reps.get r (show xs[j]? = some x from h)
    exact ⟨v, h1, h2⟩
theorem atI_of {α : Type} {xs : List α} {i : Int} {x : α} (h0 : 0 ≤ i) (h : xs[i.toNat]? = some x) : atI xs i = some x := by
  have e : i = (i.toNat : Int) := by omega
  rw [e]
  exact atI_nat h

section
variable {K : FK} {B : Bs} {H : Hp} {l σ : List (Option V)} {L Γ : List (Option Ent)} {vx vy : V} {α β : Type} [Py α] [Py β] {xs ys : List α} {i : Int} {x : α} {y : β}
theorem Env.know0 {x : α} (kn : Known K Hf H (some vx :: l) (some (fz x) :: L)) : Py.rep K Hf vx x := by
  obtain ⟨v, fp, h1, h2⟩ := kn 0 _ rfl
  have : vx = v := by simpa using h1
  subst this
  exact h2.2
theorem Env.know1 {e : Ent} {x : α} (kn : Known K Hf H (some vy :: some vx :: l) (some e :: some (fz x) :: L)) : Py.rep K Hf vx x := by
  obtain ⟨v, fp, h1, h2⟩ := kn 1 _ rfl
  have : vx = v := by simpa using h1
  subst this
  exact h2.2
theorem os_ixT (h : atI xs i = some x) : OpS K (rIxT K) (fz (Tup.mk xs)) (fz i) (fz x) := fun B H l L vx vy ek E Q k => by
  subst ek
  have e2 : vy = .int i := E.view
  obtain ⟨v, ⟨p, vs, q1, q2, q3⟩, E'⟩ := E.pushX (e := fz x) (R := fun v => ∃ p vs, vx = .ref p ∧ SqT B.K H p vs ∧ atI vs i = some v) fun Hf _ s kn => by
    obtain ⟨p, vs, h1, h2, h3⟩ := Env.know1 kn
    obtain ⟨v, h4, h5⟩ := atI_reps h3 h
    exact ⟨v, ⟨p, vs, h1, SqT.of (s p _ h2), h4⟩, rfl, h5⟩
  exact ⟨p, vs, i, v, q1, e2, q2, q3, k _ _ E'.drop1.drop1⟩
theorem os_ixL (h : atI xs i = some x) : OpS K (rIxL K) (fz (Lst.mk xs)) (fz i) (fz x) := fun B H l L vx vy ek E Q k => by
  subst ek
  have e2 : vy = .int i := E.view
  obtain ⟨v, ⟨p, vs, q1, q2, q3⟩, E'⟩ := E.pushX (e := fz x) (R := fun v => ∃ p vs, vx = .ref p ∧ SqL B.K H p vs ∧ atI vs i = some v) fun Hf _ s kn => by
    obtain ⟨p, vs, h1, h2, h3⟩ := Env.know1 kn
    obtain ⟨v, h4, h5⟩ := atI_reps h3 h
    exact ⟨v, ⟨p, vs, h1, SqL.of (s p _ h2), h4⟩, rfl, h5⟩
  exact ⟨p, vs, i, v, q1, e2, q2, q3, k _ _ E'.drop1.drop1⟩
theorem os_ixS {xs : List Int} {x : Int} (h : atI xs i = some x) : OpS K (rIxL K) (fz (Scr.mk xs)) (fz i) (fz x) := fun B H l L vx vy ek E Q k => by
  subst ek
  have e2 : vy = .int i := E.view
  obtain ⟨p, q1, q2⟩ : ∃ p, vx = .ref p ∧ SqL B.K H p (xs.map V.int) := E.drop.view
  refine ⟨p, _, i, .int x, q1, e2, q2, ?_, k _ _ E.drop.drop.pushI⟩
  unfold atI at h ⊢
  rw [List.length_map]
  cases q : ixN xs.length i with
  | none => rw [q] at h; simp at h
  | some j =>
    rw [q] at h
    have h : xs[j]? = some x := h
    show (xs.map V.int)[j]? = _
    rw [List.getElem?_map, h]; rfl
/-- a pair -/
theorem os_fst {p : α × β} : OpS K (rIxT K) (fz p) (fz (0 : Int)) (fz p.1) := fun B H l L vx vy ek E Q k => by
  subst ek
  have e2 : vy = .int 0 := E.view
  obtain ⟨v, ⟨a, b, q1, q2⟩, E'⟩ := E.pushX (e := fz p.1) (R := fun v => ∃ a b, vx = .ref a ∧ SqT B.K H a [v, b]) fun Hf _ s kn => by
    obtain ⟨a, u, w, h1, h2, h3, h4⟩ := Env.know1 kn
    exact ⟨u, ⟨a, w, h1, SqT.of (s a _ h2)⟩, rfl, h3⟩
  exact ⟨a, _, 0, v, q1, e2, q2, rfl, k _ _ E'.drop1.drop1⟩
theorem os_snd {p : α × β} : OpS K (rIxT K) (fz p) (fz (1 : Int)) (fz p.2) := fun B H l L vx vy ek E Q k => by
  subst ek
  have e2 : vy = .int 1 := E.view
  obtain ⟨v, ⟨a, b, q1, q2⟩, E'⟩ := E.pushX (e := fz p.2) (R := fun v => ∃ a b, vx = .ref a ∧ SqT B.K H a [b, v]) fun Hf _ s kn => by
    obtain ⟨a, u, w, h1, h2, h3, h4⟩ := Env.know1 kn
    exact ⟨w, ⟨a, u, h1, SqT.of (s a _ h2)⟩, rfl, h4⟩
  exact ⟨a, _, 1, v, q1, e2, q2, rfl, k _ _ E'.drop1.drop1⟩
theorem os_lp0 {p : LP α β} : OpS K (rIxL K) (fz p) (fz (0 : Int)) (fz p.a) := fun B H l L vx vy ek E Q k => by
  subst ek
  have e2 : vy = .int 0 := E.view
  obtain ⟨v, ⟨a, b, q1, q2⟩, E'⟩ := E.pushX (e := fz p.a) (R := fun v => ∃ a b, vx = .ref a ∧ SqL B.K H a [v, b]) fun Hf _ s kn => by
    obtain ⟨a, u, w, h1, h2, h3, h4⟩ := Env.know1 kn
    exact ⟨u, ⟨a, w, h1, SqL.of (s a _ h2)⟩, rfl, h3⟩
  exact ⟨a, _, 0, v, q1, e2, q2, rfl, k _ _ E'.drop1.drop1⟩
theorem os_lp1 {p : LP α β} : OpS K (rIxL K) (fz p) (fz (1 : Int)) (fz p.b) := fun B H l L vx vy ek E Q k => by
  subst ek
  have e2 : vy = .int 1 := E.view
  obtain ⟨v, ⟨a, b, q1, q2⟩, E'⟩ := E.pushX (e := fz p.b) (R := fun v => ∃ a b, vx = .ref a ∧ SqL B.K H a [b, v]) fun Hf _ s kn => by
    obtain ⟨a, u, w, h1, h2, h3, h4⟩ := Env.know1 kn
    exact ⟨w, ⟨a, u, h1, SqL.of (s a _ h2)⟩, rfl, h4⟩
  exact ⟨a, _, 1, v, q1, e2, q2, rfl, k _ _ E'.drop1.drop1⟩

/-! ### displays -/
/-- the slots in another order, some of them gone -/
theorem Env.re {B : Bs} {H : Hp} {σ σ' : List (Option V)} {Γ Γ' : List (Option Ent)} (f : Nat → Nat) (inj : ∀ i j, f i = f j → i = j) (E : Env B H σ Γ)
    (h : ∀ (i : Nat) (e : Ent), Γ'[i]? = some (some e) → Γ[f i]? = some (some e) ∧ σ'[i]? = σ[f i]?) : Env B H σ' Γ' := by
  obtain ⟨Hf, F, E⟩ := E
  refine ⟨Hf, fun i => F (f i), E.b0, E.b1, fun i j a h1 h2 => inj _ _ (E.dj _ _ a h1 h2), fun i a q => E.own _ a q, E.keep, fun a h1 h2 => E.fresh a ?_ h2, fun i e q => ?_⟩
  · rcases h1 with h1 | ⟨i, h1⟩
    · exact .inl h1
    · exact .inr ⟨_, h1⟩
  · obtain ⟨q1, q2⟩ := h i e q
    obtain ⟨v, q3, q4⟩ := E.hold _ e q1
    exact ⟨v, by rw [q2]; exact q3, q4⟩
theorem rev_app {α : Type} (vs l : List α) : vs.reverseAux l = vs.reverse ++ l := List.reverseAux_eq
theorem rev_at {α : Type} {vs l : List α} {i : Nat} (h : i < vs.length) : (vs.reverseAux l)[vs.length - 1 - i]? = vs[i]? := by
  rw [rev_app, List.getElem?_append_left (by rw [List.length_reverse]; omega), List.getElem?_reverse (by omega)]
  congr 1; omega
theorem rev_behind {α : Type} {vs l : List α} {i : Nat} : (vs.reverseAux l)[vs.length + i]? = l[i]? := by
  rw [rev_app, List.getElem?_append_right (by rw [List.length_reverse]; omega), List.length_reverse]
  congr 1; omega
theorem Env.dropN {vs : List V} {es : List Ent} {v : V} {e : Ent} (hl : vs.length = es.length) (E : Env B H (some v :: (vs.map some).reverseAux l) (some e :: (es.map some).reverseAux L)) : Env B H (some v :: l) (some e :: L) := by
  refine E.re (fun i => if i = 0 then 0 else vs.length + i) (fun i j h => ?_) fun i e' q => ?_
  · by_cases hi : i = 0 <;> by_cases hj : j = 0 <;> simp [hi, hj] at h <;> omega
  · cases i with
    | zero => exact ⟨by simpa using q, rfl⟩
    | succ i =>
      have h1 : ((es.map some).reverseAux L)[vs.length + i]? = L[i]? := by
        have := rev_behind (vs := es.map some) (l := L) (i := i)
        rw [List.length_map, ← hl] at this; exact this
      have h2 : ((vs.map some).reverseAux l)[vs.length + i]? = l[i]? := by
        have := rev_behind (vs := vs.map some) (l := l) (i := i)
        rw [List.length_map] at this; exact this
      refine ⟨?_, ?_⟩
      · show (some e :: (es.map some).reverseAux L)[vs.length + (i + 1)]? = _
        rw [show vs.length + (i + 1) = (vs.length + i) + 1 by omega, List.getElem?_cons_succ, h1]
        simpa using q
      · show l[i]? = (some v :: (vs.map some).reverseAux l)[vs.length + (i + 1)]?
        rw [show vs.length + (i + 1) = (vs.length + i) + 1 by omega, List.getElem?_cons_succ, h2]
theorem Env.dropA {vs : List V} {es : List Ent} (hl : vs.length = es.length) (E : Env B H ((vs.map some).reverseAux l) ((es.map some).reverseAux L)) : Env B H l L :=
  (Env.dropN hl (E.pushN)).drop
theorem Known.arg {Hf : Hp} {vs : List V} {es : List Ent} (hl : vs.length = es.length) (kn : Known K Hf H ((vs.map some).reverseAux l) ((es.map some).reverseAux L)) {i : Nat} {e : Ent} (h : es[i]? = some e) :
    ∃ v fp, vs[i]? = some v ∧ e.P K Hf H v fp := by
  have hi : i < es.length := (List.getElem?_eq_some_iff.mp h).1
  have h1 : ((es.map some).reverseAux L)[es.length - 1 - i]? = some (some e) := by
    have := rev_at (vs := es.map some) (l := L) (i := i) (by simpa using hi)
    rw [List.length_map] at this
    rw [this, List.getElem?_map, h]; rfl
  obtain ⟨v, fp, q1, q2⟩ := kn _ e h1
  refine ⟨v, fp, ?_, q2⟩
  have := rev_at (vs := vs.map some) (l := l) (i := i) (by simpa [hl] using hi)
  rw [List.length_map, hl, q1, List.getElem?_map] at this
  cases q : vs[i]? with
  | none => rw [q] at this; cases this
  | some w => rw [q] at this; cases this; rfl
/-- a tuple of such parts is x -/
def TupOf (es : List Ent) {α : Type} [Py α] (x : α) : Prop := ∀ (K : FK) (Hf H : Hp) (p : Addr) (vs : List V), vs.length = es.length → (∀ (i : Nat) (e : Ent), es[i]? = some e → ∃ v fp, vs[i]? = some v ∧ e.P K Hf H v fp) → Hf p = some (.tup vs) → Py.rep K Hf (.ref p) x
/-- a list of such parts is x, the list itself apart -/
def ItemsOf (es : List Ent) {α : Type} [Py α] (xs : List α) : Prop := ∀ (K : FK) (Hf H : Hp) (vs : List V), vs.length = es.length → (∀ (i : Nat) (e : Ent), es[i]? = some e → ∃ v fp, vs[i]? = some v ∧ e.P K Hf H v fp) → Reps K Hf vs xs
def LstOf (es : List Ent) {α : Type} [Py α] (x : α) : Prop := ∀ (K : FK) (Hf H : Hp) (p : Addr) (vs : List V), vs.length = es.length → (∀ (i : Nat) (e : Ent), es[i]? = some e → ∃ v fp, vs[i]? = some v ∧ e.P K Hf H v fp) → Hf p = some (.lst vs) → Py.rep K Hf (.ref p) x
theorem items_of : ∀ {xs : List α}, ItemsOf (xs.map fun x => fz x) xs
  | [], _, _, _, vs, hl, _ => by
    cases vs with
    | nil => exact .nil
    | cons _ _ => simp at hl
  | x :: xs, K, Hf, H, vs, hl, h => by
    cases vs with
    | nil => simp at hl
    | cons v vs =>
      obtain ⟨w, fp, h1, h2⟩ := h 0 (fz x) rfl
      have : v = w := by simpa using h1
      subst this
      exact .cons h2.2 (items_of K Hf H vs (by simpa using hl) fun i e q => by
        obtain ⟨u, fp', h3, h4⟩ := h (i + 1) e (by simpa using q)
        exact ⟨u, fp', by simpa using h3, h4⟩)
theorem tup_of {xs : List α} : TupOf (xs.map fun x => fz x) (Tup.mk xs) := fun K Hf H p vs hl h hp => ⟨p, vs, rfl, hp, items_of K Hf H vs hl h⟩
theorem lst_of {xs : List α} : LstOf (xs.map fun x => fz x) (Lst.mk xs) := fun K Hf H p vs hl h hp => ⟨p, vs, rfl, hp, items_of K Hf H vs hl h⟩
theorem two_of {es : List Ent} {x : α} {y : β} {K : FK} {Hf H : Hp} {vs : List V} (he : es = [fz x, fz y]) (hl : vs.length = es.length) (h : ∀ (i : Nat) (e : Ent), es[i]? = some e → ∃ v fp, vs[i]? = some v ∧ e.P K Hf H v fp) :
    ∃ a b, vs = [a, b] ∧ Py.rep K Hf a x ∧ Py.rep K Hf b y := by
  subst he
  match vs, hl with
  | [a, b], _ =>
    obtain ⟨u, _, h1, h2⟩ := h 0 (fz x) rfl
    obtain ⟨w, _, h3, h4⟩ := h 1 (fz y) rfl
    have e1 : a = u := by simpa using h1
    have e2 : b = w := by simpa using h3
    subst e1; subst e2
    exact ⟨a, b, rfl, h2.2, h4.2⟩
theorem pair_of {x : α} {y : β} : TupOf [fz x, fz y] (x, y) := fun K Hf H p vs hl h hp => by
  obtain ⟨a, b, rfl, h1, h2⟩ := two_of rfl hl h
  exact ⟨p, a, b, rfl, hp, h1, h2⟩
theorem lp_of {x : α} {y : β} : LstOf [fz x, fz y] (LP.mk x y) := fun K Hf H p vs hl h hp => by
  obtain ⟨a, b, rfl, h1, h2⟩ := two_of rfl hl h
  exact ⟨p, a, b, rfl, hp, h1, h2⟩
/-- parts that stand stay so when a new object comes -/
theorem parts_up {es : List Ent} {Hf : Hp} {vs : List V} {p : Addr} {o : HO} (hfr : Hf p = none) (h : ∀ (i : Nat) (e : Ent), es[i]? = some e → ∃ v fp, vs[i]? = some v ∧ e.P K Hf H v fp) :
    ∀ (i : Nat) (e : Ent), es[i]? = some e → ∃ v fp, vs[i]? = some v ∧ e.P K (upd Hf p o) H v fp := fun i e q => by
  obtain ⟨v, fp, h1, h2⟩ := h i e q
  exact ⟨v, fp, h1, e.loc (fun a u z => by rw [upd_ne (ne_of_none z hfr)]; exact z) (fun _ _ => rfl) h2⟩
theorem re_tup {ta : TA} {es : List Ent} {x : α} (h : RA B Γ ta es) (ho : TupOf es x) (hz : es.length ≤ 10000) : RE B Γ (tTup ta) (fz x) := fun σ H τ Δ hl hs E Q k =>
  h σ H τ Δ hl hs E _ fun vs H1 hv E1 => ⟨Nat.le_trans (by omega : vs.length ≤ 10000) (by decide), fun p hp => k _ _ (Env.dropN hv (E1.new (o := .tup vs) hp fun Hf _ s kn =>
    ⟨rfl, ho _ _ H1 p vs hv (parts_up (s.free hp) fun i e q => Known.arg hv kn q) upd_same⟩))⟩
theorem re_lst {ta : TA} {es : List Ent} {xs : List α} (h : RA B Γ ta es) (ho : ItemsOf es xs) (hz : es.length ≤ 10000) : RE B Γ (tLst ta) (ow xs) := fun σ H τ Δ hl hs E Q k =>
  h σ H τ Δ hl hs E _ fun vs H1 hv E1 => ⟨Nat.le_trans (by omega : vs.length ≤ 10000) (by decide), fun p hp => k _ _ (Env.dropN hv (E1.newO (o := .lst vs) hp fun Hf _ s kn =>
    ⟨p, vs, rfl, rfl, upd_same, ho _ _ H1 vs hv fun i e q => Known.arg hv kn q⟩))⟩
theorem re_lstF {ta : TA} {es : List Ent} {x : α} (h : RA B Γ ta es) (ho : LstOf es x) (hz : es.length ≤ 10000) : RE B Γ (tLst ta) (fz x) := fun σ H τ Δ hl hs E Q k =>
  h σ H τ Δ hl hs E _ fun vs H1 hv E1 => ⟨Nat.le_trans (by omega : vs.length ≤ 10000) (by decide), fun p hp => k _ _ (Env.dropN hv (E1.new (o := .lst vs) hp fun Hf _ s kn =>
    ⟨rfl, ho _ _ H1 p vs hv (parts_up (s.free hp) fun i e q => Known.arg hv kn q) upd_same⟩))⟩
end

end G
end

section
set_option Elab.async false
set_option linter.all false
set_option maxRecDepth 100000
set_option maxHeartbeats 1000000
/-! G4: data (==, in), built-ins on what values stand for -/
namespace G
open PySem L2


class Dt (α : Type) [Py α] [DecidableEq α] where
  dat : α → PyData
  dp : ∀ {K : FK} {H : Hp} {v : V} {x : α}, Py.rep K H v x → Dp K H v (dat x)
  lay : ∀ x : α, (dat x).canLay0 = true
  dep : Nat
  dle : ∀ x : α, (dat x).depth ≤ dep
  eqv : ∀ x y : α, PyData.eqv (dat x) (dat y) = decide (x = y)
instance : Dt Int := ⟨.int, fun {K H v x} h => by have e : v = .int x := h; subst e; exact .int x, fun _ => by simp [PyData.canLay0], 0, fun _ => by simp [PyData.depth], fun x y => by simp only [PyData.eqv]; by_cases h : x = y <;> simp [h]⟩
section
variable {α : Type} [Py α] [DecidableEq α] [Dt α]
theorem Dt.dpAll {K : FK} {H : Hp} : ∀ {vs : List V} {xs : List α}, Reps K H vs xs → DpAll K H vs (xs.map Dt.dat)
  | _, _, .nil => .nil
  | _, _, .cons a r => .cons (Dt.dp a) (Dt.dpAll r)
theorem Dt.layAll : ∀ xs : List α, PyData.canLayAll0 (xs.map Dt.dat) = true
  | [] => by simp [PyData.canLayAll0]
  | x :: xs => by simp [PyData.canLayAll0, Dt.lay x, Dt.layAll xs]
theorem Dt.depAll : ∀ xs : List α, PyData.depthAll (xs.map Dt.dat) ≤ Dt.dep α
  | [] => by simp [PyData.depthAll]
  | x :: xs => by
    have h1 := Dt.dle x
    have h2 := Dt.depAll xs
    simp only [List.map_cons, PyData.depthAll]
    omega
theorem Dt.eqvAll : ∀ xs ys : List α, PyData.eqvAll (xs.map Dt.dat) (ys.map Dt.dat) = decide (xs = ys)
  | [], [] => by simp [PyData.eqvAll]
  | [], _ :: _ => by simp [PyData.eqvAll]
  | _ :: _, [] => by simp [PyData.eqvAll]
  | x :: xs, y :: ys => by
    simp only [List.map_cons, PyData.eqvAll, Dt.eqv, Dt.eqvAll xs ys]
    by_cases h1 : x = y <;> by_cases h2 : xs = ys <;> simp [h1, h2]
instance instDtTup : Dt (Tup α) := ⟨fun x => .tuple (x.l.map Dt.dat), fun {K H v x} h => by
    obtain ⟨p, vs, rfl, h1, h2⟩ := h
    exact .tup (SqT.of h1) (Dt.dpAll h2), fun x => by simp [PyData.canLay0, Dt.layAll], Dt.dep α + 1, fun x => by
    have := Dt.depAll x.l
    simp only [PyData.depth]; omega, fun x y => by
    simp only [PyData.eqv, Dt.eqvAll]
    cases x; cases y; simp⟩
instance instDtLst : Dt (Lst α) := ⟨fun x => .list (x.l.map Dt.dat), fun {K H v x} h => by
    obtain ⟨p, vs, rfl, h1, h2⟩ := h
    exact .lst (SqL.of h1) (Dt.dpAll h2), fun x => by simp [PyData.canLay0, Dt.layAll], Dt.dep α + 1, fun x => by
    have := Dt.depAll x.l
    simp only [PyData.depth]; omega, fun x y => by
    simp only [PyData.eqv, Dt.eqvAll]
    cases x; cases y; simp⟩
theorem Dt.shaped (x : α) (h : Dt.dep α ≤ 64) : SeqAt.shaped (Dt.dat x) = true := by
  unfold SeqAt.shaped
  rw [Dt.lay x, Bool.true_and]
  exact decide_eq_true (Nat.le_trans (Dt.dle x) h)
variable {K : FK} {x y : α} {B : Bs} {Γ : List (Option Ent)}
theorem os_eqD (h : Dt.dep α ≤ 64 := by decide) : OpS K (rEqD K) (fz x) (fz y) (fz (decide (x = y))) := fun B H l L vx vy ek E Q k => by
  subst ek
  refine ⟨_, _, Dt.dp E.drop.view, Dt.dp E.view, Dt.shaped x h, Dt.shaped y h, ?_⟩
  rw [Dt.eqv]
  exact k _ _ E.drop.drop.pushB
theorem os_neD (h : Dt.dep α ≤ 64 := by decide) : OpS K (rNeD K) (fz x) (fz y) (fz (!decide (x = y))) := fun B H l L vx vy ek E Q k => by
  subst ek
  refine ⟨_, _, Dt.dp E.drop.view, Dt.dp E.view, Dt.shaped x h, Dt.shaped y h, ?_⟩
  rw [Dt.eqv]
  exact k _ _ E.drop.drop.pushB
end

theorem inV_ints (x : Int) (xs : List Int) : inV (.int x) (xs.map V.int) = decide (x ∈ xs) := by
  unfold inV
  rw [List.any_map]
  induction xs with
  | nil => simp
  | cons y ys ih =>
    rw [List.any_cons, ih]
    show ((y == x) || decide (x ∈ ys)) = _
    by_cases h : y = x
    · subst h; simp
    · have : ¬ x = y := fun e => h e.symm
      simp [h, this]
theorem inV_strs (x : Str) (xs : List Str) : inV (.str x) (xs.map V.str) = decide (x ∈ xs) := by
  unfold inV
  rw [List.any_map]
  induction xs with
  | nil => simp
  | cons y ys ih =>
    rw [List.any_cons, ih]
    show ((y == x) || decide (x ∈ ys)) = _
    by_cases h : y = x
    · subst h; simp
    · have : ¬ x = y := fun e => h e.symm
      simp [h, this]
theorem flat_ints (xs : List Int) : (xs.map V.int).all flatV = true := by
  rw [List.all_map]; exact List.all_eq_true.mpr fun _ _ => rfl
theorem flat_strs' (xs : List Str) : (xs.map V.str).all flatV = true := by
  rw [List.all_map]; exact List.all_eq_true.mpr fun _ _ => rfl
section
variable {K : FK} {B : Bs} {Γ : List (Option Ent)} {H : Hp} {l : List (Option V)} {L : List (Option Ent)} {x : Int} {xs : List Int} {s : Str} {ss : List Str} {α : Type} [Py α]
theorem os_inIT : OpS K (rIn K false) (fz x) (fz (Tup.mk xs)) (fz (decide (x ∈ xs))) := fun B H l L vx vy ek E Q k => by
  subst ek
  obtain ⟨p, vs, h1, h2, h3⟩ : ∃ p vs, vy = .ref p ∧ H p = some (.tup vs) ∧ Reps B.K H vs xs := E.view
  have e1 : vx = .int x := E.drop.view
  have ev := h3.ints
  subst ev; subst e1
  refine ⟨p, _, h1, .inr (SqT.of h2), rfl, flat_ints xs, ?_⟩
  rw [if_neg Bool.false_ne_true, inV_ints]
  exact k _ _ E.drop.drop.pushB
theorem os_niIT : OpS K (rIn K true) (fz x) (fz (Tup.mk xs)) (fz (!decide (x ∈ xs))) := fun B H l L vx vy ek E Q k => by
  subst ek
  obtain ⟨p, vs, h1, h2, h3⟩ : ∃ p vs, vy = .ref p ∧ H p = some (.tup vs) ∧ Reps B.K H vs xs := E.view
  have e1 : vx = .int x := E.drop.view
  have ev := h3.ints
  subst ev; subst e1
  refine ⟨p, _, h1, .inr (SqT.of h2), rfl, flat_ints xs, ?_⟩
  rw [if_pos rfl, inV_ints]
  exact k _ _ E.drop.drop.pushB
theorem os_inIL : OpS K (rIn K false) (fz x) (fz (Lst.mk xs)) (fz (decide (x ∈ xs))) := fun B H l L vx vy ek E Q k => by
  subst ek
  obtain ⟨p, vs, h1, h2, h3⟩ : ∃ p vs, vy = .ref p ∧ H p = some (.lst vs) ∧ Reps B.K H vs xs := E.view
  have e1 : vx = .int x := E.drop.view
  have ev := h3.ints
  subst ev; subst e1
  refine ⟨p, _, h1, .inl (SqL.of h2), rfl, flat_ints xs, ?_⟩
  rw [if_neg Bool.false_ne_true, inV_ints]
  exact k _ _ E.drop.drop.pushB
theorem os_niIL : OpS K (rIn K true) (fz x) (fz (Lst.mk xs)) (fz (!decide (x ∈ xs))) := fun B H l L vx vy ek E Q k => by
  subst ek
  obtain ⟨p, vs, h1, h2, h3⟩ : ∃ p vs, vy = .ref p ∧ H p = some (.lst vs) ∧ Reps B.K H vs xs := E.view
  have e1 : vx = .int x := E.drop.view
  have ev := h3.ints
  subst ev; subst e1
  refine ⟨p, _, h1, .inl (SqL.of h2), rfl, flat_ints xs, ?_⟩
  rw [if_pos rfl, inV_ints]
  exact k _ _ E.drop.drop.pushB
theorem os_niSL : OpS K (rIn K true) (fz s) (fz (Lst.mk ss)) (fz (!decide (s ∈ ss))) := fun B H l L vx vy ek E Q k => by
  subst ek
  obtain ⟨p, vs, h1, h2, h3⟩ : ∃ p vs, vy = .ref p ∧ H p = some (.lst vs) ∧ Reps B.K H vs ss := E.view
  have e1 : vx = .str s := E.drop.view
  have ev := h3.strs
  subst ev; subst e1
  refine ⟨p, _, h1, .inl (SqL.of h2), rfl, flat_strs' ss, ?_⟩
  rw [if_pos rfl, inV_strs]
  exact k _ _ E.drop.drop.pushB
/-- x is None, is not None -/
theorem os_isN {o : Option α} (hn : ∀ (K : FK) (H : Hp) (a : α), ¬ Py.rep K H .non a) : OpS K (fun x y H Q => y = .non ∧ Q (.bl (decide (x = .non))) H) (fz o) (fz ()) (fz (o.isNone)) := fun B H l L vx vy ek E Q k => by
  have e2 : vy = .non := E.view
  have q : Py.rep B.K H vx o := E.drop.view
  refine ⟨e2, ?_⟩
  have e3 : decide (vx = V.non) = o.isNone := by
    cases o with
    | none => have e : vx = .non := q; simp [e]
    | some a =>
      have q : Py.rep B.K H vx a := q
      by_cases h : vx = .non
      · subst h; exact absurd q (hn _ _ _)
      · simp [h]
  rw [e3]
  exact k _ _ E.drop.drop.pushB
theorem os_notN {o : Option α} (hn : ∀ (K : FK) (H : Hp) (a : α), ¬ Py.rep K H .non a) : OpS K (fun x y H Q => y = .non ∧ Q (.bl (!decide (x = .non))) H) (fz o) (fz ()) (fz (o.isSome)) := fun B H l L vx vy ek E Q k => by
  have e2 : vy = .non := E.view
  have q : Py.rep B.K H vx o := E.drop.view
  refine ⟨e2, ?_⟩
  have e3 : (!decide (vx = V.non)) = o.isSome := by
    cases o with
    | none => have e : vx = .non := q; simp [e]
    | some a =>
      have q : Py.rep B.K H vx a := q
      by_cases h : vx = .non
      · subst h; exact absurd q (hn _ _ _)
      · simp [h]
  rw [e3]
  exact k _ _ E.drop.drop.pushB

/-! ### built-ins -/
theorem one_arg {e : Ent} {vs : List V} {B : Bs} (h : vs.length = [e].length) (E : Env B H ((vs.map some).reverseAux l) (([e].map some).reverseAux L)) : ∃ v, vs = [v] ∧ Env B H (some v :: l) (some e :: L) := by
  match vs, h with
  | [v], _ => exact ⟨v, rfl, E⟩
theorem two_args {e e' : Ent} {vs : List V} {B : Bs} (h : vs.length = [e, e'].length) (E : Env B H ((vs.map some).reverseAux l) (([e, e'].map some).reverseAux L)) : ∃ v w, vs = [v, w] ∧ Env B H (some w :: some v :: l) (some e' :: some e :: L) := by
  match vs, h with
  | [v, w], _ => exact ⟨v, w, rfl, E⟩
abbrev rLenQ (K : FK) : List V → Hp → VK → Prop := fun xs H Q => ∃ p ys, xs = [.ref p] ∧ (SqL K H p ys ∨ SqT K H p ys) ∧ Q (.int ys.length) H
theorem cb_lenT {xs : List α} : CbS K (rLenQ K) [fz (Tup.mk xs)] (fz (xs.length : Int)) := fun B H l L vs ek hl E Q k => by
  subst ek
  obtain ⟨v, rfl, E⟩ := one_arg hl E
  obtain ⟨p, us, h1, h2, h3⟩ : ∃ p vs, v = .ref p ∧ H p = some (.tup vs) ∧ Reps B.K H vs xs := E.view
  refine ⟨p, us, by rw [h1], .inr (SqT.of h2), ?_⟩
  rw [h3.length]
  exact k _ _ E.drop.pushI
theorem cb_lenL {xs : List α} : CbS K (rLenQ K) [fz (Lst.mk xs)] (fz (xs.length : Int)) := fun B H l L vs ek hl E Q k => by
  subst ek
  obtain ⟨v, rfl, E⟩ := one_arg hl E
  obtain ⟨p, us, h1, h2, h3⟩ : ∃ p vs, v = .ref p ∧ H p = some (.lst vs) ∧ Reps B.K H vs xs := E.view
  refine ⟨p, us, by rw [h1], .inl (SqL.of h2), ?_⟩
  rw [h3.length]
  exact k _ _ E.drop.pushI
theorem cb_lenO {xs : List α} : CbS K (rLenQ K) [ow xs] (fz (xs.length : Int)) := fun B H l L vs ek hl E Q k => by
  subst ek
  obtain ⟨v, rfl, E⟩ := one_arg hl E
  obtain ⟨p, us, h1, h2, h3⟩ := E.viewO
  refine ⟨p, us, by rw [h1], .inl (SqL.of h2), ?_⟩
  rw [h3.length]
  exact k _ _ E.drop.pushI
theorem cb_lenS : CbS K (rLenQ K) [fz (Scr.mk xs)] (fz (xs.length : Int)) := fun B H l L vs ek hl E Q k => by
  subst ek
  obtain ⟨v, rfl, E⟩ := one_arg hl E
  obtain ⟨p, h1, h2⟩ : ∃ p, v = .ref p ∧ SqL B.K H p (xs.map V.int) := E.view
  refine ⟨p, _, by rw [h1], .inl h2, ?_⟩
  rw [List.length_map]
  exact k _ _ E.drop.pushI
abbrev rTupQ (K : FK) : List V → Hp → VK → Prop := fun xs H Q => ∃ p ys, xs = [.ref p] ∧ ((SqL K H p ys ∧ ∀ l, H l = none → Q (.ref l) (upd H l (.tup ys))) ∨ (SqT K H p ys ∧ Q (.ref p) H))
/-- tuple(xs), a list that is let go -/
theorem cb_tupO {xs : List α} : CbS K (rTupQ K) [ow xs] (fz (Tup.mk xs)) := fun B H l L vs ek hl E Q k => by
  subst ek
  obtain ⟨v, rfl, E⟩ := one_arg hl E
  obtain ⟨us, ⟨p, rfl, hp⟩, E'⟩ : ∃ us, (∃ p, v = .ref p ∧ H p = some (.lst us)) ∧ ∀ q, H q = none → Env B (upd H q (.tup us)) (some (.ref q) :: some v :: l) (some (fz (Tup.mk xs)) :: some (ow xs) :: L) := by
    obtain ⟨p, us, h1, h2, h3⟩ := E.viewO
    refine ⟨us, ⟨p, h1, h2⟩, fun q hq => E.new (o := .tup us) hq fun Hf _ s kn => ⟨rfl, q, us, rfl, upd_same, ?_⟩⟩
    obtain ⟨w, fp, q1, p', us', q2, q3, q4, q5⟩ := kn 0 _ rfl
    have e1 : v = w := by simpa using q1
    rw [← e1, h1] at q2
    cases q2
    rw [h2] at q4
    cases q4
    exact q5.mono fun a u z => by rw [upd_ne (ne_of_none z (s.free hq))]; exact z
  exact ⟨p, us, rfl, .inl ⟨SqL.of hp, fun q hq => k _ _ (E' q hq).drop1⟩⟩
theorem cb_tupL {xs : List α} : CbS K (rTupQ K) [fz (Lst.mk xs)] (fz (Tup.mk xs)) := fun B H l L vs ek hl E Q k => by
  subst ek
  obtain ⟨v, rfl, E⟩ := one_arg hl E
  obtain ⟨us, ⟨p, rfl, hp⟩, E'⟩ : ∃ us, (∃ p, v = .ref p ∧ H p = some (.lst us)) ∧ ∀ q, H q = none → Env B (upd H q (.tup us)) (some (.ref q) :: some v :: l) (some (fz (Tup.mk xs)) :: some (fz (Lst.mk xs)) :: L) := by
    obtain ⟨p, us, h1, h2, h3⟩ : ∃ p vs, v = .ref p ∧ H p = some (.lst vs) ∧ Reps B.K H vs xs := E.view
    refine ⟨us, ⟨p, h1, h2⟩, fun q hq => E.new (o := .tup us) hq fun Hf _ s kn => ⟨rfl, q, us, rfl, upd_same, ?_⟩⟩
    obtain ⟨p', us', q2, q4, q5⟩ := Env.know0 kn
    rw [h1] at q2
    cases q2
    have q4 := s _ _ q4
    rw [h2] at q4
    cases q4
    exact q5.mono fun a u z => by rw [upd_ne (ne_of_none z (s.free hq))]; exact z
  exact ⟨p, us, rfl, .inl ⟨SqL.of hp, fun q hq => k _ _ (E' q hq).drop1⟩⟩
abbrev rLstQ (K : FK) : List V → Hp → VK → Prop := fun xs H Q => ∃ p ys, xs = [.ref p] ∧ (SqL K H p ys ∨ SqT K H p ys) ∧ ∀ l, H l = none → Q (.ref l) (upd H l (.lst ys))
theorem sqT_fun {K : FK} {H : Hp} {p : Addr} {us : List V} (h : SqT K H p us) : True := trivial
/-- list(t): its items are those of the tuple -/
theorem cb_lstT {xs : List α} : CbS K (rLstQ K) [fz (Tup.mk xs)] (ow xs) := fun B H l L vs ek hl E Q k => by
  subst ek
  obtain ⟨v, rfl, E⟩ := one_arg hl E
  obtain ⟨Hf, F, E0⟩ := id E
  obtain ⟨w, q1, q2, p, us, q3, q4, q5⟩ := E0.hold 0 _ rfl
  have e1 : v = w := by simpa using q1
  subst e1
  subst q3
  refine ⟨p, us, rfl, .inr (SqT.of (E0.b1 p _ q4)), fun q hq => ?_⟩
  refine k _ _ (Env.drop1 (w := .ref p) (e' := fz (Tup.mk xs)) ?_)
  have hfq := E0.b1.free hq
  have E1 : Env B (upd H q (.lst us)) (some (.ref q) :: some (.ref p) :: l) (some (ow xs) :: some (fz (Tup.mk xs)) :: L) := by
    have nw : ∀ {a : Addr}, H a ≠ none → upd H q (.lst us) a = H a := fun {a} z => upd_ne (fun y => z (by rw [y]; exact hq))
    have s2 : Same H (upd H q (.lst us)) := fun a u z => by rw [upd_ne (ne_of_none z hq)]; exact z
    have pn : ∀ i, q ∉ F i := fun i z => (E0.own i q z).2 hq
    refine ⟨Hf, consF [q] F, E0.b0, E0.b1.trans s2, ?_, ?_, fun a u h1 h2 => s2 a u (E0.keep a u h1 h2), ?_, ?_⟩
    · intro i j a h1 h2
      cases i with
      | zero =>
        cases j with
        | zero => rfl
        | succ j =>
          have : a = q := by simpa [consF] using h1
          subst this
          exact absurd h2 (pn j)
      | succ i =>
        cases j with
        | zero =>
          have : a = q := by simpa [consF] using h2
          subst this
          exact absurd h1 (pn i)
        | succ j => exact congrArg _ (E0.dj i j a h1 h2)
    · intro i a h1
      cases i with
      | zero =>
        have : a = q := by simpa [consF] using h1
        subst this
        exact ⟨hfq, by rw [upd_same]; simp⟩
      | succ i =>
        obtain ⟨z1, z2⟩ := E0.own i a h1
        have z : a ≠ q := fun z => z2 (by rw [z]; exact hq)
        exact ⟨z1, by rw [upd_ne z]; exact z2⟩
    · intro a h1 h2
      by_cases z : a = q
      · subst z
        cases y : B.Hs a with
        | none => exact .inl rfl
        | some u =>
          by_cases hb : a ∈ B.br
          · exact .inr hb
          · have := E0.keep a u hb y
            rw [hq] at this; cases this
      · refine E0.fresh a ?_ h2
        rcases h1 with h1 | ⟨i, h1⟩
        · exact .inl h1
        · cases i with
          | zero => exact absurd (by simpa [consF] using h1) z
          | succ i => exact .inr ⟨i, h1⟩
    · intro i e0 h1
      cases i with
      | zero =>
        have : ow xs = e0 := by simpa using h1
        subst this
        exact ⟨_, rfl, q, us, rfl, rfl, upd_same, q5⟩
      | succ i =>
        obtain ⟨v', z1, z2⟩ := E0.hold i e0 (by simpa using h1)
        exact ⟨v', by simpa using z1, e0.loc (Same.refl _) (fun a ha => nw (E0.own i a ha).2) z2⟩
  exact E1
abbrev rIntQ : List V → Hp → VK → Prop := fun xs H Q => (∃ i, xs = [.int i] ∧ Q (.int i) H) ∨ ∃ k, xs = [.bl k] ∧ Q (.int (if k then 1 else 0)) H
theorem cb_intI : CbS K rIntQ [fz x] (fz x) := fun B H l L vs ek hl E Q k => by
  obtain ⟨v, rfl, E⟩ := one_arg hl E
  have e : v = .int x := E.view
  subst e
  exact .inl ⟨x, rfl, k _ _ E⟩
theorem cb_intB {b : Bool} : CbS K rIntQ [fz b] (fz (if b then (1 : Int) else 0)) := fun B H l L vs ek hl E Q k => by
  obtain ⟨v, rfl, E⟩ := one_arg hl E
  have e : v = .bl b := E.view
  subst e
  exact .inr ⟨b, rfl, k _ _ E.drop.pushI⟩
abbrev rAbsQ : List V → Hp → VK → Prop := fun xs H Q => ∃ i, xs = [.int i] ∧ Q (.int (if i < 0 then -i else i)) H
theorem cb_abs : CbS K rAbsQ [fz x] (fz (if x < 0 then -x else x)) := fun B H l L vs ek hl E Q k => by
  obtain ⟨v, rfl, E⟩ := one_arg hl E
  have e : v = .int x := E.view
  subst e
  exact ⟨x, rfl, k _ _ E.drop.pushI⟩
abbrev rStrQ : List V → Hp → VK → Prop := fun xs H Q => ∃ i, xs = [.int i] ∧ i.natAbs.log2 < 1920 ∧ Q (.str (toString i)) H
theorem cb_str (h : x.natAbs.log2 < 1920) : CbS K rStrQ [fz x] (fz ((toString x : String) : Str)) := fun B H l L vs ek hl E Q k => by
  obtain ⟨v, rfl, E⟩ := one_arg hl E
  have e : v = .int x := E.view
  subst e
  exact ⟨x, rfl, h, k _ _ E.drop.pushStr⟩
end
end G
end

section
set_option Elab.async false
set_option linter.all false
set_option maxRecDepth 100000
set_option maxHeartbeats 1000000
/-! G5: statements, loops, comprehensions over an environment -/
namespace G
open PySem L2

structure GE where
  nx : List (Option Ent) → Prop
  rt : Ent → List (Option Ent) → Prop
  bk : List (Option Ent) → Prop := fun _ => False
  ct : List (Option Ent) → Prop := fun _ => False
structure Cov (B : Bs) (τ : List (Option V)) (Δ : List (Option Ent)) (D : GE) (D' : Ends) : Prop where
  nx : ∀ Γ' σ' H', D.nx Γ' → σ'.length = Γ'.length → Env B H' (τ ++ σ') (Δ ++ Γ') → D'.nx σ' H'
  rt : ∀ v ent Γ' σ' H', D.rt ent Γ' → σ'.length = Γ'.length → Env B H' (some v :: (τ ++ σ')) (some ent :: (Δ ++ Γ')) → D'.rt v H'
  bk : ∀ Γ' σ' H', D.bk Γ' → σ'.length = Γ'.length → Env B H' (τ ++ σ') (Δ ++ Γ') → D'.bk σ' H'
  ct : ∀ Γ' σ' H', D.ct Γ' → σ'.length = Γ'.length → Env B H' (τ ++ σ') (Δ ++ Γ') → D'.ct σ' H'
def RS (B : Bs) (Γ : List (Option Ent)) (t : TS) (D : GE) : Prop := ∀ (σ : L2.St) (H : Hp) (τ : List (Option V)) (Δ : List (Option Ent)), τ.length = Δ.length → σ.length = Γ.length →
  Env B H (τ ++ σ) (Δ ++ Γ) → ∀ D' : Ends, Cov B τ Δ D D' → t D' σ H

section
variable {B : Bs} {Γ Γ' : List (Option Ent)} {D : GE} {t u : TS} {te ta tb : TE} {tt : TT} {e : Ent} {i j : Nat} {b : Bool}
theorem rs_nil (h : D.nx Γ) : RS B Γ tNext D := fun σ H τ Δ hl hs E D' C => C.nx Γ σ H h hs E
theorem rs_seq (h : RS B Γ t { D with nx := fun Γ' => RS B Γ' u D }) : RS B Γ (tSeq t u) D := fun σ H τ Δ hl hs E D' C =>
  h σ H τ Δ hl hs E _ ⟨fun Γ' σ' H' h' hs' E' => h' σ' H' τ Δ hl hs' E' D' C, C.rt, C.bk, C.ct⟩
theorem set_app {α : Type} (x : α) (j : Nat) (l : List α) : ∀ τ : List α, (τ ++ l).set (τ.length + j) x = τ ++ l.set j x
  | [] => by simp
  | a :: τ => by
    rw [List.cons_append, List.length_cons, show τ.length + 1 + j = (τ.length + j) + 1 by omega, List.set_cons_succ, set_app x j l τ]
    rfl
theorem Env.putS {σ : L2.St} {τ : List (Option V)} {Δ : List (Option Ent)} {H : Hp} {v : V} (hl : τ.length = Δ.length) (hs : σ.length = Γ.length) (hi : i < Γ.length) (E : Env B H (some v :: (τ ++ σ)) (some e :: (Δ ++ Γ))) :
    Env B H (τ ++ σ.set i (some v)) (Δ ++ Γ.set i (some e)) := by
  have E' := E.put (i := τ.length + i) (by rw [List.length_append]; omega) (by rw [List.length_append, List.length_append]; omega)
  rw [set_app, hl, set_app] at E'
  exact E'
theorem rs_asg (h : RE B Γ te e) (hi : i < Γ.length) (k : D.nx (Γ.set i (some e))) : RS B Γ (tAsg te (gName i)) D := fun σ H τ Δ hl hs E D' C =>
  h σ H τ Δ hl hs E _ fun v H' E' => C.nx _ _ H' k (by simp [hs]) (E'.putS hl hs hi)
theorem rs_if (h : RT B Γ tt b) (h1 : b = true → RS B Γ t D) (h2 : b = false → RS B Γ u D) : RS B Γ (tIfS tt t u) D := fun σ H τ Δ hl hs E D' C =>
  h σ H τ Δ hl hs E _ fun H1 E1 => by
    cases b with
    | true => exact h1 rfl σ H1 τ Δ hl hs E1 D' C
    | false => exact h2 rfl σ H1 τ Δ hl hs E1 D' C
theorem rs_ret (h : RE B Γ te e) (k : D.rt e Γ) : RS B Γ (tRet te) D := fun σ H τ Δ hl hs E D' C =>
  h σ H τ Δ hl hs E _ fun v H' E' => C.rt v e Γ σ H' k hs E'
theorem rs_retN (k : D.rt (fz ()) Γ) : RS B Γ tRetN D := fun σ H τ Δ hl hs E D' C => C.rt .non (fz ()) Γ σ H k hs E.pushN
theorem rs_drop (h : RE B Γ te e) (k : D.nx Γ) : RS B Γ (tDrop te) D := fun σ H τ Δ hl hs E D' C =>
  h σ H τ Δ hl hs E _ fun v H' E' => C.nx _ _ H' k hs E'.drop
theorem rs_break (k : D.bk Γ) : RS B Γ tBreak D := fun σ H τ Δ hl hs E D' C => C.bk Γ σ H k hs E
theorem rs_cont (k : D.ct Γ) : RS B Γ tCont D := fun σ H τ Δ hl hs E D' C => C.ct Γ σ H k hs E
theorem rs_aug {f : Int → Int → Int} {x y : Int} (hx : Γ[i]? = some (some (fz x))) (h : RE B Γ te (fz y)) (k : D.nx (Γ.set i (some (fz (f x y))))) : RS B Γ (tAug i te (ipI f)) D := fun σ H τ Δ hl hs E D' C => by
  have hi : i < Γ.length := (List.getElem?_eq_some_iff.mp hx).1
  obtain ⟨v, Hf, fp, h1, _, _, h2⟩ := E.top (i := τ.length + i) (e := fz x) (by rw [hl, slot_shiftE]; exact hx)
  rw [slot_shift] at h1
  have ev : v = .int x := h2.2
  subst ev
  refine ⟨.int x, h1, h σ H τ Δ hl hs E _ fun w H' E' => ?_⟩
  have ew : w = .int y := E'.view
  exact ⟨x, y, rfl, ew, C.nx _ _ H' k (by simp [hs]) (E'.drop.pushI.putS hl hs hi)⟩
/-- a slot that is owned: its list as it stands -/
theorem Env.slotO {α : Type} [Py α] {xs : List α} {σ : L2.St} {τ : List (Option V)} {Δ : List (Option Ent)} {H : Hp} (hl : τ.length = Δ.length) (hx : Γ[i]? = some (some (ow xs))) (E : Env B H (τ ++ σ) (Δ ++ Γ)) :
    ∃ p vs, σ[i]? = some (some (.ref p)) ∧ H p = some (.lst vs) ∧ Reps B.K H vs xs := by
  obtain ⟨v, Hf, fp, h1, _, s, p, vs, h2, h3, h4, h5⟩ := E.top (i := τ.length + i) (e := ow xs) (by rw [hl, slot_shiftE]; exact hx)
  rw [slot_shift, h2] at h1
  exact ⟨p, vs, h1, h4, h5.mono s⟩
theorem set_shift {τ : List (Option Ent)} {Γ : List (Option Ent)} {x : Option Ent} : (τ ++ Γ).set (τ.length + i) x = τ ++ Γ.set i x := set_app x i Γ τ
/-- the owned list of slot i becomes another, made of frozen things that stand -/
theorem Env.mutO {α : Type} [Py α] {xs ys : List α} {σ : L2.St} {τ : List (Option V)} {Δ : List (Option Ent)} {H : Hp} {p : Addr} {us : List V} (hl : τ.length = Δ.length) (hx : Γ[i]? = some (some (ow xs))) (E : Env B H (τ ++ σ) (Δ ++ Γ))
    (hp : σ[i]? = some (some (.ref p))) (hr : ∀ Hf vs, Same Hf H → Known B.K Hf H (τ ++ σ) (Δ ++ Γ) → H p = some (.lst vs) → Reps B.K Hf vs xs → Reps B.K Hf us ys) : Env B (upd H p (.lst us)) (τ ++ σ) (Δ ++ Γ.set i (some (ow ys))) := by
  obtain ⟨Hf0, F0, E0⟩ := id E
  have hx' : (Δ ++ Γ)[Δ.length + i]? = some (some (ow xs)) := by rw [slot_shiftE]; exact hx
  have hp' : (τ ++ σ)[Δ.length + i]? = some (some (.ref p)) := by rw [← hl, slot_shift]; exact hp
  have kn : Known B.K Hf0 H (τ ++ σ) (Δ ++ Γ) := fun k e' q => by
    obtain ⟨v', h1, h2⟩ := E0.hold k e' q
    exact ⟨v', F0 k, h1, h2⟩
  have E1 : Env B H (τ ++ σ) (Δ ++ Γ) := ⟨Hf0, F0, E0⟩
  rw [← set_shift]
  -- done on the very witness
  obtain ⟨v, hv, p', vs, ev, ef, hpv, hrv⟩ := E0.hold _ _ hx'
  rw [hp'] at hv
  cases hv
  cases ev
  have hpF : p ∈ F0 (Δ.length + i) := by rw [ef]; simp
  have hfp := (E0.own _ p hpF).1
  have R := hr Hf0 vs E0.b1 kn hpv hrv
  refine ⟨Hf0, F0, E0.b0, fun a u q => by rw [upd_ne (ne_of_none q hfp)]; exact E0.b1 a u q, E0.dj, fun k a q => ⟨(E0.own k a q).1, ?_⟩, fun a u h1 h2 => ?_, E0.fresh, fun k e0 q => ?_⟩
  · by_cases z : a = p
    · rw [z, upd_same]; simp
    · rw [upd_ne z]; exact (E0.own k a q).2
  · have z : a ≠ p := fun z => by
      subst z
      rcases E0.fresh a (.inr ⟨_, hpF⟩) (E0.b0.free hfp) with q | q
      · rw [q] at h2; cases h2
      · exact h1 q
    rw [upd_ne z]; exact E0.keep a u h1 h2
  · by_cases z : k = Δ.length + i
    · subst z
      have hk : Δ.length + i < (Δ ++ Γ).length := (List.getElem?_eq_some_iff.mp hx').1
      rw [List.getElem?_set_self hk] at q
      cases q
      exact ⟨_, hp', p, us, rfl, ef, upd_same, R⟩
    · rw [List.getElem?_set_ne (Ne.symm z)] at q
      obtain ⟨v', q1, q2⟩ := E0.hold k e0 q
      refine ⟨v', q1, e0.loc (Same.refl _) (fun a ha => upd_ne (fun y => ?_)) q2⟩
      subst y
      exact z (E0.dj k _ a ha hpF)
theorem bound_line {n : Nat} (h : n < 10000) : n < sizeLine := Nat.lt_of_lt_of_le h (by decide)
/-- xs.append(e), xs in slot i -/
theorem rs_app {α : Type} [Py α] {xs : List α} {x : α} (hx : Γ[i]? = some (some (ow xs))) (h : RE B Γ te (fz x)) (hz : xs.length < 10000) (k : D.nx (Γ.set i (some (ow (xs ++ [x]))))) :
    RS B Γ (tDrop (tBM B.K "list" rAppend (tVar i) (tCons te tNil))) D := fun σ H τ Δ hl hs E D' C => by
  obtain ⟨p, vs, h1, h2, h3⟩ := E.slotO hl hx
  refine ⟨.ref p, h1, .inl ⟨rfl, vs, SqL.of h2⟩, h σ H τ Δ hl hs E _ fun v H' E' => ?_⟩
  have E1 := E'.drop
  obtain ⟨p', us, q1, q2, q3⟩ := E1.slotO hl hx
  rw [h1] at q1
  cases q1
  refine ⟨p, us, v, rfl, rfl, q2, bound_line (by rw [q3.length]; exact hz), ?_⟩
  refine C.nx _ _ _ k (by simp [hs]) ?_
  have E2 := E'.mutO (τ := some v :: τ) (Δ := some (fz x) :: Δ) (us := us ++ [v]) (ys := xs ++ [x]) (by simp [hl]) hx h1 fun Hf ws s kn hw hr => by
    rw [q2] at hw
    cases hw
    exact hr.append (.cons (Env.know0 kn) .nil)
  exact E2.drop
/-- xs[k] = e, xs in slot i -/
theorem rs_setL {α : Type} [Py α] {xs : List α} {x : α} {n : Int} {m : Nat} {ti : TE} (hx : Γ[i]? = some (some (ow xs))) (h : RE B Γ te (fz x)) (hi : RE B Γ ti (fz n)) (hm : ixN xs.length n = some m) (k : D.nx (Γ.set i (some (ow (xs.set m x))))) :
    RS B Γ (tAsg te (gSub (tVar i) ti rSetL)) D := fun σ H τ Δ hl hs E D' C => by
  refine h σ H τ Δ hl hs E _ fun v H1 E1 => ?_
  obtain ⟨p, vs, h1, h2, h3⟩ := E1.slotO (τ := some v :: τ) (Δ := some (fz x) :: Δ) (by simp [hl]) hx
  refine ⟨.ref p, h1, hi σ H1 (some v :: τ) (some (fz x) :: Δ) (by simp [hl]) hs E1 _ fun w H2 E2 => ?_⟩
  have ew : w = .int n := E2.view
  obtain ⟨p', us, q1, q2, q3⟩ := E2.drop.slotO (τ := some v :: τ) (Δ := some (fz x) :: Δ) (by simp [hl]) hx
  rw [h1] at q1
  cases q1
  refine ⟨p, us, n, m, rfl, ew, q2, by rw [q3.length]; exact hm, ?_⟩
  refine C.nx _ _ _ k (by simp [hs]) ?_
  have E3 := E2.drop.mutO (τ := some v :: τ) (Δ := some (fz x) :: Δ) (us := us.set m v) (ys := xs.set m x) (by simp [hl]) hx h1 fun Hf ws s kn hw hr => by
    rw [q2] at hw
    cases hw
    exact hr.set (Env.know0 kn) m
  exact E3.drop
/-- y = xs.pop(k), xs in slot j -/
theorem rs_popAt {α : Type} [Py α] {xs : List α} {x : α} {n : Int} {m : Nat} {ti : TE} (hx : Γ[j]? = some (some (ow xs))) (hi : RE B Γ ti (fz n)) (hn : 0 ≤ n) (hm : xs[n.toNat]? = some x) (hb : xs.length < 10000) (hij : i < Γ.length)
    (k : D.nx ((Γ.set j (some (ow (xs.eraseIdx n.toNat)))).set i (some (fz x)))) :
    RS B Γ (tAsg (tBM B.K "list" rPopAt (tVar j) (tCons ti tNil)) (gName i)) D := fun σ H τ Δ hl hs E D' C => by
  obtain ⟨p, vs, h1, h2, h3⟩ := E.slotO hl hx
  refine ⟨.ref p, h1, .inl ⟨rfl, vs, SqL.of h2⟩, hi σ H τ Δ hl hs E _ fun w H1 E1 => ?_⟩
  have ew : w = .int n := E1.view
  have E2 := E1.drop
  obtain ⟨p', us, q1, q2, q3⟩ := E2.slotO hl hx
  rw [h1] at q1
  cases q1
  have hlt : n.toNat < xs.length := (List.getElem?_eq_some_iff.mp hm).1
  obtain ⟨v, q4, E3⟩ := E2.pushX (e := fz x) (R := fun v => us[n.toNat]? = some v) fun Hf _ s kn => by
    obtain ⟨v', fp, z1, p2, us2, z2, z3, z4, z5⟩ := kn (Δ.length + j) (ow xs) (by rw [slot_shiftE]; exact hx)
    rw [← hl, slot_shift, h1] at z1
    cases z1
    cases z2
    rw [q2] at z4
    cases z4
    obtain ⟨v, y1, y2⟩ := z5.get hm
    exact ⟨v, y1, rfl, y2⟩
  have e0 : seqIndex? n us.length = some n.toNat := (ixN_seq (by
    unfold ixN
    rw [if_pos hn, if_pos (by rw [q3.length]; omega)])).1
  refine ⟨p, us, n, n.toNat, v, rfl, by rw [ew], q2, by omega, by omega, e0, q4, ?_⟩
  have E4 := E3.mutO (τ := some v :: τ) (Δ := some (fz x) :: Δ) (us := us.eraseIdx n.toNat) (ys := xs.eraseIdx n.toNat) (by simp [hl]) hx h1 fun Hf ws s kn hw hr => by
    rw [q2] at hw
    cases hw
    exact Reps.erase hr _
  exact C.nx _ _ _ k (by simp [hs]) (Env.putS (Γ := Γ.set j _) hl (by simp [hs]) (by simpa using hij) E4)
end
end G
end

section
set_option Elab.async false
set_option linter.all false
set_option maxRecDepth 100000
set_option maxHeartbeats 1000000
/-! G6: loops, comprehensions -/
namespace G
open PySem L2

def Le (Γ1 Γ2 : List (Option Ent)) : Prop := Γ1.length = Γ2.length ∧ ∀ (i : Nat) (e : Ent), Γ1[i]? = some (some e) → Γ2[i]? = some (some e)
theorem Le.refl (Γ : List (Option Ent)) : Le Γ Γ := ⟨rfl, fun _ _ h => h⟩
theorem Le.nil : Le [] [] := Le.refl _
theorem Le.skip {a b : List (Option Ent)} {x : Option Ent} (h : Le a b) : Le (none :: a) (x :: b) := ⟨by simp [h.1], fun i e q => by
  cases i with
  | zero => simp at q
  | succ i => exact h.2 i e (by simpa using q)⟩
theorem Le.same {a b : List (Option Ent)} {x : Option Ent} (h : Le a b) : Le (x :: a) (x :: b) := ⟨by simp [h.1], fun i e q => by
  cases i with
  | zero => simpa using q
  | succ i => exact h.2 i e (by simpa using q)⟩
theorem Le.eqv {a b : List (Option Ent)} {x y : Option Ent} (h : Le a b) (e : x = y) : Le (x :: a) (y :: b) := e ▸ Le.same h

section
variable {B : Bs} {Γ Γ' : List (Option Ent)} {D : GE} {t u : TS} {te ta tb : TE} {tt : TT} {e : Ent} {i j : Nat} {b : Bool} {wi : TI} {g : TG}
theorem Env.le {H : Hp} {σ : L2.St} {τ : List (Option V)} {Δ Γ1 Γ2 : List (Option Ent)} (hl : τ.length = Δ.length) (h : Le Γ1 Γ2) (E : Env B H (τ ++ σ) (Δ ++ Γ2)) : Env B H (τ ++ σ) (Δ ++ Γ1) := by
  refine E.weak fun k e0 q => ?_
  by_cases hk : k < Δ.length
  · rw [List.getElem?_append_left hk] at q ⊢; exact q
  · rw [List.getElem?_append_right (by omega)] at q ⊢; exact h.2 _ _ q
theorem Env.dropFront {H : Hp} {l : List (Option V)} {L : List (Option Ent)} : ∀ {a : List (Option V)} {c : List (Option Ent)}, a.length = c.length → Env B H (a ++ l) (c ++ L) → Env B H l L
  | [], [], _, E => E
  | [], _ :: _, h, _ => by simp at h
  | _ :: _, [], h, _ => by simp at h
  | x :: a, y :: c, h, E => by
    refine Env.dropFront (a := a) (c := c) (by simpa using h) ?_
    exact E.re (fun i => i + 1) (fun i j q => by omega) fun i e q => ⟨by simpa using q, by simp⟩
theorem rs_le (h : Le Γ' Γ) (k : RS B Γ' t D) : RS B Γ t D := fun σ H τ Δ hl hs E D' C => k σ H τ Δ hl (by rw [hs, h.1]) (E.le hl h) D' C
theorem rs_nilLe (h : ∃ Γ', Le Γ' Γ ∧ D.nx Γ') : RS B Γ tNext D := fun σ H τ Δ hl hs E D' C => by
  obtain ⟨Γ', h1, h2⟩ := h
  exact C.nx Γ' σ H h2 (by rw [hs, h1.1]) (E.le hl h1)

/-! ### what is walked -/
structure JOk (B : Bs) (J : It) (us : List V) (u : List Ent) (n : Nat) (item : Nat → Ent) : Prop where
  go : ∀ (l : List (Option V)) (L : List (Option Ent)) (i : Nat) (H : Hp), Env B H (us.map some ++ l) (u.map some ++ L) → i < n → J.go i H ∧ ∀ x H', J.yld i H x H' → Env B H' (some x :: (us.map some ++ l)) (some (item i) :: (u.map some ++ L))
  stop : ∀ (l : List (Option V)) (L : List (Option Ent)) (i : Nat) (H : Hp), Env B H (us.map some ++ l) (u.map some ++ L) → n ≤ i → J.stop i H
def RI (B : Bs) (Γ : List (Option Ent)) (wi : TI) (u : List Ent) (n : Nat) (item : Nat → Ent) : Prop := ∀ (σ : L2.St) (H : Hp) (τ : List (Option V)) (Δ : List (Option Ent)), τ.length = Δ.length → σ.length = Γ.length →
  Env B H (τ ++ σ) (Δ ++ Γ) → ∀ R : It → Hp → Prop, (∀ (J : It) (H' : Hp) (us : List V), us.length = u.length → Env B H' (us.map some ++ (τ ++ σ)) (u.map some ++ (Δ ++ Γ)) → JOk B J us u n item → R J H') → wi σ H R
def RG (B : Bs) (Γ : List (Option Ent)) (g : TG) (ent : Ent) (Γ' : List (Option Ent)) : Prop := ∀ (σ : L2.St) (H : Hp) (τ : List (Option V)) (Δ : List (Option Ent)) (x : V), τ.length = Δ.length → σ.length = Γ.length →
  Env B H (some x :: (τ ++ σ)) (some ent :: (Δ ++ Γ)) → ∀ Q : L2.St → Hp → Prop, (∀ σ' H', σ'.length = Γ'.length → Env B H' (τ ++ σ') (Δ ++ Γ') → Q σ' H') → g x σ H Q
theorem rg_name (hi : i < Γ.length) : RG B Γ (gName i) e (Γ.set i (some e)) := fun σ H τ Δ x hl hs E Q k => k _ H (by simp [hs]) (E.putS hl hs hi)
/-- for a, b in pairs -/
theorem rg_pair {α β : Type} [Py α] [Py β] {p : α × β} {i j : Nat} (hi : i < Γ.length) (hj : j < Γ.length) :
    RG B Γ (gTup B.K 2 (gCons (gName i) (gCons (gName j) gNil))) (fz p) ((Γ.set i (some (fz p.1))).set j (some (fz p.2))) := fun σ H τ Δ x hl hs E Q k => by
  obtain ⟨a, v, w, rfl, h2, h3, h4⟩ : ∃ a v w, x = .ref a ∧ H a = some (.tup [v, w]) ∧ Py.rep B.K H v p.1 ∧ Py.rep B.K H w p.2 := E.view
  have E1 : Env B H (some v :: some (.ref a) :: (τ ++ σ)) (some (fz p.1) :: some (fz p) :: (Δ ++ Γ)) := E.push fun Hf _ s kn => by
    obtain ⟨a', v', w', q1, q2, q3, q4⟩ := Env.know0 kn
    cases q1
    have z := s _ _ q2
    rw [h2] at z
    cases z
    exact ⟨rfl, q3⟩
  have E2 : Env B H (some w :: some v :: some (.ref a) :: (τ ++ σ)) (some (fz p.2) :: some (fz p.1) :: some (fz p) :: (Δ ++ Γ)) := E1.push fun Hf _ s kn => by
    obtain ⟨a', v', w', q1, q2, q3, q4⟩ := Env.know1 kn
    cases q1
    have z := s _ _ q2
    rw [h2] at z
    cases z
    exact ⟨rfl, q4⟩
  have E3 : Env B H (some v :: some w :: (τ ++ σ)) (some (fz p.1) :: some (fz p.2) :: (Δ ++ Γ)) := by
    refine E2.re (fun i => match i with | 0 => 1 | 1 => 0 | n + 2 => n + 3) (fun i j q => ?_) fun i e q => ?_
    · match i, j with
      | 0, 0 => rfl
      | 0, 1 => simp at q
      | 0, n + 2 => simp at q
      | 1, 0 => simp at q
      | 1, 1 => rfl
      | 1, n + 2 => simp at q
      | n + 2, 0 => simp at q
      | n + 2, 1 => simp at q
      | n + 2, m + 2 => simp at q; omega
    · match i with
      | 0 => exact ⟨by simpa using q, rfl⟩
      | 1 => exact ⟨by simpa using q, rfl⟩
      | n + 2 => exact ⟨by simpa using q, rfl⟩
  have E4 := Env.putS (τ := some w :: τ) (Δ := some (fz p.2) :: Δ) (σ := σ) (Γ := Γ) (v := v) (e := fz p.1) (i := i) (by simp [hl]) hs hi (by
    refine E3.re (fun i => i) (fun _ _ q => q) fun i e q => ⟨q, rfl⟩)
  have E5 := Env.putS (τ := τ) (Δ := Δ) (σ := σ.set i (some v)) (Γ := Γ.set i (some (fz p.1))) (v := w) (e := fz p.2) (i := j) hl (by simp [hs]) (by simpa using hj) E4
  refine ⟨a, [v, w], rfl, SqT.of h2, rfl, v, [w], rfl, w, [], rfl, rfl, ?_⟩
  exact k _ _ (by simp [hs]) E5
/-! ### for -/
theorem rs_for {S : Type} {u : List Ent} {n : Nat} {item : Nat → Ent} {tb : TS} (I : Nat → S → Prop) (G : S → List (Option Ent)) (s0 : S) (hi : RI B Γ wi u n item) (h0 : Le (G s0) Γ) (i0 : I 0 s0)
    (hb : ∀ (i : Nat) (s : S), i < n → I i s → ∃ Γ', RG B (G s) g (item i) Γ' ∧
      RS B Γ' tb { nx := fun Γ2 => ∃ s', Le (G s') Γ2 ∧ I (i + 1) s', ct := fun Γ2 => ∃ s', Le (G s') Γ2 ∧ I (i + 1) s', bk := D.nx, rt := D.rt })
    (hd : ∀ s : S, I n s → D.nx (G s)) : RS B Γ (tFor wi g tb) D := fun σ H τ Δ hl hs E D' C => by
  refine hi σ H τ Δ hl hs E _ fun J H1 us hu E1 J1 => ?_
  have hlu : (us.map some).length = (u.map some).length := by simp [hu]
  have hl' : (us.map some ++ τ).length = (u.map some ++ Δ).length := by simp [hu, hl]
  refine ⟨fun i m σ' H' => m = n - i ∧ i ≤ n ∧ ∃ s : S, I i s ∧ σ'.length = (G s).length ∧ Env B H' (us.map some ++ (τ ++ σ')) (u.map some ++ (Δ ++ G s)), ⟨n, by simp, Nat.zero_le _, s0, i0, by rw [hs, h0.1], ?_⟩, ?_⟩
  · rw [← List.append_assoc, ← List.append_assoc] at E1 ⊢
    exact E1.le hl' h0
  · rintro i m σ' H' ⟨rfl, hin, s, hI, hσ, E2⟩
    by_cases hlt : i < n
    · refine .inr ⟨(J1.go _ _ i H' E2 hlt).1, fun σ2 H2 => ∃ s' : S, I (i + 1) s' ∧ σ2.length = (G s').length ∧ Env B H2 (us.map some ++ (τ ++ σ2)) (u.map some ++ (Δ ++ G s')), ?_, fun x H2 hy => ?_⟩
      · rintro σ2 H2 ⟨s', a, b, c⟩
        exact ⟨n - (i + 1), by omega, rfl, hlt, s', a, b, c⟩
      · have E3 := (J1.go _ _ i H' E2 hlt).2 x H2 hy
        obtain ⟨Γ', hg, hbd⟩ := hb i s hlt hI
        rw [← List.append_assoc, ← List.append_assoc] at E3
        refine hg σ' H2 (us.map some ++ τ) (u.map some ++ Δ) x hl' hσ E3 _ fun σ2 H3 hσ2 E4 => ?_
        refine hbd σ2 H3 (us.map some ++ τ) (u.map some ++ Δ) hl' hσ2 E4 _ ⟨?_, ?_, ?_, ?_⟩
        · rintro Γ2 σ3 H4 ⟨s', q1, q2⟩ hσ3 E5
          refine ⟨s', q2, by rw [hσ3, q1.1], ?_⟩
          have E6 := E5.le hl' q1
          rw [List.append_assoc, List.append_assoc] at E6
          exact E6
        · intro v ent Γ2 σ3 H4 q hσ3 E5
          refine C.rt v ent Γ2 σ3 H4 q hσ3 ?_
          rw [List.append_assoc, List.append_assoc] at E5
          refine E5.re (fun k => if k = 0 then 0 else us.length + k) (fun k k' q => ?_) fun k e' q => ?_
          · by_cases h1 : k = 0 <;> by_cases h2 : k' = 0 <;> simp [h1, h2] at q <;> omega
          · cases k with
            | zero => exact ⟨by simpa using q, rfl⟩
            | succ k =>
              have z1 : (u.map some ++ (Δ ++ Γ2))[us.length + k]? = (Δ ++ Γ2)[k]? := by
                rw [List.getElem?_append_right (by simp [hu])]; congr 1; simp [hu]
              have z2 : (us.map some ++ (τ ++ σ3))[us.length + k]? = (τ ++ σ3)[k]? := by
                rw [List.getElem?_append_right (by simp)]; congr 1; simp
              refine ⟨?_, ?_⟩
              · show (some ent :: (u.map some ++ (Δ ++ Γ2)))[us.length + (k + 1)]? = _
                rw [show us.length + (k + 1) = (us.length + k) + 1 by omega, List.getElem?_cons_succ, z1]
                simpa using q
              · show (τ ++ σ3)[k]? = (some v :: (us.map some ++ (τ ++ σ3)))[us.length + (k + 1)]?
                rw [show us.length + (k + 1) = (us.length + k) + 1 by omega, List.getElem?_cons_succ, z2]
        · intro Γ2 σ3 H4 q hσ3 E5
          refine C.nx Γ2 σ3 H4 q hσ3 ?_
          rw [List.append_assoc, List.append_assoc] at E5
          exact Env.dropFront hlu E5
        · rintro Γ2 σ3 H4 ⟨s', q1, q2⟩ hσ3 E5
          refine ⟨s', q2, by rw [hσ3, q1.1], ?_⟩
          have E6 := E5.le hl' q1
          rw [List.append_assoc, List.append_assoc] at E6
          exact E6
    · have e : i = n := by omega
      subst e
      exact .inl ⟨J1.stop _ _ i H' E2 (Nat.le_refl _), C.nx _ _ _ (hd s hI) hσ (Env.dropFront hlu E2)⟩
/-! ### while -/
theorem rs_while {S : Type} {tb : TS} (I : S → Prop) (ms : S → Nat) (G : S → List (Option Ent)) (c : S → Bool) (s0 : S) (h0 : Le (G s0) Γ) (i0 : I s0) (ht : ∀ s, I s → RT B (G s) tt (c s))
    (hb : ∀ s : S, I s → c s = true → RS B (G s) tb { nx := fun Γ2 => ∃ s', Le (G s') Γ2 ∧ I s' ∧ ms s' < ms s, ct := fun Γ2 => ∃ s', Le (G s') Γ2 ∧ I s' ∧ ms s' < ms s, bk := D.nx, rt := D.rt })
    (hd : ∀ s : S, I s → c s = false → D.nx (G s)) : RS B Γ (tWhile tt tb) D := fun σ H τ Δ hl hs E D' C => by
  refine ⟨fun m σ' H' => ∃ s : S, m = ms s ∧ I s ∧ σ'.length = (G s).length ∧ Env B H' (τ ++ σ') (Δ ++ G s), ⟨_, s0, rfl, i0, by rw [hs, h0.1], E.le hl h0⟩, ?_⟩
  rintro m σ' H' ⟨s, rfl, hI, hσ, E2⟩
  refine ht s hI σ' H' τ Δ hl hσ E2 _ fun H2 E3 => ?_
  cases hc : c s with
  | false => exact C.nx _ _ _ (hd s hI hc) hσ E3
  | true =>
    refine ⟨fun σ2 H2 => ∃ s' : S, ms s' < ms s ∧ I s' ∧ σ2.length = (G s').length ∧ Env B H2 (τ ++ σ2) (Δ ++ G s'), ?_, ?_⟩
    · rintro σ2 H3 ⟨s', a, b, c', d⟩
      exact ⟨_, a, s', rfl, b, c', d⟩
    · refine hb s hI hc σ' H2 τ Δ hl hσ E3 _ ⟨?_, C.rt, C.nx, ?_⟩
      · rintro Γ2 σ3 H4 ⟨s', q1, q2, q3⟩ hσ3 E5
        exact ⟨s', q3, q2, by rw [hσ3, q1.1], E5.le hl q1⟩
      · rintro Γ2 σ3 H4 ⟨s', q1, q2, q3⟩ hσ3 E5
        exact ⟨s', q3, q2, by rw [hσ3, q1.1], E5.le hl q1⟩
/-! ### iterables -/
theorem ri_range1 {ta : TA} {x : Int} (h : RA B Γ ta [fz x]) (hx : -100000 ≤ x ∧ x ≤ 100000) : RI B Γ (iRng1 ta) [] x.toNat (fun i => fz (i : Int)) := fun σ H τ Δ hl hs E R k =>
  h σ H τ Δ hl hs E _ fun vs H1 hv E1 => by
    obtain ⟨v, rfl, E1⟩ := one_arg hv E1
    have ev : v = .int x := E1.view
    subst ev
    refine ⟨x, rfl, by omega, by omega, k _ H1 [] rfl E1.drop ⟨fun l L i H2 E2 hi => ⟨hi, ?_⟩, fun l L i H2 E2 hi => hi⟩⟩
    rintro y H3 ⟨rfl, rfl⟩
    rw [Int.zero_add]
    exact E2.pushI
theorem ri_range2 {ta : TA} {x y : Int} (h : RA B Γ ta [fz x, fz y]) (hx : -100000 ≤ x ∧ x ≤ 100000) (hy : -100000 ≤ y ∧ y ≤ 100000) : RI B Γ (iRng2 ta) [] (y - x).toNat (fun i => fz (x + (i : Int))) := fun σ H τ Δ hl hs E R k =>
  h σ H τ Δ hl hs E _ fun vs H1 hv E1 => by
    obtain ⟨v, w, rfl, E1⟩ := two_args hv E1
    have ev : w = .int y := E1.view
    have ew : v = .int x := E1.drop.view
    subst ev; subst ew
    refine ⟨x, y, rfl, by omega, k _ H1 [] rfl E1.drop.drop ⟨fun l L i H2 E2 hi => ⟨hi, ?_⟩, fun l L i H2 E2 hi => hi⟩⟩
    rintro z H3 ⟨rfl, rfl⟩
    exact E2.pushI
section
variable {α : Type} [Py α] {xs : List α}
/-- the i-th item -/
def itemAt (xs : List α) (i : Nat) : Ent := match xs[i]? with
  | some x => fz x
  | none => anyE
theorem itemAt_of {x : α} {i : Nat} (h : xs[i]? = some x) : itemAt xs i = fz x := by unfold itemAt; rw [h]
theorem ri_list {tl : TE} (h : RE B Γ tl (fz (Lst.mk xs))) : RI B Γ (iList B.K tl) [fz (Lst.mk xs)] xs.length (itemAt xs) := fun σ H τ Δ hl hs E R k =>
  h σ H τ Δ hl hs E _ fun v H1 E1 => by
    obtain ⟨p, us, rfl, h2, h3⟩ : ∃ p vs, v = .ref p ∧ H1 p = some (.lst vs) ∧ Reps B.K H1 vs xs := E1.view
    refine ⟨p, rfl, ⟨us, SqL.of h2⟩, k _ H1 [.ref p] rfl E1 ⟨fun l L i H2 E2 hi => ?_, fun l L i H2 E2 hi => ?_⟩⟩
    · have E2 : Env B H2 (some (.ref p) :: l) (some (fz (Lst.mk xs)) :: L) := E2
      have hx : xs[i]? = some xs[i] := by simp [hi]
      obtain ⟨v, ⟨us', q1, q2⟩, E3⟩ := E2.pushX (e := fz xs[i]) (R := fun v => ∃ us, H2 p = some (.lst us) ∧ us[i]? = some v) fun Hf _ s kn => by
        obtain ⟨p', us', z1, z2, z3⟩ := Env.know0 kn
        cases z1
        obtain ⟨v, y1, y2⟩ := z3.get hx
        exact ⟨v, ⟨us', s _ _ z2, y1⟩, rfl, y2⟩
      refine ⟨⟨us', v, SqL.of q1, q2⟩, ?_⟩
      rintro y H3 ⟨rfl, hy⟩
      have := hy us' (SqL.of q1)
      rw [q2] at this
      cases this
      rw [itemAt_of hx]
      exact E3
    · obtain ⟨p', us', z1, z2, z3⟩ : ∃ p' vs, V.ref p = .ref p' ∧ H2 p' = some (.lst vs) ∧ Reps B.K H2 vs xs := Env.view (l := l) (L := L) E2
      cases z1
      exact ⟨us', SqL.of z2, by rw [z3.length]; exact hi⟩
theorem ri_tup {tl : TE} (h : RE B Γ tl (fz (Tup.mk xs))) : RI B Γ (iTup B.K tl) [fz (Tup.mk xs)] xs.length (itemAt xs) := fun σ H τ Δ hl hs E R k =>
  h σ H τ Δ hl hs E _ fun v H1 E1 => by
    obtain ⟨p, us, rfl, h2, h3⟩ : ∃ p vs, v = .ref p ∧ H1 p = some (.tup vs) ∧ Reps B.K H1 vs xs := E1.view
    refine ⟨p, rfl, ⟨us, SqT.of h2⟩, k _ H1 [.ref p] rfl E1 ⟨fun l L i H2 E2 hi => ?_, fun l L i H2 E2 hi => ?_⟩⟩
    · have E2 : Env B H2 (some (.ref p) :: l) (some (fz (Tup.mk xs)) :: L) := E2
      have hx : xs[i]? = some xs[i] := by simp [hi]
      obtain ⟨v, ⟨us', q1, q2⟩, E3⟩ := E2.pushX (e := fz xs[i]) (R := fun v => ∃ us, SqT B.K H2 p us ∧ us[i]? = some v) fun Hf _ s kn => by
        obtain ⟨p', us', z1, z2, z3⟩ := Env.know0 kn
        cases z1
        obtain ⟨v, y1, y2⟩ := z3.get hx
        exact ⟨v, ⟨us', SqT.of (s _ _ z2), y1⟩, rfl, y2⟩
      refine ⟨⟨us', v, q1, q2⟩, ?_⟩
      rintro y H3 ⟨rfl, hy⟩
      have := hy us' q1
      rw [q2] at this
      cases this
      rw [itemAt_of hx]
      exact E3
    · obtain ⟨p', us', z1, z2, z3⟩ : ∃ p' vs, V.ref p = .ref p' ∧ H2 p' = some (.tup vs) ∧ Reps B.K H2 vs xs := Env.view (l := l) (L := L) E2
      cases z1
      exact ⟨us', SqT.of z2, by rw [z3.length]; exact hi⟩
theorem ri_scr {tl : TE} {ns : List Int} (h : RE B Γ tl (fz (Scr.mk ns))) : RI B Γ (iList B.K tl) [fz (Scr.mk ns)] ns.length (itemAt ns) := fun σ H τ Δ hl hs E R k =>
  h σ H τ Δ hl hs E _ fun v H1 E1 => by
    obtain ⟨p, rfl, h2⟩ : ∃ p, v = .ref p ∧ SqL B.K H1 p (ns.map V.int) := E1.view
    refine ⟨p, rfl, ⟨_, h2⟩, k _ H1 [.ref p] rfl E1 ⟨fun l L i H2 E2 hi => ?_, fun l L i H2 E2 hi => ?_⟩⟩
    · have E2 : Env B H2 (some (.ref p) :: l) (some (fz (Scr.mk ns)) :: L) := E2
      obtain ⟨p', e, q⟩ : ∃ p', V.ref p = .ref p' ∧ SqL B.K H2 p' (ns.map V.int) := E2.view
      cases e
      have hx : ns[i]? = some ns[i] := by simp [hi]
      refine ⟨⟨_, .int ns[i], q, by rw [List.getElem?_map, hx]; rfl⟩, ?_⟩
      rintro y H3 ⟨rfl, hy⟩
      have := hy _ q
      rw [List.getElem?_map, hx] at this
      cases this
      rw [itemAt_of hx]
      exact E2.pushI
    · obtain ⟨p', z1, z2⟩ : ∃ p', V.ref p = .ref p' ∧ SqL B.K H2 p' (ns.map V.int) := Env.view (l := l) (L := L) E2
      cases z1
      exact ⟨_, z2, by rw [List.length_map]; exact hi⟩
end
end
end G
end

section
set_option Elab.async false
set_option linter.all false
set_option maxRecDepth 100000
set_option maxHeartbeats 1000000
/-! G7: readings with some outcome of a set; comprehensions; calls of one's own defs -/
namespace G
open PySem L2

def REs (B : Bs) (Γ : List (Option Ent)) (te : TE) (S : Ent → Prop) : Prop := ∀ (σ : L2.St) (H : Hp) (τ : List (Option V)) (Δ : List (Option Ent)), τ.length = Δ.length → σ.length = Γ.length →
  Env B H (τ ++ σ) (Δ ++ Γ) → ∀ Q : VK, (∀ ent v H', S ent → Env B H' (some v :: (τ ++ σ)) (some ent :: (Δ ++ Γ)) → Q v H') → te σ H Q
def RTs (B : Bs) (Γ : List (Option Ent)) (tt : TT) (S : Bool → Prop) : Prop := ∀ (σ : L2.St) (H : Hp) (τ : List (Option V)) (Δ : List (Option Ent)), τ.length = Δ.length → σ.length = Γ.length →
  Env B H (τ ++ σ) (Δ ++ Γ) → ∀ Q : Bool → Hp → Prop, (∀ b H', S b → Env B H' (τ ++ σ) (Δ ++ Γ) → Q b H') → tt σ H Q
def RAs (B : Bs) (Γ : List (Option Ent)) (ta : TA) (S : List Ent → Prop) : Prop := ∀ (σ : L2.St) (H : Hp) (τ : List (Option V)) (Δ : List (Option Ent)), τ.length = Δ.length → σ.length = Γ.length →
  Env B H (τ ++ σ) (Δ ++ Γ) → ∀ Q : List V → Hp → Prop, (∀ es vs H', S es → vs.length = es.length → Env B H' ((vs.map some).reverseAux (τ ++ σ)) ((es.map some).reverseAux (Δ ++ Γ)) → Q vs H') → ta σ H Q

section
variable {B : Bs} {Γ Γ' : List (Option Ent)} {D : GE} {t u : TS} {te ta tb : TE} {tt tu : TT} {e ex ey ez : Ent} {i j : Nat} {b : Bool} {wi : TI} {g : TG} {S S1 S2 S' : Ent → Prop} {Sb Sb' : Bool → Prop} {Sa Sa' : List Ent → Prop}
theorem res_of (h : RE B Γ te e) : REs B Γ te (fun x => x = e) := fun σ H τ Δ hl hs E Q k => h σ H τ Δ hl hs E Q fun v H' E' => k e v H' rfl E'
theorem res_to (h : REs B Γ te S) (q : ∀ x, S x → x = e) : RE B Γ te e := fun σ H τ Δ hl hs E Q k => h σ H τ Δ hl hs E Q fun ent v H' s E' => by
  rw [q ent s] at E'
  exact k v H' E'
theorem res_imp (h : REs B Γ te S) (q : ∀ x, S x → S' x) : REs B Γ te S' := fun σ H τ Δ hl hs E Q k => h σ H τ Δ hl hs E Q fun ent v H' s E' => k ent v H' (q _ s) E'
theorem rts_of (h : RT B Γ tt b) : RTs B Γ tt (fun x => x = b) := fun σ H τ Δ hl hs E Q k => h σ H τ Δ hl hs E Q fun H' E' => k b H' rfl E'
theorem rts_imp (h : RTs B Γ tt Sb) (q : ∀ x, Sb x → Sb' x) : RTs B Γ tt Sb' := fun σ H τ Δ hl hs E Q k => h σ H τ Δ hl hs E Q fun b H' s E' => k b H' (q _ s) E'
theorem res_op {r : R2} (ha : REs B Γ ta S1) (hb : REs B Γ tb S2) (ho : ∀ ex ey, S1 ex → S2 ey → ∃ ez, OpS B.K r ex ey ez ∧ S' ez) : REs B Γ (tOp r ta tb) S' := fun σ H τ Δ hl hs E Q k =>
  ha σ H τ Δ hl hs E _ fun ex va H1 s1 E1 => hb σ H1 (some va :: τ) (some ex :: Δ) (by simp [hl]) hs E1 _ fun ey vb H2 s2 E2 => by
    obtain ⟨ez, h1, h2⟩ := ho ex ey s1 s2
    exact h1 B H2 _ _ va vb rfl E2 Q fun v H3 E3 => k ez v H3 h2 E3
theorem res_un {r : V → Hp → VK → Prop} (ha : REs B Γ ta S) (ho : ∀ ex, S ex → ∃ ez, UnS B.K r ex ez ∧ S' ez) : REs B Γ (tUn r ta) S' := fun σ H τ Δ hl hs E Q k =>
  ha σ H τ Δ hl hs E _ fun ex va H1 s1 E1 => by
    obtain ⟨ez, h1, h2⟩ := ho ex s1
    exact h1 B H1 _ _ va rfl E1 Q fun v H3 E3 => k ez v H3 h2 E3
theorem ras_of {ta : TA} {es : List Ent} (h : RA B Γ ta es) : RAs B Γ ta (fun x => x = es) := fun σ H τ Δ hl hs E Q k => h σ H τ Δ hl hs E Q fun vs H' hv E' => k es vs H' rfl hv E'
theorem ras_nil : RAs B Γ tNil (fun x => x = []) := ras_of ra_nil
theorem ras_cons {tr : TA} (h : REs B Γ ta S) (hr : RAs B Γ tr Sa) : RAs B Γ (tCons ta tr) (fun x => ∃ e es, S e ∧ Sa es ∧ x = e :: es) := fun σ H τ Δ hl hs E Q k =>
  h σ H τ Δ hl hs E _ fun ent v H1 s1 E1 => hr σ H1 (some v :: τ) (some ent :: Δ) (by simp [hl]) hs E1 _ fun es vs H2 s2 hv E2 => k (ent :: es) (v :: vs) H2 ⟨ent, es, s1, s2, rfl⟩ (by simp [hv]) E2
theorem ras_imp {ta : TA} (h : RAs B Γ ta Sa) (q : ∀ x, Sa x → Sa' x) : RAs B Γ ta Sa' := fun σ H τ Δ hl hs E Q k => h σ H τ Δ hl hs E Q fun es vs H' s => k es vs H' (q _ s)
theorem res_cb {r : List V → Hp → VK → Prop} {ta : TA} (h : RAs B Γ ta Sa) (ho : ∀ es, Sa es → ∃ ez, CbS B.K r es ez ∧ S' ez) : REs B Γ (tCB r ta) S' := fun σ H τ Δ hl hs E Q k =>
  h σ H τ Δ hl hs E _ fun es vs H1 s1 hv E1 => by
    obtain ⟨ez, h1, h2⟩ := ho es s1
    exact h1 B H1 _ _ vs rfl hv E1 Q fun v H3 E3 => k ez v H3 h2 E3
theorem res_tup {ta : TA} {α : Type} [Py α] (h : RAs B Γ ta Sa) (ho : ∀ es, Sa es → ∃ x : α, TupOf es x ∧ es.length ≤ 10000 ∧ S' (fz x)) : REs B Γ (tTup ta) S' := fun σ H τ Δ hl hs E Q k =>
  h σ H τ Δ hl hs E _ fun es vs H1 s1 hv E1 => by
    obtain ⟨x, h1, h2, h3⟩ := ho es s1
    exact ⟨Nat.le_trans (by omega : vs.length ≤ 10000) (by decide), fun p hp => k _ _ _ h3 (Env.dropN hv (E1.new (o := .tup vs) hp fun Hf _ s kn =>
      ⟨rfl, h1 _ _ H1 p vs hv (parts_up (s.free hp) fun i e q => Known.arg hv kn q) upd_same⟩))⟩
theorem rts_test (h : REs B Γ te S) (ho : ∀ x, S x → ∃ b : Bool, x = fz b ∧ Sb b) : RTs B Γ (tTest te) Sb := fun σ H τ Δ hl hs E Q k =>
  h σ H τ Δ hl hs E _ fun ent v H1 s1 E1 => by
    obtain ⟨b, rfl, h2⟩ := ho ent s1
    exact ⟨b, E1.view, k b H1 h2 E1.drop⟩
theorem rts_and (h1 : RTs B Γ tt Sb) (h2 : Sb true → RTs B Γ tu Sb') : RTs B Γ (tAnd tt tu) (fun b => (Sb false ∧ b = false) ∨ (Sb true ∧ Sb' b)) := fun σ H τ Δ hl hs E Q k =>
  h1 σ H τ Δ hl hs E _ fun a H1 s1 E1 => by
    cases a with
    | true => exact h2 s1 σ H1 τ Δ hl hs E1 Q fun b H2 s2 E2 => k b H2 (.inr ⟨s1, s2⟩) E2
    | false => exact k _ H1 (.inl ⟨s1, rfl⟩) E1
theorem rts_or (h1 : RTs B Γ tt Sb) (h2 : Sb false → RTs B Γ tu Sb') : RTs B Γ (tOr tt tu) (fun b => (Sb true ∧ b = true) ∨ (Sb false ∧ Sb' b)) := fun σ H τ Δ hl hs E Q k =>
  h1 σ H τ Δ hl hs E _ fun a H1 s1 E1 => by
    cases a with
    | true => exact k _ H1 (.inl ⟨s1, rfl⟩) E1
    | false => exact h2 s1 σ H1 τ Δ hl hs E1 Q fun b H2 s2 E2 => k b H2 (.inr ⟨s1, s2⟩) E2
/-- statements -/
theorem rs_asgS (h : REs B Γ te S) (hi : i < Γ.length) (k : ∀ e, S e → D.nx (Γ.set i (some e))) : RS B Γ (tAsg te (gName i)) D := fun σ H τ Δ hl hs E D' C =>
  h σ H τ Δ hl hs E _ fun e v H' s E' => C.nx _ _ H' (k e s) (by simp [hs]) (E'.putS hl hs hi)
theorem rs_ifS (h : RTs B Γ tt Sb) (h1 : Sb true → RS B Γ t D) (h2 : Sb false → RS B Γ u D) : RS B Γ (tIfS tt t u) D := fun σ H τ Δ hl hs E D' C =>
  h σ H τ Δ hl hs E _ fun b H1 s E1 => by
    cases b with
    | true => exact h1 s σ H1 τ Δ hl hs E1 D' C
    | false => exact h2 s σ H1 τ Δ hl hs E1 D' C
theorem rs_retS (h : REs B Γ te S) (k : ∀ e, S e → D.rt e Γ) : RS B Γ (tRet te) D := fun σ H τ Δ hl hs E D' C =>
  h σ H τ Δ hl hs E _ fun e v H' s E' => C.rt v e Γ σ H' (k e s) hs E'
theorem rs_dropS (h : REs B Γ te S) (k : D.nx Γ) : RS B Γ (tDrop te) D := fun σ H τ Δ hl hs E D' C =>
  h σ H τ Δ hl hs E _ fun e v H' s E' => C.nx _ _ H' k hs E'.drop
theorem rs_appS {α : Type} [Py α] {xs : List α} {P : α → Prop} (hx : Γ[i]? = some (some (ow xs))) (h : REs B Γ te (fun e => ∃ x, P x ∧ e = fz x)) (hz : xs.length < 10000) (k : ∀ x, P x → D.nx (Γ.set i (some (ow (xs ++ [x]))))) :
    RS B Γ (tDrop (tBM B.K "list" rAppend (tVar i) (tCons te tNil))) D := fun σ H τ Δ hl hs E D' C => by
  obtain ⟨p, vs, h1, h2, h3⟩ := E.slotO hl hx
  refine ⟨.ref p, h1, .inl ⟨rfl, vs, SqL.of h2⟩, h σ H τ Δ hl hs E _ fun ent v H' s E' => ?_⟩
  obtain ⟨x, px, rfl⟩ := s
  have E1 := E'.drop
  obtain ⟨p', us, q1, q2, q3⟩ := E1.slotO hl hx
  rw [h1] at q1
  cases q1
  refine ⟨p, us, v, rfl, rfl, q2, bound_line (by rw [q3.length]; exact hz), ?_⟩
  refine C.nx _ _ _ (k x px) (by simp [hs]) ?_
  have E2 := E'.mutO (τ := some v :: τ) (Δ := some (fz x) :: Δ) (us := us ++ [v]) (ys := xs ++ [x]) (by simp [hl]) hx h1 fun Hf ws s kn hw hr => by
    rw [q2] at hw
    cases hw
    exact hr.append (.cons (Env.know0 kn) .nil)
  exact E2.drop
theorem rs_setLS {α : Type} [Py α] {xs : List α} {P : α → Prop} {Pi : Int → Prop} {ti : TE} (hx : Γ[i]? = some (some (ow xs))) (h : REs B Γ te (fun e => ∃ x, P x ∧ e = fz x)) (hi : REs B Γ ti (fun e => ∃ n, Pi n ∧ e = fz n))
    (k : ∀ x n, P x → Pi n → ∃ m, ixN xs.length n = some m ∧ D.nx (Γ.set i (some (ow (xs.set m x))))) : RS B Γ (tAsg te (gSub (tVar i) ti rSetL)) D := fun σ H τ Δ hl hs E D' C => by
  refine h σ H τ Δ hl hs E _ fun ent v H1 s E1 => ?_
  obtain ⟨x, px, rfl⟩ := s
  obtain ⟨p, vs, h1, h2, h3⟩ := E1.slotO (τ := some v :: τ) (Δ := some (fz x) :: Δ) (by simp [hl]) hx
  refine ⟨.ref p, h1, hi σ H1 (some v :: τ) (some (fz x) :: Δ) (by simp [hl]) hs E1 _ fun ent w H2 s2 E2 => ?_⟩
  obtain ⟨n, pn, rfl⟩ := s2
  obtain ⟨m, hm, kd⟩ := k x n px pn
  have ew : w = .int n := E2.view
  obtain ⟨p', us, q1, q2, q3⟩ := E2.drop.slotO (τ := some v :: τ) (Δ := some (fz x) :: Δ) (by simp [hl]) hx
  rw [h1] at q1
  cases q1
  refine ⟨p, us, n, m, rfl, ew, q2, by rw [q3.length]; exact hm, ?_⟩
  refine C.nx _ _ _ kd (by simp [hs]) ?_
  have E3 := E2.drop.mutO (τ := some v :: τ) (Δ := some (fz x) :: Δ) (us := us.set m v) (ys := xs.set m x) (by simp [hl]) hx h1 fun Hf ws s kn hw hr => by
    rw [q2] at hw
    cases hw
    exact hr.set (Env.know0 kn) m
  exact E3.drop
/-- y = xs.pop(k) with some k -/
theorem rs_popAtS {α : Type} [Py α] {xs : List α} {Pi : Int → Prop} {ti : TE} (hx : Γ[j]? = some (some (ow xs))) (hi : REs B Γ ti (fun e => ∃ n, Pi n ∧ e = fz n)) (hb : xs.length < 10000) (hij : i < Γ.length)
    (k : ∀ n, Pi n → 0 ≤ n ∧ ∃ x, xs[n.toNat]? = some x ∧ D.nx ((Γ.set j (some (ow (xs.eraseIdx n.toNat)))).set i (some (fz x)))) :
    RS B Γ (tAsg (tBM B.K "list" rPopAt (tVar j) (tCons ti tNil)) (gName i)) D := fun σ H τ Δ hl hs E D' C => by
  obtain ⟨p, vs, h1, h2, h3⟩ := E.slotO hl hx
  refine ⟨.ref p, h1, .inl ⟨rfl, vs, SqL.of h2⟩, hi σ H τ Δ hl hs E _ fun ent w H1 s E1 => ?_⟩
  obtain ⟨n, pn, rfl⟩ := s
  obtain ⟨hn, x, hm, kd⟩ := k n pn
  have ew : w = .int n := E1.view
  have E2 := E1.drop
  obtain ⟨p', us, q1, q2, q3⟩ := E2.slotO hl hx
  rw [h1] at q1
  cases q1
  have hlt : n.toNat < xs.length := (List.getElem?_eq_some_iff.mp hm).1
  obtain ⟨v, q4, E3⟩ := E2.pushX (e := fz x) (R := fun v => us[n.toNat]? = some v) fun Hf _ s kn => by
    obtain ⟨v', fp, z1, p2, us2, z2, z3, z4, z5⟩ := kn (Δ.length + j) (ow xs) (by rw [slot_shiftE]; exact hx)
    rw [← hl, slot_shift, h1] at z1
    cases z1
    cases z2
    rw [q2] at z4
    cases z4
    obtain ⟨v, y1, y2⟩ := z5.get hm
    exact ⟨v, y1, rfl, y2⟩
  have e0 : seqIndex? n us.length = some n.toNat := (ixN_seq (by
    unfold ixN
    rw [if_pos hn, if_pos (by rw [q3.length]; omega)])).1
  refine ⟨p, us, n, n.toNat, v, rfl, by rw [ew], q2, by omega, by omega, e0, q4, ?_⟩
  have E4 := E3.mutO (τ := some v :: τ) (Δ := some (fz x) :: Δ) (us := us.eraseIdx n.toNat) (ys := xs.eraseIdx n.toNat) (by simp [hl]) hx h1 fun Hf ws s kn hw hr => by
    rw [q2] at hw
    cases hw
    exact Reps.erase hr _
  exact C.nx _ _ _ kd (by simp [hs]) (Env.putS (Γ := Γ.set j _) hl (by simp [hs]) (by simpa using hij) E4)

/-! ### comprehensions -/
/-- the target writes on ws alone -/
def RGw (B : Bs) (Γ : List (Option Ent)) (g : TG) (ent : Ent) (Γ' : List (Option Ent)) (ws : List Nat) : Prop := ∀ (σ : L2.St) (H : Hp) (τ : List (Option V)) (Δ : List (Option Ent)) (x : V), τ.length = Δ.length → σ.length = Γ.length →
  Env B H (some x :: (τ ++ σ)) (some ent :: (Δ ++ Γ)) → ∀ Q : L2.St → Hp → Prop, (∀ σ' H', σ'.length = Γ'.length → (∀ k, k ∉ ws → σ'[k]? = σ[k]?) → Env B H' (τ ++ σ') (Δ ++ Γ') → Q σ' H') → g x σ H Q
theorem rgw_name (hi : i < Γ.length) : RGw B Γ (gName i) e (Γ.set i (some e)) [i] := fun σ H τ Δ x hl hs E Q k =>
  k _ H (by simp [hs]) (fun k hk => by rw [List.getElem?_set_ne (fun z => hk (by simp [z]))]) (E.putS hl hs hi)
theorem wipe_off {σ : L2.St} {k : Nat} : ∀ {vs : List Nat}, k ∉ vs → (wipe σ vs)[k]? = σ[k]?
  | [], _ => rfl
  | v :: vs, h => by
    unfold wipe
    rw [List.getElem?_set_ne (fun z => h (by simp [z])), wipe_off (fun z => h (by simp [z]))]
theorem wipe_on {σ : L2.St} {k : Nat} : ∀ {vs : List Nat}, k ∈ vs → k < σ.length → (wipe σ vs)[k]? = some none
  | [], h, _ => by simp at h
  | v :: vs, h, hk => by
    unfold wipe
    by_cases z : v = k
    · subst z
      rw [List.getElem?_set_self (by rw [wipe_length]; exact hk)]
    · rw [List.getElem?_set_ne z]
      exact wipe_on (by simpa [Ne.symm z] using h) hk
theorem wipe_eq {σ σ' : L2.St} {vs : List Nat} (hl : σ'.length = σ.length) (h : ∀ k, k ∉ vs → σ'[k]? = (wipe σ vs)[k]?) : wipe σ' vs = wipe σ vs := by
  apply List.ext_getElem?
  intro k
  by_cases hk : k ∈ vs
  · by_cases hlt : k < σ.length
    · rw [wipe_on hk (by omega), wipe_on hk hlt]
    · rw [List.getElem?_eq_none (by rw [wipe_length]; omega), List.getElem?_eq_none (by rw [wipe_length]; omega)]
  · rw [wipe_off hk, h k hk]
theorem Env.other {H : Hp} {σ σ' : L2.St} {τ : List (Option V)} {Δ : List (Option Ent)} {vs : List Nat} (hl : τ.length = Δ.length) (hv : ∀ k ∈ vs, ∀ e : Ent, Γ[k]? ≠ some (some e)) (h : ∀ k, k ∉ vs → σ'[k]? = σ[k]?)
    (E : Env B H (τ ++ σ) (Δ ++ Γ)) : Env B H (τ ++ σ') (Δ ++ Γ) := by
  refine E.re (fun k => k) (fun _ _ q => q) fun k e q => ⟨q, ?_⟩
  by_cases hk : k < τ.length
  · rw [List.getElem?_append_left hk, List.getElem?_append_left hk]
  · rw [List.getElem?_append_right (by omega), List.getElem?_append_right (by omega)]
    refine h _ fun z => ?_
    rw [List.getElem?_append_right (by omega)] at q
    rw [hl] at z
    exact hv _ z e q
/-- an entry moves over the first ones -/
theorem Env.rot {H : Hp} {v : V} {us : List V} {u : List Ent} {l : List (Option V)} {L : List (Option Ent)} (hu : us.length = u.length) (E : Env B H (some v :: (us.map some ++ l)) (some e :: (u.map some ++ L))) :
    Env B H (us.map some ++ (some v :: l)) (u.map some ++ (some e :: L)) := by
  refine E.re (fun k => if k < us.length then k + 1 else if k = us.length then 0 else k) (fun a b q => ?_) fun k e0 q => ?_
  · by_cases h1 : a < us.length <;> by_cases h2 : b < us.length <;> by_cases h3 : a = us.length <;> by_cases h4 : b = us.length <;> simp [h1, h2, h3, h4] at q <;> omega
  · by_cases h1 : k < us.length
    · simp only [if_pos h1]
      rw [List.getElem?_append_left (by simp; omega)] at q
      rw [List.getElem?_cons_succ, List.getElem?_cons_succ, List.getElem?_append_left (by simp; omega), List.getElem?_append_left (by simp; omega), List.getElem?_append_left (by simp; omega)]
      exact ⟨q, rfl⟩
    · by_cases h2 : k = us.length
      · simp only [if_neg h1, if_pos h2]
        rw [List.getElem?_append_right (by simp; omega)] at q
        rw [List.getElem?_append_right (by simp; omega)]
        subst h2
        simp [hu] at q ⊢
        exact q
      · simp only [if_neg h1, if_neg h2]
        obtain ⟨m, rfl⟩ : ∃ m, k = us.length + 1 + m := ⟨k - us.length - 1, by omega⟩
        rw [List.getElem?_append_right (by simp; omega)] at q
        rw [List.getElem?_append_right (by simp; omega)]
        have e1 : us.length + 1 + m - (us.map some).length = m + 1 := by simp; omega
        have e2 : us.length + 1 + m - (u.map some).length = m + 1 := by simp; omega
        rw [e2, List.getElem?_cons_succ] at q
        rw [e1, List.getElem?_cons_succ]
        rw [show us.length + 1 + m = (us.length + m) + 1 by omega, List.getElem?_cons_succ, List.getElem?_cons_succ, List.getElem?_append_right (by simp; omega), List.getElem?_append_right (by simp)]
        refine ⟨?_, ?_⟩
        · rw [show us.length + m - (u.map some).length = m by simp; omega]; exact q
        · congr 1; simp
theorem Env.rot' {H : Hp} {v : V} {us : List V} {u : List Ent} {l : List (Option V)} {L : List (Option Ent)} (hu : us.length = u.length) (E : Env B H (us.map some ++ (some v :: l)) (u.map some ++ (some e :: L))) :
    Env B H (some v :: (us.map some ++ l)) (some e :: (u.map some ++ L)) := by
  refine E.re (fun k => if k = 0 then us.length else if k ≤ us.length then k - 1 else k) (fun a b q => ?_) fun k e0 q => ?_
  · by_cases h1 : a = 0 <;> by_cases h2 : b = 0 <;> by_cases h3 : a ≤ us.length <;> by_cases h4 : b ≤ us.length <;> simp [h1, h2, h3, h4] at q <;> omega
  · cases k with
    | zero =>
      simp only [if_pos]
      rw [List.getElem?_append_right (by simp; omega), List.getElem?_append_right (by simp)]
      simp [hu] at q ⊢
      exact q
    | succ k =>
      rw [if_neg (by omega)]
      rw [List.getElem?_cons_succ] at q ⊢
      by_cases h1 : k + 1 ≤ us.length
      · rw [if_pos h1, Nat.add_sub_cancel]
        rw [List.getElem?_append_left (by simp; omega)] at q
        rw [List.getElem?_append_left (by simp; omega), List.getElem?_append_left (by simp; omega), List.getElem?_append_left (by simp; omega)]
        exact ⟨q, rfl⟩
      · rw [if_neg h1]
        obtain ⟨m, rfl⟩ : ∃ m, k = us.length + m := ⟨k - us.length, by omega⟩
        rw [List.getElem?_append_right (by simp; omega)] at q
        rw [List.getElem?_append_right (by rw [List.length_map]; omega), List.getElem?_append_right (by rw [List.length_map]; omega), List.getElem?_append_right (by rw [List.length_map]; omega)]
        have e1 : us.length + m - (u.map some).length = m := by rw [List.length_map]; omega
        have e2 : us.length + m + 1 - (u.map some).length = m + 1 := by rw [List.length_map]; omega
        have e3 : us.length + m - (us.map some).length = m := by rw [List.length_map]; omega
        have e4 : us.length + m + 1 - (us.map some).length = m + 1 := by rw [List.length_map]; omega
        rw [e1] at q
        rw [e2, e3, e4, List.getElem?_cons_succ, List.getElem?_cons_succ]
        exact ⟨q, rfl⟩
theorem Env.rot1 {H : Hp} {v w : V} {e1 : Ent} {us : List V} {u : List Ent} {l : List (Option V)} {L : List (Option Ent)} (hu : us.length = u.length) (E : Env B H (some w :: (us.map some ++ (some v :: l))) (some e1 :: (u.map some ++ (some e :: L)))) :
    Env B H ([some w] ++ (some v :: (us.map some ++ l))) ([some e1] ++ (some e :: (u.map some ++ L))) := by
  have h := Env.rot' (us := w :: us) (u := e1 :: u) (v := v) (e := e) (by simp [hu]) (by simpa using E)
  refine Env.re (fun k => match k with | 0 => 1 | 1 => 0 | n + 2 => n + 2) (fun a b q => ?_) h fun k e0 q => ?_
  · match a, b with
    | 0, 0 => rfl
    | 0, 1 => simp at q
    | 0, n + 2 => simp at q
    | 1, 0 => simp at q
    | 1, 1 => rfl
    | 1, n + 2 => simp at q
    | n + 2, 0 => simp at q
    | n + 2, 1 => simp at q
    | n + 2, m + 2 => simpa using q
  · match k with
    | 0 => exact ⟨by simpa using q, by simp⟩
    | 1 => exact ⟨by simpa using q, by simp⟩
    | n + 2 => exact ⟨by simpa using q, by simp⟩
theorem res_lc {β : Type} [Py β] {u : List Ent} {n : Nat} {item : Nat → Ent} {vs ws : List Nat} (I : Nat → List β → Prop) (hi : RI B Γ wi u n item) (hn : n ≤ 9000) (hv : ∀ k ∈ vs, ∀ e : Ent, Γ[k]? ≠ some (some e)) (hw : ∀ k ∈ ws, k ∈ vs)
    (i0 : I 0 []) (hb : ∀ (i : Nat) (acc : List β), i < n → acc.length ≤ i → I i acc → ∃ (Γ' : List (Option Ent)) (Sc : Bool → Prop) (P : β → Prop), RGw B Γ g (item i) Γ' ws ∧ Le Γ Γ' ∧ RTs B Γ' tt Sc ∧
      (Sc true → REs B Γ' te (fun e => ∃ y, P y ∧ e = fz y)) ∧ (Sc true → ∀ y, P y → I (i + 1) (acc ++ [y])) ∧ (Sc false → I (i + 1) acc)) :
    REs B Γ (tLc wi g tt te vs) (fun e => ∃ acc : List β, I n acc ∧ acc.length ≤ n ∧ e = ow acc) := fun σ H τ Δ hl hs E Q k => by
  refine hi σ H τ Δ hl hs E _ fun J H1 us hu E1 J1 => ?_
  intro Dl hD
  have hl' : (us.map some ++ τ).length = (u.map some ++ Δ).length := by simp [hu, hl]
  refine ⟨fun i m H' => m = n - i ∧ i ≤ n ∧ ∃ acc : List β, I i acc ∧ acc.length ≤ i ∧ Env B H' (some (.ref Dl) :: (us.map some ++ (τ ++ σ))) (some (ow acc) :: (u.map some ++ (Δ ++ Γ))), ⟨n, by simp, Nat.zero_le _, [], i0, Nat.zero_le _, ?_⟩, ?_⟩
  · exact E1.newO (o := .lst []) hD fun Hf _ s kn => ⟨Dl, [], rfl, rfl, upd_same, .nil⟩
  · rintro i m H' ⟨rfl, hin, acc, hI, hz, E2⟩
    by_cases hlt : i < n
    · have E2' : Env B H' (us.map some ++ (some (.ref Dl) :: (τ ++ σ))) (u.map some ++ (some (ow acc) :: (Δ ++ Γ))) := Env.rot hu E2
      have G1 := J1.go _ _ i H' E2' hlt
      refine .inr ⟨G1.1, fun H2 => ∃ acc : List β, I (i + 1) acc ∧ acc.length ≤ i + 1 ∧ Env B H2 (some (.ref Dl) :: (us.map some ++ (τ ++ σ))) (some (ow acc) :: (u.map some ++ (Δ ++ Γ))), ?_, fun x H2 hy => ?_⟩
      · rintro H2 ⟨acc', a, b, c⟩
        exact ⟨n - (i + 1), by omega, rfl, hlt, acc', a, b, c⟩
      · have E3 := G1.2 x H2 hy
        obtain ⟨Γ', Sc, P, hg, hle, ht, he, hyes, hno⟩ := hb i acc hlt hz hI
        -- the temporaries: the item's source, the new list
        have E4 : Env B H2 (some x :: ((us.map some ++ some (.ref Dl) :: τ) ++ wipe σ vs)) (some (item i) :: ((u.map some ++ some (ow acc) :: Δ) ++ Γ)) := by
          have z := Env.other (τ := some x :: (us.map some ++ some (.ref Dl) :: τ)) (Δ := some (item i) :: (u.map some ++ some (ow acc) :: Δ)) (σ := σ) (σ' := wipe σ vs) (Γ := Γ) (vs := vs) (by simp [hu, hl]) hv (fun k hk => wipe_off hk) (by
            simpa [List.append_assoc] using E3)
          exact z
        refine hg (wipe σ vs) H2 (us.map some ++ some (.ref Dl) :: τ) (u.map some ++ some (ow acc) :: Δ) x (by simp [hu, hl]) (by rw [wipe_length, hs]) E4 _ fun σ2 H3 hσ2 hoff E5 => ?_
        have hσl : σ2.length = σ.length := by rw [hσ2, ← hle.1, hs]
        refine ⟨wipe_eq hσl fun k hk => hoff k fun z => hk (hw k z), ?_⟩
        have back : ∀ {k : Nat}, k ∉ vs → σ[k]? = σ2[k]? := fun {k} hk => by rw [hoff k fun z => hk (hw k z), wipe_off hk]
        have slot : ∀ {Hx : Hp}, Env B Hx ((us.map some ++ some (.ref Dl) :: τ) ++ σ2) ((u.map some ++ some (ow acc) :: Δ) ++ Γ') → Env B Hx (some (.ref Dl) :: (us.map some ++ (τ ++ σ))) (some (ow acc) :: (u.map some ++ (Δ ++ Γ))) := fun {Hx} E6 => by
          have E7 := E6.le (Γ1 := Γ) (by simp [hu, hl]) hle
          have E8 := Env.other (σ' := σ) (vs := vs) (by simp [hu, hl]) hv (fun k hk => back hk) E7
          exact Env.rot' hu (by simpa [List.append_assoc] using E8)
        refine ht σ2 H3 _ _ (by simp [hu, hl]) hσ2 E5 _ fun b H4 sb E6 => ?_
        cases b with
        | false =>
          exact ⟨acc, hno sb, by omega, slot E6⟩
        | true =>
          refine he sb σ2 H4 _ _ (by simp [hu, hl]) hσ2 E6 _ fun ent y H5 sy E7 => ?_
          obtain ⟨yv, py, rfl⟩ := sy
          have E8 := E7.drop
          have hidx : (u.map some ++ some (ow acc) :: Δ)[u.length]? = some (some (ow acc)) := by
            rw [List.getElem?_append_right (by simp)]; simp
          obtain ⟨p, ws', q1, q2, q3⟩ : ∃ p ws', some (some (V.ref Dl)) = some (some (V.ref p)) ∧ H5 p = some (.lst ws') ∧ Reps B.K H5 ws' acc := by
            have z := slot E8
            obtain ⟨p, ws', z1, z2, z3⟩ := z.viewO
            exact ⟨p, ws', by rw [z1], z2, z3⟩
          cases q1
          refine ⟨ws', q2, bound_line (by rw [q3.length]; omega), acc ++ [yv], hyes sb yv py, by simp; omega, ?_⟩
          -- the list grows: its entry is among the temporaries
          have E9 : Env B H5 ([some y] ++ (some (.ref Dl) :: (us.map some ++ (τ ++ σ)))) ([some (fz yv)] ++ (some (ow acc) :: (u.map some ++ (Δ ++ Γ)))) := by
            have z1 := Env.le (τ := some y :: (us.map some ++ some (.ref Dl) :: τ)) (Δ := some (fz yv) :: (u.map some ++ some (ow acc) :: Δ)) (Γ1 := Γ) (Γ2 := Γ') (σ := σ2) (by simp [hu, hl]) hle (by simpa using E7)
            have z2 := Env.other (τ := some y :: (us.map some ++ some (.ref Dl) :: τ)) (Δ := some (fz yv) :: (u.map some ++ some (ow acc) :: Δ)) (σ := σ2) (σ' := σ) (vs := vs) (by simp [hu, hl]) hv (fun k hk => back hk) z1
            exact Env.rot1 hu (by simpa [List.append_assoc] using z2)
          have E10 := Env.mutO (i := 0) (τ := [some y]) (Δ := [some (fz yv)]) (xs := acc) (ys := acc ++ [yv]) (us := ws' ++ [y]) (p := Dl) rfl rfl E9 rfl fun Hf vs' s kn hw' hr => by
            rw [q2] at hw'
            cases hw'
            exact hr.append (.cons (Env.know0 kn) .nil)
          exact Env.drop E10
    · have e : i = n := by omega
      subst e
      have E2' : Env B H' (us.map some ++ (some (.ref Dl) :: (τ ++ σ))) (u.map some ++ (some (ow acc) :: (Δ ++ Γ))) := Env.rot hu E2
      exact .inl ⟨J1.stop _ _ i H' E2' (Nat.le_refl _), k _ _ _ ⟨acc, hI, hz, rfl⟩ (Env.dropFront (by simp [hu]) E2')⟩
end
end G
end

section
set_option Elab.async false
set_option linter.all false
set_option maxRecDepth 100000
set_option maxHeartbeats 1000000
/-! G8: calls of one's own defs -/
namespace G
open PySem L2

/-- owns nothing -/
def Fz (e : Ent) : Prop := ∀ K Hf H v fp, e.P K Hf H v fp → e.P K Hf H v []
theorem fz_fz {α : Type} [Py α] {x : α} : Fz (fz x) := fun _ _ _ _ _ h => ⟨rfl, h.2⟩
theorem fz_any : Fz anyE := fun _ _ _ _ _ _ => rfl
def FzL : List Ent → Prop
  | [] => True
  | e :: es => Fz e ∧ FzL es
theorem FzL.at : ∀ {es : List Ent} {i : Nat} {e : Ent}, FzL es → es[i]? = some e → Fz e
  | [], _, _, _, h => by simp at h
  | _ :: _, 0, _, h, q => by simp at q; subst q; exact h.1
  | _ :: es, i + 1, _, h, q => FzL.at (es := es) h.2 (by simpa using q)

/-- the promise of a def that changes nothing that stood before -/
def spP (K : FK) {A : Type} (args : A → List Ent) (pre : A → Prop) (post : A → Ent → Prop) : Sp := fun vs H Q _ => ∃ (a : A) (Hf : Hp), pre a ∧ vs.length = (args a).length ∧ Same Hf H ∧
  (∀ (i : Nat) (e : Ent), (args a)[i]? = some e → ∃ v, vs[i]? = some v ∧ e.P K Hf H v []) ∧
  ∀ (v : V) (ent : Ent) (H' Hf' : Hp) (fp : List Addr), post a ent → Same Hf Hf' → Same Hf' H' → Same H H' → (∀ x, Hf x = none → (Hf' x ≠ none ∨ x ∈ fp) → H x = none) → (∀ x ∈ fp, Hf' x = none ∧ H' x ≠ none) →
    ent.P K Hf' H' v fp → Q v H'
/-- the slots at a def's begin -/
def g0 (N : List Str) (es : List Ent) : List (Option Ent) := es.map some ++ List.replicate (N.length - es.length) none
theorem spP_len {K : FK} {A : Type} {args : A → List Ent} {pre : A → Prop} {post : A → Ent → Prop} {n : Nat} (hn : ∀ a, (args a).length = n) {vs : List V} {H : Hp} {Q : VK} {E : XK} (h : spP K args pre post vs H Q E) : vs.length = n := by
  obtain ⟨a, _, _, e, _⟩ := h
  rw [e, hn]
theorem walkP {K : FK} {A : Type} {args : A → List Ent} {pre : A → Prop} {post : A → Ent → Prop} {N : List Str} {t : TS} {vs : List V} {H : Hp} {Q : VK} {E : XK} (h : spP K args pre post vs H Q E) (hN : ∀ a, (args a).length ≤ N.length)
    (hr : ∀ (a : A) (B : Bs), B.K = K → pre a → RS B (g0 N (args a)) t { nx := fun _ => post a (fz ()), rt := fun e _ => post a e }) : t { nx := fun _ H' => Q .non H', rt := Q } (L2.start N vs) H := by
  obtain ⟨a, Hf, hp, hl, s, hv, k⟩ := h
  have hsl : (L2.start N vs).length = (g0 N (args a)).length := by
    unfold L2.start g0
    simp [hl]
  have E0 : Env ⟨K, H, Hf, []⟩ H (L2.start N vs) (g0 N (args a)) := by
    refine ⟨Hf, fun _ => [], Same.refl _, s, fun i j x h1 _ => absurd h1 (by simp), fun i x h1 => absurd h1 (by simp), fun x o _ h2 => h2, fun x h1 h2 => ?_, fun i e q => ?_⟩
    · rcases h1 with h1 | ⟨i, h1⟩
      · exact absurd h2 h1
      · simp at h1
    · unfold g0 at q
      by_cases hi : i < (args a).length
      · rw [List.getElem?_append_left (by simpa using hi), List.getElem?_map] at q
        cases z : (args a)[i]? with
        | none => rw [z] at q; simp at q
        | some e' =>
          rw [z] at q
          have : e' = e := by simpa using q
          subst this
          obtain ⟨v, h1, h2⟩ := hv i e' z
          refine ⟨v, ?_, h2⟩
          unfold L2.start
          rw [List.getElem?_append_left (by simpa [hl] using hi), List.getElem?_map, h1]; rfl
      · rw [List.getElem?_append_right (by simpa using hi), List.getElem?_replicate] at q
        split at q <;> simp at q
  have fin : ∀ {v : V} {ent : Ent} {H' : Hp} {σ' : List (Option V)} {Γ' : List (Option Ent)}, post a ent → Env ⟨K, H, Hf, []⟩ H' (some v :: σ') (some ent :: Γ') → Q v H' := fun {v ent H' σ' Γ'} po E1 => by
    obtain ⟨Hf', F, E1⟩ := E1
    obtain ⟨w, q1, q2⟩ := E1.hold 0 ent rfl
    have ew : v = w := by simpa using q1
    subst ew
    refine k v ent H' Hf' (F 0) po E1.b0 E1.b1 (fun x o h2 => E1.keep x o (by simp) h2) (fun x h1 h2 => ?_) (fun x hx => E1.own 0 x hx) q2
    have := E1.fresh x (by
      rcases h2 with h2 | h2
      · exact .inl h2
      · exact .inr ⟨0, h2⟩) h1
    simpa using this
  refine hr a ⟨K, H, Hf, []⟩ rfl hp (L2.start N vs) H [] [] rfl hsl E0 _ ⟨?_, ?_, ?_, ?_⟩
  · intro Γ' σ' H' h' _ E1
    exact fin h' (Env.pushN (σ := σ') (Γ := Γ') E1)
  · intro v ent Γ' σ' H' h' _ E1
    exact fin h' E1
  · intro Γ' σ' H' h'
    exact h'.elim
  · intro Γ' σ' H' h'
    exact h'.elim

section
variable {B : Bs} {Γ Γ' : List (Option Ent)} {te ta tb : TE} {e ex ey ez : Ent} {i j : Nat} {S S' : Ent → Prop} {Sa : List Ent → Prop} {A : Type} {args : A → List Ent} {pre : A → Prop} {post : A → Ent → Prop} {E : XK}
theorem res_call {ta : TA} (h : RAs B Γ ta Sa) (ho : ∀ es, Sa es → ∃ a : A, args a = es ∧ FzL es ∧ pre a ∧ ∀ ent, post a ent → S' ent) : REs B Γ (tCall (spP B.K args pre post) [] E ta) S' := fun σ H τ Δ hl hs E0 Q k =>
  h σ H τ Δ hl hs E0 _ fun es vs H1 s1 hv E1 => by
    obtain ⟨a, rfl, hfz, hp, hpost⟩ := ho es s1
    show spP B.K args pre post (vs ++ []) H1 Q _
    rw [List.append_nil]
    obtain ⟨Hf, F, E1⟩ := E1
    have kn : Known B.K Hf H1 ((vs.map some).reverseAux (τ ++ σ)) (((args a).map some).reverseAux (Δ ++ Γ)) := fun k e' q => by
      obtain ⟨v', h1, h2⟩ := E1.hold k e' q
      exact ⟨v', F k, h1, h2⟩
    refine ⟨a, Hf, hp, hv, E1.b1, fun i e q => ?_, fun v ent H' Hf' fp po s1 s2 s3 fr ow q => ?_⟩
    · obtain ⟨v, fp, h1, h2⟩ := Known.arg hv kn q
      exact ⟨v, h1, hfz.at q _ _ _ _ _ h2⟩
    · refine k ent v H' (hpost ent po) ?_
      -- the arguments go, the answer comes
      have n : Nat := vs.length
      refine ⟨Hf', fun m => match m with | 0 => fp | m + 1 => F (vs.length + m), E1.b0.trans s1, s2, ?_, ?_, fun x o h1 h2 => s3 x o (E1.keep x o h1 h2), ?_, ?_⟩
      · have ap : ∀ m x, x ∈ fp → x ∈ F m → False := fun m x h1 h2 => by
          obtain ⟨y1, y2⟩ := E1.own m x h2
          exact y2 (fr x y1 (.inr h1))
        intro m m' x h1 h2
        cases m with
        | zero =>
          cases m' with
          | zero => rfl
          | succ m' => exact (ap _ x h1 h2).elim
        | succ m =>
          cases m' with
          | zero => exact (ap _ x h2 h1).elim
          | succ m' => have := E1.dj _ _ x h1 h2; omega
      · intro m x h1
        cases m with
        | zero => exact ow x h1
        | succ m =>
          obtain ⟨y1, y2⟩ := E1.own _ x h1
          refine ⟨?_, ?_⟩
          · cases z : Hf' x with
            | none => rfl
            | some o => exact absurd (fr x y1 (.inl (by rw [z]; simp))) y2
          · cases z : H1 x with
            | none => exact absurd z y2
            | some o => rw [s3 x o z]; simp
      · intro x h1 h2
        by_cases z : Hf x = none
        · have hx : H1 x = none ∨ (∃ m, x ∈ F m) := by
            rcases h1 with h1 | ⟨m, h1⟩
            · exact .inl (fr x z (.inl h1))
            · cases m with
              | zero => exact .inl (fr x z (.inr h1))
              | succ m => exact .inr ⟨_, h1⟩
          rcases hx with hx | hx
          · cases y : B.Hs x with
            | none => exact .inl rfl
            | some o =>
              by_cases hb : x ∈ B.br
              · exact .inr hb
              · have := E1.keep x o hb y
                rw [hx] at this; cases this
          · exact E1.fresh x (.inr hx) h2
        · exact E1.fresh x (.inl z) h2
      · intro m e0 q0
        cases m with
        | zero =>
          have : ent = e0 := by simpa using q0
          subst this
          exact ⟨v, rfl, q⟩
        | succ m =>
          have z1 : (((args a).map some).reverseAux (Δ ++ Γ))[vs.length + m]? = (Δ ++ Γ)[m]? := by
            have := rev_behind (vs := (args a).map some) (l := Δ ++ Γ) (i := m)
            rw [List.length_map, ← hv] at this; exact this
          have z2 : ((vs.map some).reverseAux (τ ++ σ))[vs.length + m]? = (τ ++ σ)[m]? := by
            have := rev_behind (vs := vs.map some) (l := τ ++ σ) (i := m)
            rw [List.length_map] at this; exact this
          obtain ⟨v', y1, y2⟩ := E1.hold (vs.length + m) e0 (by rw [z1]; simpa using q0)
          refine ⟨v', by rw [z2] at y1; simpa using y1, e0.loc s1 (fun x hx => ?_) y2⟩
          cases z : H1 x with
          | none => exact absurd z (E1.own _ x hx).2
          | some o => exact s3 x o z
theorem re_call {ta : TA} {es : List Ent} (h : RA B Γ ta es) (a : A) (ha : args a = es) (hfz : FzL es) (hp : pre a) (hpost : ∀ ent, post a ent → ent = ez) : RE B Γ (tCall (spP B.K args pre post) [] E ta) ez :=
  res_to (S := fun x => x = ez) (res_call (ras_of h) fun es' q => ⟨a, by rw [ha, q], by rw [q]; exact hfz, hp, hpost⟩) fun _ q => q
end
end G
end

section
set_option Elab.async false
set_option linter.all false
set_option maxRecDepth 100000
set_option maxHeartbeats 1000000
/-! X1: rules that the hand layer lacks -/
namespace PySem
open Sem (wp)
open AutoSeq1 (wpAny_loadPart')
theorem x_enum_newT (l : Addr) (items : Array Value) (n : Nat) (dct : Option Addr) (sl : Array (Option Value)) :
    Meets (Builtin.«enumerate.__new__» ⟨[.type "enumerate", .ref l], []⟩) (fun _ R s => s.heap.get? l = some { cls := .type "tuple", dict := dct, data := .seq items n, slots := sl } ∧
      R (.ok (.ret (.ref (s.heap.push { cls := .type "tuple_iterator", data := .fields #[.ref l, .int 0 0] }).objs.size)))
        { s with heap := (s.heap.push { cls := .type "tuple_iterator", data := .fields #[.ref l, .int 0 0] }).push { cls := .type "enumerate", data := .fields #[.none, .bool false, .ref s.heap.objs.size, rawInt 0, .none, .none] } }) :=
  .of_wp fun prog w A R s h => by
    obtain ⟨hp, g, d, tk, os⟩ := s; obtain ⟨hl, h⟩ := h
    have hsub := sub_enumerate
    have hL : Heap.IsTuple (Shared.heap ⟨hp, g, d, tk, os⟩) l items := ⟨_, hl, rfl, n, rfl⟩
    wp_walk using wpAny_loadPart' hl
    refine wpAny_stack_any fun st => wpAny_pure ?_
    split
    · rename_i c _ _ _ _ _
      cases (c == Value.type "enumerate")
      · wp_walk using wpAny_loadPart' hl, wpAny_pyIter_tuple hL
        exact ⟨_, rfl, h⟩
      · wp_walk using wpAny_loadPart' hl, wpAny_pyIter_tuple hL
        exact ⟨_, rfl, h⟩
    · wp_walk using wpAny_loadPart' hl, wpAny_pyIter_tuple hL
      exact ⟨_, rfl, h⟩
end PySem
namespace PySem
section
variable {prog : Program} {w : World} {A : Around} {E : Value → Shared → Prop} {s : Shared}
theorem x_enum_tuple {l : Addr} {items : Array Value} {Q : Value → Shared → Prop} (hL : s.heap.IsTuple l items)
    (h : ∀ h', IsEnum h' (s.heap.objs.size + 1) s.heap.objs.size 0 .none → h'.IsTupleIter s.heap.objs.size l 0 → h'.objs.size = s.heap.objs.size + 2 →
      (∀ b o, s.heap.get? b = some o → h'.get? b = some o) → Q (.ref (s.heap.objs.size + 1)) { s with heap := h' }) :
    wpAny (model prog w) A (call (.type "enumerate") [.ref l]) Q E s := by
  obtain ⟨⟨c, dct, dt, sl⟩, hl, hc, n, hd⟩ := hL
  replace hc : c = .type "tuple" := hc
  replace hd : dt = .seq items n := hd
  subst hc hd
  refine callType_new F.called_enumerate (by decide) (F.typeCall_enumerate_1 _) (F.newCall_enumerate_1 _) (fun obj => F.args_object_init_2 obj _) F.entry_enumerate_new
    (x_enum_newT l items n dct sl) ⟨hl, ?_⟩
  have hz : (s.heap.push { cls := .type "tuple_iterator", data := .fields #[.ref l, .int 0 0] }).objs.size = s.heap.objs.size + 1 := Heap.size_push ..
  show _ ∧ _
  rw [hz]
  have he : IsEnum ((s.heap.push { cls := .type "tuple_iterator", data := .fields #[.ref l, .int 0 0] }).push
      { cls := .type "enumerate", data := .fields #[.none, .bool false, .ref s.heap.objs.size, rawInt 0, .none, .none] }) (s.heap.objs.size + 1) s.heap.objs.size 0 .none := by
    have := Heap.get?_push_size (s.heap.push { cls := .type "tuple_iterator", data := .fields #[.ref l, .int 0 0] })
      (o := { cls := .type "enumerate", data := .fields #[.none, .bool false, .ref s.heap.objs.size, rawInt 0, .none, .none] }) rfl
    rw [hz] at this; exact this
  refine ⟨⟨_, he, rfl⟩, h _ he ⟨_, Heap.get?_push_of_some _ (Heap.get?_push_size _ rfl), rfl, rfl⟩ (by rw [Heap.size_push, hz]) fun b o x => Heap.get?_push_of_some _ (Heap.get?_push_of_some _ x)⟩
/-- a tuple's iterator draws its items -/
theorem x_draws_tuple (hh : A.handled = none) (it t : Addr) (hne : t ≠ it) (items : Array Value) : Draws prog w A it [it, t] items.size (fun i v => items[i]? = some v) (fun i h => h.IsTupleIter it t i ∧ h.IsTuple t items) where
  live := fun i h st => let ⟨⟨o, ho, _⟩, _⟩ := st; ⟨o, ho⟩
  frame := fun i h h' st k => ⟨st.1.at fun o e => k it (by simp) o e, let ⟨o, ho, r⟩ := st.2; ⟨o, k t (by simp) o ho, r⟩⟩
  item := fun i s Q E hi st hQ => by
    have hx : items[i]? = some items[i] := by simp [hi]
    refine wpAny_nextOf_tuple_item st.1 st.2 hx fun h' hit hs => hQ _ h' s.toks hx ⟨hit, ?_⟩ hs
    obtain ⟨o, ho, r⟩ := st.2
    exact ⟨o, hs.extBut t o hne ho, r⟩
  done := fun s Q E st hE => wpAny_nextOf_tuple_end hh st.1 st.2 (by simp) fun h' e hs hx => hE h' e hs hx
end
end PySem

namespace L2
open PySem PySem.Spec PyProof.Rows
/-! ### enumerate of a tuple -/
def IteT (K : PySem.W.Frag) (a : Addr) : It :=
  ⟨fun i H => ∃ (xs : List V) (x : V), SqT K H a xs ∧ xs[i]? = some x, fun i H v H' => ∃ T x, v = .ref T ∧ H T = none ∧ H' = upd H T (.tup [.int (i : Nat), x]) ∧ ∀ xs, SqT K H a xs → xs[i]? = some x, fun i H => ∃ xs : List V, SqT K H a xs ∧ xs.length ≤ i⟩
theorem isTuple_of {h : Heap} {a : Addr} {items : Array Value} (p : IsTup h a items) : h.IsTuple a items := p
theorem turn_enumT {P : Program} {w : World} {K : PySem.W.Frag} {elts : List Expr} {kk : Nat} {tpos : Pos} (a e it : Addr) :
    Turn P w K (.Tuple elts kk tpos) (IteT K a) [e, it] e (fun i h => (∃ old, IsEnum h e it ((i : Nat) : Int) old) ∧ h.IsTupleIter it a i ∧ e ≠ it ∧ e ≠ a ∧ a ≠ it) where
  mem := by simp
  obj := fun i h st b hb => by
    obtain ⟨⟨old, he⟩, ⟨o, ho, hc, hd⟩, _⟩ := st
    have e' : b = e ∨ b = it := by simpa using hb
    rcases e' with z | z
    · rw [z]; exact ⟨_, he, fun v q => nomatch q⟩
    · rw [z]; exact ⟨o, ho, fun v q => by rw [hd] at q; cases q⟩
  keep := fun i h h' st k => let ⟨⟨old, he⟩, hi, hne⟩ := st; ⟨⟨old, k e (by simp) _ he⟩, hi.at fun o q => k it (by simp) o q, hne⟩
  item := by
    intro X hP hw hK hc i pins s σ H E I hf st hg
    subst hP hw hK
    obtain ⟨⟨old, he⟩, hit, hne, hea, hai⟩ := st
    obtain ⟨xs, x, hq, hx⟩ := hg
    obtain ⟨its, rv, p, hz⟩ := I.tuple hq
    obtain ⟨u, hu, ru⟩ := rv.get hx
    have hel : e < s.heap.objs.size := Heap.lt_size he
    have hil : it < s.heap.objs.size := by obtain ⟨_, q, _⟩ := hit; exact Heap.lt_size q
    have hlt : i < its.toArray.size := by simpa using (List.getElem?_eq_some_iff.mp hu).1
    refine wpAny_pyNext_enum_itemD (x_draws_tuple (A := X.A.in1) (I.ok.hd hc) it a hai its.toArray) he ⟨hit, isTuple_of p⟩ hlt hne (by simp; exact ⟨hne, hea⟩) fun u' h' tk hP' ho hst' hT hsz hk => ?_
    have eu : u' = u := by
      have h1 : its.toArray[i]? = some u := by simpa using hu
      rw [h1] at hP'
      exact (Option.some.inj hP').symm
    subst eu
    refine ⟨_, rfl, wpAny_letOwnedTupleGo_enum (s := { s with heap := h', toks := tk + 1 }) ho fun h'' he' sb => ?_⟩
    have hT2 : h''.get? s.heap.objs.size = some { cls := .type "tuple", data := .seq #[.int i tk, u'] } := (sb.2 _ (Nat.ne_of_gt hel)).trans hT
    have new : ObjOk X.prog X.w (upd H s.heap.objs.size (.tup [.int (i : Nat), x])) h'' s.heap.objs.size (.tup [.int (i : Nat), x]) :=
      ⟨by show 2 ≤ sizeLine; decide, [.int i tk, u'], .cons ⟨_, rfl⟩ (.cons ru .nil), ⟨_, hT2, rfl, _, rfl⟩⟩
    have I1 : Inv X pins σ (upd H s.heap.objs.size (.tup [.int (i : Nat), x])) { s with heap := h'', toks := tk + 1 } :=
      I.turnedNew (ch := [e, it]) (fun b ob hb q => (sb.2 b (fun z => hb (by simp [z]))).trans (hk b ob (fun z => hb (by simp [z])) (fun z => hb (by simp [z])) q)) hf (Nat.le_refl _) new
    refine ⟨.ref s.heap.objs.size, _, I1, rfl, ⟨_, x, rfl, I.hok.fresh (Nat.le_refl _), rfl, fun ys hy => by rw [I.tuple_inj hy hq]; exact hx⟩, ⟨⟨u', ?_⟩, hst'.1.at fun o q => (sb.2 it (Ne.symm hne)).trans q, hne, hea, hai⟩, fun b hb => ?_⟩
    · have e1 : ((i + 1 : Nat) : Int) = (i : Int) + 1 := by omega
      rw [e1]; exact he'
    · have hb' : b < s.heap.objs.size := by
        have e' : b = e ∨ b = it := by simpa using hb
        rcases e' with z | z
        · rw [z]; exact hel
        · rw [z]; exact hil
      rw [upd_ne (Nat.ne_of_lt hb')]
      exact (hf b hb).1
  done := by
    intro X hP hw hK hc i pins s σ H E I hf st hg
    subst hP hw hK
    obtain ⟨⟨old, he⟩, hit, hne, hea, hai⟩ := st
    obtain ⟨xs, hq, hx⟩ := hg
    obtain ⟨its, rv, p, hz⟩ := I.tuple hq
    obtain ⟨f0, f1, f2, f3, f4, f5⟩ := hf it (by simp)
    have hl := rv.length
    have hT : s.TypeIs (.ref e) "enumerate" := ⟨_, he, rfl⟩
    unfold pyNext
    refine wpAny_bind (wpAny_attempt (wpAny_callSpecial?_slot (name := Str.ofString "__next__") hT F.slot_enumerate_next
      (wpAny_call_entry F.slot_enumerate_next hT F.entry_enumerate_next ?_ (F.args_enumerate_next_1 _))))
    show wpAny _ _ (field (.ref e) 2 >>= _) _ _ _
    refine wpAny_bind (wpAny_field he rfl (x := .ref it) rfl ?_)
    refine wpAny_bind (wpAny_nextOf_tuple_end (A := X.A.in1) (I.ok.hd hc) hit (isTuple_of p) (by simp; omega) fun h' x he' hx' => ?_)
    obtain ⟨o, ho, hc'⟩ := hx'
    refine wpAny_bind (wpAny_isInstance (T := "StopIteration") (b := true) ⟨o, ho, hc'⟩ isSubtype_stop ?_)
    exact wpAny_pure ⟨rfl, I.turned (t' := s.toks) (fun b o hb q => he' b o hb q) f0 f1 f3 f4 f5⟩
  self := fun A i s Q E st h => let ⟨⟨_, he⟩, _⟩ := st; wpAny_pyIter_enum he h
def iEnumT (K : PySem.W.Frag) (ta : TA) : TI := fun σ H R => ta σ H fun vs H1 => ∃ a xs, vs = [.ref a] ∧ SqT K H1 a xs ∧ R (IteT K a) H1
theorem pi_enumT {X : Cx} {e : Expr} {ta : TA} {p pos tpos : Pos} {elts : List Expr} {kk : Nat} (hg : Gl X "enumerate") (hm : X.mg "enumerate" = none) (ha : PA X [e] ta) (hs : starEach [e] X.env = [(false, eval e X.env)] := by rfl) :
    PI X (.Tuple elts kk tpos) (.Call (.Name "enumerate" p) [e] [] pos) (iEnumT X.K ta) := by
  refine ⟨fun pins s σ H R I h => ?_⟩
  refine Call_ (ld_blt I hg hm boot_enumerate (PyProof.Rows.callWith_type1 (thn (ha.run pos pins s σ H _ I h) fun us s1 ⟨vs, H1, I1, r1, q1⟩ => ?_) hs rfl))
  obtain ⟨a, xs, ex, hq, q⟩ := q1
  subst ex
  cases r1 with
  | cons r rr =>
    cases rr
    cases r
    obtain ⟨its, rv, p', hz⟩ := I1.tuple hq
    refine x_enum_tuple (isTuple_of p') fun h' he hit hsz hk => wpAny_pyIter_enum he ?_
    have I2 : Inv X pins σ H1 { s1 with heap := h' } := I1.kept (t' := s1.toks) hk
    have hlt : a < s1.heap.objs.size := p'.lt
    refine ⟨s1.heap.objs.size + 1, [s1.heap.objs.size + 1, s1.heap.objs.size], _, _, H1, rfl, I2, turn_enumT a (s1.heap.objs.size + 1) s1.heap.objs.size, ⟨⟨.none, he⟩, hit, Nat.succ_ne_self _, Nat.ne_of_gt (Nat.lt_succ_of_lt hlt), Nat.ne_of_lt hlt⟩, fun b hb => ?_, q⟩
    have e' : b = s1.heap.objs.size + 1 ∨ b = s1.heap.objs.size := by simpa using hb
    have hle : s1.heap.objs.size ≤ b := by
      rcases e' with z | z
      · rw [z]; exact Nat.le_add_right _ _
      · rw [z]; exact Nat.le_refl _
    exact I1.fpOk hle (I1.hok.fresh hle)
/-! ### tuple.count, tuple.index of ints -/
section
variable {X : Cx}
abbrev rTCnt (K : PySem.W.Frag) : V → List V → Hp → VK → Prop := fun x xs H Q => ∃ (p : Addr) (ns : List Int) (k : Int), x = .ref p ∧ xs = [.int k] ∧ SqT K H p (ns.map V.int) ∧ Q (.int (ns.count k : Nat)) H
theorem mt_tcount : MtR X "tuple.count" (rTCnt X.K) := by
  intro pins s σ H x xs v us Q I rx rxs h
  obtain ⟨p, ns, k, rfl, rfl, hs, q⟩ := h
  cases rx
  obtain ⟨u, rfl, ru⟩ := rxs.one
  obtain ⟨t, rfl⟩ := ru
  obtain ⟨its, rv, ⟨⟨cls, dd, data, sl⟩, ho, hc, n, hd⟩, hlen⟩ := I.tuple hs
  simp only at hc hd
  subst hc hd
  have hi := ints_of_vals rv
  refine call_meets PySem.F.slot_tuple_count ⟨_, ho, rfl⟩ PySem.F.entry_tuple_count (PySem.F.args_tuple_count_2 _ _)
    (SeqAt.tuple_countAt p its.toArray n dd sl (.int k t) (eqk k)) ⟨ho, fun y hy => (eqk_gives hi y (by simpa using hy)).at _ _, ?_⟩
  have ec : its.toArray.toList.countP (eqk k) = ns.count k := eqk_count hi
  refine ⟨.int (ns.count k : Nat), H, I.tok _, ⟨s.toks, ?_⟩, q⟩
  show Value.int ((its.toArray.toList.countP (eqk k) : Nat) : Int) s.toks = Value.int ((ns.count k : Nat) : Int) s.toks
  rw [ec]
abbrev rTIdx (K : PySem.W.Frag) : V → List V → Hp → VK → Prop := fun x xs H Q => ∃ (p : Addr) (ns : List Int) (k : Int) (j : Nat), x = .ref p ∧ xs = [.int k] ∧ SqT K H p (ns.map V.int) ∧ ns[j]? = some k ∧ (∀ m, m < j → ns[m]? ≠ some k) ∧ Q (.int (j : Nat)) H
theorem mt_tindex : MtR X "tuple.index" (rTIdx X.K) := by
  intro pins s σ H x xs v us Q I rx rs h
  obtain ⟨p, ns, k, j, rfl, rfl, hq, hy, hno, q⟩ := h
  cases rx
  obtain ⟨u, rfl, ru⟩ := rs.one
  obtain ⟨t, rfl⟩ := ru
  obtain ⟨its, r, pl, hz⟩ := I.tuple hq
  obtain ⟨⟨cls, dd, dt, sl⟩, ho, hc, n, hd⟩ := pl
  simp only at hc hd
  subst hc
  subst hd
  have hi := ints_of_vals r
  have hl : its.toArray.size = ns.length := by rw [List.size_toArray, ← r.length, List.length_map]
  have hj : j < its.toArray.size := by rw [hl]; exact (List.getElem?_eq_some_iff.mp hy).1
  have at' : ∀ (m : Nat) (hm : m < its.toArray.size), ∃ y t', ns[m]? = some y ∧ its.toArray[m] = Value.int y t' := fun m hm => by
    have hm' : m < ns.length := by rw [← hl]; exact hm
    obtain ⟨w, hw, t', hw'⟩ := r.get (i := m) (x := .int ns[m]) (by simp [hm'])
    refine ⟨ns[m], t', List.getElem?_eq_getElem hm', ?_⟩
    have e := (List.getElem?_eq_some_iff.mp hw).2
    rw [← hw', ← e]
    simp
  refine call_meets PySem.F.slot_tuple_index ⟨_, ho, rfl⟩ PySem.F.entry_tuple_index (PySem.F.args_tuple_index_2 _ _) (TI.tuple_indexAt p its.toArray n dd sl (.int k t) (eqk k) j hj ?_ ?_)
    ⟨ho, fun w hw => (eqk_gives hi w (by simpa using hw)).at _ _, ⟨.int (j : Nat), H, I.tok _, ⟨_, rfl⟩, q⟩⟩
  · obtain ⟨y, t', h1, h2⟩ := at' j hj
    rw [hy] at h1
    cases h1
    rw [h2]
    exact beq_self_eq_true k
  · intro m hm hmj
    obtain ⟨y, t', h1, h2⟩ := at' m hm
    rw [h2]
    refine beq_eq_false_iff_ne.mpr fun e2 => hno m hmj ?_
    rw [h1, e2]
/-! ### math's comb, perm, factorial -/
abbrev rComb : List V → Hp → VK → Prop := fun vs H Q => ∃ a b : Int, vs = [.int a, .int b] ∧ (0 ≤ a ∧ 0 ≤ b ∧ a < 9000) ∧ Q (.int (PySem.W.mcComb a b)) H
theorem cr_comb : CallR X (.builtin "math.comb") rComb := by
  intro pins s σ H vs us Q I r h
  obtain ⟨a, b, rfl, ⟨h1, h2, h3⟩, q⟩ := h
  obtain ⟨t, u, rfl⟩ := Vals.int2 r
  exact PySem.W.mc_comb h1 h2 (by omega) (.inr (by omega)) fun _ => ⟨.int _, H, I.tok _, ⟨_, rfl⟩, q⟩
abbrev rPerm : List V → Hp → VK → Prop := fun vs H Q => ∃ a b : Int, vs = [.int a, .int b] ∧ (0 ≤ a ∧ 0 ≤ b ∧ a < 9000 ∧ b < 9000) ∧ Q (.int (PySem.W.mcPerm a b)) H
theorem cr_perm : CallR X (.builtin "math.perm") rPerm := by
  intro pins s σ H vs us Q I r h
  obtain ⟨a, b, rfl, ⟨h1, h2, h3, h4⟩, q⟩ := h
  obtain ⟨t, u, rfl⟩ := Vals.int2 r
  exact PySem.W.mc_perm h1 h2 (by omega) (by omega) fun _ => ⟨.int _, H, I.tok _, ⟨_, rfl⟩, q⟩
abbrev rFact : List V → Hp → VK → Prop := fun vs H Q => ∃ a : Int, vs = [.int a] ∧ (0 ≤ a ∧ a < 9000) ∧ Q (.int ((Builtin.Math.factorialNat a.toNat : Nat) : Int)) H
theorem cr_factorial : CallR X (.builtin "math.factorial") rFact := by
  intro pins s σ H vs us Q I r h
  obtain ⟨a, rfl, ⟨h1, h2⟩, q⟩ := h
  obtain ⟨u, rfl, ru⟩ := r.one
  obtain ⟨t, rfl⟩ := ru
  exact PySem.W.mc_factorial h1 (by omega) fun _ => ⟨.int _, H, I.tok _, ⟨_, rfl⟩, q⟩
end
end L2
end

section
set_option Elab.async false
set_option linter.all false
set_option maxRecDepth 100000
set_option maxHeartbeats 1000000
/-! X2: set comprehensions over any kind of key -/
namespace L2
open PySem PySem.Spec PyProof.Rows
abbrev emptySet (w : World) : Obj := { cls := .type "set", dict := none, data := .set #[] 0 (.fresh 0 0 (!w.params.followText "set-order")) }
/-- a kind of sets: how the set at a is told, its keys as values; the empty set, one key more -/
structure SKind (P : Program) (w : World) (κ : Type) [DecidableEq κ] where
  so : Addr → (κ → Bool) → Nat → HO
  kv : κ → V
  mt : ∀ a S n, Mut (some (so a S n))
  new : ∀ (H : Hp) (h : Heap), ObjOk P w H (h.push (emptySet w)) h.objs.size (so h.objs.size (fun _ => false) 0)
  add : ∀ (X : Cx), X.prog = P → X.w = w → ∀ (pins : List (Addr × Obj)) (σ : St) (H : Hp) (s : Shared) (E : Value → Shared → Prop) (D : Addr) (S : κ → Bool) (n : Nat) (y : κ) (u : Value) (Q : Value → Shared → Prop),
    Inv X pins σ H s → H D = some (so D S n) → n + 1 < scanBound → RelV (kv y) u → (∀ s', Inv X pins σ (upd H D (so D (fun j => S j || decide (j = y)) (if S y = true then n else n + 1))) s' → Q .none s') →
    wpAny (model X.prog X.w) X.A (call (.builtin "set.add") [.ref D, u]) Q E s
def kindI (P : Program) (w : World) : SKind P w Int where
  so := SetO w
  kv := .int
  mt := fun _ _ _ => trivial
  new := fun H h => setO_new (setR_fresh w)
  add := fun X hP hw pins σ H s E D S n y u Q I hD room ru h => by
    subst hP hw
    obtain ⟨tk, rfl⟩ := ru
    refine setR_add (setO_get I hD) room fun h' sb new => ?_
    have he : ∃ u, h'.get? D = some u := by
      have ⟨o, _, _, _, ho, _⟩ := new
      exact ⟨o, ho⟩
    exact h _ (I.write (e := D) (t' := s.toks + 1) (by rw [hD]; trivial) (.inl rfl) (fun b u hb hu => (sb.2 b hb).trans hu) he (setO_new new))
def kindK (P : Program) (w : World) : SKind P w Key where
  so := SetK P w
  kv := kV
  mt := fun _ _ _ => trivial
  new := fun H h => setK_new ⟨_, #[], 0, _, Heap.get?_push_size _ rfl, ⟨rfl, rfl, rfl⟩, rfl, (fun e he => by simp at he), (fun k => by simp), (by decide), (by rfl), rfl⟩
  add := fun X hP hw pins σ H s E D S n y u Q I hD room ru h => by
    subst hP hw
    refine call_set_add (kV_is ru) (key_scan ru) (setK_get I hD) room fun h' sb new => ?_
    have he : ∃ u, h'.get? D = some u := by
      have ⟨o, _, _, _, ho, _⟩ := new
      exact ⟨o, ho⟩
    exact h _ (I.write (e := D) (t' := s.toks + 1) (by rw [hD]; trivial) (.inl rfl) (fun b u hb hu => (sb.2 b hb).trans hu) he (setK_new new))
open PpSet in
/-- {elt for target in iter if ..} -/
def tScG {P : Program} {w : World} {κ : Type} [DecidableEq κ] (Z : SKind P w κ) (wi : TI) (g : TG) (tt : TT) (te : TE) (vs : List Nat) : TE := fun σ H Q => wi σ H fun J H1 => ∀ D, H1 D = none →
  ∃ W : Nat → Nat → Hp → Prop, (∃ m, W 0 m (upd H1 D (Z.so D (fun _ => false) 0))) ∧ ∀ i m H, W i m H →
    (J.stop i H ∧ Q (.ref D) H) ∨ (J.go i H ∧ ∃ Nx : Hp → Prop, (∀ H', Nx H' → ∃ m', m' < m ∧ W (i + 1) m' H') ∧ ∀ x H', J.yld i H x H' → g x (wipe σ vs) H' fun σ2 H2 => wipe σ2 vs = wipe σ vs ∧ tt σ2 H2 fun b H3 =>
      if b = true then te σ2 H3 fun y H4 => ∃ (c : κ) (S : κ → Bool) (n : Nat), y = Z.kv c ∧ H4 D = some (Z.so D S n) ∧ n + 1 < scanBound ∧ Nx (upd H4 D (Z.so D (fun j => S j || decide (j = c)) (if S c = true then n else n + 1))) else Nx H3)
section
variable {X : Cx} {κ : Type} [DecidableEq κ]
open PpSet in
theorem pe_scG (Z : SKind X.prog X.w κ) {elt tg iter : Expr} {ifs : List Expr} {scope : Scope} {own : List (PySem.Str × Nat)} {pos : Pos} {wi : TI} {g : TG} {tt : TT} {te : TE} (hc : X.calm = true) (hN : X.N.Nodup) (hi : PI X tg iter wi) (ok : BlkOk X.N X.env.scope scope own)
    (hg : ∀ (s : Shared) (H : Hp) (C : Addr) (cl : List (PySem.Str × Addr)) (fp : List Addr), PG (X.blk s H scope (compEnvC scope cl C X.env) fp) tg g)
    (ht : ∀ (s : Shared) (H : Hp) (C : Addr) (cl : List (PySem.Str × Addr)) (fp : List Addr), PTs (X.blk s H scope (compEnvC scope cl C X.env) fp) ifs tt)
    (he : ∀ (s : Shared) (H : Hp) (C : Addr) (cl : List (PySem.Str × Addr)) (fp : List Addr), PE (X.blk s H scope (compEnvC scope cl C X.env) fp) elt te) (hs : ∀ x, foldedSetIterable iter X.env x = pure x := by intro _; rfl) :
    PE X (.SetComp elt [⟨tg, iter, ifs, 0⟩] scope pos) (tScG Z wi g tt te (own.map (·.2))) := by
  refine ⟨fun pins s σ H Q I h => ?_⟩
  rw [eval_SetComp]
  have closed : ∀ y ∈ scope.names, y.2 = .free → ∃ c, X.env.cells.lookup y.1 = some c := fun y hy e =>
    (ok.free y hy e).elim (fun k => I.ok.has _ (.inl k)) (fun k => I.ok.has _ (.inr k))
  refine wpAny_comprehension_free (use := none) rfl hs (closure_ok closed) ok.kind (fun y hy e => by rw [ok.uniq y hy, e])
    (thn (hi.run pins s σ H _ I h) fun xv s1 hx => thn hx fun itv s2 h2 => ?_)
  obtain ⟨it, fp, tn, J, H2, rfl, I2, T, st2, f2, q⟩ := h2
  refine newSet_ok (newEnv_comp ?_)
  obtain ⟨D, hD⟩ : ∃ D, D = s2.heap.objs.size := ⟨_, rfl⟩
  rw [← hD]
  have hDn : H2 D = none := I2.hok.fresh (Nat.le_of_eq hD.symm)
  obtain ⟨W, ⟨m0, w0⟩, turn⟩ := q D hDn
  obtain ⟨s3, hs3⟩ : ∃ s3 : Shared, s3 = { s2 with heap := s2.heap.push (emptySet X.w) } := ⟨_, rfl⟩
  have I3 : Inv X pins σ (upd H2 D (Z.so D (fun _ => false) 0)) s3 := by
    subst hs3
    refine I2.laid (t' := s2.toks) (fun b o e => Heap.get?_push_of_some _ e) (Nat.le_of_eq hD.symm) ?_
    subst hD
    exact Z.new _ _
  have h3 : s3.heap = s2.heap.push (emptySet X.w) := by rw [hs3]
  have older : ∀ b ∈ fp, b < s2.heap.objs.size := fun b hb => (T.obj _ _ st2 b hb).elim fun o e => Heap.lt_size e.1
  have f3 : ∀ b ∈ fp, FpOk X pins (upd H2 D (Z.so D (fun _ => false) 0)) b ∧ b < s3.heap.objs.size := fun b hb => by
    have hlt := older b hb
    refine ⟨⟨?_, (f2 b hb).2⟩, by rw [h3, Heap.size_push]; exact Nat.lt_succ_of_lt hlt⟩
    rw [upd_ne (by rw [hD]; exact Nat.ne_of_lt hlt)]
    exact (f2 b hb).1
  have st3 : tn 0 s3.heap := T.keep _ _ _ st2 fun b _ o e => by rw [h3]; exact Heap.get?_push_of_some _ e
  have I4 := block_start I3 ok hN f3
  obtain ⟨H3, hH3⟩ : ∃ H3, H3 = upd H2 D (Z.so D (fun _ => false) 0) := ⟨_, rfl⟩
  rw [← hH3] at I3 I4 w0 f3
  have pg := hg s3 H3 s3.heap.objs.size (cellsFrom (s3.heap.objs.size + 1) scope.names (cloFrom X.env.cells scope.names [])) fp
  have pt := ht s3 H3 s3.heap.objs.size (cellsFrom (s3.heap.objs.size + 1) scope.names (cloFrom X.env.cells scope.names [])) fp
  have pe := he s3 H3 s3.heap.objs.size (cellsFrom (s3.heap.objs.size + 1) scope.names (cloFrom X.env.cells scope.names [])) fp
  obtain ⟨Qf, hQf⟩ : ∃ Qf, Qf = EP X pins σ Q := ⟨_, rfl⟩
  rw [← hQf]
  rw [show ({ s2 with heap := s2.heap.push { cls := .type "set", dict := none, data := .set #[] 0 (.fresh 0 0 (!X.w.params.followText "set-order")) } } : Shared) = s3 from hs3.symm]
  show codeAny _ _ (.compStart (.SetComp elt [⟨tg, iter, ifs, 0⟩] scope pos) 0 (.ref it) (.ref D) (compEnvC scope (cellsFrom (s3.heap.objs.size + 1) scope.names (cloFrom X.env.cells scope.names [])) s3.heap.objs.size X.env))
    (compPost (model X.prog X.w) X.A X.xe none Qf (.ref D) s3.heap.objs.size) { s3 with heap := pushCells (s3.heap.push { cls := .type "dict", data := .dict #[] }) scope.names }
  obtain ⟨ce, hce⟩ : ∃ ce, ce = compEnvC scope (cellsFrom (s3.heap.objs.size + 1) scope.names (cloFrom X.env.cells scope.names [])) s3.heap.objs.size X.env := ⟨_, rfl⟩
  rw [← hce] at I4 pg pt pe ⊢
  have cL : ce.locals = s3.heap.objs.size := by rw [hce]; rfl
  obtain ⟨s4, hs4⟩ : ∃ s4 : Shared, s4 = { s3 with heap := pushCells (s3.heap.push { cls := .type "dict", data := .dict #[] }) scope.names } := ⟨_, rfl⟩
  rw [← hs4] at I4 ⊢
  have nfp : ∀ b ∈ fp, H3 b = none := fun b hb => (f3 b hb).1.1
  have st4 : tn 0 s4.heap := T.keep _ _ _ st3 fun b _ o e => by rw [hs4]; exact pushCells_keeps _ _ _ _ (Heap.get?_push_of_some _ e)
  have stat : ∀ {σ' : L2.St} {H' : Hp} {s' : Shared}, Inv (X.blk s3 H3 scope ce fp) [] σ' H' s' → (∀ b ∈ fp, H' b = none) → ∀ b ∈ fp, FpOk (X.blk s3 H3 scope ce fp) [] H' b := fun {σ' H' s'} I' hn b hb =>
    ⟨hn b hb, (I'.ok.exf b hb).1, I'.ok.exfs b hb, .inl hb, fun x c e => (I'.ok.exf b hb).2 x c e, fun p hp => absurd (show p ∈ ([] : List (Addr × Obj)) ++ [] from hp) (by simp)⟩
  have post : ∀ s' m H', Inv X pins σ H' s' → Q (.ref D) H' → s'.heap.Ns s3.heap.objs.size m → FpOk X pins H' s3.heap.objs.size → compPost (model X.prog X.w) X.A X.xe none Qf (.ref D) s3.heap.objs.size (.ok .next) s' := fun s' m H' I' q hn f =>
    ⟨m, hn, fun h'' sb => by
      obtain ⟨f0, f1, f2, f3, f4, f5⟩ := f
      rw [hQf]
      exact ⟨.ref D, H', I'.turned (t' := s'.toks) (fun b o hb e => (sb.2 b hb).trans e) f0 f1 f3 f4 f5, rfl, q⟩⟩
  have loop : codeAny (model X.prog X.w) X.A (.compLoop (.SetComp elt [⟨tg, iter, ifs, 0⟩] scope pos) 0 (.ref it) (.ref D) ce) (compPost (model X.prog X.w) X.A X.xe none Qf (.ref D) s3.heap.objs.size) s4 := by
    refine compLoopS_any (fun n s' => ∃ i H', Inv (X.blk s3 H3 scope ce fp) [] (wipe σ (own.map (·.2))) H' s' ∧ tn i s'.heap ∧ (∀ b ∈ fp, H' b = none) ∧ W i n H') ?_ m0 ⟨0, H3, I4, st4, nfp, w0⟩
    rintro n s5 ⟨i, H5, I5, st5, n5, w5⟩
    rcases turn i n H5 w5 with ⟨stop, qq⟩ | ⟨go, Nx, hNx, step⟩
    · refine thnF (T.done (X.blk s3 H3 scope ce fp) rfl rfl rfl hc i [] s5 _ H5 (fun _ _ => False) I5 (stat I5 n5) st5 stop) fun r s6 ⟨hr, I6⟩ => ?_
      subst hr
      have I7 : Inv X pins σ H5 s6 := I3.call' (ch := fp) I6.os I6.base I6.hok I6.bare fun b hb => ⟨(f3 b hb).1.2.2.2.1, (f3 b hb).1.2.1, (f3 b hb).1.2.2.2.2.1, (f3 b hb).1.2.2.2.2.2⟩
      have nC : H5 s3.heap.objs.size = none := by rw [← cL]; exact I6.free
      obtain ⟨m, hn, _⟩ := I6.loc
      replace hn : s6.heap.Ns ce.locals m := hn
      rw [cL] at hn
      exact post s6 m H5 I7 qq hn (I3.fpOk (Nat.le_refl _) nC)
    · refine thnF (T.item (X.blk s3 H3 scope ce fp) rfl rfl rfl hc i [] s5 _ H5 (fun _ _ => False) I5 (stat I5 n5) st5 go) fun r s6 ⟨u, hr, h6⟩ => ?_
      subst hr
      refine thnF h6 fun _ s7 ⟨x, H7, I7, r7, y7, st7, n7⟩ => ?_
      have I7' := I7.pinned (stat I7 n7) (T.obj _ _ st7)
      refine thnF (pg.run _ s7 _ H7 x u _ I7' r7 (step x H7 y7)) fun _ s8 ⟨σ8, H8, I8, hw8, q8⟩ => ?_
      refine thnF (pt.run _ s8 σ8 H8 _ I8 q8) fun b s9 ⟨H9, I9, q9⟩ => ?_
      have fin : ∀ {s' : Shared} {H' : Hp}, Inv (X.blk s3 H3 scope ce fp) ([] ++ pinsAt fp s7.heap) σ8 H' s' → Nx H' →
          ∃ m, m < n ∧ ∃ i H', Inv (X.blk s3 H3 scope ce fp) [] (wipe σ (own.map (·.2))) H' s' ∧ tn i s'.heap ∧ (∀ b ∈ fp, H' b = none) ∧ W i m H' := fun {s' H'} I' nx => by
        obtain ⟨m', hm, w'⟩ := hNx H' nx
        have stay : ∀ b ∈ fp, ∀ o, s7.heap.get? b = some o → s'.heap.get? b = some o ∧ H' b = none := fun b hb o e =>
          let z := I'.pin (b, o) (List.mem_append_right _ (List.mem_append_right _ (mem_pinsAt hb e)))
          ⟨z.1, z.2.1⟩
        refine ⟨m', hm, i + 1, H', (I'.unpinned (pins := [])).weak (by rw [← hw8, wipe_length]) (fun j v e => ?_), T.keep _ _ _ st7 fun b hb o e => (stay b hb o e).1, fun b hb => ?_, w'⟩
        · rw [← hw8] at e
          exact (wipe_some e).1
        · obtain ⟨o, e, _⟩ := T.obj _ _ st7 b hb
          exact (stay b hb o e).2
      cases b with
      | false =>
        simp only [Bool.false_eq_true, if_false] at q9 ⊢
        exact fin I9 q9
      | true =>
        simp only [if_true] at q9 ⊢
        refine thnF (pe.run _ s9 σ8 H9 _ I9 q9) fun z s10 ⟨yv, H10, I10, r10, cb, S0, n0, ey, hD10, hz10, nx⟩ => ?_
        subst ey
        exact Z.add (X.blk s3 H3 scope ce fp) rfl rfl _ _ _ _ _ _ _ _ _ _ _ I10 hD10 hz10 r10 fun s11 I11 => fin I11 nx
  exact codeAny_compStart_set loop (T.self X.A 0 _ _ _ st4 loop)
end
end L2
end

section
set_option Elab.async false
set_option linter.all false
set_option maxRecDepth 100000
set_option maxHeartbeats 1000000
/-! G9: methods, sets, isinstance, joins, more built-ins on what values stand for -/
namespace G
open PySem L2

/-! ### classes as values, isinstance -/
section
variable {B : Bs} {K : FK} {Γ : List (Option Ent)} {H : Hp} {l : List (Option V)} {L : List (Option Ent)} {α β : Type} [Py α] [Py β] {x y : Int} {xs ys : List Int} {s : Str} {te ta tb : TE} {i : Nat}
theorem re_cT {n : String} : RE B Γ (tC (.ty n)) (fz (V.ty n)) := fun _ H _ _ _ _ E _ k => k _ H (E.pushS (x := V.ty n) rfl)
theorem re_cV {v : V} : RE B Γ (tC v) (fz v) := fun _ H _ _ _ _ E _ k => k _ H (E.pushS (x := v) rfl)
/-- what isinstance(x, T) says of all values of a kind -/
class Cl (α : Type) [Py α] where
  ty : String
  of : ∀ {K : FK} {H : Hp} {v : V} {x : α}, Py.rep K H v x → TyX K H v (.type ty)
instance : Cl Int := ⟨"int", fun {K H v x} h => by have e : v = .int x := h; subst e; exact .base (.int x)⟩
instance : Cl Bool := ⟨"bool", fun {K H v x} h => by have e : v = .bl x := h; subst e; exact .base (.bl x)⟩
instance : Cl Str := ⟨"str", fun {K H v x} h => by have e : v = .str x := h; subst e; exact .base (.str x)⟩
instance : Cl Unit := ⟨"NoneType", fun {K H v x} h => by have e : v = .non := h; subst e; exact .base .non⟩
instance instClTup : Cl (Tup α) := ⟨"tuple", fun {K H v x} h => by obtain ⟨p, vs, rfl, h1, _⟩ := h; exact .base (.tup h1)⟩
instance instClLst : Cl (Lst α) := ⟨"list", fun {K H v x} h => by obtain ⟨p, vs, rfl, h1, _⟩ := h; exact .base (.lst h1)⟩
instance instClProd : Cl (α × β) := ⟨"tuple", fun {K H v x} h => by obtain ⟨p, a, b, rfl, h1, _⟩ := h; exact .base (.tup h1)⟩
theorem cb_isi [Cl α] {a : α} {n : String} {b : Bool} (hb : kitB (Cl.ty α) n = some b) : CbS K (rIsi K) [fz a, fz (V.ty n)] (fz b) := fun B H l L vs ek hl E Q k => by
  subst ek
  obtain ⟨v, w, rfl, E⟩ := two_args hl E
  have ew : w = .ty n := E.view
  subst ew
  exact ⟨v, .ty n, .type (Cl.ty α), .type n, b, rfl, .ty n, Cl.of E.drop.view, kit_ty hb, k _ _ E.drop.drop.pushB⟩

/-! ### methods of tuples, lists, texts -/
/-- a method of a built-in type, the receiver frozen -/
def MtS (K : FK) (T : String) (r : V → List V → Hp → VK → Prop) (ex : Ent) (es : List Ent) (ez : Ent) : Prop := ∀ (B : Bs) (H : Hp) (l : List (Option V)) (L : List (Option Ent)) (x : V) (vs : List V), B.K = K → vs.length = es.length →
  Env B H ((vs.map some).reverseAux (some x :: l)) ((es.map some).reverseAux (some ex :: L)) → ∀ Q : VK, (∀ v H', Env B H' (some v :: l) (some ez :: L) → Q v H') → r x vs H Q
def TyS (T : String) (ex : Ent) : Prop := ∀ (B : Bs) (H : Hp) (l : List (Option V)) (L : List (Option Ent)) (x : V), Env B H (some x :: l) (some ex :: L) → tyV B.K T x H
theorem ty_lst {zs : List α} : TyS "list" (fz (Lst.mk zs)) := fun B H l L x E => by
  obtain ⟨p, vs, rfl, h, _⟩ : ∃ p vs, x = .ref p ∧ H p = some (.lst vs) ∧ Reps B.K H vs zs := E.view
  exact .inl ⟨rfl, vs, SqL.of h⟩
theorem re_bm {T : String} {r : V → List V → Hp → VK → Prop} {to : TE} {ta : TA} {ex ez : Ent} {es : List Ent} (ho : RE B Γ to ex) (ty : TyS T ex) (ha : RA B Γ ta es) (hm : MtS B.K T r ex es ez) : RE B Γ (tBM B.K T r to ta) ez := fun σ H τ Δ hl hs E Q k =>
  ho σ H τ Δ hl hs E _ fun x H1 E1 => ⟨ty B H1 _ _ x E1, ha σ H1 (some x :: τ) (some ex :: Δ) (by simp [hl]) hs E1 _ fun vs H2 hv E2 => hm B H2 _ _ x vs rfl hv E2 Q k⟩
theorem res_bm {T : String} {r : V → List V → Hp → VK → Prop} {to : TE} {ta : TA} {ex : Ent} {Sa : List Ent → Prop} {S' : Ent → Prop} (ho : RE B Γ to ex) (ty : TyS T ex) (ha : RAs B Γ ta Sa) (hm : ∀ es, Sa es → ∃ ez, MtS B.K T r ex es ez ∧ S' ez) : REs B Γ (tBM B.K T r to ta) S' := fun σ H τ Δ hl hs E Q k =>
  ho σ H τ Δ hl hs E _ fun x H1 E1 => ⟨ty B H1 _ _ x E1, ha σ H1 (some x :: τ) (some ex :: Δ) (by simp [hl]) hs E1 _ fun es vs H2 sa hv E2 => by
    obtain ⟨ez, h1, h2⟩ := hm es sa
    exact h1 B H2 _ _ x vs rfl hv E2 Q fun v H3 E3 => k ez v H3 h2 E3⟩
theorem ms_tcount : MtS K "tuple" (rTCnt K) (fz (Tup.mk xs)) [fz x] (fz ((xs.count x : Nat) : Int)) := fun B H l L v vs ek hl E Q k => by
  subst ek
  match vs, hl with
  | [w], _ =>
    have E : Env B H (some w :: some v :: l) (some (fz x) :: some (fz (Tup.mk xs)) :: L) := E
    obtain ⟨p, us, rfl, h2, h3⟩ : ∃ p vs, v = .ref p ∧ H p = some (.tup vs) ∧ Reps B.K H vs xs := E.drop.view
    have ew : w = .int x := E.view
    have ev := h3.ints
    subst ew; subst ev
    exact ⟨p, xs, x, rfl, rfl, SqT.of h2, k _ _ E.drop.drop.pushI⟩
theorem ms_tindex {j : Nat} (h1 : xs[j]? = some x) (h2 : ∀ m, m < j → xs[m]? ≠ some x) : MtS K "tuple" (rTIdx K) (fz (Tup.mk xs)) [fz x] (fz (j : Int)) := fun B H l L v vs ek hl E Q k => by
  subst ek
  match vs, hl with
  | [w], _ =>
    have E : Env B H (some w :: some v :: l) (some (fz x) :: some (fz (Tup.mk xs)) :: L) := E
    obtain ⟨p, us, rfl, h3, h4⟩ : ∃ p vs, v = .ref p ∧ H p = some (.tup vs) ∧ Reps B.K H vs xs := E.drop.view
    have ew : w = .int x := E.view
    have ev := h4.ints
    subst ew; subst ev
    exact ⟨p, xs, x, j, rfl, rfl, SqT.of h3, h1, h2, k _ _ E.drop.drop.pushI⟩
abbrev rJoin (K : FK) : V → List V → Hp → VK → Prop := fun x xs H Q => ∃ a p, ∃ ys : List Str, x = .str a ∧ xs = [.ref p] ∧ (SqL K H p (ys.map V.str) ∨ SqT K H p (ys.map V.str)) ∧
      (ys.map (·.length)).sum + ys.length * a.length ≤ 16777216 ∧ Q (.str (Txt.join a ys)) H
/-- sep.join(list of one's own) -/
theorem re_joinO {to : TE} {ss : List Str} (ho : RE B Γ to (fz s)) (he : RE B Γ te (ow ss)) (hz : (ss.map (·.length)).sum + ss.length * s.length ≤ 16777216) : RE B Γ (tM1 (rJoin B.K) to te) (fz (Txt.join s ss)) := fun σ H τ Δ hl hs E Q k =>
  ho σ H τ Δ hl hs E _ fun v H1 E1 => by
    have ev : v = .str s := E1.view
    refine ⟨⟨s, ev⟩, he σ H1 (some v :: τ) (some (fz s) :: Δ) (by simp [hl]) hs E1 _ fun w H2 E2 => ?_⟩
    obtain ⟨p, us, rfl, h2, h3⟩ := E2.viewO
    have eu := h3.strs
    subst eu; subst ev
    exact ⟨s, p, ss, rfl, rfl, .inl (SqL.of h2), hz, k _ _ E2.drop.drop.pushStr⟩

/-! ### math -/
theorem cb_perm (h1 : 0 ≤ x) (h2 : 0 ≤ y) (h3 : x < 9000) (h4 : y < 9000) : CbS K rPerm [fz x, fz y] (fz (PySem.W.mcPerm x y)) := fun B H l L vs ek hl E Q k => by
  obtain ⟨v, w, rfl, E⟩ := two_args hl E
  have ev : v = .int x := E.drop.view
  have ew : w = .int y := E.view
  subst ev; subst ew
  exact ⟨x, y, rfl, ⟨h1, h2, h3, h4⟩, k _ _ E.drop.drop.pushI⟩
theorem cb_comb (h1 : 0 ≤ x) (h2 : 0 ≤ y) (h3 : x < 9000) : CbS K rComb [fz x, fz y] (fz (PySem.W.mcComb x y)) := fun B H l L vs ek hl E Q k => by
  obtain ⟨v, w, rfl, E⟩ := two_args hl E
  have ev : v = .int x := E.drop.view
  have ew : w = .int y := E.view
  subst ev; subst ew
  exact ⟨x, y, rfl, ⟨h1, h2, h3⟩, k _ _ E.drop.drop.pushI⟩
theorem cb_fact (h1 : 0 ≤ x) (h3 : x < 9000) : CbS K rFact [fz x] (fz ((Builtin.Math.factorialNat x.toNat : Nat) : Int)) := fun B H l L vs ek hl E Q k => by
  obtain ⟨v, rfl, E⟩ := one_arg hl E
  have ev : v = .int x := E.view
  subst ev
  exact ⟨x, rfl, ⟨h1, h3⟩, k _ _ E.drop.pushI⟩
/-! ### sums, sorts, extremes of lists -/
theorem cb_sumO : CbS K (rSum K) [ow xs] (fz xs.sum) := fun B H l L vs ek hl E Q k => by
  subst ek
  obtain ⟨v, rfl, E⟩ := one_arg hl E
  obtain ⟨p, us, rfl, h2, h3⟩ := E.viewO
  have eu := h3.ints
  subst eu
  exact ⟨p, xs, rfl, SqL.of h2, k _ _ E.drop.pushI⟩
/-- ascending, the same items -/
def Srt (ys xs : List Int) : Prop := ys.Perm xs ∧ ys.Pairwise (· ≤ ·)
def isort (xs : List Int) : List Int := xs.mergeSort (fun a b => decide (a ≤ b))
theorem isort_srt (xs : List Int) : Srt (isort xs) xs := by
  refine ⟨List.mergeSort_perm _ _, ?_⟩
  have h := List.pairwise_mergeSort (le := fun a b : Int => decide (a ≤ b)) (fun a b c h1 h2 => by simp at *; omega) (fun a b => by simp; omega) xs
  exact h.imp fun h => by simpa using h
theorem srt_uniq {ys zs xs : List Int} (h1 : Srt ys xs) (h2 : Srt zs xs) : ys = zs :=
  List.Perm.eq_of_pairwise (fun a b _ _ h1 h2 => by omega) h1.2 h2.2 (h1.1.trans h2.1.symm)
theorem cb_sortedO : CbS K (rSortedI K) [ow xs] (ow (isort xs)) := fun B H l L vs ek hl E Q k => by
  subst ek
  obtain ⟨v, rfl, E⟩ := one_arg hl E
  obtain ⟨p, us, rfl, h2, h3⟩ := E.viewO
  have eu := h3.ints
  subst eu
  refine ⟨p, xs, rfl, SqL.of h2, fun ns q hp hs hq => ?_⟩
  have e : ns = isort xs := srt_uniq ⟨hp, hs⟩ (isort_srt xs)
  subst e
  exact k _ _ (Env.drop1 (E.newO (o := .lst ((isort xs).map V.int)) hq fun Hf _ s kn => ⟨q, _, rfl, rfl, upd_same, Reps.of_ints _⟩))
end
/-! ### sets -/
section
variable {P : Program} {w : World} {κ : Type} [DecidableEq κ] (Z : SKind P w κ)
/-- a set of the keys xs, each once -/
def se (xs : List κ) : Ent := ⟨fun _ _ H v fp => xs.Nodup ∧ ∃ a, v = .ref a ∧ fp = [a] ∧ H a = some (Z.so a (fun k => decide (k ∈ xs)) xs.length), fun {K Hf Hf' H H' v fp} e k h => by
  obtain ⟨nd, a, h1, h2, h3⟩ := h
  subst h2
  exact ⟨nd, a, h1, rfl, (k a (by simp)).trans h3⟩⟩
/-- one key more -/
def addKey (acc : List κ) (c : κ) : List κ := if c ∈ acc then acc else acc ++ [c]
theorem addKey_nodup {acc : List κ} {c : κ} (h : acc.Nodup) : (addKey acc c).Nodup := by
  unfold addKey
  split
  · exact h
  · rename_i hc
    rw [List.nodup_append]
    exact ⟨h, by simp, fun a ha b hb => by simp at hb; subst hb; exact fun e => hc (e ▸ ha)⟩
theorem addKey_mem {acc : List κ} {c k : κ} : k ∈ addKey acc c ↔ k ∈ acc ∨ k = c := by
  unfold addKey
  split
  · rename_i hc
    constructor
    · exact .inl
    · rintro (h | rfl)
      · exact h
      · exact hc
  · simp
theorem addKey_len {acc : List κ} {c : κ} : (addKey acc c).length = if c ∈ acc then acc.length else acc.length + 1 := by
  unfold addKey; split <;> simp
end
section
variable {B : Bs} {Γ Γ' : List (Option Ent)} {wi : TI} {g : TG} {tt : TT} {te : TE} {P : Program} {w : World} {κ : Type} [DecidableEq κ] {Z : SKind P w κ}
theorem res_sc {u : List Ent} {n : Nat} {item : Nat → Ent} {vs ws : List Nat} (I : Nat → List κ → Prop) (hi : RI B Γ wi u n item) (hn : n ≤ 4000) (hv : ∀ k ∈ vs, ∀ e : Ent, Γ[k]? ≠ some (some e)) (hw : ∀ k ∈ ws, k ∈ vs) (i0 : I 0 [])
    (hb : ∀ (i : Nat) (acc : List κ), i < n → acc.length ≤ i → I i acc → ∃ (Γ' : List (Option Ent)) (b : Bool) (y : κ), RGw B Γ g (item i) Γ' ws ∧ Le Γ Γ' ∧ RT B Γ' tt b ∧ (b = true → RE B Γ' te (fz (Z.kv y)) ∧ I (i + 1) (addKey acc y)) ∧ (b = false → I (i + 1) acc)) :
    REs B Γ (tScG Z wi g tt te vs) (fun e => ∃ acc : List κ, I n acc ∧ acc.length ≤ n ∧ e = se Z acc) := fun σ H τ Δ hl hs E Q k => by
  refine hi σ H τ Δ hl hs E _ fun J H1 us hu E1 J1 => ?_
  intro Dl hD
  refine ⟨fun i m H' => m = n - i ∧ i ≤ n ∧ ∃ acc : List κ, I i acc ∧ acc.length ≤ i ∧ Env B H' (some (.ref Dl) :: (us.map some ++ (τ ++ σ))) (some (se Z acc) :: (u.map some ++ (Δ ++ Γ))), ⟨n, by simp, Nat.zero_le _, [], i0, Nat.zero_le _, ?_⟩, ?_⟩
  · refine E1.newO (o := Z.so Dl (fun _ => false) 0) hD fun Hf _ s kn => ⟨List.nodup_nil, Dl, rfl, rfl, ?_⟩
    rw [upd_same]
    congr 2
    all_goals first | rfl | (funext k; simp)
  · rintro i m H' ⟨rfl, hin, acc, hI, hz, E2⟩
    by_cases hlt : i < n
    · have E2' : Env B H' (us.map some ++ (some (.ref Dl) :: (τ ++ σ))) (u.map some ++ (some (se Z acc) :: (Δ ++ Γ))) := Env.rot hu E2
      have G1 := J1.go _ _ i H' E2' hlt
      refine .inr ⟨G1.1, fun H2 => ∃ acc : List κ, I (i + 1) acc ∧ acc.length ≤ i + 1 ∧ Env B H2 (some (.ref Dl) :: (us.map some ++ (τ ++ σ))) (some (se Z acc) :: (u.map some ++ (Δ ++ Γ))), ?_, fun x H2 hy => ?_⟩
      · rintro H2 ⟨acc', a, b, c⟩
        exact ⟨n - (i + 1), by omega, rfl, hlt, acc', a, b, c⟩
      · have E3 := G1.2 x H2 hy
        obtain ⟨Γ', b, y, hg, hle, ht, hyes, hno⟩ := hb i acc hlt hz hI
        have E4 : Env B H2 (some x :: ((us.map some ++ some (.ref Dl) :: τ) ++ wipe σ vs)) (some (item i) :: ((u.map some ++ some (se Z acc) :: Δ) ++ Γ)) :=
          Env.other (τ := some x :: (us.map some ++ some (.ref Dl) :: τ)) (Δ := some (item i) :: (u.map some ++ some (se Z acc) :: Δ)) (σ := σ) (σ' := wipe σ vs) (Γ := Γ) (vs := vs) (by simp [hu, hl]) hv (fun k hk => wipe_off hk) (by
            simpa [List.append_assoc] using E3)
        refine hg (wipe σ vs) H2 (us.map some ++ some (.ref Dl) :: τ) (u.map some ++ some (se Z acc) :: Δ) x (by simp [hu, hl]) (by rw [wipe_length, hs]) E4 _ fun σ2 H3 hσ2 hoff E5 => ?_
        have hσl : σ2.length = σ.length := by rw [hσ2, ← hle.1, hs]
        refine ⟨wipe_eq hσl fun k hk => hoff k fun z => hk (hw k z), ?_⟩
        have back : ∀ {k : Nat}, k ∉ vs → σ[k]? = σ2[k]? := fun {k} hk => by rw [hoff k fun z => hk (hw k z), wipe_off hk]
        have slot : ∀ {Hx : Hp}, Env B Hx ((us.map some ++ some (.ref Dl) :: τ) ++ σ2) ((u.map some ++ some (se Z acc) :: Δ) ++ Γ') → Env B Hx (some (.ref Dl) :: (us.map some ++ (τ ++ σ))) (some (se Z acc) :: (u.map some ++ (Δ ++ Γ))) := fun {Hx} E6 => by
          have E7 := E6.le (Γ1 := Γ) (by simp [hu, hl]) hle
          have E8 := Env.other (σ' := σ) (vs := vs) (by simp [hu, hl]) hv (fun k hk => back hk) E7
          exact Env.rot' hu (by simpa [List.append_assoc] using E8)
        refine ht σ2 H3 _ _ (by simp [hu, hl]) hσ2 E5 _ fun H4 E6 => ?_
        cases b with
        | false => exact ⟨acc, hno rfl, by omega, slot E6⟩
        | true =>
          obtain ⟨he, hI'⟩ := hyes rfl
          refine he σ2 H4 _ _ (by simp [hu, hl]) hσ2 E6 _ fun yv H5 E7 => ?_
          have ey : yv = Z.kv y := E7.view
          have E9 := slot E7.drop
          obtain ⟨v0, Hf, fp, q1, _, _, nd, a, q2, q3, q4⟩ := E9.top (i := 0) rfl
          have : V.ref Dl = v0 := by simpa using q1
          rw [← this] at q2
          cases q2
          refine ⟨y, _, _, ey, q4, ?_, addKey acc y, hI', ?_, ?_⟩
          · have : (4000 : Nat) + 1 < scanBound := by decide
            omega
          · rw [addKey_len]; split <;> omega
          · have e : (Z.so Dl (fun j => decide (j ∈ acc) || decide (j = y)) (if decide (y ∈ acc) = true then acc.length else acc.length + 1)) = Z.so Dl (fun k => decide (k ∈ addKey acc y)) (addKey acc y).length := by
              rw [addKey_len]
              congr 1
              · funext j
                by_cases h1 : j ∈ acc <;> by_cases h2 : j = y <;> simp [addKey_mem, h1, h2]
              · simp
            rw [e]
            refine Env.mut (i := 0) (e := se Z acc) (e' := se Z (addKey acc y)) E9 rfl fun Hf v fp _ _ hv' hp => ?_
            obtain ⟨nd, a, z1, z2, z3⟩ := hp
            have : V.ref Dl = v := by simpa using hv'
            rw [← this] at z1
            cases z1
            subst z2
            exact ⟨by simp, addKey_nodup nd, Dl, this.symm, rfl, upd_same⟩
    · have e : i = n := by omega
      subst e
      have E2' : Env B H' (us.map some ++ (some (.ref Dl) :: (τ ++ σ))) (u.map some ++ (some (se Z acc) :: (Δ ++ Γ))) := Env.rot hu E2
      exact .inl ⟨J1.stop _ _ i H' E2' (Nat.le_refl _), k _ _ _ ⟨acc, hI, hz, rfl⟩ (Env.dropFront (by simp [hu]) E2')⟩
end
end G

namespace L2
open PySem PySem.Spec PyProof.Rows
section
variable {X : Cx}
/-- len of a set of keys, of ints -/
def rLenK {P : Program} {w : World} {κ : Type} [DecidableEq κ] (Z : SKind P w κ) : List V → Hp → VK → Prop := fun vs H Q => ∃ (a : Addr) (S : κ → Bool) (n : Nat), vs = [.ref a] ∧ H a = some (Z.so a S n) ∧ n < 100000 ∧ Q (.int n) H
theorem cr_lenK : CallR X (.builtin "len") (rLenK (kindK X.prog X.w)) := by
  intro pins s σ H vs us Q I r h
  obtain ⟨a, S, n, rfl, ha, hn, q⟩ := h
  rw [Vals.ref1 r]
  obtain ⟨o, es, ep, t, ho, hex, hd, _, _, _, hf, hn'⟩ := setK_get I ha
  exact call_len_set ho hex hd hf (by rw [hn']; omega) ⟨.int n, H, I.tok _, ⟨_, by rw [hn']⟩, q⟩
theorem cr_lenI : CallR X (.builtin "len") (rLenK (kindI X.prog X.w)) := by
  intro pins s σ H vs us Q I r h
  obtain ⟨a, S, n, rfl, ha, hn, q⟩ := h
  rw [Vals.ref1 r]
  obtain ⟨o, es, ep, t, ho, hex, hd, _, _, _, hf, hn'⟩ := (SetR.setOf (P := X.prog) (setO_get I ha))
  exact call_len_set ho hex hd hf (by rw [hn']; omega) ⟨.int n, H, I.tok _, ⟨_, by rw [hn']⟩, q⟩
end
end L2
namespace G
open PySem L2
section
variable {P : Program} {w : World} {κ : Type} [DecidableEq κ] {Z : SKind P w κ} {K : FK}
theorem cb_lenSe {xs : List κ} (hz : xs.length < 100000) : CbS K (rLenK Z) [se Z xs] (fz (xs.length : Int)) := fun B H l L vs ek hl E Q k => by
  obtain ⟨v, rfl, E⟩ := one_arg hl E
  obtain ⟨v0, Hf, fp, q1, _, _, nd, a, q2, q3, q4⟩ := E.top (i := 0) rfl
  have : v = v0 := by simpa using q1
  subst this
  subst q2
  exact ⟨a, _, _, rfl, q4, hz, k _ _ E.drop.pushI⟩
/-- sorted of a set of ints -/
theorem cb_sortedSe {xs : List Int} {P : Program} {w : World} (hz : xs.length < 64) : CbS K (rSortedSet w) [se (kindI P w) xs] (ow (isort xs)) := fun B H l L vs ek hl E Q k => by
  obtain ⟨v, rfl, E⟩ := one_arg hl E
  obtain ⟨v0, Hf, fp, q1, _, _, nd, a, q2, q3, q4⟩ := E.top (i := 0) rfl
  have : v = v0 := by simpa using q1
  subst this
  subst q2
  refine ⟨a, _, xs.length, rfl, q4, hz, fun ns p hs hm hlen hp => ?_⟩
  have e : ns = isort xs := by
    refine srt_uniq (xs := xs) ⟨?_, hs.imp fun h => by omega⟩ (isort_srt xs)
    refine (List.perm_ext_iff_of_nodup (hs.imp fun h => by omega) nd).mpr fun k => ?_
    rw [hm]; simp
  subst e
  exact k _ _ (Env.drop1 (E.newO (o := .lst ((isort xs).map V.int)) hp fun Hf _ s kn => ⟨p, _, rfl, rfl, upd_same, Reps.of_ints _⟩))
end
end G
end

section
set_option Elab.async false
set_option linter.all false
set_option maxRecDepth 100000
set_option maxHeartbeats 1000000
/-! G10: an owned list with an invariant (a bag), lent to a call; owned things read while they stay owned -/
namespace G
open PySem L2

/-- a list of one's own with I; o: where it stands -/
def bo {α : Type} [Py α] (o : Option Addr) (I : List α → Prop) : Ent := ⟨fun K Hf H v fp => ∃ p us xs, v = .ref p ∧ fp = [p] ∧ (∀ q, o = some q → p = q) ∧ H p = some (.lst us) ∧ Reps K Hf us xs ∧ I xs, fun {K Hf Hf' H H' v fp} e k h => by
  obtain ⟨p, us, xs, h1, h2, h3, h4, h5, h6⟩ := h
  subst h2
  exact ⟨p, us, xs, h1, rfl, h3, (k p (by simp)).trans h4, h5.mono e, h6⟩⟩
/-- the list xs itself -/
abbrev bx {α : Type} [Py α] (o : Option Addr) (xs : List α) : Ent := bo o (fun l => l = xs)
/-- e is a list xs of one's own -/
def IsL {α : Type} [Py α] (e : Ent) (xs : List α) : Prop := ∀ K Hf H v fp, e.P K Hf H v fp → ∃ p us, v = .ref p ∧ fp = [p] ∧ H p = some (.lst us) ∧ Reps K Hf us xs
theorem isL_ow {α : Type} [Py α] {xs : List α} : IsL (ow xs) xs := fun _ _ _ _ _ h => h
theorem isL_bx {α : Type} [Py α] {o : Option Addr} {xs : List α} : IsL (bx o xs) xs := fun _ _ _ _ _ h => by
  obtain ⟨p, us, ys, h1, h2, _, h4, h5, rfl⟩ := h
  exact ⟨p, us, h1, h2, h4, h5⟩
/-- owned things frozen for a while -/
inductive Frz : List (Option Ent) → List (Option Ent) → Prop where
  | nil : Frz [] []
  | none {x : Option Ent} {a b : List (Option Ent)} : Frz a b → Frz (x :: a) (Option.none :: b)
  | keep {e : Ent} {a b : List (Option Ent)} : Fz e → Frz a b → Frz (some e :: a) (some e :: b)
  | lst {α : Type} [Py α] {xs : List α} {e : Ent} {a b : List (Option Ent)} : IsL e xs → Frz a b → Frz (some e :: a) (some (fz (Lst.mk xs)) :: b)
theorem Frz.len {a b : List (Option Ent)} (h : Frz a b) : a.length = b.length := by
  induction h with
  | nil => rfl
  | none _ ih => simp [ih]
  | keep _ _ ih => simp [ih]
  | lst _ _ ih => simp [ih]
theorem Frz.at {a b : List (Option Ent)} (h : Frz a b) : ∀ (i : Nat) (e' : Ent), b[i]? = some (some e') → ∃ e, a[i]? = some (some e) ∧ ∀ K Hf H v fp, Same Hf H → e.P K Hf H v fp → e'.P K H H v [] := by
  induction h with
  | nil => intro i e' q; simp at q
  | none _ ih =>
    intro i e' q
    cases i with
    | zero => simp at q
    | succ i => exact ih i e' (by simpa using q)
  | @keep e a b z _ ih =>
    intro i e' q
    cases i with
    | zero =>
      have : e = e' := by simpa using q
      subst this
      exact ⟨e, rfl, fun K Hf H v fp s hp => e.loc s (fun _ hx => absurd hx (by simp)) (z _ _ _ _ _ hp)⟩
    | succ i => exact ih i e' (by simpa using q)
  | @lst α _ xs e a b z _ ih =>
    intro i e' q
    cases i with
    | zero =>
      have : fz (Lst.mk xs) = e' := by simpa using q
      subst this
      refine ⟨e, rfl, fun K Hf H v fp s hp => ?_⟩
      obtain ⟨p, us, h1, h2, h3, h4⟩ := z _ _ _ _ _ hp
      exact ⟨rfl, p, us, h1, h3, h4.mono s⟩
    | succ i => exact ih i e' (by simpa using q)
/-- nothing frozen stands in it -/
def NoF (e : Ent) : Prop := ∀ K Hf Hf' H v fp, e.P K Hf H v fp → e.P K Hf' H v fp
theorem noF_fz {α : Type} [Py α] [Scal α] {x : α} : NoF (fz x) := fun _ _ _ _ _ _ h => ⟨h.1, Scal.any h.2⟩
theorem Reps.scal {α : Type} [Py α] [Scal α] {K K' : FK} {H H' : Hp} : ∀ {vs : List V} {xs : List α}, Reps K H vs xs → Reps K' H' vs xs
  | _, _, .nil => .nil
  | _, _, .cons a r => .cons (Scal.any a) (Reps.scal r)
theorem noF_ow {α : Type} [Py α] [Scal α] {xs : List α} : NoF (ow xs) := fun _ _ _ _ _ _ h => by
  obtain ⟨p, vs, h1, h2, h3, h4⟩ := h
  exact ⟨p, vs, h1, h2, h3, h4.scal⟩

section
variable {B : Bs} {Γ Γ' : List (Option Ent)} {D : GE} {t : TS} {te : TE} {tt : TT} {e e' ex : Ent} {i j : Nat} {S S' : Ent → Prop} {Sb : Bool → Prop} {b : Bool} {α : Type} [Py α]
theorem frz_env {H : Hp} {σ : L2.St} {τ : List (Option V)} {Δ : List (Option Ent)} (hl : τ.length = Δ.length) (hF : Frz Γ Γ') (E : Env B H (τ ++ σ) (Δ ++ Γ)) : Env ⟨B.K, H, H, []⟩ H ([] ++ σ) ([] ++ Γ') := by
  obtain ⟨Hf, F, E⟩ := E
  refine ⟨H, fun _ => [], Same.refl _, Same.refl _, fun _ _ _ h => absurd h (by simp), fun _ _ h => absurd h (by simp), fun _ _ _ h => h, fun a h1 h2 => ?_, fun i e' q => ?_⟩
  · rcases h1 with h1 | ⟨_, h1⟩
    · exact absurd h2 h1
    · simp at h1
  · obtain ⟨e, h1, h2⟩ := hF.at i e' q
    obtain ⟨v, h3, h4⟩ := E.hold (Δ.length + i) e (by rw [slot_shiftE]; exact h1)
    rw [← hl, slot_shift] at h3
    exact ⟨v, h3, h2 _ _ _ _ _ E.b1 h4⟩
theorem frz_back {H H' : Hp} {l σ' : List (Option V)} {L Γ'' : List (Option Ent)} {v : V} (E : Env B H l L) (E' : Env ⟨B.K, H, H, []⟩ H' (some v :: σ') (some e :: Γ'')) (hN : NoF e) : Env B H' (some v :: l) (some e :: L) := by
  obtain ⟨Hf, F, E⟩ := E
  obtain ⟨Hf', F', E'⟩ := E'
  have s : Same H H' := fun a o h => E'.keep a o (by simp) h
  obtain ⟨w, h1, h2⟩ := E'.hold 0 e rfl
  have ev : v = w := by simpa using h1
  subst ev
  have nw : ∀ a, a ∈ F' 0 → H a = none := fun a ha => by
    have := E'.fresh a (.inr ⟨0, ha⟩)
    cases q : H a with
    | none => rfl
    | some o =>
      have h3 := E'.b0 a o q
      rw [(E'.own 0 a ha).1] at h3
      cases h3
  refine ⟨Hf, consF (F' 0) F, E.b0, E.b1.trans s, ?_, ?_, fun a o h3 h4 => s a o (E.keep a o h3 h4), ?_, ?_⟩
  · intro i j a h3 h4
    cases i with
    | zero =>
      cases j with
      | zero => rfl
      | succ j => exact absurd (nw a h3) (E.own j a h4).2
    | succ i =>
      cases j with
      | zero => exact absurd (nw a h4) (E.own i a h3).2
      | succ j => exact congrArg _ (E.dj i j a h3 h4)
  · intro i a h3
    cases i with
    | zero =>
      refine ⟨E.b1.free (nw a h3), (E'.own 0 a h3).2⟩
    | succ i =>
      obtain ⟨q1, q2⟩ := E.own i a h3
      refine ⟨q1, ?_⟩
      cases q : H a with
      | none => exact absurd q q2
      | some o => rw [s a o q]; simp
  · intro a h3 h4
    rcases h3 with h3 | ⟨i, h3⟩
    · exact E.fresh a (.inl h3) h4
    · cases i with
      | zero =>
        have na := nw a h3
        cases q : B.Hs a with
        | none => exact .inl rfl
        | some o =>
          by_cases hb : a ∈ B.br
          · exact .inr hb
          · rw [E.keep a o hb q] at na; cases na
      | succ i => exact E.fresh a (.inr ⟨i, h3⟩) h4
  · intro i e0 q
    cases i with
    | zero =>
      have : e = e0 := by simpa using q
      subst this
      exact ⟨v, rfl, hN _ _ _ _ _ _ h2⟩
    | succ i =>
      obtain ⟨v', q1, q2⟩ := E.hold i e0 (by simpa using q)
      refine ⟨v', by simpa using q1, e0.loc (Same.refl _) (fun a ha => ?_) q2⟩
      cases z : H a with
      | none => exact absurd z (E.own i a ha).2
      | some o => exact s a o z
theorem res_peek (hF : Frz Γ Γ') (h : ∀ B' : Bs, B'.K = B.K → REs B' Γ' te S) (hS : ∀ e, S e → NoF e) : REs B Γ te S := fun σ H τ Δ hl hs E Q k =>
  h ⟨B.K, H, H, []⟩ rfl σ H [] [] rfl (by rw [hs, hF.len]) (frz_env hl hF E) Q fun ent v H' s E' => k ent v H' s (frz_back E E' (hS ent s))
theorem re_peek (hF : Frz Γ Γ') (h : ∀ B' : Bs, B'.K = B.K → RE B' Γ' te e) (hS : NoF e) : RE B Γ te e :=
  res_to (res_peek hF (fun B' hB => res_of (h B' hB)) (fun _ q => q ▸ hS)) fun _ q => q
theorem rts_peek (hF : Frz Γ Γ') (h : ∀ B' : Bs, B'.K = B.K → RTs B' Γ' tt Sb) : RTs B Γ tt Sb := fun σ H τ Δ hl hs E Q k =>
  h ⟨B.K, H, H, []⟩ rfl σ H [] [] rfl (by rw [hs, hF.len]) (frz_env hl hF E) Q fun b H' s E' =>
    k b H' s (Env.drop (frz_back (v := .bl b) (e := fz b) E (Env.pushB E') noF_fz))
theorem rt_peek (hF : Frz Γ Γ') (h : ∀ B' : Bs, B'.K = B.K → RT B' Γ' tt b) : RT B Γ tt b := fun σ H τ Δ hl hs E Q k =>
  rts_peek hF (fun B' hB => rts_of (h B' hB)) σ H τ Δ hl hs E Q fun b' H' s E' => by subst s; exact k H' E'

/-! ### slots said otherwise -/
theorem set_shift' {τ : List (Option Ent)} {x : Option Ent} (hl : n = τ.length) : (τ ++ Γ).set (n + i) x = τ ++ Γ.set i x := by subst hl; exact set_app x i Γ τ
theorem rs_freeze {xs : List α} (hx : Γ[i]? = some (some (ow xs))) (k : RS B (Γ.set i (some (fz (Lst.mk xs)))) t D) : RS B Γ t D := fun σ H τ Δ hl hs E D' C => by
  have E' := E.freezeAt (i := Δ.length + i) (xs := xs) (by rw [slot_shiftE]; exact hx)
  rw [set_shift] at E'
  exact k σ H τ Δ hl (by simp [hs]) E' D' C
theorem Env.setImp {H : Hp} {l : List (Option V)} (E : Env B H l Γ) (hx : Γ[i]? = some (some e)) (h : ∀ K Hf H v fp, e.P K Hf H v fp → e'.P K Hf H v fp) : Env B H l (Γ.set i (some e')) := by
  refine E.imp fun j e0 q => ?_
  by_cases z : j = i
  · subst z
    rw [List.getElem?_set_self (List.getElem?_eq_some_iff.mp hx).1] at q
    cases q
    exact ⟨e, hx, h⟩
  · rw [List.getElem?_set_ne (Ne.symm z)] at q
    exact ⟨e0, q, fun _ _ _ _ _ h => h⟩
theorem rs_say (hx : Γ[i]? = some (some e)) (h : ∀ K Hf H v fp, e.P K Hf H v fp → e'.P K Hf H v fp) (k : RS B (Γ.set i (some e')) t D) : RS B Γ t D := fun σ H τ Δ hl hs E D' C => by
  have E' := E.setImp (i := Δ.length + i) (e' := e') (by rw [slot_shiftE]; exact hx) h
  rw [set_shift] at E'
  exact k σ H τ Δ hl (by simp [hs]) E' D' C
theorem bo_imp {o : Option Addr} {I J : List α → Prop} (h : ∀ xs, I xs → J xs) : ∀ K Hf H v fp, (bo o I).P K Hf H v fp → (bo o J).P K Hf H v fp := fun _ _ _ _ _ q => by
  obtain ⟨p, us, xs, h1, h2, h3, h4, h5, h6⟩ := q
  exact ⟨p, us, xs, h1, h2, h3, h4, h5, h _ h6⟩
theorem ow_bo {xs : List α} {J : List α → Prop} (h : J xs) : ∀ K Hf H v fp, (ow xs).P K Hf H v fp → (bo none J).P K Hf H v fp := fun _ _ _ _ _ q => by
  obtain ⟨p, us, h1, h2, h4, h5⟩ := q
  exact ⟨p, us, xs, h1, h2, (fun _ z => nomatch z), h4, h5, h⟩
theorem Env.open {o : Option Addr} {I : List α → Prop} {H : Hp} {l : List (Option V)} (E : Env B H l Γ) (hx : Γ[i]? = some (some (bo o I))) : ∃ xs, I xs ∧ Env B H l (Γ.set i (some (bx o xs))) := by
  obtain ⟨Hf, F, E⟩ := E
  obtain ⟨v, hv, p, us, xs, h1, h2, h3, h4, h5, h6⟩ := E.hold i _ hx
  refine ⟨xs, h6, Hf, F, E.b0, E.b1, E.dj, E.own, E.keep, E.fresh, fun j e0 q => ?_⟩
  by_cases z : j = i
  · subst z
    rw [List.getElem?_set_self (List.getElem?_eq_some_iff.mp hx).1] at q
    cases q
    exact ⟨v, hv, p, us, xs, h1, h2, h3, h4, h5, rfl⟩
  · rw [List.getElem?_set_ne (Ne.symm z)] at q
    exact E.hold j e0 q
theorem rs_open {o : Option Addr} {I : List α → Prop} (hx : Γ[i]? = some (some (bo o I))) (k : ∀ xs, I xs → RS B (Γ.set i (some (bx o xs))) t D) : RS B Γ t D := fun σ H τ Δ hl hs E D' C => by
  obtain ⟨xs, hI, E'⟩ := E.open (i := Δ.length + i) (o := o) (I := I) (by rw [slot_shiftE]; exact hx)
  rw [set_shift] at E'
  exact k xs hI σ H τ Δ hl (by simp [hs]) E' D' C
/-- an owned object is changed, with what is known of all slots -/
theorem Env.mutK {H : Hp} {σ : List (Option V)} {p : Addr} {o : HO} (E : Env B H σ Γ) (hi : Γ[i]? = some (some e)) (h : ∀ Hf v fp, Same Hf H → Known B.K Hf H σ Γ → σ[i]? = some (some v) → e.P B.K Hf H v fp → p ∈ fp ∧ e'.P B.K Hf (upd H p o) v fp) : Env B (upd H p o) σ (Γ.set i (some e')) := by
  obtain ⟨Hf, F, E⟩ := E
  obtain ⟨v, hv, he⟩ := E.hold i e hi
  have kn : Known B.K Hf H σ Γ := fun k e' q => by
    obtain ⟨v', h1, h2⟩ := E.hold k e' q
    exact ⟨v', F k, h1, h2⟩
  obtain ⟨hp, he'⟩ := h Hf v (F i) E.b1 kn hv he
  have hfp := (E.own i p hp).1
  refine ⟨Hf, F, E.b0, fun a u q => by rw [upd_ne (ne_of_none q hfp)]; exact E.b1 a u q, E.dj, fun k a q => ⟨(E.own k a q).1, ?_⟩, fun a u h1 h2 => ?_, E.fresh, fun k e0 q => ?_⟩
  · by_cases z : a = p
    · rw [z, upd_same]; simp
    · rw [upd_ne z]; exact (E.own k a q).2
  · have z : a ≠ p := fun z => by
      subst z
      rcases E.fresh a (.inr ⟨i, hp⟩) (E.b0.free hfp) with q | q
      · rw [q] at h2; cases h2
      · exact h1 q
    rw [upd_ne z]; exact E.keep a u h1 h2
  · by_cases z : k = i
    · subst z
      have hk : k < Γ.length := (List.getElem?_eq_some_iff.mp hi).1
      rw [List.getElem?_set_self hk] at q
      cases q
      exact ⟨v, hv, he'⟩
    · rw [List.getElem?_set_ne (Ne.symm z)] at q
      obtain ⟨v', q1, q2⟩ := E.hold k e0 q
      refine ⟨v', q1, e0.loc (Same.refl _) (fun a ha => upd_ne (fun y => ?_)) q2⟩
      subst y
      exact z (E.dj k i a ha hp)
theorem bx_at {o : Option Addr} {xs : List α} {H : Hp} {σ : L2.St} {τ : List (Option V)} {Δ : List (Option Ent)} (hl : τ.length = Δ.length) (hx : Γ[i]? = some (some (bx o xs))) (E : Env B H (τ ++ σ) (Δ ++ Γ)) :
    ∃ p vs, σ[i]? = some (some (.ref p)) ∧ H p = some (.lst vs) ∧ Reps B.K H vs xs := by
  obtain ⟨v, Hf, fp, h1, _, s, p, vs, ys, h2, h3, _, h4, h5, rfl⟩ := E.top (i := τ.length + i) (e := bx o xs) (by rw [hl, slot_shiftE]; exact hx)
  rw [slot_shift, h2] at h1
  exact ⟨p, vs, h1, h4, h5.mono s⟩
theorem bx_mut {o : Option Addr} {xs ys : List α} {H : Hp} {σ : L2.St} {τ : List (Option V)} {Δ : List (Option Ent)} {p : Addr} {us : List V} (hl : τ.length = Δ.length) (hx : Γ[i]? = some (some (bx o xs))) (E : Env B H (τ ++ σ) (Δ ++ Γ))
    (hp : σ[i]? = some (some (.ref p))) (hr : ∀ Hf vs, Same Hf H → Known B.K Hf H (τ ++ σ) (Δ ++ Γ) → H p = some (.lst vs) → Reps B.K Hf vs xs → Reps B.K Hf us ys) : Env B (upd H p (.lst us)) (τ ++ σ) (Δ ++ Γ.set i (some (bx o ys))) := by
  have hx' : (Δ ++ Γ)[Δ.length + i]? = some (some (bx o xs)) := by rw [slot_shiftE]; exact hx
  have hp' : (τ ++ σ)[Δ.length + i]? = some (some (.ref p)) := by rw [← hl, slot_shift]; exact hp
  rw [← set_shift]
  refine E.mutK hx' fun Hf v fp s1 kn hv he => ?_
  obtain ⟨p2, us2, ys2, q4, q5, q6, q7, q8, q9⟩ := he
  rw [hp'] at hv
  cases hv
  cases q4
  subst q5; subst q9
  exact ⟨by simp, p, us, ys, rfl, rfl, q6, upd_same, hr Hf _ s1 kn q7 q8, rfl⟩
/-- xs[k] = e, xs in slot i (an open bag) -/
theorem rs_setB {o : Option Addr} {xs : List α} {x : α} {n : Int} {m : Nat} {ti : TE} (hx : Γ[i]? = some (some (bx o xs))) (h : RE B Γ te (fz x)) (hi : RE B Γ ti (fz n)) (hm : ixN xs.length n = some m) (k : D.nx (Γ.set i (some (bx o (xs.set m x))))) :
    RS B Γ (tAsg te (gSub (tVar i) ti rSetL)) D := fun σ H τ Δ hl hs E D' C => by
  refine h σ H τ Δ hl hs E _ fun v H1 E1 => ?_
  obtain ⟨p, vs, h1, h2, h3⟩ := bx_at (τ := some v :: τ) (Δ := some (fz x) :: Δ) (by simp [hl]) hx E1
  refine ⟨.ref p, h1, hi σ H1 (some v :: τ) (some (fz x) :: Δ) (by simp [hl]) hs E1 _ fun w H2 E2 => ?_⟩
  have ew : w = .int n := E2.view
  obtain ⟨p', us, q1, q2, q3⟩ := bx_at (τ := some v :: τ) (Δ := some (fz x) :: Δ) (by simp [hl]) hx E2.drop
  rw [h1] at q1
  cases q1
  refine ⟨p, us, n, m, rfl, ew, q2, by rw [q3.length]; exact hm, ?_⟩
  refine C.nx _ _ _ k (by simp [hs]) ?_
  have E3 := bx_mut (τ := some v :: τ) (Δ := some (fz x) :: Δ) (us := us.set m v) (ys := xs.set m x) (by simp [hl]) hx E2.drop h1 fun Hf ws s kn hw hr => by
    rw [q2] at hw
    cases hw
    exact hr.set (Env.know0 kn) m
  exact E3.drop

/-! ### a bag lent to a call -/
/-- the promise of a def whose first argument is a bag with I -/
def spB (K : FK) {A : Type} (I : List α → Prop) (args : A → List Ent) (pre : A → Prop) (post : A → Ent → Prop) : Sp := fun vs H Q _ => ∃ (a : A) (Hf : Hp) (p : Addr) (ws : List V) (us : List V) (xs : List α),
  pre a ∧ vs = .ref p :: ws ∧ H p = some (.lst us) ∧ Hf p = none ∧ Reps K Hf us xs ∧ I xs ∧ ws.length = (args a).length ∧ Same Hf H ∧
  (∀ (i : Nat) (e : Ent), (args a)[i]? = some e → ∃ v, ws[i]? = some v ∧ e.P K Hf H v []) ∧
  ∀ (v : V) (ent : Ent) (H' Hf' : Hp) (fp : List Addr) (us' : List V) (xs' : List α), post a ent → Same Hf Hf' → Same Hf' H' → (∀ x o, x ≠ p → H x = some o → H' x = some o) →
    H' p = some (.lst us') → Hf' p = none → p ∉ fp → Reps K Hf' us' xs' → I xs' →
    (∀ x, Hf x = none → (Hf' x ≠ none ∨ x ∈ fp) → H x = none) → (∀ x ∈ fp, Hf' x = none ∧ H' x ≠ none) → ent.P K Hf' H' v fp → Q v H'
theorem spB_len {K : FK} {A : Type} {I : List α → Prop} {args : A → List Ent} {pre : A → Prop} {post : A → Ent → Prop} {n : Nat} (hn : ∀ a, (args a).length = n) {vs : List V} {H : Hp} {Q : VK} {E : XK} (h : spB K I args pre post vs H Q E) : vs.length = n + 1 := by
  obtain ⟨a, _, p, ws, us, xs, _, rfl, _, _, _, _, e, _⟩ := h
  rw [List.length_cons, e, hn]
/-- .. kept by its body -/
theorem walkB {K : FK} {A : Type} {I : List α → Prop} {args : A → List Ent} {pre : A → Prop} {post : A → Ent → Prop} {N : List Str} {t : TS} {vs : List V} {H : Hp} {Q : VK} {E : XK} (h : spB K I args pre post vs H Q E) (hN : ∀ a, (args a).length + 1 ≤ N.length)
    (hr : ∀ (a : A) (B : Bs) (p : Addr), B.K = K → pre a → RS B (g0 N (bo (some p) I :: args a)) t { nx := fun Γ' => post a (fz ()) ∧ Γ'[0]? = some (some (bo (some p) I)), rt := fun e Γ' => post a e ∧ Γ'[0]? = some (some (bo (some p) I)) }) : t { nx := fun _ H' => Q .non H', rt := Q } (L2.start N vs) H := by
  obtain ⟨a, Hf, p, ws, us, xs, hp, rfl, hb, hbf, hbr, hI, hl, s, hv, k⟩ := h
  have hsl : (L2.start N (.ref p :: ws)).length = (g0 N (bo (some p) I :: args a)).length := by
    unfold L2.start g0
    simp [hl]
  have E0 : Env ⟨K, H, Hf, [p]⟩ H (L2.start N (.ref p :: ws)) (g0 N (bo (some p) I :: args a)) := by
    refine ⟨Hf, fun i => if i = 0 then [p] else [], Same.refl _, s, fun i j x h1 h2 => ?_, fun i x h1 => ?_, fun x o _ h2 => h2, fun x h1 h2 => ?_, fun i e q => ?_⟩
    · by_cases z : i = 0
      · by_cases y : j = 0
        · rw [z, y]
        · simp [y] at h2
      · simp [z] at h1
    · by_cases z : i = 0
      · have : x = p := by simpa [z] using h1
        subst this
        exact ⟨hbf, by rw [hb]; simp⟩
      · simp [z] at h1
    · rcases h1 with h1 | ⟨i, h1⟩
      · exact absurd h2 h1
      · by_cases z : i = 0
        · have : x = p := by simpa [z] using h1
          exact .inr (by simp [this])
        · simp [z] at h1
    · cases i with
      | zero =>
        have : bo (some p) I = e := by simpa [g0] using q
        subst this
        exact ⟨.ref p, rfl, p, us, xs, rfl, rfl, fun q z => Option.some.inj z, hb, hbr, hI⟩
      | succ i =>
        unfold g0 at q
        rw [List.map_cons, List.cons_append, List.getElem?_cons_succ] at q
        by_cases hi : i < (args a).length
        · rw [List.getElem?_append_left (by simpa using hi), List.getElem?_map] at q
          cases z : (args a)[i]? with
          | none => rw [z] at q; simp at q
          | some e' =>
            rw [z] at q
            have : e' = e := by simpa using q
            subst this
            obtain ⟨v, h1, h2⟩ := hv i e' z
            refine ⟨v, ?_, by simpa using h2⟩
            unfold L2.start
            rw [List.map_cons, List.cons_append, List.getElem?_cons_succ, List.getElem?_append_left (by simpa [hl] using hi), List.getElem?_map, h1]; rfl
        · rw [List.getElem?_append_right (by simpa using hi), List.getElem?_replicate] at q
          split at q <;> simp at q
  have fin : ∀ {v : V} {ent : Ent} {H' : Hp} {σ' : List (Option V)} {Γ' : List (Option Ent)}, post a ent → Γ'[0]? = some (some (bo (some p) I)) → Env ⟨K, H, Hf, [p]⟩ H' (some v :: σ') (some ent :: Γ') → Q v H' := fun {v ent H' σ' Γ'} po g E1 => by
    obtain ⟨Hf', F, E1⟩ := E1
    obtain ⟨w, q1, q2⟩ := E1.hold 0 ent rfl
    have ew : v = w := by simpa using q1
    subst ew
    obtain ⟨u, q3, p', us', xs', q4, q5, q6, q7, q8, q9⟩ := E1.hold 1 _ (show (some ent :: Γ')[1]? = some (some (bo (some p) I)) from g)
    have ep : p' = p := q6 p rfl
    subst ep
    have pF : p' ∈ F 1 := by rw [q5]; simp
    have h0p : p' ∉ F 0 := fun z => absurd (E1.dj 0 1 p' z pF) (by simp)
    refine k v ent H' Hf' (F 0) us' xs' po E1.b0 E1.b1 (fun x o h1 h2 => E1.keep x o (by simp [h1]) h2) q7 (E1.own 1 p' pF).1 h0p q8 q9 (fun x h1 h2 => ?_) (fun x hx => E1.own 0 x hx) q2
    have y := E1.fresh x (by
      rcases h2 with h2 | h2
      · exact .inl h2
      · exact .inr ⟨0, h2⟩) h1
    rcases y with y | y
    · exact y
    · have : x = p' := by simpa using y
      subst this
      rcases h2 with h2 | h2
      · exact absurd (E1.own 1 x pF).1 h2
      · exact absurd h2 h0p
  refine hr a ⟨K, H, Hf, [p]⟩ p rfl hp (L2.start N _) H [] [] rfl hsl E0 _ ⟨?_, ?_, ?_, ?_⟩
  · intro Γ' σ' H' h' _ E1
    exact fin h'.1 h'.2 (Env.pushN (σ := σ') (Γ := Γ') E1)
  · intro v ent Γ' σ' H' h' _ E1
    exact fin h'.1 h'.2 E1
  · intro Γ' σ' H' h'
    exact h'.elim
  · intro Γ' σ' H' h'
    exact h'.elim
theorem res_callB {A : Type} {I : List α → Prop} {args : A → List Ent} {pre : A → Prop} {post : A → Ent → Prop} {o : Option Addr} {ta : TA} {Sa : List Ent → Prop} {E : XK} (hx : Γ[i]? = some (some (bo o I))) (h : RAs B Γ ta Sa)
    (ho : ∀ es, Sa es → ∃ a : A, args a = es ∧ FzL es ∧ pre a ∧ ∀ ent, post a ent → S' ent) : REs B Γ (tCall (spB B.K I args pre post) [] E (tCons (tVar i) ta)) S' := fun σ H τ Δ hl hs E0 Q k => by
  obtain ⟨v0, Hf0, fp0, z1, _, _, p, us0, xs0, z4, z5, z6, z7, z8, z9⟩ := E0.top (i := Δ.length + i) (e := bo o I) (by rw [slot_shiftE]; exact hx)
  rw [← hl, slot_shift, z4] at z1
  refine ⟨.ref p, z1, h σ H τ Δ hl hs E0 _ fun es vs H1 s1 hv E1 => ?_⟩
  obtain ⟨a, rfl, hfz, hp, hpost⟩ := ho es s1
  show spB B.K I args pre post ((.ref p :: vs) ++ []) H1 Q _
  rw [List.append_nil]
  obtain ⟨Hf, F, E1⟩ := E1
  have kn : Known B.K Hf H1 ((vs.map some).reverseAux (τ ++ σ)) (((args a).map some).reverseAux (Δ ++ Γ)) := fun k e' q => by
    obtain ⟨v', h1, h2⟩ := E1.hold k e' q
    exact ⟨v', F k, h1, h2⟩
  have r1 : ∀ m, (((args a).map some).reverseAux (Δ ++ Γ))[vs.length + m]? = (Δ ++ Γ)[m]? := fun m => by
    have := rev_behind (vs := (args a).map some) (l := Δ ++ Γ) (i := m)
    rw [List.length_map, ← hv] at this; exact this
  have r2 : ∀ m, ((vs.map some).reverseAux (τ ++ σ))[vs.length + m]? = (τ ++ σ)[m]? := fun m => by
    have := rev_behind (vs := vs.map some) (l := τ ++ σ) (i := m)
    rw [List.length_map] at this; exact this
  obtain ⟨v1, y1, p1, us, xs, y2, y3, y4, y5, y6, y7⟩ := E1.hold (vs.length + (Δ.length + i)) (bo o I) (by rw [r1, slot_shiftE]; exact hx)
  rw [r2, ← hl, slot_shift, z1, y2] at y1
  have ep : p1 = p := by simpa using y1.symm
  subst ep
  have pF : p1 ∈ F (vs.length + (Δ.length + i)) := by rw [y3]; simp
  refine ⟨a, Hf, p1, vs, us, xs, hp, rfl, y5, (E1.own _ _ pF).1, y6, y7, hv, E1.b1, fun i e q => ?_, fun v ent H' Hf' fp us' xs' po s1 s2 s3 hb hbf hpfp hbr hI fr ow q => ?_⟩
  · obtain ⟨v, fp, h1, h2⟩ := Known.arg hv kn q
    exact ⟨v, h1, hfz.at q _ _ _ _ _ h2⟩
  · refine k ent v H' (hpost ent po) ?_
    have ne : ∀ {m x}, m ≠ vs.length + (Δ.length + i) → x ∈ F m → x ≠ p1 := fun {m x} h1 h2 h3 => h1 (E1.dj _ _ p1 (h3 ▸ h2) pF)
    have nn : ∀ {m x}, x ∈ F m → H' x ≠ none := fun {m x} h2 => by
      by_cases z : x = p1
      · rw [z, hb]; simp
      · cases y : H1 x with
        | none => exact absurd y (E1.own _ _ h2).2
        | some o => rw [s3 x o z y]; simp
    have ap : ∀ m x, x ∈ fp → x ∈ F m → False := fun m x h1 h2 => by
      obtain ⟨y1, y2⟩ := E1.own m x h2
      exact y2 (fr x y1 (.inr h1))
    refine ⟨Hf', fun m => match m with | 0 => fp | m + 1 => F (vs.length + m), E1.b0.trans s1, s2, ?_, ?_, fun x o h1 h2 => ?_, ?_, ?_⟩
    · intro m m' x h1 h2
      cases m with
      | zero =>
        cases m' with
        | zero => rfl
        | succ m' => exact (ap _ x h1 h2).elim
      | succ m =>
        cases m' with
        | zero => exact (ap _ x h2 h1).elim
        | succ m' => have := E1.dj _ _ x h1 h2; omega
    · intro m x h1
      cases m with
      | zero => exact ow x h1
      | succ m =>
        obtain ⟨y1, y2⟩ := E1.own _ x h1
        refine ⟨?_, nn h1⟩
        by_cases z : x = p1
        · rw [z]; exact hbf
        · cases z : Hf' x with
          | none => rfl
          | some o => exact absurd (fr x y1 (.inl (by rw [z]; simp))) y2
    · have hxp : x ≠ p1 := fun z => by
        subst z
        have e1 := E1.keep x o h1 h2
        rcases E1.fresh x (.inr ⟨_, pF⟩) (E1.b0.free (E1.own _ _ pF).1) with q | q
        · rw [q] at h2; cases h2
        · exact h1 q
      exact s3 x o hxp (E1.keep x o h1 h2)
    · intro x h1 h2
      by_cases z : Hf x = none
      · have hx : H1 x = none ∨ (∃ m, x ∈ F m) := by
          rcases h1 with h1 | ⟨m, h1⟩
          · exact .inl (fr x z (.inl h1))
          · cases m with
            | zero => exact .inl (fr x z (.inr h1))
            | succ m => exact .inr ⟨_, h1⟩
        rcases hx with hx | hx
        · cases y : B.Hs x with
          | none => exact .inl rfl
          | some o =>
            by_cases hb : x ∈ B.br
            · exact .inr hb
            · have := E1.keep x o hb y
              rw [hx] at this; cases this
        · exact E1.fresh x (.inr hx) h2
      · exact E1.fresh x (.inl z) h2
    · intro m e0 q0
      cases m with
      | zero =>
        have : ent = e0 := by simpa using q0
        subst this
        exact ⟨v, rfl, q⟩
      | succ m =>
        have q0 : (Δ ++ Γ)[m]? = some (some e0) := by simpa using q0
        by_cases hm : m = Δ.length + i
        · subst hm
          rw [slot_shiftE, hx] at q0
          cases q0
          refine ⟨.ref p1, ?_, p1, us', xs', rfl, y3, y4, hb, hbr, hI⟩
          show (τ ++ σ)[Δ.length + i]? = _
          rw [← hl, slot_shift]
          exact z1
        · obtain ⟨v', y1, y2⟩ := E1.hold (vs.length + m) e0 (by rw [r1]; exact q0)
          refine ⟨v', by rw [r2] at y1; simpa using y1, e0.loc s1 (fun x hx => ?_) y2⟩
          cases z : H1 x with
          | none => exact absurd z (E1.own _ x hx).2
          | some o => exact s3 x o (ne (by omega) hx) z
end
end G
end

section
set_option Elab.async false
set_option linter.all false
set_option maxRecDepth 100000
set_option maxHeartbeats 1000000
/-! X3: a def __init__ of an own exception class over an own base over ValueError: super().__init__(e), then fields. -/
namespace L2
open PySem PySem.Spec PyProof.Rows
open PySem.W (ksEnv ksFn kxs_mw)

/-- the context of such an __init__'s body -/
def cxS (CX : CXT) (P : Program) (w : World) (K : PySem.W.Frag) (mg : Str → Option Value) (base : Heap) (N : List Str) (qual : Str) (scope : Scope) (f : Addr) (cd : Value) (cc : Addr) (A : Around) (outer : List Env) (s : Shared) (H : Hp) (E : XK) : Cx where
  prog := P
  w := w
  K := K
  mg := mg
  base := base
  A := A.deeper (ksEnv qual scope s.heap.objs.size f cd cc)
  N := N
  s_0 := s
  H_0 := H
  env := ksEnv qual scope s.heap.objs.size f cd cc
  outer := outer
  stack := ksEnv qual scope s.heap.objs.size f cd cc :: outer
  ex := []
  calm := true
  fn := fun _ => false
  pn := []
  xe := fun e s' => wpAny (model P w) (A.deeper (ksEnv qual scope s.heap.objs.size f cd cc)) (leaving (ksEnv qual scope s.heap.objs.size f cd cc) e) (fun _ s'' => CX outer H s E e s'') (fun e' s'' => CX outer H s E e' s'') s'

structure FnScS (N P : List Str) (sc : Scope) : Prop where
  kind : sc.kind = .function
  co : sc.isCoroutine = false
  gen : sc.isGenerator = false
  nd : N.Nodup
  pre : N.take P.length = P
  par : ∀ x ∈ P, sc.names.lookup x = some .local
  nocell : ∀ y ∈ sc.names, y.2 ≠ .cell
  free : ∀ y ∈ sc.names, y.2 = .free → y.1 = "__class__"

theorem lk_zip {x : Str} {v : Value} : ∀ {P : List Str} {vs : List Value} {i : Nat}, P.Nodup → P[i]? = some x → vs[i]? = some v → (P.zip vs).reverse.lookup x = some v := by
  intro P vs i nd h1 h2
  have hm : (x, v) ∈ (P.zip vs).reverse := by
    rw [List.mem_reverse]
    refine List.mem_of_getElem? (i := i) ?_
    rw [List.getElem?_zip_eq_some]
    exact ⟨h1, h2⟩
  have uniq : ∀ v', (x, v') ∈ (P.zip vs).reverse → v' = v := by
    intro v' hv'
    rw [List.mem_reverse] at hv'
    obtain ⟨j, hj⟩ := List.getElem?_of_mem hv'
    rw [List.getElem?_zip_eq_some] at hj
    have : i = j := nodup_ix nd h1 hj.1
    subst this
    have := hj.2
    simp only at this
    rw [h2] at this
    exact (Option.some.inj this).symm
  generalize (P.zip vs).reverse = l at hm uniq
  induction l with
  | nil => simp at hm
  | cons p l ih =>
    obtain ⟨y, u⟩ := p
    by_cases e : x = y
    · subst e
      rw [List.lookup_cons, beq_self_eq_true]
      exact congrArg some (uniq u List.mem_cons_self)
    · have e' : (x == y) = false := by simpa using e
      rw [List.lookup_cons, e']
      refine ih ?_ fun v' hv' => uniq v' (List.mem_cons_of_mem _ hv')
      rcases List.mem_cons.mp hm with z | z
      · cases z; exact absurd rfl e
      · exact z

theorem inv_startS {CX : CXT} {P : Program} {w : World} {K : PySem.W.Frag} {mg : Str → Option Value} {base : Heap} {N ps : List Str} {qual : Str} {scope : Scope} {f cc : Addr} {cd : Value} {A : Around} {outer : List Env} {s : Shared} {H : Hp} {E : XK} {us : List Value} {vs : List V} {h1 : Heap} {tk : Nat}
    {ocl : Value} {ocd : Option Addr} {ocs : Array (Option Value)} {ov : Option Value}
    (S : FnScS N ps scope) (hd : A.handled = none) (e0 : Env0 P w K mg base A outer s H) (hl : vs.length = ps.length) (r : Vals vs us) (hcc : K.lookup cc = some ⟨ocl, ocd, .cell ov, ocs⟩)
    (hns : h1.Ns s.heap.objs.size (fun x => (ps.zip us).reverse.lookup x)) (hk : ∀ b o, s.heap.get? b = some o → h1.get? b = some o) :
    Inv (cxS CX P w K mg base N qual scope f cd cc A outer s H E) [] (start N vs) H { s with heap := h1, toks := tk } := by
  have hpl : ps.length ≤ N.length := by have := congrArg List.length S.pre; rw [List.length_take] at this; omega
  have hlk : ∀ {x c}, ([("__class__", cc)] : List (Str × Addr)).lookup x = some c → x = "__class__" ∧ c = cc := fun {x c} h => by
    rw [List.lookup_cons] at h
    by_cases e : (x == ("__class__" : Str)) = true
    · rw [e] at h
      exact ⟨beq_iff_eq.mp e, (Option.some.inj h).symm⟩
    · rw [Bool.not_eq_true] at e
      rw [e] at h
      simp at h
  have hcb : base.get? cc = some ⟨ocl, ocd, .cell ov, ocs⟩ := e0.mod.kin _ _ hcc
  have hcs := e0.bs cc _ hcb
  have noA : ∀ b : Addr, b ∉ (cxS CX P w K mg base N qual scope f cd cc A outer s H E).ex := fun b z => absurd (show b ∈ ([] : List Addr) from z) (by simp)
  refine ⟨⟨e0.mod, S.kind, rfl, rfl, Nat.le_refl _, fun y z c h1 h2 => ?_, fun y hy => ?_, fun y c hy h => ?_, fun _ => hd, Around.frames_deeper e0.frames, .inr ⟨rfl, rfl⟩, fun b z => absurd z (noA b), e0.bs, e0.bsz, fun b _ _ => noA b, fun b z => absurd z (noA b), e0.funs, e0.frf⟩,
    rfl, e0.bare, Un.kept hk, ⟨_, hns, fun i y v h1 h2 h3 => ?_⟩, fun y c h => ?_, e0.hok.fresh (Nat.le_refl _), fun y c h => ?_, fun p hp => absurd (show p ∈ ([] : List (Addr × Obj)) from hp) (by simp), e0.hok.kept hk, ?_⟩
  · rw [(hlk h1).1, (hlk h2).1]
  · have hy : scope.names.lookup y = some .cell ∨ scope.names.lookup y = some .free := hy
    rcases hy with hy | hy
    · exact absurd rfl (S.nocell _ (PySem.mem_of_lookup hy))
    · have : y = "__class__" := S.free _ (PySem.mem_of_lookup hy) rfl
      subst this
      exact ⟨cc, rfl⟩
  · exact absurd hy (by show ¬ (false = true); simp)
  · have hi : i < vs.length := by
      unfold start at h2
      by_cases hi : i < vs.length
      · exact hi
      · rw [List.getElem?_append_right (by simpa using hi)] at h2
        rw [List.getElem?_replicate] at h2
        split at h2 <;> cases h2
    have ha : vs[i]? = some v := by
      unfold start at h2
      rw [List.getElem?_append_left (by simpa using hi), List.getElem?_map] at h2
      cases e : vs[i]? with
      | none => rw [e] at h2; cases h2
      | some a => rw [e] at h2; cases h2; rfl
    obtain ⟨u, hu, rv⟩ := r.get ha
    have hp : ps[i]? = some y := by
      rw [← S.pre, List.getElem?_take_of_lt (by omega)]; exact h1
    have ndP : ps.Nodup := by rw [← S.pre]; exact S.nd.sublist (List.take_sublist _ _)
    exact ⟨u, rv, .inl ⟨S.par y (List.mem_of_getElem? hp), lk_zip ndP hp hu⟩⟩
  · obtain ⟨_, rfl⟩ := hlk h
    exact ⟨ov, _, hk _ _ hcs.1, rfl⟩
  · obtain ⟨_, rfl⟩ := hlk h
    exact hcs.2
  · unfold start
    show _ = N.length
    rw [List.length_append, List.length_map, List.length_replicate]
    omega

/-- what the written part says of such a class: its __init__ is f, its cell cc, its code record cda -/
structure SupC (P : Program) (K : PySem.W.Frag) (C cc cda : Addr) : Prop where
  ex : OexC K C
  cell : ∃ cl cld csl, K.lookup cc = some ⟨cl, cld, .cell (some (.ref C)), csl⟩
  code : ∃ ccl cdd vs ccs file tf, K.lookup cda = some ⟨ccl, cdd, .fields vs, ccs⟩ ∧ vs[2]? = some (.str file tf) ∧ ((P.main.file : Str) == file) = true
  sup : PySem.W.ks_superIn K C C "__init__" = some (some (.builtin "ValueError.__init__"))
  ve : PySem.W.subIn K (.ref C) (.type "ValueError") = some true
  self : PySem.W.mroIn K C (.ref C) = some true
  any3 : PySem.W.nsIn K cStatics "thirdparty.any" = some none
  top : (P.main.scope.names.lookup ("super" : Str)).isSome = false

section
variable {CX : CXT} {P : Program} {w : World} {K : PySem.W.Frag} {mg : Str → Option Value} {base : Heap} {k : Nat} {f C cc cda : Addr} {name qual : Str} {params : Arguments} {body : List Stmt} {scope : Scope} {dV kV doc pm ct oc : Value} {an od : Option Addr}
    {osl : Array (Option Value)} {N ps : List Str} {sp : Sp} {e : Expr} {p0 p1 p2 p3 p4 : Pos} {ar : Arg}

/-- THE RULE -/
theorem fn_super (U : SupC P K C cc cda) (lk : K.lookup f = some ⟨oc, od, .func (ksFn name qual params (.Expr (.Call (.Attribute (.Call (.Name "super" p0) [] [] p1) "__init__" p2) [e] [] p3) p4 :: body) scope dV kV doc pm an (.ref cda) ct cc), osl⟩)
    (hcd : PySem.W.codeIn K (.ref cda) qual = true) (S : FnScS N ps scope) (hms : mg "super" = none)
    (har : (params.posonlyargs ++ params.args).head? = some ar) (hN0 : N[0]? = some ar.arg)
    (hks : scope.names.lookup ("super" : Str) = some .globalImplicit) (hkc : scope.names.lookup ("__class__" : Str) = some .free) (hka : scope.names.lookup ar.arg = some .local)
    (len : ∀ vs H Q E, sp vs H Q E → vs.length = ps.length)
    (hbody : ∀ (A : Around) (outer : List Env) (s : Shared) (H : Hp) (vs : List V) (Q : VK) (E : XK), Room k (A.deeper (ksEnv qual scope s.heap.objs.size f (.ref cda) cc)) → sp vs H Q E →
      ∃ a ws t1 t2, vs = V.ref a :: ws ∧ H a = some (exo a C none) ∧ PA (cxS CX P w K mg base N qual scope f (.ref cda) cc A outer s H E) [e] t1 ∧ PSs (cxS CX P w K mg base N qual scope f (.ref cda) cc A outer s H E) body t2 ∧
        t1 (start N vs) H fun zs H1 => zs.length ≤ 1000 ∧ H1 a = some (exo a C none) ∧ t2 { nx := fun _ H' => Q .non H', rt := Q } (start N vs) H1)
    (hsw : ∀ env : Env, swapsWith (.Call (.Attribute (.Call (.Name "super" p0) [] [] p1) "__init__" p2) [e] [] p3) none p4.line env = pure false := by intro _; rfl)
    (hev : ∀ env : Env, ∃ pl : Sem Bool, eval (.Call (.Attribute (.Call (.Name "super" p0) [] [] p1) "__init__" p2) [e] [] p3) env = (do
      let ov ← attributeBase (.Call (.Name "super" p0) [] [] p1) "__init__" env (eval (.Call (.Name "super" p0) [] [] p1) env)
      standAt p2.atName
      let (f, first) ← holding [ov] (getMethod ov "__init__" pl)
      callWith p3 f first (backTo p3 (starEach [e] env)) []) := by intro _; exact ⟨_, rfl⟩)
    (hse : ∀ env : Env, starEach [e] env = [(false, eval e env)] := by intro _; rfl) :
    FnOk P w K mg base CX (k + 1) f (ksFn name qual params (.Expr (.Call (.Attribute (.Call (.Name "super" p0) [] [] p1) "__init__" p2) [e] [] p3) p4 :: body) scope dV kV doc pm an (.ref cda) ct cc) ps sp := by
  refine ⟨len, fun A outer s H args us vs Q E hr e0 hb r hsp => ?_⟩
  have hl := len _ _ _ _ hsp
  have KX : K.In s.heap := e0.mod.kin.keeps fun b o e => (e0.bs b o e).1
  have lim : s.heap.NoLimit := e0.mod.nolimit.keeps fun b o e => (e0.bs b o e).1
  obtain ⟨cl, cld, csl, hcc⟩ := U.cell
  obtain ⟨ccl, cdd, rv, ccs, file, tf, hco, hfi, hfe⟩ := U.code
  obtain ⟨nm, q, NN, bs, bm, sn, sub, ab, col, dd, k0, k1, k2, k3, k5, hC, hbm⟩ := U.ex.cls
  have hcl : PySem.W.clsIn K C = some { name := nm, bases := bs, mro := .ref C :: bm, ns := NN, qualname := q, hasDict := true, slotNames := sn, subclasses := sub, abstract := ab, collection := col, hasDel := false } := by unfold PySem.W.clsIn; rw [hC] <;> rfl
  have hloc : ∀ x ∈ ps.zip us, scope.names.lookup x.1 = some .local := fun x hx => S.par x.1 (List.of_mem_zip (a := x.1) (b := x.2) hx).1
  refine ks_codeAny_call_defAt (fd := ksFn name qual params _ scope dV kV doc pm an (.ref cda) ct cc) hr.depth (KX _ _ lk) rfl lim (PySem.W.codeRec_of KX hcd) rfl (fun _ _ _ _ h => hb _ _ _ _ h) S.nocell hloc (fun h₁ hns hk => ?_) S.co S.gen S.kind
  obtain ⟨a, ws, t1, t2, ev, ea, ht1, ht2, hq⟩ := hbody A outer s H vs Q E (hr.deeper _) hsp
  have I : Inv (cxS CX P w K mg base N qual scope f (.ref cda) cc A outer s H E) [] (start N vs) H { s with heap := h₁, toks := s.toks + (ps.zip us).length } := inv_startS S hr.hd e0 hl r hcc hns hk
  obtain ⟨t0, hoe⟩ := exo_at I.hok ea
  obtain ⟨pl, hev⟩ := hev (ksEnv qual scope s.heap.objs.size f (.ref cda) cc)
  have sub : PySem.W.Looks (model P w) h₁ (isInstance (.ref a) (.type "ValueError")) true := by
    have Ii : PySem.W.InstAt h₁ a { cls := .ref C, dict := none, data := .fields #[.ref t0, .none, .none, .none, .bool false, .none] } C none := ⟨hoe, rfl, rfl, trivial⟩
    exact Ii.type.andThen (PySem.W.looks_subIn I.kIn U.ve)
  have hne : a ≠ C := fun z => by
    have := I.kIn _ _ hC
    rw [← z, hoe] at this
    cases this
  have hint : interactive (ksEnv qual scope s.heap.objs.size f (.ref cda) cc) = false := by
    unfold interactive
    simp [S.kind]
  show PySem.wpAt (model P w) (A.deeper (ksEnv qual scope s.heap.objs.size f (.ref cda) cc)) _ (execs _ (ksEnv qual scope s.heap.objs.size f (.ref cda) cc)) _ _ _
  refine ks_wpAt_execs_cons (ks_wpAt_Expr_any (ks_wpAt_MethodCall (pl := pl) ?_ hev) hint (hsw _))
  refine ks_wpAt_super_base (env := ksEnv qual scope s.heap.objs.size f (.ref cda) cc) hks hkc (by decide) rfl (I.kIn _ _ lk) rfl har rfl (I.kIn _ _ hco) rfl hfi hfe U.top ?_
  obtain ⟨mb, hmb1, hmb2⟩ := I.mod.blt
  refine PySem.W.ks_loadName_global S.kind hks (PySem.Calls.loadGlobal_builtin (env := ksEnv qual scope s.heap.objs.size f (.ref cda) cc) (I.mod.glob.keeps I.bk) hms (hmb1.keeps I.bk) ((hmb2 _ (by decide)).trans (show bootBuiltins "super" = some (.type "super") by decide +kernel)) ⟨rfl, ?_⟩)
  refine wpAny_loadName_free S.kind hkc rfl ⟨_, I.kIn _ _ hcc, rfl⟩ ?_
  have hloadself : ∀ {Q : Value → Shared → Prop} {E : Value → Shared → Prop}, Q (.ref a) { s with heap := h₁, toks := s.toks + (ps.zip us).length } → wpAny (model P w) (A.deeper (ksEnv qual scope s.heap.objs.size f (.ref cda) cc)) (loadName (ksEnv qual scope s.heap.objs.size f (.ref cda) cc) ar.arg) Q E { s with heap := h₁, toks := s.toks + (ps.zip us).length } := by
    intro Q E h
    obtain ⟨m, hn, hl'⟩ := I.loc
    obtain ⟨u, ru, l⟩ := hl' 0 ar.arg (.ref a) hN0 (by subst ev; rfl) (.inl hka)
    obtain rfl : u = Value.ref a := ru
    rcases l with ⟨_, hm⟩ | ⟨kk, _⟩
    · exact wpAny_loadName_local S.kind hka hn hm h
    · have kk : scope.names.lookup ar.arg = some .cell ∨ scope.names.lookup ar.arg = some .free := kk
      rw [hka] at kk
      rcases kk with kk | kk <;> cases kk
  refine hloadself ?_
  refine ks_wpAny_isType_cls (I.kIn _ _ hC) rfl ⟨rfl, ?_⟩
  refine ks_wpAny_call_super (I.kIn _ _ hC) rfl hoe rfl (fun c e => by cases e) (PySem.W.looks_mroIn I.kIn U.self) (fun h' e' k' => ?_)
  have hsup := U.sup
  unfold PySem.W.ks_superIn at hsup
  rw [hcl] at hsup
  have kX : K.In h' := I.kIn.keeps k'
  refine PySem.W.kxs_getMethod PySem.W.kxs_ValueError e' (PySem.W.looks_opaque kX U.any3) (l₀ := .ref C :: bm) ((PySem.W.looks_clsIn kX hcl).andThen .now) rfl kX hsup (sub.keeps k') hne (by decide) ?_
  have hsz := Heap.lt_size e'
  have k'' : ∀ b o, h₁.get? b = some o → (h'.push (kxs_mw "ValueError.__init__" a)).get? b = some o := fun b o z => Heap.get?_push_of_some _ (k' b o z)
  have hmw : (h'.push (kxs_mw "ValueError.__init__" a)).get? h'.objs.size = some (kxs_mw "ValueError.__init__" a) := Heap.get?_push_at rfl rfl
  have hge : h₁.objs.size ≤ h'.objs.size := Nat.le_of_lt hsz
  have I2 : Inv (cxS CX P w K mg base N qual scope f (.ref cda) cc A outer s H E) [(h'.objs.size, kxs_mw "ValueError.__init__" a)] (start N vs) H { s with heap := h'.push (kxs_mw "ValueError.__init__" a), toks := s.toks + (ps.zip us).length + 1 } := by
    have J := I.un (h' := h'.push (kxs_mw "ValueError.__init__" a)) (t' := s.toks + (ps.zip us).length + 1) (Un.kept k'') (I.hok.kept k'')
    refine J.pins_of fun p hp => ?_
    obtain rfl : p = (h'.objs.size, kxs_mw "ValueError.__init__" a) := by simpa using hp
    refine ⟨hmw, I.hok.fresh hge, ?_, I.nofs hge, fun v z => by cases z⟩
    exact Ne.symm (Nat.ne_of_lt (Nat.lt_of_lt_of_le I.lt hge))
  show wpAny _ _ (callWith p3 (.ref h'.objs.size) [] (backTo p3 (starEach [e] (ksEnv qual scope s.heap.objs.size f (.ref cda) cc))) []) _ _ _
  rw [hse]
  refine PySem.W.kxs_callWith (i := "ValueError.__init__") (x := a) rfl (PySem.Calls.evalArgs_plain ?_)
  have hrun := ht1.run p3 _ _ _ _ _ I2 hq
  rw [show starEach [e] (cxS CX P w K mg base N qual scope f (.ref cda) cc A outer s H E).env = [(false, eval e (ksEnv qual scope s.heap.objs.size f (.ref cda) cc))] from hse _] at hrun
  refine thn hrun fun zs s2 hz => ?_
  obtain ⟨xs, H1, I3, rz, hxl, ea1, q2⟩ := hz
  have hmw2 : s2.heap.get? h'.objs.size = some (kxs_mw "ValueError.__init__" a) := (I3.pin (h'.objs.size, kxs_mw "ValueError.__init__" a) (List.mem_append_right _ List.mem_cons_self)).1
  refine ⟨hmw2, ?_⟩
  obtain ⟨t3, hoe3⟩ := exo_at I3.hok ea1
  obtain ⟨hp, g, d, tk, os⟩ := s2
  have hzl : zs.length ≤ sizeLine := by
    rw [← Paired.length rz, sizeLine_eq]
    omega
  have hu : hp.get? h'.objs.size = some (kxs_mw "ValueError.__init__" a) := hmw2
  refine wpAny_call (codeAny_of_tree ?_)
  show wpAny _ _ (callAny (.ref h'.objs.size) ⟨[] ++ zs, []⟩) _ _ _
  simp only [callAny, List.nil_append]
  refine wpAny_bind (wpAny_load hu ?_)
  simp only [kxs_mw, show (Value.type "method-wrapper" == Value.type "method" || Value.type "method-wrapper" == Value.type "builtin_function_or_method" || Value.type "method-wrapper" == Value.type "method-wrapper") = true by decide, if_true]
  refine PySem.W.KFB.if_so (by decide) ?_
  refine wpAny_bind (PySem.W.check_bound_init F.excBase_ValueError.toExcCallFacts (I3.kIn _ _ hC) hoe3 rfl ?_)
  refine wpAny_bind (wpAny_pure (wpAny_pure ?_))
  refine ⟨plainId_quiet F.excBase_ValueError.init.plain _, codeAny_builtin F.excBase_ValueError.initEntry ?_⟩
  refine PySem.W.exc_init_tree (cls := .ref C) (t0 := t3) (dv := none) (c2 := .none) (c3 := .none) (b4 := .bool false) hoe3 hzl fun h4 k4 e4 _ => ?_
  have J4 := (I3.pins_of (pins' := []) (fun p hp => absurd hp (by simp))).write (t' := tk) (x := a) (e := a) (o := exo a C none) (by rw [ea1]; exact True.intro) (.inl rfl) k4 ⟨_, e4⟩ (exo_ok e4)
  have eu : upd H1 a (exo a C none) = H1 := by
    funext b
    by_cases hb : b = a
    · rw [hb, upd_same, ea1]
    · rw [upd_ne hb]
  rw [eu] at J4
  refine PySem.wpAt_of_wpAny ?_
  refine wpAny_mono (ht2.run [] _ (start N vs) H1 _ J4 q2) (fun fl s' hs => ?_) fun e s' hs => hs
  have fin : ∀ {σ' : St} {H' : Hp} {v : V} {u : Value}, Inv (cxS CX P w K mg base N qual scope f (.ref cda) cc A outer s H E) [] σ' H' s' → RelV v u → Q v H' → CE outer P w H s Q u s' :=
    fun {σ' H' v u} J rv q => ⟨v, H', J.os, J.bare, J.base, J.hok, rv, q⟩
  cases fl with
  | ret u =>
    obtain ⟨v, σ', H', J, rv, q⟩ := hs
    exact fin J rv q
  | next =>
    obtain ⟨σ', H', J, q⟩ := hs
    exact fin (v := V.non) (u := Value.none) J rfl q
  | brk =>
    obtain ⟨_, _, _, q⟩ := hs
    exact False.elim q
  | cont =>
    obtain ⟨_, _, _, q⟩ := hs
    exact False.elim q
end
end L2
end

section
set_option Elab.async false
set_option linter.all false
set_option maxRecDepth 100000
set_option maxHeartbeats 1000000
/-! X4: several except clauses, some with a name -/
namespace L2
open PySem PySem.Spec PyProof.Rows
abbrev ClT := Option Nat × Value × (Addr → Value → Option Addr → TS)
/-- what the clauses wish of an exception of the body, one after the other; slot: the clause's name, if it has one -/
def wMix (K : PySem.W.Frag) (Wout : WX) (D : Ends) : List ClT → WX
  | [] => Wout
  | (none, c, ts) :: r => fun cls d σ H => ∃ b, PySem.W.exmOne K cls c = some b ∧ (b = true → ∀ a, H a = none → ts a cls d D σ H) ∧ (b = false → wMix K Wout D r cls d σ H)
  | (some i, c, ts) :: r => fun cls d σ H => ∃ b, PySem.W.exmOne K cls c = some b ∧
      (b = true → ∀ a, H a = none → ts a cls d { nx := fun σ' H' => D.nx (σ'.set i none) H', rt := D.rt, bk := fun σ' H' => D.bk (σ'.set i none) H', ct := fun σ' H' => D.ct (σ'.set i none) H' } (σ.set i (some (.ref a))) H) ∧
      (b = false → wMix K Wout D r cls d σ H)
inductive HdsMix (X : Cx) : List ExceptHandler → List ClT → Prop
  | nil : HdsMix X [] []
  | no {x : Str} {c : Value} {ts : Addr → Value → Option Addr → TS} {b₀ : Stmt} {suite : List Stmt} {np pos' : Pos} {hds : List ExceptHandler} {l : List ClT} (hc : Names X x c)
      (hsu : ∀ (a : Addr) (oe : Obj) (cls : Value) (d : Option Addr) (pn : List (Addr × Obj)), Zc cls d oe → (∃ vs, oe.data = .fields vs) → PSs (X.suite a ((a, oe) :: pn)) (b₀ :: suite) (ts a cls d)) (r : HdsMix X hds l) :
      HdsMix X (.ExceptHandler (some (.Name x np)) none (b₀ :: suite) pos' :: hds) ((none, c, ts) :: l)
  | as {x n : Str} {i : Nat} {c : Value} {ts : Addr → Value → Option Addr → TS} {b₀ : Stmt} {suite : List Stmt} {np pos' : Pos} {hds : List ExceptHandler} {l : List ClT} (hN : X.N.Nodup) (hi : X.N[i]? = some n) (hln : X.env.kindOf n = some .local) (hc : Names X x c)
      (hsu : ∀ (a : Addr) (oe : Obj) (cls : Value) (d : Option Addr) (pn : List (Addr × Obj)), Zc cls d oe → (∃ vs, oe.data = .fields vs) → PSs (X.suite a ((a, oe) :: pn)) (b₀ :: suite) (ts a cls d)) (r : HdsMix X hds l) :
      HdsMix X (.ExceptHandler (some (.Name x np)) (some n) (b₀ :: suite) pos' :: hds) ((some i, c, ts) :: l)
section
variable {X : Cx} {body : List Stmt} {h₀ : ExceptHandler} {hds : List ExceptHandler} {l : List ClT} {pos : Pos} {tb : WX → TS} {Wout : WX}
theorem ps_try_mix (hs : X.stack = X.env :: X.outer) (hf : X.env.frame = some X.env.locals) (tk : Takes X Wout)
    (hb : ∀ (W : WX) (pn : List (Addr × Obj)) (xe : Value → Shared → Prop), Takes (X.tr pn xe) W → PassesOwn (model X.prog X.w) X.A X.env xe → PSs (X.tr pn xe) body (tb W))
    (hh : HdsMix X (h₀ :: hds) l) : PS X (.Try body (h₀ :: hds) [] [] pos) (fun D σ H => tb (wMix X.K Wout D l) D σ H) := by
  refine ⟨fun pins s σ H D I h => ?_⟩
  have ok := I.ok
  have hfr : X.A.frames = some (X.env :: X.outer) := by rw [ok.frames, hs]
  refine wpAny_Try_except ?_
  refine wpAny_mono ((hb (wMix X.K Wout D l) (X.pn ++ pins) (fun e s₁ => wpAny (model X.prog X.w) X.A (noteFrame e X.env) (fun _ s₂ => wpAny (model X.prog X.w) X.A (setFlight e none) (fun _ s₃ =>
    wpAny (model X.prog X.w) X.A (handleBy e X.env (h₀ :: hds)) (SP X pins D) X.xe s₃) X.xe s₂) X.xe s₁) (fun u s' xx => ?_) PassesOwn.looking).run [] s σ H D (I.toTry _) h) (fun f s1 hsp => ?_) (fun e s1 he => he)
  · -- the catch
    obtain ⟨a, B, sI, pins', σ', H', cls, d, rfl, J', nb, up, sky, na, os, ag, w⟩ := xx
    have J : Inv X pins σ' H' sI := J'.ofTry ok
    have sky' : Sky B (X.env :: X.outer) a (Zc cls d) X.env.locals s'.heap := by rw [← hs]; exact sky
    show wpAny (model X.prog X.w) X.A (noteFrame (.ref a) X.env) _ _ _
    refine Sky.land Zc.steady hfr hf sky' fun h3 fl3 up3 => ?_
    have J3 : Inv X pins σ' H' { s' with heap := h3 } := J.landed nb fl3.1 (up.trans up3) os ag
    obtain ⟨oe3, vs3, he3, hz3, hd3⟩ := fl3.there
    have notFr : ∀ {h : Heap} {o : Obj} {vs : Array Value}, h.FunFrames B (X.env :: X.outer) → h.get? a = some o → o.data = .fields vs → a ∉ frs (X.env :: X.outer) := fun {h o vs} ff e dd hm => by
      obtain ⟨_, o', e', hnf⟩ := ff.mem hm
      rw [e] at e'; cases e'
      exact hnf _ dd
    have nfr := notFr fl3.2.2.1 he3 hd3
    have nL : a ≠ X.env.locals := fun z => nfr (List.mem_filterMap.mpr ⟨X.env, List.mem_cons_self, by rw [hf, z]⟩)
    have nF : a ∉ X.fs := fun hm => by
      obtain ⟨e, he, q⟩ := List.mem_filterMap.mp hm
      exact nfr (List.mem_filterMap.mpr ⟨e, List.mem_cons_of_mem _ he, q⟩)
    have S3 := J3.suite he3 hd3 na nL nF
    have LT : PySem.W.Looks (model X.prog X.w) h3 (typeOf (.ref a)) cls := fun A Q E s k q => wpAny_typeOf_ref (k _ _ he3) (by rw [hz3.1]; exact q)
    have test : ∀ {x : Str} {c : Value} {np : Pos} {Q : Value → Shared → Prop} {E : Value → Shared → Prop}, Names X x c → Q c { s' with heap := h3 } → wpAny (model X.prog X.w) (X.A.mark (some (.ref a))) (eval (.Name x np) X.env) Q E { s' with heap := h3 } := fun {x c np Q E} hc q => by
      obtain ⟨hg, hdbg, hm | ⟨hm, hv, hnn⟩⟩ := hc
      · exact ld_glob (X := X.suite a ((a, oe3) :: (X.pn ++ pins))) S3 hg hm q hdbg
      · exact ld_blt (X := X.suite a ((a, oe3) :: (X.pn ++ pins))) S3 hg hm hv q hnn hdbg
    have go : ∀ {hds' : List ExceptHandler} {l' : List ClT}, HdsMix X hds' l' → wMix X.K Wout D l' cls d σ' H' →
        wpAny (model X.prog X.w) X.A (handleBy (.ref a) X.env hds') (SP X pins D) X.xe { s' with heap := h3 } := by
      intro hds' l' hk
      induction hk with
      | nil =>
        intro w
        refine wpAny_handleBy_nil ?_
        obtain ⟨k1, k2, k3, oe, vs, T, oT, ts', he, hz, hd, h1, hr⟩ := id fl3
        unfold PySem.passOn
        refine wpAny_bind (wpAny_field he hd h1 ?_)
        rw [if_neg (show ¬ ((Value.ref T == Value.none) = true) from by simp)]
        have fin : wpAny (model X.prog X.w) X.A (setFlight (.ref a) X.env.frame) (fun _ s4 => wpAny (model X.prog X.w) X.A (throw (.ref a) : Sem Flow) (SP X pins D) X.xe s4) X.xe { s' with heap := h3 } := by
          rw [hf]
          refine HandSPX.setFlight_upZ fl3 fun h4 hh4 up4 => wpAny_throw (tk _ _ ?_)
          exact ⟨a, B, sI, pins, σ', H', cls, d, rfl, J, nb, (up.trans up3).trans up4, .inr (.inr (by rw [hs]; exact hh4)), na, os, ag, w⟩
        first
          | exact wpAny_bind (wpAny_pure (wpAny_bind fin))
          | exact wpAny_bind fin
      | @no x c ts b₀ suite np pos' hds2 l2 hc hsu r ih =>
        intro w
        obtain ⟨b, hb1, hyes, hno⟩ := w
        refine wpAny_handleBy_cons (codeAny_handlers_test ?_) (by intro q; cases q)
        have LM := PySem.W.exm_one (M := model X.prog X.w) (J3.kIn) LT hb1
        refine test hc (LM.here ?_)
        cases b with
        | true =>
          refine codeAny_handlers_suite ?_
          refine HandSPX.lands_againZ fl3 fun h4 fl4 up4 => ?_
          have J4 : Inv X pins σ' H' { s' with heap := h4 } := J.landed nb fl4.1 ((up.trans up3).trans up4) os ag
          obtain ⟨oe4, vs4, he4, hz4, hd4⟩ := fl4.there
          have S4 := J4.suite he4 hd4 na nL nF
          refine wpAny_mono ((hsu a oe4 cls d (X.pn ++ pins) hz4 ⟨_, hd4⟩).run [] _ _ H' _ S4 (hyes rfl a na)) (fun f s6 hsp => ?_) (fun _ _ z => False.elim z)
          cases f with
          | next =>
            obtain ⟨σ6, H6, S6, q6⟩ := hsp
            exact ⟨_, _, S6.unsuite ok, q6⟩
          | brk =>
            obtain ⟨σ6, H6, S6, q6⟩ := hsp
            exact ⟨_, _, S6.unsuite ok, q6⟩
          | cont =>
            obtain ⟨σ6, H6, S6, q6⟩ := hsp
            exact ⟨_, _, S6.unsuite ok, q6⟩
          | ret u =>
            obtain ⟨v6, σ6, H6, S6, r6, q6⟩ := hsp
            exact ⟨_, _, _, S6.unsuite ok, r6, q6⟩
        | false =>
          show wpAny _ X.A (handleBy (.ref a) X.env hds2) _ _ _
          exact ih (hno rfl)
      | @as x n i c ts b₀ suite np pos' hds2 l2 hN hi hln hc hsu r ih =>
        intro w
        obtain ⟨b, hb1, hyes, hno⟩ := w
        have hloc : Loc X.env.scope n := .inl hln
        refine wpAny_handleBy_cons (codeAny_handlers_test ?_) (by intro q; cases q)
        have LM := PySem.W.exm_one (M := model X.prog X.w) (J3.kIn) LT hb1
        refine test hc (LM.here ?_)
        cases b with
        | true =>
          refine codeAny_handlers_suite_as ?_
          refine HandSPX.lands_againZ fl3 fun h4 fl4 up4 => ?_
          have J4 : Inv X pins σ' H' { s' with heap := h4 } := J.landed nb fl4.1 ((up.trans up3).trans up4) os ag
          obtain ⟨oe4, vs4, he4, hz4, hd4⟩ := fl4.there
          have S4 := J4.suite he4 hd4 na nL nF
          refine store_ok (X := X.suite a ((a, oe4) :: (X.pn ++ pins))) (v := .ref a) S4 hN hi hloc rfl (fun s5 S5 => ?_) (.inr hln)
          refine wpAny_mono ((hsu a oe4 cls d (X.pn ++ pins) hz4 ⟨_, hd4⟩).run [] s5 _ H' _ S5 (hyes rfl a na)) (fun f s6 hsp => ?_) (fun _ _ z => False.elim z)
          have end_ : ∀ {σ6 : St} {H6 : Hp} {Q : Shared → Prop}, Inv (X.suite a ((a, oe4) :: (X.pn ++ pins))) [] σ6 H6 s6 → (∀ s7, Inv X pins (σ6.set i none) H6 s7 → Q s7) →
              wpAny (model X.prog X.w) X.A (do bindName X.env n .none; unbindBehindTheSuite X.env n pos') (fun _ s7 => Q s7) X.xe s6 := fun {σ6 H6 Q} S6 hq => gone_ok (S6.unsuite ok) hN hi hln hq
          cases f with
          | next =>
            obtain ⟨σ6, H6, S6, q6⟩ := hsp
            exact end_ S6 fun s7 J7 => ⟨_, _, J7, q6⟩
          | brk =>
            obtain ⟨σ6, H6, S6, q6⟩ := hsp
            exact end_ S6 fun s7 J7 => ⟨_, _, J7, q6⟩
          | cont =>
            obtain ⟨σ6, H6, S6, q6⟩ := hsp
            exact end_ S6 fun s7 J7 => ⟨_, _, J7, q6⟩
          | ret u =>
            obtain ⟨v6, σ6, H6, S6, r6, q6⟩ := hsp
            exact end_ S6 fun s7 J7 => ⟨_, _, _, J7, r6, q6⟩
        | false =>
          show wpAny _ X.A (handleBy (.ref a) X.env hds2) _ _ _
          exact ih (hno rfl)
    exact go hh w
  · cases f with
    | next =>
      obtain ⟨σ', H', J', q⟩ := hsp
      exact wpAny_execs_nil ⟨σ', H', J'.ofTry ok, q⟩
    | brk =>
      obtain ⟨σ', H', J', q⟩ := hsp
      exact ⟨σ', H', J'.ofTry ok, q⟩
    | cont =>
      obtain ⟨σ', H', J', q⟩ := hsp
      exact ⟨σ', H', J'.ofTry ok, q⟩
    | ret u =>
      obtain ⟨v, σ', H', J', r, q⟩ := hsp
      exact ⟨v, σ', H', J'.ofTry ok, r, q⟩
end
end L2
end

section
set_option Elab.async false
set_option linter.all false
set_option maxRecDepth 100000
set_option maxHeartbeats 1000000
/-! X5: isinstance of a caught error with fields; the field; defs that raise -/
namespace L2
open PySem PySem.Spec PyProof.Rows
/-- isinstance(e, c), e the exception that the suite holds, its dict d -/
def rIsEd (K : PySem.W.Frag) (a : Addr) (cls : Value) (d : Option Addr) : List V → Hp → VK → Prop := fun xs H Q => ∃ (D : Addr) (c : V) (cv : Value) (b : Bool), cls = .ref D ∧ ExcC K D ∧ xs = [.ref a, c] ∧ (∀ u, RelV c u → u = cv) ∧ PySem.W.kitOne K (.ref D) cv = some b ∧
  (d = none ∨ ∃ dd fs, d = some dd ∧ H dd = some (.xd fs)) ∧ Q (.bl b) H
theorem call_isEd {X : Cx} {a : Addr} {cls : Value} {d : Option Addr} {oe : Obj} {pn : List (Addr × Obj)} (hz : Zc cls d oe) (hf : ∃ vs, oe.data = .fields vs) : CallR (X.suite a ((a, oe) :: pn)) (.builtin "isinstance") (rIsEd X.K a cls d) := by
  intro pins s σ H xs us Q I r h
  obtain ⟨D, c, cv, b, rfl, C, rfl, hcv, e, hd, q⟩ := h
  cases r with
  | cons rx rr =>
    cases rr with
    | cons rt rr =>
      cases rr
      cases rx
      have ec := hcv _ rt
      subst ec
      obtain ⟨hget, _⟩ := I.pin (a, oe) (List.mem_append.mpr (.inl List.mem_cons_self))
      obtain ⟨vs, hv⟩ := hf
      have J : ∃ od, PySem.W.InstAt s.heap a oe D od := by
        rcases hd with rfl | ⟨dd, fs, rfl, hx⟩
        · refine ⟨none, ?_⟩
          obtain ⟨oc, od, oda, osl⟩ := oe
          obtain ⟨h1, h2⟩ := hz
          dsimp only at h1 h2 hv
          subst h1 h2 hv
          exact ⟨hget, rfl, rfl, trivial⟩
        · have hx : ObjOk X.prog X.w H s.heap dd (.xd fs) := I.hok dd _ hx
          obtain ⟨mA, hns, hr⟩ := hx
          obtain ⟨od, ho, hl⟩ := lookIn_ns hns
          exact ⟨some od, hget, hz.1, by unfold PySem.W.notCls; rw [hv] <;> rfl, by rw [hz.2]; exact ho⟩
      obtain ⟨od, J⟩ := J
      obtain ⟨cd, hcd, _⟩ := PySem.W.any_some C.hd
      exact PySem.W.kia_one (PySem.W.kitx_exc (od := od) (by rw [hcd]; rfl) C.hg C.hk C.hs C.ha C.hn C.ht C.hm) I.kIn J e (fun z => nomatch z) fun tk => ⟨.bl b, H, I.kept (t' := tk) fun _ _ z => z, rfl, q⟩

/-! ### defs that may raise -/
/-- a def of the text that may be called by its name and may raise -/
structure CalX (P : Program) (w : World) (K : PySem.W.Frag) (mg : Str → Option Value) (base : Heap) (k : Nat) (x : Str) (sp : Sp) : Prop where
  ex : ∃ (f : Addr) (fd : FuncData) (ps : List Str), FnOk P w K mg base (L2.CX P w) k f fd ps sp ∧ mg x = some (.ref f) ∧ PySem.W.keepIn K (.ref f) = true ∧ Binds K fd ps []
theorem pe_cx {X : Cx} {W : WX} {j k : Nat} {x : Str} {sp : Sp} {p pos : Pos} {e : Expr} {es : List Expr} {t : TA} (c : CalX X.prog X.w X.K X.mg X.base k x sp) (hr : Room j X.A) (hk : k ≤ j) (hg : Gl X x) (tk : Takes X W) (ha : PA X (e :: es) t)
    (hdb : (x == ("__debug__" : Str)) = false := by decide) (he : starEach (e :: es) X.env = (false, eval e X.env) :: starEach es X.env := by rfl) (hpl : (backTo pos (starEach es X.env)).any (·.1) = false := by rfl) :
    PE X (.Call (.Name x p) (e :: es) [] pos) (tCallS sp (WE W) t) := by
  obtain ⟨f, fd, ps, F, hm, kp, b⟩ := c.ex
  exact pe_callS F (hr.mono hk) hg hm kp b (fun σ => passAt tk σ) ha hdb he hpl
/-- .. by its body -/
theorem calx {P : Program} {w : World} {K : PySem.W.Frag} {mg : Str → Option Value} {base : Heap} {x : Str} {st : Stmt} {f : Addr} {fd : FuncData} {N ps : List Str} {k : Nat} {sp : Sp} (F : Fun K x x st f fd) (hm : mg x = some (.ref f)) (b : Binds K fd ps []) (S : FnScope N ps (defScope st))
    (len : ∀ vs H Q E, sp vs H Q E → vs.length = ps.length)
    (hbody : ∀ (cdv : Value) (A : Around) (outer : List Env) (s : Shared) (H : Hp) (vs : List V) (Q : VK) (E : XK), Room k (A.deeper (envOfC x (defScope st) s.heap.objs.size f cdv)) → sp vs H Q E →
      ∃ t, PSs (cxOf (L2.CX P w) P w K mg base N x (defScope st) f cdv A outer s H E) (defBody st) t ∧ t { nx := fun _ H' => Q .non H', rt := Q } (start N vs) H) : CalX P w K mg base (k + 1) x sp :=
  ⟨f, fd, ps, F.okX S len hbody, hm, F.kp, b⟩
/-- a def that raises nothing -/
structure Cal0 (P : Program) (w : World) (K : PySem.W.Frag) (mg : Str → Option Value) (base : Heap) (k : Nat) (x : Str) (sp : Sp) : Prop where
  ex : ∃ (f : Addr) (fd : FuncData) (ps : List Str), FnOk P w K mg base CX0 k f fd ps sp ∧ mg x = some (.ref f) ∧ PySem.W.keepIn K (.ref f) = true ∧ Binds K fd ps []
theorem pe_c0 {X : Cx} {j k : Nat} {x : Str} {sp : Sp} {p pos : Pos} {e : Expr} {es : List Expr} {t : TA} (c : Cal0 X.prog X.w X.K X.mg X.base k x sp) (hr : Room j X.A) (hk : k ≤ j) (hg : Gl X x) (ha : PA X (e :: es) t)
    (hdb : (x == ("__debug__" : Str)) = false := by decide) (he : starEach (e :: es) X.env = (false, eval e X.env) :: starEach es X.env := by rfl) (hpl : (backTo pos (starEach es X.env)).any (·.1) = false := by rfl) :
    PE X (.Call (.Name x p) (e :: es) [] pos) (tCall sp [] (fun _ _ _ => False) t) := by
  obtain ⟨f, fd, ps, F, hm, kp, b⟩ := c.ex
  exact pe_call F (hr.mono hk) hg hm kp b .nil pass0 ha hdb he hpl
theorem cal0 {P : Program} {w : World} {K : PySem.W.Frag} {mg : Str → Option Value} {base : Heap} {x : Str} {st : Stmt} {f : Addr} {fd : FuncData} {N ps : List Str} {k : Nat} {sp : Sp} (F : Fun K x x st f fd) (hm : mg x = some (.ref f)) (b : Binds K fd ps []) (S : FnScope N ps (defScope st))
    (len : ∀ vs H Q E, sp vs H Q E → vs.length = ps.length)
    (hbody : ∀ (cdv : Value) (A : Around) (outer : List Env) (s : Shared) (H : Hp) (vs : List V) (Q : VK) (E : XK), Room k (A.deeper (envOfC x (defScope st) s.heap.objs.size f cdv)) → sp vs H Q E →
      ∃ t, PSs (cxOf CX0 P w K mg base N x (defScope st) f cdv A outer s H E).nox (defBody st) t ∧ t { nx := fun _ H' => Q .non H', rt := Q } (start N vs) H) : Cal0 P w K mg base (k + 1) x sp :=
  ⟨f, fd, ps, F.ok S len hbody, hm, F.kp, b⟩
end L2
end

section
set_option Elab.async false
set_option linter.all false
set_option maxRecDepth 100000
set_option maxHeartbeats 1000000
/-! G11: errors over an environment: raised, passed on, caught -/
namespace G
open PySem L2

/-- the dict of an error -/
def xdE (fs : List (Str × V)) : Ent := ⟨fun _ _ H v fp => ∃ d, v = .ref d ∧ fp = [d] ∧ H d = some (.xd fs), fun {K Hf Hf' H H' v fp} e k h => by
  obtain ⟨d, h1, h2, h3⟩ := h
  subst h2
  exact ⟨d, h1, rfl, (k d (by simp)).trans h3⟩⟩
/-- what the wish W has of an error of the class C with the fields fs, raised here -/
def Thr (B : Bs) (Γ : List (Option Ent)) (W : WX) (C : Addr) (fs : List (Str × V)) : Prop := ∀ (σ : L2.St) (H' : Hp) (τ : List (Option V)) (Δ : List (Option Ent)) (d : Addr), τ.length = Δ.length → σ.length = Γ.length →
  Env B H' (some (.ref d) :: (τ ++ σ)) (some (xdE fs) :: (Δ ++ Γ)) → W (.ref C) (some d) σ H'
/-- the promise of a def that changes nothing and may raise -/
def spX (K : FK) {A : Type} (args : A → List Ent) (pre : A → Prop) (post : A → Ent → Prop) (perr : A → Addr → List (Str × V) → Prop) : Sp := fun vs H Q E => ∃ (a : A) (Hf : Hp), pre a ∧ vs.length = (args a).length ∧ Same Hf H ∧
  (∀ (i : Nat) (e : Ent), (args a)[i]? = some e → ∃ v, vs[i]? = some v ∧ e.P K Hf H v []) ∧
  (∀ (v : V) (ent : Ent) (H' Hf' : Hp) (fp : List Addr), post a ent → Same Hf Hf' → Same Hf' H' → Same H H' → (∀ x, Hf x = none → (Hf' x ≠ none ∨ x ∈ fp) → H x = none) → (∀ x ∈ fp, Hf' x = none ∧ H' x ≠ none) →
    ent.P K Hf' H' v fp → Q v H') ∧
  ∀ (C : Addr) (fs : List (Str × V)) (d : Addr) (H' : Hp), perr a C fs → Same H H' → H d = none → H' d = some (.xd fs) → E (.ref C) (some d) H'
theorem spX_len {K : FK} {A : Type} {args : A → List Ent} {pre : A → Prop} {post : A → Ent → Prop} {perr : A → Addr → List (Str × V) → Prop} {n : Nat} (hn : ∀ a, (args a).length = n) {vs : List V} {H : Hp} {Q : VK} {E : XK} (h : spX K args pre post perr vs H Q E) : vs.length = n := by
  obtain ⟨a, _, _, e, _⟩ := h
  rw [e, hn]
abbrev wE (E : XK) : WX := fun cls d _ H => E cls d H
/-- what holds outside of the frozen part of an owned dict is a new one -/
theorem Thr.fn {K : FK} {H Hf : Hp} {E : XK} {Γ : List (Option Ent)} {C : Addr} {fs : List (Str × V)} (h : ∀ (d : Addr) (H' : Hp), Same H H' → H d = none → H' d = some (.xd fs) → E (.ref C) (some d) H') : Thr ⟨K, H, Hf, []⟩ Γ (wE E) C fs := fun σ H' τ Δ d hl hs E1 => by
  obtain ⟨Hf', F, E1⟩ := E1
  obtain ⟨w, q1, d', q2, q3, q4⟩ := E1.hold 0 _ rfl
  have e1 : w = .ref d := by simpa using q1.symm
  rw [e1] at q2
  cases q2
  have dF : d ∈ F 0 := by rw [q3]; simp
  refine h d H' (fun x o h2 => E1.keep x o (by simp) h2) ?_ q4
  have := E1.fresh d (.inr ⟨0, dF⟩) (E1.b0.free (E1.own 0 d dF).1)
  simpa using this
theorem walkX {K : FK} {A : Type} {args : A → List Ent} {pre : A → Prop} {post : A → Ent → Prop} {perr : A → Addr → List (Str × V) → Prop} {N : List Str} {t : TS} {vs : List V} {H : Hp} {Q : VK} {E : XK} (h : spX K args pre post perr vs H Q E) (hN : ∀ a, (args a).length ≤ N.length)
    (hr : ∀ (a : A) (B : Bs), B.K = K → pre a → (∀ C fs Γ, perr a C fs → Thr B Γ (wE E) C fs) → RS B (g0 N (args a)) t { nx := fun _ => post a (fz ()), rt := fun e _ => post a e }) : t { nx := fun _ H' => Q .non H', rt := Q } (L2.start N vs) H := by
  obtain ⟨a, Hf, hp, hl, s, hv, k, kx⟩ := h
  have hsl : (L2.start N vs).length = (g0 N (args a)).length := by
    unfold L2.start g0
    simp [hl]
  have E0 : Env ⟨K, H, Hf, []⟩ H (L2.start N vs) (g0 N (args a)) := by
    refine ⟨Hf, fun _ => [], Same.refl _, s, fun i j x h1 _ => absurd h1 (by simp), fun i x h1 => absurd h1 (by simp), fun x o _ h2 => h2, fun x h1 h2 => ?_, fun i e q => ?_⟩
    · rcases h1 with h1 | ⟨i, h1⟩
      · exact absurd h2 h1
      · simp at h1
    · unfold g0 at q
      by_cases hi : i < (args a).length
      · rw [List.getElem?_append_left (by simpa using hi), List.getElem?_map] at q
        cases z : (args a)[i]? with
        | none => rw [z] at q; simp at q
        | some e' =>
          rw [z] at q
          have : e' = e := by simpa using q
          subst this
          obtain ⟨v, h1, h2⟩ := hv i e' z
          refine ⟨v, ?_, h2⟩
          unfold L2.start
          rw [List.getElem?_append_left (by simpa [hl] using hi), List.getElem?_map, h1]; rfl
      · rw [List.getElem?_append_right (by simpa using hi), List.getElem?_replicate] at q
        split at q <;> simp at q
  have fin : ∀ {v : V} {ent : Ent} {H' : Hp} {σ' : List (Option V)} {Γ' : List (Option Ent)}, post a ent → Env ⟨K, H, Hf, []⟩ H' (some v :: σ') (some ent :: Γ') → Q v H' := fun {v ent H' σ' Γ'} po E1 => by
    obtain ⟨Hf', F, E1⟩ := E1
    obtain ⟨w, q1, q2⟩ := E1.hold 0 ent rfl
    have ew : v = w := by simpa using q1
    subst ew
    refine k v ent H' Hf' (F 0) po E1.b0 E1.b1 (fun x o h2 => E1.keep x o (by simp) h2) (fun x h1 h2 => ?_) (fun x hx => E1.own 0 x hx) q2
    have := E1.fresh x (by
      rcases h2 with h2 | h2
      · exact .inl h2
      · exact .inr ⟨0, h2⟩) h1
    simpa using this
  refine hr a ⟨K, H, Hf, []⟩ rfl hp (fun C fs Γ po => Thr.fn fun d H' s1 s2 s3 => kx C fs d H' po s1 s2 s3) (L2.start N vs) H [] [] rfl hsl E0 _ ⟨?_, ?_, ?_, ?_⟩
  · intro Γ' σ' H' h' _ E1
    exact fin h' (Env.pushN (σ := σ') (Γ := Γ') E1)
  · intro v ent Γ' σ' H' h' _ E1
    exact fin h' E1
  · intro Γ' σ' H' h'
    exact h'.elim
  · intro Γ' σ' H' h'
    exact h'.elim
/-- the heap grows by an object of one's own -/
theorem Env.growO {B : Bs} {H H' : Hp} {l : List (Option V)} {L : List (Option Ent)} {d : Addr} {e : Ent} (E : Env B H l L) (s : Same H H') (n : H d = none) (nn : H' d ≠ none) (h : ∀ Hf, e.P B.K Hf H' (.ref d) [d]) : Env B H' (some (.ref d) :: l) (some e :: L) := by
  obtain ⟨Hf, F, E⟩ := E
  have fn : Hf d = none := E.b1.free n
  have pn : ∀ i, d ∉ F i := fun i q => (E.own i d q).2 n
  refine ⟨Hf, consF [d] F, E.b0, E.b1.trans s, ?_, ?_, fun a u h1 h2 => s a u (E.keep a u h1 h2), ?_, ?_⟩
  · intro i j a h1 h2
    cases i with
    | zero =>
      cases j with
      | zero => rfl
      | succ j =>
        have : a = d := by simpa [consF] using h1
        subst this
        exact absurd h2 (pn j)
    | succ i =>
      cases j with
      | zero =>
        have : a = d := by simpa [consF] using h2
        subst this
        exact absurd h1 (pn i)
      | succ j => exact congrArg _ (E.dj i j a h1 h2)
  · intro i a h1
    cases i with
    | zero =>
      have : a = d := by simpa [consF] using h1
      subst this
      exact ⟨fn, nn⟩
    | succ i =>
      obtain ⟨q1, q2⟩ := E.own i a h1
      refine ⟨q1, ?_⟩
      cases z : H a with
      | none => exact absurd z q2
      | some o => rw [s a o z]; simp
  · intro a h1 h2
    by_cases z : a = d
    · subst z
      cases q : B.Hs a with
      | none => exact .inl rfl
      | some u =>
        by_cases hb : a ∈ B.br
        · exact .inr hb
        · have := E.keep a u hb q
          rw [n] at this; cases this
    · refine E.fresh a ?_ h2
      rcases h1 with h1 | ⟨i, h1⟩
      · exact .inl h1
      · cases i with
        | zero => exact absurd (by simpa [consF] using h1) z
        | succ i => exact .inr ⟨i, h1⟩
  · intro i e0 h1
    cases i with
    | zero =>
      have : e = e0 := by simpa using h1
      subst this
      exact ⟨_, rfl, h Hf⟩
    | succ i =>
      obtain ⟨v', q1, q2⟩ := E.hold i e0 (by simpa using h1)
      refine ⟨v', by simpa using q1, e0.loc (Same.refl _) (fun a ha => ?_) q2⟩
      cases z : H a with
      | none => exact absurd z (E.own i a ha).2
      | some o => exact s a o z
section
variable {B : Bs} {Γ Γ' : List (Option Ent)} {D : GE} {W : WX} {te : TE} {S' : Ent → Prop} {Sa : List Ent → Prop} {A : Type} {args : A → List Ent} {pre : A → Prop} {post : A → Ent → Prop} {perr : A → Addr → List (Str × V) → Prop} {E : XK}
theorem call_fin {H1 H' : Hp} {l : List (Option V)} {L : List (Option Ent)} {vs : List V} {es : List Ent} {Hf Hf' : Hp} {F : Nat → List Addr} {v : V} {ent : Ent} {fp : List Addr} (hv : vs.length = es.length) (E1 : EnvAt B H1 ((vs.map some).reverseAux l) ((es.map some).reverseAux L) Hf F)
    (s1 : Same Hf Hf') (s2 : Same Hf' H') (s3 : Same H1 H') (fr : ∀ x, Hf x = none → (Hf' x ≠ none ∨ x ∈ fp) → H1 x = none) (ow : ∀ x ∈ fp, Hf' x = none ∧ H' x ≠ none) (q : ent.P B.K Hf' H' v fp) : Env B H' (some v :: l) (some ent :: L) := by
  refine ⟨Hf', fun m => match m with | 0 => fp | m + 1 => F (vs.length + m), E1.b0.trans s1, s2, ?_, ?_, fun x o h1 h2 => s3 x o (E1.keep x o h1 h2), ?_, ?_⟩
  · have ap : ∀ m x, x ∈ fp → x ∈ F m → False := fun m x h1 h2 => by
      obtain ⟨y1, y2⟩ := E1.own m x h2
      exact y2 (fr x y1 (.inr h1))
    intro m m' x h1 h2
    cases m with
    | zero =>
      cases m' with
      | zero => rfl
      | succ m' => exact (ap _ x h1 h2).elim
    | succ m =>
      cases m' with
      | zero => exact (ap _ x h2 h1).elim
      | succ m' => have := E1.dj _ _ x h1 h2; omega
  · intro m x h1
    cases m with
    | zero => exact ow x h1
    | succ m =>
      obtain ⟨y1, y2⟩ := E1.own _ x h1
      refine ⟨?_, ?_⟩
      · cases z : Hf' x with
        | none => rfl
        | some o => exact absurd (fr x y1 (.inl (by rw [z]; simp))) y2
      · cases z : H1 x with
        | none => exact absurd z y2
        | some o => rw [s3 x o z]; simp
  · intro x h1 h2
    by_cases z : Hf x = none
    · have hx : H1 x = none ∨ (∃ m, x ∈ F m) := by
        rcases h1 with h1 | ⟨m, h1⟩
        · exact .inl (fr x z (.inl h1))
        · cases m with
          | zero => exact .inl (fr x z (.inr h1))
          | succ m => exact .inr ⟨_, h1⟩
      rcases hx with hx | hx
      · cases y : B.Hs x with
        | none => exact .inl rfl
        | some o =>
          by_cases hb : x ∈ B.br
          · exact .inr hb
          · have := E1.keep x o hb y
            rw [hx] at this; cases this
      · exact E1.fresh x (.inr hx) h2
    · exact E1.fresh x (.inl z) h2
  · intro m e0 q0
    cases m with
    | zero =>
      have : ent = e0 := by simpa using q0
      subst this
      exact ⟨v, rfl, q⟩
    | succ m =>
      have z1 : ((es.map some).reverseAux L)[vs.length + m]? = L[m]? := by
        have := rev_behind (vs := es.map some) (l := L) (i := m)
        rw [List.length_map, ← hv] at this; exact this
      have z2 : ((vs.map some).reverseAux l)[vs.length + m]? = l[m]? := by
        have := rev_behind (vs := vs.map some) (l := l) (i := m)
        rw [List.length_map] at this; exact this
      obtain ⟨v', y1, y2⟩ := E1.hold (vs.length + m) e0 (by rw [z1]; simpa using q0)
      refine ⟨v', by rw [z2] at y1; simpa using y1, e0.loc s1 (fun x hx => ?_) y2⟩
      cases z : H1 x with
      | none => exact absurd z (E1.own _ x hx).2
      | some o => exact s3 x o z
/-- a call that may raise -/
theorem res_callX {ta : TA} (h : RAs B Γ ta Sa) (ho : ∀ es, Sa es → ∃ a : A, args a = es ∧ FzL es ∧ pre a ∧ (∀ ent, post a ent → S' ent) ∧ ∀ C fs, perr a C fs → Thr B Γ W C fs) : REs B Γ (tCallS (spX B.K args pre post perr) (WE W) ta) S' := fun σ H τ Δ hl hs E0 Q k =>
  h σ H τ Δ hl hs E0 _ fun es vs H1 s1 hv E1 => by
    obtain ⟨a, rfl, hfz, hp, hpost, hthr⟩ := ho es s1
    have E1' := E1
    obtain ⟨Hf, F, E1⟩ := E1
    have kn : Known B.K Hf H1 ((vs.map some).reverseAux (τ ++ σ)) (((args a).map some).reverseAux (Δ ++ Γ)) := fun k e' q => by
      obtain ⟨v', h1, h2⟩ := E1.hold k e' q
      exact ⟨v', F k, h1, h2⟩
    refine ⟨a, Hf, hp, hv, E1.b1, fun i e q => ?_, fun v ent H' Hf' fp po s1 s2 s3 fr ow q => k ent v H' (hpost ent po) (call_fin hv E1 s1 s2 s3 fr ow q), fun C fs d H' po s1 s2 s3 => ?_⟩
    · obtain ⟨v, fp, h1, h2⟩ := Known.arg hv kn q
      exact ⟨v, h1, hfz.at q _ _ _ _ _ h2⟩
    · have E2 := Env.growO (e := xdE fs) E1' s1 s2 (by rw [s3]; simp) fun _ => ⟨d, rfl, rfl, s3⟩
      rw [rev_app, rev_app, ← List.append_assoc, ← List.append_assoc] at E2
      exact hthr C fs po σ H' _ _ d (by simp [hv, hl]) hs E2

/-! ### raise -/
/-- the promise of an __init__ that tells its base a text with the int that it is given and keeps it as f -/
def spI1 (C : Addr) (f : Str) : Sp := fun vs H Q _ => ∃ (a : Addr) (i : Int), vs = [.ref a, .int i] ∧ H a = some (exo a C none) ∧ i.natAbs.log2 < 1900 ∧ ∀ dx, H dx = none → dx ≠ a → Q .non (upd (upd H dx (exd dx [(f, .int i)])) a (exo a C (some dx)))
theorem rs_raise1 {C : Addr} {f : Str} {i : Int} (h : RE B Γ te (fz i)) (hi : i.natAbs.log2 < 1900) (ht : Thr B Γ W C [(f, .int i)]) : RS B Γ (fun _ σ H => tMkO C (spI1 C f) [] (tCons te tNil) σ H fun cls d H' => W cls d σ H') D := fun σ H τ Δ hl hs E0 D' Cv =>
  h σ H τ Δ hl hs E0 _ fun v H1 E1 => by
    have ev : v = .int i := E1.view
    subst ev
    refine ⟨by simp, fun a ha => ⟨a, i, rfl, upd_same, hi, fun dx hdx hne => ⟨rfl, dx, [(f, .int i)], upd_same, ?_, ?_, ?_⟩⟩⟩
    · rw [upd_ne hne, upd_same]
    · rw [upd_ne hne] at hdx; exact hdx
    · have hdx' : H1 dx = none := by rw [upd_ne hne] at hdx; exact hdx
      have e : upd (del (upd (upd (upd H1 a (exo a C none)) dx (exd dx [(f, .int i)])) a (exo a C (some dx))) a) dx (.xd [(f, .int i)]) = upd H1 dx (.xd [(f, .int i)]) := by
        funext b
        by_cases h1 : b = dx
        · rw [h1, upd_same, upd_same]
        · rw [upd_ne h1, upd_ne h1]
          by_cases h2 : b = a
          · rw [h2, del_same, ha]
          · rw [del_ne h2, upd_ne h2, upd_ne h1, upd_ne h2]
      rw [e]
      exact ht σ _ τ Δ dx hl hs (E1.drop.newO hdx' fun _ _ _ _ => ⟨dx, rfl, rfl, upd_same⟩)
end
end G
end

section
set_option Elab.async false
set_option linter.all false
set_option maxRecDepth 100000
set_option maxHeartbeats 1000000
/-! G12: the __init__ of an own error with one field -/
namespace G
open PySem PySem.Spec PyProof.Rows L2
open PySem.W (ksEnv ksFn)
theorem pj_len {s1 y : Str} (h : s1.length ≤ 1000) (hy : y.length ≤ 2000) : (Str.empty ++ s1 ++ y).length ≤ sizeLine := by
  rw [Str.length_append, Str.length_append, sizeLine_eq]
  have : Str.empty.length = 0 := rfl
  omega
theorem int_len {i : Int} (h : i.natAbs.log2 < 1900) : (Str.ofString (toString i)).length ≤ 2000 := by
  have e := int_text_length_le (k := 1900) (by decide) h
  rw [PySem.ofString_length]; exact Nat.le_trans e (by decide)
section
variable {CX : CXT} {P : Program} {w : World} {K : PySem.W.Frag} {mg : Str → Option Value} {base : Heap} {k : Nat} {f C cc cda : Addr} {name qual : Str} {params : Arguments} {scope : Scope} {dV kV doc pm ct oc : Value} {an od : Option Addr}
    {osl : Array (Option Value)} {p0 p1 p2 p3 p4 p5 p6 p7 p8 p9 q1 q2 q3 q4 q5 : Pos} {ar : Arg} {x fld s1 s2 : Str} {k1 k2 : Nat}
theorem ok_init1 (U : SupC P K C cc cda)
    (lk : K.lookup f = some ⟨oc, od, .func (ksFn name qual params [.Expr (.Call (.Attribute (.Call (.Name "super" p0) [] [] p1) "__init__" p2) [.JoinedStr [.Constant (.str s1) k1 q1, .FormattedValue (.Name x q2) (-1) none q3] q4] [] p3) p4,
      .Assign [.Attribute (.Name "self" p6) fld p7] (.Name x p8) p9] scope dV kV doc pm an (.ref cda) ct cc), osl⟩)
    (hcd : PySem.W.codeIn K (.ref cda) qual = true) (S : FnScS ["self", x] ["self", x] scope) (hms : mg "super" = none)
    (har : (params.posonlyargs ++ params.args).head? = some ar) (hN0 : ar.arg = "self")
    (hks : scope.names.lookup ("super" : Str) = some .globalImplicit) (hkc : scope.names.lookup ("__class__" : Str) = some .free) (hka : scope.names.lookup ("self" : Str) = some .local) (hkx : scope.names.lookup x = some .local)
    (hno : PySem.W.findIn K (.ref C) fld = some none) (hz : s1.length ≤ 1000) (hd : (x == ("__debug__" : Str)) = false) (hcl : (x == ("__classdict__" : Str)) = false) (hl : (p2.endLine == p3.line) = true) :
    FnOk P w K mg base CX (k + 1) f (ksFn name qual params [.Expr (.Call (.Attribute (.Call (.Name "super" p0) [] [] p1) "__init__" p2) [.JoinedStr [.Constant (.str s1) k1 q1, .FormattedValue (.Name x q2) (-1) none q3] q4] [] p3) p4,
      .Assign [.Attribute (.Name "self" p6) fld p7] (.Name x p8) p9] scope dV kV doc pm an (.ref cda) ct cc) ["self", x] (spI1 C fld) := by
  have hev : ∀ env : PySem.Env, ∃ pl : Sem Bool, eval (.Call (.Attribute (.Call (.Name "super" p0) [] [] p1) "__init__" p2) [.JoinedStr [.Constant (.str s1) k1 q1, .FormattedValue (.Name x q2) (-1) none q3] q4] [] p3) env = (do
      let ov ← attributeBase (.Call (.Name "super" p0) [] [] p1) "__init__" env (eval (.Call (.Name "super" p0) [] [] p1) env)
      standAt p2.atName
      let (f, first) ← holding [ov] (getMethod ov "__init__" pl)
      callWith p3 f first (backTo p3 (starEach [.JoinedStr [.Constant (.str s1) k1 q1, .FormattedValue (.Name x q2) (-1) none q3] q4] env)) []) := by
    intro env
    have e : ∀ few, methodCallPos few (.Call (.Name "super" p0) [] [] p1) env p2 p3 = pure p3 := fun few => by
      unfold methodCallPos
      rw [hl, Bool.or_true]; rfl
    refine ⟨(do return (← importBound (.Call (.Name "super" p0) [] [] p1) env).getD true), ?_⟩
    show (do let ov ← attributeBase (.Call (.Name "super" p0) [] [] p1) "__init__" env (eval (.Call (.Name "super" p0) [] [] p1) env); standAt p2.atName; methodCall _ _ p2 p3 env ov _ _ _) = _
    unfold methodCall
    simp only [e, pure_bind]
    rfl
  refine fn_super (N := ["self", x]) U lk hcd S hms har (by rw [hN0]; rfl) hks hkc (by rw [hN0]; exact hka) (fun vs H Q E h => ?_) (fun A outer s H vs Q E hr h => ?_) (by intro _; rfl) hev
  · obtain ⟨a, i, rfl, _⟩ := h
    rfl
  · obtain ⟨a, i, rfl, ea, hi, k⟩ := h
    refine ⟨a, [.int i], _, _, rfl, ea, pa_cons (pe_joined (.cons pe_str (.cons (pe_fmt (pe_var (i := 1) rfl (.inl hkx) hd hcl)) .nil))) pa_nil,
      pss_one (ps_ost (pe_var (i := 0) rfl (.inl hka)) (pe_var (i := 1) rfl (.inl hkx) hd hcl)), ?_⟩
    refine ⟨s1, rfl, ?_, _, rfl, .inr ⟨i, rfl, by omega, ⟨_, rfl, pj_len hz (int_len hi), ?_⟩⟩⟩
    · rw [Str.length_append, sizeLine_eq]
      have : Str.empty.length = 0 := rfl
      omega
    · refine ⟨by simp, ea, _, rfl, _, rfl, a, C, rfl, U.ex, hno, .inl ⟨ea, fun dx h1 h2 => k dx h1 h2⟩⟩
end
end G
end

section
set_option Elab.async false
set_option linter.all false
set_option maxRecDepth 100000
set_option maxHeartbeats 1000000
/-! X6: for x in gen(..), the generator's first statement returns or raises (nothing is handed out) -/
namespace L2
open PySem PySem.Spec PyProof.Rows GenW
/-- a promise of such a generator def: the arguments, the heap, what is wanted at its end, the exception -/
abbrev SpG0 := List V → Hp → (Hp → Prop) → XK → Prop
def REnd0 (P : Program) (w : World) (outer : List Env) (H : Hp) (s : Shared) (a : Addr) (g : Nat) (Q : Hp → Prop) (E : XK) : GenEnd := fun n s₀ r s1 =>
  ((r = .ok (.ret .none) ∨ r = .ok .next) ∧ ∃ H', s1.os = s.os ∧ AllBare s1.gens ∧ Un (frs outer) [] H H' s.heap s1.heap ∧ HOk P w H' s1.heap ∧ Q H') ∨
  ∃ e, r = .error e ∧ CX P w outer H s E e s1 ∧ s1.heap.IsGen a g
def GMade0 (P : Program) (w : World) (k : Nat) (outer : List Env) (H : Hp) (s : Shared) (Q : Hp → Prop) (E : XK) (u : Value) (s' : Shared) : Prop :=
  ∃ (a : Addr) (g : Nat) (c : Code), u = .ref a ∧ s.heap.objs.size ≤ a ∧ a < s'.heap.objs.size ∧ s'.heap.IsGen a g ∧ s'.gens[g]? = some (.fresh c) ∧ s'.os = s.os ∧ AllBare s'.gens ∧ s'.heap.NoLimit ∧ (∀ b o, s.heap.get? b = some o → s'.heap.get? b = some o) ∧
    ∀ (A : Around) (s2 : Shared), Room k A → A.frames = some outer → (∀ b o, s'.heap.get? b = some o → s2.heap.get? b = some o) → s2.os = s.os → AllBare s2.gens →
      Seg (model P w) A (REnd0 P w outer H s a g Q E) (fun _ _ _ _ _ => False) 1 s2 c ((model P w).den c) [] s2
structure GFn0 (P : Program) (w : World) (K : PySem.W.Frag) (mg : Str → Option Value) (base : Heap) (k : Nat) (f : Addr) (fd : FuncData) (ps : List Str) (sp : SpG0) : Prop where
  len : ∀ vs H Q E, sp vs H Q E → vs.length = ps.length
  run : ∀ (A : Around) (outer : List Env) (s : Shared) (H : Hp) (args : Args) (us : List Value) (vs : List V) (Q : Hp → Prop) (E : XK), Room k A → Env0 P w K mg base A outer s H → BindsTo s fd args (ps.zip us) → Vals vs us → sp vs H Q E →
    codeAny (model P w) A (.call (.ref f) args) (fun r s' => match r with | .ok (.ret u) => GMade0 P w k outer H s Q E u s' | _ => False) s
/-- THE RULE: such a generator def, by its first statement -/
theorem gfn0_of {P : Program} {w : World} {K : PySem.W.Frag} {mg : Str → Option Value} {base : Heap} {k : Nat} {f : Addr} {name qual : Str} {params : Arguments} {st0 : Stmt} {rest : List Stmt} {scope : Scope} {dV kV doc pm cdv ct oc : Value} {an od : Option Addr}
    {osl : Array (Option Value)} {N ps : List Str} {sp : SpG0} (lk : K.lookup f = some ⟨oc, od, .func (PySem.W.fnOf name qual params (st0 :: rest) scope dV kV doc pm an cdv ct), osl⟩) (hcd : PySem.W.codeIn K cdv qual = true) (S : GScope N ps scope)
    (len : ∀ vs H Q E, sp vs H Q E → vs.length = ps.length)
    (hbody : ∀ (A : Around) (outer : List Env) (s : Shared) (H : Hp) (vs : List V) (Q : Hp → Prop) (E : XK) (pn : List (Addr × Obj)), Room k (A.deeper (envOfC qual scope s.heap.objs.size f cdv)) → sp vs H Q E →
      ∃ t, PS (gcxOf P w K mg base N qual scope f cdv A outer s H E pn) st0 t ∧ t { nx := fun _ _ => False, rt := fun v H' => v = .non ∧ Q H' } (start N vs) H) :
    GFn0 P w K mg base (k + 1) f (PySem.W.fnOf name qual params (st0 :: rest) scope dV kV doc pm an cdv ct) ps sp := by
  refine ⟨len, fun A outer s H args us vs Q E hr e0 hb r hsp => ?_⟩
  have hl := len _ _ _ _ hsp
  have KX : K.In s.heap := e0.mod.kin.keeps fun b o e => (e0.bs b o e).1
  have lim : s.heap.NoLimit := e0.mod.nolimit.keeps fun b o e => (e0.bs b o e).1
  have hkind : ∀ y ∈ ps.zip us, scope.names.lookup y.1 = some .local ∨ (scope.names.lookup y.1 = some .cell ∧ ((cellsFrom (s.heap.objs.size + 1) scope.names []).lookup y.1).isSome = true) := fun ⟨n, v⟩ hy => by
    rcases S.par n (List.of_mem_zip hy).1 with q | q
    · exact .inl q
    · exact .inr ⟨q, PySem.W.cellsFrom_some _ _ _ (.inl q)⟩
  refine codeAny_call_generator hr.depth (KX _ _ lk) rfl S.co S.gen rfl (PySem.W.codeRec_of KX hcd) (hb _ _ _ _ ?_)
  refine wpAny_newFunctionEnv_cells S.kind hkind fun env he s1 x => ?_
  subst he
  have lim1 : s1.heap.NoLimit := lim.keeps x.toInCall.keep
  refine ⟨lim1, ?_⟩
  obtain ⟨h1, tk, es1, hk1⟩ := x.done
  have os1 : s1.os = s.os := by rw [es1]
  have gen1 : s1.gens = s.gens := by rw [es1]
  have lt1 : s.heap.objs.size < s1.heap.objs.size := x.toInCall.ns.lt
  have sz1 : s.heap.objs.size ≤ s1.heap.objs.size := Nat.le_of_lt lt1
  have kp1 : ∀ b o, s.heap.get? b = some o → s1.heap.get? b = some o := x.toInCall.keep
  have main : ∀ (go : Obj) (nm qn : Value) (tk2 : Nat), go.cls = .type "generator" → go.data = .fields #[.int s1.gens.size 0, nm, qn] → go.slots = #[] → (∀ h : Heap, (h.push go).get? h.objs.size = some go) →
      GMade0 P w (k + 1) outer H s Q E (.ref s1.heap.objs.size) { s1 with gens := s1.gens.push (.fresh (.func (st0 :: rest) (envOfC qual scope s.heap.objs.size f cdv))), toks := tk2, heap := s1.heap.push go } := by
    intro go nm qn tk2 hgc hgd0 hgs hgp
    have hgen : ∀ h : Heap, h.get? s1.heap.objs.size = some go → h.IsGen s1.heap.objs.size s1.gens.size := fun h e => ⟨go, nm, qn, e, hgc, hgd0, hgs⟩
    have hpushed : (s1.heap.push go).get? s1.heap.objs.size = some go := hgp _
    refine ⟨s1.heap.objs.size, s1.gens.size, _, rfl, sz1, ?_, hgen _ hpushed, Array.getElem?_push_size .., os1, ?_, lim1.keeps fun b o e => Heap.get?_push_of_some _ e, fun b o e => Heap.get?_push_of_some _ (kp1 b o e), ?_⟩
    · show _ < (s1.heap.push _).objs.size
      rw [Heap.size_push]; exact Nat.lt_succ_self _
    · exact AllBare.push (by rw [gen1]; exact e0.bare) rfl
    intro Aw s2 hrw hfr hk2 hos hba
    have e0w : Env0 P w K mg base Aw outer s H := ⟨hfr, e0.mod, e0.bs, e0.bsz, e0.funs, e0.frf, e0.hok, e0.bare⟩
    obtain ⟨t, ht, hq⟩ := hbody Aw outer s H vs Q E [(s1.heap.objs.size, go)] (hrw.deeper _) hsp
    have I1 : Inv (gcxOf P w K mg base N qual scope f cdv Aw outer s H E []) [] (start N vs) H s1 := inv_startG S hrw.hd e0w hl r x
    have kp2 : ∀ b o, s1.heap.get? b = some o → s2.heap.get? b = some o := fun b o e => hk2 b o (Heap.get?_push_of_some _ e)
    have I2 : Inv (gcxOf P w K mg base N qual scope f cdv Aw outer s H E []) [] (start N vs) H s2 :=
      I1.call' (ch := []) (hos.trans os1.symm) (Un.kept kp2) (I1.hok.kept kp2) hba fun b z => by simp at z
    have hea : s2.heap.get? s1.heap.objs.size = some go := hk2 s1.heap.objs.size go hpushed
    have hgd : ∀ v, go.data ≠ .cell v := fun v q => by rw [hgd0] at q; cases q
    have I3 : Inv (gcxOf P w K mg base N qual scope f cdv Aw outer s H E [(s1.heap.objs.size, go)]) [] (start N vs) H s2 := Inv.pinnedG I2 fun p hp => by
      rw [List.append_nil] at hp
      rw [List.mem_singleton.mp hp]
      exact ⟨hea, I1.hok.fresh (Nat.le_refl _), Nat.ne_of_gt lt1, I1.nofs (Nat.le_refl _), hgd⟩
    have pinned : ∀ {σ' : L2.St} {H' : Hp} {s' : Shared}, Inv (gcxOf P w K mg base N qual scope f cdv Aw outer s H E [(s1.heap.objs.size, go)]) [] σ' H' s' → s'.heap.IsGen s1.heap.objs.size s1.gens.size := fun {σ' H' s'} J =>
      hgen _ (J.pin (s1.heap.objs.size, go) (List.mem_append_left _ (List.mem_singleton.mpr rfl))).1
    refine seg_func (seg_execs_cons (seg_wrap ?_))
    rw [over_func]
    refine wpAny_mono (ht.run [] s2 (start N vs) H _ I3 hq) (fun fl s' hs => ?_) fun e s' hx => ?_
    · cases fl with
      | next => obtain ⟨_, _, _, q⟩ := hs; exact False.elim q
      | brk => obtain ⟨_, _, _, q⟩ := hs; exact False.elim q
      | cont => obtain ⟨_, _, _, q⟩ := hs; exact False.elim q
      | ret u =>
        obtain ⟨v, σ', H', J, rv, ev, hQ⟩ := hs
        subst ev
        have eu : u = Value.none := rv
        subst eu
        exact seg_end (.ok (.ret .none)) (.inl ⟨.inl rfl, H', J.os, J.bare, J.base, J.hok, hQ⟩)
    · refine seg_wrap ?_
      rw [over_func]
      refine wpAny_mono (show wpAny (model P w) (Aw.deeper (envOfC qual scope s.heap.objs.size f cdv)) (leaving (envOfC qual scope s.heap.objs.size f cdv) e) (fun _ s'' => CX P w outer H s E e s'' ∧ ∀ p ∈ [(s1.heap.objs.size, go)], s''.heap.get? p.1 = some p.2) (fun _ _ => False) s' from hx) (fun _ s'' q => ?_) fun _ s'' q => q.elim
      exact seg_end (.error e) (.inr ⟨e, rfl, q.1, hgen _ (q.2 (s1.heap.objs.size, go) (List.mem_singleton.mpr rfl))⟩)
  exact main _ _ _ _ rfl rfl rfl fun h => Heap.get?_push_size _ rfl

section
variable {X : Cx} {k j : Nat} {f : Addr} {fd : FuncData} {ps : List Str} {sp : SpG0} {x : Str} {p pos pos' : Pos} {e tg : Expr} {es : List Expr} {body : List Stmt} {t : TA} {W : WX}
/-- a generator def of the text that is walked and hands out nothing -/
structure CalG0 (P : Program) (w : World) (K : PySem.W.Frag) (mg : Str → Option Value) (base : Heap) (k : Nat) (x : Str) (sp : SpG0) : Prop where
  ex : ∃ (f : Addr) (fd : FuncData) (ps : List Str), GFn0 P w K mg base k f fd ps sp ∧ mg x = some (.ref f) ∧ PySem.W.keepIn K (.ref f) = true ∧ Binds K fd ps []
def tForG0 (K : PySem.W.Frag) (sp : SpG0) (W : WX) (t : TA) : TS := fun D σ H => t σ H fun vs H1 => sp vs H1 (fun H' => D.nx σ H') (fun cls d H' => W cls d σ H' ∧ PySem.W.subIn K cls (.type "StopIteration") = some false)
theorem ps_forG0 (c : CalG0 X.prog X.w X.K X.mg X.base k x sp) (hr : Room j X.A) (hk : k + 2 ≤ j) (hg : Gl X x) (tk : Takes X W) (hp : PassesOwn (model X.prog X.w) X.A X.env X.xe) (ha : PA X (e :: es) t)
    (hs : ∀ y, foldedSetIterable (.Call (.Name x p) (e :: es) [] pos') X.env y = pure y := by intro _; rfl)
    (hdb : (x == ("__debug__" : Str)) = false := by decide) (he : starEach (e :: es) X.env = (false, eval e X.env) :: starEach es X.env := by rfl) (hpl : (backTo pos' (starEach es X.env)).any (·.1) = false := by rfl) :
    PS X (.For tg (.Call (.Name x p) (e :: es) [] pos') body [] pos) (tForG0 X.K sp W t) := by
  refine ⟨fun pins s σ H D I h => ?_⟩
  obtain ⟨f, fd, ps, F, hm, kp, b⟩ := c.ex
  refine wpAny_For ?_ hs
  refine wpAny_Call_Name_kw (ld_glob I hg hm ?_ hdb)
  refine PySem.W.callWith_K (h₀ := X.base) I.ok.mod.kin kp (thn (ha.run pos' pins s σ H _ I h) fun us s1 ⟨vs, H1, I1, r, q⟩ => ⟨I1.kIn, ?_⟩) he hpl
  have r2 : Vals (vs ++ []) (us ++ []) := r.append .nil
  have hl2 : (us ++ []).length = ps.length := by rw [← r2.length, List.append_nil]; exact F.len _ _ _ _ q
  have hb2 := b s1 us I1.kIn hl2
  rw [List.append_nil] at hb2
  refine wpAny_call (codeAny_mono (F.run X.A X.stack s1 H1 ⟨us, []⟩ us vs _ _ (hr.mono (by omega)) I1.env0 hb2 r q) fun r s' hq => ?_)
  cases r with
  | error e => exact False.elim hq
  | ok fl =>
    cases fl with
    | next => exact False.elim hq
    | brk => exact False.elim hq
    | cont => exact False.elim hq
    | ret u =>
      obtain ⟨a, g, cc, rfl, ha1, ha2, hgen, hgs, hos, hba, hlim, hkp, wake⟩ := hq
      show wpAny _ _ (pyIter (.ref a)) _ _ _
      refine wpAny_pyIter_gen hgen ?_
      refine codeAny_forLoop_any (fun n s'' => n = 0 ∧ s'' = s') ?_ 0 ⟨rfl, rfl⟩
      rintro n s'' ⟨rfl, rfl⟩
      refine wpAny_passesOwn hp ?_
      have hd : X.A.handled = none := hr.hd
      refine next_genG (n := 1) (F := fun _ _ s1' => ∃ H', s1'.os = s1.os ∧ AllBare s1'.gens ∧ Un (frs X.stack) [] H1 H' s1.heap s1'.heap ∧ HOk X.prog X.w H' s1'.heap ∧ D.nx σ H')
        (Er := fun e s1' => CX X.prog X.w X.stack H1 s1 (fun cls d H' => W cls d σ H' ∧ PySem.W.subIn X.K cls (.type "StopIteration") = some false) e s1' ∧ s1'.heap.IsGen a g)
        (Y := fun _ _ _ _ _ => False) hd hlim hr.depth hgen hgs ?_ (fun _ _ _ _ z => z.elim) (fun s1' hz h' hkk => ?_) fun ee s1' hz => ?_
      · refine ⟨rfl, ?_⟩
        refine wake X.A.in1 _ ?_ ?_ (fun b o z => z) hos ?_
        · exact (Room.in1 (hr.mono (by omega : k + 1 ≤ j)))
        · exact I1.ok.frames
        · exact allBare_setGen hba rfl
      · obtain ⟨H', os1, bare1, un1, hok1, qn⟩ := hz
        have J : Inv X pins σ H' { s1'.setGen g .finished with heap := h' } := by
          exact I1.call' (s' := { s1'.setGen g .finished with heap := h' }) (ch := []) os1 (un1.trans (Un.kept hkk)) (hok1.kept hkk) (allBare_setGen bare1 rfl) (fun b z => by simp at z)
        exact wpAny_execs_nil ⟨σ, H', J, qn⟩
      · obtain ⟨hcx, hg1⟩ := hz
        have kin : X.K.In s1'.heap := by
          obtain ⟨a, B, H', cls, d, _, fl, _, ub, _⟩ := id hcx
          refine I1.ok.mod.kin.keeps fun b o eb => fl.1 b o (ub.keep b o (I1.bs b o eb).1 (I1.bs b o eb).2 fun hm => ?_)
          rcases List.mem_cons.mp (I1.stkSub b hm) with z | z
          · have h1 := Heap.lt_size eb
            have h2 := Nat.le_trans I1.ok.bsz I1.ok.above
            rw [z] at h1
            exact absurd (Nat.lt_of_lt_of_le h1 h2) (Nat.lt_irrefl _)
          · exact I1.ok.nofr eb z
        refine ⟨hg1, notStop_of (fun cls d H z => z.2) kin hcx, ?_⟩
        refine passAt tk σ pins H1 s1 ee _ I1 ?_
        obtain ⟨a, B, H', cls, d, z1, fl, z2, ub, z3, z4, z5, z6⟩ := hcx
        exact ⟨a, B, H', cls, d, z1, fl, z2, ub, z3, z4, allBare_setGen z5 rfl, z6.1⟩
end
/-- .. by its first statement -/
theorem calg0 {P : Program} {w : World} {K : PySem.W.Frag} {mg : Str → Option Value} {base : Heap} {x : Str} {st st0 : Stmt} {rest : List Stmt} {f : Addr} {fd : FuncData} {N ps : List Str} {k : Nat} {sp : SpG0} (F : Fun K x x st f fd) (hm : mg x = some (.ref f)) (b : Binds K fd ps []) (S : GScope N ps (defScope st))
    (len : ∀ vs H Q E, sp vs H Q E → vs.length = ps.length)
    (hbody : ∀ (cdv : Value) (A : Around) (outer : List Env) (s : Shared) (H : Hp) (vs : List V) (Q : Hp → Prop) (E : XK) (pn : List (Addr × Obj)), Room k (A.deeper (envOfC x (defScope st) s.heap.objs.size f cdv)) → sp vs H Q E →
      ∃ t, PS (gcxOf P w K mg base N x (defScope st) f cdv A outer s H E pn) st0 t ∧ t { nx := fun _ _ => False, rt := fun v H' => v = .non ∧ Q H' } (start N vs) H) (hst : defBody st = st0 :: rest) : CalG0 P w K mg base (k + 1) x sp := by
  obtain ⟨oc, od, kV, doc, pm, an, cdv, ct, osl, rfl, lk, hcd⟩ := F.ex
  rw [hst] at lk b
  exact ⟨f, _, ps, gfn0_of lk hcd S len fun A outer s H vs Q E pn hr hsp => hbody cdv A outer s H vs Q E pn hr hsp, hm, F.kp, b⟩
end L2
end

section
set_option Elab.async false
set_option linter.all false
set_option maxRecDepth 100000
set_option maxHeartbeats 1000000
/-! X7: a def that raises nothing, called while an exception is handled (within an except suite) -/
namespace L2
open PySem PySem.Spec PyProof.Rows
structure RoomH (k : Nat) (A : Around) : Prop where
  dp : A.depth + 3 * k + 5 < recursionLimit
  un : A.units + 16 * k + 200 < cLine
theorem Room.hot {k : Nat} {A : Around} (r : Room k A) : RoomH k A := ⟨r.dp, r.un⟩
theorem Room.mark {k : Nat} {A : Around} {v : Option Value} (r : Room k A) : RoomH k (A.mark v) := ⟨r.dp, r.un⟩
theorem RoomH.mono {j k : Nat} {A : Around} (r : RoomH k A) (h : j ≤ k) : RoomH j A := ⟨by have := r.dp; omega, by have := r.un; omega⟩
theorem RoomH.deeper {k : Nat} {A : Around} (r : RoomH (k + 1) A) (env : Env) : RoomH k (A.deeper env) :=
  ⟨by have := r.dp; show A.depth + 1 + 3 * k + 5 < _; omega, by have := r.un; show A.units + 3 + 16 * k + 200 < _; omega⟩
theorem RoomH.depth {k : Nat} {A : Around} (r : RoomH k A) : A.depth < recursionLimit := by have := r.dp; omega
/-- the context of such a def's body -/
def cxH (P : Program) (w : World) (K : PySem.W.Frag) (mg : Str → Option Value) (base : Heap) (N : List Str) (qual : Str) (scope : Scope) (f : Addr) (cd : Value) (A : Around) (outer : List Env) (s : Shared) (H : Hp) : Cx :=
  { cxOf CX0 P w K mg base N qual scope f cd A outer s H (fun _ _ _ => False) with calm := false, xe := fun _ _ => False }
theorem inv_startH {P : Program} {w : World} {K : PySem.W.Frag} {mg : Str → Option Value} {base : Heap} {N ps : List Str} {qual : Str} {scope : Scope} {f : Addr} {cd : Value} {A : Around} {outer : List Env} {s s1 : Shared} {H : Hp} {us : List Value} {vs : List V}
    (S : FnScope N ps scope) (e0 : Env0 P w K mg base A outer s H) (hl : vs.length = ps.length) (r : Vals vs us)
    (x : InCallC s s.heap.objs.size (bindL (envOfC qual scope s.heap.objs.size f cd).kindOf (ps.zip us) fun _ => none) (cellsFrom (s.heap.objs.size + 1) scope.names []) (bindC (envOfC qual scope s.heap.objs.size f cd).kindOf (ps.zip us) fun _ => none) s1) :
    Inv (cxH P w K mg base N qual scope f cd A outer s H) [] (start N vs) H s1 := by
  have I : Inv (cxOf CX0 P w K mg base N qual scope f cd { A with handled := none } outer s H (fun _ _ _ => False)) [] (start N vs) H s1 :=
    inv_start S rfl ⟨e0.frames, e0.mod, e0.bs, e0.bsz, e0.funs, e0.frf, e0.hok, e0.bare⟩ hl r x
  exact ⟨⟨I.ok.mod, I.ok.kind, I.ok.glob, I.ok.blt, I.ok.above, I.ok.inj, I.ok.has, I.ok.cab, (fun z => absurd (show false = true from z) Bool.false_ne_true), Around.frames_deeper e0.frames, I.ok.stk, I.ok.exf, I.ok.bs, I.ok.bsz, I.ok.noex, I.ok.exfs, I.ok.funs, I.ok.frf⟩, I.os, I.bare, I.base, I.loc, I.cell, I.free, I.freeC, I.pin, I.hok, I.len⟩
/-- a def of the text that may be called by its name within a suite -/
structure CalH (P : Program) (w : World) (K : PySem.W.Frag) (mg : Str → Option Value) (base : Heap) (k : Nat) (x : Str) (sp : Sp) : Prop where
  ex : ∃ (f : Addr) (fd : FuncData) (ps : List Str), (∀ vs H Q E, sp vs H Q E → vs.length = ps.length) ∧
    (∀ (A : Around) (outer : List Env) (s : Shared) (H : Hp) (args : Args) (us : List Value) (vs : List V) (Q : VK) (E : XK), RoomH k A → Env0 P w K mg base A outer s H → BindsTo s fd args (ps.zip us) → Vals vs us → sp vs H Q E →
      codeAny (model P w) A (.call (.ref f) args) (CR CX0 outer P w H s Q E) s) ∧ mg x = some (.ref f) ∧ PySem.W.keepIn K (.ref f) = true ∧ Binds K fd ps []
theorem calh {P : Program} {w : World} {K : PySem.W.Frag} {mg : Str → Option Value} {base : Heap} {x : Str} {st : Stmt} {f : Addr} {fd : FuncData} {N ps : List Str} {k : Nat} {sp : Sp} (F : Fun K x x st f fd) (hm : mg x = some (.ref f)) (b : Binds K fd ps []) (S : FnScope N ps (defScope st))
    (len : ∀ vs H Q E, sp vs H Q E → vs.length = ps.length)
    (hbody : ∀ (cdv : Value) (A : Around) (outer : List Env) (s : Shared) (H : Hp) (vs : List V) (Q : VK) (E : XK), RoomH k (A.deeper (envOfC x (defScope st) s.heap.objs.size f cdv)) → sp vs H Q E →
      ∃ t, PSs (cxH P w K mg base N x (defScope st) f cdv A outer s H) (defBody st) t ∧ t { nx := fun _ H' => Q .non H', rt := Q } (start N vs) H) : CalH P w K mg base (k + 1) x sp := by
  obtain ⟨oc, od, kV, doc, pm, an, cdv, ct, osl, rfl, lk, hcd⟩ := F.ex
  refine ⟨f, _, ps, len, fun A outer s H args us vs Q E hr e0 hb r hsp => ?_, hm, F.kp, b⟩
  have hl := len _ _ _ _ hsp
  have KX : K.In s.heap := e0.mod.kin.keeps fun b o e => (e0.bs b o e).1
  have lim : s.heap.NoLimit := e0.mod.nolimit.keeps fun b o e => (e0.bs b o e).1
  have hkind : ∀ y ∈ ps.zip us, (defScope st).names.lookup y.1 = some .local ∨ ((defScope st).names.lookup y.1 = some .cell ∧ ((cellsFrom (s.heap.objs.size + 1) (defScope st).names []).lookup y.1).isSome = true) := fun ⟨n, v⟩ hy => by
    rcases S.par n (List.of_mem_zip hy).1 with q | q
    · exact .inl q
    · exact .inr ⟨q, PySem.W.cellsFrom_some _ _ _ (.inl q)⟩
  refine codeAny_call_function hr.depth (KX _ _ lk) rfl S.co S.gen rfl (PySem.W.codeRec_of KX hcd) (hb _ _ _ _ ?_)
  refine wpAny_newFunctionEnv_cells S.kind hkind fun env he s1 ic => ?_
  subst he
  refine ⟨lim.keeps ic.toInCall.keep, codeAny_func ?_⟩
  obtain ⟨t, ht, hq⟩ := hbody cdv A outer s H vs Q E (hr.deeper _) hsp
  have I := inv_startH (P := P) (w := w) (K := K) (mg := mg) (base := base) (f := f) (cd := cdv) S e0 hl r ic
  refine wpAny_mono (ht.run [] s1 (start N vs) H _ I hq) (fun fl s' hs => ?_) fun e s' hs => hs.elim
  have fin : ∀ {σ' : St} {H' : Hp} {v : V} {u : Value}, Inv (cxH P w K mg base N x (defScope st) f cdv A outer s H) [] σ' H' s' → RelV v u → Q v H' → CE outer P w H s Q u s' :=
    fun {σ' H' v u} J rv q => ⟨v, H', J.os, J.bare, J.base, J.hok, rv, q⟩
  cases fl with
  | ret u =>
    obtain ⟨v, σ', H', J, rv, q⟩ := hs
    exact fin J rv q
  | next =>
    obtain ⟨σ', H', J, q⟩ := hs
    exact fin (v := V.non) (u := Value.none) J rfl q
  | brk =>
    obtain ⟨_, _, _, q⟩ := hs
    exact False.elim q
  | cont =>
    obtain ⟨_, _, _, q⟩ := hs
    exact False.elim q
/-- f(e, ..) -/
theorem pe_ch {X : Cx} {j k : Nat} {x : Str} {sp : Sp} {p pos : Pos} {e : Expr} {es : List Expr} {t : TA} (c : CalH X.prog X.w X.K X.mg X.base k x sp) (hr : RoomH j X.A) (hk : k ≤ j) (hg : Gl X x) (ha : PA X (e :: es) t)
    (hdb : (x == ("__debug__" : Str)) = false := by decide) (he : starEach (e :: es) X.env = (false, eval e X.env) :: starEach es X.env := by rfl) (hpl : (backTo pos (starEach es X.env)).any (·.1) = false := by rfl) :
    PE X (.Call (.Name x p) (e :: es) [] pos) (tCall sp [] (fun _ _ _ => False) t) := by
  obtain ⟨f, fd, ps, len, F, hm, kp, b⟩ := c.ex
  refine ⟨fun pins s σ H Q I h => ?_⟩
  refine wpAny_Call_Name_kw (ld_glob I hg hm ?_ hdb)
  refine PySem.W.callWith_K (h₀ := X.base) I.ok.mod.kin kp (thn (ha.run pos pins s σ H _ I h) fun us s1 ⟨vs, H1, I1, r, q⟩ => ⟨I1.kIn, ?_⟩) he hpl
  have q : sp (vs ++ []) H1 Q (fun _ _ _ => False) := q
  rw [List.append_nil] at q
  have hl : us.length = ps.length := by rw [← r.length]; exact len _ _ _ _ q
  have b' := b s1 us I1.kIn (by rw [List.append_nil]; exact hl)
  rw [List.append_nil] at b'
  refine wpAny_call (codeAny_mono (F X.A X.stack s1 H1 ⟨us, []⟩ us vs Q _ (hr.mono hk) I1.env0 b' r q) fun r s' hq => ?_)
  cases r with
  | error e => exact hq.elim
  | ok fl =>
    cases fl with
    | ret u => exact I1.after hq
    | next => exact False.elim hq
    | brk => exact False.elim hq
    | cont => exact False.elim hq
end L2
end

section
set_option Elab.async false
set_option linter.all false
set_option maxRecDepth 100000
set_option maxHeartbeats 1000000
/-! G13: more readings: truth, slices, tuples put together, texts of classes; an error class that is raised -/
namespace G
open PySem L2

section
variable {B : Bs} {K : FK} {Γ : List (Option Ent)} {H : Hp} {l : List (Option V)} {L : List (Option Ent)} {α β : Type} [Py α] [Py β] {x y : Int} {te ta tb : TE} {i : Nat} {e : Ent}
abbrev tTru (K : FK) (ta : TE) : TT := fun σ H Q => ta σ H fun x H' => ∃ k, TruV K x H' k ∧ Q k H'
theorem rt_truT {xs : List α} (h : RE B Γ te (fz (Tup.mk xs))) : RT B Γ (tTru B.K te) (!xs.isEmpty) := fun σ H τ Δ hl hs E Q k =>
  h σ H τ Δ hl hs E _ fun v H1 E1 => by
    obtain ⟨p, vs, rfl, h2, h3⟩ : ∃ p vs, v = .ref p ∧ H1 p = some (.tup vs) ∧ Reps B.K H1 vs xs := E1.view
    refine ⟨!xs.isEmpty, .inr (.inl ⟨vs, SqT.of h2, ?_⟩), k H1 E1.drop⟩
    cases h3 <;> rfl
theorem rt_truL {xs : List α} (h : RE B Γ te (fz (Lst.mk xs))) : RT B Γ (tTru B.K te) (!xs.isEmpty) := fun σ H τ Δ hl hs E Q k =>
  h σ H τ Δ hl hs E _ fun v H1 E1 => by
    obtain ⟨p, vs, rfl, h2, h3⟩ : ∃ p vs, v = .ref p ∧ H1 p = some (.lst vs) ∧ Reps B.K H1 vs xs := E1.view
    refine ⟨!xs.isEmpty, .inl ⟨vs, SqL.of h2, ?_⟩, k H1 E1.drop⟩
    cases h3 <;> rfl
theorem rts_truO {xs : List α} {S : Ent → Prop} {Sb : Bool → Prop} (h : REs B Γ te S) (ho : ∀ e, S e → ∃ xs : List α, e = ow xs ∧ Sb (!xs.isEmpty)) : RTs B Γ (tTru B.K te) Sb := fun σ H τ Δ hl hs E Q k =>
  h σ H τ Δ hl hs E _ fun ent v H1 s E1 => by
    obtain ⟨xs, rfl, hb⟩ := ho ent s
    obtain ⟨p, vs, rfl, h2, h3⟩ := E1.viewO
    refine ⟨!xs.isEmpty, .inl ⟨vs, SqL.of h2, ?_⟩, k _ H1 hb E1.drop⟩
    cases h3 <;> rfl
theorem re_isi [Cl α] {a : α} {n : String} {b : Bool} (h : RE B Γ te (fz a)) (hb : kitB (Cl.ty α) n = some b) : RE B Γ (tCB (rIsi B.K) (tCons te (tCons (tC (.ty n)) tNil))) (fz b) := re_cb (ra_cons h (ra_cons re_cT ra_nil)) (cb_isi hb)
/-- not isinstance(..) or .., where it isn't -/
theorem rt_ni1 [Cl α] {a : α} {n : String} {tu : TT} (h : RE B Γ te (fz a)) (hb : kitB (Cl.ty α) n = some false) : RT B Γ (tOr (tNot (tB (tCB (rIsi B.K) (tCons te (tCons (tC (.ty n)) tNil))))) tu) true :=
  rt_or (a := true) (b := true) (rt_not (a := false) (rt_B (re_isi h hb))) (fun h => nomatch h)
theorem rt_ni0 [Cl α] {a : α} {n : String} {tu : TT} {c : Bool} (h : RE B Γ te (fz a)) (hb : kitB (Cl.ty α) n = some true) (hu : RT B Γ tu c) : RT B Γ (tOr (tNot (tB (tCB (rIsi B.K) (tCons te (tCons (tC (.ty n)) tNil))))) tu) c :=
  rt_or (a := false) (b := c) (rt_not (a := true) (rt_B (re_isi h hb))) (fun _ => hu)
/-- a slice -/
def cutG {α : Type} (xs : List α) (lo hi : Option Int) : List α := (xs.drop (HT.sIx xs.length 0 lo)).take (HT.sIx xs.length xs.length hi - HT.sIx xs.length 0 lo)
theorem cutG_len {α : Type} (xs : List α) (lo hi : Option Int) : (cutG xs lo hi).length ≤ xs.length := by
  unfold cutG
  rw [List.length_take, List.length_drop]
  omega
theorem cut_reps {vs : List V} {xs : List α} {lo hi : Option Int} (h : Reps K H vs xs) : Reps K H (cutV vs lo hi) (cutG xs lo hi) := by
  unfold cutV cutG
  rw [h.length]
  exact (h.drop _).take _
theorem re_slS {ns : List Int} (h : RE B Γ te (fz (Scr.mk ns))) (hb : RE B Γ tb (fz y)) : RE B Γ (tSl (rSlL B.K) te tNoPart (tPart tb)) (ow (cutG ns none (some y))) := fun σ H τ Δ hl hs E Q k =>
  h σ H τ Δ hl hs E _ fun v H1 E1 => hb σ H1 (some v :: τ) (some (fz (Scr.mk ns)) :: Δ) (by simp [hl]) hs E1 _ fun w H2 E2 => by
    have ew : w = .int y := E2.view
    obtain ⟨p, rfl, h2⟩ : ∃ p, v = .ref p ∧ SqL B.K H2 p (ns.map V.int) := E2.drop.view
    refine ⟨y, ew, p, _, rfl, h2, fun q hq => k _ _ (Env.drop1 (Env.drop1 (E2.newO (o := .lst (cutV (ns.map V.int) none (some y))) hq fun Hf _ s kn => ⟨q, _, rfl, rfl, upd_same, cut_reps (Reps.of_ints ns)⟩)))⟩
theorem re_slL0 {xs : List α} (h : RE B Γ te (fz (Lst.mk xs))) (hb : RE B Γ tb (fz y)) : RE B Γ (tSl (rSlL B.K) te tNoPart (tPart tb)) (ow (cutG xs none (some y))) := fun σ H τ Δ hl hs E Q k =>
  h σ H τ Δ hl hs E _ fun v H1 E1 => hb σ H1 (some v :: τ) (some (fz (Lst.mk xs)) :: Δ) (by simp [hl]) hs E1 _ fun w H2 E2 => by
    have ew : w = .int y := E2.view
    obtain ⟨p, vs, rfl, h2, _⟩ : ∃ p vs, v = .ref p ∧ H2 p = some (.lst vs) ∧ Reps B.K H2 vs xs := E2.drop.view
    refine ⟨y, ew, p, _, rfl, SqL.of h2, fun q hq => k _ _ (Env.drop1 (Env.drop1 (E2.newO (o := .lst (cutV vs none (some y))) hq fun Hf _ s kn => ?_)))⟩
    obtain ⟨p', us, z1, z2, z3⟩ := Env.know1 (e := fz y) kn
    cases z1
    have : us = vs := by
      have := s _ _ z2
      rw [h2] at this
      cases this; rfl
    subst this
    exact ⟨q, _, rfl, rfl, upd_same, cut_reps z3⟩
/-- a tuple n times -/
theorem os_repT {xs : List α} {n : Int} (hne : xs ≠ []) (h1 : 2 ≤ n) (h2 : n ≤ 1000) (hz : xs.length ≤ 1000) : OpS K (rRepT K) (fz (Tup.mk xs)) (fz n) (fz (Tup.mk (List.replicate n.toNat xs).flatten)) := fun B H l L vx vy ek E Q k => by
  subst ek
  have e2 : vy = .int n := E.view
  obtain ⟨p, vs, rfl, h3, h4⟩ : ∃ p vs, vx = .ref p ∧ H p = some (.tup vs) ∧ Reps B.K H vs xs := E.drop.view
  have hnv : vs ≠ [] := fun z => hne (by
    have := h4.length
    rw [z] at this
    exact List.length_eq_zero_iff.mp this.symm)
  refine ⟨p, n, vs, rfl, e2, SqT.of h3, hnv, h1, h2, by rw [h4.length]; exact hz, fun q hq => k _ _ (Env.drop1 (Env.drop1 (E.new (o := .tup (List.replicate n.toNat vs).flatten) hq fun Hf _ s kn => ?_)))⟩
  obtain ⟨p', us, z1, z2, z3⟩ := Env.know1 kn
  cases z1
  have : us = vs := by
    have := s _ _ z2
    rw [h3] at this
    cases this; rfl
  subst this
  have rr : ∀ m, Reps B.K Hf (List.replicate m us).flatten (List.replicate m xs).flatten := fun m => by
    induction m with
    | zero => exact .nil
    | succ m ih =>
      rw [List.replicate_succ, List.replicate_succ, List.flatten_cons, List.flatten_cons]
      exact z3.append ih
  have hs : Same Hf (upd Hf q (.tup (List.replicate n.toNat us).flatten)) := fun a u z => by rw [upd_ne (ne_of_none z (s.free hq))]; exact z
  exact ⟨rfl, q, _, rfl, upd_same, (rr _).mono hs⟩
/-- two tuples, one behind the other -/
theorem os_catT {xs ys : List α} (hz : xs.length + ys.length ≤ 10000) : OpS K (rCatA K) (fz (Tup.mk xs)) (fz (Tup.mk ys)) (fz (Tup.mk (xs ++ ys))) := fun B H l L vx vy ek E Q k => by
  subst ek
  obtain ⟨b, ws, rfl, h5, h6⟩ : ∃ p vs, vy = .ref p ∧ H p = some (.tup vs) ∧ Reps B.K H vs ys := E.view
  obtain ⟨p, vs, rfl, h3, h4⟩ : ∃ p vs, vx = .ref p ∧ H p = some (.tup vs) ∧ Reps B.K H vs xs := E.drop.view
  have e0 : vs = [] ↔ xs = [] := by
    have := h4.length
    constructor <;> intro z <;> subst z
    · exact List.length_eq_zero_iff.mp this.symm
    · exact List.length_eq_zero_iff.mp this
  have e1 : ws = [] ↔ ys = [] := by
    have := h6.length
    constructor <;> intro z <;> subst z
    · exact List.length_eq_zero_iff.mp this.symm
    · exact List.length_eq_zero_iff.mp this
  refine ⟨p, b, vs, ws, rfl, rfl, SqT.of h3, SqT.of h5, by rw [h4.length, h6.length]; exact Nat.le_trans hz (by decide), fun z => ?_, fun z1 z2 => ?_, fun z1 z2 q hq => ?_⟩
  · have := e0.mp z
    have E' := E.drop1
    rw [show ys = xs ++ ys by rw [this]; rfl] at E'
    exact k _ _ E'
  · have := e1.mp z2
    have E' := E.drop
    rw [show xs = xs ++ ys by rw [this, List.append_nil]] at E'
    exact k _ _ E'
  · refine k _ _ (Env.drop1 (Env.drop1 (E.new (o := .tup (vs ++ ws)) hq fun Hf _ s kn => ?_)))
    obtain ⟨p', us, y1, y2, y3⟩ := Env.know1 kn
    obtain ⟨b', us2, x1, x2, x3⟩ := Env.know0 kn
    cases y1
    cases x1
    have a1 : us = vs := by
      have := s _ _ y2
      rw [h3] at this
      cases this; rfl
    have a2 : us2 = ws := by
      have := s _ _ x2
      rw [h5] at this
      cases this; rfl
    subst a1; subst a2
    have hs : Same Hf (upd Hf q (.tup (us ++ us2))) := fun a u z => by rw [upd_ne (ne_of_none z (s.free hq))]; exact z
    exact ⟨rfl, q, _, rfl, upd_same, (y3.append x3).mono hs⟩
/-- tuple(xs), xs in slot i, still owned -/
theorem re_tupV {xs : List α} (hx : Γ[i]? = some (some (ow xs))) : RE B Γ (tCB (rTupQ B.K) (tCons (tVar i) tNil)) (fz (Tup.mk xs)) := fun σ H τ Δ hl hs E Q k => by
  obtain ⟨p, vs, h1, h2, h3⟩ := E.slotO hl hx
  refine ⟨.ref p, h1, p, vs, rfl, .inl ⟨SqL.of h2, fun q hq => k _ _ (E.new (o := .tup vs) hq fun Hf _ s kn => ?_)⟩⟩
  obtain ⟨v', fp, z1, p2, us, z2, z3, z4, z5⟩ := kn (Δ.length + i) (ow xs) (by rw [slot_shiftE]; exact hx)
  rw [← hl, slot_shift, h1] at z1
  cases z1
  cases z2
  have a1 : us = vs := by
    rw [h2] at z4
    cases z4; rfl
  subst a1
  have hs : Same Hf (upd Hf q (.tup us)) := fun a u z => by rw [upd_ne (ne_of_none z (s.free hq))]; exact z
  exact ⟨rfl, q, _, rfl, upd_same, z5.mono hs⟩
theorem os_fdivB {x y : Int} (h1 : 0 < y) (h2 : y.natAbs.log2 < 9000) : OpS K (rI (fun _ j => 0 < j ∧ j.natAbs.log2 < 9000) fun i j => .int (i / j)) (fz x) (fz y) (fz (x / y)) := os_I ⟨h1, h2⟩ fun _ _ => rfl
/-- the i-th item with its place -/
def pairAt (xs : List α) (i : Nat) : Ent := match xs[i]? with
  | some x => fz ((i : Int), x)
  | none => anyE
theorem pairAt_of {xs : List α} {x : α} {i : Nat} (h : xs[i]? = some x) : pairAt xs i = fz ((i : Int), x) := by unfold pairAt; rw [h]
theorem pair_new {H : Hp} {l : List (Option V)} {L : List (Option Ent)} {x : α} {v : V} {i : Nat} {p : Addr} (E : Env B H (some v :: l) (some (fz x) :: L)) (hp : H p = none) :
    Env B (upd H p (.tup [.int (i : Nat), v])) (some (.ref p) :: l) (some (fz ((i : Int), x)) :: L) :=
  Env.drop1 (E.new (o := .tup [.int (i : Nat), v]) hp fun Hf _ s kn =>
    have hs : Same Hf (upd Hf p (.tup [.int (i : Nat), v])) := fun a u z => by rw [upd_ne (ne_of_none z (s.free hp))]; exact z
    ⟨rfl, p, _, _, rfl, upd_same, rfl, Py.mono hs (Env.know0 kn)⟩)
theorem ri_enumT {xs : List α} {ta : TA} (h : RA B Γ ta [fz (Tup.mk xs)]) : RI B Γ (iEnumT B.K ta) [fz (Tup.mk xs)] xs.length (pairAt xs) := fun σ H τ Δ hl hs E R k =>
  h σ H τ Δ hl hs E _ fun vs H1 hv E1 => by
    obtain ⟨v, rfl, E1⟩ := one_arg hv E1
    obtain ⟨p, us, rfl, h2, h3⟩ : ∃ p vs, v = .ref p ∧ H1 p = some (.tup vs) ∧ Reps B.K H1 vs xs := E1.view
    refine ⟨p, us, rfl, SqT.of h2, k _ H1 [.ref p] rfl E1 ⟨fun l L i H2 E2 hi => ?_, fun l L i H2 E2 hi => ?_⟩⟩
    · have E2 : Env B H2 (some (.ref p) :: l) (some (fz (Tup.mk xs)) :: L) := E2
      have hx : xs[i]? = some xs[i] := by simp [hi]
      obtain ⟨v, ⟨us', q1, q2⟩, E3⟩ := E2.pushX (e := fz xs[i]) (R := fun v => ∃ us, SqT B.K H2 p us ∧ us[i]? = some v) fun Hf _ s kn => by
        obtain ⟨p', us', z1, z2, z3⟩ := Env.know0 kn
        cases z1
        obtain ⟨v, y1, y2⟩ := z3.get hx
        exact ⟨v, ⟨us', SqT.of (s _ _ z2), y1⟩, rfl, y2⟩
      refine ⟨⟨us', v, q1, q2⟩, ?_⟩
      rintro y H3 ⟨T, x', rfl, hT, rfl, hy⟩
      have := hy us' q1
      rw [q2] at this
      cases this
      rw [pairAt_of hx]
      exact pair_new E3 hT
    · obtain ⟨p', us', z1, z2, z3⟩ : ∃ p' vs, V.ref p = .ref p' ∧ H2 p' = some (.tup vs) ∧ Reps B.K H2 vs xs := Env.view (l := l) (L := L) E2
      cases z1
      exact ⟨us', SqT.of z2, by rw [z3.length]; exact hi⟩
end
end G
namespace L2
open PySem PySem.Spec PyProof.Rows
section
variable {X : Cx}
/-- // by a positive divisor of less than 9000 bits -/
theorem op_fdivB : OpR X (binaryOp .FloorDiv) (rI (fun _ j => 0 < j ∧ j.natAbs.log2 < 9000) fun i j => .int (i / j)) := opI fun i j _ _ _ _ _ hc q => by
  have h1 : (0 : Int) < j := hc.1
  exact floordiv_int (by omega) (by rw [Int.fdiv_eq_ediv_of_nonneg i (by omega)]; exact q) (.inl (PyProof.noPylong_of_log2 hc.2))
/-- an own error class with one field that may be raised by its name -/
structure Err1 (P : Program) (w : World) (K : PySem.W.Frag) (mg : Str → Option Value) (base : Heap) (k : Nat) (x : Str) (C : Addr) (fld : Str) : Prop where
  ex : ∃ (fI : Addr) (fd : FuncData) (ps : List Str), OexC K C ∧ PySem.W.findIn K (.ref C) "__init__" = some (some (.ref fI)) ∧ PySem.W.typeIn K (.ref fI) = some (.type "function") ∧
    FnOk P w K mg base CX0 k fI fd ps (G.spI1 C fld) ∧ Binds K fd ps [] ∧ mg x = some (.ref C)
theorem pmk_e1 {j k : Nat} {x : Str} {C : Addr} {fld : Str} {p pos : Pos} {e : Expr} {es : List Expr} {ta : TA} (c : Err1 X.prog X.w X.K X.mg X.base k x C fld) (hr : Room j X.A) (hk : k + 1 ≤ j) (hg : Gl X x) (ha : PA X (e :: es) ta)
    (hdb : (x == ("__debug__" : Str)) = false := by decide) (he : starEach (e :: es) X.env = (false, eval e X.env) :: starEach es X.env := by rfl) (hpl : (backTo pos (starEach es X.env)).any (·.1) = false := by rfl) :
    PMk X (.Call (.Name x p) (e :: es) [] pos) (tMkO C (G.spI1 C fld) [] ta) := by
  obtain ⟨fI, fd, ps, T, iC, tI, F, b, hm⟩ := c.ex
  exact pmk_oex T iC tI F (hr.mono hk) b .nil pass0 hg hm ha hdb he hpl
end
end L2
end

section
set_option Elab.async false
set_option linter.all false
set_option maxRecDepth 100000
set_option maxHeartbeats 1000000
/-! G14: defs that always raise, generators that raise at once, try .. except over an environment -/
namespace G
open PySem L2
theorem Ent.ext' {e e' : Ent} (h : ∀ K Hf H v fp, e.P K Hf H v fp ↔ e'.P K Hf H v fp) : e = e' := by
  obtain ⟨p, l⟩ := e
  obtain ⟨p', l'⟩ := e'
  have : p = p' := by
    funext K Hf H v fp
    exact propext (h K Hf H v fp)
  subst this
  rfl
section
variable {B : Bs} {Γ Γ' : List (Option Ent)} {D : GE} {t : TS} {te : TE} {W : WX} {S : Ent → Prop} {Sa : List Ent → Prop} {A : Type} {args : A → List Ent} {pre : A → Prop} {post : A → Ent → Prop} {perr : A → Addr → List (Str × V) → Prop} {E : XK} {i : Nat}
theorem rs_dropK (h : REs B Γ te S) (k : ∀ e, S e → D.nx Γ) : RS B Γ (tDrop te) D := fun σ H τ Δ hl hs E D' C =>
  h σ H τ Δ hl hs E _ fun e v H' s E' => C.nx _ _ H' (k e s) hs E'.drop
theorem rts_truF (h : REs B Γ te S) (hS : ∀ e, ¬ S e) : RTs B Γ (tTru B.K te) (fun _ => False) := fun σ H τ Δ hl hs E Q k =>
  h σ H τ Δ hl hs E _ fun e v H' s E' => (hS e s).elim
theorem rs_forG0 {sp : Sp} {ta : TA} (h : REs B Γ (tCallS sp (WE fun cls d σ H => W cls d σ H ∧ PySem.W.subIn B.K cls (.type "StopIteration") = some false) ta) (fun _ => False)) :
    RS B Γ (tForG0 B.K (fun vs H _ E => sp vs H (fun _ _ => False) E) W ta) D := fun σ H τ Δ hl hs E D' C =>
  h σ H τ Δ hl hs E (fun _ _ => False) fun _ _ _ s _ => s.elim
theorem Thr.and {C : Addr} {fs : List (Str × V)} {p : Value → Prop} (h : Thr B Γ W C fs) (hp : p (.ref C)) : Thr B Γ (fun cls d σ H => W cls d σ H ∧ p cls) C fs := fun σ H τ Δ d hl hs E => ⟨h σ H τ Δ d hl hs E, hp⟩
/-- .. kept by its body, whatever is wanted behind it -/
theorem walkXF {K : FK} {N : List Str} {vs : List V} {H : Hp} {Q : VK} (h : spX K args pre (fun _ _ => False) perr vs H Q E) (hN : ∀ a, (args a).length ≤ N.length) (D' : Ends)
    (hr : ∀ (a : A) (B : Bs), B.K = K → pre a → (∀ C fs Γ, perr a C fs → Thr B Γ (wE E) C fs) → RS B (g0 N (args a)) t { nx := fun _ => False, rt := fun _ _ => False }) : t D' (L2.start N vs) H := by
  obtain ⟨a, Hf, hp, hl, s, hv, k, kx⟩ := h
  have hsl : (L2.start N vs).length = (g0 N (args a)).length := by
    unfold L2.start g0
    simp [hl]
  have E0 : Env ⟨K, H, Hf, []⟩ H (L2.start N vs) (g0 N (args a)) := by
    refine ⟨Hf, fun _ => [], Same.refl _, s, fun i j x h1 _ => absurd h1 (by simp), fun i x h1 => absurd h1 (by simp), fun x o _ h2 => h2, fun x h1 h2 => ?_, fun i e q => ?_⟩
    · rcases h1 with h1 | ⟨i, h1⟩
      · exact absurd h2 h1
      · simp at h1
    · unfold g0 at q
      by_cases hi : i < (args a).length
      · rw [List.getElem?_append_left (by simpa using hi), List.getElem?_map] at q
        cases z : (args a)[i]? with
        | none => rw [z] at q; simp at q
        | some e' =>
          rw [z] at q
          have : e' = e := by simpa using q
          subst this
          obtain ⟨v, h1, h2⟩ := hv i e' z
          refine ⟨v, ?_, h2⟩
          unfold L2.start
          rw [List.getElem?_append_left (by simpa [hl] using hi), List.getElem?_map, h1]; rfl
      · rw [List.getElem?_append_right (by simpa using hi), List.getElem?_replicate] at q
        split at q <;> simp at q
  exact hr a ⟨K, H, Hf, []⟩ rfl hp (fun C fs Γ po => Thr.fn fun d H' s1 s2 s3 => kx C fs d H' po s1 s2 s3) (L2.start N vs) H [] [] rfl hsl E0 _ ⟨fun _ _ _ h => h.elim, fun _ _ _ _ _ h => h.elim, fun _ _ _ h => h.elim, fun _ _ _ h => h.elim⟩

/-! ### within an except suite -/
theorem hf0_at {H : Hp} {l : List (Option V)} {d : Addr} {o : HO} (E : Env B H l Γ) (h : B.Hf0 d = some o) : H d = some o := by
  obtain ⟨Hf, F, E⟩ := E
  exact E.b1 _ _ (E.b0 _ _ h)
/-- isinstance(e, C) of the caught error e -/
theorem re_isEd {a d D c : Addr} {fs : List (Str × V)} {b : Bool} (hd : B.Hf0 d = some (.xd fs)) (X : ExcC B.K D) (hk : PySem.W.kitOne B.K (.ref D) (.ref c) = some b) (h : RE B Γ te (fz (V.ref a))) :
    RE B Γ (tCB (rIsEd B.K a (.ref D) (some d)) (tCons te (tCons (tC (.ref c)) tNil))) (fz b) := fun σ H τ Δ hl hs E Q k =>
  h σ H τ Δ hl hs E _ fun v H1 E1 => by
    have ev : v = .ref a := E1.view
    subst ev
    exact ⟨D, .ref c, .ref c, b, rfl, X, rfl, fun u r => r, hk, .inr ⟨d, fs, rfl, hf0_at E1 hd⟩, k _ _ E1.drop.pushB⟩
theorem re_isEdT {a d D : Addr} {n : String} {fs : List (Str × V)} {b : Bool} (hd : B.Hf0 d = some (.xd fs)) (X : ExcC B.K D) (hk : PySem.W.kitOne B.K (.ref D) (.type n) = some b) (h : RE B Γ te (fz (V.ref a))) :
    RE B Γ (tCB (rIsEd B.K a (.ref D) (some d)) (tCons te (tCons (tC (.ty n)) tNil))) (fz b) := fun σ H τ Δ hl hs E Q k =>
  h σ H τ Δ hl hs E _ fun v H1 E1 => by
    have ev : v = .ref a := E1.view
    subst ev
    exact ⟨D, .ty n, .type n, b, rfl, X, rfl, fun u r => r, hk, .inr ⟨d, fs, rfl, hf0_at E1 hd⟩, k _ _ E1.drop.pushB⟩
/-- e.f, an int -/
theorem re_xf {a d C : Addr} {f : Str} {fs : List (Str × V)} {n : Int} (hd : B.Hf0 d = some (.xd fs)) (hf : fs.lookup f = some (.int n)) (h : RE B Γ te (fz (V.ref a))) :
    RE B Γ (tXf a (.ref C) (some d) C f te) (fz n) := fun σ H τ Δ hl hs E Q k =>
  h σ H τ Δ hl hs E _ fun v H1 E1 => by
    have ev : v = .ref a := E1.view
    subst ev
    exact ⟨rfl, rfl, d, fs, .int n, rfl, hf0_at E1 hd, hf, k _ _ E1.drop.pushI⟩
theorem set_get {α : Type} {l : List α} {i j : Nat} {x : α} (h : j ≠ i) : (l.set i x)[j]? = l[j]? := List.getElem?_set_ne (Ne.symm h)
/-- try: f(..) / except C as e: suite / except ..: where the suite returns -/
theorem rs_tryAs {ta : TA} {c : Value} {ts : Addr → Value → Option Addr → TS} {l : List ClT} {Wout : WX} (h : RAs B Γ ta Sa) (hF : Frz Γ Γ') (hi : i < Γ.length)
    (ho : ∀ es, Sa es → ∃ a : A, args a = es ∧ FzL es ∧ pre a ∧ (∀ ent, post a ent → D.nx Γ) ∧
      ∀ C fs, perr a C fs → PySem.W.exmOne B.K (.ref C) c = some true ∧ ∀ (B' : Bs) (d ad : Addr), B'.K = B.K → B'.Hf0 d = some (.xd fs) →
        RS B' (Γ'.set i (some (fz (V.ref ad)))) (ts ad (.ref C) (some d)) { nx := fun _ => False, rt := fun e _ => NoF e ∧ D.rt e Γ }) :
    RS B Γ (fun D' σ H => tDrop (tCallS (spX B.K args pre post perr) (WE (wMix B.K Wout D' ((some i, c, ts) :: l))) ta) D' σ H) D := fun σ H τ Δ hl hs E0 D' Cv =>
  h σ H τ Δ hl hs E0 _ fun es vs H1 s1 hv E1 => by
    obtain ⟨a, rfl, hfz, hp, hpost, hthr⟩ := ho es s1
    have E1' := E1
    obtain ⟨Hf, F, E1⟩ := E1
    have kn : Known B.K Hf H1 ((vs.map some).reverseAux (τ ++ σ)) (((args a).map some).reverseAux (Δ ++ Γ)) := fun k e' q => by
      obtain ⟨v', h1, h2⟩ := E1.hold k e' q
      exact ⟨v', F k, h1, h2⟩
    refine ⟨a, Hf, hp, hv, E1.b1, fun i e q => ?_, fun v ent H' Hf' fp po s1 s2 s3 fr ow q => Cv.nx _ _ H' (hpost ent po) hs (Env.drop (call_fin hv E1 s1 s2 s3 fr ow q)), fun C fs d H' po s1 s2 s3 => ?_⟩
    · obtain ⟨v, fp, h1, h2⟩ := Known.arg hv kn q
      exact ⟨v, h1, hfz.at q _ _ _ _ _ h2⟩
    · obtain ⟨he, suite⟩ := hthr C fs po
      have E2 : Env B H' (τ ++ σ) (Δ ++ Γ) := (Env.dropA hv E1').grow s1
      refine ⟨true, he, fun _ ad had => ?_, fun q => nomatch q⟩
      have E3 := frz_env hl hF E2
      have E4 : Env ⟨B.K, H', H', []⟩ H' ([] ++ σ.set i (some (.ref ad))) ([] ++ Γ'.set i (some (fz (V.ref ad)))) :=
        Env.putS (τ := []) (Δ := []) rfl (by rw [hs, hF.len]) (by rw [← hF.len]; exact hi) (Env.pushS (x := V.ref ad) (v := V.ref ad) E3 rfl)
      refine suite ⟨B.K, H', H', []⟩ d ad rfl s3 (σ.set i (some (.ref ad))) H' [] [] rfl (by simp [hs, hF.len]) E4 _ ⟨fun _ _ _ z => z.elim, fun v ent Γ2 σ2 H2 q hs2 E5 => ?_, fun _ _ _ z => z.elim, fun _ _ _ z => z.elim⟩
      exact Cv.rt v ent Γ σ H2 q.2 hs (frz_back E2 E5 q.1)
/-! ### reading lists that stay owned -/
section
variable {α : Type} [Py α] {xs : List α} {e : Ent} {x : α} {n : Int} {ti : TE} {j : Nat}
theorem isl_at {H : Hp} {σ : L2.St} {τ : List (Option V)} {Δ : List (Option Ent)} (hl : τ.length = Δ.length) (hx : Γ[i]? = some (some e)) (he : IsL e xs) (E : Env B H (τ ++ σ) (Δ ++ Γ)) :
    ∃ p vs, σ[i]? = some (some (.ref p)) ∧ H p = some (.lst vs) ∧ Reps B.K H vs xs := by
  obtain ⟨v, Hf, fp, h1, _, s, h2⟩ := E.top (i := τ.length + i) (e := e) (by rw [hl, slot_shiftE]; exact hx)
  obtain ⟨p, vs, h3, _, h4, h5⟩ := he _ _ _ _ _ h2
  rw [slot_shift, h3] at h1
  exact ⟨p, vs, h1, h4, h5.mono s⟩
theorem re_ixV (hx : Γ[j]? = some (some e)) (he : IsL e xs) (hi : RE B Γ ti (fz n)) (h : atI xs n = some x) : RE B Γ (tOp (rIxL B.K) (tVar j) ti) (fz x) := fun σ H τ Δ hl hs E Q k => by
  obtain ⟨p, vs, h1, h2, h3⟩ := isl_at hl hx he E
  refine ⟨.ref p, h1, hi σ H τ Δ hl hs E _ fun w H1 E1 => ?_⟩
  have ew : w = .int n := E1.view
  obtain ⟨v, ⟨us, q2, q3⟩, E2⟩ := E1.drop.pushX (e := fz x) (R := fun v => ∃ us, H1 p = some (.lst us) ∧ atI us n = some v) fun Hf _ s kn => by
    obtain ⟨v', fp, z1, z2⟩ := kn (Δ.length + j) e (by rw [slot_shiftE]; exact hx)
    obtain ⟨p2, us2, z3, _, z4, z5⟩ := he _ _ _ _ _ z2
    rw [← hl, slot_shift, h1, z3] at z1
    cases z1
    obtain ⟨v, y1, y2⟩ := atI_reps z5 h
    exact ⟨v, ⟨us2, z4, y1⟩, rfl, y2⟩
  exact ⟨p, us, n, v, rfl, ew, SqL.of q2, q3, k _ _ E2⟩
theorem re_lenV (hx : Γ[j]? = some (some e)) (he : IsL e xs) : RE B Γ (tCB (rLenQ B.K) (tCons (tVar j) tNil)) (fz (xs.length : Int)) := fun σ H τ Δ hl hs E Q k => by
  obtain ⟨p, vs, h1, h2, h3⟩ := isl_at hl hx he E
  refine ⟨.ref p, h1, p, vs, rfl, .inl (SqL.of h2), ?_⟩
  rw [h3.length]
  exact k _ _ E.pushI
end
end
section
variable {B : Bs} {Γ : List (Option Ent)} {D : GE} {te : TE} {i : Nat}
/-- x *= e -/
theorem rs_augM {x y : Int} (hx : Γ[i]? = some (some (fz x))) (h : RE B Γ te (fz y)) (hc : CMul x y) (k : D.nx (Γ.set i (some (fz (x * y))))) : RS B Γ (tAug i te (rI CMul fun i j => .int (i * j))) D := fun σ H τ Δ hl hs E D' C => by
  have hi : i < Γ.length := (List.getElem?_eq_some_iff.mp hx).1
  obtain ⟨v, Hf, fp, h1, _, _, h2⟩ := E.top (i := τ.length + i) (e := fz x) (by rw [hl, slot_shiftE]; exact hx)
  rw [slot_shift] at h1
  have ev : v = .int x := h2.2
  subst ev
  refine ⟨.int x, h1, h σ H τ Δ hl hs E _ fun w H' E' => ?_⟩
  have ew : w = .int y := E'.view
  exact ⟨x, y, rfl, ew, hc, C.nx _ _ H' k (by simp [hs]) (E'.drop.pushI.putS hl hs hi)⟩
end
section
variable {B : Bs} {Γ : List (Option Ent)} {D : GE} {i j : Nat} {e : Ent}
/-- what slot j stands for goes on top, the slot is forgotten -/
theorem Env.move {H : Hp} {l : List (Option V)} {L : List (Option Ent)} {v : V} (E : Env B H l L) (hx : L[j]? = some (some e)) (hv : l[j]? = some (some v)) : Env B H (some v :: l) (some e :: L.set j none) := by
  obtain ⟨Hf, F, E⟩ := E
  have hj : j < L.length := (List.getElem?_eq_some_iff.mp hx).1
  refine ⟨Hf, fun m => match m with | 0 => F j | k + 1 => if k = j then [] else F k, E.b0, E.b1, ?_, ?_, E.keep, ?_, ?_⟩
  · intro m m' a h1 h2
    cases m with
    | zero =>
      cases m' with
      | zero => rfl
      | succ k =>
        by_cases z : k = j
        · simp [z] at h2
        · simp only [if_neg z] at h2
          exact absurd (E.dj _ _ a h1 h2).symm z
    | succ k =>
      by_cases z : k = j
      · simp [z] at h1
      · simp only [if_neg z] at h1
        cases m' with
        | zero => exact absurd (E.dj _ _ a h1 h2) z
        | succ k' =>
          by_cases y : k' = j
          · simp [y] at h2
          · simp only [if_neg y] at h2
            exact congrArg _ (E.dj _ _ a h1 h2)
  · intro m a h1
    cases m with
    | zero => exact E.own _ a h1
    | succ k =>
      by_cases z : k = j
      · simp [z] at h1
      · simp only [if_neg z] at h1
        exact E.own _ a h1
  · intro a h1 h2
    refine E.fresh a ?_ h2
    rcases h1 with h1 | ⟨m, h1⟩
    · exact .inl h1
    · cases m with
      | zero => exact .inr ⟨_, h1⟩
      | succ k =>
        by_cases z : k = j
        · simp [z] at h1
        · simp only [if_neg z] at h1
          exact .inr ⟨_, h1⟩
  · intro m e0 q
    cases m with
    | zero =>
      have : e = e0 := by simpa using q
      subst this
      obtain ⟨v', h1, h2⟩ := E.hold j e hx
      rw [hv] at h1
      cases h1
      exact ⟨v, rfl, h2⟩
    | succ k =>
      have q : (L.set j none)[k]? = some (some e0) := by simpa using q
      by_cases z : k = j
      · subst z
        rw [List.getElem?_set_self hj] at q
        cases q
      · rw [List.getElem?_set_ne (Ne.symm z)] at q
        obtain ⟨v', h1, h2⟩ := E.hold k e0 q
        refine ⟨v', by simpa using h1, ?_⟩
        simp only [if_neg z]
        exact h2
theorem Env.moveS {H : Hp} {σ : L2.St} {τ : List (Option V)} {Δ : List (Option Ent)} (hl : τ.length = Δ.length) (hx : Γ[j]? = some (some e)) (E : Env B H (τ ++ σ) (Δ ++ Γ)) : ∃ v, σ[j]? = some (some v) ∧ Env B H (some v :: (τ ++ σ)) (some e :: (Δ ++ Γ.set j none)) := by
  have hx' : (Δ ++ Γ)[Δ.length + j]? = some (some e) := by rw [slot_shiftE]; exact hx
  obtain ⟨v, Hf, fp, h1, _⟩ := E.top hx'
  have E' := Env.move E hx' h1
  rw [set_shift] at E'
  rw [← hl, slot_shift] at h1
  exact ⟨v, h1, E'⟩
/-- return x, x given away -/
theorem rs_retO (hx : Γ[j]? = some (some e)) (k : D.rt e (Γ.set j none)) : RS B Γ (tRet (tVar j)) D := fun σ H τ Δ hl hs E D' C => by
  obtain ⟨v, h1, E'⟩ := E.moveS hl hx
  exact ⟨v, h1, C.rt v e _ σ H k (by simp [hs]) E'⟩
/-- y = x, x given away -/
theorem rs_asgO (hx : Γ[j]? = some (some e)) (hi : i < Γ.length) (k : D.nx ((Γ.set j none).set i (some e))) : RS B Γ (tAsg (tVar j) (gName i)) D := fun σ H τ Δ hl hs E D' C => by
  obtain ⟨v, h1, E'⟩ := E.moveS hl hx
  exact ⟨v, h1, C.nx _ _ H k (by simp [hs]) (Env.putS (Γ := Γ.set j none) hl (by simp [hs]) (by simpa using hi) E')⟩
end
section
variable {B : Bs} {Γ : List (Option Ent)} {tt : TT} {Sb : Bool → Prop}
theorem rts_not (h : RTs B Γ tt Sb) : RTs B Γ (tNot tt) (fun b => Sb (!b)) := fun σ H τ Δ hl hs E Q k => h σ H τ Δ hl hs E _ fun b H' s E' => k (!b) H' (by simpa using s) E'
end
section
variable {B : Bs} {Γ : List (Option Ent)} {D : GE} {t u : TS}
/-- behind t the slots stand as G s says, for some s with I -/
theorem rs_seqM {S : Type} (I : S → Prop) (G : S → List (Option Ent)) (h : RS B Γ t { D with nx := fun Γ' => ∃ s, I s ∧ Le (G s) Γ' }) (k : ∀ s, I s → RS B (G s) u D) : RS B Γ (tSeq t u) D :=
  rs_seq (fun σ H τ Δ hl hs E D' C => h σ H τ Δ hl hs E D' ⟨fun Γ' σ' H' ⟨s, h1, h2⟩ hs' E' => C.nx Γ' σ' H' (rs_le h2 (k s h1)) hs' E', C.rt, C.bk, C.ct⟩)
end
end G

namespace L2
open PySem PySem.Spec PyProof.Rows
theorem takes_no {X : Cx} : Takes X (fun _ _ _ _ => False) := fun _ _ ⟨_, _, _, _, _, _, _, _, _, _, _, _, _, _, _, _, w⟩ => w.elim
end L2
end

section
set_option Elab.async false
set_option linter.all false
set_option maxRecDepth 100000
set_option maxHeartbeats 1000000
/-! G15: comprehensions over a list that stays owned; ranges up to some number; join -/
namespace G
open PySem L2
/-- what is walked is taken out of its slot for a while -/
def RIm (B : Bs) (Γ Γm : List (Option Ent)) (wi : TI) (u : List Ent) (n : Nat) (item : Nat → Ent) : Prop := ∀ (σ : L2.St) (H : Hp) (τ : List (Option V)) (Δ : List (Option Ent)), τ.length = Δ.length → σ.length = Γ.length →
  Env B H (τ ++ σ) (Δ ++ Γ) → ∀ R : It → Hp → Prop, (∀ (J : It) (H' : Hp) (us : List V), us.length = u.length → Env B H' (us.map some ++ (τ ++ σ)) (u.map some ++ (Δ ++ Γm)) → JOk B J us u n item → Γm.length = Γ.length →
    (∀ (H'' : Hp) (τ' : List (Option V)) (Δ' : List (Option Ent)), τ'.length = Δ'.length → Env B H'' (us.map some ++ (τ' ++ σ)) (u.map some ++ (Δ' ++ Γm)) → Env B H'' (τ' ++ σ) (Δ' ++ Γ)) → R J H') → wi σ H R
theorem set_back {α : Type} {l : List α} {j : Nat} {x : α} (h : l[j]? = some x) : l.set j x = l := by
  refine List.ext_getElem? fun i => ?_
  by_cases z : i = j
  · subst z
    rw [List.getElem?_set_self (List.getElem?_eq_some_iff.mp h).1, h]
  · rw [List.getElem?_set_ne (Ne.symm z)]
section
variable {B : Bs} {Γ Γ' : List (Option Ent)} {D : GE} {t u : TS} {te ta tb : TE} {tt tu : TT} {e ex ey ez : Ent} {i j : Nat} {b : Bool} {wi : TI} {g : TG} {S S1 S2 S' : Ent → Prop}
theorem ri_listM {α : Type} [Py α] {xs : List α} (hx : Γ[j]? = some (some (ow xs))) : RIm B Γ (Γ.set j none) (iList B.K (tVar j)) [ow xs] xs.length (itemAt xs) := fun σ H τ Δ hl hs E R k => by
  obtain ⟨p, us, h1, h2, h3⟩ := E.slotO hl hx
  obtain ⟨v, h1', E1⟩ := E.moveS hl hx
  rw [h1] at h1'
  cases h1'
  refine ⟨.ref p, h1, p, rfl, ⟨us, SqL.of h2⟩, k _ H [.ref p] rfl E1 ⟨fun l L i H2 E2 hi => ?_, fun l L i H2 E2 hi => ?_⟩ (by simp) fun H'' τ' Δ' hl' E3 => ?_⟩
  · have E2 : Env B H2 (some (.ref p) :: l) (some (ow xs) :: L) := E2
    have hx : xs[i]? = some xs[i] := by simp [hi]
    obtain ⟨v, ⟨us', q1, q2⟩, E3⟩ := E2.pushX (e := fz xs[i]) (R := fun v => ∃ us, H2 p = some (.lst us) ∧ us[i]? = some v) fun Hf _ s kn => by
      obtain ⟨v0, fp, z1, p', us', z2, z3, z4, z5⟩ := kn 0 _ rfl
      have : V.ref p = v0 := by simpa using z1
      rw [← this] at z2
      cases z2
      obtain ⟨v, y1, y2⟩ := z5.get hx
      exact ⟨v, ⟨us', z4, y1⟩, rfl, y2⟩
    refine ⟨⟨us', v, SqL.of q1, q2⟩, ?_⟩
    rintro y H3 ⟨rfl, hy⟩
    have := hy us' (SqL.of q1)
    rw [q2] at this
    cases this
    rw [itemAt_of hx]
    exact E3
  · obtain ⟨p', us', z1, z2, z3⟩ := Env.viewO (l := l) (L := L) E2
    cases z1
    exact ⟨us', SqL.of z2, by rw [z3.length]; exact hi⟩
  · have hj : j < Γ.length := (List.getElem?_eq_some_iff.mp hx).1
    have E4 := Env.putS (Γ := Γ.set j none) (σ := σ) (i := j) hl' (by simp [hs]) (by simpa using hj) E3
    rw [set_back h1, List.set_set, set_back hx] at E4
    exact E4
theorem res_lcM {Γm : List (Option Ent)} {β : Type} [Py β] {u : List Ent} {n : Nat} {item : Nat → Ent} {vs ws : List Nat} (I : Nat → List β → Prop) (hi : RIm B Γ Γm wi u n item) (hn : n ≤ 9000) (hv : ∀ k ∈ vs, ∀ e : Ent, Γm[k]? ≠ some (some e)) (hw : ∀ k ∈ ws, k ∈ vs)
    (i0 : I 0 []) (hb : ∀ (i : Nat) (acc : List β), i < n → acc.length ≤ i → I i acc → ∃ (Γ' : List (Option Ent)) (Sc : Bool → Prop) (P : β → Prop), RGw B Γm g (item i) Γ' ws ∧ Le Γm Γ' ∧ RTs B Γ' tt Sc ∧
      (Sc true → REs B Γ' te (fun e => ∃ y, P y ∧ e = fz y)) ∧ (Sc true → ∀ y, P y → I (i + 1) (acc ++ [y])) ∧ (Sc false → I (i + 1) acc)) :
    REs B Γ (tLc wi g tt te vs) (fun e => ∃ acc : List β, I n acc ∧ acc.length ≤ n ∧ e = ow acc) := fun σ H τ Δ hl hs E Q k => by
  refine hi σ H τ Δ hl hs E _ fun J H1 us hu E1 J1 hlen rst => ?_
  intro Dl hD
  have hl' : (us.map some ++ τ).length = (u.map some ++ Δ).length := by simp [hu, hl]
  refine ⟨fun i m H' => m = n - i ∧ i ≤ n ∧ ∃ acc : List β, I i acc ∧ acc.length ≤ i ∧ Env B H' (some (.ref Dl) :: (us.map some ++ (τ ++ σ))) (some (ow acc) :: (u.map some ++ (Δ ++ Γm))), ⟨n, by simp, Nat.zero_le _, [], i0, Nat.zero_le _, ?_⟩, ?_⟩
  · exact E1.newO (o := .lst []) hD fun Hf _ s kn => ⟨Dl, [], rfl, rfl, upd_same, .nil⟩
  · rintro i m H' ⟨rfl, hin, acc, hI, hz, E2⟩
    by_cases hlt : i < n
    · have E2' : Env B H' (us.map some ++ (some (.ref Dl) :: (τ ++ σ))) (u.map some ++ (some (ow acc) :: (Δ ++ Γm))) := Env.rot hu E2
      have G1 := J1.go _ _ i H' E2' hlt
      refine .inr ⟨G1.1, fun H2 => ∃ acc : List β, I (i + 1) acc ∧ acc.length ≤ i + 1 ∧ Env B H2 (some (.ref Dl) :: (us.map some ++ (τ ++ σ))) (some (ow acc) :: (u.map some ++ (Δ ++ Γm))), ?_, fun x H2 hy => ?_⟩
      · rintro H2 ⟨acc', a, b, c⟩
        exact ⟨n - (i + 1), by omega, rfl, hlt, acc', a, b, c⟩
      · have E3 := G1.2 x H2 hy
        obtain ⟨Γ', Sc, P, hg, hle, ht, he, hyes, hno⟩ := hb i acc hlt hz hI
        -- the temporaries: the item's source, the new list
        have E4 : Env B H2 (some x :: ((us.map some ++ some (.ref Dl) :: τ) ++ wipe σ vs)) (some (item i) :: ((u.map some ++ some (ow acc) :: Δ) ++ Γm)) := by
          have z := Env.other (τ := some x :: (us.map some ++ some (.ref Dl) :: τ)) (Δ := some (item i) :: (u.map some ++ some (ow acc) :: Δ)) (σ := σ) (σ' := wipe σ vs) (Γ := Γm) (vs := vs) (by simp [hu, hl]) hv (fun k hk => wipe_off hk) (by
            simpa [List.append_assoc] using E3)
          exact z
        refine hg (wipe σ vs) H2 (us.map some ++ some (.ref Dl) :: τ) (u.map some ++ some (ow acc) :: Δ) x (by simp [hu, hl]) (by rw [wipe_length, hs, hlen]) E4 _ fun σ2 H3 hσ2 hoff E5 => ?_
        have hσl : σ2.length = σ.length := by rw [hσ2, ← hle.1, hlen, hs]
        refine ⟨wipe_eq hσl fun k hk => hoff k fun z => hk (hw k z), ?_⟩
        have back : ∀ {k : Nat}, k ∉ vs → σ[k]? = σ2[k]? := fun {k} hk => by rw [hoff k fun z => hk (hw k z), wipe_off hk]
        have slot : ∀ {Hx : Hp}, Env B Hx ((us.map some ++ some (.ref Dl) :: τ) ++ σ2) ((u.map some ++ some (ow acc) :: Δ) ++ Γ') → Env B Hx (some (.ref Dl) :: (us.map some ++ (τ ++ σ))) (some (ow acc) :: (u.map some ++ (Δ ++ Γm))) := fun {Hx} E6 => by
          have E7 := E6.le (Γ1 := Γm) (by simp [hu, hl]) hle
          have E8 := Env.other (σ' := σ) (vs := vs) (by simp [hu, hl]) hv (fun k hk => back hk) E7
          exact Env.rot' hu (by simpa [List.append_assoc] using E8)
        refine ht σ2 H3 _ _ (by simp [hu, hl]) hσ2 E5 _ fun b H4 sb E6 => ?_
        cases b with
        | false =>
          exact ⟨acc, hno sb, by omega, slot E6⟩
        | true =>
          refine he sb σ2 H4 _ _ (by simp [hu, hl]) hσ2 E6 _ fun ent y H5 sy E7 => ?_
          obtain ⟨yv, py, rfl⟩ := sy
          have E8 := E7.drop
          have hidx : (u.map some ++ some (ow acc) :: Δ)[u.length]? = some (some (ow acc)) := by
            rw [List.getElem?_append_right (by simp)]; simp
          obtain ⟨p, ws', q1, q2, q3⟩ : ∃ p ws', some (some (V.ref Dl)) = some (some (V.ref p)) ∧ H5 p = some (.lst ws') ∧ Reps B.K H5 ws' acc := by
            have z := slot E8
            obtain ⟨p, ws', z1, z2, z3⟩ := z.viewO
            exact ⟨p, ws', by rw [z1], z2, z3⟩
          cases q1
          refine ⟨ws', q2, bound_line (by rw [q3.length]; omega), acc ++ [yv], hyes sb yv py, by simp; omega, ?_⟩
          -- the list grows: its entry is among the temporaries
          have E9 : Env B H5 ([some y] ++ (some (.ref Dl) :: (us.map some ++ (τ ++ σ)))) ([some (fz yv)] ++ (some (ow acc) :: (u.map some ++ (Δ ++ Γm)))) := by
            have z1 := Env.le (τ := some y :: (us.map some ++ some (.ref Dl) :: τ)) (Δ := some (fz yv) :: (u.map some ++ some (ow acc) :: Δ)) (Γ1 := Γm) (Γ2 := Γ') (σ := σ2) (by simp [hu, hl]) hle (by simpa using E7)
            have z2 := Env.other (τ := some y :: (us.map some ++ some (.ref Dl) :: τ)) (Δ := some (fz yv) :: (u.map some ++ some (ow acc) :: Δ)) (σ := σ2) (σ' := σ) (vs := vs) (by simp [hu, hl]) hv (fun k hk => back hk) z1
            exact Env.rot1 hu (by simpa [List.append_assoc] using z2)
          have E10 := Env.mutO (i := 0) (τ := [some y]) (Δ := [some (fz yv)]) (xs := acc) (ys := acc ++ [yv]) (us := ws' ++ [y]) (p := Dl) rfl rfl E9 rfl fun Hf vs' s kn hw' hr => by
            rw [q2] at hw'
            cases hw'
            exact hr.append (.cons (Env.know0 kn) .nil)
          exact Env.drop E10
    · have e : i = n := by omega
      subst e
      have E2' : Env B H' (us.map some ++ (some (.ref Dl) :: (τ ++ σ))) (u.map some ++ (some (ow acc) :: (Δ ++ Γm))) := Env.rot hu E2
      exact .inl ⟨J1.stop _ _ i H' E2' (Nat.le_refl _), k _ _ _ ⟨acc, hI, hz, rfl⟩ (rst _ (some (.ref Dl) :: τ) (some (ow acc) :: Δ) (by simp [hl]) E2')⟩
/-- for x in range(e), e some number -/
theorem rs_forR1 {ta : TA} {tbd : TS} {P : Int → Prop} (h : RAs B Γ ta (fun es => ∃ x, P x ∧ es = [fz x])) (k : ∀ x, P x → RS B Γ (tFor (iRng1 (tCons (tC (.int x)) tNil)) g tbd) D) : RS B Γ (tFor (iRng1 ta) g tbd) D := fun σ H τ Δ hl hs E D' C =>
  h σ H τ Δ hl hs E _ fun es vs H1 s hv E1 => by
    obtain ⟨x, px, rfl⟩ := s
    obtain ⟨v, rfl, E1⟩ := one_arg hv E1
    have ev : v = .int x := E1.view
    subst ev
    exact k x px σ H1 τ Δ hl hs E1.drop D' C
theorem rs_forR2 {ta : TA} {tbd : TS} {P : Int → Int → Prop} (h : RAs B Γ ta (fun es => ∃ x y, P x y ∧ es = [fz x, fz y])) (k : ∀ x y, P x y → RS B Γ (tFor (iRng2 (tCons (tC (.int x)) (tCons (tC (.int y)) tNil))) g tbd) D) : RS B Γ (tFor (iRng2 ta) g tbd) D := fun σ H τ Δ hl hs E D' C =>
  h σ H τ Δ hl hs E _ fun es vs H1 s hv E1 => by
    obtain ⟨x, y, px, rfl⟩ := s
    obtain ⟨v, w, rfl, E1⟩ := two_args hv E1
    have ew : w = .int y := E1.view
    have ev : v = .int x := E1.drop.view
    subst ev; subst ew
    exact k x y px σ H1 τ Δ hl hs E1.drop.drop D' C
/-- sep.join(list of one's own), some list -/
theorem res_joinO {to : TE} {s : Str} (ho : RE B Γ to (fz s)) (he : REs B Γ te S) (hz : ∀ e, S e → ∃ ss : List Str, e = ow ss ∧ (ss.map (·.length)).sum + ss.length * s.length ≤ 16777216 ∧ S' (fz (Txt.join s ss))) : REs B Γ (tM1 (rJoin B.K) to te) S' := fun σ H τ Δ hl hs E Q k =>
  ho σ H τ Δ hl hs E _ fun v H1 E1 => by
    have ev : v = .str s := E1.view
    refine ⟨⟨s, ev⟩, he σ H1 (some v :: τ) (some (fz s) :: Δ) (by simp [hl]) hs E1 _ fun ent w H2 sx E2 => ?_⟩
    obtain ⟨ss, rfl, h1, h2⟩ := hz ent sx
    obtain ⟨p, us, rfl, h3, h4⟩ := E2.viewO
    have eu := h4.strs
    subst eu; subst ev
    exact ⟨s, p, ss, rfl, rfl, .inl (SqL.of h3), h1, k _ _ _ h2 E2.drop.drop.pushStr⟩
theorem res_lst {ta : TA} {Sa : List Ent → Prop} {α : Type} [Py α] (h : RAs B Γ ta Sa) (ho : ∀ es, Sa es → ∃ x : α, LstOf es x ∧ es.length ≤ 10000 ∧ S' (fz x)) : REs B Γ (tLst ta) S' := fun σ H τ Δ hl hs E Q k =>
  h σ H τ Δ hl hs E _ fun es vs H1 s1 hv E1 => by
    obtain ⟨x, h1, h2, h3⟩ := ho es s1
    exact ⟨Nat.le_trans (by omega : vs.length ≤ 10000) (by decide), fun p hp => k _ _ _ h3 (Env.dropN hv (E1.new (o := .lst vs) hp fun Hf _ s kn =>
      ⟨rfl, h1 _ _ H1 p vs hv (parts_up (s.free hp) fun i e q => Known.arg hv kn q) upd_same⟩))⟩
end
end G
end

section
set_option Elab.async false
set_option linter.all false
set_option maxRecDepth 100000
set_option maxHeartbeats 1000000
namespace K31
open PySem L2 G
def top (i : Nat) : Stmt := PySem.Challenge.pw_redolots_k31_safe_goals.main.body.getD i (.Pass ⟨0, 0, 0, 0⟩)
/-! ### side goals, readings by their shape -/

/-! ### what is handed round -/
/-- an entry of a goal that may be spoilt -/
inductive It where
  | int (i : Int)
  | str (s : Str)
  | tup (i : Int)
  | non
instance : Py It := ⟨fun K H v x => match x with
  | .int i => Py.rep K H v i
  | .str s => Py.rep K H v s
  | .tup i => Py.rep K H v (Tup.mk [i])
  | .non => Py.rep K H v (), fun {K H H' v x} e h => by cases x <;> exact Py.mono (x := _) e h⟩
/-- a goal that may be spoilt -/
inductive GV where
  | tup (xs : List It)
  | lst (xs : List Int)
  | int (i : Int)
  | str (s : Str)
  | non
instance : Py GV := ⟨fun K H v x => match x with
  | .tup xs => Py.rep K H v (Tup.mk xs)
  | .lst xs => Py.rep K H v (Lst.mk xs)
  | .int i => Py.rep K H v i
  | .str s => Py.rep K H v s
  | .non => Py.rep K H v (), fun {K H H' v x} e h => by cases x <;> exact Py.mono (x := _) e h⟩
/-- is_index -/
def ix (x : It) (n : Int) : Bool := match x with
  | .int i => decide (0 ≤ i) && decide (i < n)
  | _ => false
/-- the first entry that is no index, from place i on -/
def fb (n : Int) : Int → List It → Option Int
  | _, [] => none
  | i, x :: r => if ix x n then fb n (i + 1) r else some i
/-- what check_goal refuses -/
def chk : GV → Option Int
  | .tup xs => if xs.length = 0 ∨ 12 < xs.length then some (-1) else fb xs.length 0 xs
  | _ => some (-1)
def sz : GV → Prop
  | .tup xs => xs.length ≤ 1000
  | _ => True
theorem fb_drop (n : Int) (xs : List It) (i : Nat) (x : It) (h : xs[i]? = some x) (j : Int) : fb n j (xs.drop i) = if ix x n then fb n (j + 1) (xs.drop (i + 1)) else some j := by
  have e : xs.drop i = x :: xs.drop (i + 1) := by
    obtain ⟨h1, h2⟩ := List.getElem?_eq_some_iff.mp h
    rw [← h2]; exact List.drop_eq_getElem_cons h1
  rw [e]; rfl
theorem log_small {i : Int} (h : -1000 ≤ i ∧ i ≤ 1000) : i.natAbs.log2 < 1900 := by
  have h1 : i.natAbs ≤ 1000 := by omega
  have h2 : i.natAbs.log2 ≤ (1000 : Nat).log2 := by
    by_cases h0 : i.natAbs = 0
    · rw [h0]; decide
    · exact (Nat.le_log2 (by decide)).mpr (Nat.le_trans (Nat.log2_self_le h0) h1)
  exact Nat.lt_of_le_of_lt h2 (by decide)
/-- is it refused at once -/
def t0 : GV → Bool
  | .tup xs => !(decide ((1 : Int) ≤ xs.length) && decide ((xs.length : Int) ≤ 12))
  | _ => true
theorem t0_chk {a : GV} (h : t0 a = true) : chk a = some (-1) := by
  cases a with
  | tup xs =>
    have h : (!(decide ((1 : Int) ≤ xs.length) && decide ((xs.length : Int) ≤ 12))) = true := h
    show (if xs.length = 0 ∨ 12 < xs.length then some (-1) else fb xs.length 0 xs) = _
    rw [if_pos]
    simp at h
    omega
  | _ => rfl
theorem t0_tup {a : GV} (h : t0 a = false) : ∃ xs, a = .tup xs ∧ 1 ≤ xs.length ∧ xs.length ≤ 12 ∧ chk a = fb xs.length 0 xs := by
  cases a with
  | tup xs =>
    have h : (!(decide ((1 : Int) ≤ xs.length) && decide ((xs.length : Int) ≤ 12))) = false := h
    simp at h
    refine ⟨xs, rfl, by omega, by omega, ?_⟩
    show (if xs.length = 0 ∨ 12 < xs.length then some (-1) else fb xs.length 0 xs) = _
    rw [if_neg (by omega)]
  | _ => cases h
theorem Le.skip2 {e : Ent} {x y : Option Ent} : Le [some e, none, none] [some e, x, y] := Le.same (Le.skip (Le.skip Le.nil))
theorem ints_it {K : FK} {H : Hp} : ∀ {vs : List V} {ys : List Int}, Reps K H vs (ys.map It.int) ↔ Reps K H vs ys := by
  intro vs ys
  constructor
  · intro h
    induction ys generalizing vs with
    | nil => cases h; exact .nil
    | cons y ys ih =>
      cases h with
      | cons a r => exact .cons a (ih r)
  · intro h
    induction ys generalizing vs with
    | nil => cases h; exact .nil
    | cons y ys ih =>
      cases h with
      | cons a r => exact .cons a (ih r)
/-- a goal of ints -/
abbrev gi (ys : List Int) : GV := .tup (ys.map It.int)
theorem fz_gi (ys : List Int) : fz (gi ys) = fz (Tup.mk ys) := Ent.ext' fun K Hf H v fp => by
  constructor
  · rintro ⟨h1, p, vs, h2, h3, h4⟩
    exact ⟨h1, p, vs, h2, h3, ints_it.mp h4⟩
  · rintro ⟨h1, p, vs, h2, h3, h4⟩
    exact ⟨h1, p, vs, h2, h3, ints_it.mpr h4⟩
theorem fb_none {n : Int} : ∀ {xs : List It} {i : Int}, fb n i xs = none → ∃ ys : List Int, xs = ys.map It.int ∧ ∀ y ∈ ys, 0 ≤ y ∧ y < n
  | [], _, _ => ⟨[], rfl, fun _ h => nomatch h⟩
  | x :: r, i, h => by
    unfold fb at h
    split at h
    · rename_i hx
      obtain ⟨ys, h1, h2⟩ := fb_none h
      cases x with
      | int y =>
        have hx : (decide (0 ≤ y) && decide (y < n)) = true := hx
        simp at hx
        refine ⟨y :: ys, by rw [h1]; rfl, fun z hz => ?_⟩
        rcases List.mem_cons.mp hz with rfl | hz
        · exact hx
        · exact h2 z hz
      | _ => cases hx
    · cases h
/-- the goal is a goal -/
structure Gd (ys : List Int) : Prop where
  h1 : 1 ≤ ys.length
  h2 : ys.length ≤ 12
  h3 : ∀ y ∈ ys, 0 ≤ y ∧ y < ys.length
theorem chk_none {a : GV} (h : chk a = none) : ∃ ys, a = gi ys ∧ Gd ys := by
  cases a with
  | tup xs =>
    have h : (if xs.length = 0 ∨ 12 < xs.length then some (-1) else fb xs.length 0 xs) = none := h
    split at h
    · cases h
    · rename_i hn
      obtain ⟨ys, rfl, h2⟩ := fb_none h
      rw [List.length_map] at hn h2
      exact ⟨ys, rfl, ⟨by omega, by omega, h2⟩⟩
  | _ => cases h
theorem fb_gi {n : Int} : ∀ {ys : List Int} {i : Int}, (∀ y ∈ ys, 0 ≤ y ∧ y < n) → fb n i (ys.map It.int) = none
  | [], _, _ => rfl
  | y :: r, i, h => by
    show (if (decide (0 ≤ y) && decide (y < n)) = true then fb n (i + 1) (r.map It.int) else some i) = none
    have := h y List.mem_cons_self
    rw [if_pos (by simp; exact this)]
    exact fb_gi fun z hz => h z (List.mem_cons_of_mem _ hz)
theorem chk_gi {ys : List Int} (g : Gd ys) : chk (gi ys) = none := by
  show (if (ys.map It.int).length = 0 ∨ 12 < (ys.map It.int).length then some (-1) else fb (ys.map It.int).length 0 (ys.map It.int)) = none
  rw [List.length_map, if_neg (by have := g.h1; have := g.h2; omega)]
  exact fb_gi g.h3
/-- what homeless answers -/
def hlAcc (ys zs : List Int) : List Int := (zs.filter fun n => !decide (ys.getD n.toNat 0 = n)).foldl addKey []
def hl (ys : List Int) : List Int := isort (hlAcc ys ys)
theorem hlAcc_snoc (ys zs : List Int) (y : Int) : hlAcc ys (zs ++ [y]) = if ys.getD y.toNat 0 = y then hlAcc ys zs else addKey (hlAcc ys zs) y := by
  unfold hlAcc
  rw [List.filter_append, List.foldl_append]
  by_cases h : ys.getD y.toNat 0 = y
  · have e : (!decide (ys.getD y.toNat 0 = y)) = false := by rw [decide_eq_true h]; rfl
    rw [if_pos h, List.filter_cons_of_neg (by rw [e]; exact Bool.false_ne_true)]
    rfl
  · have e : (!decide (ys.getD y.toNat 0 = y)) = true := by rw [decide_eq_false h]; rfl
    rw [if_neg h, List.filter_cons_of_pos (p := fun n => !decide (ys.getD n.toNat 0 = n)) e]
    rfl
structure Txt (P : Program) (w : World) (K : PySem.W.Frag) (mg : Str → Option Value) (base : Heap) (CG CN CL CM CR : Addr) : Prop where
  n_ValueError : mg "ValueError" = none
  n_bool : mg "bool" = none
  n_enumerate : mg "enumerate" = none
  n_int : mg "int" = none
  n_isinstance : mg "isinstance" = none
  n_len : mg "len" = none
  n_list : mg "list" = none
  n_range : mg "range" = none
  n_sorted : mg "sorted" = none
  n_str : mg "str" = none
  n_tuple : mg "tuple" = none
  c_MOST_BLOCKS : ∃ t, mg "MOST_BLOCKS" = some (Value.int 12 t)
  i_comb : mg "comb" = some (.builtin "math.comb")
  e_InvalidGoal : Err1 P w K mg base 1 "InvalidGoal" CG "at"
  g_InvalidGoal : mg "InvalidGoal" = some (.ref CG)
  g_NoSafeLog : mg "NoSafeLog" = some (.ref CN)
  g_NoLog : mg "NoLog" = some (.ref CL)
  g_TooMany : mg "TooMany" = some (.ref CM)
  g_RedoError : mg "RedoError" = some (.ref CR)
  x_InvalidGoal : XfC K CG ∧ PySem.W.findIn K (.ref CG) "at" = some none
  exc : ExcC K CG
  ex1 : PySem.W.exmOne K (.ref CG) (.ref CG) = some true
  stop : PySem.W.subIn K (.ref CG) (.type "StopIteration") = some false
  kN : PySem.W.kitOne K (.ref CG) (.ref CN) = some false
  kL : PySem.W.kitOne K (.ref CG) (.ref CL) = some false
  kM : PySem.W.kitOne K (.ref CG) (.ref CM) = some false
  kR : PySem.W.kitOne K (.ref CG) (.ref CR) = some true
  kV : PySem.W.kitOne K (.ref CG) (.type "ValueError") = some true
section
variable {P : Program} {w : World} {K : PySem.W.Frag} {mg : Str → Option Value} {base : Heap} {CG CN CL CM CR : Addr}
abbrev s_is_index : Stmt := top 11
theorem sc_is_index : FnScope ["number", "blocks"] ["number", "blocks"] (defScope s_is_index) := ⟨rfl, rfl, rfl, by decide +kernel, rfl, by decide +kernel, by decide +kernel⟩
abbrev sp_ix (K : FK) := spP K (fun a : It × Int => [fz a.1, fz a.2]) (fun _ => True) (fun a e => e = fz (ix a.1 a.2))
theorem ok_is_index {f : Addr} {fd : FuncData} (F : Fun K "is_index" "is_index" s_is_index f fd) (hm : mg "is_index" = some (.ref f)) (b : Binds K fd ["number", "blocks"] []) (T : Txt P w K mg base CG CN CL CM CR) : Cal0 P w K mg base 2 "is_index" (sp_ix K) :=
  cal0 F hm b sc_is_index (fun vs H Q E h => spP_len (n := 2) (fun _ => rfl) h) fun cdv A outer s H vs Q E hr h => ⟨_, (pss_one (ps_ret (pe_and (pe_callB (call_isi : CallR _ _ (rIsi K)) (by rfl) T.n_isinstance (by decide +kernel) (pa_cons (pv 0) (pa_cons (pe_bltn (v := .ty "int") (u := .type "int") (by rfl) T.n_int (by decide +kernel) rfl) pa_nil))) (pe_one (pe_chain op_le op_lt pe_int (pv 0) (pv 1)))))),
    walkP h (by intro _; simp) fun a B hB _ => by
      subst hB
      obtain ⟨x, n⟩ := a
      show RS B [some (fz x), some (fz n)] _ _
      have h1 : RE B [some (fz x), some (fz n)] (tVar 0) (fz x) := re_var rfl
      refine rs_ret (e := fz (ix x n)) ?_ rfl
      cases x with
      | int i =>
        have h0 : RE B [some (fz (It.int i)), some (fz n)] (tVar 0) (fz i) := h1
        refine re_andV (a := true) (b := decide (0 ≤ i) && decide (i < n)) ?_ (fun _ => ?_)
        · exact re_cb (ra_cons h0 (ra_cons re_cT ra_nil)) (cb_isi rfl)
        · exact re_chain re_cI h0 os_le (fun _ => re_var rfl) (fun _ => os_lt)
      | str s =>
        have h0 : RE B [some (fz (It.str s)), some (fz n)] (tVar 0) (fz s) := h1
        exact re_andV (a := false) (b := false) (re_cb (ra_cons h0 (ra_cons re_cT ra_nil)) (cb_isi rfl)) (fun h => nomatch h)
      | tup i =>
        have h0 : RE B [some (fz (It.tup i)), some (fz n)] (tVar 0) (fz (Tup.mk [i])) := h1
        exact re_andV (a := false) (b := false) (re_cb (ra_cons h0 (ra_cons re_cT ra_nil)) (cb_isi rfl)) (fun h => nomatch h)
      | non =>
        have h0 : RE B [some (fz It.non), some (fz n)] (tVar 0) (fz ()) := h1
        exact re_andV (a := false) (b := false) (re_cb (ra_cons h0 (ra_cons re_cT ra_nil)) (cb_isi rfl)) (fun h => nomatch h)⟩
abbrev s_check_goal : Stmt := top 16
theorem sc_check_goal : FnScope ["goal", "at", "number"] ["goal"] (defScope s_check_goal) := ⟨rfl, rfl, rfl, by decide +kernel, rfl, by decide +kernel, by decide +kernel⟩
abbrev pe_ (CG : Addr) : GV → Addr → List (Str × V) → Prop := fun a D fs => ∃ i, chk a = some i ∧ D = CG ∧ fs = [(("at" : Str), V.int i)]
abbrev sp_cg (K : FK) (CG : Addr) := spX K (fun a : GV => [fz a]) sz (fun a e => chk a = none ∧ e = fz ()) (pe_ CG)
theorem ok_check_goal {f : Addr} {fd : FuncData} (F : Fun K "check_goal" "check_goal" s_check_goal f fd) (hm : mg "check_goal" = some (.ref f)) (b : Binds K fd ["goal"] []) (T : Txt P w K mg base CG CN CL CM CR) (c_is_index : Cal0 P w K mg base 2 "is_index" (sp_ix K)) :
    CalX P w K mg base 4 "check_goal" (sp_cg K CG) :=
  calx F hm b sc_check_goal (fun vs H Q E h => spX_len (n := 1) (fun _ => rfl) h) fun cdv A outer s H vs Q E hr h => ⟨_, (pss_cons (ps_if (PW.pt (pw_or (pt_not (pt_val (pe_callB (call_isi : CallR _ _ (rIsi K)) (by rfl) T.n_isinstance (by decide +kernel) (pa_cons (pv 0) (pa_cons (pe_bltn (v := .ty "tuple") (u := .type "tuple") (by rfl) T.n_tuple (by decide +kernel) rfl) pa_nil))))) (pw_or1 (pt_not (pt_chain op_le op_le pe_int (pe_callB (call_len_seq : CallR _ _ (rLenQ K)) (by rfl) T.n_len PySem.boot_len (pa_cons (pv 0) pa_nil)) (pe_glob (v := .int (12)) (by rfl) T.c_MOST_BLOCKS.choose_spec ⟨_, rfl⟩)))))) (pss_one (ps_raise rfl (takes_of (E := E) rfl rfl rfl rfl) (pmk_e1 T.e_InvalidGoal hr (by decide) (by rfl) (pa_cons (pe_un un_neg pe_int) pa_nil)))) pss_nil)
      (pss_one (ps_for (passes_of rfl) rfl (pi_enumT (by rfl) T.n_enumerate (pa_cons (pv 0) pa_nil)) (pg_tup rfl (pgs_cons (pg_name (i := 1) sc_check_goal.nd rfl (.inl rfl)) (pgs_cons (pg_name (i := 2) sc_check_goal.nd rfl (.inl rfl)) pgs_nil))) (pss_one (ps_if (pt_not (pt_val (pe_c0 c_is_index hr (by decide) (by rfl) (pa_cons (pv 2) (pa_cons (pe_callB (call_len_seq : CallR _ _ (rLenQ K)) (by rfl) T.n_len PySem.boot_len (pa_cons (pv 0) pa_nil)) pa_nil))))) (pss_one (ps_raise rfl (takes_of (E := E) rfl rfl rfl rfl) (pmk_e1 T.e_InvalidGoal hr (by decide) (by rfl) (pa_cons (pv 1) pa_nil)))) pss_nil))))),
    walkX h (by intro _; simp) fun a B hB hp hthr => by
      subst hB
      show RS B [some (fz a), none, none] _ _
      have h1 : RE B [some (fz a), none, none] (tVar 0) (fz a) := re_var rfl
      refine rs_seq (rs_if (b := t0 a) ?_ (fun q => ?_) (fun q => ?_))
      · cases a with
        | tup xs =>
          have h0 : RE B [some (fz (GV.tup xs)), none, none] (tVar 0) (fz (Tup.mk xs)) := h1
          exact rt_ni0 h0 rfl (rt_not (rt_test (re_chain re_cI (re_cb (ra_cons h0 ra_nil) cb_lenT) os_le (fun _ => re_cI) (fun _ => os_le))))
        | lst xs =>
          have h0 : RE B [some (fz (GV.lst xs)), none, none] (tVar 0) (fz (Lst.mk xs)) := h1
          exact rt_ni1 h0 rfl
        | int i =>
          have h0 : RE B [some (fz (GV.int i)), none, none] (tVar 0) (fz i) := h1
          exact rt_ni1 h0 rfl
        | str s =>
          have h0 : RE B [some (fz (GV.str s)), none, none] (tVar 0) (fz s) := h1
          exact rt_ni1 h0 rfl
        | non =>
          have h0 : RE B [some (fz GV.non), none, none] (tVar 0) (fz ()) := h1
          exact rt_ni1 h0 rfl
      · exact rs_raise1 (re_un re_cI us_neg) (log_small (by omega)) (hthr _ _ _ ⟨_, t0_chk q, rfl, rfl⟩)
      · obtain ⟨xs, rfl, h4, h5, h6⟩ := t0_tup q
        have h0 : RE B [some (fz (GV.tup xs)), none, none] (tVar 0) (fz (Tup.mk xs)) := h1
        refine rs_nil ?_
        refine rs_for (I := fun i (_ : Unit) => fb xs.length 0 xs = fb xs.length i (xs.drop i)) (G := fun _ => [some (fz (GV.tup xs)), none, none]) () (ri_enumT (ra_cons h0 ra_nil)) (Le.refl _) rfl (fun i _ hi hI => ?_) (fun _ hI => ?_)
        · have hx : xs[i]? = some xs[i] := by simp [hi]
          rw [pairAt_of hx]
          refine ⟨_, rg_pair (by simp) (by simp), ?_⟩
          refine rs_if (b := !ix xs[i] xs.length) ?_ (fun q => ?_) (fun q => ?_)
          · refine rt_not (rt_B (re_call (args := fun a : It × Int => [fz a.1, fz a.2]) ?_ (xs[i], (xs.length : Int)) rfl ⟨fz_fz, fz_fz, trivial⟩ trivial fun _ q => q))
            refine ra_cons (re_var rfl) (ra_cons (re_cb (ra_cons ?_ ra_nil) cb_lenT) ra_nil)
            exact re_var (x := Tup.mk xs) rfl
          · refine rs_raise1 (re_var rfl) (log_small (by omega)) (hthr _ _ _ ⟨_, ?_, rfl, rfl⟩)
            rw [h6, hI, fb_drop _ _ _ _ hx, if_neg (by simpa using q)]
          · refine rs_nil ⟨(), Le.skip2, ?_⟩
            show fb xs.length 0 xs = _
            rw [hI, fb_drop _ _ _ _ hx, if_pos (by simpa using q)]
            rfl
        · refine ⟨?_, rfl⟩
          rw [h6, hI, List.drop_length]; rfl⟩
abbrev s_homeless : Stmt := top 18
theorem sc_homeless : FnScope ["goal", "number"] ["goal"] (defScope s_homeless) := ⟨rfl, rfl, rfl, by decide +kernel, rfl, by decide +kernel, by decide +kernel⟩
abbrev sp_hl (K : FK) (CG : Addr) := spX K (fun a : GV => [fz a]) sz (fun a e => ∃ ys, a = gi ys ∧ Gd ys ∧ e = fz (Tup.mk (hl ys))) (pe_ CG)
theorem ok_homeless {f : Addr} {fd : FuncData} (F : Fun K "homeless" "homeless" s_homeless f fd) (hm : mg "homeless" = some (.ref f)) (b : Binds K fd ["goal"] []) (T : Txt P w K mg base CG CN CL CM CR) (c_check_goal : CalX P w K mg base 4 "check_goal" (sp_cg K CG)) :
    CalX P w K mg base 6 "homeless" (sp_hl K CG) :=
  calx F hm b sc_homeless (fun vs H Q E h => spX_len (n := 1) (fun _ => rfl) h) fun cdv A outer s H vs Q E hr h => ⟨_, (pss_cons (ps_expr (pe_cx c_check_goal hr (by decide) (by rfl) (takes_of (E := E) rfl rfl rfl rfl) (pa_cons (pv 0) pa_nil)))
      (pss_one (ps_ret (pe_callTy (call_tuple_of : CallR _ _ (rTupQ K)) (by rfl) T.n_tuple (by decide +kernel) (pa_cons (pe_callB (cr_sortedSet rfl) (by rfl) T.n_sorted (by decide +kernel) (pa_cons (pe_scG (kindI _ _) (own := [("number", 1)]) (g := gName 1) rfl sc_homeless.nd (pi_tup (pv 0)) (blkOk_by (own := [("number", 1)]) (N := ["goal", "number"]) (sc := defScope s_homeless) (by decide +kernel)) (fun _ _ _ _ _ => (pg_name (i := 1) sc_homeless.nd rfl (.inl rfl))) (fun _ _ _ _ _ => (pts_one (pt_cmpR op_ne (pe_ix (ix_tup : IxR _ (rIxT K)) (pv 0) (pv 1) (fun _ _ => rfl)) (pv 1) (nomark _)))) (fun _ _ _ _ _ => (pv 1))) pa_nil)) pa_nil))))),
    walkX h (by intro _; simp) fun a B hB hp hthr => by
      subst hB
      show RS B [some (fz a), none] _ _
      refine rs_seq (rs_dropK (S := fun _ => chk a = none) (res_callX (ras_of (ra_cons (re_var rfl) ra_nil)) (fun es q => ⟨a, q.symm, by rw [q]; exact ⟨fz_fz, trivial⟩, hp, fun ent po => po.1, fun C fs po => hthr C fs _ po⟩)) (fun e hc => ?_))
      obtain ⟨ys, rfl, g⟩ := chk_none hc
      have h0 : RE B [some (fz (gi ys)), none] (tVar 0) (fz (Tup.mk ys)) := by rw [← fz_gi]; exact re_var rfl
      have hn := g.h2
      refine rs_retS (S := fun e => e = fz (Tup.mk (hl ys))) (res_cb (S' := fun e => e = fz (Tup.mk (hl ys))) (ras_cons (res_cb (S' := fun e => e = ow (hl ys)) (ras_cons (res_sc (Z := kindI _ _) (ws := [1]) (fun i acc => acc = hlAcc ys (ys.take i)) (ri_tup h0) (by omega) ?_ ?_ rfl ?_) ras_nil) ?_) ras_nil) ?_) (fun e q => ⟨ys, rfl, g, q⟩)
      · intro k hk e
        have : k = 1 := by simpa using hk
        subst this
        simp
      · simp
      · intro i acc hi _ hI
        have hx : ys[i]? = some ys[i] := by simp [hi]
        have hy := g.h3 ys[i] (by simp)
        rw [itemAt_of hx]
        have hg : ys[(ys[i]).toNat]? = some (ys.getD (ys[i]).toNat 0) := by
          have : (ys[i]).toNat < ys.length := by omega
          simp [List.getD, this]
        refine ⟨_, !decide (ys.getD (ys[i]).toNat 0 = ys[i]), ys[i], rgw_name (by simp), Le.same (Le.skip Le.nil), rt_test (re_op (re_op (by rw [← fz_gi]; exact re_var rfl) (re_var rfl) (os_ixT (atI_of hy.1 hg))) (re_var rfl) os_neI), fun q => ⟨re_var rfl, ?_⟩, fun q => ?_⟩
        · rw [List.take_succ, hx]
          show _ = hlAcc ys (ys.take i ++ [ys[i]])
          rw [hlAcc_snoc, if_neg (by simpa using q), hI]
        · rw [List.take_succ, hx]
          show _ = hlAcc ys (ys.take i ++ [ys[i]])
          rw [hlAcc_snoc, if_pos (by simpa using q), hI]
      · rintro es ⟨e1, es1, ⟨acc, hI, hz, rfl⟩, rfl, rfl⟩
        rw [List.take_length] at hI
        subst hI
        exact ⟨_, cb_sortedSe (by omega), rfl⟩
      · rintro es ⟨e1, es1, rfl, rfl, rfl⟩
        exact ⟨_, cb_tupO, rfl⟩⟩
/-- what a door promises of a spoilt goal -/
abbrev sp_bd (K : FK) (CG : Addr) := spX K (fun a : GV => [fz a]) (fun a => sz a ∧ chk a ≠ none) (fun _ _ => False) (pe_ CG)
theorem bad_hl {K : FK} {CG : Addr} {B : Bs} {Γ : List (Option Ent)} {W : WX} {a : GV} {i : Nat} (hB : B.K = K) (hx : Γ[i]? = some (some (fz a))) (hp : sz a ∧ chk a ≠ none) (hthr : ∀ C fs Γ, pe_ CG a C fs → Thr B Γ W C fs) : REs B Γ (tCallS (sp_hl K CG) (WE W) (tCons (tVar i) tNil)) (fun _ => False) := by
  subst hB
  exact res_callX (ras_of (ra_cons (re_var hx) ra_nil)) (fun es q => ⟨a, q.symm, by rw [q]; exact ⟨fz_fz, trivial⟩, hp.1, fun ent po => by
    obtain ⟨ys, rfl, g, _⟩ := po
    exact hp.2 (chk_gi g), fun C fs po => hthr C fs _ po⟩)
theorem bad_cg {K : FK} {CG : Addr} {B : Bs} {Γ : List (Option Ent)} {W : WX} {a : GV} {i : Nat} (hB : B.K = K) (hx : Γ[i]? = some (some (fz a))) (hp : sz a ∧ chk a ≠ none) (hthr : ∀ C fs Γ, pe_ CG a C fs → Thr B Γ W C fs) : REs B Γ (tCallS (sp_cg K CG) (WE W) (tCons (tVar i) tNil)) (fun _ => False) := by
  subst hB
  exact res_callX (ras_of (ra_cons (re_var hx) ra_nil)) (fun es q => ⟨a, q.symm, by rw [q]; exact ⟨fz_fz, trivial⟩, hp.1, fun ent po => hp.2 po.1, fun C fs po => hthr C fs _ po⟩)
theorem bad_bd {K : FK} {CG : Addr} {B : Bs} {Γ : List (Option Ent)} {W : WX} {a : GV} {i : Nat} (hB : B.K = K) (hx : Γ[i]? = some (some (fz a))) (hp : sz a ∧ chk a ≠ none) (hthr : ∀ C fs Γ, pe_ CG a C fs → Thr B Γ W C fs) : REs B Γ (tCallS (sp_bd K CG) (WE W) (tCons (tVar i) tNil)) (fun _ => False) := by
  subst hB
  exact res_callX (ras_of (ra_cons (re_var hx) ra_nil)) (fun es q => ⟨a, q.symm, by rw [q]; exact ⟨fz_fz, trivial⟩, hp, fun ent po => po, fun C fs po => hthr C fs _ po⟩)
abbrev s_safe_log : Stmt := top 19
theorem sc_safe_log : FnScope ["goal", "away", "entries", "block"] ["goal"] (defScope s_safe_log) := ⟨rfl, rfl, rfl, by decide +kernel, rfl, by decide +kernel, by decide +kernel⟩
theorem ok_safe_log {f : Addr} {fd : FuncData} (F : Fun K "safe_log" "safe_log" s_safe_log f fd) (hm : mg "safe_log" = some (.ref f)) (b : Binds K fd ["goal"] []) (T : Txt P w K mg base CG CN CL CM CR) (c_homeless : CalX P w K mg base 6 "homeless" (sp_hl K CG)) :
    CalX P w K mg base 8 "safe_log" (sp_bd K CG) :=
  calx F hm b sc_safe_log (fun vs H Q E h => spX_len (n := 1) (fun _ => rfl) h) fun cdv A outer s H vs Q E hr h => ⟨_, (pss_cons (ps_set (i := 1) sc_safe_log.nd rfl (.inl rfl) (pe_cx c_homeless hr (by decide) (by rfl) (takes_of (E := E) rfl rfl rfl rfl) (pa_cons (pv 0) pa_nil)))
      (pss_never)),
    walkX h (by intro _; simp) fun a B hB hp hthr => by
      subst hB
      exact rs_seq (rs_asgS (bad_hl rfl rfl hp hthr) (by simp [g0]) (fun _ q => q.elim))⟩
abbrev s_count_least_logs : Stmt := top 22
theorem sc_count_least_logs : FnScope ["goal", "changed", "ways", "number", "takers", "block"] ["goal"] (defScope s_count_least_logs) := ⟨rfl, rfl, rfl, by decide +kernel, rfl, by decide +kernel, by decide +kernel⟩
theorem ok_count_least_logs {f : Addr} {fd : FuncData} (F : Fun K "count_least_logs" "count_least_logs" s_count_least_logs f fd) (hm : mg "count_least_logs" = some (.ref f)) (b : Binds K fd ["goal"] []) (T : Txt P w K mg base CG CN CL CM CR) (c_homeless : CalX P w K mg base 6 "homeless" (sp_hl K CG)) :
    CalX P w K mg base 8 "count_least_logs" (sp_bd K CG) :=
  calx F hm b sc_count_least_logs (fun vs H Q E h => spX_len (n := 1) (fun _ => rfl) h) fun cdv A outer s H vs Q E hr h => ⟨_, (pss_cons (ps_if (pt_truth (pe_cx c_homeless hr (by decide) (by rfl) (takes_of (E := E) rfl rfl rfl rfl) (pa_cons (pv 0) pa_nil)) (by intro _; rfl) : PT _ _ (tTru K _)) (pss_one (ps_ret pe_int)) pss_nil)
      (pss_never)),
    walkX h (by intro _; simp) fun a B hB hp hthr => by
      subst hB
      exact rs_seq (rs_ifS (rts_truF (bad_hl rfl rfl hp hthr) (fun _ q => q)) (fun q => q.elim) (fun q => q.elim))⟩
abbrev s_closed_rings : Stmt := top 28
theorem sc_closed_rings : FnScope ["goal", "found", "start", "ring"] ["goal"] (defScope s_closed_rings) := ⟨rfl, rfl, rfl, by decide +kernel, rfl, by decide +kernel, by decide +kernel⟩
theorem ok_closed_rings {f : Addr} {fd : FuncData} (F : Fun K "closed_rings" "closed_rings" s_closed_rings f fd) (hm : mg "closed_rings" = some (.ref f)) (b : Binds K fd ["goal"] []) (T : Txt P w K mg base CG CN CL CM CR) (c_check_goal : CalX P w K mg base 4 "check_goal" (sp_cg K CG)) :
    CalX P w K mg base 6 "closed_rings" (sp_bd K CG) :=
  calx F hm b sc_closed_rings (fun vs H Q E h => spX_len (n := 1) (fun _ => rfl) h) fun cdv A outer s H vs Q E hr h => ⟨_, (pss_cons (ps_expr (pe_cx c_check_goal hr (by decide) (by rfl) (takes_of (E := E) rfl rfl rfl rfl) (pa_cons (pv 0) pa_nil)))
      (pss_never)),
    walkX h (by intro _; simp) fun a B hB hp hthr => by
      subst hB
      exact rs_seq (rs_dropK (bad_cg rfl rfl hp hthr) (fun _ q => q.elim))⟩
abbrev s_check_possible : Stmt := top 26
theorem sc_check_possible : FnScope ["goal"] ["goal"] (defScope s_check_possible) := ⟨rfl, rfl, rfl, by decide +kernel, rfl, by decide +kernel, by decide +kernel⟩
theorem ok_check_possible {f : Addr} {fd : FuncData} (F : Fun K "check_possible" "check_possible" s_check_possible f fd) (hm : mg "check_possible" = some (.ref f)) (b : Binds K fd ["goal"] []) (T : Txt P w K mg base CG CN CL CM CR) (c_check_goal : CalX P w K mg base 4 "check_goal" (sp_cg K CG)) :
    CalX P w K mg base 6 "check_possible" (sp_bd K CG) :=
  calx F hm b sc_check_possible (fun vs H Q E h => spX_len (n := 1) (fun _ => rfl) h) fun cdv A outer s H vs Q E hr h => ⟨_, (pss_cons (ps_expr (pe_cx c_check_goal hr (by decide) (by rfl) (takes_of (E := E) rfl rfl rfl rfl) (pa_cons (pv 0) pa_nil)))
      (pss_one ps_never)),
    walkX h (by intro _; simp) fun a B hB hp hthr => by
      subst hB
      exact rs_seq (rs_dropK (bad_cg rfl rfl hp hthr) (fun _ q => q.elim))⟩
abbrev s_fewest_copies : Stmt := top 29
theorem sc_fewest_copies : FnScope ["goal"] ["goal"] (defScope s_fewest_copies) := ⟨rfl, rfl, rfl, by decide +kernel, rfl, by decide +kernel, by decide +kernel⟩
theorem ok_fewest_copies {f : Addr} {fd : FuncData} (F : Fun K "fewest_copies" "fewest_copies" s_fewest_copies f fd) (hm : mg "fewest_copies" = some (.ref f)) (b : Binds K fd ["goal"] []) (T : Txt P w K mg base CG CN CL CM CR) (c_check_possible : CalX P w K mg base 6 "check_possible" (sp_bd K CG)) :
    CalX P w K mg base 8 "fewest_copies" (sp_bd K CG) :=
  calx F hm b sc_fewest_copies (fun vs H Q E h => spX_len (n := 1) (fun _ => rfl) h) fun cdv A outer s H vs Q E hr h => ⟨_, (pss_cons (ps_expr (pe_cx c_check_possible hr (by decide) (by rfl) (takes_of (E := E) rfl rfl rfl rfl) (pa_cons (pv 0) pa_nil)))
      (pss_one ps_never)),
    walkX h (by intro _; simp) fun a B hB hp hthr => by
      subst hB
      exact rs_seq (rs_dropK (bad_bd rfl rfl hp hthr) (fun _ q => q.elim))⟩
abbrev s_least_log : Stmt := top 32
theorem sc_least_log : FnScope ["goal", "missing", "entries", "ring", "held", "waiting", "block"] ["goal"] (defScope s_least_log) := ⟨rfl, rfl, rfl, by decide +kernel, rfl, by decide +kernel, by decide +kernel⟩
theorem ok_least_log {f : Addr} {fd : FuncData} (F : Fun K "least_log" "least_log" s_least_log f fd) (hm : mg "least_log" = some (.ref f)) (b : Binds K fd ["goal"] []) (T : Txt P w K mg base CG CN CL CM CR) (c_check_possible : CalX P w K mg base 6 "check_possible" (sp_bd K CG)) :
    CalX P w K mg base 8 "least_log" (sp_bd K CG) :=
  calx F hm b sc_least_log (fun vs H Q E h => spX_len (n := 1) (fun _ => rfl) h) fun cdv A outer s H vs Q E hr h => ⟨_, (pss_cons (ps_expr (pe_cx c_check_possible hr (by decide) (by rfl) (takes_of (E := E) rfl rfl rfl rfl) (pa_cons (pv 0) pa_nil)))
      (pss_never)),
    walkX h (by intro _; simp) fun a B hB hp hthr => by
      subst hB
      exact rs_seq (rs_dropK (bad_bd rfl rfl hp hthr) (fun _ q => q.elim))⟩
abbrev s_fewest_stages : Stmt := top 38
theorem sc_fewest_stages : FnScope ["goal", "blocks", "start", "level", "left", "many", "other"] ["goal"] (defScope s_fewest_stages) := ⟨rfl, rfl, rfl, by decide +kernel, rfl, by decide +kernel, by decide +kernel⟩
theorem ok_fewest_stages {f : Addr} {fd : FuncData} (F : Fun K "fewest_stages" "fewest_stages" s_fewest_stages f fd) (hm : mg "fewest_stages" = some (.ref f)) (b : Binds K fd ["goal"] []) (T : Txt P w K mg base CG CN CL CM CR) (c_check_goal : CalX P w K mg base 4 "check_goal" (sp_cg K CG)) :
    CalX P w K mg base 6 "fewest_stages" (sp_bd K CG) :=
  calx F hm b sc_fewest_stages (fun vs H Q E h => spX_len (n := 1) (fun _ => rfl) h) fun cdv A outer s H vs Q E hr h => ⟨_, (pss_cons (ps_expr (pe_cx c_check_goal hr (by decide) (by rfl) (takes_of (E := E) rfl rfl rfl rfl) (pa_cons (pv 0) pa_nil)))
      (pss_never)),
    walkX h (by intro _; simp) fun a B hB hp hthr => by
      subst hB
      exact rs_seq (rs_dropK (bad_cg rfl rfl hp hthr) (fun _ q => q.elim))⟩
abbrev s_least_logs : Stmt := top 21
theorem sc_least_logs : GScope ["goal", "stack", "done", "entries", "entry"] ["goal"] (defScope s_least_logs) := ⟨rfl, rfl, rfl, by decide +kernel, rfl, by decide +kernel, by decide +kernel⟩
abbrev spG (K : FK) (CG : Addr) : SpG0 := fun vs H _ E => sp_bd K CG vs H (fun _ _ => False) E
theorem ok_least_logs {f : Addr} {fd : FuncData} (F : Fun K "least_logs" "least_logs" s_least_logs f fd) (hm : mg "least_logs" = some (.ref f)) (b : Binds K fd ["goal"] []) (T : Txt P w K mg base CG CN CL CM CR) (c_homeless : CalX P w K mg base 6 "homeless" (sp_hl K CG)) :
    CalG0 P w K mg base 8 "least_logs" (spG K CG) := by
  refine calg0 F hm b sc_least_logs (fun vs H Q E h => spX_len (n := 1) (fun _ => rfl) h) ?_ rfl
  intro cdv A outer s H vs Q E pn hr h
  exact ⟨_, (ps_if (pt_truth (pe_cx c_homeless hr (by decide) (by rfl) takes_gcx (pa_cons (pv 0) pa_nil)) (by intro _; rfl) : PT _ _ (tTru K _)) (pss_one ps_retN) pss_nil),
    walkXF h (by intro _; simp) _ fun a B hB hp hthr => by
      subst hB
      exact rs_ifS (rts_truF (bad_hl rfl rfl hp hthr) (fun _ q => q)) (fun q => q.elim) (fun q => q.elim)⟩
end
end K31
end

section
set_option Elab.async false
set_option linter.all false
set_option maxRecDepth 100000
set_option maxHeartbeats 1000000
namespace K31
open PySem L2 G
/-! ### side goals, readings by their shape -/

section
variable {P : Program} {w : World} {K : PySem.W.Frag} {mg : Str → Option Value} {base : Heap} {CG CN CL CM CR : Addr}
/-! ### numbers -/
abbrev s__law_is_number : Stmt := top 42
theorem sc__law_is_number : FnScope ["_law_told"] ["_law_told"] (defScope s__law_is_number) := ⟨rfl, rfl, rfl, by decide +kernel, rfl, by decide +kernel, by decide +kernel⟩
abbrev sp_num (K : FK) := spP K (fun a : Int => [fz a]) (fun _ => True) (fun _ e => e = fz true)
theorem ok_law_is_number {f : Addr} {fd : FuncData} (F : Fun K "_law_is_number" "_law_is_number" s__law_is_number f fd) (hm : mg "_law_is_number" = some (.ref f)) (b : Binds K fd ["_law_told"] []) (T : Txt P w K mg base CG CN CL CM CR) :
    Cal0 P w K mg base 2 "_law_is_number" (sp_num K) :=
  cal0 F hm b sc__law_is_number (fun vs H Q E h => spP_len (n := 1) (fun _ => rfl) h) fun cdv A outer s H vs Q E hr h => ⟨_, (pss_one (ps_ret (pe_and (pe_callB (call_isi : CallR _ _ (rIsi K)) (by rfl) T.n_isinstance (by decide +kernel) (pa_cons (pv 0) (pa_cons (pe_bltn (v := .ty "int") (u := .type "int") (by rfl) T.n_int (by decide +kernel) rfl) pa_nil))) (pe_one (pe_not (pe_callB (call_isi : CallR _ _ (rIsi K)) (by rfl) T.n_isinstance (by decide +kernel) (pa_cons (pv 0) (pa_cons (pe_bltn (v := .ty "bool") (u := .type "bool") (by rfl) T.n_bool (by decide +kernel) rfl) pa_nil)))))))),
    walkP h (by intro _; simp) fun a B hB _ => by
      subst hB
      exact rs_ret (re_andV (a := true) (b := true) (re_isi (re_var rfl) rfl) (fun _ => re_notV (a := false) (re_isi (re_var rfl) rfl))) rfl⟩
theorem okh_law_is_number {f : Addr} {fd : FuncData} (F : Fun K "_law_is_number" "_law_is_number" s__law_is_number f fd) (hm : mg "_law_is_number" = some (.ref f)) (b : Binds K fd ["_law_told"] []) (T : Txt P w K mg base CG CN CL CM CR) :
    CalH P w K mg base 2 "_law_is_number" (sp_num K) :=
  calh F hm b sc__law_is_number (fun vs H Q E h => spP_len (n := 1) (fun _ => rfl) h) fun cdv A outer s H vs Q E hr h => ⟨_, (pss_one (ps_ret (pe_and (pe_callB (call_isi : CallR _ _ (rIsi K)) (by rfl) T.n_isinstance (by decide +kernel) (pa_cons (pv 0) (pa_cons (pe_bltn (v := .ty "int") (u := .type "int") (by rfl) T.n_int (by decide +kernel) rfl) pa_nil))) (pe_one (pe_not (pe_callB (call_isi : CallR _ _ (rIsi K)) (by rfl) T.n_isinstance (by decide +kernel) (pa_cons (pv 0) (pa_cons (pe_bltn (v := .ty "bool") (u := .type "bool") (by rfl) T.n_bool (by decide +kernel) rfl) pa_nil)))))))),
    walkP h (by intro _; simp) fun a B hB _ => by
      subst hB
      exact rs_ret (re_andV (a := true) (b := true) (re_isi (re_var rfl) rfl) (fun _ => re_notV (a := false) (re_isi (re_var rfl) rfl))) rfl⟩
abbrev s__law_is_numbers : Stmt := top 43
theorem sc__law_is_numbers : FnScope ["_law_told", "_law_due", "_law_place"] ["_law_told", "_law_due"] (defScope s__law_is_numbers) := ⟨rfl, rfl, rfl, by decide +kernel, rfl, by decide +kernel, by decide +kernel⟩
abbrev sp_nums (K : FK) := spP K (fun a : List Int × List Int => [fz (Tup.mk a.1), fz (Lst.mk a.2)]) (fun a => a.1.length ≤ 1000 ∧ a.2.length ≤ 1000) (fun a e => e = fz (decide (a.1 = a.2)))
theorem take_snoc {α : Type} {xs : List α} {i : Nat} {x : α} (h : xs[i]? = some x) : xs.take (i + 1) = xs.take i ++ [x] := by
  rw [List.take_succ, h]; rfl
theorem ok_law_is_numbers {f : Addr} {fd : FuncData} (F : Fun K "_law_is_numbers" "_law_is_numbers" s__law_is_numbers f fd) (hm : mg "_law_is_numbers" = some (.ref f)) (b : Binds K fd ["_law_told", "_law_due"] []) (T : Txt P w K mg base CG CN CL CM CR) (c__law_is_number : Cal0 P w K mg base 2 "_law_is_number" (sp_num K)) :
    Cal0 P w K mg base 4 "_law_is_numbers" (sp_nums K) :=
  cal0 F hm b sc__law_is_numbers (fun vs H Q E h => spP_len (n := 2) (fun _ => rfl) h) fun cdv A outer s H vs Q E hr h => ⟨_, (pss_cons (ps_if (PW.pt (pw_or (pt_not (pt_val (pe_callB (call_isi : CallR _ _ (rIsi K)) (by rfl) T.n_isinstance (by decide +kernel) (pa_cons (pv 0) (pa_cons (pe_bltn (v := .ty "tuple") (u := .type "tuple") (by rfl) T.n_tuple (by decide +kernel) rfl) pa_nil))))) (pw_or1 (pt_cmpR op_ne (pe_callB (call_len_seq : CallR _ _ (rLenQ K)) (by rfl) T.n_len PySem.boot_len (pa_cons (pv 0) pa_nil)) (pe_callB (call_len_seq : CallR _ _ (rLenQ K)) (by rfl) T.n_len PySem.boot_len (pa_cons (pv 1) pa_nil)) (nomark _))))) (pss_one (ps_ret pe_bl)) pss_nil)
      (pss_cons (ps_for PassesOwn.never rfl (pi_range1 (by rfl) T.n_range (pa_cons (pe_callB (call_len_seq : CallR _ _ (rLenQ K)) (by rfl) T.n_len PySem.boot_len (pa_cons (pv 1) pa_nil)) pa_nil)) (pg_name (i := 2) sc__law_is_numbers.nd rfl (.inl rfl)) (pss_one (ps_if (PW.pt (pw_or (pt_not (pt_val (pe_c0 c__law_is_number hr (by decide) (by rfl) (pa_cons (pe_ix (ix_tup : IxR _ (rIxT K)) (pv 0) (pv 2) (fun _ _ => rfl)) pa_nil)))) (pw_or1 (pt_cmpR op_ne (pe_ix (ix_tup : IxR _ (rIxT K)) (pv 0) (pv 2) (fun _ _ => rfl)) (pe_ix (ix_list : IxR _ (rIxL K)) (pv 1) (pv 2) (fun _ _ => rfl)) (nomark _))))) (pss_one (ps_ret pe_bl)) pss_nil)))
      (pss_one (ps_ret pe_bl)))),
    walkP h (by intro _; simp) fun a B hB hp => by
      subst hB
      obtain ⟨told, due⟩ := a
      show RS B [some (fz (Tup.mk told)), some (fz (Lst.mk due)), none] _ _
      have hp1 : told.length ≤ 1000 := hp.1
      have hp2 : due.length ≤ 1000 := hp.2
      refine rs_seq (rs_if (b := !decide ((told.length : Int) = due.length)) (rt_ni0 (re_var rfl) rfl (rt_test (re_op (re_cb (ra_cons (re_var rfl) ra_nil) cb_lenT) (re_cb (ra_cons (re_var rfl) ra_nil) cb_lenL) os_neI))) (fun q => ?_) (fun q => ?_))
      · refine rs_ret re_cB ?_
        have : told ≠ due := fun z => by rw [z] at q; simp at q
        show fz false = fz (decide (told = due))
        rw [decide_eq_false this]
      · have hl : told.length = due.length := by simp at q; omega
        refine rs_nil (rs_seq (rs_for (I := fun i (_ : Unit) => told.take i = due.take i) (G := fun _ => [some (fz (Tup.mk told)), some (fz (Lst.mk due)), none]) () (ri_range1 (ra_cons (re_cb (ra_cons (re_var rfl) ra_nil) cb_lenL) ra_nil) (by omega)) (Le.refl _) rfl (fun i _ hi hI => ?_) (fun _ hI => ?_)))
        · have hi : i < due.length := by omega
          have hx : told[i]? = some told[i] := by simp [hl, hi]
          have hy : due[i]? = some due[i] := by simp [hi]
          have ix1 : RE B [some (fz (Tup.mk told)), some (fz (Lst.mk due)), some (fz (i : Int))] (tOp (rIxT B.K) (tVar 0) (tVar 2)) (fz told[i]) := re_op (re_var rfl) (re_var rfl) (os_ixT (atI_nat hx))
          have ix2 : RE B [some (fz (Tup.mk told)), some (fz (Lst.mk due)), some (fz (i : Int))] (tOp (rIxL B.K) (tVar 1) (tVar 2)) (fz due[i]) := re_op (re_var rfl) (re_var rfl) (os_ixL (atI_nat hy))
          refine ⟨_, rg_name (by simp), rs_if (b := !decide (told[i] = due[i])) (rt_or (a := false) (b := !decide (told[i] = due[i])) (rt_not (a := true) (rt_B (re_call (args := fun a : Int => [fz a]) (ra_cons ix1 ra_nil) told[i] rfl ⟨fz_fz, trivial⟩ trivial fun _ q => q))) (fun _ => rt_test (re_op ix1 ix2 os_neI))) (fun q => ?_) (fun q => ?_)⟩
          · refine rs_ret re_cB ?_
            have : told ≠ due := fun z => by subst z; simp at q
            show fz false = fz (decide (told = due))
            rw [decide_eq_false this]
          · refine rs_nil ⟨(), Le.same (Le.same (Le.skip Le.nil)), ?_⟩
            show told.take (i + 1) = due.take (i + 1)
            rw [take_snoc hx, take_snoc hy, hI]
            simp at q
            rw [q]
        · refine rs_ret re_cB ?_
          have hI : told.take (due.length : Int).toNat = due.take (due.length : Int).toNat := hI
          have : told = due := by
            rw [show (due.length : Int).toNat = due.length by omega, List.take_of_length_le (by omega), List.take_of_length_le (by omega)] at hI
            exact hI
          show fz true = fz (decide (told = due))
          rw [decide_eq_true this]⟩
/-! ### counts -/
abbrev s_count_safe_goals : Stmt := top 23
theorem sc_count_safe_goals : FnScope ["blocks", "many", "kept", "ways", "_"] ["blocks"] (defScope s_count_safe_goals) := ⟨rfl, rfl, rfl, by decide +kernel, rfl, by decide +kernel, by decide +kernel⟩
/-- the sum over the first numbers of blocks at home -/
def csS (n : Int) : Nat → Int
  | 0 => 0
  | k + 1 => csS n k + PySem.W.mcComb n (1 + k) * (1 + (k : Int)) ^ (n - (1 + k)).toNat
def cs (n : Int) : Int := csS n n.toNat
abbrev sp_cs (K : FK) := spP K (fun n : Int => [fz n]) (fun n => 1 ≤ n ∧ n ≤ 12) (fun n e => e = fz (cs n))
theorem ok_count_safe_goals {f : Addr} {fd : FuncData} (F : Fun K "count_safe_goals" "count_safe_goals" s_count_safe_goals f fd) (hm : mg "count_safe_goals" = some (.ref f)) (b : Binds K fd ["blocks"] []) (T : Txt P w K mg base CG CN CL CM CR) :
    Cal0 P w K mg base 2 "count_safe_goals" (sp_cs K) :=
  cal0 F hm b sc_count_safe_goals (fun vs H Q E h => spP_len (n := 1) (fun _ => rfl) h) fun cdv A outer s H vs Q E hr h => ⟨_, (pss_cons (ps_set (i := 1) sc_count_safe_goals.nd rfl (.inl rfl) pe_int)
      (pss_cons (ps_for PassesOwn.never rfl (pi_range2 (by rfl) T.n_range (pa_cons pe_int (pa_cons (pe_op op_add (pv 0) pe_int) pa_nil))) (pg_name (i := 2) sc_count_safe_goals.nd rfl (.inl rfl)) (pss_cons (ps_set (i := 3) sc_count_safe_goals.nd rfl (.inl rfl) (pe_callBfun cr_comb (by rfl) T.i_comb (pa_cons (pv 0) (pa_cons (pv 2) pa_nil))))
      (pss_cons (ps_for PassesOwn.never rfl (pi_range1 (by rfl) T.n_range (pa_cons (pe_op op_sub (pv 0) (pv 2)) pa_nil)) (pg_name (i := 4) sc_count_safe_goals.nd rfl (.inl rfl)) (pss_one (ps_aug (i := 3) sc_count_safe_goals.nd rfl (.inl rfl) (pv 2) (fun pins s σ H x y v u Q I r1 r2 h => iop_mul pins s σ H x y v u Q I r1 r2 h))))
      (pss_one (ps_aug (i := 1) sc_count_safe_goals.nd rfl (.inl rfl) (pv 3) ip_add)))))
      (pss_one (ps_ret (pv 1))))),
    walkP h (by intro _; simp) fun n B hB hp => by
      subst hB
      show RS B [some (fz n), none, none, none, none] _ _
      refine rs_seq (rs_asg re_cI (by simp) ?_)
      have hb1 : ∀ k : Nat, RE B [some (fz n), some (fz (csS n k)), none, none, none] (tVar 0) (fz n) := fun _ => re_var rfl
      refine rs_seq (rs_for (I := fun i k => k = i) (G := fun k : Nat => [some (fz n), some (fz (csS n k)), none, none, none]) 0 (ri_range2 (ra_cons re_cI (ra_cons (re_op (re_var rfl) re_cI os_add) ra_nil)) (by omega) (by omega)) (Le.refl _) rfl (fun i k hi hk => ?_) (fun k hk => ?_))
      · subst hk
        have hi : (k : Int) < n := by omega
        refine ⟨_, rg_name (by simp), rs_seq (rs_asg (re_cb (ra_cons (re_var rfl) (ra_cons (re_var rfl) ra_nil)) (cb_comb (by omega) (by omega) (by omega))) (by simp) ?_)⟩
        refine rs_seq (rs_for (I := fun i j => j = i) (G := fun j : Nat => [some (fz n), some (fz (csS n k)), some (fz (1 + (k : Int))), some (fz (PySem.W.mcComb n (1 + k) * (1 + (k : Int)) ^ j)), none]) 0 (ri_range1 (ra_cons (re_op (re_var rfl) (re_var rfl) os_sub) ra_nil) (by omega)) ?_ rfl (fun i j hi hj => ?_) (fun j hj => ?_))
        · rw [Int.pow_zero, Int.mul_one]
          exact Le.refl _
        · subst hj
          refine ⟨_, rg_name (by simp), rs_augM rfl (re_var rfl) (.inr (by constructor <;> omega)) ⟨j + 1, ?_, rfl⟩⟩
          rw [Int.pow_succ, ← Int.mul_assoc]
          exact Le.same (Le.same (Le.same (Le.same (Le.skip Le.nil))))
        · subst hj
          exact rs_aug rfl (re_var rfl) ⟨k + 1, Le.same (Le.same (Le.skip (Le.skip (Le.skip Le.nil)))), rfl⟩
      · subst hk
        refine rs_ret (re_var rfl) ?_
        show fz (csS n (n + 1 - 1).toNat) = fz (csS n n.toNat)
        rw [Int.add_sub_cancel]⟩
abbrev s__law_count : Stmt := top 52
theorem sc__law_count : FnScope ["_law_blocks", "_law_many", "_law_choices", "_law_stays", "_law_ways", "_law_mover"] ["_law_blocks"] (defScope s__law_count) := ⟨rfl, rfl, rfl, by decide +kernel, rfl, by decide +kernel, by decide +kernel⟩
def lcS (n : Int) : Nat → Int × Int
  | 0 => (1, 0)
  | k + 1 => let c := (lcS n k).1 * (n + 1 - (1 + (k : Int))) / (1 + (k : Int)); (c, (lcS n k).2 + c * (1 + (k : Int)) ^ (n - (1 + k)).toNat)
def lc (n : Int) : Int := (lcS n n.toNat).2
abbrev sp_lc (K : FK) := spP K (fun n : Int => [fz n]) (fun n => 1 ≤ n ∧ n ≤ 12) (fun n e => e = fz (lc n))
theorem log_bd {i : Int} (h : 1 ≤ i ∧ i ≤ 1000) : i.natAbs.log2 < 9000 := Nat.lt_trans (log_small ⟨by omega, h.2⟩) (by decide)
theorem ok_law_count {f : Addr} {fd : FuncData} (F : Fun K "_law_count" "_law_count" s__law_count f fd) (hm : mg "_law_count" = some (.ref f)) (b : Binds K fd ["_law_blocks"] []) (T : Txt P w K mg base CG CN CL CM CR) :
    Cal0 P w K mg base 2 "_law_count" (sp_lc K) :=
  cal0 F hm b sc__law_count (fun vs H Q E h => spP_len (n := 1) (fun _ => rfl) h) fun cdv A outer s H vs Q E hr h => ⟨_, (pss_cons (ps_set (i := 1) sc__law_count.nd rfl (.inl rfl) pe_int)
      (pss_cons (ps_set (i := 2) sc__law_count.nd rfl (.inl rfl) pe_int)
      (pss_cons (ps_for PassesOwn.never rfl (pi_range2 (by rfl) T.n_range (pa_cons pe_int (pa_cons (pe_op op_add (pv 0) pe_int) pa_nil))) (pg_name (i := 3) sc__law_count.nd rfl (.inl rfl)) (pss_cons (ps_set (i := 2) sc__law_count.nd rfl (.inl rfl) (pe_op op_fdivB (pe_op op_mul (pv 2) (pe_op op_sub (pe_op op_add (pv 0) pe_int) (pv 3))) (pv 3)))
      (pss_cons (ps_set (i := 4) sc__law_count.nd rfl (.inl rfl) (pv 2))
      (pss_cons (ps_for PassesOwn.never rfl (pi_range1 (by rfl) T.n_range (pa_cons (pe_op op_sub (pv 0) (pv 3)) pa_nil)) (pg_name (i := 5) sc__law_count.nd rfl (.inl rfl)) (pss_one (ps_set (i := 4) sc__law_count.nd rfl (.inl rfl) (pe_op op_mul (pv 4) (pv 3)))))
      (pss_one (ps_set (i := 1) sc__law_count.nd rfl (.inl rfl) (pe_op op_add (pv 1) (pv 4))))))))
      (pss_one (ps_ret (pv 1)))))),
    walkP h (by intro _; simp) fun n B hB hp => by
      subst hB
      show RS B [some (fz n), none, none, none, none, none] _ _
      refine rs_seq (rs_asg re_cI (by simp) ?_)
      refine rs_seq (rs_asg re_cI (by simp) ?_)
      refine rs_seq (rs_for (I := fun i k => k = i) (G := fun k : Nat => [some (fz n), some (fz (lcS n k).2), some (fz (lcS n k).1), none, none, none]) 0 (ri_range2 (ra_cons re_cI (ra_cons (re_op (re_var rfl) re_cI os_add) ra_nil)) (by omega) (by omega)) (Le.refl _) rfl (fun i k hi hk => ?_) (fun k hk => ?_))
      · subst hk
        have hi : (k : Int) < n := by omega
        refine ⟨_, rg_name (by simp), rs_seq (rs_asg (re_op (re_op (re_var rfl) (re_op (re_op (re_var rfl) re_cI os_add) (re_var rfl) os_sub) (os_mul (.inr (by constructor <;> omega)))) (re_var rfl) (os_fdivB (by omega) (log_bd (by omega)))) (by simp) ?_)⟩
        refine rs_seq (rs_asg (re_var rfl) (by simp) ?_)
        refine rs_seq (rs_for (I := fun i j => j = i) (G := fun j : Nat => [some (fz n), some (fz (lcS n k).2), some (fz (lcS n (k + 1)).1), some (fz (1 + (k : Int))), some (fz ((lcS n (k + 1)).1 * (1 + (k : Int)) ^ j)), none]) 0 (ri_range1 (ra_cons (re_op (re_var rfl) (re_var rfl) os_sub) ra_nil) (by omega)) ?_ rfl (fun i j hi hj => ?_) (fun j hj => ?_))
        · rw [Int.pow_zero, Int.mul_one]
          exact Le.refl _
        · subst hj
          refine ⟨_, rg_name (by simp), rs_asg (re_op (re_var rfl) (re_var rfl) (os_mul (.inr (by constructor <;> omega)))) (by simp) ⟨j + 1, ?_, rfl⟩⟩
          rw [Int.pow_succ, ← Int.mul_assoc]
          exact Le.same (Le.same (Le.same (Le.same (Le.same (Le.skip Le.nil)))))
        · subst hj
          exact rs_asg (re_op (re_var rfl) (re_var rfl) os_add) (by simp) ⟨k + 1, Le.same (Le.same (Le.same (Le.skip (Le.skip (Le.skip Le.nil))))), rfl⟩
      · subst hk
        refine rs_ret (re_var rfl) ?_
        show fz (lcS n (n + 1 - 1).toNat).2 = fz (lcS n n.toNat).2
        rw [Int.add_sub_cancel]⟩
theorem cs_lc : ∀ n : Nat, n ≤ 12 → cs n = lc n := by decide +kernel
/-! ### homeless, counted by the law -/
abbrev s__law_homeless : Stmt := top 49
theorem sc__law_homeless : FnScope ["_law_goal_here", "_law_found", "_law_number"] ["_law_goal_here"] (defScope s__law_homeless) := ⟨rfl, rfl, rfl, by decide +kernel, rfl, by decide +kernel, by decide +kernel⟩
def lhS (ys : List Int) : Nat → List Int
  | 0 => []
  | k + 1 => if (k : Int) ∈ ys ∧ ys.getD k 0 ≠ (k : Int) then lhS ys k ++ [(k : Int)] else lhS ys k
def lh (ys : List Int) : List Int := lhS ys ys.length
theorem lhS_len (ys : List Int) : ∀ k, (lhS ys k).length ≤ k
  | 0 => Nat.le_refl _
  | k + 1 => by
    unfold lhS
    have := lhS_len ys k
    split
    · rw [List.length_append, List.length_singleton]; omega
    · omega
abbrev sp_lh (K : FK) := spP K (fun ys : List Int => [fz (Tup.mk ys)]) (fun ys => ys.length ≤ 1000) (fun ys e => e = ow (lh ys))
theorem ok_law_homeless {f : Addr} {fd : FuncData} (F : Fun K "_law_homeless" "_law_homeless" s__law_homeless f fd) (hm : mg "_law_homeless" = some (.ref f)) (b : Binds K fd ["_law_goal_here"] []) (T : Txt P w K mg base CG CN CL CM CR) :
    Cal0 P w K mg base 2 "_law_homeless" (sp_lh K) :=
  cal0 F hm b sc__law_homeless (fun vs H Q E h => spP_len (n := 1) (fun _ => rfl) h) fun cdv A outer s H vs Q E hr h => ⟨_, (pss_cons (ps_set (i := 1) sc__law_homeless.nd rfl (.inl rfl) (pe_lst pa_nil))
      (pss_cons (ps_for PassesOwn.never rfl (pi_range1 (by rfl) T.n_range (pa_cons (pe_callB (call_len_seq : CallR _ _ (rLenQ K)) (by rfl) T.n_len PySem.boot_len (pa_cons (pv 0) pa_nil)) pa_nil)) (pg_name (i := 2) sc__law_homeless.nd rfl (.inl rfl)) (pss_one (ps_if (PW.pt (pw_and (pt_cmpR (op_in_seq : OpR _ _ (rIn K false)) (pv 2) (pv 0) (by rfl)) (pw_and1 (pt_cmpR op_ne (pe_ix (ix_tup : IxR _ (rIxT K)) (pv 0) (pv 2) (fun _ _ => rfl)) (pv 2) (nomark _))))) (pss_one (ps_expr (pe_bm PySem.F.plainAttrs_list PySem.F.slot_list_append PySem.F.type_list_append mt_append (pv 1) (pa_cons (pv 2) pa_nil) : PE _ _ (tBM K _ _ _ _)))) pss_nil)))
      (pss_one (ps_ret (pv 1))))),
    walkP h (by intro _; simp) fun ys B hB hp => by
      subst hB
      show RS B [some (fz (Tup.mk ys)), none, none] _ _
      have hp : ys.length ≤ 1000 := hp
      refine rs_seq (rs_asg (e := ow ([] : List Int)) (re_lst ra_nil (items_of (xs := ([] : List Int))) (by simp)) (by simp) ?_)
      refine rs_seq (rs_for (I := fun i k => k = i) (G := fun k : Nat => [some (fz (Tup.mk ys)), some (ow (lhS ys k)), none]) 0 (ri_range1 (ra_cons (re_cb (ra_cons (re_var rfl) ra_nil) cb_lenT) ra_nil) (by omega)) (Le.refl _) rfl (fun i k hi hk => ?_) (fun k hk => ?_))
      · subst hk
        have hi : k < ys.length := by omega
        have hx : ys[k]? = some (ys.getD k 0) := by simp [List.getD, hi]
        refine ⟨_, rg_name (by simp), rs_if (rt_and (rt_test (re_op (re_var rfl) (re_var rfl) os_inIT)) (fun _ => rt_test (re_op (re_op (re_var rfl) (re_var rfl) (os_ixT (atI_nat hx))) (re_var rfl) os_neI))) (fun q => ?_) (fun q => ?_)⟩
        · refine rs_app (xs := lhS ys k) rfl (re_var rfl) (by have := lhS_len ys k; omega) ⟨k + 1, ?_, rfl⟩
          have : lhS ys (k + 1) = lhS ys k ++ [(k : Int)] := if_pos (by simpa using q)
          rw [this]
          exact Le.same (Le.same (Le.skip Le.nil))
        · refine rs_nil ⟨k + 1, ?_, rfl⟩
          have : lhS ys (k + 1) = lhS ys k := if_neg (by simpa using q)
          rw [this]
          exact Le.same (Le.same (Le.skip Le.nil))
      · subst hk
        exact rs_retO (e := ow (lh ys)) rfl rfl⟩
/-! ### all goals of some blocks -/
abbrev s__law_every : Stmt := top 50
theorem sc__law_every : FnScope ["_law_blocks", "_law_rows", "_law_place", "_law_longer", "_law_row", "_law_number"] ["_law_blocks"] (defScope s__law_every) := ⟨rfl, rfl, rfl, by decide +kernel, rfl, by decide +kernel, by decide +kernel⟩
/-- each row with one number more -/
def evI (row : List Int) : Nat → List (List Int)
  | 0 => []
  | k + 1 => evI row k ++ [row ++ [(k : Int)]]
def evO (n : Nat) (rows : List (List Int)) : Nat → List (List Int)
  | 0 => []
  | k + 1 => evO n rows k ++ evI (rows.getD k []) n
def evS (n : Nat) : Nat → List (List Int)
  | 0 => [[]]
  | k + 1 => evO n (evS n k) (evS n k).length
theorem evI_len (row : List Int) : ∀ k, (evI row k).length = k
  | 0 => rfl
  | k + 1 => by
    show (evI row k ++ [row ++ [(k : Int)]]).length = _
    rw [List.length_append, evI_len row k]; rfl
theorem evO_len (n : Nat) (rows : List (List Int)) : ∀ k, (evO n rows k).length = k * n
  | 0 => by rw [Nat.zero_mul]; rfl
  | k + 1 => by
    show (evO n rows k ++ evI (rows.getD k []) n).length = _
    rw [List.length_append, evO_len n rows k, evI_len, Nat.succ_mul]
theorem evS_len (n : Nat) : ∀ k, (evS n k).length = n ^ k
  | 0 => rfl
  | k + 1 => by
    show (evO n (evS n k) (evS n k).length).length = _
    rw [evO_len, evS_len n k, Nat.pow_succ]
theorem pow_bd : ∀ n : Nat, n ≤ 4 → ∀ k, k ≤ 4 → n ^ k ≤ 256 := by decide
theorem evS_bd {n k : Nat} (hn : n ≤ 4) (hk : k ≤ n) : (evS n k).length ≤ 256 := by rw [evS_len]; exact pow_bd n hn k (by omega)
theorem evI_row : ∀ {k : Nat} {row r : List Int}, r ∈ evI row k → r.length = row.length + 1
  | 0, _, _, h => nomatch h
  | k + 1, row, r, h => by
    rcases List.mem_append.mp h with h | h
    · exact evI_row h
    · have : r = row ++ [(k : Int)] := by simpa using h
      rw [this, List.length_append]; rfl
theorem evO_row {n : Nat} {rows : List (List Int)} {m : Nat} (hr : ∀ r ∈ rows, r.length = m) : ∀ {k : Nat} {r : List Int}, k ≤ rows.length → r ∈ evO n rows k → r.length = m + 1
  | 0, _, _, h => nomatch h
  | k + 1, r, hk, h => by
    rcases List.mem_append.mp h with h | h
    · exact evO_row hr (by omega) h
    · have h2 := evI_row h
      rw [h2, hr _ (by
        have : rows.getD k [] = rows[k] := by simp [List.getD, show k < rows.length by omega]
        rw [this]; simp)]
theorem evS_row (n : Nat) : ∀ {k : Nat} {r : List Int}, r ∈ evS n k → r.length = k
  | 0, r, h => by
    have : r = [] := by simpa [evS] using h
    rw [this]; rfl
  | k + 1, r, h => evO_row (fun r hr => evS_row n hr) (Nat.le_refl _) h
abbrev tm (rows : List (List Int)) : List (Tup Int) := rows.map Tup.mk
abbrev sp_ev (K : FK) := spP K (fun n : Nat => [fz (n : Int)]) (fun n => n ≤ 4) (fun n e => e = ow (tm (evS n n)))
theorem ok_law_every {f : Addr} {fd : FuncData} (F : Fun K "_law_every" "_law_every" s__law_every f fd) (hm : mg "_law_every" = some (.ref f)) (b : Binds K fd ["_law_blocks"] []) (T : Txt P w K mg base CG CN CL CM CR) :
    Cal0 P w K mg base 2 "_law_every" (sp_ev K) :=
  cal0 F hm b sc__law_every (fun vs H Q E h => spP_len (n := 1) (fun _ => rfl) h) fun cdv A outer s H vs Q E hr h => ⟨_, (pss_cons (ps_set (i := 1) sc__law_every.nd rfl (.inl rfl) (pe_lst (pa_cons (pe_tup pa_nil) pa_nil)))
      (pss_cons (ps_for PassesOwn.never rfl (pi_range1 (by rfl) T.n_range (pa_cons (pv 0) pa_nil)) (pg_name (i := 2) sc__law_every.nd rfl (.inl rfl)) (pss_cons (ps_set (i := 3) sc__law_every.nd rfl (.inl rfl) (pe_lst pa_nil))
      (pss_cons (ps_for PassesOwn.never rfl (pi_list (pv 1)) (pg_name (i := 4) sc__law_every.nd rfl (.inl rfl)) (pss_one (ps_for PassesOwn.never rfl (pi_range1 (by rfl) T.n_range (pa_cons (pv 0) pa_nil)) (pg_name (i := 5) sc__law_every.nd rfl (.inl rfl)) (pss_one (ps_expr (pe_bm PySem.F.plainAttrs_list PySem.F.slot_list_append PySem.F.type_list_append mt_append (pv 3) (pa_cons (pe_op (op_catA : OpR _ _ (rCatA K)) (pv 4) (pe_tup (pa_cons (pv 5) pa_nil))) pa_nil) : PE _ _ (tBM K _ _ _ _)))))))
      (pss_one (ps_set (i := 1) sc__law_every.nd rfl (.inl rfl) (pv 3))))))
      (pss_one (ps_ret (pv 1))))),
    walkP h (by intro _; simp) fun n B hB hp => by
      subst hB
      show RS B [some (fz (n : Int)), none, none, none, none, none] _ _
      have hp : n ≤ 4 := hp
      refine rs_seq (rs_asg (e := ow (tm (evS n 0))) (re_lst (ra_cons (re_tup (x := Tup.mk ([] : List Int)) ra_nil (tup_of (xs := ([] : List Int))) (by simp)) ra_nil) (items_of (xs := [Tup.mk ([] : List Int)])) (by simp)) (by simp) ?_)
      refine rs_seq (rs_for (I := fun i k => k = i) (G := fun k : Nat => [some (fz (n : Int)), some (ow (tm (evS n k))), none, none, none, none]) 0 (ri_range1 (ra_cons (re_var rfl) ra_nil) (by omega)) (Le.refl _) rfl (fun i k hi hk => ?_) (fun k hk => ?_))
      · subst hk
        have hi : k < n := by omega
        have hb := evS_bd hp (Nat.le_of_lt hi)
        refine ⟨_, rg_name (by simp), rs_seq (rs_asg (e := ow ([] : List (Tup Int))) (re_lst ra_nil (items_of (xs := ([] : List (Tup Int)))) (by simp)) (by simp) ?_)⟩
        refine rs_freeze (i := 1) (xs := tm (evS n k)) rfl ?_
        refine rs_seq (rs_for (I := fun i m => m = i) (G := fun m : Nat => [some (fz (n : Int)), some (fz (Lst.mk (tm (evS n k)))), none, some (ow (tm (evO n (evS n k) m))), none, none]) 0 (ri_list (re_var rfl)) (Le.same (Le.same (Le.skip (Le.same (Le.skip (Le.skip Le.nil)))))) rfl (fun i m hi2 hm => ?_) (fun m hm => ?_))
        · subst hm
          have hi2 : m < (evS n k).length := by simpa using hi2
          have hx : (tm (evS n k))[m]? = some (Tup.mk ((evS n k).getD m [])) := by simp [tm, List.getD, hi2]
          have hrow : ((evS n k).getD m []).length = k := evS_row n (by
            have : (evS n k).getD m [] = (evS n k)[m] := by simp [List.getD, hi2]
            rw [this]; simp)
          rw [itemAt_of hx]
          refine ⟨_, rg_name (by simp), ?_⟩
          refine rs_for (I := fun i j => j = i) (G := fun j : Nat => [some (fz (n : Int)), some (fz (Lst.mk (tm (evS n k)))), none, some (ow (tm (evO n (evS n k) m ++ evI ((evS n k).getD m []) j))), some (fz (Tup.mk ((evS n k).getD m []))), none]) 0 (ri_range1 (ra_cons (re_var rfl) ra_nil) (by omega)) ?_ rfl (fun i j hi3 hj => ?_) (fun j hj => ?_)
          · show Le [_, _, _, some (ow (tm (evO n (evS n k) m ++ []))), _, _] _
            rw [List.append_nil]
            exact Le.same (Le.same (Le.skip (Le.same (Le.same (Le.skip Le.nil)))))
          · subst hj
            have hi3 : j < n := by omega
            refine ⟨_, rg_name (by simp), rs_app (xs := tm (evO n (evS n k) m ++ evI ((evS n k).getD m []) j)) rfl (re_op (re_var rfl) (re_tup (x := Tup.mk [(j : Int)]) (ra_cons (re_var rfl) ra_nil) (tup_of (xs := [(j : Int)])) (by simp)) (os_catT (by rw [hrow]; simp; omega))) ?_ ⟨j + 1, ?_, rfl⟩⟩
            · rw [List.length_map, List.length_append, evO_len, evI_len]
              have : m * n ≤ 256 * 4 := Nat.mul_le_mul (by omega) hp
              omega
            · have e : tm (evO n (evS n k) m ++ evI ((evS n k).getD m []) (j + 1)) = tm (evO n (evS n k) m ++ evI ((evS n k).getD m []) j) ++ [Tup.mk ((evS n k).getD m [] ++ [(j : Int)])] := by
                show (evO n (evS n k) m ++ (evI ((evS n k).getD m []) j ++ [(evS n k).getD m [] ++ [(j : Int)]])).map Tup.mk = _
                rw [← List.append_assoc, List.map_append]; rfl
              rw [e]
              exact Le.same (Le.same (Le.skip (Le.same (Le.same (Le.skip Le.nil)))))
          · subst hj
            refine ⟨m + 1, ?_, rfl⟩
            exact Le.same (Le.same (Le.skip (Le.same (Le.skip (Le.skip Le.nil)))))
        · subst hm
          refine rs_asgO (e := ow (tm (evS n (k + 1)))) ?_ (by simp) ⟨k + 1, ?_, rfl⟩
          · show some (some (ow (tm (evO n (evS n k) (tm (evS n k)).length)))) = _
            rw [List.length_map]; rfl
          · exact Le.same (Le.same (Le.skip (Le.skip (Le.skip (Le.skip Le.nil)))))
      · subst hk
        exact rs_retO rfl rfl⟩
/-! ### homeless: the two ways -/
theorem fold_key (l : List Int) : ∀ acc : List Int, acc.Nodup → (l.foldl addKey acc).Nodup ∧ ∀ k, k ∈ l.foldl addKey acc ↔ k ∈ acc ∨ k ∈ l := by
  induction l with
  | nil => intro acc h; exact ⟨h, fun k => by simp⟩
  | cons x l ih =>
    intro acc h
    obtain ⟨h1, h2⟩ := ih (addKey acc x) (addKey_nodup h)
    refine ⟨h1, fun k => ?_⟩
    rw [List.foldl_cons, h2, addKey_mem, List.mem_cons]
    constructor
    · rintro ((h | h) | h)
      · exact .inl h
      · exact .inr (.inl h)
      · exact .inr (.inr h)
    · rintro (h | h | h)
      · exact .inl (.inl h)
      · exact .inl (.inr h)
      · exact .inr h
theorem hlAcc_mem (ys zs : List Int) : (hlAcc ys zs).Nodup ∧ ∀ k, k ∈ hlAcc ys zs ↔ k ∈ zs ∧ ys.getD k.toNat 0 ≠ k := by
  obtain ⟨h1, h2⟩ := fold_key (zs.filter fun n => !decide (ys.getD n.toNat 0 = n)) [] List.nodup_nil
  refine ⟨h1, fun k => ?_⟩
  unfold hlAcc
  rw [h2, List.mem_filter]
  simp
theorem lhS_mem (ys : List Int) : ∀ m, (lhS ys m).Pairwise (· < ·) ∧ ∀ k, k ∈ lhS ys m ↔ ∃ j : Nat, j < m ∧ k = (j : Int) ∧ (j : Int) ∈ ys ∧ ys.getD j 0 ≠ (j : Int)
  | 0 => ⟨.nil, fun k => by
    constructor
    · intro h; nomatch h
    · rintro ⟨j, h, _⟩; omega⟩
  | m + 1 => by
    obtain ⟨h1, h2⟩ := lhS_mem ys m
    unfold lhS
    split
    · rename_i hc
      refine ⟨List.pairwise_append.mpr ⟨h1, List.pairwise_singleton _ _, fun a ha b hb => ?_⟩, fun k => ?_⟩
      · obtain ⟨j, hj, rfl, _⟩ := (h2 a).mp ha
        have : b = (m : Int) := by simpa using hb
        omega
      · rw [List.mem_append, h2, List.mem_singleton]
        constructor
        · rintro (⟨j, hj, h⟩ | rfl)
          · exact ⟨j, by omega, h⟩
          · exact ⟨m, by omega, rfl, hc⟩
        · rintro ⟨j, hj, rfl, h⟩
          by_cases z : j = m
          · exact .inr (by rw [z])
          · exact .inl ⟨j, by omega, rfl, h⟩
    · rename_i hc
      refine ⟨h1, fun k => ?_⟩
      rw [h2]
      constructor
      · rintro ⟨j, hj, h⟩
        exact ⟨j, by omega, h⟩
      · rintro ⟨j, hj, rfl, h⟩
        by_cases z : j = m
        · exact absurd (z ▸ h) hc
        · exact ⟨j, by omega, rfl, h⟩
theorem hl_lh {ys : List Int} (g : Gd ys) : hl ys = lh ys := by
  obtain ⟨h1, h2⟩ := hlAcc_mem ys ys
  obtain ⟨h3, h4⟩ := lhS_mem ys ys.length
  refine srt_uniq (xs := hlAcc ys ys) (isort_srt _) ⟨(List.perm_ext_iff_of_nodup (h3.imp fun h => by omega) h1).mpr fun k => ?_, h3.imp fun h => by omega⟩
  show k ∈ lhS ys ys.length ↔ _
  rw [h4, h2]
  constructor
  · rintro ⟨j, _, rfl, ha, hb⟩
    exact ⟨ha, by simpa using hb⟩
  · rintro ⟨ha, hb⟩
    obtain ⟨z1, z2⟩ := g.h3 k ha
    exact ⟨k.toNat, by omega, by omega, by rw [show ((k.toNat : Nat) : Int) = k by omega]; exact ha, by rw [show ((k.toNat : Nat) : Int) = k by omega]; exact hb⟩
theorem ev_gd : ∀ n : Nat, 1 ≤ n → n ≤ 4 → ∀ r ∈ evS n n, ∀ y ∈ r, 0 ≤ y ∧ y < (n : Int) := by
  have h : ∀ n : Nat, n ≤ 4 → (evS n n).all (fun r => r.all fun y => decide (0 ≤ y) && decide (y < (n : Int))) = true := by decide +kernel
  intro n _ hn r hr y hy
  have := List.all_eq_true.mp (List.all_eq_true.mp (h n hn) r hr) y hy
  simpa using this
theorem ev_Gd {n : Nat} (h1 : 1 ≤ n) (h4 : n ≤ 4) {r : List Int} (hr : r ∈ evS n n) : Gd r := by
  have hl := evS_row n hr
  exact ⟨by omega, by omega, fun y hy => by rw [hl]; exact ev_gd n h1 h4 r hr y hy⟩
end
end K31
end

section
set_option Elab.async false
set_option linter.all false
set_option maxRecDepth 100000
set_option maxHeartbeats 1000000
namespace K31
open PySem L2 G
/-! ### side goals, readings by their shape -/

section
variable {P : Program} {w : World} {K : PySem.W.Frag} {mg : Str → Option Value} {base : Heap} {CG CN CL CM CR : Addr}
/-! ### small goals -/
theorem gi_inj' : ∀ {ys zs : List Int}, ys.map It.int = zs.map It.int → ys = zs
  | [], [], _ => rfl
  | [], _ :: _, h => by simp at h
  | _ :: _, [], h => by simp at h
  | y :: ys, z :: zs, h => by
    rw [List.map_cons, List.map_cons, List.cons.injEq] at h
    rw [It.int.inj h.1, gi_inj' h.2]
theorem gi_inj {ys zs : List Int} (h : gi ys = gi zs) : ys = zs := gi_inj' (GV.tup.inj h)
theorem re_hl {B : Bs} {Γ : List (Option Ent)} {W : WX} {te : TE} {ys : List Int} (hB : B.K = K) (g : Gd ys) (h : RE B Γ te (fz (Tup.mk ys))) : RE B Γ (tCallS (sp_hl K CG) (WE W) (tCons te tNil)) (fz (Tup.mk (hl ys))) := by
  subst hB
  refine res_to (S := fun e => e = fz (Tup.mk (hl ys))) (res_callX (ras_of (ra_cons h ra_nil)) (fun es q => ⟨gi ys, by rw [q, fz_gi], by rw [q]; exact ⟨fz_fz, trivial⟩, ?_, fun ent po => ?_, fun C fs po => ?_⟩)) (fun _ q => q)
  · show (ys.map It.int).length ≤ 1000
    have := g.h2
    rw [List.length_map]; omega
  · obtain ⟨zs, e1, _, e2⟩ := po
    rw [gi_inj e1]; exact e2
  · obtain ⟨i, h, _⟩ := po
    rw [chk_gi g] at h
    cases h
theorem re_cg {B : Bs} {Γ : List (Option Ent)} {W : WX} {te : TE} {ys : List Int} (hB : B.K = K) (g : Gd ys) (h : RE B Γ te (fz (Tup.mk ys))) : RE B Γ (tCallS (sp_cg K CG) (WE W) (tCons te tNil)) (fz ()) := by
  subst hB
  refine res_to (S := fun e => e = fz ()) (res_callX (ras_of (ra_cons h ra_nil)) (fun es q => ⟨gi ys, by rw [q, fz_gi], by rw [q]; exact ⟨fz_fz, trivial⟩, ?_, fun ent po => po.2, fun C fs po => ?_⟩)) (fun _ q => q)
  · show (ys.map It.int).length ≤ 1000
    have := g.h2
    rw [List.length_map]; omega
  · obtain ⟨i, h, _⟩ := po
    rw [chk_gi g] at h
    cases h
def sf (r : List Int) : List Int := r.filter fun x => !decide (r.getD x.toNat 0 = x)
def msS (rows : List (List Int)) : Nat → Int
  | 0 => 0
  | k + 1 => if sf (rows.getD k []) = [] then msS rows k + 1 else msS rows k
theorem ms_cs : ∀ n : Nat, n ≤ 4 → 1 ≤ n → cs n = msS (evS n n) (evS n n).length := by decide +kernel
abbrev s__law_small_right : Stmt := top 51
theorem sc__law_small_right : FnScope ["_law_blocks", "_law_many", "_law_goal_here", "_law_told", "_law_number"] ["_law_blocks"] (defScope s__law_small_right) := ⟨rfl, rfl, rfl, by decide +kernel, rfl, by decide +kernel, by decide +kernel⟩
abbrev sp_sr (K : FK) := spP K (fun n : Nat => [fz (n : Int)]) (fun n => 1 ≤ n ∧ n ≤ 4) (fun n e => e = fz true)
theorem ok_law_small_right {f : Addr} {fd : FuncData} (F : Fun K "_law_small_right" "_law_small_right" s__law_small_right f fd) (hm : mg "_law_small_right" = some (.ref f)) (b : Binds K fd ["_law_blocks"] []) (T : Txt P w K mg base CG CN CL CM CR)
    (c__law_every : Cal0 P w K mg base 2 "_law_every" (sp_ev K)) (c__law_is_numbers : Cal0 P w K mg base 4 "_law_is_numbers" (sp_nums K)) (c_homeless : CalX P w K mg base 6 "homeless" (sp_hl K CG)) (c__law_homeless : Cal0 P w K mg base 2 "_law_homeless" (sp_lh K))
    (c_count_safe_goals : Cal0 P w K mg base 2 "count_safe_goals" (sp_cs K)) (c__law_is_number : Cal0 P w K mg base 2 "_law_is_number" (sp_num K)) :
    Cal0 P w K mg base 8 "_law_small_right" (sp_sr K) :=
  cal0 F hm b sc__law_small_right (fun vs H Q E h => spP_len (n := 1) (fun _ => rfl) h) fun cdv A outer s H vs Q E hr h => ⟨_, (pss_cons (ps_set (i := 1) sc__law_small_right.nd rfl (.inl rfl) pe_int)
      (pss_cons (ps_for PassesOwn.never rfl (pi_list (pe_c0 c__law_every hr (by decide) (by rfl) (pa_cons (pv 0) pa_nil))) (pg_name (i := 2) sc__law_small_right.nd rfl (.inr rfl)) (pss_cons (ps_if (pt_not (pt_val (pe_c0 c__law_is_numbers hr (by decide) (by rfl) (pa_cons (pe_cx c_homeless hr (by decide) (by rfl) takes_no (pa_cons (pv 2) pa_nil)) (pa_cons (pe_c0 c__law_homeless hr (by decide) (by rfl) (pa_cons (pv 2) pa_nil)) pa_nil))))) (pss_one (ps_ret pe_bl)) pss_nil)
      (pss_one (ps_if (pt_not (pt_truth (pe_lc (own := [("_law_number", 4)]) (g := gName 4) rfl sc__law_small_right.nd (pi_tup (pv 2)) (blkOk_by (own := [("_law_number", 4)]) (N := ["_law_blocks", "_law_many", "_law_goal_here", "_law_told", "_law_number"]) (sc := defScope s__law_small_right) (by decide +kernel)) (fun _ _ _ _ _ => (pg_name (i := 4) sc__law_small_right.nd rfl (.inl rfl))) (fun _ _ _ _ _ => (pts_one (pt_cmpR op_ne (pe_ix (ix_tup : IxR _ (rIxT K)) (pv 2) (pv 4) (fun _ _ => rfl)) (pv 4) (nomark _)))) (fun _ _ _ _ _ => (pv 4))) (by intro _; rfl) : PT _ _ (tTru K _))) (pss_one (ps_set (i := 1) sc__law_small_right.nd rfl (.inl rfl) (pe_op op_add (pv 1) pe_int))) pss_nil))))
      (pss_cons (ps_set (i := 3) sc__law_small_right.nd rfl (.inl rfl) (pe_c0 c_count_safe_goals hr (by decide) (by rfl) (pa_cons (pv 0) pa_nil)))
      (pss_one (ps_ret (pe_and (pe_c0 c__law_is_number hr (by decide) (by rfl) (pa_cons (pv 3) pa_nil)) (pe_one (pe_cmpR op_eq (pv 3) (pv 1) (nomark _))))))))),
    walkP h (by intro _; simp) fun n B hB hp => by
      subst hB
      show RS B [some (fz (n : Int)), none, none, none, none] _ _
      obtain ⟨hp1, hp4⟩ : 1 ≤ n ∧ n ≤ 4 := hp
      refine rs_seq (rs_asg re_cI (by simp) ?_)
      refine rs_seq (rs_for (I := fun i k => k = i) (G := fun k : Nat => [some (fz (n : Int)), some (fz (msS (evS n n) k)), none, none, none]) 0 (ri_list (re_freeze (re_call (args := fun n : Nat => [fz (n : Int)]) (ra_cons (re_var rfl) ra_nil) n rfl ⟨fz_fz, trivial⟩ hp4 fun _ q => q))) (Le.refl _) rfl (fun i k hi hk => ?_) (fun k hk => ?_))
      · subst hk
        have hi : k < (evS n n).length := by simpa using hi
        have hx : (tm (evS n n))[k]? = some (Tup.mk ((evS n n).getD k [])) := by simp [tm, List.getD, hi]
        have hmem : (evS n n).getD k [] ∈ evS n n := by
          have : (evS n n).getD k [] = (evS n n)[k] := by simp [List.getD, hi]
          rw [this]; simp
        rw [itemAt_of hx]
        generalize hr : (evS n n).getD k [] = r at *
        have g := ev_Gd hp1 hp4 hmem
        have h2 := g.h2
        have hv : RE B [some (fz (n : Int)), some (fz (msS (evS n n) k)), some (fz (Tup.mk r)), none, none] (tVar 2) (fz (Tup.mk r)) := re_var rfl
        refine ⟨_, rg_name (by simp), rs_seq (rs_if (b := false) ?_ (fun q => nomatch q) (fun _ => rs_nil ?_))⟩
        · refine rt_not (a := true) (rt_B (re_is (re_call (args := fun a : List Int × List Int => [fz (Tup.mk a.1), fz (Lst.mk a.2)]) (ra_cons (re_hl rfl g hv) (ra_cons (re_freeze (re_call (args := fun ys : List Int => [fz (Tup.mk ys)]) (ra_cons hv ra_nil) r rfl ⟨fz_fz, trivial⟩ (show r.length ≤ 1000 by omega) fun _ q => q)) ra_nil)) (hl r, lh r) rfl ⟨fz_fz, fz_fz, trivial⟩ ?_ fun _ q => q) ?_))
          · have : (lh r).length ≤ r.length := lhS_len r r.length
            show (hl r).length ≤ 1000 ∧ (lh r).length ≤ 1000
            rw [hl_lh g]
            exact ⟨by omega, by omega⟩
          · show fz (decide (hl r = lh r)) = fz true
            rw [decide_eq_true (hl_lh g)]
        · refine rs_ifS (Sb := fun c => c = decide (sf r = [])) (rts_imp (rts_not (Sb := fun c => c = !decide (sf r = [])) (rts_truO (xs := r) (S := fun e => ∃ acc : List Int, acc = sf r ∧ e = ow acc) (res_imp (res_lc (β := Int) (ws := [4]) (fun i acc => acc = (r.take i).filter fun x => !decide (r.getD x.toNat 0 = x)) (ri_tup hv) (by omega) ?_ (by simp) rfl ?_) ?_) ?_)) ?_) (fun q => ?_) (fun q => ?_)
          · intro k hk e
            have : k = 4 := by simpa using hk
            subst this
            simp
          · intro i acc hi _ hI
            have hx : r[i]? = some r[i] := by simp [hi]
            have hy := g.h3 r[i] (by simp)
            have hg : r[(r[i]).toNat]? = some (r.getD (r[i]).toNat 0) := by
              have : (r[i]).toNat < r.length := by omega
              simp [List.getD, this]
            rw [itemAt_of hx]
            refine ⟨_, fun c => c = !decide (r.getD (r[i]).toNat 0 = r[i]), fun y => y = r[i], rgw_name (by simp), Le.same (Le.same (Le.same (Le.skip (Le.skip Le.nil)))), rts_of (rt_test (re_op (re_op (re_var rfl) (re_var rfl) (os_ixT (atI_of hy.1 hg))) (re_var rfl) os_neI)), fun _ => res_imp (res_of (re_var rfl)) (fun _ q => ⟨_, rfl, q⟩), fun q y hy => ?_, fun q => ?_⟩
            · subst hy
              rw [take_snoc hx, List.filter_append, List.filter_cons_of_pos (p := fun x => !decide (r.getD x.toNat 0 = x)) q.symm, hI]; rfl
            · rw [take_snoc hx, List.filter_append, List.filter_cons_of_neg (p := fun x => !decide (r.getD x.toNat 0 = x)) (by rw [← q]; exact Bool.false_ne_true), hI]
              simp
          · rintro e ⟨acc, hI, _, rfl⟩
            rw [List.take_length] at hI
            exact ⟨acc, hI, rfl⟩
          · rintro e ⟨acc, rfl, rfl⟩
            exact ⟨_, rfl, by cases sf r <;> simp⟩
          · intro c q
            cases c <;> simpa using q
          · refine rs_asg (re_op (re_var rfl) re_cI os_add) (by simp) ⟨k + 1, ?_, rfl⟩
            have e : msS (evS n n) (k + 1) = msS (evS n n) k + 1 := by
              show (if sf ((evS n n).getD k []) = [] then _ else _) = _
              rw [hr, if_pos (by simpa using q.symm)]
            rw [e]
            exact Le.same (Le.same (Le.skip (Le.skip (Le.skip Le.nil))))
          · refine rs_nil ⟨k + 1, ?_, rfl⟩
            have e : msS (evS n n) (k + 1) = msS (evS n n) k := by
              show (if sf ((evS n n).getD k []) = [] then _ else _) = _
              rw [hr, if_neg (by simpa using q.symm)]
            rw [e]
            exact Le.same (Le.same (Le.skip (Le.skip (Le.skip Le.nil))))
      · have hk : k = (evS n n).length := by rw [hk, List.length_map]
        subst hk
        refine rs_seq (rs_asg (re_call (args := fun n : Int => [fz n]) (ra_cons (re_var rfl) ra_nil) (n : Int) rfl ⟨fz_fz, trivial⟩ (show 1 ≤ (n : Int) ∧ (n : Int) ≤ 12 by omega) fun _ q => q) (by simp) ?_)
        refine rs_ret (re_andV (a := true) (re_call (args := fun a : Int => [fz a]) (ra_cons (re_var rfl) ra_nil) (cs n) rfl ⟨fz_fz, trivial⟩ trivial fun _ q => q) (fun _ => re_op (re_var rfl) (re_var rfl) os_eqI)) ?_
        show fz (true && decide (cs n = msS (evS n n) (evS n n).length)) = fz true
        rw [decide_eq_true (ms_cs n hp4 hp1)]; rfl⟩
end
end K31
end

section
set_option Elab.async false
set_option linter.all false
set_option maxRecDepth 100000
set_option maxHeartbeats 1000000
namespace K31
open PySem L2 G
/-! ### side goals, readings by their shape -/

section
variable {P : Program} {w : World} {K : PySem.W.Frag} {mg : Str → Option Value} {base : Heap} {CG CN CL CM CR : Addr}
/-! ### the doors -/
abbrev s__law_call : Stmt := top 47
theorem sc__law_call : FnScope ["_law_door", "_law_goal_here", "_law_log"] ["_law_door", "_law_goal_here"] (defScope s__law_call) := ⟨rfl, rfl, rfl, by decide +kernel, rfl, by decide +kernel, by decide +kernel⟩
abbrev sp_call (K : FK) (CG : Addr) := spX K (fun a : Int × GV => [fz a.1, fz a.2]) (fun a => (0 ≤ a.1 ∧ a.1 < 9) ∧ sz a.2 ∧ chk a.2 ≠ none) (fun _ _ => False) (fun a => pe_ CG a.2)
theorem ok_law_call {f : Addr} {fd : FuncData} (F : Fun K "_law_call" "_law_call" s__law_call f fd) (hm : mg "_law_call" = some (.ref f)) (b : Binds K fd ["_law_door", "_law_goal_here"] []) (T : Txt P w K mg base CG CN CL CM CR)
    (c_check_goal : CalX P w K mg base 4 "check_goal" (sp_cg K CG)) (c_homeless : CalX P w K mg base 6 "homeless" (sp_hl K CG)) (c_safe_log : CalX P w K mg base 8 "safe_log" (sp_bd K CG)) (c_count_least_logs : CalX P w K mg base 8 "count_least_logs" (sp_bd K CG))
    (c_closed_rings : CalX P w K mg base 6 "closed_rings" (sp_bd K CG)) (c_fewest_copies : CalX P w K mg base 8 "fewest_copies" (sp_bd K CG)) (c_least_log : CalX P w K mg base 8 "least_log" (sp_bd K CG)) (c_fewest_stages : CalX P w K mg base 6 "fewest_stages" (sp_bd K CG))
    (c_least_logs : CalG0 P w K mg base 8 "least_logs" (spG K CG)) :
    CalX P w K mg base 12 "_law_call" (sp_call K CG) :=
  calx F hm b sc__law_call (fun vs H Q E h => spX_len (n := 2) (fun _ => rfl) h) fun cdv A outer s H vs Q E hr h => ⟨_, (pss_cons (ps_if (pt_cmpR op_eq (pv 0) pe_int (nomark _)) (pss_one (ps_ret (pe_cx c_check_goal hr (by decide) (by rfl) (takes_of (E := E) rfl rfl rfl rfl) (pa_cons (pv 1) pa_nil)))) pss_nil)
      (pss_cons (ps_if (pt_cmpR op_eq (pv 0) pe_int (nomark _)) (pss_one (ps_ret (pe_cx c_homeless hr (by decide) (by rfl) (takes_of (E := E) rfl rfl rfl rfl) (pa_cons (pv 1) pa_nil)))) pss_nil)
      (pss_cons (ps_if (pt_cmpR op_eq (pv 0) pe_int (nomark _)) (pss_one (ps_ret (pe_cx c_safe_log hr (by decide) (by rfl) (takes_of (E := E) rfl rfl rfl rfl) (pa_cons (pv 1) pa_nil)))) pss_nil)
      (pss_cons (ps_if (pt_cmpR op_eq (pv 0) pe_int (nomark _)) (pss_one (ps_ret (pe_cx c_count_least_logs hr (by decide) (by rfl) (takes_of (E := E) rfl rfl rfl rfl) (pa_cons (pv 1) pa_nil)))) pss_nil)
      (pss_cons (ps_if (pt_cmpR op_eq (pv 0) pe_int (nomark _)) (pss_one (ps_ret (pe_cx c_closed_rings hr (by decide) (by rfl) (takes_of (E := E) rfl rfl rfl rfl) (pa_cons (pv 1) pa_nil)))) pss_nil)
      (pss_cons (ps_if (pt_cmpR op_eq (pv 0) pe_int (nomark _)) (pss_one (ps_ret (pe_cx c_fewest_copies hr (by decide) (by rfl) (takes_of (E := E) rfl rfl rfl rfl) (pa_cons (pv 1) pa_nil)))) pss_nil)
      (pss_cons (ps_if (pt_cmpR op_eq (pv 0) pe_int (nomark _)) (pss_one (ps_ret (pe_cx c_least_log hr (by decide) (by rfl) (takes_of (E := E) rfl rfl rfl rfl) (pa_cons (pv 1) pa_nil)))) pss_nil)
      (pss_cons (ps_if (pt_cmpR op_eq (pv 0) pe_int (nomark _)) (pss_one (ps_ret (pe_cx c_fewest_stages hr (by decide) (by rfl) (takes_of (E := E) rfl rfl rfl rfl) (pa_cons (pv 1) pa_nil)))) pss_nil)
      (pss_cons (ps_forG0 c_least_logs hr (by decide) (by rfl) (takes_of (E := E) rfl rfl rfl rfl) (passes_of rfl) (pa_cons (pv 1) pa_nil))
      (pss_one (ps_ret pe_non))))))))))),
    walkX h (by intro _; simp) fun a B hB hp hthr => by
      subst hB
      obtain ⟨d, a⟩ := a
      obtain ⟨⟨h0, h9⟩, hp⟩ : (0 ≤ d ∧ d < 9) ∧ sz a ∧ chk a ≠ none := hp
      show RS B (fz d :: [fz a] |>.map some |> (· ++ [none])) _ _
      refine rs_seq (rs_if (b := decide (d = 0)) (rt_test (re_op (re_var rfl) re_cI os_eqI)) (fun _ => rs_retS (bad_cg rfl rfl hp hthr) (fun _ q => q.elim)) (fun q0 => rs_nil ?_))
      refine rs_seq (rs_if (b := decide (d = 1)) (rt_test (re_op (re_var rfl) re_cI os_eqI)) (fun _ => rs_retS (bad_hl rfl rfl hp hthr) (fun _ q => q.elim)) (fun q1 => rs_nil ?_))
      refine rs_seq (rs_if (b := decide (d = 2)) (rt_test (re_op (re_var rfl) re_cI os_eqI)) (fun _ => rs_retS (bad_bd rfl rfl hp hthr) (fun _ q => q.elim)) (fun q2 => rs_nil ?_))
      refine rs_seq (rs_if (b := decide (d = 3)) (rt_test (re_op (re_var rfl) re_cI os_eqI)) (fun _ => rs_retS (bad_bd rfl rfl hp hthr) (fun _ q => q.elim)) (fun q3 => rs_nil ?_))
      refine rs_seq (rs_if (b := decide (d = 4)) (rt_test (re_op (re_var rfl) re_cI os_eqI)) (fun _ => rs_retS (bad_bd rfl rfl hp hthr) (fun _ q => q.elim)) (fun q4 => rs_nil ?_))
      refine rs_seq (rs_if (b := decide (d = 5)) (rt_test (re_op (re_var rfl) re_cI os_eqI)) (fun _ => rs_retS (bad_bd rfl rfl hp hthr) (fun _ q => q.elim)) (fun q5 => rs_nil ?_))
      refine rs_seq (rs_if (b := decide (d = 6)) (rt_test (re_op (re_var rfl) re_cI os_eqI)) (fun _ => rs_retS (bad_bd rfl rfl hp hthr) (fun _ q => q.elim)) (fun q6 => rs_nil ?_))
      refine rs_seq (rs_if (b := decide (d = 7)) (rt_test (re_op (re_var rfl) re_cI os_eqI)) (fun _ => rs_retS (bad_bd rfl rfl hp hthr) (fun _ q => q.elim)) (fun q7 => rs_nil ?_))
      exact rs_seq (rs_forG0 (bad_bd rfl rfl hp fun C fs Γ po => Thr.and (p := fun cls => PySem.W.subIn B.K cls (.type "StopIteration") = some false) (hthr C fs Γ po) (by
        obtain ⟨_, _, rfl, _⟩ := po
        exact T.stop)))⟩
abbrev s__law_refused : Stmt := top 48
theorem sc__law_refused : FnScope ["_law_door", "_law_goal_here", "_law_due", "raised"] ["_law_door", "_law_goal_here", "_law_due"] (defScope s__law_refused) := ⟨rfl, rfl, rfl, by decide +kernel, rfl, by decide +kernel, by decide +kernel⟩
abbrev sp_ref (K : FK) := spP K (fun a : Int × GV × Int => [fz a.1, fz a.2.1, fz a.2.2]) (fun a => (0 ≤ a.1 ∧ a.1 < 9) ∧ sz a.2.1 ∧ chk a.2.1 = some a.2.2) (fun _ e => e = fz true)
theorem ok_law_refused {f : Addr} {fd : FuncData} (F : Fun K "_law_refused" "_law_refused" s__law_refused f fd) (hm : mg "_law_refused" = some (.ref f)) (b : Binds K fd ["_law_door", "_law_goal_here", "_law_due"] []) (T : Txt P w K mg base CG CN CL CM CR)
    (c__law_call : CalX P w K mg base 12 "_law_call" (sp_call K CG)) (h__law_is_number : CalH P w K mg base 2 "_law_is_number" (sp_num K)) :
    Cal0 P w K mg base 14 "_law_refused" (sp_ref K) :=
  cal0 F hm b sc__law_refused (fun vs H Q E h => spP_len (n := 3) (fun _ => rfl) h) fun cdv A outer s H vs Q E hr h => ⟨_, (pss_cons (ps_try_mix rfl rfl takes_no (fun W pn xe tk2 _ => (pss_one (ps_expr (pe_cx c__law_call hr (by decide) (by rfl) tk2 (pa_cons (pv 0) (pa_cons (pv 1) pa_nil)))))) (.as (i := 3) sc__law_refused.nd rfl rfl ⟨rfl, by decide, .inl T.g_InvalidGoal⟩ (fun a oe cls d pn hz hf => (pss_cons (ps_if (PW.pt (pw_or (pt_val (pe_callB (call_isEd hz hf : CallR _ _ (rIsEd K _ _ _)) (by rfl) T.n_isinstance (by decide +kernel) (pa_cons (pv 3) (pa_cons (pe_glob (v := .ref _) (by rfl) T.g_NoSafeLog rfl) pa_nil)))) (pw_or (pt_val (pe_callB (call_isEd hz hf : CallR _ _ (rIsEd K _ _ _)) (by rfl) T.n_isinstance (by decide +kernel) (pa_cons (pv 3) (pa_cons (pe_glob (v := .ref _) (by rfl) T.g_NoLog rfl) pa_nil)))) (pw_or1 (pt_val (pe_callB (call_isEd hz hf : CallR _ _ (rIsEd K _ _ _)) (by rfl) T.n_isinstance (by decide +kernel) (pa_cons (pv 3) (pa_cons (pe_glob (v := .ref _) (by rfl) T.g_TooMany rfl) pa_nil)))))))) (pss_one (ps_ret pe_bl)) pss_nil)
      (pss_cons (ps_if (PW.pt (pw_or (pt_not (pt_val (pe_callB (call_isEd hz hf : CallR _ _ (rIsEd K _ _ _)) (by rfl) T.n_isinstance (by decide +kernel) (pa_cons (pv 3) (pa_cons (pe_glob (v := .ref _) (by rfl) T.g_RedoError rfl) pa_nil))))) (pw_or1 (pt_not (pt_val (pe_callB (call_isEd hz hf : CallR _ _ (rIsEd K _ _ _)) (by rfl) T.n_isinstance (by decide +kernel) (pa_cons (pv 3) (pa_cons (pe_bltn (v := .ty "ValueError") (u := .type "ValueError") (by rfl) T.n_ValueError (by decide +kernel) rfl) pa_nil)))))))) (pss_one (ps_ret pe_bl)) pss_nil)
      (pss_one (ps_ret (pe_and (pe_ch h__law_is_number hr.mark (by decide) (by rfl) (pa_cons (pe_xf T.x_InvalidGoal.1 T.x_InvalidGoal.2 hz hf (pv 3)) pa_nil)) (pe_one (pe_cmpR op_eq (pe_xf T.x_InvalidGoal.1 T.x_InvalidGoal.2 hz hf (pv 3)) (pv 2) (nomark _))))))))) (.no ⟨rfl, by decide, .inl T.g_RedoError⟩ (fun a oe cls d pn hz hf => (pss_one (ps_ret pe_bl))) .nil)))
      (pss_one (ps_ret pe_bl))),
    walkP h (by intro _; simp) fun a B hB hp => by
      subst hB
      obtain ⟨d, a, due⟩ := a
      obtain ⟨hd, hs, hc⟩ : (0 ≤ d ∧ d < 9) ∧ sz a ∧ chk a = some due := hp
      show RS B [some (fz d), some (fz a), some (fz due), none] _ _
      refine rs_seq (rs_tryAs (Γ' := [some (fz d), some (fz a), some (fz due), none]) (ras_of (ra_cons (re_var rfl) (ra_cons (re_var rfl) ra_nil))) (.keep fz_fz (.keep fz_fz (.keep fz_fz (.none .nil)))) (by simp) (fun es q => ⟨(d, a), q.symm, by rw [q]; exact ⟨fz_fz, fz_fz, trivial⟩, ⟨hd, hs, by rw [hc]; simp⟩, fun _ z => z.elim, fun C fs po => ?_⟩))
      obtain ⟨i, hi, rfl, rfl⟩ := po
      have hi : chk a = some i := hi
      rw [hc] at hi
      cases hi
      refine ⟨T.ex1, fun B' dd ad hB' hd' => ?_⟩
      obtain ⟨K', Hs', Hf', br'⟩ := B'
      have hB' : K' = B.K := hB'
      subst hB'
      show RS _ [some (fz d), some (fz a), some (fz due), some (fz (V.ref ad))] _ _
      refine rs_seq (rs_if (b := false) (rt_or (a := false) (b := false) (rt_B (re_isEd hd' T.exc T.kN (re_var rfl))) (fun _ => rt_or (a := false) (b := false) (rt_B (re_isEd hd' T.exc T.kL (re_var rfl))) (fun _ => rt_B (re_isEd hd' T.exc T.kM (re_var rfl))))) (fun q => nomatch q) (fun _ => rs_nil ?_))
      refine rs_seq (rs_if (b := false) (rt_or (a := false) (b := false) (rt_not (a := true) (rt_B (re_isEd hd' T.exc T.kR (re_var rfl)))) (fun _ => rt_not (a := true) (rt_B (re_isEdT hd' T.exc T.kV (re_var rfl))))) (fun q => nomatch q) (fun _ => rs_nil ?_))
      have hx : RE ⟨B.K, Hs', Hf', br'⟩ [some (fz d), some (fz a), some (fz due), some (fz (V.ref ad))] (tXf ad (.ref C) (some dd) C "at" (tVar 3)) (fz due) := re_xf hd' rfl (re_var rfl)
      refine rs_ret (re_andV (a := true) (b := decide (due = due)) (re_call (args := fun a : Int => [fz a]) (ra_cons hx ra_nil) due rfl ⟨fz_fz, trivial⟩ trivial fun _ q => q) (fun _ => re_op hx (re_var rfl) os_eqI)) ⟨noF_fz, ?_⟩
      show fz (true && decide (due = due)) = fz true
      rw [decide_eq_true rfl]; rfl⟩
end
end K31
end

section
set_option Elab.async false
set_option linter.all false
set_option maxRecDepth 100000
set_option maxHeartbeats 1000000
namespace K31
open PySem L2 G
/-! ### side goals, readings by their shape -/

section
variable {P : Program} {w : World} {K : PySem.W.Frag} {mg : Str → Option Value} {base : Heap} {CG CN CL CM CR : Addr}
/-! ### the bag -/
abbrev BI := Sum (Lst Int) Int
def bagL (cells : List Int) (i m s k : Int) : List BI := [.inl ⟨cells⟩, .inr i, .inr m, .inr s, .inr k]
def BagI (xs : List BI) : Prop := ∃ cells i m s k, xs = bagL cells i m s k ∧ 0 ≤ i
section
variable {B : Bs} {Γ : List (Option Ent)} {o : Option Addr} {cells : List Int} {i m s k : Int}
theorem bag0 (h : Γ[0]? = some (some (bx o (bagL cells i m s k)))) : RE B Γ (tOp (rIxL B.K) (tVar 0) (tC (.int 0))) (fz (Lst.mk cells)) := re_ixV (x := (Sum.inl ⟨cells⟩ : BI)) h isL_bx re_cI rfl
theorem bag1 (h : Γ[0]? = some (some (bx o (bagL cells i m s k)))) : RE B Γ (tOp (rIxL B.K) (tVar 0) (tC (.int 1))) (fz i) := re_ixV (x := (Sum.inr i : BI)) h isL_bx re_cI rfl
theorem bag2 (h : Γ[0]? = some (some (bx o (bagL cells i m s k)))) : RE B Γ (tOp (rIxL B.K) (tVar 0) (tC (.int 2))) (fz m) := re_ixV (x := (Sum.inr m : BI)) h isL_bx re_cI rfl
theorem bag3 (h : Γ[0]? = some (some (bx o (bagL cells i m s k)))) : RE B Γ (tOp (rIxL B.K) (tVar 0) (tC (.int 3))) (fz s) := re_ixV (x := (Sum.inr s : BI)) h isL_bx re_cI rfl
theorem bag4 (h : Γ[0]? = some (some (bx o (bagL cells i m s k)))) : RE B Γ (tOp (rIxL B.K) (tVar 0) (tC (.int 4))) (fz k) := re_ixV (x := (Sum.inr k : BI)) h isL_bx re_cI rfl
theorem bagS {D : GE} {te : TE} {x : Int} {j : Int} {c : Nat} (h : Γ[0]? = some (some (bx o (bagL cells i m s k)))) (he : RE B Γ te (fz x)) (hc : ixN 5 j = some c) (q : D.nx (Γ.set 0 (some (bx o ((bagL cells i m s k).set c (.inr x)))))) :
    RS B Γ (tAsg te (gSub (tVar 0) (tC (.int j)) rSetL)) D := rs_setB (x := (Sum.inr x : BI)) h he re_cI hc q
end
abbrev s__law_bag : Stmt := top 40
theorem sc__law_bag : FnScope ["_law_script", "_law_cells", "_law_seed", "_law_cell"] ["_law_script"] (defScope s__law_bag) := ⟨rfl, rfl, rfl, by decide +kernel, rfl, by decide +kernel, by decide +kernel⟩
abbrev sp_bag (K : FK) := spP K (fun ns : List Int => [fz (Scr.mk ns)]) (fun ns => ns.length ≤ 63) (fun _ e => ∃ xs, BagI xs ∧ e = ow xs)
theorem ok_law_bag {f : Addr} {fd : FuncData} (F : Fun K "_law_bag" "_law_bag" s__law_bag f fd) (hm : mg "_law_bag" = some (.ref f)) (b : Binds K fd ["_law_script"] []) (T : Txt P w K mg base CG CN CL CM CR) :
    Cal0 P w K mg base 2 "_law_bag" (sp_bag K) :=
  cal0 F hm b sc__law_bag (fun vs H Q E h => spP_len (n := 1) (fun _ => rfl) h) fun cdv A outer s H vs Q E hr h => ⟨_, (pss_cons (ps_setLc (i := 1) (own := [("_law_cell", 3)]) (g := gName 3) (tt := tYes) rfl sc__law_bag.nd rfl rfl (sw_true rfl rfl rfl (by decide +kernel)) (pi_list (pe_slice (sl_list : SlR _ (rSlL K)) (pv 0) po_none (po_some pe_int))) (blkOk_by (own := [("_law_cell", 3)]) (N := ["_law_script", "_law_cells", "_law_seed", "_law_cell"]) (sc := defScope s__law_bag) (by decide +kernel)) (fun _ _ _ _ _ => (pg_name (i := 3) sc__law_bag.nd rfl (.inl rfl))) (fun _ _ _ _ _ => pts_nil) (fun _ _ _ _ _ => (pe_callTy call_int1 (by rfl) T.n_int (by decide +kernel) (pa_cons (pv 3) pa_nil))))
      (pss_cons (ps_set (i := 2) sc__law_bag.nd rfl (.inl rfl) pe_int)
      (pss_cons (ps_for PassesOwn.never rfl (pi_list (pv 1)) (pg_name (i := 3) sc__law_bag.nd rfl (.inl rfl)) (pss_one (ps_set (i := 2) sc__law_bag.nd rfl (.inl rfl) (pe_op op_mod (pe_callTy call_int1 (by rfl) T.n_int (by decide +kernel) (pa_cons (pe_op op_add (pe_op op_add (pe_op op_mul (pv 2) pe_int) (pe_op op_mul (pv 3) pe_int)) pe_int) pa_nil)) pe_int))))
      (pss_one (ps_ret (pe_lst (pa_cons (pv 1) (pa_cons pe_int (pa_cons pe_int (pa_cons (pv 2) (pa_cons pe_int pa_nil))))))))))),
    walkP h (by intro _; simp) fun ns B hB hp => by
      subst hB
      have hp : ns.length ≤ 63 := hp
      show RS B [some (fz (Scr.mk ns)), none, none, none] _ _
      have hcut := cutG_len ns none (some 63)
      refine rs_seq (rs_asgS (res_lc (β := Int) (ws := [3]) (fun _ _ => True) (ri_list (re_freeze (re_slS (re_var rfl) re_cI))) (by omega) ?_ (by simp) trivial ?_) (by simp) ?_)
      · intro k hk e
        have : k = 3 := by simpa using hk
        subst this
        simp
      · intro i acc hi _ _
        have hx : (cutG ns none (some 63))[i]? = some (cutG ns none (some 63))[i] := by simp [hi]
        rw [itemAt_of hx]
        exact ⟨_, fun c => c = true, fun _ => True, rgw_name (by simp), Le.same (Le.skip (Le.skip (Le.skip Le.nil))), rts_of rt_yes, fun _ => res_imp (res_of (re_cb (ra_cons (re_var rfl) ra_nil) cb_intI)) (fun _ q => ⟨_, trivial, q⟩), fun _ _ _ => trivial, fun _ => trivial⟩
      · rintro e ⟨cells, _, hl, rfl⟩
        refine rs_seq (rs_asg re_cI (by simp) ?_)
        refine rs_freeze (i := 1) (xs := cells) rfl ?_
        refine rs_seq (rs_for (I := fun _ _ => True) (G := fun s : Int => [some (fz (Scr.mk ns)), some (fz (Lst.mk cells)), some (fz s), none]) 7 (ri_list (re_var rfl)) (Le.refl _) trivial (fun i s hi _ => ?_) (fun s _ => ?_))
        · have hx : cells[i]? = some cells[i] := by simp [hi]
          rw [itemAt_of hx]
          refine ⟨_, rg_name (by simp), rs_asg (re_op (re_cb (ra_cons (re_op (re_op (re_op (re_var rfl) re_cI (os_mul (.inr (by constructor <;> omega)))) (re_op (re_var rfl) re_cI (os_mul (.inr (by constructor <;> omega)))) os_add) re_cI os_add) ra_nil) cb_intI) re_cI (os_mod (by omega))) (by simp) ⟨_, Le.same (Le.same (Le.same (Le.skip Le.nil))), trivial⟩⟩
        · exact rs_ret (e := ow (bagL cells 0 0 s 0)) (re_lst (ra_cons (re_var rfl) (ra_cons re_cI (ra_cons re_cI (ra_cons (re_var rfl) (ra_cons re_cI ra_nil))))) (items_of (xs := bagL cells 0 0 s 0)) (by simp)) ⟨_, ⟨_, _, _, _, _, rfl, by omega⟩, rfl⟩⟩
abbrev s__law_take : Stmt := top 41
theorem sc__law_take : FnScope ["_law_bag_here", "_law_many", "_law_cell", "_law_digit", "_law_once", "_law_twice"] ["_law_bag_here", "_law_many"] (defScope s__law_take) := ⟨rfl, rfl, rfl, by decide +kernel, rfl, by decide +kernel, by decide +kernel⟩
abbrev sp_take (K : FK) := spB K BagI (fun n : Int => [fz n]) (fun n => 0 < n ∧ n.natAbs.log2 < 9000) (fun n e => ∃ r : Int, (0 ≤ r ∧ r < n) ∧ e = fz r)
theorem ok_law_take {f : Addr} {fd : FuncData} (F : Fun K "_law_take" "_law_take" s__law_take f fd) (hm : mg "_law_take" = some (.ref f)) (b : Binds K fd ["_law_bag_here", "_law_many"] []) (T : Txt P w K mg base CG CN CL CM CR) :
    Cal0 P w K mg base 2 "_law_take" (sp_take K) :=
  cal0 F hm b sc__law_take (fun vs H Q E h => spB_len (n := 1) (fun _ => rfl) h) fun cdv A outer s H vs Q E hr h => ⟨_, (pss_cons (ps_asg (pe_op op_add (pe_ix (ix_list : IxR _ (rIxL K)) (pv 0) pe_int (fun _ _ => rfl)) pe_int) (pg_sub (pv 0) pe_int set_list))
      (pss_cons (ps_if (PW.pt (pw_and (pt_cmpR op_eq (pe_ix (ix_list : IxR _ (rIxL K)) (pv 0) pe_int (fun _ _ => rfl)) pe_int (nomark _)) (pw_and1 (pt_cmpR op_lt (pe_ix (ix_list : IxR _ (rIxL K)) (pv 0) pe_int (fun _ _ => rfl)) (pe_callB (call_len_seq : CallR _ _ (rLenQ K)) (by rfl) T.n_len PySem.boot_len (pa_cons (pe_ix (ix_list : IxR _ (rIxL K)) (pv 0) pe_int (fun _ _ => rfl)) pa_nil)) (nomark _))))) (pss_cons (ps_set (i := 2) sc__law_take.nd rfl (.inl rfl) (pe_callTy call_int1 (by rfl) T.n_int (by decide +kernel) (pa_cons (pe_ix (ix_list : IxR _ (rIxL K)) (pe_ix (ix_list : IxR _ (rIxL K)) (pv 0) pe_int (fun _ _ => rfl)) (pe_ix (ix_list : IxR _ (rIxL K)) (pv 0) pe_int (fun _ _ => rfl)) (fun _ _ => rfl)) pa_nil)))
      (pss_cons (ps_asg (pe_op op_add (pe_ix (ix_list : IxR _ (rIxL K)) (pv 0) pe_int (fun _ _ => rfl)) pe_int) (pg_sub (pv 0) pe_int set_list))
      (pss_one (ps_if (pt_cmpR op_ge (pv 2) (pe_op op_pow pe_int pe_int) (nomark _)) (pss_one (ps_asg (pv 2) (pg_sub (pv 0) pe_int set_list))) (pss_one (ps_asg (pe_op op_mod (pe_callTy call_int1 (by rfl) T.n_int (by decide +kernel) (pa_cons (pe_op op_add (pe_op op_add (pe_op op_mul (pe_ix (ix_list : IxR _ (rIxL K)) (pv 0) pe_int (fun _ _ => rfl)) pe_int) (pe_op op_mul (pv 2) pe_int)) (pe_ix (ix_list : IxR _ (rIxL K)) (pv 0) pe_int (fun _ _ => rfl))) pa_nil)) pe_int) (pg_sub (pv 0) pe_int set_list))))))) pss_nil)
      (pss_cons (ps_if (pt_cmpR op_gt (pe_ix (ix_list : IxR _ (rIxL K)) (pv 0) pe_int (fun _ _ => rfl)) pe_int (nomark _)) (pss_cons (ps_set (i := 3) sc__law_take.nd rfl (.inl rfl) (pe_op op_mod (pe_callTy call_int1 (by rfl) T.n_int (by decide +kernel) (pa_cons (pe_ix (ix_list : IxR _ (rIxL K)) (pv 0) pe_int (fun _ _ => rfl)) pa_nil)) (pv 1)))
      (pss_cons (ps_asg (pe_op op_fdivB (pe_callTy call_int1 (by rfl) T.n_int (by decide +kernel) (pa_cons (pe_ix (ix_list : IxR _ (rIxL K)) (pv 0) pe_int (fun _ _ => rfl)) pa_nil)) (pv 1)) (pg_sub (pv 0) pe_int set_list))
      (pss_one (ps_ret (pv 3))))) pss_nil)
      (pss_cons (ps_set (i := 4) sc__law_take.nd rfl (.inl rfl) (pe_op op_mod (pe_callTy call_int1 (by rfl) T.n_int (by decide +kernel) (pa_cons (pe_op op_add (pe_op op_add (pe_op op_mul (pe_ix (ix_list : IxR _ (rIxL K)) (pv 0) pe_int (fun _ _ => rfl)) pe_int) (pe_op op_mul (pe_ix (ix_list : IxR _ (rIxL K)) (pv 0) pe_int (fun _ _ => rfl)) pe_int)) pe_int) pa_nil)) pe_int))
      (pss_cons (ps_set (i := 5) sc__law_take.nd rfl (.inl rfl) (pe_op op_mod (pe_callTy call_int1 (by rfl) T.n_int (by decide +kernel) (pa_cons (pe_op op_add (pe_op op_add (pe_op op_mul (pv 4) (pv 4)) (pe_op op_mul (pe_ix (ix_list : IxR _ (rIxL K)) (pv 0) pe_int (fun _ _ => rfl)) pe_int)) (pe_op op_mul (pe_ix (ix_list : IxR _ (rIxL K)) (pv 0) pe_int (fun _ _ => rfl)) pe_int)) pa_nil)) pe_int))
      (pss_one (ps_ret (pe_op op_mod (pe_callTy call_int1 (by rfl) T.n_int (by decide +kernel) (pa_cons (pe_op op_fdivB (pv 5) pe_int) pa_nil)) (pv 1))))))))),
    walkB h (by intro _; simp) fun n B p hB hp => by
      subst hB
      obtain ⟨hp0, hp1⟩ : 0 < n ∧ n.natAbs.log2 < 9000 := hp
      show RS B [some (bo (some p) BagI), some (fz n), none, none, none, none] _ _
      refine rs_open (i := 0) rfl ?_
      rintro xs ⟨cells, i, m, s, k, rfl, h0⟩
      refine rs_seq (bagS rfl (re_op (bag4 rfl) re_cI os_add) rfl ?_)
      refine rs_seqM (fun a : List Int × Int × Int × Int × Int => 0 ≤ a.2.1) (fun a => [some (bx (some p) (bagL a.1 a.2.1 a.2.2.1 a.2.2.2.1 a.2.2.2.2)), some (fz n), none, none, none, none]) ?_ ?_
      · refine rs_if (rt_and (rt_test (re_op (bag2 rfl) re_cI os_eqI)) (fun _ => rt_test (re_op (bag1 rfl) (re_cb (ra_cons (bag0 rfl) ra_nil) cb_lenL) os_lt))) (fun q => ?_) (fun _ => rs_nil ⟨(cells, i, m, s, k + 1), h0, Le.refl _⟩)
        have hi : i < cells.length := by simp at q; exact q.2
        have hc : atI cells i = some (cells[i.toNat]'(by omega)) := atI_of h0 (by simp)
        refine rs_seq (rs_asg (re_cb (ra_cons (re_op (bag0 rfl) (bag1 rfl) (os_ixL hc)) ra_nil) cb_intI) (by simp) ?_)
        refine rs_seq (bagS rfl (re_op (bag1 rfl) re_cI os_add) rfl ?_)
        refine rs_if (rt_test (re_op (re_var rfl) (re_op re_cI re_cI (os_pow ⟨by omega, by omega, by decide⟩)) os_ge)) (fun _ => ?_) (fun _ => ?_)
        · exact bagS (m := m) rfl (re_var rfl) rfl ⟨(cells, i + 1, _, s, k + 1), by show 0 ≤ i + 1; omega, Le.same (Le.same (Le.skip (Le.skip (Le.skip (Le.skip Le.nil)))))⟩
        · exact bagS (m := m) rfl (re_op (re_cb (ra_cons (re_op (re_op (re_op (bag3 rfl) re_cI (os_mul (.inr (by constructor <;> omega)))) (re_op (re_var rfl) re_cI (os_mul (.inr (by constructor <;> omega)))) os_add) (bag4 rfl) os_add) ra_nil) cb_intI) re_cI (os_mod (by omega))) rfl ⟨(cells, i + 1, m, _, k + 1), by show 0 ≤ i + 1; omega, Le.same (Le.same (Le.skip (Le.skip (Le.skip (Le.skip Le.nil)))))⟩
      · rintro ⟨cells, i, m, s, k⟩ h0
        have h0 : 0 ≤ i := h0
        refine rs_seq (rs_if (rt_test (re_op (bag2 rfl) re_cI os_gt)) (fun _ => ?_) (fun _ => rs_nil ?_))
        · refine rs_seq (rs_asg (re_op (re_cb (ra_cons (bag2 rfl) ra_nil) cb_intI) (re_var rfl) (os_mod hp0)) (by simp) ?_)
          refine rs_seq (bagS rfl (re_op (re_cb (ra_cons (bag2 rfl) ra_nil) cb_intI) (re_var rfl) (os_fdivB hp0 hp1)) rfl ?_)
          refine rs_say (i := 0) rfl (bo_imp (J := BagI) ?_) (rs_ret (re_var rfl) ⟨⟨m % n, ⟨Int.emod_nonneg _ (by omega), Int.emod_lt_of_pos _ hp0⟩, rfl⟩, rfl⟩)
          rintro xs rfl
          exact ⟨cells, i, _, s, k, rfl, h0⟩
        · refine rs_seq (rs_asg (re_op (re_cb (ra_cons (re_op (re_op (re_op (bag3 rfl) re_cI (os_mul (.inr (by constructor <;> omega)))) (re_op (bag4 rfl) re_cI (os_mul (.inr (by constructor <;> omega)))) os_add) re_cI os_add) ra_nil) cb_intI) re_cI (os_mod (by omega))) (by simp) ?_)
          refine rs_seq (rs_asg (re_op (re_cb (ra_cons (re_op (re_op (re_op (re_var rfl) (re_var rfl) (os_mul (.inr ?_))) (re_op (bag3 rfl) re_cI (os_mul (.inr (by constructor <;> omega)))) os_add) (re_op (bag4 rfl) re_cI (os_mul (.inr (by constructor <;> omega)))) os_add) ra_nil) cb_intI) re_cI (os_mod (by omega))) (by simp) ?_)
          · have h1 := Int.emod_nonneg (s * 48271 + k * 69621 + 12345) (show (2147483647 : Int) ≠ 0 by omega)
            have h2 := Int.emod_lt_of_pos (s * 48271 + k * 69621 + 12345) (show (0 : Int) < 2147483647 by omega)
            constructor <;> omega
          · refine rs_say (i := 0) rfl (bo_imp (J := BagI) ?_) (rs_ret (re_op (re_cb (ra_cons (re_op (re_var rfl) re_cI (os_fdivB (by omega) (log_bd (by omega)))) ra_nil) cb_intI) (re_var rfl) (os_mod hp0)) ⟨⟨_, ⟨Int.emod_nonneg _ (by omega), Int.emod_lt_of_pos _ hp0⟩, rfl⟩, rfl⟩)
            rintro xs rfl
            exact ⟨cells, i, m, s, k, rfl, h0⟩⟩
end
end K31
end

section
set_option Elab.async false
set_option linter.all false
set_option maxRecDepth 100000
set_option maxHeartbeats 1000000
namespace K31
open PySem L2 G
/-! ### side goals, readings by their shape -/

section
variable {P : Program} {w : World} {K : PySem.W.Frag} {mg : Str → Option Value} {base : Heap} {CG CN CL CM CR : Addr}
theorem tk {B : Bs} {Γ : List (Option Ent)} {o : Option Addr} {te : TE} {n : Int} {E : XK} (hB : B.K = K) (hx : Γ[0]? = some (some (bo o BagI))) (h : RE B Γ te (fz n)) (h0 : 0 < n) (h1 : n.natAbs.log2 < 9000) :
    REs B Γ (tCall (sp_take K) [] E (tCons (tVar 0) (tCons te tNil))) (fun e => ∃ r : Int, (0 ≤ r ∧ r < n) ∧ e = fz r) := by
  subst hB
  exact res_callB hx (ras_of (ra_cons h ra_nil)) fun es q => ⟨n, q.symm, by rw [q]; exact ⟨fz_fz, trivial⟩, ⟨h0, h1⟩, fun _ po => po⟩
theorem tkR {B : Bs} {Γ : List (Option Ent)} {o : Option Addr} {te : TE} {n : Int} {E : XK} (hB : B.K = K) (hx : Γ[0]? = some (some (bo o BagI))) (h : RE B Γ te (fz n)) (h0 : 0 < n) (h1 : n ≤ 1000) :
    REs B Γ (tCall (sp_take K) [] E (tCons (tVar 0) (tCons te tNil))) (fun e => ∃ r : Int, (0 ≤ r ∧ r < n) ∧ e = fz r) := tk hB hx h h0 (log_bd ⟨by omega, h1⟩)
/-! ### an entry that is no index -/
abbrev s__law_odd_entry : Stmt := top 45
theorem sc__law_odd_entry : FnScope ["_law_bag_here", "_law_blocks", "_law_pick", "_law_far"] ["_law_bag_here", "_law_blocks"] (defScope s__law_odd_entry) := ⟨rfl, rfl, rfl, by decide +kernel, rfl, by decide +kernel, by decide +kernel⟩
abbrev sp_odd (K : FK) := spB K BagI (fun n : Int => [fz n]) (fun n => 1 ≤ n ∧ n ≤ 12) (fun n e => ∃ x : It, ix x n = false ∧ e = fz x)
theorem ok_law_odd_entry {f : Addr} {fd : FuncData} (F : Fun K "_law_odd_entry" "_law_odd_entry" s__law_odd_entry f fd) (hm : mg "_law_odd_entry" = some (.ref f)) (b : Binds K fd ["_law_bag_here", "_law_blocks"] []) (T : Txt P w K mg base CG CN CL CM CR) (c__law_take : Cal0 P w K mg base 2 "_law_take" (sp_take K)) :
    Cal0 P w K mg base 4 "_law_odd_entry" (sp_odd K) :=
  cal0 F hm b sc__law_odd_entry (fun vs H Q E h => spB_len (n := 1) (fun _ => rfl) h) fun cdv A outer s H vs Q E hr h => ⟨_, (pss_cons (ps_set (i := 2) sc__law_odd_entry.nd rfl (.inl rfl) (pe_c0 c__law_take hr (by decide) (by rfl) (pa_cons (pv 0) (pa_cons pe_int pa_nil))))
      (pss_cons (ps_set (i := 3) sc__law_odd_entry.nd rfl (.inl rfl) (pe_c0 c__law_take hr (by decide) (by rfl) (pa_cons (pv 0) (pa_cons (pe_op op_pow pe_int pe_int) pa_nil))))
      (pss_cons (ps_if (pt_cmpR op_eq (pv 2) pe_int (nomark _)) (pss_one (ps_ret (pv 1))) pss_nil)
      (pss_cons (ps_if (pt_cmpR op_eq (pv 2) pe_int (nomark _)) (pss_one (ps_ret (pe_op op_add (pe_op op_add (pv 1) pe_int) (pv 3)))) pss_nil)
      (pss_cons (ps_if (pt_cmpR op_eq (pv 2) pe_int (nomark _)) (pss_one (ps_ret (pe_un un_neg pe_int))) pss_nil)
      (pss_cons (ps_if (pt_cmpR op_eq (pv 2) pe_int (nomark _)) (pss_one (ps_ret (pe_op op_sub (pe_un un_neg pe_int) (pv 3)))) pss_nil)
      (pss_cons (ps_if (pt_cmpR op_eq (pv 2) pe_int (nomark _)) (pss_one (ps_ret (pe_callTy call_str_int (by rfl) T.n_str (by decide +kernel) (pa_cons (pe_c0 c__law_take hr (by decide) (by rfl) (pa_cons (pv 0) (pa_cons pe_int pa_nil))) pa_nil)))) pss_nil)
      (pss_cons (ps_if (pt_cmpR op_eq (pv 2) pe_int (nomark _)) (pss_one (ps_ret (pe_tup (pa_cons (pe_c0 c__law_take hr (by decide) (by rfl) (pa_cons (pv 0) (pa_cons (pv 1) pa_nil))) pa_nil)))) pss_nil)
      (pss_cons (ps_if (pt_cmpR op_eq (pv 2) pe_int (nomark _)) (pss_one (ps_ret pe_non)) pss_nil)
      (pss_one (ps_ret (pe_un un_neg (pv 1))))))))))))),
    walkB h (by intro _; simp) fun n B p hB hp => by
      subst hB
      obtain ⟨hp1, hp2⟩ : 1 ≤ n ∧ n ≤ 12 := hp
      show RS B [some (bo (some p) BagI), some (fz n), none, none] _ _
      refine rs_seq (rs_asgS (tkR rfl rfl re_cI (by omega) (by omega)) (by simp) ?_)
      rintro e ⟨pick, ⟨hk0, hk1⟩, rfl⟩
      refine rs_seq (rs_asgS (tk rfl rfl (re_op re_cI re_cI (os_pow ⟨by omega, by omega, by decide⟩)) (by decide) (by decide +kernel)) (by simp) ?_)
      rintro e ⟨far, ⟨hf0, hf1⟩, rfl⟩
      refine rs_seq (rs_if (rt_test (re_op (re_var rfl) re_cI os_eqI)) (fun _ => rs_ret (re_var rfl) ⟨⟨It.int n, ?_, rfl⟩, rfl⟩) (fun _ => rs_nil ?_))
      · show (decide (0 ≤ n) && decide (n < n)) = false
        simp
      refine rs_seq (rs_if (rt_test (re_op (re_var rfl) re_cI os_eqI)) (fun _ => rs_ret (re_op (re_op (re_var rfl) re_cI os_add) (re_var rfl) os_add) ⟨⟨It.int (n + 1 + far), ?_, rfl⟩, rfl⟩) (fun _ => rs_nil ?_))
      · show (decide (0 ≤ n + 1 + far) && decide (n + 1 + far < n)) = false
        simp; omega
      refine rs_seq (rs_if (rt_test (re_op (re_var rfl) re_cI os_eqI)) (fun _ => rs_ret (re_un re_cI us_neg) ⟨⟨It.int (-1), ?_, rfl⟩, rfl⟩) (fun _ => rs_nil ?_))
      · rfl
      refine rs_seq (rs_if (rt_test (re_op (re_var rfl) re_cI os_eqI)) (fun _ => rs_ret (re_op (re_un re_cI us_neg) (re_var rfl) os_sub) ⟨⟨It.int (-2 - far), ?_, rfl⟩, rfl⟩) (fun _ => rs_nil ?_))
      · show (decide (0 ≤ -2 - far) && decide (-2 - far < n)) = false
        simp; omega
      refine rs_seq (rs_if (rt_test (re_op (re_var rfl) re_cI os_eqI)) (fun _ => rs_retS (S := fun e => ∃ x : It, ix x n = false ∧ e = fz x) (res_cb (ras_cons (tkR rfl rfl re_cI (by omega) (by omega)) ras_nil) ?_) (fun e he => ⟨he, rfl⟩)) (fun _ => rs_nil ?_))
      · rintro es ⟨e1, es1, ⟨r, hr0, rfl⟩, rfl, rfl⟩
        exact ⟨_, cb_str (Nat.lt_trans (log_small (by omega)) (by decide)), It.str _, rfl, rfl⟩
      refine rs_seq (rs_if (rt_test (re_op (re_var rfl) re_cI os_eqI)) (fun _ => rs_retS (S := fun e => ∃ x : It, ix x n = false ∧ e = fz x) (res_tup (α := Tup Int) (ras_cons (tkR rfl rfl (re_var rfl) (by omega) (by omega)) ras_nil) ?_) (fun e he => ⟨he, rfl⟩)) (fun _ => rs_nil ?_))
      · rintro es ⟨e1, es1, ⟨r, hr0, rfl⟩, rfl, rfl⟩
        exact ⟨Tup.mk [r], tup_of (xs := [r]), by simp, It.tup r, rfl, rfl⟩
      refine rs_seq (rs_if (rt_test (re_op (re_var rfl) re_cI os_eqI)) (fun _ => rs_ret re_cN ⟨⟨It.non, rfl, rfl⟩, rfl⟩) (fun _ => rs_nil ?_))
      refine rs_ret (re_un (re_var rfl) us_neg) ⟨⟨It.int (-n), ?_, rfl⟩, rfl⟩
      show (decide (0 ≤ -n) && decide (-n < n)) = false
      simp; omega⟩
/-! ### a goal -/
abbrev s__law_goal : Stmt := top 44
theorem sc__law_goal : FnScope ["_law_bag_here", "_law_blocks", "_law_way", "_law_goal_here", "_law_turn", "_law_place", "_law_root", "_law_movers", "_law_stays", "_law_block"] ["_law_bag_here"] (defScope s__law_goal) := ⟨rfl, rfl, rfl, by decide +kernel, rfl, by decide +kernel, by decide +kernel⟩
/-- numbers of blocks -/
def In (n : Int) (xs : List Int) : Prop := ∀ y ∈ xs, 0 ≤ y ∧ y < n
theorem In.snoc {n : Int} {xs : List Int} {y : Int} (h : In n xs) (hy : 0 ≤ y ∧ y < n) : In n (xs ++ [y]) := fun z hz => by
  rcases List.mem_append.mp hz with hz | hz
  · exact h z hz
  · have : z = y := by simpa using hz
    rw [this]; exact hy
theorem In.set {n : Int} {xs : List Int} {y : Int} {j : Nat} (h : In n xs) (hy : 0 ≤ y ∧ y < n) : In n (xs.set j y) := fun z hz => by
  rcases List.mem_or_eq_of_mem_set hz with hz | rfl
  · exact h z hz
  · exact hy
theorem gd_of {n : Int} {ys : List Int} (h1 : 1 ≤ n) (h2 : n ≤ 12) (hl : (ys.length : Int) = n) (h : In n ys) : Gd ys := ⟨by omega, by omega, fun y hy => by rw [hl]; exact h y hy⟩
def iota (n : Nat) : List Int := (List.range n).map fun k : Nat => (k : Int)
theorem iota_snoc (n : Nat) : iota (n + 1) = iota n ++ [(n : Int)] := by unfold iota; rw [List.range_succ, List.map_append]; rfl
theorem iota_in (n : Nat) : In n (iota n) := fun y hy => by
  obtain ⟨k, h1, rfl⟩ := List.mem_map.mp hy
  have := List.mem_range.mp h1
  omega
theorem iota_mem {n : Nat} {r : Int} (h : 0 ≤ r ∧ r < n) : r ∈ iota n := List.mem_map.mpr ⟨r.toNat, List.mem_range.mpr (by omega), by omega⟩
theorem iota_len (n : Nat) : (iota n).length = n := by unfold iota; simp
theorem ixN_ok {n : Nat} {r : Int} (h : 0 ≤ r ∧ r < n) : ixN n r = some r.toNat := by
  unfold ixN
  rw [if_pos h.1, if_pos (by omega)]
abbrev sp_goal (K : FK) := spB K BagI (fun _ : Unit => []) (fun _ => True) (fun _ e => ∃ ys, Gd ys ∧ e = fz (Tup.mk ys))
theorem ok_law_goal {f : Addr} {fd : FuncData} (F : Fun K "_law_goal" "_law_goal" s__law_goal f fd) (hm : mg "_law_goal" = some (.ref f)) (b : Binds K fd ["_law_bag_here"] []) (T : Txt P w K mg base CG CN CL CM CR) (c__law_take : Cal0 P w K mg base 2 "_law_take" (sp_take K)) :
    Cal0 P w K mg base 4 "_law_goal" (sp_goal K) :=
  cal0 F hm b sc__law_goal (fun vs H Q E h => spB_len (n := 0) (fun _ => rfl) h) fun cdv A outer s H vs Q E hr h => ⟨_, (pss_cons (ps_set (i := 1) sc__law_goal.nd rfl (.inr rfl) (pe_op op_add pe_int (pe_c0 c__law_take hr (by decide) (by rfl) (pa_cons (pv 0) (pa_cons pe_int pa_nil)))))
      (pss_cons (ps_set (i := 2) sc__law_goal.nd rfl (.inl rfl) (pe_c0 c__law_take hr (by decide) (by rfl) (pa_cons (pv 0) (pa_cons pe_int pa_nil))))
      (pss_cons (ps_if (pt_cmpR op_eq (pv 2) pe_int (nomark _)) (pss_one (ps_ret (pe_callTy (call_tuple_of : CallR _ _ (rTupQ K)) (by rfl) T.n_tuple (by decide +kernel) (pa_cons (pe_lc (own := [("_law_block", 9)]) (g := gName 9) (tt := tYes) rfl sc__law_goal.nd (pi_range1 (by rfl) T.n_range (pa_cons (pv 1) pa_nil)) (blkOk_by (own := [("_law_block", 9)]) (N := ["_law_bag_here", "_law_blocks", "_law_way", "_law_goal_here", "_law_turn", "_law_place", "_law_root", "_law_movers", "_law_stays", "_law_block"]) (sc := defScope s__law_goal) (by decide +kernel)) (fun _ _ _ _ _ => (pg_name (i := 9) sc__law_goal.nd rfl (.inl rfl))) (fun _ _ _ _ _ => pts_nil) (fun _ _ _ _ _ => (pe_c0 c__law_take hr (by decide) (by rfl) (pa_cons (pv 0) (pa_cons (pv 1) pa_nil))))) pa_nil)))) pss_nil)
      (pss_cons (ps_setLc (i := 3) (own := [("_law_block", 9)]) (g := gName 9) (tt := tYes) rfl sc__law_goal.nd rfl rfl (sw_true rfl rfl rfl (by decide +kernel)) (pi_range1 (by rfl) T.n_range (pa_cons (pv 1) pa_nil)) (blkOk_by (own := [("_law_block", 9)]) (N := ["_law_bag_here", "_law_blocks", "_law_way", "_law_goal_here", "_law_turn", "_law_place", "_law_root", "_law_movers", "_law_stays", "_law_block"]) (sc := defScope s__law_goal) (by decide +kernel)) (fun _ _ _ _ _ => (pg_name (i := 9) sc__law_goal.nd rfl (.inl rfl))) (fun _ _ _ _ _ => pts_nil) (fun _ _ _ _ _ => (pv 9)))
      (pss_cons (ps_if (pt_cmpR op_eq (pv 2) pe_int (nomark _)) (pss_cons (ps_for PassesOwn.never rfl (pi_range1 (by rfl) T.n_range (pa_cons (pe_op op_add pe_int (pe_c0 c__law_take hr (by decide) (by rfl) (pa_cons (pv 0) (pa_cons pe_int pa_nil)))) pa_nil)) (pg_name (i := 4) sc__law_goal.nd rfl (.inl rfl)) (pss_cons (ps_set (i := 5) sc__law_goal.nd rfl (.inl rfl) (pe_c0 c__law_take hr (by decide) (by rfl) (pa_cons (pv 0) (pa_cons (pv 1) pa_nil))))
      (pss_one (ps_asg (pe_c0 c__law_take hr (by decide) (by rfl) (pa_cons (pv 0) (pa_cons (pv 1) pa_nil))) (pg_sub (pv 3) (pv 5) set_list)))))
      (pss_one (ps_ret (pe_callTy (call_tuple_of : CallR _ _ (rTupQ K)) (by rfl) T.n_tuple (by decide +kernel) (pa_cons (pv 3) pa_nil))))) pss_nil)
      (pss_cons (ps_set (i := 6) sc__law_goal.nd rfl (.inr rfl) (pe_c0 c__law_take hr (by decide) (by rfl) (pa_cons (pv 0) (pa_cons (pv 1) pa_nil))))
      (pss_cons (ps_set (i := 7) sc__law_goal.nd rfl (.inr rfl) (pe_lc (own := [("_law_block", 9)]) (g := gName 9) rfl sc__law_goal.nd (pi_list (pv 3)) (blkOk_by (own := [("_law_block", 9)]) (N := ["_law_bag_here", "_law_blocks", "_law_way", "_law_goal_here", "_law_turn", "_law_place", "_law_root", "_law_movers", "_law_stays", "_law_block"]) (sc := defScope s__law_goal) (by decide +kernel)) (fun _ _ _ _ _ => (pg_name (i := 9) sc__law_goal.nd rfl (.inl rfl))) (fun _ _ _ _ _ => (pts_one (PW.pt (pw_and (pt_cmpR op_eq (pe_c0 c__law_take hr (by decide) (by rfl) (pa_cons (pv 0) (pa_cons pe_int pa_nil))) pe_int (nomark _)) (pw_and1 (pt_cmpR op_ne (pv 9) (pv 6) (nomark _))))))) (fun _ _ _ _ _ => (pv 9))))
      (pss_cons (ps_setLc (i := 8) (own := [("_law_block", 9)]) (g := gName 9) rfl sc__law_goal.nd rfl rfl (sw_true rfl rfl rfl (by decide +kernel)) (pi_list (pv 3)) (blkOk_by (own := [("_law_block", 9)]) (N := ["_law_bag_here", "_law_blocks", "_law_way", "_law_goal_here", "_law_turn", "_law_place", "_law_root", "_law_movers", "_law_stays", "_law_block"]) (sc := defScope s__law_goal) (by decide +kernel)) (fun _ _ _ _ _ => (pg_name (i := 9) sc__law_goal.nd rfl (.inl rfl))) (fun _ _ _ _ _ => (pts_one (pt_cmpR (op_notIn_seq : OpR _ _ (rIn K true)) (pv 9) (pv 7) (by rfl)))) (fun _ _ _ _ _ => (pv 9)))
      (pss_cons (ps_for PassesOwn.never rfl (pi_list (pv 7)) (pg_name (i := 9) sc__law_goal.nd rfl (.inl rfl)) (pss_one (ps_asg (pe_ix (ix_list : IxR _ (rIxL K)) (pv 8) (pe_c0 c__law_take hr (by decide) (by rfl) (pa_cons (pv 0) (pa_cons (pe_callB (call_len_seq : CallR _ _ (rLenQ K)) (by rfl) T.n_len PySem.boot_len (pa_cons (pv 8) pa_nil)) pa_nil))) (fun _ _ => rfl)) (pg_sub (pv 3) (pv 9) set_list))))
      (pss_one (ps_ret (pe_callTy (call_tuple_of : CallR _ _ (rTupQ K)) (by rfl) T.n_tuple (by decide +kernel) (pa_cons (pv 3) pa_nil))))))))))))),
    walkB h (by intro _; simp) fun _ B p hB _ => by
      subst hB
      show RS B [some (bo (some p) BagI), none, none, none, none, none, none, none, none, none] _ _
      refine rs_seq (rs_asgS (S := fun e => ∃ n : Int, (1 ≤ n ∧ n ≤ 12) ∧ e = fz n) (res_op (res_of re_cI) (tkR rfl rfl re_cI (by omega) (by omega)) ?_) (by simp) ?_)
      · rintro ex ey rfl ⟨r, hr, rfl⟩
        exact ⟨_, os_add, 1 + r, by omega, rfl⟩
      rintro e ⟨n, ⟨h1, h12⟩, rfl⟩
      refine rs_seq (rs_asgS (tkR rfl rfl re_cI (by omega) (by omega)) (by simp) ?_)
      rintro e ⟨way, hw, rfl⟩
      refine rs_seq (rs_if (rt_test (re_op (re_var rfl) re_cI os_eqI)) (fun _ => ?_) (fun _ => rs_nil ?_))
      · refine rs_retS (S := fun e => ∃ ys, Gd ys ∧ e = fz (Tup.mk ys)) (res_cb (ras_cons (res_lc (β := Int) (ws := [9]) (fun i acc => acc.length = i ∧ In n acc) (ri_range1 (ra_cons (re_var rfl) ra_nil) (by omega)) (by omega) ?_ (by simp) ⟨rfl, fun _ h => nomatch h⟩ ?_) ras_nil) ?_) (fun e he => ⟨he, rfl⟩)
        · intro k hk e
          have : k = 9 := by simpa using hk
          subst this
          simp
        · intro i acc hi _ hI
          exact ⟨_, fun c => c = true, fun y => 0 ≤ y ∧ y < n, rgw_name (by simp), Le.same (Le.same (Le.same (Le.skip (Le.skip (Le.skip (Le.skip (Le.skip (Le.skip (Le.skip Le.nil))))))))), rts_of rt_yes, fun _ => res_imp (tkR rfl rfl (re_var rfl) (by omega) (by omega)) (fun _ q => q), fun _ y hy => ⟨by simp [hI.1], hI.2.snoc hy⟩, fun q => nomatch q⟩
        · rintro es ⟨e1, es1, ⟨acc, ⟨hl, hI⟩, _, rfl⟩, rfl, rfl⟩
          exact ⟨_, cb_tupO, acc, gd_of h1 h12 (by omega) hI, rfl⟩
      · obtain ⟨N, rfl⟩ : ∃ N : Nat, n = (N : Int) := ⟨n.toNat, by omega⟩
        have hiN := iota_len N
        refine rs_seq (rs_asgS (res_lc (β := Int) (ws := [9]) (fun i acc => acc = iota i) (ri_range1 (ra_cons (re_var rfl) ra_nil) (by omega)) (by omega) ?_ (by simp) rfl ?_) (by simp) ?_)
        · intro k hk e
          have : k = 9 := by simpa using hk
          subst this
          simp
        · intro i acc hi _ hI
          exact ⟨_, fun c => c = true, fun y => y = (i : Int), rgw_name (by simp), Le.same (Le.same (Le.same (Le.skip (Le.skip (Le.skip (Le.skip (Le.skip (Le.skip (Le.skip Le.nil))))))))), rts_of rt_yes, fun _ => res_imp (res_of (re_var rfl)) (fun _ q => ⟨_, rfl, q⟩), fun _ y hy => by rw [hy, hI, iota_snoc], fun q => nomatch q⟩
        rintro e ⟨acc, hI, _, rfl⟩
        have hI : acc = iota N := hI
        subst hI
        refine rs_seq (rs_if (rt_test (re_op (re_var rfl) re_cI os_eqI)) (fun _ => ?_) (fun _ => rs_nil ?_))
        · refine rs_seq (rs_forR1 (P := fun x : Int => 1 ≤ x ∧ x ≤ 3) (ras_imp (ras_cons (res_op (S' := fun e => ∃ x : Int, (1 ≤ x ∧ x ≤ 3) ∧ e = fz x) (res_of re_cI) (tkR rfl rfl re_cI (by omega) (by omega)) ?_) ras_nil) ?_) (fun x hx => ?_))
          · rintro ex ey rfl ⟨r, hr, rfl⟩
            exact ⟨_, os_add, 1 + r, by omega, rfl⟩
          · rintro es ⟨e1, es1, ⟨x, hx, rfl⟩, rfl, rfl⟩
            exact ⟨x, hx, rfl⟩
          · refine rs_for (I := fun _ xs => xs.length = N ∧ In N xs) (G := fun xs : List Int => [some (bo (some p) BagI), some (fz (N : Int)), none, some (ow xs), none, none, none, none, none, none]) (iota N) (ri_range1 (ra_cons re_cI ra_nil) (by omega)) (Le.same (Le.same (Le.skip (Le.same (Le.skip (Le.skip (Le.skip (Le.skip (Le.skip (Le.skip Le.nil)))))))))) ⟨hiN, iota_in N⟩ (fun i xs hi hI => ?_) (fun xs hI => ?_)
            · refine ⟨_, rg_name (by simp), rs_seq (rs_asgS (tkR rfl rfl (re_var rfl) (by omega) (by omega)) (by simp) ?_)⟩
              rintro e ⟨pl, hpl, rfl⟩
              refine rs_setLS (P := fun y => 0 ≤ y ∧ y < (N : Int)) (Pi := fun m => m = pl) (xs := xs) rfl (tkR rfl rfl (re_var rfl) (by omega) (by omega)) (res_imp (res_of (re_var rfl)) (fun _ q => ⟨pl, rfl, q⟩)) ?_
              rintro y m hy rfl
              exact ⟨_, ixN_ok (by rw [hI.1]; exact hpl), _, Le.same (Le.same (Le.skip (Le.same (Le.skip (Le.skip (Le.skip (Le.skip (Le.skip (Le.skip Le.nil))))))))), by rw [List.length_set]; exact hI.1, hI.2.set hy⟩
            · exact rs_ret (re_tupV (xs := xs) rfl) ⟨⟨xs, gd_of h1 h12 (by rw [hI.1]) hI.2, rfl⟩, rfl⟩
        · refine rs_seq (rs_asgS (tkR rfl rfl (re_var rfl) (by omega) (by omega)) (by simp) ?_)
          rintro e ⟨root, hroot, rfl⟩
          refine rs_seq (rs_asgS (res_lcM (Γm := [some (bo (some p) BagI), some (fz (N : Int)), some (fz way), none, none, none, some (fz root), none, none, none]) (β := Int) (n := (iota N).length) (ws := [9]) (fun i acc => In N acc ∧ root ∉ acc) (ri_listM (Γ := [some (bo (some p) BagI), some (fz (N : Int)), some (fz way), some (ow (iota N)), none, none, some (fz root), none, none, none]) (j := 3) (xs := iota N) rfl) (by omega) ?_ (by simp) ⟨fun _ h => (nomatch h), fun h => (nomatch h)⟩ ?_) (by simp) ?_)
          · intro k hk e
            have : k = 9 := by simpa using hk
            subst this
            simp
          · intro i acc hi _ hI
            have hx : (iota N)[i]? = some (iota N)[i] := by simp [hi]
            have hy := iota_in N (iota N)[i] (by simp)
            rw [itemAt_of hx]
            refine ⟨_, _, fun y => y = (iota N)[i], rgw_name (by simp), Le.same (Le.same (Le.same (Le.skip (Le.skip (Le.skip (Le.same (Le.skip (Le.skip (Le.skip Le.nil))))))))), rts_and (Sb := fun _ => True) (rts_test (S := fun e => ∃ c : Bool, e = fz c) (res_op (tkR rfl rfl re_cI (by omega) (by omega)) (res_of re_cI) ?_) ?_) (fun _ => rts_of (rt_test (re_op (re_var rfl) (re_var rfl) os_neI))), fun _ => res_imp (res_of (re_var rfl)) (fun _ q => ⟨_, rfl, q⟩), ?_, fun _ => hI⟩
            · rintro ex ey ⟨r, _, rfl⟩ rfl
              exact ⟨_, os_eqI, _, rfl⟩
            · rintro x ⟨c, rfl⟩
              exact ⟨c, rfl, trivial⟩
            · rintro hc y rfl
              rcases hc with ⟨_, hc⟩ | ⟨_, hc⟩
              · cases hc
              · refine ⟨hI.1.snoc hy, fun hm => ?_⟩
                rcases List.mem_append.mp hm with hm | hm
                · exact hI.2 hm
                · have e1 : root = (iota N)[i] := by simpa using hm
                  rw [e1] at hc
                  simp at hc
          rintro e ⟨movers, ⟨hm1, hm2⟩, hml, rfl⟩
          refine rs_freeze (i := 7) (xs := movers) rfl ?_
          refine rs_seq (rs_asgS (res_lcM (Γm := [some (bo (some p) BagI), some (fz (N : Int)), some (fz way), none, none, none, some (fz root), some (fz (Lst.mk movers)), none, none]) (β := Int) (n := (iota N).length) (ws := [9]) (fun i acc => acc = ((iota N).take i).filter fun y => !decide (y ∈ movers)) (ri_listM (Γ := [some (bo (some p) BagI), some (fz (N : Int)), some (fz way), some (ow (iota N)), none, none, some (fz root), some (fz (Lst.mk movers)), none, none]) (j := 3) (xs := iota N) rfl) (by omega) ?_ (by simp) rfl ?_) (by simp) ?_)
          · intro k hk e
            have : k = 9 := by simpa using hk
            subst this
            simp
          · intro i acc hi _ hI
            have hx : (iota N)[i]? = some (iota N)[i] := by simp [hi]
            rw [itemAt_of hx]
            refine ⟨_, fun c => c = !decide ((iota N)[i] ∈ movers), fun y => y = (iota N)[i], rgw_name (by simp), Le.same (Le.same (Le.same (Le.skip (Le.skip (Le.skip (Le.same (Le.same (Le.skip (Le.skip Le.nil))))))))), rts_of (rt_test (re_op (re_var rfl) (re_var rfl) os_niIL)), fun _ => res_imp (res_of (re_var rfl)) (fun _ q => ⟨_, rfl, q⟩), fun q y hy => ?_, fun q => ?_⟩
            · subst hy
              rw [take_snoc hx, List.filter_append, List.filter_cons_of_pos (p := fun y => !decide (y ∈ movers)) q.symm, hI]; rfl
            · rw [take_snoc hx, List.filter_append, List.filter_cons_of_neg (p := fun y => !decide (y ∈ movers)) (by rw [← q]; exact Bool.false_ne_true), hI]
              simp
          rintro e ⟨stays, hst, hsl, rfl⟩
          have hst : stays = ((iota N).take (iota N).length).filter fun y => !decide (y ∈ movers) := hst
          rw [List.take_length] at hst
          have hroots : root ∈ stays := by rw [hst]; exact List.mem_filter.mpr ⟨iota_mem hroot, by simpa using hm2⟩
          have hpos : 0 < stays.length := List.length_pos_of_mem hroots
          have hins : In N stays := fun y hy => by
            rw [hst] at hy
            exact iota_in N y (List.mem_filter.mp hy).1
          have hsl : stays.length ≤ N := by rw [hiN] at hsl; exact hsl
          refine rs_freeze (i := 8) (xs := stays) rfl ?_
          refine rs_seq (rs_for (I := fun _ xs => xs.length = N ∧ In N xs) (G := fun xs : List Int => [some (bo (some p) BagI), some (fz (N : Int)), none, some (ow xs), none, none, none, some (fz (Lst.mk movers)), some (fz (Lst.mk stays)), none]) (iota N) (ri_list (re_var rfl)) (Le.same (Le.same (Le.skip (Le.same (Le.skip (Le.skip (Le.skip (Le.same (Le.same (Le.skip Le.nil)))))))))) ⟨hiN, iota_in N⟩ (fun i xs hi hI => ?_) (fun xs hI => ?_))
          · have hx : movers[i]? = some movers[i] := by simp [hi]
            have hy := hm1 movers[i] (by simp)
            rw [itemAt_of hx]
            refine ⟨_, rg_name (by simp), rs_setLS (P := fun y => 0 ≤ y ∧ y < (N : Int)) (Pi := fun m => m = movers[i]) (xs := xs) rfl (res_op (res_of (re_var rfl)) (tkR rfl rfl (re_cb (ra_cons (re_var rfl) ra_nil) cb_lenL) (by omega) (by omega)) ?_) (res_imp (res_of (re_var rfl)) (fun _ q => ⟨_, rfl, q⟩)) ?_⟩
            · rintro ex ey rfl ⟨r, hr, rfl⟩
              have hrl : r.toNat < stays.length := by omega
              exact ⟨_, os_ixL (atI_of hr.1 (show stays[r.toNat]? = some stays[r.toNat] by simp [hrl])), stays[r.toNat], hins _ (by simp), rfl⟩
            · rintro y m hy2 rfl
              exact ⟨_, ixN_ok (by rw [hI.1]; exact hy), _, Le.same (Le.same (Le.skip (Le.same (Le.skip (Le.skip (Le.skip (Le.same (Le.same (Le.skip Le.nil))))))))), by rw [List.length_set]; exact hI.1, hI.2.set hy2⟩
          · exact rs_ret (re_tupV (xs := xs) rfl) ⟨⟨xs, gd_of h1 h12 (by rw [hI.1]) hI.2, rfl⟩, rfl⟩⟩
end
end K31
end

section
set_option Elab.async false
set_option linter.all false
set_option maxRecDepth 100000
set_option maxHeartbeats 1000000
namespace K31
open PySem L2 G
/-! ### side goals, readings by their shape -/

section
variable {P : Program} {w : World} {K : PySem.W.Frag} {mg : Str → Option Value} {base : Heap} {CG CN CL CM CR : Addr}
/-! ### a spoilt goal -/
theorem fb_at {n : Int} : ∀ {xs : List It} {e : Nat} {x : It} {i : Int}, xs[e]? = some x → ix x n = false → (∀ j, j < e → ∀ y, xs[j]? = some y → ix y n = true) → fb n i xs = some (i + e)
  | [], _, _, _, h, _, _ => by simp at h
  | y :: r, 0, x, i, h, hx, _ => by
    have : y = x := by simpa using h
    subst this
    show (if ix y n = true then _ else some i) = _
    rw [if_neg (by rw [hx]; exact Bool.false_ne_true)]
    simp
  | y :: r, e + 1, x, i, h, hx, hg => by
    show (if ix y n = true then fb n (i + 1) r else some i) = _
    rw [if_pos (hg 0 (by omega) y rfl)]
    have h' : r[e]? = some x := by simpa using h
    rw [fb_at h' hx fun j hj z hz => hg (j + 1) (by omega) z (by simpa using hz)]
    congr 1; omega
theorem ix_int {n y : Int} (h : 0 ≤ y ∧ y < n) : ix (It.int y) n = true := by
  show (decide (0 ≤ y) && decide (y < n)) = true
  simp; exact h
abbrev s__law_spoilt : Stmt := top 46
theorem sc__law_spoilt : FnScope ["_law_bag_here", "_law_goal_here", "_law_pick", "_law_blocks", "_law_row", "_law_early", "_law_late", "_law_entry"] ["_law_bag_here", "_law_goal_here"] (defScope s__law_spoilt) := ⟨rfl, rfl, rfl, by decide +kernel, rfl, by decide +kernel, by decide +kernel⟩
abbrev sp_spoilt (K : FK) := spB K BagI (fun ys : List Int => [fz (Tup.mk ys)]) Gd (fun _ e => ∃ (a : GV) (i : Int), sz a ∧ chk a = some i ∧ e = fz (LP.mk a i))
theorem ok_law_spoilt {f : Addr} {fd : FuncData} (F : Fun K "_law_spoilt" "_law_spoilt" s__law_spoilt f fd) (hm : mg "_law_spoilt" = some (.ref f)) (b : Binds K fd ["_law_bag_here", "_law_goal_here"] []) (T : Txt P w K mg base CG CN CL CM CR) (c__law_take : Cal0 P w K mg base 2 "_law_take" (sp_take K)) (c__law_odd_entry : Cal0 P w K mg base 4 "_law_odd_entry" (sp_odd K)) :
    Cal0 P w K mg base 6 "_law_spoilt" (sp_spoilt K) :=
  cal0 F hm b sc__law_spoilt (fun vs H Q E h => spB_len (n := 1) (fun _ => rfl) h) fun cdv A outer s H vs Q E hr h => ⟨_, (pss_cons (ps_set (i := 2) sc__law_spoilt.nd rfl (.inl rfl) (pe_c0 c__law_take hr (by decide) (by rfl) (pa_cons (pv 0) (pa_cons pe_int pa_nil))))
      (pss_cons (ps_set (i := 3) sc__law_spoilt.nd rfl (.inl rfl) (pe_callB (call_len_seq : CallR _ _ (rLenQ K)) (by rfl) T.n_len PySem.boot_len (pa_cons (pv 1) pa_nil)))
      (pss_cons (ps_if (pt_cmpR op_eq (pv 2) pe_int (nomark _)) (pss_one (ps_ret (pe_lst (pa_cons (pe_callTy (call_list_of : CallR _ _ (rLstQ K)) (by rfl) T.n_list (by decide +kernel) (pa_cons (pv 1) pa_nil)) (pa_cons (pe_un un_neg pe_int) pa_nil))))) pss_nil)
      (pss_cons (ps_if (pt_cmpR op_eq (pv 2) pe_int (nomark _)) (pss_one (ps_ret (pe_lst (pa_cons (pv 3) (pa_cons (pe_un un_neg pe_int) pa_nil))))) pss_nil)
      (pss_cons (ps_if (pt_cmpR op_eq (pv 2) pe_int (nomark _)) (pss_one (ps_ret (pe_lst (pa_cons (pe_join pe_str (pe_lc (own := [("_law_entry", 7)]) (g := gName 7) (tt := tYes) rfl sc__law_spoilt.nd (pi_tup (pv 1)) (blkOk_by (own := [("_law_entry", 7)]) (N := ["_law_bag_here", "_law_goal_here", "_law_pick", "_law_blocks", "_law_row", "_law_early", "_law_late", "_law_entry"]) (sc := defScope s__law_spoilt) (by decide +kernel)) (fun _ _ _ _ _ => (pg_name (i := 7) sc__law_spoilt.nd rfl (.inl rfl))) (fun _ _ _ _ _ => pts_nil) (fun _ _ _ _ _ => (pe_callTy call_str_int (by rfl) T.n_str (by decide +kernel) (pa_cons (pv 7) pa_nil))))) (pa_cons (pe_un un_neg pe_int) pa_nil))))) pss_nil)
      (pss_cons (ps_if (pt_cmpR op_eq (pv 2) pe_int (nomark _)) (pss_one (ps_ret (pe_lst (pa_cons pe_non (pa_cons (pe_un un_neg pe_int) pa_nil))))) pss_nil)
      (pss_cons (ps_if (pt_cmpR op_eq (pv 2) pe_int (nomark _)) (pss_one (ps_ret (pe_lst (pa_cons (pe_tup pa_nil) (pa_cons (pe_un un_neg pe_int) pa_nil))))) pss_nil)
      (pss_cons (ps_if (pt_cmpR op_eq (pv 2) pe_int (nomark _)) (pss_one (ps_ret (pe_lst (pa_cons (pe_op (op_repT : OpR _ _ (rRepT K)) (pe_tup (pa_cons pe_int pa_nil)) (pe_op op_add pe_int (pe_c0 c__law_take hr (by decide) (by rfl) (pa_cons (pv 0) (pa_cons pe_int pa_nil))))) (pa_cons (pe_un un_neg pe_int) pa_nil))))) pss_nil)
      (pss_cons (ps_set (i := 4) sc__law_spoilt.nd rfl (.inl rfl) (pe_callTy (call_list_of : CallR _ _ (rLstQ K)) (by rfl) T.n_list (by decide +kernel) (pa_cons (pv 1) pa_nil)))
      (pss_cons (ps_set (i := 5) sc__law_spoilt.nd rfl (.inl rfl) (pe_c0 c__law_take hr (by decide) (by rfl) (pa_cons (pv 0) (pa_cons (pv 3) pa_nil))))
      (pss_cons (ps_set (i := 6) sc__law_spoilt.nd rfl (.inl rfl) (pe_op op_add (pv 5) (pe_c0 c__law_take hr (by decide) (by rfl) (pa_cons (pv 0) (pa_cons (pe_op op_sub (pv 3) (pv 5)) pa_nil)))))
      (pss_cons (ps_asg (pe_c0 c__law_odd_entry hr (by decide) (by rfl) (pa_cons (pv 0) (pa_cons (pv 3) pa_nil))) (pg_sub (pv 4) (pv 6) set_list))
      (pss_cons (ps_asg (pe_c0 c__law_odd_entry hr (by decide) (by rfl) (pa_cons (pv 0) (pa_cons (pv 3) pa_nil))) (pg_sub (pv 4) (pv 5) set_list))
      (pss_one (ps_ret (pe_lst (pa_cons (pe_callTy (call_tuple_of : CallR _ _ (rTupQ K)) (by rfl) T.n_tuple (by decide +kernel) (pa_cons (pv 4) pa_nil)) (pa_cons (pv 5) pa_nil)))))))))))))))))),
    walkB h (by intro _; simp) fun ys B p hB g => by
      subst hB
      have g : Gd ys := g
      have g1 := g.h1
      have g2 := g.h2
      show RS B [some (bo (some p) BagI), some (fz (Tup.mk ys)), none, none, none, none, none, none] _ _
      refine rs_seq (rs_asgS (tkR rfl rfl re_cI (by omega) (by omega)) (by simp) ?_)
      rintro e ⟨pick, hpick, rfl⟩
      refine rs_seq (rs_asg (re_cb (ra_cons (re_var rfl) ra_nil) cb_lenT) (by simp) ?_)
      refine rs_seq (rs_if (rt_test (re_op (re_var rfl) re_cI os_eqI)) (fun _ => rs_ret (e := fz (LP.mk (GV.lst ys) (-1 : Int))) (re_lstF (ra_cons (e := fz (GV.lst ys)) (re_freeze (re_cb (ra_cons (re_var rfl) ra_nil) cb_lstT)) (ra_cons (re_un re_cI us_neg) ra_nil)) lp_of (by simp)) ⟨⟨GV.lst ys, -1, trivial, rfl, rfl⟩, rfl⟩) (fun _ => rs_nil ?_))
      refine rs_seq (rs_if (rt_test (re_op (re_var rfl) re_cI os_eqI)) (fun _ => rs_ret (e := fz (LP.mk (GV.int ys.length) (-1 : Int))) (re_lstF (ra_cons (e := fz (GV.int ys.length)) (re_var (x := GV.int ys.length) rfl) (ra_cons (re_un re_cI us_neg) ra_nil)) lp_of (by simp)) ⟨⟨GV.int ys.length, -1, trivial, rfl, rfl⟩, rfl⟩) (fun _ => rs_nil ?_))
      refine rs_seq (rs_if (rt_test (re_op (re_var rfl) re_cI os_eqI)) (fun _ => rs_retS (S := fun e => ∃ (a : GV) (i : Int), sz a ∧ chk a = some i ∧ e = fz (LP.mk a i)) (res_lst (α := LP GV Int) (ras_cons (res_joinO (S' := fun e => ∃ s : Str, e = fz s) re_cS (res_lc (β := Str) (ws := [7]) (fun i acc => acc.length = i ∧ ∀ s ∈ acc, s.length ≤ 2000) (ri_tup (re_var rfl)) (by omega) ?_ (by simp) ⟨rfl, fun _ h => nomatch h⟩ ?_) ?_) (ras_of (ra_cons (re_un re_cI us_neg) ra_nil))) ?_) (fun e he => ⟨he, rfl⟩)) (fun _ => rs_nil ?_))
      · intro k hk e
        have : k = 7 := by simpa using hk
        subst this
        simp
      · intro i acc hi _ hI
        have hx : ys[i]? = some ys[i] := by simp [hi]
        have hy := g.h3 ys[i] (by simp)
        rw [itemAt_of hx]
        have hlog : (ys[i]).natAbs.log2 < 1900 := log_small (by omega)
        refine ⟨_, fun c => c = true, fun s => s = Str.ofString (toString ys[i]), rgw_name (by simp), Le.same (Le.same (Le.same (Le.same (Le.skip (Le.skip (Le.skip (Le.skip Le.nil))))))), rts_of rt_yes, fun _ => res_imp (res_of (re_cb (ra_cons (re_var rfl) ra_nil) (cb_str (Nat.lt_trans hlog (by decide))))) (fun _ q => ⟨_, rfl, q⟩), ?_, fun q => nomatch q⟩
        rintro _ s rfl
        refine ⟨by simp [hI.1], fun s hs => ?_⟩
        rcases List.mem_append.mp hs with hs | hs
        · exact hI.2 s hs
        · have : s = Str.ofString (toString ys[i]) := by simpa using hs
          rw [this]; exact int_len hlog
      · rintro e ⟨acc, ⟨hl, hs⟩, _, rfl⟩
        refine ⟨acc, rfl, ?_, _, rfl⟩
        have hsum : ∀ l : List Str, (∀ s ∈ l, s.length ≤ 2000) → (l.map (·.length)).sum ≤ l.length * 2000 := fun l => by
          induction l with
          | nil => intro _; simp
          | cons s l ih =>
            intro h
            have h1 := h s List.mem_cons_self
            have h2 := ih fun z hz => h z (List.mem_cons_of_mem _ hz)
            rw [List.map_cons, List.sum_cons, List.length_cons, Nat.succ_mul]
            omega
        have h3 := hsum acc hs
        have h4 : acc.length * 2000 ≤ 12 * 2000 := Nat.mul_le_mul_right _ (by omega)
        have h5 : (Str.ofString "").length = 0 := rfl
        have h6 : acc.length * (Str.ofString "").length = 0 := by rw [h5, Nat.mul_zero]
        show (acc.map (·.length)).sum + acc.length * (Str.ofString "").length ≤ 16777216
        omega
      · rintro es ⟨e1, es1, ⟨s, rfl⟩, rfl, rfl⟩
        exact ⟨LP.mk (GV.str s) (-1), lp_of (x := GV.str s) (y := (-1 : Int)), by simp, GV.str s, -1, trivial, rfl, rfl⟩
      refine rs_seq (rs_if (rt_test (re_op (re_var rfl) re_cI os_eqI)) (fun _ => rs_ret (e := fz (LP.mk GV.non (-1 : Int))) (re_lstF (ra_cons (e := fz GV.non) re_cN (ra_cons (re_un re_cI us_neg) ra_nil)) lp_of (by simp)) ⟨⟨GV.non, -1, trivial, rfl, rfl⟩, rfl⟩) (fun _ => rs_nil ?_))
      refine rs_seq (rs_if (rt_test (re_op (re_var rfl) re_cI os_eqI)) (fun _ => rs_ret (e := fz (LP.mk (GV.tup []) (-1 : Int))) (re_lstF (ra_cons (e := fz (GV.tup [])) (re_tup (x := Tup.mk ([] : List It)) ra_nil (tup_of (xs := ([] : List It))) (by simp)) (ra_cons (re_un re_cI us_neg) ra_nil)) lp_of (by simp)) ⟨⟨_, _, Nat.zero_le _, rfl, rfl⟩, rfl⟩) (fun _ => rs_nil ?_))
      refine rs_seq (rs_if (rt_test (re_op (re_var rfl) re_cI os_eqI)) (fun _ => rs_retS (S := fun e => ∃ (a : GV) (i : Int), sz a ∧ chk a = some i ∧ e = fz (LP.mk a i)) (res_lst (α := LP GV Int) (ras_cons (res_op (S' := fun e => ∃ m : Nat, (13 ≤ m ∧ m ≤ 20) ∧ e = fz (gi (List.replicate m 0))) (res_of (re_tup (x := Tup.mk [(0 : Int)]) (ra_cons re_cI ra_nil) (tup_of (xs := [(0 : Int)])) (by simp))) (res_op (S' := fun e => ∃ m : Int, (13 ≤ m ∧ m ≤ 20) ∧ e = fz m) (res_of re_cI) (tkR rfl rfl re_cI (by omega) (by omega)) ?_) ?_) (ras_of (ra_cons (re_un re_cI us_neg) ra_nil))) ?_) (fun e he => ⟨he, rfl⟩)) (fun _ => rs_nil ?_))
      · rintro ex ey rfl ⟨r, hr, rfl⟩
        exact ⟨_, os_add, 13 + r, by omega, rfl⟩
      · rintro ex ey rfl ⟨m, hm, rfl⟩
        refine ⟨_, os_repT (by simp) (by omega) (by omega) (by simp), m.toNat, by omega, ?_⟩
        rw [fz_gi]
        congr 2
        induction m.toNat with
        | zero => rfl
        | succ k ih =>
          rw [List.replicate_succ, List.replicate_succ, List.flatten_cons, ih]; rfl
      · rintro es ⟨e1, es1, ⟨m, hm, rfl⟩, rfl, rfl⟩
        refine ⟨LP.mk (gi (List.replicate m 0)) (-1), lp_of (x := gi (List.replicate m 0)) (y := (-1 : Int)), by simp, gi (List.replicate m 0), -1, ?_, ?_, rfl⟩
        · show ((List.replicate m (0 : Int)).map It.int).length ≤ 1000
          rw [List.length_map, List.length_replicate]; omega
        · show (if ((List.replicate m (0 : Int)).map It.int).length = 0 ∨ 12 < ((List.replicate m (0 : Int)).map It.int).length then some (-1) else _) = _
          rw [List.length_map, List.length_replicate, if_pos (by omega)]
      -- one or two entries replaced
      refine rs_seq (rs_asg (re_cb (ra_cons (re_var rfl) ra_nil) cb_lstT) (by simp) ?_)
      refine rs_say (i := 4) (e := ow ys) (e' := ow (ys.map It.int)) rfl (fun K Hf H v fp h => by
        obtain ⟨q, vs, h1, h2, h3, h4⟩ := h
        exact ⟨q, vs, h1, h2, h3, ints_it.mpr h4⟩) ?_
      refine rs_seq (rs_asgS (tkR rfl rfl (re_var rfl) (by omega) (by omega)) (by simp) ?_)
      rintro e ⟨ea, hea, rfl⟩
      refine rs_seq (rs_asgS (S := fun e => ∃ la : Int, (ea ≤ la ∧ la < ys.length) ∧ e = fz la) (res_op (res_of (re_var rfl)) (tkR rfl rfl (re_op (re_var rfl) (re_var rfl) os_sub) (by omega) (by omega)) ?_) (by simp) ?_)
      · rintro ex ey rfl ⟨r, hr, rfl⟩
        exact ⟨_, os_add, ea + r, by omega, rfl⟩
      rintro e ⟨la, hla, rfl⟩
      have odd : ∀ {Γ : List (Option Ent)}, Γ[0]? = some (some (bo (some p) BagI)) → Γ[3]? = some (some (fz (ys.length : Int))) → REs B Γ (tCall (sp_odd B.K) [] (fun _ _ _ => False) (tCons (tVar 0) (tCons (tVar 3) tNil))) (fun e => ∃ x : It, ix x ys.length = false ∧ e = fz x) := fun h0 h3 =>
        res_callB h0 (ras_of (ra_cons (re_var h3) ra_nil)) fun es q => ⟨(ys.length : Int), q.symm, by rw [q]; exact ⟨fz_fz, trivial⟩, (show 1 ≤ (ys.length : Int) ∧ (ys.length : Int) ≤ 12 by omega), fun _ po => po⟩
      refine rs_seq (rs_setLS (xs := ys.map It.int) (P := fun x => ix x ys.length = false) (Pi := fun m => m = la) rfl (odd rfl rfl) (res_imp (res_of (re_var rfl)) (fun _ q => ⟨_, rfl, q⟩)) ?_)
      rintro x1 m hx1 rfl
      refine ⟨_, ixN_ok (by rw [List.length_map]; omega), ?_⟩
      refine rs_seq (rs_setLS (xs := (ys.map It.int).set m.toNat x1) (P := fun x => ix x ys.length = false) (Pi := fun m => m = ea) rfl (odd rfl rfl) (res_imp (res_of (re_var rfl)) (fun _ q => ⟨_, rfl, q⟩)) ?_)
      rintro x2 k hx2 rfl
      refine ⟨_, ixN_ok (by rw [List.length_set, List.length_map]; omega), ?_⟩
      have hlen : (((ys.map It.int).set m.toNat x1).set k.toNat x2).length = ys.length := by rw [List.length_set, List.length_set, List.length_map]
      refine rs_ret (e := fz (LP.mk (GV.tup (((ys.map It.int).set m.toNat x1).set k.toNat x2)) k)) (re_lstF (ra_cons (e := fz (GV.tup (((ys.map It.int).set m.toNat x1).set k.toNat x2))) (re_tupV rfl) (ra_cons (re_var rfl) ra_nil)) lp_of (by simp)) ⟨⟨_, _, ?_, ?_, rfl⟩, rfl⟩
      · show (((ys.map It.int).set m.toNat x1).set k.toNat x2).length ≤ 1000
        rw [hlen]; omega
      · show (if (((ys.map It.int).set m.toNat x1).set k.toNat x2).length = 0 ∨ 12 < (((ys.map It.int).set m.toNat x1).set k.toNat x2).length then some (-1) else fb (((ys.map It.int).set m.toNat x1).set k.toNat x2).length 0 (((ys.map It.int).set m.toNat x1).set k.toNat x2)) = some k
        rw [hlen, if_neg (by omega), fb_at (e := k.toNat) (x := x2) (by rw [List.getElem?_set_self (by rw [List.length_set, List.length_map]; omega)]) hx2 fun j hj y hy => ?_]
        · congr 1; omega
        · rw [List.getElem?_set_ne (by omega), List.getElem?_set_ne (by omega), List.getElem?_map] at hy
          cases hz : ys[j]? with
          | none => rw [hz] at hy; cases hy
          | some z =>
            rw [hz] at hy
            cases hy
            exact ix_int (g.h3 z (List.mem_of_getElem? hz))⟩
end
end K31
end

section
set_option Elab.async false
set_option linter.all false
set_option maxRecDepth 100000
set_option maxHeartbeats 1000000
namespace K31
open PySem L2 G
/-! ### side goals, readings by their shape -/

section
variable {P : Program} {w : World} {K : PySem.W.Frag} {mg : Str → Option Value} {base : Heap} {CG CN CL CM CR : Addr}
/-! ### the law -/
theorem tkJ {B : Bs} {Γ : List (Option Ent)} {o : Option Addr} {te : TE} {n : Int} {E : XK} {j : Nat} (hB : B.K = K) (hx : Γ[j]? = some (some (bo o BagI))) (h : RE B Γ te (fz n)) (h0 : 0 < n) (h1 : n ≤ 1000) :
    REs B Γ (tCall (sp_take K) [] E (tCons (tVar j) (tCons te tNil))) (fun e => ∃ r : Int, (0 ≤ r ∧ r < n) ∧ e = fz r) := by
  subst hB
  exact res_callB hx (ras_of (ra_cons h ra_nil)) fun es q => ⟨n, q.symm, by rw [q]; exact ⟨fz_fz, trivial⟩, ⟨h0, log_bd ⟨by omega, h1⟩⟩, fun _ po => po⟩
theorem os_notNU {K : FK} : OpS K (fun x y H Q => y = .non ∧ Q (.bl (!decide (x = .non))) H) (fz ()) (fz ()) (fz false) := fun B H l L vx vy _ E Q k => by
  have e2 : vy = .non := E.view
  have e1 : vx = .non := E.drop.view
  subst e1; subst e2
  refine ⟨rfl, ?_⟩
  rw [show (!decide (V.non = V.non)) = false by simp]
  exact k _ _ E.drop.drop.pushB
abbrev sp_law (K : FK) := spP K (fun ns : List Int => [fz (Scr.mk ns)]) (fun ns => ns.length ≤ 63) (fun _ e => e = fz true)
/-- what the row asks of the law -/
def spLaw (K : FK) : Sp := fun vs H Q _ => ∃ (a : Addr) (ns : List Int), vs = [.ref a] ∧ SqL K H a (ns.map V.int) ∧ ns.length ≤ 63 ∧ ∀ H', Q (.bl true) H'
theorem law_sp {K : FK} {vs : List V} {H : Hp} {Q : VK} {E : XK} (h : spLaw K vs H Q E) : sp_law K vs H Q E := by
  obtain ⟨a, ns, rfl, hS, hl, k⟩ := h
  refine ⟨ns, H, hl, rfl, Same.refl _, fun i e q => ?_, fun v ent H' Hf' fp po _ _ _ _ _ hp => ?_⟩
  · cases i with
    | zero =>
      have : fz (Scr.mk ns) = e := by simpa using q
      subst this
      exact ⟨_, rfl, rfl, a, rfl, hS⟩
    | succ i => simp at q
  · subst po
    have : v = .bl true := hp.2
    subst this
    exact k H'
abbrev s_law : Stmt := top 53
theorem sc_law : FnScope ["_law_script", "_law_bag_here", "_law_goal_here", "_law_spoilt_here", "_law_small", "_law_blocks", "_law_door", "_law_told"] ["_law_script"] (defScope s_law) := ⟨rfl, rfl, rfl, by decide +kernel, rfl, by decide +kernel, by decide +kernel⟩
theorem ok_law {f : Addr} {fd : FuncData} (F : Fun K "law" "law" s_law f fd) (T : Txt P w K mg base CG CN CL CM CR)
    (c__law_bag : Cal0 P w K mg base 2 "_law_bag" (sp_bag K)) (c__law_take : Cal0 P w K mg base 2 "_law_take" (sp_take K)) (c__law_goal : Cal0 P w K mg base 4 "_law_goal" (sp_goal K)) (c__law_spoilt : Cal0 P w K mg base 6 "_law_spoilt" (sp_spoilt K))
    (c_check_goal : CalX P w K mg base 4 "check_goal" (sp_cg K CG)) (c__law_is_numbers : Cal0 P w K mg base 4 "_law_is_numbers" (sp_nums K)) (c_homeless : CalX P w K mg base 6 "homeless" (sp_hl K CG)) (c__law_homeless : Cal0 P w K mg base 2 "_law_homeless" (sp_lh K))
    (c__law_refused : Cal0 P w K mg base 14 "_law_refused" (sp_ref K)) (c_count_safe_goals : Cal0 P w K mg base 2 "count_safe_goals" (sp_cs K)) (c__law_is_number : Cal0 P w K mg base 2 "_law_is_number" (sp_num K)) (c__law_count : Cal0 P w K mg base 2 "_law_count" (sp_lc K))
    (c__law_small_right : Cal0 P w K mg base 8 "_law_small_right" (sp_sr K)) :
    FnOk P w K mg base CX0 16 f fd ["_law_script"] (spLaw K) :=
  F.ok sc_law (fun vs H Q E h => spP_len (n := 1) (fun _ => rfl) (law_sp h)) fun cdv A outer s H vs Q E hr h => ⟨_, (pss_cons (ps_set (i := 1) sc_law.nd rfl (.inl rfl) (pe_c0 c__law_bag hr (by decide) (by rfl) (pa_cons (pv 0) pa_nil)))
      (pss_cons (ps_set (i := 2) sc_law.nd rfl (.inl rfl) (pe_c0 c__law_goal hr (by decide) (by rfl) (pa_cons (pv 1) pa_nil)))
      (pss_cons (ps_set (i := 3) sc_law.nd rfl (.inl rfl) (pe_c0 c__law_spoilt hr (by decide) (by rfl) (pa_cons (pv 1) (pa_cons (pv 2) pa_nil))))
      (pss_cons (ps_set (i := 4) sc_law.nd rfl (.inl rfl) (pe_ix (ix_list : IxR _ (rIxL K)) (pe_lst (pa_cons pe_int (pa_cons pe_int (pa_cons pe_int (pa_cons pe_int (pa_cons pe_int (pa_cons pe_int pa_nil))))))) (pe_c0 c__law_take hr (by decide) (by rfl) (pa_cons (pv 1) (pa_cons pe_int pa_nil))) (fun _ _ => rfl)))
      (pss_cons (ps_set (i := 5) sc_law.nd rfl (.inl rfl) (pe_op op_add pe_int (pe_c0 c__law_take hr (by decide) (by rfl) (pa_cons (pv 1) (pa_cons pe_int pa_nil)))))
      (pss_cons (ps_if (pt_cmpR op_notN (pe_cx c_check_goal hr (by decide) (by rfl) takes_no (pa_cons (pv 2) pa_nil)) pe_non (nomark _)) (pss_one (ps_ret pe_bl)) pss_nil)
      (pss_cons (ps_if (pt_not (pt_val (pe_c0 c__law_is_numbers hr (by decide) (by rfl) (pa_cons (pe_cx c_homeless hr (by decide) (by rfl) takes_no (pa_cons (pv 2) pa_nil)) (pa_cons (pe_c0 c__law_homeless hr (by decide) (by rfl) (pa_cons (pv 2) pa_nil)) pa_nil))))) (pss_one (ps_ret pe_bl)) pss_nil)
      (pss_cons (ps_for PassesOwn.never rfl (pi_range1 (by rfl) T.n_range (pa_cons pe_int pa_nil)) (pg_name (i := 6) sc_law.nd rfl (.inl rfl)) (pss_one (ps_if (pt_not (pt_val (pe_c0 c__law_refused hr (by decide) (by rfl) (pa_cons (pv 6) (pa_cons (pe_ix (ix_list : IxR _ (rIxL K)) (pv 3) pe_int (fun _ _ => rfl)) (pa_cons (pe_ix (ix_list : IxR _ (rIxL K)) (pv 3) pe_int (fun _ _ => rfl)) pa_nil)))))) (pss_one (ps_ret pe_bl)) pss_nil)))
      (pss_cons (ps_set (i := 7) sc_law.nd rfl (.inl rfl) (pe_c0 c_count_safe_goals hr (by decide) (by rfl) (pa_cons (pv 5) pa_nil)))
      (pss_cons (ps_if (PW.pt (pw_or (pt_not (pt_val (pe_c0 c__law_is_number hr (by decide) (by rfl) (pa_cons (pv 7) pa_nil)))) (pw_or1 (pt_cmpR op_ne (pv 7) (pe_c0 c__law_count hr (by decide) (by rfl) (pa_cons (pv 5) pa_nil)) (nomark _))))) (pss_one (ps_ret pe_bl)) pss_nil)
      (pss_one (ps_ret (pe_c0 c__law_small_right hr (by decide) (by rfl) (pa_cons (pv 4) pa_nil)))))))))))))),
    walkP (law_sp h) (by intro _; simp) fun ns B hB hp => by
      subst hB
      show RS B [some (fz (Scr.mk ns)), none, none, none, none, none, none, none] _ _
      refine rs_seq (rs_asgS (S := fun e => ∃ xs, BagI xs ∧ e = ow xs) (res_call (args := fun ns : List Int => [fz (Scr.mk ns)]) (ras_of (ra_cons (re_var rfl) ra_nil)) (fun es q => ⟨ns, q.symm, by rw [q]; exact ⟨fz_fz, trivial⟩, hp, fun _ po => po⟩)) (by simp) ?_)
      rintro e ⟨xs, hI, rfl⟩
      refine rs_say (i := 1) rfl (ow_bo (J := BagI) hI) ?_
      refine rs_seq (rs_asgS (S := fun e => ∃ ys, Gd ys ∧ e = fz (Tup.mk ys)) (res_callB (i := 1) rfl (ras_of ra_nil) (fun es q => ⟨(), q.symm, by rw [q]; exact trivial, trivial, fun _ po => po⟩)) (by simp) ?_)
      rintro e ⟨ys, g, rfl⟩
      have g1 := g.h1
      have g2 := g.h2
      refine rs_seq (rs_asgS (S := fun e => ∃ (a : GV) (i : Int), sz a ∧ chk a = some i ∧ e = fz (LP.mk a i)) (res_callB (i := 1) rfl (ras_of (ra_cons (re_var rfl) ra_nil)) (fun es q => ⟨ys, q.symm, by rw [q]; exact ⟨fz_fz, trivial⟩, g, fun _ po => po⟩)) (by simp) ?_)
      rintro e ⟨a, due, hsz, hchk, rfl⟩
      refine rs_seq (rs_asgS (S := fun e => ∃ s : Nat, (1 ≤ s ∧ s ≤ 4) ∧ e = fz (s : Int)) (res_op (res_of (re_freeze (re_lst (xs := [(1 : Int), 2, 3, 3, 3, 4]) (ra_cons re_cI (ra_cons re_cI (ra_cons re_cI (ra_cons re_cI (ra_cons re_cI (ra_cons re_cI ra_nil)))))) (items_of (xs := [(1 : Int), 2, 3, 3, 3, 4])) (by simp)))) (tkJ (j := 1) rfl rfl re_cI (by omega) (by omega)) ?_) (by simp) ?_)
      · rintro ex ey rfl ⟨r, hr, rfl⟩
        have h6 : r = 0 ∨ r = 1 ∨ r = 2 ∨ r = 3 ∨ r = 4 ∨ r = 5 := by omega
        rcases h6 with rfl | rfl | rfl | rfl | rfl | rfl
        · exact ⟨_, os_ixL rfl, 1, by omega, rfl⟩
        · exact ⟨_, os_ixL rfl, 2, by omega, rfl⟩
        · exact ⟨_, os_ixL rfl, 3, by omega, rfl⟩
        · exact ⟨_, os_ixL rfl, 3, by omega, rfl⟩
        · exact ⟨_, os_ixL rfl, 3, by omega, rfl⟩
        · exact ⟨_, os_ixL rfl, 4, by omega, rfl⟩
      rintro e ⟨small, hsm, rfl⟩
      refine rs_seq (rs_asgS (S := fun e => ∃ n : Nat, (1 ≤ n ∧ n ≤ 12) ∧ e = fz (n : Int)) (res_op (res_of re_cI) (tkJ (j := 1) rfl rfl re_cI (by omega) (by omega)) ?_) (by simp) ?_)
      · rintro ex ey rfl ⟨r, hr, rfl⟩
        refine ⟨_, os_add, (1 + r).toNat, by omega, ?_⟩
        rw [show ((1 + r).toNat : Int) = 1 + r by omega]
      rintro e ⟨n, hn, rfl⟩
      refine rs_seq (rs_if (b := false) (rt_test (re_op (re_cg rfl g (re_var rfl)) re_cN os_notNU)) (fun q => nomatch q) (fun _ => rs_nil ?_))
      refine rs_seq (rs_if (b := false) (rt_not (a := true) (rt_B (re_is (re_call (args := fun a : List Int × List Int => [fz (Tup.mk a.1), fz (Lst.mk a.2)]) (ra_cons (re_hl rfl g (re_var rfl)) (ra_cons (re_freeze (re_call (args := fun ys : List Int => [fz (Tup.mk ys)]) (ra_cons (re_var rfl) ra_nil) ys rfl ⟨fz_fz, trivial⟩ (show ys.length ≤ 1000 by omega) fun _ q => q)) ra_nil)) (hl ys, lh ys) rfl ⟨fz_fz, fz_fz, trivial⟩ ?_ fun _ q => q) ?_))) (fun q => nomatch q) (fun _ => rs_nil ?_))
      · have : (lh ys).length ≤ ys.length := lhS_len ys ys.length
        show (hl ys).length ≤ 1000 ∧ (lh ys).length ≤ 1000
        rw [hl_lh g]
        exact ⟨by omega, by omega⟩
      · show fz (decide (hl ys = lh ys)) = fz true
        rw [decide_eq_true (hl_lh g)]
      refine rs_seq (rs_for (I := fun _ (_ : Unit) => True) (G := fun _ => [some (fz (Scr.mk ns)), some (bo none BagI), some (fz (Tup.mk ys)), some (fz (LP.mk a due)), some (fz (small : Int)), some (fz (n : Int)), none, none]) () (ri_range1 (ra_cons re_cI ra_nil) (by omega)) (Le.refl _) trivial (fun i _ hi _ => ?_) (fun _ _ => ?_))
      · refine ⟨_, rg_name (by simp), rs_if (b := false) (rt_not (a := true) (rt_B (re_call (args := fun a : Int × GV × Int => [fz a.1, fz a.2.1, fz a.2.2]) (ra_cons (re_var rfl) (ra_cons (re_op (re_var rfl) re_cI os_lp0) (ra_cons (re_op (re_var rfl) re_cI os_lp1) ra_nil))) ((i : Int), a, due) rfl ⟨fz_fz, fz_fz, fz_fz, trivial⟩ ⟨⟨by omega, by omega⟩, hsz, hchk⟩ fun _ q => q))) (fun q => nomatch q) (fun _ => rs_nil ⟨(), Le.same (Le.same (Le.same (Le.same (Le.same (Le.same (Le.skip (Le.skip Le.nil))))))), trivial⟩)⟩
      · refine rs_seq (rs_asg (re_call (args := fun n : Int => [fz n]) (ra_cons (re_var rfl) ra_nil) (n : Int) rfl ⟨fz_fz, trivial⟩ (show 1 ≤ (n : Int) ∧ (n : Int) ≤ 12 by omega) fun _ q => q) (by simp) ?_)
        refine rs_seq (rs_if (b := false) (rt_is (rt_or (a := false) (rt_not (a := true) (rt_B (re_call (args := fun a : Int => [fz a]) (ra_cons (re_var rfl) ra_nil) (cs n) rfl ⟨fz_fz, trivial⟩ trivial fun _ q => q))) (fun _ => rt_test (re_op (re_var rfl) (re_call (args := fun n : Int => [fz n]) (ra_cons (re_var rfl) ra_nil) (n : Int) rfl ⟨fz_fz, trivial⟩ (show 1 ≤ (n : Int) ∧ (n : Int) ≤ 12 by omega) fun _ q => q) os_neI))) ?_) (fun q => nomatch q) (fun _ => rs_nil ?_))
        · rw [cs_lc n hn.2]; simp
        · exact rs_ret (re_call (args := fun n : Nat => [fz (n : Int)]) (ra_cons (re_var rfl) ra_nil) small rfl ⟨fz_fz, trivial⟩ hsm fun _ q => q) rfl⟩
end
end K31
end

section
set_option Elab.async false
set_option linter.all false
set_option maxRecDepth 100000
set_option maxHeartbeats 1000000
namespace K31
open PySem L2 G
abbrev s_init : Stmt := inClass (top 4) 0
/-! ### what the top has written, the head -/
theorem all_mk {l : PySem.W.OpenLaw} {w : World} {K : PySem.W.Frag} {h : Heap} {mg : Str → Option Value} {fa : Addr} (X : K.In h) (G : h.Ns mainGlobals mg) (hfa : mg "law" = some (.ref fa))
    {f0 f1 f2 f3 f4 f5 f6 f7 f8 f9 f10 f11 f12 f13 f14 f15 f16 f17 f18 f19 f20 f21 f22 f23 f24 f25 CG CN CL CM CR fI cda cc NN : Addr}
    {od0 an0 od1 an1 od2 an2 od3 an3 od4 an4 od5 an5 od6 an6 od7 an7 od8 an8 od9 an9 od10 an10 od11 an11 od12 an12 od13 an13 od14 an14 od15 an15 od16 an16 od17 an17 od18 an18 od19 an19 od20 an20 od21 an21 od22 an22 od23 an23 od24 an24 od25 an25 odI anI ccd cod1 dd : Option Addr}
    {sl0 sl1 sl2 sl3 sl4 sl5 sl6 sl7 sl8 sl9 sl10 sl11 sl12 sl13 sl14 sl15 sl16 sl17 sl18 sl19 sl20 sl21 sl22 sl23 sl24 sl25 slI ccs cos1 : Array (Option Value)}
    {oc0 kV0 dc0 pm0 cd0 ct0 oc1 kV1 dc1 pm1 cd1 ct1 oc2 kV2 dc2 pm2 cd2 ct2 oc3 kV3 dc3 pm3 cd3 ct3 oc4 kV4 dc4 pm4 cd4 ct4 oc5 kV5 dc5 pm5 cd5 ct5 oc6 kV6 dc6 pm6 cd6 ct6 oc7 kV7 dc7 pm7 cd7 ct7 oc8 kV8 dc8 pm8 cd8 ct8 oc9 kV9 dc9 pm9 cd9 ct9 oc10 kV10 dc10 pm10 cd10 ct10 oc11 kV11 dc11 pm11 cd11 ct11 oc12 kV12 dc12 pm12 cd12 ct12 oc13 kV13 dc13 pm13 cd13 ct13 oc14 kV14 dc14 pm14 cd14 ct14 oc15 kV15 dc15 pm15 cd15 ct15 oc16 kV16 dc16 pm16 cd16 ct16 oc17 kV17 dc17 pm17 cd17 ct17 oc18 kV18 dc18 pm18 cd18 ct18 oc19 kV19 dc19 pm19 cd19 ct19 oc20 kV20 dc20 pm20 cd20 ct20 oc21 kV21 dc21 pm21 cd21 ct21 oc22 kV22 dc22 pm22 cd22 ct22 oc23 kV23 dc23 pm23 cd23 ct23 oc24 kV24 dc24 pm24 cd24 ct24 oc25 kV25 dc25 pm25 cd25 ct25 ocI kVI dcI pmI ctI ccl col1 : Value}
    {tM tf : Tok} {nm q file : Str} {bs : List Value} {sn : List Str} {sub : List Value} {ab : Bool} {col : Option Bool} {m0 m1 m2 m3 m5 : Option Value} {vs : Array Value}
    (a0 : PySem.W.nsIn K mainGlobals "is_index" = some (some (.ref f0)))
    (l0 : K.lookup f0 = some ⟨oc0, od0, .func (PySem.W.fnOf "is_index" "is_index" (defArgs s_is_index) (defBody s_is_index) (defScope s_is_index) .none kV0 dc0 pm0 an0 cd0 ct0), sl0⟩)
    (c0 : PySem.W.codeIn K cd0 "is_index" = true)
    (k0 : PySem.W.keepIn K (.ref f0) = true)
    (a1 : PySem.W.nsIn K mainGlobals "check_goal" = some (some (.ref f1)))
    (l1 : K.lookup f1 = some ⟨oc1, od1, .func (PySem.W.fnOf "check_goal" "check_goal" (defArgs s_check_goal) (defBody s_check_goal) (defScope s_check_goal) .none kV1 dc1 pm1 an1 cd1 ct1), sl1⟩)
    (c1 : PySem.W.codeIn K cd1 "check_goal" = true)
    (k1 : PySem.W.keepIn K (.ref f1) = true)
    (a2 : PySem.W.nsIn K mainGlobals "homeless" = some (some (.ref f2)))
    (l2 : K.lookup f2 = some ⟨oc2, od2, .func (PySem.W.fnOf "homeless" "homeless" (defArgs s_homeless) (defBody s_homeless) (defScope s_homeless) .none kV2 dc2 pm2 an2 cd2 ct2), sl2⟩)
    (c2 : PySem.W.codeIn K cd2 "homeless" = true)
    (k2 : PySem.W.keepIn K (.ref f2) = true)
    (a3 : PySem.W.nsIn K mainGlobals "safe_log" = some (some (.ref f3)))
    (l3 : K.lookup f3 = some ⟨oc3, od3, .func (PySem.W.fnOf "safe_log" "safe_log" (defArgs s_safe_log) (defBody s_safe_log) (defScope s_safe_log) .none kV3 dc3 pm3 an3 cd3 ct3), sl3⟩)
    (c3 : PySem.W.codeIn K cd3 "safe_log" = true)
    (k3 : PySem.W.keepIn K (.ref f3) = true)
    (a4 : PySem.W.nsIn K mainGlobals "count_least_logs" = some (some (.ref f4)))
    (l4 : K.lookup f4 = some ⟨oc4, od4, .func (PySem.W.fnOf "count_least_logs" "count_least_logs" (defArgs s_count_least_logs) (defBody s_count_least_logs) (defScope s_count_least_logs) .none kV4 dc4 pm4 an4 cd4 ct4), sl4⟩)
    (c4 : PySem.W.codeIn K cd4 "count_least_logs" = true)
    (k4 : PySem.W.keepIn K (.ref f4) = true)
    (a5 : PySem.W.nsIn K mainGlobals "closed_rings" = some (some (.ref f5)))
    (l5 : K.lookup f5 = some ⟨oc5, od5, .func (PySem.W.fnOf "closed_rings" "closed_rings" (defArgs s_closed_rings) (defBody s_closed_rings) (defScope s_closed_rings) .none kV5 dc5 pm5 an5 cd5 ct5), sl5⟩)
    (c5 : PySem.W.codeIn K cd5 "closed_rings" = true)
    (k5 : PySem.W.keepIn K (.ref f5) = true)
    (a6 : PySem.W.nsIn K mainGlobals "check_possible" = some (some (.ref f6)))
    (l6 : K.lookup f6 = some ⟨oc6, od6, .func (PySem.W.fnOf "check_possible" "check_possible" (defArgs s_check_possible) (defBody s_check_possible) (defScope s_check_possible) .none kV6 dc6 pm6 an6 cd6 ct6), sl6⟩)
    (c6 : PySem.W.codeIn K cd6 "check_possible" = true)
    (k6 : PySem.W.keepIn K (.ref f6) = true)
    (a7 : PySem.W.nsIn K mainGlobals "fewest_copies" = some (some (.ref f7)))
    (l7 : K.lookup f7 = some ⟨oc7, od7, .func (PySem.W.fnOf "fewest_copies" "fewest_copies" (defArgs s_fewest_copies) (defBody s_fewest_copies) (defScope s_fewest_copies) .none kV7 dc7 pm7 an7 cd7 ct7), sl7⟩)
    (c7 : PySem.W.codeIn K cd7 "fewest_copies" = true)
    (k7 : PySem.W.keepIn K (.ref f7) = true)
    (a8 : PySem.W.nsIn K mainGlobals "least_log" = some (some (.ref f8)))
    (l8 : K.lookup f8 = some ⟨oc8, od8, .func (PySem.W.fnOf "least_log" "least_log" (defArgs s_least_log) (defBody s_least_log) (defScope s_least_log) .none kV8 dc8 pm8 an8 cd8 ct8), sl8⟩)
    (c8 : PySem.W.codeIn K cd8 "least_log" = true)
    (k8 : PySem.W.keepIn K (.ref f8) = true)
    (a9 : PySem.W.nsIn K mainGlobals "fewest_stages" = some (some (.ref f9)))
    (l9 : K.lookup f9 = some ⟨oc9, od9, .func (PySem.W.fnOf "fewest_stages" "fewest_stages" (defArgs s_fewest_stages) (defBody s_fewest_stages) (defScope s_fewest_stages) .none kV9 dc9 pm9 an9 cd9 ct9), sl9⟩)
    (c9 : PySem.W.codeIn K cd9 "fewest_stages" = true)
    (k9 : PySem.W.keepIn K (.ref f9) = true)
    (a10 : PySem.W.nsIn K mainGlobals "least_logs" = some (some (.ref f10)))
    (l10 : K.lookup f10 = some ⟨oc10, od10, .func (PySem.W.fnOf "least_logs" "least_logs" (defArgs s_least_logs) (defBody s_least_logs) (defScope s_least_logs) .none kV10 dc10 pm10 an10 cd10 ct10), sl10⟩)
    (c10 : PySem.W.codeIn K cd10 "least_logs" = true)
    (k10 : PySem.W.keepIn K (.ref f10) = true)
    (a11 : PySem.W.nsIn K mainGlobals "count_safe_goals" = some (some (.ref f11)))
    (l11 : K.lookup f11 = some ⟨oc11, od11, .func (PySem.W.fnOf "count_safe_goals" "count_safe_goals" (defArgs s_count_safe_goals) (defBody s_count_safe_goals) (defScope s_count_safe_goals) .none kV11 dc11 pm11 an11 cd11 ct11), sl11⟩)
    (c11 : PySem.W.codeIn K cd11 "count_safe_goals" = true)
    (k11 : PySem.W.keepIn K (.ref f11) = true)
    (a12 : PySem.W.nsIn K mainGlobals "_law_bag" = some (some (.ref f12)))
    (l12 : K.lookup f12 = some ⟨oc12, od12, .func (PySem.W.fnOf "_law_bag" "_law_bag" (defArgs s__law_bag) (defBody s__law_bag) (defScope s__law_bag) .none kV12 dc12 pm12 an12 cd12 ct12), sl12⟩)
    (c12 : PySem.W.codeIn K cd12 "_law_bag" = true)
    (k12 : PySem.W.keepIn K (.ref f12) = true)
    (a13 : PySem.W.nsIn K mainGlobals "_law_take" = some (some (.ref f13)))
    (l13 : K.lookup f13 = some ⟨oc13, od13, .func (PySem.W.fnOf "_law_take" "_law_take" (defArgs s__law_take) (defBody s__law_take) (defScope s__law_take) .none kV13 dc13 pm13 an13 cd13 ct13), sl13⟩)
    (c13 : PySem.W.codeIn K cd13 "_law_take" = true)
    (k13 : PySem.W.keepIn K (.ref f13) = true)
    (a14 : PySem.W.nsIn K mainGlobals "_law_is_number" = some (some (.ref f14)))
    (l14 : K.lookup f14 = some ⟨oc14, od14, .func (PySem.W.fnOf "_law_is_number" "_law_is_number" (defArgs s__law_is_number) (defBody s__law_is_number) (defScope s__law_is_number) .none kV14 dc14 pm14 an14 cd14 ct14), sl14⟩)
    (c14 : PySem.W.codeIn K cd14 "_law_is_number" = true)
    (k14 : PySem.W.keepIn K (.ref f14) = true)
    (a15 : PySem.W.nsIn K mainGlobals "_law_is_numbers" = some (some (.ref f15)))
    (l15 : K.lookup f15 = some ⟨oc15, od15, .func (PySem.W.fnOf "_law_is_numbers" "_law_is_numbers" (defArgs s__law_is_numbers) (defBody s__law_is_numbers) (defScope s__law_is_numbers) .none kV15 dc15 pm15 an15 cd15 ct15), sl15⟩)
    (c15 : PySem.W.codeIn K cd15 "_law_is_numbers" = true)
    (k15 : PySem.W.keepIn K (.ref f15) = true)
    (a16 : PySem.W.nsIn K mainGlobals "_law_goal" = some (some (.ref f16)))
    (l16 : K.lookup f16 = some ⟨oc16, od16, .func (PySem.W.fnOf "_law_goal" "_law_goal" (defArgs s__law_goal) (defBody s__law_goal) (defScope s__law_goal) .none kV16 dc16 pm16 an16 cd16 ct16), sl16⟩)
    (c16 : PySem.W.codeIn K cd16 "_law_goal" = true)
    (k16 : PySem.W.keepIn K (.ref f16) = true)
    (a17 : PySem.W.nsIn K mainGlobals "_law_odd_entry" = some (some (.ref f17)))
    (l17 : K.lookup f17 = some ⟨oc17, od17, .func (PySem.W.fnOf "_law_odd_entry" "_law_odd_entry" (defArgs s__law_odd_entry) (defBody s__law_odd_entry) (defScope s__law_odd_entry) .none kV17 dc17 pm17 an17 cd17 ct17), sl17⟩)
    (c17 : PySem.W.codeIn K cd17 "_law_odd_entry" = true)
    (k17 : PySem.W.keepIn K (.ref f17) = true)
    (a18 : PySem.W.nsIn K mainGlobals "_law_spoilt" = some (some (.ref f18)))
    (l18 : K.lookup f18 = some ⟨oc18, od18, .func (PySem.W.fnOf "_law_spoilt" "_law_spoilt" (defArgs s__law_spoilt) (defBody s__law_spoilt) (defScope s__law_spoilt) .none kV18 dc18 pm18 an18 cd18 ct18), sl18⟩)
    (c18 : PySem.W.codeIn K cd18 "_law_spoilt" = true)
    (k18 : PySem.W.keepIn K (.ref f18) = true)
    (a19 : PySem.W.nsIn K mainGlobals "_law_call" = some (some (.ref f19)))
    (l19 : K.lookup f19 = some ⟨oc19, od19, .func (PySem.W.fnOf "_law_call" "_law_call" (defArgs s__law_call) (defBody s__law_call) (defScope s__law_call) .none kV19 dc19 pm19 an19 cd19 ct19), sl19⟩)
    (c19 : PySem.W.codeIn K cd19 "_law_call" = true)
    (k19 : PySem.W.keepIn K (.ref f19) = true)
    (a20 : PySem.W.nsIn K mainGlobals "_law_refused" = some (some (.ref f20)))
    (l20 : K.lookup f20 = some ⟨oc20, od20, .func (PySem.W.fnOf "_law_refused" "_law_refused" (defArgs s__law_refused) (defBody s__law_refused) (defScope s__law_refused) .none kV20 dc20 pm20 an20 cd20 ct20), sl20⟩)
    (c20 : PySem.W.codeIn K cd20 "_law_refused" = true)
    (k20 : PySem.W.keepIn K (.ref f20) = true)
    (a21 : PySem.W.nsIn K mainGlobals "_law_homeless" = some (some (.ref f21)))
    (l21 : K.lookup f21 = some ⟨oc21, od21, .func (PySem.W.fnOf "_law_homeless" "_law_homeless" (defArgs s__law_homeless) (defBody s__law_homeless) (defScope s__law_homeless) .none kV21 dc21 pm21 an21 cd21 ct21), sl21⟩)
    (c21 : PySem.W.codeIn K cd21 "_law_homeless" = true)
    (k21 : PySem.W.keepIn K (.ref f21) = true)
    (a22 : PySem.W.nsIn K mainGlobals "_law_every" = some (some (.ref f22)))
    (l22 : K.lookup f22 = some ⟨oc22, od22, .func (PySem.W.fnOf "_law_every" "_law_every" (defArgs s__law_every) (defBody s__law_every) (defScope s__law_every) .none kV22 dc22 pm22 an22 cd22 ct22), sl22⟩)
    (c22 : PySem.W.codeIn K cd22 "_law_every" = true)
    (k22 : PySem.W.keepIn K (.ref f22) = true)
    (a23 : PySem.W.nsIn K mainGlobals "_law_small_right" = some (some (.ref f23)))
    (l23 : K.lookup f23 = some ⟨oc23, od23, .func (PySem.W.fnOf "_law_small_right" "_law_small_right" (defArgs s__law_small_right) (defBody s__law_small_right) (defScope s__law_small_right) .none kV23 dc23 pm23 an23 cd23 ct23), sl23⟩)
    (c23 : PySem.W.codeIn K cd23 "_law_small_right" = true)
    (k23 : PySem.W.keepIn K (.ref f23) = true)
    (a24 : PySem.W.nsIn K mainGlobals "_law_count" = some (some (.ref f24)))
    (l24 : K.lookup f24 = some ⟨oc24, od24, .func (PySem.W.fnOf "_law_count" "_law_count" (defArgs s__law_count) (defBody s__law_count) (defScope s__law_count) .none kV24 dc24 pm24 an24 cd24 ct24), sl24⟩)
    (c24 : PySem.W.codeIn K cd24 "_law_count" = true)
    (k24 : PySem.W.keepIn K (.ref f24) = true)
    (a25 : PySem.W.nsIn K mainGlobals "law" = some (some (.ref f25)))
    (l25 : K.lookup f25 = some ⟨oc25, od25, .func (PySem.W.fnOf "law" "law" (defArgs s_law) (defBody s_law) (defScope s_law) .none kV25 dc25 pm25 an25 cd25 ct25), sl25⟩)
    (c25 : PySem.W.codeIn K cd25 "law" = true)
    (k25 : PySem.W.keepIn K (.ref f25) = true)
    (z_ValueError : PySem.W.nsIn K mainGlobals "ValueError" = some none)
    (z_bool : PySem.W.nsIn K mainGlobals "bool" = some none)
    (z_enumerate : PySem.W.nsIn K mainGlobals "enumerate" = some none)
    (z_int : PySem.W.nsIn K mainGlobals "int" = some none)
    (z_isinstance : PySem.W.nsIn K mainGlobals "isinstance" = some none)
    (z_len : PySem.W.nsIn K mainGlobals "len" = some none)
    (z_list : PySem.W.nsIn K mainGlobals "list" = some none)
    (z_range : PySem.W.nsIn K mainGlobals "range" = some none)
    (z_sorted : PySem.W.nsIn K mainGlobals "sorted" = some none)
    (z_str : PySem.W.nsIn K mainGlobals "str" = some none)
    (z_tuple : PySem.W.nsIn K mainGlobals "tuple" = some none)
    (z_super : PySem.W.nsIn K mainGlobals "super" = some none)
    (z_M : PySem.W.nsIn K mainGlobals "MOST_BLOCKS" = some (some (Value.int 12 tM)))
    (z_comb : PySem.W.nsIn K mainGlobals "comb" = some (some (.builtin "math.comb")))
    (g_InvalidGoal : PySem.W.nsIn K mainGlobals "InvalidGoal" = some (some (.ref CG)))
    (g_NoSafeLog : PySem.W.nsIn K mainGlobals "NoSafeLog" = some (some (.ref CN)))
    (g_NoLog : PySem.W.nsIn K mainGlobals "NoLog" = some (some (.ref CL)))
    (g_TooMany : PySem.W.nsIn K mainGlobals "TooMany" = some (some (.ref CM)))
    (g_RedoError : PySem.W.nsIn K mainGlobals "RedoError" = some (some (.ref CR)))
    (xL : K.lookup CG = some (excClassObj nm q CG NN bs [.ref CR, .type "ValueError", .type "Exception", .type "BaseException", .type "object"] true sn sub ab col dd m0 m1 m2 m3 m5 "ValueError.__new__"))
    (x_sa : PySem.W.findIn K (.ref CG) "__setattr__" = some (some (.builtin "object.__setattr__")))
    (x_ga : PySem.W.findIn K (.ref CG) "__getattribute__" = some (some (.builtin "BaseException.__getattribute__")))
    (x_gg : PySem.W.findIn K (.ref CG) "__getattr__" = some none)
    (x_cl : PySem.W.findIn K (.ref CG) "__class__" = some (some (.builtin "object.__class__")))
    (x_at : PySem.W.findIn K (.ref CG) "at" = some none)
    (x_in : PySem.W.findIn K (.ref CG) "__init__" = some (some (.ref fI)))
    (x_ti : PySem.W.typeIn K (.ref fI) = some (.type "function"))
    (x_li : K.lookup fI = some ⟨ocI, odI, .func (PySem.W.ksFn "__init__" "InvalidGoal.__init__" (defArgs s_init) (defBody s_init) (defScope s_init) .none kVI dcI pmI anI (.ref cda) ctI cc), slI⟩)
    (x_ci : PySem.W.codeIn K (.ref cda) "InvalidGoal.__init__" = true)
    (x_cc : K.lookup cc = some ⟨ccl, ccd, .cell (some (.ref CG)), ccs⟩)
    (x_co : K.lookup cda = some ⟨col1, cod1, .fields vs, cos1⟩)
    (x_fi : vs[2]? = some (.str file tf))
    (x_fe : ((l.prog.main.file : Str) == file) = true)
    (x_su : PySem.W.ks_superIn K CG CG "__init__" = some (some (.builtin "ValueError.__init__")))
    (x_ve : PySem.W.subIn K (.ref CG) (.type "ValueError") = some true)
    (x_se : PySem.W.mroIn K CG (.ref CG) = some true)
    (x_a3 : PySem.W.nsIn K cStatics "thirdparty.any" = some none)
    (x_tp : (l.prog.main.scope.names.lookup ("super" : Str)).isSome = false)
    (x_kc : PySem.W.keepIn K (.ref CG) = true)
    (x_be : PySem.W.subIn K (.ref CG) (.type "BaseException") = some true)
    (x_tc : PySem.W.typeIn K (.ref CG) = some (.type "type"))
    (x_hd : PySem.W.hasDictIn K CG = true)
    (x_sp : PySem.W.specialIn K (.builtin "object.__class__") "__get__" = some (some (.builtin "getset_descriptor.__get__")))
    (x_tk : PySem.W.takesIn K (.builtin "object.__class__") = some true)
    (x_ob : PySem.W.mroIn K CG (.type "object") = some true)
    (x_ss : PySem.W.subIn K (.ref CG) (.ref CG) = some true)
    (x_st : PySem.W.subIn K (.ref CG) (.type "StopIteration") = some false)
    (x_kN : PySem.W.kitOne K (.ref CG) (.ref CN) = some false)
    (x_kL : PySem.W.kitOne K (.ref CG) (.ref CL) = some false)
    (x_kM : PySem.W.kitOne K (.ref CG) (.ref CM) = some false)
    (x_kR : PySem.W.kitOne K (.ref CG) (.ref CR) = some true)
    (x_kV : PySem.W.kitOne K (.ref CG) (.type "ValueError") = some true) :
    ∃ fd : FuncData, (∀ (s : Shared) (v : Value), BindsTo s fd ⟨[v], []⟩ [("_law_script", v)]) ∧ ∀ base : Heap, K.In base → base.Ns mainGlobals mg → FnOk l.prog w K mg base CX0 16 fa fd ["_law_script"] (spLaw K) := by
  have e := hfa.symm.trans (PySem.W.mg_of X G a25)
  cases e
  have ex : OexC K CG := ⟨⟨_, _, _, _, _, _, _, _, _, _, _, _, _, _, _, xL, by rfl⟩, x_sa, x_be, x_tc, x_kc⟩
  have U : SupC l.prog K CG cc cda := ⟨ex, ⟨_, _, _, x_cc⟩, ⟨_, _, _, _, _, _, x_co, x_fi, x_fe⟩, x_su, x_ve, x_se, x_a3, x_tp⟩
  have bI : Binds K (PySem.W.ksFn "__init__" "InvalidGoal.__init__" (defArgs s_init) (defBody s_init) (defScope s_init) .none kVI dcI pmI anI (.ref cda) ctI cc) ["self", "at"] [] := Binds.all fun us hl => match us, hl with | [_, _], _ => rfl
  have TT : ∀ base : Heap, K.In base → Txt l.prog w K mg base CG CN CL CM CR := fun base kb => {
    n_ValueError := PySem.W.mg_none_of X G z_ValueError
    n_bool := PySem.W.mg_none_of X G z_bool
    n_enumerate := PySem.W.mg_none_of X G z_enumerate
    n_int := PySem.W.mg_none_of X G z_int
    n_isinstance := PySem.W.mg_none_of X G z_isinstance
    n_len := PySem.W.mg_none_of X G z_len
    n_list := PySem.W.mg_none_of X G z_list
    n_range := PySem.W.mg_none_of X G z_range
    n_sorted := PySem.W.mg_none_of X G z_sorted
    n_str := PySem.W.mg_none_of X G z_str
    n_tuple := PySem.W.mg_none_of X G z_tuple
    c_MOST_BLOCKS := ⟨_, PySem.W.mg_of X G z_M⟩
    i_comb := PySem.W.mg_of X G z_comb
    e_InvalidGoal := ⟨fI, _, ["self", "at"], ex, x_in, x_ti, ok_init1 U x_li x_ci ⟨rfl, rfl, rfl, by decide +kernel, rfl, by decide +kernel, by decide +kernel, by decide +kernel⟩ (PySem.W.mg_none_of X G z_super) rfl rfl rfl rfl rfl rfl x_at (by decide +kernel) (by decide +kernel) (by decide +kernel) rfl, bI, PySem.W.mg_of X G g_InvalidGoal⟩
    g_InvalidGoal := PySem.W.mg_of X G g_InvalidGoal
    g_NoSafeLog := PySem.W.mg_of X G g_NoSafeLog
    g_NoLog := PySem.W.mg_of X G g_NoLog
    g_TooMany := PySem.W.mg_of X G g_TooMany
    g_RedoError := PySem.W.mg_of X G g_RedoError
    x_InvalidGoal := ⟨⟨x_ga, x_gg, x_be, x_hd⟩, x_at⟩
    exc := ⟨x_ga, x_gg, x_be, x_hd, x_cl, x_sp, x_tk, x_ob⟩
    ex1 := PySem.W.exm_ref x_be x_hd x_tc x_ss
    stop := x_st
    kN := x_kN
    kL := x_kL
    kM := x_kM
    kR := x_kR
    kV := x_kV }
  have F0 := fun_mk (st := s_is_index) l0 c0 k0
  have b0 := F0.binds (ps := ["number", "blocks"]) fun _ _ _ _ _ _ us hl => match us, hl with | [_, _], _ => rfl
  have F1 := fun_mk (st := s_check_goal) l1 c1 k1
  have b1 := F1.binds (ps := ["goal"]) fun _ _ _ _ _ _ us hl => match us, hl with | [_], _ => rfl
  have F2 := fun_mk (st := s_homeless) l2 c2 k2
  have b2 := F2.binds (ps := ["goal"]) fun _ _ _ _ _ _ us hl => match us, hl with | [_], _ => rfl
  have F3 := fun_mk (st := s_safe_log) l3 c3 k3
  have b3 := F3.binds (ps := ["goal"]) fun _ _ _ _ _ _ us hl => match us, hl with | [_], _ => rfl
  have F4 := fun_mk (st := s_count_least_logs) l4 c4 k4
  have b4 := F4.binds (ps := ["goal"]) fun _ _ _ _ _ _ us hl => match us, hl with | [_], _ => rfl
  have F5 := fun_mk (st := s_closed_rings) l5 c5 k5
  have b5 := F5.binds (ps := ["goal"]) fun _ _ _ _ _ _ us hl => match us, hl with | [_], _ => rfl
  have F6 := fun_mk (st := s_check_possible) l6 c6 k6
  have b6 := F6.binds (ps := ["goal"]) fun _ _ _ _ _ _ us hl => match us, hl with | [_], _ => rfl
  have F7 := fun_mk (st := s_fewest_copies) l7 c7 k7
  have b7 := F7.binds (ps := ["goal"]) fun _ _ _ _ _ _ us hl => match us, hl with | [_], _ => rfl
  have F8 := fun_mk (st := s_least_log) l8 c8 k8
  have b8 := F8.binds (ps := ["goal"]) fun _ _ _ _ _ _ us hl => match us, hl with | [_], _ => rfl
  have F9 := fun_mk (st := s_fewest_stages) l9 c9 k9
  have b9 := F9.binds (ps := ["goal"]) fun _ _ _ _ _ _ us hl => match us, hl with | [_], _ => rfl
  have F10 := fun_mk (st := s_least_logs) l10 c10 k10
  have b10 := F10.binds (ps := ["goal"]) fun _ _ _ _ _ _ us hl => match us, hl with | [_], _ => rfl
  have F11 := fun_mk (st := s_count_safe_goals) l11 c11 k11
  have b11 := F11.binds (ps := ["blocks"]) fun _ _ _ _ _ _ us hl => match us, hl with | [_], _ => rfl
  have F12 := fun_mk (st := s__law_bag) l12 c12 k12
  have b12 := F12.binds (ps := ["_law_script"]) fun _ _ _ _ _ _ us hl => match us, hl with | [_], _ => rfl
  have F13 := fun_mk (st := s__law_take) l13 c13 k13
  have b13 := F13.binds (ps := ["_law_bag_here", "_law_many"]) fun _ _ _ _ _ _ us hl => match us, hl with | [_, _], _ => rfl
  have F14 := fun_mk (st := s__law_is_number) l14 c14 k14
  have b14 := F14.binds (ps := ["_law_told"]) fun _ _ _ _ _ _ us hl => match us, hl with | [_], _ => rfl
  have F15 := fun_mk (st := s__law_is_numbers) l15 c15 k15
  have b15 := F15.binds (ps := ["_law_told", "_law_due"]) fun _ _ _ _ _ _ us hl => match us, hl with | [_, _], _ => rfl
  have F16 := fun_mk (st := s__law_goal) l16 c16 k16
  have b16 := F16.binds (ps := ["_law_bag_here"]) fun _ _ _ _ _ _ us hl => match us, hl with | [_], _ => rfl
  have F17 := fun_mk (st := s__law_odd_entry) l17 c17 k17
  have b17 := F17.binds (ps := ["_law_bag_here", "_law_blocks"]) fun _ _ _ _ _ _ us hl => match us, hl with | [_, _], _ => rfl
  have F18 := fun_mk (st := s__law_spoilt) l18 c18 k18
  have b18 := F18.binds (ps := ["_law_bag_here", "_law_goal_here"]) fun _ _ _ _ _ _ us hl => match us, hl with | [_, _], _ => rfl
  have F19 := fun_mk (st := s__law_call) l19 c19 k19
  have b19 := F19.binds (ps := ["_law_door", "_law_goal_here"]) fun _ _ _ _ _ _ us hl => match us, hl with | [_, _], _ => rfl
  have F20 := fun_mk (st := s__law_refused) l20 c20 k20
  have b20 := F20.binds (ps := ["_law_door", "_law_goal_here", "_law_due"]) fun _ _ _ _ _ _ us hl => match us, hl with | [_, _, _], _ => rfl
  have F21 := fun_mk (st := s__law_homeless) l21 c21 k21
  have b21 := F21.binds (ps := ["_law_goal_here"]) fun _ _ _ _ _ _ us hl => match us, hl with | [_], _ => rfl
  have F22 := fun_mk (st := s__law_every) l22 c22 k22
  have b22 := F22.binds (ps := ["_law_blocks"]) fun _ _ _ _ _ _ us hl => match us, hl with | [_], _ => rfl
  have F23 := fun_mk (st := s__law_small_right) l23 c23 k23
  have b23 := F23.binds (ps := ["_law_blocks"]) fun _ _ _ _ _ _ us hl => match us, hl with | [_], _ => rfl
  have F24 := fun_mk (st := s__law_count) l24 c24 k24
  have b24 := F24.binds (ps := ["_law_blocks"]) fun _ _ _ _ _ _ us hl => match us, hl with | [_], _ => rfl
  have F25 := fun_mk (st := s_law) l25 c25 k25
  refine ⟨PySem.W.fnOf "law" "law" (defArgs s_law) (defBody s_law) (defScope s_law) .none kV25 dc25 pm25 an25 cd25 ct25, fun s v => .of_eq rfl, fun base kb _ => ?_⟩
  have T := TT base kb
  have q0 := ok_is_index (P := l.prog) (w := w) F0 (PySem.W.mg_of X G a0) b0 T 
  have q1 := ok_check_goal (P := l.prog) (w := w) F1 (PySem.W.mg_of X G a1) b1 T q0
  have q2 := ok_homeless (P := l.prog) (w := w) F2 (PySem.W.mg_of X G a2) b2 T q1
  have q3 := ok_safe_log (P := l.prog) (w := w) F3 (PySem.W.mg_of X G a3) b3 T q2
  have q4 := ok_count_least_logs (P := l.prog) (w := w) F4 (PySem.W.mg_of X G a4) b4 T q2
  have q5 := ok_closed_rings (P := l.prog) (w := w) F5 (PySem.W.mg_of X G a5) b5 T q1
  have q6 := ok_check_possible (P := l.prog) (w := w) F6 (PySem.W.mg_of X G a6) b6 T q1
  have q7 := ok_fewest_copies (P := l.prog) (w := w) F7 (PySem.W.mg_of X G a7) b7 T q6
  have q8 := ok_least_log (P := l.prog) (w := w) F8 (PySem.W.mg_of X G a8) b8 T q6
  have q9 := ok_fewest_stages (P := l.prog) (w := w) F9 (PySem.W.mg_of X G a9) b9 T q1
  have q10 := ok_least_logs (P := l.prog) (w := w) F10 (PySem.W.mg_of X G a10) b10 T q2
  have q11 := ok_count_safe_goals (P := l.prog) (w := w) F11 (PySem.W.mg_of X G a11) b11 T 
  have q12 := ok_law_bag (P := l.prog) (w := w) F12 (PySem.W.mg_of X G a12) b12 T 
  have q13 := ok_law_take (P := l.prog) (w := w) F13 (PySem.W.mg_of X G a13) b13 T 
  have q14 := ok_law_is_number (P := l.prog) (w := w) F14 (PySem.W.mg_of X G a14) b14 T 
  have hnum := okh_law_is_number (P := l.prog) (w := w) F14 (PySem.W.mg_of X G a14) b14 T
  have q15 := ok_law_is_numbers (P := l.prog) (w := w) F15 (PySem.W.mg_of X G a15) b15 T q14
  have q16 := ok_law_goal (P := l.prog) (w := w) F16 (PySem.W.mg_of X G a16) b16 T q13
  have q17 := ok_law_odd_entry (P := l.prog) (w := w) F17 (PySem.W.mg_of X G a17) b17 T q13
  have q18 := ok_law_spoilt (P := l.prog) (w := w) F18 (PySem.W.mg_of X G a18) b18 T q13 q17
  have q19 := ok_law_call (P := l.prog) (w := w) F19 (PySem.W.mg_of X G a19) b19 T q1 q2 q3 q4 q5 q7 q8 q9 q10
  have q20 := ok_law_refused (P := l.prog) (w := w) F20 (PySem.W.mg_of X G a20) b20 T q19 hnum
  have q21 := ok_law_homeless (P := l.prog) (w := w) F21 (PySem.W.mg_of X G a21) b21 T 
  have q22 := ok_law_every (P := l.prog) (w := w) F22 (PySem.W.mg_of X G a22) b22 T 
  have q23 := ok_law_small_right (P := l.prog) (w := w) F23 (PySem.W.mg_of X G a23) b23 T q22 q15 q2 q21 q11 q14
  have q24 := ok_law_count (P := l.prog) (w := w) F24 (PySem.W.mg_of X G a24) b24 T 
  exact ok_law F25 T q12 q13 q16 q18 q1 q15 q2 q21 q20 q11 q14 q24 q23
theorem walk {l : PySem.W.OpenLaw} {q : Program} {loose : List Str} {XP : (Str → Option Value) → Heap → Prop} {YP : World → Heap → Prop} {d : DefRec} {K : Params → PySem.W.Frag} (hn : l.most = some 63) (hdf : d.params.defaults = [])
    (hY : ∀ (w : World) (h : Heap), YP w h → (K w.params).In h)
    (F : ∀ (w : World) (mg : Str → Option Value) (fa : Addr) (h : Heap), (K w.params).In h → h.Ns mainGlobals mg → mg d.name = some (.ref fa) →
      ∃ fd : FuncData, (∀ (s : Shared) (u : Value), BindsTo s fd ⟨[u], []⟩ [("_law_script", u)]) ∧ ∀ base : Heap, (K w.params).In base → base.Ns mainGlobals mg → FnOk l.prog w (K w.params) mg base CX0 16 fa fd ["_law_script"] (spLaw (K w.params))) :
    PySem.W.WalkO q loose XP YP l.row.toRowW d [] (fun f vs => PySem.call f vs) :=
  L2.walk_of (n := 63) (k := 16) (x := "_law_script") (CX := fun _ => CX0) (sp := fun w => spLaw (K w.params)) hn (by decide) hdf ⟨rfl, by decide, by decide⟩ hY F (fun _ _ a ns hl _ hS => ⟨a, ns, rfl, hS, hl, fun _ => rfl⟩) fun _ _ _ _ _ z => z
end K31

open PySem PySem.W PyProof.Rows in
set_option maxRecDepth 100000 in
set_option maxHeartbeats 0 in
theorem PySem.Challenge.cw_redolots_k31_safe_goals_holds : PySem.Challenge.rw_redolots_k31_safe_goals.Holds := by
  w_on; o_law; k_head; (case hw => w_witness2)
  k_fill
  refine K31.walk (l := PySem.Challenge.rw_redolots_k31_safe_goals) rfl rfl (fun w h Y => PySem.W.kIn_of Y) ?F
  case F =>
    intro w mg fa h KX G hmg
    refine' K31.all_mk KX G hmg ?a0 ?l0 ?c0 ?k0 ?a1 ?l1 ?c1 ?k1 ?a2 ?l2 ?c2 ?k2 ?a3 ?l3 ?c3 ?k3 ?a4 ?l4 ?c4 ?k4 ?a5 ?l5 ?c5 ?k5 ?a6 ?l6 ?c6 ?k6 ?a7 ?l7 ?c7 ?k7 ?a8 ?l8 ?c8 ?k8 ?a9 ?l9 ?c9 ?k9 ?a10 ?l10 ?c10 ?k10 ?a11 ?l11 ?c11 ?k11 ?a12 ?l12 ?c12 ?k12 ?a13 ?l13 ?c13 ?k13 ?a14 ?l14 ?c14 ?k14 ?a15 ?l15 ?c15 ?k15 ?a16 ?l16 ?c16 ?k16 ?a17 ?l17 ?c17 ?k17 ?a18 ?l18 ?c18 ?k18 ?a19 ?l19 ?c19 ?k19 ?a20 ?l20 ?c20 ?k20 ?a21 ?l21 ?c21 ?k21 ?a22 ?l22 ?c22 ?k22 ?a23 ?l23 ?c23 ?k23 ?a24 ?l24 ?c24 ?k24 ?a25 ?l25 ?c25 ?k25 ?z_ValueError ?z_bool ?z_enumerate ?z_int ?z_isinstance ?z_len ?z_list ?z_range ?z_sorted ?z_str ?z_tuple ?z_super ?z_M ?z_comb ?g_InvalidGoal ?g_NoSafeLog ?g_NoLog ?g_TooMany ?g_RedoError ?xL ?x_sa ?x_ga ?x_gg ?x_cl ?x_at ?x_in ?x_ti ?x_li ?x_ci ?x_cc ?x_co ?x_fi ?x_fe ?x_su ?x_ve ?x_se ?x_a3 ?x_tp ?x_kc ?x_be ?x_tc ?x_hd ?x_sp ?x_tk ?x_ob ?x_ss ?x_st ?x_kN ?x_kL ?x_kM ?x_kR ?x_kV
    (case a0 => k_is)
    (case l0 => k_is)
    (case c0 => k_is)
    (case k0 => k_is)
    (case a1 => k_is)
    (case l1 => k_is)
    (case c1 => k_is)
    (case k1 => k_is)
    (case a2 => k_is)
    (case l2 => k_is)
    (case c2 => k_is)
    (case k2 => k_is)
    (case a3 => k_is)
    (case l3 => k_is)
    (case c3 => k_is)
    (case k3 => k_is)
    (case a4 => k_is)
    (case l4 => k_is)
    (case c4 => k_is)
    (case k4 => k_is)
    (case a5 => k_is)
    (case l5 => k_is)
    (case c5 => k_is)
    (case k5 => k_is)
    (case a6 => k_is)
    (case l6 => k_is)
    (case c6 => k_is)
    (case k6 => k_is)
    (case a7 => k_is)
    (case l7 => k_is)
    (case c7 => k_is)
    (case k7 => k_is)
    (case a8 => k_is)
    (case l8 => k_is)
    (case c8 => k_is)
    (case k8 => k_is)
    (case a9 => k_is)
    (case l9 => k_is)
    (case c9 => k_is)
    (case k9 => k_is)
    (case a10 => k_is)
    (case l10 => k_is)
    (case c10 => k_is)
    (case k10 => k_is)
    (case a11 => k_is)
    (case l11 => k_is)
    (case c11 => k_is)
    (case k11 => k_is)
    (case a12 => k_is)
    (case l12 => k_is)
    (case c12 => k_is)
    (case k12 => k_is)
    (case a13 => k_is)
    (case l13 => k_is)
    (case c13 => k_is)
    (case k13 => k_is)
    (case a14 => k_is)
    (case l14 => k_is)
    (case c14 => k_is)
    (case k14 => k_is)
    (case a15 => k_is)
    (case l15 => k_is)
    (case c15 => k_is)
    (case k15 => k_is)
    (case a16 => k_is)
    (case l16 => k_is)
    (case c16 => k_is)
    (case k16 => k_is)
    (case a17 => k_is)
    (case l17 => k_is)
    (case c17 => k_is)
    (case k17 => k_is)
    (case a18 => k_is)
    (case l18 => k_is)
    (case c18 => k_is)
    (case k18 => k_is)
    (case a19 => k_is)
    (case l19 => k_is)
    (case c19 => k_is)
    (case k19 => k_is)
    (case a20 => k_is)
    (case l20 => k_is)
    (case c20 => k_is)
    (case k20 => k_is)
    (case a21 => k_is)
    (case l21 => k_is)
    (case c21 => k_is)
    (case k21 => k_is)
    (case a22 => k_is)
    (case l22 => k_is)
    (case c22 => k_is)
    (case k22 => k_is)
    (case a23 => k_is)
    (case l23 => k_is)
    (case c23 => k_is)
    (case k23 => k_is)
    (case a24 => k_is)
    (case l24 => k_is)
    (case c24 => k_is)
    (case k24 => k_is)
    (case a25 => k_is)
    (case l25 => k_is)
    (case c25 => k_is)
    (case k25 => k_is)
    (case z_ValueError => k_is)
    (case z_bool => k_is)
    (case z_enumerate => k_is)
    (case z_int => k_is)
    (case z_isinstance => k_is)
    (case z_len => k_is)
    (case z_list => k_is)
    (case z_range => k_is)
    (case z_sorted => k_is)
    (case z_str => k_is)
    (case z_tuple => k_is)
    (case z_super => k_is)
    (case z_M => k_is)
    (case z_comb => k_is)
    (case g_InvalidGoal => k_is)
    (case g_NoSafeLog => k_is)
    (case g_NoLog => k_is)
    (case g_TooMany => k_is)
    (case g_RedoError => k_is)
    (case xL => k_is)
    (case x_sa => k_is)
    (case x_ga => k_is)
    (case x_gg => k_is)
    (case x_cl => k_is)
    (case x_at => k_is)
    (case x_in => k_is)
    (case x_ti => k_is)
    (case x_li => k_is)
    (case x_ci => k_is)
    (case x_cc => k_is)
    (case x_co => k_is)
    (case x_fi => rfl)
    (case x_fe => (first | rfl | decide +kernel))
    (case x_su => ks_is)
    (case x_ve => k_is)
    (case x_se => k_is)
    (case x_a3 => k_is)
    (case x_tp => (first | rfl | decide +kernel))
    (case x_kc => k_is)
    (case x_be => k_is)
    (case x_tc => k_is)
    (case x_hd => k_is)
    (case x_sp => k_is)
    (case x_tk => k_is)
    (case x_ob => k_is)
    (case x_ss => k_is)
    (case x_st => k_is)
    (case x_kN => kit_is)
    (case x_kL => kit_is)
    (case x_kM => kit_is)
    (case x_kR => kit_is)
    (case x_kV => kit_is)
#print axioms PySem.Challenge.cw_redolots_k31_safe_goals_holds
end
