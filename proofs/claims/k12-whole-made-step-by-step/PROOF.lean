import PyProof.Rows.All
import Wide.All
import OpenK.AllK
import Wide.FinOn
import HandS.ForMost
import HandS.Deep
import HandS.DictComp
import HandS.IsInst
import HandS.Flow
import HandS.Codes
import HandS.Walk
import HandS.Wide
import KE.KeyNested
import KE.KDictWalk
import KE.KDictCopyH
import KE.GoesDict
import PySem.Str
import PySem.Challenge.RW_sealedtalk_k12_whole_made_step_by_step
set_option Elab.async false
set_option linter.all false
/-! Terms, what is made of them, their wordings: no program in sight. -/
namespace K12
open PySem

inductive Tm where
  | nm (x : Str)
  | pair (a b : Tm)
  | box (k t : Tm)
  | half (x : Str)
  | shut (x : Str) (t : Tm)
  | mark (x : Str) (t : Tm)
  | mix (t : Tm)
  deriving DecidableEq

namespace Tm
/-- what stands behind the tag -/
def kids : Tm → List Tm
  | nm _ => []
  | pair a b => [a, b]
  | box k t => [k, t]
  | half x => [nm x]
  | shut x t => [nm x, t]
  | mark x t => [nm x, t]
  | mix t => [t]
/-- what it is built of -/
def pieces : Tm → List Tm
  | nm _ => []
  | pair a b => [a, b]
  | box k t => [k, t]
  | half x => [nm x]
  | shut x t => [half x, t]
  | mark x t => [nm x, t]
  | mix t => [t]
def isNm : Tm → Bool
  | nm _ => true
  | _ => false
def depth : Tm → Nat
  | nm _ => 1
  | pair a b => 1 + max a.depth b.depth
  | box k t => 1 + max k.depth t.depth
  | half _ => 2
  | shut _ t => 1 + t.depth
  | mark _ t => 1 + t.depth
  | mix t => 1 + t.depth
/-- places of names -/
def leaves : Tm → Nat
  | nm _ => 1
  | pair a b => a.leaves + b.leaves
  | box k t => k.leaves + t.leaves
  | half _ => 1
  | shut _ t => 1 + t.leaves
  | mark _ t => 1 + t.leaves
  | mix t => t.leaves
/-- places of terms -/
def size : Tm → Nat
  | nm _ => 1
  | pair a b => 1 + a.size + b.size
  | box k t => 1 + k.size + t.size
  | half _ => 2
  | shut _ t => 2 + t.size
  | mark _ t => 2 + t.size
  | mix t => 1 + t.size
def names : Tm → List Str
  | nm x => [x]
  | pair a b => a.names ++ b.names
  | box k t => k.names ++ t.names
  | half x => [x]
  | shut x t => x :: t.names
  | mark x t => x :: t.names
  | mix t => t.names
def parts : Tm → List Tm
  | nm x => [nm x]
  | pair a b => pair a b :: (a.parts ++ b.parts)
  | box k t => box k t :: (k.parts ++ t.parts)
  | half x => [half x, nm x]
  | shut x t => shut x t :: nm x :: t.parts
  | mark x t => mark x t :: nm x :: t.parts
  | mix t => mix t :: t.parts
/-- how deep the building goes down -/
def rank : Tm → Nat
  | nm _ => 1
  | pair a b => 1 + max a.rank b.rank
  | box k t => 1 + max k.rank t.rank
  | half _ => 2
  | shut _ t => 1 + max 2 t.rank
  | mark _ t => 1 + t.rank
  | mix t => 1 + t.rank

theorem depth_pos : ∀ t : Tm, 1 ≤ t.depth := by intro t; cases t <;> simp only [depth] <;> omega
theorem rank_pos : ∀ t : Tm, 1 ≤ t.rank := by intro t; cases t <;> simp only [rank] <;> omega
theorem rank_le : ∀ t : Tm, t.rank ≤ t.depth + 1 := by
  intro t
  induction t with
  | nm x => simp only [rank, depth]; omega
  | pair a b iha ihb => simp only [rank, depth]; omega
  | box a b iha ihb => simp only [rank, depth]; omega
  | half x => simp only [rank, depth]; omega
  | shut x t ih => have := depth_pos t; simp only [rank, depth]; omega
  | mark x t ih => simp only [rank, depth]; omega
  | mix t ih => simp only [rank, depth]; omega
theorem leaves_le : ∀ t : Tm, t.leaves ≤ 2 ^ (t.depth - 1) := by
  intro t
  have two : ∀ {m n k : Nat}, n + m ≤ 2 ^ (k - 1) + 2 ^ (k - 1) → 1 ≤ k → n + m ≤ 2 ^ (1 + k - 1) := by
    intro m n k h hk
    have e : 1 + k - 1 = (k - 1) + 1 := by omega
    rw [e, Nat.pow_succ]; omega
  have mono : ∀ {a b : Nat}, a ≤ b → 2 ^ (a - 1) ≤ 2 ^ (b - 1) := fun h => Nat.pow_le_pow_right (by omega) (by omega)
  induction t with
  | nm x => simp only [leaves, depth]; omega
  | pair a b iha ihb =>
    simp only [leaves, depth]
    have h1 := Nat.le_trans iha (mono (Nat.le_max_left a.depth b.depth))
    have h2 := Nat.le_trans ihb (mono (Nat.le_max_right a.depth b.depth))
    have h3 := depth_pos a
    exact two (by omega) (by omega)
  | box a b iha ihb =>
    simp only [leaves, depth]
    have h1 := Nat.le_trans iha (mono (Nat.le_max_left a.depth b.depth))
    have h2 := Nat.le_trans ihb (mono (Nat.le_max_right a.depth b.depth))
    have h3 := depth_pos a
    exact two (by omega) (by omega)
  | half x => simp only [leaves, depth]; omega
  | shut x t ih =>
    simp only [leaves, depth]
    have := Nat.one_le_two_pow (n := t.depth - 1)
    exact two (by omega) (depth_pos t)
  | mark x t ih =>
    simp only [leaves, depth]
    have := Nat.one_le_two_pow (n := t.depth - 1)
    exact two (by omega) (depth_pos t)
  | mix t ih =>
    simp only [leaves, depth]
    exact Nat.le_trans ih (Nat.pow_le_pow_right (by omega) (by omega))
theorem size_lt : ∀ t : Tm, t.size + 1 ≤ 2 ^ t.depth := by
  intro t
  have two : ∀ {n k : Nat}, n + 1 ≤ 2 ^ k + 2 ^ k → n + 1 ≤ 2 ^ (1 + k) := by
    intro n k h
    rw [Nat.add_comm 1 k, Nat.pow_succ]; omega
  have mono : ∀ {a b : Nat}, a ≤ b → 2 ^ a ≤ 2 ^ b := fun h => Nat.pow_le_pow_right (by omega) h
  induction t with
  | nm x => simp only [size, depth]; omega
  | pair a b iha ihb =>
    simp only [size, depth]
    have h1 := Nat.le_trans iha (mono (Nat.le_max_left a.depth b.depth))
    have h2 := Nat.le_trans ihb (mono (Nat.le_max_right a.depth b.depth))
    exact two (by omega)
  | box a b iha ihb =>
    simp only [size, depth]
    have h1 := Nat.le_trans iha (mono (Nat.le_max_left a.depth b.depth))
    have h2 := Nat.le_trans ihb (mono (Nat.le_max_right a.depth b.depth))
    exact two (by omega)
  | half x => simp only [size, depth]; omega
  | shut x t ih =>
    simp only [size, depth]
    have h : 2 ^ 1 ≤ 2 ^ t.depth := mono (depth_pos t)
    exact two (by omega)
  | mark x t ih =>
    simp only [size, depth]
    have h : 2 ^ 1 ≤ 2 ^ t.depth := mono (depth_pos t)
    exact two (by omega)
  | mix t ih =>
    simp only [size, depth]
    have h : 2 ^ 1 ≤ 2 ^ t.depth := mono (depth_pos t)
    exact two (by omega)
theorem size4 {t : Tm} (h : t.depth ≤ 4) : t.size ≤ 15 := by
  have h1 := size_lt t
  have h2 : 2 ^ t.depth ≤ 2 ^ 4 := Nat.pow_le_pow_right (by omega) h
  omega
theorem leaves4 {t : Tm} (h : t.depth ≤ 4) : t.leaves ≤ 8 := by
  have h1 := leaves_le t
  have h2 : 2 ^ (t.depth - 1) ≤ 2 ^ 3 := Nat.pow_le_pow_right (by omega) (by omega)
  omega
theorem parts_length : ∀ t : Tm, t.parts.length = t.size := by
  intro t
  induction t with
  | nm x => rfl
  | pair a b iha ihb => simp only [parts, size, List.length_cons, List.length_append, iha, ihb]; omega
  | box a b iha ihb => simp only [parts, size, List.length_cons, List.length_append, iha, ihb]; omega
  | half x => rfl
  | shut x t ih => simp only [parts, size, List.length_cons, ih]; omega
  | mark x t ih => simp only [parts, size, List.length_cons, ih]; omega
  | mix t ih => simp only [parts, size, List.length_cons, ih]; omega
theorem self_parts (t : Tm) : t ∈ t.parts := by cases t <;> simp [parts]
theorem parts_kids (t : Tm) : ∀ u, u ∈ t.parts ↔ u = t ∨ ∃ k ∈ t.kids, u ∈ k.parts := by
  intro u
  cases t <;> simp [parts, kids]
theorem parts_trans {v : Tm} : ∀ {t u : Tm}, u ∈ t.parts → v ∈ u.parts → v ∈ t.parts := by
  intro t
  induction t with
  | nm x => intro u h g; simp [parts] at h; subst h; exact g
  | pair a b iha ihb =>
    intro u h g
    simp only [parts, List.mem_cons, List.mem_append] at h ⊢
    rcases h with h | h | h
    · subst h
      simpa [parts] using g
    · exact .inr (.inl (iha h g))
    · exact .inr (.inr (ihb h g))
  | box a b iha ihb =>
    intro u h g
    simp only [parts, List.mem_cons, List.mem_append] at h ⊢
    rcases h with h | h | h
    · subst h
      simpa [parts] using g
    · exact .inr (.inl (iha h g))
    · exact .inr (.inr (ihb h g))
  | half x =>
    intro u h g
    simp [parts] at h
    rcases h with h | h
    · subst h; exact g
    · subst h; simp [parts] at g ⊢; exact .inr g
  | shut x t ih =>
    intro u h g
    simp only [parts, List.mem_cons] at h ⊢
    rcases h with h | h | h
    · subst h; simpa [parts] using g
    · subst h; simp [parts] at g; exact .inr (.inl g)
    · exact .inr (.inr (ih h g))
  | mark x t ih =>
    intro u h g
    simp only [parts, List.mem_cons] at h ⊢
    rcases h with h | h | h
    · subst h; simpa [parts] using g
    · subst h; simp [parts] at g; exact .inr (.inl g)
    · exact .inr (.inr (ih h g))
  | mix t ih =>
    intro u h g
    simp only [parts, List.mem_cons] at h ⊢
    rcases h with h | h
    · subst h; simpa [parts] using g
    · exact .inr (ih h g)
theorem kid_part {t k : Tm} (h : k ∈ t.kids) : k ∈ t.parts := (parts_kids t k).mpr (.inr ⟨k, h, self_parts k⟩)
theorem part_depth {u : Tm} : ∀ {t : Tm}, u ∈ t.parts → u.depth ≤ t.depth := by
  intro t
  induction t with
  | nm x => intro h; simp [parts] at h; subst h; exact Nat.le_refl _
  | pair a b iha ihb =>
    intro h
    simp only [parts, List.mem_cons, List.mem_append] at h
    rcases h with h | h | h
    · subst h; exact Nat.le_refl _
    · have := iha h; simp only [depth]; omega
    · have := ihb h; simp only [depth]; omega
  | box a b iha ihb =>
    intro h
    simp only [parts, List.mem_cons, List.mem_append] at h
    rcases h with h | h | h
    · subst h; exact Nat.le_refl _
    · have := iha h; simp only [depth]; omega
    · have := ihb h; simp only [depth]; omega
  | half x => intro h; simp [parts] at h; rcases h with h | h <;> subst h <;> simp [depth]
  | shut x t ih =>
    intro h
    simp only [parts, List.mem_cons] at h
    rcases h with h | h | h
    · subst h; exact Nat.le_refl _
    · subst h; simp only [depth]; omega
    · have := ih h; simp only [depth]; omega
  | mark x t ih =>
    intro h
    simp only [parts, List.mem_cons] at h
    rcases h with h | h | h
    · subst h; exact Nat.le_refl _
    · subst h; simp only [depth]; omega
    · have := ih h; simp only [depth]; omega
  | mix t ih =>
    intro h
    simp only [parts, List.mem_cons] at h
    rcases h with h | h
    · subst h; exact Nat.le_refl _
    · have := ih h; simp only [depth]; omega
theorem part_names {u : Tm} : ∀ {t : Tm}, u ∈ t.parts → ∀ x ∈ u.names, x ∈ t.names := by
  intro t
  induction t with
  | nm x => intro h; simp [parts] at h; subst h; exact fun _ h => h
  | pair a b iha ihb =>
    intro h y hy
    simp only [parts, List.mem_cons, List.mem_append] at h
    rcases h with h | h | h
    · subst h; exact hy
    · have := iha h y hy; simp [names, this]
    · have := ihb h y hy; simp [names, this]
  | box a b iha ihb =>
    intro h y hy
    simp only [parts, List.mem_cons, List.mem_append] at h
    rcases h with h | h | h
    · subst h; exact hy
    · have := iha h y hy; simp [names, this]
    · have := ihb h y hy; simp [names, this]
  | half x => intro h y hy; simp [parts] at h; rcases h with h | h <;> subst h <;> simpa [names] using hy
  | shut x t ih =>
    intro h y hy
    simp only [parts, List.mem_cons] at h
    rcases h with h | h | h
    · subst h; exact hy
    · subst h; simp [names] at hy; simp [names, hy]
    · have := ih h y hy; simp [names, this]
  | mark x t ih =>
    intro h y hy
    simp only [parts, List.mem_cons] at h
    rcases h with h | h | h
    · subst h; exact hy
    · subst h; simp [names] at hy; simp [names, hy]
    · have := ih h y hy; simp [names, this]
  | mix t ih =>
    intro h y hy
    simp only [parts, List.mem_cons] at h
    rcases h with h | h
    · subst h; exact hy
    · have := ih h y hy; simpa [names] using this
end Tm
open Tm

/-! ### what is opened, built, made -/
/-- u is opened out of t, where kp tells which keys are at hand -/
def OpensTo (kp : Tm → Prop) : Tm → Tm → Prop
  | .pair a b, u => u = a ∨ u = b
  | .mark _ a, u => u = a
  | .box k a, u => kp k ∧ u = a
  | .shut x a, u => kp (.nm x) ∧ u = a
  | _, _ => False
/-- the same as a list -/
def opensL (kb : Tm → Bool) : Tm → List Tm
  | .pair a b => [a, b]
  | .mark _ a => [a]
  | .box k a => if kb k then [a] else []
  | .shut x a => if kb (.nm x) then [a] else []
  | _ => []
theorem mem_opensL {kb : Tm → Bool} {kp : Tm → Prop} (h : ∀ t, kb t = true ↔ kp t) (t u : Tm) : u ∈ opensL kb t ↔ OpensTo kp t u := by
  cases t with
  | nm x => simp [opensL, OpensTo]
  | pair a b => simp [opensL, OpensTo]
  | box k a =>
    simp only [opensL, OpensTo, ← h k]
    by_cases c : kb k = true <;> simp [c]
  | half x => simp [opensL, OpensTo]
  | shut x a =>
    simp only [opensL, OpensTo, ← h (.nm x)]
    by_cases c : kb (.nm x) = true <;> simp [c]
  | mark x a => simp [opensL, OpensTo]
  | mix a => simp [opensL, OpensTo]
theorem OpensTo.mono {kp kq : Tm → Prop} {t u : Tm} (h : OpensTo kp t u) (m : ∀ k, k ∈ t.kids → kp k → kq k) : OpensTo kq t u := by
  cases t with
  | nm x => exact h
  | pair a b => exact h
  | box k a => exact ⟨m k (by simp [kids]) h.1, h.2⟩
  | half x => exact h
  | shut x a => exact ⟨m _ (by simp [kids]) h.1, h.2⟩
  | mark x a => exact h
  | mix a => exact h
theorem OpensTo.kid {kp : Tm → Prop} {t u : Tm} (h : OpensTo kp t u) : u ∈ t.kids := by
  cases t with
  | nm x => exact h.elim
  | pair a b => rcases h with h | h <;> simp [kids, h]
  | box k a => simp [kids, h.2]
  | half x => exact h.elim
  | shut x a => simp [kids, h.2]
  | mark x a => have h : u = a := h; simp [kids, h]
  | mix a => exact h.elim

/-- the step of is_built: in the set, or built of its pieces -/
def builtB (S : Tm → Bool) : Tm → Bool
  | .nm x => S (.nm x)
  | .pair a b => S (.pair a b) || (builtB S a && builtB S b)
  | .box a b => S (.box a b) || (builtB S a && builtB S b)
  | .half x => S (.half x) || S (.nm x)
  | .shut x t => S (.shut x t) || ((S (.half x) || S (.nm x)) && builtB S t)
  | .mark x t => S (.mark x t) || (S (.nm x) && builtB S t)
  | .mix t => S (.mix t) || builtB S t
theorem builtB_eq (S : Tm → Bool) (t : Tm) : builtB S t = (S t || (!t.isNm && t.pieces.all (builtB S))) := by
  cases t <;> simp [builtB, isNm, pieces]

/-- the least closed set of a row, and what is built of it -/
inductive Lc (row : List Tm) : Bool → Tm → Prop
  | heard {t} : t ∈ row → Lc row false t
  | left {a b} : Lc row false (.pair a b) → Lc row false a
  | right {a b} : Lc row false (.pair a b) → Lc row false b
  | read {x t} : Lc row false (.mark x t) → Lc row false t
  | unbox {k t} : Lc row false (.box k t) → Lc row true k → Lc row false t
  | unshut {x t} : Lc row false (.shut x t) → Lc row true (.nm x) → Lc row false t
  | of {t} : Lc row false t → Lc row true t
  | pair {a b} : Lc row true a → Lc row true b → Lc row true (.pair a b)
  | box {a b} : Lc row true a → Lc row true b → Lc row true (.box a b)
  | half {x} : Lc row true (.nm x) → Lc row true (.half x)
  | shut {x t} : Lc row true (.half x) → Lc row true t → Lc row true (.shut x t)
  | mark {x t} : Lc row true (.nm x) → Lc row true t → Lc row true (.mark x t)
  | mix {t} : Lc row true t → Lc row true (.mix t)
/-- in the least closed set -/
abbrev InC (row : List Tm) (t : Tm) : Prop := Lc row false t
/-- built of it -/
abbrev Bd (row : List Tm) (t : Tm) : Prop := Lc row true t

theorem Bd.of_pieces {row : List Tm} {t : Tm} (h0 : t.isNm = false) (h : ∀ p ∈ t.pieces, Bd row p) : Bd row t := by
  cases t with
  | nm x => simp [isNm] at h0
  | pair a b => exact .pair (h _ (by simp [pieces])) (h _ (by simp [pieces]))
  | box a b => exact .box (h _ (by simp [pieces])) (h _ (by simp [pieces]))
  | half x => exact .half (h _ (by simp [pieces]))
  | shut x t => exact .shut (h _ (by simp [pieces])) (h _ (by simp [pieces]))
  | mark x t => exact .mark (h _ (by simp [pieces])) (h _ (by simp [pieces]))
  | mix t => exact .mix (h _ (by simp [pieces]))
/-- what is opened with built keys stays in the least closed set -/
theorem InC.opens {row : List Tm} {t u : Tm} (h : InC row t) (o : OpensTo (Bd row) t u) : InC row u := by
  cases t with
  | nm x => exact o.elim
  | pair a b =>
    rcases o with o | o
    · subst o; exact .left h
    · subst o; exact .right h
  | box k a =>
    obtain ⟨o1, o2⟩ := o
    subst o2; exact .unbox h o1
  | half x => exact o.elim
  | shut x a =>
    obtain ⟨o1, o2⟩ := o
    subst o2; exact .unshut h o1
  | mark x a =>
    have o : u = a := o
    subst o; exact .read h
  | mix a => exact o.elim
/-- what is built is closed under opening, too -/
theorem Bd.opens {row : List Tm} {t u : Tm} (h : Bd row t) (o : OpensTo (Bd row) t u) : Bd row u := by
  cases h with
  | of h => exact .of (InC.opens h o)
  | pair h1 h2 =>
    rcases o with o | o
    · subst o; exact h1
    · subst o; exact h2
  | box h1 h2 => rw [o.2]; exact h2
  | half h1 => exact o.elim
  | shut h1 h2 => rw [o.2]; exact h2
  | mark h1 h2 => have o : u = _ := o; rw [o]; exact h2
  | mix h1 => exact o.elim
/-- everything of the least closed set stands in a heard term -/
theorem Lc.part {row : List Tm} {b : Bool} {t : Tm} (h : Lc row b t) : b = false → ∃ r ∈ row, t ∈ r.parts := by
  have step : ∀ {t u : Tm}, u ∈ t.kids → (∃ r ∈ row, t ∈ r.parts) → ∃ r ∈ row, u ∈ r.parts := fun hk ⟨r, hr, ht⟩ => ⟨r, hr, parts_trans ht (kid_part hk)⟩
  induction h with
  | heard h => exact fun _ => ⟨_, h, self_parts _⟩
  | left _ ih => exact fun e => step (by simp [kids]) (ih e)
  | right _ ih => exact fun e => step (by simp [kids]) (ih e)
  | read _ ih => exact fun e => step (by simp [kids]) (ih e)
  | unbox _ _ ih _ => exact fun e => step (by simp [kids]) (ih e)
  | unshut _ _ ih _ => exact fun e => step (by simp [kids]) (ih e)
  | of _ _ => exact fun e => nomatch e
  | pair _ _ _ _ => exact fun e => nomatch e
  | box _ _ _ _ => exact fun e => nomatch e
  | half _ _ => exact fun e => nomatch e
  | shut _ _ _ _ => exact fun e => nomatch e
  | mark _ _ _ _ => exact fun e => nomatch e
  | mix _ _ => exact fun e => nomatch e

/-- a list that is closed for the row: it has the whole least closed set, and builds what that builds -/
theorem Lc.inside {row : List Tm} {S : Tm → Bool} (h0 : ∀ t ∈ row, S t = true) (hc : ∀ t u, S t = true → OpensTo (fun k => builtB S k = true) t u → S u = true) :
    ∀ {b : Bool} {t : Tm}, Lc row b t → (b = false → S t = true) ∧ builtB S t = true := by
  have up : ∀ {t : Tm}, S t = true → builtB S t = true := fun {t} h => by rw [builtB_eq, h]; rfl
  intro b t h
  induction h with
  | heard h => exact ⟨fun _ => h0 _ h, up (h0 _ h)⟩
  | @left a b _ ih =>
    have q : S a = true := hc _ _ (ih.1 rfl) (Or.inl rfl)
    exact ⟨fun _ => q, up q⟩
  | @right a b _ ih =>
    have q : S b = true := hc _ _ (ih.1 rfl) (Or.inr rfl)
    exact ⟨fun _ => q, up q⟩
  | @read x t _ ih =>
    have q : S t = true := hc _ _ (ih.1 rfl) (show t = t from rfl)
    exact ⟨fun _ => q, up q⟩
  | @unbox k t _ _ ih ihk =>
    have q : S t = true := hc _ _ (ih.1 rfl) ⟨ihk.2, rfl⟩
    exact ⟨fun _ => q, up q⟩
  | @unshut x t _ _ ih ihk =>
    have q : S t = true := hc _ _ (ih.1 rfl) ⟨ihk.2, rfl⟩
    exact ⟨fun _ => q, up q⟩
  | of _ ih => exact ⟨fun e => (nomatch e), ih.2⟩
  | pair _ _ iha ihb => exact ⟨fun e => (nomatch e), by simp [builtB, iha.2, ihb.2]⟩
  | box _ _ iha ihb => exact ⟨fun e => (nomatch e), by simp [builtB, iha.2, ihb.2]⟩
  | half _ ih =>
    have q := ih.2
    simp only [builtB] at q
    exact ⟨fun e => (nomatch e), by simp [builtB, q]⟩
  | shut _ _ iha ihb =>
    have q := iha.2
    simp only [builtB] at q
    exact ⟨fun e => (nomatch e), by simp only [builtB, q, ihb.2]; simp⟩
  | mark _ _ iha ihb =>
    have q := iha.2
    simp only [builtB] at q
    exact ⟨fun e => (nomatch e), by simp only [builtB, q, ihb.2]; simp⟩
  | mix _ ih => exact ⟨fun e => (nomatch e), by simp [builtB, ih.2]⟩
/-- what is built of a part of the least closed set is built of it -/
theorem bd_of_built {row : List Tm} {S : Tm → Bool} (h : ∀ t, S t = true → InC row t) : ∀ {t : Tm}, builtB S t = true → Bd row t := by
  have up : ∀ {t : Tm}, S t = true → Bd row t := fun q => .of (h _ q)
  have hh : ∀ {x : Str}, (S (.half x) || S (.nm x)) = true → Bd row (.half x) := fun {x} q => by
    rw [Bool.or_eq_true] at q
    rcases q with q | q
    · exact up q
    · exact .half (up q)
  intro t
  induction t with
  | nm x => exact fun q => up q
  | pair a b iha ihb =>
    intro q
    simp only [builtB, Bool.or_eq_true, Bool.and_eq_true] at q
    rcases q with q | q
    · exact up q
    · exact .pair (iha q.1) (ihb q.2)
  | box a b iha ihb =>
    intro q
    simp only [builtB, Bool.or_eq_true, Bool.and_eq_true] at q
    rcases q with q | q
    · exact up q
    · exact .box (iha q.1) (ihb q.2)
  | half x => exact fun q => hh q
  | shut x t ih =>
    intro q
    simp only [builtB] at q
    rw [Bool.or_eq_true] at q
    rcases q with q | q
    · exact up q
    · rw [Bool.and_eq_true] at q
      exact .shut (hh q.1) (ih q.2)
  | mark x t ih =>
    intro q
    simp only [builtB, Bool.or_eq_true, Bool.and_eq_true] at q
    rcases q with q | q
    · exact up q
    · exact .mark (up q.1) (ih q.2)
  | mix t ih =>
    intro q
    simp only [builtB, Bool.or_eq_true] at q
    rcases q with q | q
    · exact up q
    · exact .mix (ih q)
/-- the answer of can_make: S the least closed set as a list's membership -/
theorem built_iff {row : List Tm} {S : Tm → Bool} (h : ∀ t, S t = true ↔ InC row t) (t : Tm) : builtB S t = true ↔ Bd row t := by
  refine ⟨fun q => bd_of_built (fun t q => (h t).mp q) q, fun q => ?_⟩
  refine (Lc.inside (fun t ht => (h t).mpr (.heard ht)) (fun t u hs ho => (h u).mpr ?_) q).2
  exact InC.opens ((h t).mp hs) (ho.mono fun k _ hk => bd_of_built (fun t q => (h t).mp q) hk)

/-! ### the law's own closure -/
/-- every: closed under parts, with the halves of its names -/
structure Whole (every : List Tm) : Prop where
  kid : ∀ t ∈ every, ∀ k ∈ t.kids, k ∈ every
  hlf : ∀ t ∈ every, ∀ x ∈ t.names, Tm.half x ∈ every
theorem Whole.piece {every : List Tm} (W : Whole every) {t p : Tm} (ht : t ∈ every) (hp : p ∈ t.pieces) : p ∈ every := by
  cases t with
  | nm x => simp [pieces] at hp
  | pair a b => exact W.kid _ ht _ hp
  | box a b => exact W.kid _ ht _ hp
  | half x => exact W.kid _ ht _ hp
  | shut x t =>
    simp only [pieces, List.mem_cons, List.not_mem_nil, or_false] at hp
    rcases hp with hp | hp
    · subst hp; exact W.hlf _ ht x (by simp [names])
    · subst hp; exact W.kid _ ht _ (by simp [kids])
  | mark x t => exact W.kid _ ht _ hp
  | mix t => exact W.kid _ ht _ hp
/-- what the law has made: all of it made by steps, and nothing lacks -/
structure MadeOf (row every M : List Tm) : Prop where
  has : ∀ t ∈ row, t ∈ M
  sub : ∀ t ∈ M, t ∈ every
  bd : ∀ t ∈ M, Bd row t
  build : ∀ t ∈ every, t.isNm = false → (∀ p ∈ t.pieces, p ∈ M) → t ∈ M
  opn : ∀ t ∈ M, ∀ u, OpensTo (· ∈ M) t u → u ∈ M
theorem MadeOf.iff {row every M : List Tm} (W : Whole every) (h : MadeOf row every M) : ∀ t, t ∈ M ↔ t ∈ every ∧ Bd row t := by
  have go : ∀ {b : Bool} {t : Tm}, Lc row b t → (b = false ∨ t ∈ every) → t ∈ M := by
    intro b t q
    induction q with
    | heard q => exact fun _ => h.has _ q
    | left _ ih => exact fun _ => h.opn _ (ih (.inl rfl)) _ (Or.inl rfl)
    | right _ ih => exact fun _ => h.opn _ (ih (.inl rfl)) _ (Or.inr rfl)
    | @read x t _ ih => exact fun _ => h.opn _ (ih (.inl rfl)) _ (show t = t from rfl)
    | unbox _ _ ih ihk =>
      intro _
      have m := ih (.inl rfl)
      exact h.opn _ m _ ⟨ihk (.inr (W.kid _ (h.sub _ m) _ (by simp [kids]))), rfl⟩
    | unshut _ _ ih ihk =>
      intro _
      have m := ih (.inl rfl)
      exact h.opn _ m _ ⟨ihk (.inr (W.kid _ (h.sub _ m) _ (by simp [kids]))), rfl⟩
    | of _ ih => exact fun _ => ih (.inl rfl)
    | pair _ _ iha ihb =>
      intro e
      have e := e.resolve_left (fun q => nomatch q)
      refine h.build _ e rfl fun p hp => ?_
      have hp' := W.piece e hp
      simp only [pieces, List.mem_cons, List.not_mem_nil, or_false] at hp
      rcases hp with hp | hp
      · subst hp; exact iha (.inr hp')
      · subst hp; exact ihb (.inr hp')
    | box _ _ iha ihb =>
      intro e
      have e := e.resolve_left (fun q => nomatch q)
      refine h.build _ e rfl fun p hp => ?_
      have hp' := W.piece e hp
      simp only [pieces, List.mem_cons, List.not_mem_nil, or_false] at hp
      rcases hp with hp | hp
      · subst hp; exact iha (.inr hp')
      · subst hp; exact ihb (.inr hp')
    | half _ ih =>
      intro e
      have e := e.resolve_left (fun q => nomatch q)
      refine h.build _ e rfl fun p hp => ?_
      have hp' := W.piece e hp
      simp only [pieces, List.mem_cons, List.not_mem_nil, or_false] at hp
      subst hp; exact ih (.inr hp')
    | shut _ _ iha ihb =>
      intro e
      have e := e.resolve_left (fun q => nomatch q)
      refine h.build _ e rfl fun p hp => ?_
      have hp' := W.piece e hp
      simp only [pieces, List.mem_cons, List.not_mem_nil, or_false] at hp
      rcases hp with hp | hp
      · subst hp; exact iha (.inr hp')
      · subst hp; exact ihb (.inr hp')
    | mark _ _ iha ihb =>
      intro e
      have e := e.resolve_left (fun q => nomatch q)
      refine h.build _ e rfl fun p hp => ?_
      have hp' := W.piece e hp
      simp only [pieces, List.mem_cons, List.not_mem_nil, or_false] at hp
      rcases hp with hp | hp
      · subst hp; exact iha (.inr hp')
      · subst hp; exact ihb (.inr hp')
    | mix _ ih =>
      intro e
      have e := e.resolve_left (fun q => nomatch q)
      refine h.build _ e rfl fun p hp => ?_
      have hp' := W.piece e hp
      simp only [pieces, List.mem_cons, List.not_mem_nil, or_false] at hp
      subst hp; exact ih (.inr hp')
  exact fun t => ⟨fun m => ⟨h.sub _ m, h.bd _ m⟩, fun ⟨e, q⟩ => go q (.inr e)⟩

/-! ### sets as lists that grow at the end -/
def addT (ks : List Tm) (t : Tm) : List Tm := if t ∈ ks then ks else ks ++ [t]
theorem mem_addT {ks : List Tm} {t u : Tm} : u ∈ addT ks t ↔ u ∈ ks ∨ u = t := by
  unfold addT
  split
  · rename_i h
    exact ⟨.inl, fun q => q.elim id fun e => e ▸ h⟩
  · simp
theorem addT_grow (ks : List Tm) (t : Tm) : ∃ ex, addT ks t = ks ++ ex := by
  unfold addT
  split
  · exact ⟨[], by simp⟩
  · exact ⟨[t], rfl⟩
theorem addT_nodup {ks : List Tm} (h : ks.Nodup) (t : Tm) : (addT ks t).Nodup := by
  unfold addT
  split
  · exact h
  · rename_i hn
    rw [List.nodup_append]
    refine ⟨h, by simp, ?_⟩
    intro a ha b hb e
    simp at hb
    exact hn (hb ▸ e ▸ ha)
theorem addT_len (ks : List Tm) (t : Tm) : (addT ks t).length ≤ ks.length + 1 := by
  unfold addT
  split <;> simp
/-- different things of a list are at most as many as it is long -/
theorem nodup_le {ks all : List Tm} (h : ks.Nodup) (s : ∀ t ∈ ks, t ∈ all) : ks.length ≤ all.length := by
  induction ks generalizing all with
  | nil => exact Nat.zero_le _
  | cons k r ih =>
    rw [List.nodup_cons] at h
    have hk := s k (by simp)
    have := ih (all := all.erase k) h.2 fun t ht => by
      have hne : t ≠ k := fun e => h.1 (e ▸ ht)
      exact (List.mem_erase_of_ne hne).mpr (s t (by simp [ht]))
    rw [List.length_erase_of_mem hk] at this
    have : 0 < all.length := List.length_pos_of_mem hk
    simp only [List.length_cons]
    omega
end K12

set_option Elab.async false
set_option linter.all false
/-! The wording of a term is another one for another term. -/
namespace K12
open PySem Tm

def sL (s : String) : List Nat := (Str.ofString s).cps.toList
/-- the codes of a term's wording -/
def sp : Tm → List Nat
  | .nm x => x.cps.toList
  | .pair a b => 40 :: (sp a ++ (32 :: 38 :: 32 :: (sp b ++ [41])))
  | .box k t => 91 :: (sp t ++ (93 :: (if k.isNm then sp k else 60 :: (sp k ++ [62]))))
  | .half x => 104 :: 97 :: 108 :: 102 :: 32 :: x.cps.toList
  | .shut x t => 123 :: (sp t ++ (125 :: x.cps.toList))
  | .mark x t => 40 :: (sp t ++ (33 :: (x.cps.toList ++ [41])))
  | .mix t => 109 :: 105 :: 120 :: 40 :: (sp t ++ [41])
/-- the wording as the program glues it -/
def spS : Tm → Str
  | .nm x => x
  | .pair a b => (((("(" : Str) ++ spS a) ++ (" & " : Str)) ++ spS b) ++ (")" : Str)
  | .box k t => ((("[" : Str) ++ spS t) ++ ("]" : Str)) ++ (if k.isNm then spS k else ((("<" : Str) ++ spS k) ++ (">" : Str)))
  | .half x => ("half " : Str) ++ x
  | .shut x t => ((("{" : Str) ++ spS t) ++ ("}" : Str)) ++ x
  | .mark x t => (((("(" : Str) ++ spS t) ++ ("!" : Str)) ++ x) ++ (")" : Str)
  | .mix t => (("mix(" : Str) ++ spS t) ++ (")" : Str)
theorem app_cps (a b : Str) : (a ++ b).cps.toList = a.cps.toList ++ b.cps.toList := by
  show (a.cps ++ b.cps).toList = _
  simp
theorem lit_open : ("(" : Str).cps.toList = [40] := by decide +kernel
theorem lit_close : (")" : Str).cps.toList = [41] := by decide +kernel
theorem lit_and : (" & " : Str).cps.toList = [32, 38, 32] := by decide +kernel
theorem lit_bo : ("[" : Str).cps.toList = [91] := by decide +kernel
theorem lit_bc : ("]" : Str).cps.toList = [93] := by decide +kernel
theorem lit_lt : ("<" : Str).cps.toList = [60] := by decide +kernel
theorem lit_gt : (">" : Str).cps.toList = [62] := by decide +kernel
theorem lit_co : ("{" : Str).cps.toList = [123] := by decide +kernel
theorem lit_cc : ("}" : Str).cps.toList = [125] := by decide +kernel
theorem lit_ex : ("!" : Str).cps.toList = [33] := by decide +kernel
theorem lit_half : ("half " : Str).cps.toList = [104, 97, 108, 102, 32] := by decide +kernel
theorem lit_mix : ("mix(" : Str).cps.toList = [109, 105, 120, 40] := by decide +kernel
theorem spS_cps : ∀ t : Tm, (spS t).cps.toList = sp t := by
  intro t
  induction t with
  | nm x => rfl
  | pair a b iha ihb => simp only [spS, sp, app_cps, lit_open, lit_close, lit_and, iha, ihb, List.append_assoc, List.cons_append, List.nil_append]
  | box k t ihk iht =>
    cases c : k.isNm
    · simp only [spS, sp, app_cps, lit_bo, lit_bc, lit_lt, lit_gt, ihk, iht, c, List.append_assoc, List.cons_append, List.nil_append, if_neg Bool.false_ne_true]
    · simp only [spS, sp, app_cps, lit_bo, lit_bc, ihk, iht, c, List.append_assoc, List.cons_append, List.nil_append, if_true]
  | half x => simp only [spS, sp, app_cps, lit_half, List.append_assoc, List.cons_append, List.nil_append]
  | shut x t ih => simp only [spS, sp, app_cps, lit_co, lit_cc, ih, List.append_assoc, List.cons_append, List.nil_append]
  | mark x t ih => simp only [spS, sp, app_cps, lit_open, lit_ex, lit_close, ih, List.append_assoc, List.cons_append, List.nil_append]
  | mix t ih => simp only [spS, sp, app_cps, lit_mix, lit_close, ih, List.append_assoc, List.cons_append, List.nil_append]
theorem str_ext {a b : Str} (h : a.cps.toList = b.cps.toList) : a = b := by
  cases a; cases b
  simp only [Str.mk.injEq]
  exact Array.toList_inj.mp h

/-- a small letter -/
def isL (c : Nat) : Prop := 97 ≤ c ∧ c ≤ 122
/-- a good name: 1 to 8 small letters -/
structure GoodNm (x : Str) : Prop where
  least : 1 ≤ x.length
  most : x.length ≤ 8
  low : ∀ c ∈ x.cps.toList, isL c
theorem GoodNm.head {x : Str} (g : GoodNm x) : ∃ c r, x.cps.toList = c :: r ∧ isL c := by
  cases e : x.cps.toList with
  | nil =>
    have h1 := g.least
    have h2 : x.cps.toList.length = x.length := by simp [Str.length]
    rw [e] at h2; simp at h2; omega
  | cons c r => exact ⟨c, r, rfl, g.low c (by rw [e]; simp)⟩
/-- all its names are good -/
def Good (t : Tm) : Prop := ∀ x ∈ t.names, GoodNm x

/-- what may stand behind a wording -/
def Fol : List Nat → Prop
  | [] => True
  | [c] => c = 41 ∨ c = 93 ∨ c = 125 ∨ c = 33 ∨ c = 62
  | c :: d :: _ => (c = 41 ∨ c = 93 ∨ c = 125 ∨ c = 33 ∨ c = 62) ∨ (c = 32 ∧ d = 38)
theorem Fol.close {c : Nat} (r : List Nat) (h : c = 41 ∨ c = 93 ∨ c = 125 ∨ c = 33 ∨ c = 62) : Fol (c :: r) := by
  cases r with
  | nil => exact h
  | cons d r => exact .inl h
theorem Fol.and (r : List Nat) : Fol (32 :: 38 :: r) := .inr ⟨rfl, rfl⟩
theorem Fol.head {c : Nat} {r : List Nat} (h : Fol (c :: r)) : c = 41 ∨ c = 93 ∨ c = 125 ∨ c = 33 ∨ c = 62 ∨ c = 32 := by
  cases r with
  | nil => have h : c = 41 ∨ c = 93 ∨ c = 125 ∨ c = 33 ∨ c = 62 := h; omega
  | cons d r => rcases h with h | ⟨h, _⟩ <;> omega
theorem Fol.low {c : Nat} {r : List Nat} (h : Fol (c :: r)) : ¬ isL c := by
  have := h.head
  unfold isL
  omega
/-- a list that does not begin with a letter -/
def NoL (s : List Nat) : Prop := ∀ c r, s = c :: r → ¬ isL c
theorem Fol.noL {s : List Nat} (h : Fol s) : NoL s := fun c r e => by subst e; exact h.low
theorem word_split : ∀ {x y s u : List Nat}, (∀ c ∈ x, isL c) → (∀ c ∈ y, isL c) → NoL s → NoL u → x ++ s = y ++ u → x = y ∧ s = u
  | [], [], _, _, _, _, _, _, e => ⟨rfl, e⟩
  | [], d :: y, s, u, _, hy, hs, _, e => absurd (hy d (by simp)) (hs d (y ++ u) (by simpa using e))
  | c :: x, [], s, u, hx, _, _, hu, e => absurd (hx c (by simp)) (hu c (x ++ s) (by simpa using e.symm))
  | c :: x, d :: y, s, u, hx, hy, hs, hu, e => by
    simp only [List.cons_append, List.cons.injEq] at e
    obtain ⟨e1, e2⟩ := e
    obtain ⟨q1, q2⟩ := word_split (fun c h => hx c (by simp [h])) (fun c h => hy c (by simp [h])) hs hu e2
    exact ⟨by rw [e1, q1], q2⟩
theorem name_split {x y : Str} {s u : List Nat} (gx : GoodNm x) (gy : GoodNm y) (hs : NoL s) (hu : NoL u) (e : x.cps.toList ++ s = y.cps.toList ++ u) : x = y ∧ s = u := by
  obtain ⟨q1, q2⟩ := word_split gx.low gy.low hs hu e
  exact ⟨str_ext q1, q2⟩
theorem noL_of {c : Nat} {r : List Nat} (h : ¬ isL c) : NoL (c :: r) := fun d r' e => by
  simp only [List.cons.injEq] at e
  rw [← e.1]; exact h
/-- the first sign of a wording: a letter, or the bracket of its kind -/
theorem nm_head {x : Str} (g : GoodNm x) {s r : List Nat} {c : Nat} (h : ¬ isL c) (e : x.cps.toList ++ s = c :: r) : False := by
  obtain ⟨d, q, ed, hd⟩ := g.head
  rw [ed] at e
  simp only [List.cons_append, List.cons.injEq] at e
  exact h (e.1 ▸ hd)
theorem nm_half {x y : Str} (gx : GoodNm x) (gy : GoodNm y) {s u : List Nat} (hs : Fol s) (e : x.cps.toList ++ s = 104 :: 97 :: 108 :: 102 :: 32 :: (y.cps.toList ++ u)) : False := by
  have e' : x.cps.toList ++ s = [104, 97, 108, 102] ++ (32 :: (y.cps.toList ++ u)) := e
  obtain ⟨_, q⟩ := word_split gx.low (by intro c h; simp at h; unfold isL; omega) hs.noL (noL_of (by unfold isL; omega)) e'
  obtain ⟨d, r, ed, hd⟩ := gy.head
  rw [ed] at q
  subst q
  rcases hs with h | ⟨_, h⟩
  · omega
  · unfold isL at hd; omega
theorem nm_mix {x : Str} (gx : GoodNm x) {s u : List Nat} (hs : Fol s) (e : x.cps.toList ++ s = 109 :: 105 :: 120 :: 40 :: u) : False := by
  have e' : x.cps.toList ++ s = [109, 105, 120] ++ (40 :: u) := e
  obtain ⟨_, q⟩ := word_split gx.low (by intro c h; simp at h; unfold isL; omega) hs.noL (noL_of (by unfold isL; omega)) e'
  subst q
  have := hs.head
  omega
theorem not91 : ¬ isL 91 := by unfold isL; omega
theorem not123 : ¬ isL 123 := by unfold isL; omega
theorem not40 : ¬ isL 40 := by unfold isL; omega
theorem not60 : ¬ isL 60 := by unfold isL; omega
theorem good_l {a b : Tm} (g : Good (.pair a b)) : Good a ∧ Good b := ⟨fun x h => g x (by simp [names, h]), fun x h => g x (by simp [names, h])⟩
theorem good_b {a b : Tm} (g : Good (.box a b)) : Good a ∧ Good b := ⟨fun x h => g x (by simp [names, h]), fun x h => g x (by simp [names, h])⟩
theorem good_s {x : Str} {b : Tm} (g : Good (.shut x b)) : GoodNm x ∧ Good b := ⟨g x (by simp [names]), fun x h => g x (by simp [names, h])⟩
theorem good_m {x : Str} {b : Tm} (g : Good (.mark x b)) : GoodNm x ∧ Good b := ⟨g x (by simp [names]), fun x h => g x (by simp [names, h])⟩
theorem good_n {x : Str} (g : Good (.nm x)) : GoodNm x := g x (by simp [names])
theorem good_h {x : Str} (g : Good (.half x)) : GoodNm x := g x (by simp [names])
theorem good_x {b : Tm} (g : Good (.mix b)) : Good b := fun x h => g x (by simp [names, h])
theorem sp_split : ∀ (t u : Tm) (s v : List Nat), Good t → Good u → Fol s → Fol v → sp t ++ s = sp u ++ v → t = u ∧ s = v := by
  intro t
  induction t with
  | nm x =>
    intro u s v g g' hs hv e
    have gx := good_n g
    cases u with
    | nm y =>
      obtain ⟨q1, q2⟩ := name_split gx (good_n g') hs.noL hv.noL e
      exact ⟨by rw [q1], q2⟩
    | pair a b => exact (nm_head gx not40 e).elim
    | box k t => exact (nm_head gx not91 e).elim
    | half y => exact (nm_half gx (good_h g') hs e).elim
    | shut y t => exact (nm_head gx not123 e).elim
    | mark y t => exact (nm_head gx not40 e).elim
    | mix t => exact (nm_mix gx hs e).elim
  | half x =>
    intro u s v g g' hs hv e
    have gx := good_h g
    cases u with
    | nm y => exact (nm_half (good_n g') gx hv e.symm).elim
    | half y =>
      simp only [sp, List.cons_append, List.cons.injEq, true_and] at e
      obtain ⟨q1, q2⟩ := name_split gx (good_h g') hs.noL hv.noL e
      exact ⟨by rw [q1], q2⟩
    | pair a b => simp [sp] at e
    | box k t => simp [sp] at e
    | shut y t => simp [sp] at e
    | mark y t => simp [sp] at e
    | mix t => simp [sp] at e
  | mix t ih =>
    intro u s v g g' hs hv e
    cases u with
    | nm y => exact (nm_mix (good_n g') hv e.symm).elim
    | mix u =>
      simp only [sp, List.cons_append, List.cons.injEq, true_and, List.append_assoc, List.nil_append] at e
      obtain ⟨q1, q2⟩ := ih u _ _ (good_x g) (good_x g') (Fol.close _ (by omega)) (Fol.close _ (by omega)) e
      simp only [List.cons.injEq, true_and] at q2
      exact ⟨by rw [q1], q2⟩
    | half y => simp [sp] at e
    | pair a b => simp [sp] at e
    | box k t => simp [sp] at e
    | shut y t => simp [sp] at e
    | mark y t => simp [sp] at e
  | shut x t ih =>
    intro u s v g g' hs hv e
    have gx := good_s g
    cases u with
    | nm y => exact (nm_head (good_n g') not123 e.symm).elim
    | shut y u =>
      have gy := good_s g'
      simp only [sp, List.cons_append, List.cons.injEq, true_and, List.append_assoc] at e
      obtain ⟨q1, q2⟩ := ih u _ _ gx.2 gy.2 (Fol.close _ (by omega)) (Fol.close _ (by omega)) e
      simp only [List.cons.injEq, true_and] at q2
      obtain ⟨q3, q4⟩ := name_split gx.1 gy.1 hs.noL hv.noL q2
      exact ⟨by rw [q1, q3], q4⟩
    | half y => simp [sp] at e
    | pair a b => simp [sp] at e
    | box k t => simp [sp] at e
    | mark y t => simp [sp] at e
    | mix t => simp [sp] at e
  | mark x t ih =>
    intro u s v g g' hs hv e
    have gx := good_m g
    cases u with
    | nm y => exact (nm_head (good_n g') not40 e.symm).elim
    | mark y u =>
      have gy := good_m g'
      simp only [sp, List.cons_append, List.cons.injEq, true_and, List.append_assoc, List.nil_append] at e
      obtain ⟨q1, q2⟩ := ih u _ _ gx.2 gy.2 (Fol.close _ (by omega)) (Fol.close _ (by omega)) e
      simp only [List.cons.injEq, true_and] at q2
      obtain ⟨q3, q4⟩ := name_split gx.1 gy.1 (noL_of (by unfold isL; omega)) (noL_of (by unfold isL; omega)) q2
      simp only [List.cons.injEq, true_and] at q4
      exact ⟨by rw [q1, q3], q4⟩
    | pair a b =>
      have gy := good_l g'
      simp only [sp, List.cons_append, List.cons.injEq, true_and, List.append_assoc, List.nil_append] at e
      obtain ⟨_, q2⟩ := ih a _ _ gx.2 gy.1 (Fol.close _ (by omega)) (Fol.and _) e
      simp at q2
    | half y => simp [sp] at e
    | box k t => simp [sp] at e
    | shut y t => simp [sp] at e
    | mix t => simp [sp] at e
  | pair a b iha ihb =>
    intro u s v g g' hs hv e
    have gx := good_l g
    cases u with
    | nm y => exact (nm_head (good_n g') not40 e.symm).elim
    | pair c d =>
      have gy := good_l g'
      simp only [sp, List.cons_append, List.cons.injEq, true_and, List.append_assoc, List.nil_append] at e
      obtain ⟨q1, q2⟩ := iha c _ _ gx.1 gy.1 (Fol.and _) (Fol.and _) e
      simp only [List.cons.injEq, true_and] at q2
      obtain ⟨q3, q4⟩ := ihb d _ _ gx.2 gy.2 (Fol.close _ (by omega)) (Fol.close _ (by omega)) q2
      simp only [List.cons.injEq, true_and] at q4
      exact ⟨by rw [q1, q3], q4⟩
    | mark y u =>
      have gy := good_m g'
      simp only [sp, List.cons_append, List.cons.injEq, true_and, List.append_assoc, List.nil_append] at e
      obtain ⟨_, q2⟩ := iha u _ _ gx.1 gy.2 (Fol.and _) (Fol.close _ (by omega)) e
      simp at q2
    | half y => simp [sp] at e
    | box k t => simp [sp] at e
    | shut y t => simp [sp] at e
    | mix t => simp [sp] at e
  | box k t ihk iht =>
    intro u s v g g' hs hv e
    have gx := good_b g
    cases u with
    | nm y => exact (nm_head (good_n g') not91 e.symm).elim
    | box k' t' =>
      have gy := good_b g'
      simp only [sp, List.cons_append, List.cons.injEq, true_and, List.append_assoc, List.nil_append] at e
      obtain ⟨q1, q2⟩ := iht t' _ _ gx.2 gy.2 (Fol.close _ (by omega)) (Fol.close _ (by omega)) e
      simp only [List.cons.injEq, true_and] at q2
      cases c : k.isNm <;> cases c' : k'.isNm
      · simp only [c, c', if_neg Bool.false_ne_true, List.cons_append, List.cons.injEq, true_and, List.append_assoc, List.nil_append] at q2
        obtain ⟨q3, q4⟩ := ihk k' _ _ gx.1 gy.1 (Fol.close _ (by omega)) (Fol.close _ (by omega)) q2
        simp only [List.cons.injEq, true_and] at q4
        exact ⟨by rw [q1, q3], q4⟩
      · simp only [c, c', if_neg Bool.false_ne_true, if_true, List.cons_append] at q2
        cases k' with
        | nm y => exact (nm_head (good_n gy.1) not60 q2.symm).elim
        | _ => simp [isNm] at c'
      · simp only [c, c', if_neg Bool.false_ne_true, if_true, List.cons_append] at q2
        cases k with
        | nm y => exact (nm_head (good_n gx.1) not60 q2).elim
        | _ => simp [isNm] at c
      · simp only [c, c', if_true] at q2
        obtain ⟨q3, q4⟩ := ihk k' _ _ gx.1 gy.1 hs hv q2
        exact ⟨by rw [q1, q3], q4⟩
    | half y => simp [sp] at e
    | pair a b => simp [sp] at e
    | shut y t => simp [sp] at e
    | mark y t => simp [sp] at e
    | mix t => simp [sp] at e
theorem spS_inj {t u : Tm} (g : Good t) (g' : Good u) (e : spS t = spS u) : t = u := by
  have h : sp t ++ [] = sp u ++ [] := by rw [List.append_nil, List.append_nil, ← spS_cps, ← spS_cps, e]
  exact (sp_split t u [] [] g g' True.intro True.intro h).1
theorem str_len_app (a b : Str) : (a ++ b).length = a.length + b.length := by
  show (a.cps ++ b.cps).size = _
  simp [Str.length]
/-- a wording's length -/
theorem sp_len : ∀ {t : Tm}, Good t → (spS t).length ≤ 15 * t.size := by
  have q : ∀ t : Tm, (spS t).length = (sp t).length := fun t => by rw [← spS_cps]; simp [Str.length]
  intro t g
  rw [q]
  have nl : ∀ {x : Str}, GoodNm x → x.cps.toList.length ≤ 8 := fun {x} g => by have := g.most; simpa [Str.length] using this
  induction t with
  | nm x => have := nl (good_n g); simp only [sp, size]; omega
  | pair a b iha ihb =>
    have h1 := iha (good_l g).1
    have h2 := ihb (good_l g).2
    simp only [sp, size, List.length_cons, List.length_append, List.length_nil]; omega
  | box k t ihk iht =>
    have h1 := ihk (good_b g).1
    have h2 := iht (good_b g).2
    simp only [sp, size, List.length_cons, List.length_append]
    split
    · omega
    · simp only [List.length_cons, List.length_append, List.length_nil]; omega
  | half x => have := nl (good_h g); simp only [sp, size, List.length_cons]; omega
  | shut x t ih =>
    have h1 := nl (good_s g).1
    have h2 := ih (good_s g).2
    simp only [sp, size, List.length_cons, List.length_append]; omega
  | mark x t ih =>
    have h1 := nl (good_m g).1
    have h2 := ih (good_m g).2
    simp only [sp, size, List.length_cons, List.length_append, List.length_nil]; omega
  | mix t ih =>
    have h2 := ih (good_x g)
    simp only [sp, size, List.length_cons, List.length_append, List.length_nil]; omega
end K12

set_option Elab.async false
set_option linter.all false
set_option maxRecDepth 100000
set_option maxHeartbeats 4000000
/-! Dicts whose keys are texts and nested tuples together: the model's look-up, walked; no program in sight. -/
namespace K12
open PySem PySem.SeqAt

/-- an entry: the key as data, the key's value, what stands there -/
abbrev MEnt := NestedKey × Value × Value
def entM (w : World) (x : MEnt) : DictEntry := ⟨x.1.hash w, x.2.1, x.2.2⟩
def ixM (xs : List MEnt) (k : NestedKey) : Option Nat := xs.findIdx? fun x => decide (x.1 = k)
def atM (xs : List MEnt) (k : NestedKey) : Option Value := (xs.find? fun x => decide (x.1 = k)).map (·.2.2)
/-- a value that may be a key -/
def KeyM (h : Heap) (k : NestedKey) (u : Value) : Prop := NestedIs h k u ∧ k.depth ≤ 8
/-- the dict at d, its entries in order -/
structure IsM (w : World) (h : Heap) (d : Addr) (xs : List MEnt) (o : Obj) (es : Array DictEntry) (ep : Nat) : Prop where
  got : h.get? d = some o
  ex : o.ExactDict
  dat : o.data = .dict es ep
  ent : es.toList = xs.map (entM w)
  nod : (xs.map (·.1)).Nodup

theorem ixM_some {xs : List MEnt} (hn : (xs.map (·.1)).Nodup) {k : NestedKey} {j : Nat} : ixM xs k = some j ↔ ∃ x, xs[j]? = some x ∧ x.1 = k := by
  unfold ixM
  rw [List.findIdx?_eq_some_iff_getElem]
  constructor
  · rintro ⟨hj, h1, _⟩
    exact ⟨xs[j], List.getElem?_eq_getElem hj, of_decide_eq_true h1⟩
  · rintro ⟨x, hx, e⟩
    obtain ⟨hj, e2⟩ := List.getElem?_eq_some_iff.mp hx
    refine ⟨hj, decide_eq_true (by rw [e2]; exact e), fun i hij => ?_⟩
    have hi : i < xs.length := by omega
    intro hc
    have hc : xs[i].1 = k := of_decide_eq_true hc
    have g1 : (xs.map (·.1))[i]? = some k := by rw [List.getElem?_map, List.getElem?_eq_getElem hi, Option.map_some, hc]
    have g2 : (xs.map (·.1))[j]? = some k := by rw [List.getElem?_map, hx, Option.map_some, e]
    have := (List.getElem?_inj (by rw [List.length_map]; exact hi) hn).mp (g1.trans g2.symm)
    omega
theorem ixM_none {xs : List MEnt} {k : NestedKey} : ixM xs k = none ↔ k ∉ xs.map (·.1) := by
  unfold ixM
  rw [List.findIdx?_eq_none_iff]
  constructor
  · intro h hm
    obtain ⟨x, hx, e⟩ := List.mem_map.mp hm
    have := h x hx
    simp [e] at this
  · intro h x hx
    exact decide_eq_false fun e => h (List.mem_map.mpr ⟨x, hx, e⟩)
theorem atM_ix {xs : List MEnt} (hn : (xs.map (·.1)).Nodup) {k : NestedKey} : atM xs k = (ixM xs k).bind fun j => (xs[j]?).map (·.2.2) := by
  cases e : ixM xs k with
  | none =>
    rw [ixM_none] at e
    unfold atM
    have : (xs.find? fun x => decide (x.1 = k)) = none := List.find?_eq_none.mpr fun x hx hc => e (List.mem_map.mpr ⟨x, hx, of_decide_eq_true hc⟩)
    rw [this]; rfl
  | some j =>
    unfold atM ixM at *
    rw [List.findIdx?_eq_some_iff_getElem] at e
    obtain ⟨hj, h1, h2⟩ := e
    have : (xs.find? fun x => decide (x.1 = k)) = some xs[j] := by
      rw [List.find?_eq_some_iff_getElem]
      exact ⟨h1, j, hj, rfl, fun i hi => by simpa using h2 i hi⟩
    rw [this]
    simp [List.getElem?_eq_getElem hj]

section
variable {prog : Program} {w : World} {A : Around} {E : Value → Shared → Prop} {s : Shared} {d : Addr} {o : Obj} {es : Array DictEntry} {ep : Nat} {xs : List MEnt} {k : NestedKey} {u : Value}

theorem quiet_of {v : Value} {k : NestedKey} (hk : KeyM s.heap k v) {Q : Bool → Shared → Prop} (h : Q true s) : wpAny (model prog w) A (eqIsQuiet 8 v) Q E s := quiet_key k v 8 s hk.1 hk.2 A E Q h
theorem eq_of {x y : NestedKey} {a b : Value} (hu : A.units + 8 < cLine) (ha : KeyM s.heap x a) (hb : KeyM s.heap y b) {Q : Bool → Shared → Prop} (h : Q (decide (x = y)) s) : wpAny (model prog w) A (eqBool a b) Q E s := by
  have hd := ha.2
  refine eqAt_key x y A s a b ha.1 hb.1 (by omega) prog w E Q ?_
  rw [← NestedKey.decide_eq]
  exact h
theorem tell_none {vs : List Value} {Q : Bool → Shared → Prop} (hk : KeyM s.heap k u) (hv : ∀ v ∈ vs, ∃ j, KeyM s.heap j v) (h : Q false s) : wpAny (model prog w) A (tableMayTell u vs) Q E s := by
  unfold tableMayTell
  cases hem : vs.isEmpty with
  | true => exact wpAny_pure h
  | false =>
    refine wpAny_bind (quiet_of hk ?_)
    refine wpAny_bind (wpAny_forIn_list _ (fun l r t => t = s ∧ r = (none, ()) ∧ ∀ v ∈ l, ∃ j, KeyM s.heap j v) _ ?_ ?_ vs _ ⟨rfl, rfl, hv⟩)
    · rintro v l r t ⟨rfl, rfl, hl⟩
      obtain ⟨j, hj⟩ := hl v List.mem_cons_self
      exact wpAny_bind (quiet_of hj (wpAny_pure ⟨rfl, rfl, fun v' h' => hl v' (List.mem_cons_of_mem _ h')⟩))
    · rintro r t ⟨rfl, rfl, _⟩
      exact wpAny_pure h

theorem ent_at (M : IsM w s.heap d xs o es ep) (j : Nat) : es[j]? = (xs[j]?).map (entM w) := by
  rw [← Array.getElem?_toList, M.ent, List.getElem?_map]
theorem ent_size (M : IsM w s.heap d xs o es ep) : es.size = xs.length := by rw [← Array.length_toList, M.ent, List.length_map]

/-- the loop's word over what is left of the places: the hit so far -/
def Hit (xs : List MEnt) (k : NestedKey) (l : List Nat) (hit : Option Nat) : Prop :=
  (ixM xs k = none ∧ hit = none) ∨ (∃ j, ixM xs k = some j ∧ hit = none ∧ j ∈ l) ∨ (∃ j, ixM xs k = some j ∧ hit = some j ∧ j ∉ l)
theorem Hit.nil {hit : Option Nat} (h : Hit xs k [] hit) : hit = ixM xs k := by
  rcases h with ⟨a, b⟩ | ⟨j, _, _, c⟩ | ⟨j, a, b, _⟩
  · rw [a, b]
  · exact nomatch c
  · rw [a, b]
/-- the place i is not the key's -/
theorem Hit.skip {l : List Nat} {i : Nat} {hit : Option Nat} (h : Hit xs k (i :: l) hit) (hi : ixM xs k ≠ some i) : Hit xs k l hit := by
  rcases h with h | ⟨j, a, b, c⟩ | ⟨j, a, b, c⟩
  · exact .inl h
  · refine .inr (.inl ⟨j, a, b, ?_⟩)
    rcases List.mem_cons.mp c with e | c
    · exact absurd (e ▸ a) hi
    · exact c
  · exact .inr (.inr ⟨j, a, b, fun q => c (List.mem_cons_of_mem _ q)⟩)
theorem Hit.found {l : List Nat} {i : Nat} {hit : Option Nat} (h : Hit xs k (i :: l) hit) (hi : ixM xs k = some i) (hl : i ∉ l) : hit = none ∧ Hit xs k l (some i) := by
  rcases h with ⟨a, _⟩ | ⟨j, a, b, c⟩ | ⟨j, a, b, c⟩
  · rw [hi] at a; cases a
  · exact ⟨b, .inr (.inr ⟨i, hi, rfl, hl⟩)⟩
  · rw [hi] at a; cases a
    exact absurd List.mem_cons_self c
/-- the places whose hash is k's -/
abbrev plc (es : Array DictEntry) (h : Int) : List Nat := placesWithHash es.size (fun i => es[i]?.map (·.hash)) h
theorem plc_eq (h : Int) : plc es h = (List.range es.size).filter fun i => (es[i]?.map (·.hash)) == some h := rfl
theorem plc_nodup (h : Int) : (plc es h).Nodup := by
  rw [plc_eq]
  exact List.Pairwise.filter _ List.nodup_range
theorem plc_lt {h : Int} {i : Nat} (hi : i ∈ plc es h) : i < es.size := by
  rw [plc_eq] at hi
  exact List.mem_range.mp (List.mem_filter.mp hi).1
theorem plc_start (M : IsM w s.heap d xs o es ep) (k : NestedKey) : Hit xs k (plc es (k.hash w)) none := by
  cases e : ixM xs k with
  | none => exact .inl ⟨e, rfl⟩
  | some j =>
    refine .inr (.inl ⟨j, e, rfl, ?_⟩)
    obtain ⟨x, hx, hk⟩ := (ixM_some M.nod).mp e
    rw [plc_eq]
    have hj : j < es.size := by rw [ent_size M]; exact (List.getElem?_eq_some_iff.mp hx).1
    refine List.mem_filter.mpr ⟨List.mem_range.mpr hj, ?_⟩
    rw [ent_at M, hx]
    simp [entM, hk]
theorem ix_at (M : IsM w s.heap d xs o es ep) {i : Nat} {x : MEnt} (hx : xs[i]? = some x) : (x.1 = k ↔ ixM xs k = some i) := by
  rw [ixM_some M.nod]
  constructor
  · exact fun e => ⟨x, hx, e⟩
  · rintro ⟨y, hy, e⟩
    rw [hx] at hy; cases hy
    exact e

/-- the look-up where every key at hand is carried by value -/
theorem find_plain {Q : Option Nat → Shared → Prop} (hu : A.units + 8 < cLine) (hk : KeyM s.heap k u) (M : IsM w s.heap d xs o es ep) (his : ∀ x ∈ xs, KeyM s.heap x.1 x.2.1) (h : Q (ixM xs k) s) :
    wpAny (model prog w) A (dictWalkPlain d u (k.hash w) es (plc es (k.hash w))) Q E s := by
  unfold dictWalkPlain
  refine wpAny_bind (wpAny_forIn_list _ (fun l r t => t = s ∧ r = (none, ()) ∧ l.Nodup ∧ (∀ i ∈ l, i < es.size) ∧ Hit xs k l none) _ ?_ ?_ _ _ ⟨rfl, rfl, plc_nodup _, fun i hi => plc_lt hi, plc_start M k⟩)
  · rintro i l r t ⟨rfl, rfl, hnl, hlt, hh⟩
    have hi := hlt i List.mem_cons_self
    obtain ⟨x, hx⟩ : ∃ x, xs[i]? = some x := ⟨xs[i]'(by rw [← ent_size M]; exact hi), List.getElem?_eq_getElem _⟩
    have hxm := List.mem_of_getElem? hx
    have hnl' := List.nodup_cons.mp hnl
    have next : x.1 ≠ k → Hit xs k l none := fun ne => hh.skip fun e => ne ((ix_at M hx).mpr e)
    rw [ent_at M, hx]
    show wpAny _ _ (if (x.1.hash w == k.hash w) = true then _ else _) _ E _
    by_cases hq : (x.1.hash w == k.hash w) = true
    · rw [if_pos hq]
      refine wpAny_bind (wpAny_dictEpoch M.got M.dat (wpAny_bind (eq_of hu (his x hxm) hk (wpAny_bind (wpAny_dictEpoch M.got M.dat ?_)))))
      show wpAny _ _ (if (ep != ep) = true then _ else _) _ E _
      rw [if_neg (by simp)]
      by_cases hc : x.1 = k
      · rw [decide_eq_true hc]
        refine wpAny_bind (wpAny_rule (wpAny_pure ?_))
        rw [(ix_at M hx).mp hc] at h
        exact wpAny_pure h
      · rw [decide_eq_false hc]
        exact wpAny_bind (wpAny_rule (wpAny_pure ⟨rfl, rfl, hnl'.2, fun j hj => hlt j (List.mem_cons_of_mem _ hj), next hc⟩))
    · rw [if_neg hq]
      exact wpAny_pure ⟨rfl, rfl, hnl'.2, fun j hj => hlt j (List.mem_cons_of_mem _ hj), next fun e => hq (by rw [e]; simp)⟩
  · rintro r t ⟨rfl, rfl, _, _, hh⟩
    rw [← hh.nil] at h
    exact wpAny_pure h

theorem isStr_key {h : Heap} {x : MEnt} (hx : KeyM h x.1 x.2.1) (y : Str) : x.2.1.isStr y = decide (x.1 = .text y) := by
  obtain ⟨k, v, z⟩ := x
  obtain ⟨h1, _⟩ := hx
  cases h1 with
  | none => exact (decide_eq_false (fun e => nomatch e)).symm
  | bool _ => exact (decide_eq_false (fun e => nomatch e)).symm
  | int _ _ => exact (decide_eq_false (fun e => nomatch e)).symm
  | text z t =>
    show (z == y) = decide (NestedKey.text z = NestedKey.text y)
    by_cases e : z = y
    · subst e; simp
    · rw [beq_eq_false_iff_ne.mpr e, decide_eq_false fun q => e (NestedKey.text.inj q)]
  | tup _ _ _ _ => exact (decide_eq_false (fun e => nomatch e)).symm
theorem findIdx_key (M : IsM w s.heap d xs o es ep) (his : ∀ x ∈ xs, KeyM s.heap x.1 x.2.1) (y : Str) : (es.findIdx? fun e => e.key.isStr y) = ixM xs (.text y) := by
  have e0 : (es.findIdx? fun e => e.key.isStr y) = es.toList.findIdx? fun e => e.key.isStr y := by
    obtain ⟨l⟩ := es
    simp
  rw [e0, M.ent, List.findIdx?_map]
  unfold ixM
  have go : ∀ l : List MEnt, (∀ x ∈ l, KeyM s.heap x.1 x.2.1) → l.findIdx? ((fun e : DictEntry => e.key.isStr y) ∘ entM w) = l.findIdx? fun x => decide (x.1 = .text y) := by
    intro l
    induction l with
    | nil => intro _; rfl
    | cons x l ih =>
      intro hl
      have e : ((fun e : DictEntry => e.key.isStr y) ∘ entM w) x = decide (x.1 = .text y) := isStr_key (hl x List.mem_cons_self) y
      rw [List.findIdx?_cons, List.findIdx?_cons, e, ih fun z hz => hl z (List.mem_cons_of_mem _ hz)]
  exact go xs his
/-- the look-up by the text alone, where all keys are texts -/
theorem find_text {y : Str} {t : Tok} {Q : Option Nat → Shared → Prop} (hu : A.units + 8 < cLine) (hk : KeyM s.heap (.text y) (.str y t)) (M : IsM w s.heap d xs o es ep) (his : ∀ x ∈ xs, KeyM s.heap x.1 x.2.1) (h : Q (ixM xs (.text y)) s) :
    wpAny (model prog w) A (foundByValue d (.str y t) es y) Q E s := by
  unfold foundByValue
  rw [findIdx_key M his y]
  cases e : ixM xs (.text y) with
  | none =>
    rw [e] at h
    exact wpAny_pure h
  | some i =>
    rw [e] at h
    obtain ⟨x, hx, hxk⟩ := (ixM_some M.nod).mp e
    dsimp only
    rw [ent_at M, hx]
    dsimp only [Option.map_some]
    refine wpAny_bind (wpAny_dictEpoch M.got M.dat (wpAny_bind (eq_of hu (his x (List.mem_of_getElem? hx)) hk (wpAny_bind (wpAny_dictEpoch M.got M.dat ?_)))))
    show wpAny _ _ (if (ep != ep) = true then _ else _) _ E _
    rw [if_neg (by simp), decide_eq_true hxk]
    exact wpAny_bind (wpAny_rule (wpAny_pure h))
/-- no stored object's hash has changed -/
theorem none_changed {a : Addr} (hk : KeyM s.heap k (.ref a)) (M : IsM w s.heap d xs o es ep) (his : ∀ x ∈ xs, KeyM s.heap x.1 x.2.1) : (es.any fun e => e.key == Value.ref a && e.hash != k.hash w) = false := by
  rw [← Array.any_toList, M.ent, List.any_map, List.any_eq_false]
  intro x hx hc
  simp only [Function.comp, entM, Bool.and_eq_true, beq_iff_eq, bne_iff_ne] at hc
  obtain ⟨h1, h2⟩ := hc
  have hx' := his x hx
  rw [h1] at hx'
  exact h2 (by rw [NestedIs.inj _ _ _ hx'.1 hk.1])
theorem stored_keys (M : IsM w s.heap d xs o es ep) (his : ∀ x ∈ xs, KeyM s.heap x.1 x.2.1) (l : List Nat) : ∀ v ∈ l.filterMap (fun i => es[i]?.map (·.key)), ∃ j, KeyM s.heap j v := by
  intro v hv
  obtain ⟨i, _, hi⟩ := List.mem_filterMap.mp hv
  rw [ent_at M] at hi
  cases hx : xs[i]? with
  | none => rw [hx] at hi; cases hi
  | some x =>
    rw [hx] at hi
    obtain rfl : x.2.1 = v := by simpa [entM] using hi
    exact ⟨x.1, his x (List.mem_of_getElem? hx)⟩
/-- the look-up, whatever the key is: a text or a tuple -/
theorem find_mixed {Q : Option Nat → Shared → Prop} (hu : A.units + 8 < cLine) (hk : KeyM s.heap k u) (hkind : (∃ y t, u = Value.str y t) ∨ ∃ a, u = Value.ref a) (M : IsM w s.heap d xs o es ep) (his : ∀ x ∈ xs, KeyM s.heap x.1 x.2.1) (h : Q (ixM xs k) s) :
    wpAny (model prog w) A (dictFind d u (k.hash w)) Q E s := by
  have plain := find_plain (prog := prog) (E := E) (Q := Q) hu hk M his h
  have hst := stored_keys M his (plc es (k.hash w))
  unfold dictFind
  refine wpAny_holding (wpAny_bind (wpAny_dictEntries M.got M.dat ?_))
  have asked : ∀ (f : Nat → (Option (Option Nat) × Option Nat) → Sem (ForInStep (Option (Option Nat) × Option Nat))) (g : Option (Option Nat) × Option Nat → Sem (Option Nat)), (∀ hit, g (none, hit) = pure hit) → (∀ z hit, g (some z, hit) = pure z) →
      (∀ i hit x, xs[i]? = some x → x.1 ≠ k → wpAny (model prog w) A (f i (none, hit)) (fun r t => r = .yield (none, hit) ∧ t = s) E s) →
      (∀ i x, xs[i]? = some x → x.1 = k → wpAny (model prog w) A (f i (none, none)) (fun r t => (r = .yield (none, some i) ∨ ∃ z, r = .done (some (some i), z)) ∧ t = s) E s) →
      wpAny (model prog w) A (forIn (plc es (k.hash w)) ((none, none) : Option (Option Nat) × Option Nat) f) (fun r t => wpAny (model prog w) A (g r) Q E t) E s := by
    intro f g g1 g2 h1 h2
    refine wpAny_forIn_list _ (fun l r t => t = s ∧ ∃ hit, r = (none, hit) ∧ l.Nodup ∧ (∀ i ∈ l, i < es.size) ∧ Hit xs k l hit) _ ?_ ?_ _ _ ⟨rfl, none, rfl, plc_nodup _, fun i hi => plc_lt hi, plc_start M k⟩
    · rintro i l r t ⟨rfl, hit, rfl, hnl, hlt, hh⟩
      have hi := hlt i List.mem_cons_self
      obtain ⟨x, hx⟩ : ∃ x, xs[i]? = some x := ⟨xs[i]'(by rw [← ent_size M]; exact hi), List.getElem?_eq_getElem _⟩
      have hnl' := List.nodup_cons.mp hnl
      have later : ∀ j ∈ l, j < es.size := fun j hj => hlt j (List.mem_cons_of_mem _ hj)
      by_cases hc : x.1 = k
      · have hix := (ix_at M hx).mp hc
        obtain ⟨e0, hf⟩ := hh.found hix hnl'.1
        subst e0
        refine wpAny_mono (h2 i x hx hc) (fun r t hr => ?_) fun _ _ z => z
        obtain ⟨hr, rfl⟩ := hr
        rcases hr with rfl | ⟨z, rfl⟩
        · exact ⟨rfl, some i, rfl, hnl'.2, later, hf⟩
        · rw [hix] at h
          show wpAny _ _ (g (some (some i), z)) Q E _
          rw [g2]
          exact wpAny_pure h
      · refine wpAny_mono (h1 i hit x hx hc) (fun r t hr => ?_) fun _ _ z => z
        obtain ⟨rfl, rfl⟩ := hr
        exact ⟨rfl, hit, rfl, hnl'.2, later, hh.skip fun e => hc ((ix_at M hx).mpr e)⟩
    · rintro r t ⟨rfl, hit, rfl, _, _, hh⟩
      rw [← hh.nil] at h
      rw [g1]
      exact wpAny_pure h
  have ask1 : ∀ {i : Nat} {x : MEnt} {F : Bool → Sem (ForInStep (Option (Option Nat) × Option Nat))} {B : Sem Unit} {R : ForInStep (Option (Option Nat) × Option Nat) → Shared → Prop}, xs[i]? = some x → wpAny (model prog w) A (F (decide (x.1 = k))) R E s →
      wpAny (model prog w) A (dictEpoch d (keyPart u) >>= fun e1 => eqBool (entM w x).key u >>= fun same => dictEpoch d (keyPart u) >>= fun e2 => if (e2 != e1) = true then B >>= fun _ => F same else F same) R E s := by
    intro i x F B R hx hF
    refine wpAny_bind (wpAny_dictEpoch M.got M.dat (wpAny_bind (eq_of hu (his x (List.mem_of_getElem? hx)) hk (wpAny_bind (wpAny_dictEpoch M.got M.dat ?_)))))
    rw [if_neg (by simp)]
    exact hF
  rcases hkind with ⟨y, t, rfl⟩ | ⟨a, rfl⟩
  · obtain rfl : k = .text y := by
      obtain ⟨h1, _⟩ := hk
      cases h1
      rfl
    show wpAny _ _ (if (es.all fun e => isExactStrKey e.key) = true then _ else _) Q E s
    by_cases ha : (es.all fun e => isExactStrKey e.key) = true
    · rw [if_pos ha]
      exact find_text hu hk M his h
    · rw [if_neg ha]
      show wpAny _ _ (if ((Value.str y t :: _).all carriedByValue) = true then _ else _) Q E s
      by_cases hb : ((Value.str y t :: (plc es ((NestedKey.text y).hash w)).filterMap fun i => es[i]?.map (·.key)).all carriedByValue) = true
      · rw [if_pos hb]
        exact plain
      · rw [if_neg hb]
        show wpAny _ _ (if (_ == [Value.str y t]) = true then _ else _) Q E s
        split
        · refine wpAny_bind (wpAny_pure ?_)
          show wpAny _ _ (if (false && _) = true then _ else _) Q E s
          rw [if_neg (by simp)]
          show wpAny _ _ (forIn _ _ _ >>= _) Q E s
          refine wpAny_bind (asked _ _ (fun _ => rfl) (fun _ _ => rfl) (fun i hit x hx hc => ?_) fun i x hx hc => ?_)
          · rw [ent_at M, hx]
            show wpAny _ _ (if (x.1.hash w == _) = true then _ else _) _ E s
            split
            · refine ask1 (F := fun same => if same = true then _ else _) hx ?_
              rw [if_neg (by simp [hc])]
              refine wpAny_bind (wpAny_rule ?_)
              exact wpAny_pure ⟨rfl, rfl⟩
            · exact wpAny_pure ⟨rfl, rfl⟩
          · rw [ent_at M, hx]
            show wpAny _ _ (if (x.1.hash w == _) = true then _ else _) _ E s
            rw [if_pos (by rw [hc]; simp)]
            refine ask1 (F := fun same => if same = true then _ else _) hx ?_
            rw [if_pos (by simp [hc])]
            refine wpAny_bind (wpAny_rule ?_)
            split
            · exact wpAny_pure ⟨.inr ⟨_, rfl⟩, rfl⟩
            · exact wpAny_pure ⟨.inl rfl, rfl⟩
        · refine wpAny_bind (tell_none hk hst ?_)
          show wpAny _ _ (if (false && _) = true then _ else _) Q E s
          rw [if_neg (by simp)]
          show wpAny _ _ (forIn _ _ _ >>= _) Q E s
          refine wpAny_bind (asked _ _ (fun _ => rfl) (fun _ _ => rfl) (fun i hit x hx hc => ?_) fun i x hx hc => ?_)
          · rw [ent_at M, hx]
            show wpAny _ _ (if (x.1.hash w == _) = true then _ else _) _ E s
            split
            · refine ask1 (F := fun same => if same = true then _ else _) hx ?_
              rw [if_neg (by simp [hc])]
              refine wpAny_bind (wpAny_rule ?_)
              exact wpAny_pure ⟨rfl, rfl⟩
            · exact wpAny_pure ⟨rfl, rfl⟩
          · rw [ent_at M, hx]
            show wpAny _ _ (if (x.1.hash w == _) = true then _ else _) _ E s
            rw [if_pos (by rw [hc]; simp)]
            refine ask1 (F := fun same => if same = true then _ else _) hx ?_
            rw [if_pos (by simp [hc])]
            refine wpAny_bind (wpAny_rule ?_)
            split
            · exact wpAny_pure ⟨.inr ⟨_, rfl⟩, rfl⟩
            · exact wpAny_pure ⟨.inl rfl, rfl⟩
  · show wpAny _ _ (if ((Value.ref a :: _).all carriedByValue) = true then _ else _) Q E s
    rw [if_neg (by simp [carriedByValue])]
    show wpAny _ _ (if (es.any fun e => e.key == Value.ref a && e.hash != k.hash w) = true then _ else _) Q E s
    rw [if_neg (by rw [none_changed hk M his]; exact Bool.false_ne_true)]
    show wpAny _ _ (if (_ == [Value.ref a]) = true then _ else _) Q E s
    split
    · refine wpAny_bind (wpAny_pure ?_)
      show wpAny _ _ (if (false && _) = true then _ else _) Q E s
      rw [if_neg (by simp)]
      show wpAny _ _ (forIn _ _ _ >>= _) Q E s
      refine wpAny_bind (asked _ _ (fun _ => rfl) (fun _ _ => rfl) (fun i hit x hx hc => ?_) fun i x hx hc => ?_)
      · rw [ent_at M, hx]
        show wpAny _ _ (if (x.1.hash w == _) = true then _ else _) _ E s
        split
        · refine ask1 (F := fun same => if same = true then _ else _) hx ?_
          rw [if_neg (by simp [hc])]
          refine wpAny_bind (wpAny_rule ?_)
          exact wpAny_pure ⟨rfl, rfl⟩
        · exact wpAny_pure ⟨rfl, rfl⟩
      · rw [ent_at M, hx]
        show wpAny _ _ (if (x.1.hash w == _) = true then _ else _) _ E s
        rw [if_pos (by rw [hc]; simp)]
        refine ask1 (F := fun same => if same = true then _ else _) hx ?_
        rw [if_pos (by simp [hc])]
        refine wpAny_bind (wpAny_rule ?_)
        split
        · exact wpAny_pure ⟨.inr ⟨_, rfl⟩, rfl⟩
        · exact wpAny_pure ⟨.inl rfl, rfl⟩
    · refine wpAny_bind (tell_none hk hst ?_)
      show wpAny _ _ (if (false && _) = true then _ else _) Q E s
      rw [if_neg (by simp)]
      show wpAny _ _ (forIn _ _ _ >>= _) Q E s
      refine wpAny_bind (asked _ _ (fun _ => rfl) (fun _ _ => rfl) (fun i hit x hx hc => ?_) fun i x hx hc => ?_)
      · rw [ent_at M, hx]
        show wpAny _ _ (if (x.1.hash w == _) = true then _ else _) _ E s
        split
        · refine ask1 (F := fun same => if same = true then _ else _) hx ?_
          rw [if_neg (by simp [hc])]
          refine wpAny_bind (wpAny_rule ?_)
          exact wpAny_pure ⟨rfl, rfl⟩
        · exact wpAny_pure ⟨rfl, rfl⟩
      · rw [ent_at M, hx]
        show wpAny _ _ (if (x.1.hash w == _) = true then _ else _) _ E s
        rw [if_pos (by rw [hc]; simp)]
        refine ask1 (F := fun same => if same = true then _ else _) hx ?_
        rw [if_pos (by simp [hc])]
        refine wpAny_bind (wpAny_rule ?_)
        split
        · exact wpAny_pure ⟨.inr ⟨_, rfl⟩, rfl⟩
        · exact wpAny_pure ⟨.inl rfl, rfl⟩

theorem key_stays {h h' : Heap} {d : Addr} {o : Obj} {es : Array DictEntry} {ep : Nat} {k : NestedKey} {u : Value} (hk : KeyM h k u) (ho : h.get? d = some o) (hd : o.data = .dict es ep) (hs : Heap.SameBut d h h') : KeyM h' k u := by
  refine ⟨NestedIs.at (fun b ob vs n hb hv => ?_) k u hk.1, hk.2⟩
  have ne : b ≠ d := fun e => by
    rw [e, ho] at hb
    obtain rfl := Option.some.inj hb
    rw [hd] at hv
    cases hv
  exact (hs.2 b ne).trans hb
/-- entries behind d[k] = v -/
def storedM (xs : List MEnt) (k : NestedKey) (u v : Value) : List MEnt :=
  match ixM xs k with
  | some i => xs.modify i fun x => (x.1, x.2.1, v)
  | none => xs ++ [(k, u, v)]
theorem modify_keys (v : Value) : ∀ (xs : List MEnt) (i : Nat), (xs.modify i fun x => (x.1, x.2.1, v)).map (·.1) = xs.map (·.1)
  | [], i => by simp
  | x :: xs, 0 => by simp
  | x :: xs, i + 1 => by simp [modify_keys v xs i]
theorem modify_ents (v : Value) : ∀ (xs : List MEnt) (i : Nat), (xs.map (entM w)).modify i (fun e : DictEntry => { e with val := v }) = (xs.modify i fun x => (x.1, x.2.1, v)).map (entM w)
  | [], i => by simp
  | x :: xs, 0 => by simp [entM]
  | x :: xs, i + 1 => by simp [modify_ents v xs i]
theorem modify_mem (v : Value) : ∀ {xs : List MEnt} {i : Nat} {y : MEnt}, y ∈ (xs.modify i fun x => (x.1, x.2.1, v)) → ∃ x ∈ xs, x.1 = y.1 ∧ x.2.1 = y.2.1
  | [], i, y, h => by simp at h
  | x :: xs, 0, y, h => by
    simp only [List.modify_zero_cons, List.mem_cons] at h
    rcases h with h | h
    · exact ⟨x, by simp, by rw [h], by rw [h]⟩
    · exact ⟨y, by simp [h], rfl, rfl⟩
  | x :: xs, i + 1, y, h => by
    simp only [List.modify_succ_cons, List.mem_cons] at h
    rcases h with h | h
    · exact ⟨x, by simp, by rw [h], by rw [h]⟩
    · obtain ⟨z, hz, e⟩ := modify_mem v h
      exact ⟨z, by simp [hz], e⟩
/-- the look-up's value -/
theorem get_mixed {Q : Option Value → Shared → Prop} (hu : A.units + 8 < cLine) (hk : KeyM s.heap k u) (hkind : (∃ y t, u = Value.str y t) ∨ ∃ a, u = Value.ref a) (M : IsM w s.heap d xs o es ep) (his : ∀ x ∈ xs, KeyM s.heap x.1 x.2.1)
    (h : Q (atM xs k) { s with toks := s.toks + k.draws }) : wpAny (model prog w) A (dictGet d u) Q E s := by
  have hkd := hk.2
  unfold dictGet
  refine wpAny_holding (wpAny_bind (pyHash_key k u A s _ hk.1 (by omega) (wpAny_bind (find_mixed (s := { s with toks := s.toks + k.draws }) hu hk hkind M his ?_))))
  rw [atM_ix M.nod] at h
  cases e : ixM xs k with
  | none =>
    rw [e] at h
    exact wpAny_pure h
  | some i =>
    rw [e] at h
    refine wpAny_bind (wpAny_dictEntries (s := { s with toks := s.toks + k.draws }) M.got M.dat ?_)
    have e2 : (es[i]?).map (fun x => x.val) = (xs[i]?).map (·.2.2) := by
      rw [ent_at M, Option.map_map]
      rfl
    rw [e2]
    exact wpAny_pure h
theorem set_mixed {v : Value} {Q : Unit → Shared → Prop} (hu : A.units + 8 < cLine) (hk : KeyM s.heap k u) (hkind : (∃ y t, u = Value.str y t) ∨ ∃ a, u = Value.ref a) (M : IsM w s.heap d xs o es ep) (his : ∀ x ∈ xs, KeyM s.heap x.1 x.2.1) (hz : xs.length ≤ sizeLine)
    (h : ∀ h' o' es' ep', IsM w h' d (storedM xs k u v) o' es' ep' → Heap.SameBut d s.heap h' → Q () { s with heap := h', toks := s.toks + k.draws }) : wpAny (model prog w) A (dictSet d u v) Q E s := by
  have hkd := hk.2
  unfold dictSet
  refine wpAny_holding (wpAny_bind (pyHash_key k u A s _ hk.1 (by omega) ?_))
  unfold dictSetHashed
  refine wpAny_holding (wpAny_bind (find_mixed (s := { s with toks := s.toks + k.draws }) hu hk hkind M his ?_))
  unfold storedM at h
  cases e : ixM xs k with
  | none =>
    rw [e] at h
    have hl := ent_size M
    refine wpAny_bind (wpAny_rule (wpAny_updateDictKeys (hz := by omega) (s := { s with toks := s.toks + k.draws }) M.got M.dat (h _ _ _ (ep + 1)
      ⟨Heap.get?_update_self _ M.got (Obj.isFreed_of_dict (Obj.data_mapDictKeys M.dat _)), M.ex.mapDictKeys _, Obj.data_mapDictKeys M.dat _, ?_, ?_⟩ (Heap.SameBut.update ..))))
    · rw [Array.toList_push, M.ent, List.map_append]
      rfl
    · rw [List.map_append, List.nodup_append]
      refine ⟨M.nod, by simp, fun a ha b hb => ?_⟩
      have hb : b = k := by simpa using hb
      subst hb
      exact fun q => (ixM_none.mp e) (q ▸ ha)
  | some i =>
    rw [e] at h
    refine wpAny_bind (wpAny_rule (wpAny_bind (wpAny_updateDict (s := { s with toks := s.toks + k.draws }) M.got M.dat (wpAny_point (h _ _ _ ep
      ⟨Heap.get?_update_self _ M.got (Obj.isFreed_of_dict (Obj.data_mapDict M.dat _)), M.ex.mapDict _, Obj.data_mapDict M.dat _, ?_, ?_⟩ (Heap.SameBut.update ..))))))
    · have q := modify_ents (w := w) v xs i
      rw [← M.ent] at q
      obtain ⟨l⟩ := es
      simpa using q
    · show (((xs.modify i fun x => (x.1, x.2.1, v))).map (·.1)).Nodup
      rw [modify_keys]
      exact M.nod
end
end K12

set_option Elab.async false
set_option linter.all false
set_option maxRecDepth 100000
set_option maxHeartbeats 4000000
/-! Terms as tuples that are tracked; dicts of terms over the hand layer. -/
namespace K12
open PySem PySem.Spec PyProof.Rows L2

abbrev tPair : Str := "pair"
abbrev tBox : Str := "box"
abbrev tHalf : Str := "half"
abbrev tShut : Str := "shut"
abbrev tMark : Str := "mark"
abbrev tMix : Str := "mix"

/-- v is the term t -/
def TmAt (H : Hp) : Tm → V → Prop
  | .nm x, v => v = .str x
  | .pair a b, v => ∃ p y z, v = .ref p ∧ H p = some (.tup [.str tPair, y, z]) ∧ TmAt H a y ∧ TmAt H b z
  | .box a b, v => ∃ p y z, v = .ref p ∧ H p = some (.tup [.str tBox, y, z]) ∧ TmAt H a y ∧ TmAt H b z
  | .half x, v => ∃ p, v = .ref p ∧ H p = some (.tup [.str tHalf, .str x])
  | .shut x b, v => ∃ p z, v = .ref p ∧ H p = some (.tup [.str tShut, .str x, z]) ∧ TmAt H b z
  | .mark x b, v => ∃ p z, v = .ref p ∧ H p = some (.tup [.str tMark, .str x, z]) ∧ TmAt H b z
  | .mix b, v => ∃ p z, v = .ref p ∧ H p = some (.tup [.str tMix, z]) ∧ TmAt H b z
abbrev TmsAt (H : Hp) : List Tm → List V → Prop := Paired (TmAt H)
/-- tuples stay -/
def Tups (H H' : Hp) : Prop := ∀ b xs, H b = some (.tup xs) → H' b = some (.tup xs)
theorem Tups.refl (H : Hp) : Tups H H := fun _ _ h => h
theorem Tups.trans {H H1 H2 : Hp} (a : Tups H H1) (b : Tups H1 H2) : Tups H H2 := fun c o h => b c o (a c o h)
theorem Same.tups {H H' : Hp} (h : Same H H') : Tups H H' := fun b xs e => h b _ e
theorem TmAt.mono {H H' : Hp} (k : Tups H H') : ∀ {t : Tm} {v : V}, TmAt H t v → TmAt H' t v := by
  intro t
  induction t with
  | nm x => exact fun h => h
  | pair a b iha ihb => rintro v ⟨p, y, z, e, h, h1, h2⟩; exact ⟨p, y, z, e, k _ _ h, iha h1, ihb h2⟩
  | box a b iha ihb => rintro v ⟨p, y, z, e, h, h1, h2⟩; exact ⟨p, y, z, e, k _ _ h, iha h1, ihb h2⟩
  | half x => rintro v ⟨p, e, h⟩; exact ⟨p, e, k _ _ h⟩
  | shut x b ih => rintro v ⟨p, z, e, h, h1⟩; exact ⟨p, z, e, k _ _ h, ih h1⟩
  | mark x b ih => rintro v ⟨p, z, e, h, h1⟩; exact ⟨p, z, e, k _ _ h, ih h1⟩
  | mix b ih => rintro v ⟨p, z, e, h, h1⟩; exact ⟨p, z, e, k _ _ h, ih h1⟩
theorem TmsAt.mono {H H' : Hp} (k : Tups H H') {ts : List Tm} {vs : List V} (h : TmsAt H ts vs) : TmsAt H' ts vs := Paired.mapP h fun _ _ q => q.mono k
/-- the tag of a term that is no name -/
def tagOf : Tm → Str
  | .nm _ => tMix
  | .pair _ _ => tPair
  | .box _ _ => tBox
  | .half _ => tHalf
  | .shut _ _ => tShut
  | .mark _ _ => tMark
  | .mix _ => tMix
/-- a term that is no name: its tuple -/
theorem TmAt.node {H : Hp} {t : Tm} {v : V} (h : TmAt H t v) (hn : t.isNm = false) : ∃ p vs, v = .ref p ∧ H p = some (.tup (.str (tagOf t) :: vs)) ∧ TmsAt H t.kids vs := by
  cases t with
  | nm x => cases hn
  | pair a b => obtain ⟨p, y, z, e, h, h1, h2⟩ := h; exact ⟨p, _, e, h, .cons h1 (.cons h2 .nil)⟩
  | box a b => obtain ⟨p, y, z, e, h, h1, h2⟩ := h; exact ⟨p, _, e, h, .cons h1 (.cons h2 .nil)⟩
  | half x => obtain ⟨p, e, h⟩ := h; exact ⟨p, _, e, h, .cons rfl .nil⟩
  | shut x b => obtain ⟨p, z, e, h, h1⟩ := h; exact ⟨p, _, e, h, .cons rfl (.cons h1 .nil)⟩
  | mark x b => obtain ⟨p, z, e, h, h1⟩ := h; exact ⟨p, _, e, h, .cons rfl (.cons h1 .nil)⟩
  | mix b => obtain ⟨p, z, e, h, h1⟩ := h; exact ⟨p, _, e, h, .cons h1 .nil⟩
theorem TmAt.name {H : Hp} {t : Tm} {v : V} (h : TmAt H t v) (hn : t.isNm = true) : ∃ x, t = .nm x ∧ v = .str x := by
  cases t with
  | nm x => exact ⟨x, rfl, h⟩
  | _ => cases hn

/-! ### as a key -/
def key : Tm → NestedKey
  | .nm x => .text x
  | .pair a b => .tup [.text tPair, key a, key b]
  | .box a b => .tup [.text tBox, key a, key b]
  | .half x => .tup [.text tHalf, .text x]
  | .shut x b => .tup [.text tShut, .text x, key b]
  | .mark x b => .tup [.text tMark, .text x, key b]
  | .mix b => .tup [.text tMix, key b]
theorem key_depth : ∀ t : Tm, (key t).depth + 1 = t.depth := by
  intro t
  induction t with
  | nm x => rfl
  | pair a b iha ihb => simp only [key, NestedKey.depth, NestedKey.depthAll, Tm.depth]; omega
  | box a b iha ihb => simp only [key, NestedKey.depth, NestedKey.depthAll, Tm.depth]; omega
  | half x => rfl
  | shut x b ih => simp only [key, NestedKey.depth, NestedKey.depthAll, Tm.depth]; omega
  | mark x b ih => simp only [key, NestedKey.depth, NestedKey.depthAll, Tm.depth]; omega
  | mix b ih => simp only [key, NestedKey.depth, NestedKey.depthAll, Tm.depth]; omega
theorem tags_ne : tPair ≠ tBox ∧ tShut ≠ tMark ∧ tHalf ≠ tMix ∧ tPair ≠ tShut ∧ tPair ≠ tMark ∧ tBox ≠ tShut ∧ tBox ≠ tMark ∧ tPair ≠ tHalf ∧ tPair ≠ tMix ∧ tBox ≠ tHalf ∧ tBox ≠ tMix ∧ tShut ≠ tHalf ∧ tShut ≠ tMix ∧ tMark ≠ tHalf ∧ tMark ≠ tMix := by decide +kernel
theorem key_inj : ∀ {a b : Tm}, key a = key b → a = b := by
  obtain ⟨n1, n2, n3, n4, n5, n6, n7, n8, n9, n10, n11, n12, n13, n14, n15⟩ := tags_ne
  have tx : ∀ {x y : Str}, (NestedKey.text x = NestedKey.text y) → x = y := fun e => NestedKey.text.inj e
  intro a
  induction a with
  | nm x =>
    intro b e
    cases b with
    | nm y => have e : NestedKey.text x = NestedKey.text y := e; rw [tx e]
    | _ => exact nomatch e
  | pair a1 a2 h1 h2 =>
    intro b e
    cases b with
    | pair b1 b2 =>
      simp only [key, NestedKey.tup.injEq, List.cons.injEq, NestedKey.text.injEq, true_and, and_true] at e
      rw [h1 e.1, h2 e.2]
    | nm y => exact nomatch e
    | _ => simp only [key, NestedKey.tup.injEq, List.cons.injEq, NestedKey.text.injEq, reduceCtorEq, and_false, false_and] at e <;> first | exact absurd e.1 n1 | exact absurd e.1 n4 | exact absurd e.1 n5 | exact absurd e.1 n8 | exact absurd e.1 n9 | exact e.elim
  | box a1 a2 h1 h2 =>
    intro b e
    cases b with
    | box b1 b2 =>
      simp only [key, NestedKey.tup.injEq, List.cons.injEq, NestedKey.text.injEq, true_and, and_true] at e
      rw [h1 e.1, h2 e.2]
    | nm y => exact nomatch e
    | _ => simp only [key, NestedKey.tup.injEq, List.cons.injEq, NestedKey.text.injEq, reduceCtorEq, and_false, false_and] at e <;> first | exact absurd e.1.symm n1 | exact absurd e.1 n6 | exact absurd e.1 n7 | exact absurd e.1 n10 | exact absurd e.1 n11 | exact e.elim
  | half x =>
    intro b e
    cases b with
    | half y =>
      simp only [key, NestedKey.tup.injEq, List.cons.injEq, NestedKey.text.injEq, true_and, and_true] at e
      rw [e]
    | nm y => exact nomatch e
    | _ => simp only [key, NestedKey.tup.injEq, List.cons.injEq, NestedKey.text.injEq, reduceCtorEq, and_false, false_and] at e <;> first | exact absurd e.1 n3 | exact e.elim
  | shut x a h =>
    intro b e
    cases b with
    | shut y b =>
      simp only [key, NestedKey.tup.injEq, List.cons.injEq, NestedKey.text.injEq, true_and, and_true] at e
      rw [e.1, h e.2]
    | nm y => exact nomatch e
    | _ => simp only [key, NestedKey.tup.injEq, List.cons.injEq, NestedKey.text.injEq, reduceCtorEq, and_false, false_and] at e <;> first | exact absurd e.1 n2 | exact absurd e.1.symm n4 | exact absurd e.1.symm n6 | exact e.elim
  | mark x a h =>
    intro b e
    cases b with
    | mark y b =>
      simp only [key, NestedKey.tup.injEq, List.cons.injEq, NestedKey.text.injEq, true_and, and_true] at e
      rw [e.1, h e.2]
    | nm y => exact nomatch e
    | _ => simp only [key, NestedKey.tup.injEq, List.cons.injEq, NestedKey.text.injEq, reduceCtorEq, and_false, false_and] at e <;> first | exact absurd e.1.symm n2 | exact absurd e.1.symm n5 | exact absurd e.1.symm n7 | exact e.elim
  | mix a h =>
    intro b e
    cases b with
    | mix b =>
      simp only [key, NestedKey.tup.injEq, List.cons.injEq, NestedKey.text.injEq, true_and, and_true] at e
      rw [h e]
    | nm y => exact nomatch e
    | _ => simp only [key, NestedKey.tup.injEq, List.cons.injEq, NestedKey.text.injEq, reduceCtorEq, and_false, false_and] at e <;> first | exact absurd e.1.symm n3 | exact e.elim
theorem key_dec (a b : Tm) : decide (key a = key b) = decide (a = b) := by
  by_cases e : a = b
  · rw [e]; simp
  · rw [decide_eq_false e, decide_eq_false fun q => e (key_inj q)]

section
variable {P : Program} {w : World} {H : Hp} {h : Heap}
theorem nested_tup {p : Addr} {xs : List V} {ks : List NestedKey} (ok : HOk P w H h) (e : H p = some (.tup xs)) (hk : ∀ its, Vals xs its → NestedAll h ks its) : NestedIs h (.tup ks) (.ref p) := by
  obtain ⟨_, its, r, o, h1, h2, n, h3⟩ := (show ObjOk P w H h p (.tup xs) from ok p _ e)
  exact .tup h1 h2 h3 (by simpa using hk its r)
theorem TmAt.nested (ok : HOk P w H h) : ∀ {t : Tm} {v : V} {u : Value}, TmAt H t v → RelV v u → NestedIs h (key t) u := by
  have tx : ∀ {x : Str} {u : Value}, RelV (.str x) u → NestedIs h (.text x) u := fun {x u} r => by obtain ⟨t, rfl⟩ := r; exact .text _ _
  intro t
  induction t with
  | nm x => intro v u e r; have e : v = .str x := e; subst e; exact tx r
  | pair a b iha ihb =>
    rintro v u ⟨p, y, z, rfl, e, h1, h2⟩ rfl
    exact nested_tup ok e fun its r => by
      cases r with | cons r1 r => cases r with | cons r2 r => cases r with | cons r3 r => cases r; exact .cons (tx r1) (.cons (iha h1 r2) (.cons (ihb h2 r3) .nil))
  | box a b iha ihb =>
    rintro v u ⟨p, y, z, rfl, e, h1, h2⟩ rfl
    exact nested_tup ok e fun its r => by
      cases r with | cons r1 r => cases r with | cons r2 r => cases r with | cons r3 r => cases r; exact .cons (tx r1) (.cons (iha h1 r2) (.cons (ihb h2 r3) .nil))
  | half x =>
    rintro v u ⟨p, rfl, e⟩ rfl
    exact nested_tup ok e fun its r => by
      cases r with | cons r1 r => cases r with | cons r2 r => cases r; exact .cons (tx r1) (.cons (tx r2) .nil)
  | shut x b ih =>
    rintro v u ⟨p, z, rfl, e, h1⟩ rfl
    exact nested_tup ok e fun its r => by
      cases r with | cons r1 r => cases r with | cons r2 r => cases r with | cons r3 r => cases r; exact .cons (tx r1) (.cons (tx r2) (.cons (ih h1 r3) .nil))
  | mark x b ih =>
    rintro v u ⟨p, z, rfl, e, h1⟩ rfl
    exact nested_tup ok e fun its r => by
      cases r with | cons r1 r => cases r with | cons r2 r => cases r with | cons r3 r => cases r; exact .cons (tx r1) (.cons (tx r2) (.cons (ih h1 r3) .nil))
  | mix b ih =>
    rintro v u ⟨p, z, rfl, e, h1⟩ rfl
    exact nested_tup ok e fun its r => by
      cases r with | cons r1 r => cases r with | cons r2 r => cases r; exact .cons (tx r1) (.cons (ih h1 r2) .nil)
theorem TmAt.keyM (ok : HOk P w H h) {t : Tm} {v : V} {u : Value} (q : TmAt H t v) (r : RelV v u) (hd : t.depth ≤ 9) : KeyM h (key t) u := ⟨q.nested ok r, by have := key_depth t; omega⟩
theorem TmAt.kind {t : Tm} {v : V} {u : Value} (q : TmAt H t v) (r : RelV v u) : (∃ y k, u = Value.str y k) ∨ ∃ a, u = Value.ref a := by
  cases c : t.isNm with
  | true =>
    obtain ⟨x, rfl, rfl⟩ := q.name c
    obtain ⟨k, rfl⟩ := r
    exact .inl ⟨x, k, rfl⟩
  | false =>
    obtain ⟨p, vs, rfl, _⟩ := q.node c
    exact .inr ⟨p, r⟩
end

/-! ### as data -/
def data : Tm → PyData
  | .nm x => .str x
  | .pair a b => .tuple [.str tPair, data a, data b]
  | .box a b => .tuple [.str tBox, data a, data b]
  | .half x => .tuple [.str tHalf, .str x]
  | .shut x b => .tuple [.str tShut, .str x, data b]
  | .mark x b => .tuple [.str tMark, .str x, data b]
  | .mix b => .tuple [.str tMix, data b]
theorem TmAt.dp {K : PySem.W.Frag} {H : Hp} : ∀ {t : Tm} {v : V}, TmAt H t v → Dp K H v (data t) := by
  intro t
  induction t with
  | nm x => intro v e; have e : v = .str x := e; subst e; exact .str x
  | pair a b iha ihb => rintro v ⟨p, y, z, rfl, e, h1, h2⟩; exact .tup (.inl (.inl e)) (.cons (.str _) (.cons (iha h1) (.cons (ihb h2) .nil)))
  | box a b iha ihb => rintro v ⟨p, y, z, rfl, e, h1, h2⟩; exact .tup (.inl (.inl e)) (.cons (.str _) (.cons (iha h1) (.cons (ihb h2) .nil)))
  | half x => rintro v ⟨p, rfl, e⟩; exact .tup (.inl (.inl e)) (.cons (.str _) (.cons (.str _) .nil))
  | shut x b ih => rintro v ⟨p, z, rfl, e, h1⟩; exact .tup (.inl (.inl e)) (.cons (.str _) (.cons (.str _) (.cons (ih h1) .nil)))
  | mark x b ih => rintro v ⟨p, z, rfl, e, h1⟩; exact .tup (.inl (.inl e)) (.cons (.str _) (.cons (.str _) (.cons (ih h1) .nil)))
  | mix b ih => rintro v ⟨p, z, rfl, e, h1⟩; exact .tup (.inl (.inl e)) (.cons (.str _) (.cons (ih h1) .nil))
theorem TmsAt.dp {K : PySem.W.Frag} {H : Hp} {ts : List Tm} {vs : List V} (h : TmsAt H ts vs) : DpAll K H vs (ts.map data) := by
  induction h with
  | nil => exact .nil
  | cons r _ ih => exact .cons r.dp ih
theorem eqv_str (x y : Str) : PyData.eqv (.str x) (.str y) = decide (x = y) := by
  by_cases e : x = y
  · subst e; simp [PyData.eqv]
  · have : (x == y) = false := beq_eq_false_iff_ne.mpr e
    simp [PyData.eqv, this, e]
theorem eqv_cons (s t : PyData) (xs ys : List PyData) : PyData.eqv (.tuple (s :: xs)) (.tuple (t :: ys)) = (PyData.eqv s t && PyData.eqv (.tuple xs) (.tuple ys)) := by
  simp only [PyData.eqv, PyData.eqvAll]
theorem eqv_nil : PyData.eqv (.tuple []) (.tuple []) = true := by simp only [PyData.eqv, PyData.eqvAll]
theorem eqv_ne {s t : Str} (xs ys : List PyData) (h : s ≠ t) : PyData.eqv (.tuple (.str s :: xs)) (.tuple (.str t :: ys)) = false := by
  rw [eqv_cons, eqv_str, decide_eq_false h, Bool.false_and]
theorem eqv_st (s : Str) (xs : List PyData) : PyData.eqv (.str s) (.tuple xs) = false ∧ PyData.eqv (.tuple xs) (.str s) = false := by
  constructor <;> simp only [PyData.eqv]
theorem data_eqv : ∀ a b : Tm, PyData.eqv (data a) (data b) = decide (a = b) := by
  obtain ⟨n1, n2, n3, n4, n5, n6, n7, n8, n9, n10, n11, n12, n13, n14, n15⟩ := tags_ne
  have no : ∀ {a b : Tm} {c : Bool}, c = false → a ≠ b → c = decide (a = b) := fun h n => by rw [h, decide_eq_false n]
  intro a
  induction a with
  | nm x =>
    intro b
    cases b with
    | nm y => rw [data, data, eqv_str]; simp
    | _ => exact no (eqv_st _ _).1 (fun e => nomatch e)
  | pair a1 a2 h1 h2 =>
    intro b
    cases b with
    | pair b1 b2 => rw [data, data, eqv_cons, eqv_cons, eqv_cons, eqv_nil, eqv_str, h1, h2]; simp
    | nm y => exact no (eqv_st _ _).2 (fun e => nomatch e)
    | _ => first | exact no (eqv_ne _ _ n1) (fun e => nomatch e) | exact no (eqv_ne _ _ n4) (fun e => nomatch e) | exact no (eqv_ne _ _ n5) (fun e => nomatch e) | exact no (eqv_ne _ _ n8) (fun e => nomatch e) | exact no (eqv_ne _ _ n9) (fun e => nomatch e)
  | box a1 a2 h1 h2 =>
    intro b
    cases b with
    | box b1 b2 => rw [data, data, eqv_cons, eqv_cons, eqv_cons, eqv_nil, eqv_str, h1, h2]; simp
    | nm y => exact no (eqv_st _ _).2 (fun e => nomatch e)
    | _ => first | exact no (eqv_ne _ _ n1.symm) (fun e => nomatch e) | exact no (eqv_ne _ _ n6) (fun e => nomatch e) | exact no (eqv_ne _ _ n7) (fun e => nomatch e) | exact no (eqv_ne _ _ n10) (fun e => nomatch e) | exact no (eqv_ne _ _ n11) (fun e => nomatch e)
  | half x =>
    intro b
    cases b with
    | half y => rw [data, data, eqv_cons, eqv_cons, eqv_nil, eqv_str, eqv_str]; simp
    | nm y => exact no (eqv_st _ _).2 (fun e => nomatch e)
    | _ => first | exact no (eqv_ne _ _ n8.symm) (fun e => nomatch e) | exact no (eqv_ne _ _ n10.symm) (fun e => nomatch e) | exact no (eqv_ne _ _ n12.symm) (fun e => nomatch e) | exact no (eqv_ne _ _ n14.symm) (fun e => nomatch e) | exact no (eqv_ne _ _ n3) (fun e => nomatch e)
  | shut x a h =>
    intro b
    cases b with
    | shut y b => rw [data, data, eqv_cons, eqv_cons, eqv_cons, eqv_nil, eqv_str, eqv_str, h]; simp
    | nm y => exact no (eqv_st _ _).2 (fun e => nomatch e)
    | _ => first | exact no (eqv_ne _ _ n4.symm) (fun e => nomatch e) | exact no (eqv_ne _ _ n6.symm) (fun e => nomatch e) | exact no (eqv_ne _ _ n2) (fun e => nomatch e) | exact no (eqv_ne _ _ n12) (fun e => nomatch e) | exact no (eqv_ne _ _ n13) (fun e => nomatch e)
  | mark x a h =>
    intro b
    cases b with
    | mark y b => rw [data, data, eqv_cons, eqv_cons, eqv_cons, eqv_nil, eqv_str, eqv_str, h]; simp
    | nm y => exact no (eqv_st _ _).2 (fun e => nomatch e)
    | _ => first | exact no (eqv_ne _ _ n5.symm) (fun e => nomatch e) | exact no (eqv_ne _ _ n7.symm) (fun e => nomatch e) | exact no (eqv_ne _ _ n2.symm) (fun e => nomatch e) | exact no (eqv_ne _ _ n14) (fun e => nomatch e) | exact no (eqv_ne _ _ n15) (fun e => nomatch e)
  | mix a h =>
    intro b
    cases b with
    | mix b => rw [data, data, eqv_cons, eqv_cons, eqv_nil, eqv_str, h]; simp
    | nm y => exact no (eqv_st _ _).2 (fun e => nomatch e)
    | _ => first | exact no (eqv_ne _ _ n9.symm) (fun e => nomatch e) | exact no (eqv_ne _ _ n11.symm) (fun e => nomatch e) | exact no (eqv_ne _ _ n3.symm) (fun e => nomatch e) | exact no (eqv_ne _ _ n13.symm) (fun e => nomatch e) | exact no (eqv_ne _ _ n15.symm) (fun e => nomatch e)
theorem str_ok {x : Str} (g : GoodNm x) : PyData.strOk x = true := by
  unfold PyData.strOk
  rw [← Array.all_toList, List.all_eq_true]
  intro c hc
  have := g.low c hc
  unfold isL at this
  exact decide_eq_true (by omega)
theorem tags_ok : PyData.strOk tPair = true ∧ PyData.strOk tBox = true ∧ PyData.strOk tHalf = true ∧ PyData.strOk tShut = true ∧ PyData.strOk tMark = true ∧ PyData.strOk tMix = true := by decide +kernel
theorem data_lay : ∀ {t : Tm}, Good t → (data t).canLay0 = true := by
  obtain ⟨o1, o2, o3, o4, o5, o6⟩ := tags_ok
  intro t
  induction t with
  | nm x => intro g; simpa [data, PyData.canLay0] using str_ok (good_n g)
  | pair a b iha ihb => intro g; simp [data, PyData.canLay0, PyData.canLayAll0, o1, iha (good_l g).1, ihb (good_l g).2]
  | box a b iha ihb => intro g; simp [data, PyData.canLay0, PyData.canLayAll0, o2, iha (good_b g).1, ihb (good_b g).2]
  | half x => intro g; simp [data, PyData.canLay0, PyData.canLayAll0, o3, str_ok (good_h g)]
  | shut x a h => intro g; simp [data, PyData.canLay0, PyData.canLayAll0, o4, str_ok (good_s g).1, h (good_s g).2]
  | mark x a h => intro g; simp [data, PyData.canLay0, PyData.canLayAll0, o5, str_ok (good_m g).1, h (good_m g).2]
  | mix a h => intro g; simp [data, PyData.canLay0, PyData.canLayAll0, o6, h (good_x g)]
theorem data_depth : ∀ t : Tm, (data t).depth + 1 ≤ t.depth + 1 := by
  intro t
  induction t with
  | nm x => simp [data, PyData.depth, Tm.depth]
  | pair a b iha ihb => simp only [data, PyData.depth, PyData.depthAll, Tm.depth]; omega
  | box a b iha ihb => simp only [data, PyData.depth, PyData.depthAll, Tm.depth]; omega
  | half x => simp [data, PyData.depth, PyData.depthAll, Tm.depth]
  | shut x b ih => simp only [data, PyData.depth, PyData.depthAll, Tm.depth]; omega
  | mark x b ih => simp only [data, PyData.depth, PyData.depthAll, Tm.depth]; omega
  | mix b ih => simp only [data, PyData.depth, PyData.depthAll, Tm.depth]; omega
theorem data_shaped {t : Tm} (g : Good t) (h : t.depth ≤ 9) : SeqAt.shaped (data t) = true := by
  have := data_depth t
  show ((data t).canLay0 && decide ((data t).depth ≤ 64)) = true
  rw [data_lay g, Bool.true_and]
  exact decide_eq_true (by omega)
theorem datas_shaped {ts : List Tm} (g : ∀ t ∈ ts, Good t ∧ t.depth ≤ 9) : SeqAt.shaped (.list (ts.map data)) = true := by
  have both : PyData.canLayAll0 (ts.map data) = true ∧ PyData.depthAll (ts.map data) ≤ 9 := by
    induction ts with
    | nil => exact ⟨rfl, by simp [PyData.depthAll]⟩
    | cons t ts ih =>
      have h1 := data_depth t
      have h2 := g t (by simp)
      obtain ⟨h3, h4⟩ := ih fun u hu => g u (by simp [hu])
      refine ⟨by simp [PyData.canLayAll0, data_lay h2.1, h3], ?_⟩
      simp only [List.map_cons, PyData.depthAll]
      omega
  show ((PyData.list (ts.map data)).canLay0 && decide ((PyData.list (ts.map data)).depth ≤ 64)) = true
  rw [Bool.and_eq_true]
  exact ⟨by simpa [PyData.canLay0] using both.1, decide_eq_true (by have := both.2; simp only [PyData.depth]; omega)⟩
theorem any_data (ts : List Tm) (t : Tm) : ((ts.map data).any fun z => PyData.eqv z (data t)) = decide (t ∈ ts) := by
  induction ts with
  | nil => simp
  | cons u ts ih =>
    rw [List.map_cons, List.any_cons, data_eqv, ih]
    by_cases e : u = t
    · subst e; simp
    · have e' : ¬ t = u := fun q => e q.symm
      simp [e, e']
end K12

set_option Elab.async false
set_option linter.all false
set_option maxRecDepth 100000
set_option maxHeartbeats 4000000
/-! Dicts of terms over the hand layer: rules. -/
namespace K12
open PySem PySem.Spec L2

/-! ### base: the operations -/
section
variable {prog : Program} {w : World} {A : Around} {E : Value → Shared → Prop} {s : Shared} {d : Addr} {o : Obj} {es : Array DictEntry} {ep : Nat} {xs : List MEnt} {k : NestedKey} {u : Value}
theorem IsM.typeIs (M : IsM w s.heap d xs o es ep) : s.TypeIs (.ref d) "dict" := ⟨o, M.got, M.ex.1⟩
theorem has_mixed {Q : Bool → Shared → Prop} (hu : A.units + 9 < cLine) (hd : (d == sysModules) = false) (hk : KeyM s.heap k u) (hkind : (∃ y t, u = Value.str y t) ∨ ∃ a, u = Value.ref a) (M : IsM w s.heap d xs o es ep) (his : ∀ x ∈ xs, KeyM s.heap x.1 x.2.1)
    (h : Q (atM xs k).isSome { s with toks := s.toks + k.draws }) : wpAny (model prog w) A (contains (.ref d) u) Q E s := by
  refine wpAny_contains_slot M.typeIs F.slot_dict_contains ?_
  refine call_meetsIn F.slot_dict_contains M.typeIs F.entry_dict_contains (F.args_dict_contains_2 _ _) (S := fun A1 R t => A1 = A ∧ t = s ∧ R (.ok (.ret (.bool (atM xs k).isSome))) { s with toks := s.toks + k.draws }) (fun A1 R t hS => ?_) ⟨rfl, rfl, wpAny_truthy_bool h⟩
  obtain ⟨rfl, rfl, hq⟩ := hS
  show wpAny _ _ (dictGet d u >>= _) _ _ _
  refine wpAny_bind (get_mixed (by rw [Around.in1_units]; omega) hk hkind M his ?_)
  cases e : atM xs k with
  | some p =>
    rw [e] at hq
    show wpAny _ _ (ret (.bool true)) _ _ _
    exact wpAny_pure hq
  | none =>
    rw [e] at hq
    show wpAny _ _ (Builtin.Dict.pendingKey? d u >>= _) _ _ _
    exact wpAny_bind (wpAny_pendingKey_other hd (wpAny_pure hq))
theorem in_mixed {Q : Value → Shared → Prop} (hu : A.units + 9 < cLine) (hd : (d == sysModules) = false) (hk : KeyM s.heap k u) (hkind : (∃ y t, u = Value.str y t) ∨ ∃ a, u = Value.ref a) (M : IsM w s.heap d xs o es ep) (his : ∀ x ∈ xs, KeyM s.heap x.1 x.2.1)
    (h : Q (.bool (atM xs k).isSome) { s with toks := s.toks + k.draws }) : wpAny (model prog w) A (compareOp .In u (.ref d)) Q E s :=
  show wpAny _ _ (do return .bool (← contains (.ref d) u)) Q E s from wpAny_bind (has_mixed hu hd hk hkind M his (wpAny_pure h))
theorem notIn_mixed {Q : Value → Shared → Prop} (hu : A.units + 9 < cLine) (hd : (d == sysModules) = false) (hk : KeyM s.heap k u) (hkind : (∃ y t, u = Value.str y t) ∨ ∃ a, u = Value.ref a) (M : IsM w s.heap d xs o es ep) (his : ∀ x ∈ xs, KeyM s.heap x.1 x.2.1)
    (h : Q (.bool (!(atM xs k).isSome)) { s with toks := s.toks + k.draws }) : wpAny (model prog w) A (compareOp .NotIn u (.ref d)) Q E s :=
  show wpAny _ _ (do return .bool (!(← contains (.ref d) u))) Q E s from wpAny_bind (has_mixed hu hd hk hkind M his (wpAny_pure h))
theorem getD_mixed {z : Value} {Q : Value → Shared → Prop} (hu : A.units + 9 < cLine) (hd : (d == sysModules) = false) (hk : KeyM s.heap k u) (hkind : (∃ y t, u = Value.str y t) ∨ ∃ a, u = Value.ref a) (M : IsM w s.heap d xs o es ep) (his : ∀ x ∈ xs, KeyM s.heap x.1 x.2.1)
    (h : Q ((atM xs k).getD z) { s with toks := s.toks + k.draws }) : wpAny (model prog w) A (call (.builtin "dict.get") [.ref d, u, z]) Q E s := by
  refine call_meetsIn F.slot_dict_get M.typeIs F.entry_dict_get (F.args_dict_get_3 _ _ _) (S := fun A1 R t => A1 = A ∧ t = s ∧ R (.ok (.ret ((atM xs k).getD z))) { s with toks := s.toks + k.draws }) (fun A1 R t hS => ?_) ⟨rfl, rfl, h⟩
  obtain ⟨rfl, rfl, hq⟩ := hS
  show wpAny _ _ (dictGet d u >>= _) _ _ _
  refine wpAny_bind (get_mixed (by rw [Around.in1_units]; omega) hk hkind M his ?_)
  cases e : atM xs k with
  | some p =>
    rw [e] at hq
    exact wpAny_pure hq
  | none =>
    rw [e] at hq
    show wpAny _ _ (Builtin.Dict.missed d u >>= _) _ _ _
    exact wpAny_bind (wpAny_missed_other hd (wpAny_pure hq))
theorem put_mixed {v : Value} {Q : Unit → Shared → Prop} (hu : A.units + 9 < cLine) (hk : KeyM s.heap k u) (hkind : (∃ y t, u = Value.str y t) ∨ ∃ a, u = Value.ref a) (M : IsM w s.heap d xs o es ep) (his : ∀ x ∈ xs, KeyM s.heap x.1 x.2.1) (hz : xs.length ≤ sizeLine)
    (h : ∀ h' o' es' ep', IsM w h' d (storedM xs k u v) o' es' ep' → Heap.SameBut d s.heap h' → Q () { s with heap := h', toks := s.toks + k.draws }) : wpAny (model prog w) A (setItem (.ref d) u v) Q E s := by
  unfold setItem
  refine wpAny_holding (wpAny_bind (wpAny_sequenceKey M.typeIs (by decide) (wpAny_bind (wpAny_callSpecial?_slot (name := Str.ofString "__setitem__") M.typeIs F.slot_dict_setitem
    (call_meetsIn F.slot_dict_setitem M.typeIs F.entry_dict_setitem (F.args_dict_setitem_3 _ _ _) (S := fun A1 R t => A1 = A ∧ t = s ∧ ∀ h' o' es' ep', IsM w h' d (storedM xs k u v) o' es' ep' → Heap.SameBut d s.heap h' → R (.ok (.ret .none)) { s with heap := h', toks := s.toks + k.draws }) (fun A1 R t hS => ?_) ⟨rfl, rfl, ?_⟩)))))
  · obtain ⟨rfl, rfl, hq⟩ := hS
    show wpAny _ _ (Builtin.Dict.notOrdered "__setitem__" ⟨[.ref d, u, v], []⟩ >>= _) _ _ _
    refine wpAny_bind (wpAny_notOrdered_dict M.typeIs ?_)
    show wpAny _ _ (dictSet d u v >>= _) _ _ _
    exact wpAny_bind (set_mixed (by rw [Around.in1_units]; omega) hk hkind M his hz fun h' o' es' ep' M' hs => wpAny_pure (hq h' o' es' ep' M' hs))
  · exact fun h' o' es' ep' M' hs => wpAny_pure (h h' o' es' ep' M' hs)
end

/-! ### the tracked dict of terms -/
abbrev TEnt := Tm × V
/-- the terms that stand in it -/
abbrev tms (kvs : List TEnt) : List Tm := kvs.map (·.1)
abbrev EntsOf : List TEnt → List MEnt → Prop := Paired fun p x => x.1 = key p.1 ∧ RelV p.2 x.2.1 ∧ x.2.2 = Value.bool true
/-- the dict at d: its terms with the keys' values, each standing for True -/
def DictT (w : World) (d : Addr) (kvs : List TEnt) (h : Heap) : Prop :=
  kvs.length ≤ sizeLine ∧ (d == sysModules) = false ∧ ∃ xs o es ep, EntsOf kvs xs ∧ IsM w h d xs o es ep
def hoT (w : World) (d : Addr) (kvs : List TEnt) : HO := .ext (DictT w d kvs)
theorem hoT_ok {P : Program} {w : World} {H : Hp} {h : Heap} {d : Addr} {kvs : List TEnt} (x : DictT w d kvs h) : ObjOk P w H h d (hoT w d kvs) := by
  obtain ⟨_, _, xs, o, es, ep, _, M⟩ := id x
  refine ⟨x, ⟨o, M.got⟩, fun h1 h2 ⟨z, hd, xs, o, es, ep, r, M⟩ k => ⟨z, hd, xs, o, es, ep, r, ⟨k o M.got, M.ex, M.dat, M.ent, M.nod⟩⟩⟩
/-- its terms are terms in the heap, not too deep -/
structure TD (w : World) (H : Hp) (d : Addr) (kvs : List TEnt) : Prop where
  rd : Rd H d (hoT w d kvs)
  ks : ∀ p ∈ kvs, TmAt H p.1 p.2 ∧ p.1.depth ≤ 9
theorem Rd.hoT {P : Program} {w : World} {H : Hp} {h : Heap} {d : Addr} {kvs : List TEnt} (r : Rd H d (K12.hoT w d kvs)) (ok : HOk P w H h) : DictT w d kvs h := (show ObjOk P w H h d (K12.hoT w d kvs) from r.ok ok).1

theorem ents_keys {kvs : List TEnt} {xs : List MEnt} (r : EntsOf kvs xs) : xs.map (·.1) = (tms kvs).map key := by
  induction r with
  | nil => rfl
  | @cons p x ps xs h _ ih =>
    show x.1 :: xs.map (·.1) = key p.1 :: (tms ps).map key
    rw [ih, h.1]
theorem ents_at {kvs : List TEnt} {xs : List MEnt} (r : EntsOf kvs xs) (t : Tm) : atM xs (key t) = if t ∈ tms kvs then some (Value.bool true) else none := by
  induction r with
  | nil => rfl
  | @cons p x ps xs h _ ih =>
    unfold atM at *
    rw [List.find?_cons]
    have e : decide (x.1 = key t) = decide (p.1 = t) := by rw [h.1, key_dec]
    rw [e]
    by_cases c : p.1 = t
    · rw [decide_eq_true c]
      simp [tms, c, h.2.2]
    · rw [decide_eq_false c]
      have c' : ¬ t = p.1 := fun q => c q.symm
      rw [ih]
      have m : t ∈ tms (p :: ps) ↔ t ∈ tms ps := by
        simp only [tms, List.map_cons, List.mem_cons, c', false_or]
      by_cases z : t ∈ tms ps
      · rw [if_pos z, if_pos (m.mpr z)]
      · rw [if_neg z, if_neg fun q => z (m.mp q)]
theorem ents_nodup {kvs : List TEnt} {xs : List MEnt} (r : EntsOf kvs xs) (h : (xs.map (·.1)).Nodup) : (tms kvs).Nodup := by
  rw [ents_keys r] at h
  exact List.Pairwise.of_map key (fun a b h e => h (congrArg key e)) h
theorem ents_mem {kvs : List TEnt} {xs : List MEnt} (r : EntsOf kvs xs) : ∀ x ∈ xs, ∃ p ∈ kvs, x.1 = key p.1 ∧ RelV p.2 x.2.1 := by
  induction r with
  | nil => exact fun x h => nomatch h
  | @cons p y ps ys h _ ih =>
    intro x hx
    rcases List.mem_cons.mp hx with e | hx
    · subst e; exact ⟨p, by simp, h.1, h.2.1⟩
    · obtain ⟨q, hq, e⟩ := ih x hx
      exact ⟨q, by simp [hq], e⟩
/-- entries behind d[t] = True -/
def putT (kvs : List TEnt) (t : Tm) (y : V) : List TEnt := if t ∈ tms kvs then kvs else kvs ++ [(t, y)]
theorem tms_putT (kvs : List TEnt) (t : Tm) (y : V) : tms (putT kvs t y) = addT (tms kvs) t := by
  unfold putT addT
  split
  · rfl
  · simp [tms]
theorem putT_len (kvs : List TEnt) (t : Tm) (y : V) : (putT kvs t y).length ≤ kvs.length + 1 := by
  unfold putT
  split <;> simp
theorem modify_same : ∀ {xs : List MEnt} {i : Nat}, (∀ x ∈ xs, x.2.2 = Value.bool true) → (xs.modify i fun x => (x.1, x.2.1, Value.bool true)) = xs
  | [], i, _ => by simp
  | x :: xs, 0, h => by
    have := h x (by simp)
    obtain ⟨a, b, c⟩ := x
    simp at this
    simp [this]
  | x :: xs, i + 1, h => by
    rw [List.modify_succ_cons, modify_same fun y hy => h y (by simp [hy])]
theorem ents_true {kvs : List TEnt} {xs : List MEnt} (r : EntsOf kvs xs) : ∀ x ∈ xs, x.2.2 = Value.bool true := by
  induction r with
  | nil => exact fun x h => nomatch h
  | cons h _ ih =>
    intro x hx
    rcases List.mem_cons.mp hx with e | hx
    · subst e; exact h.2.2
    · exact ih x hx
theorem ents_put {kvs : List TEnt} {xs : List MEnt} (r : EntsOf kvs xs) {t : Tm} {y : V} {u : Value} (ry : RelV y u) : EntsOf (putT kvs t y) (storedM xs (key t) u (.bool true)) := by
  unfold putT storedM
  by_cases c : t ∈ tms kvs
  · rw [if_pos c]
    cases e : ixM xs (key t) with
    | none =>
      have := ixM_none.mp e
      rw [ents_keys r] at this
      exact absurd (List.mem_map.mpr ⟨t, c, rfl⟩) this
    | some i =>
      show EntsOf kvs (xs.modify i fun x => (x.1, x.2.1, Value.bool true))
      rw [modify_same (ents_true r)]
      exact r
  · rw [if_neg c]
    have e : ixM xs (key t) = none := by
      rw [ixM_none, ents_keys r]
      intro h
      obtain ⟨z, hz, q⟩ := List.mem_map.mp h
      exact c (key_inj q ▸ hz)
    rw [e]
    exact Paired.snoc r ⟨rfl, ry, rfl⟩

section
variable {X : Cx} {pins : List (Addr × Obj)} {σ : St} {H : Hp} {s : Shared} {d : Addr} {kvs : List TEnt} {t : Tm} {y z : V} {u r : Value} {A : Around} {E : Value → Shared → Prop}
theorem TD.got (I : Inv X pins σ H s) (D : TD X.w H d kvs) : kvs.length ≤ sizeLine ∧ (d == sysModules) = false ∧ ∃ xs o es ep, EntsOf kvs xs ∧ IsM X.w s.heap d xs o es ep ∧ ∀ x ∈ xs, KeyM s.heap x.1 x.2.1 := by
  obtain ⟨z, hd, xs, o, es, ep, r, M⟩ := Rd.hoT (P := X.prog) D.rd I.hok
  refine ⟨z, hd, xs, o, es, ep, r, M, fun x hx => ?_⟩
  obtain ⟨p, hp, e, rv⟩ := ents_mem r x hx
  rw [e]
  exact (D.ks p hp).1.keyM I.hok rv (D.ks p hp).2
theorem TD.nodup (I : Inv X pins σ H s) (D : TD X.w H d kvs) : (tms kvs).Nodup := by
  obtain ⟨_, _, xs, o, es, ep, r, M, _⟩ := D.got I
  exact ents_nodup r M.nod
theorem t_in {Q : Value → Shared → Prop} (hu : A.units + 9 < cLine) (I : Inv X pins σ H s) (D : TD X.w H d kvs) (q : TmAt H t y) (hd : t.depth ≤ 9) (ry : RelV y u) (h : ∀ s', Inv X pins σ H s' → Q (.bool (decide (t ∈ tms kvs))) s') :
    wpAny (model X.prog X.w) A (compareOp .In u (.ref d)) Q E s := by
  obtain ⟨_, hm, xs, o, es, ep, r, M, his⟩ := D.got I
  refine in_mixed hu hm (q.keyM I.hok ry hd) (q.kind ry) M his ?_
  rw [ents_at r]
  have h' := h _ (I.tok (s.toks + (key t).draws))
  by_cases c : t ∈ tms kvs
  · rw [decide_eq_true c] at h'; rw [if_pos c]; exact h'
  · rw [decide_eq_false c] at h'; rw [if_neg c]; exact h'
theorem t_notIn {Q : Value → Shared → Prop} (hu : A.units + 9 < cLine) (I : Inv X pins σ H s) (D : TD X.w H d kvs) (q : TmAt H t y) (hd : t.depth ≤ 9) (ry : RelV y u) (h : ∀ s', Inv X pins σ H s' → Q (.bool (!decide (t ∈ tms kvs))) s') :
    wpAny (model X.prog X.w) A (compareOp .NotIn u (.ref d)) Q E s := by
  obtain ⟨_, hm, xs, o, es, ep, r, M, his⟩ := D.got I
  refine notIn_mixed hu hm (q.keyM I.hok ry hd) (q.kind ry) M his ?_
  rw [ents_at r]
  have h' := h _ (I.tok (s.toks + (key t).draws))
  by_cases c : t ∈ tms kvs
  · rw [decide_eq_true c] at h'; rw [if_pos c]; exact h'
  · rw [decide_eq_false c] at h'; rw [if_neg c]; exact h'
/-- d.get(t, False) -/
theorem t_get {Q : Value → Shared → Prop} (hu : A.units + 9 < cLine) (I : Inv X pins σ H s) (D : TD X.w H d kvs) (q : TmAt H t y) (hd : t.depth ≤ 9) (ry : RelV y u) (h : ∀ s', Inv X pins σ H s' → Q (.bool (decide (t ∈ tms kvs))) s') :
    wpAny (model X.prog X.w) A (call (.builtin "dict.get") [.ref d, u, .bool false]) Q E s := by
  obtain ⟨_, hm, xs, o, es, ep, r, M, his⟩ := D.got I
  refine getD_mixed hu hm (q.keyM I.hok ry hd) (q.kind ry) M his ?_
  rw [ents_at r]
  have h' := h _ (I.tok (s.toks + (key t).draws))
  by_cases c : t ∈ tms kvs
  · rw [decide_eq_true c] at h'; rw [if_pos c]; exact h'
  · rw [decide_eq_false c] at h'; rw [if_neg c]; exact h'
/-- the heap behind d[t] = True -/
theorem t_write {h' : Heap} {o' : Obj} {es' : Array DictEntry} {ep' t' : Nat} {xs : List MEnt} (I : Inv X pins σ H s) (e : H d = some (hoT X.w d kvs)) (hz : kvs.length < sizeLine) (hm : (d == sysModules) = false) (r : EntsOf kvs xs) (ry : RelV y u) (M' : IsM X.w h' d (storedM xs (key t) u (.bool true)) o' es' ep') (hs : Heap.SameBut d s.heap h') :
    Inv X pins σ (upd H d (hoT X.w d (putT kvs t y))) { s with heap := h', toks := t' } := by
  refine I.write (x := d) (e := d) (by rw [e]; exact True.intro) (.inl rfl) (fun b q hb z => (hs.2 b hb).trans z) ⟨_, M'.got⟩ (hoT_ok ⟨?_, hm, _, _, _, _, ents_put r ry, M'⟩)
  have := putT_len kvs t y
  omega
theorem t_put {Q : Unit → Shared → Prop} (hu : A.units + 9 < cLine) (I : Inv X pins σ H s) (e : H d = some (hoT X.w d kvs)) (ks : ∀ p ∈ kvs, TmAt H p.1 p.2 ∧ p.1.depth ≤ 9) (hz : kvs.length < sizeLine) (q : TmAt H t y) (hd : t.depth ≤ 9) (ry : RelV y u)
    (h : ∀ s', Inv X pins σ (upd H d (hoT X.w d (putT kvs t y))) s' → Q () s') : wpAny (model X.prog X.w) A (setItem (.ref d) u (.bool true)) Q E s := by
  obtain ⟨z, hm, xs, o, es, ep, r, M, his⟩ := TD.got I ⟨.inl e, ks⟩
  have hl : xs.length ≤ sizeLine := by rw [← Paired.length r]; exact z
  exact put_mixed hu (q.keyM I.hok ry hd) (q.kind ry) M his hl fun h' o' es' ep' M' hs => h _ (t_write I e hz hm r ry M' hs)
theorem t_dictSet {Q : Unit → Shared → Prop} (hu : A.units + 8 < cLine) (I : Inv X pins σ H s) (e : H d = some (hoT X.w d kvs)) (ks : ∀ p ∈ kvs, TmAt H p.1 p.2 ∧ p.1.depth ≤ 9) (hz : kvs.length < sizeLine) (q : TmAt H t y) (hd : t.depth ≤ 9) (ry : RelV y u)
    (h : ∀ s', Inv X pins σ (upd H d (hoT X.w d (putT kvs t y))) s' → Q () s') : wpAny (model X.prog X.w) A (dictSet d u (.bool true)) Q E s := by
  obtain ⟨z, hm, xs, o, es, ep, r, M, his⟩ := TD.got I ⟨.inl e, ks⟩
  have hl : xs.length ≤ sizeLine := by rw [← Paired.length r]; exact z
  exact set_mixed hu (q.keyM I.hok ry hd) (q.kind ry) M his hl fun h' o' es' ep' M' hs => h _ (t_write I e hz hm r ry M' hs)
theorem t_len {Q : Value → Shared → Prop} (I : Inv X pins σ H s) (D : TD X.w H d kvs) (h : ∀ k s', Inv X pins σ H s' → Q (.int kvs.length k) s') : wpAny (model X.prog X.w) A (call (.builtin "len") [.ref d]) Q E s := by
  obtain ⟨z, hm, xs, o, es, ep, r, M, his⟩ := D.got I
  have e1 : es.size = kvs.length := by rw [ent_size M, ← Paired.length r]
  have hl := sizeLine_eq
  refine PyProof.Rows.call_len_slot (n := kvs.length) M.typeIs F.slot_dict_len (fun Q' hq => call_len_raw hm (es := es) (ep := ep) ⟨o, M.got, M.ex, M.dat⟩ (by rw [e1]; exact hq)) (by omega) (by omega) (h _ _ (I.tok _))
/-- {} that is to hold terms -/
theorem hoT_nil {P : Program} {w : World} {H : Hp} (h : Heap) (hb : sysModules < h.objs.size) : ObjOk P w H (h.push { cls := .type "dict", data := .dict #[] }) h.objs.size (hoT w h.objs.size []) :=
  hoT_ok ⟨Nat.zero_le _, beq_eq_false_iff_ne.mpr (Ne.symm (Nat.ne_of_lt hb)), [], _, #[], 0, .nil, ⟨Heap.get?_push_size _ rfl, ⟨rfl, rfl, rfl⟩, rfl, rfl, List.nodup_nil⟩⟩
end
end K12

set_option Elab.async false
set_option linter.all false
set_option maxRecDepth 100000
set_option maxHeartbeats 4000000
/-! Dicts of terms over the hand layer: the judgements. -/
namespace K12
open PySem PySem.Spec L2

/-! ### in, not in, get, len, list, stores -/
def rTIn (w : World) : R2 := fun y x H Q => ∃ d kvs t, x = .ref d ∧ TD w H d kvs ∧ TmAt H t y ∧ t.depth ≤ 9 ∧ Q (.bl (decide (t ∈ tms kvs))) H
def rTNotIn (w : World) : R2 := fun y x H Q => ∃ d kvs t, x = .ref d ∧ TD w H d kvs ∧ TmAt H t y ∧ t.depth ≤ 9 ∧ Q (.bl (!decide (t ∈ tms kvs))) H
def rTPut (w : World) : TSet := fun o i v H Q => ∃ d kvs t, o = .ref d ∧ v = .bl true ∧ H d = some (hoT w d kvs) ∧ (∀ p ∈ kvs, TmAt H p.1 p.2 ∧ p.1.depth ≤ 9) ∧ kvs.length < sizeLine ∧ TmAt H t i ∧ t.depth ≤ 9 ∧ Q (upd H d (hoT w d (putT kvs t i)))
def rTLen (w : World) : List V → Hp → VK → Prop := fun vs H Q => ∃ d kvs, vs = [.ref d] ∧ TD w H d kvs ∧ Q (.int kvs.length) H
def rTList (w : World) : List V → Hp → VK → Prop := fun vs H Q => ∃ d kvs, vs = [.ref d] ∧ TD w H d kvs ∧ ∀ p, H p = none → Q (.ref p) (upd H p (.lst (kvs.map (·.2))))
/-- d.get(t, False) -/
def tTGet (w : World) (td ty : TE) : TE := fun σ H Q => td σ H fun x H1 => ∃ d, x = .ref d ∧ (∃ kvs, TD w H1 d kvs) ∧ ty σ H1 fun y H2 => ∃ kvs t, TD w H2 d kvs ∧ TmAt H2 t y ∧ t.depth ≤ 9 ∧ Q (.bl (decide (t ∈ tms kvs))) H2
def tTNew (w : World) : TE := fun _ H Q => ∀ p, H p = none → Q (.ref p) (upd H p (hoT w p []))
section
variable {X : Cx}
theorem op_tin (hu : X.A.units + 9 < cLine) : OpR X (compareOp .In) (rTIn X.w) := by
  intro pins s σ H y x u v Q I ry rx h
  obtain ⟨d, kvs, t, rfl, D, q, hd, h⟩ := h
  obtain rfl : v = Value.ref d := rx
  exact t_in hu I D q hd ry fun s' I' => ⟨.bl _, H, I', rfl, h⟩
theorem op_tnotin (hu : X.A.units + 9 < cLine) : OpR X (compareOp .NotIn) (rTNotIn X.w) := by
  intro pins s σ H y x u v Q I ry rx h
  obtain ⟨d, kvs, t, rfl, D, q, hd, h⟩ := h
  obtain rfl : v = Value.ref d := rx
  exact t_notIn hu I D q hd ry fun s' I' => ⟨.bl _, H, I', rfl, h⟩
theorem set_t (hu : X.A.units + 9 < cLine) : PSet X (rTPut X.w) := by
  intro pins s σ H o i v ov iv u Q I ro ri rv h
  obtain ⟨d, kvs, t, rfl, rfl, e, ks, hz, q, hd, h⟩ := h
  obtain rfl : ov = Value.ref d := ro
  obtain rfl : u = Value.bool true := rv
  exact t_put hu I e ks hz q hd ri fun s' I' => ⟨_, I', h⟩
theorem call_tlen : CallR X (.builtin "len") (rTLen X.w) := by
  intro pins s σ H vs us Q I r h
  obtain ⟨d, kvs, rfl, D, h⟩ := h
  obtain ⟨u, rfl, rx⟩ := vals1 r
  obtain rfl : u = Value.ref d := rx
  exact t_len I D fun k s' I' => ⟨.int _, H, I', ⟨_, rfl⟩, h⟩
theorem ents_vals {kvs : List TEnt} {xs : List MEnt} (r : EntsOf kvs xs) : Vals (kvs.map (·.2)) (xs.map (·.2.1)) := by
  induction r with
  | nil => exact .nil
  | cons h _ ih => exact .cons h.2.1 ih
theorem call_tlist (hc : X.calm = true) : CallR X (.type "list") (rTList X.w) := by
  intro pins s σ H vs us Q I r h
  obtain ⟨d, kvs, rfl, D, h⟩ := h
  obtain ⟨u, rfl, rx⟩ := vals1 r
  obtain rfl : u = Value.ref d := rx
  obtain ⟨z, hm, xs, o, es, ep, r, M, his⟩ := D.got I
  have e1 : es.size = kvs.length := by rw [ent_size M, ← Paired.length r]
  refine PySem.W.kdl_call (KdlSrc.rawDict (es := es) (ep := ep) hm) (I.ok.hd hc) ⟨o, M.got, M.ex, M.dat⟩ (by rw [e1]; exact z) fun h' tk acc c' hk hD hacc => ?_
  have hv : Vals (kvs.map (·.2)) acc.toList := by
    have e2 : acc.toList = xs.map (·.2.1) := by
      refine List.ext_getElem? fun j => ?_
      cases hj : acc.toList[j]? with
      | none =>
        have l1 := List.getElem?_eq_none_iff.mp hj
        rw [Array.length_toList, hacc.1, ent_size M] at l1
        rw [List.getElem?_eq_none_iff.mpr (by rw [List.length_map]; exact l1)]
      | some v =>
        obtain ⟨hi, e3⟩ := hacc.2 j v (by rw [← Array.getElem?_toList]; exact hj)
        have e4 : es[j]? = some es[j] := Array.getElem?_eq_getElem hi
        rw [ent_at M] at e4
        cases hx : xs[j]? with
        | none => rw [hx] at e4; cases e4
        | some x =>
          rw [hx] at e4
          have e5 : es[j] = entM X.w x := (Option.some.inj e4).symm
          rw [List.getElem?_map, hx, e3, e5]
          rfl
    rw [e2]
    exact ents_vals r
  refine ⟨.ref s.heap.objs.size, upd H s.heap.objs.size (.lst (kvs.map (·.2))), I.laid (t' := tk) hk (Nat.le_refl _)
    (show ObjOk X.prog X.w _ _ _ (.lst (kvs.map (·.2))) from ⟨by rw [List.length_map]; exact z, acc.toList, c', hv, by rw [Array.toArray_toList]; exact hD⟩), rfl, h _ (I.hok.fresh (Nat.le_refl _))⟩
theorem pe_tnew {pos : Pos} : PE X (.Dict [] [] pos) (tTNew X.w) := ⟨fun pins s σ H Q I h =>
  wpAny_Dict_empty ⟨.ref s.heap.objs.size, _, I.laid (a := s.heap.objs.size) (o := hoT X.w s.heap.objs.size []) (t' := s.toks) (fun _ _ q => Heap.get?_push_of_some _ q) (Nat.le_refl _) (hoT_nil s.heap I.big), rfl, h _ (I.hok.fresh (Nat.le_refl _))⟩⟩
theorem pe_tget {o e : Expr} {j : Nat} {apos cpos fpos : Pos} {td ty : TE} (hu : X.A.units + 9 < cLine) (ho : PE X o td) (he : PE X e ty) (m : M2 X o "get" apos e (.Constant (.bool false) j fpos) cpos) :
    PE X (.Call (.Attribute o "get" apos) [e, .Constant (.bool false) j fpos] [] cpos) (tTGet X.w td ty) := by
  refine ⟨fun pins s σ H Q I h => ?_⟩
  refine wpAny_Call_method m.base m.few m.line PySem.F.plainAttrs_dict PySem.F.slot_dict_get PySem.F.type_dict_get (thn (ho.run pins s σ H _ I h) fun u s1 ⟨x, H1, I1, rx, d, ex, ⟨kvs0, D0⟩, q1⟩ => ?_)
  subst ex
  obtain rfl : u = Value.ref d := rx
  obtain ⟨_, hm0, xs, ob, es, ep, r0, M, _⟩ := D0.got I1
  refine ⟨M.typeIs, fun b q => by cases q; exact ⟨ob, M.got, M.ex.2.1⟩, ?_⟩
  rw [m.trees]
  refine Calls.callWith_builtin rfl (Calls.evalArgs_plain (Calls.spliced_cons (thn (he.run pins s1 σ H1 _ I1 q1) fun iv s2 ⟨y, H2, I2, ry, kvs, t, D, q, hd, q2⟩ =>
    Calls.spliced_cons (thn (pe_bl.run pins s2 σ H2 (fun z H3 => z = .bl false ∧ H3 = H2) I2 ⟨rfl, rfl⟩) fun fv s3 ⟨z, H3, I3, rz, ez, eH⟩ => Calls.spliced_nil ?_))))
  subst ez eH
  obtain rfl : fv = Value.bool false := rz
  exact t_get hu I3 D q hd ry fun s4 I4 => ⟨.bl _, _, I4, rfl, q2⟩
end

/-! ### the keys of a locked dict of terms -/
def ItT (w : World) (d : Addr) (o : Obj) (kvs : List TEnt) : It :=
  ⟨fun i H => H d = some (.frz o (hoT w d kvs)) ∧ i < kvs.length, fun i H x H' => H' = H ∧ ∃ t, kvs[i]? = some (t, x), fun i H => H d = some (.frz o (hoT w d kvs)) ∧ kvs.length ≤ i⟩
theorem frz_got {X : Cx} {pins : List (Addr × Obj)} {σ : St} {H : Hp} {s : Shared} {d : Addr} {o : Obj} {kvs : List TEnt} (I : Inv X pins σ H s) (h : H d = some (.frz o (hoT X.w d kvs))) :
    (d == sysModules) = false ∧ s.heap.get? d = some o ∧ ∃ xs es ep, EntsOf kvs xs ∧ IsM X.w s.heap d xs o es ep ∧ es.size = kvs.length := by
  obtain ⟨hd, x⟩ := I.hok d _ h
  obtain ⟨z, hm, xs, o', es, ep, r, M⟩ := (show ObjOk X.prog X.w H s.heap d (hoT X.w d kvs) from x).1
  obtain rfl : o = o' := by have := M.got; rw [hd] at this; exact Option.some.inj this
  exact ⟨hm, hd, xs, es, ep, r, M, by rw [ent_size M, ← Paired.length r]⟩
theorem turn_t {P : Program} {w : World} {K : PySem.W.Frag} {tg : Expr} {d : Addr} {o : Obj} {es : Array DictEntry} {ep : Nat} {kvs : List TEnt} (it : Addr) (hod : o.data = .dict es ep) (hsz0 : es.size = kvs.length) : Turn P w K tg (ItT w d o kvs) [it] it (fun i h => h.IsKeyIter it d i es.size ep) where
  mem := List.mem_singleton.mpr rfl
  obj := fun i h st b hb => by
    obtain rfl := List.mem_singleton.mp hb
    obtain ⟨ob, e, c, dd⟩ := st
    exact ⟨ob, e, fun v q => by rw [dd] at q; cases q⟩
  keep := fun i h h' st k => st.at fun ob e => k it (List.mem_singleton.mpr rfl) ob e
  item := by
    intro X hP hw hK hc i pins s σ H E I hf st hg
    subst hP hw hK
    obtain ⟨hd, hi⟩ := hg
    obtain ⟨f0, f1, f2, f3, f4, f5⟩ := hf it (List.mem_singleton.mpr rfl)
    obtain ⟨hm, hgd, xs, es', ep', r, M, hsz⟩ := frz_got I hd
    obtain ⟨rfl, rfl⟩ := dict_ep hod M.dat
    have hlt : i < es'.size := by omega
    refine wpAny_pyNext_keys_item_raw st ⟨o, M.got, M.ex, M.dat⟩ hlt fun h' st' sb => ?_
    have I1 : Inv X pins σ H { s with heap := h' } := I.turned (t' := s.toks) (fun b ob hb e => (sb.2 b hb).trans e) f0 f1 f3 f4 f5
    obtain ⟨ob, e, c, dd⟩ := id st'
    obtain ⟨⟨t, y⟩, hkv⟩ : ∃ p, kvs[i]? = some p := ⟨kvs[i], List.getElem?_eq_getElem hi⟩
    obtain ⟨x, hx, e1, e2, e3⟩ := paired_get r hkv
    have ek : es'[i].key = x.2.1 := by
      have q := ent_at M i
      rw [hx, Array.getElem?_eq_getElem hlt] at q
      have q : es'[i] = entM X.w x := Option.some.inj q
      rw [q]
      rfl
    refine ⟨_, rfl, go_of (s := { s with heap := h' }) e c dd (by decide) ⟨y, H, I1, ?_, ⟨rfl, t, hkv⟩, st', fun b hb => (hf b hb).1⟩⟩
    rw [ek]
    exact e2
  done := by
    intro X hP hw hK hc i pins s σ H E I hf st hg
    subst hP hw hK
    obtain ⟨hd, hi⟩ := hg
    obtain ⟨f0, f1, f2, f3, f4, f5⟩ := hf it (List.mem_singleton.mpr rfl)
    obtain ⟨hm, hgd, xs, es', ep', r, M, hsz⟩ := frz_got I hd
    obtain ⟨rfl, rfl⟩ := dict_ep hod M.dat
    exact wpAny_pyNext_keys_end_raw (I.ok.hd hc) st ⟨o, M.got, M.ex, M.dat⟩ (by omega) fun h' eb => ⟨rfl, I.turned (t' := s.toks) (fun b ob hb e => eb b ob hb e) f0 f1 f3 f4 f5⟩
  self := fun A i s Q E st h => wpAny_pyIter_keyiter st h
def iTKeys (w : World) (td : TE) : TI := fun σ H R => td σ H fun x H1 => ∃ d o kvs, x = .ref d ∧ H1 d = some (.frz o (hoT w d kvs)) ∧ R (ItT w d o kvs) H1
theorem pi_tkeys {X : Cx} {tg e : Expr} {td : TE} (he : PE X e td) : PI X tg e (iTKeys X.w td) := by
  refine ⟨fun pins s σ H R I h => ?_⟩
  refine thn (he.run pins s σ H _ I h) fun u s1 ⟨x, H1, I1, rx, d, o, kvs, ex, hd, q⟩ => ?_
  subst ex
  obtain rfl : u = Value.ref d := rx
  obtain ⟨hm, hgd, xs, es, ep, r, M, hsz⟩ := frz_got I1 hd
  exact wpAny_pyIter_dict_raw hm ⟨o, M.got, M.ex, M.dat⟩ (pi_one (tk := s1.toks) I1 _ (turn_t _ M.dat hsz) ⟨_, Heap.get?_push_size _ rfl, rfl, rfl⟩ q)
end K12

set_option Elab.async false
set_option linter.all false
set_option maxRecDepth 100000
set_option maxHeartbeats 4000000
/-! {x: True for x in row}: a dict comprehension whose keys are terms. -/
namespace K12
open PySem PySem.Spec L2

/-- what stands in a block of a comprehension, whatever its environment -/
abbrev InBlk (X : Cx) (scope : Scope) (J : Cx → Prop) : Prop := ∀ (s : Shared) (H : Hp) (C : Addr) (cl : List (Str × Addr)) (fp : List Addr), J (X.blk s H scope (compEnvC scope cl C X.env) fp)
/-- the turn's wish: the key is a term, the value True, and the dict with it -/
def DcStep (w : World) (D : Addr) (y z : V) (H : Hp) (Nx : Hp → Prop) : Prop :=
  ∃ kvs t, z = .bl true ∧ H D = some (hoT w D kvs) ∧ (∀ p ∈ kvs, TmAt H p.1 p.2 ∧ p.1.depth ≤ 9) ∧ kvs.length < sizeLine ∧ TmAt H t y ∧ t.depth ≤ 9 ∧ Nx (upd H D (hoT w D (putT kvs t y)))
def tDcT (w : World) (wi : TI) (g : TG) (tk tv : TE) (vs : List Nat) : TE := fun σ H Q => wi σ H fun J H1 => ∀ D, H1 D = none → ∃ W : Nat → Nat → Hp → Prop, (∃ m, W 0 m (upd H1 D (hoT w D []))) ∧ ∀ i m H, W i m H →
  (J.stop i H ∧ Q (.ref D) H) ∨ (J.go i H ∧ ∃ Nx : Hp → Prop, (∀ H', Nx H' → ∃ m', m' < m ∧ W (i + 1) m' H') ∧ ∀ x H', J.yld i H x H' → g x (wipe σ vs) H' fun σ2 H2 => wipe σ2 vs = wipe σ vs ∧ tk σ2 H2 fun y H3 => tv σ2 H3 fun z H4 => DcStep w D y z H4 Nx)
theorem dcT_core {X : Cx} {kx vx tg iter : Expr} {scope : Scope} {own : List (Str × Nat)} {pos pos' : Pos} {wi : TI} {g : TG} {tk tv : TE} {pins : List (Addr × Obj)} {s : Shared} {σ : St} {H : Hp} {Q : VK} {use : Option (Value → Sem Unit)} {Qf : Value → Shared → Prop}
    (I : Inv X pins σ H s) (hu : X.A.units + 9 < cLine) (hc : X.calm = true) (hN : X.N.Nodup) (hi : PI X tg iter wi) (ok : BlkOk X.N X.env.scope scope own)
    (hg : InBlk X scope fun B => PG B tg g) (hk : InBlk X scope fun B => PE B kx tk) (hv : InBlk X scope fun B => PE B vx tv) (hs : ∀ x, foldedSetIterable iter X.env x = pure x)
    (h : tDcT X.w wi g tk tv (own.map (·.2)) σ H Q)
    (fin : ∀ D C t m H', Inv X pins σ H' t → Q (.ref D) H' → t.heap.Ns C m → FpOk X pins H' C → compPost (model X.prog X.w) X.A X.xe use Qf (.ref D) C (.ok .next) t) :
    wpAny (model X.prog X.w) X.A (comprehension (.DictComp kx vx [⟨tg, iter, [], 0⟩] scope pos) scope X.env pos' newDict false (eval iter X.env) use) Qf X.xe s := by
  have hfree : ∀ y ∈ scope.names, y.2 = .free → ∃ c, X.env.cells.lookup y.1 = some c := fun y hy e => I.ok.has _ ((ok.free y hy e).elim .inl .inr)
  refine wpAny_comprehension_free (use := use) rfl hs (closure_ok hfree) ok.kind (fun y hy e => by rw [ok.uniq y hy, e])
    (thn (hi.run pins s σ H _ I h) fun xv s1 hx => thn hx fun itv s2 h2 => ?_)
  obtain ⟨it, fp, tn, J, H2, rfl, I2, T, st2, f2, q⟩ := h2
  refine wpAny_newObj_type (newEnv_comp ?_)
  generalize hD : s2.heap.objs.size = D
  have hDn : H2 D = none := I2.hok.fresh (Nat.le_of_eq hD)
  obtain ⟨W, ⟨m0, w0⟩, turn⟩ := q D hDn
  -- the new dict stands, empty
  generalize hs3 : ({ s2 with heap := s2.heap.push { cls := .type "dict", data := .dict #[] } } : Shared) = s3
  have h3 : s3.heap = s2.heap.push { cls := .type "dict", data := .dict #[] } := by rw [← hs3]
  generalize hH3 : upd H2 D (hoT X.w D []) = H3 at w0
  have I3 : Inv X pins σ H3 s3 := by
    rw [← hs3, ← hH3]
    refine I2.laid (t' := s2.toks) (fun b o e => Heap.get?_push_of_some _ e) (Nat.le_of_eq hD) ?_
    subst hD
    exact hoT_nil s2.heap I2.big
  have nfp : ∀ b ∈ fp, H3 b = none ∧ b < s3.heap.objs.size := fun b hb => by
    obtain ⟨o, e, _⟩ := T.obj _ _ st2 b hb
    have hlt := Heap.lt_size e
    rw [← hH3, upd_ne (by rw [← hD]; exact Nat.ne_of_lt hlt), h3, Heap.size_push]
    exact ⟨(f2 b hb).1, Nat.lt_succ_of_lt hlt⟩
  have f3 : ∀ b ∈ fp, FpOk X pins H3 b ∧ b < s3.heap.objs.size := fun b hb => ⟨⟨(nfp b hb).1, (f2 b hb).2⟩, (nfp b hb).2⟩
  have st3 : tn 0 s3.heap := T.keep _ _ _ st2 fun b _ o e => by rw [h3]; exact Heap.get?_push_of_some _ e
  have I4 := block_start I3 ok hN f3
  have pg := hg s3 H3 s3.heap.objs.size (cellsFrom (s3.heap.objs.size + 1) scope.names (cloFrom X.env.cells scope.names [])) fp
  have pk := hk s3 H3 s3.heap.objs.size (cellsFrom (s3.heap.objs.size + 1) scope.names (cloFrom X.env.cells scope.names [])) fp
  have pw := hv s3 H3 s3.heap.objs.size (cellsFrom (s3.heap.objs.size + 1) scope.names (cloFrom X.env.cells scope.names [])) fp
  show codeAny _ _ (.compStart (.DictComp kx vx [⟨tg, iter, [], 0⟩] scope pos) 0 (.ref it) (.ref D) (compEnvC scope (cellsFrom (s3.heap.objs.size + 1) scope.names (cloFrom X.env.cells scope.names [])) s3.heap.objs.size X.env)) (compPost (model X.prog X.w) X.A X.xe use Qf (.ref D) s3.heap.objs.size) { s3 with heap := pushCells (s3.heap.push { cls := .type "dict", data := .dict #[] }) scope.names }
  generalize hce : compEnvC scope (cellsFrom (s3.heap.objs.size + 1) scope.names (cloFrom X.env.cells scope.names [])) s3.heap.objs.size X.env = ce at I4 pg pk pw ⊢
  have cL : ce.locals = s3.heap.objs.size := by subst hce; rfl
  generalize hs4 : ({ s3 with heap := pushCells (s3.heap.push { cls := .type "dict", data := .dict #[] }) scope.names } : Shared) = s4 at I4 ⊢
  have st4 : tn 0 s4.heap := T.keep _ _ _ st3 fun b _ o e => by rw [← hs4]; exact pushCells_keeps _ _ _ _ (Heap.get?_push_of_some _ e)
  let B : Cx := X.blk s3 H3 scope ce fp
  have stat : ∀ {σ' : St} {H' : Hp} {s' : Shared}, Inv B [] σ' H' s' → (∀ b ∈ fp, H' b = none) → ∀ b ∈ fp, FpOk B [] H' b := fun {σ' H' s'} I' hn b hb =>
    ⟨hn b hb, (I'.ok.exf b hb).1, I'.ok.exfs b hb, .inl hb, fun x c e => (I'.ok.exf b hb).2 x c e, fun p hp => nomatch (show p ∈ ([] : List (Addr × Obj)) ++ [] from hp)⟩
  have loop : codeAny (model X.prog X.w) X.A (.compLoop (.DictComp kx vx [⟨tg, iter, [], 0⟩] scope pos) 0 (.ref it) (.ref D) ce) (compPost (model X.prog X.w) X.A X.xe use Qf (.ref D) s3.heap.objs.size) s4 := by
    refine compLoop_anyD (fun n s' => ∃ i H', Inv B [] (wipe σ (own.map (·.2))) H' s' ∧ tn i s'.heap ∧ (∀ b ∈ fp, H' b = none) ∧ W i n H') ?_ m0 ⟨0, H3, I4, st4, fun b hb => (nfp b hb).1, w0⟩
    rintro n s5 ⟨i, H5, I5, st5, n5, w5⟩
    rcases turn i n H5 w5 with ⟨stop, qq⟩ | ⟨go, Nx, hNx, step⟩
    · refine thnF (T.done B rfl rfl rfl hc i [] s5 _ H5 (fun _ _ => False) I5 (stat I5 n5) st5 stop) fun r s6 ⟨hr, I6⟩ => ?_
      subst hr
      have I7 : Inv X pins σ H5 s6 := I3.call' (ch := fp) I6.os I6.base I6.hok I6.bare fun b hb => ⟨(f3 b hb).1.2.2.2.1, (f3 b hb).1.2.1, (f3 b hb).1.2.2.2.2.1, (f3 b hb).1.2.2.2.2.2⟩
      have nC : H5 s3.heap.objs.size = none := by
        have z : H5 ce.locals = none := I6.free
        rwa [cL] at z
      obtain ⟨m, hn, _⟩ := I6.loc
      have hn : s6.heap.Ns ce.locals m := hn
      rw [cL] at hn
      exact fin D s3.heap.objs.size s6 m H5 I7 qq hn (I3.fpOk (Nat.le_refl _) nC)
    · refine thnF (T.item B rfl rfl rfl hc i [] s5 _ H5 (fun _ _ => False) I5 (stat I5 n5) st5 go) fun r s6 ⟨u, hr, h6⟩ => ?_
      subst hr
      refine thnF h6 fun _ s7 ⟨x, H7, I7, r7, y7, st7, n7⟩ => ?_
      have I7' := I7.pinned (stat I7 n7) (T.obj _ _ st7)
      refine thnF (pg.run _ s7 _ H7 x u _ I7' r7 (step x H7 y7)) fun _ s8 ⟨σ8, H8, I8, hw8, q8⟩ => ?_
      refine wpAny_pure ?_
      simp only [if_true]
      refine thnF (pk.run _ s8 σ8 H8 _ I8 q8) fun u1 s9 ⟨yk, H9, I9, r9, q9⟩ => ?_
      refine thnF (pw.run _ s9 σ8 H9 _ I9 q9) fun u2 s10 ⟨yv, H10, I10, r10, kvs, t, ev, eD, ks, hz, qt, hd, nx⟩ => ?_
      subst ev
      obtain rfl : u2 = Value.bool true := r10
      refine t_dictSet (X := B) (A := X.A) (by omega) I10 eD ks hz qt hd r9 fun s11 I11 => ?_
      obtain ⟨m', hm, w'⟩ := hNx _ nx
      have pin' : ∀ b ∈ fp, ∀ o, s7.heap.get? b = some o → s11.heap.get? b = some o ∧ (upd H10 D (hoT X.w D (putT kvs t yk))) b = none := fun b hb o e =>
        let z := I11.pin (b, o) (List.mem_append_right _ (List.mem_append_right _ (mem_pinsAt hb e)))
        ⟨z.1, z.2.1⟩
      have hl : (wipe σ (own.map (·.2))).length = σ8.length := by rw [← hw8, wipe_length]
      refine ⟨m', hm, i + 1, _, (I11.unpinned (pins := [])).weak hl (fun j v e => ?_), T.keep _ _ _ st7 fun b hb o e => (pin' b hb o e).1, fun b hb => ?_, w'⟩
      · rw [← hw8] at e
        exact (wipe_some e).1
      · obtain ⟨o, e, _⟩ := T.obj _ _ st7 b hb
        exact (pin' b hb o e).2
  exact codeAny_compStart_dict loop (T.self X.A 0 _ _ _ st4 loop)
/-- {k: v for ..} as a value -/
theorem pe_dcT {X : Cx} {kx vx tg iter : Expr} {scope : Scope} {own : List (Str × Nat)} {pos : Pos} {wi : TI} {g : TG} {tk tv : TE} (hu : X.A.units + 9 < cLine) (hc : X.calm = true) (hN : X.N.Nodup) (hi : PI X tg iter wi) (ok : BlkOk X.N X.env.scope scope own)
    (hg : InBlk X scope fun B => PG B tg g) (hk : InBlk X scope fun B => PE B kx tk) (hv : InBlk X scope fun B => PE B vx tv) (hs : ∀ x, foldedSetIterable iter X.env x = pure x := by intro _; rfl) :
    PE X (.DictComp kx vx [⟨tg, iter, [], 0⟩] scope pos) (tDcT X.w wi g tk tv (own.map (·.2))) := by
  refine ⟨fun pins s σ H Q I h => ?_⟩
  rw [arm_eval_DictComp]
  refine dcT_core I hu hc hN hi ok hg hk hv hs h fun D C t m H' I' q hn f => ⟨m, hn, fun h2 sb => ?_⟩
  obtain ⟨g0, g1, g2, g3, g4, g5⟩ := f
  exact ⟨.ref D, H', I'.turned (t' := t.toks) (fun b o hb e => (sb.2 b hb).trans e) g0 g1 g3 g4 g5, rfl, q⟩
/-- y = {k: v for ..} on one line, y a local of the def -/
theorem ps_setDcT {X : Cx} {i : Nat} {y : Str} {py : Pos} {kx vx tg iter : Expr} {scope : Scope} {own : List (Str × Nat)} {pos spos : Pos} {wi : TI} {g : TG} {tk tv : TE} (hu : X.A.units + 9 < cLine) (hc : X.calm = true) (hN : X.N.Nodup) (hy : X.N[i]? = some y) (hyl : X.env.scope.names.lookup y = some .local)
    (hsw : swapsWith (.DictComp kx vx [⟨tg, iter, [], 0⟩] scope pos) (some (.Name y py)) spos.line X.env = pure true) (hi : PI X tg iter wi) (ok : BlkOk X.N X.env.scope scope own)
    (hg : InBlk X scope fun B => PG B tg g) (hk : InBlk X scope fun B => PE B kx tk) (hv : InBlk X scope fun B => PE B vx tv) (hs : ∀ x, foldedSetIterable iter X.env x = pure x := by intro _; rfl) :
    PS X (.Assign [.Name y py] (.DictComp kx vx [⟨tg, iter, [], 0⟩] scope pos) spos) (tAsg (tDcT X.w wi g tk tv (own.map (·.2))) (gName i)) := by
  refine ⟨fun pins s σ H D I h => ?_⟩
  rw [exec_Assign_Name_used _ _ _ _ hsw]
  refine wpAny_bind (wpAny_standAt (wpAny_bind ?_))
  show wpAny _ X.A (do let _ ← comprehension (.DictComp kx vx [⟨tg, iter, [], 0⟩] scope pos) scope X.env (firstIterPos [⟨tg, iter, [], 0⟩] pos) newDict false (eval iter X.env) (some (assign (.Name y py) X.env))) _ _ s
  have h : tDcT X.w wi g tk tv (own.map (·.2)) σ H (fun x H1 => gName i x σ H1 D.nx) := h
  refine wpAny_bind (thn (dcT_core (Qf := fun _ s' => SP X pins D .next s') I hu hc hN hi ok hg hk hv hs h fun L C t m H' I' q hn f => ?_) fun _ s' hq => wpAny_pure (wpAny_pure hq))
  show wpAny _ _ (assign (.Name y py) X.env (.ref L)) _ _ _
  refine wpAny_assign_Name (store_ok2 (v := V.ref L) I' hN hy (.inl hyl) rfl (fun s2 I2 ⟨a, sb, ha⟩ => ?_) (.inr hyl))
  obtain ⟨g0, g1, g2, g3, g4, g5⟩ := f
  have ne : C ≠ a := by
    rcases ha with z | z
    · rw [z]; exact g1
    · exact fun e => g4 y a z e.symm
  exact ⟨m, hn.sameBut sb ne, fun h3 sb3 => ⟨_, H', I2.turned (t' := s2.toks) (fun b o hb e => (sb3.2 b hb).trans e) g0 g1 g3 g4 g5, q⟩⟩
theorem sw_dict {kx vx : Expr} {gs : List Comprehension} {scope : Scope} {pos py : Pos} {y : Str} {l : Nat} {env : Env} (hk : env.scope.kind = .function) (hy : env.scope.names.lookup y = some .local) (hl : (py.line == pos.line) = true)
    (ha : (scope.names.any fun (n, k) => n == y && (k == .local || k == .cell)) = false) : swapsWith (.DictComp kx vx gs scope pos) (some (.Name y py)) l env = pure true := by
  have ky : env.kindOf y = some .local := hy
  have hb : env.blockKind = .function := by unfold Env.blockKind; rw [hk]; rfl
  unfold swapsWith
  simp only [hb, ky, ha, Expr.pos, hl]
  rfl
/-- over a tuple that stays -/
theorem dcT_tup {w : World} {K : PySem.W.Frag} {a : Addr} {xs : List V} {g : TG} {tk tv : TE} {vs : List Nat} {σ : St} {H1 : Hp} {D : Addr} {Qd : Hp → Prop} (Pv : Nat → Hp → Prop) (h0 : Pv 0 (upd H1 D (hoT w D []))) (hl : ∀ i H, i ≤ xs.length → Pv i H → SqT K H a xs)
    (hs : ∀ i x H, xs[i]? = some x → Pv i H → g x (wipe σ vs) H fun σ2 H2 => wipe σ2 vs = wipe σ vs ∧ tk σ2 H2 fun y H3 => tv σ2 H3 fun z H4 => DcStep w D y z H4 (Pv (i + 1))) (hd : ∀ H, Pv xs.length H → Qd H) :
    ∃ W : Nat → Nat → Hp → Prop, (∃ m, W 0 m (upd H1 D (hoT w D []))) ∧ ∀ i m H, W i m H →
      ((Itt K a).stop i H ∧ Qd H) ∨ ((Itt K a).go i H ∧ ∃ Nx : Hp → Prop, (∀ H', Nx H' → ∃ m', m' < m ∧ W (i + 1) m' H') ∧ ∀ x H', (Itt K a).yld i H x H' → g x (wipe σ vs) H' fun σ2 H2 => wipe σ2 vs = wipe σ vs ∧ tk σ2 H2 fun y H3 => tv σ2 H3 fun z H4 => DcStep w D y z H4 Nx) := by
  refine ⟨fun i m H => m = xs.length - i ∧ i ≤ xs.length ∧ Pv i H, ⟨_, rfl, Nat.zero_le _, h0⟩, fun i m H ⟨em, hi, p⟩ => ?_⟩
  have q := hl i H hi p
  rcases Nat.lt_or_ge i xs.length with hlt | hge
  · refine .inr ⟨⟨xs, xs[i], q, List.getElem?_eq_getElem hlt⟩, Pv (i + 1), fun H' p' => ⟨_, by omega, rfl, hlt, p'⟩, fun x H' ⟨e, y⟩ => ?_⟩
    subst e
    exact hs i x _ (y xs q) p
  · obtain rfl : i = xs.length := by omega
    exact .inl ⟨⟨xs, q, Nat.le_refl _⟩, hd H p⟩
end K12

set_option Elab.async false
set_option linter.all false
set_option maxRecDepth 100000
set_option maxHeartbeats 4000000
/-! The text by places; what is said of heaps between calls. -/
namespace K12
open PySem PySem.Spec L2

def top (i : Nat) : Stmt := PySem.Challenge.pw_sealedtalk_k12_whole_made_step_by_step.main.body.getD i (.Pass ⟨0, 0, 0, 0⟩)
abbrev sIsName : Stmt := top 3
abbrev sIsRow : Stmt := top 4
abbrev sIsLeaf : Stmt := top 21
abbrev sMeasure : Stmt := top 22
abbrev sHasForm : Stmt := top 23
abbrev sIsTerm : Stmt := top 24
abbrev sCheckTerm : Stmt := top 25
abbrev sSpelled : Stmt := top 28
abbrev sByWordings : Stmt := top 29
abbrev sGoodHearing : Stmt := top 32
abbrev sPieces : Stmt := top 33
abbrev sIsBuilt : Stmt := top 34
abbrev sOpenings : Stmt := top 35
abbrev sLeastClosed : Stmt := top 36
abbrev sCanMake : Stmt := top 37
abbrev sOpened : Stmt := top 38
abbrev sBag : Stmt := top 40
abbrev sDraw : Stmt := top 41
abbrev sSame : Stmt := top 42
abbrev sNames : Stmt := top 43
abbrev sPick : Stmt := top 44
abbrev sLeaf : Stmt := top 45
abbrev sPattern : Stmt := top 46
abbrev sTerm : Stmt := top 47
abbrev sParts : Stmt := top 48
abbrev sHearing : Stmt := top 49
abbrev sLPieces : Stmt := top 50
abbrev sOpens : Stmt := top 51
abbrev sMade : Stmt := top 52
abbrev sLaw : Stmt := top 53

/-- a def of the top: its function, how arguments bind, its name -/
structure Dn (K : PySem.W.Frag) (mg : Str → Option Value) (x : Str) (st : Stmt) (ps : List Str) (f : Addr) (fd : FuncData) : Prop where
  F : Fun K x x st f fd
  b : Binds K fd ps []
  g : mg x = some (.ref f)

/-- what the top has laid: constants, and built-in names that it has not -/
structure Glb (K : PySem.W.Frag) (w : World) (mg : Str → Option Value) : Prop where
  small : ∃ t, mg "SMALL" = some (.str "abcdefghijklmnopqrstuvwxyz" t)
  letters : ∃ t, mg "MOST_LETTERS" = some (.int 8 t)
  pair : ∃ t, mg "PAIR" = some (.str tPair t)
  box : ∃ t, mg "BOX" = some (.str tBox t)
  half : ∃ t, mg "HALF" = some (.str tHalf t)
  shut : ∃ t, mg "SHUT" = some (.str tShut t)
  mark : ∃ t, mg "MARK" = some (.str tMark t)
  var : ∃ t, mg "VAR" = some (.str "var" t)
  lens : ∃ d es n, mg "LENGTHS" = some (.ref d) ∧ KDict K w d es n ∧ (∃ t, PySem.W.nsIn K d tPair = some (some (.int 3 t))) ∧ (∃ t, PySem.W.nsIn K d tBox = some (some (.int 3 t))) ∧ (∃ t, PySem.W.nsIn K d tHalf = some (some (.int 2 t))) ∧
    (∃ t, PySem.W.nsIn K d tShut = some (some (.int 3 t))) ∧ (∃ t, PySem.W.nsIn K d tMark = some (some (.int 3 t))) ∧ ∃ t, PySem.W.nsIn K d tMix = some (some (.int 2 t))
  named : ∃ a, mg "NAMED" = some (.ref a) ∧ ∀ H, SqT K H a [.str tHalf, .str tShut, .str tMark]
  mostNames : ∃ t, mg "MOST_NAMES" = some (.int 40 t)
  mostDepth : ∃ t, mg "MOST_DEPTH" = some (.int 12 t)
  and_ : ∃ t, mg "AND" = some (.str " & " t)
  mostHeard : ∃ t, mg "MOST_HEARD" = some (.int 40 t)
  isi : mg "isinstance" = none
  str : mg "str" = none
  len : mg "len" = none
  all : mg "all" = none
  list : mg "list" = none
  tuple : mg "tuple" = none
  sum : mg "sum" = none
  max : mg "max" = none
  sorted : mg "sorted" = none
  enum : mg "enumerate" = none
  int : mg "int" = none
  bool : mg "bool" = none
  range : mg "range" = none

/-! ### heaps -/
/-- all but the object at a stays -/
def KeepX (a : Addr) (H H' : Hp) : Prop := ∀ b o, b ≠ a → H b = some o → H' b = some o
theorem KeepX.refl (a : Addr) (H : Hp) : KeepX a H H := fun _ _ _ h => h
theorem KeepX.trans {a : Addr} {H H1 H2 : Hp} (x : KeepX a H H1) (y : KeepX a H1 H2) : KeepX a H H2 := fun b o n e => y b o n (x b o n e)
theorem KeepX.upd {a : Addr} {H : Hp} {o : HO} : KeepX a H (upd H a o) := fun b u n e => by rw [upd_ne n]; exact e
theorem KeepX.of {a : Addr} {H H' : Hp} (s : Same H H') : KeepX a H H' := fun b o _ e => s b o e
/-- all but the list at a stays, and its first item -/
structure Keep (a : Addr) (H H' : Hp) : Prop where
  els : KeepX a H H'
  hd : ∀ l r, H a = some (.lst (.ref l :: r)) → ∃ r', H' a = some (.lst (.ref l :: r'))
theorem Keep.refl (a : Addr) (H : Hp) : Keep a H H := ⟨KeepX.refl a H, fun _ r e => ⟨r, e⟩⟩
theorem Keep.trans {a : Addr} {H H1 H2 : Hp} (x : Keep a H H1) (y : Keep a H1 H2) : Keep a H H2 := ⟨x.els.trans y.els, fun l r e => let ⟨r1, e1⟩ := x.hd l r e; y.hd l r1 e1⟩
theorem Keep.upd {a l : Addr} {H : Hp} {r r' : List V} (h : H a = some (.lst (.ref l :: r))) : Keep a H (upd H a (.lst (.ref l :: r'))) := ⟨KeepX.upd, fun m u e => by
  rw [h] at e
  have q := HO.lst.inj (Option.some.inj e)
  injection q with q1 _
  exact ⟨r', by rw [upd_same, q1]⟩⟩
theorem Keep.of {a : Addr} {H H' : Hp} (s : Same H H') : Keep a H H' := ⟨KeepX.of s, fun _ r e => ⟨r, s _ _ e⟩⟩
theorem Keep.tups {a : Addr} {H H' : Hp} (k : Keep a H H') {xs : List V} (ha : H a = some (.lst xs)) : Tups H H' := fun b ys e => k.els b _ (ne_of e ha (fun z => nomatch z)) e
/-- a free place was free -/
theorem Keep.free {a p : Addr} {H H' : Hp} (k : Keep a H H') {o : HO} (ha : H' a = some o) (hp : H' p = none) : H p = none := by
  have ne : p ≠ a := fun e => by rw [e, ha] at hp; cases hp
  cases q : H p with
  | none => rfl
  | some u => rw [k.els p u ne q] at hp; cases hp
theorem same_new {H : Hp} {p : Addr} (h : H p = none) (o : HO) : Same H (upd H p o) := fun b u q => by rw [upd_ne (ne_of_none q h)]; exact q
theorem Same.seqT {K : PySem.W.Frag} {H H' : Hp} {a : Addr} {xs : List V} (e : Same H H') (h : SqT K H a xs) : SqT K H' a xs := by
  rcases h with (h | ⟨o, h⟩) | h
  · exact .inl (.inl (e _ _ h))
  · exact .inl (.inr ⟨o, e _ _ h⟩)
  · exact .inr h

theorem Keep.seq {K : PySem.W.Frag} {a x : Addr} {H H' : Hp} {xs : List V} (k : Keep a H H') (ne : x ≠ a) (h : SqL K H x xs) : SqL K H' x xs := by
  rcases h with (h | ⟨o, h⟩) | h
  · exact .inl (.inl (k.els _ _ ne h))
  · exact .inl (.inr ⟨o, k.els _ _ ne h⟩)
  · exact .inr h
/-! ### never come to -/
theorem pe_never {X : Cx} {e : Expr} : PE X e (fun _ _ _ => False) := ⟨fun _ _ _ _ _ _ h => h.elim⟩
theorem pt_never {X : Cx} {e : Expr} : PT X e (fun _ _ _ => False) := ⟨fun _ _ _ _ _ _ h => h.elim⟩

/-! ### slices -/
theorem cut_all {xs : List V} {n : Nat} (h : xs.length ≤ n) : cutV xs none (some ((n : Nat) : Int)) = xs := by
  unfold cutV
  rw [HT.sIx_none, HT.sIx_nat, Nat.sub_zero, List.drop_zero]
  exact List.take_of_length_le (by omega)
theorem cut_tail (v : V) (vs : List V) : cutV (v :: vs) (some 1) none = vs := by
  unfold cutV
  have e : HT.sIx (v :: vs).length 0 (some 1) = 1 := by
    have := HT.sIx_nat (v :: vs).length 0 1
    rw [List.length_cons] at this ⊢
    rw [show (some (1 : Int)) = some ((1 : Nat) : Int) from rfl, this]
    omega
  rw [e, HT.sIx_none]
  show List.take _ vs = vs
  exact List.take_of_length_le (by rw [List.length_cons]; omega)
theorem not_whole (v : V) (vs : List V) : ¬ (HT.sIx (v :: vs).length 0 (some 1) = 0 ∧ HT.sIx (v :: vs).length (v :: vs).length none = (v :: vs).length) := by
  rintro ⟨h, _⟩
  have := HT.sIx_nat (v :: vs).length 0 1
  rw [List.length_cons] at this h
  rw [show (some (1 : Int)) = some ((1 : Nat) : Int) from rfl, this] at h
  omega
theorem ints_at {ns : List Int} {i : Nat} {y : V} (h : (ns.map V.int)[i]? = some y) : ∃ u, y = V.int u ∧ ns[i]? = some u := by
  rw [List.getElem?_map] at h
  cases e : ns[i]? with
  | none => rw [e] at h; cases h
  | some u => rw [e] at h; exact ⟨u, (Option.some.inj h).symm, rfl⟩
theorem at_0 {α : Type} (v : α) (vs : List α) : atI (v :: vs) 0 = some v := atI_nat (j := 0) rfl
theorem at_1 {α : Type} (v w : α) (vs : List α) : atI (v :: w :: vs) 1 = some w := atI_nat (j := 1) rfl
theorem at_2 {α : Type} (v w x : α) (vs : List α) : atI (v :: w :: x :: vs) 2 = some x := atI_nat (j := 2) rfl
theorem at_lt {xs : List V} {d : Int} (h0 : 0 ≤ d) (h1 : d < (xs.length : Int)) : ∃ v, atI xs d = some v ∧ xs[d.toNat]? = some v := by
  have hl : d.toNat < xs.length := by omega
  have e : d = ((d.toNat : Nat) : Int) := by omega
  refine ⟨xs[d.toNat], ?_, List.getElem?_eq_getElem hl⟩
  have q : atI xs ((d.toNat : Nat) : Int) = some xs[d.toNat] := atI_nat (List.getElem?_eq_getElem hl)
  rw [← e] at q
  exact q

/-! ### the bag of draws -/
/-- the list of the script's cells, the place, the open number, the draws, the seed -/
def BagAt (H : Hp) (b : Addr) : Prop := ∃ (l : Addr) (ns : List Int) (i n k s : Int), H b = some (.lst [.ref l, .int i, .int n, .int k, .int s]) ∧ H l = some (.lst (ns.map V.int)) ∧ ns.length ≤ 63 ∧ 0 ≤ i ∧ 0 ≤ n
theorem BagAt.lst {H : Hp} {b : Addr} (h : BagAt H b) : ∃ xs, H b = some (.lst xs) := let ⟨_, _, _, _, _, _, e, _⟩ := h; ⟨_, e⟩
theorem BagAt.inner {H : Hp} {b l : Addr} {ns : List Int} {i n k s : Int} (h : H b = some (.lst [.ref l, .int i, .int n, .int k, .int s])) (hl : H l = some (.lst (ns.map V.int))) : l ≠ b := by
  intro e
  rw [e, h] at hl
  have q := HO.lst.inj (Option.some.inj hl)
  cases ns with
  | nil => cases q
  | cons x r => rw [List.map_cons] at q; injection q with q _; cases q
theorem BagAt.keeps {H H' : Hp} {b : Addr} (h : BagAt H b) (s : Same H H') : BagAt H' b := by
  obtain ⟨l, ns, i, n, k, z, e, el, r⟩ := h
  exact ⟨l, ns, i, n, k, z, s _ _ e, s _ _ el, r⟩

theorem walk_tkeys {w : World} {d : Addr} {o : Obj} {kvs : List TEnt} : Walk (ItT w d o kvs) kvs.length (fun H => H d = some (.frz o (hoT w d kvs))) (fun i H x H' => H' = H ∧ ∃ t, kvs[i]? = some (t, x)) :=
  ⟨fun _ _ hi q => ⟨q, hi⟩, fun _ q => ⟨q, Nat.le_refl _⟩, fun _ _ _ _ _ _ y => y⟩
/-- isinstance of a term and str, tuple -/
theorem TmAt.ty {K : PySem.W.Frag} {H : Hp} {t : Tm} {v : V} (h : TmAt H t v) : TyX K H v (.type (if t.isNm then "str" else "tuple")) := by
  cases c : t.isNm with
  | true =>
    obtain ⟨x, rfl, rfl⟩ := h.name c
    exact .base (.str x)
  | false =>
    obtain ⟨p, vs, rfl, e, _⟩ := h.node c
    exact .base (.tup e)
theorem isi_str {K : PySem.W.Frag} (b : Bool) : PySem.W.kitOne K (.type (if b then "str" else "tuple")) (.type "str") = some b := by
  cases b with
  | true => exact kit_ty (by decide +kernel)
  | false => exact kit_ty (by decide +kernel)
theorem isi_tup {K : PySem.W.Frag} (b : Bool) : PySem.W.kitOne K (.type (if b then "str" else "tuple")) (.type "tuple") = some (!b) := by
  cases b with
  | true => exact kit_ty (by decide +kernel)
  | false => exact kit_ty (by decide +kernel)
/-- isinstance(x, str), x a term -/
theorem is_str {K : PySem.W.Frag} {H : Hp} {t : Tm} {v : V} {Q : VK} (h : TmAt H t v) (q : Q (.bl t.isNm) H) : rIsi K [v, .ty "str"] H Q := ⟨v, .ty "str", _, _, _, rfl, .ty _, h.ty, isi_str _, q⟩
theorem is_tup {K : PySem.W.Frag} {H : Hp} {t : Tm} {v : V} {Q : VK} (h : TmAt H t v) (q : Q (.bl (!t.isNm)) H) : rIsi K [v, .ty "tuple"] H Q := ⟨v, .ty "tuple", _, _, _, rfl, .ty _, h.ty, isi_tup _, q⟩
end K12

set_option Elab.async false
set_option linter.all false
set_option maxRecDepth 100000
set_option maxHeartbeats 4000000
namespace K12
open PySem PySem.Spec L2

def spDraw : Sp := fun vs H Q _ => ∃ (b : Addr) (m : Int), vs = [.ref b, .int m] ∧ BagAt H b ∧ 0 < m ∧ m < 2 ^ 20 ∧ ∀ (d : Int) (H' : Hp), 0 ≤ d → d < m → Keep b H H' → BagAt H' b → Q (.int d) H'
section
variable {P : Program} {w : World} {K : PySem.W.Frag} {mg : Str → Option Value} {base : Heap} {f : Addr} {fd : FuncData}
theorem scDraw : FnScope ["_law_bag_here", "_law_many", "_law_cell", "_law_digit", "_law_mixed"] ["_law_bag_here", "_law_many"] (defScope sDraw) := ⟨rfl, rfl, rfl, by decide +kernel, rfl, by decide +kernel, by decide +kernel⟩
theorem ok_draw (D : Dn K mg "_law_draw" sDraw ["_law_bag_here", "_law_many"] f fd) (mlen : mg "len" = none) (mint : mg "int" = none) : FnOk P w K mg base CX0 1 f fd ["_law_bag_here", "_law_many"] spDraw := by
  refine D.F.ok scDraw (fun vs H Q E h => ?_) (fun cdv A outer s H vs Q E hr h => ?_)
  · obtain ⟨b, m, rfl, _⟩ := h
    rfl
  obtain ⟨b, m, rfl, ⟨l, ns, i, n, k, z, hb, hl, hn63, hi, hn⟩, hm0, hm1, q⟩ := h
  refine ⟨_, pss_cons (ps_asg (pe_op op_add (pe_ix ix_list (pv 0) pe_int (fun _ _ => rfl)) pe_int) (pg_sub (pv 0) pe_int set_list))
    (C8.pss_cut (ps_if (PW.pt (pw_and (pt_cmpR op_eq (pe_ix ix_list (pv 0) pe_int (fun _ _ => rfl)) pe_int (nomark _)) (pw_and1 (pt_cmpR op_lt (pe_ix ix_list (pv 0) pe_int (fun _ _ => rfl)) (pe_callB call_len_seq (by rfl) mlen PySem.boot_len (pa_cons (pe_ix ix_list (pv 0) pe_int (fun _ _ => rfl)) pa_nil)) (nomark _)))))
      (pss_cons (ps_set (i := 2) scDraw.nd rfl (Or.inl rfl) (pe_ix ix_list (pe_ix ix_list (pv 0) pe_int (fun _ _ => rfl)) (pe_ix ix_list (pv 0) pe_int (fun _ _ => rfl)) (fun _ _ => rfl)))
      (pss_cons (ps_asg (pe_op op_add (pe_ix ix_list (pv 0) pe_int (fun _ _ => rfl)) pe_int) (pg_sub (pv 0) pe_int set_list))
      (pss_one (ps_if (pt_cmpR op_ge (pv 2) (pe_op op_pow pe_int pe_int) (nomark _))
        (pss_one (ps_asg (pv 2) (pg_sub (pv 0) pe_int set_list)))
        (pss_one (ps_asg (pe_op op_mod (pe_callTy call_int1 (by rfl) mint (by decide +kernel) (pa_cons (pe_op op_add (pe_op op_add (pe_op op_mul (pe_ix ix_list (pv 0) pe_int (fun _ _ => rfl)) pe_int) (pv 2)) pe_int) pa_nil)) pe_int) (pg_sub (pv 0) pe_int set_list)))))))
      pss_nil)
    (pss_cons (ps_if (pt_cmpR op_gt (pe_ix ix_list (pv 0) pe_int (fun _ _ => rfl)) pe_int (nomark _))
      (pss_cons (ps_set (i := 3) scDraw.nd rfl (Or.inl rfl) (pe_op op_mod (pe_callTy call_int1 (by rfl) mint (by decide +kernel) (pa_cons (pe_ix ix_list (pv 0) pe_int (fun _ _ => rfl)) pa_nil)) (pv 1)))
      (pss_cons (ps_asg (pe_op op_fdiv (pe_ix ix_list (pv 0) pe_int (fun _ _ => rfl)) (pv 1)) (pg_sub (pv 0) pe_int set_list))
      (pss_one (ps_ret (pv 3)))))
      pss_nil)
    (pss_cons (ps_set (i := 4) scDraw.nd rfl (Or.inl rfl) (pe_op op_mod (pe_callTy call_int1 (by rfl) mint (by decide +kernel) (pa_cons (pe_op op_add (pe_op op_add (pe_op op_mul (pe_ix ix_list (pv 0) pe_int (fun _ _ => rfl)) pe_int) (pe_op op_mul (pe_ix ix_list (pv 0) pe_int (fun _ _ => rfl)) pe_int)) pe_int) pa_nil)) pe_int))
    (pss_cons (ps_set (i := 4) scDraw.nd rfl (Or.inl rfl) (pe_op op_mod (pe_callTy call_int1 (by rfl) mint (by decide +kernel) (pa_cons (pe_op op_mul (pv 4) (pe_op op_add (pe_op op_fdiv (pv 4) pe_int) pe_int)) pa_nil)) pe_int))
    (pss_cons (ps_set (i := 4) scDraw.nd rfl (Or.inl rfl) (pe_op op_mod (pe_callTy call_int1 (by rfl) mint (by decide +kernel) (pa_cons (pe_op op_mul (pv 4) (pe_op op_add (pe_op op_fdiv (pv 4) pe_int) pe_int)) pa_nil)) pe_int))
    (pss_one (ps_ret (pe_op op_mod (pe_callTy call_int1 (by rfl) mint (by decide +kernel) (pa_cons (pe_op op_fdiv (pv 4) pe_int) pa_nil)) (pv 1))))))))), ?_⟩
  have nlb := BagAt.inner hb hl
  -- bag[3] = bag[3] + 1
  refine ⟨_, rfl, b, _, 3, _, rfl, rfl, SqL.of hb, rfl, k, 1, rfl, rfl, _, rfl, b, _, 3, 3, rfl, rfl, hb, rfl, ?_⟩
  generalize hH1 : upd H b (.lst (List.set [V.ref l, .int i, .int n, .int k, .int z] 3 (.int (k + 1)))) = H1
  have k1 : Keep b H H1 := by rw [← hH1]; exact Keep.upd hb
  have hb1 : H1 b = some (.lst [.ref l, .int i, .int n, .int (k + 1), .int z]) := by rw [← hH1]; exact upd_same
  have hl1 : H1 l = some (.lst (ns.map V.int)) := k1.els _ _ nlb hl
  clear hH1
  have at2 : ∀ (u v : Int), atI [V.ref l, V.int i, .int n, .int u, .int v] 2 = some (.int n) := fun _ _ => rfl
  refine ⟨fun σ' H' => ∃ (i n y z : Int) (c : Option V), σ' = [some (.ref b), some (.int m), c, none, none] ∧ Keep b H H' ∧ H' b = some (.lst [.ref l, .int i, .int n, .int y, .int z]) ∧ H' l = some (.lst (ns.map V.int)) ∧ 0 ≤ i ∧ 0 ≤ n, ?_, ?_⟩
  · refine ⟨_, rfl, b, _, 2, _, rfl, rfl, SqL.of hb1, rfl, rfl, _, rfl, ?_⟩
    refine ite2 (fun c0 => ?_) (fun _ => iteF ⟨i, n, _, _, _, rfl, k1, hb1, hl1, hi, hn⟩)
    refine ⟨_, rfl, b, _, 1, _, rfl, rfl, SqL.of hb1, rfl, _, rfl, b, _, 0, _, rfl, rfl, SqL.of hb1, rfl, l, _, rfl, .inl (SqL.of hl1), i, _, rfl, rfl, _, rfl, ?_⟩
    refine ite2 (fun c1 => ?_) (fun _ => ⟨i, n, _, _, _, rfl, k1, hb1, hl1, hi, hn⟩)
    have c1 : i < (((ns.map V.int).length : Nat) : Int) := of_decide_eq_true c1
    rw [List.length_map] at c1
    have hlt : i.toNat < ns.length := by omega
    have ei : i = ((i.toNat : Nat) : Int) := by omega
    have hat : atI (ns.map V.int) i = some (.int (ns[i.toNat])) := by
      have q : atI (ns.map V.int) ((i.toNat : Nat) : Int) = some (.int ns[i.toNat]) := atI_nat (by rw [List.getElem?_map, List.getElem?_eq_getElem hlt]; rfl)
      rw [← ei] at q
      exact q
    generalize ns[i.toNat] = cell at hat
    refine ⟨_, rfl, b, _, 0, _, rfl, rfl, SqL.of hb1, rfl, _, rfl, b, _, 1, _, rfl, rfl, SqL.of hb1, rfl, l, _, i, _, rfl, rfl, SqL.of hl1, hat, ?_⟩
    refine ⟨_, rfl, b, _, 1, _, rfl, rfl, SqL.of hb1, rfl, i, 1, rfl, rfl, _, rfl, b, _, 1, 1, rfl, rfl, hb1, rfl, ?_⟩
    generalize hH2 : upd H1 b (.lst (List.set [V.ref l, .int i, .int n, .int (k + 1), .int z] 1 (.int (i + 1)))) = H2
    have k2 : Keep b H H2 := by rw [← hH2]; exact k1.trans (Keep.upd hb1)
    have hb2 : H2 b = some (.lst [.ref l, .int (i + 1), .int n, .int (k + 1), .int z]) := by rw [← hH2]; exact upd_same
    have hl2 : H2 l = some (.lst (ns.map V.int)) := k2.els _ _ nlb hl
    clear hH2
    refine ⟨_, rfl, 10, 18, rfl, rfl, ⟨by decide, by decide, by decide⟩, cell, _, rfl, rfl, _, rfl, ?_⟩
    refine ite2 (fun c2 => ?_) (fun _ => ?_)
    · have c2 : (10 : Int) ^ (18 : Int).toNat ≤ cell := of_decide_eq_true c2
      have p0 : (0 : Int) ≤ (10 : Int) ^ (18 : Int).toNat := by decide
      refine ⟨_, rfl, _, rfl, b, _, 2, 2, rfl, rfl, hb2, rfl, i + 1, cell, k + 1, z, _, rfl, k2.trans (Keep.upd hb2), upd_same, ?_, by omega, by omega⟩
      rw [upd_ne nlb]
      exact hl2
    · refine ⟨_, rfl, b, _, 4, _, rfl, rfl, SqL.of hb2, rfl, z, 31, rfl, rfl, .inr ⟨by decide, by decide⟩, _, rfl, _, cell, rfl, rfl, _, 3203, rfl, rfl, .inl ⟨_, rfl, _, 2147483629, rfl, rfl, (by show (0 : Int) < 2147483629; decide), ?_⟩⟩
      refine ⟨_, rfl, b, _, 4, 4, rfl, rfl, hb2, rfl, i + 1, n, k + 1, _, _, rfl, k2.trans (Keep.upd hb2), upd_same, ?_, by omega, hn⟩
      rw [upd_ne nlb]
      exact hl2
  · rintro σ' H2 ⟨i, n, y, z, c, rfl, k2, hb2, hl2, hi, hn⟩
    refine ⟨_, rfl, b, _, 2, _, rfl, rfl, SqL.of hb2, rfl, n, 0, rfl, rfl, _, rfl, ?_⟩
    refine ite2 (fun c0 => ?_) (fun _ => ?_)
    · refine ⟨_, rfl, b, _, 2, _, rfl, rfl, SqL.of hb2, rfl, .inl ⟨n, rfl, _, rfl, n, m, rfl, rfl, hm0, ?_⟩⟩
      refine ⟨_, rfl, b, _, 2, _, rfl, rfl, SqL.of hb2, rfl, _, rfl, n, m, rfl, rfl, ⟨hm0, by omega⟩, _, rfl, b, _, 2, 2, rfl, rfl, hb2, rfl, _, rfl, ?_⟩
      refine q _ _ (Int.emod_nonneg _ (by omega)) (Int.emod_lt_of_pos _ hm0) (k2.trans (Keep.upd hb2)) ⟨l, ns, i, n / m, y, z, upd_same, ?_, hn63, hi, Int.ediv_nonneg hn (by omega)⟩
      rw [upd_ne nlb]
      exact hl2
    · have bag : BagAt H2 b := ⟨l, ns, i, n, y, z, hb2, hl2, hn63, hi, hn⟩
      refine ⟨_, rfl, b, _, 4, _, rfl, rfl, SqL.of hb2, rfl, z, 40014, rfl, rfl, .inr ⟨by decide, by decide⟩, _, rfl, b, _, 3, _, rfl, rfl, SqL.of hb2, rfl, y, 102841, rfl, rfl, .inr ⟨by decide, by decide⟩, _, _, rfl, rfl, _, 5209, rfl, rfl, .inl ⟨_, rfl, _, 2147483647, rfl, rfl, (by show (0 : Int) < 2147483647; decide), ?_⟩⟩
      have b1 := Int.emod_nonneg (z * 40014 + y * 102841 + 5209) (show (2147483647 : Int) ≠ 0 by decide)
      have b2 := Int.emod_lt_of_pos (z * 40014 + y * 102841 + 5209) (show (0 : Int) < 2147483647 by decide)
      obtain ⟨x1, e1⟩ : ∃ x1, x1 = (z * 40014 + y * 102841 + 5209) % 2147483647 := ⟨_, rfl⟩
      rw [← e1] at b1 b2
      have b3 := Int.emod_nonneg (x1 * (x1 / 1039 + 48271)) (show (2147483647 : Int) ≠ 0 by decide)
      have b4 := Int.emod_lt_of_pos (x1 * (x1 / 1039 + 48271)) (show (0 : Int) < 2147483647 by decide)
      obtain ⟨x2, e2⟩ : ∃ x2, x2 = (x1 * (x1 / 1039 + 48271)) % 2147483647 := ⟨_, rfl⟩
      rw [← e2] at b3 b4
      refine ⟨_, rfl, _, rfl, x1, 1039, congrArg V.int e1.symm, rfl, ⟨by decide, by decide⟩, _, 48271, rfl, rfl, x1, _, congrArg V.int e1.symm, rfl, .inl ⟨by omega, by omega⟩, .inl ⟨_, rfl, _, 2147483647, rfl, rfl, (by show (0 : Int) < 2147483647; decide), ?_⟩⟩
      refine ⟨_, rfl, _, rfl, x2, 2053, congrArg V.int e2.symm, rfl, ⟨by decide, by decide⟩, _, 69621, rfl, rfl, x2, _, congrArg V.int e2.symm, rfl, .inl ⟨by omega, by omega⟩, .inl ⟨_, rfl, _, 2147483399, rfl, rfl, (by show (0 : Int) < 2147483399; decide), ?_⟩⟩
      refine ⟨_, rfl, _, 32, rfl, rfl, ⟨by decide, by decide⟩, .inl ⟨_, rfl, _, rfl, _, m, rfl, rfl, hm0, ?_⟩⟩
      exact q _ _ (Int.emod_nonneg _ (by omega)) (Int.emod_lt_of_pos _ hm0) k2 bag
end
end K12

set_option Elab.async false
set_option linter.all false
set_option maxRecDepth 100000
set_option maxHeartbeats 4000000
namespace K12
open PySem PySem.Spec L2

def spBag (K : PySem.W.Frag) : Sp := fun vs H Q _ => ∃ (a : Addr) (ns : List Int), vs = [.ref a] ∧ SqL K H a (ns.map V.int) ∧ ns.length ≤ 63 ∧ ∀ (b : Addr) (H' : Hp), Same H H' → BagAt H' b → Q (.ref b) H'
section
variable {P : Program} {w : World} {K : PySem.W.Frag} {mg : Str → Option Value} {base : Heap} {f : Addr} {fd : FuncData}
theorem scBag : FnScope ["_law_script", "_law_seed", "_law_cell"] ["_law_script"] (defScope sBag) := ⟨rfl, rfl, rfl, by decide +kernel, rfl, by decide +kernel, by decide +kernel⟩
theorem ok_bag (D : Dn K mg "_law_bag" sBag ["_law_script"] f fd) (mint : mg "int" = none) (mlist : mg "list" = none) : FnOk P w K mg base CX0 1 f fd ["_law_script"] (spBag K) := by
  refine D.F.ok scBag (fun vs H Q E h => ?_) (fun cdv A outer s H vs Q E hr h => ?_)
  · obtain ⟨a, ns, rfl, _⟩ := h
    rfl
  obtain ⟨a, ns, rfl, hS, h63, q⟩ := h
  have hl : (ns.map V.int).length ≤ 63 := by rw [List.length_map]; exact h63
  have hc : cutV (ns.map V.int) none (some 63) = ns.map V.int := cut_all hl
  refine ⟨_, pss_cons (ps_set (i := 1) scBag.nd rfl (Or.inl rfl) pe_int)
    (pss_cons (ps_for PassesOwn.never rfl (pi_list (pe_slice sl_list (pv 0) po_none (po_some pe_int))) (pg_name (i := 2) scBag.nd rfl (Or.inl rfl))
      (pss_one (ps_set (i := 1) scBag.nd rfl (Or.inl rfl) (pe_op op_mod (pe_callTy call_int1 (by rfl) mint (by decide +kernel) (pa_cons (pe_op op_add (pe_op op_add (pe_op op_mul (pv 1) pe_int) (pv 2)) pe_int) pa_nil)) pe_int))))
    (pss_one (ps_ret (pe_lst (pa_cons (pe_callTy call_list_of (by rfl) mlist (by decide +kernel) (pa_cons (pe_slice sl_list (pv 0) po_none (po_some pe_int)) pa_nil)) (pa_cons pe_int (pa_cons pe_int (pa_cons pe_int (pa_cons (pv 1) pa_nil)))))))))  , ?_⟩
  refine ⟨_, rfl, 63, rfl, a, _, rfl, hS, fun p np => ?_⟩
  rw [hc]
  refine ⟨p, rfl, ⟨_, SqL.of upd_same⟩, for_list (K := K) (a := p) (xs := ns.map V.int) (fun i σ H' => ∃ (z : Int) (c : Option V), σ = [some (.ref a), some (.int z), c] ∧ Same H H' ∧ H' p = some (.lst (ns.map V.int)))
    ⟨37, none, rfl, same_new np _, upd_same⟩ (fun i σ H' _ ⟨_, _, _, _, e⟩ => SqL.of e) ?_ ?_⟩
  · rintro i y σ H' hi ⟨z, c, rfl, sm, hp⟩
    obtain ⟨u, rfl, _⟩ := ints_at hi
    exact ⟨_, rfl, z, 61, rfl, rfl, .inr ⟨by decide, by decide⟩, _, rfl, _, u, rfl, rfl, _, 19, rfl, rfl, .inl ⟨_, rfl, _, 2147483629, rfl, rfl, (by show (0 : Int) < 2147483629; decide), _, _, rfl, sm, hp⟩⟩
  · rintro σ H' ⟨z, c, rfl, sm, hp⟩
    refine ⟨_, rfl, 63, rfl, a, _, rfl, sm.seq hS, fun p2 np2 => ?_⟩
    rw [hc]
    refine ⟨p2, _, rfl, .inl (SqL.of upd_same), fun l nl => ?_⟩
    refine ⟨_, rfl, (by show 5 ≤ sizeLine; decide), fun b nb => ?_⟩
    have s1 : Same H' (upd (upd H' p2 (.lst (ns.map V.int))) l (.lst (ns.map V.int))) := (same_new np2 _).trans (same_new nl _)
    have s2 := s1.trans (same_new nb (.lst [.ref l, .int 0, .int 0, .int 0, .int z]))
    refine q b _ (sm.trans s2) ⟨l, ns, 0, 0, 0, z, upd_same, ?_, h63, by omega, by omega⟩
    rw [upd_ne (ne_of_none upd_same nb)]
    exact upd_same
end
end K12

set_option Elab.async false
set_option linter.all false
set_option maxRecDepth 100000
set_option maxHeartbeats 4000000
namespace K12
open PySem PySem.Spec L2

def spPick (K : PySem.W.Frag) : Sp := fun vs H Q _ => ∃ (b x : Addr) (xs : List V), vs = [.ref b, .ref x] ∧ BagAt H b ∧ SqL K H x xs ∧ x ≠ b ∧ 0 < xs.length ∧ xs.length ≤ 1000 ∧ ∀ (v : V) (H' : Hp), v ∈ xs → Keep b H H' → BagAt H' b → Q v H'
/-- what stands for names and variables -/
structure Nms (K : PySem.W.Frag) (H : Hp) (b nl : Addr) (Ns : List Str) : Prop where
  at_ : SqL K H nl (Ns.map V.str)
  ne : nl ≠ b
  pos : 0 < Ns.length
  few : Ns.length ≤ 10
theorem Nms.keep {K : PySem.W.Frag} {H H' : Hp} {b nl : Addr} {Ns : List Str} (h : Nms K H b nl Ns) (k : Keep b H H') : Nms K H' b nl Ns := ⟨k.seq h.ne h.at_, h.ne, h.pos, h.few⟩
def spLeaf (K : PySem.W.Frag) : Sp := fun vs H Q _ => ∃ (b nl vl : Addr) (Ns : List Str), vs = [.ref b, .ref nl, .ref vl] ∧ BagAt H b ∧ Nms K H b nl Ns ∧ SqL K H vl [] ∧ vl ≠ b ∧ ∀ (x : Str) (H' : Hp), x ∈ Ns → Keep b H H' → BagAt H' b → Q (.str x) H'
/-- a drawn term -/
structure Drawn (Ns : List Str) (b : Addr) (d : Int) (H H' : Hp) (v : V) (t : Tm) : Prop where
  tm : TmAt H' t v
  dp : (t.depth : Int) ≤ d
  nm : ∀ x ∈ t.names, x ∈ Ns
  kp : Keep b H H'
  bag : BagAt H' b
def spPattern (K : PySem.W.Frag) (n : Nat) : Sp := fun vs H Q _ => ∃ (b nl vl : Addr) (Ns : List Str) (d : Int), vs = [.ref b, .ref nl, .ref vl, .int d] ∧ 1 ≤ d ∧ d ≤ n ∧ BagAt H b ∧ Nms K H b nl Ns ∧ SqL K H vl [] ∧ vl ≠ b ∧ ∀ (v : V) (t : Tm) (H' : Hp), Drawn Ns b d H H' v t → Q v H'
def spTerm (K : PySem.W.Frag) (n : Nat) : Sp := fun vs H Q _ => ∃ (b nl : Addr) (Ns : List Str) (d : Int), vs = [.ref b, .ref nl, .int d] ∧ 1 ≤ d ∧ d ≤ n ∧ BagAt H b ∧ Nms K H b nl Ns ∧ ∀ (v : V) (t : Tm) (H' : Hp), Drawn Ns b d H H' v t → Q v H'
theorem TmAt.keep {H H' : Hp} {b : Addr} {t : Tm} {v : V} (h : TmAt H t v) (bag : BagAt H b) (k : Keep b H H') : TmAt H' t v := by
  obtain ⟨xs, e⟩ := bag.lst
  exact h.mono (k.tups e)
theorem TmAt.new {H : Hp} {p : Addr} {o : HO} {t : Tm} {v : V} (h : TmAt H t v) (np : H p = none) : TmAt (upd H p o) t v := h.mono (Same.tups (same_new np o))
/-- a new tuple behind the draws -/
theorem Drawn.made {Ns : List Str} {b p : Addr} {d : Int} {H H' : Hp} {xs : List V} {t : Tm} (k : Keep b H H') (bag : BagAt H' b) (np : H' p = none) (tm : TmAt (upd H' p (.tup xs)) t (.ref p)) (dp : (t.depth : Int) ≤ d) (nm : ∀ x ∈ t.names, x ∈ Ns) :
    Drawn Ns b d H (upd H' p (.tup xs)) (.ref p) t := ⟨tm, dp, nm, k.trans (Keep.of (same_new np _)), bag.keeps (same_new np _)⟩
section
variable {P : Program} {w : World} {K : PySem.W.Frag} {mg : Str → Option Value} {base : Heap} {f fD fP fL fT : Addr} {fd dD dP dL dT : FuncData}
theorem scPick : FnScope ["_law_bag_here", "_law_things"] ["_law_bag_here", "_law_things"] (defScope sPick) := ⟨rfl, rfl, rfl, by decide +kernel, rfl, by decide +kernel, by decide +kernel⟩
theorem ok_pick (D : Dn K mg "_law_pick" sPick ["_law_bag_here", "_law_things"] f fd) (Dd : Dn K mg "_law_draw" sDraw ["_law_bag_here", "_law_many"] fD dD) (Gd : FnOk P w K mg base CX0 1 fD dD ["_law_bag_here", "_law_many"] spDraw) (mlen : mg "len" = none) :
    FnOk P w K mg base CX0 2 f fd ["_law_bag_here", "_law_things"] (spPick K) := by
  refine D.F.ok scPick (fun vs H Q E h => ?_) (fun cdv A outer s H vs Q E hr h => ?_)
  · obtain ⟨b, x, xs, rfl, _⟩ := h
    rfl
  obtain ⟨b, x, xs, rfl, hb, hx, ne, h0, h1, q⟩ := h
  refine ⟨_, pss_one (ps_ret (pe_ix ix_list (pv 1) (pe_call Gd hr rfl Dd.g Dd.F.kp Dd.b .nil pass0 (pa_cons (pv 0) (pa_cons (pe_callB call_len_seq (by rfl) mlen PySem.boot_len (pa_cons (pv 1) pa_nil)) pa_nil))) (fun _ _ => rfl))), ?_⟩
  refine ⟨_, rfl, _, rfl, _, rfl, x, xs, rfl, .inl hx, b, _, rfl, hb, by omega, by omega, fun d H' d0 d1 kp bag => ?_⟩
  obtain ⟨v, hv, hv'⟩ := at_lt d0 d1
  exact ⟨x, xs, d, v, rfl, rfl, kp.seq ne hx, hv, q v H' (List.mem_of_getElem? hv') kp bag⟩
theorem scLeaf : FnScope ["_law_bag_here", "_law_names_here", "_law_variables"] ["_law_bag_here", "_law_names_here", "_law_variables"] (defScope sLeaf) := ⟨rfl, rfl, rfl, by decide +kernel, rfl, by decide +kernel, by decide +kernel⟩
theorem ok_leaf (D : Dn K mg "_law_leaf" sLeaf ["_law_bag_here", "_law_names_here", "_law_variables"] f fd) (Dp : Dn K mg "_law_pick" sPick ["_law_bag_here", "_law_things"] fP dP) (Gp : FnOk P w K mg base CX0 2 fP dP ["_law_bag_here", "_law_things"] (spPick K)) (mlen : mg "len" = none) :
    FnOk P w K mg base CX0 3 f fd ["_law_bag_here", "_law_names_here", "_law_variables"] (spLeaf K) := by
  refine D.F.ok scLeaf (fun vs H Q E h => ?_) (fun cdv A outer s H vs Q E hr h => ?_)
  · obtain ⟨b, nl, vl, Ns, rfl, _⟩ := h
    rfl
  obtain ⟨b, nl, vl, Ns, rfl, hb, hn, hv, nv, q⟩ := h
  refine ⟨_, pss_cons (ps_if (PW.pt (pw_and (pt_cmpR op_gt (pe_callB call_len_seq (by rfl) mlen PySem.boot_len (pa_cons (pv 2) pa_nil)) pe_int (nomark _)) (pw_and1 pt_never))) pss_never pss_nil)
    (pss_one (ps_ret (pe_call Gp hr rfl Dp.g Dp.F.kp Dp.b .nil pass0 (pa_cons (pv 0) (pa_cons (pv 1) pa_nil))))), ?_⟩
  refine ⟨_, rfl, vl, _, rfl, .inl hv, _, 0, rfl, rfl, _, rfl, iteF (iteF ?_)⟩
  refine ⟨_, rfl, _, rfl, b, nl, _, rfl, hb, hn.at_, hn.ne, by rw [List.length_map]; exact hn.pos, by rw [List.length_map]; have := hn.few; omega, fun v H' hm kp bag => ?_⟩
  obtain ⟨x, hx, rfl⟩ := List.mem_map.mp hm
  exact q x H' hx kp bag
theorem scPattern : FnScope ["_law_bag_here", "_law_names_here", "_law_variables", "_law_depth", "_law_kind", "_law_first", "_law_key", "_law_leaf_here", "_law_inner"] ["_law_bag_here", "_law_names_here", "_law_variables", "_law_depth"] (defScope sPattern) := ⟨rfl, rfl, rfl, by decide +kernel, rfl, by decide +kernel, by decide +kernel⟩
theorem none_pattern : FnOk P w K mg base CX0 3 f fd ["_law_bag_here", "_law_names_here", "_law_variables", "_law_depth"] (spPattern K 0) := by
  have no : ∀ vs H Q E, ¬ spPattern K 0 vs H Q E := fun vs H Q E h => by
    obtain ⟨b, nl, vl, Ns, d, _, h1, h2, _⟩ := h
    omega
  exact ⟨fun vs H Q E h => absurd h (no vs H Q E), fun A outer s H args us vs Q E _ _ _ _ h => absurd h (no vs H Q E)⟩
theorem ok_pattern {n : Nat} (D : Dn K mg "_law_pattern" sPattern ["_law_bag_here", "_law_names_here", "_law_variables", "_law_depth"] f fd)
    (Dd : Dn K mg "_law_draw" sDraw ["_law_bag_here", "_law_many"] fD dD) (Gd : FnOk P w K mg base CX0 1 fD dD ["_law_bag_here", "_law_many"] spDraw)
    (Dl : Dn K mg "_law_leaf" sLeaf ["_law_bag_here", "_law_names_here", "_law_variables"] fL dL) (Gl : FnOk P w K mg base CX0 3 fL dL ["_law_bag_here", "_law_names_here", "_law_variables"] (spLeaf K))
    (G : FnOk P w K mg base CX0 (n + 3) f fd ["_law_bag_here", "_law_names_here", "_law_variables", "_law_depth"] (spPattern K n)) :
    FnOk P w K mg base CX0 (n + 1 + 3) f fd ["_law_bag_here", "_law_names_here", "_law_variables", "_law_depth"] (spPattern K (n + 1)) := by
  refine D.F.ok scPattern (fun vs H Q E h => ?_) (fun cdv A outer s H vs Q E hr h => ?_)
  · obtain ⟨b, nl, vl, Ns, d, rfl, _⟩ := h
    rfl
  obtain ⟨b, nl, vl, Ns, d, rfl, h1, h2, hb, hn, hv, nv, q⟩ := h
  have hr1 : Room 1 _ := hr.mono (by omega)
  have hr3 : Room 3 _ := hr.mono (by omega)
  have hr : Room (n + 3) _ := hr
  refine ⟨_, (pss_cons (ps_set (i := 4) scPattern.nd rfl (Or.inl rfl) (pe_call Gd hr1 rfl Dd.g Dd.F.kp Dd.b .nil pass0 (pa_cons (pv 0) (pa_cons pe_int pa_nil))))
    (pss_cons (ps_if (PW.pt (pw_or (pt_cmpR op_eq (pv 3) pe_int (nomark _)) (pw_or1 (pt_cmpR op_lt (pv 4) pe_int (nomark _))))) (pss_one (ps_ret (pe_call Gl hr3 rfl Dl.g Dl.F.kp Dl.b .nil pass0 (pa_cons (pv 0) (pa_cons (pv 1) (pa_cons (pv 2) pa_nil)))))) pss_nil)
    (pss_cons (ps_if (pt_cmpR op_lt (pv 4) pe_int (nomark _)) (pss_cons (ps_set (i := 5) scPattern.nd rfl (Or.inl rfl) (pe_call G hr rfl D.g D.F.kp D.b .nil pass0 (pa_cons (pv 0) (pa_cons (pv 1) (pa_cons (pv 2) (pa_cons (pe_op op_sub (pv 3) pe_int) pa_nil))))))
    (pss_one (ps_ret (pe_tup (pa_cons pe_str (pa_cons (pv 5) (pa_cons (pe_call G hr rfl D.g D.F.kp D.b .nil pass0 (pa_cons (pv 0) (pa_cons (pv 1) (pa_cons (pv 2) (pa_cons (pe_op op_sub (pv 3) pe_int) pa_nil))))) pa_nil))))))) pss_nil)
    (pss_cons (ps_if (pt_cmpR op_lt (pv 4) pe_int (nomark _)) (pss_cons (ps_set (i := 6) scPattern.nd rfl (Or.inl rfl) (pe_call Gl hr3 rfl Dl.g Dl.F.kp Dl.b .nil pass0 (pa_cons (pv 0) (pa_cons (pv 1) (pa_cons (pv 2) pa_nil)))))
    (C8.pss_cut (ps_if (pt_cmpR op_eq (pe_call Gd hr1 rfl Dd.g Dd.F.kp Dd.b .nil pass0 (pa_cons (pv 0) (pa_cons pe_int pa_nil))) pe_int (nomark _)) (pss_one (ps_set (i := 6) scPattern.nd rfl (Or.inl rfl) (pe_call G hr rfl D.g D.F.kp D.b .nil pass0 (pa_cons (pv 0) (pa_cons (pv 1) (pa_cons (pv 2) (pa_cons (pe_op op_sub (pv 3) pe_int) pa_nil))))))) pss_nil)
    (pss_one (ps_ret (pe_tup (pa_cons pe_str (pa_cons (pv 6) (pa_cons (pe_call G hr rfl D.g D.F.kp D.b .nil pass0 (pa_cons (pv 0) (pa_cons (pv 1) (pa_cons (pv 2) (pa_cons (pe_op op_sub (pv 3) pe_int) pa_nil))))) pa_nil)))))))) pss_nil)
    (pss_cons (ps_set (i := 7) scPattern.nd rfl (Or.inl rfl) (pe_call Gl hr3 rfl Dl.g Dl.F.kp Dl.b .nil pass0 (pa_cons (pv 0) (pa_cons (pv 1) (pa_cons (pv 2) pa_nil)))))
    (pss_cons (ps_if (pt_cmpR op_eq (pv 4) pe_int (nomark _)) (pss_one (ps_ret (pe_tup (pa_cons pe_str (pa_cons (pv 7) pa_nil))))) pss_nil)
    (pss_cons (ps_set (i := 8) scPattern.nd rfl (Or.inl rfl) (pe_call G hr rfl D.g D.F.kp D.b .nil pass0 (pa_cons (pv 0) (pa_cons (pv 1) (pa_cons (pv 2) (pa_cons (pe_op op_sub (pv 3) pe_int) pa_nil))))))
    (pss_cons (ps_if (pt_cmpR op_eq (pv 4) pe_int (nomark _)) (pss_one (ps_ret (pe_tup (pa_cons pe_str (pa_cons (pv 7) (pa_cons (pv 8) pa_nil)))))) pss_nil)
    (pss_cons (ps_if (pt_cmpR op_eq (pv 4) pe_int (nomark _)) (pss_one (ps_ret (pe_tup (pa_cons pe_str (pa_cons (pv 7) (pa_cons (pv 8) pa_nil)))))) pss_nil)
    (pss_one (ps_ret (pe_tup (pa_cons pe_str (pa_cons (pv 8) pa_nil)))))))))))))), ?_⟩
  refine ⟨_, rfl, b, 14, rfl, hb, by decide, by decide, fun kd H1 _ _ k1 b1 => ?_⟩
  have n1 := hn.keep k1
  have v1 : SqL K H1 vl [] := k1.seq nv hv
  have leaf : ∀ (x : Str) (H' : Hp), x ∈ Ns → Keep b H H' → BagAt H' b → Q (.str x) H' := fun x H' hx k bag => q _ (.nm x) H' ⟨rfl, by show ((1 : Nat) : Int) ≤ d; omega, fun y hy => by simp [Tm.names] at hy; rw [hy]; exact hx, k, bag⟩
  have goLeaf : ∃ (b' nl' vl' : Addr) (Ns' : List Str), [V.ref b, .ref nl, .ref vl] = [.ref b', .ref nl', .ref vl'] ∧ BagAt H1 b' ∧ Nms K H1 b' nl' Ns' ∧ SqL K H1 vl' [] ∧ vl' ≠ b' ∧ ∀ (x : Str) (H' : Hp), x ∈ Ns' → Keep b' H1 H' → BagAt H' b' → Q (.str x) H' :=
    ⟨b, nl, vl, Ns, rfl, b1, n1, v1, nv, fun x H' hx k bag => leaf x H' hx (k1.trans k) bag⟩
  have dec : ∀ {c : Prop} [Decidable c], decide c = true → c := fun h => of_decide_eq_true h
  refine ⟨_, rfl, rfl, _, rfl, ?_⟩
  refine ite2 (fun _ => iteT ⟨_, rfl, _, rfl, _, rfl, goLeaf⟩) (fun c1 => ?_)
  have hd1 : ¬ d = 1 := fun e => c1 (decide_eq_true (by rw [e]))
  refine ⟨_, rfl, kd, 4, rfl, rfl, _, rfl, ?_⟩
  refine ite2 (fun _ => ⟨_, rfl, _, rfl, _, rfl, goLeaf⟩) (fun _ => ?_)
  -- the inner terms
  have hdn : 1 ≤ d - 1 ∧ d - 1 ≤ (n : Int) := by omega
  refine ⟨_, rfl, kd, 7, rfl, rfl, _, rfl, ?_⟩
  refine ite2 (fun _ => ?_) (fun _ => ?_)
  · refine ⟨_, rfl, _, rfl, _, rfl, _, rfl, d, 1, rfl, rfl, b, nl, vl, Ns, d - 1, rfl, hdn.1, hdn.2, b1, n1, v1, nv, fun x t H2 r2 => ?_⟩
    refine ⟨_, rfl, _, rfl, _, rfl, _, rfl, _, rfl, d, 1, rfl, rfl, b, nl, vl, Ns, d - 1, rfl, hdn.1, hdn.2, r2.bag, n1.keep r2.kp, r2.kp.seq nv v1, nv, fun y u H3 r3 => ?_⟩
    refine ⟨(by show 3 ≤ sizeLine; decide), fun p np => ?_⟩
    refine q _ (.pair t u) _ (Drawn.made (k1.trans (r2.kp.trans r3.kp)) r3.bag np ⟨p, _, _, rfl, upd_same, (r2.tm.keep r2.bag r3.kp).new np, r3.tm.new np⟩ ?_ fun z hz => ?_)
    · have e1 := r2.dp
      have e2 := r3.dp
      show ((1 + max t.depth u.depth : Nat) : Int) ≤ d
      omega
    · rcases List.mem_append.mp hz with hz | hz
      · exact r2.nm z hz
      · exact r3.nm z hz
  refine ⟨_, rfl, kd, 10, rfl, rfl, _, rfl, ?_⟩
  refine ite2 (fun _ => ?_) (fun _ => ?_)
  · refine ⟨_, rfl, _, rfl, _, rfl, b, nl, vl, Ns, rfl, b1, n1, v1, nv, fun x H2 hx k2 b2 => ?_⟩
    refine ⟨fun σ' H' => ∃ (e : Option V) (y : V) (t : Tm), σ' = [some (.ref b), some (.ref nl), some (.ref vl), some (.int d), some (.int kd), e, some y, none, none] ∧ Drawn Ns b (d - 1) H1 H' y t, ?_, ?_⟩
    · refine ⟨_, rfl, b, 5, rfl, b2, by decide, by decide, fun e H3 _ _ k3 b3 => ?_⟩
      refine ⟨rfl, _, rfl, ?_⟩
      refine ite2 (fun _ => ?_) (fun _ => ?_)
      · refine ⟨_, rfl, _, rfl, _, rfl, _, rfl, d, 1, rfl, rfl, b, nl, vl, Ns, d - 1, rfl, hdn.1, hdn.2, b3, n1.keep (k2.trans k3), (k2.trans k3).seq nv v1, nv, fun y t H4 r4 => ?_⟩
        exact ⟨_, y, t, rfl, r4.tm, r4.dp, r4.nm, k2.trans (k3.trans r4.kp), r4.bag⟩
      · refine ⟨_, .str x, .nm x, rfl, rfl, ?_, fun y hy => ?_, k2.trans k3, b3⟩
        · show ((1 : Nat) : Int) ≤ d - 1
          omega
        · simp [Tm.names] at hy
          rw [hy]
          exact hx
    · rintro σ' H3 ⟨e, y, t, rfl, r3⟩
      refine ⟨_, rfl, _, rfl, _, rfl, _, rfl, _, rfl, d, 1, rfl, rfl, b, nl, vl, Ns, d - 1, rfl, hdn.1, hdn.2, r3.bag, n1.keep r3.kp, r3.kp.seq nv v1, nv, fun z u H4 r4 => ?_⟩
      refine ⟨(by show 3 ≤ sizeLine; decide), fun p np => ?_⟩
      refine q _ (.box t u) _ (Drawn.made (k1.trans (r3.kp.trans r4.kp)) r4.bag np ⟨p, _, _, rfl, upd_same, (r3.tm.keep r3.bag r4.kp).new np, r4.tm.new np⟩ ?_ fun z hz => ?_)
      · have e1 := r3.dp
        have e2 := r4.dp
        show ((1 + max t.depth u.depth : Nat) : Int) ≤ d
        omega
      · rcases List.mem_append.mp hz with hz | hz
        · exact r3.nm z hz
        · exact r4.nm z hz
  refine ⟨_, rfl, _, rfl, _, rfl, b, nl, vl, Ns, rfl, b1, n1, v1, nv, fun x H2 hx k2 b2 => ?_⟩
  refine ⟨_, rfl, rfl, _, rfl, ?_⟩
  refine ite2 (fun _ => ?_) (fun _ => ?_)
  · refine ⟨_, rfl, (by show 2 ≤ sizeLine; decide), fun p np => ?_⟩
    refine q _ (.half x) _ (Drawn.made (k1.trans k2) b2 np ⟨p, rfl, upd_same⟩ ?_ fun z hz => ?_)
    · show ((2 : Nat) : Int) ≤ d
      omega
    · simp [Tm.names] at hz
      rw [hz]
      exact hx
  refine ⟨_, rfl, _, rfl, _, rfl, _, rfl, d, 1, rfl, rfl, b, nl, vl, Ns, d - 1, rfl, hdn.1, hdn.2, b2, n1.keep k2, k2.seq nv v1, nv, fun y t H3 r3 => ?_⟩
  have dp1 : ((1 + t.depth : Nat) : Int) ≤ d := by
    have := r3.dp
    omega
  have nm1 : ∀ z ∈ x :: t.names, z ∈ Ns := fun z hz => by
    rcases List.mem_cons.mp hz with e | hz
    · rw [e]; exact hx
    · exact r3.nm z hz
  refine ⟨_, rfl, rfl, _, rfl, ?_⟩
  refine ite2 (fun _ => ?_) (fun _ => ?_)
  · refine ⟨_, rfl, _, rfl, (by show 3 ≤ sizeLine; decide), fun p np => ?_⟩
    exact q _ (.shut x t) _ (Drawn.made (k1.trans (k2.trans r3.kp)) r3.bag np ⟨p, _, rfl, upd_same, r3.tm.new np⟩ dp1 nm1)
  refine ⟨_, rfl, rfl, _, rfl, ?_⟩
  refine ite2 (fun _ => ?_) (fun _ => ?_)
  · refine ⟨_, rfl, _, rfl, (by show 3 ≤ sizeLine; decide), fun p np => ?_⟩
    exact q _ (.mark x t) _ (Drawn.made (k1.trans (k2.trans r3.kp)) r3.bag np ⟨p, _, rfl, upd_same, r3.tm.new np⟩ dp1 nm1)
  · refine ⟨_, rfl, (by show 2 ≤ sizeLine; decide), fun p np => ?_⟩
    exact q _ (.mix t) _ (Drawn.made (k1.trans (k2.trans r3.kp)) r3.bag np ⟨p, _, rfl, upd_same, r3.tm.new np⟩ dp1 fun z hz => r3.nm z hz)
theorem all_pattern (D : Dn K mg "_law_pattern" sPattern ["_law_bag_here", "_law_names_here", "_law_variables", "_law_depth"] f fd)
    (Dd : Dn K mg "_law_draw" sDraw ["_law_bag_here", "_law_many"] fD dD) (Gd : FnOk P w K mg base CX0 1 fD dD ["_law_bag_here", "_law_many"] spDraw)
    (Dl : Dn K mg "_law_leaf" sLeaf ["_law_bag_here", "_law_names_here", "_law_variables"] fL dL) (Gl : FnOk P w K mg base CX0 3 fL dL ["_law_bag_here", "_law_names_here", "_law_variables"] (spLeaf K)) :
    ∀ n, FnOk P w K mg base CX0 (n + 3) f fd ["_law_bag_here", "_law_names_here", "_law_variables", "_law_depth"] (spPattern K n)
  | 0 => none_pattern
  | n + 1 => ok_pattern D Dd Gd Dl Gl (all_pattern D Dd Gd Dl Gl n)
theorem scTerm : FnScope ["_law_bag_here", "_law_names_here", "_law_depth"] ["_law_bag_here", "_law_names_here", "_law_depth"] (defScope sTerm) := ⟨rfl, rfl, rfl, by decide +kernel, rfl, by decide +kernel, by decide +kernel⟩
theorem ok_term {n : Nat} (D : Dn K mg "_law_term" sTerm ["_law_bag_here", "_law_names_here", "_law_depth"] f fd)
    (Dp : Dn K mg "_law_pattern" sPattern ["_law_bag_here", "_law_names_here", "_law_variables", "_law_depth"] fP dP) (Gp : FnOk P w K mg base CX0 (n + 3) fP dP ["_law_bag_here", "_law_names_here", "_law_variables", "_law_depth"] (spPattern K n)) :
    FnOk P w K mg base CX0 (n + 4) f fd ["_law_bag_here", "_law_names_here", "_law_depth"] (spTerm K n) := by
  refine D.F.ok scTerm (fun vs H Q E h => ?_) (fun cdv A outer s H vs Q E hr h => ?_)
  · obtain ⟨b, nl, Ns, d, rfl, _⟩ := h
    rfl
  obtain ⟨b, nl, Ns, d, rfl, h1, h2, hb, hn, q⟩ := h
  refine ⟨_, pss_one (ps_ret (pe_call Gp hr rfl Dp.g Dp.F.kp Dp.b .nil pass0 (pa_cons (pv 0) (pa_cons (pv 1) (pa_cons (pe_lst pa_nil) (pa_cons (pv 2) pa_nil)))))), ?_⟩
  refine ⟨_, rfl, _, rfl, Nat.zero_le _, fun vl nv => ?_⟩
  have sm := same_new nv (.lst [])
  have ne : vl ≠ b := by
    obtain ⟨xs, e⟩ := hb.lst
    exact (ne_of_none e nv).symm
  refine ⟨_, rfl, b, nl, vl, Ns, d, rfl, h1, h2, hb.keeps sm, hn.keep (Keep.of sm), SqL.of upd_same, ne, fun v t H' r => ?_⟩
  exact q v t H' ⟨r.tm, r.dp, r.nm, (Keep.of sm).trans r.kp, r.bag⟩
end
end K12

set_option Elab.async false
set_option linter.all false
set_option maxRecDepth 100000
set_option maxHeartbeats 4000000
namespace K12
open PySem PySem.Spec L2

def spSame : Sp := fun vs H Q _ => ∃ (a c : Bool), vs = [.bl a, .bl c] ∧ Q (.bl (decide (a = c))) H
/-- the thing is a term; the answer: is it a name -/
def spIsName : Sp := fun vs H Q _ => ∃ (v : V) (t : Tm), vs = [v] ∧ TmAt H t v ∧ Good t ∧ ∀ H', Same H H' → Q (.bl t.isNm) H'
section
variable {P : Program} {w : World} {K : PySem.W.Frag} {mg : Str → Option Value} {base : Heap} {f : Addr} {fd : FuncData}
theorem scSame : FnScope ["_law_actual", "_law_due"] ["_law_actual", "_law_due"] (defScope sSame) := ⟨rfl, rfl, rfl, by decide +kernel, rfl, by decide +kernel, by decide +kernel⟩
theorem ok_same (D : Dn K mg "_law_same" sSame ["_law_actual", "_law_due"] f fd) (misi : mg "isinstance" = none) (mbool : mg "bool" = none) : FnOk P w K mg base CX0 1 f fd ["_law_actual", "_law_due"] spSame := by
  refine D.F.ok scSame (fun vs H Q E h => ?_) (fun cdv A outer s H vs Q E hr h => ?_)
  · obtain ⟨a, c, rfl, _⟩ := h
    rfl
  obtain ⟨a, c, rfl, q⟩ := h
  have kb : PySem.W.kitOne K (.type "bool") (.type "bool") = some true := kit_ty (by decide +kernel)
  refine ⟨_, (pss_cons (ps_if (pt_cmp (pc_isN (pv 1))) pss_never pss_nil)
    (pss_cons (ps_if (PW.pt (pw_or (pt_val (pe_callB call_isi (by rfl) misi (by decide +kernel) (pa_cons (pv 1) (pa_cons (pe_bltn (v := .ty "bool") (u := .type "bool") (by rfl) mbool (by decide +kernel) rfl) pa_nil)))) (pw_or1 pt_never))) (pss_one (ps_ret (pe_and (pe_callB call_isi (by rfl) misi (by decide +kernel) (pa_cons (pv 1) (pa_cons (pe_bltn (v := .ty "bool") (u := .type "bool") (by rfl) mbool (by decide +kernel) rfl) pa_nil))) (pe_and (pe_callB call_isi (by rfl) misi (by decide +kernel) (pa_cons (pv 0) (pa_cons (pe_bltn (v := .ty "bool") (u := .type "bool") (by rfl) mbool (by decide +kernel) rfl) pa_nil))) (pe_one (pe_cmpR op_eq (pv 0) (pv 1) (nomark _))))))) pss_nil)
    pss_never)), ?_⟩
  refine ⟨_, rfl, _, rfl, iteF ⟨_, rfl, _, .ty "bool", _, _, true, rfl, .ty _, .base (.bl c), kb, _, rfl, iteT (iteT ?_)⟩⟩
  refine ⟨_, rfl, _, .ty "bool", _, _, true, rfl, .ty _, .base (.bl c), kb, _, rfl, iteT ?_⟩
  refine ⟨_, rfl, _, .ty "bool", _, _, true, rfl, .ty _, .base (.bl a), kb, _, rfl, iteT ?_⟩
  refine ⟨_, rfl, _, rfl, rfl, ?_⟩
  have e : decide (V.bl a = V.bl c) = decide (a = c) := by cases a <;> cases c <;> rfl
  show Q (.bl (decide (V.bl a = V.bl c))) H
  rw [e]
  exact q
theorem scIsName : FnScope ["thing", "letter"] ["thing"] (defScope sIsName) := ⟨rfl, rfl, rfl, by decide +kernel, rfl, by decide +kernel, by decide +kernel⟩
theorem small_has {c : Nat} (h : isL c) : c ∈ ("abcdefghijklmnopqrstuvwxyz" : Str).cps.toList := by
  have e : ("abcdefghijklmnopqrstuvwxyz" : Str).cps.toList = List.range' 97 26 := by decide +kernel
  rw [e, List.mem_range'_1]
  unfold isL at h
  omega
theorem ok_isname (D : Dn K mg "is_name" sIsName ["thing"] f fd) (G : Glb K w mg) : FnOk P w K mg base CX0 1 f fd ["thing"] spIsName := by
  refine D.F.ok scIsName (fun vs H Q E h => ?_) (fun cdv A outer s H vs Q E hr h => ?_)
  · obtain ⟨v, t, rfl, _⟩ := h
    rfl
  obtain ⟨v, t, rfl, ht, g, q⟩ := h
  obtain ⟨kL, gL⟩ := G.letters
  obtain ⟨kS, gS⟩ := G.small
  refine ⟨_, (pss_cons (ps_if (PW.pt (pw_or (pt_not (pt_val (pe_callB call_isi (by rfl) G.isi (by decide +kernel) (pa_cons (pv 0) (pa_cons (pe_bltn (v := .ty "str") (u := .type "str") (by rfl) G.str (by decide +kernel) rfl) pa_nil))))) (pw_or1 (pt_not (pt_chain op_le op_le pe_int (pe_callB call_len_str (by rfl) G.len PySem.boot_len (pa_cons (pv 0) pa_nil)) (pe_glob (v := .int 8) rfl gL ⟨_, rfl⟩)))))) (pss_one (ps_ret pe_bl)) pss_nil)
    (pss_one (ps_ret (pe_callB (cr_all rfl) (by rfl) G.all (by decide +kernel) (pa_cons (pe_lc (own := [("letter", 1)]) (g := gName 1) rfl scIsName.nd (pi_str (pv 0)) (blkOk_by (own := [("letter", 1)]) (N := ["thing", "letter"]) (sc := defScope sIsName) (by decide +kernel))
      (fun _ _ _ _ _ => pg_name (i := 1) scIsName.nd rfl (Or.inl rfl)) (fun _ _ _ _ _ => pts_nil) (fun _ _ _ _ _ => (pe_cmpR op_in_sign (pv 1) (pe_glob (v := .str "abcdefghijklmnopqrstuvwxyz") rfl gS ⟨_, rfl⟩) (by rfl)))) pa_nil))))), ?_⟩
  refine ⟨_, rfl, _, .ty "str", _, _, _, rfl, .ty _, ht.ty, isi_str _, _, rfl, ?_⟩
  cases c : t.isNm with
  | false => rw [c] at q; exact iteT (q H (Same.refl H))
  | true =>
    rw [c] at q
    obtain ⟨x, rfl, rfl⟩ := ht.name c
    have gx := good_n g
    have h1 := gx.least
    have h2 := gx.most
    have hl := sizeLine_eq
    refine iteF ⟨_, rfl, x, rfl, by omega, 1, _, rfl, rfl, _, rfl, ?_⟩
    rw [decide_eq_true (by omega)]
    refine iteT ⟨_, 8, rfl, rfl, _, rfl, ?_⟩
    rw [decide_eq_true (by omega)]
    refine iteF ⟨_, rfl, _, rfl, fun L nL => lc_it walk_str (fun i H' => Same H H' ∧ H' L = some (.lst ((List.replicate i true).map V.bl)))
      ⟨same_new nL _, upd_same⟩ (fun _ _ _ _ => trivial) (fun i y H1 H2 hi ⟨s1, e1⟩ ⟨e2, c, hc, ey⟩ => ?_) (fun H1 ⟨s1, e1⟩ => ?_)⟩
    · subst e2 ey
      refine ⟨rfl, ?_⟩
      have hm : c ∈ x.cps.toList := Array.mem_toList_iff.mpr (Array.mem_of_getElem? hc)
      refine ⟨_, rfl, c, _, rfl, rfl, _, e1, ?_, fun b o e => ?_, ?_⟩
      · rw [List.length_map, List.length_replicate]
        have : x.cps.size = x.length := rfl
        omega
      · rw [upd_ne (ne_of_none e (by exact nL))]
        exact s1 b o e
      · rw [upd_same, decide_eq_true (small_has (gx.low c hm)), List.replicate_succ', List.map_append]
        rfl
    · refine ⟨L, _, rfl, SqL.of e1, ?_⟩
      have ea : (List.replicate x.cps.size true).all id = true := by simp
      rw [ea]
      exact q H1 s1
end
end K12

set_option Elab.async false
set_option linter.all false
set_option maxRecDepth 100000
set_option maxHeartbeats 4000000
namespace K12
open PySem PySem.Spec L2

def spIsRow : Sp := fun vs H Q _ => ∃ (a : Addr) (xs : List V), vs = [.ref a] ∧ H a = some (.lst xs) ∧ ∀ H', Same H H' → Q (.bl true) H'
def spIsLeaf : Sp := fun vs H Q _ => ∃ (v : V) (t : Tm), vs = [v, .bl false] ∧ TmAt H t v ∧ Good t ∧ ∀ H', Same H H' → Q (.bl t.isNm) H'
def spMeasure (n : Nat) : Sp := fun vs H Q _ => ∃ (v : V) (t : Tm) (r : Int), vs = [v, .bl false, .int r] ∧ TmAt H t v ∧ Good t ∧ t.depth ≤ n ∧ (t.depth : Int) ≤ r ∧ ∀ (p : Addr) (H' : Hp), Same H H' → H' p = some (.tup [.int t.leaves, .int t.depth]) → Q (.ref p) H'
def spHasForm : Sp := fun vs H Q _ => ∃ (v : V) (t : Tm), vs = [v, .bl false] ∧ TmAt H t v ∧ Good t ∧ t.depth ≤ 4 ∧ ∀ H', Same H H' → Q (.bl true) H'
def spIsTerm : Sp := fun vs H Q _ => ∃ (v : V) (t : Tm), vs = [v] ∧ TmAt H t v ∧ Good t ∧ t.depth ≤ 4 ∧ ∀ H', Same H H' → Q (.bl true) H'
def spCheckTerm : Sp := fun vs H Q _ => ∃ (v : V) (t : Tm), vs = [v] ∧ TmAt H t v ∧ Good t ∧ t.depth ≤ 4 ∧ ∀ H', Same H H' → Q .non H'

theorem paired_at {α β : Type} {F : α → β → Prop} {l₁ : List α} {l₂ : List β} (h : Paired F l₁ l₂) : ∀ {i : Nat} {b : β}, l₂[i]? = some b → ∃ a, l₁[i]? = some a ∧ F a b := by
  induction h with
  | nil => intro i b e; simp at e
  | @cons a c l₁ l₂ r t ih =>
    intro i b e
    cases i with
    | zero =>
      simp only [List.getElem?_cons_zero, Option.some.injEq] at e
      subst e
      exact ⟨a, rfl, r⟩
    | succ j =>
      simp only [List.getElem?_cons_succ] at e ⊢
      exact ih e
theorem take_snoc {α : Type} {l : List α} {i : Nat} {a : α} (h : l[i]? = some a) : l.take (i + 1) = l.take i ++ [a] := by
  rw [List.take_add_one, h]
  rfl
theorem kids_leaves {t : Tm} (h : t.isNm = false) : (t.kids.map fun k => (k.leaves : Int)).sum = t.leaves := by
  cases t with
  | nm x => cases h
  | _ => simp [Tm.kids, Tm.leaves] <;> omega
theorem kids_depth {t : Tm} {m : Int} (h : t.isNm = false) (h1 : m ∈ t.kids.map fun k => (k.depth : Int)) (h2 : ∀ y, y ∈ (t.kids.map fun k => (k.depth : Int)) → y ≤ m) : 1 + m = t.depth := by
  have dp := Tm.depth_pos
  cases t with
  | nm x => cases h
  | pair a b => simp [Tm.kids, Tm.depth] at h1 h2 ⊢; omega
  | box a b => simp [Tm.kids, Tm.depth] at h1 h2 ⊢; omega
  | half x => simp [Tm.kids, Tm.depth] at h1 h2 ⊢; omega
  | shut x b => have := dp b; simp [Tm.kids, Tm.depth] at h1 h2 ⊢; omega
  | mark x b => have := dp b; simp [Tm.kids, Tm.depth] at h1 h2 ⊢; omega
  | mix b => simp [Tm.kids, Tm.depth] at h1 h2 ⊢; omega
theorem kid_good {t k : Tm} (g : Good t) (h : k ∈ t.kids) : Good k := fun x hx => g x (Tm.part_names (Tm.kid_part h) x hx)
theorem kid_depth {t k : Tm} (h : k ∈ t.kids) : k.depth + 1 ≤ t.depth := by
  have dp := Tm.depth_pos
  cases t with
  | nm x => simp [Tm.kids] at h
  | pair a b => simp [Tm.kids] at h; rcases h with h | h <;> subst h <;> simp only [Tm.depth] <;> omega
  | box a b => simp [Tm.kids] at h; rcases h with h | h <;> subst h <;> simp only [Tm.depth] <;> omega
  | half x => simp [Tm.kids] at h; subst h; simp only [Tm.depth]; omega
  | shut x b => have := dp b; simp [Tm.kids] at h; rcases h with h | h <;> subst h <;> simp only [Tm.depth] <;> omega
  | mark x b => have := dp b; simp [Tm.kids] at h; rcases h with h | h <;> subst h <;> simp only [Tm.depth] <;> omega
  | mix b => simp [Tm.kids] at h; subst h; simp only [Tm.depth]; omega
theorem kids_pos {t : Tm} (h : t.isNm = false) : 0 < t.kids.length := by
  cases t with
  | nm x => cases h
  | _ => simp [Tm.kids]
/-- what measure has told of the parts -/
abbrev RowsAt (H : Hp) : List Tm → List V → Prop := Paired fun t v => ∃ p, v = V.ref p ∧ H p = some (.tup [.int t.leaves, .int t.depth])
theorem RowsAt.tups {H H' : Hp} (s : Tups H H') {ts : List Tm} {vs : List V} (h : RowsAt H ts vs) : RowsAt H' ts vs := Paired.mapP h fun _ _ ⟨p, e, q⟩ => ⟨p, e, s _ _ q⟩
theorem Tups.upd {H : Hp} {a : Addr} {xs : List V} {o : HO} (h : H a = some (.lst xs)) : Tups H (upd H a o) := fun b ys e => by rw [upd_ne (ne_of e h (fun z => nomatch z))]; exact e
theorem Same.upd {H H' : Hp} {a : Addr} {o : HO} (s : Same H H') (h : H a = none) : Same H (upd H' a o) := fun b u e => by rw [upd_ne (ne_of_none e h)]; exact s _ _ e
def rowD (t : Tm) : PyData := .tuple [.int t.leaves, .int t.depth]
theorem RowsAt.dp {K : PySem.W.Frag} {H : Hp} {ts : List Tm} {vs : List V} (h : RowsAt H ts vs) : DpAll K H vs (ts.map rowD) := by
  induction h with
  | nil => exact .nil
  | cons h _ ih =>
    obtain ⟨p, rfl, e⟩ := h
    exact .cons (.tup (.inl (.inl e)) (.cons (.int _) (.cons (.int _) .nil))) ih
theorem rows_none (ts : List Tm) : ((ts.map rowD).any fun z => PyData.eqv z .none) = false := by
  rw [List.any_eq_false]
  intro x hx
  obtain ⟨t, _, rfl⟩ := List.mem_map.mp hx
  simp [rowD, PyData.eqv]
theorem rows_shaped (ts : List Tm) : SeqAt.shaped (.list (ts.map rowD)) = true := by
  have both : PyData.canLayAll0 (ts.map rowD) = true ∧ PyData.depthAll (ts.map rowD) ≤ 1 := by
    induction ts with
    | nil => exact ⟨rfl, by simp [PyData.depthAll]⟩
    | cons t ts ih =>
      refine ⟨by simp [PyData.canLayAll0, PyData.canLay0, rowD, ih.1], ?_⟩
      have := ih.2
      have e : (rowD t).depth ≤ 1 := by simp [rowD, PyData.depth, PyData.depthAll]
      simp only [List.map_cons, PyData.depthAll]
      omega
  show ((PyData.list (ts.map rowD)).canLay0 && decide ((PyData.list (ts.map rowD)).depth ≤ 64)) = true
  rw [Bool.and_eq_true]
  exact ⟨by simpa [PyData.canLay0] using both.1, decide_eq_true (by have := both.2; simp only [PyData.depth]; omega)⟩
section
variable {P : Program} {w : World} {K : PySem.W.Frag} {mg : Str → Option Value} {base : Heap} {f fN fL fM fH fT : Addr} {fd dN dL dM dH dT : FuncData}
theorem scIsRow : FnScope ["thing"] ["thing"] (defScope sIsRow) := ⟨rfl, rfl, rfl, by decide +kernel, rfl, by decide +kernel, by decide +kernel⟩
theorem ok_isrow (D : Dn K mg "is_row" sIsRow ["thing"] f fd) (G : Glb K w mg) : FnOk P w K mg base CX0 1 f fd ["thing"] spIsRow := by
  refine D.F.ok scIsRow (fun vs H Q E h => ?_) (fun cdv A outer s H vs Q E hr h => ?_)
  · obtain ⟨a, xs, rfl, _⟩ := h
    rfl
  obtain ⟨a, xs, rfl, ha, q⟩ := h
  refine ⟨_, (pss_one (ps_ret (pe_callB call_isiT (by rfl) G.isi (by decide +kernel) (pa_cons (pv 0) (pa_cons (pe_tup (pa_cons (pe_bltn (v := .ty "list") (u := .type "list") (by rfl) G.list (by decide +kernel) rfl) (pa_cons (pe_bltn (v := .ty "tuple") (u := .type "tuple") (by rfl) G.tuple (by decide +kernel) rfl) pa_nil))) pa_nil))))), ?_⟩
  refine ⟨_, rfl, (by show 2 ≤ sizeLine; decide), fun p np => ?_⟩
  have sm := same_new np (.tup [V.ty "list", .ty "tuple"])
  exact ⟨.ref a, p, _, _, [.type "list", .type "tuple"], true, rfl, upd_same, .cons (.ty _) (.cons (.ty _) .nil), .base (.lst (sm _ _ ha)), kitAny_cons (b := true) (kit_ty (by decide +kernel)) (fun e => nomatch e) (fun _ => rfl), q _ sm⟩
theorem scIsLeaf : FnScope ["thing", "open_so"] ["thing", "open_so"] (defScope sIsLeaf) := ⟨rfl, rfl, rfl, by decide +kernel, rfl, by decide +kernel, by decide +kernel⟩
theorem ok_isleaf (D : Dn K mg "is_leaf" sIsLeaf ["thing", "open_so"] f fd) (G : Glb K w mg) (Dn1 : Dn K mg "is_name" sIsName ["thing"] fN dN) (Gn : FnOk P w K mg base CX0 1 fN dN ["thing"] spIsName) : FnOk P w K mg base CX0 2 f fd ["thing", "open_so"] spIsLeaf := by
  refine D.F.ok scIsLeaf (fun vs H Q E h => ?_) (fun cdv A outer s H vs Q E hr h => ?_)
  · obtain ⟨v, t, rfl, _⟩ := h
    rfl
  obtain ⟨v, t, rfl, ht, g, q⟩ := h
  refine ⟨_, (pss_cons (ps_if (pt_val (pe_call Gn hr rfl Dn1.g Dn1.F.kp Dn1.b .nil pass0 (pa_cons (pv 0) pa_nil))) (pss_one (ps_ret pe_bl)) pss_nil)
    (pss_one (ps_ret (pe_and (pv 1) pe_never)))), ?_⟩
  refine ⟨_, rfl, v, t, rfl, ht, g, fun H' sm => ⟨_, rfl, ?_⟩⟩
  have q := q H' sm
  cases c : t.isNm with
  | true => rw [c] at q; exact iteT q
  | false => rw [c] at q; exact iteF ⟨_, rfl, _, rfl, iteF q⟩
theorem scMeasure : FnScope ["thing", "open_so", "room", "rows", "part", "row"] ["thing", "open_so", "room"] (defScope sMeasure) := ⟨rfl, rfl, rfl, by decide +kernel, rfl, by decide +kernel, by decide +kernel⟩
theorem none_measure : FnOk P w K mg base CX0 2 f fd ["thing", "open_so", "room"] (spMeasure 0) := by
  have no : ∀ vs H Q E, ¬ spMeasure 0 vs H Q E := fun vs H Q E h => by
    obtain ⟨v, t, r, _, _, _, h1, _⟩ := h
    have := Tm.depth_pos t
    omega
  exact ⟨fun vs H Q E h => absurd h (no vs H Q E), fun A outer s H args us vs Q E _ _ _ _ h => absurd h (no vs H Q E)⟩
theorem ok_measure {n : Nat} (D : Dn K mg "measure" sMeasure ["thing", "open_so", "room"] f fd) (G : Glb K w mg) (Dl : Dn K mg "is_leaf" sIsLeaf ["thing", "open_so"] fL dL) (Gl : FnOk P w K mg base CX0 2 fL dL ["thing", "open_so"] spIsLeaf)
    (Gm : FnOk P w K mg base CX0 (n + 2) f fd ["thing", "open_so", "room"] (spMeasure n)) : FnOk P w K mg base CX0 (n + 1 + 2) f fd ["thing", "open_so", "room"] (spMeasure (n + 1)) := by
  refine D.F.ok scMeasure (fun vs H Q E h => ?_) (fun cdv A outer s H vs Q E hr h => ?_)
  · obtain ⟨v, t, r, rfl, _⟩ := h
    rfl
  obtain ⟨v, t, r, rfl, ht, g, h1, h2, q⟩ := h
  have hr1 : Room (n + 2) _ := hr
  have hr2 : Room 2 _ := hr.mono (by omega)
  obtain ⟨dl, es, ne, gL, kd, lP, lB, lH, lS, lM, lX⟩ := G.lens
  obtain ⟨an, gN, named⟩ := G.named
  have hu : (A.deeper (PyProof.Rows.envOfC "measure" (defScope sMeasure) s.heap.objs.size f cdv)).units + 65 < cLine := by have := hr.un; omega
  refine ⟨_, (pss_cons (ps_if (pt_val (pe_call Gl hr2 rfl Dl.g Dl.F.kp Dl.b .nil pass0 (pa_cons (pv 0) (pa_cons (pv 1) pa_nil)))) (pss_one (ps_ret (pe_tup (pa_cons pe_int (pa_cons pe_int pa_nil))))) pss_nil)
    (pss_cons (ps_if (PW.pt (pw_or (pt_cmpR op_eq (pv 2) pe_int (nomark _)) (pw_or (pt_not (pt_val (pe_callB call_isi (by rfl) G.isi (by decide +kernel) (pa_cons (pv 0) (pa_cons (pe_bltn (v := .ty "tuple") (u := .type "tuple") (by rfl) G.tuple (by decide +kernel) rfl) pa_nil))))) (pw_or (pt_cmpR op_eq (pe_callB call_len_seq (by rfl) G.len PySem.boot_len (pa_cons (pv 0) pa_nil)) pe_int (nomark _)) (pw_or1 (pt_not (pt_val (pe_callB call_isi (by rfl) G.isi (by decide +kernel) (pa_cons (pe_ix ix_tup (pv 0) pe_int (fun _ _ => rfl)) (pa_cons (pe_bltn (v := .ty "str") (u := .type "str") (by rfl) G.str (by decide +kernel) rfl) pa_nil)))))))))) pss_never pss_nil)
    (pss_cons (ps_if (PW.pt (pw_or (pt_cmpR (op_notIn_kd kd) (pe_ix ix_tup (pv 0) pe_int (fun _ _ => rfl)) (pe_glob (v := .ref dl) rfl gL rfl) (by rfl)) (pw_or1 (pt_cmpR op_ne (pe_callB call_len_seq (by rfl) G.len PySem.boot_len (pa_cons (pv 0) pa_nil)) (pe_ix ix_kdict (pe_glob (v := .ref dl) rfl gL rfl) (pe_ix ix_tup (pv 0) pe_int (fun _ _ => rfl)) (fun _ _ => rfl)) (nomark _))))) pss_never pss_nil)
    (C8.pss_cut (ps_if (PW.pt (pw_and (pt_cmpR op_in_seq (pe_ix ix_tup (pv 0) pe_int (fun _ _ => rfl)) (pe_glob (v := .ref an) rfl gN rfl) (by rfl)) (pw_and1 (pt_not (pt_val (pe_call Gl hr2 rfl Dl.g Dl.F.kp Dl.b .nil pass0 (pa_cons (pe_ix ix_tup (pv 0) pe_int (fun _ _ => rfl)) (pa_cons (pv 1) pa_nil)))))))) pss_never pss_nil)
    (pss_cons (ps_setLc (i := 3) (own := [("part", 4)]) (g := gName 4) (by rfl) scMeasure.nd rfl rfl (sw_true rfl rfl rfl (by decide +kernel)) (pi_tup (pe_slice sl_tup (pv 0) (po_some pe_int) po_none)) (blkOk_by (own := [("part", 4)]) (N := ["thing", "open_so", "room", "rows", "part", "row"]) (sc := defScope sMeasure) (by decide +kernel))
      (fun _ _ _ _ _ => pg_name (i := 4) scMeasure.nd rfl (Or.inl rfl)) (fun _ _ _ _ _ => pts_nil) (fun _ _ _ _ _ => (pe_call Gm hr1 rfl D.g D.F.kp D.b .nil pass0 (pa_cons (pv 4) (pa_cons (pv 1) (pa_cons (pe_op op_sub (pv 2) pe_int) pa_nil))))))
    (pss_cons (ps_if (pt_cmpR (op_inD hu) pe_non (pv 3) (by rfl)) pss_never pss_nil)
    (pss_one (ps_ret (pe_tup (pa_cons (pe_callB (cr_sum rfl) (by rfl) G.sum (by decide +kernel) (pa_cons (pe_lc (own := [("row", 5)]) (g := gName 5) rfl scMeasure.nd (pi_list (pv 3)) (blkOk_by (own := [("row", 5)]) (N := ["thing", "open_so", "room", "rows", "part", "row"]) (sc := defScope sMeasure) (by decide +kernel))
      (fun _ _ _ _ _ => pg_name (i := 5) scMeasure.nd rfl (Or.inl rfl)) (fun _ _ _ _ _ => pts_nil) (fun _ _ _ _ _ => (pe_ix (r := rIxT K) ix_tup (pv 5) pe_int (fun _ _ => rfl)))) pa_nil)) (pa_cons (pe_op op_add pe_int (pe_callB (cr_max rfl) (by rfl) G.max (by decide +kernel) (pa_cons (pe_lc (own := [("row", 5)]) (g := gName 5) rfl scMeasure.nd (pi_list (pv 3)) (blkOk_by (own := [("row", 5)]) (N := ["thing", "open_so", "room", "rows", "part", "row"]) (sc := defScope sMeasure) (by decide +kernel))
      (fun _ _ _ _ _ => pg_name (i := 5) scMeasure.nd rfl (Or.inl rfl)) (fun _ _ _ _ _ => pts_nil) (fun _ _ _ _ _ => (pe_ix (r := rIxT K) ix_tup (pv 5) pe_int (fun _ _ => rfl)))) pa_nil))) pa_nil))))))))))), ?_⟩
  refine ⟨_, rfl, _, rfl, v, t, rfl, ht, g, fun H1 s1 => ⟨_, rfl, ?_⟩⟩
  cases c : t.isNm with
  | true =>
    obtain ⟨x, rfl, rfl⟩ := ht.name c
    exact iteT ⟨(by show 2 ≤ sizeLine; decide), fun p np => q p _ (s1.trans (same_new np _)) upd_same⟩
  | false =>
    have ht1 := ht.mono (Same.tups s1)
    obtain ⟨p, vs, rfl, e1, hk⟩ := ht1.node c
    have e0 : SqT K H1 p (.str (tagOf t) :: vs) := .inl (.inl e1)
    have hkl : t.kids.length = vs.length := Paired.length hk
    have hv2 : vs.length ≤ 2 := by
      rw [← hkl]
      cases t <;> simp [Tm.kids]
    have hpos := kids_pos c
    have hd2 : 2 ≤ t.depth := by
      cases hkk : t.kids with
      | nil => rw [hkk] at hpos; simp at hpos
      | cons k r =>
        have := kid_depth (t := t) (k := k) (by rw [hkk]; simp)
        have := Tm.depth_pos k
        omega
    have hlen : ∃ tk, PySem.W.nsIn K dl (tagOf t) = some (some (.int ((V.str (tagOf t) :: vs).length : Nat) tk)) := by
      rw [List.length_cons, ← hkl]
      cases t with
      | nm x => cases c
      | pair a b => exact lP
      | box a b => exact lB
      | half x => exact lH
      | shut x b => exact lS
      | mark x b => exact lM
      | mix b => exact lX
    obtain ⟨tk, hlen⟩ := hlen
    refine iteF ⟨_, rfl, rfl, _, rfl, ?_⟩
    refine ite2 (fun c1 => ?_) (fun _ => ?_)
    · have c1 : V.int r = V.int 1 := of_decide_eq_true c1
      injection c1 with c1
      omega
    refine ⟨_, rfl, _, .ty "tuple", _, _, _, rfl, .ty _, ht1.ty, isi_tup _, _, rfl, ?_⟩
    rw [c]
    refine iteF ⟨_, rfl, p, _, rfl, .inr e0, rfl, _, rfl, ?_⟩
    refine ite2 (fun c1 => ?_) (fun _ => ?_)
    · have c1 : V.int (((V.str (tagOf t) :: vs).length : Nat) : Int) = V.int 0 := of_decide_eq_true c1
      injection c1 with c1
      rw [List.length_cons] at c1
      omega
    refine ⟨_, rfl, p, _, 0, _, rfl, rfl, e0, at_0 _ _, _, .ty "str", _, _, true, rfl, .ty _, .base (.str (tagOf t)), kit_ty (by decide +kernel), _, rfl, iteF ?_⟩
    refine ⟨_, rfl, p, _, 0, _, rfl, rfl, e0, at_0 _ _, _, some _, rfl, rfl, hlen, _, rfl, iteF ?_⟩
    refine ⟨_, rfl, p, _, rfl, .inr e0, _, rfl, p, _, 0, _, rfl, rfl, e0, at_0 _ _, dl, _, .int (((V.str (tagOf t) :: vs).length : Nat) : Int), rfl, rfl, ⟨_, _, _, kd.at_, kd.lit, hlen, ⟨_, rfl⟩⟩, rfl, _, rfl, ?_⟩
    rw [decide_eq_true rfl]
    refine iteF ⟨fun σ' H' => σ' = [some (.ref p), some (.bl false), some (.int r), none, none, none] ∧ Same H1 H', ?_, ?_⟩
    · refine ⟨_, rfl, p, _, 0, _, rfl, rfl, e0, at_0 _ _, an, _, rfl, .inr (named _), rfl, rfl, _, rfl, ?_⟩
      have nmd : inV (.str (tagOf t)) [.str tHalf, .str tShut, .str tMark] = true → ∃ x rest, vs = .str x :: rest ∧ GoodNm x := fun hin => by
        cases t with
        | nm x => cases c
        | pair a b => exact absurd hin (by show ¬ inV (V.str tPair) [V.str tHalf, V.str tShut, V.str tMark] = true; decide +kernel)
        | box a b => exact absurd hin (by show ¬ inV (V.str tBox) [V.str tHalf, V.str tShut, V.str tMark] = true; decide +kernel)
        | mix b => exact absurd hin (by show ¬ inV (V.str tMix) [V.str tHalf, V.str tShut, V.str tMark] = true; decide +kernel)
        | half x =>
          cases hk with
          | cons h1 h2 => exact ⟨x, _, by rw [show _ = V.str x from h1], good_h g⟩
        | shut x b =>
          cases hk with
          | cons h1 h2 => exact ⟨x, _, by rw [show _ = V.str x from h1], (good_s g).1⟩
        | mark x b =>
          cases hk with
          | cons h1 h2 => exact ⟨x, _, by rw [show _ = V.str x from h1], (good_m g).1⟩
      refine ite2 (fun hin => ?_) (fun _ => iteF ⟨rfl, Same.refl _⟩)
      obtain ⟨x, rest, rfl, gx⟩ := nmd hin
      exact ⟨_, rfl, p, _, 1, _, rfl, rfl, e0, at_1 _ _ _, _, rfl, .str x, .nm x, rfl, rfl, fun y hy => by simp [Tm.names] at hy; rw [hy]; exact gx, fun H2 s2 => ⟨_, rfl, iteF ⟨rfl, s2⟩⟩⟩
    · rintro σ' H2 ⟨rfl, s2⟩
      have e2 : H2 p = some (.tup (.str (tagOf t) :: vs)) := s2 _ _ e1
      refine ⟨_, rfl, 1, rfl, p, _, rfl, .inl (.inl e2), not_whole _ _, fun T nT => ?_⟩
      rw [cut_tail]
      refine ⟨T, rfl, ⟨_, .inl (.inl upd_same)⟩, fun L nL => ?_⟩
      have sT := same_new nT (.tup vs)
      have nL2 : H2 L = none := sT.free nL
      refine lc_it walk_tup (fun i H' => Same H2 H' ∧ H' T = some (.tup vs) ∧ ∃ rs, H' L = some (.lst rs) ∧ RowsAt H' (t.kids.take i) rs ∧ rs.length = i)
        ⟨Same.upd sT nL2, by rw [upd_ne (ne_of_none upd_same nL)]; exact upd_same, [], upd_same, .nil, rfl⟩ (fun _ _ _ h => .inl (.inl h.2.1)) (fun i y Ha Hb hi ⟨sa, eT, rs, eL, hrs, hlr⟩ ⟨eb, hy⟩ => ?_) (fun Ha ⟨sa, eT, rs, eL, hrs, hlr⟩ => ?_)
      · subst eb
        obtain ⟨k, hki, hky⟩ := paired_at hk hy
        have hkm := List.mem_of_getElem? hki
        have hkd := kid_depth hkm
        refine ⟨rfl, ?_⟩
        refine ⟨_, rfl, _, rfl, _, rfl, r, 1, rfl, rfl, y, k, r - 1, rfl, hky.mono (Same.tups (s2.trans sa)), kid_good g hkm, by omega, by omega, fun p2 Hc sc hp2 => ?_⟩
        have eLc := sc _ _ eL
        refine ⟨rs, eLc, ?_, Same.upd (sa.trans sc) nL2, ?_, rs ++ [.ref p2], upd_same, ?_, by simp [hlr]⟩
        · have := sizeLine_eq
          have : vs.length ≤ 2 := by
            rw [← hkl]
            cases t <;> simp [Tm.kids]
          omega
        · rw [upd_ne (ne_of (sc _ _ eT) eLc (fun z => nomatch z))]
          exact sc _ _ eT
        · rw [take_snoc hki]
          exact Paired.snoc (hrs.tups ((Same.tups sc).trans (Tups.upd eLc))) ⟨p2, rfl, by rw [upd_ne (ne_of hp2 eLc (fun z => nomatch z))]; exact hp2⟩
      · rw [← hkl, List.take_length] at hrs
        have sHa : Same H Ha := s1.trans (s2.trans sa)
        refine ⟨_, rfl, .none, _, .non, .lst (.inl (.inl eL)) hrs.dp, by decide +kernel, rows_shaped _, _, rfl, ?_⟩
        rw [rows_none]
        refine iteF ⟨_, rfl, L, rfl, ⟨_, SqL.of eL⟩, fun S nS => ?_⟩
        have nSH : H S = none := sHa.free nS
        refine lc_it walk_list (fun i H' => Same Ha H' ∧ H' S = some (.lst (((t.kids.map fun k => (k.leaves : Int)).take i).map V.int)))
          ⟨same_new nS _, upd_same⟩ (fun _ _ _ h => SqL.of (h.1 _ _ eL)) (fun i y Hb Hc hi ⟨sb, eS⟩ ⟨ec, hy⟩ => ?_) (fun Hb ⟨sb, eS⟩ => ?_)
        · subst ec
          obtain ⟨k, hki, p2, rfl, hp2⟩ := paired_at hrs hy
          refine ⟨rfl, _, rfl, p2, _, 0, _, rfl, rfl, .inl (.inl (sb _ _ hp2)), rfl, _, eS, ?_, Same.upd sb nS, ?_⟩
          · rw [List.length_map]
            have h3 := List.length_take_le i (t.kids.map fun k => (k.leaves : Int))
            have := sizeLine_eq
            omega
          · rw [upd_same, take_snoc (by rw [List.getElem?_map, hki]; rfl), List.map_append]
            rfl
        · rw [List.take_of_length_le (by rw [List.length_map, hlr, hkl]; exact Nat.le_refl _)] at eS
          refine ⟨S, _, rfl, SqL.of eS, ?_⟩
          rw [kids_leaves c]
          refine ⟨_, rfl, L, rfl, ⟨_, SqL.of (sb _ _ eL)⟩, fun S2 nS2 => ?_⟩
          refine lc_it walk_list (fun i H' => Same Hb H' ∧ H' S2 = some (.lst (((t.kids.map fun k => (k.depth : Int)).take i).map V.int)))
            ⟨same_new nS2 _, upd_same⟩ (fun _ _ _ h => SqL.of (h.1 _ _ (sb _ _ eL))) (fun i y Hc Hd hi ⟨sc, eS2⟩ ⟨ed, hy⟩ => ?_) (fun Hc ⟨sc, eS2⟩ => ?_)
          · subst ed
            obtain ⟨k, hki, p2, rfl, hp2⟩ := paired_at hrs hy
            refine ⟨rfl, _, rfl, p2, _, 1, _, rfl, rfl, .inl (.inl (sc _ _ (sb _ _ hp2))), rfl, _, eS2, ?_, Same.upd sc nS2, ?_⟩
            · rw [List.length_map]
              have h3 := List.length_take_le i (t.kids.map fun k => (k.depth : Int))
              have := sizeLine_eq
              omega
            · rw [upd_same, take_snoc (by rw [List.getElem?_map, hki]; rfl), List.map_append]
              rfl
          · rw [List.take_of_length_le (by rw [List.length_map, hlr, hkl]; exact Nat.le_refl _)] at eS2
            refine ⟨S2, _, rfl, SqL.of eS2, by rw [List.length_map]; exact hpos, fun m hm1 hm2 => ?_⟩
            refine ⟨1, m, rfl, rfl, (by show 2 ≤ sizeLine; decide), fun pp npp => ?_⟩
            refine q pp _ ((sHa.trans (sb.trans sc)).trans (same_new npp _)) ?_
            rw [upd_same]
            show some (HO.tup [V.int t.leaves, .int (1 + m)]) = _
            rw [kids_depth c hm1 hm2]
theorem scHasForm : FnScope ["thing", "open_so", "found"] ["thing", "open_so"] (defScope sHasForm) := ⟨rfl, rfl, rfl, by decide +kernel, rfl, by decide +kernel, by decide +kernel⟩
theorem ok_hasform (D : Dn K mg "has_form" sHasForm ["thing", "open_so"] f fd) (G : Glb K w mg) (Dm : Dn K mg "measure" sMeasure ["thing", "open_so", "room"] fM dM) (Gm : FnOk P w K mg base CX0 6 fM dM ["thing", "open_so", "room"] (spMeasure 4)) :
    FnOk P w K mg base CX0 7 f fd ["thing", "open_so"] spHasForm := by
  refine D.F.ok scHasForm (fun vs H Q E h => ?_) (fun cdv A outer s H vs Q E hr h => ?_)
  · obtain ⟨v, t, rfl, _⟩ := h
    rfl
  obtain ⟨v, t, rfl, ht, g, h4, q⟩ := h
  obtain ⟨kD, gD⟩ := G.mostDepth
  obtain ⟨kM, gM⟩ := G.mostNames
  refine ⟨_, (pss_cons (ps_set (i := 2) scHasForm.nd rfl (Or.inl rfl) (pe_call Gm hr rfl Dm.g Dm.F.kp Dm.b .nil pass0 (pa_cons (pv 0) (pa_cons (pv 1) (pa_cons (pe_glob (v := .int 12) rfl gD ⟨_, rfl⟩) pa_nil)))))
    (pss_one (ps_ret (pe_and (pe_cmp (pc_notN (pv 2))) (pe_one (pe_cmpR op_le (pe_ix ix_tup (pv 2) pe_int (fun _ _ => rfl)) (pe_glob (v := .int 40) rfl gM ⟨_, rfl⟩) (nomark _))))))), ?_⟩
  have h8 := Tm.leaves4 h4
  refine ⟨_, rfl, _, rfl, v, t, 12, rfl, ht, g, h4, by omega, fun p H' sm hp => ?_⟩
  refine ⟨_, rfl, _, rfl, iteT ?_⟩
  refine ⟨_, rfl, p, _, 0, _, rfl, rfl, .inl (.inl hp), rfl, _, 40, rfl, rfl, ?_⟩
  have q' := q H' sm
  have e : decide ((t.leaves : Int) ≤ 40) = true := decide_eq_true (by omega)
  show Q (.bl (decide ((t.leaves : Int) ≤ 40))) H'
  rw [e]
  exact q'
theorem scIsTerm : FnScope ["thing"] ["thing"] (defScope sIsTerm) := ⟨rfl, rfl, rfl, by decide +kernel, rfl, by decide +kernel, by decide +kernel⟩
theorem ok_isterm (D : Dn K mg "is_term" sIsTerm ["thing"] f fd) (Dh : Dn K mg "has_form" sHasForm ["thing", "open_so"] fH dH) (Gh : FnOk P w K mg base CX0 7 fH dH ["thing", "open_so"] spHasForm) : FnOk P w K mg base CX0 8 f fd ["thing"] spIsTerm := by
  refine D.F.ok scIsTerm (fun vs H Q E h => ?_) (fun cdv A outer s H vs Q E hr h => ?_)
  · obtain ⟨v, t, rfl, _⟩ := h
    rfl
  obtain ⟨v, t, rfl, ht, g, h4, q⟩ := h
  refine ⟨_, (pss_one (ps_ret (pe_call Gh hr rfl Dh.g Dh.F.kp Dh.b .nil pass0 (pa_cons (pv 0) (pa_cons pe_bl pa_nil))))), ?_⟩
  exact ⟨_, rfl, v, t, rfl, ht, g, h4, q⟩
theorem scCheckTerm : FnScope ["term"] ["term"] (defScope sCheckTerm) := ⟨rfl, rfl, rfl, by decide +kernel, rfl, by decide +kernel, by decide +kernel⟩
theorem ok_checkterm (D : Dn K mg "check_term" sCheckTerm ["term"] f fd) (Dt : Dn K mg "is_term" sIsTerm ["thing"] fT dT) (Gt : FnOk P w K mg base CX0 8 fT dT ["thing"] spIsTerm) : FnOk P w K mg base CX0 9 f fd ["term"] spCheckTerm := by
  refine D.F.ok scCheckTerm (fun vs H Q E h => ?_) (fun cdv A outer s H vs Q E hr h => ?_)
  · obtain ⟨v, t, rfl, _⟩ := h
    rfl
  obtain ⟨v, t, rfl, ht, g, h4, q⟩ := h
  refine ⟨_, (pss_one (ps_if (pt_not (pt_val (pe_call Gt hr rfl Dt.g Dt.F.kp Dt.b .nil pass0 (pa_cons (pv 0) pa_nil)))) pss_never pss_nil)), ?_⟩
  exact ⟨_, rfl, v, t, rfl, ht, g, h4, fun H' sm => ⟨_, rfl, iteF (q H' sm)⟩⟩
end
end K12

set_option Elab.async false
set_option linter.all false
set_option maxRecDepth 100000
set_option maxHeartbeats 4000000
namespace K12
open PySem PySem.Spec L2

def spSpelled (n : Nat) : Sp := fun vs H Q _ => ∃ (v : V) (t : Tm), vs = [v] ∧ TmAt H t v ∧ Good t ∧ t.depth ≤ n ∧ t.depth ≤ 4 ∧ ∀ H', Same H H' → Q (.str (spS t)) H'
theorem tag_ne {a b : Str} (h : a ≠ b) : decide (V.str a = V.str b) = false := decide_eq_false fun e => h (V.str.inj e)
theorem tag_eq (a : Str) : decide (V.str a = V.str a) = true := decide_eq_true rfl
theorem var_ne : tPair ≠ ("var" : Str) ∧ tBox ≠ ("var" : Str) ∧ tHalf ≠ ("var" : Str) ∧ tShut ≠ ("var" : Str) ∧ tMark ≠ ("var" : Str) ∧ tMix ≠ ("var" : Str) := by decide +kernel
theorem tag_var (t : Tm) : tagOf t ≠ ("var" : Str) := by
  obtain ⟨a, b, c, d, e, f⟩ := var_ne
  cases t <;> assumption
theorem lits : ("(" : Str).length = 1 ∧ (")" : Str).length = 1 ∧ (" & " : Str).length = 3 ∧ ("[" : Str).length = 1 ∧ ("]" : Str).length = 1 ∧ ("<" : Str).length = 1 ∧ (">" : Str).length = 1 ∧ ("{" : Str).length = 1 ∧ ("}" : Str).length = 1 ∧ ("!" : Str).length = 1 ∧ ("half " : Str).length = 5 ∧ ("mix(" : Str).length = 4 := by decide +kernel
theorem sp_small {t : Tm} (g : Good t) (h : t.depth ≤ 4) : (spS t).length ≤ 225 := by
  have h1 := sp_len g
  have h2 := Tm.size4 h
  omega
section
variable {P : Program} {w : World} {K : PySem.W.Frag} {mg : Str → Option Value} {base : Heap} {f fL fM fB : Addr} {fd dL dM dB : FuncData}
theorem all_measure (D : Dn K mg "measure" sMeasure ["thing", "open_so", "room"] f fd) (G : Glb K w mg) (Dl : Dn K mg "is_leaf" sIsLeaf ["thing", "open_so"] fL dL) (Gl : FnOk P w K mg base CX0 2 fL dL ["thing", "open_so"] spIsLeaf) :
    ∀ n, FnOk P w K mg base CX0 (n + 2) f fd ["thing", "open_so", "room"] (spMeasure n)
  | 0 => none_measure
  | n + 1 => ok_measure D G Dl Gl (all_measure D G Dl Gl n)
theorem scSpelled : FnScope ["term", "parts", "bare", "part"] ["term"] (defScope sSpelled) := ⟨rfl, rfl, rfl, by decide +kernel, rfl, by decide +kernel, by decide +kernel⟩
theorem none_spelled : FnOk P w K mg base CX0 0 f fd ["term"] (spSpelled 0) := by
  have no : ∀ vs H Q E, ¬ spSpelled 0 vs H Q E := fun vs H Q E h => by
    obtain ⟨v, t, _, _, _, h1, _⟩ := h
    have := Tm.depth_pos t
    omega
  exact ⟨fun vs H Q E h => absurd h (no vs H Q E), fun A outer s H args us vs Q E _ _ _ _ h => absurd h (no vs H Q E)⟩
theorem ok_spelled {n : Nat} (D : Dn K mg "spelled" sSpelled ["term"] f fd) (G : Glb K w mg) (Gs : FnOk P w K mg base CX0 n f fd ["term"] (spSpelled n)) : FnOk P w K mg base CX0 (n + 1) f fd ["term"] (spSpelled (n + 1)) := by
  refine D.F.ok scSpelled (fun vs H Q E h => ?_) (fun cdv A outer s H vs Q E hr h => ?_)
  · obtain ⟨v, t, rfl, _⟩ := h
    rfl
  obtain ⟨v, t, rfl, ht, g, h1, h4, q⟩ := h
  obtain ⟨kV, gV⟩ := G.var
  obtain ⟨kP, gP⟩ := G.pair
  obtain ⟨kB, gB⟩ := G.box
  obtain ⟨kH, gH⟩ := G.half
  obtain ⟨kS, gS⟩ := G.shut
  obtain ⟨kM, gM⟩ := G.mark
  obtain ⟨kA, gA⟩ := G.and_
  obtain ⟨n1, n2, n3, n4, n5, n6, n7, n8, n9, n10, n11, n12, n13, n14, n15⟩ := tags_ne
  refine ⟨_, (pss_cons (ps_if (pt_val (pe_callB call_isi (by rfl) G.isi (by decide +kernel) (pa_cons (pv 0) (pa_cons (pe_bltn (v := .ty "str") (u := .type "str") (by rfl) G.str (by decide +kernel) rfl) pa_nil)))) (pss_one (ps_ret (pv 0))) pss_nil)
    (pss_cons (ps_if (pt_cmpR op_eq (pe_ix ix_tup (pv 0) pe_int (fun _ _ => rfl)) (pe_glob (v := .str "var") rfl gV ⟨_, rfl⟩) (nomark _)) pss_never pss_nil)
    (pss_cons (ps_setLc (i := 1) (own := [("part", 3)]) (g := gName 3) (by rfl) scSpelled.nd rfl rfl (sw_true rfl rfl rfl (by decide +kernel)) (pi_tup (pe_slice sl_tup (pv 0) (po_some pe_int) po_none)) (blkOk_by (own := [("part", 3)]) (N := ["term", "parts", "bare", "part"]) (sc := defScope sSpelled) (by decide +kernel))
      (fun _ _ _ _ _ => pg_name (i := 3) scSpelled.nd rfl (Or.inl rfl)) (fun _ _ _ _ _ => pts_nil) (fun _ _ _ _ _ => (pe_call Gs hr rfl D.g D.F.kp D.b .nil pass0 (pa_cons (pv 3) pa_nil))))
    (pss_cons (ps_if (pt_cmpR op_eq (pe_ix ix_tup (pv 0) pe_int (fun _ _ => rfl)) (pe_glob (v := .str tPair) rfl gP ⟨_, rfl⟩) (nomark _)) (pss_one (ps_ret (pe_op op_add_str (pe_op op_add_str (pe_op op_add_str (pe_op op_add_str pe_str (pe_ix ix_list (pv 1) pe_int (fun _ _ => rfl))) (pe_glob (v := .str " & ") rfl gA ⟨_, rfl⟩)) (pe_ix ix_list (pv 1) pe_int (fun _ _ => rfl))) pe_str))) pss_nil)
    (pss_cons (ps_if (pt_cmpR op_eq (pe_ix ix_tup (pv 0) pe_int (fun _ _ => rfl)) (pe_glob (v := .str tBox) rfl gB ⟨_, rfl⟩) (nomark _)) (pss_cons (ps_set (i := 2) scSpelled.nd rfl (Or.inl rfl) (pe_or (pe_callB call_isi (by rfl) G.isi (by decide +kernel) (pa_cons (pe_ix ix_tup (pv 0) pe_int (fun _ _ => rfl)) (pa_cons (pe_bltn (v := .ty "str") (u := .type "str") (by rfl) G.str (by decide +kernel) rfl) pa_nil))) (pe_one (pe_cmpR op_eq (pe_ix ix_tup (pe_ix ix_tup (pv 0) pe_int (fun _ _ => rfl)) pe_int (fun _ _ => rfl)) (pe_glob (v := .str "var") rfl gV ⟨_, rfl⟩) (nomark _)))))
    (pss_one (ps_ret (pe_op op_add_str (pe_op op_add_str (pe_op op_add_str pe_str (pe_ix ix_list (pv 1) pe_int (fun _ _ => rfl))) pe_str) (pe_ifExp (pt_val (pv 2)) (pe_ix ix_list (pv 1) pe_int (fun _ _ => rfl)) (pe_op op_add_str (pe_op op_add_str pe_str (pe_ix ix_list (pv 1) pe_int (fun _ _ => rfl))) pe_str)))))) pss_nil)
    (pss_cons (ps_if (pt_cmpR op_eq (pe_ix ix_tup (pv 0) pe_int (fun _ _ => rfl)) (pe_glob (v := .str tHalf) rfl gH ⟨_, rfl⟩) (nomark _)) (pss_one (ps_ret (pe_op op_add_str pe_str (pe_ix ix_list (pv 1) pe_int (fun _ _ => rfl))))) pss_nil)
    (pss_cons (ps_if (pt_cmpR op_eq (pe_ix ix_tup (pv 0) pe_int (fun _ _ => rfl)) (pe_glob (v := .str tShut) rfl gS ⟨_, rfl⟩) (nomark _)) (pss_one (ps_ret (pe_op op_add_str (pe_op op_add_str (pe_op op_add_str pe_str (pe_ix ix_list (pv 1) pe_int (fun _ _ => rfl))) pe_str) (pe_ix ix_list (pv 1) pe_int (fun _ _ => rfl))))) pss_nil)
    (pss_cons (ps_if (pt_cmpR op_eq (pe_ix ix_tup (pv 0) pe_int (fun _ _ => rfl)) (pe_glob (v := .str tMark) rfl gM ⟨_, rfl⟩) (nomark _)) (pss_one (ps_ret (pe_op op_add_str (pe_op op_add_str (pe_op op_add_str (pe_op op_add_str pe_str (pe_ix ix_list (pv 1) pe_int (fun _ _ => rfl))) pe_str) (pe_ix ix_list (pv 1) pe_int (fun _ _ => rfl))) pe_str))) pss_nil)
    (pss_one (ps_ret (pe_op op_add_str (pe_op op_add_str pe_str (pe_ix ix_list (pv 1) pe_int (fun _ _ => rfl))) pe_str))))))))))), ?_⟩
  refine ⟨_, rfl, _, .ty "str", _, _, _, rfl, .ty _, ht.ty, isi_str _, _, rfl, ?_⟩
  cases c : t.isNm with
  | true =>
    obtain ⟨x, rfl, rfl⟩ := ht.name c
    exact iteT ⟨_, rfl, q H (Same.refl H)⟩
  | false =>
    obtain ⟨p, vs, rfl, e1, hk⟩ := ht.node c
    have hkl : t.kids.length = vs.length := Paired.length hk
    have hv2 : vs.length ≤ 2 := by
      rw [← hkl]
      cases t <;> simp [Tm.kids]
    refine iteF ⟨_, rfl, p, _, 0, _, rfl, rfl, .inl (.inl e1), at_0 _ _, rfl, _, rfl, ?_⟩
    rw [tag_ne (tag_var t)]
    refine iteF ⟨_, rfl, 1, rfl, p, _, rfl, .inl (.inl e1), not_whole _ _, fun T nT => ?_⟩
    rw [cut_tail]
    refine ⟨T, rfl, ⟨_, .inl (.inl upd_same)⟩, fun L nL => ?_⟩
    have sT := same_new nT (.tup vs)
    have nL2 : H L = none := sT.free nL
    refine lc_it walk_tup (fun i H' => Same H H' ∧ H' T = some (.tup vs) ∧ H' L = some (.lst ((t.kids.take i).map fun k => V.str (spS k))))
      ⟨Same.upd sT nL2, by rw [upd_ne (ne_of_none upd_same nL)]; exact upd_same, upd_same⟩ (fun _ _ _ h => .inl (.inl h.2.1)) (fun i y Ha Hb hi ⟨sa, eT, eL⟩ ⟨eb, hy⟩ => ?_) (fun Ha ⟨sa, eT, eL⟩ => ?_)
    · subst eb
      obtain ⟨k, hki, hky⟩ := paired_at hk hy
      have hkm := List.mem_of_getElem? hki
      have hkd := kid_depth hkm
      refine ⟨rfl, ?_⟩
      refine ⟨_, rfl, y, k, rfl, hky.mono (Same.tups sa), kid_good g hkm, by omega, by omega, fun Hc sc => ?_⟩
      have eLc := sc _ _ eL
      refine ⟨_, eLc, ?_, Same.upd (sa.trans sc) nL2, ?_, ?_⟩
      · rw [List.length_map]
        have h3 := List.length_take_le i t.kids
        have := sizeLine_eq
        omega
      · rw [upd_ne (ne_of (sc _ _ eT) eLc (fun z => nomatch z))]
        exact sc _ _ eT
      · rw [upd_same, take_snoc hki, List.map_append]
        rfl
    · rw [← hkl, List.take_length] at eL
      have e1a := sa _ _ e1
      have q := q Ha sa
      have hl := sizeLine_eq
      obtain ⟨l1, l2, l3, l4, l5, l6, l7, l8, l9, l10, l11, l12⟩ := lits
      have la := str_len_app
      cases t with
      | nm x => cases c
      | pair a b =>
        have ga := sp_small (good_l g).1 (by simp only [Tm.depth] at h4; omega)
        have gb := sp_small (good_l g).2 (by simp only [Tm.depth] at h4; omega)
        refine ⟨_, rfl, p, _, 0, _, rfl, rfl, .inl (.inl e1a), at_0 _ _, rfl, _, rfl, ?_⟩
        rw [show decide (V.str (tagOf (.pair a b)) = V.str tPair) = true from tag_eq _]
        refine iteT ⟨_, rfl, L, _, 0, _, rfl, rfl, SqL.of eL, at_0 _ _, _, _, rfl, rfl, ?_, _, _, rfl, rfl, ?_, _, rfl, L, _, 1, _, rfl, rfl, SqL.of eL, at_1 _ _ _, _, _, rfl, rfl, ?_, _, _, rfl, rfl, ?_, q⟩
        all_goals ((try simp only [str_len_app]); omega)
      | box a b =>
        have ga := sp_small (good_b g).1 (by simp only [Tm.depth] at h4; omega)
        have gb := sp_small (good_b g).2 (by simp only [Tm.depth] at h4; omega)
        cases hk with
        | @cons _ ya _ vr ha hk2 =>
        have ha := ha.mono (Same.tups sa)
        refine ⟨_, rfl, p, _, 0, _, rfl, rfl, .inl (.inl e1a), at_0 _ _, rfl, _, rfl, ?_⟩
        rw [show decide (V.str (tagOf (.box a b)) = V.str tPair) = false from tag_ne n1.symm]
        refine iteF ⟨_, rfl, p, _, 0, _, rfl, rfl, .inl (.inl e1a), at_0 _ _, rfl, _, rfl, ?_⟩
        rw [show decide (V.str (tagOf (.box a b)) = V.str tBox) = true from tag_eq _]
        refine iteT ⟨_, rfl, p, _, 1, _, rfl, rfl, .inl (.inl e1a), at_1 _ _ _, ya, .ty "str", _, _, _, rfl, .ty _, ha.ty, isi_str _, _, rfl, ?_⟩
        cases ca : a.isNm with
        | true =>
          have e : spS (.box a b) = ((("[" : Str) ++ spS b) ++ ("]" : Str)) ++ spS a := by simp only [spS, ca, if_true]
          rw [e] at q
          refine iteT ⟨_, rfl, L, _, 1, _, rfl, rfl, SqL.of eL, at_1 _ _ _, _, _, rfl, rfl, ?_, _, _, rfl, rfl, ?_, _, rfl, _, rfl, iteT ⟨_, rfl, L, _, 0, _, rfl, rfl, SqL.of eL, at_0 _ _, _, _, rfl, rfl, ?_, q⟩⟩
          all_goals ((try simp only [str_len_app]); omega)
        | false =>
          have e : spS (.box a b) = ((("[" : Str) ++ spS b) ++ ("]" : Str)) ++ ((("<" : Str) ++ spS a) ++ (">" : Str)) := by simp only [spS, ca, if_neg Bool.false_ne_true]
          rw [e] at q
          obtain ⟨pa, va, rfl, ea, _⟩ := ha.node ca
          refine iteF ⟨_, rfl, p, _, 1, _, rfl, rfl, .inl (.inl e1a), at_1 _ _ _, pa, _, 0, _, rfl, rfl, .inl (.inl ea), at_0 _ _, rfl, ?_⟩
          rw [tag_ne (tag_var a)]
          refine ⟨_, rfl, L, _, 1, _, rfl, rfl, SqL.of eL, at_1 _ _ _, _, _, rfl, rfl, ?_, _, _, rfl, rfl, ?_, _, rfl, _, rfl, iteF ⟨_, rfl, L, _, 0, _, rfl, rfl, SqL.of eL, at_0 _ _, _, _, rfl, rfl, ?_, _, _, rfl, rfl, ?_, _, _, rfl, rfl, ?_, q⟩⟩
          all_goals ((try simp only [str_len_app]); omega)
      | half x =>
        have ga := (good_h g).most
        refine ⟨_, rfl, p, _, 0, _, rfl, rfl, .inl (.inl e1a), at_0 _ _, rfl, _, rfl, ?_⟩
        rw [show decide (V.str (tagOf (.half x)) = V.str tPair) = false from tag_ne n8.symm]
        refine iteF ⟨_, rfl, p, _, 0, _, rfl, rfl, .inl (.inl e1a), at_0 _ _, rfl, _, rfl, ?_⟩
        rw [show decide (V.str (tagOf (.half x)) = V.str tBox) = false from tag_ne n10.symm]
        refine iteF ⟨_, rfl, p, _, 0, _, rfl, rfl, .inl (.inl e1a), at_0 _ _, rfl, _, rfl, ?_⟩
        rw [show decide (V.str (tagOf (.half x)) = V.str tHalf) = true from tag_eq _]
        refine iteT ⟨_, rfl, L, _, 0, _, rfl, rfl, SqL.of eL, at_0 _ _, _, _, rfl, rfl, ?_, q⟩
        show ("half " : Str).length + x.length ≤ sizeLine
        omega
      | shut x b =>
        have ga := (good_s g).1.most
        have gb := sp_small (good_s g).2 (by simp only [Tm.depth] at h4; omega)
        refine ⟨_, rfl, p, _, 0, _, rfl, rfl, .inl (.inl e1a), at_0 _ _, rfl, _, rfl, ?_⟩
        rw [show decide (V.str (tagOf (.shut x b)) = V.str tPair) = false from tag_ne n4.symm]
        refine iteF ⟨_, rfl, p, _, 0, _, rfl, rfl, .inl (.inl e1a), at_0 _ _, rfl, _, rfl, ?_⟩
        rw [show decide (V.str (tagOf (.shut x b)) = V.str tBox) = false from tag_ne n6.symm]
        refine iteF ⟨_, rfl, p, _, 0, _, rfl, rfl, .inl (.inl e1a), at_0 _ _, rfl, _, rfl, ?_⟩
        rw [show decide (V.str (tagOf (.shut x b)) = V.str tHalf) = false from tag_ne n12]
        refine iteF ⟨_, rfl, p, _, 0, _, rfl, rfl, .inl (.inl e1a), at_0 _ _, rfl, _, rfl, ?_⟩
        rw [show decide (V.str (tagOf (.shut x b)) = V.str tShut) = true from tag_eq _]
        refine iteT ⟨_, rfl, L, _, 1, _, rfl, rfl, SqL.of eL, at_1 _ _ _, _, _, rfl, rfl, ?_, _, _, rfl, rfl, ?_, _, rfl, L, _, 0, _, rfl, rfl, SqL.of eL, at_0 _ _, _, _, rfl, rfl, ?_, q⟩
        · omega
        · simp only [str_len_app]; omega
        · show (("{" : Str) ++ spS b ++ ("}" : Str)).length + x.length ≤ sizeLine
          simp only [str_len_app]; omega
      | mark x b =>
        have ga := (good_m g).1.most
        have gb := sp_small (good_m g).2 (by simp only [Tm.depth] at h4; omega)
        refine ⟨_, rfl, p, _, 0, _, rfl, rfl, .inl (.inl e1a), at_0 _ _, rfl, _, rfl, ?_⟩
        rw [show decide (V.str (tagOf (.mark x b)) = V.str tPair) = false from tag_ne n5.symm]
        refine iteF ⟨_, rfl, p, _, 0, _, rfl, rfl, .inl (.inl e1a), at_0 _ _, rfl, _, rfl, ?_⟩
        rw [show decide (V.str (tagOf (.mark x b)) = V.str tBox) = false from tag_ne n7.symm]
        refine iteF ⟨_, rfl, p, _, 0, _, rfl, rfl, .inl (.inl e1a), at_0 _ _, rfl, _, rfl, ?_⟩
        rw [show decide (V.str (tagOf (.mark x b)) = V.str tHalf) = false from tag_ne n14]
        refine iteF ⟨_, rfl, p, _, 0, _, rfl, rfl, .inl (.inl e1a), at_0 _ _, rfl, _, rfl, ?_⟩
        rw [show decide (V.str (tagOf (.mark x b)) = V.str tShut) = false from tag_ne n2.symm]
        refine iteF ⟨_, rfl, p, _, 0, _, rfl, rfl, .inl (.inl e1a), at_0 _ _, rfl, _, rfl, ?_⟩
        rw [show decide (V.str (tagOf (.mark x b)) = V.str tMark) = true from tag_eq _]
        refine iteT ⟨_, rfl, L, _, 1, _, rfl, rfl, SqL.of eL, at_1 _ _ _, _, _, rfl, rfl, ?_, _, _, rfl, rfl, ?_, _, rfl, L, _, 0, _, rfl, rfl, SqL.of eL, at_0 _ _, _, _, rfl, rfl, ?_, _, _, rfl, rfl, ?_, q⟩
        · omega
        · simp only [str_len_app]; omega
        · show (("(" : Str) ++ spS b ++ ("!" : Str)).length + x.length ≤ sizeLine
          simp only [str_len_app]; omega
        · show (("(" : Str) ++ spS b ++ ("!" : Str) ++ x).length + (")" : Str).length ≤ sizeLine
          simp only [str_len_app]; omega
      | mix b =>
        have gb := sp_small (good_x g) (by simp only [Tm.depth] at h4; omega)
        refine ⟨_, rfl, p, _, 0, _, rfl, rfl, .inl (.inl e1a), at_0 _ _, rfl, _, rfl, ?_⟩
        rw [show decide (V.str (tagOf (.mix b)) = V.str tPair) = false from tag_ne n9.symm]
        refine iteF ⟨_, rfl, p, _, 0, _, rfl, rfl, .inl (.inl e1a), at_0 _ _, rfl, _, rfl, ?_⟩
        rw [show decide (V.str (tagOf (.mix b)) = V.str tBox) = false from tag_ne n11.symm]
        refine iteF ⟨_, rfl, p, _, 0, _, rfl, rfl, .inl (.inl e1a), at_0 _ _, rfl, _, rfl, ?_⟩
        rw [show decide (V.str (tagOf (.mix b)) = V.str tHalf) = false from tag_ne n3.symm]
        refine iteF ⟨_, rfl, p, _, 0, _, rfl, rfl, .inl (.inl e1a), at_0 _ _, rfl, _, rfl, ?_⟩
        rw [show decide (V.str (tagOf (.mix b)) = V.str tShut) = false from tag_ne n13.symm]
        refine iteF ⟨_, rfl, p, _, 0, _, rfl, rfl, .inl (.inl e1a), at_0 _ _, rfl, _, rfl, ?_⟩
        rw [show decide (V.str (tagOf (.mix b)) = V.str tMark) = false from tag_ne n15.symm]
        refine iteF ⟨_, rfl, L, _, 0, _, rfl, rfl, SqL.of eL, at_0 _ _, _, _, rfl, rfl, ?_, _, _, rfl, rfl, ?_, q⟩
        · omega
        · simp only [str_len_app]; omega
theorem all_spelled (D : Dn K mg "spelled" sSpelled ["term"] f fd) (G : Glb K w mg) : ∀ n, FnOk P w K mg base CX0 n f fd ["term"] (spSpelled n)
  | 0 => none_spelled
  | n + 1 => ok_spelled D G (all_spelled D G n)
end
end K12

set_option Elab.async false
set_option linter.all false
set_option maxRecDepth 100000
set_option maxHeartbeats 4000000
namespace K12
open PySem PySem.Spec L2

/-- entries whose terms are terms here, good and small -/
def EntAt (H : Hp) (kvs : List TEnt) : Prop := ∀ p ∈ kvs, TmAt H p.1 p.2 ∧ Good p.1 ∧ p.1.depth ≤ 4
theorem EntAt.mono {H H' : Hp} {kvs : List TEnt} (k : Tups H H') (h : EntAt H kvs) : EntAt H' kvs := fun p hp => ⟨(h p hp).1.mono k, (h p hp).2⟩
theorem EntAt.deep {H : Hp} {kvs : List TEnt} (h : EntAt H kvs) : ∀ p ∈ kvs, TmAt H p.1 p.2 ∧ p.1.depth ≤ 9 := fun p hp => ⟨(h p hp).1, by have := (h p hp).2.2; omega⟩
theorem EntAt.td {w : World} {H : Hp} {d : Addr} {kvs : List TEnt} (h : EntAt H kvs) (e : H d = some (hoT w d kvs)) : TD w H d kvs := ⟨.inl e, h.deep⟩
theorem KeepX.tups_of {a : Addr} {H H' : Hp} (k : KeepX a H H') {o : HO} (ha : H a = some o) (hn : ∀ xs, o ≠ .tup xs) : Tups H H' := fun b ys e => k b _ (ne_of e ha (fun z => hn ys z.symm)) e
theorem KeepX.trans_same {a : Addr} {H H1 H2 : Hp} (x : KeepX a H H1) (y : Same H1 H2) : KeepX a H H2 := x.trans (KeepX.of y)
/-- a dict comprehension over what is walked -/
theorem dc_it {J : It} {n : Nat} {G : Hp → Prop} {Y : Nat → Hp → V → Hp → Prop} (w : Walk J n G Y) {g : TG} {tt : TT} {tk tv : TE} {vs : List Nat} {σ : St} {H1 : Hp} {D : Addr} {Qd : Hp → Prop} (Pv : Nat → Hp → Prop) (h0 : Pv 0 (upd H1 D (.dK []))) (hG : ∀ i H, i ≤ n → Pv i H → G H)
    (hs : ∀ i x H H', i < n → Pv i H → Y i H x H' → g x (wipe σ vs) H' fun σ2 H2 => wipe σ2 vs = wipe σ vs ∧ tt σ2 H2 fun b H3 =>
      if b = true then tk σ2 H3 fun y H4 => tv σ2 H4 fun z H5 => ∃ kvs k, y = kV k ∧ H5 D = some (.dK kvs) ∧ kvs.length < sizeLine ∧ Pv (i + 1) (upd H5 D (.dK (putK kvs k z))) else Pv (i + 1) H3) (hd : ∀ H, Pv n H → Qd H) :
    ∃ W : Nat → Nat → Hp → Prop, (∃ m, W 0 m (upd H1 D (.dK []))) ∧ ∀ i m H, W i m H →
      (J.stop i H ∧ Qd H) ∨ (J.go i H ∧ ∃ Nx : Hp → Prop, (∀ H', Nx H' → ∃ m', m' < m ∧ W (i + 1) m' H') ∧ ∀ x H', J.yld i H x H' → g x (wipe σ vs) H' fun σ2 H2 => wipe σ2 vs = wipe σ vs ∧ tt σ2 H2 fun b H3 =>
        if b = true then tk σ2 H3 fun y H4 => tv σ2 H4 fun z H5 => ∃ kvs k, y = kV k ∧ H5 D = some (.dK kvs) ∧ kvs.length < sizeLine ∧ Nx (upd H5 D (.dK (putK kvs k z))) else Nx H3) := by
  refine ⟨fun i m H => m = n - i ∧ i ≤ n ∧ Pv i H, ⟨_, rfl, Nat.zero_le _, h0⟩, fun i m H ⟨em, hi, p⟩ => ?_⟩
  rcases Nat.lt_or_ge i n with hlt | hge
  · exact .inr ⟨w.goes i H hlt (hG i H hi p), Pv (i + 1), fun H' p' => ⟨_, by omega, rfl, hlt, p'⟩, fun x H' y => hs i x H H' hlt p (w.yields i H x H' hlt (hG i H hi p) y)⟩
  · obtain rfl : i = n := by omega
    exact .inl ⟨w.stops H (hG _ H hi p), hd H p⟩
def spByWordings (w : World) : Sp := fun vs H Q _ => ∃ (d : Addr) (kvs : List TEnt), vs = [.ref d] ∧ H d = some (hoT w d kvs) ∧ EntAt H kvs ∧ (tms kvs).Nodup ∧ kvs.length < 64 ∧
  ∀ (r : Addr) (H' : Hp) (ts : List Tm) (rs : List V), Same H H' → H r = none → H' r = some (.lst rs) → TmsAt H' ts rs → (∀ t, t ∈ ts ↔ t ∈ tms kvs) → Q (.ref r) H'
/-- the table of wordings -/
def tabW (kvs : List TEnt) : List (Key × V) := kvs.map fun p => (Sum.inr (spS p.1), p.2)
theorem nodup_map {α β : Type} {f : α → β} : ∀ {l : List α}, l.Nodup → (∀ a ∈ l, ∀ b ∈ l, f a = f b → a = b) → (l.map f).Nodup
  | [], _, _ => List.nodup_nil
  | a :: l, h, hi => by
    rw [List.nodup_cons] at h
    rw [List.map_cons, List.nodup_cons]
    refine ⟨fun hm => ?_, nodup_map h.2 fun x hx y hy e => hi x (List.mem_cons_of_mem _ hx) y (List.mem_cons_of_mem _ hy) e⟩
    obtain ⟨b, hb, e⟩ := List.mem_map.mp hm
    have := hi b (List.mem_cons_of_mem _ hb) a List.mem_cons_self e
    exact h.1 (this ▸ hb)
theorem tabW_keys (kvs : List TEnt) : (tabW kvs).map (·.1) = ((tms kvs).map spS).map Sum.inr := by
  simp [tabW, tms]
theorem tabW_nodup {H : Hp} {kvs : List TEnt} (h : EntAt H kvs) (hn : (tms kvs).Nodup) : ((tabW kvs).map (·.1)).Nodup := by
  rw [tabW_keys, List.map_map]
  refine nodup_map hn fun a ha b hb e => ?_
  obtain ⟨p, hp, rfl⟩ := List.mem_map.mp ha
  obtain ⟨q, hq, rfl⟩ := List.mem_map.mp hb
  exact spS_inj (h p hp).2.1 (h q hq).2.1 (Sum.inr.inj e)
section
variable {P : Program} {w : World} {K : PySem.W.Frag} {mg : Str → Option Value} {base : Heap} {f fS : Addr} {fd dS : FuncData}
theorem scByWordings : FnScope ["terms", "table", "term", "text"] ["terms"] (defScope sByWordings) := ⟨rfl, rfl, rfl, by decide +kernel, rfl, by decide +kernel, by decide +kernel⟩
theorem ok_bywordings (D : Dn K mg "by_wordings" sByWordings ["terms"] f fd) (G : Glb K w mg) (Ds : Dn K mg "spelled" sSpelled ["term"] fS dS) (Gs : FnOk P w K mg base CX0 4 fS dS ["term"] (spSpelled 4)) : FnOk P w K mg base CX0 5 f fd ["terms"] (spByWordings w) := by
  refine D.F.ok scByWordings (fun vs H Q E h => ?_) (fun cdv A outer s H vs Q E hr h => ?_)
  · obtain ⟨d, kvs, rfl, _⟩ := h
    rfl
  obtain ⟨d, kvs, rfl, hd, he, hnd, h64, q⟩ := h
  have hu := hu_of hr
  refine ⟨_, (pss_cons (ps_set (i := 1) scByWordings.nd rfl (Or.inr rfl) (pe_lock (pe_dc (own := [("term", 2)]) rfl scByWordings.nd (pi_tkeys (pv 0)) (blkOk_by (own := [("term", 2)]) (N := ["terms", "table", "term", "text"]) (sc := defScope sByWordings) (by decide +kernel))
      (fun _ _ _ _ _ => pg_name (i := 2) scByWordings.nd rfl (Or.inl rfl)) (fun _ _ _ _ _ => pts_nil) (fun _ _ _ _ _ => (pe_call Gs hr rfl Ds.g Ds.F.kp Ds.b .nil pass0 (pa_cons (pv 2) pa_nil))) (fun _ _ _ _ _ => pv 2))))
    (pss_one (ps_ret (pe_lc (own := [("text", 3)]) (g := gName 3) rfl scByWordings.nd (pi_list (pe_callB (call_sortedD rfl) (by rfl) G.sorted (by decide +kernel) (pa_cons (pv 1) pa_nil))) (blkOk_by (own := [("text", 3)]) (N := ["terms", "table", "term", "text"]) (sc := defScope sByWordings) (by decide +kernel))
      (fun _ _ _ _ _ => pg_name (i := 3) scByWordings.nd rfl (Or.inl rfl)) (fun _ _ _ _ _ => pts_nil) (fun _ _ _ _ _ => (pe_dget hu (pv 1) (pv 3) (fun _ _ => rfl))))))), ?_⟩
  refine ⟨d, _, hd, True.intro, fun od => ?_⟩
  have hlk : KeepX d H (upd H d (.frz od (hoT w d kvs))) := KeepX.upd
  refine ⟨_, rfl, d, od, kvs, rfl, upd_same, fun D1 nD => ?_⟩
  have neD : D1 ≠ d := fun e => by rw [e, upd_same] at nD; cases nD
  have nD0 : H D1 = none := by rw [upd_ne neD] at nD; exact nD
  have tH : ∀ {H' : Hp}, KeepX d H H' → Tups H H' := fun k => k.tups_of hd (fun _ z => nomatch z)
  refine dc_it walk_tkeys (fun i H' => H' d = some (.frz od (hoT w d kvs)) ∧ KeepX d H H' ∧ H' D1 = some (.dK (tabW (kvs.take i))))
    ⟨by rw [upd_ne neD.symm]; exact upd_same, hlk.trans_same (same_new nD _), upd_same⟩ (fun _ _ _ h => h.1) (fun i y Ha Hb hi ⟨e1, k1, e2⟩ ⟨eb, t, hy⟩ => ?_) (fun Ha ⟨e1, k1, e2⟩ => ?_)
  · subst eb
    have hm := List.mem_of_getElem? hy
    obtain ⟨ht, hg, h4⟩ := he _ hm
    refine ⟨rfl, _, rfl, y, t, rfl, ht.mono (tH k1), hg, h4, h4, fun Hc sc => ?_⟩
    have e2c := sc _ _ e2
    refine ⟨_, rfl, _, Sum.inr (spS t), rfl, e2c, ?_, ?_, ?_, ?_⟩
    · have h3 := List.length_take_le i kvs
      have := sizeLine_eq
      simp only [tabW, List.length_map]
      omega
    · rw [upd_ne neD.symm]
      exact sc _ _ e1
    · intro b o nb e
      rw [upd_ne (ne_of_none e nD0)]
      exact sc _ _ (k1 b o nb e)
    · rw [upd_same, take_snoc hy]
      have hnone : valV (tabW (kvs.take i)) (Sum.inr (spS t)) = none := by
        cases hv : valV (tabW (kvs.take i)) (Sum.inr (spS t)) with
        | none => rfl
        | some z =>
          have nd := tabW_nodup he hnd
          have hs : (tabW (kvs.take (i + 1))).map (·.1) <+: (tabW kvs).map (·.1) := by
            simp only [tabW]
            exact (List.IsPrefix.map _ (List.IsPrefix.map _ (List.take_prefix (i + 1) kvs)))
          have nd2 := List.Sublist.nodup hs.sublist nd
          rw [take_snoc hy] at nd2
          simp only [tabW, List.map_append, List.map_cons, List.map_nil] at nd2
          rw [List.nodup_append] at nd2
          have hany := valV_any (Sum.inr (spS t)) (tabW (kvs.take i))
          rw [hv] at hany
          obtain ⟨p, hp, hpe⟩ := List.any_eq_true.mp hany
          exact absurd rfl (nd2.2.2 _ (List.mem_map.mpr ⟨p, hp, of_decide_eq_true hpe⟩) _ (by simp))
      rw [putK_new y hnone]
      simp [tabW]
  · rw [List.take_length] at e2
    refine ⟨e1, ?_⟩
    have sH : Same H (upd Ha d (hoT w d kvs)) := fun b o e => by
      by_cases c : b = d
      · subst c
        rw [upd_same, ← hd, e]
      · rw [upd_ne c]
        exact k1 b o c e
    have eD : (upd Ha d (hoT w d kvs)) D1 = some (.dK (tabW kvs)) := by rw [upd_ne neD]; exact e2
    generalize upd Ha d (hoT w d kvs) = Hb at sH eD
    refine ⟨_, rfl, D1, tabW kvs, (tms kvs).map spS, rfl, .inl eD, tabW_keys kvs, by simp [tms]; exact h64, fun ys S hperm _ nS => ?_⟩
    have sS := same_new nS (.lst (ys.map V.str))
    refine ⟨S, rfl, ⟨_, SqL.of upd_same⟩, fun L nL => ?_⟩
    have nLb : Hb L = none := sS.free nL
    have neSL : S ≠ L := ne_of_none upd_same nL
    refine lc_it walk_list (fun i H' => Same Hb H' ∧ H' S = some (.lst (ys.map V.str)) ∧ ∃ ts rs, H' L = some (.lst rs) ∧ TmsAt H' ts rs ∧ ts.map spS = ys.take i ∧ (∀ t ∈ ts, t ∈ tms kvs) ∧ rs.length = i)
      ⟨Same.upd sS nLb, by rw [upd_ne (ne_of_none upd_same nL)]; exact upd_same, [], [], upd_same, .nil, rfl, fun t h => (nomatch h), rfl⟩ (fun _ _ _ h => SqL.of h.2.1) (fun i y Hc Hd hi ⟨sc, eS, ts, rs, eL, hrs, hsp, hin, hlr⟩ ⟨ed, hy⟩ => ?_) (fun Hc ⟨sc, eS, ts, rs, eL, hrs, hsp, hin, hlr⟩ => ?_)
    · subst ed
      rw [List.getElem?_map] at hy
      cases hyi : ys[i]? with
      | none => rw [hyi] at hy; cases hy
      | some z =>
        rw [hyi] at hy
        obtain rfl : V.str z = y := Option.some.inj hy
        have hz : z ∈ (tms kvs).map spS := hperm.mem_iff.mp (List.mem_of_getElem? hyi)
        obtain ⟨t, ht, rfl⟩ := List.mem_map.mp hz
        obtain ⟨p, hp, rfl⟩ := List.mem_map.mp ht
        have hv : valV (tabW kvs) (Sum.inr (spS p.1)) = some p.2 := val_nodup (tabW_nodup he hnd) (Sum.inr (spS p.1), p.2) (List.mem_map.mpr ⟨p, hp, rfl⟩)
        refine ⟨rfl, ?_⟩
        refine ⟨_, rfl, _, rfl, D1, p.2, rfl, by rw [← hv]; exact DGet.k (k := Sum.inr (spS p.1)) (sc _ _ eD), rs, eL, ?_, Same.upd sc nLb, ?_, ts ++ [p.1], rs ++ [p.2], upd_same, ?_, ?_, ?_, by simp [hlr]⟩
        · have hl2 : ys.length = kvs.length := by rw [hperm.length_eq]; simp [tms]
          rw [List.length_map] at hi
          have := sizeLine_eq
          omega
        · rw [upd_ne neSL]
          exact eS
        · exact Paired.snoc (hrs.mono (Tups.upd eL)) ((he p hp).1.mono ((Same.tups (sH.trans sc)).trans (Tups.upd eL)))
        · rw [List.map_append, hsp, take_snoc hyi]
          rfl
        · intro t ht
          rcases List.mem_append.mp ht with h | h
          · exact hin t h
          · obtain rfl := List.mem_singleton.mp h
            exact List.mem_map.mpr ⟨p, hp, rfl⟩
    · have hfull : ts.map spS = ys := by rw [hsp, List.take_of_length_le (by rw [List.length_map]; exact Nat.le_refl _)]
      refine q L Hc ts rs (sH.trans sc) (sH.free nLb) eL hrs fun t => ⟨hin t, fun ht => ?_⟩
      have h1 : spS t ∈ ys := hperm.mem_iff.mpr (List.mem_map.mpr ⟨t, ht, rfl⟩)
      rw [← hfull] at h1
      obtain ⟨u, hu', e⟩ := List.mem_map.mp h1
      obtain ⟨p, hp, rfl⟩ := List.mem_map.mp ht
      obtain ⟨p2, hp2, rfl⟩ := List.mem_map.mp (hin u hu')
      rw [← spS_inj (he p2 hp2).2.1 (he p hp).2.1 e]
      exact hu'
end
end K12

set_option Elab.async false
set_option linter.all false
set_option maxRecDepth 100000
set_option maxHeartbeats 4000000
namespace K12
open PySem PySem.Spec L2

/-- terms that are good and small -/
def Smalls (ts : List Tm) : Prop := ∀ t ∈ ts, Good t ∧ t.depth ≤ 4
def spGoodHearing : Sp := fun vs H Q _ => ∃ (a : Addr) (xs : List V) (ts : List Tm), vs = [.ref a] ∧ H a = some (.lst xs) ∧ TmsAt H ts xs ∧ Smalls ts ∧ ts.length ≤ 40 ∧ ∀ (T : Addr) (H' : Hp), Same H H' → H' T = some (.tup xs) → Q (.ref T) H'
def spPieces : Sp := fun vs H Q _ => ∃ (v : V) (t : Tm), vs = [v] ∧ TmAt H t v ∧ t.isNm = false ∧ ∀ (T : Addr) (H' : Hp) (ys : List V), Same H H' → H' T = some (.tup ys) → TmsAt H' t.pieces ys → Q (.ref T) H'
/-- membership in the dict's terms -/
abbrev inK (kvs : List TEnt) : Tm → Bool := fun u => decide (u ∈ tms kvs)
def spBuilt (w : World) (n : Nat) : Sp := fun vs H Q _ => ∃ (d : Addr) (kvs : List TEnt) (v : V) (t : Tm), vs = [.ref d, v] ∧ TD w H d kvs ∧ TmAt H t v ∧ t.depth ≤ 9 ∧ t.rank ≤ n ∧ ∀ H', Same H H' → Q (.bl (builtB (inK kvs) t)) H'
def spOpenings (w : World) : Sp := fun vs H Q _ => ∃ (d : Addr) (kvs : List TEnt) (v : V) (t : Tm), vs = [.ref d, v] ∧ TD w H d kvs ∧ TmAt H t v ∧ t.depth ≤ 4 ∧
  ∀ (L : Addr) (H' : Hp) (rs : List V), Same H H' → H L = none → H' L = some (.lst rs) → TmsAt H' (opensL (builtB (inK kvs)) t) rs → Q (.ref L) H'
theorem TD.same {w : World} {H H' : Hp} {d : Addr} {kvs : List TEnt} (h : TD w H d kvs) (s : Same H H') : TD w H' d kvs := by
  refine ⟨?_, fun p hp => ⟨(h.ks p hp).1.mono (Same.tups s), (h.ks p hp).2⟩⟩
  rcases h.rd with e | ⟨o, e⟩
  · exact .inl (s _ _ e)
  · exact .inr ⟨o, s _ _ e⟩
theorem piece_rank {t p : Tm} (h : p ∈ t.pieces) : p.rank + 1 ≤ t.rank := by
  cases t with
  | nm x => simp [Tm.pieces] at h
  | pair a b => simp [Tm.pieces] at h; rcases h with h | h <;> subst h <;> simp only [Tm.rank] <;> omega
  | box a b => simp [Tm.pieces] at h; rcases h with h | h <;> subst h <;> simp only [Tm.rank] <;> omega
  | half x => simp [Tm.pieces] at h; subst h; simp only [Tm.rank]; omega
  | shut x b => simp [Tm.pieces] at h; rcases h with h | h <;> subst h <;> simp only [Tm.rank] <;> omega
  | mark x b => have := Tm.rank_pos b; simp [Tm.pieces] at h; rcases h with h | h <;> subst h <;> simp only [Tm.rank] <;> omega
  | mix b => simp [Tm.pieces] at h; subst h; simp only [Tm.rank]; omega
theorem piece_depth {t p : Tm} (h : p ∈ t.pieces) : p.depth ≤ t.depth := by
  cases t with
  | nm x => simp [Tm.pieces] at h
  | pair a b => simp [Tm.pieces] at h; rcases h with h | h <;> subst h <;> simp only [Tm.depth] <;> omega
  | box a b => simp [Tm.pieces] at h; rcases h with h | h <;> subst h <;> simp only [Tm.depth] <;> omega
  | half x => simp [Tm.pieces] at h; subst h; simp only [Tm.depth]; omega
  | shut x b => have := Tm.depth_pos b; simp [Tm.pieces] at h; rcases h with h | h <;> subst h <;> simp only [Tm.depth] <;> omega
  | mark x b => have := Tm.depth_pos b; simp [Tm.pieces] at h; rcases h with h | h <;> subst h <;> simp only [Tm.depth] <;> omega
  | mix b => simp [Tm.pieces] at h; subst h; simp only [Tm.depth]; omega
section
variable {P : Program} {w : World} {K : PySem.W.Frag} {mg : Str → Option Value} {base : Heap} {f fR fT fP fB : Addr} {fd dR dT dP dB : FuncData}
theorem scGoodHearing : FnScope ["hearing", "at", "term"] ["hearing"] (defScope sGoodHearing) := ⟨rfl, rfl, rfl, by decide +kernel, rfl, by decide +kernel, by decide +kernel⟩
theorem ok_goodhearing (D : Dn K mg "good_hearing" sGoodHearing ["hearing"] f fd) (G : Glb K w mg) (Dr : Dn K mg "is_row" sIsRow ["thing"] fR dR) (Gr : FnOk P w K mg base CX0 1 fR dR ["thing"] spIsRow)
    (Dt : Dn K mg "is_term" sIsTerm ["thing"] fT dT) (Gt : FnOk P w K mg base CX0 8 fT dT ["thing"] spIsTerm) : FnOk P w K mg base CX0 9 f fd ["hearing"] spGoodHearing := by
  refine D.F.ok scGoodHearing (fun vs H Q E h => ?_) (fun cdv A outer s H vs Q E hr h => ?_)
  · obtain ⟨a, xs, ts, rfl, _⟩ := h
    rfl
  obtain ⟨a, xs, ts, rfl, ha, hts, hsm, h40, q⟩ := h
  obtain ⟨kH, gH⟩ := G.mostHeard
  have hr1 : Room 1 _ := hr.mono (by omega)
  have hl := Paired.length hts
  refine ⟨_, (pss_cons (ps_if (PW.pt (pw_or (pt_not (pt_val (pe_call Gr hr1 rfl Dr.g Dr.F.kp Dr.b .nil pass0 (pa_cons (pv 0) pa_nil)))) (pw_or1 (pt_cmpR op_gt (pe_callB call_len_seq (by rfl) G.len PySem.boot_len (pa_cons (pv 0) pa_nil)) (pe_glob (v := .int 40) rfl gH ⟨_, rfl⟩) (nomark _))))) pss_never pss_nil)
    (pss_cons (ps_for PassesOwn.never rfl (pi_enum (by rfl) G.enum (pa_cons (pv 0) pa_nil)) (pg_tup rfl (pgs_cons (pg_name (i := 1) scGoodHearing.nd rfl (Or.inl rfl)) (pgs_cons (pg_name (i := 2) scGoodHearing.nd rfl (Or.inl rfl)) pgs_nil)))
      (pss_one (ps_if (pt_not (pt_val (pe_call Gt hr rfl Dt.g Dt.F.kp Dt.b .nil pass0 (pa_cons (pv 2) pa_nil)))) pss_never pss_nil)))
    (pss_one (ps_ret (pe_callTy call_tuple_of (by rfl) G.tuple (by decide +kernel) (pa_cons (pv 0) pa_nil)))))), ?_⟩
  refine ⟨_, rfl, a, xs, rfl, ha, fun H1 s1 => ⟨_, rfl, iteF ⟨_, rfl, a, xs, rfl, .inl (SqL.of (s1 _ _ ha)), _, 40, rfl, rfl, _, rfl, ?_⟩⟩⟩
  rw [decide_eq_false (by omega)]
  refine iteF ⟨_, rfl, a, xs, rfl, SqL.of (s1 _ _ ha), for_it walk_enum (fun i σ H' => (∃ c e, σ = [some (.ref a), c, e]) ∧ Same H H') ⟨⟨_, _, rfl⟩, s1⟩ (fun _ _ _ _ h => SqL.of (h.2 _ _ ha)) (fun i y σ Ha Hb hi ⟨⟨c, e, es⟩, sa⟩ hy => ?_) (fun σ Ha ⟨⟨c, e, es⟩, sa⟩ => ?_)⟩
  · subst es
    obtain ⟨T, x, y, rfl, nT, rfl, ex, ey⟩ := hy
    obtain ⟨t, ht, hty⟩ := paired_at hts ey
    have htm := hsm t (List.mem_of_getElem? ht)
    have sb := sa.trans (same_new nT (.tup [x, y]))
    refine ⟨T, _, rfl, .inl (.inl upd_same), rfl, x, _, rfl, y, _, rfl, rfl, ?_⟩
    refine ⟨_, rfl, y, t, rfl, hty.mono (Same.tups sb), htm.1, htm.2, fun Hc sc => ⟨_, rfl, iteF ⟨⟨_, _, rfl⟩, sb.trans sc⟩⟩⟩
  · subst es
    exact ⟨_, rfl, a, xs, rfl, .inl ⟨SqL.of (sa _ _ ha), fun T nT => q T _ (sa.trans (same_new nT _)) upd_same⟩⟩
theorem scPieces : FnScope ["term"] ["term"] (defScope sPieces) := ⟨rfl, rfl, rfl, by decide +kernel, rfl, by decide +kernel, by decide +kernel⟩
theorem ok_pieces (D : Dn K mg "pieces" sPieces ["term"] f fd) (G : Glb K w mg) : FnOk P w K mg base CX0 1 f fd ["term"] spPieces := by
  refine D.F.ok scPieces (fun vs H Q E h => ?_) (fun cdv A outer s H vs Q E hr h => ?_)
  · obtain ⟨v, t, rfl, _⟩ := h
    rfl
  obtain ⟨v, t, rfl, ht, c, q⟩ := h
  obtain ⟨kS, gS⟩ := G.shut
  obtain ⟨kH, gH⟩ := G.half
  obtain ⟨n1, n2, n3, n4, n5, n6, n7, n8, n9, n10, n11, n12, n13, n14, n15⟩ := tags_ne
  refine ⟨_, (pss_cons (ps_if (pt_cmpR op_eq (pe_ix ix_tup (pv 0) pe_int (fun _ _ => rfl)) (pe_glob (v := .str tShut) rfl gS ⟨_, rfl⟩) (nomark _)) (pss_one (ps_ret (pe_tup (pa_cons (pe_tup (pa_cons (pe_glob (v := .str tHalf) rfl gH ⟨_, rfl⟩) (pa_cons (pe_ix ix_tup (pv 0) pe_int (fun _ _ => rfl)) pa_nil))) (pa_cons (pe_ix ix_tup (pv 0) pe_int (fun _ _ => rfl)) pa_nil))))) pss_nil)
    (pss_one (ps_ret (pe_slice sl_tup (pv 0) (po_some pe_int) po_none)))), ?_⟩
  obtain ⟨p, vs, rfl, e1, hk⟩ := ht.node c
  have go : tagOf t ≠ tShut → t.pieces = t.kids → ∀ (T : Addr), H T = none → Q (.ref T) (upd H T (.tup vs)) := fun _ e T nT => q T _ vs (same_new nT _) upd_same (by rw [e]; exact hk.mono (Same.tups (same_new nT _)))
  refine ⟨_, rfl, p, _, 0, _, rfl, rfl, .inl (.inl e1), at_0 _ _, rfl, _, rfl, ?_⟩
  have other : tagOf t ≠ tShut → t.pieces = t.kids → (if decide (V.str (tagOf t) = V.str tShut) = true then
      tRet (tTup (tCons (tTup (tCons (tC (.str tHalf)) (tCons (tOp (rIxT K) (tVar 0) (tC (.int 1))) tNil))) (tCons (tOp (rIxT K) (tVar 0) (tC (.int 2))) tNil))) { nx := tRet (tSl (rSlT K) (tVar 0) (tPart (tC (.int 1))) tNoPart) { nx := fun _ H' => Q .non H', rt := Q }, rt := Q } (start ["term"] [.ref p]) H
    else tNext { nx := tRet (tSl (rSlT K) (tVar 0) (tPart (tC (.int 1))) tNoPart) { nx := fun _ H' => Q .non H', rt := Q }, rt := Q } (start ["term"] [.ref p]) H) := fun hn hp => by
    rw [tag_ne hn]
    refine iteF ⟨_, rfl, 1, rfl, p, _, rfl, .inl (.inl e1), not_whole _ _, fun T nT => ?_⟩
    rw [cut_tail]
    exact go hn hp T nT
  cases t with
  | nm x => cases c
  | pair a b => exact other n4 rfl
  | box a b => exact other n6 rfl
  | half x => exact other n12.symm rfl
  | mark x b => exact other n2.symm rfl
  | mix b => exact other n13.symm rfl
  | shut x b =>
    rw [show decide (V.str (tagOf (.shut x b)) = V.str tShut) = true from tag_eq _]
    cases hk with
    | @cons _ y0 _ vr h0 hk2 =>
    cases hk2 with
    | @cons _ z0 _ vr2 h1 hk3 =>
    cases hk3
    refine iteT ⟨_, rfl, p, _, 1, _, rfl, rfl, .inl (.inl e1), at_1 _ _ _, (by show 2 ≤ sizeLine; decide), fun T1 nT1 => ?_⟩
    have s1 := same_new nT1 (.tup [V.str tHalf, y0])
    refine ⟨_, rfl, p, _, 2, _, rfl, rfl, .inl (.inl (s1 _ _ e1)), at_2 _ _ _ _, (by show 2 ≤ sizeLine; decide), fun T2 nT2 => ?_⟩
    have s2 := same_new nT2 (.tup [V.ref T1, z0])
    refine q T2 _ _ (s1.trans s2) upd_same (.cons ⟨T1, rfl, ?_⟩ (.cons (h1.mono (Same.tups (s1.trans s2))) .nil))
    obtain rfl : y0 = .str x := h0
    exact s2 _ _ upd_same
theorem scIsBuilt : FnScope ["found", "term", "piece"] ["found", "term"] (defScope sIsBuilt) := ⟨rfl, rfl, rfl, by decide +kernel, rfl, by decide +kernel, by decide +kernel⟩
theorem none_built : FnOk P w K mg base CX0 1 f fd ["found", "term"] (spBuilt w 0) := by
  have no : ∀ vs H Q E, ¬ spBuilt w 0 vs H Q E := fun vs H Q E h => by
    obtain ⟨d, kvs, v, t, _, _, _, _, h1, _⟩ := h
    have := Tm.rank_pos t
    omega
  exact ⟨fun vs H Q E h => absurd h (no vs H Q E), fun A outer s H args us vs Q E _ _ _ _ h => absurd h (no vs H Q E)⟩
theorem ok_built {n : Nat} (D : Dn K mg "is_built" sIsBuilt ["found", "term"] f fd) (G : Glb K w mg) (Dp : Dn K mg "pieces" sPieces ["term"] fP dP) (Gp : FnOk P w K mg base CX0 1 fP dP ["term"] spPieces)
    (Gb : FnOk P w K mg base CX0 (n + 1) f fd ["found", "term"] (spBuilt w n)) : FnOk P w K mg base CX0 (n + 1 + 1) f fd ["found", "term"] (spBuilt w (n + 1)) := by
  refine D.F.ok scIsBuilt (fun vs H Q E h => ?_) (fun cdv A outer s H vs Q E hr h => ?_)
  · obtain ⟨d, kvs, v, t, rfl, _⟩ := h
    rfl
  obtain ⟨d, kvs, v, t, rfl, hD, ht, h9, hrk, q⟩ := h
  have hr1 : Room 1 _ := hr.mono (by omega)
  have hu : (A.deeper (PyProof.Rows.envOfC "is_built" (defScope sIsBuilt) s.heap.objs.size f cdv)).units + 9 < cLine := by have := hr.un; omega
  refine ⟨_, (pss_cons (ps_if (pt_cmpR (op_tin hu) (pv 1) (pv 0) (by rfl)) (pss_one (ps_ret pe_bl)) pss_nil)
    (pss_one (ps_ret (pe_and (pe_not (pe_callB call_isi (by rfl) G.isi (by decide +kernel) (pa_cons (pv 1) (pa_cons (pe_bltn (v := .ty "str") (u := .type "str") (by rfl) G.str (by decide +kernel) rfl) pa_nil)))) (pe_one (pe_callB (cr_all rfl) (by rfl) G.all (by decide +kernel) (pa_cons (pe_lc (own := [("piece", 2)]) (g := gName 2) rfl scIsBuilt.nd (pi_tup (pe_call Gp hr1 rfl Dp.g Dp.F.kp Dp.b .nil pass0 (pa_cons (pv 1) pa_nil))) (blkOk_by (own := [("piece", 2)]) (N := ["found", "term", "piece"]) (sc := defScope sIsBuilt) (by decide +kernel))
      (fun _ _ _ _ _ => pg_name (i := 2) scIsBuilt.nd rfl (Or.inl rfl)) (fun _ _ _ _ _ => pts_nil) (fun _ _ _ _ _ => (pe_call Gb hr rfl D.g D.F.kp D.b .nil pass0 (pa_cons (pv 0) (pa_cons (pv 2) pa_nil))))) pa_nil))))))), ?_⟩
  rw [builtB_eq] at q
  refine ⟨_, rfl, _, rfl, d, kvs, t, rfl, hD, ht, h9, _, rfl, ?_⟩
  refine ite2 (fun c => ?_) (fun c => ?_)
  · have q := q H (Same.refl H)
    have c : inK kvs t = true := c
    rw [c] at q
    exact q
  · have c : inK kvs t = false := Bool.eq_false_iff.mpr c
    rw [c, Bool.false_or] at q
    refine ⟨_, rfl, _, .ty "str", _, _, _, rfl, .ty _, ht.ty, isi_str _, _, rfl, _, rfl, ?_⟩
    cases cn : t.isNm with
    | true =>
      rw [cn] at q
      exact iteF (q H (Same.refl H))
    | false =>
      rw [cn] at q
      refine iteT ⟨_, rfl, v, t, rfl, ht, cn, fun T H1 ys s1 eT hys => ?_⟩
      refine ⟨T, rfl, ⟨_, .inl (.inl eT)⟩, fun L nL => ?_⟩
      have hl : t.pieces.length = ys.length := Paired.length hys
      refine lc_it walk_tup (fun i H' => Same H1 H' ∧ H' L = some (.lst (((t.pieces.take i).map (builtB (inK kvs))).map V.bl))) ⟨same_new nL _, upd_same⟩ (fun _ _ _ h => .inl (.inl (h.1 _ _ eT))) (fun i y Ha Hb hi ⟨sa, eL⟩ ⟨eb, hy⟩ => ?_) (fun Ha ⟨sa, eL⟩ => ?_)
      · subst eb
        obtain ⟨p, hp, hpy⟩ := paired_at hys hy
        have hpm := List.mem_of_getElem? hp
        have h1 := piece_rank hpm
        have h2 := piece_depth hpm
        refine ⟨rfl, _, rfl, _, rfl, d, kvs, y, p, rfl, hD.same (s1.trans sa), hpy.mono (Same.tups sa), by omega, by omega, fun Hc sc => ?_⟩
        refine ⟨_, sc _ _ eL, ?_, Same.upd (sa.trans sc) nL, ?_⟩
        · rw [List.length_map, List.length_map]
          have h3 := List.length_take_le i t.pieces
          have h4 : ys.length ≤ 2 := by
            rw [← hl]
            cases t <;> simp [Tm.pieces]
          have := sizeLine_eq
          omega
        · rw [upd_same, take_snoc hp, List.map_append, List.map_append]
          rfl
      · rw [← hl, List.take_length] at eL
        refine ⟨L, _, rfl, SqL.of eL, ?_⟩
        have e : (t.pieces.map (builtB (inK kvs))).all id = t.pieces.all (builtB (inK kvs)) := by rw [List.all_map]; rfl
        rw [e]
        exact q Ha (s1.trans sa)
theorem all_built (D : Dn K mg "is_built" sIsBuilt ["found", "term"] f fd) (G : Glb K w mg) (Dp : Dn K mg "pieces" sPieces ["term"] fP dP) (Gp : FnOk P w K mg base CX0 1 fP dP ["term"] spPieces) : ∀ n, FnOk P w K mg base CX0 (n + 1) f fd ["found", "term"] (spBuilt w n)
  | 0 => none_built
  | n + 1 => ok_built D G Dp Gp (all_built D G Dp Gp n)
theorem scOpenings : FnScope ["found", "term"] ["found", "term"] (defScope sOpenings) := ⟨rfl, rfl, rfl, by decide +kernel, rfl, by decide +kernel, by decide +kernel⟩
theorem ok_openings (D : Dn K mg "openings" sOpenings ["found", "term"] f fd) (G : Glb K w mg) (Db : Dn K mg "is_built" sIsBuilt ["found", "term"] fB dB) (Gb : FnOk P w K mg base CX0 6 fB dB ["found", "term"] (spBuilt w 5)) : FnOk P w K mg base CX0 7 f fd ["found", "term"] (spOpenings w) := by
  refine D.F.ok scOpenings (fun vs H Q E h => ?_) (fun cdv A outer s H vs Q E hr h => ?_)
  · obtain ⟨d, kvs, v, t, rfl, _⟩ := h
    rfl
  obtain ⟨d, kvs, v, t, rfl, hD, ht, h4, q⟩ := h
  obtain ⟨kP, gP⟩ := G.pair
  obtain ⟨kB, gB⟩ := G.box
  obtain ⟨kS, gS⟩ := G.shut
  obtain ⟨kM, gM⟩ := G.mark
  obtain ⟨n1, n2, n3, n4, n5, n6, n7, n8, n9, n10, n11, n12, n13, n14, n15⟩ := tags_ne
  refine ⟨_, (pss_cons (ps_if (pt_val (pe_callB call_isi (by rfl) G.isi (by decide +kernel) (pa_cons (pv 1) (pa_cons (pe_bltn (v := .ty "str") (u := .type "str") (by rfl) G.str (by decide +kernel) rfl) pa_nil)))) (pss_one (ps_ret (pe_lst pa_nil))) pss_nil)
    (pss_cons (ps_if (pt_cmpR op_eq (pe_ix ix_tup (pv 1) pe_int (fun _ _ => rfl)) (pe_glob (v := .str tPair) rfl gP ⟨_, rfl⟩) (nomark _)) (pss_one (ps_ret (pe_lst (pa_cons (pe_ix ix_tup (pv 1) pe_int (fun _ _ => rfl)) (pa_cons (pe_ix ix_tup (pv 1) pe_int (fun _ _ => rfl)) pa_nil))))) pss_nil)
    (pss_cons (ps_if (pt_cmpR op_eq (pe_ix ix_tup (pv 1) pe_int (fun _ _ => rfl)) (pe_glob (v := .str tMark) rfl gM ⟨_, rfl⟩) (nomark _)) (pss_one (ps_ret (pe_lst (pa_cons (pe_ix ix_tup (pv 1) pe_int (fun _ _ => rfl)) pa_nil)))) pss_nil)
    (pss_cons (ps_if (PW.pt (pw_and (pt_cmpR op_in_seq (pe_ix ix_tup (pv 1) pe_int (fun _ _ => rfl)) (pe_tup (pa_cons (pe_glob (v := .str tBox) rfl gB ⟨_, rfl⟩) (pa_cons (pe_glob (v := .str tShut) rfl gS ⟨_, rfl⟩) pa_nil))) (by rfl)) (pw_and1 (pt_val (pe_call Gb hr rfl Db.g Db.F.kp Db.b .nil pass0 (pa_cons (pv 0) (pa_cons (pe_ix ix_tup (pv 1) pe_int (fun _ _ => rfl)) pa_nil))))))) (pss_one (ps_ret (pe_lst (pa_cons (pe_ix ix_tup (pv 1) pe_int (fun _ _ => rfl)) pa_nil)))) pss_nil)
    (pss_one (ps_ret (pe_lst pa_nil))))))), ?_⟩
  refine ⟨_, rfl, _, .ty "str", _, _, _, rfl, .ty _, ht.ty, isi_str _, _, rfl, ?_⟩
  cases c : t.isNm with
  | true =>
    obtain ⟨x, rfl, rfl⟩ := ht.name c
    exact iteT ⟨Nat.zero_le _, fun L nL => q L _ [] (same_new nL _) nL upd_same .nil⟩
  | false =>
    obtain ⟨p, vs, rfl, e1, hk⟩ := ht.node c
    have inBS : ∀ (z : Str), inV (.str z) [.str tBox, .str tShut] = (decide (z = tBox) || decide (z = tShut)) := fun z => by
      have bd : ∀ a b : Str, eqV (.str a) (.str b) = decide (b = a) := fun a b => by
        show (a == b) = decide (b = a)
        by_cases e : a = b
        · subst e; simp
        · rw [beq_eq_false_iff_ne.mpr e, decide_eq_false fun h => e h.symm]
      simp [inV, bd]
    -- none of the three kinds
    have last : ∀ (H' : Hp), Same H H' → opensL (builtB (inK kvs)) t = [] → tRet (tLst tNil) { nx := fun _ H' => Q .non H', rt := Q } (start ["found", "term"] [.ref d, .ref p]) H' := fun H' s' e =>
      ⟨Nat.zero_le _, fun L nL => q L _ [] (s'.trans (same_new nL _)) (s'.free nL) upd_same (by rw [e]; exact .nil)⟩
    -- a box or a shut with its key k
    have keyed : ∀ (k a : Tm) (yk ya : V), vs = [yk, ya] → TmAt H k yk → TmAt H a ya → k.depth ≤ 4 → opensL (builtB (inK kvs)) t = (if builtB (inK kvs) k then [a] else []) → ∀ H1, Same H H1 → ∀ bb : Bool, bb = builtB (inK kvs) k →
        (if bb = true then tRet (tLst (tCons (tOp (rIxT K) (tVar 1) (tC (.int 2))) tNil)) { nx := tRet (tLst tNil) { nx := fun _ H' => Q .non H', rt := Q }, rt := Q } (start ["found", "term"] [.ref d, .ref p]) H1
         else tNext { nx := tRet (tLst tNil) { nx := fun _ H' => Q .non H', rt := Q }, rt := Q } (start ["found", "term"] [.ref d, .ref p]) H1) := fun k a yk ya ev hk ha hkd ho H1 s1 bb eb => by
      subst ev
      rw [← eb] at ho
      cases bb with
      | true =>
        refine iteT ⟨_, rfl, p, _, 2, _, rfl, rfl, .inl (.inl (s1 _ _ e1)), at_2 _ _ _ _, (by show 1 ≤ sizeLine; decide), fun L nL => ?_⟩
        exact q L _ _ (s1.trans (same_new nL _)) (s1.free nL) upd_same (by rw [ho]; exact .cons (ha.mono (Same.tups (s1.trans (same_new nL _)))) .nil)
      | false => exact iteF (last H1 s1 ho)
    refine iteF ⟨_, rfl, p, _, 0, _, rfl, rfl, .inl (.inl e1), at_0 _ _, rfl, _, rfl, ?_⟩
    cases t with
    | nm x => cases c
    | pair a b =>
      rw [show decide (V.str (tagOf (.pair a b)) = V.str tPair) = true from tag_eq _]
      cases hk with
      | @cons _ y0 _ vr h0 hk2 =>
      cases hk2 with
      | @cons _ z0 _ vr2 h1 hk3 =>
      cases hk3
      refine iteT ⟨_, rfl, p, _, 1, _, rfl, rfl, .inl (.inl e1), at_1 _ _ _, _, rfl, p, _, 2, _, rfl, rfl, .inl (.inl e1), at_2 _ _ _ _, (by show 2 ≤ sizeLine; decide), fun L nL => ?_⟩
      exact q L _ _ (same_new nL _) nL upd_same (.cons (h0.mono (Same.tups (same_new nL _))) (.cons (h1.mono (Same.tups (same_new nL _))) .nil))
    | mark x b =>
      rw [show decide (V.str (tagOf (.mark x b)) = V.str tPair) = false from tag_ne n5.symm]
      refine iteF ⟨_, rfl, p, _, 0, _, rfl, rfl, .inl (.inl e1), at_0 _ _, rfl, _, rfl, ?_⟩
      rw [show decide (V.str (tagOf (.mark x b)) = V.str tMark) = true from tag_eq _]
      cases hk with
      | @cons _ y0 _ vr h0 hk2 =>
      cases hk2 with
      | @cons _ z0 _ vr2 h1 hk3 =>
      cases hk3
      refine iteT ⟨_, rfl, p, _, 2, _, rfl, rfl, .inl (.inl e1), at_2 _ _ _ _, (by show 1 ≤ sizeLine; decide), fun L nL => ?_⟩
      exact q L _ _ (same_new nL _) nL upd_same (.cons (h1.mono (Same.tups (same_new nL _))) .nil)
    | box k a =>
      rw [show decide (V.str (tagOf (.box k a)) = V.str tPair) = false from tag_ne n1.symm]
      refine iteF ⟨_, rfl, p, _, 0, _, rfl, rfl, .inl (.inl e1), at_0 _ _, rfl, _, rfl, ?_⟩
      rw [show decide (V.str (tagOf (.box k a)) = V.str tMark) = false from tag_ne n7]
      refine iteF ⟨_, rfl, p, _, 0, _, rfl, rfl, .inl (.inl e1), at_0 _ _, (by show 2 ≤ sizeLine; decide), fun TT nT => ⟨TT, _, rfl, .inr (.inl (.inl upd_same)), rfl, rfl, _, rfl, ?_⟩⟩
      rw [inBS]
      simp only [tagOf, decide_true, Bool.true_or, Bool.false_eq_true, if_true, if_false]
      cases hk with
      | @cons _ y0 _ vr h0 hk2 =>
      cases hk2 with
      | @cons _ z0 _ vr2 h1 hk3 =>
      cases hk3
      have s1 := same_new nT (.tup [V.str tBox, .str tShut])
      have hkd : k.depth ≤ 4 := by simp only [Tm.depth] at h4; omega
      have hrk := Tm.rank_le k
      refine ⟨_, rfl, _, rfl, p, _, 1, _, rfl, rfl, .inl (.inl (s1 _ _ e1)), at_1 _ _ _, d, kvs, y0, k, rfl, hD.same s1, h0.mono (Same.tups s1), by omega, by simp only [Tm.depth] at h4; omega, fun H2 s2 => ⟨_, rfl, ?_⟩⟩
      exact keyed k a y0 z0 rfl h0 h1 hkd rfl H2 (s1.trans s2) _ rfl
    | shut x a =>
      rw [show decide (V.str (tagOf (.shut x a)) = V.str tPair) = false from tag_ne n4.symm]
      refine iteF ⟨_, rfl, p, _, 0, _, rfl, rfl, .inl (.inl e1), at_0 _ _, rfl, _, rfl, ?_⟩
      rw [show decide (V.str (tagOf (.shut x a)) = V.str tMark) = false from tag_ne n2]
      refine iteF ⟨_, rfl, p, _, 0, _, rfl, rfl, .inl (.inl e1), at_0 _ _, (by show 2 ≤ sizeLine; decide), fun TT nT => ⟨TT, _, rfl, .inr (.inl (.inl upd_same)), rfl, rfl, _, rfl, ?_⟩⟩
      rw [inBS]
      simp only [tagOf, decide_true, Bool.or_true, Bool.false_eq_true, if_true, if_false]
      cases hk with
      | @cons _ y0 _ vr h0 hk2 =>
      cases hk2 with
      | @cons _ z0 _ vr2 h1 hk3 =>
      cases hk3
      have s1 := same_new nT (.tup [V.str tBox, .str tShut])
      refine ⟨_, rfl, _, rfl, p, _, 1, _, rfl, rfl, .inl (.inl (s1 _ _ e1)), at_1 _ _ _, d, kvs, y0, .nm x, rfl, hD.same s1, h0, by simp [Tm.depth], by simp [Tm.rank], fun H2 s2 => ⟨_, rfl, ?_⟩⟩
      exact keyed (.nm x) a y0 z0 rfl h0 h1 (by simp [Tm.depth]) rfl H2 (s1.trans s2) _ rfl
    | half x =>
      rw [show decide (V.str (tagOf (.half x)) = V.str tPair) = false from tag_ne n8.symm]
      refine iteF ⟨_, rfl, p, _, 0, _, rfl, rfl, .inl (.inl e1), at_0 _ _, rfl, _, rfl, ?_⟩
      rw [show decide (V.str (tagOf (.half x)) = V.str tMark) = false from tag_ne n14.symm]
      refine iteF ⟨_, rfl, p, _, 0, _, rfl, rfl, .inl (.inl e1), at_0 _ _, (by show 2 ≤ sizeLine; decide), fun TT nT => ⟨TT, _, rfl, .inr (.inl (.inl upd_same)), rfl, rfl, _, rfl, ?_⟩⟩
      rw [inBS, show (decide (tagOf (.half x) = tBox) || decide (tagOf (.half x) = tShut)) = false by
        simp only [tagOf, decide_eq_false n10.symm, decide_eq_false n12.symm]; rfl]
      exact iteF (iteF (last _ (same_new nT _) rfl))
    | mix b =>
      rw [show decide (V.str (tagOf (.mix b)) = V.str tPair) = false from tag_ne n9.symm]
      refine iteF ⟨_, rfl, p, _, 0, _, rfl, rfl, .inl (.inl e1), at_0 _ _, rfl, _, rfl, ?_⟩
      rw [show decide (V.str (tagOf (.mix b)) = V.str tMark) = false from tag_ne n15.symm]
      refine iteF ⟨_, rfl, p, _, 0, _, rfl, rfl, .inl (.inl e1), at_0 _ _, (by show 2 ≤ sizeLine; decide), fun TT nT => ⟨TT, _, rfl, .inr (.inl (.inl upd_same)), rfl, rfl, _, rfl, ?_⟩⟩
      rw [inBS, show (decide (tagOf (.mix b) = tBox) || decide (tagOf (.mix b) = tShut)) = false by
        simp only [tagOf, decide_eq_false n11.symm, decide_eq_false n13.symm]; rfl]
      exact iteF (iteF (last _ (same_new nT _) rfl))
end
end K12

set_option Elab.async false
set_option linter.all false
set_option maxRecDepth 100000
set_option maxHeartbeats 4000000
namespace K12
open PySem PySem.Spec L2

/-- what holds of the dict that grows to the least closed set: H the heap at the entry -/
structure Found (w : World) (row : List Tm) (d : Addr) (H H' : Hp) (kvs : List TEnt) : Prop where
  same : Same H H'
  new : H d = none
  at_ : H' d = some (hoT w d kvs)
  ent : EntAt H' kvs
  nod : (tms kvs).Nodup
  inC : ∀ t ∈ tms kvs, InC row t
theorem Found.few {w : World} {row : List Tm} {d : Addr} {H H' : Hp} {kvs : List TEnt} (h : Found w row d H H' kvs) (hs : Smalls row) (h4 : row.length ≤ 4) : kvs.length ≤ 60 := by
  have h1 := nodup_le h.nod (all := row.flatMap Tm.parts) fun t ht => by
    obtain ⟨r, hr, hp⟩ := Lc.part (h.inC t ht) rfl
    exact List.mem_flatMap.mpr ⟨r, hr, hp⟩
  have h2 : ∀ l : List Tm, (∀ t ∈ l, t.depth ≤ 4) → (l.flatMap Tm.parts).length ≤ 15 * l.length := by
    intro l
    induction l with
    | nil => intro _; simp
    | cons t l ih =>
      intro hl
      have e1 := ih fun u hu => hl u (by simp [hu])
      have e2 := Tm.size4 (hl t (by simp))
      rw [List.flatMap_cons, List.length_append, Tm.parts_length, List.length_cons]
      omega
  have h3 := h2 row fun t ht => (hs t ht).2
  simp only [tms, List.length_map] at h1
  omega
theorem Found.td {w : World} {row : List Tm} {d : Addr} {H H' : Hp} {kvs : List TEnt} (h : Found w row d H H' kvs) : TD w H' d kvs := h.ent.td h.at_
theorem Found.later {w : World} {row : List Tm} {d : Addr} {H H1 H2 : Hp} {kvs : List TEnt} (h : Found w row d H H1 kvs) (s : Same H1 H2) : Found w row d H H2 kvs :=
  ⟨h.same.trans s, h.new, s _ _ h.at_, h.ent.mono (Same.tups s), h.nod, h.inC⟩
theorem hoT_tup {w : World} {d : Addr} {kvs : List TEnt} : ∀ xs, hoT w d kvs ≠ .tup xs := fun _ z => nomatch z
theorem Tups.updT {w : World} {H : Hp} {d : Addr} {kvs : List TEnt} {o : HO} (h : H d = some (hoT w d kvs)) : Tups H (L2.upd H d o) := (show KeepX d H (L2.upd H d o) from KeepX.upd).tups_of h hoT_tup
/-- one more term -/
theorem Found.put {w : World} {row : List Tm} {d : Addr} {H H' : Hp} {kvs : List TEnt} (h : Found w row d H H' kvs) {t : Tm} {y : V} (ht : TmAt H' t y) (g : Good t) (h4 : t.depth ≤ 4) (hc : InC row t) : Found w row d H (upd H' d (hoT w d (putT kvs t y))) (putT kvs t y) := by
  have tu := Tups.updT (o := hoT w d (putT kvs t y)) h.at_
  refine ⟨Same.upd h.same h.new, h.new, upd_same, fun p hp => ?_, ?_, fun u hu => ?_⟩
  · unfold putT at hp
    split at hp
    · exact h.ent.mono tu p hp
    · rcases List.mem_append.mp hp with hp | hp
      · exact h.ent.mono tu p hp
      · obtain rfl := List.mem_singleton.mp hp
        exact ⟨ht.mono tu, g, h4⟩
  · rw [tms_putT]
    exact addT_nodup h.nod t
  · rw [tms_putT, mem_addT] at hu
    rcases hu with hu | rfl
    · exact h.inC u hu
    · exact hc
theorem putT_grow (kvs : List TEnt) (t : Tm) (y : V) : ∃ ex, putT kvs t y = kvs ++ ex := by
  unfold putT
  split
  · exact ⟨[], by simp⟩
  · exact ⟨_, rfl⟩
theorem mem_putT {kvs : List TEnt} {t u : Tm} {y : V} : u ∈ tms (putT kvs t y) ↔ u ∈ tms kvs ∨ u = t := by rw [tms_putT, mem_addT]
theorem tms_append (a b : List TEnt) : tms (a ++ b) = tms a ++ tms b := by simp [tms]
theorem good_kid {t u : Tm} {kp : Tm → Prop} (g : Good t) (h4 : t.depth ≤ 4) (o : OpensTo kp t u) : Good u ∧ u.depth ≤ 4 := ⟨kid_good g o.kid, by have := kid_depth o.kid; omega⟩
/-- nothing more is opened -/
def ClosedT (kvs : List TEnt) : Prop := ∀ t ∈ tms kvs, ∀ u, OpensTo (fun k => builtB (inK kvs) k = true) t u → u ∈ tms kvs
theorem builtB_mono {S S' : Tm → Bool} (h : ∀ t, S t = true → S' t = true) : ∀ {t : Tm}, builtB S t = true → builtB S' t = true := by
  intro t
  induction t with
  | nm x => exact fun q => h _ q
  | pair a b iha ihb =>
    intro q
    simp only [builtB, Bool.or_eq_true, Bool.and_eq_true] at q ⊢
    exact q.imp (h _) fun q => ⟨iha q.1, ihb q.2⟩
  | box a b iha ihb =>
    intro q
    simp only [builtB, Bool.or_eq_true, Bool.and_eq_true] at q ⊢
    exact q.imp (h _) fun q => ⟨iha q.1, ihb q.2⟩
  | half x =>
    intro q
    simp only [builtB, Bool.or_eq_true] at q ⊢
    exact q.imp (h _) (h _)
  | shut x t ih =>
    intro q
    simp only [builtB, Bool.or_eq_true, Bool.and_eq_true] at q ⊢
    exact q.imp (h _) fun q => ⟨q.1.imp (h _) (h _), ih q.2⟩
  | mark x t ih =>
    intro q
    simp only [builtB, Bool.or_eq_true, Bool.and_eq_true] at q ⊢
    exact q.imp (h _) fun q => ⟨h _ q.1, ih q.2⟩
  | mix t ih =>
    intro q
    simp only [builtB, Bool.or_eq_true] at q ⊢
    exact q.imp (h _) ih
theorem inK_true {kvs : List TEnt} {t : Tm} : inK kvs t = true ↔ t ∈ tms kvs := by simp [inK]
theorem Found.opens {w : World} {row : List Tm} {d : Addr} {H H' : Hp} {kvs : List TEnt} (h : Found w row d H H' kvs) {t u : Tm} (ht : t ∈ tms kvs) (hu : u ∈ opensL (builtB (inK kvs)) t) : InC row u := by
  rw [mem_opensL (kp := fun k => builtB (inK kvs) k = true) (fun _ => Iff.rfl)] at hu
  exact InC.opens (h.inC t ht) (hu.mono fun k _ hk => bd_of_built (fun t q => h.inC t (inK_true.mp q)) hk)
def spLeastClosed (K : PySem.W.Frag) (w : World) : Sp := fun vs H Q _ => ∃ (T : Addr) (xs : List V) (row : List Tm), vs = [.ref T] ∧ H T = some (.tup xs) ∧ TmsAt H row xs ∧ Smalls row ∧ row.length ≤ 4 ∧
  ∀ (d : Addr) (H' : Hp) (kvs : List TEnt), Found w row d H H' kvs → (∀ t, t ∈ tms kvs ↔ InC row t) → kvs.length ≤ 60 → Q (.ref d) H'
def spCanMake : Sp := fun vs H Q _ => ∃ (a : Addr) (v : V) (xs : List V) (row : List Tm) (t : Tm), vs = [.ref a, v] ∧ H a = some (.lst xs) ∧ TmsAt H row xs ∧ Smalls row ∧ row.length ≤ 4 ∧ TmAt H t v ∧ Good t ∧ t.depth ≤ 4 ∧
  ∀ (b : Bool) (H' : Hp), Same H H' → (b = true ↔ Bd row t) → Q (.bl b) H'
def spOpened : Sp := fun vs H Q _ => ∃ (a : Addr) (xs : List V) (row : List Tm), vs = [.ref a] ∧ H a = some (.lst xs) ∧ TmsAt H row xs ∧ Smalls row ∧ row.length ≤ 4 ∧
  ∀ (r : Addr) (H' : Hp) (ts : List Tm) (rs : List V), Same H H' → H r = none → H' r = some (.lst rs) → TmsAt H' ts rs → (∀ t, t ∈ ts ↔ InC row t) → Q (.ref r) H'
section
variable {P : Program} {w : World} {K : PySem.W.Frag} {mg : Str → Option Value} {base : Heap} {f fO fG fC fL fB fW : Addr} {fd dO dG dC dL dB dW : FuncData}
theorem scLeastClosed : FnScope ["hearing", "term", "found", "many", "inner"] ["hearing"] (defScope sLeastClosed) := ⟨rfl, rfl, rfl, by decide +kernel, rfl, by decide +kernel, by decide +kernel⟩
theorem ok_leastclosed (D : Dn K mg "least_closed" sLeastClosed ["hearing"] f fd) (G : Glb K w mg) (Do : Dn K mg "openings" sOpenings ["found", "term"] fO dO) (Go : FnOk P w K mg base CX0 7 fO dO ["found", "term"] (spOpenings w)) :
    FnOk P w K mg base CX0 8 f fd ["hearing"] (spLeastClosed K w) := by
  refine D.F.ok scLeastClosed (fun vs H Q E h => ?_) (fun cdv A outer s H vs Q E hr h => ?_)
  · obtain ⟨T, xs, row, rfl, _⟩ := h
    rfl
  obtain ⟨T, xs, row, rfl, hT, hts, hsm, h4, q⟩ := h
  have hu : (A.deeper (PyProof.Rows.envOfC "least_closed" (defScope sLeastClosed) s.heap.objs.size f cdv)).units + 9 < cLine := by have := hr.un; omega
  have hz := sizeLine_eq
  have hxl := Paired.length hts
  refine ⟨_, (pss_cons (ps_setDcT (i := 2) (own := [("term", 1)]) hu rfl scLeastClosed.nd rfl rfl (sw_dict rfl rfl rfl (by decide +kernel)) (pi_tup (pv 0)) (blkOk_by (own := [("term", 1)]) (N := ["hearing", "term", "found", "many", "inner"]) (sc := defScope sLeastClosed) (by decide +kernel))
      (fun _ _ _ _ _ => pg_name (i := 1) scLeastClosed.nd rfl (Or.inl rfl)) (fun _ _ _ _ _ => pv 1) (fun _ _ _ _ _ => pe_bl))
    (pss_cons (ps_set (i := 3) scLeastClosed.nd rfl (Or.inl rfl) (pe_un un_neg pe_int))
    (pss_cons (ps_while PassesOwn.never (pt_cmpR op_ne (pv 3) (pe_callB call_tlen (by rfl) G.len PySem.boot_len (pa_cons (pv 2) pa_nil)) (nomark _)) (pss_cons (ps_set (i := 3) scLeastClosed.nd rfl (Or.inl rfl) (pe_callB call_tlen (by rfl) G.len PySem.boot_len (pa_cons (pv 2) pa_nil)))
    (pss_one (ps_for PassesOwn.never rfl (pi_list (pe_callTy (call_tlist rfl) (by rfl) G.list (by decide +kernel) (pa_cons (pv 2) pa_nil))) (pg_name (i := 1) scLeastClosed.nd rfl (Or.inl rfl))
      (pss_one (ps_for PassesOwn.never rfl (pi_list (pe_call Go hr rfl Do.g Do.F.kp Do.b .nil pass0 (pa_cons (pv 2) (pa_cons (pv 1) pa_nil)))) (pg_name (i := 4) scLeastClosed.nd rfl (Or.inl rfl))
        (pss_one (ps_asg pe_bl (pg_sub (pv 2) (pv 4) (set_t hu))))))))))
    (pss_one (ps_ret (pv 2)))))), ?_⟩
  refine ⟨_, rfl, T, rfl, ⟨_, .inl (.inl hT)⟩, fun d nd => ?_⟩
  refine dcT_tup (K := K) (xs := xs) (fun i H' => ∃ kvs, Found w row d H H' kvs ∧ (∀ t, t ∈ tms kvs ↔ t ∈ row.take i) ∧ kvs.length ≤ i)
    ⟨[], ⟨same_new nd _, nd, upd_same, fun p hp => (nomatch hp), List.nodup_nil, fun t ht => (nomatch ht)⟩, fun t => by simp [tms], Nat.le_refl _⟩ (fun _ _ _ ⟨_, F, _⟩ => .inl (.inl (F.same _ _ hT))) (fun i y Ha hi ⟨kvs, F, hm, hl⟩ => ?_) (fun Ha ⟨kvs, F, hm, hl⟩ => ?_)
  · obtain ⟨t, ht, hty⟩ := paired_at hts hi
    have htm := hsm t (List.mem_of_getElem? ht)
    have hil := (List.getElem?_eq_some_iff.mp hi).1
    have tHa := hty.mono (Same.tups F.same)
    refine ⟨rfl, _, rfl, kvs, t, rfl, F.at_, F.ent.deep, by omega, tHa, by omega, putT kvs t y, F.put tHa htm.1 htm.2 (.heard (List.mem_of_getElem? ht)), fun u => ?_, ?_⟩
    · rw [mem_putT, take_snoc ht, hm]
      simp
    · have := putT_len kvs t y
      omega
  · rw [← hxl, List.take_length] at hm
    refine ⟨1, rfl, ?_⟩
    -- the while
    refine ⟨fun m σ H' => ∃ (kvs : List TEnt) (z : Int) (c e : Option V), σ = [some (.ref T), c, some (.ref d), some (.int z), e] ∧ Found w row d H H' kvs ∧ (∀ t ∈ row, t ∈ tms kvs) ∧ (z = kvs.length → ClosedT kvs) ∧ m = 2 * (100 - kvs.length) + (if z = kvs.length then 0 else 1),
      ⟨_, kvs, -1, none, none, rfl, F, fun t ht => (hm t).mpr ht, fun e => by omega, rfl⟩, ?_⟩
    rintro m σ Hb ⟨kvs, z, c, e, rfl, F, hrow, hcl, em⟩
    have hfew := F.few hsm h4
    refine ⟨_, rfl, _, rfl, d, kvs, rfl, F.td, rfl, _, rfl, ?_⟩
    refine ite2 (fun c1 => ?_) (fun c1 => ?_)
    · have hne : ¬ z = (kvs.length : Int) := fun e => by
        have c1 : (!decide (V.int z = V.int (kvs.length : Int))) = true := c1
        rw [e] at c1
        simp at c1
      refine ⟨fun σ' H' => ∃ (kvs' : List TEnt) (c e : Option V), σ' = [some (.ref T), c, some (.ref d), some (.int kvs.length), e] ∧ Found w row d H H' kvs' ∧ (∃ ex, kvs' = kvs ++ ex) ∧ (∀ t ∈ tms kvs, ∀ u, OpensTo (fun k => builtB (inK kvs) k = true) t u → u ∈ tms kvs'), ?_, ?_⟩
      · rintro σ' H' ⟨kvs', c', e', rfl, F', ⟨ex, hex⟩, hop⟩
        have hfew' := F'.few hsm h4
        have hlen : kvs.length ≤ kvs'.length := by rw [hex, List.length_append]; omega
        refine ⟨_, ?_, kvs', kvs.length, c', e', rfl, F', fun t ht => ?_, fun hc => ?_, rfl⟩
        · rw [em, if_neg hne]
          by_cases hc : ((kvs.length : Nat) : Int) = (kvs'.length : Int)
          · rw [if_pos hc]; omega
          · rw [if_neg hc]; omega
        · rw [hex, tms_append]
          exact List.mem_append_left _ (hrow t ht)
        · have hx : ex = [] := by
            rw [hex, List.length_append] at hc
            exact List.length_eq_zero_iff.mp (by omega)
          rw [hx, List.append_nil] at hex
          subst hex
          exact hop
      · refine ⟨_, rfl, d, kvs, rfl, F.td, ?_⟩
        refine ⟨_, rfl, d, kvs, rfl, F.td, fun L nL => ?_⟩
        have sL := same_new nL (.lst (kvs.map (·.2)))
        have nLd : L ≠ d := fun e => by rw [e, F.at_] at nL; cases nL
        refine ⟨L, rfl, ⟨_, SqL.of upd_same⟩, for_it walk_list (fun i σ H' => ∃ (kvs' : List TEnt) (c e : Option V), σ = [some (.ref T), c, some (.ref d), some (.int kvs.length), e] ∧ H' L = some (.lst (kvs.map (·.2))) ∧ Found w row d H H' kvs' ∧ (∃ ex, kvs' = kvs ++ ex) ∧ (∀ t ∈ (tms kvs).take i, ∀ u, OpensTo (fun k => builtB (inK kvs) k = true) t u → u ∈ tms kvs'))
          ⟨kvs, _, _, rfl, upd_same, F.later sL, ⟨[], by simp⟩, fun t ht => (nomatch ht)⟩ (fun _ _ _ _ ⟨_, _, _, _, h, _⟩ => SqL.of h) (fun i y σ Hc Hd hi ⟨kvs', c', e', es, eL, F', ⟨ex, hex⟩, hop⟩ ⟨ed, hy⟩ => ?_) (fun σ Hc ⟨kvs', c', e', es, eL, F', hex, hop⟩ => ?_)⟩
        · subst ed es
          rw [List.getElem?_map] at hy
          cases hki : kvs[i]? with
          | none => rw [hki] at hy; cases hy
          | some p =>
            rw [hki] at hy
            obtain rfl : p.2 = y := Option.some.inj hy
            have hpm : p ∈ kvs' := by rw [hex]; exact List.mem_append_left _ (List.mem_of_getElem? hki)
            have hpt : p.1 ∈ tms kvs' := List.mem_map.mpr ⟨p, hpm, rfl⟩
            obtain ⟨ht, hg, hd4⟩ := F'.ent p hpm
            refine ⟨_, rfl, _, rfl, d, kvs', p.2, p.1, rfl, F'.td, ht, hd4, fun R He rs se nR eR hrs => ?_⟩
            have nRd : R ≠ d := fun e => by rw [e, F'.at_] at nR; cases nR
            have nRL : R ≠ L := fun e => by rw [e, eL] at nR; cases nR
            refine ⟨R, rfl, ⟨_, SqL.of eR⟩, for_it walk_list (fun j σ H' => ∃ (kvs2 : List TEnt) (e : Option V), σ = [some (.ref T), some p.2, some (.ref d), some (.int kvs.length), e] ∧ H' L = some (.lst (kvs.map (·.2))) ∧ H' R = some (.lst rs) ∧ TmsAt H' (opensL (builtB (inK kvs')) p.1) rs ∧ Found w row d H H' kvs2 ∧ (∃ ex, kvs2 = kvs' ++ ex) ∧ (∀ u ∈ (opensL (builtB (inK kvs')) p.1).take j, u ∈ tms kvs2))
              ⟨kvs', _, rfl, se _ _ eL, eR, hrs, F'.later se, ⟨[], by simp⟩, fun u hu => (nomatch hu)⟩ (fun _ _ _ _ ⟨_, _, _, _, h, _⟩ => SqL.of h) (fun j y σ Hf Hg hj ⟨kvs2, e2, es, eL2, eR2, hrs2, F2, ⟨ex2, hex2⟩, hin⟩ ⟨eg, hy2⟩ => ?_) (fun σ Hf ⟨kvs2, e2, es, eL2, eR2, hrs2, F2, ⟨ex2, hex2⟩, hin⟩ => ?_)⟩
            · subst eg es
              obtain ⟨u, hu2, huy⟩ := paired_at hrs2 hy2
              have hum := List.mem_of_getElem? hu2
              have huo := hum
              rw [mem_opensL (kp := fun k => builtB (inK kvs') k = true) (fun _ => Iff.rfl)] at huo
              obtain ⟨gu, du⟩ := good_kid hg hd4 huo
              have hcu := F'.opens hpt hum
              have hf2 := F2.few hsm h4
              refine ⟨_, rfl, _, rfl, d, kvs2, u, rfl, rfl, F2.at_, F2.ent.deep, by omega, huy, by omega, ?_⟩
              refine ⟨putT kvs2 u y, _, rfl, by rw [upd_ne nLd]; exact eL2, by rw [upd_ne nRd]; exact eR2, hrs2.mono (Tups.updT F2.at_), F2.put huy gu du hcu, ?_, fun z hz' => ?_⟩
              · obtain ⟨ex3, h3⟩ := putT_grow kvs2 u y
                exact ⟨ex2 ++ ex3, by rw [h3, hex2, List.append_assoc]⟩
              · rw [take_snoc hu2] at hz'
                rw [mem_putT]
                rcases List.mem_append.mp hz' with h | h
                · exact .inl (hin z h)
                · exact .inr (List.mem_singleton.mp h)
            · subst es
              have hfull : (opensL (builtB (inK kvs')) p.1).take rs.length = opensL (builtB (inK kvs')) p.1 := List.take_of_length_le (by rw [Paired.length hrs]; exact Nat.le_refl _)
              rw [hfull] at hin
              refine ⟨kvs2, _, _, rfl, eL2, F2, ⟨ex ++ ex2, by rw [hex2, hex, List.append_assoc]⟩, fun t ht u ho => ?_⟩
              have hti : (tms kvs)[i]? = some p.1 := by rw [List.getElem?_map, hki]; rfl
              rw [take_snoc hti] at ht
              rcases List.mem_append.mp ht with ht | ht
              · rw [hex2, tms_append]
                exact List.mem_append_left _ (hop t ht u ho)
              · obtain rfl := List.mem_singleton.mp ht
                refine hin u ?_
                rw [mem_opensL (kp := fun k => builtB (inK kvs') k = true) (fun _ => Iff.rfl)]
                refine ho.mono fun k _ hk => builtB_mono (fun t q => ?_) hk
                rw [inK_true] at q ⊢
                rw [hex, tms_append]
                exact List.mem_append_left _ q
        · subst es
          refine ⟨kvs', _, _, rfl, F', hex, ?_⟩
          rw [List.take_of_length_le (by simp [tms])] at hop
          exact hop
    · have he : z = (kvs.length : Int) := by
        have c1 : ¬ (!decide (V.int z = V.int (kvs.length : Int))) = true := c1
        by_cases e : z = (kvs.length : Int)
        · exact e
        · exact absurd (by rw [decide_eq_false fun h => e (V.int.inj h)]; rfl) c1
      refine ⟨_, rfl, q d Hb kvs F (fun t => ⟨F.inC t, fun h => ?_⟩) hfew⟩
      refine inK_true.mp ((Lc.inside (S := inK kvs) (fun t ht => inK_true.mpr (hrow t ht)) (fun t u hs ho => inK_true.mpr (hcl he t (inK_true.mp hs) u ho)) h).1 rfl)
end
end K12

set_option Elab.async false
set_option linter.all false
set_option maxRecDepth 100000
set_option maxHeartbeats 4000000
namespace K12
open PySem PySem.Spec L2

section
variable {P : Program} {w : World} {K : PySem.W.Frag} {mg : Str → Option Value} {base : Heap} {f fG fC fL fB fW : Addr} {fd dG dC dL dB dW : FuncData}
theorem scCanMake : FnScope ["hearing", "term", "row"] ["hearing", "term"] (defScope sCanMake) := ⟨rfl, rfl, rfl, by decide +kernel, rfl, by decide +kernel, by decide +kernel⟩
theorem scOpened : FnScope ["hearing"] ["hearing"] (defScope sOpened) := ⟨rfl, rfl, rfl, by decide +kernel, rfl, by decide +kernel, by decide +kernel⟩
theorem ok_canmake (D : Dn K mg "can_make" sCanMake ["hearing", "term"] f fd) (G : Glb K w mg)
    (Dg : Dn K mg "good_hearing" sGoodHearing ["hearing"] fG dG) (Gg : FnOk P w K mg base CX0 9 fG dG ["hearing"] spGoodHearing)
    (Dc : Dn K mg "check_term" sCheckTerm ["term"] fC dC) (Gc : FnOk P w K mg base CX0 9 fC dC ["term"] spCheckTerm)
    (Dl : Dn K mg "least_closed" sLeastClosed ["hearing"] fL dL) (Gl : FnOk P w K mg base CX0 8 fL dL ["hearing"] (spLeastClosed K w))
    (Db : Dn K mg "is_built" sIsBuilt ["found", "term"] fB dB) (Gb : FnOk P w K mg base CX0 6 fB dB ["found", "term"] (spBuilt w 5)) :
    FnOk P w K mg base CX0 10 f fd ["hearing", "term"] spCanMake := by
  refine D.F.ok scCanMake (fun vs H Q E h => ?_) (fun cdv A outer s H vs Q E hr h => ?_)
  · obtain ⟨a, v, xs, row, t, rfl, _⟩ := h
    rfl
  obtain ⟨a, v, xs, row, t, rfl, ha, hts, hsm, h4, htv, g, d4, q⟩ := h
  have hr9 : Room 9 _ := hr.mono (by omega)
  have hr8 : Room 8 _ := hr.mono (by omega)
  have hr6 : Room 6 _ := hr.mono (by omega)
  refine ⟨_, (pss_cons (ps_set (i := 2) scCanMake.nd rfl (Or.inl rfl) (pe_call Gg hr9 rfl Dg.g Dg.F.kp Dg.b .nil pass0 (pa_cons (pv 0) pa_nil)))
    (pss_cons (ps_expr (pe_call Gc hr9 rfl Dc.g Dc.F.kp Dc.b .nil pass0 (pa_cons (pv 1) pa_nil)))
    (pss_one (ps_ret (pe_call Gb hr6 rfl Db.g Db.F.kp Db.b .nil pass0 (pa_cons (pe_call Gl hr8 rfl Dl.g Dl.F.kp Dl.b .nil pass0 (pa_cons (pv 2) pa_nil)) (pa_cons (pv 1) pa_nil))))))), ?_⟩
  refine ⟨_, rfl, a, xs, row, rfl, ha, hts, hsm, by omega, fun T H1 s1 eT => ?_⟩
  refine ⟨_, rfl, v, t, rfl, htv.mono (Same.tups s1), g, d4, fun H2 s2 => ?_⟩
  have s12 := s1.trans s2
  refine ⟨_, rfl, T, xs, row, rfl, s2 _ _ eT, hts.mono (Same.tups s12), hsm, h4, fun d H3 kvs F hin _ => ?_⟩
  have s13 := s12.trans F.same
  have hrk := Tm.rank_le t
  refine ⟨_, rfl, d, kvs, v, t, rfl, F.td, htv.mono (Same.tups s13), by omega, by omega, fun H4 s4 => q _ H4 (s13.trans s4) ?_⟩
  exact built_iff (S := inK kvs) (fun u => inK_true.trans (hin u)) t
theorem ok_opened (D : Dn K mg "opened" sOpened ["hearing"] f fd) (G : Glb K w mg)
    (Dg : Dn K mg "good_hearing" sGoodHearing ["hearing"] fG dG) (Gg : FnOk P w K mg base CX0 9 fG dG ["hearing"] spGoodHearing)
    (Dl : Dn K mg "least_closed" sLeastClosed ["hearing"] fL dL) (Gl : FnOk P w K mg base CX0 8 fL dL ["hearing"] (spLeastClosed K w))
    (Dw : Dn K mg "by_wordings" sByWordings ["terms"] fW dW) (Gw : FnOk P w K mg base CX0 5 fW dW ["terms"] (spByWordings w)) :
    FnOk P w K mg base CX0 10 f fd ["hearing"] spOpened := by
  refine D.F.ok scOpened (fun vs H Q E h => ?_) (fun cdv A outer s H vs Q E hr h => ?_)
  · obtain ⟨a, xs, row, rfl, _⟩ := h
    rfl
  obtain ⟨a, xs, row, rfl, ha, hts, hsm, h4, q⟩ := h
  have hr9 : Room 9 _ := hr.mono (by omega)
  have hr8 : Room 8 _ := hr.mono (by omega)
  have hr5 : Room 5 _ := hr.mono (by omega)
  refine ⟨_, (pss_one (ps_ret (pe_call Gw hr5 rfl Dw.g Dw.F.kp Dw.b .nil pass0 (pa_cons (pe_call Gl hr8 rfl Dl.g Dl.F.kp Dl.b .nil pass0 (pa_cons (pe_call Gg hr9 rfl Dg.g Dg.F.kp Dg.b .nil pass0 (pa_cons (pv 0) pa_nil)) pa_nil)) pa_nil)))), ?_⟩
  refine ⟨_, rfl, a, xs, row, rfl, ha, hts, hsm, by omega, fun T H1 s1 eT => ?_⟩
  refine ⟨T, xs, row, rfl, eT, hts.mono (Same.tups s1), hsm, h4, fun d H3 kvs F hin hfew => ?_⟩
  have s13 := s1.trans F.same
  refine ⟨d, kvs, rfl, F.at_, F.ent, F.nod, by omega, fun r H4 ts rs s4 nR eR hrs hiff => ?_⟩
  exact q r H4 ts rs (s13.trans s4) (s13.free nR) eR hrs fun t => (hiff t).trans (hin t)
end
end K12

set_option Elab.async false
set_option linter.all false
set_option maxRecDepth 100000
set_option maxHeartbeats 4000000
namespace K12
open PySem PySem.Spec L2

def spLPieces : Sp := fun vs H Q _ => ∃ (v : V) (t : Tm), vs = [v] ∧ TmAt H t v ∧ t.isNm = false ∧ ∀ (L : Addr) (H' : Hp) (ys : List V), Same H H' → H L = none → H' L = some (.lst ys) → TmsAt H' t.pieces ys → Q (.ref L) H'
def spOpens (w : World) : Sp := fun vs H Q _ => ∃ (d : Addr) (kvs : List TEnt) (v : V) (t : Tm), vs = [.ref d, v] ∧ TD w H d kvs ∧ TmAt H t v ∧ t.depth ≤ 4 ∧
  ∀ (L : Addr) (H' : Hp) (rs : List V), Same H H' → H L = none → H' L = some (.lst rs) → TmsAt H' (opensL (inK kvs) t) rs → Q (.ref L) H'
def spParts (n : Nat) : Sp := fun vs H Q _ => ∃ (v : V) (t : Tm), vs = [v] ∧ TmAt H t v ∧ Good t ∧ t.depth ≤ n ∧ t.depth ≤ 4 ∧
  ∀ (L : Addr) (H' : Hp) (ts : List Tm) (ys : List V), Same H H' → H L = none → H' L = some (.lst ys) → TmsAt H' ts ys → (∀ u, u ∈ ts ↔ u ∈ t.parts) → ts.Nodup → Q (.ref L) H'
theorem part_good {t u : Tm} (g : Good t) (h : u ∈ t.parts) : Good u := fun x hx => g x (Tm.part_names h x hx)
theorem parts_small {t : Tm} (g : Good t) (h : t.depth ≤ 4) {ts : List Tm} (hm : ∀ u, u ∈ ts ↔ u ∈ t.parts) : Smalls ts := fun u hu => ⟨part_good g ((hm u).mp hu), Nat.le_trans (Tm.part_depth ((hm u).mp hu)) h⟩
theorem parts_few {t : Tm} (h : t.depth ≤ 4) {ts : List Tm} (hm : ∀ u, u ∈ ts ↔ u ∈ t.parts) (hn : ts.Nodup) : ts.length ≤ 15 := by
  have h1 := nodup_le hn fun u hu => (hm u).mp hu
  have h2 := Tm.size4 h
  rw [Tm.parts_length] at h1
  omega
theorem Smalls.deep {ts : List Tm} (h : Smalls ts) : ∀ t ∈ ts, Good t ∧ t.depth ≤ 9 := fun t ht => ⟨(h t ht).1, by have := (h t ht).2; omega⟩
theorem filter_snoc {α : Type} {l : List α} {j : Nat} {a : α} (h : l[j]? = some a) (p : α → Bool) : (l.take (j + 1)).filter p = (l.take j).filter p ++ if p a then [a] else [] := by
  rw [take_snoc h, List.filter_append]
  cases e : p a <;> simp [e]
/-- what is not in a list of terms -/
def lack (ms : List Tm) (ts : List Tm) : List Tm := ts.filter fun t => !decide (t ∈ ms)
/-- [t for t in L if t not in M] -/
theorem lack_it {K : PySem.W.Frag} {i j : Nat} {vs : List Nat} {σ : St} {H1 : Hp} {D L M : Addr} {ts ms : List Tm} {ys zs : List V} {Qd : Hp → Prop} (nD : H1 D = none) (eL : H1 L = some (.lst ys)) (eM : H1 M = some (.lst zs)) (hts : TmsAt H1 ts ys) (hms : TmsAt H1 ms zs)
    (gts : Smalls ts) (gms : Smalls ms) (hz : ys.length ≤ sizeLine) (hj : ∀ x, ((wipe σ vs).set i (some x))[j]? = some (some (.ref M))) (hi : ∀ x, ((wipe σ vs).set i (some x))[i]? = some (some x)) (hw : ∀ x, wipe ((wipe σ vs).set i (some x)) vs = wipe σ vs)
    (q : ∀ H' rs, Same H1 H' → H' D = some (.lst rs) → TmsAt H' (lack ms ts) rs → Qd H') :
    ∃ W : Nat → Nat → Hp → Prop, (∃ m, W 0 m (upd H1 D (.lst []))) ∧ ∀ n m H, W n m H →
      ((Itl K L).stop n H ∧ Qd H) ∨ ((Itl K L).go n H ∧ ∃ Nx : Hp → Prop, (∀ H', Nx H' → ∃ m', m' < m ∧ W (n + 1) m' H') ∧ ∀ x H', (Itl K L).yld n H x H' → gName i x (wipe σ vs) H' fun σ2 H2 => wipe σ2 vs = wipe σ vs ∧ tTest (tOp (rNotInD K) (tVar i) (tVar j)) σ2 H2 fun b H3 =>
        if b = true then tVar i σ2 H3 fun y H4 => ∃ acc, H4 D = some (.lst acc) ∧ acc.length < sizeLine ∧ Nx (upd H4 D (.lst (acc ++ [y]))) else Nx H3) := by
  have nLD : L ≠ D := ne_of_none eL nD
  refine lc_it walk_list (fun n H' => Same H1 H' ∧ ∃ rs, H' D = some (.lst rs) ∧ TmsAt H' (lack ms (ts.take n)) rs) ⟨same_new nD _, [], upd_same, .nil⟩ (fun _ _ _ h => SqL.of (h.1 _ _ eL)) (fun n x Ha Hb hn ⟨sa, rs, eD, hrs⟩ ⟨eb, hx⟩ => ?_) (fun Ha ⟨sa, rs, eD, hrs⟩ => ?_)
  · subst eb
    obtain ⟨t, ht, htx⟩ := paired_at hts hx
    have gt := gts t (List.mem_of_getElem? ht)
    refine ⟨hw x, _, hi x, _, hj x, data t, ms.map data, (htx.mono (Same.tups sa)).dp, .lst (SqL.of (sa _ _ eM)) ((hms.mono (Same.tups sa)).dp), data_shaped gt.1 (by have := gt.2; omega), datas_shaped gms.deep, _, rfl, ?_⟩
    rw [any_data]
    have e := filter_snoc ht fun t => !decide (t ∈ ms)
    refine ite2 (fun c => ?_) (fun c => ?_)
    · have c : (!decide (t ∈ ms)) = true := c
      rw [if_pos c] at e
      refine ⟨_, hi x, rs, eD, ?_, Same.upd sa nD, rs ++ [x], upd_same, ?_⟩
      · have h1 : rs.length = (lack ms (ts.take n)).length := (Paired.length hrs).symm
        have h2 := List.length_filter_le (fun t => !decide (t ∈ ms)) (ts.take n)
        have h3 := List.length_take_le n ts
        have h4 : (lack ms (ts.take n)).length ≤ (ts.take n).length := h2
        omega
      · show TmsAt _ ((ts.take (n + 1)).filter fun t => !decide (t ∈ ms)) _
        rw [e]
        exact Paired.snoc (hrs.mono (Tups.upd eD)) ((htx.mono (Same.tups sa)).mono (Tups.upd eD))
    · have c : ¬ (!decide (t ∈ ms)) = true := c
      rw [if_neg c, List.append_nil] at e
      refine ⟨sa, rs, eD, ?_⟩
      show TmsAt _ ((ts.take (n + 1)).filter fun t => !decide (t ∈ ms)) _
      rw [e]
      exact hrs
  · rw [← Paired.length hts, List.take_length] at hrs
    exact q Ha rs sa eD hrs
section
variable {P : Program} {w : World} {K : PySem.W.Frag} {mg : Str → Option Value} {base : Heap} {f fR fT fP fB : Addr} {fd dR dT dP dB : FuncData}
theorem scLPieces : FnScope ["_law_term_here"] ["_law_term_here"] (defScope sLPieces) := ⟨rfl, rfl, rfl, by decide +kernel, rfl, by decide +kernel, by decide +kernel⟩
theorem ok_lpieces (D : Dn K mg "_law_pieces" sLPieces ["_law_term_here"] f fd) (G : Glb K w mg) : FnOk P w K mg base CX0 1 f fd ["_law_term_here"] spLPieces := by
  refine D.F.ok scLPieces (fun vs H Q E h => ?_) (fun cdv A outer s H vs Q E hr h => ?_)
  · obtain ⟨v, t, rfl, _⟩ := h
    rfl
  obtain ⟨v, t, rfl, ht, c, q⟩ := h
  obtain ⟨n1, n2, n3, n4, n5, n6, n7, n8, n9, n10, n11, n12, n13, n14, n15⟩ := tags_ne
  refine ⟨_, (pss_cons (ps_if (pt_cmpR op_eq (pe_ix ix_tup (pv 0) pe_int (fun _ _ => rfl)) pe_str (nomark _)) (pss_one (ps_ret (pe_lst (pa_cons (pe_tup (pa_cons pe_str (pa_cons (pe_ix ix_tup (pv 0) pe_int (fun _ _ => rfl)) pa_nil))) (pa_cons (pe_ix ix_tup (pv 0) pe_int (fun _ _ => rfl)) pa_nil))))) pss_nil)
    (pss_one (ps_ret (pe_callTy call_list_of (by rfl) G.list (by decide +kernel) (pa_cons (pe_slice sl_tup (pv 0) (po_some pe_int) po_none) pa_nil))))), ?_⟩
  obtain ⟨p, vs, rfl, e1, hk⟩ := ht.node c
  refine ⟨_, rfl, p, _, 0, _, rfl, rfl, .inl (.inl e1), at_0 _ _, rfl, _, rfl, ?_⟩
  by_cases ec : tagOf t = tShut
  · rw [ec, show decide (V.str tShut = V.str ("shut" : Str)) = true from tag_eq _]
    cases t with
    | nm x => cases c
    | pair a b => exact absurd ec n4
    | box a b => exact absurd ec n6
    | half x => exact absurd ec n12.symm
    | mark x b => exact absurd ec n2.symm
    | mix b => exact absurd ec n13.symm
    | shut x b =>
      cases hk with
      | @cons _ y0 _ vr h0 hk2 =>
      cases hk2 with
      | @cons _ z0 _ vr2 h1 hk3 =>
      cases hk3
      refine iteT ⟨_, rfl, p, _, 1, _, rfl, rfl, .inl (.inl e1), at_1 _ _ _, (by show 2 ≤ sizeLine; decide), fun T1 nT1 => ?_⟩
      have s1 := same_new nT1 (.tup [V.str tHalf, y0])
      refine ⟨_, rfl, p, _, 2, _, rfl, rfl, .inl (.inl (s1 _ _ e1)), at_2 _ _ _ _, (by show 2 ≤ sizeLine; decide), fun T2 nT2 => ?_⟩
      have s2 := same_new nT2 (.lst [V.ref T1, z0])
      refine q T2 _ _ (s1.trans s2) (s1.free nT2) upd_same (.cons ⟨T1, rfl, ?_⟩ (.cons (h1.mono (Same.tups (s1.trans s2))) .nil))
      obtain rfl : y0 = .str x := h0
      exact s2 _ _ upd_same
  · rw [show decide (V.str (tagOf t) = V.str ("shut" : Str)) = false from tag_ne ec]
    have hp : t.pieces = t.kids := by
      cases t <;> first | rfl | exact absurd rfl ec
    refine iteF ⟨_, rfl, 1, rfl, p, _, rfl, .inl (.inl e1), not_whole _ _, fun T nT => ?_⟩
    rw [cut_tail]
    have s1 := same_new nT (.tup vs)
    refine ⟨T, vs, rfl, .inr (.inl (.inl upd_same)), fun L nL => ?_⟩
    have s2 := same_new nL (.lst vs)
    exact q L _ vs (s1.trans s2) (s1.free nL) upd_same (by rw [hp]; exact hk.mono (Same.tups (s1.trans s2)))
theorem scOpens : FnScope ["_law_made_here", "_law_term_here"] ["_law_made_here", "_law_term_here"] (defScope sOpens) := ⟨rfl, rfl, rfl, by decide +kernel, rfl, by decide +kernel, by decide +kernel⟩
theorem ok_opens (D : Dn K mg "_law_opens" sOpens ["_law_made_here", "_law_term_here"] f fd) (G : Glb K w mg) : FnOk P w K mg base CX0 1 f fd ["_law_made_here", "_law_term_here"] (spOpens w) := by
  refine D.F.ok scOpens (fun vs H Q E h => ?_) (fun cdv A outer s H vs Q E hr h => ?_)
  · obtain ⟨d, kvs, v, t, rfl, _⟩ := h
    rfl
  obtain ⟨d, kvs, v, t, rfl, hD, ht, h4, q⟩ := h
  obtain ⟨n1, n2, n3, n4, n5, n6, n7, n8, n9, n10, n11, n12, n13, n14, n15⟩ := tags_ne
  have hu : (A.deeper (PyProof.Rows.envOfC "_law_opens" (defScope sOpens) s.heap.objs.size f cdv)).units + 9 < cLine := by have := hr.un; omega
  refine ⟨_, (pss_cons (ps_if (pt_val (pe_callB call_isi (by rfl) G.isi (by decide +kernel) (pa_cons (pv 1) (pa_cons (pe_bltn (v := .ty "str") (u := .type "str") (by rfl) G.str (by decide +kernel) rfl) pa_nil)))) (pss_one (ps_ret (pe_lst pa_nil))) pss_nil)
    (pss_cons (ps_if (pt_cmpR op_eq (pe_ix ix_tup (pv 1) pe_int (fun _ _ => rfl)) pe_str (nomark _)) (pss_one (ps_ret (pe_lst (pa_cons (pe_ix ix_tup (pv 1) pe_int (fun _ _ => rfl)) (pa_cons (pe_ix ix_tup (pv 1) pe_int (fun _ _ => rfl)) pa_nil))))) pss_nil)
    (pss_cons (ps_if (PW.pt (pw_or (pt_cmpR op_eq (pe_ix ix_tup (pv 1) pe_int (fun _ _ => rfl)) pe_str (nomark _)) (pw_or1 (PW.pt (pw_and (pt_cmpR op_in_seq (pe_ix ix_tup (pv 1) pe_int (fun _ _ => rfl)) (pe_lst (pa_cons pe_str (pa_cons pe_str pa_nil))) (by rfl)) (pw_and1 (pt_val (pe_tget hu (pv 0) (pe_ix ix_tup (pv 1) pe_int (fun _ _ => rfl)) ⟨rfl, rfl, rfl, rfl⟩)))))))) (pss_one (ps_ret (pe_lst (pa_cons (pe_ix ix_tup (pv 1) pe_int (fun _ _ => rfl)) pa_nil)))) pss_nil)
    (pss_one (ps_ret (pe_lst pa_nil)))))), ?_⟩
  refine ⟨_, rfl, _, .ty "str", _, _, _, rfl, .ty _, ht.ty, isi_str _, _, rfl, ?_⟩
  cases c : t.isNm with
  | true =>
    obtain ⟨x, rfl, rfl⟩ := ht.name c
    exact iteT ⟨Nat.zero_le _, fun L nL => q L _ [] (same_new nL _) nL upd_same .nil⟩
  | false =>
    obtain ⟨p, vs, rfl, e1, hk⟩ := ht.node c
    have inBS : ∀ (z : Str), inV (.str z) [.str ("box" : Str), .str ("shut" : Str)] = (decide (z = tBox) || decide (z = tShut)) := fun z => by
      have bd : ∀ a b : Str, eqV (.str a) (.str b) = decide (b = a) := fun a b => by
        show (a == b) = decide (b = a)
        by_cases e : a = b
        · subst e; simp
        · rw [beq_eq_false_iff_ne.mpr e, decide_eq_false fun h => e h.symm]
      simp [inV, bd, tBox, tShut]
    -- none of the kinds
    have last : ∀ (H' : Hp), Same H H' → opensL (inK kvs) t = [] → tRet (tLst tNil) { nx := fun _ H' => Q .non H', rt := Q } (start ["_law_made_here", "_law_term_here"] [.ref d, .ref p]) H' := fun H' s' e =>
      ⟨Nat.zero_le _, fun L nL => q L _ [] (s'.trans (same_new nL _)) (s'.free nL) upd_same (by rw [e]; exact .nil)⟩
    have one : ∀ (a : Tm) (y0 ya : V) (H1 : Hp), vs = [y0, ya] → TmAt H a ya → opensL (inK kvs) t = [a] → Same H H1 → tRet (tLst (tCons (tOp (rIxT K) (tVar 1) (tC (.int 2))) tNil)) { nx := tRet (tLst tNil) { nx := fun _ H' => Q .non H', rt := Q }, rt := Q } (start ["_law_made_here", "_law_term_here"] [.ref d, .ref p]) H1 := fun a y0 ya H1 ev ha ho s1 => by
      subst ev
      refine ⟨_, rfl, p, _, 2, _, rfl, rfl, .inl (.inl (s1 _ _ e1)), at_2 _ _ _ _, (by show 1 ≤ sizeLine; decide), fun L nL => ?_⟩
      exact q L _ _ (s1.trans (same_new nL _)) (s1.free nL) upd_same (by rw [ho]; exact .cons (ha.mono (Same.tups (s1.trans (same_new nL _)))) .nil)
    have keyed : ∀ (k a : Tm) (yk ya : V), vs = [yk, ya] → TmAt H k yk → TmAt H a ya → k.depth ≤ 4 → opensL (inK kvs) t = (if inK kvs k then [a] else []) → ∀ H1, Same H H1 → ∀ bb : Bool, bb = inK kvs k →
        (if bb = true then tRet (tLst (tCons (tOp (rIxT K) (tVar 1) (tC (.int 2))) tNil)) { nx := tRet (tLst tNil) { nx := fun _ H' => Q .non H', rt := Q }, rt := Q } (start ["_law_made_here", "_law_term_here"] [.ref d, .ref p]) H1
         else tNext { nx := tRet (tLst tNil) { nx := fun _ H' => Q .non H', rt := Q }, rt := Q } (start ["_law_made_here", "_law_term_here"] [.ref d, .ref p]) H1) := fun k a yk ya ev hk ha hkd ho H1 s1 bb eb => by
      rw [← eb] at ho
      cases bb with
      | true => exact iteT (one a yk ya H1 ev ha ho s1)
      | false => exact iteF (last H1 s1 ho)
    refine iteF ⟨_, rfl, p, _, 0, _, rfl, rfl, .inl (.inl e1), at_0 _ _, rfl, _, rfl, ?_⟩
    cases t with
    | nm x => cases c
    | pair a b =>
      rw [show decide (V.str (tagOf (.pair a b)) = V.str ("pair" : Str)) = true from tag_eq _]
      cases hk with
      | @cons _ y0 _ vr h0 hk2 =>
      cases hk2 with
      | @cons _ z0 _ vr2 h1 hk3 =>
      cases hk3
      refine iteT ⟨_, rfl, p, _, 1, _, rfl, rfl, .inl (.inl e1), at_1 _ _ _, _, rfl, p, _, 2, _, rfl, rfl, .inl (.inl e1), at_2 _ _ _ _, (by show 2 ≤ sizeLine; decide), fun L nL => ?_⟩
      exact q L _ _ (same_new nL _) nL upd_same (.cons (h0.mono (Same.tups (same_new nL _))) (.cons (h1.mono (Same.tups (same_new nL _))) .nil))
    | mark x b =>
      rw [show decide (V.str (tagOf (.mark x b)) = V.str ("pair" : Str)) = false from tag_ne n5.symm]
      refine iteF ⟨_, rfl, p, _, 0, _, rfl, rfl, .inl (.inl e1), at_0 _ _, rfl, _, rfl, ?_⟩
      rw [show decide (V.str (tagOf (.mark x b)) = V.str ("mark" : Str)) = true from tag_eq _]
      cases hk with
      | @cons _ y0 _ vr h0 hk2 =>
      cases hk2 with
      | @cons _ z0 _ vr2 h1 hk3 =>
      cases hk3
      exact iteT (iteT (one b y0 z0 H rfl h1 rfl (Same.refl H)))
    | box k a =>
      rw [show decide (V.str (tagOf (.box k a)) = V.str ("pair" : Str)) = false from tag_ne n1.symm]
      refine iteF ⟨_, rfl, p, _, 0, _, rfl, rfl, .inl (.inl e1), at_0 _ _, rfl, _, rfl, ?_⟩
      rw [show decide (V.str (tagOf (.box k a)) = V.str ("mark" : Str)) = false from tag_ne n7]
      refine iteF ⟨_, rfl, p, _, 0, _, rfl, rfl, .inl (.inl e1), at_0 _ _, (by show 2 ≤ sizeLine; decide), fun TT nT => ⟨TT, _, rfl, .inl (SqL.of upd_same), rfl, rfl, _, rfl, ?_⟩⟩
      rw [inBS]
      simp only [tagOf, decide_true, Bool.true_or, Bool.false_eq_true, if_true, if_false]
      cases hk with
      | @cons _ y0 _ vr h0 hk2 =>
      cases hk2 with
      | @cons _ z0 _ vr2 h1 hk3 =>
      cases hk3
      have s1 := same_new nT (.lst [V.str ("box" : Str), .str ("shut" : Str)])
      have hkd : k.depth ≤ 4 := by simp only [Tm.depth] at h4; omega
      refine ⟨_, rfl, d, rfl, ⟨kvs, hD.same s1⟩, _, rfl, p, _, 1, _, rfl, rfl, .inl (.inl (s1 _ _ e1)), at_1 _ _ _, kvs, k, hD.same s1, h0.mono (Same.tups s1), by omega, _, rfl, ?_⟩
      exact keyed k a y0 z0 rfl h0 h1 hkd rfl _ s1 _ rfl
    | shut x a =>
      rw [show decide (V.str (tagOf (.shut x a)) = V.str ("pair" : Str)) = false from tag_ne n4.symm]
      refine iteF ⟨_, rfl, p, _, 0, _, rfl, rfl, .inl (.inl e1), at_0 _ _, rfl, _, rfl, ?_⟩
      rw [show decide (V.str (tagOf (.shut x a)) = V.str ("mark" : Str)) = false from tag_ne n2]
      refine iteF ⟨_, rfl, p, _, 0, _, rfl, rfl, .inl (.inl e1), at_0 _ _, (by show 2 ≤ sizeLine; decide), fun TT nT => ⟨TT, _, rfl, .inl (SqL.of upd_same), rfl, rfl, _, rfl, ?_⟩⟩
      rw [inBS]
      simp only [tagOf, decide_true, Bool.or_true, Bool.false_eq_true, if_true, if_false]
      cases hk with
      | @cons _ y0 _ vr h0 hk2 =>
      cases hk2 with
      | @cons _ z0 _ vr2 h1 hk3 =>
      cases hk3
      have s1 := same_new nT (.lst [V.str ("box" : Str), .str ("shut" : Str)])
      refine ⟨_, rfl, d, rfl, ⟨kvs, hD.same s1⟩, _, rfl, p, _, 1, _, rfl, rfl, .inl (.inl (s1 _ _ e1)), at_1 _ _ _, kvs, .nm x, hD.same s1, h0, by simp [Tm.depth], _, rfl, ?_⟩
      exact keyed (.nm x) a y0 z0 rfl h0 h1 (by simp [Tm.depth]) rfl _ s1 _ rfl
    | half x =>
      rw [show decide (V.str (tagOf (.half x)) = V.str ("pair" : Str)) = false from tag_ne n8.symm]
      refine iteF ⟨_, rfl, p, _, 0, _, rfl, rfl, .inl (.inl e1), at_0 _ _, rfl, _, rfl, ?_⟩
      rw [show decide (V.str (tagOf (.half x)) = V.str ("mark" : Str)) = false from tag_ne n14.symm]
      refine iteF ⟨_, rfl, p, _, 0, _, rfl, rfl, .inl (.inl e1), at_0 _ _, (by show 2 ≤ sizeLine; decide), fun TT nT => ⟨TT, _, rfl, .inl (SqL.of upd_same), rfl, rfl, _, rfl, ?_⟩⟩
      rw [inBS, show (decide (tagOf (.half x) = tBox) || decide (tagOf (.half x) = tShut)) = false by
        simp only [tagOf, decide_eq_false n10.symm, decide_eq_false n12.symm]; rfl]
      exact iteF (iteF (last _ (same_new nT _) rfl))
    | mix b =>
      rw [show decide (V.str (tagOf (.mix b)) = V.str ("pair" : Str)) = false from tag_ne n9.symm]
      refine iteF ⟨_, rfl, p, _, 0, _, rfl, rfl, .inl (.inl e1), at_0 _ _, rfl, _, rfl, ?_⟩
      rw [show decide (V.str (tagOf (.mix b)) = V.str ("mark" : Str)) = false from tag_ne n15.symm]
      refine iteF ⟨_, rfl, p, _, 0, _, rfl, rfl, .inl (.inl e1), at_0 _ _, (by show 2 ≤ sizeLine; decide), fun TT nT => ⟨TT, _, rfl, .inl (SqL.of upd_same), rfl, rfl, _, rfl, ?_⟩⟩
      rw [inBS, show (decide (tagOf (.mix b) = tBox) || decide (tagOf (.mix b) = tShut)) = false by
        simp only [tagOf, decide_eq_false n11.symm, decide_eq_false n13.symm]; rfl]
      exact iteF (iteF (last _ (same_new nT _) rfl))
end
end K12

set_option Elab.async false
set_option linter.all false
set_option maxRecDepth 100000
set_option maxHeartbeats 4000000
namespace K12
open PySem PySem.Spec L2

theorem mem_lack {ms ts : List Tm} {t : Tm} : t ∈ lack ms ts ↔ t ∈ ts ∧ t ∉ ms := by simp [lack]
theorem lack_nodup {ms ts : List Tm} (h1 : ms.Nodup) (h2 : ts.Nodup) : (ms ++ lack ms ts).Nodup := by
  rw [List.nodup_append]
  exact ⟨h1, h2.filter _, fun a ha b hb e => (mem_lack.mp hb).2 (e ▸ ha)⟩
theorem mem_more {ms ts : List Tm} {t : Tm} : t ∈ ms ++ lack ms ts ↔ t ∈ ms ∨ t ∈ ts := by
  rw [List.mem_append, mem_lack]
  by_cases h : t ∈ ms <;> simp [h]
theorem Paired.app {α β : Type} {F : α → β → Prop} {xs : List α} {ys : List β} (h : Paired F xs ys) {us : List α} {vs : List β} (g : Paired F us vs) : Paired F (xs ++ us) (ys ++ vs) := by
  induction h with
  | nil => exact g
  | cons a _ ih => exact .cons a ih
section
variable {P : Program} {w : World} {K : PySem.W.Frag} {mg : Str → Option Value} {base : Heap} {f : Addr} {fd : FuncData}
theorem scParts : FnScope ["_law_term_here", "_law_row", "_law_part", "_law_inner"] ["_law_term_here"] (defScope sParts) := ⟨rfl, rfl, rfl, by decide +kernel, rfl, by decide +kernel, by decide +kernel⟩
theorem none_parts : FnOk P w K mg base CX0 0 f fd ["_law_term_here"] (spParts 0) := by
  have no : ∀ vs H Q E, ¬ spParts 0 vs H Q E := fun vs H Q E h => by
    obtain ⟨v, t, _, _, _, h1, _⟩ := h
    have := Tm.depth_pos t
    omega
  exact ⟨fun vs H Q E h => absurd h (no vs H Q E), fun A outer s H args us vs Q E _ _ _ _ h => absurd h (no vs H Q E)⟩
theorem ok_parts {n : Nat} (D : Dn K mg "_law_parts" sParts ["_law_term_here"] f fd) (G : Glb K w mg) (Gp : FnOk P w K mg base CX0 n f fd ["_law_term_here"] (spParts n)) : FnOk P w K mg base CX0 (n + 1) f fd ["_law_term_here"] (spParts (n + 1)) := by
  refine D.F.ok scParts (fun vs H Q E h => ?_) (fun cdv A outer s H vs Q E hr h => ?_)
  · obtain ⟨v, t, rfl, _⟩ := h
    rfl
  obtain ⟨v, t, rfl, ht, g, h1, h4, q⟩ := h
  have hu65 : (A.deeper (PyProof.Rows.envOfC "_law_parts" (defScope sParts) s.heap.objs.size f cdv)).units + 65 < cLine := by have := hr.un; omega
  have hz := sizeLine_eq
  refine ⟨_, (pss_cons (ps_set (i := 1) scParts.nd rfl (Or.inr rfl) (pe_lst (pa_cons (pv 0) pa_nil)))
    (pss_cons (ps_if (pt_not (pt_val (pe_callB call_isi (by rfl) G.isi (by decide +kernel) (pa_cons (pv 0) (pa_cons (pe_bltn (v := .ty "str") (u := .type "str") (by rfl) G.str (by decide +kernel) rfl) pa_nil))))) (pss_one (ps_for PassesOwn.never rfl (pi_tup (pe_slice sl_tup (pv 0) (po_some pe_int) po_none)) (pg_name (i := 2) scParts.nd rfl (Or.inl rfl))
      (pss_one (ps_set (i := 1) scParts.nd rfl (Or.inr rfl) (pe_op op_cat (pv 1) (pe_lc (own := [("_law_inner", 3)]) (g := gName 3) rfl scParts.nd (pi_list (pe_call Gp hr rfl D.g D.F.kp D.b .nil pass0 (pa_cons (pv 2) pa_nil))) (blkOk_by (own := [("_law_inner", 3)]) (N := ["_law_term_here", "_law_row", "_law_part", "_law_inner"]) (sc := defScope sParts) (by decide +kernel))
      (fun _ _ _ _ _ => pg_name (i := 3) scParts.nd rfl (Or.inl rfl)) (fun _ _ _ _ _ => pts_one (pt_cmpR (r := rNotInD K) (op_notInD hu65) (pv 3) (pv 1) (by rfl))) (fun _ _ _ _ _ => (pv 3)))))))) pss_nil)
    (pss_one (ps_ret (pv 1))))), ?_⟩
  refine ⟨_, rfl, (by show 1 ≤ sizeLine; decide), fun R nR => ?_⟩
  have s1 := same_new nR (.lst [v])
  have ht1 := ht.mono (Same.tups s1)
  generalize eH1 : upd H R (.lst [v]) = H1 at s1 ht1
  have eR : H1 R = some (.lst [v]) := by rw [← eH1]; exact upd_same
  refine ⟨_, rfl, _, .ty "str", _, _, _, rfl, .ty _, ht1.ty, isi_str _, _, rfl, ?_⟩
  cases c : t.isNm with
  | true =>
    obtain ⟨x, rfl, rfl⟩ := ht.name c
    exact iteF ⟨_, rfl, q R H1 [.nm x] _ s1 nR eR (.cons ht1 .nil) (fun u => by simp [Tm.parts]) (by simp)⟩
  | false =>
    obtain ⟨p, vs, rfl, e1, hk⟩ := ht1.node c
    have hl : t.kids.length = vs.length := Paired.length hk
    refine iteT ⟨_, rfl, 1, rfl, p, _, rfl, .inl (.inl e1), not_whole _ _, fun T nT => ?_⟩
    rw [cut_tail]
    have s2 := same_new nT (.tup vs)
    refine ⟨T, rfl, ⟨_, .inl (.inl upd_same)⟩, for_it walk_tup (fun i σ H' => ∃ (R : Addr) (ts : List Tm) (rs : List V) (e : Option V), σ = [some (.ref p), some (.ref R), e, none] ∧ Same H H' ∧ Same H1 H' ∧ H' T = some (.tup vs) ∧ H R = none ∧ H' R = some (.lst rs) ∧ TmsAt H' ts rs ∧ (∀ u, u ∈ ts ↔ u = t ∨ ∃ k ∈ t.kids.take i, u ∈ k.parts) ∧ ts.Nodup)
      ⟨R, [t], _, none, rfl, s1.trans s2, s2, upd_same, nR, s2 _ _ eR, .cons (ht1.mono (Same.tups s2)) .nil, fun u => by simp, by simp⟩ (fun _ _ _ _ ⟨_, _, _, _, _, _, _, h, _⟩ => .inl (.inl h)) (fun i y σ Ha Hb hi ⟨R, ts, rs, e, es, sa, sa1, eT, nR, eR, hrs, hin, hnd⟩ ⟨eb, hy⟩ => ?_) (fun σ Ha ⟨R, ts, rs, e, es, sa, sa1, eT, nR, eR, hrs, hin, hnd⟩ => ?_)⟩
    · subst eb es
      obtain ⟨k, hkk, hky⟩ := paired_at hk hy
      have hkm := List.mem_of_getElem? hkk
      have gk := kid_good g hkm
      have dk := kid_depth hkm
      have hsub : ∀ u ∈ ts, u ∈ t.parts := fun u hu => by
        rcases (hin u).mp hu with rfl | ⟨k', hk', hp'⟩
        · exact Tm.self_parts _
        · exact (Tm.parts_kids t u).mpr (.inr ⟨k', List.mem_of_mem_take hk', hp'⟩)
      have sm : Smalls ts := fun u hu => ⟨part_good g (hsub u hu), Nat.le_trans (Tm.part_depth (hsub u hu)) h4⟩
      have hlt : ts.length ≤ 15 := by
        have h1 := nodup_le hnd hsub
        have h2 := Tm.size4 h4
        rw [Tm.parts_length] at h1
        omega
      have hlr : ts.length = rs.length := Paired.length hrs
      refine ⟨_, rfl, _, rfl, y, k, rfl, hky.mono (Same.tups sa1), gk, by omega, by omega, fun L Hc us ys sc nL eL hys hus hun => ?_⟩
      have eR1 := sc _ _ eR
      have hly : us.length = ys.length := Paired.length hys
      have hfu := parts_few (by omega) hus hun
      refine ⟨L, rfl, ⟨_, SqL.of eL⟩, fun D nD => ?_⟩
      refine lack_it nD eL eR1 hys (hrs.mono (Same.tups sc)) (parts_small gk (by omega) hus) sm (by omega) (fun _ => rfl) (fun _ => rfl) (fun _ => rfl) fun Hd zs sd eD hzs => ?_
      have hlz : (lack ts us).length = zs.length := Paired.length hzs
      have hlk : (lack ts us).length ≤ us.length := List.length_filter_le _ _
      refine ⟨R, D, rs, zs, rfl, rfl, sd _ _ eR1, eD, by omega, fun N nN => ?_⟩
      have sn := same_new nN (.lst (rs ++ zs))
      have scn := (sc.trans sd).trans sn
      have nNa : H N = none := (sa.trans (sc.trans sd)).free nN
      refine ⟨N, ts ++ lack ts us, _, _, rfl, sa.trans scn, sa1.trans scn, scn _ _ eT, nNa, upd_same, Paired.app (hrs.mono (Same.tups scn)) (hzs.mono (Same.tups sn)), fun u => ?_, lack_nodup hnd hun⟩
      rw [mem_more, hin, hus, take_snoc hkk]
      simp only [List.mem_append, List.mem_singleton]
      constructor
      · rintro ((h | ⟨k', h1, h2⟩) | h)
        · exact .inl h
        · exact .inr ⟨k', .inl h1, h2⟩
        · exact .inr ⟨k, .inr rfl, h⟩
      · rintro (h | ⟨k', h1 | rfl, h2⟩)
        · exact .inl (.inl h)
        · exact .inl (.inr ⟨k', h1, h2⟩)
        · exact .inr h2
    · subst es
      rw [← hl, List.take_length] at hin
      exact ⟨_, rfl, q R Ha ts rs sa nR eR hrs (fun u => (hin u).trans (Tm.parts_kids t u).symm) hnd⟩
theorem all_parts (D : Dn K mg "_law_parts" sParts ["_law_term_here"] f fd) (G : Glb K w mg) : ∀ n, FnOk P w K mg base CX0 n f fd ["_law_term_here"] (spParts n)
  | 0 => none_parts
  | n + 1 => ok_parts D G (all_parts D G n)
end
end K12

set_option Elab.async false
set_option linter.all false
set_option maxRecDepth 100000
set_option maxHeartbeats 4000000
namespace K12
open PySem PySem.Spec L2

/-- terms over these names -/
def OfN (Ns : List Str) (ts : List Tm) : Prop := ∀ t ∈ ts, (∀ x ∈ t.names, x ∈ Ns) ∧ t.depth ≤ 4
theorem OfN.small {Ns : List Str} {ts : List Tm} (h : OfN Ns ts) (g : ∀ x ∈ Ns, GoodNm x) : Smalls ts := fun t ht => ⟨fun x hx => g x ((h t ht).1 x hx), (h t ht).2⟩
theorem OfN.app {Ns : List Str} {ts us : List Tm} (h : OfN Ns ts) (k : OfN Ns us) : OfN Ns (ts ++ us) := fun t ht => (List.mem_append.mp ht).elim (h t) (k t)
theorem OfN.one {Ns : List Str} {t : Tm} (h : ∀ x ∈ t.names, x ∈ Ns) (d : t.depth ≤ 4) : OfN Ns [t] := fun u hu => by
  obtain rfl := List.mem_singleton.mp hu
  exact ⟨h, d⟩
def spHearing (K : PySem.W.Frag) : Sp := fun vs H Q _ => ∃ (b nl : Addr) (Ns : List Str) (m : Int), vs = [.ref b, .ref nl, .int m] ∧ 0 ≤ m ∧ m ≤ 4 ∧ BagAt H b ∧ Nms K H b nl Ns ∧ (∀ x ∈ Ns, GoodNm x) ∧
  ∀ (L : Addr) (H' : Hp) (ts : List Tm) (rs : List V), Keep b H H' → BagAt H' b → H L = none → H' L = some (.lst rs) → TmsAt H' ts rs → OfN Ns ts → ts.length ≤ 4 → Q (.ref L) H'
theorem Drawn.small {Ns : List Str} {b : Addr} {H H' : Hp} {v : V} {t : Tm} {d : Int} (h : Drawn Ns b d H H' v t) (g : ∀ x ∈ Ns, GoodNm x) (hd : d ≤ 4) : Good t ∧ t.depth ≤ 4 := ⟨fun x hx => g x (h.nm x hx), by have := h.dp; omega⟩
theorem paired_mem {α β : Type} {F : α → β → Prop} {xs : List α} {ys : List β} (h : Paired F xs ys) : ∀ {y : β}, y ∈ ys → ∃ x ∈ xs, F x y := by
  induction h with
  | nil => exact fun hy => (nomatch hy)
  | cons a _ ih =>
    intro y hy
    rcases List.mem_cons.mp hy with rfl | hy
    · exact ⟨_, List.mem_cons_self, a⟩
    · obtain ⟨x, hx, f⟩ := ih hy
      exact ⟨x, List.mem_cons_of_mem _ hx, f⟩
/-- a list made since stands elsewhere than the bag's own -/
theorem BagAt.grow {H H' : Hp} {b R : Addr} {o : HO} (h : BagAt H' b) (h0 : BagAt H b) (k : Keep b H H') (nR : H R = none) : BagAt (upd H' R o) b := by
  obtain ⟨l0, ns0, i0, n0, k0, z0, e0, el0, _⟩ := h0
  obtain ⟨l, ns, i, n, y, z, e, el, r⟩ := h
  obtain ⟨r', e'⟩ := k.hd l0 _ e0
  rw [e] at e'
  have q := HO.lst.inj (Option.some.inj e')
  injection q with q1 _
  obtain rfl : l = l0 := V.ref.inj q1
  have hl : l ≠ R := fun e => by rw [e, nR] at el0; cases el0
  have hb : b ≠ R := fun e => by rw [e, nR] at e0; cases e0
  exact ⟨l, ns, i, n, y, z, by rw [upd_ne hb]; exact e, by rw [upd_ne hl]; exact el, r⟩
section
variable {P : Program} {w : World} {K : PySem.W.Frag} {mg : Str → Option Value} {base : Heap} {f fD fT fP fR : Addr} {fd dD dT dP dR : FuncData}
theorem scHearing : FnScope ["_law_bag_here", "_law_names_here", "_law_many", "_law_row", "_law_k", "_law_kind", "_law_term_here"] ["_law_bag_here", "_law_names_here", "_law_many"] (defScope sHearing) := ⟨rfl, rfl, rfl, by decide +kernel, rfl, by decide +kernel, by decide +kernel⟩
theorem ok_hearing (D : Dn K mg "_law_hearing" sHearing ["_law_bag_here", "_law_names_here", "_law_many"] f fd) (G : Glb K w mg)
    (Dd : Dn K mg "_law_draw" sDraw ["_law_bag_here", "_law_many"] fD dD) (Gd : FnOk P w K mg base CX0 1 fD dD ["_law_bag_here", "_law_many"] spDraw)
    (Dt : Dn K mg "_law_term" sTerm ["_law_bag_here", "_law_names_here", "_law_depth"] fT dT) (Gt : FnOk P w K mg base CX0 8 fT dT ["_law_bag_here", "_law_names_here", "_law_depth"] (spTerm K 4))
    (Dp : Dn K mg "_law_pick" sPick ["_law_bag_here", "_law_things"] fP dP) (Gp : FnOk P w K mg base CX0 2 fP dP ["_law_bag_here", "_law_things"] (spPick K))
    (Dr : Dn K mg "_law_parts" sParts ["_law_term_here"] fR dR) (Gr : FnOk P w K mg base CX0 4 fR dR ["_law_term_here"] (spParts 4)) :
    FnOk P w K mg base CX0 9 f fd ["_law_bag_here", "_law_names_here", "_law_many"] (spHearing K) := by
  refine D.F.ok scHearing (fun vs H Q E h => ?_) (fun cdv A outer s H vs Q E hr h => ?_)
  · obtain ⟨b, nl, Ns, m, rfl, _⟩ := h
    rfl
  obtain ⟨b, nl, Ns, m, rfl, hm0, hm4, hb, hn, hg, q⟩ := h
  have hr1 : Room 1 _ := hr.mono (by omega)
  have hr2 : Room 2 _ := hr.mono (by omega)
  have hr4 : Room 4 _ := hr.mono (by omega)
  have hz := sizeLine_eq
  obtain ⟨m, rfl⟩ := Int.eq_ofNat_of_zero_le hm0
  refine ⟨_, (pss_cons (ps_set (i := 3) scHearing.nd rfl (Or.inl rfl) (pe_lst pa_nil))
    (pss_cons (ps_for PassesOwn.never rfl (pi_range1 (by rfl) G.range (pa_cons (pv 2) pa_nil)) (pg_name (i := 4) scHearing.nd rfl (Or.inl rfl))
      (pss_cons (ps_set (i := 5) scHearing.nd rfl (Or.inl rfl) (pe_call Gd hr1 rfl Dd.g Dd.F.kp Dd.b .nil pass0 (pa_cons (pv 0) (pa_cons pe_int pa_nil))))
    (pss_cons (ps_set (i := 6) scHearing.nd rfl (Or.inl rfl) (pe_call Gt hr rfl Dt.g Dt.F.kp Dt.b .nil pass0 (pa_cons (pv 0) (pa_cons (pv 1) (pa_cons pe_int pa_nil)))))
    (C8.pss_cut (ps_if (pt_cmpR op_eq (pv 5) pe_int (nomark _)) (pss_one (ps_set (i := 6) scHearing.nd rfl (Or.inl rfl) (pe_call Gp hr2 rfl Dp.g Dp.F.kp Dp.b .nil pass0 (pa_cons (pv 0) (pa_cons (pv 1) pa_nil))))) pss_nil)
    (C8.pss_cut (ps_if (PW.pt (pw_and (pt_cmpR op_eq (pv 5) pe_int (nomark _)) (pw_and1 (pt_cmpR op_gt (pe_callB call_len_seq (by rfl) G.len PySem.boot_len (pa_cons (pv 3) pa_nil)) pe_int (nomark _))))) (pss_one (ps_set (i := 6) scHearing.nd rfl (Or.inl rfl) (pe_call Gp hr2 rfl Dp.g Dp.F.kp Dp.b .nil pass0 (pa_cons (pv 0) (pa_cons (pe_call Gr hr4 rfl Dr.g Dr.F.kp Dr.b .nil pass0 (pa_cons (pe_call Gp hr2 rfl Dp.g Dp.F.kp Dp.b .nil pass0 (pa_cons (pv 0) (pa_cons (pv 3) pa_nil))) pa_nil)) pa_nil))))) pss_nil)
    (pss_one (ps_expr (pe_bm PySem.F.plainAttrs_list PySem.F.slot_list_append PySem.F.type_list_append mt_append (pv 3) (pa_cons (pv 6) pa_nil)))))))))
    (pss_one (ps_ret (pv 3))))), ?_⟩
  refine ⟨Nat.zero_le _, fun R nR => ?_⟩
  have s1 := same_new nR (.lst [])
  have neRb : R ≠ b := fun e => by
    obtain ⟨xs, eb⟩ := hb.lst
    rw [e, eb] at nR
    cases nR
  refine ⟨_, rfl, (m : Int), rfl, by omega, by omega, for_it walk_range (fun i σ H' => ∃ (ts : List Tm) (rs : List V) (c d e : Option V), σ = [some (.ref b), some (.ref nl), some (.int m), some (.ref R), c, d, e] ∧ Keep b H H' ∧ BagAt H' b ∧ H' R = some (.lst rs) ∧ TmsAt H' ts rs ∧ OfN Ns ts ∧ ts.length = i)
    ⟨[], [], none, none, none, rfl, Keep.of s1, hb.keeps s1, upd_same, .nil, fun t h => (nomatch h), rfl⟩ (fun _ _ _ _ _ => trivial) (fun i y σ Ha Hb hi ⟨ts, rs, c, d, e, es, ka, ba, eR, hrs, hsm, hl⟩ ⟨eb, hy⟩ => ?_) (fun σ Ha ⟨ts, rs, c, d, e, es, ka, ba, eR, hrs, hsm, hl⟩ => ?_)⟩
  · subst eb es
    have hlr : ts.length = rs.length := Paired.length hrs
    have hi4 : i < 4 := by
      have : ((m : Nat) : Int).toNat = m := rfl
      omega
    refine ⟨_, rfl, b, 6, rfl, ba, by decide, by decide, fun kd H1 _ _ k1 b1 => ?_⟩
    refine ⟨_, rfl, _, rfl, b, nl, Ns, 4, rfl, by decide, by decide, b1, hn.keep (ka.trans k1), fun v t H2 r2 => ?_⟩
    have gt := r2.nm
    have dt := (r2.small hg (Int.le_refl _)).2
    have k2 := k1.trans r2.kp
    refine ⟨fun σ' H' => ∃ (y0 v : V) (t : Tm), σ' = [some (.ref b), some (.ref nl), some (.int m), some (.ref R), some y0, some (.int kd), some v] ∧ Keep b Hb H' ∧ BagAt H' b ∧ TmAt H' t v ∧ (∀ x ∈ t.names, x ∈ Ns) ∧ t.depth ≤ 4, ?_, ?_⟩
    · refine ⟨_, rfl, rfl, _, rfl, ?_⟩
      refine ite2 (fun _ => ?_) (fun _ => ?_)
      · refine ⟨_, rfl, _, rfl, b, nl, _, rfl, r2.bag, (hn.keep (ka.trans k2)).at_, hn.ne, by rw [List.length_map]; exact hn.pos, by rw [List.length_map]; have := hn.few; omega, fun v' H3 hm k3 b3 => ?_⟩
        obtain ⟨x, hx, rfl⟩ := List.mem_map.mp hm
        exact ⟨_, _, .nm x, rfl, k2.trans k3, b3, rfl, fun z hz => by
          simp [Tm.names] at hz
          rw [hz]
          exact hx, by simp [Tm.depth]⟩
      · exact ⟨_, v, t, rfl, k2, r2.bag, r2.tm, gt, dt⟩
    · rintro σ' H3 ⟨y0, v, t, rfl, k3, b3, tv, gt, dt⟩
      have eR3 := k3.els _ _ neRb eR
      refine ⟨fun σ' H' => ∃ (y0 v : V) (t : Tm), σ' = [some (.ref b), some (.ref nl), some (.int m), some (.ref R), some y0, some (.int kd), some v] ∧ Keep b Hb H' ∧ BagAt H' b ∧ TmAt H' t v ∧ (∀ x ∈ t.names, x ∈ Ns) ∧ t.depth ≤ 4, ?_, ?_⟩
      · have stay : ∃ (y1 v1 : V) (t : Tm), [some (.ref b), some (.ref nl), some (V.int m), some (.ref R), some y0, some (.int kd), some v] = [some (.ref b), some (.ref nl), some (.int m), some (.ref R), some y1, some (.int kd), some v1] ∧ Keep b Hb H3 ∧ BagAt H3 b ∧ TmAt H3 t v1 ∧ (∀ x ∈ t.names, x ∈ Ns) ∧ t.depth ≤ 4 :=
          ⟨y0, v, t, rfl, k3, b3, tv, gt, dt⟩
        refine ⟨_, rfl, rfl, _, rfl, ?_⟩
        refine ite2 (fun _ => ?_) (fun _ => iteF stay)
        refine ⟨_, rfl, R, _, rfl, .inl (SqL.of eR3), _, 0, rfl, rfl, _, rfl, ?_⟩
        refine ite2 (fun c => ?_) (fun _ => stay)
        have hpos : 0 < rs.length := by
          have c : decide ((0 : Int) < (rs.length : Int)) = true := c
          have := of_decide_eq_true c
          omega
        refine ⟨_, rfl, _, rfl, _, rfl, b, R, rs, rfl, b3, SqL.of eR3, neRb, hpos, by omega, fun u H4 hu k4 b4 => ?_⟩
        have ke := k3.trans k4
        obtain ⟨xsb, ebg⟩ := ba.lst
        obtain ⟨t2, ht2, hty⟩ := paired_mem (hrs.mono (ke.tups ebg)) hu
        obtain ⟨g2, d2⟩ := hsm t2 ht2
        refine ⟨u, t2, rfl, hty, fun x hx => hg x (g2 x hx), by omega, d2, fun L H5 us ys s5 nL eL hys hus hun => ?_⟩
        have hly : us.length = ys.length := Paired.length hys
        have hfu := parts_few d2 hus hun
        have neLb : L ≠ b := fun e => by
          obtain ⟨xs, eb⟩ := b4.lst
          rw [e, eb] at nL
          cases nL
        refine ⟨b, L, ys, rfl, b4.keeps s5, SqL.of eL, neLb, ?_, by omega, fun z H6 hz k6 b6 => ?_⟩
        · have : t2 ∈ us := (hus t2).mpr (Tm.self_parts t2)
          have := List.length_pos_of_mem this
          omega
        · obtain ⟨xsb5, ebg5⟩ := (b4.keeps s5).lst
          obtain ⟨t3, ht3, htz⟩ := paired_mem (hys.mono (k6.tups ebg5)) hz
          have hp3 := (hus t3).mp ht3
          exact ⟨y0, z, t3, rfl, ke.trans ((Keep.of s5).trans k6), b6, htz, fun x hx => g2 x (Tm.part_names hp3 x hx), Nat.le_trans (Tm.part_depth hp3) d2⟩
      · rintro σ' H4 ⟨y0, v, t, rfl, k4, b4, tv, gt, dt⟩
        have eR4 := k4.els _ _ neRb eR
        obtain ⟨xsb, ebg⟩ := ba.lst
        have tk := k4.tups ebg
        refine ⟨_, rfl, .inl ⟨rfl, _, SqL.of eR4⟩, _, rfl, R, _, _, rfl, rfl, eR4, by omega, ?_⟩
        have tu := Tups.upd (o := .lst (rs ++ [v])) eR4
        have k04 := ka.trans k4
        have kR : Keep b H (upd H4 R (.lst (rs ++ [v]))) := ⟨fun p o np ep => by
          have np' : p ≠ R := fun e => by rw [e, nR] at ep; cases ep
          rw [upd_ne np']
          exact k04.els _ _ np ep, fun l r e => by
          rw [upd_ne neRb.symm]
          exact k04.hd l r e⟩
        refine ⟨ts ++ [t], rs ++ [v], _, _, _, rfl, kR, ?_, upd_same, Paired.snoc ((hrs.mono tk).mono tu) (tv.mono tu), fun u hu => ?_, by simp [hl]⟩
        · exact b4.grow hb k04 nR
        · rcases List.mem_append.mp hu with h | h
          · exact hsm u h
          · obtain rfl := List.mem_singleton.mp h
            exact ⟨gt, dt⟩
  · subst es
    have hl4 : ts.length ≤ 4 := by
      have : ((m : Nat) : Int).toNat = m := rfl
      omega
    exact ⟨_, rfl, q R Ha ts rs ka ba nR eR hrs hsm hl4⟩
end
end K12

set_option Elab.async false
set_option linter.all false
set_option maxRecDepth 100000
set_option maxHeartbeats 4000000
namespace K12
open PySem PySem.Spec L2

/-- the letters that names are drawn of -/
def abet : Str := "abcdefghijklmnoprstuvwxyz"
theorem abet_cps : abet.cps.toList = [97, 98, 99, 100, 101, 102, 103, 104, 105, 106, 107, 108, 109, 110, 111, 112, 114, 115, 116, 117, 118, 119, 120, 121, 122] := by decide +kernel
theorem abet_low {c : Nat} (h : c ∈ abet.cps.toList) : isL c := by
  rw [abet_cps] at h
  have : ∀ c ∈ ([97, 98, 99, 100, 101, 102, 103, 104, 105, 106, 107, 108, 109, 110, 111, 112, 114, 115, 116, 117, 118, 119, 120, 121, 122] : List Nat), 97 ≤ c ∧ c ≤ 122 := by decide
  exact this c h
abbrev one1 (c : Nat) : Str := ⟨#[c]⟩
theorem join_ones : ∀ cs : List Nat, TL.joinL [] (cs.map fun c => [c]) = cs
  | [] => rfl
  | [c] => rfl
  | c :: d :: r => by
    show [c] ++ ([] ++ TL.joinL [] ((d :: r).map fun c => [c])) = _
    rw [join_ones (d :: r)]
    rfl
theorem empty_S : ("" : Str) = SX.S [] := by decide +kernel
theorem join_name (cs : List Nat) : Txt.join ("" : Str) (cs.map one1) = SX.S cs := by
  have e : cs.map one1 = (cs.map fun c => [c]).map SX.S := by rw [List.map_map]; rfl
  rw [e, empty_S, SX.join_S, join_ones]
theorem good_S {cs : List Nat} (h1 : 1 ≤ cs.length) (h8 : cs.length ≤ 8) (h : ∀ c ∈ cs, isL c) : GoodNm (SX.S cs) := ⟨by rw [SX.S_len]; exact h1, by rw [SX.S_len]; exact h8, fun c hc => h c hc⟩
def words6 : List Str := ["half", "mix", "pair", "box", "var", "heard"]
theorem words6_good : ∀ x ∈ words6, GoodNm x := by
  have h : ∀ x ∈ words6, 1 ≤ x.length ∧ x.length ≤ 8 ∧ ∀ c ∈ x.cps.toList, 97 ≤ c ∧ c ≤ 122 := by decide +kernel
  exact fun x hx => ⟨(h x hx).1, (h x hx).2.1, (h x hx).2.2⟩
/-- a letter and y -/
def withY (c : Nat) : Str := one1 c ++ ("y" : Str)
theorem withY_cps (c : Nat) : (withY c).cps.toList = [c, 121] := by
  have e : ("y" : Str).cps.toList = [121] := by decide +kernel
  rw [withY, app_cps, e]
  rfl
theorem withY_good {c : Nat} (h : isL c) : GoodNm (withY c) := by
  have e := withY_cps c
  have hl : (withY c).length = 2 := by
    show (withY c).cps.size = 2
    rw [← Array.length_toList, e]
    rfl
  refine ⟨by omega, by omega, fun d hd => ?_⟩
  rw [e] at hd
  simp at hd
  rcases hd with rfl | rfl
  · exact h
  · exact ⟨by omega, by omega⟩
theorem withY_inj {c d : Nat} (h : withY c = withY d) : c = d := by
  have e := congrArg (fun x : Str => x.cps.toList) h
  simp only [withY_cps] at e
  injection e
theorem inV_strs (z : Str) (Ns : List Str) : inV (.str z) (Ns.map V.str) = decide (z ∈ Ns) := by
  have bd : ∀ a : Str, eqV (.str a) (.str z) = decide (z = a) := fun a => by
    show (a == z) = decide (z = a)
    by_cases e : a = z
    · subst e; simp
    · rw [beq_eq_false_iff_ne.mpr e, decide_eq_false fun h => e h.symm]
  induction Ns with
  | nil => rfl
  | cons a r ih =>
    have h1 : inV (.str z) ((a :: r).map V.str) = (eqV (.str a) (.str z) || inV (.str z) (r.map V.str)) := rfl
    rw [h1, ih, bd]
    simp
theorem flat_strs (Ns : List Str) : (Ns.map V.str).all flatV = true := by
  rw [List.all_map, List.all_eq_true]
  exact fun _ _ => rfl
/-- two names at most leave a word free -/
theorem free_word {Ns : List Str} (h : Ns.length ≤ 2) : ∃ c ∈ abet.cps.toList, withY c ∉ Ns := by
  by_cases h1 : withY 97 ∈ Ns
  · by_cases h2 : withY 98 ∈ Ns
    · refine ⟨99, by rw [abet_cps]; decide, fun h3 => ?_⟩
      have n1 : withY 97 ≠ withY 98 := fun e => absurd (withY_inj e) (by decide)
      have n2 : withY 97 ≠ withY 99 := fun e => absurd (withY_inj e) (by decide)
      have n3 : withY 98 ≠ withY 99 := fun e => absurd (withY_inj e) (by decide)
      match Ns, h with
      | [], _ => cases h1
      | [a], _ =>
        simp at h1 h2
        exact n1 (h1.trans h2.symm)
      | [a, b], _ =>
        simp at h1 h2 h3
        rcases h1 with h1 | h1 <;> rcases h2 with h2 | h2 <;> rcases h3 with h3 | h3
        · exact n1 (h1.trans h2.symm)
        · exact n1 (h1.trans h2.symm)
        · exact n2 (h1.trans h3.symm)
        · exact n3 (h2.trans h3.symm)
        · exact n3 (h2.trans h3.symm)
        · exact n2 (h1.trans h3.symm)
        · exact n1 (h1.trans h2.symm)
        · exact n1 (h1.trans h2.symm)
    · exact ⟨98, by rw [abet_cps]; decide, h2⟩
  · exact ⟨97, by rw [abet_cps]; decide, h1⟩
theorem at_ltG {α : Type} {xs : List α} {d : Int} (h0 : 0 ≤ d) (h1 : d < (xs.length : Int)) : ∃ v, atI xs d = some v ∧ v ∈ xs := by
  have hl : d.toNat < xs.length := by omega
  have e : d = ((d.toNat : Nat) : Int) := by omega
  refine ⟨xs[d.toNat], ?_, List.getElem_mem hl⟩
  have q : atI xs ((d.toNat : Nat) : Int) = some xs[d.toNat] := atI_nat (List.getElem?_eq_getElem hl)
  rw [← e] at q
  exact q
def spNames : Sp := fun vs H Q _ => ∃ (b : Addr) (m : Int), vs = [.ref b, .int m] ∧ 0 ≤ m ∧ m ≤ 3 ∧ BagAt H b ∧
  ∀ (L : Addr) (H' : Hp) (Ns : List Str), Keep b H H' → BagAt H' b → H L = none → H' L = some (.lst (Ns.map V.str)) → (Ns.length : Int) = m → (∀ x ∈ Ns, GoodNm x) → Q (.ref L) H'
section
variable {P : Program} {w : World} {K : PySem.W.Frag} {mg : Str → Option Value} {base : Heap} {f fD : Addr} {fd dD : FuncData}
theorem scNames : FnScope ["_law_bag_here", "_law_many", "_law_letters", "_law_names_here", "_law_k", "_law_size", "_law_name", "_law_at", "_law_letter"] ["_law_bag_here", "_law_many"] (defScope sNames) := ⟨rfl, rfl, rfl, by decide +kernel, rfl, by decide +kernel, by decide +kernel⟩
theorem ok_names (D : Dn K mg "_law_names" sNames ["_law_bag_here", "_law_many"] f fd) (G : Glb K w mg)
    (Dd : Dn K mg "_law_draw" sDraw ["_law_bag_here", "_law_many"] fD dD) (Gd : FnOk P w K mg base CX0 1 fD dD ["_law_bag_here", "_law_many"] spDraw) :
    FnOk P w K mg base CX0 2 f fd ["_law_bag_here", "_law_many"] spNames := by
  refine D.F.ok scNames (fun vs H Q E h => ?_) (fun cdv A outer s H vs Q E hr h => ?_)
  · obtain ⟨b, m, rfl, _⟩ := h
    rfl
  obtain ⟨b, m, rfl, hm0, hm3, hb, q⟩ := h
  have hz := sizeLine_eq
  obtain ⟨m, rfl⟩ := Int.eq_ofNat_of_zero_le hm0
  have hmn : ((m : Nat) : Int).toNat = m := rfl
  have habl : abet.length ≤ sizeLine := by
    have : abet.length = 25 := by decide +kernel
    omega
  have habl25 : (abet.cps.toList).length = 25 := by rw [abet_cps]; rfl
  refine ⟨_, (pss_cons (ps_set (i := 2) scNames.nd rfl (Or.inr rfl) pe_str)
    (pss_cons (ps_set (i := 3) scNames.nd rfl (Or.inr rfl) (pe_lst pa_nil))
    (pss_cons (ps_for PassesOwn.never rfl (pi_range1 (by rfl) G.range (pa_cons (pv 1) pa_nil)) (pg_name (i := 4) scNames.nd rfl (Or.inl rfl))
      (pss_cons (ps_set (i := 5) scNames.nd rfl (Or.inl rfl) (pe_ix ix_list (pe_lst (pa_cons pe_int (pa_cons pe_int (pa_cons pe_int (pa_cons pe_int (pa_cons pe_int pa_nil)))))) (pe_call Gd hr rfl Dd.g Dd.F.kp Dd.b .nil pass0 (pa_cons (pv 0) (pa_cons pe_int pa_nil))) (fun _ _ => rfl)))
    (pss_cons (ps_set (i := 6) scNames.nd rfl (Or.inl rfl) (pe_join pe_str (pe_lc (own := [("_law_at", 7)]) (g := gName 7) rfl scNames.nd (pi_range1 (by rfl) G.range (pa_cons (pv 5) pa_nil)) (blkOk_by (own := [("_law_at", 7)]) (N := ["_law_bag_here", "_law_many", "_law_letters", "_law_names_here", "_law_k", "_law_size", "_law_name", "_law_at", "_law_letter"]) (sc := defScope sNames) (by decide +kernel))
      (fun _ _ _ _ _ => pg_name (i := 7) scNames.nd rfl (Or.inl rfl)) (fun _ _ _ _ _ => pts_nil) (fun _ _ _ _ _ => (pe_ix ix_str (pv 2) (pe_call Gd hr rfl Dd.g Dd.F.kp Dd.b .nil pass0 (pa_cons (pv 0) (pa_cons pe_int pa_nil))) (fun _ _ => rfl))))))
    (C8.pss_cut (ps_if (pt_cmpR op_eq (pe_call Gd hr rfl Dd.g Dd.F.kp Dd.b .nil pass0 (pa_cons (pv 0) (pa_cons pe_int pa_nil))) pe_int (nomark _)) (pss_one (ps_set (i := 6) scNames.nd rfl (Or.inl rfl) (pe_ix ix_list (pe_lst (pa_cons pe_str (pa_cons pe_str (pa_cons pe_str (pa_cons pe_str (pa_cons pe_str (pa_cons pe_str pa_nil))))))) (pe_call Gd hr rfl Dd.g Dd.F.kp Dd.b .nil pass0 (pa_cons (pv 0) (pa_cons pe_int pa_nil))) (fun _ _ => rfl)))) pss_nil)
    (C8.pss_cut (ps_if (pt_cmpR op_in_seq (pv 6) (pv 3) (by rfl)) (pss_one (ps_set (i := 6) scNames.nd rfl (Or.inl rfl) (pe_ix ix_list (pe_lc (own := [("_law_letter", 8)]) (g := gName 8) rfl scNames.nd (pi_str (pv 2)) (blkOk_by (own := [("_law_letter", 8)]) (N := ["_law_bag_here", "_law_many", "_law_letters", "_law_names_here", "_law_k", "_law_size", "_law_name", "_law_at", "_law_letter"]) (sc := defScope sNames) (by decide +kernel))
      (fun _ _ _ _ _ => pg_name (i := 8) scNames.nd rfl (Or.inl rfl)) (fun _ _ _ _ _ => pts_one (pt_cmpR (r := rIn K true) op_notIn_seq (pe_op op_add_str (pv 8) pe_str) (pv 3) (by rfl))) (fun _ _ _ _ _ => (pe_op op_add_str (pv 8) pe_str))) pe_int (fun _ _ => rfl)))) pss_nil)
    (pss_one (ps_expr (pe_bm PySem.F.plainAttrs_list PySem.F.slot_list_append PySem.F.type_list_append mt_append (pv 3) (pa_cons (pv 6) pa_nil)))))))))
    (pss_one (ps_ret (pv 3)))))), ?_⟩
  refine ⟨Nat.zero_le _, fun L nL => ?_⟩
  have s1 := same_new nL (.lst [])
  have neLb : L ≠ b := fun e => by
    obtain ⟨xs, eb⟩ := hb.lst
    rw [e, eb] at nL
    cases nL
  refine ⟨_, rfl, (m : Int), rfl, by omega, by omega, for_it walk_range (fun i σ H' => ∃ (Ns : List Str) (c d e : Option V), σ = [some (.ref b), some (.int m), some (.str abet), some (.ref L), c, d, e, none, none] ∧ Keep b H H' ∧ BagAt H' b ∧ H' L = some (.lst (Ns.map V.str)) ∧ Ns.length = i ∧ ∀ x ∈ Ns, GoodNm x)
    ⟨[], none, none, none, rfl, Keep.of s1, hb.keeps s1, upd_same, rfl, fun t h => (nomatch h)⟩ (fun _ _ _ _ _ => trivial) (fun i y σ Ha Hb hi ⟨Ns, c, d, e, es, ka, ba, eL, hl, hg⟩ ⟨eb, hy⟩ => ?_) (fun σ Ha ⟨Ns, c, d, e, es, ka, ba, eL, hl, hg⟩ => ?_)⟩
  · subst eb es
    have hi2 : Ns.length ≤ 2 := by omega
    -- the size
    refine ⟨(by show 5 ≤ sizeLine; omega), fun A1 nA1 => ?_⟩
    have sA := same_new nA1 (.lst [V.int 1, .int 1, .int 2, .int 3, .int 8])
    have neAb : A1 ≠ b := fun e => by
      obtain ⟨xs, eb⟩ := ba.lst
      rw [e, eb] at nA1
      cases nA1
    refine ⟨_, rfl, b, 5, rfl, ba.keeps sA, by decide, by decide, fun d1 H1 d10 d11 k1 b1 => ?_⟩
    obtain ⟨u, hu, hum⟩ := at_ltG (xs := [V.int 1, .int 1, .int 2, .int 3, .int 8]) d10 d11
    obtain ⟨sz, rfl, hs1, hs8⟩ : ∃ sz : Nat, u = V.int sz ∧ 1 ≤ sz ∧ sz ≤ 8 := by
      simp at hum
      rcases hum with h | h | h | h
      · exact ⟨1, h, by omega, by omega⟩
      · exact ⟨2, h, by omega, by omega⟩
      · exact ⟨3, h, by omega, by omega⟩
      · exact ⟨8, h, by omega, by omega⟩
    refine ⟨A1, _, _, _, rfl, rfl, SqL.of (k1.els _ _ neAb upd_same), hu, ?_⟩
    have k01 := (Keep.of (a := b) sA).trans k1
    -- the name
    refine ⟨⟨_, rfl⟩, _, rfl, (sz : Int), rfl, by omega, by omega, fun D1 nD1 => ?_⟩
    have szn : ((sz : Nat) : Int).toNat = sz := rfl
    have sD := same_new nD1 (.lst [])
    have neDb : D1 ≠ b := fun e => by
      obtain ⟨xs, eb⟩ := b1.lst
      rw [e, eb] at nD1
      cases nD1
    refine lc_it walk_range (fun j H' => Keep b H1 H' ∧ BagAt H' b ∧ ∃ cs : List Nat, H' D1 = some (.lst ((cs.map one1).map V.str)) ∧ cs.length = j ∧ ∀ c ∈ cs, isL c)
      ⟨Keep.of sD, b1.keeps sD, [], upd_same, rfl, fun c h => (nomatch h)⟩ (fun _ _ _ _ => trivial) (fun j x Hc Hd hj ⟨kc, bc, cs, eD, hcl, hcs⟩ ⟨ed, hx⟩ => ?_) (fun Hc ⟨kc, bc, cs, eD, hcl, hcs⟩ => ?_)
    · subst ed
      refine ⟨rfl, _, rfl, _, rfl, b, 25, rfl, bc, by decide, by decide, fun d2 H2 d20 d21 k2 b2 => ?_⟩
      obtain ⟨c2, hc2, hcm⟩ := at_ltG (xs := abet.cps.toList) d20 (by rw [habl25]; exact d21)
      refine ⟨abet, d2, c2, rfl, rfl, habl, hc2, _, k2.els _ _ neDb eD, ?_, ?_, b2.grow b1 (kc.trans k2) nD1, cs ++ [c2], ?_, by simp [hcl], fun c hc => ?_⟩
      · rw [List.length_map, List.length_map]
        omega
      · have kk := kc.trans k2
        refine ⟨fun p o np ep => ?_, fun l r e => ?_⟩
        · have np' : p ≠ D1 := fun e => by rw [e, nD1] at ep; cases ep
          rw [upd_ne np']
          exact kk.els _ _ np ep
        · rw [upd_ne neDb.symm]
          exact kk.hd l r e
      · rw [upd_same, List.map_append, List.map_append]
        rfl
      · rcases List.mem_append.mp hc with h | h
        · exact hcs c h
        · rw [List.mem_singleton.mp h]
          exact abet_low hcm
    · refine ⟨("" : Str), D1, cs.map one1, rfl, rfl, .inl (SqL.of eD), ?_, ?_⟩
      · have e1 : (cs.map one1).map (·.length) = cs.map fun _ => 1 := by rw [List.map_map]; rfl
        have e2 : ∀ l : List Nat, (l.map fun _ => 1).sum = l.length := fun l => by
          induction l with
          | nil => rfl
          | cons a r ih => simp [ih]; omega
        have e3 : ("" : Str).length = 0 := by decide +kernel
        rw [e1, e2, e3]
        omega
      rw [join_name]
      have gx := good_S (cs := cs) (by omega) (by omega) hcs
      generalize SX.S cs = x at gx
      have k2 := k01.trans kc
      have k02 := ka.trans k2
      -- a word of the language
      refine ⟨fun σ' H' => ∃ (y0 : V) (x : Str), σ' = [some (.ref b), some (.int m), some (.str abet), some (.ref L), some y0, some (.int sz), some (.str x), none, none] ∧ Keep b Hb H' ∧ BagAt H' b ∧ GoodNm x, ?_, ?_⟩
      · refine ⟨_, rfl, b, 12, rfl, bc, by decide, by decide, fun d3 H3 _ _ k3 b3 => ⟨rfl, _, rfl, ?_⟩⟩
        refine ite2 (fun _ => ?_) (fun _ => ⟨_, x, rfl, k2.trans k3, b3, gx⟩)
        refine ⟨(by show 6 ≤ sizeLine; omega), fun A2 nA2 => ?_⟩
        have sA2 := same_new nA2 (.lst (words6.map V.str))
        have neAb2 : A2 ≠ b := fun e => by
          obtain ⟨xs, eb⟩ := b3.lst
          rw [e, eb] at nA2
          cases nA2
        refine ⟨_, rfl, b, 6, rfl, b3.keeps sA2, by decide, by decide, fun d4 H4 d40 d41 k4 b4 => ?_⟩
        obtain ⟨v, hv, hvm⟩ := at_ltG (xs := words6.map V.str) d40 d41
        obtain ⟨z, hz2, rfl⟩ := List.mem_map.mp hvm
        exact ⟨A2, _, _, _, rfl, rfl, SqL.of (k4.els _ _ neAb2 upd_same), hv, _, z, rfl, k2.trans (k3.trans ((Keep.of sA2).trans k4)), b4, words6_good z hz2⟩
      · rintro σ' H3 ⟨y0, x, rfl, k3, b3, gx⟩
        have eL3 := k3.els _ _ neLb eL
        refine ⟨fun σ' H' => ∃ (y0 : V) (x : Str), σ' = [some (.ref b), some (.int m), some (.str abet), some (.ref L), some y0, some (.int sz), some (.str x), none, none] ∧ Keep b Hb H' ∧ BagAt H' b ∧ GoodNm x, ?_, ?_⟩
        · refine ⟨_, rfl, _, rfl, L, _, rfl, .inl (SqL.of eL3), rfl, flat_strs Ns, _, rfl, ?_⟩
          refine ite2 (fun _ => ?_) (fun _ => ⟨y0, x, rfl, k3, b3, gx⟩)
          refine ⟨_, rfl, abet, rfl, fun D2 nD2 => ?_⟩
          have sD2 := same_new nD2 (.lst [])
          refine lc_it walk_str (fun j H' => Same H3 H' ∧ ∃ ws : List Str, H' D2 = some (.lst (ws.map V.str)) ∧ ws.length ≤ j ∧ (∀ z ∈ ws, GoodNm z) ∧ ∀ c ∈ abet.cps.toList.take j, withY c ∉ Ns → withY c ∈ ws)
            ⟨sD2, [], upd_same, Nat.le_refl _, fun z h => (nomatch h), fun c h => (nomatch h)⟩ (fun _ _ _ _ => trivial) (fun j x2 Hx Hy hj ⟨sx, ws, eD2, hwl, hws, hall⟩ ⟨ey, c2, hc2, hx2⟩ => ?_) (fun Hx ⟨sx, ws, eD2, hwl, hws, hall⟩ => ?_)
          · subst ey hx2
            have hc2' : abet.cps.toList[j]? = some c2 := by rw [Array.getElem?_toList]; exact hc2
            have hcm := List.mem_of_getElem? hc2'
            have hjl : j < 25 := by
              have : abet.cps.size = 25 := by rw [← Array.length_toList]; exact habl25
              omega
            have hly : (one1 c2).length + ("y" : Str).length ≤ sizeLine := by
              have : ("y" : Str).length = 1 := by decide +kernel
              have h1 : (one1 c2).length = 1 := rfl
              omega
            refine ⟨rfl, _, rfl, one1 c2, _, rfl, rfl, hly, _, rfl, L, _, rfl, .inl (SqL.of (sx _ _ eL3)), rfl, flat_strs Ns, _, rfl, ?_⟩
            have ein : inV (V.str (one1 c2 ++ ("y" : Str))) (Ns.map V.str) = decide (withY c2 ∈ Ns) := inV_strs (withY c2) Ns
            refine ite2 (fun cc => ?_) (fun cc => ?_)
            · refine ⟨_, rfl, one1 c2, _, rfl, rfl, hly, _, eD2, by rw [List.length_map]; omega, Same.upd sx nD2, ws ++ [withY c2], by rw [upd_same, List.map_append]; rfl, by simp; omega, fun z hz2 => ?_, fun c hc hn => ?_⟩
              · rcases List.mem_append.mp hz2 with h | h
                · exact hws z h
                · rw [List.mem_singleton.mp h]
                  exact withY_good (abet_low hcm)
              · rw [take_snoc hc2'] at hc
                rcases List.mem_append.mp hc with h | h
                · exact List.mem_append_left _ (hall c h hn)
                · rw [List.mem_singleton.mp h]
                  simp
            · refine ⟨sx, ws, eD2, by omega, hws, fun c hc hn => ?_⟩
              rw [take_snoc hc2'] at hc
              rcases List.mem_append.mp hc with h | h
              · exact hall c h hn
              · have e := List.mem_singleton.mp h
                subst e
                have cc : ¬ (!inV (V.str (one1 c ++ ("y" : Str))) (Ns.map V.str)) = true := cc
                rw [ein, decide_eq_false hn] at cc
                exact absurd rfl cc
          · have efull : abet.cps.toList.take abet.cps.size = abet.cps.toList := List.take_of_length_le (by rw [Array.length_toList]; exact Nat.le_refl _)
            rw [efull] at hall
            obtain ⟨c, hc, hn⟩ := free_word hi2
            have hw := hall c hc hn
            cases ws with
            | nil => cases hw
            | cons w0 wr =>
              exact ⟨D2, _, 0, _, rfl, rfl, SqL.of eD2, at_0 _ _, y0, w0, rfl, k3.trans (Keep.of sx), b3.keeps sx, hws w0 List.mem_cons_self⟩
        · rintro σ' H4 ⟨y0, x, rfl, k4, b4, gx⟩
          have eL4 := k4.els _ _ neLb eL
          have k04 := ka.trans k4
          refine ⟨_, rfl, .inl ⟨rfl, _, SqL.of eL4⟩, _, rfl, L, _, _, rfl, rfl, eL4, by rw [List.length_map]; omega, ?_⟩
          refine ⟨Ns ++ [x], _, _, _, rfl, ⟨fun p o np ep => ?_, fun l r e => ?_⟩, b4.grow hb k04 nL, by rw [upd_same, List.map_append]; rfl, by simp [hl], fun z hz2 => ?_⟩
          · have np' : p ≠ L := fun e => by rw [e, nL] at ep; cases ep
            rw [upd_ne np']
            exact k04.els _ _ np ep
          · rw [upd_ne neLb.symm]
            exact k04.hd l r e
          · rcases List.mem_append.mp hz2 with h | h
            · exact hg z h
            · rw [List.mem_singleton.mp h]
              exact gx
  · subst es
    exact ⟨_, rfl, q L Ha Ns ka ba nL eL (by omega) hg⟩
end
end K12

set_option Elab.async false
set_option linter.all false
set_option maxRecDepth 100000
set_option maxHeartbeats 4000000
namespace K12
open PySem PySem.Spec L2

/-- what holds of the dict that the law makes: H the heap at the entry -/
structure Mk (w : World) (row every : List Tm) (d : Addr) (H H' : Hp) (kvs : List TEnt) : Prop where
  same : Same H H'
  new : H d = none
  at_ : H' d = some (hoT w d kvs)
  ent : EntAt H' kvs
  nod : (tms kvs).Nodup
  sub : ∀ t ∈ tms kvs, t ∈ every
  bd : ∀ t ∈ tms kvs, Bd row t
theorem Mk.few {w : World} {row every : List Tm} {d : Addr} {H H' : Hp} {kvs : List TEnt} (h : Mk w row every d H H' kvs) : kvs.length ≤ every.length := by
  have h1 := nodup_le h.nod h.sub
  simp only [tms, List.length_map] at h1
  exact h1
theorem Mk.td {w : World} {row every : List Tm} {d : Addr} {H H' : Hp} {kvs : List TEnt} (h : Mk w row every d H H' kvs) : TD w H' d kvs := h.ent.td h.at_
theorem Mk.later {w : World} {row every : List Tm} {d : Addr} {H H1 H2 : Hp} {kvs : List TEnt} (h : Mk w row every d H H1 kvs) (s : Same H1 H2) : Mk w row every d H H2 kvs :=
  ⟨h.same.trans s, h.new, s _ _ h.at_, h.ent.mono (Same.tups s), h.nod, h.sub, h.bd⟩
theorem Mk.put {w : World} {row every : List Tm} {d : Addr} {H H' : Hp} {kvs : List TEnt} (h : Mk w row every d H H' kvs) {t : Tm} {y : V} (ht : TmAt H' t y) (g : Good t) (h4 : t.depth ≤ 4) (he : t ∈ every) (hb : Bd row t) : Mk w row every d H (upd H' d (hoT w d (putT kvs t y))) (putT kvs t y) := by
  have tu := Tups.updT (o := hoT w d (putT kvs t y)) h.at_
  refine ⟨Same.upd h.same h.new, h.new, upd_same, fun p hp => ?_, ?_, fun u hu => ?_, fun u hu => ?_⟩
  · unfold putT at hp
    split at hp
    · exact h.ent.mono tu p hp
    · rcases List.mem_append.mp hp with hp | hp
      · exact h.ent.mono tu p hp
      · obtain rfl := List.mem_singleton.mp hp
        exact ⟨ht.mono tu, g, h4⟩
  · rw [tms_putT]
    exact addT_nodup h.nod t
  · rw [mem_putT] at hu
    rcases hu with hu | rfl
    · exact h.sub u hu
    · exact he
  · rw [mem_putT] at hu
    rcases hu with hu | rfl
    · exact h.bd u hu
    · exact hb
/-- what one pass does for the terms of l, from kvs on -/
def Step (kvs kvs' : List TEnt) (l : List Tm) : Prop := ∀ t ∈ l, (t.isNm = false → (∀ p ∈ t.pieces, p ∈ tms kvs) → t ∈ tms kvs') ∧ (t ∈ tms kvs → ∀ u, OpensTo (· ∈ tms kvs) t u → u ∈ tms kvs')
theorem Step.grow {kvs kvs' ex : List TEnt} {l : List Tm} (h : Step kvs kvs' l) : Step kvs (kvs' ++ ex) l := fun t ht => by
  obtain ⟨a, b⟩ := h t ht
  refine ⟨fun x y => ?_, fun x u y => ?_⟩
  · rw [tms_append]; exact List.mem_append_left _ (a x y)
  · rw [tms_append]; exact List.mem_append_left _ (b x u y)
def spMade (w : World) : Sp := fun vs H Q _ => ∃ (R E : Addr) (xs ys : List V) (row every : List Tm), vs = [.ref R, .ref E] ∧ H R = some (.lst xs) ∧ TmsAt H row xs ∧ Smalls row ∧ row.length ≤ 4 ∧ H E = some (.lst ys) ∧ TmsAt H every ys ∧ Smalls every ∧ every.length ≤ 399 ∧ Whole every ∧ (∀ t ∈ row, t ∈ every) ∧
  ∀ (d : Addr) (H' : Hp) (kvs : List TEnt), Mk w row every d H H' kvs → MadeOf row every (tms kvs) → Q (.ref d) H'
section
variable {P : Program} {w : World} {K : PySem.W.Frag} {mg : Str → Option Value} {base : Heap} {f fP fO : Addr} {fd dP dO : FuncData}
theorem scMade : FnScope ["_law_row", "_law_every", "_law_made_here", "_law_term_here", "_law_turn", "_law_many", "_law_inner", "_law_piece"] ["_law_row", "_law_every"] (defScope sMade) := ⟨rfl, rfl, rfl, by decide +kernel, rfl, by decide +kernel, by decide +kernel⟩
theorem ok_made (D : Dn K mg "_law_made" sMade ["_law_row", "_law_every"] f fd) (G : Glb K w mg)
    (Dp : Dn K mg "_law_pieces" sLPieces ["_law_term_here"] fP dP) (Gp : FnOk P w K mg base CX0 1 fP dP ["_law_term_here"] spLPieces)
    (Do : Dn K mg "_law_opens" sOpens ["_law_made_here", "_law_term_here"] fO dO) (Go : FnOk P w K mg base CX0 1 fO dO ["_law_made_here", "_law_term_here"] (spOpens w)) :
    FnOk P w K mg base CX0 2 f fd ["_law_row", "_law_every"] (spMade w) := by
  refine D.F.ok scMade (fun vs H Q E h => ?_) (fun cdv A outer s H vs Q E hr h => ?_)
  · obtain ⟨R, E, xs, ys, row, every, rfl, _⟩ := h
    rfl
  obtain ⟨R, E, xs, ys, row, every, rfl, hR, hxs, hsr, hr4, hE, hys, hse, hel, W, hre, q⟩ := h
  have hu : (A.deeper (PyProof.Rows.envOfC "_law_made" (defScope sMade) s.heap.objs.size f cdv)).units + 9 < cLine := by have := hr.un; omega
  have hz := sizeLine_eq
  have hxl : row.length = xs.length := Paired.length hxs
  have hyl : every.length = ys.length := Paired.length hys
  refine ⟨_, (pss_cons (ps_set (i := 2) scMade.nd rfl (Or.inr rfl) pe_tnew)
    (pss_cons (ps_for PassesOwn.never rfl (pi_list (pv 0)) (pg_name (i := 3) scMade.nd rfl (Or.inl rfl))
        (pss_one (ps_asg pe_bl (pg_sub (pv 2) (pv 3) (set_t hu)))))
    (pss_cons (ps_for PassesOwn.never rfl (pi_range1 (by rfl) G.range (pa_cons pe_int pa_nil)) (pg_name (i := 4) scMade.nd rfl (Or.inl rfl))
        (pss_cons (ps_set (i := 5) scMade.nd rfl (Or.inl rfl) (pe_callB call_tlen (by rfl) G.len PySem.boot_len (pa_cons (pv 2) pa_nil)))
    (pss_cons (ps_for PassesOwn.never rfl (pi_list (pv 1)) (pg_name (i := 3) scMade.nd rfl (Or.inl rfl))
        (C8.pss_cut (ps_if (PW.pt (pw_and (pt_cmpR (op_tnotin hu) (pv 3) (pv 2) (by rfl)) (pw_and1 (pt_not (pt_val (pe_callB call_isi (by rfl) G.isi (by decide +kernel) (pa_cons (pv 3) (pa_cons (pe_bltn (v := .ty "str") (u := .type "str") (by rfl) G.str (by decide +kernel) rfl) pa_nil)))))))) (pss_one (ps_if (pt_cmpR op_eq (pe_callB call_len_seq (by rfl) G.len PySem.boot_len (pa_cons (pe_lc (own := [("_law_piece", 7)]) (g := gName 7) rfl scMade.nd (pi_list (pe_call Gp hr rfl Dp.g Dp.F.kp Dp.b .nil pass0 (pa_cons (pv 3) pa_nil))) (blkOk_by (own := [("_law_piece", 7)]) (N := ["_law_row", "_law_every", "_law_made_here", "_law_term_here", "_law_turn", "_law_many", "_law_inner", "_law_piece"]) (sc := defScope sMade) (by decide +kernel))
      (fun _ _ _ _ _ => pg_name (i := 7) scMade.nd rfl (Or.inl rfl)) (fun _ _ _ _ _ => pts_one (pt_not (pt_val (show PE _ _ (tTGet w (tVar 2) (tVar 7)) from pe_tget hu (pv 2) (pv 7) ⟨rfl, rfl, rfl, rfl⟩)))) (fun _ _ _ _ _ => (pv 7))) pa_nil)) pe_int (nomark _)) (pss_one (ps_asg pe_bl (pg_sub (pv 2) (pv 3) (set_t hu)))) pss_nil)) pss_nil)
    (pss_one (ps_if (pt_val (pe_tget hu (pv 2) (pv 3) ⟨rfl, rfl, rfl, rfl⟩)) (pss_one (ps_for PassesOwn.never rfl (pi_list (pe_call Go hr rfl Do.g Do.F.kp Do.b .nil pass0 (pa_cons (pv 2) (pa_cons (pv 3) pa_nil)))) (pg_name (i := 6) scMade.nd rfl (Or.inl rfl))
        (pss_one (ps_asg pe_bl (pg_sub (pv 2) (pv 6) (set_t hu)))))) pss_nil))))
    (pss_one (ps_if (pt_cmpR op_eq (pe_callB call_tlen (by rfl) G.len PySem.boot_len (pa_cons (pv 2) pa_nil)) (pv 5) (nomark _)) (pss_one ps_break) pss_nil)))))
    (pss_one (ps_ret (pv 2)))))), ?_⟩
  refine fun d nd => ?_
  have s1 := same_new nd (hoT w d [])
  refine ⟨_, rfl, R, rfl, ⟨_, SqL.of (s1 _ _ hR)⟩, for_it walk_list (fun i σ H' => ∃ (kvs : List TEnt) (c : Option V), σ = [some (.ref R), some (.ref E), some (.ref d), c, none, none, none, none] ∧ Mk w row every d H H' kvs ∧ ∀ t ∈ row.take i, t ∈ tms kvs)
    ⟨[], none, rfl, ⟨s1, nd, upd_same, fun p hp => (nomatch hp), List.nodup_nil, fun t ht => (nomatch ht), fun t ht => (nomatch ht)⟩, fun t ht => (nomatch ht)⟩ (fun _ _ _ _ ⟨_, _, _, M, _⟩ => SqL.of (M.same _ _ hR)) (fun i y σ Ha Hb hi ⟨kvs, c, es, M, hin⟩ ⟨eb, hy⟩ => ?_) (fun σ Ha ⟨kvs, c, es, M, hin⟩ => ?_)⟩
  · subst eb es
    obtain ⟨t, ht, hty⟩ := paired_at hxs hy
    have htm := List.mem_of_getElem? ht
    obtain ⟨gt, dt⟩ := hsr t htm
    have hfew := M.few
    refine ⟨_, rfl, _, rfl, d, kvs, t, rfl, rfl, M.at_, M.ent.deep, by omega, hty.mono (Same.tups M.same), by omega, ?_⟩
    refine ⟨putT kvs t y, _, rfl, M.put (hty.mono (Same.tups M.same)) gt dt (hre t htm) (.of (.heard htm)), fun u hu => ?_⟩
    rw [take_snoc ht] at hu
    rw [mem_putT]
    rcases List.mem_append.mp hu with h | h
    · exact .inl (hin u h)
    · exact .inr (List.mem_singleton.mp h)
  subst es
  rw [← hxl, List.take_length] at hin
  refine ⟨(400 : Int), rfl, by decide, by decide, for_it walk_range (fun i σ H' => ∃ (kvs : List TEnt) (c tv mv e : Option V), σ = [some (.ref R), some (.ref E), some (.ref d), c, tv, mv, e, none] ∧ Mk w row every d H H' kvs ∧ (∀ t ∈ row, t ∈ tms kvs) ∧ i ≤ kvs.length)
    ⟨kvs, _, _, _, _, rfl, M, hin, Nat.zero_le _⟩ (fun _ _ _ _ _ => trivial) (fun i y σ Ha Hb hi ⟨kvs, c, tv, mv, e, es, M, hin, hge⟩ ⟨eb, hy⟩ => ?_) (fun σ Ha ⟨kvs, c, tv, mv, e, es, M, hin, hge⟩ => ?_)⟩
  · subst eb es
    refine ⟨_, rfl, d, kvs, rfl, M.td, ?_⟩
    refine ⟨_, rfl, E, rfl, ⟨_, SqL.of (M.same _ _ hE)⟩, for_it walk_list (fun j σ H' => ∃ (kvs' : List TEnt) (c e : Option V), σ = [some (.ref R), some (.ref E), some (.ref d), c, some y, some (.int kvs.length), e, none] ∧ Mk w row every d H H' kvs' ∧ (∃ ex, kvs' = kvs ++ ex) ∧ Step kvs kvs' (every.take j))
      ⟨kvs, _, _, rfl, M, ⟨[], by simp⟩, fun t ht => (nomatch ht)⟩ (fun _ _ _ _ ⟨_, _, _, _, M, _⟩ => SqL.of (M.same _ _ hE)) (fun j y2 σ Hc Hd hj ⟨kvs1, c1, e1, es, M1, ⟨ex1, hx1⟩, hst⟩ ⟨ed, hy2⟩ => ?_) (fun σ Hc ⟨kvs1, c1, e1, es, M1, ⟨ex1, hx1⟩, hst⟩ => ?_)⟩
    · subst ed es
      obtain ⟨t, ht, hty0⟩ := paired_at hys hy2
      have htm := List.mem_of_getElem? ht
      obtain ⟨gt, dt⟩ := hse t htm
      have hf1 := M1.few
      have hty := hty0.mono (Same.tups M1.same)
      refine ⟨fun σ' H' => ∃ (kvs2 : List TEnt), σ' = [some (.ref R), some (.ref E), some (.ref d), some y2, some y, some (.int kvs.length), e1, none] ∧ Mk w row every d H H' kvs2 ∧ (∃ ex, kvs2 = kvs1 ++ ex) ∧ (t.isNm = false → (∀ p ∈ t.pieces, p ∈ tms kvs1) → t ∈ tms kvs2), ?_, ?_⟩
      · refine ⟨_, rfl, _, rfl, d, kvs1, t, rfl, M1.td, hty, by omega, _, rfl, ?_⟩
        refine ite2 (fun cn => ?_) (fun cn => ?_)
        · refine ⟨_, rfl, _, .ty "str", _, _, _, rfl, .ty _, hty.ty, isi_str _, _, rfl, ?_⟩
          cases cnm : t.isNm with
          | true =>
            refine iteF ⟨kvs1, rfl, M1, ⟨[], by simp⟩, fun h => ?_⟩
            cases h
          | false =>
            refine iteT ⟨_, rfl, y2, t, rfl, hty, cnm, fun L H2 zs s2 nL eL hzs => ?_⟩
            have M2 := M1.later s2
            have hpl : t.pieces.length = zs.length := Paired.length hzs
            have hp2 : t.pieces.length ≤ 2 := by cases t <;> simp [Tm.pieces]
            refine ⟨L, rfl, ⟨_, SqL.of eL⟩, fun D1 nD1 => ?_⟩
            refine lc_it walk_list (fun m H' => Same H2 H' ∧ ∃ ws : List V, H' D1 = some (.lst ws) ∧ ws.length ≤ m ∧ (ws = [] ↔ ∀ p ∈ t.pieces.take m, p ∈ tms kvs1))
              ⟨same_new nD1 _, [], upd_same, Nat.le_refl _, by simp⟩ (fun _ _ _ h => SqL.of (h.1 _ _ eL)) (fun m z Hx Hy hm ⟨sx, ws, eD, hwl, hws⟩ ⟨ey, hzz⟩ => ?_) (fun Hx ⟨sx, ws, eD, hwl, hws⟩ => ?_)
            · subst ey
              obtain ⟨p, hp, hpz⟩ := paired_at hzs hzz
              have hpm := List.mem_of_getElem? hp
              have hpd := piece_depth hpm
              have MX := M2.later sx
              refine ⟨rfl, _, rfl, d, rfl, ⟨kvs1, MX.td⟩, _, rfl, kvs1, p, MX.td, hpz.mono (Same.tups sx), by omega, _, rfl, ?_⟩
              by_cases cp : p ∈ tms kvs1
              · rw [decide_eq_true cp]
                refine iteF ⟨sx, ws, eD, by omega, ?_⟩
                rw [take_snoc hp]
                constructor
                · intro h u hu
                  rcases List.mem_append.mp hu with h1 | h1
                  · exact hws.mp h u h1
                  · rw [List.mem_singleton.mp h1]
                    exact cp
                · exact fun h => hws.mpr fun u hu => h u (List.mem_append_left _ hu)
              · rw [decide_eq_false cp]
                refine iteT ⟨_, rfl, ws, eD, by omega, Same.upd sx nD1, ws ++ [z], upd_same, by simp; omega, ?_⟩
                rw [take_snoc hp]
                constructor
                · intro h
                  simp at h
                · exact fun h => absurd (h p (List.mem_append_right _ (by simp))) cp
            · refine ⟨D1, ws, rfl, .inl (SqL.of eD), rfl, _, rfl, ?_⟩
              have MX := M2.later sx
              rw [List.take_of_length_le (by omega)] at hws
              refine ite2 (fun c0 => ?_) (fun c0 => ?_)
              · have c0 : decide (V.int (ws.length : Int) = V.int 0) = true := c0
                have h0 : ws = [] := List.length_eq_zero_iff.mp (by
                  have := V.int.inj (of_decide_eq_true c0)
                  omega)
                have hall := hws.mp h0
                have htX := hty.mono (Same.tups (s2.trans sx))
                refine ⟨_, rfl, _, rfl, d, kvs1, t, rfl, rfl, MX.at_, MX.ent.deep, by omega, htX, by omega, ?_⟩
                refine ⟨putT kvs1 t y2, rfl, MX.put htX gt dt htm (Bd.of_pieces cnm fun p hp => M1.bd p (hall p hp)), putT_grow _ _ _, fun _ _ => ?_⟩
                rw [mem_putT]
                exact .inr rfl
              · refine ⟨kvs1, rfl, MX, ⟨[], by simp⟩, fun _ hall => ?_⟩
                have c0 : ¬ decide (V.int (ws.length : Int) = V.int 0) = true := c0
                have h0 := hws.mpr hall
                subst h0
                exact absurd rfl c0
        · have cn : ¬ (!decide (t ∈ tms kvs1)) = true := cn
          refine iteF ⟨kvs1, rfl, M1, ⟨[], by simp⟩, fun _ _ => ?_⟩
          by_cases h : t ∈ tms kvs1
          · exact h
          · rw [decide_eq_false h] at cn
            exact absurd rfl cn
      · rintro σ' H2 ⟨kvs2, rfl, M2, ⟨ex2, hx2⟩, hb2⟩
        have hf2 := M2.few
        have hty2 := hty0.mono (Same.tups M2.same)
        have in12 : ∀ u ∈ tms kvs1, u ∈ tms kvs2 := fun u hu => by rw [hx2, tms_append]; exact List.mem_append_left _ hu
        have in01 : ∀ u ∈ tms kvs, u ∈ tms kvs1 := fun u hu => by rw [hx1, tms_append]; exact List.mem_append_left _ hu
        have hst2 : Step kvs kvs2 (every.take j) := by rw [hx2]; exact hst.grow
        refine ⟨_, rfl, d, rfl, ⟨kvs2, M2.td⟩, _, rfl, kvs2, t, M2.td, hty2, by omega, _, rfl, ?_⟩
        by_cases ct : t ∈ tms kvs2
        · rw [decide_eq_true ct]
          refine iteT ⟨_, rfl, _, rfl, d, kvs2, y2, t, rfl, M2.td, hty2, dt, fun L H3 rs s3 nL eL hrs => ?_⟩
          have M3 := M2.later s3
          have neLd : L ≠ d := fun e => by rw [e, M2.at_] at nL; cases nL
          have hlrs : (opensL (inK kvs2) t).length = rs.length := Paired.length hrs
          refine ⟨L, rfl, ⟨_, SqL.of eL⟩, for_it walk_list (fun m σ H' => ∃ (kvs3 : List TEnt) (e : Option V), σ = [some (.ref R), some (.ref E), some (.ref d), some y2, some y, some (.int kvs.length), e, none] ∧ H' L = some (.lst rs) ∧ TmsAt H' (opensL (inK kvs2) t) rs ∧ Mk w row every d H H' kvs3 ∧ (∃ ex, kvs3 = kvs2 ++ ex) ∧ ∀ u ∈ (opensL (inK kvs2) t).take m, u ∈ tms kvs3)
            ⟨kvs2, _, rfl, eL, hrs, M3, ⟨[], by simp⟩, fun u hu => (nomatch hu)⟩ (fun _ _ _ _ ⟨_, _, _, h, _⟩ => SqL.of h) (fun m z σ Hx Hy hm ⟨kvs3, e3, es, eL3, hrs3, M3, ⟨ex3, hx3⟩, hin3⟩ ⟨ey, hzz⟩ => ?_) (fun σ Hx ⟨kvs3, e3, es, eL3, hrs3, M3, ⟨ex3, hx3⟩, hin3⟩ => ?_)⟩
          · subst ey es
            obtain ⟨u, hu2, huz⟩ := paired_at hrs3 hzz
            have hum := List.mem_of_getElem? hu2
            have huo := hum
            rw [mem_opensL (kp := fun k => inK kvs2 k = true) (fun _ => Iff.rfl)] at huo
            have gu : Good u := kid_good gt huo.kid
            have du : u.depth ≤ 4 := by have := kid_depth huo.kid; omega
            have ue : u ∈ every := W.kid _ htm _ huo.kid
            have ub : Bd row u := (M2.bd t ct).opens (huo.mono fun k _ hk => M2.bd k (inK_true.mp hk))
            have hf3 := M3.few
            refine ⟨_, rfl, _, rfl, d, kvs3, u, rfl, rfl, M3.at_, M3.ent.deep, by omega, huz, by omega, ?_⟩
            obtain ⟨ex4, hx4⟩ := putT_grow kvs3 u z
            refine ⟨putT kvs3 u z, _, rfl, by rw [upd_ne neLd]; exact eL3, hrs3.mono (Tups.updT M3.at_), M3.put huz gu du ue ub, ⟨ex3 ++ ex4, by rw [hx4, hx3, List.append_assoc]⟩, fun v hv => ?_⟩
            rw [take_snoc hu2] at hv
            rw [mem_putT]
            rcases List.mem_append.mp hv with h | h
            · exact .inl (hin3 v h)
            · exact .inr (List.mem_singleton.mp h)
          · subst es
            rw [List.take_of_length_le (by omega)] at hin3
            have in23 : ∀ u ∈ tms kvs2, u ∈ tms kvs3 := fun u hu => by rw [hx3, tms_append]; exact List.mem_append_left _ hu
            refine ⟨kvs3, _, _, rfl, M3, ⟨ex1 ++ (ex2 ++ ex3), by rw [hx3, hx2, hx1]; simp⟩, fun u hu => ?_⟩
            rw [take_snoc ht] at hu
            rcases List.mem_append.mp hu with h | h
            · have := hst2.grow (ex := ex3) u h
              rw [hx3]
              exact this
            · rw [List.mem_singleton.mp h]
              refine ⟨fun a b => in23 _ (hb2 a fun p hp => in01 p (b p hp)), fun _ v hv => hin3 v ?_⟩
              rw [mem_opensL (kp := fun k => inK kvs2 k = true) (fun _ => Iff.rfl)]
              exact hv.mono fun k _ hk => inK_true.mpr (in12 k (in01 k hk))
        · rw [decide_eq_false ct]
          refine iteF ⟨kvs2, _, _, rfl, M2, ⟨ex1 ++ ex2, by rw [hx2, hx1]; simp⟩, fun u hu => ?_⟩
          rw [take_snoc ht] at hu
          rcases List.mem_append.mp hu with h | h
          · exact hst2 u h
          · rw [List.mem_singleton.mp h]
            exact ⟨fun a b => hb2 a fun p hp => in01 p (b p hp), fun ht0 => absurd (in12 _ (in01 _ ht0)) ct⟩
    · subst es
      rw [← hyl, List.take_length] at hst
      have hl1 : kvs1.length = kvs.length + ex1.length := by rw [hx1, List.length_append]
      have hin1 : ∀ u ∈ row, u ∈ tms kvs1 := fun u hu => by rw [hx1, tms_append]; exact List.mem_append_left _ (hin u hu)
      refine ⟨_, rfl, d, kvs1, rfl, M1.td, _, rfl, rfl, _, rfl, ?_⟩
      refine ite2 (fun cl => ?_) (fun cl => ?_)
      · have cl : decide (V.int (kvs1.length : Int) = V.int (kvs.length : Int)) = true := cl
        have e := V.int.inj (of_decide_eq_true cl)
        have h0 : ex1 = [] := List.length_eq_zero_iff.mp (by omega)
        rw [h0, List.append_nil] at hx1
        subst hx1
        exact ⟨_, rfl, q d Hc kvs1 M1 ⟨hin1, M1.sub, M1.bd, fun t ht a b => (hst t ht).1 a b, fun t ht u hu => (hst t (M1.sub t ht)).2 ht u hu⟩⟩
      · have cl : ¬ decide (V.int (kvs1.length : Int) = V.int (kvs.length : Int)) = true := cl
        refine ⟨kvs1, _, _, _, _, rfl, M1, hin1, ?_⟩
        have hne : ex1.length ≠ 0 := fun h => cl (by rw [hl1, h]; exact decide_eq_true rfl)
        omega
  · have := M.few
    have h4 : ((400 : Int)).toNat = 400 := rfl
    omega
end
end K12

set_option Elab.async false
set_option linter.all false
set_option maxRecDepth 100000
set_option maxHeartbeats 4000000
namespace K12
open PySem PySem.Spec L2

theorem ne_bag {H : Hp} {b p : Addr} (h : BagAt H b) (n : H p = none) : p ≠ b := fun e => by
  obtain ⟨xs, eb⟩ := h.lst
  rw [e, eb] at n
  cases n
theorem BagAt.tups {H H' : Hp} {b : Addr} (h : BagAt H b) (k : Keep b H H') : Tups H H' := by
  obtain ⟨xs, e⟩ := h.lst
  exact k.tups e
/-- the object at R is new since H: it may change -/
theorem Keep.grow {H H' : Hp} {b R : Addr} {o : HO} (k : Keep b H H') (nR : H R = none) (ne : R ≠ b) : Keep b H (L2.upd H' R o) := ⟨fun p u np ep => by
  have np' : p ≠ R := fun e => by rw [e, nR] at ep; cases ep
  rw [upd_ne np']
  exact k.els _ _ np ep, fun l r e => by
  rw [upd_ne ne.symm]
  exact k.hd l r e⟩
theorem tms_names {H : Hp} : ∀ Ns : List Str, TmsAt H (Ns.map Tm.nm) (Ns.map V.str)
  | [] => .nil
  | x :: r => .cons rfl (tms_names r)
/-- all that is asked for: halves of names, parts of the terms -/
structure Every (Ns : List Str) (ts es : List Tm) : Prop where
  mem : ∀ u, u ∈ es ↔ (∃ x ∈ Ns, u = .half x) ∨ ∃ t ∈ ts, u ∈ t.parts
theorem Every.whole {Ns : List Str} {ts es : List Tm} (h : Every Ns ts es) (hn : OfN Ns ts) (hx : ∀ x ∈ Ns, Tm.nm x ∈ ts) : Whole es := by
  refine ⟨fun t ht k hk => ?_, fun t ht x hx' => ?_⟩
  · rcases (h.mem t).mp ht with ⟨x, hx2, rfl⟩ | ⟨r, hr, hp⟩
    · simp [Tm.kids] at hk
      subst hk
      exact (h.mem _).mpr (.inr ⟨_, hx x hx2, Tm.self_parts _⟩)
    · exact (h.mem k).mpr (.inr ⟨r, hr, Tm.parts_trans hp (Tm.kid_part hk)⟩)
  · refine (h.mem _).mpr (.inl ⟨x, ?_, rfl⟩)
    rcases (h.mem t).mp ht with ⟨y, hy, rfl⟩ | ⟨r, hr, hp⟩
    · simp [Tm.names] at hx'
      rw [hx']
      exact hy
    · exact (hn r hr).1 x (Tm.part_names hp x hx')
theorem Every.small {Ns : List Str} {ts es : List Tm} (h : Every Ns ts es) (hn : OfN Ns ts) (hg : ∀ x ∈ Ns, GoodNm x) : Smalls es := fun t ht => by
  rcases (h.mem t).mp ht with ⟨y, hy, rfl⟩ | ⟨r, hr, hp⟩
  · exact ⟨fun x hx => by
      simp [Tm.names] at hx
      rw [hx]
      exact hg y hy, by simp [Tm.depth]⟩
  · exact ⟨fun x hx => hg x ((hn r hr).1 x (Tm.part_names hp x hx)), Nat.le_trans (Tm.part_depth hp) (hn r hr).2⟩
def spLaw (K : PySem.W.Frag) : Sp := fun vs H Q _ => ∃ (a : Addr) (ns : List Int), vs = [.ref a] ∧ SqL K H a (ns.map V.int) ∧ ns.length ≤ 63 ∧ ∀ H', Q (.bl true) H'
/-- what the walks of the law's callees give -/
structure Calls (P : Program) (w : World) (K : PySem.W.Frag) (mg : Str → Option Value) (base : Heap) (fB fN fD fH fK fT fA fM fC fS fO fI : Addr) (dB dN dD dH dK dT dA dM dC dS dO dI : FuncData) : Prop where
  dnB : Dn K mg "_law_bag" sBag ["_law_script"] fB dB
  okB : FnOk P w K mg base CX0 1 fB dB ["_law_script"] (spBag K)
  dnN : Dn K mg "_law_names" sNames ["_law_bag_here", "_law_many"] fN dN
  okN : FnOk P w K mg base CX0 2 fN dN ["_law_bag_here", "_law_many"] spNames
  dnD : Dn K mg "_law_draw" sDraw ["_law_bag_here", "_law_many"] fD dD
  okD : FnOk P w K mg base CX0 1 fD dD ["_law_bag_here", "_law_many"] spDraw
  dnH : Dn K mg "_law_hearing" sHearing ["_law_bag_here", "_law_names_here", "_law_many"] fH dH
  okH : FnOk P w K mg base CX0 9 fH dH ["_law_bag_here", "_law_names_here", "_law_many"] (spHearing K)
  dnK : Dn K mg "_law_pick" sPick ["_law_bag_here", "_law_things"] fK dK
  okK : FnOk P w K mg base CX0 2 fK dK ["_law_bag_here", "_law_things"] (spPick K)
  dnT : Dn K mg "_law_term" sTerm ["_law_bag_here", "_law_names_here", "_law_depth"] fT dT
  okT : FnOk P w K mg base CX0 8 fT dT ["_law_bag_here", "_law_names_here", "_law_depth"] (spTerm K 4)
  dnA : Dn K mg "_law_parts" sParts ["_law_term_here"] fA dA
  okA : FnOk P w K mg base CX0 4 fA dA ["_law_term_here"] (spParts 4)
  dnM : Dn K mg "_law_made" sMade ["_law_row", "_law_every"] fM dM
  okM : FnOk P w K mg base CX0 2 fM dM ["_law_row", "_law_every"] (spMade w)
  dnC : Dn K mg "can_make" sCanMake ["hearing", "term"] fC dC
  okC : FnOk P w K mg base CX0 10 fC dC ["hearing", "term"] spCanMake
  dnS : Dn K mg "_law_same" sSame ["_law_actual", "_law_due"] fS dS
  okS : FnOk P w K mg base CX0 1 fS dS ["_law_actual", "_law_due"] spSame
  dnO : Dn K mg "opened" sOpened ["hearing"] fO dO
  okO : FnOk P w K mg base CX0 10 fO dO ["hearing"] spOpened
  dnI : Dn K mg "_law_opens" sOpens ["_law_made_here", "_law_term_here"] fI dI
  okI : FnOk P w K mg base CX0 1 fI dI ["_law_made_here", "_law_term_here"] (spOpens w)
section
variable {P : Program} {w : World} {K : PySem.W.Frag} {mg : Str → Option Value} {base : Heap} {f fB fN fD fH fK fT fA fM fC fS fO fI : Addr} {fd dB dN dD dH dK dT dA dM dC dS dO dI : FuncData}
theorem scLaw : FnScope ["_law_script", "_law_bag_here", "_law_names_here", "_law_row", "_law_term_here", "_law_wanted", "_law_every", "_law_made_here", "_law_told", "_law_turn", "_law_name", "_law_part", "_law_inner"] ["_law_script"] (defScope sLaw) := ⟨rfl, rfl, rfl, by decide +kernel, rfl, by decide +kernel, by decide +kernel⟩
theorem ok_law (D : Dn K mg "law" sLaw ["_law_script"] f fd) (G : Glb K w mg) (C : Calls P w K mg base fB fN fD fH fK fT fA fM fC fS fO fI dB dN dD dH dK dT dA dM dC dS dO dI) :
    FnOk P w K mg base CX0 11 f fd ["_law_script"] (spLaw K) := by
  refine D.F.ok scLaw (fun vs H Q E h => ?_) (fun cdv A outer s H vs Q E hr h => ?_)
  · obtain ⟨a, ns, rfl, _⟩ := h
    rfl
  obtain ⟨a, ns, rfl, ha, h63, q⟩ := h
  have hr1 : Room 1 _ := hr.mono (by omega)
  have hr2 : Room 2 _ := hr.mono (by omega)
  have hr4 : Room 4 _ := hr.mono (by omega)
  have hr8 : Room 8 _ := hr.mono (by omega)
  have hr9 : Room 9 _ := hr.mono (by omega)
  have hr10 : Room 10 _ := hr.mono (by omega)
  have hu : (A.deeper (PyProof.Rows.envOfC "law" (defScope sLaw) s.heap.objs.size f cdv)).units + 9 < cLine := by have := hr.un; omega
  have hu65 : (A.deeper (PyProof.Rows.envOfC "law" (defScope sLaw) s.heap.objs.size f cdv)).units + 65 < cLine := by have := hr.un; omega
  have hz := sizeLine_eq
  refine ⟨_, (pss_cons (ps_set (i := 1) scLaw.nd rfl (Or.inr rfl) (pe_call C.okB hr1 rfl C.dnB.g C.dnB.F.kp C.dnB.b .nil pass0 (pa_cons (pv 0) pa_nil)))
    (pss_cons (ps_set (i := 2) scLaw.nd rfl (Or.inr rfl) (pe_call C.okN hr2 rfl C.dnN.g C.dnN.F.kp C.dnN.b .nil pass0 (pa_cons (pv 1) (pa_cons (pe_op op_add pe_int (pe_call C.okD hr1 rfl C.dnD.g C.dnD.F.kp C.dnD.b .nil pass0 (pa_cons (pv 1) (pa_cons pe_int pa_nil)))) pa_nil))))
    (pss_cons (ps_set (i := 3) scLaw.nd rfl (Or.inl rfl) (pe_lst pa_nil))
    (pss_cons (ps_for PassesOwn.never rfl (pi_list (pe_call C.okH hr9 rfl C.dnH.g C.dnH.F.kp C.dnH.b .nil pass0 (pa_cons (pv 1) (pa_cons (pv 2) (pa_cons (pe_call C.okD hr1 rfl C.dnD.g C.dnD.F.kp C.dnD.b .nil pass0 (pa_cons (pv 1) (pa_cons pe_int pa_nil))) pa_nil))))) (pg_name (i := 4) scLaw.nd rfl (Or.inl rfl))
        (pss_one (ps_expr (pe_bm PySem.F.plainAttrs_list PySem.F.slot_list_append PySem.F.type_list_append mt_append (pv 3) (pa_cons (pe_call C.okK hr2 rfl C.dnK.g C.dnK.F.kp C.dnK.b .nil pass0 (pa_cons (pv 1) (pa_cons (pe_lst (pa_cons (pv 4) (pa_cons (pe_call C.okT hr8 rfl C.dnT.g C.dnT.F.kp C.dnT.b .nil pass0 (pa_cons (pv 1) (pa_cons (pv 2) (pa_cons pe_int pa_nil)))) (pa_cons (pe_tup (pa_cons pe_str (pa_cons (pe_ix ix_list (pv 2) pe_int (fun _ _ => rfl)) pa_nil))) pa_nil)))) pa_nil))) pa_nil)))))
    (pss_cons (ps_set (i := 5) scLaw.nd rfl (Or.inl rfl) (pe_op op_cat (pe_op op_cat (pe_lc (own := [("_law_turn", 9)]) (g := gName 9) rfl scLaw.nd (pi_range1 (by rfl) G.range (pa_cons pe_int pa_nil)) (blkOk_by (own := [("_law_turn", 9)]) (N := ["_law_script", "_law_bag_here", "_law_names_here", "_law_row", "_law_term_here", "_law_wanted", "_law_every", "_law_made_here", "_law_told", "_law_turn", "_law_name", "_law_part", "_law_inner"]) (sc := defScope sLaw) (by decide +kernel))
      (fun _ _ _ _ _ => pg_name (i := 9) scLaw.nd rfl (Or.inl rfl)) (fun _ _ _ _ _ => pts_nil) (fun _ _ _ _ _ => (pe_call C.okT hr8 rfl C.dnT.g C.dnT.F.kp C.dnT.b .nil pass0 (pa_cons (pv 1) (pa_cons (pv 2) (pa_cons pe_int pa_nil)))))) (pe_lst (pa_cons (pe_call C.okT hr8 rfl C.dnT.g C.dnT.F.kp C.dnT.b .nil pass0 (pa_cons (pv 1) (pa_cons (pv 2) (pa_cons pe_int pa_nil)))) pa_nil))) (pv 2)))
    (pss_cons (ps_set (i := 6) scLaw.nd rfl (Or.inr rfl) (pe_lc (own := [("_law_name", 10)]) (g := gName 10) rfl scLaw.nd (pi_list (pv 2)) (blkOk_by (own := [("_law_name", 10)]) (N := ["_law_script", "_law_bag_here", "_law_names_here", "_law_row", "_law_term_here", "_law_wanted", "_law_every", "_law_made_here", "_law_told", "_law_turn", "_law_name", "_law_part", "_law_inner"]) (sc := defScope sLaw) (by decide +kernel))
      (fun _ _ _ _ _ => pg_name (i := 10) scLaw.nd rfl (Or.inl rfl)) (fun _ _ _ _ _ => pts_nil) (fun _ _ _ _ _ => (pe_tup (pa_cons pe_str (pa_cons (pv 10) pa_nil))))))
    (pss_cons (ps_for PassesOwn.never rfl (pi_list (pe_op op_cat (pv 3) (pv 5))) (pg_name (i := 4) scLaw.nd rfl (Or.inl rfl))
        (pss_one (ps_set (i := 6) scLaw.nd rfl (Or.inr rfl) (pe_op op_cat (pv 6) (pe_lc (own := [("_law_part", 11)]) (g := gName 11) rfl scLaw.nd (pi_list (pe_call C.okA hr4 rfl C.dnA.g C.dnA.F.kp C.dnA.b .nil pass0 (pa_cons (pv 4) pa_nil))) (blkOk_by (own := [("_law_part", 11)]) (N := ["_law_script", "_law_bag_here", "_law_names_here", "_law_row", "_law_term_here", "_law_wanted", "_law_every", "_law_made_here", "_law_told", "_law_turn", "_law_name", "_law_part", "_law_inner"]) (sc := defScope sLaw) (by decide +kernel))
      (fun _ _ _ _ _ => pg_name (i := 11) scLaw.nd rfl (Or.inl rfl)) (fun _ _ _ _ _ => pts_one (pt_cmpR (r := rNotInD K) (op_notInD hu65) (pv 11) (pv 6) (by rfl))) (fun _ _ _ _ _ => (pv 11)))))))
    (pss_cons (ps_set (i := 7) scLaw.nd rfl (Or.inl rfl) (pe_call C.okM hr2 rfl C.dnM.g C.dnM.F.kp C.dnM.b .nil pass0 (pa_cons (pv 3) (pa_cons (pv 6) pa_nil))))
    (pss_cons (ps_for PassesOwn.never rfl (pi_list (pv 6)) (pg_name (i := 4) scLaw.nd rfl (Or.inl rfl))
        (pss_one (ps_if (pt_not (pt_val (pe_call C.okS hr1 rfl C.dnS.g C.dnS.F.kp C.dnS.b .nil pass0 (pa_cons (pe_call C.okC hr10 rfl C.dnC.g C.dnC.F.kp C.dnC.b .nil pass0 (pa_cons (pv 3) (pa_cons (pv 4) pa_nil))) (pa_cons (pe_tget hu (pv 7) (pv 4) ⟨rfl, rfl, rfl, rfl⟩) pa_nil))))) (pss_one (ps_ret pe_bl)) pss_nil)))
    (pss_cons (ps_set (i := 8) scLaw.nd rfl (Or.inr rfl) (pe_call C.okO hr10 rfl C.dnO.g C.dnO.F.kp C.dnO.b .nil pass0 (pa_cons (pv 3) pa_nil)))
    (pss_cons (ps_for PassesOwn.never rfl (pi_list (pv 8)) (pg_name (i := 4) scLaw.nd rfl (Or.inl rfl))
        (pss_cons (ps_if (pt_not (pt_val (pe_tget hu (pv 7) (pv 4) ⟨rfl, rfl, rfl, rfl⟩))) (pss_one (ps_ret pe_bl)) pss_nil)
    (pss_one (ps_if (pt_cmpR op_gt (pe_callB call_len_seq (by rfl) G.len PySem.boot_len (pa_cons (pe_lc (own := [("_law_inner", 12)]) (g := gName 12) rfl scLaw.nd (pi_list (pe_call C.okI hr1 rfl C.dnI.g C.dnI.F.kp C.dnI.b .nil pass0 (pa_cons (pv 7) (pa_cons (pv 4) pa_nil)))) (blkOk_by (own := [("_law_inner", 12)]) (N := ["_law_script", "_law_bag_here", "_law_names_here", "_law_row", "_law_term_here", "_law_wanted", "_law_every", "_law_made_here", "_law_told", "_law_turn", "_law_name", "_law_part", "_law_inner"]) (sc := defScope sLaw) (by decide +kernel))
      (fun _ _ _ _ _ => pg_name (i := 12) scLaw.nd rfl (Or.inl rfl)) (fun _ _ _ _ _ => pts_one (pt_cmpR (r := rNotInD K) (op_notInD hu65) (pv 12) (pv 8) (by rfl))) (fun _ _ _ _ _ => (pv 12))) pa_nil)) pe_int (nomark _)) (pss_one (ps_ret pe_bl)) pss_nil))))
    (pss_one (ps_ret (pe_cmpR op_eq (pe_callB call_len_seq (by rfl) G.len PySem.boot_len (pa_cons (pe_lc (own := [("_law_term_here", 4)]) (g := gName 4) rfl scLaw.nd (pi_list (pv 3)) (blkOk_by (own := [("_law_term_here", 4)]) (N := ["_law_script", "_law_bag_here", "_law_names_here", "_law_row", "_law_term_here", "_law_wanted", "_law_every", "_law_made_here", "_law_told", "_law_turn", "_law_name", "_law_part", "_law_inner"]) (sc := defScope sLaw) (by decide +kernel))
      (fun _ _ _ _ _ => pg_name (i := 4) scLaw.nd rfl (Or.inl rfl)) (fun _ _ _ _ _ => pts_one (pt_cmpR (r := rNotInD K) (op_notInD hu65) (pv 4) (pv 8) (by rfl))) (fun _ _ _ _ _ => (pv 4))) pa_nil)) pe_int (nomark _))))))))))))))), ?_⟩
  -- the bag, the names
  refine ⟨_, rfl, a, ns, rfl, ha, h63, fun b H1 s1 b1 => ?_⟩
  refine ⟨_, rfl, _, rfl, b, 2, rfl, b1, by decide, by decide, fun d0 H2 d00 d01 k2 b2 => ?_⟩
  refine ⟨2, d0, rfl, rfl, b, 2 + d0, rfl, by omega, by omega, b2, fun nl H3 Ns k3 b3 nN eN hNl hg => ?_⟩
  have neN := ne_bag b2 nN
  have hNp : 0 < Ns.length := by omega
  have hN3 : Ns.length ≤ 3 := by omega
  have nms3 : Nms K H3 b nl Ns := ⟨SqL.of eN, neN, hNp, by omega⟩
  -- the row
  refine ⟨Nat.zero_le _, fun R nR => ?_⟩
  have neR := ne_bag b3 nR
  have s34 := same_new nR (.lst [])
  generalize hH4 : upd H3 R (.lst []) = H4 at s34
  have eR4 : H4 R = some (.lst []) := by rw [← hH4]; exact upd_same
  clear hH4
  have b4 := b3.keeps s34
  have k34 : Keep b H3 H4 := Keep.of s34
  refine ⟨_, rfl, _, rfl, _, rfl, b, 5, rfl, b4, by decide, by decide, fun d5 H5 d50 d51 k5 b5 => ?_⟩
  refine ⟨b, nl, Ns, d5, rfl, d50, by omega, b5, nms3.keep (k34.trans k5), hg, fun L H6 ts rs k6 b6 nL eL hrs hsm hl4 => ?_⟩
  have k36 := k34.trans (k5.trans k6)
  have eR6 : H6 R = some (.lst []) := (k5.trans k6).els _ _ neR eR4
  have neL := ne_bag b5 nL
  have neLR : L ≠ R := fun e => by rw [e, k5.els _ _ neR eR4] at nL; cases nL
  have hlrs : ts.length = rs.length := Paired.length hrs
  obtain ⟨x0, Nr, eNs⟩ : ∃ x0 Nr, Ns = x0 :: Nr := by
    cases Ns with
    | nil => exact absurd hNp (by simp)
    | cons x r => exact ⟨x, r, rfl⟩
  have hx0 : x0 ∈ Ns := by rw [eNs]; exact List.mem_cons_self
  refine ⟨L, rfl, ⟨_, SqL.of eL⟩, for_it walk_list (fun i σ H' => ∃ (row : List Tm) (rrs : List V) (c : Option V), σ = [some (.ref a), some (.ref b), some (.ref nl), some (.ref R), c, none, none, none, none, none, none, none, none] ∧ Keep b H3 H' ∧ BagAt H' b ∧ H' L = some (.lst rs) ∧ TmsAt H' ts rs ∧ H' R = some (.lst rrs) ∧ TmsAt H' row rrs ∧ OfN Ns row ∧ row.length = i)
    ⟨[], [], none, rfl, k36, b6, eL, hrs, eR6, .nil, fun t h => (nomatch h), rfl⟩ (fun _ _ _ _ ⟨_, _, _, _, _, _, h, _⟩ => SqL.of h) (fun i y σ Ha Hb hi ⟨row, rrs, c, es, ka, ba, eLa, hrsa, eRa, hrow, hof, hrl⟩ ⟨eb, hy⟩ => ?_) (fun σ H7 ⟨row, rrs, c, es, k7, b7, eL7, hrs7, eR7, hrow7, hof, hrl⟩ => ?_)⟩
  · subst eb es
    obtain ⟨t, ht, hty⟩ := paired_at hrsa hy
    have htm := List.mem_of_getElem? ht
    have hlrr : row.length = rrs.length := Paired.length hrow
    refine ⟨_, rfl, .inl ⟨rfl, _, SqL.of eRa⟩, ?_⟩
    refine ⟨_, rfl, _, rfl, _, rfl, _, rfl, b, nl, Ns, 3, rfl, by decide, by decide, ba, nms3.keep ka, fun v2 t2 H8 r8 => ?_⟩
    have k8 := ka.trans r8.kp
    refine ⟨_, rfl, nl, _, 0, _, rfl, rfl, SqL.of (k8.els _ _ neN eN), by rw [eNs]; exact at_0 _ _, (by show 2 ≤ sizeLine; decide), fun T nT => ?_⟩
    have sT := same_new nT (.tup [V.str ("half" : Str), .str x0])
    refine ⟨(by show 3 ≤ sizeLine; decide), fun A1 nA => ?_⟩
    have sA := same_new nA (.lst [y, v2, .ref T])
    have sTA := sT.trans sA
    have bA := r8.bag.keeps sTA
    refine ⟨b, A1, _, rfl, bA, SqL.of upd_same, ne_bag (r8.bag.keeps sT) nA, by simp, by simp, fun v H9 hv k9 b9 => ?_⟩
    have ka9 : Keep b Hb H9 := r8.kp.trans ((Keep.of sTA).trans k9)
    have t9 := bA.tups k9
    have hvt : ∃ t', TmAt H9 t' v ∧ (∀ x ∈ t'.names, x ∈ Ns) ∧ t'.depth ≤ 4 := by
      simp at hv
      rcases hv with rfl | rfl | rfl
      · exact ⟨t, hty.mono (ba.tups ka9), (hsm t htm).1, (hsm t htm).2⟩
      · exact ⟨t2, (r8.tm.mono (Same.tups sTA)).mono t9, r8.nm, by have := r8.dp; omega⟩
      · refine ⟨.half x0, ⟨T, rfl, ?_⟩, fun x hx => ?_, by simp [Tm.depth]⟩
        · exact t9 _ _ (sA _ _ upd_same)
        · simp [Tm.names] at hx
          rw [hx]
          exact hx0
    obtain ⟨t', htv, hn', hd'⟩ := hvt
    have eR9 := ka9.els _ _ neR eRa
    have eL9 := ka9.els _ _ neL eLa
    have tu := Tups.upd (o := .lst (rrs ++ [v])) eR9
    refine ⟨R, _, _, rfl, rfl, eR9, by omega, ?_⟩
    exact ⟨row ++ [t'], rrs ++ [v], _, rfl, (ka.trans ka9).grow nR neR, b9.grow b3 (ka.trans ka9) nR, by rw [upd_ne neLR]; exact eL9, (hrsa.mono (ba.tups ka9)).mono tu, upd_same, Paired.snoc ((hrow.mono (ba.tups ka9)).mono tu) (htv.mono tu), hof.app (OfN.one hn' hd'), by simp [hrl]⟩
  subst es
  have hrow4 : row.length ≤ 4 := by omega
  have hlrr : row.length = rrs.length := Paired.length hrow7
  have nms7 := nms3.keep k7
  -- what is wanted
  refine ⟨(4 : Int), rfl, by decide, by decide, fun D1 nD => ?_⟩
  have neD := ne_bag b7 nD
  have sD := same_new nD (.lst [])
  refine lc_it walk_range (fun j H' => Keep b H7 H' ∧ BagAt H' b ∧ ∃ (ws : List Tm) (wvs : List V), H' D1 = some (.lst wvs) ∧ TmsAt H' ws wvs ∧ OfN Ns ws ∧ ws.length = j)
    ⟨Keep.of sD, b7.keeps sD, [], [], upd_same, .nil, fun t h => (nomatch h), rfl⟩ (fun _ _ _ _ => trivial) (fun j x Hc Hd hj ⟨kc, bc, ws, wvs, eD, hws, how, hwl⟩ ⟨ed, hx⟩ => ?_) (fun H8 ⟨k8, b8, ws, wvs, eD8, hws8, how, hwl⟩ => ?_)
  · subst ed
    refine ⟨rfl, _, rfl, _, rfl, b, nl, Ns, 3, rfl, by decide, by decide, bc, nms7.keep kc, fun v t H9 r9 => ?_⟩
    have eD9 := r9.kp.els _ _ neD eD
    have hlw : ws.length = wvs.length := Paired.length hws
    have hj4 : ((4 : Int)).toNat = 4 := rfl
    have tu := Tups.upd (o := .lst (wvs ++ [v])) eD9
    refine ⟨wvs, eD9, by omega, (kc.trans r9.kp).grow nD neD, r9.bag.grow b7 (kc.trans r9.kp) nD, ws ++ [t], wvs ++ [v], upd_same, Paired.snoc ((hws.mono (bc.tups r9.kp)).mono tu) (r9.tm.mono tu), how.app (OfN.one r9.nm (by have := r9.dp; omega)), by simp [hwl]⟩
  have hj4 : ((4 : Int)).toNat = 4 := rfl
  have hlw : ws.length = wvs.length := Paired.length hws8
  refine ⟨_, rfl, _, rfl, b, nl, Ns, 4, rfl, by decide, by decide, b8, nms7.keep k8, fun v t H9 r9 => ?_⟩
  have k79 := k8.trans r9.kp
  have eD9 := r9.kp.els _ _ neD eD8
  refine ⟨(by show 1 ≤ sizeLine; decide), fun B1 nB => ?_⟩
  have sB := same_new nB (.lst [v])
  refine ⟨D1, B1, wvs, [v], rfl, rfl, sB _ _ eD9, upd_same, by simp; omega, fun C1 nC => ?_⟩
  have sC := same_new nC (.lst (wvs ++ [v]))
  have eN9 := (k7.trans k79).els _ _ neN eN
  refine ⟨_, rfl, C1, nl, wvs ++ [v], Ns.map V.str, rfl, rfl, upd_same, (sB.trans sC) _ _ eN9, by simp; omega, fun W nW => ?_⟩
  have sW := same_new nW (.lst ((wvs ++ [v]) ++ Ns.map V.str))
  have s9 := sB.trans (sC.trans sW)
  have eRW := s9 _ _ (k79.els _ _ neR eR7)
  have eNW := s9 _ _ eN9
  have hrowW := (hrow7.mono (b7.tups k79)).mono (Same.tups s9)
  have hwtW : TmsAt _ ((ws ++ [t]) ++ Ns.map Tm.nm) ((wvs ++ [v]) ++ Ns.map V.str) := Paired.app (Paired.snoc ((hws8.mono (b8.tups r9.kp)).mono (Same.tups s9)) (r9.tm.mono (Same.tups s9))) (tms_names Ns)
  have howt : OfN Ns ((ws ++ [t]) ++ Ns.map Tm.nm) := (how.app (OfN.one r9.nm (by have := r9.dp; omega))).app fun u hu => by
    obtain ⟨x, hx, rfl⟩ := List.mem_map.mp hu
    refine ⟨fun z hz => ?_, by simp [Tm.depth]⟩
    simp [Tm.names] at hz
    rw [hz]
    exact hx
  have hwtl : ((ws ++ [t]) ++ Ns.map Tm.nm).length ≤ 8 := by simp; omega
  have hnmw : ∀ x ∈ Ns, Tm.nm x ∈ (ws ++ [t]) ++ Ns.map Tm.nm := fun x hx => List.mem_append_right _ (List.mem_map.mpr ⟨x, hx, rfl⟩)
  have eWW : upd (upd (upd H9 B1 (.lst [v])) C1 (.lst (wvs ++ [v]))) W (.lst ((wvs ++ [v]) ++ Ns.map V.str)) W = some (.lst ((wvs ++ [v]) ++ Ns.map V.str)) := upd_same
  generalize upd (upd (upd H9 B1 (.lst [v])) C1 (.lst (wvs ++ [v]))) W (.lst ((wvs ++ [v]) ++ Ns.map V.str)) = HW at eRW eNW hrowW hwtW eWW ⊢
  generalize (ws ++ [t]) ++ Ns.map Tm.nm = wts at hwtW howt hwtl hnmw
  generalize (wvs ++ [v]) ++ Ns.map V.str = wtv at hwtW eWW
  have hlwt : wts.length = wtv.length := Paired.length hwtW
  clear hws8 how hwl hlw eD9 eD8 nD sD neD
  -- every: the halves of the names
  refine ⟨_, rfl, nl, rfl, ⟨_, SqL.of eNW⟩, fun E1 nE => ?_⟩
  have sE := same_new nE (.lst [])
  refine lc_it walk_list (fun j H' => Same HW H' ∧ ∃ (hv : List V), H' E1 = some (.lst hv) ∧ TmsAt H' ((Ns.take j).map Tm.half) hv)
    ⟨sE, [], upd_same, .nil⟩ (fun _ _ _ h => SqL.of (h.1 _ _ eNW)) (fun j x Hc Hd hj ⟨sc, hv, eE, hhv⟩ ⟨ed, hx⟩ => ?_) (fun H10 ⟨s10, hv, eE10, hhv⟩ => ?_)
  · subst ed
    rw [List.getElem?_map] at hx
    cases hnx : Ns[j]? with
    | none => rw [hnx] at hx; cases hx
    | some z =>
      rw [hnx] at hx
      obtain rfl : V.str z = x := Option.some.inj hx
      have hlv : ((Ns.take j).map Tm.half).length = hv.length := Paired.length hhv
      rw [List.length_map] at hlv
      have hlt := List.length_take_le' j Ns
      refine ⟨rfl, _, rfl, (by show 2 ≤ sizeLine; decide), fun T nT => ?_⟩
      have sT := same_new nT (.tup [V.str ("half" : Str), .str z])
      have eET := sT _ _ eE
      have tu := Tups.upd (o := .lst (hv ++ [V.ref T])) eET
      refine ⟨hv, eET, by omega, Same.upd (sc.trans sT) nE, hv ++ [.ref T], upd_same, ?_⟩
      rw [take_snoc hnx, List.map_append]
      refine Paired.snoc ((hhv.mono (Same.tups sT)).mono tu) ⟨T, rfl, ?_⟩
      exact tu _ _ upd_same
  rw [List.length_map, List.take_length] at hhv
  have eR10 := s10 _ _ eRW
  have eW10 := s10 _ _ eWW
  have hrow10 := hrowW.mono (Same.tups s10)
  have hwt10 := hwtW.mono (Same.tups s10)
  clear hwtW hrowW
  -- every: the parts
  refine ⟨_, rfl, _, rfl, R, W, _, _, rfl, rfl, eR10, eW10, by omega, fun X nX => ?_⟩
  have sX := same_new nX (.lst (rrs ++ wtv))
  have hofA : OfN Ns (row ++ wts) := hof.app howt
  have hAX : TmsAt (upd H10 X (.lst (rrs ++ wtv))) (row ++ wts) (rrs ++ wtv) := (show TmsAt H10 _ _ from Paired.app hrow10 hwt10).mono (Same.tups sX)
  refine ⟨X, rfl, ⟨_, SqL.of upd_same⟩, for_it walk_list (fun i σ H' => ∃ (E : Addr) (es : List Tm) (evs : List V) (c : Option V), σ = [some (.ref a), some (.ref b), some (.ref nl), some (.ref R), c, some (.ref W), some (.ref E), none, none, none, none, none, none] ∧ Same H10 H' ∧ H' X = some (.lst (rrs ++ wtv)) ∧ TmsAt H' (row ++ wts) (rrs ++ wtv) ∧ H' E = some (.lst evs) ∧ TmsAt H' es evs ∧ Every Ns ((row ++ wts).take i) es ∧ es.length ≤ 3 + 15 * i)
    ⟨E1, Ns.map Tm.half, hv, _, rfl, sX, upd_same, hAX, sX _ _ eE10, hhv.mono (Same.tups sX), ⟨fun u => by
      rw [List.mem_map]
      constructor
      · rintro ⟨x, hx, rfl⟩
        exact .inl ⟨x, hx, rfl⟩
      · rintro (⟨x, hx, rfl⟩ | ⟨t, ht, _⟩)
        · exact ⟨x, hx, rfl⟩
        · cases ht⟩, by rw [List.length_map]; omega⟩ (fun _ _ _ _ ⟨_, _, _, _, _, _, h, _⟩ => SqL.of h) (fun i y σ Ha Hb hi ⟨E, es, evs, c, eσ, sa, eX, hA, eE, hes, hev, hel⟩ ⟨eb, hy⟩ => ?_) (fun σ H11 ⟨E, es, evs, c, eσ, s11, eX, hA, eE, hes, hev, hel⟩ => ?_)⟩
  · subst eb eσ
    obtain ⟨t, ht, hty⟩ := paired_at hA hy
    have htm := List.mem_of_getElem? ht
    obtain ⟨hnt, hdt⟩ := hofA t htm
    have gt : Good t := fun x hx => hg x (hnt x hx)
    have hlA : (row ++ wts).length = (rrs ++ wtv).length := Paired.length hA
    have hi12 : i < 12 := by
      rw [List.length_append] at hlA
      omega
    have hofi : OfN Ns ((row ++ wts).take i) := fun u hu => hofA u (List.mem_of_mem_take hu)
    refine ⟨_, rfl, _, rfl, y, t, rfl, hty, gt, by omega, by omega, fun L2 Hc us ys sc nL2 eL2 hys hus hun => ?_⟩
    have hlu : us.length = ys.length := Paired.length hys
    have hfu := parts_few hdt hus hun
    have eE1 := sc _ _ eE
    have hle : es.length = evs.length := Paired.length hes
    refine ⟨L2, rfl, ⟨_, SqL.of eL2⟩, fun D2 nD2 => ?_⟩
    refine lack_it nD2 eL2 eE1 hys (hes.mono (Same.tups sc)) (parts_small gt hdt hus) (hev.small hofi hg) (by omega) (fun _ => rfl) (fun _ => rfl) (fun _ => rfl) fun Hd zs sd eD hzs => ?_
    have hlz : (lack es us).length = zs.length := Paired.length hzs
    have hlk : (lack es us).length ≤ us.length := List.length_filter_le _ _
    refine ⟨E, D2, evs, zs, rfl, rfl, sd _ _ eE1, eD, by omega, fun N nNw => ?_⟩
    have sn := same_new nNw (.lst (evs ++ zs))
    have scn := (sc.trans sd).trans sn
    refine ⟨N, es ++ lack es us, _, _, rfl, sa.trans scn, scn _ _ eX, hA.mono (Same.tups scn), upd_same, Paired.app (hes.mono (Same.tups scn)) (hzs.mono (Same.tups sn)), ⟨fun u => ?_⟩, by rw [List.length_append]; omega⟩
    rw [mem_more, hev.mem, hus, take_snoc ht]
    simp only [List.mem_append, List.mem_singleton]
    constructor
    · rintro ((h | ⟨k', h1, h2⟩) | h)
      · exact .inl h
      · exact .inr ⟨k', .inl h1, h2⟩
      · exact .inr ⟨t, .inr rfl, h⟩
    · rintro (h | ⟨k', h1 | rfl, h2⟩)
      · exact .inl (.inl h)
      · exact .inl (.inr ⟨k', h1, h2⟩)
      · exact .inr h2
  subst eσ
  have hlA : (row ++ wts).length = (rrs ++ wtv).length := Paired.length hA
  rw [← hlA, List.take_length] at hev
  have hel2 : es.length ≤ 399 := by
    rw [← hlA, List.length_append] at hel
    omega
  have hle : es.length = evs.length := Paired.length hes
  have W0 : Whole es := hev.whole hofA fun x hx => List.mem_append_right _ (hnmw x hx)
  have hse : Smalls es := hev.small hofA hg
  have hsr : Smalls row := hof.small hg
  have hre : ∀ t ∈ row, t ∈ es := fun t ht => (hev.mem t).mpr (.inr ⟨t, List.mem_append_left _ ht, Tm.self_parts t⟩)
  have hrp : ∀ r ∈ row, ∀ u ∈ r.parts, u ∈ es := fun r hr u hu => (hev.mem u).mpr (.inr ⟨r, List.mem_append_left _ hr, hu⟩)
  have eR11 := s11 _ _ eR10
  have hrow11 := hrow10.mono (Same.tups s11)
  clear hA eX hAX sX
  -- made
  refine ⟨_, rfl, _, rfl, R, E, rrs, evs, row, es, rfl, eR11, hrow11, hsr, hrow4, eE, hes, hse, hel2, W0, hre, fun d H12 kvs M hM => ?_⟩
  have hIff := hM.iff W0
  have eR12 := M.same _ _ eR11
  have eE12 := M.same _ _ eE
  have hrow12 := hrow11.mono (Same.tups M.same)
  have hes12 := hes.mono (Same.tups M.same)
  have mtd := M.td
  have hnod := M.nod
  clear M
  refine ⟨_, rfl, E, rfl, ⟨_, SqL.of eE12⟩, for_it walk_list (fun i σ H' => (∃ c, σ = [some (.ref a), some (.ref b), some (.ref nl), some (.ref R), c, some (.ref W), some (.ref E), some (.ref d), none, none, none, none, none]) ∧ Same H12 H')
    ⟨⟨_, rfl⟩, Same.refl _⟩ (fun _ _ _ _ h => SqL.of (h.2 _ _ eE12)) (fun i y σ Ha Hb hi ⟨⟨c, eσ⟩, sa⟩ ⟨eb, hy⟩ => ?_) (fun σ H13 ⟨⟨c, eσ⟩, s13⟩ => ?_)⟩
  · subst eb eσ
    obtain ⟨t, ht, hty0⟩ := paired_at hes12 hy
    have htm := List.mem_of_getElem? ht
    obtain ⟨gt, dt⟩ := hse t htm
    refine ⟨_, rfl, _, rfl, R, y, _, row, t, rfl, sa _ _ eR12, hrow12.mono (Same.tups sa), hsr, hrow4, hty0.mono (Same.tups sa), gt, dt, fun bb Hc sc hb => ?_⟩
    have sac := sa.trans sc
    have td := mtd.same sac
    refine ⟨_, rfl, d, rfl, ⟨kvs, td⟩, _, rfl, kvs, t, td, hty0.mono (Same.tups sac), by omega, bb, _, rfl, _, rfl, ?_⟩
    have e : bb = decide (t ∈ tms kvs) := by
      cases bb with
      | true => exact (decide_eq_true ((hIff t).mpr ⟨htm, hb.mp rfl⟩)).symm
      | false => exact (decide_eq_false fun h => absurd (hb.mpr ((hIff t).mp h).2) (by simp)).symm
    rw [decide_eq_true e]
    exact iteF ⟨⟨_, rfl⟩, sac⟩
  subst eσ
  have eR13 := s13 _ _ eR12
  have hrow13 := hrow12.mono (Same.tups s13)
  have td13 := mtd.same s13
  -- told
  refine ⟨_, rfl, R, _, row, rfl, eR13, hrow13, hsr, hrow4, fun T H14 tt tvs s14 nT eT htt hiff => ?_⟩
  have eR14 := s14 _ _ eR13
  have hrow14 := hrow13.mono (Same.tups s14)
  have td14 := td13.same s14
  have hinE : ∀ u ∈ tt, u ∈ es := fun u hu => by
    obtain ⟨r, hr, hp⟩ := Lc.part ((hiff u).mp hu) rfl
    exact hrp r hr u hp
  have hst : Smalls tt := fun u hu => hse u (hinE u hu)
  refine ⟨_, rfl, T, rfl, ⟨_, SqL.of eT⟩, for_it walk_list (fun i σ H' => (∃ c, σ = [some (.ref a), some (.ref b), some (.ref nl), some (.ref R), c, some (.ref W), some (.ref E), some (.ref d), some (.ref T), none, none, none, none]) ∧ Same H14 H')
    ⟨⟨_, rfl⟩, Same.refl _⟩ (fun _ _ _ _ h => SqL.of (h.2 _ _ eT)) (fun i y σ Ha Hb hi ⟨⟨c, eσ⟩, sa⟩ ⟨eb, hy⟩ => ?_) (fun σ H15 ⟨⟨c, eσ⟩, s15⟩ => ?_)⟩
  · subst eb eσ
    obtain ⟨t, ht, hty0⟩ := paired_at htt hy
    have htm := List.mem_of_getElem? ht
    obtain ⟨gt, dt⟩ := hst t htm
    have hty := hty0.mono (Same.tups sa)
    have td := td14.same sa
    have hin : InC row t := (hiff t).mp htm
    have htM : t ∈ tms kvs := (hIff t).mpr ⟨hinE t htm, .of hin⟩
    refine ⟨_, rfl, d, rfl, ⟨kvs, td⟩, _, rfl, kvs, t, td, hty, by omega, _, rfl, ?_⟩
    rw [decide_eq_true htM]
    refine iteF ⟨_, rfl, _, rfl, d, kvs, y, t, rfl, td, hty, dt, fun L3 Hc us sc nL3 eL3 hus => ?_⟩
    have sac := sa.trans sc
    have hopen : ∀ u ∈ opensL (inK kvs) t, u ∈ tt := fun u hu => by
      rw [mem_opensL (kp := fun k => inK kvs k = true) (fun _ => Iff.rfl)] at hu
      exact (hiff u).mpr (hin.opens (hu.mono fun k _ hk => ((hIff k).mp (inK_true.mp hk)).2))
    have hlo : (opensL (inK kvs) t).length = us.length := Paired.length hus
    have hlo2 : (opensL (inK kvs) t).length ≤ 2 := by
      cases t <;> simp [opensL] <;> split <;> simp
    refine ⟨L3, rfl, ⟨_, SqL.of eL3⟩, fun D3 nD3 => ?_⟩
    refine lack_it nD3 eL3 (sac _ _ eT) hus (htt.mono (Same.tups sac)) (fun u hu => hst u (hopen u hu)) hst (by omega) (fun _ => rfl) (fun _ => rfl) (fun _ => rfl) fun Hd zs sd eD hzs => ?_
    have h0 : lack tt (opensL (inK kvs) t) = [] := List.eq_nil_iff_forall_not_mem.mpr fun u hu => (mem_lack.mp hu).2 (hopen u (mem_lack.mp hu).1)
    rw [h0] at hzs
    cases hzs
    refine ⟨D3, [], rfl, .inl (SqL.of eD), _, 0, rfl, rfl, _, rfl, ?_⟩
    exact iteF ⟨⟨_, rfl⟩, sac.trans sd⟩
  subst eσ
  refine ⟨_, rfl, R, rfl, ⟨_, SqL.of (s15 _ _ eR14)⟩, fun D4 nD4 => ?_⟩
  refine lack_it nD4 (s15 _ _ eR14) (s15 _ _ eT) (hrow14.mono (Same.tups s15)) (htt.mono (Same.tups s15)) hsr hst (by omega) (fun _ => rfl) (fun _ => rfl) (fun _ => rfl) fun Hd zs sd eD hzs => ?_
  have h0 : lack tt row = [] := List.eq_nil_iff_forall_not_mem.mpr fun u hu => (mem_lack.mp hu).2 ((hiff u).mpr (.heard (mem_lack.mp hu).1))
  rw [h0] at hzs
  cases hzs
  exact ⟨D4, [], rfl, .inl (SqL.of eD), rfl, q Hd⟩
end
end K12

set_option Elab.async false
set_option linter.all false
set_option maxRecDepth 100000
set_option maxHeartbeats 4000000
namespace K12
open PySem PySem.Spec L2
/-- one def that the top has laid -/
theorem dn_mk {K : PySem.W.Frag} {h : Heap} {mg : Str → Option Value} {x : Str} {st : Stmt} {ps : List Str} {f : Addr} {oc : Value} {od an : Option Addr} {sl : Array (Option Value)} {kV doc pm cd ct : Value} (X : K.In h) (G : h.Ns mainGlobals mg)
    (a : PySem.W.nsIn K mainGlobals x = some (some (.ref f))) (l : K.lookup f = some ⟨oc, od, .func (PySem.W.fnOf x x (defArgs st) (defBody st) (defScope st) .none kV doc pm an cd ct), sl⟩) (c : PySem.W.codeIn K cd x = true) (k : PySem.W.keepIn K (.ref f) = true)
    (b : ∀ (kV doc pm : Value) (an : Option Addr) (cdv ct : Value) (us : List Value), us.length = ps.length → bindArgs (PySem.W.fnOf x x (defArgs st) (defBody st) (defScope st) .none kV doc pm an cdv ct) ⟨us, []⟩ = pure (ps.zip us)) :
    Dn K mg x st ps f (PySem.W.fnOf x x (defArgs st) (defBody st) (defScope st) .none kV doc pm an cd ct) :=
  ⟨fun_mk (st := st) l c k, (fun_mk (st := st) l c k).binds b, PySem.W.mg_of X G a⟩
/-- all walks together -/
structure Defs (K : PySem.W.Frag) (mg : Str → Option Value) (fNm fRw fLf fMs fHf fIt fCt fSp fBw fGh fPc fIb fOp fLc fCm fOd fB fD fS fN fK fLe fPt fT fA fH fLp fI fM fW : Addr) (dNm dRw dLf dMs dHf dIt dCt dSp dBw dGh dPc dIb dOp dLc dCm dOd dB dD dS dN dK dLe dPt dT dA dH dLp dI dM dW : FuncData) : Prop where
  nNm : Dn K mg "is_name" sIsName ["thing"] fNm dNm
  nRw : Dn K mg "is_row" sIsRow ["thing"] fRw dRw
  nLf : Dn K mg "is_leaf" sIsLeaf ["thing", "open_so"] fLf dLf
  nMs : Dn K mg "measure" sMeasure ["thing", "open_so", "room"] fMs dMs
  nHf : Dn K mg "has_form" sHasForm ["thing", "open_so"] fHf dHf
  nIt : Dn K mg "is_term" sIsTerm ["thing"] fIt dIt
  nCt : Dn K mg "check_term" sCheckTerm ["term"] fCt dCt
  nSp : Dn K mg "spelled" sSpelled ["term"] fSp dSp
  nBw : Dn K mg "by_wordings" sByWordings ["terms"] fBw dBw
  nGh : Dn K mg "good_hearing" sGoodHearing ["hearing"] fGh dGh
  nPc : Dn K mg "pieces" sPieces ["term"] fPc dPc
  nIb : Dn K mg "is_built" sIsBuilt ["found", "term"] fIb dIb
  nOp : Dn K mg "openings" sOpenings ["found", "term"] fOp dOp
  nLc : Dn K mg "least_closed" sLeastClosed ["hearing"] fLc dLc
  nCm : Dn K mg "can_make" sCanMake ["hearing", "term"] fCm dCm
  nOd : Dn K mg "opened" sOpened ["hearing"] fOd dOd
  nB : Dn K mg "_law_bag" sBag ["_law_script"] fB dB
  nD : Dn K mg "_law_draw" sDraw ["_law_bag_here", "_law_many"] fD dD
  nS : Dn K mg "_law_same" sSame ["_law_actual", "_law_due"] fS dS
  nN : Dn K mg "_law_names" sNames ["_law_bag_here", "_law_many"] fN dN
  nK : Dn K mg "_law_pick" sPick ["_law_bag_here", "_law_things"] fK dK
  nLe : Dn K mg "_law_leaf" sLeaf ["_law_bag_here", "_law_names_here", "_law_variables"] fLe dLe
  nPt : Dn K mg "_law_pattern" sPattern ["_law_bag_here", "_law_names_here", "_law_variables", "_law_depth"] fPt dPt
  nT : Dn K mg "_law_term" sTerm ["_law_bag_here", "_law_names_here", "_law_depth"] fT dT
  nA : Dn K mg "_law_parts" sParts ["_law_term_here"] fA dA
  nH : Dn K mg "_law_hearing" sHearing ["_law_bag_here", "_law_names_here", "_law_many"] fH dH
  nLp : Dn K mg "_law_pieces" sLPieces ["_law_term_here"] fLp dLp
  nI : Dn K mg "_law_opens" sOpens ["_law_made_here", "_law_term_here"] fI dI
  nM : Dn K mg "_law_made" sMade ["_law_row", "_law_every"] fM dM
  nW : Dn K mg "law" sLaw ["_law_script"] fW dW
section
variable {P : Program} {w : World} {K : PySem.W.Frag} {mg : Str → Option Value} {base : Heap} {fNm fRw fLf fMs fHf fIt fCt fSp fBw fGh fPc fIb fOp fLc fCm fOd fB fD fS fN fK fLe fPt fT fA fH fLp fI fM fW : Addr} {dNm dRw dLf dMs dHf dIt dCt dSp dBw dGh dPc dIb dOp dLc dCm dOd dB dD dS dN dK dLe dPt dT dA dH dLp dI dM dW : FuncData}
theorem law_all (X : Defs K mg fNm fRw fLf fMs fHf fIt fCt fSp fBw fGh fPc fIb fOp fLc fCm fOd fB fD fS fN fK fLe fPt fT fA fH fLp fI fM fW dNm dRw dLf dMs dHf dIt dCt dSp dBw dGh dPc dIb dOp dLc dCm dOd dB dD dS dN dK dLe dPt dT dA dH dLp dI dM dW) (G : Glb K w mg) : FnOk P w K mg base CX0 11 fW dW ["_law_script"] (spLaw K) := by
  have gD := ok_draw (P := P) (w := w) (base := base) X.nD G.len G.int
  have gB := ok_bag (P := P) (w := w) (base := base) X.nB G.int G.list
  have gK := ok_pick (P := P) (w := w) (base := base) X.nK X.nD gD G.len
  have gLe := ok_leaf (P := P) (w := w) (base := base) X.nLe X.nK gK G.len
  have gPt := all_pattern (P := P) (w := w) (base := base) X.nPt X.nD gD X.nLe gLe 4
  have gT := ok_term (P := P) (w := w) (base := base) (n := 4) X.nT X.nPt gPt
  have gS := ok_same (P := P) (w := w) (base := base) X.nS G.isi G.bool
  have gNm := ok_isname (P := P) (w := w) (base := base) X.nNm G
  have gRw := ok_isrow (P := P) (w := w) (base := base) X.nRw G
  have gLf := ok_isleaf (P := P) (w := w) (base := base) X.nLf G X.nNm gNm
  have gMs := all_measure (P := P) (w := w) (base := base) X.nMs G X.nLf gLf 4
  have gHf := ok_hasform (P := P) (w := w) (base := base) X.nHf G X.nMs gMs
  have gIt := ok_isterm (P := P) (w := w) (base := base) X.nIt X.nHf gHf
  have gCt := ok_checkterm (P := P) (w := w) (base := base) X.nCt X.nIt gIt
  have gSp := all_spelled (P := P) (w := w) (base := base) X.nSp G 4
  have gBw := ok_bywordings (P := P) (w := w) (base := base) X.nBw G X.nSp gSp
  have gGh := ok_goodhearing (P := P) (w := w) (base := base) X.nGh G X.nRw gRw X.nIt gIt
  have gPc := ok_pieces (P := P) (w := w) (base := base) X.nPc G
  have gIb := all_built (P := P) (w := w) (base := base) X.nIb G X.nPc gPc 5
  have gOp := ok_openings (P := P) (w := w) (base := base) X.nOp G X.nIb gIb
  have gLc := ok_leastclosed (P := P) (w := w) (base := base) X.nLc G X.nOp gOp
  have gCm := ok_canmake (P := P) (w := w) (base := base) X.nCm G X.nGh gGh X.nCt gCt X.nLc gLc X.nIb gIb
  have gOd := ok_opened (P := P) (w := w) (base := base) X.nOd G X.nGh gGh X.nLc gLc X.nBw gBw
  have gA := all_parts (P := P) (w := w) (base := base) X.nA G 4
  have gH := ok_hearing (P := P) (w := w) (base := base) X.nH G X.nD gD X.nT gT X.nK gK X.nA gA
  have gN := ok_names (P := P) (w := w) (base := base) X.nN G X.nD gD
  have gLp := ok_lpieces (P := P) (w := w) (base := base) X.nLp G
  have gI := ok_opens (P := P) (w := w) (base := base) X.nI G
  have gM := ok_made (P := P) (w := w) (base := base) X.nM G X.nLp gLp X.nI gI
  exact ok_law X.nW G ⟨X.nB, gB, X.nN, gN, X.nD, gD, X.nH, gH, X.nK, gK, X.nT, gT, X.nA, gA, X.nM, gM, X.nCm, gCm, X.nS, gS, X.nOd, gOd, X.nI, gI⟩
end
theorem all_mk {P : Program} {w : World} {K : PySem.W.Frag} {h : Heap} {mg : Str → Option Value} {fa fNm fRw fLf fMs fHf fIt fCt fSp fBw fGh fPc fIb fOp fLc fCm fOd fB fD fS fN fK fLe fPt fT fA fH fLp fI fM fW : Addr} (X : K.In h) (G : h.Ns mainGlobals mg) (hfa : mg "law" = some (.ref fa))
    {ocNm kVNm dcNm pmNm cdNm ctNm : Value} {odNm anNm : Option Addr} {slNm : Array (Option Value)}
    (aNm : PySem.W.nsIn K mainGlobals "is_name" = some (some (.ref fNm))) (lNm : K.lookup fNm = some ⟨ocNm, odNm, .func (PySem.W.fnOf "is_name" "is_name" (defArgs sIsName) (defBody sIsName) (defScope sIsName) .none kVNm dcNm pmNm anNm cdNm ctNm), slNm⟩) (cNm : PySem.W.codeIn K cdNm "is_name" = true) (kNm : PySem.W.keepIn K (.ref fNm) = true)
    {ocRw kVRw dcRw pmRw cdRw ctRw : Value} {odRw anRw : Option Addr} {slRw : Array (Option Value)}
    (aRw : PySem.W.nsIn K mainGlobals "is_row" = some (some (.ref fRw))) (lRw : K.lookup fRw = some ⟨ocRw, odRw, .func (PySem.W.fnOf "is_row" "is_row" (defArgs sIsRow) (defBody sIsRow) (defScope sIsRow) .none kVRw dcRw pmRw anRw cdRw ctRw), slRw⟩) (cRw : PySem.W.codeIn K cdRw "is_row" = true) (kRw : PySem.W.keepIn K (.ref fRw) = true)
    {ocLf kVLf dcLf pmLf cdLf ctLf : Value} {odLf anLf : Option Addr} {slLf : Array (Option Value)}
    (aLf : PySem.W.nsIn K mainGlobals "is_leaf" = some (some (.ref fLf))) (lLf : K.lookup fLf = some ⟨ocLf, odLf, .func (PySem.W.fnOf "is_leaf" "is_leaf" (defArgs sIsLeaf) (defBody sIsLeaf) (defScope sIsLeaf) .none kVLf dcLf pmLf anLf cdLf ctLf), slLf⟩) (cLf : PySem.W.codeIn K cdLf "is_leaf" = true) (kLf : PySem.W.keepIn K (.ref fLf) = true)
    {ocMs kVMs dcMs pmMs cdMs ctMs : Value} {odMs anMs : Option Addr} {slMs : Array (Option Value)}
    (aMs : PySem.W.nsIn K mainGlobals "measure" = some (some (.ref fMs))) (lMs : K.lookup fMs = some ⟨ocMs, odMs, .func (PySem.W.fnOf "measure" "measure" (defArgs sMeasure) (defBody sMeasure) (defScope sMeasure) .none kVMs dcMs pmMs anMs cdMs ctMs), slMs⟩) (cMs : PySem.W.codeIn K cdMs "measure" = true) (kMs : PySem.W.keepIn K (.ref fMs) = true)
    {ocHf kVHf dcHf pmHf cdHf ctHf : Value} {odHf anHf : Option Addr} {slHf : Array (Option Value)}
    (aHf : PySem.W.nsIn K mainGlobals "has_form" = some (some (.ref fHf))) (lHf : K.lookup fHf = some ⟨ocHf, odHf, .func (PySem.W.fnOf "has_form" "has_form" (defArgs sHasForm) (defBody sHasForm) (defScope sHasForm) .none kVHf dcHf pmHf anHf cdHf ctHf), slHf⟩) (cHf : PySem.W.codeIn K cdHf "has_form" = true) (kHf : PySem.W.keepIn K (.ref fHf) = true)
    {ocIt kVIt dcIt pmIt cdIt ctIt : Value} {odIt anIt : Option Addr} {slIt : Array (Option Value)}
    (aIt : PySem.W.nsIn K mainGlobals "is_term" = some (some (.ref fIt))) (lIt : K.lookup fIt = some ⟨ocIt, odIt, .func (PySem.W.fnOf "is_term" "is_term" (defArgs sIsTerm) (defBody sIsTerm) (defScope sIsTerm) .none kVIt dcIt pmIt anIt cdIt ctIt), slIt⟩) (cIt : PySem.W.codeIn K cdIt "is_term" = true) (kIt : PySem.W.keepIn K (.ref fIt) = true)
    {ocCt kVCt dcCt pmCt cdCt ctCt : Value} {odCt anCt : Option Addr} {slCt : Array (Option Value)}
    (aCt : PySem.W.nsIn K mainGlobals "check_term" = some (some (.ref fCt))) (lCt : K.lookup fCt = some ⟨ocCt, odCt, .func (PySem.W.fnOf "check_term" "check_term" (defArgs sCheckTerm) (defBody sCheckTerm) (defScope sCheckTerm) .none kVCt dcCt pmCt anCt cdCt ctCt), slCt⟩) (cCt : PySem.W.codeIn K cdCt "check_term" = true) (kCt : PySem.W.keepIn K (.ref fCt) = true)
    {ocSp kVSp dcSp pmSp cdSp ctSp : Value} {odSp anSp : Option Addr} {slSp : Array (Option Value)}
    (aSp : PySem.W.nsIn K mainGlobals "spelled" = some (some (.ref fSp))) (lSp : K.lookup fSp = some ⟨ocSp, odSp, .func (PySem.W.fnOf "spelled" "spelled" (defArgs sSpelled) (defBody sSpelled) (defScope sSpelled) .none kVSp dcSp pmSp anSp cdSp ctSp), slSp⟩) (cSp : PySem.W.codeIn K cdSp "spelled" = true) (kSp : PySem.W.keepIn K (.ref fSp) = true)
    {ocBw kVBw dcBw pmBw cdBw ctBw : Value} {odBw anBw : Option Addr} {slBw : Array (Option Value)}
    (aBw : PySem.W.nsIn K mainGlobals "by_wordings" = some (some (.ref fBw))) (lBw : K.lookup fBw = some ⟨ocBw, odBw, .func (PySem.W.fnOf "by_wordings" "by_wordings" (defArgs sByWordings) (defBody sByWordings) (defScope sByWordings) .none kVBw dcBw pmBw anBw cdBw ctBw), slBw⟩) (cBw : PySem.W.codeIn K cdBw "by_wordings" = true) (kBw : PySem.W.keepIn K (.ref fBw) = true)
    {ocGh kVGh dcGh pmGh cdGh ctGh : Value} {odGh anGh : Option Addr} {slGh : Array (Option Value)}
    (aGh : PySem.W.nsIn K mainGlobals "good_hearing" = some (some (.ref fGh))) (lGh : K.lookup fGh = some ⟨ocGh, odGh, .func (PySem.W.fnOf "good_hearing" "good_hearing" (defArgs sGoodHearing) (defBody sGoodHearing) (defScope sGoodHearing) .none kVGh dcGh pmGh anGh cdGh ctGh), slGh⟩) (cGh : PySem.W.codeIn K cdGh "good_hearing" = true) (kGh : PySem.W.keepIn K (.ref fGh) = true)
    {ocPc kVPc dcPc pmPc cdPc ctPc : Value} {odPc anPc : Option Addr} {slPc : Array (Option Value)}
    (aPc : PySem.W.nsIn K mainGlobals "pieces" = some (some (.ref fPc))) (lPc : K.lookup fPc = some ⟨ocPc, odPc, .func (PySem.W.fnOf "pieces" "pieces" (defArgs sPieces) (defBody sPieces) (defScope sPieces) .none kVPc dcPc pmPc anPc cdPc ctPc), slPc⟩) (cPc : PySem.W.codeIn K cdPc "pieces" = true) (kPc : PySem.W.keepIn K (.ref fPc) = true)
    {ocIb kVIb dcIb pmIb cdIb ctIb : Value} {odIb anIb : Option Addr} {slIb : Array (Option Value)}
    (aIb : PySem.W.nsIn K mainGlobals "is_built" = some (some (.ref fIb))) (lIb : K.lookup fIb = some ⟨ocIb, odIb, .func (PySem.W.fnOf "is_built" "is_built" (defArgs sIsBuilt) (defBody sIsBuilt) (defScope sIsBuilt) .none kVIb dcIb pmIb anIb cdIb ctIb), slIb⟩) (cIb : PySem.W.codeIn K cdIb "is_built" = true) (kIb : PySem.W.keepIn K (.ref fIb) = true)
    {ocOp kVOp dcOp pmOp cdOp ctOp : Value} {odOp anOp : Option Addr} {slOp : Array (Option Value)}
    (aOp : PySem.W.nsIn K mainGlobals "openings" = some (some (.ref fOp))) (lOp : K.lookup fOp = some ⟨ocOp, odOp, .func (PySem.W.fnOf "openings" "openings" (defArgs sOpenings) (defBody sOpenings) (defScope sOpenings) .none kVOp dcOp pmOp anOp cdOp ctOp), slOp⟩) (cOp : PySem.W.codeIn K cdOp "openings" = true) (kOp : PySem.W.keepIn K (.ref fOp) = true)
    {ocLc kVLc dcLc pmLc cdLc ctLc : Value} {odLc anLc : Option Addr} {slLc : Array (Option Value)}
    (aLc : PySem.W.nsIn K mainGlobals "least_closed" = some (some (.ref fLc))) (lLc : K.lookup fLc = some ⟨ocLc, odLc, .func (PySem.W.fnOf "least_closed" "least_closed" (defArgs sLeastClosed) (defBody sLeastClosed) (defScope sLeastClosed) .none kVLc dcLc pmLc anLc cdLc ctLc), slLc⟩) (cLc : PySem.W.codeIn K cdLc "least_closed" = true) (kLc : PySem.W.keepIn K (.ref fLc) = true)
    {ocCm kVCm dcCm pmCm cdCm ctCm : Value} {odCm anCm : Option Addr} {slCm : Array (Option Value)}
    (aCm : PySem.W.nsIn K mainGlobals "can_make" = some (some (.ref fCm))) (lCm : K.lookup fCm = some ⟨ocCm, odCm, .func (PySem.W.fnOf "can_make" "can_make" (defArgs sCanMake) (defBody sCanMake) (defScope sCanMake) .none kVCm dcCm pmCm anCm cdCm ctCm), slCm⟩) (cCm : PySem.W.codeIn K cdCm "can_make" = true) (kCm : PySem.W.keepIn K (.ref fCm) = true)
    {ocOd kVOd dcOd pmOd cdOd ctOd : Value} {odOd anOd : Option Addr} {slOd : Array (Option Value)}
    (aOd : PySem.W.nsIn K mainGlobals "opened" = some (some (.ref fOd))) (lOd : K.lookup fOd = some ⟨ocOd, odOd, .func (PySem.W.fnOf "opened" "opened" (defArgs sOpened) (defBody sOpened) (defScope sOpened) .none kVOd dcOd pmOd anOd cdOd ctOd), slOd⟩) (cOd : PySem.W.codeIn K cdOd "opened" = true) (kOd : PySem.W.keepIn K (.ref fOd) = true)
    {ocB kVB dcB pmB cdB ctB : Value} {odB anB : Option Addr} {slB : Array (Option Value)}
    (aB : PySem.W.nsIn K mainGlobals "_law_bag" = some (some (.ref fB))) (lB : K.lookup fB = some ⟨ocB, odB, .func (PySem.W.fnOf "_law_bag" "_law_bag" (defArgs sBag) (defBody sBag) (defScope sBag) .none kVB dcB pmB anB cdB ctB), slB⟩) (cB : PySem.W.codeIn K cdB "_law_bag" = true) (kB : PySem.W.keepIn K (.ref fB) = true)
    {ocD kVD dcD pmD cdD ctD : Value} {odD anD : Option Addr} {slD : Array (Option Value)}
    (aD : PySem.W.nsIn K mainGlobals "_law_draw" = some (some (.ref fD))) (lD : K.lookup fD = some ⟨ocD, odD, .func (PySem.W.fnOf "_law_draw" "_law_draw" (defArgs sDraw) (defBody sDraw) (defScope sDraw) .none kVD dcD pmD anD cdD ctD), slD⟩) (cD : PySem.W.codeIn K cdD "_law_draw" = true) (kD : PySem.W.keepIn K (.ref fD) = true)
    {ocS kVS dcS pmS cdS ctS : Value} {odS anS : Option Addr} {slS : Array (Option Value)}
    (aS : PySem.W.nsIn K mainGlobals "_law_same" = some (some (.ref fS))) (lS : K.lookup fS = some ⟨ocS, odS, .func (PySem.W.fnOf "_law_same" "_law_same" (defArgs sSame) (defBody sSame) (defScope sSame) .none kVS dcS pmS anS cdS ctS), slS⟩) (cS : PySem.W.codeIn K cdS "_law_same" = true) (kS : PySem.W.keepIn K (.ref fS) = true)
    {ocN kVN dcN pmN cdN ctN : Value} {odN anN : Option Addr} {slN : Array (Option Value)}
    (aN : PySem.W.nsIn K mainGlobals "_law_names" = some (some (.ref fN))) (lN : K.lookup fN = some ⟨ocN, odN, .func (PySem.W.fnOf "_law_names" "_law_names" (defArgs sNames) (defBody sNames) (defScope sNames) .none kVN dcN pmN anN cdN ctN), slN⟩) (cN : PySem.W.codeIn K cdN "_law_names" = true) (kN : PySem.W.keepIn K (.ref fN) = true)
    {ocK kVK dcK pmK cdK ctK : Value} {odK anK : Option Addr} {slK : Array (Option Value)}
    (aK : PySem.W.nsIn K mainGlobals "_law_pick" = some (some (.ref fK))) (lK : K.lookup fK = some ⟨ocK, odK, .func (PySem.W.fnOf "_law_pick" "_law_pick" (defArgs sPick) (defBody sPick) (defScope sPick) .none kVK dcK pmK anK cdK ctK), slK⟩) (cK : PySem.W.codeIn K cdK "_law_pick" = true) (kK : PySem.W.keepIn K (.ref fK) = true)
    {ocLe kVLe dcLe pmLe cdLe ctLe : Value} {odLe anLe : Option Addr} {slLe : Array (Option Value)}
    (aLe : PySem.W.nsIn K mainGlobals "_law_leaf" = some (some (.ref fLe))) (lLe : K.lookup fLe = some ⟨ocLe, odLe, .func (PySem.W.fnOf "_law_leaf" "_law_leaf" (defArgs sLeaf) (defBody sLeaf) (defScope sLeaf) .none kVLe dcLe pmLe anLe cdLe ctLe), slLe⟩) (cLe : PySem.W.codeIn K cdLe "_law_leaf" = true) (kLe : PySem.W.keepIn K (.ref fLe) = true)
    {ocPt kVPt dcPt pmPt cdPt ctPt : Value} {odPt anPt : Option Addr} {slPt : Array (Option Value)}
    (aPt : PySem.W.nsIn K mainGlobals "_law_pattern" = some (some (.ref fPt))) (lPt : K.lookup fPt = some ⟨ocPt, odPt, .func (PySem.W.fnOf "_law_pattern" "_law_pattern" (defArgs sPattern) (defBody sPattern) (defScope sPattern) .none kVPt dcPt pmPt anPt cdPt ctPt), slPt⟩) (cPt : PySem.W.codeIn K cdPt "_law_pattern" = true) (kPt : PySem.W.keepIn K (.ref fPt) = true)
    {ocT kVT dcT pmT cdT ctT : Value} {odT anT : Option Addr} {slT : Array (Option Value)}
    (aT : PySem.W.nsIn K mainGlobals "_law_term" = some (some (.ref fT))) (lT : K.lookup fT = some ⟨ocT, odT, .func (PySem.W.fnOf "_law_term" "_law_term" (defArgs sTerm) (defBody sTerm) (defScope sTerm) .none kVT dcT pmT anT cdT ctT), slT⟩) (cT : PySem.W.codeIn K cdT "_law_term" = true) (kT : PySem.W.keepIn K (.ref fT) = true)
    {ocA kVA dcA pmA cdA ctA : Value} {odA anA : Option Addr} {slA : Array (Option Value)}
    (aA : PySem.W.nsIn K mainGlobals "_law_parts" = some (some (.ref fA))) (lA : K.lookup fA = some ⟨ocA, odA, .func (PySem.W.fnOf "_law_parts" "_law_parts" (defArgs sParts) (defBody sParts) (defScope sParts) .none kVA dcA pmA anA cdA ctA), slA⟩) (cA : PySem.W.codeIn K cdA "_law_parts" = true) (kA : PySem.W.keepIn K (.ref fA) = true)
    {ocH kVH dcH pmH cdH ctH : Value} {odH anH : Option Addr} {slH : Array (Option Value)}
    (aH : PySem.W.nsIn K mainGlobals "_law_hearing" = some (some (.ref fH))) (lH : K.lookup fH = some ⟨ocH, odH, .func (PySem.W.fnOf "_law_hearing" "_law_hearing" (defArgs sHearing) (defBody sHearing) (defScope sHearing) .none kVH dcH pmH anH cdH ctH), slH⟩) (cH : PySem.W.codeIn K cdH "_law_hearing" = true) (kH : PySem.W.keepIn K (.ref fH) = true)
    {ocLp kVLp dcLp pmLp cdLp ctLp : Value} {odLp anLp : Option Addr} {slLp : Array (Option Value)}
    (aLp : PySem.W.nsIn K mainGlobals "_law_pieces" = some (some (.ref fLp))) (lLp : K.lookup fLp = some ⟨ocLp, odLp, .func (PySem.W.fnOf "_law_pieces" "_law_pieces" (defArgs sLPieces) (defBody sLPieces) (defScope sLPieces) .none kVLp dcLp pmLp anLp cdLp ctLp), slLp⟩) (cLp : PySem.W.codeIn K cdLp "_law_pieces" = true) (kLp : PySem.W.keepIn K (.ref fLp) = true)
    {ocI kVI dcI pmI cdI ctI : Value} {odI anI : Option Addr} {slI : Array (Option Value)}
    (aI : PySem.W.nsIn K mainGlobals "_law_opens" = some (some (.ref fI))) (lI : K.lookup fI = some ⟨ocI, odI, .func (PySem.W.fnOf "_law_opens" "_law_opens" (defArgs sOpens) (defBody sOpens) (defScope sOpens) .none kVI dcI pmI anI cdI ctI), slI⟩) (cI : PySem.W.codeIn K cdI "_law_opens" = true) (kI : PySem.W.keepIn K (.ref fI) = true)
    {ocM kVM dcM pmM cdM ctM : Value} {odM anM : Option Addr} {slM : Array (Option Value)}
    (aM : PySem.W.nsIn K mainGlobals "_law_made" = some (some (.ref fM))) (lM : K.lookup fM = some ⟨ocM, odM, .func (PySem.W.fnOf "_law_made" "_law_made" (defArgs sMade) (defBody sMade) (defScope sMade) .none kVM dcM pmM anM cdM ctM), slM⟩) (cM : PySem.W.codeIn K cdM "_law_made" = true) (kM : PySem.W.keepIn K (.ref fM) = true)
    {ocW kVW dcW pmW cdW ctW : Value} {odW anW : Option Addr} {slW : Array (Option Value)}
    (aW : PySem.W.nsIn K mainGlobals "law" = some (some (.ref fW))) (lW : K.lookup fW = some ⟨ocW, odW, .func (PySem.W.fnOf "law" "law" (defArgs sLaw) (defBody sLaw) (defScope sLaw) .none kVW dcW pmW anW cdW ctW), slW⟩) (cW : PySem.W.codeIn K cdW "law" = true) (kW : PySem.W.keepIn K (.ref fW) = true)
    {t0 : Tok} (m0 : PySem.W.nsIn K mainGlobals "SMALL" = some (some (.str "abcdefghijklmnopqrstuvwxyz" t0)))
    {t1 : Tok} (m1 : PySem.W.nsIn K mainGlobals "MOST_LETTERS" = some (some (.int 8 t1)))
    {t2 : Tok} (m2 : PySem.W.nsIn K mainGlobals "PAIR" = some (some (.str tPair t2)))
    {t3 : Tok} (m3 : PySem.W.nsIn K mainGlobals "BOX" = some (some (.str tBox t3)))
    {t4 : Tok} (m4 : PySem.W.nsIn K mainGlobals "HALF" = some (some (.str tHalf t4)))
    {t5 : Tok} (m5 : PySem.W.nsIn K mainGlobals "SHUT" = some (some (.str tShut t5)))
    {t6 : Tok} (m6 : PySem.W.nsIn K mainGlobals "MARK" = some (some (.str tMark t6)))
    {t7 : Tok} (m7 : PySem.W.nsIn K mainGlobals "VAR" = some (some (.str "var" t7)))
    {t8 : Tok} (m8 : PySem.W.nsIn K mainGlobals "MOST_NAMES" = some (some (.int 40 t8)))
    {t9 : Tok} (m9 : PySem.W.nsIn K mainGlobals "MOST_DEPTH" = some (some (.int 12 t9)))
    {t10 : Tok} (m10 : PySem.W.nsIn K mainGlobals "AND" = some (some (.str " & " t10)))
    {t11 : Tok} (m11 : PySem.W.nsIn K mainGlobals "MOST_HEARD" = some (some (.int 40 t11)))
    {dl : Addr} {es : Array DictEntry} {ne : Nat} (dL : PySem.W.nsIn K mainGlobals "LENGTHS" = some (some (.ref dl))) (dK : K.lookup dl = some ⟨.type "dict", none, .dict es ne, #[]⟩) (dI : PySem.W.KeysLit w.params es.toList) (dS : (dl == sysModules) = false)
    {u0 : Tok} (e0 : PySem.W.nsIn K dl tPair = some (some (.int 3 u0)))
    {u1 : Tok} (e1 : PySem.W.nsIn K dl tBox = some (some (.int 3 u1)))
    {u2 : Tok} (e2 : PySem.W.nsIn K dl tHalf = some (some (.int 2 u2)))
    {u3 : Tok} (e3 : PySem.W.nsIn K dl tShut = some (some (.int 3 u3)))
    {u4 : Tok} (e4 : PySem.W.nsIn K dl tMark = some (some (.int 3 u4)))
    {u5 : Tok} (e5 : PySem.W.nsIn K dl tMix = some (some (.int 2 u5)))
    {an : Addr} {odA : Option Addr} {nA : Nat} {slA : Array (Option Value)} {v1 v2 v3 : Tok} (nL : PySem.W.nsIn K mainGlobals "NAMED" = some (some (.ref an))) (nK : K.lookup an = some ⟨.type "tuple", odA, .seq #[.str tHalf v1, .str tShut v2, .str tMark v3] nA, slA⟩)
    (z0 : PySem.W.nsIn K mainGlobals "isinstance" = some none)
    (z1 : PySem.W.nsIn K mainGlobals "str" = some none)
    (z2 : PySem.W.nsIn K mainGlobals "len" = some none)
    (z3 : PySem.W.nsIn K mainGlobals "all" = some none)
    (z4 : PySem.W.nsIn K mainGlobals "list" = some none)
    (z5 : PySem.W.nsIn K mainGlobals "tuple" = some none)
    (z6 : PySem.W.nsIn K mainGlobals "sum" = some none)
    (z7 : PySem.W.nsIn K mainGlobals "max" = some none)
    (z8 : PySem.W.nsIn K mainGlobals "sorted" = some none)
    (z9 : PySem.W.nsIn K mainGlobals "enumerate" = some none)
    (z10 : PySem.W.nsIn K mainGlobals "int" = some none)
    (z11 : PySem.W.nsIn K mainGlobals "bool" = some none)
    (z12 : PySem.W.nsIn K mainGlobals "range" = some none)
    : ∃ fd : FuncData, (∀ (s : Shared) (v : Value), BindsTo s fd ⟨[v], []⟩ [("_law_script", v)]) ∧ ∀ base : Heap, K.In base → base.Ns mainGlobals mg → FnOk P w K mg base CX0 11 fa fd ["_law_script"] (spLaw K) := by
  have e := hfa.symm.trans (PySem.W.mg_of X G aW)
  cases e
  have gl : Glb K w mg :=
    { small := ⟨_, PySem.W.mg_of X G m0⟩
      letters := ⟨_, PySem.W.mg_of X G m1⟩
      pair := ⟨_, PySem.W.mg_of X G m2⟩
      box := ⟨_, PySem.W.mg_of X G m3⟩
      half := ⟨_, PySem.W.mg_of X G m4⟩
      shut := ⟨_, PySem.W.mg_of X G m5⟩
      mark := ⟨_, PySem.W.mg_of X G m6⟩
      var := ⟨_, PySem.W.mg_of X G m7⟩
      mostNames := ⟨_, PySem.W.mg_of X G m8⟩
      mostDepth := ⟨_, PySem.W.mg_of X G m9⟩
      and_ := ⟨_, PySem.W.mg_of X G m10⟩
      mostHeard := ⟨_, PySem.W.mg_of X G m11⟩
      lens := ⟨dl, es, ne, PySem.W.mg_of X G dL, ⟨dK, dI, dS⟩, ⟨_, e0⟩, ⟨_, e1⟩, ⟨_, e2⟩, ⟨_, e3⟩, ⟨_, e4⟩, ⟨_, e5⟩⟩
      named := ⟨an, PySem.W.mg_of X G nL, fun H => .inr ⟨_, _, _, nK, rfl, rfl, (by show 3 ≤ sizeLine; decide), .cons ⟨_, rfl⟩ (.cons ⟨_, rfl⟩ (.cons ⟨_, rfl⟩ .nil))⟩⟩
      isi := PySem.W.mg_none_of X G z0
      str := PySem.W.mg_none_of X G z1
      len := PySem.W.mg_none_of X G z2
      all := PySem.W.mg_none_of X G z3
      list := PySem.W.mg_none_of X G z4
      tuple := PySem.W.mg_none_of X G z5
      sum := PySem.W.mg_none_of X G z6
      max := PySem.W.mg_none_of X G z7
      sorted := PySem.W.mg_none_of X G z8
      enum := PySem.W.mg_none_of X G z9
      int := PySem.W.mg_none_of X G z10
      bool := PySem.W.mg_none_of X G z11
      range := PySem.W.mg_none_of X G z12 }
  have nNm : Dn K mg "is_name" sIsName ["thing"] _ _ := dn_mk X G aNm lNm cNm kNm (fun _ _ _ _ _ _ us hl => match us, hl with | [_], _ => rfl)
  have nRw : Dn K mg "is_row" sIsRow ["thing"] _ _ := dn_mk X G aRw lRw cRw kRw (fun _ _ _ _ _ _ us hl => match us, hl with | [_], _ => rfl)
  have nLf : Dn K mg "is_leaf" sIsLeaf ["thing", "open_so"] _ _ := dn_mk X G aLf lLf cLf kLf (fun _ _ _ _ _ _ us hl => match us, hl with | [_, _], _ => rfl)
  have nMs : Dn K mg "measure" sMeasure ["thing", "open_so", "room"] _ _ := dn_mk X G aMs lMs cMs kMs (fun _ _ _ _ _ _ us hl => match us, hl with | [_, _, _], _ => rfl)
  have nHf : Dn K mg "has_form" sHasForm ["thing", "open_so"] _ _ := dn_mk X G aHf lHf cHf kHf (fun _ _ _ _ _ _ us hl => match us, hl with | [_, _], _ => rfl)
  have nIt : Dn K mg "is_term" sIsTerm ["thing"] _ _ := dn_mk X G aIt lIt cIt kIt (fun _ _ _ _ _ _ us hl => match us, hl with | [_], _ => rfl)
  have nCt : Dn K mg "check_term" sCheckTerm ["term"] _ _ := dn_mk X G aCt lCt cCt kCt (fun _ _ _ _ _ _ us hl => match us, hl with | [_], _ => rfl)
  have nSp : Dn K mg "spelled" sSpelled ["term"] _ _ := dn_mk X G aSp lSp cSp kSp (fun _ _ _ _ _ _ us hl => match us, hl with | [_], _ => rfl)
  have nBw : Dn K mg "by_wordings" sByWordings ["terms"] _ _ := dn_mk X G aBw lBw cBw kBw (fun _ _ _ _ _ _ us hl => match us, hl with | [_], _ => rfl)
  have nGh : Dn K mg "good_hearing" sGoodHearing ["hearing"] _ _ := dn_mk X G aGh lGh cGh kGh (fun _ _ _ _ _ _ us hl => match us, hl with | [_], _ => rfl)
  have nPc : Dn K mg "pieces" sPieces ["term"] _ _ := dn_mk X G aPc lPc cPc kPc (fun _ _ _ _ _ _ us hl => match us, hl with | [_], _ => rfl)
  have nIb : Dn K mg "is_built" sIsBuilt ["found", "term"] _ _ := dn_mk X G aIb lIb cIb kIb (fun _ _ _ _ _ _ us hl => match us, hl with | [_, _], _ => rfl)
  have nOp : Dn K mg "openings" sOpenings ["found", "term"] _ _ := dn_mk X G aOp lOp cOp kOp (fun _ _ _ _ _ _ us hl => match us, hl with | [_, _], _ => rfl)
  have nLc : Dn K mg "least_closed" sLeastClosed ["hearing"] _ _ := dn_mk X G aLc lLc cLc kLc (fun _ _ _ _ _ _ us hl => match us, hl with | [_], _ => rfl)
  have nCm : Dn K mg "can_make" sCanMake ["hearing", "term"] _ _ := dn_mk X G aCm lCm cCm kCm (fun _ _ _ _ _ _ us hl => match us, hl with | [_, _], _ => rfl)
  have nOd : Dn K mg "opened" sOpened ["hearing"] _ _ := dn_mk X G aOd lOd cOd kOd (fun _ _ _ _ _ _ us hl => match us, hl with | [_], _ => rfl)
  have nB : Dn K mg "_law_bag" sBag ["_law_script"] _ _ := dn_mk X G aB lB cB kB (fun _ _ _ _ _ _ us hl => match us, hl with | [_], _ => rfl)
  have nD : Dn K mg "_law_draw" sDraw ["_law_bag_here", "_law_many"] _ _ := dn_mk X G aD lD cD kD (fun _ _ _ _ _ _ us hl => match us, hl with | [_, _], _ => rfl)
  have nS : Dn K mg "_law_same" sSame ["_law_actual", "_law_due"] _ _ := dn_mk X G aS lS cS kS (fun _ _ _ _ _ _ us hl => match us, hl with | [_, _], _ => rfl)
  have nN : Dn K mg "_law_names" sNames ["_law_bag_here", "_law_many"] _ _ := dn_mk X G aN lN cN kN (fun _ _ _ _ _ _ us hl => match us, hl with | [_, _], _ => rfl)
  have nK : Dn K mg "_law_pick" sPick ["_law_bag_here", "_law_things"] _ _ := dn_mk X G aK lK cK kK (fun _ _ _ _ _ _ us hl => match us, hl with | [_, _], _ => rfl)
  have nLe : Dn K mg "_law_leaf" sLeaf ["_law_bag_here", "_law_names_here", "_law_variables"] _ _ := dn_mk X G aLe lLe cLe kLe (fun _ _ _ _ _ _ us hl => match us, hl with | [_, _, _], _ => rfl)
  have nPt : Dn K mg "_law_pattern" sPattern ["_law_bag_here", "_law_names_here", "_law_variables", "_law_depth"] _ _ := dn_mk X G aPt lPt cPt kPt (fun _ _ _ _ _ _ us hl => match us, hl with | [_, _, _, _], _ => rfl)
  have nT : Dn K mg "_law_term" sTerm ["_law_bag_here", "_law_names_here", "_law_depth"] _ _ := dn_mk X G aT lT cT kT (fun _ _ _ _ _ _ us hl => match us, hl with | [_, _, _], _ => rfl)
  have nA : Dn K mg "_law_parts" sParts ["_law_term_here"] _ _ := dn_mk X G aA lA cA kA (fun _ _ _ _ _ _ us hl => match us, hl with | [_], _ => rfl)
  have nH : Dn K mg "_law_hearing" sHearing ["_law_bag_here", "_law_names_here", "_law_many"] _ _ := dn_mk X G aH lH cH kH (fun _ _ _ _ _ _ us hl => match us, hl with | [_, _, _], _ => rfl)
  have nLp : Dn K mg "_law_pieces" sLPieces ["_law_term_here"] _ _ := dn_mk X G aLp lLp cLp kLp (fun _ _ _ _ _ _ us hl => match us, hl with | [_], _ => rfl)
  have nI : Dn K mg "_law_opens" sOpens ["_law_made_here", "_law_term_here"] _ _ := dn_mk X G aI lI cI kI (fun _ _ _ _ _ _ us hl => match us, hl with | [_, _], _ => rfl)
  have nM : Dn K mg "_law_made" sMade ["_law_row", "_law_every"] _ _ := dn_mk X G aM lM cM kM (fun _ _ _ _ _ _ us hl => match us, hl with | [_, _], _ => rfl)
  have nW : Dn K mg "law" sLaw ["_law_script"] _ _ := dn_mk X G aW lW cW kW (fun _ _ _ _ _ _ us hl => match us, hl with | [_], _ => rfl)
  refine ⟨PySem.W.fnOf "law" "law" (defArgs sLaw) (defBody sLaw) (defScope sLaw) .none kVW dcW pmW anW cdW ctW, fun s v => .of_eq rfl, fun base _ _ => ?_⟩
  exact law_all ⟨nNm, nRw, nLf, nMs, nHf, nIt, nCt, nSp, nBw, nGh, nPc, nIb, nOp, nLc, nCm, nOd, nB, nD, nS, nN, nK, nLe, nPt, nT, nA, nH, nLp, nI, nM, nW⟩ gl
theorem walk {l : PySem.W.OpenLaw} {q : Program} {loose : List Str} {XP : (Str → Option Value) → Heap → Prop} {YP : World → Heap → Prop} {d : DefRec} {K : Params → PySem.W.Frag} (hn : l.most = some 63) (hdf : d.params.defaults = [])
    (hY : ∀ (w : World) (h : Heap), YP w h → (K w.params).In h)
    (F : ∀ (w : World) (mg : Str → Option Value) (fa : Addr) (h : Heap), (K w.params).In h → h.Ns mainGlobals mg → mg d.name = some (.ref fa) →
      ∃ fd : FuncData, (∀ (s : Shared) (u : Value), BindsTo s fd ⟨[u], []⟩ [("_law_script", u)]) ∧ ∀ base : Heap, (K w.params).In base → base.Ns mainGlobals mg → FnOk l.prog w (K w.params) mg base CX0 11 fa fd ["_law_script"] (spLaw (K w.params))) :
    PySem.W.WalkO q loose XP YP l.row.toRowW d [] (fun f vs => PySem.call f vs) :=
  L2.walk_of (n := 63) (k := 11) (x := "_law_script") (CX := fun _ => CX0) (sp := fun w => spLaw (K w.params)) hn (by decide) hdf ⟨rfl, by decide, by decide⟩ hY F (fun _ _ a ns hl _ hS => ⟨a, ns, rfl, hS, hl, fun _ => rfl⟩) fun _ _ _ _ _ z => z
end K12

set_option Elab.async false
set_option maxRecDepth 100000
set_option maxHeartbeats 0
set_option linter.all false
open PySem PySem.W PyProof.Rows
open_top K12_head for PySem.Challenge.rw_sealedtalk_k12_whole_made_step_by_step

set_option Elab.async false
set_option linter.all false
open PySem PySem.W PyProof.Rows
set_option maxRecDepth 100000 in
set_option maxHeartbeats 0 in
theorem PySem.Challenge.cw_sealedtalk_k12_whole_made_step_by_step_holds : PySem.Challenge.rw_sealedtalk_k12_whole_made_step_by_step.Holds := by
  refine K12_head ?_
  k_fill
  refine K12.walk (l := PySem.Challenge.rw_sealedtalk_k12_whole_made_step_by_step) rfl rfl (fun w h Y => PySem.W.kIn_of Y) ?F
  case F =>
    intro w mg fa h KX G hmg
    refine' K12.all_mk KX G hmg ?aNm ?lNm ?cNm ?kNm ?aRw ?lRw ?cRw ?kRw ?aLf ?lLf ?cLf ?kLf ?aMs ?lMs ?cMs ?kMs ?aHf ?lHf ?cHf ?kHf ?aIt ?lIt ?cIt ?kIt ?aCt ?lCt ?cCt ?kCt ?aSp ?lSp ?cSp ?kSp ?aBw ?lBw ?cBw ?kBw ?aGh ?lGh ?cGh ?kGh ?aPc ?lPc ?cPc ?kPc ?aIb ?lIb ?cIb ?kIb ?aOp ?lOp ?cOp ?kOp ?aLc ?lLc ?cLc ?kLc ?aCm ?lCm ?cCm ?kCm ?aOd ?lOd ?cOd ?kOd ?aB ?lB ?cB ?kB ?aD ?lD ?cD ?kD ?aS ?lS ?cS ?kS ?aN ?lN ?cN ?kN ?aK ?lK ?cK ?kK ?aLe ?lLe ?cLe ?kLe ?aPt ?lPt ?cPt ?kPt ?aT ?lT ?cT ?kT ?aA ?lA ?cA ?kA ?aH ?lH ?cH ?kH ?aLp ?lLp ?cLp ?kLp ?aI ?lI ?cI ?kI ?aM ?lM ?cM ?kM ?aW ?lW ?cW ?kW ?m0 ?m1 ?m2 ?m3 ?m4 ?m5 ?m6 ?m7 ?m8 ?m9 ?m10 ?m11 ?dL ?dK ?dI ?dS ?e0 ?e1 ?e2 ?e3 ?e4 ?e5 ?nL ?nK ?z0 ?z1 ?z2 ?z3 ?z4 ?z5 ?z6 ?z7 ?z8 ?z9 ?z10 ?z11 ?z12
    (case aNm => k_is); (case lNm => k_is); (case cNm => k_is); (case kNm => k_is); (case aRw => k_is); (case lRw => k_is)
    (case cRw => k_is); (case kRw => k_is); (case aLf => k_is); (case lLf => k_is); (case cLf => k_is); (case kLf => k_is)
    (case aMs => k_is); (case lMs => k_is); (case cMs => k_is); (case kMs => k_is); (case aHf => k_is); (case lHf => k_is)
    (case cHf => k_is); (case kHf => k_is); (case aIt => k_is); (case lIt => k_is); (case cIt => k_is); (case kIt => k_is)
    (case aCt => k_is); (case lCt => k_is); (case cCt => k_is); (case kCt => k_is); (case aSp => k_is); (case lSp => k_is)
    (case cSp => k_is); (case kSp => k_is); (case aBw => k_is); (case lBw => k_is); (case cBw => k_is); (case kBw => k_is)
    (case aGh => k_is); (case lGh => k_is); (case cGh => k_is); (case kGh => k_is); (case aPc => k_is); (case lPc => k_is)
    (case cPc => k_is); (case kPc => k_is); (case aIb => k_is); (case lIb => k_is); (case cIb => k_is); (case kIb => k_is)
    (case aOp => k_is); (case lOp => k_is); (case cOp => k_is); (case kOp => k_is); (case aLc => k_is); (case lLc => k_is)
    (case cLc => k_is); (case kLc => k_is); (case aCm => k_is); (case lCm => k_is); (case cCm => k_is); (case kCm => k_is)
    (case aOd => k_is); (case lOd => k_is); (case cOd => k_is); (case kOd => k_is); (case aB => k_is); (case lB => k_is)
    (case cB => k_is); (case kB => k_is); (case aD => k_is); (case lD => k_is); (case cD => k_is); (case kD => k_is)
    (case aS => k_is); (case lS => k_is); (case cS => k_is); (case kS => k_is); (case aN => k_is); (case lN => k_is)
    (case cN => k_is); (case kN => k_is); (case aK => k_is); (case lK => k_is); (case cK => k_is); (case kK => k_is)
    (case aLe => k_is); (case lLe => k_is); (case cLe => k_is); (case kLe => k_is); (case aPt => k_is); (case lPt => k_is)
    (case cPt => k_is); (case kPt => k_is); (case aT => k_is); (case lT => k_is); (case cT => k_is); (case kT => k_is)
    (case aA => k_is); (case lA => k_is); (case cA => k_is); (case kA => k_is); (case aH => k_is); (case lH => k_is)
    (case cH => k_is); (case kH => k_is); (case aLp => k_is); (case lLp => k_is); (case cLp => k_is); (case kLp => k_is)
    (case aI => k_is); (case lI => k_is); (case cI => k_is); (case kI => k_is); (case aM => k_is); (case lM => k_is)
    (case cM => k_is); (case kM => k_is); (case aW => k_is); (case lW => k_is); (case cW => k_is); (case kW => k_is)
    (case m0 => k_is); (case m1 => k_is); (case m2 => k_is); (case m3 => k_is); (case m4 => k_is); (case m5 => k_is)
    (case m6 => k_is); (case m7 => k_is); (case m8 => k_is); (case m9 => k_is); (case m10 => k_is); (case m11 => k_is)
    (case dL => k_is); (case dK => k_is); (case dI => k_keys); (case dS => rfl); (case e0 => k_is); (case e1 => k_is)
    (case e2 => k_is); (case e3 => k_is); (case e4 => k_is); (case e5 => k_is); (case nL => k_is); (case nK => k_is)
    (case z0 => k_is); (case z1 => k_is); (case z2 => k_is); (case z3 => k_is); (case z4 => k_is); (case z5 => k_is)
    (case z6 => k_is); (case z7 => k_is); (case z8 => k_is); (case z9 => k_is); (case z10 => k_is); (case z11 => k_is)
    (case z12 => k_is)

