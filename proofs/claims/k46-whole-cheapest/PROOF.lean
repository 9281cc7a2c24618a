import PyProof.Rows.All
import Wide.All
import OpenK.AllK
import Wide.FinOn
import HandS.ForMost
import HandS.Codes
import HandS.Star
import HandS.Wide
import HandS.IsInst
import HandS.TupAny
import HandS.TupMul
import HandS.Style
import HandS.Defaults
import HandS.TryOnly
import HandS.ExcOwn
import PySem.Challenge.RW_siltstore_k46_whole_cheapest
import HandS.DictComp
import HandS.OwnEq
import HandS.Conv
import HandS.More
import HandS.ExcInit
import HandS.Nested
import HandS.ExcSuper
import HandS.ExcField
import KE.KExcSuper
import KE.GoesMore
set_option Elab.async false
set_option linter.all false
set_option maxRecDepth 100000
set_option maxHeartbeats 4000000
set_option exponentiation.threshold 9000
section
open PySem PySem.W PyProof.Rows
set_option maxHeartbeats 0
open_top headQ for PySem.Challenge.rw_siltstore_k46_whole_cheapest
end
/-! Plain mathematics of rules: pairs by grades, sizes, digits. No program in sight. -/
set_option linter.all false
namespace Silt
abbrev Pr := Nat → Int × Int
structure Good (p : Pr) : Prop where
  lo : ∀ g, 2 ≤ (p g).2
  le : ∀ g, (p g).2 ≤ (p g).1
  hi : ∀ g, (p g).1 ≤ 12
/-- the rule without its first k grades -/
def tl (p : Pr) (k : Nat) : Pr := fun g => p (g + k)
theorem Good.tl {p : Pr} (h : Good p) (k : Nat) : Good (tl p k) := ⟨fun g => h.lo _, fun g => h.le _, fun g => h.hi _⟩
theorem tl_tl (p : Pr) (j k : Nat) : tl (tl p j) k = tl p (j + k) := by
  funext g; simp only [tl]; congr 1; omega
theorem tl_zero (p : Pr) : tl p 0 = p := rfl
def size (p : Pr) : Nat → Int
  | 0 => 1
  | g + 1 => size p g * (p g).2
def owed (p : Pr) : Nat → Int
  | 0 => 0
  | g + 1 => owed p g + size p g * ((p g).1 - (p g).2)
theorem size_pos {p : Pr} (h : Good p) : ∀ g, 0 < size p g
  | 0 => by show (0 : Int) < 1; decide
  | g + 1 => Int.mul_pos (size_pos h g) (by have := h.lo g; omega)
theorem owed_nn {p : Pr} (h : Good p) : ∀ g, 0 ≤ owed p g
  | 0 => by show (0 : Int) ≤ 0; decide
  | g + 1 => by
    have h1 := owed_nn h g
    have h2 := size_pos h g
    have h3 := h.le g
    have h4 : 0 ≤ size p g * ((p g).1 - (p g).2) := Int.mul_nonneg (by omega) (by omega)
    show 0 ≤ owed p g + size p g * ((p g).1 - (p g).2)
    omega
theorem size_tl (p : Pr) : ∀ g, size p (g + 1) = (p 0).2 * size (tl p 1) g
  | 0 => by simp [size]
  | g + 1 => by
    show size p (g + 1) * (p (g + 1)).2 = (p 0).2 * (size (tl p 1) g * (p (g + 1)).2)
    rw [size_tl p g, Int.mul_assoc]
theorem owed_tl (p : Pr) : ∀ g, owed p (g + 1) = ((p 0).1 - (p 0).2) + (p 0).2 * owed (tl p 1) g
  | 0 => by simp [owed, size]
  | g + 1 => by
    show owed p (g + 1) + size p (g + 1) * ((p (g + 1)).1 - (p (g + 1)).2) = _ + (p 0).2 * (owed (tl p 1) g + size (tl p 1) g * ((p (g + 1)).1 - (p (g + 1)).2))
    rw [owed_tl p g, size_tl p g, Int.mul_add, Int.mul_assoc]
    omega
def made (p : Pr) (g : Nat) (d : Int) : Int := max 0 ((d - owed p g) / size p g)
theorem made_nn (p : Pr) (g : Nat) (d : Int) : 0 ≤ made p g d := by unfold made; omega
/-- how many layers of the next grade there have been, of so many -/
def late (p : Pr) (d : Int) : Int := max 0 ((d - (p 0).1 + (p 0).2) / (p 0).2)
theorem made_zero (p : Pr) {d : Int} (h : 0 ≤ d) : made p 0 d = d := by simp [made, owed, size]; omega
theorem made_one (p : Pr) (d : Int) : made p 1 d = late p d := by
  simp only [made, late, owed, size]
  have e : d - (0 + 1 * ((p 0).1 - (p 0).2)) = d - (p 0).1 + (p 0).2 := by omega
  rw [e, Int.one_mul]
theorem ediv_shift {a b o s : Int} (hb : 0 < b) (hs : 0 < s) : (a - b * o) / (b * s) = (a / b - o) / s := by
  rw [← Int.ediv_ediv_of_nonneg (by omega : (0:Int) ≤ b)]
  congr 1
  have : a - b * o = a + b * (-o) := by rw [Int.mul_neg]; omega
  rw [this, Int.add_mul_ediv_left _ _ (by omega : b ≠ 0)]
  omega
theorem neg_ediv_le {a s : Int} (ha : a ≤ 0) (hs : 0 < s) : a / s ≤ 0 := by
  have := Int.ediv_le_ediv hs ha
  simpa using this
/-- the rule without its first grade, on the day that is the number of layers of grade 1 -/
theorem made_tl {p : Pr} (h : Good p) (g : Nat) (d : Int) : made p (g + 1) d = made (tl p 1) g (late p d) := by
  have hb : 0 < (p 0).2 := by have := h.lo 0; omega
  have hs := size_pos (h.tl 1) g
  have ho := owed_nn (h.tl 1) g
  unfold made
  rw [size_tl, owed_tl]
  have e : d - ((p 0).1 - (p 0).2 + (p 0).2 * owed (tl p 1) g) = (d - (p 0).1 + (p 0).2) - (p 0).2 * owed (tl p 1) g := by omega
  rw [e, ediv_shift hb hs]
  unfold late
  by_cases q : 0 ≤ (d - (p 0).1 + (p 0).2) / (p 0).2
  · have e2 : max 0 ((d - (p 0).1 + (p 0).2) / (p 0).2) = (d - (p 0).1 + (p 0).2) / (p 0).2 := by omega
    rw [e2]
  · have e2 : max 0 ((d - (p 0).1 + (p 0).2) / (p 0).2) = 0 := by omega
    rw [e2]
    have q1 := neg_ediv_le (a := (d - (p 0).1 + (p 0).2) / (p 0).2 - owed (tl p 1) g) (by omega) hs
    have q2 := neg_ediv_le (a := 0 - owed (tl p 1) g) (by omega) hs
    omega
theorem late_lt {p : Pr} (h : Good p) {d : Int} (hd : 0 < d) : late p d < d := by
  have h1 := h.lo 0
  have h2 := h.le 0
  unfold late
  have : (d - (p 0).1 + (p 0).2) / (p 0).2 < d := by
    refine Int.ediv_lt_of_lt_mul (by omega) ?_
    have : d * 2 ≤ d * (p 0).2 := Int.mul_le_mul_of_nonneg_left h1 (by omega)
    omega
  omega
theorem late_nn (p : Pr) (d : Int) : 0 ≤ late p d := by unfold late; omega
/-- the next grade's number from this one's -/
theorem made_next {p : Pr} (h : Good p) : ∀ (g : Nat) (d : Int), 0 ≤ d → made p (g + 1) d = late (tl p g) (made p g d)
  | 0, d, hd => by rw [made_one, made_zero p hd]; rfl
  | g + 1, d, hd => by
    rw [made_tl h (g + 1), made_next (h.tl 1) g _ (late_nn p d), made_tl h g, tl_tl, Nat.add_comm 1 g]
/-! ### digits -/
def digF : Nat → Pr → Int → List Int
  | 0, _, _ => []
  | n + 1, p, d => if d ≤ 0 then [] else (d - (p 0).2 * late p d) :: digF n (tl p 1) (late p d)
def digits (p : Pr) (d : Int) : List Int := digF d.toNat p d
theorem digF_more : ∀ (n m : Nat) (p : Pr) (d : Int), Good p → d ≤ n → d ≤ m → digF n p d = digF m p d
  | 0, 0, _, _, _, _, _ => rfl
  | 0, m + 1, p, d, _, h, _ => by show [] = if d ≤ 0 then [] else _; rw [if_pos (by omega)]
  | n + 1, 0, p, d, _, _, h => by show (if d ≤ 0 then [] else _) = []; rw [if_pos (by omega)]
  | n + 1, m + 1, p, d, g, h, h' => by
    show (if d ≤ 0 then [] else _) = (if d ≤ 0 then [] else _)
    by_cases c : d ≤ 0
    · rw [if_pos c, if_pos c]
    · rw [if_neg c, if_neg c]
      have := late_lt g (d := d) (by omega)
      rw [digF_more n m (tl p 1) (late p d) (g.tl 1) (by omega) (by omega)]
theorem digits_eq {p : Pr} (g : Good p) (d : Int) : digits p d = if d ≤ 0 then [] else (d - (p 0).2 * late p d) :: digits (tl p 1) (late p d) := by
  unfold digits
  by_cases c : d ≤ 0
  · rw [if_pos c]
    have : d.toNat = 0 := by omega
    rw [this]; rfl
  · rw [if_neg c]
    obtain ⟨n, hn⟩ : ∃ n, d.toNat = n + 1 := ⟨d.toNat - 1, by omega⟩
    rw [hn]
    show (if d ≤ 0 then [] else _) = _
    rw [if_neg c]
    have := late_lt g (d := d) (by omega)
    have := late_nn p d
    rw [digF_more n (late p d).toNat (tl p 1) (late p d) (g.tl 1) (by omega) (by omega)]
theorem digits_zero (p : Pr) {d : Int} (h : d ≤ 0) : digits p d = [] := by
  unfold digits
  have : d.toNat = 0 := by omega
  rw [this]; rfl
theorem digits_pos {p : Pr} (g : Good p) {d : Int} (h : 0 < d) : digits p d = (d - (p 0).2 * late p d) :: digits (tl p 1) (late p d) := by
  rw [digits_eq g, if_neg (by omega)]
/-- the digit's bounds -/
theorem digit_lt {p : Pr} (g : Good p) {d : Int} (h : 0 < d) : d - (p 0).2 * late p d < (p 0).1 ∧ 0 ≤ d - (p 0).2 * late p d ∧ (0 < late p d → (p 0).1 - (p 0).2 ≤ d - (p 0).2 * late p d) ∧ (late p d = 0 → 1 ≤ d - (p 0).2 * late p d) := by
  have h1 := g.lo 0
  have h2 := g.le 0
  unfold late
  generalize (p 0).1 = w at *
  generalize (p 0).2 = b at *
  have e1 := Int.emod_add_mul_ediv (d - w + b) b
  have e2 := Int.emod_nonneg (d - w + b) (by omega : b ≠ 0)
  have e3 := Int.emod_lt_of_pos (d - w + b) (by omega : 0 < b)
  by_cases q : 0 ≤ (d - w + b) / b
  · have e : max 0 ((d - w + b) / b) = (d - w + b) / b := by omega
    rw [e]
    refine ⟨by omega, by omega, by omega, fun z => ?_⟩
    rw [z] at e1 ⊢
    omega
  · have e : max 0 ((d - w + b) / b) = 0 := by omega
    rw [e]
    have : (d - w + b) / b ≤ -1 := by omega
    have : b * ((d - w + b) / b) ≤ b * (-1) := Int.mul_le_mul_of_nonneg_left this (by omega)
    refine ⟨by omega, by omega, by omega, by omega⟩
/-- what digits are worth -/
def value (p : Pr) : List Int → Int
  | [] => 0
  | x :: xs => x + (p 0).2 * value (tl p 1) xs
theorem value_digF : ∀ (n : Nat) (p : Pr) (d : Int), Good p → 0 ≤ d → d ≤ n → value p (digF n p d) = d
  | 0, _, _, _, _, _ => by show (0 : Int) = _; omega
  | n + 1, p, d, g, h0, h => by
    show value p (if d ≤ 0 then [] else _) = d
    by_cases c : d ≤ 0
    · rw [if_pos c]; show (0 : Int) = _; omega
    · rw [if_neg c]
      show _ + (p 0).2 * value (tl p 1) _ = d
      have := late_lt g (d := d) (by omega)
      rw [value_digF n (tl p 1) (late p d) (g.tl 1) (late_nn p d) (by omega)]
      omega
theorem value_digits {p : Pr} (g : Good p) {d : Int} (h : 0 ≤ d) : value p (digits p d) = d := value_digF _ p d g h (by omega)
/-- the digits of a day are fit to be told -/
def Valid (p : Pr) : List Int → Prop
  | [] => True
  | [x] => 1 ≤ x ∧ x < (p 0).1
  | x :: y :: ys => (p 0).1 - (p 0).2 ≤ x ∧ x < (p 0).1 ∧ Valid (tl p 1) (y :: ys)
theorem valid_digF : ∀ (n : Nat) (p : Pr) (d : Int), Good p → 0 ≤ d → d ≤ n → Valid p (digF n p d)
  | 0, _, _, _, _, _ => trivial
  | n + 1, p, d, g, h0, h => by
    show Valid p (if d ≤ 0 then [] else _)
    by_cases c : d ≤ 0
    · rw [if_pos c]; trivial
    · rw [if_neg c]
      have b := digit_lt g (d := d) (by omega)
      have l := late_lt g (d := d) (by omega)
      have l0 := late_nn p d
      have ih := valid_digF n (tl p 1) (late p d) (g.tl 1) l0 (by omega)
      cases e : digF n (tl p 1) (late p d) with
      | nil =>
        have v := value_digF n (tl p 1) (late p d) (g.tl 1) l0 (by omega)
        rw [e] at v
        have v' : late p d = 0 := v.symm
        exact ⟨b.2.2.2 v', b.1⟩
      | cons y ys =>
        rw [e] at ih
        have : 0 < late p d := by
          rcases Int.lt_or_eq_of_le l0 with q | q
          · exact q
          · rw [← q] at e
            cases n <;> simp [digF] at e
        exact ⟨b.2.2.1 this, b.1, ih⟩
theorem valid_digits {p : Pr} (g : Good p) {d : Int} (h : 0 ≤ d) : Valid p (digits p d) := valid_digF _ p d g h (by omega)
theorem digits_nil {p : Pr} (g : Good p) {d : Int} (h : 0 ≤ d) : digits p d = [] ↔ d = 0 := by
  constructor
  · intro e
    have v := value_digits g h
    rw [e] at v
    exact v.symm
  · intro e; exact digits_zero p (by omega)
end Silt
set_option linter.all false
namespace Silt
theorem size_ge {p : Pr} (h : Good p) : ∀ g : Nat, ((2 ^ g : Nat) : Int) ≤ size p g
  | 0 => by simp [size]
  | g + 1 => by
    have h1 := size_ge h g
    have h2 := h.lo g
    show _ ≤ size p g * (p g).2
    have e : ((2 ^ (g + 1) : Nat) : Int) = ((2 ^ g : Nat) : Int) * 2 := by rw [Nat.pow_succ]; omega
    rw [e]
    exact Int.mul_le_mul h1 h2 (by omega) (by have := size_pos h g; omega)
theorem lt_two_pow' (g : Nat) : (g : Int) < ((2 ^ g : Nat) : Int) := by
  have := @Nat.lt_two_pow_self g
  omega
theorem made_pos {p : Pr} (h : Good p) {g : Nat} {d : Int} (hm : 0 < made p g d) : size p g ≤ d := by
  have h1 := size_pos h g
  have h2 := owed_nn h g
  unfold made at hm
  have h3 : 1 ≤ (d - owed p g) / size p g := by omega
  have h4 := Int.ediv_mul_le (d - owed p g) (by omega : size p g ≠ 0)
  have h5 : 1 * size p g ≤ (d - owed p g) / size p g * size p g := Int.mul_le_mul_of_nonneg_right h3 (by omega)
  omega
theorem made_le {p : Pr} (h : Good p) (g : Nat) {d : Int} (hd : 0 ≤ d) : made p g d ≤ d := by
  have h1 := size_pos h g
  have h2 := owed_nn h g
  unfold made
  have h3 : (d - owed p g) / size p g ≤ d := by
    by_cases q : 0 ≤ (d - owed p g) / size p g
    · have h4 := Int.ediv_mul_le (d - owed p g) (by omega : size p g ≠ 0)
      have h5 : (d - owed p g) / size p g * 1 ≤ (d - owed p g) / size p g * size p g := Int.mul_le_mul_of_nonneg_left (by omega) q
      omega
    · omega
  omega
/-! ### bakes -/
def isBaked (p : Pr) (g : Nat) (d : Int) : Bool := decide (owed p (g + 1) + size p (g + 1) ≤ d) && decide ((d - owed p (g + 1)) % size p (g + 1) = 0)
theorem isBaked_iff {p : Pr} {g : Nat} {d : Int} : isBaked p g d = true ↔ owed p (g + 1) + size p (g + 1) ≤ d ∧ (d - owed p (g + 1)) % size p (g + 1) = 0 := by
  unfold isBaked
  rw [Bool.and_eq_true, decide_eq_true_iff, decide_eq_true_iff]
theorem isBaked_size {p : Pr} (h : Good p) {g : Nat} {d : Int} (b : isBaked p g d = true) : size p (g + 1) ≤ d := by
  have := (isBaked_iff.mp b).1
  have := owed_nn h (g + 1)
  omega
theorem isBaked_lt {p : Pr} (h : Good p) {g : Nat} {d : Int} (b : isBaked p g d = true) : (g : Int) + 1 < d := by
  have h1 := isBaked_size h b
  have h2 := size_ge h (g + 1)
  have h3 := lt_two_pow' (g + 1)
  omega
def bkF : Nat → Pr → Int → Nat → List Int
  | 0, _, _, _ => []
  | n + 1, p, d, g => if isBaked p g d then (g : Int) :: bkF n p d (g + 1) else []
def bakedL (p : Pr) (d : Int) : List Int := bkF d.toNat p d 0
theorem bkF_step {p : Pr} (h : Good p) {n g : Nat} {d : Int} (hn : n = d.toNat - g) : bkF n p d g = if isBaked p g d then (g : Int) :: bkF (d.toNat - (g + 1)) p d (g + 1) else [] := by
  cases n with
  | zero =>
    show [] = _
    by_cases c : isBaked p g d = true
    · have := isBaked_lt h c; omega
    · rw [if_neg c]
  | succ n =>
    show (if isBaked p g d then (g : Int) :: bkF n p d (g + 1) else []) = _
    have : n = d.toNat - (g + 1) := by omega
    rw [this]
theorem bkF_len : ∀ (n : Nat) (p : Pr) (d : Int) (g : Nat), (bkF n p d g).length ≤ n
  | 0, _, _, _ => Nat.le_refl _
  | n + 1, p, d, g => by
    show (if isBaked p g d then (g : Int) :: bkF n p d (g + 1) else []).length ≤ _
    split
    · rw [List.length_cons]; have := bkF_len n p d (g + 1); omega
    · exact Nat.zero_le _
def nextBaked (p : Pr) (g : Nat) (d : Int) : Int := owed p (g + 1) + size p (g + 1) * max 1 ((d - owed p (g + 1)) / size p (g + 1) + 1)
/-- the bakes of the rule without its first grade -/
theorem isBaked_tl {p : Pr} (h : Good p) {d : Int} (b : isBaked p 0 d = true) (g : Nat) : isBaked p (g + 1) d = isBaked (tl p 1) g (late p d) := by
  have hb : 0 < (p 0).2 := by have := h.lo 0; omega
  obtain ⟨b1, b2⟩ := isBaked_iff.mp b
  have e1 : owed p (0 + 1) = (p 0).1 - (p 0).2 := by simp [owed, size]
  have e2 : size p (0 + 1) = (p 0).2 := by simp [size]
  rw [e1, e2] at b1 b2
  obtain ⟨q, hq⟩ := Int.dvd_of_emod_eq_zero b2
  have hl : late p d = q := by
    unfold late
    have : d - (p 0).1 + (p 0).2 = (p 0).2 * q := by omega
    rw [this, Int.mul_ediv_cancel_left _ (by omega)]
    have : 1 ≤ q := by
      have : (p 0).2 * 1 ≤ (p 0).2 * q := by omega
      exact Int.le_of_mul_le_mul_left this hb
    omega
  rw [hl]
  unfold isBaked
  rw [size_tl, owed_tl]
  have hd : d = (p 0).1 - (p 0).2 + (p 0).2 * q := by omega
  have hs := size_pos (h.tl 1) (g + 1)
  congr 1
  · congr 1
    apply propext
    constructor
    · intro z
      have : (p 0).2 * (owed (tl p 1) (g + 1) + size (tl p 1) (g + 1)) ≤ (p 0).2 * q := by rw [Int.mul_add]; omega
      exact Int.le_of_mul_le_mul_left this hb
    · intro z
      have : (p 0).2 * (owed (tl p 1) (g + 1) + size (tl p 1) (g + 1)) ≤ (p 0).2 * q := Int.mul_le_mul_of_nonneg_left z (by omega)
      rw [Int.mul_add] at this
      omega
  · congr 1
    have : d - ((p 0).1 - (p 0).2 + (p 0).2 * owed (tl p 1) (g + 1)) = (p 0).2 * (q - owed (tl p 1) (g + 1)) := by rw [Int.mul_sub]; omega
    rw [this, Int.mul_emod_mul_of_pos _ _ hb]
    apply propext
    constructor
    · intro z
      rcases Int.mul_eq_zero.mp z with z | z
      · omega
      · exact z
    · intro z; rw [z, Int.mul_zero]
/-- grade 0 is baked on a day just if there comes one more layer of grade 1 -/
theorem isBaked_zero {p : Pr} (h : Good p) {d : Int} (hd : 0 ≤ d) : isBaked p 0 d = decide (made p 1 (max 0 (d - 1)) < late p d) := by
  have hb : 2 ≤ (p 0).2 := h.lo 0
  have hw := h.le 0
  rw [made_one]
  have e1 : owed p (0 + 1) = (p 0).1 - (p 0).2 := by simp [owed, size]
  have e2 : size p (0 + 1) = (p 0).2 := by simp [size]
  unfold isBaked late
  rw [e1, e2]
  generalize (p 0).2 = b at *
  generalize (p 0).1 = w at *
  have hb0 : 0 < b := by omega
  rw [← Bool.decide_and]
  congr 1
  apply propext
  have f1 := Int.emod_add_mul_ediv (d - (w - b)) b
  have f2 := Int.emod_nonneg (d - (w - b)) (by omega : b ≠ 0)
  have f3 := Int.emod_lt_of_pos (d - (w - b)) hb0
  have ed : d - w + b = d - (w - b) := by omega
  rw [ed]
  generalize hq : (d - (w - b)) / b = q at *
  generalize hr : (d - (w - b)) % b = r at *
  by_cases hd1 : 1 ≤ d
  · have em : max 0 (d - 1) = d - 1 := by omega
    rw [em]
    have eq2 : (d - 1 - w + b) / b = if r = 0 then q - 1 else q := by
      by_cases c : r = 0
      · rw [if_pos c]
        have : d - 1 - w + b = (b - 1) + b * (q - 1) := by rw [Int.mul_sub]; omega
        rw [this, Int.add_mul_ediv_left _ _ (by omega : b ≠ 0), Int.ediv_eq_zero_of_lt (by omega) (by omega)]
        omega
      · rw [if_neg c]
        have : d - 1 - w + b = (r - 1) + b * q := by omega
        rw [this, Int.add_mul_ediv_left _ _ (by omega : b ≠ 0), Int.ediv_eq_zero_of_lt (by omega) (by omega)]
        omega
    rw [eq2]
    constructor
    · rintro ⟨z1, z2⟩
      rw [if_pos z2]
      have : b * 1 ≤ b * q := by omega
      have := Int.le_of_mul_le_mul_left this hb0
      omega
    · intro z
      by_cases c : r = 0
      · rw [if_pos c] at z
        have : 1 ≤ q := by omega
        have : b * 1 ≤ b * q := Int.mul_le_mul_of_nonneg_left this (by omega)
        exact ⟨by omega, c⟩
      · rw [if_neg c] at z; omega
  · have : d = 0 := by omega
    subst this
    constructor
    · rintro ⟨z1, _⟩; omega
    · intro z
      exfalso
      have em : max 0 ((0 : Int) - 1) = 0 := by omega
      rw [em, ed] at z
      omega
theorem bkF_shift {p q : Pr} {d e : Int} (s : ∀ g, isBaked p (g + 1) d = isBaked q g e) : ∀ (n g : Nat), bkF n p d (g + 1) = (bkF n q e g).map (· + 1)
  | 0, _ => rfl
  | n + 1, g => by
    show (if isBaked p (g + 1) d then (((g + 1 : Nat)) : Int) :: bkF n p d (g + 1 + 1) else []) = List.map _ (if isBaked q g e then (g : Int) :: bkF n q e (g + 1) else [])
    rw [s g]
    by_cases c : isBaked q g e = true
    · rw [if_pos c, if_pos c, bkF_shift s n (g + 1)]
      rfl
    · rw [if_neg c, if_neg c]; rfl
theorem bkF_fuel {p : Pr} (h : Good p) {d : Int} : ∀ (n m g : Nat), d ≤ n + g → d ≤ m + g → bkF n p d g = bkF m p d g
  | 0, 0, _, _, _ => rfl
  | 0, m + 1, g, hn, _ => by
    show [] = if isBaked p g d then _ else []
    by_cases c : isBaked p g d = true
    · have := isBaked_lt h c; omega
    · rw [if_neg c]
  | n + 1, 0, g, _, hm => by
    show (if isBaked p g d then _ else []) = []
    by_cases c : isBaked p g d = true
    · have := isBaked_lt h c; omega
    · rw [if_neg c]
  | n + 1, m + 1, g, hn, hm => by
    show (if isBaked p g d then (g : Int) :: bkF n p d (g + 1) else []) = if isBaked p g d then (g : Int) :: bkF m p d (g + 1) else []
    rw [bkF_fuel h n m (g + 1) (by omega) (by omega)]
theorem bakedL_tl {p : Pr} (h : Good p) {d : Int} (hd : 0 ≤ d) : bakedL p d = if made p 1 (max 0 (d - 1)) < late p d then 0 :: (bakedL (tl p 1) (late p d)).map (· + 1) else [] := by
  unfold bakedL
  rw [bkF_step h (g := 0) (by omega)]
  rw [isBaked_zero h hd]
  by_cases c : made p 1 (max 0 (d - 1)) < late p d
  · rw [if_pos (decide_eq_true c), if_pos c]
    have b : isBaked p 0 d = true := by rw [isBaked_zero h hd]; exact decide_eq_true c
    have l0 := late_nn p d
    have l1 := late_lt h (d := d) (by have := isBaked_lt h b; omega)
    rw [bkF_shift (fun g => isBaked_tl h b g), bkF_fuel (h.tl 1) (d.toNat - (0 + 1)) (late p d).toNat 0 (by omega) (by omega)]
    rfl
  · rw [if_neg (by rw [decide_eq_false c]; decide), if_neg c]
/-! ### work -/
def workF : Nat → Pr → Int → Int
  | 0, _, _ => 0
  | n + 1, p, d => if late p d ≤ 0 then 0 else (p 0).2 * late p d + (p 0).2 * workF n (tl p 1) (late p d)
def work (p : Pr) (d : Int) : Int := workF d.toNat p d
theorem workF_more : ∀ (n m : Nat) (p : Pr) (d : Int), Good p → d ≤ n → d ≤ m → workF n p d = workF m p d
  | 0, 0, _, _, _, _, _ => rfl
  | 0, m + 1, p, d, g, h, _ => by
    show (0 : Int) = if late p d ≤ 0 then 0 else _
    have : late p d ≤ 0 := by
      have h1 := g.lo 0
      have h2 := g.le 0
      have := neg_ediv_le (a := d - (p 0).1 + (p 0).2) (s := (p 0).2) (by omega) (by omega)
      unfold late; omega
    rw [if_pos this]
  | n + 1, 0, p, d, g, _, h => by
    show (if late p d ≤ 0 then 0 else _) = (0 : Int)
    have : late p d ≤ 0 := by
      have h1 := g.lo 0
      have h2 := g.le 0
      have := neg_ediv_le (a := d - (p 0).1 + (p 0).2) (s := (p 0).2) (by omega) (by omega)
      unfold late; omega
    rw [if_pos this]
  | n + 1, m + 1, p, d, g, h, h' => by
    show (if late p d ≤ 0 then 0 else _) = (if late p d ≤ 0 then 0 else _)
    by_cases c : late p d ≤ 0
    · rw [if_pos c, if_pos c]
    · rw [if_neg c, if_neg c]
      have hd : 0 < d := by
        rcases Int.lt_or_le 0 d with q | q
        · exact q
        · exfalso
          have h1 := g.lo 0
          have h2 := g.le 0
          have := neg_ediv_le (a := d - (p 0).1 + (p 0).2) (s := (p 0).2) (by omega) (by omega)
          unfold late at c; omega
      have := late_lt g hd
      rw [workF_more n m (tl p 1) (late p d) (g.tl 1) (by omega) (by omega)]
theorem work_eq {p : Pr} (g : Good p) {d : Int} (hd : 0 ≤ d) : work p d = (p 0).2 * late p d + (p 0).2 * work (tl p 1) (late p d) := by
  unfold work
  by_cases c : d = 0
  · subst c
    have h1 := g.lo 0
    have h2 := g.le 0
    have := neg_ediv_le (a := 0 - (p 0).1 + (p 0).2) (s := (p 0).2) (by omega) (by omega)
    have e : late p 0 = 0 := by unfold late; omega
    rw [e]
    simp [workF]
  · obtain ⟨n, hn⟩ : ∃ n, d.toNat = n + 1 := ⟨d.toNat - 1, by omega⟩
    rw [hn]
    show (if late p d ≤ 0 then 0 else _) = _
    have l1 := late_lt g (d := d) (by omega)
    have l0 := late_nn p d
    by_cases c : late p d ≤ 0
    · rw [if_pos c]
      have e : late p d = 0 := by omega
      rw [e]
      simp [workF]
    · rw [if_neg c, workF_more n (late p d).toNat (tl p 1) (late p d) (g.tl 1) (by omega) (by omega)]
/-! ### the value of digits, digit by digit -/
theorem value_take : ∀ (ds : List Int) (p : Pr) (i : Nat) (x : Int), ds[i]? = some x → value p (ds.take (i + 1)) = value p (ds.take i) + x * size p i
  | [], _, _, _, h => by simp at h
  | y :: ys, p, 0, x, h => by
    simp at h; subst h
    simp [value, size]
  | y :: ys, p, i + 1, x, h => by
    have h' : ys[i]? = some x := by simpa using h
    show y + (p 0).2 * value (tl p 1) (ys.take (i + 1)) = y + (p 0).2 * value (tl p 1) (ys.take i) + x * size p (i + 1)
    rw [value_take ys (tl p 1) i x h', size_tl, Int.mul_add]
    have : (p 0).2 * (x * size (tl p 1) i) = x * ((p 0).2 * size (tl p 1) i) := by
      rw [← Int.mul_assoc, Int.mul_comm (p 0).2 x, Int.mul_assoc]
    omega
theorem valid_get : ∀ (ds : List Int) (p : Pr) (i : Nat) (x : Int), Valid p ds → ds[i]? = some x → x < (p i).1 ∧ (if i + 1 = ds.length then 1 else (p i).1 - (p i).2) ≤ x
  | [], _, _, _, _, h => by simp at h
  | [y], p, 0, x, v, h => by
    simp at h; subst h
    exact ⟨v.2, by simpa using v.1⟩
  | [y], p, i + 1, x, v, h => by simp at h
  | y :: z :: zs, p, 0, x, v, h => by
    simp at h; subst h
    refine ⟨v.2.1, ?_⟩
    rw [if_neg (by simp)]
    exact v.1
  | y :: z :: zs, p, i + 1, x, v, h => by
    have h' : (z :: zs)[i]? = some x := by simpa using h
    have q := valid_get (z :: zs) (tl p 1) i x v.2.2 h'
    refine ⟨q.1, ?_⟩
    have e : (i + 1 + 1 = (y :: z :: zs).length) ↔ (i + 1 = (z :: zs).length) := by simp
    by_cases c : i + 1 = (z :: zs).length
    · rw [if_pos (e.mpr c)]; rw [if_pos c] at q; exact q.2
    · rw [if_neg (fun w => c (e.mp w))]; rw [if_neg c] at q; exact q.2
/-! ### first days with so many layers -/
def fwF : Nat → Pr → Int → List Int
  | 0, _, _ => []
  | n + 1, p, m => if m ≤ 0 then [] else min m ((p 0).1 - 1) :: fwF n (tl p 1) (m - min m ((p 0).1 - 1))
def fwL (p : Pr) (m : Int) : List Int := fwF m.toNat p m
def firstWith (p : Pr) (m : Int) : Int := value p (fwL p m)
theorem fwF_more : ∀ (n k : Nat) (p : Pr) (m : Int), Good p → m ≤ n → m ≤ k → fwF n p m = fwF k p m
  | 0, 0, _, _, _, _, _ => rfl
  | 0, k + 1, p, m, _, h, _ => by show [] = if m ≤ 0 then [] else _; rw [if_pos (by omega)]
  | n + 1, 0, p, m, _, _, h => by show (if m ≤ 0 then [] else _) = []; rw [if_pos (by omega)]
  | n + 1, k + 1, p, m, g, h, h' => by
    show (if m ≤ 0 then [] else _) = (if m ≤ 0 then [] else _)
    by_cases c : m ≤ 0
    · rw [if_pos c, if_pos c]
    · rw [if_neg c, if_neg c]
      have h1 := g.lo 0
      have h2 := g.le 0
      rw [fwF_more n k (tl p 1) _ (g.tl 1) (by omega) (by omega)]
theorem fwL_pos {p : Pr} (g : Good p) {m : Int} (h : 0 < m) : fwL p m = min m ((p 0).1 - 1) :: fwL (tl p 1) (m - min m ((p 0).1 - 1)) := by
  unfold fwL
  obtain ⟨n, hn⟩ : ∃ n, m.toNat = n + 1 := ⟨m.toNat - 1, by omega⟩
  rw [hn]
  show (if m ≤ 0 then [] else _) = _
  have h1 := g.lo 0
  have h2 := g.le 0
  rw [if_neg (by omega), fwF_more n (m - min m ((p 0).1 - 1)).toNat (tl p 1) _ (g.tl 1) (by omega) (by omega)]
theorem fwL_zero (p : Pr) {m : Int} (h : m ≤ 0) : fwL p m = [] := by
  unfold fwL
  have : m.toNat = 0 := by omega
  rw [this]; rfl
theorem fwF_valid : ∀ (n : Nat) (p : Pr) (m : Int), Good p → m ≤ n → Valid p (fwF n p m)
  | 0, _, _, _, _ => trivial
  | n + 1, p, m, g, h => by
    show Valid p (if m ≤ 0 then [] else _)
    have h1 := g.lo 0
    have h2 := g.le 0
    by_cases c : m ≤ 0
    · rw [if_pos c]; trivial
    · rw [if_neg c]
      have ih := fwF_valid n (tl p 1) (m - min m ((p 0).1 - 1)) (g.tl 1) (by omega)
      cases e : fwF n (tl p 1) (m - min m ((p 0).1 - 1)) with
      | nil => exact ⟨by omega, by omega⟩
      | cons y ys =>
        rw [e] at ih
        have : ¬ (m - min m ((p 0).1 - 1) ≤ 0) := by
          intro z
          cases n with
          | zero => simp [fwF] at e
          | succ n => simp [fwF, if_pos z] at e
        exact ⟨by omega, by omega, ih⟩
theorem fwL_valid {p : Pr} (g : Good p) (m : Int) : Valid p (fwL p m) := fwF_valid _ p m g (by omega)
theorem fwF_len : ∀ (n : Nat) (p : Pr) (m : Int), (fwF n p m).length ≤ n
  | 0, _, _ => Nat.le_refl _
  | n + 1, p, m => by
    show (if m ≤ 0 then [] else _).length ≤ _
    split
    · exact Nat.zero_le _
    · rw [List.length_cons]; have := fwF_len n (tl p 1) (m - min m ((p 0).1 - 1)); omega
theorem fwL_len (p : Pr) (m : Int) : (fwL p m).length ≤ m.toNat := fwF_len _ p m
theorem firstWith_tl {p : Pr} (g : Good p) {m : Int} (h : (p 0).1 - 1 < m) : firstWith p m = ((p 0).1 - 1) + (p 0).2 * firstWith (tl p 1) (m - ((p 0).1 - 1)) := by
  have h1 := g.lo 0
  have h2 := g.le 0
  unfold firstWith
  rw [fwL_pos g (by omega)]
  have e : min m ((p 0).1 - 1) = (p 0).1 - 1 := by omega
  rw [e]
  rfl
end Silt
set_option linter.all false
namespace Silt
/-- what digits from grade k on are worth -/
def sv (p : Pr) : Nat → List Int → Int
  | _, [] => 0
  | k, x :: xs => size p k * x + sv p (k + 1) xs
theorem sv_tl (p : Pr) : ∀ (k : Nat) (xs : List Int), sv p (k + 1) xs = (p 0).2 * sv (tl p 1) k xs
  | _, [] => by simp [sv]
  | k, x :: xs => by
    show size p (k + 1) * x + sv p (k + 1 + 1) xs = (p 0).2 * (size (tl p 1) k * x + sv (tl p 1) (k + 1) xs)
    rw [sv_tl p (k + 1) xs, size_tl, Int.mul_add, Int.mul_assoc]
theorem value_sv : ∀ (xs : List Int) (p : Pr), value p xs = sv p 0 xs
  | [], _ => rfl
  | x :: xs, p => by
    show x + (p 0).2 * value (tl p 1) xs = size p 0 * x + sv p (0 + 1) xs
    rw [value_sv xs (tl p 1), sv_tl]
    simp [size]
/-! ### layers -/
def lyN (last s : Int) (k : Nat) (n : Nat) : List (Int × Int × Int) := (List.range n).map fun (i : Nat) => (last + (i : Int) * s + 1, last + (i : Int) * s + s, (k : Int))
theorem lyN_succ (last s : Int) (k n : Nat) : lyN last s k (n + 1) = lyN last s k n ++ [(last + (n : Int) * s + 1, last + (n : Int) * s + s, (k : Int))] := by
  unfold lyN
  rw [List.range_succ, List.map_append]
  rfl
def LY (p : Pr) : Nat → List Int → List (Int × Int × Int) × Int
  | _, [] => ([], 0)
  | k, x :: xs => ((LY p (k + 1) xs).1 ++ lyN (LY p (k + 1) xs).2 (size p k) k x.toNat, (LY p (k + 1) xs).2 + (x.toNat : Int) * size p k)
def layersL (p : Pr) (d : Int) : List (Int × Int × Int) := (LY p 0 (digits p d)).1
def upL (b : Int) (r : Int × Int × Int) : Int × Int × Int := ((r.1 - 1) * b + 1, r.2.1 * b, r.2.2 + 1)
theorem LY_tl (p : Pr) : ∀ (k : Nat) (xs : List Int), LY p (k + 1) xs = ((LY (tl p 1) k xs).1.map (upL (p 0).2), (LY (tl p 1) k xs).2 * (p 0).2)
  | _, [] => by simp [LY]
  | k, x :: xs => by
    show ((LY p (k + 1 + 1) xs).1 ++ lyN (LY p (k + 1 + 1) xs).2 (size p (k + 1)) (k + 1) x.toNat, (LY p (k + 1 + 1) xs).2 + (x.toNat : Int) * size p (k + 1)) =
      (List.map (upL (p 0).2) ((LY (tl p 1) (k + 1) xs).1 ++ lyN (LY (tl p 1) (k + 1) xs).2 (size (tl p 1) k) k x.toNat), ((LY (tl p 1) (k + 1) xs).2 + (x.toNat : Int) * size (tl p 1) k) * (p 0).2)
    rw [LY_tl p (k + 1) xs, size_tl, List.map_append]
    generalize (LY (tl p 1) (k + 1) xs).2 = l
    generalize size (tl p 1) k = s
    generalize (p 0).2 = b
    have e1 : ∀ i : Int, i * (b * s) = i * s * b := fun i => by rw [Int.mul_comm b s, Int.mul_assoc]
    congr 1
    · congr 1
      unfold lyN
      rw [List.map_map]
      refine List.map_congr_left fun i _ => ?_
      show _ = ((l + (i : Int) * s + 1 - 1) * b + 1, (l + (i : Int) * s + s) * b, (k : Int) + 1)
      have h1 : l * b + (i : Int) * (b * s) + 1 = (l + (i : Int) * s + 1 - 1) * b + 1 := by
        rw [e1]
        have : l + (i : Int) * s + 1 - 1 = l + (i : Int) * s := by omega
        rw [this, Int.add_mul]
      have h2 : l * b + (i : Int) * (b * s) + b * s = (l + (i : Int) * s + s) * b := by
        rw [e1, Int.add_mul, Int.add_mul, Int.mul_comm b s]
      have h3 : (((k + 1 : Nat)) : Int) = (k : Int) + 1 := by omega
      rw [h1, h2, h3]
    · rw [e1, Int.add_mul]
theorem layersL_tl {p : Pr} (g : Good p) {d : Int} (hd : 0 ≤ d) : ∃ r, layersL p d = (layersL (tl p 1) (late p d)).map (upL (p 0).2) ++ r := by
  unfold layersL
  by_cases c : d ≤ 0
  · have e : d = 0 := by omega
    subst e
    have h1 := g.lo 0
    have h2 := g.le 0
    have := neg_ediv_le (a := 0 - (p 0).1 + (p 0).2) (s := (p 0).2) (by omega) (by omega)
    have e : late p 0 = 0 := by unfold late; omega
    rw [e, digits_zero p (by omega), digits_zero (tl p 1) (by omega)]
    exact ⟨[], rfl⟩
  · rw [digits_pos g (by omega)]
    exact ⟨lyN (LY p 1 (digits (tl p 1) (late p d))).2 (size p 0) 0 (d - (p 0).2 * late p d).toNat, by
      show (LY p (0 + 1) (digits (tl p 1) (late p d))).1 ++ _ = _
      rw [LY_tl]⟩
theorem LY_len (p : Pr) : ∀ (k : Nat) (xs : List Int), (∀ x ∈ xs, x ≤ 12) → (LY p k xs).1.length ≤ 12 * xs.length
  | _, [], _ => by simp [LY]
  | k, x :: xs, h => by
    show ((LY p (k + 1) xs).1 ++ lyN (LY p (k + 1) xs).2 (size p k) k x.toNat).length ≤ _
    rw [List.length_append, List.length_cons]
    have h1 := LY_len p (k + 1) xs fun y hy => h y (List.mem_cons_of_mem _ hy)
    have h2 := h x List.mem_cons_self
    have h3 : (lyN (LY p (k + 1) xs).2 (size p k) k x.toNat).length = x.toNat := by unfold lyN; simp
    omega
/-! ### places -/
def PL (p : Pr) (day : Int) : Nat → List Int → Sum (Int × Int) (Int × Int)
  | _, [] => .inr (0, 0)
  | k, x :: xs => match PL p day (k + 1) xs with
    | .inl r => .inl r
    | .inr (l, n) => if day ≤ l + size p k * x then .inl ((k : Int), n + (day - l - 1) / size p k) else .inr (l + size p k * x, n + x)
theorem PL_step {p : Pr} {day : Int} {k : Nat} {x : Int} {xs : List Int} {l n : Int} (h : PL p day (k + 1) xs = .inr (l, n)) :
    PL p day k (x :: xs) = if day ≤ l + size p k * x then .inl ((k : Int), n + (day - l - 1) / size p k) else .inr (l + size p k * x, n + x) := by
  unfold PL
  rw [h]
theorem PL_keep {p : Pr} {day : Int} {k : Nat} {x : Int} {xs : List Int} {r : Int × Int} (h : PL p day (k + 1) xs = .inl r) : PL p day k (x :: xs) = .inl r := by
  unfold PL
  rw [h]
/-- found at a grade: found -/
theorem PL_down {p : Pr} {day : Int} {r : Int × Int} {ds : List Int} : ∀ (j : Nat), j ≤ ds.length → PL p day j (ds.drop j) = .inl r → PL p day 0 ds = .inl r
  | 0, _, h => by simpa using h
  | j + 1, hj, h => by
    refine PL_down j (by omega) ?_
    rw [List.drop_eq_getElem_cons (by omega : j < ds.length)]
    exact PL_keep h
theorem PL_sv {p : Pr} {day : Int} : ∀ (k : Nat) (xs : List Int) (l n : Int), PL p day k xs = .inr (l, n) → l = sv p k xs ∧ (xs = [] ∨ l < day)
  | _, [], l, n, h => by
    have h' : (0, 0) = (l, n) := Sum.inr.inj h
    exact ⟨(Prod.mk.inj h').1.symm, .inl rfl⟩
  | k, x :: xs, l, n, h => by
    cases e : PL p day (k + 1) xs with
    | inl r => rw [PL_keep e] at h; cases h
    | inr r =>
      obtain ⟨l1, n1⟩ := r
      rw [PL_step e] at h
      have q := PL_sv (k + 1) xs l1 n1 e
      by_cases c : day ≤ l1 + size p k * x
      · rw [if_pos c] at h; cases h
      · rw [if_neg c] at h
        have h' := Prod.mk.inj (Sum.inr.inj h)
        refine ⟨?_, .inr (by omega)⟩
        show l = size p k * x + sv p (k + 1) xs
        rw [← h'.1, q.1]; omega
theorem sv_nn {p : Pr} (g : Good p) : ∀ (k : Nat) (xs : List Int), (∀ x ∈ xs, 0 ≤ x) → 0 ≤ sv p k xs
  | _, [], _ => Int.le_refl _
  | k, x :: xs, h => by
    have h1 := sv_nn g (k + 1) xs fun y hy => h y (List.mem_cons_of_mem _ hy)
    have h2 : 0 ≤ size p k * x := Int.mul_nonneg (by have := size_pos g k; omega) (h x List.mem_cons_self)
    show 0 ≤ size p k * x + sv p (k + 1) xs
    omega
theorem PL_inl_le {p : Pr} (g : Good p) {day : Int} : ∀ (k : Nat) (xs : List Int) (r : Int × Int), (∀ x ∈ xs, 0 ≤ x) → PL p day k xs = .inl r → day ≤ sv p k xs ∧ (k : Int) ≤ r.1
  | _, [], r, _, h => by cases h
  | k, x :: xs, r, hx, h => by
    have h2 : 0 ≤ size p k * x := Int.mul_nonneg (by have := size_pos g k; omega) (hx x List.mem_cons_self)
    show day ≤ size p k * x + sv p (k + 1) xs ∧ _
    cases e : PL p day (k + 1) xs with
    | inl r1 =>
      rw [PL_keep e] at h
      cases h
      have q := PL_inl_le g (k + 1) xs r (fun y hy => hx y (List.mem_cons_of_mem _ hy)) e
      omega
    | inr r1 =>
      obtain ⟨l1, n1⟩ := r1
      rw [PL_step e] at h
      have q := PL_sv (k + 1) xs l1 n1 e
      by_cases c : day ≤ l1 + size p k * x
      · rw [if_pos c] at h
        have h' := Sum.inl.inj h
        rw [← h']
        exact ⟨by omega, Int.le_refl _⟩
      · rw [if_neg c] at h; cases h
theorem PL_tl {p : Pr} (g : Good p) (day : Int) : ∀ (k : Nat) (xs : List Int), PL p day (k + 1) xs = match PL (tl p 1) ((day + (p 0).2 - 1) / (p 0).2) k xs with
    | .inl (gr, n) => .inl (gr + 1, n)
    | .inr (l, n) => .inr ((p 0).2 * l, n)
  | _, [] => by simp [PL]
  | k, x :: xs => by
    have ih := PL_tl g day (k + 1) xs
    have hb := g.lo 0
    cases e : PL (tl p 1) ((day + (p 0).2 - 1) / (p 0).2) (k + 1) xs with
    | inl r =>
      obtain ⟨gr, n⟩ := r
      rw [e] at ih
      rw [PL_keep ih, PL_keep e]
    | inr r =>
      obtain ⟨l, n⟩ := r
      rw [e] at ih
      rw [PL_step ih, PL_step e, size_tl]
      have hs := size_pos (g.tl 1) k
      generalize size (tl p 1) k = s at *
      generalize (p 0).2 = b at *
      have hb0 : 0 < b := by omega
      have f1 := Int.emod_add_mul_ediv (day + b - 1) b
      have f2 := Int.emod_nonneg (day + b - 1) (by omega : b ≠ 0)
      have f3 := Int.emod_lt_of_pos (day + b - 1) hb0
      generalize hq : (day + b - 1) / b = q at *
      generalize hr : (day + b - 1) % b = r at *
      have e1 : b * l + b * s * x = b * (l + s * x) := by rw [Int.mul_add, Int.mul_assoc]
      have hc : (day ≤ b * l + b * s * x) ↔ (q ≤ l + s * x) := by
        rw [e1]
        constructor
        · intro z
          have : b * q < b * (l + s * x + 1) := by rw [Int.mul_add]; omega
          have := Int.lt_of_mul_lt_mul_left this (by omega)
          omega
        · intro z
          have : b * q ≤ b * (l + s * x) := Int.mul_le_mul_of_nonneg_left z (by omega)
          omega
      by_cases c : q ≤ l + s * x
      · rw [if_pos c, if_pos (hc.mpr c)]
        have e2 : (day - b * l - 1) / (b * s) = (q - l - 1) / s := by
          have e3 : day - b * l - 1 = (day - 1) - b * l := by omega
          rw [e3, ediv_shift hb0 hs]
          congr 1
          have : day - 1 = (r - (0 : Int)) + b * (q - 1) := by rw [Int.mul_sub]; omega
          rw [this, Int.add_mul_ediv_left _ _ (by omega : b ≠ 0), Int.sub_zero, Int.ediv_eq_zero_of_lt f2 f3]
          omega
        rw [e2]
        have : (((k + 1 : Nat)) : Int) = (k : Int) + 1 := by omega
        rw [this]
      · rw [if_neg c, if_neg (fun z => c (hc.mp z)), e1]
theorem valid_le {p : Pr} (g : Good p) {ds : List Int} (v : Valid p ds) : ∀ x ∈ ds, 0 ≤ x ∧ x ≤ 12 := by
  intro x hx
  obtain ⟨i, hi, e⟩ := List.mem_iff_getElem.mp hx
  have q := valid_get ds p i x v (by rw [List.getElem?_eq_getElem hi, e])
  have h1 := g.lo i
  have h2 := g.le i
  have h3 := g.hi i
  refine ⟨?_, by omega⟩
  have := q.2
  split at this <;> omega
theorem digits_len {p : Pr} (g : Good p) : ∀ (n : Nat) (d : Int), 0 ≤ d → d < ((2 ^ n : Nat) : Int) → (digits p d).length ≤ n
  | 0, d, h0, h => by
    have : d = 0 := by simp at h; omega
    subst this
    rw [digits_zero p (by omega)]
    exact Nat.le_refl _
  | n + 1, d, h0, h => by
    by_cases c : d ≤ 0
    · rw [digits_zero p c]; exact Nat.zero_le _
    · rw [digits_pos g (by omega), List.length_cons]
      have l0 := late_nn p d
      have l2 : late p d * 2 ≤ d := by
        have h1 := g.lo 0
        have h2 := g.le 0
        unfold late
        by_cases q : 0 ≤ (d - (p 0).1 + (p 0).2) / (p 0).2
        · have e : max 0 ((d - (p 0).1 + (p 0).2) / (p 0).2) = (d - (p 0).1 + (p 0).2) / (p 0).2 := by omega
          rw [e]
          have e3 := Int.ediv_mul_le (d - (p 0).1 + (p 0).2) (by omega : (p 0).2 ≠ 0)
          have e4 : (d - (p 0).1 + (p 0).2) / (p 0).2 * 2 ≤ (d - (p 0).1 + (p 0).2) / (p 0).2 * (p 0).2 := Int.mul_le_mul_of_nonneg_left h1 q
          omega
        · have e : max 0 ((d - (p 0).1 + (p 0).2) / (p 0).2) = 0 := by omega
          rw [e]; omega
      have e : ((2 ^ (n + 1) : Nat) : Int) = ((2 ^ n : Nat) : Int) * 2 := by rw [Nat.pow_succ]; omega
      rw [e] at h
      have := digits_len (g.tl 1) n (late p d) l0 (by omega)
      omega
end Silt
set_option linter.all false
namespace Silt
/-- the item of a grade, told by a front and a period -/
def atO {α : Type} (f q : List α) (g : Nat) : Option α := if g < f.length then f[g]? else q[(g - f.length) % q.length]?
theorem atO_some {α : Type} {f q : List α} (hq : q ≠ []) (g : Nat) : ∃ x, atO f q g = some x ∧ (x ∈ f ∨ x ∈ q) := by
  unfold atO
  by_cases c : g < f.length
  · rw [if_pos c, List.getElem?_eq_getElem c]
    exact ⟨_, rfl, .inl (List.getElem_mem c)⟩
  · rw [if_neg c]
    have h0 : 0 < q.length := List.length_pos_iff.mpr hq
    have h1 : (g - f.length) % q.length < q.length := Nat.mod_lt _ h0
    rw [List.getElem?_eq_getElem h1]
    exact ⟨_, rfl, .inr (List.getElem_mem h1)⟩
/-- the last of the front goes ahead of the period -/
theorem atO_turn {α : Type} (f q : List α) (x : α) (g : Nat) : atO f (x :: q) g = atO (f ++ [x]) (q ++ [x]) g := by
  unfold atO
  rw [List.length_append, List.length_singleton, List.length_append, List.length_singleton, List.length_cons]
  by_cases c : g < f.length
  · rw [if_pos c, if_pos (by omega), List.getElem?_append_left c]
  · rw [if_neg c]
    by_cases c2 : g = f.length
    · subst c2
      rw [if_pos (by omega), Nat.sub_self, Nat.zero_mod, List.getElem?_append_right (Nat.le_refl _), Nat.sub_self]
      rfl
    · rw [if_neg (by omega)]
      obtain ⟨j, hj⟩ : ∃ j, g - f.length = j + 1 := ⟨g - f.length - 1, by omega⟩
      have hj2 : g - (f.length + 1) = j := by omega
      rw [hj, hj2]
      have hn : 0 < q.length + 1 := Nat.succ_pos _
      have hlt := Nat.mod_lt j hn
      by_cases c3 : j % (q.length + 1) = q.length
      · have e : (j + 1) % (q.length + 1) = 0 := by
          rw [Nat.add_mod, c3]
          by_cases z : q.length = 0
          · rw [z]
          · rw [Nat.mod_eq_of_lt (by omega : 1 < q.length + 1), Nat.mod_self]
        rw [e, c3, List.getElem?_append_right (Nat.le_refl _), Nat.sub_self]
        rfl
      · have e : (j + 1) % (q.length + 1) = j % (q.length + 1) + 1 := by
          rw [Nat.add_mod]
          by_cases z : q.length = 0
          · rw [z] at hlt c3; omega
          · rw [Nat.mod_eq_of_lt (by omega : 1 < q.length + 1), Nat.mod_eq_of_lt (by omega)]
        rw [e, List.getElem?_cons_succ, List.getElem?_append_left (by omega)]
theorem flat_get {α : Type} (r : List α) (h : r ≠ []) : ∀ (k i : Nat), i < k * r.length → (List.replicate k r).flatten[i]? = r[i % r.length]?
  | 0, i, hi => by simp at hi
  | k + 1, i, hi => by
    have h0 : 0 < r.length := List.length_pos_iff.mpr h
    rw [List.replicate_succ, List.flatten_cons]
    by_cases c : i < r.length
    · rw [List.getElem?_append_left c, Nat.mod_eq_of_lt c]
    · rw [List.getElem?_append_right (by omega), flat_get r h k (i - r.length) (by rw [Nat.succ_mul] at hi; omega)]
      congr 1
      rw [Nat.mod_eq_sub_mod (by omega : i ≥ r.length)]
theorem flat_len {α : Type} (r : List α) (k : Nat) : (List.replicate k r).flatten.length = k * r.length := by
  induction k with
  | zero => simp
  | succ k ih => rw [List.replicate_succ, List.flatten_cons, List.length_append, ih, Nat.succ_mul]; omega
/-- a period told several times over -/
theorem atO_rep {α : Type} (f r : List α) (h : r ≠ []) {k : Nat} (hk : 0 < k) (g : Nat) : atO f r g = atO f (List.replicate k r).flatten g := by
  unfold atO
  by_cases c : g < f.length
  · rw [if_pos c, if_pos c]
  · rw [if_neg c, if_neg c, flat_len]
    have h0 : 0 < r.length := List.length_pos_iff.mpr h
    have h1 : (g - f.length) % (k * r.length) < k * r.length := Nat.mod_lt _ (Nat.mul_pos hk h0)
    rw [flat_get r h k _ h1, Nat.mod_mul_left_mod]
end Silt
set_option linter.all false
namespace Silt
theorem late_zero {p : Pr} (g : Good p) : late p 0 = 0 := by
  have h1 := g.lo 0
  have h2 := g.le 0
  have := neg_ediv_le (a := 0 - (p 0).1 + (p 0).2) (s := (p 0).2) (by omega) (by omega)
  unfold late; omega
theorem late_le {p : Pr} (g : Good p) {d : Int} (h : 0 ≤ d) : late p d ≤ d := by
  by_cases c : d = 0
  · rw [c, late_zero g]; exact Int.le_refl _
  · have := late_lt g (d := d) (by omega); omega
theorem digits_drop {p : Pr} (g : Good p) {d : Int} (h : 0 ≤ d) : (digits p d).drop 1 = digits (tl p 1) (late p d) := by
  by_cases c : d = 0
  · rw [c, late_zero g, digits_zero p (by omega), digits_zero (tl p 1) (by omega)]; rfl
  · rw [digits_pos g (by omega)]; rfl
def head0 (p : Pr) (d : Int) : Int := if d ≤ 0 then 0 else d - (p 0).2 * late p d
theorem head_get {p : Pr} (g : Good p) (d : Int) : (digits p d ++ [0])[0]? = some (head0 p d) := by
  unfold head0
  by_cases c : d ≤ 0
  · rw [digits_zero p c, if_pos c]; rfl
  · rw [digits_pos g (by omega), if_neg c]; rfl
theorem head_sum {p : Pr} (g : Good p) {d : Int} (h : 0 ≤ d) : (digits p d).sum - head0 p d = (digits (tl p 1) (late p d)).sum := by
  unfold head0
  by_cases c : d ≤ 0
  · have e : d = 0 := by omega
    subst e
    rw [if_pos c, late_zero g, digits_zero p (by omega), digits_zero (tl p 1) (by omega)]; rfl
  · rw [digits_pos g (by omega), if_neg c, List.sum_cons]; omega
theorem head_bound {p : Pr} (g : Good p) {d : Int} (h : 0 ≤ d) : 0 ≤ head0 p d ∧ head0 p d ≤ 12 := by
  unfold head0
  by_cases c : d ≤ 0
  · rw [if_pos c]; omega
  · rw [if_neg c]
    have := digit_lt g (d := d) (by omega)
    have := g.hi 0
    omega
theorem nextBaked_lo {p : Pr} (g : Good p) (k : Nat) (d : Int) : 1 ≤ nextBaked p k d := by
  have h1 := size_pos g (k + 1)
  have h2 := owed_nn g (k + 1)
  unfold nextBaked
  have : size p (k + 1) * 1 ≤ size p (k + 1) * max 1 ((d - owed p (k + 1)) / size p (k + 1) + 1) := Int.mul_le_mul_of_nonneg_left (by omega) (by omega)
  omega
theorem nextBaked_hi {p : Pr} (g : Good p) (k : Nat) {d : Int} (hd : 0 ≤ d) : nextBaked p k d ≤ owed p (k + 1) + size p (k + 1) * (d + 1) := by
  have h1 := size_pos g (k + 1)
  have h3 := made_le g (k + 1) hd
  unfold made at h3
  unfold nextBaked
  have : size p (k + 1) * max 1 ((d - owed p (k + 1)) / size p (k + 1) + 1) ≤ size p (k + 1) * (d + 1) := Int.mul_le_mul_of_nonneg_left (by omega) (by omega)
  omega
theorem nextBaked_tl {p : Pr} (g : Good p) (k : Nat) (d : Int) : nextBaked p 0 (nextBaked p (k + 1) d - 1) = nextBaked p (k + 1) d := by
  have hb := g.lo 0
  have e1 : owed p (0 + 1) = (p 0).1 - (p 0).2 := by simp [owed, size]
  have e2 : size p (0 + 1) = (p 0).2 := by simp [size]
  have hs := size_pos (g.tl 1) (k + 1)
  have ho := owed_nn (g.tl 1) (k + 1)
  have key : nextBaked p (k + 1) d = ((p 0).1 - (p 0).2) + (p 0).2 * (owed (tl p 1) (k + 1) + size (tl p 1) (k + 1) * max 1 ((d - owed p (k + 1 + 1)) / size p (k + 1 + 1) + 1)) := by
    show owed p (k + 1 + 1) + size p (k + 1 + 1) * _ = _
    rw [Int.mul_add, ← Int.mul_assoc, ← size_tl p (k + 1), owed_tl p (k + 1)]
    omega
  generalize hM : max 1 ((d - owed p (k + 1 + 1)) / size p (k + 1 + 1) + 1) = M at key
  have hM1 : 1 ≤ M := by omega
  have hq : 1 ≤ owed (tl p 1) (k + 1) + size (tl p 1) (k + 1) * M := by
    have : size (tl p 1) (k + 1) * 1 ≤ size (tl p 1) (k + 1) * M := Int.mul_le_mul_of_nonneg_left hM1 (by omega)
    omega
  generalize owed (tl p 1) (k + 1) + size (tl p 1) (k + 1) * M = q at key hq
  rw [key]
  unfold nextBaked
  rw [e1, e2]
  generalize (p 0).2 = b at *
  generalize (p 0).1 = w at *
  have : (w - b + b * q - 1 - (w - b)) / b = q - 1 := by
    have : w - b + b * q - 1 - (w - b) = (b - 1) + b * (q - 1) := by rw [Int.mul_sub]; omega
    rw [this, Int.add_mul_ediv_left _ _ (by omega : b ≠ 0), Int.ediv_eq_zero_of_lt (by omega) (by omega)]
    omega
  rw [this]
  have : max 1 (q - 1 + 1) = q := by omega
  rw [this]
/-- a day that lies in a grade above 0 lies in the rest -/
theorem PL_rest {p : Pr} (g : Good p) {one d : Int} {r : Int × Int} (hd : 0 < d) (h : PL p one 0 (digits p d) = .inl r) (hr : 0 < r.1) :
    PL (tl p 1) ((one + (p 0).2 - 1) / (p 0).2) 0 (digits (tl p 1) (late p d)) = .inl (r.1 - 1, r.2) ∧ (one + (p 0).2 - 1) / (p 0).2 ≤ late p d := by
  rw [digits_pos g hd] at h
  have t := PL_tl g one 0 (digits (tl p 1) (late p d))
  cases e : PL (tl p 1) ((one + (p 0).2 - 1) / (p 0).2) 0 (digits (tl p 1) (late p d)) with
  | inl r1 =>
    obtain ⟨gr, n⟩ := r1
    rw [e] at t
    have h2 := PL_keep (k := 0) (x := d - (p 0).2 * late p d) t
    rw [h2] at h
    have h3 := Sum.inl.inj h
    rw [← h3]
    refine ⟨by congr 2; show gr = gr + 1 - 1; omega, ?_⟩
    have l0 := late_nn p d
    have q := PL_inl_le (g.tl 1) 0 _ _ (fun y hy => (valid_le (g.tl 1) (valid_digits (g.tl 1) l0) y hy).1) e
    rw [← value_sv, value_digits (g.tl 1) l0] at q
    exact q.1
  | inr r1 =>
    obtain ⟨l, n⟩ := r1
    rw [e] at t
    rw [PL_step t] at h
    by_cases c : one ≤ (p 0).2 * l + size p 0 * (d - (p 0).2 * late p d)
    · rw [if_pos c] at h
      have h3 := Sum.inl.inj h
      rw [← h3] at hr
      simp at hr
    · rw [if_neg c] at h; cases h
end Silt
set_option linter.all false
namespace Silt
abbrev Rw := Int × Int × Int
/-- digits with one more -/
def bump : List Int → List Int
  | [] => [1]
  | x :: xs => (x + 1) :: xs
def inc : Pr → List Int → List Int
  | _, [] => [1]
  | p, x :: xs => if x + 1 < (p 0).1 then (x + 1) :: xs else (x + 1 - (p 0).2) :: inc (tl p 1) xs
def carry : Pr → List Int → List Int
  | _, [] => []
  | p, x :: xs => if x + 1 < (p 0).1 then [] else 0 :: (carry (tl p 1) xs).map (· + 1)
theorem late_succ {p : Pr} (g : Good p) {d : Int} (hd : 0 ≤ d) :
    (d - (p 0).2 * late p d + 1 < (p 0).1 ∧ late p (d + 1) = late p d) ∨ (d - (p 0).2 * late p d + 1 = (p 0).1 ∧ late p (d + 1) = late p d + 1) := by
  have h1 := g.lo 0
  have h2 := g.le 0
  have hx : d - (p 0).2 * late p d < (p 0).1 := by
    by_cases c : d = 0
    · rw [c, late_zero g]; omega
    · exact (digit_lt g (d := d) (by omega)).1
  have hL := late_nn p d
  have hpos : 0 < late p d → (p 0).1 - (p 0).2 ≤ d - (p 0).2 * late p d := by
    intro q
    by_cases c : d = 0
    · rw [c, late_zero g] at q; omega
    · exact (digit_lt g (d := d) (by omega)).2.2.1 q
  have key : ∀ L : Int, 0 ≤ L → (p 0).2 * L ≤ d + 1 - (p 0).1 + (p 0).2 → d + 1 - (p 0).1 + (p 0).2 < (p 0).2 * L + (p 0).2 → late p (d + 1) = L := by
    intro L hL a b
    have : (d + 1 - (p 0).1 + (p 0).2) / (p 0).2 = L := by
      have e := Int.mul_comm L (p 0).2
      rw [Int.ediv_eq_iff_of_pos (by omega)]
      omega
    unfold late
    rw [this]; omega
  by_cases c : d - (p 0).2 * late p d + 1 < (p 0).1
  · refine .inl ⟨c, ?_⟩
    by_cases z : late p d = 0
    · rw [z]
      rw [z] at c
      unfold late
      have := neg_ediv_le (a := d + 1 - (p 0).1 + (p 0).2 - (p 0).2 * 1) (s := (p 0).2) (by omega) (by omega)
      have e : d + 1 - (p 0).1 + (p 0).2 - (p 0).2 * 1 = (d + 1 - (p 0).1 + (p 0).2) + (-1) * (p 0).2 := by omega
      have lt : (d + 1 - (p 0).1 + (p 0).2) / (p 0).2 < 1 := by
        rw [Int.ediv_lt_iff_lt_mul (by omega)]
        omega
      omega
    · have := hpos (by omega)
      exact key _ hL (by omega) (by omega)
  · refine .inr ⟨by omega, ?_⟩
    refine key (late p d + 1) (by omega) ?_ ?_
    · rw [Int.mul_add]; omega
    · rw [Int.mul_add]; omega
theorem late_one {p : Pr} (g : Good p) : late p 1 = 0 := by
  have h1 := g.lo 0
  have h2 := g.le 0
  rcases late_succ g (Int.le_refl 0) with ⟨_, e⟩ | ⟨e, _⟩
  · rw [late_zero g] at e; exact e
  · rw [late_zero g] at e; omega
theorem digits_succF : ∀ (n : Nat) (p : Pr) (d : Int), Good p → 0 ≤ d → d ≤ n → digits p (d + 1) = inc p (digits p d) ∧ bakedL p (d + 1) = carry p (digits p d)
  | n, p, d, g, h0, hn => by
    have hb := bakedL_tl g (d := d + 1) (by omega)
    rw [made_one, show max 0 (d + 1 - 1) = d by omega] at hb
    rw [hb]
    by_cases c : d = 0
    · subst c
      rw [digits_pos g (by omega), digits_zero p (Int.le_refl 0), show (0 : Int) + 1 = 1 from rfl, late_one g, late_zero g, digits_zero _ (Int.le_refl 0)]
      refine ⟨by simp [inc], by simp [carry]⟩
    · obtain ⟨m, rfl⟩ : ∃ m, n = m + 1 := ⟨n - 1, by omega⟩
      rw [digits_pos g (by omega), digits_pos g (d := d) (by omega)]
      have hlt := late_lt g (d := d) (by omega)
      obtain ⟨i1, i2⟩ := digits_succF m (tl p 1) (late p d) (g.tl 1) (late_nn p d) (by omega)
      rcases late_succ g h0 with ⟨q, e⟩ | ⟨q, e⟩
      · rw [e]
        refine ⟨?_, ?_⟩
        · show _ = if _ then _ else _
          rw [if_pos q]
          congr 1; omega
        · rw [if_neg (by omega)]
          show _ = if _ then _ else _
          rw [if_pos q]
      · rw [e]
        refine ⟨?_, ?_⟩
        · show _ = if _ then _ else _
          rw [if_neg (by omega), i1]
          congr 1
          rw [Int.mul_add]; omega
        · rw [if_pos (by omega), i2]
          show _ = if _ then _ else _
          rw [if_neg (by omega)]
theorem digits_succ {p : Pr} (g : Good p) {d : Int} (h : 0 ≤ d) : digits p (d + 1) = inc p (digits p d) := (digits_succF d.toNat p d g h (by omega)).1
theorem bakedL_succ {p : Pr} (g : Good p) {d : Int} (h : 0 ≤ d) : bakedL p (d + 1) = carry p (digits p d) := (digits_succF d.toNat p d g h (by omega)).2
/-! ### the rows -/
theorem LY_snd (p : Pr) : ∀ (k : Nat) (xs : List Int), (∀ x ∈ xs, 0 ≤ x) → (LY p k xs).2 = sv p k xs
  | _, [], _ => rfl
  | k, x :: xs, h => by
    show (LY p (k + 1) xs).2 + (x.toNat : Int) * size p k = size p k * x + sv p (k + 1) xs
    rw [LY_snd p (k + 1) xs fun y hy => h y (List.mem_cons_of_mem _ hy)]
    have := h x List.mem_cons_self
    have e : (x.toNat : Int) = x := by omega
    rw [e, Int.mul_comm]; omega
theorem LY_bump (p : Pr) (k : Nat) (xs : List Int) (h : ∀ x ∈ xs, 0 ≤ x) : LY p k (bump xs) = ((LY p k xs).1 ++ [((LY p k xs).2 + 1, (LY p k xs).2 + size p k, (k : Int))], (LY p k xs).2 + size p k) := by
  cases xs with
  | nil =>
    show (([] : List Rw) ++ lyN 0 (size p k) k 1, (0 : Int) + ((1 : Nat) : Int) * size p k) = _
    simp [lyN, LY]
  | cons x xs =>
    have h0 := h x List.mem_cons_self
    show ((LY p (k + 1) xs).1 ++ lyN (LY p (k + 1) xs).2 (size p k) k (x + 1).toNat, (LY p (k + 1) xs).2 + ((x + 1).toNat : Int) * size p k) = (((LY p (k + 1) xs).1 ++ lyN (LY p (k + 1) xs).2 (size p k) k x.toNat) ++ [((LY p (k + 1) xs).2 + (x.toNat : Int) * size p k + 1, (LY p (k + 1) xs).2 + (x.toNat : Int) * size p k + size p k, (k : Int))], (LY p (k + 1) xs).2 + (x.toNat : Int) * size p k + size p k)
    have e : (x + 1).toNat = x.toNat + 1 := by omega
    rw [e, lyN_succ, List.append_assoc]
    congr 1
    have : ((x.toNat + 1 : Nat) : Int) = (x.toNat : Int) + 1 := by omega
    rw [this, Int.add_mul]; omega
/-- the rows of the lower grades -/
def lowP (p : Pr) : Nat → List Int → Int → List Rw × Int
  | _, [], last => ([], last)
  | j, x :: xs, last => ((lowP p (j + 1) xs last).1 ++ lyN (lowP p (j + 1) xs last).2 (size p j) j x.toNat, (lowP p (j + 1) xs last).2 + (x.toNat : Int) * size p j)
theorem LY_low (p : Pr) (ys : List Int) : ∀ (lo : List Int) (j : Nat), LY p j (lo ++ ys) = ((LY p (j + lo.length) ys).1 ++ (lowP p j lo (LY p (j + lo.length) ys).2).1, (lowP p j lo (LY p (j + lo.length) ys).2).2)
  | [], j => by simp [lowP]
  | x :: lo, j => by
    have ih := LY_low p ys lo (j + 1)
    have e : j + (x :: lo).length = j + 1 + lo.length := by simp; omega
    rw [e]
    show ((LY p (j + 1) (lo ++ ys)).1 ++ lyN (LY p (j + 1) (lo ++ ys)).2 (size p j) j x.toNat, (LY p (j + 1) (lo ++ ys)).2 + (x.toNat : Int) * size p j) = _
    rw [ih]
    show (((LY p (j + 1 + lo.length) ys).1 ++ _) ++ _, _) = ((LY p (j + 1 + lo.length) ys).1 ++ (_ ++ _), _)
    rw [List.append_assoc]
    rfl
theorem lyN_grade {last s : Int} {k n : Nat} : ∀ r ∈ lyN last s k n, r.2.2 = (k : Int) := by
  intro r h
  unfold lyN at h
  obtain ⟨i, _, rfl⟩ := List.mem_map.mp h
  rfl
theorem lowP_grade (p : Pr) : ∀ (lo : List Int) (j : Nat) (last : Int), ∀ r ∈ (lowP p j lo last).1, r.2.2 < ((j + lo.length : Nat) : Int)
  | [], _, _ => by intro r h; cases h
  | x :: lo, j, last => by
    intro r h
    rcases List.mem_append.mp h with q | q
    · have := lowP_grade p lo (j + 1) last r q
      simp only [List.length_cons]; omega
    · have := lyN_grade r q
      simp only [List.length_cons]; omega
theorem LY_grade (p : Pr) : ∀ (ys : List Int) (k : Nat), ∀ r ∈ (LY p k ys).1, (k : Int) ≤ r.2.2
  | [], _ => by intro r h; cases h
  | y :: ys, k => by
    intro r h
    rcases List.mem_append.mp h with q | q
    · have := LY_grade p ys (k + 1) r q
      omega
    · have := lyN_grade r q
      omega
/-! ### places of a grade -/
def pos (g : Int) : Nat → List Rw → List Int
  | _, [] => []
  | i, r :: rs => if r.2.2 = g then (i : Int) :: pos g (i + 1) rs else pos g (i + 1) rs
theorem pos_app (g : Int) : ∀ (a b : List Rw) (i : Nat), pos g i (a ++ b) = pos g i a ++ pos g (i + a.length) b
  | [], b, i => by simp [pos]
  | r :: a, b, i => by
    show (if r.2.2 = g then (i : Int) :: pos g (i + 1) (a ++ b) else pos g (i + 1) (a ++ b)) = (if r.2.2 = g then (i : Int) :: pos g (i + 1) a else pos g (i + 1) a) ++ _
    rw [pos_app g a b (i + 1), List.length_cons, show i + 1 + a.length = i + (a.length + 1) by omega]
    by_cases c : r.2.2 = g
    · rw [if_pos c, if_pos c]; rfl
    · rw [if_neg c, if_neg c]
theorem pos_none (g : Int) : ∀ (a : List Rw) (i : Nat), (∀ r ∈ a, r.2.2 ≠ g) → pos g i a = []
  | [], _, _ => rfl
  | r :: a, i, h => by
    show (if r.2.2 = g then _ else _) = _
    rw [if_neg (h r List.mem_cons_self)]
    exact pos_none g a (i + 1) fun y hy => h y (List.mem_cons_of_mem _ hy)
theorem pos_all (g : Int) : ∀ (a : List Rw) (i : Nat), (∀ r ∈ a, r.2.2 = g) → pos g i a = (List.range a.length).map fun (j : Nat) => ((i + j : Nat) : Int)
  | [], _, _ => rfl
  | r :: a, i, h => by
    show (if r.2.2 = g then _ else _) = _
    rw [if_pos (h r List.mem_cons_self), pos_all g a (i + 1) fun y hy => h y (List.mem_cons_of_mem _ hy), List.length_cons, List.range_succ_eq_map, List.map_cons, List.map_map]
    congr 1
    refine List.map_congr_left fun j _ => ?_
    show (((i + 1 + j : Nat)) : Int) = ((i + (j + 1) : Nat) : Int)
    omega
theorem pos_take (g : Int) (rows : List Rw) (i : Nat) (r : Rw) (h : rows[i]? = some r) : pos g 0 (rows.take (i + 1)) = pos g 0 (rows.take i) ++ if r.2.2 = g then [(i : Int)] else [] := by
  have hl : i < rows.length := (List.getElem?_eq_some_iff.mp h).1
  have e : rows.take (i + 1) = rows.take i ++ [r] := by
    rw [List.take_succ, h]; rfl
  rw [e, pos_app, List.length_take, Nat.zero_add, Nat.min_eq_left (by omega)]
  rfl
theorem pos_len (g : Int) : ∀ (a : List Rw) (i : Nat), (pos g i a).length ≤ a.length
  | [], _ => Nat.le_refl _
  | r :: a, i => by
    show (if r.2.2 = g then _ else _ : List Int).length ≤ _
    by_cases c : r.2.2 = g
    · rw [if_pos c]; have := pos_len g a (i + 1); simp; omega
    · rw [if_neg c]; have := pos_len g a (i + 1); simp; omega
/-- the rows at grade k: the greater ones, the n of grade k, the lesser ones -/
theorem rows_at (p : Pr) (lo : List Int) (y : Int) (ys : List Int) : (LY p 0 (lo ++ y :: ys)).1 =
    (LY p (lo.length + 1) ys).1 ++ (lyN (LY p (lo.length + 1) ys).2 (size p lo.length) lo.length y.toNat ++ (lowP p 0 lo ((LY p (lo.length + 1) ys).2 + (y.toNat : Int) * size p lo.length)).1) := by
  rw [LY_low, Nat.zero_add]
  show ((LY p (lo.length + 1) ys).1 ++ lyN _ _ _ _) ++ _ = _
  rw [List.append_assoc]
  rfl
theorem rows_pos (p : Pr) (lo : List Int) (y : Int) (ys : List Int) : pos (lo.length : Nat) 0 (LY p 0 (lo ++ y :: ys)).1 = (List.range y.toNat).map fun (j : Nat) => (((LY p (lo.length + 1) ys).1.length + j : Nat) : Int) := by
  rw [rows_at, pos_app, pos_app, pos_none _ _ _ (fun r h => ?_), pos_none _ (lowP _ _ _ _).1 _ (fun r h => ?_), pos_all _ _ _ lyN_grade]
  · simp [lyN]
  · have := lowP_grade p _ _ _ r h; omega
  · have := LY_grade p _ _ r h; omega
theorem lyN_drop (last s : Int) (k n b : Nat) : (lyN last s k n).drop b = lyN (last + (b : Int) * s) s k (n - b) := by
  apply List.ext_getElem
  · simp [lyN]
  · intro i h1 h2
    simp only [lyN, List.getElem_drop, List.getElem_map, List.getElem_range]
    have : ((b + i : Nat) : Int) * s = (b : Int) * s + (i : Int) * s := by rw [← Int.add_mul]; congr 1
    rw [this]
    congr 1
    · omega
    · congr 1; omega
/-- one bake -/
theorem rows_bake {p : Pr} (g : Good p) (lo : List Int) (y : Int) (ys : List Int) (hy : (p lo.length).2 ≤ y) (h : ∀ x ∈ ys, 0 ≤ x) : ∃ (f l : Rw),
    (LY p 0 (lo ++ y :: ys)).1[(LY p (lo.length + 1) ys).1.length]? = some f ∧ (LY p 0 (lo ++ y :: ys)).1[(LY p (lo.length + 1) ys).1.length + ((p lo.length).2.toNat - 1)]? = some l ∧
    (LY p 0 (lo ++ y :: ys)).1.take (LY p (lo.length + 1) ys).1.length ++ [(f.1, l.2.1, (lo.length : Int) + 1)] ++ (LY p 0 (lo ++ y :: ys)).1.drop ((LY p (lo.length + 1) ys).1.length + ((p lo.length).2.toNat - 1) + 1) = (LY p 0 ((lo ++ [y - (p lo.length).2]) ++ bump ys)).1 := by
  have hb := g.lo lo.length
  generalize hk : lo.length = k at *
  have e := rows_at p lo y ys
  rw [hk] at e
  rw [e]
  generalize hA : (LY p (k + 1) ys).1 = A
  generalize hL : (LY p (k + 1) ys).2 = L
  generalize hs : size p k = s
  generalize hb2 : (p k).2 = b at *
  have gl : ∀ i, i < y.toNat → (lyN L s k y.toNat)[i]? = some (L + (i : Int) * s + 1, L + (i : Int) * s + s, (k : Int)) := by
    intro i hi
    unfold lyN
    rw [List.getElem?_map, List.getElem?_range hi]; rfl
  have hl : (lyN L s k y.toNat).length = y.toNat := by simp [lyN]
  refine ⟨(L + ((0 : Nat) : Int) * s + 1, L + ((0 : Nat) : Int) * s + s, (k : Int)), (L + ((b.toNat - 1 : Nat) : Int) * s + 1, L + ((b.toNat - 1 : Nat) : Int) * s + s, (k : Int)), ?_, ?_, ?_⟩
  · rw [List.getElem?_append_right (Nat.le_refl _), Nat.sub_self, List.getElem?_append_left (by omega)]
    exact gl 0 (by omega)
  · rw [List.getElem?_append_right (by omega), show A.length + (b.toNat - 1) - A.length = b.toNat - 1 by omega, List.getElem?_append_left (by omega)]
    exact gl _ (by omega)
  · rw [List.take_left, show A.length + (b.toNat - 1) + 1 = A.length + b.toNat by omega, ← List.drop_drop, List.drop_left, List.drop_append_of_le_length (by omega), lyN_drop]
    rw [List.append_assoc lo, List.singleton_append, rows_at, hk, LY_bump p (k + 1) ys h, hA, hL, hs]
    show _ = (A ++ [(L + 1, L + size p k * (p k).2, ((k + 1 : Nat) : Int))]) ++ (lyN (L + size p k * (p k).2) s k (y - b).toNat ++ (lowP p 0 lo (L + size p k * (p k).2 + ((y - b).toNat : Int) * s)).1)
    rw [hb2, hs]
    have e1 : (b.toNat : Int) = b := by omega
    have e2 : (y - b).toNat = y.toNat - b.toNat := by omega
    have e3 : s * b = b * s := Int.mul_comm _ _
    have e4 : ((b.toNat - 1 : Nat) : Int) * s + s = b * s := by
      have : ((b.toNat - 1 : Nat) : Int) = b - 1 := by omega
      rw [this, Int.sub_mul]; omega
    have e5 : b * s + ((y.toNat - b.toNat : Nat) : Int) * s = (y.toNat : Int) * s := by
      rw [← Int.add_mul]; congr 1; omega
    rw [e1, e2, e3, Int.add_assoc L (b * s), e5]
    have e6 : L + ((b.toNat - 1 : Nat) : Int) * s + s = L + b * s := by omega
    rw [e6]
    simp
/-- a step of the loop: what is left of the digits -/
theorem inc_turn {p : Pr} {lo : List Int} {x : Int} {xs : List Int} (c : (p lo.length).1 = x + 1) : lo ++ inc (tl p lo.length) (x :: xs) = (lo ++ [x + 1 - (p lo.length).2]) ++ inc (tl p (lo.length + 1)) xs := by
  show lo ++ (if x + 1 < (tl p lo.length 0).1 then _ else _) = _
  have e : tl p lo.length 0 = p lo.length := by unfold tl; rw [Nat.zero_add]
  rw [e, if_neg (by omega), tl_tl, List.append_assoc]
  rfl
theorem inc_stop {p : Pr} {lo : List Int} {xs : List Int} (c : ∀ x ∈ (bump xs).head?, x < (p lo.length).1) (hw : 1 < (p lo.length).1) : inc (tl p lo.length) xs = bump xs ∧ carry (tl p lo.length) xs = [] := by
  have e : tl p lo.length 0 = p lo.length := by unfold tl; rw [Nat.zero_add]
  cases xs with
  | nil => exact ⟨rfl, rfl⟩
  | cons x xs =>
    have := c (x + 1) rfl
    refine ⟨?_, ?_⟩
    · show (if x + 1 < (tl p lo.length 0).1 then _ else _) = _
      rw [e, if_pos this]; rfl
    · show (if x + 1 < (tl p lo.length 0).1 then _ else _) = _
      rw [e, if_pos this]
theorem carry_turn {p : Pr} {k : Nat} {x : Int} {xs : List Int} (c : (p k).1 = x + 1) : (carry (tl p k) (x :: xs)).map (· + (k : Int)) = (k : Int) :: (carry (tl p (k + 1)) xs).map (· + ((k + 1 : Nat) : Int)) := by
  show List.map _ (if x + 1 < (tl p k 0).1 then _ else _) = _
  have e : tl p k 0 = p k := by unfold tl; rw [Nat.zero_add]
  rw [e, if_neg (by omega), tl_tl, List.map_cons, List.map_map]
  refine congr (congrArg List.cons (by omega)) (List.map_congr_left fun j _ => ?_)
  show j + 1 + (k : Int) = j + ((k + 1 : Nat) : Int)
  omega
/-- the first rows of a day -/
theorem rows_first {p : Pr} (g : Good p) {d : Int} (h : 0 ≤ d) : layersL p d ++ [(d + 1, d + 1, 0)] = (LY p 0 (bump (digits p d))).1 := by
  have hv := valid_le g (valid_digits g h)
  rw [LY_bump p 0 _ fun x hx => (hv x hx).1]
  show _ = (LY p 0 (digits p d)).1 ++ [((LY p 0 (digits p d)).2 + 1, (LY p 0 (digits p d)).2 + 1, ((0 : Nat) : Int))]
  rw [LY_snd p 0 _ fun x hx => (hv x hx).1, ← value_sv, value_digits g h]
  rfl
end Silt
set_option linter.all false
namespace Silt
def dayMade (p : Pr) (g : Nat) (m : Int) : Int := if 0 < m then m * size p g + owed p g else 0
def dayIn (p : Pr) (d : Int) (g : Nat) : Int := dayMade p g ((d + size p g - 1) / size p g)
/-- the hardest day up to d: the first one on which the greatest grade comes in -/
def HardR (p : Pr) (d : Int) (r : Option Int) : Prop := ∃ g : Nat, (∀ k, k < g → dayMade p (k + 1) 1 ≤ d) ∧ d < dayMade p (g + 1) 1 ∧ r = if g = 0 then none else some (dayMade p g 1)
def TogR (p : Pr) (d e r : Int) : Prop := ∃ g : Nat, (∀ k, k < g → (d - 1) / size p k ≠ (e - 1) / size p k) ∧ (d - 1) / size p g = (e - 1) / size p g ∧ r = dayIn p (max d e) g
theorem dayMade_one (p : Pr) (g : Nat) : dayMade p g 1 = size p g + owed p g := by simp [dayMade]
def whereF : Nat → List Rw → Int → Option (Int × Int)
  | _, [], _ => none
  | i, r :: rs, d => if r.1 ≤ d ∧ d ≤ r.2.1 then some (r.2.2, (i : Int)) else whereF (i + 1) rs d
def whereL (rows : List Rw) (d : Int) : Option (Int × Int) := whereF 0 rows d
def load (p : Pr) (d : Int) : Int := ((bakedL p d).map fun g => size p (g + 1).toNat).sum
end Silt
set_option linter.all false
namespace Silt
/-! ### where a day lies -/
theorem whereF_app (d : Int) : ∀ (a b : List Rw) (i : Nat), whereF i (a ++ b) d = match whereF i a d with
    | some r => some r
    | none => whereF (i + a.length) b d
  | [], b, i => rfl
  | r :: a, b, i => by
    show (if _ then _ else _) = match (if r.1 ≤ d ∧ d ≤ r.2.1 then some (r.2.2, (i : Int)) else whereF (i + 1) a d) with
      | some r => some r
      | none => _
    by_cases c : r.1 ≤ d ∧ d ≤ r.2.1
    · rw [if_pos c, if_pos c]
    · rw [if_neg c, if_neg c, List.length_cons, show i + (a.length + 1) = i + 1 + a.length by omega]
      exact whereF_app d a b (i + 1)
theorem whereF_lyN_no {s : Int} (hs : 0 < s) (k : Nat) (d : Int) : ∀ (n : Nat) (last : Int) (i : Nat), (d ≤ last ∨ last + (n : Int) * s < d) → whereF i (lyN last s k n) d = none
  | 0, _, _, _ => rfl
  | n + 1, last, i, h => by
    rw [lyN_succ, whereF_app]
    have e : ((n + 1 : Nat) : Int) * s = (n : Int) * s + s := by
      have : ((n + 1 : Nat) : Int) = (n : Int) + 1 := by omega
      rw [this, Int.add_mul]; omega
    rw [e] at h
    have hn : 0 ≤ (n : Int) * s := Int.mul_nonneg (by omega) (by omega)
    rw [whereF_lyN_no hs k d n last i (by omega)]
    show (if last + (n : Int) * s + 1 ≤ d ∧ d ≤ last + (n : Int) * s + s then _ else none) = none
    rw [if_neg (by omega)]
theorem whereF_lyN {s : Int} (hs : 0 < s) (k : Nat) (d : Int) : ∀ (n : Nat) (last : Int) (i : Nat), last < d → d ≤ last + (n : Int) * s → whereF i (lyN last s k n) d = some ((k : Int), (i : Int) + (d - last - 1) / s)
  | 0, last, i, h1, h2 => by simp at h2; omega
  | n + 1, last, i, h1, h2 => by
    rw [lyN_succ, whereF_app]
    have e : ((n + 1 : Nat) : Int) * s = (n : Int) * s + s := by
      have : ((n + 1 : Nat) : Int) = (n : Int) + 1 := by omega
      rw [this, Int.add_mul]; omega
    rw [e] at h2
    by_cases c : d ≤ last + (n : Int) * s
    · rw [whereF_lyN hs k d n last i h1 c]
    · rw [whereF_lyN_no hs k d n last i (by omega)]
      show (if last + (n : Int) * s + 1 ≤ d ∧ d ≤ last + (n : Int) * s + s then some ((k : Int), ((i + (lyN last s k n).length : Nat) : Int)) else none) = _
      rw [if_pos (by omega)]
      have hl : (lyN last s k n).length = n := by simp [lyN]
      have : (d - last - 1) / s = (n : Int) := by
        rw [Int.ediv_eq_iff_of_pos hs]
        omega
      rw [hl, this]
      congr 2
theorem PL_where {p : Pr} (g : Good p) {d : Int} (h1 : 1 ≤ d) : ∀ (k : Nat) (xs : List Int), (∀ x ∈ xs, 0 ≤ x) → match PL p d k xs with
    | .inl r => whereF 0 (LY p k xs).1 d = some r
    | .inr (l, n) => whereF 0 (LY p k xs).1 d = none ∧ n = (LY p k xs).1.length ∧ l = (LY p k xs).2 ∧ l < d
  | k, [], _ => ⟨rfl, rfl, rfl, by show (0 : Int) < d; omega⟩
  | k, x :: xs, hx => by
    have ih := PL_where g h1 (k + 1) xs fun y hy => hx y (List.mem_cons_of_mem _ hy)
    have x0 := hx x List.mem_cons_self
    have hs := size_pos g k
    have eLY : LY p k (x :: xs) = ((LY p (k + 1) xs).1 ++ lyN (LY p (k + 1) xs).2 (size p k) k x.toNat, (LY p (k + 1) xs).2 + (x.toNat : Int) * size p k) := rfl
    cases e : PL p d (k + 1) xs with
    | inl r =>
      rw [e] at ih
      have ih' : whereF 0 (LY p (k + 1) xs).1 d = some r := ih
      rw [PL_keep e]
      show whereF 0 (LY p k (x :: xs)).1 d = some r
      rw [eLY]
      show whereF 0 ((LY p (k + 1) xs).1 ++ _) d = _
      rw [whereF_app, ih']
    | inr r =>
      obtain ⟨l, n⟩ := r
      rw [e] at ih
      obtain ⟨i1, i2, i3, i4⟩ : whereF 0 (LY p (k + 1) xs).1 d = none ∧ n = (LY p (k + 1) xs).1.length ∧ l = (LY p (k + 1) xs).2 ∧ l < d := ih
      rw [PL_step e]
      have ex : (x.toNat : Int) = x := by omega
      have em : size p k * x = (x.toNat : Int) * size p k := by rw [ex, Int.mul_comm]
      by_cases c : d ≤ l + size p k * x
      · rw [if_pos c]
        show whereF 0 (LY p k (x :: xs)).1 d = some _
        rw [eLY]
        show whereF 0 ((LY p (k + 1) xs).1 ++ _) d = _
        rw [whereF_app, i1, ← i3]
        show whereF (0 + (LY p (k + 1) xs).1.length) _ d = _
        rw [whereF_lyN hs k d x.toNat l _ i4 (by omega)]
        congr 2
        rw [i2]
        omega
      · rw [if_neg c]
        refine ⟨?_, ?_, ?_, by show l + size p k * x < d; omega⟩
        · rw [eLY]
          show whereF 0 ((LY p (k + 1) xs).1 ++ _) d = _
          rw [whereF_app, i1, ← i3]
          exact whereF_lyN_no hs k d x.toNat l _ (.inr (by omega))
        · rw [eLY, List.length_append]
          have hl : (lyN (LY p (k + 1) xs).2 (size p k) k x.toNat).length = x.toNat := by simp [lyN]
          rw [hl]
          show n + x = _
          rw [i2]
          omega
        · rw [eLY]
          show l + size p k * x = _
          rw [i3, em]
theorem PL_whereL {p : Pr} (g : Good p) {d n : Int} (h1 : 1 ≤ d) (h2 : d ≤ n) : ∃ r, PL p d 0 (digits p n) = .inl r ∧ whereL (layersL p n) d = some r := by
  have hv := valid_le g (valid_digits g (by omega : 0 ≤ n))
  have q := PL_where g h1 0 (digits p n) fun x hx => (hv x hx).1
  cases e : PL p d 0 (digits p n) with
  | inl r => rw [e] at q; exact ⟨r, rfl, q⟩
  | inr r =>
    exfalso
    obtain ⟨l, m⟩ := r
    rw [e] at q
    obtain ⟨_, _, q3, q4⟩ : _ ∧ _ ∧ l = (LY p 0 (digits p n)).2 ∧ l < d := q
    rw [LY_snd p 0 _ fun x hx => (hv x hx).1, ← value_sv, value_digits g (by omega)] at q3
    omega
/-! ### the grade of a day -/
theorem sv_step_le {p : Pr} (g : Good p) {xs : List Int} (h : ∀ x ∈ xs, 0 ≤ x) (k j : Nat) : sv p (k + (j + 1)) (xs.drop (j + 1)) ≤ sv p (k + j) (xs.drop j) := by
  rcases Nat.lt_or_ge j xs.length with c | c
  · rw [List.drop_eq_getElem_cons c]
    show _ ≤ size p (k + j) * xs[j] + sv p (k + j + 1) (xs.drop (j + 1))
    have : 0 ≤ size p (k + j) * xs[j] := Int.mul_nonneg (by have := size_pos g (k + j); omega) (h _ (List.getElem_mem c))
    rw [show k + (j + 1) = k + j + 1 by omega]
    omega
  · rw [List.drop_of_length_le c, List.drop_of_length_le (by omega)]
    exact Int.le_refl _
theorem sv_anti {p : Pr} (g : Good p) {xs : List Int} (h : ∀ x ∈ xs, 0 ≤ x) (i : Nat) : ∀ (m : Nat), sv p (i + m) (xs.drop (i + m)) ≤ sv p i (xs.drop i)
  | 0 => Int.le_refl _
  | m + 1 => by
    have h1 := sv_anti g h i m
    have h2 := sv_step_le g h 0 (i + m)
    rw [Nat.zero_add, Nat.zero_add] at h2
    rw [show i + (m + 1) = i + m + 1 by omega]
    exact Int.le_trans h2 h1
theorem PL_grade {p : Pr} (g : Good p) {d : Int} (h1 : 1 ≤ d) : ∀ (k : Nat) (xs : List Int) (r : Int × Int), PL p d k xs = .inl r → ∃ m : Nat, r.1 = ((k + m : Nat) : Int) ∧ d ≤ sv p (k + m) (xs.drop m) ∧ sv p (k + m + 1) (xs.drop (m + 1)) < d
  | _, [], _, h => by cases h
  | k, x :: xs, r, h => by
    cases e : PL p d (k + 1) xs with
    | inl r1 =>
      rw [PL_keep e] at h
      cases h
      obtain ⟨m, e1, e2, e3⟩ := PL_grade g h1 (k + 1) xs r e
      refine ⟨m + 1, by rw [e1]; congr 1; omega, ?_, ?_⟩
      · rw [show k + (m + 1) = k + 1 + m by omega]; exact e2
      · rw [show k + (m + 1) + 1 = k + 1 + m + 1 by omega]; exact e3
    | inr r1 =>
      obtain ⟨l, n⟩ := r1
      rw [PL_step e] at h
      have q := PL_sv (k + 1) xs l n e
      by_cases c : d ≤ l + size p k * x
      · rw [if_pos c] at h
        cases h
        refine ⟨0, rfl, ?_, ?_⟩
        · show d ≤ size p k * x + sv p (k + 1) xs
          rw [← q.1]; omega
        · show sv p (k + 1) xs < d
          rcases q.2 with z | z
          · rw [z]; show (0 : Int) < d; omega
          · rw [← q.1]; exact z
      · rw [if_neg c] at h; cases h
theorem digits_dropN {p : Pr} (g : Good p) {n : Int} (h : 0 ≤ n) : ∀ k : Nat, (digits p n).drop k = digits (tl p k) (made p k n)
  | 0 => by rw [made_zero p h, tl_zero]; rfl
  | k + 1 => by
    rw [← List.drop_drop, digits_dropN g h k, digits_drop (g.tl k) (made_nn p k n), tl_tl, made_next g k n h]
theorem sv_at {p : Pr} : ∀ (k : Nat) (xs : List Int), sv p k xs = size p k * value (tl p k) xs
  | 0, xs => by rw [tl_zero, value_sv]; show _ = 1 * _; omega
  | k + 1, xs => by
    rw [sv_tl, sv_at k xs, tl_tl, size_tl, Int.mul_assoc, show 1 + k = k + 1 by omega]
theorem sv_made {p : Pr} (g : Good p) {n : Int} (h : 0 ≤ n) (k : Nat) : sv p k ((digits p n).drop k) = size p k * made p k n := by
  rw [digits_dropN g h k, sv_at, value_digits (g.tl k) (made_nn p k n)]
theorem made_ge {p : Pr} (g : Good p) {k : Nat} {m n : Int} (hm : 1 ≤ m) : m ≤ made p k n ↔ dayMade p k m ≤ n := by
  have hs := size_pos g k
  unfold made dayMade
  rw [if_pos (by omega)]
  have : m ≤ (n - owed p k) / size p k ↔ m * size p k ≤ n - owed p k := Int.le_ediv_iff_mul_le hs
  omega
theorem ceil_le {d s m : Int} (hs : 0 < s) : (d + s - 1) / s ≤ m ↔ d ≤ s * m := by
  have := Int.ediv_lt_iff_lt_mul (a := d + s - 1) (b := m + 1) hs
  rw [Int.add_mul, Int.mul_comm m s] at this
  omega
/-- the grade of the day d on the day n -/
theorem grade_ge {p : Pr} (g : Good p) {d n : Int} (h1 : 1 ≤ d) (h2 : d ≤ n) {r : Int × Int} (h : whereL (layersL p n) d = some r) (k : Nat) : (k : Int) ≤ r.1 ↔ dayIn p d k ≤ n := by
  obtain ⟨r', e1, e2⟩ := PL_whereL g h1 h2
  rw [h] at e2
  cases e2
  have hv := valid_le g (valid_digits g (by omega : 0 ≤ n))
  have hx : ∀ x ∈ digits p n, 0 ≤ x := fun x hx => (hv x hx).1
  obtain ⟨m, em, q1, q2⟩ := PL_grade g h1 0 _ r e1
  rw [Nat.zero_add] at em q1 q2
  have hs := size_pos g k
  have hc : 1 ≤ (d + size p k - 1) / size p k := by
    have := (Int.le_ediv_iff_mul_le hs (a := 1) (b := d + size p k - 1)).mpr (by omega)
    exact this
  have e3 : dayIn p d k ≤ n ↔ d ≤ sv p k ((digits p n).drop k) := by
    unfold dayIn
    rw [← made_ge g hc, sv_made g (by omega), ceil_le hs]
  rw [e3, em]
  constructor
  · intro hk
    have := sv_anti g hx k (m - k)
    rw [show k + (m - k) = m by omega] at this
    omega
  · intro hd
    rcases Nat.lt_or_ge m k with c | c
    · exfalso
      have := sv_anti g hx (m + 1) (k - (m + 1))
      rw [show m + 1 + (k - (m + 1)) = k by omega] at this
      omega
    · omega
theorem dayIn_ge {p : Pr} (g : Good p) {d : Int} (h1 : 1 ≤ d) (k : Nat) : d ≤ dayIn p d k := by
  have hs := size_pos g k
  have ho := owed_nn g k
  have hc : 1 ≤ (d + size p k - 1) / size p k := (Int.le_ediv_iff_mul_le hs (a := 1) (b := d + size p k - 1)).mpr (by omega)
  have := (ceil_le (d := d) (m := (d + size p k - 1) / size p k) hs).mp (Int.le_refl _)
  unfold dayIn dayMade
  rw [if_pos (by omega), Int.mul_comm]
  omega
/-! ### days that lie together -/
theorem size_dvd (p : Pr) (k : Nat) : ∀ m : Nat, size p k ∣ size p (k + m)
  | 0 => Int.dvd_refl _
  | m + 1 => by
    obtain ⟨c, e⟩ := size_dvd p k m
    refine ⟨c * (p (k + m)).2, ?_⟩
    show size p (k + m) * (p (k + m)).2 = _
    rw [e, Int.mul_assoc]
theorem sv_dvd (p : Pr) (k : Nat) : ∀ (xs : List Int) (m : Nat), size p k ∣ sv p (k + m) xs
  | [], _ => ⟨0, by simp [sv]⟩
  | x :: xs, m => by
    have h1 : size p k ∣ size p (k + m) * x := Int.dvd_trans (size_dvd p k m) ⟨x, rfl⟩
    have h2 := sv_dvd p k xs (m + 1)
    exact Int.dvd_add h1 h2
theorem div_off {s l d : Int} (hs : 0 < s) (h : s ∣ l) : (d - l - 1) / s = (d - 1) / s - l / s := by
  obtain ⟨c, rfl⟩ := h
  have e : d - s * c - 1 = d - 1 + s * (-c) := by rw [Int.mul_neg]; omega
  rw [e, Int.add_mul_ediv_left _ _ (by omega), Int.mul_ediv_cancel_left _ (by omega)]
  omega
theorem div_lo {s l d : Int} (hs : 0 < s) (h : s ∣ l) : l < d ↔ l / s ≤ (d - 1) / s := by
  obtain ⟨c, rfl⟩ := h
  rw [Int.mul_ediv_cancel_left _ (by omega), Int.le_ediv_iff_mul_le hs, Int.mul_comm c s]
  omega
theorem PL_same {p : Pr} (g : Good p) {d e : Int} : ∀ (k : Nat) (xs : List Int) (r : Int × Int) (G : Nat), (∀ x ∈ xs, 0 ≤ x) → PL p d k xs = .inl r → r.1 = (G : Nat) → 1 ≤ d → 1 ≤ e → (d - 1) / size p G = (e - 1) / size p G → PL p e k xs = .inl r
  | _, [], _, _, _, h, _, _, _, _ => by cases h
  | k, x :: xs, r, G, hx, h, hG, hd, he, hde => by
    have hx' : ∀ x ∈ xs, 0 ≤ x := fun y hy => hx y (List.mem_cons_of_mem _ hy)
    have hs := size_pos g k
    cases q : PL p d (k + 1) xs with
    | inl r1 =>
      rw [PL_keep q] at h
      cases h
      exact PL_keep (PL_same g (k + 1) xs r G hx' q hG hd he hde)
    | inr r1 =>
      obtain ⟨l, n⟩ := r1
      rw [PL_step q] at h
      have ql := PL_sv (k + 1) xs l n q
      by_cases c : d ≤ l + size p k * x
      · rw [if_pos c] at h
        cases h
        have ek : G = k := by
          have : ((k : Nat) : Int) = (G : Nat) := hG
          omega
        subst ek
        have hdv : size p G ∣ l := by rw [ql.1]; exact sv_dvd p G xs 1
        have hdv2 : size p G ∣ l + size p G * x := Int.dvd_add hdv ⟨x, rfl⟩
        have hld : l < d := by
          rcases ql.2 with z | z
          · rw [ql.1, z]; show (0 : Int) < d; omega
          · exact z
        have hle : l < e := (div_lo hs hdv).mpr (by rw [← hde]; exact (div_lo hs hdv).mp hld)
        -- e is not found above
        have q2 : PL p e (G + 1) xs = .inr (l, n) := by
          have w1 := PL_where g hd (G + 1) xs hx'
          have w2 := PL_where g he (G + 1) xs hx'
          rw [q] at w1
          obtain ⟨_, n1, l1, _⟩ : _ ∧ n = (LY p (G + 1) xs).1.length ∧ l = (LY p (G + 1) xs).2 ∧ l < d := w1
          cases z : PL p e (G + 1) xs with
          | inl r2 =>
            exfalso
            have := (PL_inl_le g (G + 1) xs r2 hx' z).1
            rw [← ql.1] at this
            omega
          | inr r2 =>
            obtain ⟨l2, n2⟩ := r2
            rw [z] at w2
            obtain ⟨_, n3, l3, _⟩ : _ ∧ n2 = (LY p (G + 1) xs).1.length ∧ l2 = (LY p (G + 1) xs).2 ∧ l2 < e := w2
            rw [n3, l3, n1, l1]
        rw [PL_step q2]
        have hee : e ≤ l + size p G * x := by
          rcases Int.lt_or_le (l + size p G * x) e with z | z
          · have := (div_lo hs hdv2).mp z
            rw [← hde] at this
            have := (div_lo hs hdv2).mpr this
            omega
          · exact z
        rw [if_pos hee, div_off hs hdv, div_off hs hdv, hde]
      · rw [if_neg c] at h; cases h
/-- the place tells the layer -/
theorem PL_tells {p : Pr} (g : Good p) {d e : Int} : ∀ (k : Nat) (xs : List Int) (r : Int × Int), (∀ x ∈ xs, 0 ≤ x) → 1 ≤ d → 1 ≤ e → PL p d k xs = .inl r → PL p e k xs = .inl r → ∃ G : Nat, r.1 = (G : Nat) ∧ (d - 1) / size p G = (e - 1) / size p G
  | _, [], _, _, _, _, h, _ => by cases h
  | k, x :: xs, r, hx, hd, he, h1, h2 => by
    have hx' : ∀ x ∈ xs, 0 ≤ x := fun y hy => hx y (List.mem_cons_of_mem _ hy)
    have hs := size_pos g k
    cases q1 : PL p d (k + 1) xs with
    | inl r1 =>
      rw [PL_keep q1] at h1
      cases h1
      cases q2 : PL p e (k + 1) xs with
      | inl r2 =>
        rw [PL_keep q2] at h2
        cases h2
        exact PL_tells g (k + 1) xs r hx' hd he q1 q2
      | inr r2 =>
        exfalso
        obtain ⟨l, n⟩ := r2
        rw [PL_step q2] at h2
        have := (PL_inl_le g (k + 1) xs r hx' q1).2
        by_cases c : e ≤ l + size p k * x
        · rw [if_pos c] at h2; cases h2; have : ((k + 1 : Nat) : Int) ≤ (k : Int) := this; omega
        · rw [if_neg c] at h2; cases h2
    | inr r1 =>
      obtain ⟨l, n⟩ := r1
      rw [PL_step q1] at h1
      by_cases c : d ≤ l + size p k * x
      · rw [if_pos c] at h1
        cases h1
        cases q2 : PL p e (k + 1) xs with
        | inl r2 =>
          exfalso
          rw [PL_keep q2] at h2
          cases h2
          have := (PL_inl_le g (k + 1) xs _ hx' q2).2
          have : ((k + 1 : Nat) : Int) ≤ (k : Int) := this
          omega
        | inr r2 =>
          obtain ⟨l2, n2⟩ := r2
          have w1 := PL_where g hd (k + 1) xs hx'
          have w2 := PL_where g he (k + 1) xs hx'
          rw [q1] at w1
          rw [q2] at w2
          obtain ⟨_, n3, l3, _⟩ : _ ∧ n = (LY p (k + 1) xs).1.length ∧ l = (LY p (k + 1) xs).2 ∧ l < d := w1
          obtain ⟨_, n4, l4, _⟩ : _ ∧ n2 = (LY p (k + 1) xs).1.length ∧ l2 = (LY p (k + 1) xs).2 ∧ l2 < e := w2
          obtain rfl : l2 = l := by rw [l3, l4]
          obtain rfl : n2 = n := by rw [n3, n4]
          rw [PL_step q2] at h2
          by_cases c2 : e ≤ l2 + size p k * x
          · rw [if_pos c2] at h2
            have h3 := (Prod.mk.inj (Sum.inl.inj h2)).2
            have hdv : size p k ∣ l2 := by
              have := (PL_sv (k + 1) xs l2 n2 q1).1
              rw [this]; exact sv_dvd p k xs 1
            rw [div_off hs hdv, div_off hs hdv] at h3
            exact ⟨k, rfl, by omega⟩
          · rw [if_neg c2] at h2; cases h2
      · rw [if_neg c] at h1; cases h1
theorem div_up {p : Pr} (g : Good p) {d e : Int} {k m : Nat} (h : (d - 1) / size p k = (e - 1) / size p k) : (d - 1) / size p (k + m) = (e - 1) / size p (k + m) := by
  have hs := size_pos g k
  obtain ⟨c, ec⟩ := size_dvd p k m
  have hs2 := size_pos g (k + m)
  rw [ec]
  rw [← Int.ediv_ediv_of_nonneg (by omega), ← Int.ediv_ediv_of_nonneg (by omega), h]
/-- two days lie in one layer from the day on that TogR tells -/
theorem tog_iff {p : Pr} (g : Good p) {d e n r : Int} (hd : 1 ≤ d) (he : 1 ≤ e) (h1 : d ≤ n) (h2 : e ≤ n) (t : TogR p d e r) : whereL (layersL p n) d = whereL (layersL p n) e ↔ r ≤ n := by
  obtain ⟨G, hk, hG, rfl⟩ := t
  have hv := valid_le g (valid_digits g (by omega : 0 ≤ n))
  have hx : ∀ x ∈ digits p n, 0 ≤ x := fun x hx => (hv x hx).1
  have hmax : 1 ≤ max d e ∧ max d e ≤ n := by omega
  obtain ⟨rd, ed1, ed2⟩ := PL_whereL g hd h1
  obtain ⟨re, ee1, ee2⟩ := PL_whereL g he h2
  obtain ⟨rm, em1, em2⟩ := PL_whereL g hmax.1 hmax.2
  have hge := grade_ge g hmax.1 hmax.2 em2 G
  rw [ed2, ee2, ← hge]
  constructor
  · intro h
    cases h
    obtain ⟨G2, e1, e2⟩ := PL_tells g 0 _ rd hx hd he ed1 ee1
    have erm : rm = rd := by
      rcases Int.le_total d e with z | z
      · rw [Int.max_eq_right z, ee1] at em1; cases em1; rfl
      · rw [Int.max_eq_left z, ed1] at em1; cases em1; rfl
    rw [erm, e1]
    rcases Nat.lt_or_ge G2 G with z | z
    · exact absurd e2 (hk G2 z)
    · omega
  · intro h
    obtain ⟨m, q, _, _⟩ := PL_grade g hmax.1 0 _ rm em1
    rw [Nat.zero_add] at q
    have hup := div_up g (m := m - G) hG
    rw [show G + (m - G) = m by omega] at hup
    rcases Int.le_total d e with z | z
    · rw [Int.max_eq_right z, ee1] at em1
      cases em1
      have := PL_same g 0 _ re m hx ee1 q he hd hup.symm
      rw [ed1] at this
      cases this; rfl
    · rw [Int.max_eq_left z, ed1] at em1
      cases em1
      have := PL_same g 0 _ rd m hx ed1 q hd he hup
      rw [ee1] at this
      cases this; rfl
theorem tog_sym {p : Pr} {d e r s : Int} (h : TogR p d e r) (h' : TogR p e d s) : r = s := by
  obtain ⟨G, hk, hG, rfl⟩ := h
  obtain ⟨G', hk', hG', rfl⟩ := h'
  obtain rfl : G = G' := by
    rcases Nat.lt_trichotomy G G' with z | z | z
    · exact absurd hG.symm (hk' G z)
    · exact z
    · exact absurd hG'.symm (hk G' z)
  rw [Int.max_comm]
theorem tog_ge {p : Pr} (g : Good p) {d e r : Int} (hd : 1 ≤ d) (h : TogR p d e r) : max d e ≤ r := by
  obtain ⟨G, _, _, rfl⟩ := h
  exact dayIn_ge g (by omega) G
end Silt
set_option linter.all false
namespace Silt
/-! ### the work of a day -/
theorem work_zero (p : Pr) : work p 0 = 0 := by simp [work, workF]
theorem load_succ {p : Pr} (g : Good p) {d : Int} (h : 0 ≤ d) : load p (d + 1) = if late p (d + 1) = late p d then 0 else (p 0).2 + (p 0).2 * load (tl p 1) (late p d + 1) := by
  have hb := bakedL_tl g (d := d + 1) (by omega)
  rw [made_one, show max 0 (d + 1 - 1) = d by omega] at hb
  unfold load
  rw [hb]
  rcases late_succ g h with ⟨_, e⟩ | ⟨_, e⟩
  · rw [if_neg (by omega), if_pos e]; rfl
  · rw [if_pos (by omega), if_neg (by omega), e, List.map_cons, List.sum_cons, List.map_map]
    have e1 : size p ((0 : Int) + 1).toNat = (p 0).2 := by simp [size]
    rw [e1]
    congr 1
    have hpos : ∀ x ∈ bakedL (tl p 1) (late p d + 1), 0 ≤ x := by
      intro x hx
      have : ∀ (n k : Nat) (x : Int), x ∈ bkF n (tl p 1) (late p d + 1) k → 0 ≤ x := by
        intro n
        induction n with
        | zero => intro k x h; cases h
        | succ n ih =>
          intro k x h
          have h' : x ∈ (if isBaked (tl p 1) k (late p d + 1) then (k : Int) :: bkF n (tl p 1) (late p d + 1) (k + 1) else []) := h
          by_cases c : isBaked (tl p 1) k (late p d + 1) = true
          · rw [if_pos c] at h'
            rcases List.mem_cons.mp h' with q | q
            · omega
            · exact ih (k + 1) x q
          · rw [if_neg c] at h'; cases h'
      exact this _ _ x hx
    generalize bakedL (tl p 1) (late p d + 1) = l at hpos
    induction l with
    | nil => simp
    | cons x l ih =>
      rw [List.map_cons, List.sum_cons, List.map_cons, List.sum_cons, Int.mul_add, ih fun y hy => hpos y (List.mem_cons_of_mem _ hy)]
      have := hpos x List.mem_cons_self
      have e2 : (x + 1 + 1).toNat = (x + 1).toNat + 1 := by omega
      show size p (x + 1 + 1).toNat + _ = _
      rw [e2, size_tl]
theorem load_nn {p : Pr} (g : Good p) (d : Int) : 0 ≤ load p d := by
  unfold load
  generalize bakedL p d = l
  induction l with
  | nil => exact Int.le_refl _
  | cons x l ih =>
    rw [List.map_cons, List.sum_cons]
    have := size_pos g (x + 1).toNat
    omega
theorem work_succF : ∀ (n : Nat) (p : Pr) (d : Int), Good p → 0 ≤ d → d ≤ n → work p (d + 1) = work p d + load p (d + 1)
  | n, p, d, g, h0, hn => by
    rw [load_succ g h0, work_eq g (d := d + 1) (by omega), work_eq g h0]
    rcases late_succ g h0 with ⟨_, e⟩ | ⟨_, e⟩
    · rw [if_pos e, e]; omega
    · rw [if_neg (by omega), e]
      have hlt : late p d < d ∨ d = 0 := by
        by_cases c : d = 0
        · exact .inr c
        · exact .inl (late_lt g (by omega))
      rcases hlt with hlt | rfl
      · have hl0 := late_nn p d
        obtain ⟨m, rfl⟩ : ∃ m, n = m + 1 := ⟨n - 1, by omega⟩
        rw [work_succF m (tl p 1) (late p d) (g.tl 1) (late_nn p d) (by omega), Int.mul_add, Int.mul_add]
        omega
      · exfalso
        rw [show (0 : Int) + 1 = 1 from rfl, late_one g, late_zero g] at e
        omega
theorem work_succ {p : Pr} (g : Good p) {d : Int} (h : 0 ≤ d) : work p (d + 1) = work p d + load p (d + 1) := work_succF d.toNat p d g h (by omega)
theorem load_zero {p : Pr} : load p 0 = 0 := by simp [load, bakedL, bkF]
theorem work_sum {p : Pr} (g : Good p) : ∀ n : Nat, ((List.range (n + 1)).map fun (i : Nat) => load p i).sum = work p n
  | 0 => by
    have e : load p ((0 : Nat) : Int) = 0 := load_zero
    have e2 : work p ((0 : Nat) : Int) = 0 := work_zero p
    rw [e2]
    simp
    exact load_zero
  | n + 1 => by
    rw [List.range_succ, List.map_append, List.sum_append, work_sum g n]
    have := work_succ g (d := (n : Int)) (by omega)
    have e : ((n + 1 : Nat) : Int) = (n : Int) + 1 := by omega
    rw [e, this]
    simp
/-! ### resting days -/
theorem rest_count {p : Pr} (g : Good p) : ∀ n : Nat, (((List.range n).map fun (i : Nat) => load p ((i : Int) + 1)).filter fun x => decide (x = 0)).length = (n : Int) - made p 1 n
  | 0 => by
    have := made_nn p 1 ((0 : Nat) : Int)
    have : made p 1 ((0 : Nat) : Int) = 0 := by rw [made_one]; exact late_zero g
    rw [this]; rfl
  | n + 1 => by
    rw [List.range_succ, List.map_append, List.filter_append, List.length_append]
    have ih := rest_count g n
    have e : ((n + 1 : Nat) : Int) = (n : Int) + 1 := by omega
    rw [made_one] at ih
    rw [e, made_one]
    have hl := load_succ g (d := (n : Int)) (by omega)
    have h1 := g.lo 0
    have h2 := load_nn (g.tl 1) (late p n + 1)
    have h3 : 0 ≤ (p 0).2 * load (tl p 1) (late p n + 1) := Int.mul_nonneg (by omega) h2
    rcases late_succ g (d := (n : Int)) (by omega) with ⟨_, q⟩ | ⟨_, q⟩
    · rw [if_pos q] at hl
      rw [q]
      have : (List.filter (fun x => decide (x = 0)) (List.map (fun (i : Nat) => load p ((i : Int) + 1)) [n])).length = 1 := by
        simp [hl]
      omega
    · rw [if_neg (by omega)] at hl
      rw [q]
      have : (List.filter (fun x => decide (x = 0)) (List.map (fun (i : Nat) => load p ((i : Int) + 1)) [n])).length = 0 := by
        have : ¬ load p ((n : Int) + 1) = 0 := by omega
        simp [this]
      omega
/-! ### the hardest day -/
theorem owed_dvd (p : Pr) (k : Nat) : ∀ m : Nat, size p k ∣ owed p (k + m) - owed p k
  | 0 => ⟨0, by simp⟩
  | m + 1 => by
    obtain ⟨c, e⟩ := owed_dvd p k m
    obtain ⟨c2, e2⟩ := size_dvd p k m
    refine ⟨c + c2 * ((p (k + m)).1 - (p (k + m)).2), ?_⟩
    show owed p (k + m) + size p (k + m) * ((p (k + m)).1 - (p (k + m)).2) - owed p k = _
    rw [e2, Int.mul_add, ← e, Int.mul_assoc]
    omega
/-- the first day of the grade g: so many grades are baked -/
theorem first_baked {p : Pr} (g : Good p) {k m : Nat} : isBaked p k (dayMade p (k + 1 + m) 1) = true := by
  rw [isBaked_iff, dayMade_one]
  obtain ⟨c, e⟩ := owed_dvd p (k + 1) m
  obtain ⟨c2, e2⟩ := size_dvd p (k + 1) m
  have hs := size_pos g (k + 1)
  have hs2 := size_pos g (k + 1 + m)
  have hc2 : 1 ≤ c2 := by
    rcases Int.lt_or_le c2 1 with z | z
    · exfalso
      have : size p (k + 1) * c2 ≤ size p (k + 1) * 0 := Int.mul_le_mul_of_nonneg_left (by omega) (by omega)
      omega
    · exact z
  have ho : owed p (k + 1) ≤ owed p (k + 1 + m) := by
    clear e c e2 c2 hs2 hc2
    induction m with
    | zero => exact Int.le_refl _
    | succ m ih =>
      have h1 := size_pos g (k + 1 + m)
      have h2 := g.le (k + 1 + m)
      have : 0 ≤ size p (k + 1 + m) * ((p (k + 1 + m)).1 - (p (k + 1 + m)).2) := Int.mul_nonneg (by omega) (by omega)
      show owed p (k + 1) ≤ owed p (k + 1 + m) + size p (k + 1 + m) * ((p (k + 1 + m)).1 - (p (k + 1 + m)).2)
      omega
  have hle : size p (k + 1) ≤ size p (k + 1 + m) := by
    rw [e2]
    have : size p (k + 1) * 1 ≤ size p (k + 1) * c2 := Int.mul_le_mul_of_nonneg_left (by omega) (by omega)
    omega
  refine ⟨by omega, ?_⟩
  have : size p (k + 1 + m) + owed p (k + 1 + m) - owed p (k + 1) = size p (k + 1) * (c2 + c) := by
    rw [Int.mul_add, ← e2, ← e]; omega
  rw [this]
  exact Int.mul_emod_right _ _
/-- the work of the first k grades -/
def topS (p : Pr) (k : Nat) : Int := ((List.range k).map fun (j : Nat) => size p (j + 1)).sum
theorem topS_succ (p : Pr) (k : Nat) : topS p (k + 1) = topS p k + size p (k + 1) := by
  unfold topS
  rw [List.range_succ, List.map_append, List.sum_append]
  simp
theorem topS_mono {p : Pr} (g : Good p) (k : Nat) : ∀ m : Nat, topS p k + m ≤ topS p (k + m)
  | 0 => by simp
  | m + 1 => by
    have := topS_mono g k m
    have h := size_pos g (k + m + 1)
    rw [show k + (m + 1) = k + m + 1 by omega, topS_succ]
    omega
/-- what is baked are the first grades -/
theorem bkF_range {p : Pr} (g : Good p) {d : Int} : ∀ (n k : Nat), d ≤ n + k → ∃ m : Nat, bkF n p d k = (List.range m).map (fun (j : Nat) => ((k + j : Nat) : Int)) ∧ (∀ j, j < m → isBaked p (k + j) d = true) ∧ isBaked p (k + m) d = false
  | 0, k, h => ⟨0, rfl, fun j hj => absurd hj (Nat.not_lt_zero _), by
      cases c : isBaked p (k + 0) d with
      | false => rfl
      | true => have := isBaked_lt g c; omega⟩
  | n + 1, k, h => by
    cases c : isBaked p k d with
    | false =>
      refine ⟨0, ?_, fun j hj => absurd hj (Nat.not_lt_zero _), c⟩
      show (if isBaked p k d then _ else _) = _
      rw [c]; rfl
    | true =>
      obtain ⟨m, e1, e2, e3⟩ := bkF_range g (d := d) n (k + 1) (by omega)
      refine ⟨m + 1, ?_, ?_, ?_⟩
      · show (if isBaked p k d then (k : Int) :: bkF n p d (k + 1) else _) = _
        rw [c, if_pos rfl, e1, List.range_succ_eq_map, List.map_cons, List.map_map]
        refine congr (congrArg List.cons (by simp)) (List.map_congr_left fun j _ => ?_)
        show ((k + 1 + j : Nat) : Int) = ((k + (j + 1) : Nat) : Int)
        omega
      · intro j hj
        match j with
        | 0 => exact c
        | j + 1 => rw [show k + (j + 1) = k + 1 + j by omega]; exact e2 j (by omega)
      · rw [show k + (m + 1) = k + 1 + m by omega]; exact e3
theorem load_top {p : Pr} (g : Good p) (d : Int) : ∃ m : Nat, load p d = topS p m ∧ (∀ j, j < m → isBaked p j d = true) ∧ isBaked p m d = false := by
  obtain ⟨m, e1, e2, e3⟩ := bkF_range g (d := d) d.toNat 0 (by omega)
  refine ⟨m, ?_, fun j hj => by have := e2 j hj; rwa [Nat.zero_add] at this, by rwa [Nat.zero_add] at e3⟩
  unfold load bakedL topS
  rw [e1, List.map_map]
  congr 1
  refine List.map_congr_left fun j _ => ?_
  show size p (((0 + j : Nat) : Int) + 1).toNat = _
  congr 1
  omega
theorem baked_first {p : Pr} {k : Nat} {d : Int} (h : isBaked p k d = true) : dayMade p (k + 1) 1 ≤ d := by
  rw [dayMade_one]
  have := (isBaked_iff.mp h).1
  omega
/-- the greatest load up to n, and its first day -/
theorem hard_top {p : Pr} (g : Good p) {n : Int} {r : Option Int} (h : HardR p n r) : ∃ k : Nat, (∀ d, 0 ≤ d → d ≤ n → load p d ≤ topS p k) ∧ ((k = 0 ∧ r = none) ∨ (0 < k ∧ r = some (dayMade p k 1) ∧ dayMade p k 1 ≤ n ∧ load p (dayMade p k 1) = topS p k ∧ ∀ d, 0 ≤ d → d < dayMade p k 1 → load p d < topS p k)) := by
  obtain ⟨k, hk, hn, rfl⟩ := h
  have up : ∀ (m : Nat) (d : Int), (∀ j, j < m → isBaked p j d = true) → d ≤ n → m ≤ k := by
    intro m d hb hd
    rcases Nat.lt_or_ge k m with z | z
    · have := baked_first (hb k z)
      omega
    · exact z
  have dmono : ∀ m : Nat, dayMade p (k) 1 ≤ dayMade p (k + m) 1 := by
    intro m
    induction m with
    | zero => exact Int.le_refl _
    | succ m ih =>
      rw [dayMade_one, dayMade_one] at *
      have h1 := size_pos g (k + m)
      have h2 := g.le (k + m)
      have h3 := g.lo (k + m)
      have : 0 ≤ size p (k + m) * ((p (k + m)).1 - (p (k + m)).2) := Int.mul_nonneg (by omega) (by omega)
      have h4 : size p (k + m) * 1 ≤ size p (k + m) * (p (k + m)).2 := Int.mul_le_mul_of_nonneg_left (by omega) (by omega)
      show _ ≤ size p (k + m) * (p (k + m)).2 + (owed p (k + m) + size p (k + m) * ((p (k + m)).1 - (p (k + m)).2))
      omega
  refine ⟨k, fun d d0 hd => ?_, ?_⟩
  · obtain ⟨m, e, hb, _⟩ := load_top g d
    have := topS_mono g m (k - m)
    have h2 := up m d hb hd
    rw [show m + (k - m) = k by omega] at this
    rw [e]; omega
  · by_cases z : k = 0
    · exact .inl ⟨z, by rw [if_pos z]⟩
    · refine .inr ⟨by omega, by rw [if_neg z], ?_, ?_, ?_⟩
      · have := hk (k - 1) (by omega)
        rw [show k - 1 + 1 = k by omega] at this
        exact this
      · obtain ⟨m, e, hb, hnb⟩ := load_top g (dayMade p k 1)
        have hle := up m _ hb (by have := hk (k - 1) (by omega); rw [show k - 1 + 1 = k by omega] at this; exact this)
        rcases Nat.lt_or_ge m k with q | q
        · exfalso
          have := first_baked g (k := m) (m := k - (m + 1))
          rw [show m + 1 + (k - (m + 1)) = k by omega] at this
          rw [this] at hnb; cases hnb
        · rw [e]; congr 1; omega
      · intro d d0 hd
        obtain ⟨m, e, hb, _⟩ := load_top g d
        have hlt : m < k := by
          rcases Nat.lt_or_ge m k with q | q
          · exact q
          · exfalso
            have := baked_first (hb (k - 1) (by omega))
            rw [show k - 1 + 1 = k by omega] at this
            omega
        have := topS_mono g m (k - m)
        rw [show m + (k - m) = k by omega] at this
        rw [e]; omega
theorem topS_zero (p : Pr) : topS p 0 = 0 := rfl
/-! ### far days -/
/-- the sum of what has come into the grades from k on -/
theorem work_at {p : Pr} (g : Good p) {d : Int} (h : 0 ≤ d) : ∀ k : Nat, size p k * work (tl p k) (made p k d) = size p (k + 1) * made p (k + 1) d + size p (k + 1) * work (tl p (k + 1)) (made p (k + 1) d) := by
  intro k
  have hw := work_eq (g.tl k) (made_nn p k d)
  rw [← made_next g k d h, tl_tl] at hw
  have e : tl p k 0 = p k := by unfold tl; rw [Nat.zero_add]
  rw [e] at hw
  rw [hw]
  show _ = size p k * (p k).2 * _ + size p k * (p k).2 * _
  rw [Int.mul_add, Int.mul_assoc, Int.mul_assoc]
theorem dayIn_hi {p : Pr} (g : Good p) {d : Int} (h1 : 1 ≤ d) (k : Nat) : dayIn p d k ≤ d + size p k + owed p k := by
  have hs := size_pos g k
  have hc : 1 ≤ (d + size p k - 1) / size p k := (Int.le_ediv_iff_mul_le hs (a := 1) (b := d + size p k - 1)).mpr (by omega)
  have := Int.ediv_mul_le (d + size p k - 1) (b := size p k) (by omega)
  unfold dayIn dayMade
  rw [if_pos (by omega)]
  omega
theorem made_size {p : Pr} (g : Good p) {k : Nat} {d : Int} (h : 1 ≤ made p k d) : size p k + owed p k ≤ d := by
  have := (made_ge g (m := 1) (by omega)).mp h
  rw [dayMade_one] at this
  exact this
end Silt
set_option linter.all false
namespace Silt
/-- the numbers from lo on that a test selects -/
def sel (b : Nat → Bool) (lo : Int) (m : Nat) : List Int := ((List.range m).filter b).map fun (i : Nat) => lo + (i : Int)
theorem sel_succ (b : Nat → Bool) (lo : Int) (m : Nat) : sel b lo (m + 1) = sel b lo m ++ if b m = true then [lo + (m : Int)] else [] := by
  unfold sel
  rw [List.range_succ, List.filter_append, List.map_append]
  congr 1
  by_cases c : b m = true
  · rw [if_pos c]; simp [c]
  · rw [if_neg c]; simp [c]
theorem sel_len (b : Nat → Bool) (lo : Int) (m : Nat) : (sel b lo m).length ≤ m := by
  unfold sel
  rw [List.length_map]
  have := List.length_filter_le b (List.range m)
  rw [List.length_range] at this
  exact this
theorem sel_mem {b : Nat → Bool} {lo : Int} {m i : Nat} (hi : i < m) (h : b i = true) : lo + (i : Int) ∈ sel b lo m := by
  unfold sel
  exact List.mem_map.mpr ⟨i, List.mem_filter.mpr ⟨List.mem_range.mpr hi, h⟩, rfl⟩
theorem sel_none {b : Nat → Bool} {lo : Int} : ∀ {m : Nat}, (∀ i, i < m → b i = false) → sel b lo m = []
  | 0, _ => rfl
  | m + 1, h => by rw [sel_succ, sel_none fun i hi => h i (by omega), if_neg (by rw [h m (by omega)]; decide)]; rfl
theorem sel_first {b : Nat → Bool} {lo : Int} {i0 : Nat} (h0 : b i0 = true) (hl : ∀ i, i < i0 → b i = false) : ∀ {m : Nat}, i0 < m → ∃ r, sel b lo m = (lo + (i0 : Int)) :: r
  | 0, h => absurd h (Nat.not_lt_zero _)
  | m + 1, h => by
    rw [sel_succ]
    by_cases c : i0 = m
    · subst c
      rw [sel_none hl, if_pos h0]
      exact ⟨[], rfl⟩
    · obtain ⟨r, e⟩ := sel_first h0 hl (m := m) (by omega)
      rw [e]
      exact ⟨_, rfl⟩
theorem sel_last {b : Nat → Bool} {lo : Int} {i1 : Nat} (h1 : b i1 = true) : ∀ {m : Nat}, i1 < m → (∀ i, i1 < i → i < m → b i = false) → ∃ r, sel b lo m = r ++ [lo + (i1 : Int)]
  | 0, h, _ => absurd h (Nat.not_lt_zero _)
  | m + 1, h, hl => by
    rw [sel_succ]
    by_cases c : i1 = m
    · subst c
      rw [if_pos h1]
      exact ⟨_, rfl⟩
    · obtain ⟨r, e⟩ := sel_last h1 (m := m) (by omega) fun i a d => hl i a (by omega)
      rw [e, if_neg (by rw [hl m (by omega) (by omega)]; decide), List.append_nil]
      exact ⟨r, rfl⟩
/-- from c on -/
theorem sel_from {b : Nat → Bool} {lo c : Int} {m : Nat} (hb : ∀ i, i < m → b i = decide (c ≤ lo + (i : Int))) (hc : lo ≤ c) : (sel b lo m = [] ∧ lo + (m : Int) ≤ c) ∨ (∃ r, sel b lo m = c :: r) := by
  by_cases z : c < lo + (m : Int)
  · right
    have e : lo + (((c - lo).toNat : Nat) : Int) = c := by omega
    have := sel_first (b := fun i => decide (c ≤ lo + (i : Int))) (lo := lo) (i0 := (c - lo).toNat) (m := m) (by simp; omega) (fun i hi => by simp; omega) (by omega)
    obtain ⟨r, h⟩ := this
    rw [e] at h
    refine ⟨r, ?_⟩
    rw [← h]
    unfold sel
    congr 1
    refine List.filter_congr fun i hi => hb i (List.mem_range.mp hi)
  · left
    exact ⟨sel_none fun i hi => by rw [hb i hi]; simp; omega, by omega⟩
theorem sel_between {b : Nat → Bool} {lo c e : Int} {m : Nat} (hb : ∀ i, i < m → b i = (decide (c ≤ lo + (i : Int)) && decide (lo + (i : Int) < e))) (hc : lo ≤ c) :
    (sel b lo m = [] ∧ (e ≤ c ∨ lo + (m : Int) ≤ c)) ∨ (c < e ∧ c < lo + (m : Int) ∧ (∃ r, sel b lo m = c :: r) ∧ ∃ r, sel b lo m = r ++ [min (lo + (m : Int) - 1) (e - 1)]) := by
  have hsel : sel b lo m = sel (fun i => decide (c ≤ lo + (i : Int)) && decide (lo + (i : Int) < e)) lo m := by
    unfold sel
    congr 1
    exact List.filter_congr fun i hi => hb i (List.mem_range.mp hi)
  rw [hsel]
  by_cases z : c < e ∧ c < lo + (m : Int)
  · right
    refine ⟨z.1, z.2, ?_, ?_⟩
    · have := sel_first (b := fun i => decide (c ≤ lo + (i : Int)) && decide (lo + (i : Int) < e)) (lo := lo) (i0 := (c - lo).toNat) (m := m) (by simp; omega) (fun i hi => by simp; omega) (by omega)
      have e1 : lo + (((c - lo).toNat : Nat) : Int) = c := by omega
      rw [e1] at this
      exact this
    · have := sel_last (b := fun i => decide (c ≤ lo + (i : Int)) && decide (lo + (i : Int) < e)) (lo := lo) (i1 := (min (lo + (m : Int) - 1) (e - 1) - lo).toNat) (m := m) (by simp; omega) (by omega) (fun i h1 h2 => by simp; omega)
      have e1 : lo + (((min (lo + (m : Int) - 1) (e - 1) - lo).toNat : Nat) : Int) = min (lo + (m : Int) - 1) (e - 1) := by omega
      rw [e1] at this
      exact this
  · left
    refine ⟨sel_none fun i hi => ?_, by omega⟩
    rw [Bool.and_eq_false_iff, decide_eq_false_iff_not, decide_eq_false_iff_not]
    omega
end Silt
set_option linter.all false
namespace Silt
/-! ### digits are told by their value -/
theorem value_nn {p : Pr} (g : Good p) : ∀ (ds : List Int), Valid p ds → 0 ≤ value p ds ∧ (ds ≠ [] → 1 ≤ value p ds)
  | [], _ => ⟨Int.le_refl _, fun h => absurd rfl h⟩
  | [x], v => by
    have h1 := v.1
    have e : value p [x] = x := by show x + (p 0).2 * 0 = x; omega
    rw [e]
    exact ⟨by omega, fun _ => h1⟩
  | x :: y :: ys, v => by
    obtain ⟨h1, h2, h3⟩ := v
    have g0 := g.lo 0
    have g1 := g.le 0
    have ih := (value_nn (g.tl 1) (y :: ys) h3).2 (by simp)
    have e : value p (x :: y :: ys) = x + (p 0).2 * value (tl p 1) (y :: ys) := rfl
    have : (p 0).2 * 1 ≤ (p 0).2 * value (tl p 1) (y :: ys) := Int.mul_le_mul_of_nonneg_left ih (by omega)
    rw [e]
    exact ⟨by omega, fun _ => by omega⟩
theorem Valid.rest {p : Pr} {x : Int} {xs : List Int} (v : Valid p (x :: xs)) : Valid (tl p 1) xs := by
  cases xs with
  | nil => trivial
  | cons y ys => exact v.2.2
theorem Valid.head {p : Pr} (g : Good p) {x : Int} {xs : List Int} (v : Valid p (x :: xs)) : 0 ≤ x ∧ x < (p 0).1 ∧ (xs ≠ [] → (p 0).1 - (p 0).2 ≤ x) ∧ (xs = [] → 1 ≤ x) := by
  have g1 := g.le 0
  cases xs with
  | nil => exact ⟨by have := v.1; omega, v.2, fun h => absurd rfl h, fun _ => v.1⟩
  | cons y ys => exact ⟨by have := v.1; omega, v.2.1, fun _ => v.1, fun h => by cases h⟩
theorem late_value {p : Pr} (g : Good p) {x : Int} {xs : List Int} (v : Valid p (x :: xs)) : late p (value p (x :: xs)) = value (tl p 1) xs := by
  obtain ⟨h0, h1, h2, h3⟩ := v.head g
  have b := g.lo 0
  have v2 := value_nn (g.tl 1) xs v.rest
  have e : value p (x :: xs) = x + (p 0).2 * value (tl p 1) xs := rfl
  rw [e]
  unfold late
  have e2 : x + (p 0).2 * value (tl p 1) xs - (p 0).1 + (p 0).2 = (x - (p 0).1 + (p 0).2) + (p 0).2 * value (tl p 1) xs := by omega
  rw [e2, Int.add_mul_ediv_left _ _ (by omega)]
  by_cases c : xs = []
  · subst c
    have e3 : value (tl p 1) [] = 0 := rfl
    rw [e3]
    have : (x - (p 0).1 + (p 0).2) / (p 0).2 ≤ 0 := by
      have : (x - (p 0).1 + (p 0).2) / (p 0).2 < 1 := (Int.ediv_lt_iff_lt_mul (by omega)).mpr (by omega)
      omega
    omega
  · have h4 := h2 c
    have h5 := v2.2 c
    rw [Int.ediv_eq_zero_of_lt (by omega) (by omega)]
    omega
theorem digits_value {p : Pr} (g : Good p) : ∀ (ds : List Int), Valid p ds → digits p (value p ds) = ds
  | [], _ => digits_zero p (Int.le_refl _)
  | x :: xs, v => by
    have h := (value_nn g (x :: xs) v).2 (by simp)
    rw [digits_pos g (by omega), late_value g v, digits_value (g.tl 1) xs v.rest]
    have e : value p (x :: xs) = x + (p 0).2 * value (tl p 1) xs := rfl
    rw [e]
    congr 1
    omega
theorem value_inj {p : Pr} (g : Good p) {as bs : List Int} (va : Valid p as) (vb : Valid p bs) (e : value p as = value p bs) : as = bs := by
  rw [← digits_value g as va, e, digits_value g bs vb]
/-! ### sums of digits -/
theorem sum_valid {p : Pr} (g : Good p) : ∀ (ds : List Int), Valid p ds → 0 ≤ ds.sum ∧ (ds ≠ [] → 1 ≤ ds.sum) ∧ ds.sum ≤ value p ds ∧ ds.sum ≤ 12 * (ds.length : Int)
  | [], _ => ⟨Int.le_refl _, fun h => absurd rfl h, Int.le_refl _, Int.le_refl _⟩
  | x :: xs, v => by
    obtain ⟨h0, h1, h2, h3⟩ := v.head g
    obtain ⟨i1, i2, i3, i4⟩ := sum_valid (g.tl 1) xs v.rest
    have b := g.lo 0
    have hi := g.hi 0
    have e : value p (x :: xs) = x + (p 0).2 * value (tl p 1) xs := rfl
    have v2 := (value_nn (g.tl 1) xs v.rest).1
    have : 1 * value (tl p 1) xs ≤ (p 0).2 * value (tl p 1) xs := Int.mul_le_mul_of_nonneg_right (by omega) v2
    rw [List.sum_cons, e, List.length_cons]
    refine ⟨by omega, fun _ => ?_, by omega, by omega⟩
    by_cases c : xs = []
    · have := h3 c; omega
    · have := i2 c; omega
/-! ### first days with so many layers -/
theorem firstWith_zero (p : Pr) {m : Int} (h : m ≤ 0) : firstWith p m = 0 := by
  unfold firstWith
  rw [fwL_zero p h]; rfl
theorem firstWith_low {p : Pr} (g : Good p) {m : Int} (h0 : 0 ≤ m) (h : m ≤ (p 0).1 - 1) : firstWith p m = m := by
  rcases Int.lt_or_eq_of_le h0 with z | z
  · unfold firstWith
    rw [fwL_pos g z]
    have e : min m ((p 0).1 - 1) = m := by omega
    rw [e, fwL_zero _ (by omega)]
    show m + (p 0).2 * 0 = m
    omega
  · rw [← z]; exact firstWith_zero p (Int.le_refl _)
theorem firstWith_up {p : Pr} (g : Good p) {m : Int} (h : (p 0).1 - 1 ≤ m) : firstWith p m = ((p 0).1 - 1) + (p 0).2 * firstWith (tl p 1) (m - ((p 0).1 - 1)) := by
  have b := g.lo 0
  have b2 := g.le 0
  rcases Int.lt_or_eq_of_le h with z | z
  · exact firstWith_tl g z
  · rw [← z, firstWith_low g (by omega) (Int.le_refl _), firstWith_zero (tl p 1) (by omega)]
    omega
theorem fwL_sumF {p : Pr} (g : Good p) : ∀ (n : Nat) (p : Pr) (m : Int), Good p → 0 ≤ m → m ≤ n → (fwL p m).sum = m
  | 0, p, m, g, h0, h => by
    rw [fwL_zero p (by omega)]
    show (0 : Int) = m
    omega
  | n + 1, p, m, g, h0, h => by
    have b := g.lo 0
    have b2 := g.le 0
    rcases Int.lt_or_eq_of_le h0 with z | z
    · rw [fwL_pos g z, List.sum_cons, fwL_sumF g n (tl p 1) _ (g.tl 1) (by omega) (by omega)]
      omega
    · rw [← z, fwL_zero p (Int.le_refl _)]; rfl
theorem firstWith_digits {p : Pr} (g : Good p) (m : Int) : digits p (firstWith p m) = fwL p m := digits_value g _ (fwL_valid g m)
/-- on the first day with so many there are just so many -/
theorem firstWith_sum {p : Pr} (g : Good p) {m : Int} (h : 0 ≤ m) : (digits p (firstWith p m)).sum = m := by
  rw [firstWith_digits g]
  exact fwL_sumF g m.toNat p m g h (by omega)
theorem firstWith_nn {p : Pr} (g : Good p) (m : Int) : 0 ≤ firstWith p m := (value_nn g _ (fwL_valid g m)).1
theorem firstWith_next : ∀ (n : Nat) (p : Pr) (m : Int), Good p → 0 ≤ m → m ≤ n → firstWith p m + 1 ≤ firstWith p (m + 1)
  | 0, p, m, g, h0, h => by
    have b := g.lo 0
    have b2 := g.le 0
    rw [firstWith_zero p (by omega : m ≤ 0), firstWith_low g (m := m + 1) (by omega) (by omega)]
    omega
  | n + 1, p, m, g, h0, h => by
    have b := g.lo 0
    have b2 := g.le 0
    by_cases c : m + 1 ≤ (p 0).1 - 1
    · rw [firstWith_low g h0 (by omega), firstWith_low g (by omega) c]
      omega
    · rw [firstWith_up g (m := m) (by omega), firstWith_up g (m := m + 1) (by omega)]
      have ih := firstWith_next n (tl p 1) (m - ((p 0).1 - 1)) (g.tl 1) (by omega) (by omega)
      have e : m + 1 - ((p 0).1 - 1) = m - ((p 0).1 - 1) + 1 := by omega
      rw [e]
      have : (p 0).2 * (firstWith (tl p 1) (m - ((p 0).1 - 1)) + 1) ≤ (p 0).2 * firstWith (tl p 1) (m - ((p 0).1 - 1) + 1) := Int.mul_le_mul_of_nonneg_left ih (by omega)
      rw [Int.mul_add] at this
      omega
theorem firstWith_add {p : Pr} (g : Good p) {m : Int} (h : 0 ≤ m) : ∀ k : Nat, firstWith p m + k ≤ firstWith p (m + k)
  | 0 => by
    have e : m + ((0 : Nat) : Int) = m := by omega
    rw [e]; omega
  | k + 1 => by
    have ih := firstWith_add g h k
    have := firstWith_next (m + k).toNat p (m + k) g (by omega) (by omega)
    have e : m + ((k + 1 : Nat) : Int) = m + k + 1 := by omega
    rw [e]
    omega
theorem firstWith_mono {p : Pr} (g : Good p) {m k : Int} (h : 0 ≤ m) (hk : m ≤ k) : firstWith p m + (k - m) ≤ firstWith p k := by
  have := firstWith_add g h (k - m).toNat
  have e : m + ((k - m).toNat : Int) = k := by omega
  rw [e] at this
  omega
/-- no day ahead of it has so many -/
theorem firstWith_leastF : ∀ (n : Nat) (p : Pr) (d m : Int), Good p → 0 ≤ d → d ≤ n → m ≤ (digits p d).sum → firstWith p m ≤ d
  | 0, p, d, m, g, h0, h, hm => by
    rw [digits_zero p (by omega)] at hm
    have : m ≤ 0 := hm
    rw [firstWith_zero p this]
    omega
  | n + 1, p, d, m, g, h0, h, hm => by
    by_cases c : d ≤ 0
    · rw [digits_zero p c] at hm
      have : m ≤ 0 := hm
      rw [firstWith_zero p this]
      omega
    · have b := g.lo 0
      have b2 := g.le 0
      have l := late_lt g (d := d) (by omega)
      have l0 := late_nn p d
      obtain ⟨d1, d2, _, _⟩ := digit_lt g (d := d) (by omega)
      rw [digits_pos g (by omega), List.sum_cons] at hm
      have sl := (sum_valid (g.tl 1) _ (valid_digits (g.tl 1) l0)).2.2.1
      rw [value_digits (g.tl 1) l0] at sl
      have bl : 1 * late p d ≤ (p 0).2 * late p d := Int.mul_le_mul_of_nonneg_right (by omega) l0
      by_cases z : m ≤ (p 0).1 - 1
      · by_cases y : 0 ≤ m
        · rw [firstWith_low g y z]
          omega
        · rw [firstWith_zero p (by omega)]
          omega
      · rw [firstWith_up g (m := m) (by omega)]
        have ih := firstWith_leastF n (tl p 1) (late p d) (m - (d - (p 0).2 * late p d)) (g.tl 1) l0 (by omega) (by omega)
        have mo := firstWith_mono (g.tl 1) (m := m - ((p 0).1 - 1)) (k := m - (d - (p 0).2 * late p d)) (by omega) (by omega)
        have h1 : firstWith (tl p 1) (m - ((p 0).1 - 1)) + ((p 0).1 - 1 - (d - (p 0).2 * late p d)) ≤ late p d := by omega
        have h2 : (p 0).2 * (firstWith (tl p 1) (m - ((p 0).1 - 1)) + ((p 0).1 - 1 - (d - (p 0).2 * late p d))) ≤ (p 0).2 * late p d := Int.mul_le_mul_of_nonneg_left h1 (by omega)
        rw [Int.mul_add] at h2
        have h3 : 1 * ((p 0).1 - 1 - (d - (p 0).2 * late p d)) ≤ (p 0).2 * ((p 0).1 - 1 - (d - (p 0).2 * late p d)) := Int.mul_le_mul_of_nonneg_right (by omega) (by omega)
        omega
theorem firstWith_least {p : Pr} (g : Good p) {d m : Int} (h : 0 ≤ d) (hm : m ≤ (digits p d).sum) : firstWith p m ≤ d := firstWith_leastF d.toNat p d m g h (by omega) hm
theorem firstWith_bound {p : Pr} (g : Good p) {m d : Int} (h : 0 ≤ m) (hd : firstWith p m ≤ d) {n : Nat} (hn : d < ((2 ^ n : Nat) : Int)) : m ≤ 12 * (n : Int) := by
  have h1 := firstWith_sum g h
  have h2 := (sum_valid g _ (valid_digits g (firstWith_nn g m))).2.2.2
  have h3 := digits_len g n (firstWith p m) (firstWith_nn g m) (by omega)
  omega
/-! ### the fewest layers from a day on -/
/-- the digits with one digit raised and the lower ones least, or one grade more -/
def RT : Pr → List Int → List (List Int)
  | _, [] => [[1]]
  | p, x :: xs => (if x + 1 < (p 0).1 then [(x + 1) :: xs] else []) ++ (RT (tl p 1) xs).map (((p 0).1 - (p 0).2) :: ·)
theorem RT_valid {p : Pr} (g : Good p) : ∀ (ds : List Int), Valid p ds → ∀ r ∈ RT p ds, r ≠ [] ∧ Valid p r ∧ value p ds < value p r
  | [], _, r, hr => by
    have hr : r ∈ [[(1 : Int)]] := hr
    rw [List.mem_singleton] at hr
    subst hr
    have b := g.lo 0
    have b2 := g.le 0
    exact ⟨by simp, ⟨Int.le_refl _, by omega⟩, by show (0 : Int) < 1 + (p 0).2 * 0; omega⟩
  | x :: xs, v, r, hr => by
    have b := g.lo 0
    have b2 := g.le 0
    obtain ⟨h0, h1, h2, h3⟩ := v.head g
    have hr : r ∈ (if x + 1 < (p 0).1 then [(x + 1) :: xs] else []) ++ (RT (tl p 1) xs).map (((p 0).1 - (p 0).2) :: ·) := hr
    rcases List.mem_append.mp hr with z | z
    · by_cases c : x + 1 < (p 0).1
      · rw [if_pos c, List.mem_singleton] at z
        subst z
        refine ⟨by simp, ?_, ?_⟩
        · cases xs with
          | nil => exact ⟨by omega, c⟩
          | cons y ys => exact ⟨by have := h2 (by simp); omega, c, v.2.2⟩
        · show x + (p 0).2 * value (tl p 1) xs < x + 1 + (p 0).2 * value (tl p 1) xs
          omega
      · rw [if_neg c] at z; cases z
    · obtain ⟨r', hr', rfl⟩ := List.mem_map.mp z
      obtain ⟨n1, n2, n3⟩ := RT_valid (g.tl 1) xs v.rest r' hr'
      refine ⟨by simp, ?_, ?_⟩
      · cases r' with
        | nil => exact absurd rfl n1
        | cons y ys => exact ⟨Int.le_refl _, by omega, n2⟩
      · show x + (p 0).2 * value (tl p 1) xs < (p 0).1 - (p 0).2 + (p 0).2 * value (tl p 1) r'
        have : (p 0).2 * (value (tl p 1) xs + 1) ≤ (p 0).2 * value (tl p 1) r' := Int.mul_le_mul_of_nonneg_left (by omega) (by omega)
        rw [Int.mul_add] at this
        omega
theorem RT_low {p : Pr} (g : Good p) : ∀ (ds es : List Int), Valid p ds → Valid p es → value p ds < value p es → ∃ r ∈ RT p ds, r.sum ≤ es.sum
  | [], es, _, ve, h => by
    refine ⟨[1], List.mem_singleton.mpr rfl, ?_⟩
    have : es ≠ [] := by
      intro z
      rw [z] at h
      exact absurd h (Int.lt_irrefl _)
    exact (sum_valid g es ve).2.1 this
  | x :: xs, [], vd, _, h => by
    have := (value_nn g _ vd).1
    have e : value p [] = 0 := rfl
    omega
  | x :: xs, y :: ys, vd, ve, h => by
    have b := g.lo 0
    obtain ⟨h0, h1, h2, h3⟩ := vd.head g
    obtain ⟨k0, k1, k2, k3⟩ := ve.head g
    have h : x + (p 0).2 * value (tl p 1) xs < y + (p 0).2 * value (tl p 1) ys := h
    have vx := value_nn (g.tl 1) xs vd.rest
    have vy := value_nn (g.tl 1) ys ve.rest
    rcases Int.lt_or_le (value (tl p 1) xs) (value (tl p 1) ys) with z | z
    · obtain ⟨r, hr, hs⟩ := RT_low (g.tl 1) xs ys vd.rest ve.rest z
      have : ys ≠ [] := by
        intro q
        rw [q] at z
        have e : value (tl p 1) [] = 0 := rfl
        omega
      have := k2 this
      refine ⟨((p 0).1 - (p 0).2) :: r, List.mem_append_right _ (List.mem_map.mpr ⟨r, hr, rfl⟩), ?_⟩
      rw [List.sum_cons, List.sum_cons]
      omega
    · rcases Int.lt_or_eq_of_le z with q | q
      · exfalso
        have : xs ≠ [] := by
          intro c
          rw [c] at q
          have e : value (tl p 1) [] = 0 := rfl
          omega
        have := h2 this
        have : (p 0).2 * (value (tl p 1) ys + 1) ≤ (p 0).2 * value (tl p 1) xs := Int.mul_le_mul_of_nonneg_left (by omega) (by omega)
        rw [Int.mul_add] at this
        omega
      · have e := value_inj (g.tl 1) ve.rest vd.rest q
        subst e
        refine ⟨(x + 1) :: ys, List.mem_append_left _ ?_, ?_⟩
        · rw [if_pos (by omega)]
          exact List.mem_singleton.mpr rfl
        · rw [List.sum_cons, List.sum_cons]
          omega
/-- numbers and days of what is looked at -/
def fewPs (p : Pr) (d : Int) : List (Int × Int) := (digits p d :: RT p (digits p d)).map fun r => (r.sum, value p r)
/-- k is the least of them, by the number, then by the day -/
def LeastP (p : Pr) (d : Int) (k : Int × Int) : Prop := k ∈ fewPs p d ∧ ∀ y ∈ fewPs p d, ¬ (y.1 < k.1 ∨ y.1 = k.1 ∧ y.2 < k.2)
theorem LeastP.uniq {p : Pr} {d : Int} {k j : Int × Int} (h : LeastP p d k) (h' : LeastP p d j) : k = j := by
  have a := h.2 j h'.1
  have b := h'.2 k h.1
  exact Prod.ext (by omega) (by omega)
theorem few_mem {p : Pr} (g : Good p) {d : Int} (h : 0 ≤ d) {k : Int × Int} (hk : k ∈ fewPs p d) : (digits p k.2).sum = k.1 ∧ d ≤ k.2 ∧ Valid p (digits p k.2) := by
  obtain ⟨r, hr, rfl⟩ := List.mem_map.mp hk
  have vd := valid_digits g h
  have ev := value_digits g h
  rcases List.mem_cons.mp hr with z | z
  · subst z
    show (digits p (value p (digits p d))).sum = _ ∧ d ≤ value p (digits p d) ∧ Valid p (digits p (value p (digits p d)))
    rw [ev]
    exact ⟨rfl, Int.le_refl _, vd⟩
  · obtain ⟨n1, n2, n3⟩ := RT_valid g _ vd r z
    show (digits p (value p r)).sum = r.sum ∧ d ≤ value p r ∧ Valid p (digits p (value p r))
    rw [digits_value g r n2]
    exact ⟨rfl, by omega, n2⟩
theorem LeastP.low {p : Pr} (g : Good p) {d : Int} (h : 0 ≤ d) {k : Int × Int} (hk : LeastP p d k) {e : Int} (he : d ≤ e) : k.1 ≤ (digits p e).sum := by
  have vd := valid_digits g h
  have ev := value_digits g h
  have ve := valid_digits g (d := e) (by omega)
  have : ∃ y ∈ fewPs p d, y.1 ≤ (digits p e).sum := by
    rcases Int.lt_or_eq_of_le he with z | z
    · obtain ⟨r, hr, hs⟩ := RT_low g _ _ vd ve (by rw [ev, value_digits g (by omega)]; exact z)
      exact ⟨_, List.mem_map.mpr ⟨r, List.mem_cons_of_mem _ hr, rfl⟩, hs⟩
    · rw [← z]
      exact ⟨_, List.mem_map.mpr ⟨_, List.mem_cons_self, rfl⟩, Int.le_refl _⟩
  obtain ⟨y, hy, hs⟩ := this
  have := hk.2 y hy
  omega
/-! ### the same list as it is made, grade by grade -/
def leastD (p : Pr) (k : Nat) : List Int := (List.range k).map fun (i : Nat) => (p i).1 - (p i).2
theorem leastD_succ (p : Pr) (k : Nat) : leastD p (k + 1) = ((p 0).1 - (p 0).2) :: leastD (tl p 1) k := by
  unfold leastD
  rw [List.range_succ_eq_map, List.map_cons, List.map_map]
  rfl
def upD (p : Pr) (ds : List Int) (i : Nat) : List (List Int) := ((List.range i).filter fun g => decide (ds.getD g 0 + 1 < (p g).1)).map fun g => leastD p g ++ (ds.getD g 0 + 1) :: ds.drop (g + 1)
theorem upD_succ (p : Pr) (ds : List Int) (i : Nat) : upD p ds (i + 1) = upD p ds i ++ if ds.getD i 0 + 1 < (p i).1 then [leastD p i ++ (ds.getD i 0 + 1) :: ds.drop (i + 1)] else [] := by
  unfold upD
  rw [List.range_succ, List.filter_append, List.map_append]
  congr 1
  by_cases c : ds.getD i 0 + 1 < (p i).1
  · rw [if_pos c, List.filter_cons_of_pos (by simpa using c)]
    rfl
  · rw [if_neg c, List.filter_cons_of_neg (by simpa using c)]
    rfl
theorem upD_cons (p : Pr) (x : Int) (xs : List Int) : ∀ i : Nat, upD p (x :: xs) (i + 1) = (if x + 1 < (p 0).1 then [(x + 1) :: xs] else []) ++ (upD (tl p 1) xs i).map (((p 0).1 - (p 0).2) :: ·)
  | 0 => by
    rw [upD_succ]
    show [] ++ (if x + 1 < (p 0).1 then [(x + 1) :: xs] else []) = _ ++ []
    rw [List.nil_append, List.append_nil]
  | i + 1 => by
    rw [upD_succ, upD_cons p x xs i, upD_succ, List.map_append, List.append_assoc]
    congr 2
    have e : (x :: xs).getD (i + 1) 0 = xs.getD i 0 := rfl
    have e2 : p (i + 1) = tl p 1 i := rfl
    rw [e, e2]
    by_cases c : xs.getD i 0 + 1 < (tl p 1 i).1
    · rw [if_pos c, if_pos c, leastD_succ]
      rfl
    · rw [if_neg c, if_neg c]
      rfl
theorem RT_eq (p : Pr) (ds : List Int) : RT p ds = upD p ds ds.length ++ [leastD p ds.length ++ [1]] := by
  induction ds generalizing p with
  | nil => rfl
  | cons x xs ih =>
    show (if x + 1 < (p 0).1 then [(x + 1) :: xs] else []) ++ (RT (tl p 1) xs).map (((p 0).1 - (p 0).2) :: ·) = upD p (x :: xs) (xs.length + 1) ++ [leastD p (xs.length + 1) ++ [1]]
    rw [upD_cons, ih (tl p 1), List.map_append, leastD_succ, List.append_assoc]
    rfl
end Silt
set_option linter.all false
namespace Silt
/-! ### the greatest number of layers up to a day -/
def TopR (p : Pr) (d N : Int) : Prop := 0 ≤ N ∧ firstWith p N ≤ d ∧ d < firstWith p (N + 1)
theorem TopR.le {p : Pr} (g : Good p) {d N m : Int} (h : TopR p d N) (hm : 0 ≤ m) : firstWith p m ≤ d ↔ m ≤ N := by
  obtain ⟨h0, h1, h2⟩ := h
  constructor
  · intro z
    rcases Int.lt_or_le N m with q | q
    · have := firstWith_mono g (m := N + 1) (k := m) (by omega) (by omega)
      omega
    · exact q
  · intro z
    have := firstWith_mono g (m := m) (k := N) hm z
    omega
theorem TopR.uniq {p : Pr} (g : Good p) {d N M : Int} (h : TopR p d N) (h' : TopR p d M) : N = M := by
  have a := (h.le g h'.1).mp h'.2.1
  have b := (h'.le g h.1).mp h.2.1
  omega
/-! ### the least day with so many, from the top -/
def roomS (p : Pr) : Nat → Int
  | 0 => 0
  | k + 1 => roomS p k + ((p k).1 - 1)
def lowS (p : Pr) : Nat → Int
  | 0 => 0
  | k + 1 => lowS p k + ((p k).1 - 1) * size p k
theorem roomS_tl (p : Pr) : ∀ k : Nat, roomS p (k + 1) = ((p 0).1 - 1) + roomS (tl p 1) k
  | 0 => by
    show (0 : Int) + ((p 0).1 - 1) = ((p 0).1 - 1) + 0
    rw [Int.zero_add, Int.add_zero]
  | k + 1 => by
    have e : tl p 1 k = p (k + 1) := rfl
    have h1 : roomS p (k + 1 + 1) = roomS p (k + 1) + ((p (k + 1)).1 - 1) := rfl
    have h2 : roomS (tl p 1) (k + 1) = roomS (tl p 1) k + ((tl p 1 k).1 - 1) := rfl
    rw [h1, h2, roomS_tl p k, e, Int.add_assoc]
theorem lowS_tl (p : Pr) : ∀ k : Nat, lowS p (k + 1) = ((p 0).1 - 1) + (p 0).2 * lowS (tl p 1) k
  | 0 => by
    show (0 : Int) + ((p 0).1 - 1) * 1 = ((p 0).1 - 1) + (p 0).2 * 0
    rw [Int.mul_one, Int.mul_zero, Int.zero_add, Int.add_zero]
  | k + 1 => by
    show lowS p (k + 1) + ((p (k + 1)).1 - 1) * size p (k + 1) = _ + (p 0).2 * (lowS (tl p 1) k + ((tl p 1 k).1 - 1) * size (tl p 1) k)
    rw [lowS_tl p k, size_tl]
    have e : tl p 1 k = p (k + 1) := rfl
    rw [e, Int.mul_add, ← Int.mul_assoc, ← Int.mul_assoc, Int.mul_comm (p 0).2 ((p (k + 1)).1 - 1)]
    omega
theorem roomS_ge {p : Pr} (g : Good p) : ∀ k : Nat, (k : Int) ≤ roomS p k
  | 0 => Int.le_refl _
  | k + 1 => by
    have := roomS_ge g k
    have := g.lo k
    have := g.le k
    show ((k + 1 : Nat) : Int) ≤ roomS p k + ((p k).1 - 1)
    omega
theorem roomS_le {p : Pr} (g : Good p) : ∀ k : Nat, roomS p k ≤ 11 * (k : Int)
  | 0 => Int.le_refl _
  | k + 1 => by
    have := roomS_le g k
    have := g.hi k
    show roomS p k + ((p k).1 - 1) ≤ 11 * ((k + 1 : Nat) : Int)
    omega
theorem firstWith_room : ∀ (k : Nat) (p : Pr) (m : Int), Good p → roomS p k < m → m ≤ roomS p (k + 1) → firstWith p m = lowS p k + (m - roomS p k) * size p k
  | 0, p, m, g, h1, h2 => by
    have h1 : (0 : Int) < m := h1
    have h2 : m ≤ 0 + ((p 0).1 - 1) := h2
    rw [firstWith_low g (by omega) (by omega)]
    show m = 0 + (m - 0) * 1
    omega
  | k + 1, p, m, g, h1, h2 => by
    rw [roomS_tl] at h1 h2
    have hr : 0 ≤ roomS (tl p 1) k := by have := roomS_ge (g.tl 1) k; omega
    rw [firstWith_up g (by omega), firstWith_room k (tl p 1) (m - ((p 0).1 - 1)) (g.tl 1) (by omega) (by omega), lowS_tl, roomS_tl, size_tl]
    rw [Int.mul_add]
    have e : (p 0).2 * ((m - ((p 0).1 - 1) - roomS (tl p 1) k) * size (tl p 1) k) = (m - ((p 0).1 - 1 + roomS (tl p 1) k)) * ((p 0).2 * size (tl p 1) k) := by
      rw [← Int.mul_assoc, ← Int.mul_assoc, Int.mul_comm (p 0).2, show m - ((p 0).1 - 1) - roomS (tl p 1) k = m - ((p 0).1 - 1 + roomS (tl p 1) k) by omega]
    rw [e]
    omega
/-! ### choices -/
section
variable (W F N : Nat → Int) (d : Int) (m : Nat)
/-- those that cost less than k, or as much and stand ahead -/
def aheadL (k : Nat) : List Nat := (List.range m).filter fun l => decide (W l < W k ∨ W l = W k ∧ l < k)
def fitsL : List Nat := (List.range m).filter fun i => decide (d < F i)
/-- k is the cheapest one that fits -/
def CheapK (k : Nat) : Prop := k < m ∧ d < F k ∧ ∀ j, j < m → d < F j → ¬ (W j < W k ∨ W j = W k ∧ j < k)
/-- the better ones among the first i -/
def betL (k i : Nat) : List Nat := (List.range i).filter fun l => decide (W l < W k ∧ N l ≤ N k)
def outL (i : Nat) : List (Nat × Nat) := (List.range i).filterMap fun k => (betL W N k m).head?.map fun l => (k, l)
end
theorem cheap_uniq {W F : Nat → Int} {d : Int} {m k j : Nat} (h : CheapK W F d m k) (h' : CheapK W F d m j) : k = j := by
  have a := h.2.2 j h'.1 h'.2.1
  have b := h'.2.2 k h.1 h.2.1
  omega
theorem ahead_first {W F : Nat → Int} {d : Int} {m k l : Nat} (h : CheapK W F d m k) (hl : l ∈ aheadL W m k) : F l ≤ d := by
  obtain ⟨h1, h2⟩ := List.mem_filter.mp hl
  have h2 := of_decide_eq_true h2
  rcases Int.lt_or_le d (F l) with z | z
  · exact absurd h2 (h.2.2 l (List.mem_range.mp h1) z)
  · exact z
theorem filter_lt {m : Nat} {b : Nat → Bool} : ∀ l ∈ (List.range m).filter b, l < m := fun l h => List.mem_range.mp (List.mem_filter.mp h).1
theorem filter_asc {m : Nat} {b : Nat → Bool} : ((List.range m).filter b).Pairwise (· < ·) := List.Pairwise.filter _ List.pairwise_lt_range
theorem filter_succ (b : Nat → Bool) (i : Nat) : (List.range (i + 1)).filter b = (List.range i).filter b ++ if b i = true then [i] else [] := by
  rw [List.range_succ, List.filter_append]
  congr 1
  by_cases c : b i = true
  · rw [if_pos c, List.filter_cons_of_pos c]; rfl
  · rw [if_neg c, List.filter_cons_of_neg c]; rfl
theorem betL_succ (W N : Nat → Int) (k i : Nat) : betL W N k (i + 1) = betL W N k i ++ if W i < W k ∧ N i ≤ N k then [i] else [] := by
  unfold betL
  rw [filter_succ]
  simp only [decide_eq_true_iff]
theorem outL_succ (W N : Nat → Int) (m i : Nat) : outL W N m (i + 1) = outL W N m i ++ match (betL W N i m).head? with | none => [] | some l => [(i, l)] := by
  unfold outL
  rw [List.range_succ, List.filterMap_append]
  congr 1
  cases e : (betL W N i m).head? with
  | none => simp [e]
  | some l => simp [e]
theorem outL_lt {W N : Nat → Int} {m i : Nat} : ∀ q ∈ outL W N m i, q.1 < i := by
  intro q h
  obtain ⟨k, hk, e⟩ := List.mem_filterMap.mp h
  cases e2 : (betL W N k m).head? with
  | none => rw [e2] at e; cases e
  | some l => rw [e2] at e; cases e; exact List.mem_range.mp hk
theorem outL_asc (W N : Nat → Int) (m : Nat) : ∀ i, ((outL W N m i).map (·.1)).Pairwise (· < ·)
  | 0 => List.Pairwise.nil
  | i + 1 => by
    rw [outL_succ, List.map_append, List.pairwise_append]
    refine ⟨outL_asc W N m i, ?_, ?_⟩
    · cases (betL W N i m).head? with
      | none => exact List.Pairwise.nil
      | some l => exact List.pairwise_singleton ..
    · intro a ha b hb
      obtain ⟨q, hq, rfl⟩ := List.mem_map.mp ha
      have := outL_lt q hq
      cases e : (betL W N i m).head? with
      | none => rw [e] at hb; cases hb
      | some l =>
        rw [e] at hb
        have : b = i := by simpa using hb
        omega
end Silt
set_option linter.all false
namespace Silt
/-! ### four hundred layers are far off where no wait is above six -/
theorem room_five {p : Pr} (h6 : ∀ k, (p k).1 ≤ 6) : ∀ k : Nat, roomS p k ≤ 5 * (k : Int)
  | 0 => Int.le_refl _
  | k + 1 => by
    have := room_five h6 k
    have := h6 k
    show roomS p k + ((p k).1 - 1) ≤ 5 * ((k + 1 : Nat) : Int)
    omega
theorem room_at {p : Pr} (g : Good p) {m : Int} (h : 0 < m) : ∀ n : Nat, m ≤ roomS p n → ∃ k, roomS p k < m ∧ m ≤ roomS p (k + 1)
  | 0, q => by
    have q : m ≤ 0 := q
    omega
  | n + 1, q => by
    rcases Int.lt_or_le (roomS p n) m with z | z
    · exact ⟨n, z, q⟩
    · exact room_at g h n z
theorem low_nn {p : Pr} (g : Good p) : ∀ k : Nat, 0 ≤ lowS p k
  | 0 => Int.le_refl _
  | k + 1 => by
    have h1 := low_nn g k
    have h2 := g.lo k
    have h3 := g.le k
    have h4 := size_pos g k
    have := Int.mul_nonneg (show 0 ≤ (p k).1 - 1 by omega) (show 0 ≤ size p k by omega)
    show 0 ≤ lowS p k + ((p k).1 - 1) * size p k
    omega
theorem firstWith_six {p : Pr} (g : Good p) (h6 : ∀ k, (p k).1 ≤ 6) : (10 : Int) ^ 18 < firstWith p 401 := by
  obtain ⟨k, h1, h2⟩ := room_at (m := 401) g (by decide) 401 (roomS_ge g 401)
  have h3 := room_five h6 (k + 1)
  have h4 := size_ge g k
  have h5 := low_nn g k
  rw [firstWith_room k p 401 g h1 h2]
  have h6 : 80 ≤ k := by omega
  have h7 : 2 ^ 80 ≤ 2 ^ k := Nat.pow_le_pow_right (by decide) h6
  have h8 : (10 : Int) ^ 18 < ((2 ^ 80 : Nat) : Int) := by decide
  have h9 : ((2 ^ 80 : Nat) : Int) ≤ ((2 ^ k : Nat) : Int) := by exact_mod_cast h7
  have h10 := Int.mul_le_mul_of_nonneg_right (show 1 ≤ 401 - roomS p k by omega) (show 0 ≤ size p k by omega)
  rw [Int.one_mul] at h10
  omega
/-! ### the first days -/
theorem digits_zero0 (p : Pr) : digits p 0 = [] := digits_zero p (Int.le_refl _)
theorem firstWith_pos {p : Pr} (g : Good p) : 0 < firstWith p 1 := by
  have h1 := firstWith_sum g (m := 1) (by decide)
  have h2 := firstWith_nn g 1
  rcases Int.lt_or_le 0 (firstWith p 1) with z | z
  · exact z
  · exfalso
    rw [show firstWith p 1 = 0 by omega, digits_zero0] at h1
    exact absurd h1 (by decide)
theorem firstWith_one {p : Pr} (g : Good p) : firstWith p 1 = 1 := by
  have h2 := g.lo 0
  have h3 := g.le 0
  exact firstWith_low g (by decide) (by omega)
/-- where all fit, none stands ahead of the cheapest -/
theorem ahead_none {W F : Nat → Int} {d : Int} {m k : Nat} (h : CheapK W F d m k) (hf : ∀ i, i < m → d < F i) : aheadL W m k = [] := by
  unfold aheadL
  rw [List.filter_eq_nil_iff]
  intro l hl z
  have hl := List.mem_range.mp hl
  exact h.2.2 l hl (hf l hl) (of_decide_eq_true z)
theorem cheap_first {W F : Nat → Int} {d : Int} {m k : Nat} (h : CheapK W F d m k) (hf : ∀ i, i < m → d < F i) (hw : ∀ i, i < m → W i = 0) : k = 0 := by
  rcases Nat.eq_zero_or_pos k with z | z
  · exact z
  · exfalso
    have hk := h.1
    exact h.2.2 0 (by omega) (hf 0 (by omega)) (.inr ⟨by rw [hw 0 (by omega), hw k hk], z⟩)
theorem fits_all {F : Nat → Int} {d : Int} {m : Nat} (hm : 0 < m) (hf : ∀ i, i < m → d < F i) : fitsL F d m ≠ [] := by
  intro z
  have : 0 ∈ fitsL F d m := List.mem_filter.mpr ⟨List.mem_range.mpr hm, decide_eq_true (hf 0 hm)⟩
  rw [z] at this
  cases this
theorem fits_none {F : Nat → Int} {d : Int} {m : Nat} (hf : ∀ i, i < m → F i ≤ d) : fitsL F d m = [] := by
  unfold fitsL
  rw [List.filter_eq_nil_iff]
  intro l hl z
  have := hf l (List.mem_range.mp hl)
  have := of_decide_eq_true z
  omega
/-- the greatest number of layers up to day n -/
theorem top_max {p : Pr} (g : Good p) {n : Nat} {N : Int} (hm : ∃ j : Nat, j ≤ n ∧ (digits p (j : Int)).sum = N) (hl : ∀ j : Nat, j ≤ n → (digits p (j : Int)).sum ≤ N) : TopR p n N := by
  obtain ⟨j, hj, rfl⟩ := hm
  have h0 : 0 ≤ (digits p (j : Int)).sum := by
    have := hl 0 (Nat.zero_le _)
    rw [show ((0 : Nat) : Int) = 0 from rfl, digits_zero0] at this
    exact this
  refine ⟨h0, ?_, ?_⟩
  · have := firstWith_least g (d := (j : Int)) (by omega) (Int.le_refl _)
    omega
  · rcases Int.lt_or_le (n : Int) (firstWith p ((digits p (j : Int)).sum + 1)) with z | z
    · exact z
    · exfalso
      have a := firstWith_sum g (m := (digits p (j : Int)).sum + 1) (by omega)
      have b := firstWith_nn g ((digits p (j : Int)).sum + 1)
      have c := hl (firstWith p ((digits p (j : Int)).sum + 1)).toNat (by omega)
      rw [Int.toNat_of_nonneg b, a] at c
      omega
end Silt
set_option Elab.async false
set_option linter.all false
set_option maxRecDepth 100000
set_option maxHeartbeats 4000000
namespace L2
open PySem PySem.Spec PyProof.Rows
section
variable {X : Cx} {CX : CXT} {k j : Nat} {f C : Addr} {fd : FuncData} {ps : List Str} {sp : Sp} {dvs : List V} {ds : List Value} {E : XK} {pos : Pos} {a b : Expr} {ta tb : TE}
/-- the callee runs one level within a built-in's body -/
theorem run_fn1 {pins : List (Addr × Obj)} {σ : St} {H : Hp} {s : Shared} {Q : VK} {us : List Value} {vs : List V} (F : FnOk X.prog X.w X.K X.mg X.base CX k f fd ps sp) (hr : Room (k + 1) X.A) (hb : Binds X.K fd ps ds) (hd : Vals dvs ds) (hx : Passes CX X E)
    (I : Inv X pins σ H s) (r : Vals vs us) (h : sp (vs ++ dvs) H Q E) : wpAny (model X.prog X.w) X.A.in1 (call (.ref f) us) (EP X pins σ Q) X.xe s := by
  have r2 : Vals (vs ++ dvs) (us ++ ds) := r.append hd
  have hl : (us ++ ds).length = ps.length := by rw [← r2.length]; exact F.len _ _ _ _ h
  refine wpAny_call (codeAny_mono (F.run X.A.in1 X.stack s H ⟨us, []⟩ (us ++ ds) (vs ++ dvs) Q E hr.in1 I.env0.in1 (hb s us I.kIn hl) r2 h) fun r s' hq => ?_)
  cases r with
  | error e => exact hx pins σ H s e s' I hq
  | ok fl =>
    cases fl with
    | ret u => exact I.after hq
    | next => exact False.elim hq
    | brk => exact False.elim hq
    | cont => exact False.elim hq
/-- o[i] of an own class with its own __getitem__ -/
def rOwnI (C : Addr) (sp : Sp) (dvs : List V) : R2 := fun x y H Q => ∃ a dx fs, x = .ref a ∧ H a = some (.ins C dx fs) ∧ sp (x :: ([y] ++ dvs)) H Q C8.E0
theorem pe_ixO (c : C8.Met X.prog X.w X.K X.mg X.base k C "__getitem__" sp dvs) (hr : Room j X.A) (hk : k + 1 ≤ j) (ha : PE X a ta) (hb : PE X b tb) (hfn : ∀ f, PySem.W.findIn X.K (.ref C) "__getitem__" = some (some (.ref f)) → PySem.W.fnIn X.K f = true)
    (hs : ∀ o i, subscripted b true o i = runValue (.builtin "lifetime.subscript" ⟨[o, i], []⟩) := by intro _ _; first | rfl | with_unfolding_all rfl) :
    PE X (.Subscript a b pos) (tOp (rOwnI C sp dvs) ta tb) := by
  obtain ⟨f, fd, ps, ds, cl, hm, F, bd, d⟩ := c.ex
  refine ⟨fun pins s σ H Q I h => ?_⟩
  refine Subscript_ (binT ha hb I h fun v u s2 x y H2 I2 rx ry q => ?_)
  obtain ⟨p, dx, fs, rfl, e, q⟩ := q
  obtain rfl : v = Value.ref p := rx
  obtain ⟨mA, O, _, _, _, _⟩ := ins_get I2.hok e
  obtain ⟨od, J, _⟩ := O.look
  obtain ⟨m, F0⟩ := I2.fr
  refine PySem.W.sub_K F0 I2.ok.mod.kin J hm.at_ (hfn _ hm.at_) hm.fn ?_ (hs _ _)
  exact run_fn1 (us := [.ref p, u]) (vs := [.ref p, y]) F (hr.mono hk) bd d C8.pass0 I2 (.cons rfl (.cons ry .nil)) q

/-! ### names as slots -/
theorem pg_n (i : Nat) {x : Str} {pos : Pos} (hN : X.N.Nodup) (hi : X.N[i]? = some x := by rfl) (hx : Loc X.env.scope x := by first | exact .inl rfl | exact .inr rfl) (hf : X.fn x = true ∨ X.env.scope.names.lookup x = some .local := by first | exact .inl rfl | exact .inr rfl) : PG X (.Name x pos) (gName i) := pg_name hN hi hx hf
theorem ps_s (i : Nat) {x : Str} {e : Expr} {te : TE} {pos' : Pos} (hN : X.N.Nodup) (he : PE X e te) (hi : X.N[i]? = some x := by rfl) (hx : Loc X.env.scope x := by first | exact .inl rfl | exact .inr rfl) (hs : swapsWith e (some (.Name x pos')) pos.line X.env = pure false := by rfl) (hf : X.fn x = true ∨ X.env.scope.names.lookup x = some .local := by first | exact .inl rfl | exact .inr rfl) :
    PS X (.Assign [.Name x pos'] e pos) (tAsg te (gName i)) := ps_set hN hi hx he hs hf
theorem ps_au (i : Nat) {x : Str} {e : Expr} {te : TE} {op : Operator} {ti : TIp} {pos' : Pos} (hN : X.N.Nodup) (he : PE X e te) (ho : PIp X op ti) (hi : X.N[i]? = some x := by rfl) (hx : Loc X.env.scope x := by first | exact .inl rfl | exact .inr rfl) (hf : X.fn x = true ∨ X.env.scope.names.lookup x = some .local := by first | exact .inl rfl | exact .inr rfl) :
    PS X (.AugAssign (.Name x pos') op e pos) (tAug i te ti) := ps_aug hN hi hx he ho hf
/-! ### a drawing list: item 0 is the script, item 1 some int (which one is not told) -/
def DrawO (a sc : Addr) : HO := .ext fun h => ∃ (i : Int) (t : Tok) (n : Nat), h.get? a = some { cls := .type "list", data := .seq #[.ref sc, .int i t] n }
theorem drawO_new {P : Program} {w : World} {H : Hp} {h : Heap} {a sc : Addr} {i : Int} {t : Tok} {n : Nat} (e : h.get? a = some { cls := .type "list", data := .seq #[.ref sc, .int i t] n }) : ObjOk P w H h a (DrawO a sc) :=
  ⟨⟨i, t, n, e⟩, ⟨_, e⟩, fun h1 h2 ⟨i, t, n, e⟩ k => ⟨i, t, n, k _ e⟩⟩
/-- [script, 0] -/
def tDraw (t : TA) : TE := fun σ H Q => t σ H fun xs H1 => ∃ sc i, xs = [.ref sc, .int i] ∧ ∀ p, H1 p = none → Q (.ref p) (upd H1 p (DrawO p sc))
theorem pe_draw {es : List Expr} {t : TA} (h : PA X es t) : PE X (.List es pos) (tDraw t) := by
  refine ⟨fun pins s σ H Q I hq => ?_⟩
  refine wpAny_List_spliced (thn (h.run pos pins s σ H _ I hq) fun us s1 ⟨xs, H1, I1, r, sc, i, e, q⟩ => ?_)
  subst e
  obtain ⟨u1, u2, rfl, r1, r2⟩ := vals2 r
  obtain rfl : u1 = Value.ref sc := r1
  obtain ⟨t, rfl⟩ := r2
  refine ⟨by show 2 ≤ sizeLine; decide, ?_⟩
  have hf : H1 s1.heap.objs.size = none := I1.hok.fresh (Nat.le_refl _)
  refine ⟨.ref s1.heap.objs.size, upd H1 s1.heap.objs.size (DrawO s1.heap.objs.size sc), I1.laid (t' := s1.toks) (fun b u e => Heap.get?_push_of_some _ e) (Nat.le_refl _) ?_, rfl, q _ hf⟩
  exact drawO_new (i := i) (t := t) (n := 0) (Heap.get?_push_size _ rfl)
theorem draw_get {pins : List (Addr × Obj)} {σ : St} {H : Hp} {s : Shared} {a sc : Addr} (I : Inv X pins σ H s) (e : H a = some (DrawO a sc)) : ∃ (i : Int) (t : Tok) (n : Nat), s.heap.get? a = some { cls := .type "list", data := .seq #[.ref sc, .int i t] n } := (I.hok a _ e).1
def rDraw0 : R2 := fun x y H Q => ∃ a sc, x = .ref a ∧ y = .int 0 ∧ H a = some (DrawO a sc) ∧ Q (.ref sc) H
def rDraw1 : R2 := fun x y H Q => ∃ a sc, x = .ref a ∧ y = .int 1 ∧ H a = some (DrawO a sc) ∧ ∀ i : Int, Q (.int i) H
theorem ix_draw0 : IxR X rDraw0 := by
  intro value slice pins s σ H x y v u Q I rx ry h hs
  obtain ⟨a, sc, rfl, rfl, e, q⟩ := h
  cases rx
  obtain ⟨t, rfl⟩ := ry
  obtain ⟨i, ti, n, ho⟩ := draw_get I e
  exact item_listR (items := #[.ref sc, .int i ti]) (x := .ref sc) ⟨_, ho, rfl, n, rfl⟩ (by decide) (by decide) (by rfl) ⟨.ref sc, H, I, rfl, q⟩ hs
theorem ix_draw1 : IxR X rDraw1 := by
  intro value slice pins s σ H x y v u Q I rx ry h hs
  obtain ⟨a, sc, rfl, rfl, e, q⟩ := h
  cases rx
  obtain ⟨t, rfl⟩ := ry
  obtain ⟨i, ti, n, ho⟩ := draw_get I e
  exact item_listR (items := #[.ref sc, .int i ti]) (x := .int i ti) ⟨_, ho, rfl, n, rfl⟩ (by decide) (by decide) (by rfl) ⟨.int i, H, I, ⟨ti, rfl⟩, q i⟩ hs
theorem get_draw1 : PGet X rDraw1 := by
  intro pins s σ H x y v u Q I rx ry h
  obtain ⟨a, sc, rfl, rfl, e, q⟩ := h
  cases rx
  obtain ⟨t, rfl⟩ := ry
  obtain ⟨i, ti, n, ho⟩ := draw_get I e
  exact wpAny_getItem_list (items := #[.ref sc, .int i ti]) (x := .int i ti) ⟨_, ho, rfl, n, rfl⟩ (by decide) (by decide) (by rfl) ⟨.int i, H, I, ⟨ti, rfl⟩, q i⟩
def sDraw1 : TSet := fun o i v H Q => ∃ (a sc : Addr) (j : Int), o = .ref a ∧ i = .int 1 ∧ v = .int j ∧ H a = some (DrawO a sc) ∧ Q H
theorem upd_self {H : Hp} {a : Addr} {o : HO} (e : H a = some o) : upd H a o = H := by
  funext b
  unfold upd
  by_cases h : b = a
  · rw [if_pos h, h, e]
  · rw [if_neg h]
theorem set_draw1 : PSet X sDraw1 := by
  intro pins s σ H o i v ov iv u Q I ro ri rv h
  obtain ⟨a, sc, j, rfl, rfl, rfl, e, q⟩ := h
  cases ro
  obtain ⟨t, rfl⟩ := ri
  obtain ⟨t2, rfl⟩ := rv
  obtain ⟨i0, ti, n, ho⟩ := draw_get I e
  have hm : Obj.mapSeq (·.setIfInBounds 1 (.int j t2)) { cls := .type "list", data := .seq #[.ref sc, .int i0 ti] n } = { cls := .type "list", data := .seq #[.ref sc, .int j t2] n } := by rfl
  have g1 : (s.heap.update a (Obj.mapSeq (·.setIfInBounds 1 (.int j t2)))).get? a = some { cls := .type "list", data := .seq #[.ref sc, .int j t2] n } := by
    rw [Heap.get?_update_self _ ho (by rw [hm]; rfl), hm]
  have I' := I.write (x := a) (e := a) (o := DrawO a sc) (h' := s.heap.update a (Obj.mapSeq (·.setIfInBounds 1 (.int j t2)))) (t' := s.toks) (by rw [e]; exact True.intro) (.inl rfl)
    (fun b u hb z => by rw [Heap.get?_update_ne _ _ _ _ hb]; exact z) ⟨_, g1⟩ (drawO_new g1)
  rw [upd_self e] at I'
  exact PySem.W.ki_setAt (items := #[.ref sc, .int i0 ti]) ho (by decide) (by decide) (by show (1 : Int) < 2; decide) ⟨H, I', q⟩
end
end L2
set_option Elab.async false
set_option linter.all false
set_option maxRecDepth 100000
set_option maxHeartbeats 4000000
namespace L2
open PySem PySem.Spec PyProof.Rows
section
variable {X : Cx} {a b c d : Expr} {ta tb tc td : TE} {pos : Pos}
/-- a op1 b op2 c op3 d -/
def tChain3 (r r' r'' : R2) (ta tb tc td : TE) : TE := fun σ H Q => ta σ H fun x H1 => tb σ H1 fun y H2 => r x y H2 fun z H3 => ∃ k, z = .bl k ∧
  (if k = true then tc σ H3 fun w' H4 => r' y w' H4 fun z' H5 => ∃ k', z' = .bl k' ∧ (if k' = true then td σ H5 fun v' H6 => r'' w' v' H6 Q else Q (.bl false) H5) else Q (.bl false) H3)
theorem pe_chain3 {op op' op'' : CmpOp} {r r' r'' : R2} (ho : OpR X (compareOp op) r) (ho' : OpR X (compareOp op') r') (ho'' : OpR X (compareOp op'') r'') (ha : PE X a ta) (hb : PE X b tb) (hc : PE X c tc) (hd : PE X d td)
    (hm : lastMarks [op, op', op''] [b, c, d] = false := by with_unfolding_all rfl) : PE X (.Compare a [op, op', op''] [b, c, d] pos) (tChain3 r r' r'' ta tb tc td) := by
  refine ⟨fun pins s σ H Q I h => ?_⟩
  refine Compare_chain (thn (ha.run pins s σ H _ I h) fun v s1 ⟨x, H1, I1, r1, q1⟩ => chain_link (thn (hb.run pins s1 σ H1 _ I1 q1) fun u s2 ⟨y, H2, I2, r2, q2⟩ =>
    thn (ho pins s2 σ H2 x y v u _ I2 r1 r2 q2) fun d s3 ⟨z, H3, I3, r3, k, e, q3⟩ => ?_)) hm
  subst e
  cases r3
  refine wpAny_truthy_bool ?_
  cases k with
  | false => exact ite_ff ⟨.bl false, H3, I3, rfl, q3⟩
  | true =>
    refine ite_tt (chain_link (thn (hc.run pins s3 σ H3 _ I3 q3) fun w' s4 ⟨z', H4, I4, r4, q4⟩ => thn (ho' pins s4 σ H4 y z' u w' _ I4 r2 r4 q4) fun d s5 ⟨z5, H5, I5, r5, k5, e5, q5⟩ => ?_))
    subst e5
    cases r5
    refine wpAny_truthy_bool ?_
    cases k5 with
    | false => exact ite_ff ⟨.bl false, H5, I5, rfl, q5⟩
    | true => exact ite_tt (chain_last (thn (hd.run pins s5 σ H5 _ I5 q5) fun w6 s6 ⟨z6, H6, I6, r6, q6⟩ => ho'' pins s6 σ H6 z' z6 w' w6 Q I6 r4 r6 q6))
/-- o.f as a target -/
def gFld (K : PySem.W.Frag) (to : TE) (f : Str) : TG := fun v σ H Q => to σ H fun x H1 => ∃ a C dx fs, x = .ref a ∧ H1 a = some (.ins C dx fs) ∧ Cls K C ∧ NoAttr K C f ∧ fs.length < 1000 ∧ Q σ (upd H1 a (.ins C dx (putF f v fs)))
theorem pg_attr {o : Expr} {f : Str} {to : TE} (ho : PE X o to)
    (ha : ∀ v, assign (.Attribute o f pos) X.env v = (do
      let ov ← holding [v] (eval o X.env)
      standAt pos.atName
      holding [v, ov] (setAttr ov f v)
      release [v, ov] []) := by intro _; rfl) : PG X (.Attribute o f pos) (gFld X.K to f) := by
  refine ⟨fun pins s σ H v u Q I r h => ?_⟩
  rw [ha]
  refine wpAny_bind (wpAny_holding (thn (ho.run pins s σ H _ I h) fun ov s1 ⟨x, H1, I1, r1, p, C, dx, fs, ex, e, c, n, hl, q1⟩ => ?_))
  subst ex
  obtain rfl : ov = Value.ref p := r1
  refine wpAny_bind (wpAny_standAt (wpAny_bind (wpAny_holding (setattr_ok I1 e c n hl r fun s2 I2 => ?_))))
  exact wpAny_release ⟨σ, _, I2, q1⟩
/-! ### tuple * 1 is the tuple itself -/
theorem tuple_mul1 (l : Addr) (items : Array Value) (n : Nat) (dd : Option Addr) (sl : Array (Option Value)) (u : Tok) :
    Meets (Builtin.«tuple.__mul__» ⟨[.ref l, .int 1 u], []⟩) (fun _ R s => s.heap.get? l = some { cls := .type "tuple", dict := dd, data := .seq items n, slots := sl } ∧
      R (.ok (.ret (Value.ref l))) s) :=
  .of_wp fun prog w A R s h => by
    obtain ⟨hp, g, d, tk, os⟩ := s
    obtain ⟨hl, h⟩ := h
    have f1 := AutoSeq1.idx_int
    have c1 : (items.isEmpty || (1 : Int) == 1) = true := by simp
    wp_walk using wpAny_loadPart' hl
    exact ⟨_, rfl, h⟩
def rRepT1 (K : PySem.W.Frag) : R2 := fun x y H Q => ∃ l xs, x = .ref l ∧ y = .int 1 ∧ SqT K H l xs ∧ Q (.ref l) H
theorem op_repT1 : OpR X (binaryOp .Mult) (rRepT1 X.K) := by
  intro pins s σ H x y v u Q I rx ry h
  obtain ⟨l, xs, rfl, rfl, hT, q⟩ := h
  cases rx
  obtain ⟨t, rfl⟩ := ry
  obtain ⟨its, r, ⟨⟨cls, dd, data, sl⟩, ho, hc, n, hd⟩, hs⟩ := I.tuple hT
  simp only at hc hd
  subst hc hd
  exact wpAny_binaryOp_repeat_ref (T := "tuple") (U := "int") (by decide) ⟨_, ho, rfl⟩ (fun s' => typeIs_int s' 1 t) noFill_tuple_mul F.fills_int_mul F.slot_int_rmul repeat_tuple F.slot_int_index.lookup
    (call_meets F.slot_int_rmul (typeIs_int s 1 t) F.entry_int_rmul (F.args_int_rmul_2 _ _) (int_rmul_tuple 1 t l its.toArray n dd sl)
      ⟨ho, rfl, ⟨_, ho, rfl⟩, call_meets F.slot_tuple_mul ⟨_, ho, rfl⟩ F.entry_tuple_mul (F.args_tuple_mul_2 _ _) (tuple_mul1 l its.toArray n dd sl t) ⟨ho, ⟨.ref l, H, I, rfl, q⟩⟩⟩)
def rOr (r r' : R2) : R2 := fun x y H Q => r x y H Q ∨ r' x y H Q
theorem opR_or {f : Value → Value → Sem Value} {r r' : R2} (h : OpR X f r) (h' : OpR X f r') : OpR X f (rOr r r') := by
  intro pins s σ H x y v u Q I rx ry q
  rcases q with q | q
  · exact h pins s σ H x y v u Q I rx ry q
  · exact h' pins s σ H x y v u Q I rx ry q
theorem op_repTA : OpR X (binaryOp .Mult) (rOr (rRepT1 X.K) (rRepT X.K)) := opR_or op_repT1 op_repT
/-- x is None, x is not None -/
def rIsNn : R2 := fun x y H Q => y = .non ∧ Q (.bl (decide (x = .non))) H
def rNotNn : R2 := fun x y H Q => y = .non ∧ Q (.bl (!decide (x = .non))) H
theorem op_isNn : OpR X (compareOp .Is) rIsNn := op_isN
theorem op_notNn : OpR X (compareOp .IsNot) rNotNn := op_notN
/-! ### within a comprehension the frag must be told by its name -/
theorem ixK (R : PySem.W.Frag → R2) (K : PySem.W.Frag) (h : IxR X (R X.K)) (e : X.K = K := by rfl) : IxR X (R K) := e ▸ h
theorem opK {f : Value → Value → Sem Value} (R : PySem.W.Frag → R2) (K : PySem.W.Frag) (h : OpR X f (R X.K)) (e : X.K = K := by rfl) : OpR X f (R K) := e ▸ h
theorem callK {f : Value} (R : PySem.W.Frag → List V → Hp → VK → Prop) (K : PySem.W.Frag) (h : CallR X f (R X.K)) (e : X.K = K := by rfl) : CallR X f (R K) := e ▸ h
theorem pe_fldK {f : Str} (K : PySem.W.Frag) (h : PE X (.Attribute a f pos) (tFld X.K ta f)) (e : X.K = K := by rfl) : PE X (.Attribute a f pos) (tFld K ta f) := e ▸ h
end
end L2
set_option Elab.async false
set_option linter.all false
set_option maxRecDepth 100000
set_option maxHeartbeats 4000000
set_option exponentiation.threshold 9000
namespace Sl
open PySem L2 C8 StX
/-! ### great numbers -/
def BBn : Nat := 2 ^ 8900
theorem bbn_pos : 1000000 ≤ BBn := by
  unfold BBn
  have e : (2 : Nat) ^ 8900 = 2 ^ 20 * 2 ^ 8880 := (Nat.pow_add 2 20 8880)
  have : (1 : Nat) ≤ 2 ^ 8880 := Nat.pow_pos (by decide)
  rw [e]
  omega
theorem bbn_lt : BBn < 2 ^ 8901 := by
  unfold BBn
  exact Nat.pow_lt_pow_right (by decide) (by decide)
def BB : Int := (BBn : Nat)
theorem bb_nat {i : Int} (h0 : -BB ≤ i) (h : i ≤ BB) : i.natAbs < 2 ^ 8901 := by
  have := bbn_lt
  unfold BB at h0 h
  generalize (2 : Nat) ^ 8001 = b at *
  omega
theorem bb_pos : 1000000 ≤ BB := by have := bbn_pos; unfold BB; omega
def DDn : Nat := 2 ^ 2000
/-- days are below this -/
def DD : Int := (DDn : Nat)
theorem dd_pos : 1000000 ≤ DD := by
  have : 1000000 ≤ DDn := by
    unfold DDn
    have e : (2 : Nat) ^ 2000 = 2 ^ 20 * 2 ^ 1980 := (Nat.pow_add 2 20 1980)
    have : (1 : Nat) ≤ 2 ^ 1980 := Nat.pow_pos (by decide)
    rw [e]
    omega
  unfold DD; omega
theorem dd_bb : DD * 1000 ≤ BB := by
  have h : DDn * 1000 ≤ BBn := by
    unfold DDn BBn
    have e : (2 : Nat) ^ 8900 = 2 ^ 2000 * 2 ^ 6900 := (Nat.pow_add 2 2000 6900)
    have e2 : (2 : Nat) ^ 6900 = 2 ^ 10 * 2 ^ 6890 := (Nat.pow_add 2 10 6890)
    have : (1 : Nat) ≤ 2 ^ 6890 := Nat.pow_pos (by decide)
    rw [e]
    exact Nat.mul_le_mul_left _ (by omega)
  unfold DD BB
  omega
theorem cmulw {i j : Int} (h0 : -BB ≤ i) (h : i ≤ BB) (g0 : -BB ≤ j) (g : j ≤ BB) : CMulW i j := wide_mul (bb_nat h0 h) (bb_nat g0 g) (by decide) (by decide) (by decide)
theorem cdivw {i j : Int} (h0 : 0 < j) (h : j ≤ BB) : CDivW i j := wide_div h0 (bb_nat (by have := bb_pos; omega) h) (by decide) (by decide)
/-! ### heaps -/
theorem Same.new {H H' : Hp} {p : Addr} {o : HO} (e : Same H H') (h : H' p = none) : Same H (upd H' p o) := fun a u ha => by
  rw [upd_ne (ne_of_none (e a u ha) h)]
  exact e a u ha
theorem Same.mut {H H' : Hp} {p : Addr} {o : HO} (e : Same H H') (h : H p = none) : Same H (upd H' p o) := fun a u ha => by
  rw [upd_ne (ne_of_none ha h)]
  exact e a u ha
mutual
/-- a value that holds data, all of it tracked -/
inductive Dt (H : Hp) : V → PyData → Prop
  | non : Dt H .non .none
  | bl (b : Bool) : Dt H (.bl b) (.bool b)
  | int (i : Int) : Dt H (.int i) (.int i)
  | str (x : Str) : Dt H (.str x) (.str x)
  | lst {a : Addr} {xs : List V} {ds : List PyData} : H a = some (.lst xs) → DtAll H xs ds → Dt H (.ref a) (.list ds)
  | tup {a : Addr} {xs : List V} {ds : List PyData} : H a = some (.tup xs) → DtAll H xs ds → Dt H (.ref a) (.tuple ds)
inductive DtAll (H : Hp) : List V → List PyData → Prop
  | nil : DtAll H [] []
  | cons {v : V} {vs : List V} {d : PyData} {ds : List PyData} : Dt H v d → DtAll H vs ds → DtAll H (v :: vs) (d :: ds)
end
mutual
theorem Dt.mono {H H' : Hp} (s : Same H H') : ∀ {v : V} {d : PyData}, Dt H v d → Dt H' v d
  | _, _, .non => .non
  | _, _, .bl b => .bl b
  | _, _, .int i => .int i
  | _, _, .str x => .str x
  | _, _, .lst e h => .lst (s _ _ e) (DtAll.mono s h)
  | _, _, .tup e h => .tup (s _ _ e) (DtAll.mono s h)
theorem DtAll.mono {H H' : Hp} (s : Same H H') : ∀ {vs : List V} {ds : List PyData}, DtAll H vs ds → DtAll H' vs ds
  | _, _, .nil => .nil
  | _, _, .cons h t => .cons (Dt.mono s h) (DtAll.mono s t)
end
mutual
theorem Dt.dp {K : PySem.W.Frag} {H : Hp} : ∀ {v : V} {d : PyData}, Dt H v d → Dp K H v d
  | _, _, .non => .non
  | _, _, .bl b => .bl b
  | _, _, .int i => .int i
  | _, _, .str x => .str x
  | _, _, .lst e h => .lst (SqL.of e) (DtAll.dp h)
  | _, _, .tup e h => .tup (SqT.of e) (DtAll.dp h)
theorem DtAll.dp {K : PySem.W.Frag} {H : Hp} : ∀ {vs : List V} {ds : List PyData}, DtAll H vs ds → DpAll K H vs ds
  | _, _, .nil => .nil
  | _, _, .cons h t => .cons (Dt.dp h) (DtAll.dp t)
end
theorem DtAll.length {H : Hp} : ∀ {vs : List V} {ds : List PyData}, DtAll H vs ds → vs.length = ds.length
  | _, _, .nil => rfl
  | _, _, .cons _ t => by rw [List.length_cons, List.length_cons, DtAll.length t]
theorem DtAll.get {H : Hp} : ∀ {vs : List V} {ds : List PyData} {i : Nat} {d : PyData}, DtAll H vs ds → ds[i]? = some d → ∃ v, vs[i]? = some v ∧ Dt H v d
  | _, _, _, _, .nil, h => by simp at h
  | _, _, 0, _, .cons h _, e => by simp at e; subst e; exact ⟨_, rfl, h⟩
  | _, _, i + 1, _, .cons _ t, e => by
    obtain ⟨v, h1, h2⟩ := DtAll.get (i := i) t (by simpa using e)
    exact ⟨v, by simpa using h1, h2⟩
theorem DtAll.getV {H : Hp} : ∀ {vs : List V} {ds : List PyData} {i : Nat} {v : V}, DtAll H vs ds → vs[i]? = some v → ∃ d, ds[i]? = some d ∧ Dt H v d
  | _, _, _, _, .nil, h => by simp at h
  | _, _, 0, _, .cons h _, e => by simp at e; subst e; exact ⟨_, rfl, h⟩
  | _, _, i + 1, _, .cons _ t, e => by
    obtain ⟨v, h1, h2⟩ := DtAll.getV (i := i) t (by simpa using e)
    exact ⟨v, by simpa using h1, h2⟩
theorem DtAll.append {H : Hp} : ∀ {vs ws : List V} {ds es : List PyData}, DtAll H vs ds → DtAll H ws es → DtAll H (vs ++ ws) (ds ++ es)
  | _, _, _, _, .nil, s => s
  | _, _, _, _, .cons h t, s => .cons h (DtAll.append t s)
theorem DtAll.take {H : Hp} : ∀ {vs : List V} {ds : List PyData} (n : Nat), DtAll H vs ds → DtAll H (vs.take n) (ds.take n)
  | _, _, 0, _ => .nil
  | _, _, _ + 1, .nil => .nil
  | _, _, n + 1, .cons h t => .cons h (DtAll.take n t)
theorem DtAll.drop {H : Hp} : ∀ {vs : List V} {ds : List PyData} (n : Nat), DtAll H vs ds → DtAll H (vs.drop n) (ds.drop n)
  | _, _, 0, r => r
  | _, _, _ + 1, .nil => .nil
  | _, _, n + 1, .cons _ t => DtAll.drop n t
/-- ints -/
def intsD (ns : List Int) : List PyData := ns.map PyData.int
theorem DtAll.intsD {H : Hp} : ∀ (ns : List Int), DtAll H (ns.map V.int) (intsD ns)
  | [] => .nil
  | n :: ns => .cons (.int n) (DtAll.intsD ns)
theorem DtAll.intsD_inv {H : Hp} : ∀ {ns : List Int} {vs : List V}, DtAll H vs (Sl.intsD ns) → vs = ns.map V.int
  | [], _, .nil => rfl
  | n :: ns, _, .cons (.int _) t => by rw [DtAll.intsD_inv t]; rfl
/-! ### readings by names -/
def rNewL (Q : VK) (xs : List V) (H1 : Hp) : Prop := xs.length ≤ sizeLine ∧ ∀ p, H1 p = none → Q (.ref p) (upd H1 p (.lst xs))
def rNewT (Q : VK) (xs : List V) (H1 : Hp) : Prop := xs.length ≤ sizeLine ∧ ∀ p, H1 p = none → Q (.ref p) (upd H1 p (.tup xs))
def rMax2 : List V → Hp → VK → Prop := fun xs H Q => ∃ i j, xs = [.int i, .int j] ∧ Q (.int (if j > i then j else i)) H
def rMin2 : List V → Hp → VK → Prop := fun xs H Q => ∃ i j, xs = [.int i, .int j] ∧ Q (.int (if j < i then j else i)) H
def rAbs : List V → Hp → VK → Prop := fun xs H Q => ∃ i, xs = [.int i] ∧ Q (.int (if i < 0 then -i else i)) H
def rInt1 : List V → Hp → VK → Prop := fun xs H Q => (∃ i, xs = [.int i] ∧ Q (.int i) H) ∨ ∃ k, xs = [.bl k] ∧ Q (.int (if k then 1 else 0)) H
def rLenS (K : PySem.W.Frag) : List V → Hp → VK → Prop := fun xs H Q => ∃ p ys, xs = [.ref p] ∧ (SqL K H p ys ∨ SqT K H p ys) ∧ Q (.int ys.length) H
def rIsC (C : Addr) : List V → Hp → VK → Prop := fun xs H Q => ∃ a dx fs, xs = [.ref a, .ref C] ∧ H a = some (.ins C dx fs) ∧ Q (.bl true) H
def rTupOf (K : PySem.W.Frag) : List V → Hp → VK → Prop := fun xs H Q => ∃ p ys, xs = [.ref p] ∧ ((SqL K H p ys ∧ ∀ l, H l = none → Q (.ref l) (upd H l (.tup ys))) ∨ (SqT K H p ys ∧ Q (.ref p) H))
def rLstOf (K : PySem.W.Frag) : List V → Hp → VK → Prop := fun xs H Q => ∃ p ys, xs = [.ref p] ∧ (SqL K H p ys ∨ SqT K H p ys) ∧ ∀ l, H l = none → Q (.ref l) (upd H l (.lst ys))
def rFld (K : PySem.W.Frag) (f : Str) : V → Hp → VK → Prop := fun x H1 Q => ∃ a C dx fs v, x = .ref a ∧ H1 a = some (.ins C dx fs) ∧ Cls K C ∧ NoAttr K C f ∧ fs.lookup f = some v ∧ Q v H1
section
variable {X : Cx}
theorem cr_max2 (hc : X.calm = true) : CallR X (.builtin "max") rMax2 := call_max2 hc
theorem cr_min2 (hc : X.calm = true) : CallR X (.builtin "min") rMin2 := call_min2 hc
theorem cr_abs : CallR X (.builtin "abs") rAbs := call_abs
theorem cr_int1 : CallR X (.type "int") rInt1 := call_int1
theorem cr_lenS : CallR X (.builtin "len") (rLenS X.K) := call_len_seq
theorem cr_isC {C : Addr} (c : InsC X.K C) : CallR X (.builtin "isinstance") (rIsC C) := call_isC c
theorem cr_tupOf : CallR X (.type "tuple") (rTupOf X.K) := call_tuple_of
theorem cr_lstOf : CallR X (.type "list") (rLstOf X.K) := call_list_of
end
/-! ### readings, backwards -/
section
variable {σ : L2.St} {H H' : Hp} {Q : VK} {E : XK} {te ta tb tc : TE} {t u : TS} {g : TG} {i : Nat} {v x y : V} {K : PySem.W.Frag} {nx bk ct : L2.St → Hp → Prop} {rt : VK} {QB : Bool → Hp → Prop} {QL : List V → Hp → Prop} {QS : L2.St → Hp → Prop}
theorem rd_seq (h : t ⟨u ⟨nx, rt, bk, ct⟩, rt, bk, ct⟩ σ H) : tSeq t u ⟨nx, rt, bk, ct⟩ σ H := h
theorem rd_asg (h : te σ H fun x H1 => nx (σ.set i (some x)) H1) : tAsg te (gName i) ⟨nx, rt, bk, ct⟩ σ H := h
theorem rd_asgG (h : te σ H fun x H1 => g x σ H1 nx) : tAsg te g ⟨nx, rt, bk, ct⟩ σ H := h
theorem rd_drop (h : te σ H fun _ H1 => nx σ H1) : tDrop te ⟨nx, rt, bk, ct⟩ σ H := h
theorem rd_ret (h : te σ H rt) : tRet te ⟨nx, rt, bk, ct⟩ σ H := h
theorem rd_retN (h : rt .non H) : tRetN ⟨nx, rt, bk, ct⟩ σ H := h
theorem rd_next (h : nx σ H) : tNext ⟨nx, rt, bk, ct⟩ σ H := h
theorem rd_break (h : bk σ H) : tBreak ⟨nx, rt, bk, ct⟩ σ H := h
theorem rd_cont (h : ct σ H) : tCont ⟨nx, rt, bk, ct⟩ σ H := h
theorem rd_ifS {c : TT} (h : c σ H fun b H1 => if b = true then t ⟨nx, rt, bk, ct⟩ σ H1 else u ⟨nx, rt, bk, ct⟩ σ H1) : tIfS c t u ⟨nx, rt, bk, ct⟩ σ H := h
theorem rd_par {j : Nat} {ta : TA} (h : ta σ H fun vs H1 => ∃ v w, vs = [v, w] ∧ nx ((σ.set i (some v)).set j (some w)) H1) : tPar i j ta ⟨nx, rt, bk, ct⟩ σ H := h
theorem rd_par2 {w : V} {R : V → V → Prop} (h : R v w) : ∃ v' w', [v, w] = [v', w'] ∧ R v' w' := ⟨v, w, rfl, h⟩
theorem rd_par3 {j l : Nat} {ta : TA} (h : ta σ H fun vs H1 => ∃ u v w, vs = [u, v, w] ∧ nx (((σ.set i (some u)).set j (some v)).set l (some w)) H1) : tPar3 i j l ta ⟨nx, rt, bk, ct⟩ σ H := h
theorem rd_par4 {u v w : V} {R : V → V → V → Prop} (h : R u v w) : ∃ u' v' w', [u, v, w] = [u', v', w'] ∧ R u' v' w' := ⟨u, v, w, rfl, h⟩
theorem rd_aug {ti : TIp} (e : σ[i]? = some (some x)) (h : te σ H fun y H1 => ti x y H1 fun z H2 => nx (σ.set i (some z)) H2) : tAug i te ti ⟨nx, rt, bk, ct⟩ σ H := ⟨x, e, h⟩
theorem rd_var (e : σ[i]? = some (some v)) (h : Q v H) : tVar i σ H Q := ⟨v, e, h⟩
theorem rd_var0 (h : ∃ v, σ[i]? = some (some v) ∧ Q v H) : tVar i σ H Q := h
theorem rd_aug0 {ti : TIp} (h : ∃ x, σ[i]? = some (some x) ∧ te σ H fun y H1 => ti x y H1 fun z H2 => nx (σ.set i (some z)) H2) : tAug i te ti ⟨nx, rt, bk, ct⟩ σ H := h
theorem rd_c (h : Q v H) : tC v σ H Q := h
theorem rd_op {r : R2} (h : ta σ H fun x H1 => tb σ H1 fun y H2 => r x y H2 Q) : tOp r ta tb σ H Q := h
theorem rd_un {r : V → Hp → VK → Prop} (h : ta σ H fun x H1 => r x H1 Q) : tUn r ta σ H Q := h
theorem rd_I0 {f : Int → Int → V} {a b : Int} (h : Q (f a b) H) : rI0 f (.int a) (.int b) H Q := ⟨a, b, rfl, rfl, h⟩
theorem rd_I {C : Int → Int → Prop} {f : Int → Int → V} {a b : Int} (c : C a b) (h : Q (f a b) H) : rI C f (.int a) (.int b) H Q := ⟨a, b, rfl, rfl, c, h⟩
theorem rd_U {f : Int → V} {a : Int} (h : Q (f a) H) : rU f (.int a) H Q := ⟨a, rfl, h⟩
theorem rd_ipI {f : Int → Int → Int} {a b : Int} (h : Q (.int (f a b)) H) : ipI f (.int a) (.int b) H Q := ⟨a, b, rfl, rfl, h⟩
theorem rd_eq (s : scal x y = true) (h : Q (.bl (decide (x = y))) H) : rEq x y H Q := ⟨s, h⟩
theorem rd_ne (s : scal x y = true) (h : Q (.bl (!decide (x = y))) H) : rNe x y H Q := ⟨s, h⟩
theorem rd_eqI {a b : Int} (h : Q (.bl (decide (a = b))) H) : rEq (.int a) (.int b) H Q := ⟨rfl, by
  have e : decide (V.int a = V.int b) = decide (a = b) := by
    by_cases c : a = b
    · rw [decide_eq_true c, decide_eq_true (by rw [c])]
    · rw [decide_eq_false c, decide_eq_false (by intro z; exact c (V.int.inj z))]
  rw [e]; exact h⟩
theorem rd_neI {a b : Int} (h : Q (.bl (!decide (a = b))) H) : rNe (.int a) (.int b) H Q := ⟨rfl, by
  have e : decide (V.int a = V.int b) = decide (a = b) := by
    by_cases c : a = b
    · rw [decide_eq_true c, decide_eq_true (by rw [c])]
    · rw [decide_eq_false c, decide_eq_false (by intro z; exact c (V.int.inj z))]
  rw [e]; exact h⟩
theorem rd_test (h : te σ H fun x H' => ∃ k, x = .bl k ∧ QB k H') : tTest te σ H QB := h
theorem rd_tB (h : te σ H fun x H' => ∃ k, x = .bl k ∧ QB k H') : tB te σ H QB := h
theorem rd_bl {b : Bool} {R : Bool → Prop} (h : R b) : ∃ k, V.bl b = .bl k ∧ R k := ⟨b, rfl, h⟩
theorem rd_not {c : TT} (h : c σ H fun b H1 => QB (!b) H1) : tNot c σ H QB := h
theorem rd_and {c d : TT} (h : c σ H fun b H1 => if b = true then d σ H1 QB else QB false H1) : tAnd c d σ H QB := h
theorem rd_or {c d : TT} (h : c σ H fun b H1 => if b = true then QB true H1 else d σ H1 QB) : tOr c d σ H QB := h
theorem rd_andV (h : ta σ H fun x H1 => ∃ c, x = .bl c ∧ if c = true then tb σ H1 Q else Q (.bl false) H1) : tAndV ta tb σ H Q := h
theorem rd_orV (h : ta σ H fun x H1 => ∃ c, x = .bl c ∧ if c = true then Q (.bl true) H1 else tb σ H1 Q) : tOrV ta tb σ H Q := h
theorem rd_notV (h : ta σ H fun x H1 => ∃ c, x = .bl c ∧ Q (.bl (!c)) H1) : tNotV ta σ H Q := h
theorem rd_ifE {c : TT} (h : c σ H fun b H1 => if b = true then ta σ H1 Q else tb σ H1 Q) : tIf c ta tb σ H Q := h
theorem rd_chain {r r' : R2} (h : ta σ H fun x H1 => tb σ H1 fun y H2 => r x y H2 fun z H3 => ∃ k, z = .bl k ∧ (if k = true then tc σ H3 fun w' H4 => r' y w' H4 Q else Q (.bl false) H3)) : tChain r r' ta tb tc σ H Q := h
theorem rd_chain3 {r r' r'' : R2} {td : TE} (h : ta σ H fun x H1 => tb σ H1 fun y H2 => r x y H2 fun z H3 => ∃ k, z = .bl k ∧
  (if k = true then tc σ H3 fun w' H4 => r' y w' H4 fun z' H5 => ∃ k', z' = .bl k' ∧ (if k' = true then td σ H5 fun v' H6 => r'' w' v' H6 Q else Q (.bl false) H5) else Q (.bl false) H3)) : tChain3 r r' r'' ta tb tc td σ H Q := h
theorem rd_nil (h : QL [] H) : tNil σ H QL := h
theorem rd_cons {tr : TA} (h : ta σ H fun x H1 => tr σ H1 fun xs H2 => QL (x :: xs) H2) : tCons ta tr σ H QL := h
theorem rd_call {sp : Sp} {dvs : List V} {t : TA} (h : t σ H fun vs H1 => sp (vs ++ dvs) H1 Q E) : tCall sp dvs E t σ H Q := h
theorem rd_CB {r : List V → Hp → VK → Prop} {t : TA} (h : t σ H fun vs H1 => r vs H1 Q) : tCB r t σ H Q := h
theorem rd_gname {j : Nat} (h : QS (σ.set j (some v)) H) : gName j v σ H QS := h
theorem rd_gcons {tg : TG} {ug : TGs} {r : List V} (h : tg v σ H fun σ' H' => ug r σ' H' QS) : gCons tg ug (v :: r) σ H QS := ⟨v, r, rfl, h⟩
theorem rd_gnil (h : QS σ H) : gNil [] σ H QS := ⟨rfl, h⟩
theorem rd_gtup {n : Nat} {tg : TGs} {a : Addr} {xs : List V} (e : H a = some (.tup xs)) (l : xs.length = n) (h : tg xs σ H QS) : gTup K n tg (.ref a) σ H QS := ⟨a, xs, rfl, SqT.of e, l, h⟩
theorem rd_max {a b : Int} (h : Q (.int (max a b)) H) : rMax2 [.int a, .int b] H Q := ⟨a, b, rfl, by
  have e : (if b > a then b else a) = max a b := by split <;> omega
  rw [e]; exact h⟩
theorem rd_min {a b : Int} (h : Q (.int (min a b)) H) : rMin2 [.int a, .int b] H Q := ⟨a, b, rfl, by
  have e : (if b < a then b else a) = min a b := by split <;> omega
  rw [e]; exact h⟩
theorem rd_lenL {a : Addr} {xs : List V} (e : H a = some (.lst xs)) (h : Q (.int xs.length) H) : rLenS K [.ref a] H Q := ⟨a, xs, rfl, .inl (SqL.of e), h⟩
theorem rd_lenT {a : Addr} {xs : List V} (e : H a = some (.tup xs)) (h : Q (.int xs.length) H) : rLenS K [.ref a] H Q := ⟨a, xs, rfl, .inr (SqT.of e), h⟩
theorem rd_lenSq {a : Addr} {xs : List V} (e : SqL K H a xs) (h : Q (.int xs.length) H) : rLenS K [.ref a] H Q := ⟨a, xs, rfl, .inl e, h⟩
theorem rd_int1 {a : Int} (h : Q (.int a) H) : rInt1 [.int a] H Q := .inl ⟨a, rfl, h⟩
theorem rd_abs {a : Int} (h : Q (.int a.natAbs) H) : rAbs [.int a] H Q := ⟨a, rfl, by
  have e : (if a < 0 then -a else a) = (a.natAbs : Int) := by split <;> omega
  rw [e]; exact h⟩
theorem rd_isC {C a dx : Addr} {fs : List (Str × V)} (e : H a = some (.ins C dx fs)) (h : Q (.bl true) H) : rIsC C [.ref a, .ref C] H Q := ⟨a, dx, fs, rfl, e, h⟩
theorem rd_tupOfL {a : Addr} {xs : List V} (e : H a = some (.lst xs)) (h : ∀ p H', H p = none → Same H H' → H' p = some (.tup xs) → H' = upd H p (.tup xs) → Q (.ref p) H') : rTupOf K [.ref a] H Q :=
  ⟨a, xs, rfl, .inl ⟨SqL.of e, fun p hp => h p _ hp (Same.new (Same.refl H) hp) upd_same rfl⟩⟩
theorem rd_tupOfT {a : Addr} {xs : List V} (e : H a = some (.tup xs)) (h : Q (.ref a) H) : rTupOf K [.ref a] H Q := ⟨a, xs, rfl, .inr ⟨SqT.of e, h⟩⟩
theorem rd_fld0 {f : Str} (h : te σ H fun x H1 => rFld K f x H1 Q) : tFld K te f σ H Q := h
theorem rd_fld {a C dx : Addr} {fs : List (Str × V)} {f : Str} (e : H a = some (.ins C dx fs)) (c : Cls K C) (n : NoAttr K C f) (l : fs.lookup f = some v) (h : Q v H) : rFld K f (.ref a) H Q :=
  ⟨a, C, dx, fs, v, rfl, e, c, n, l, h⟩
theorem rd_sum {a : Addr} {ns : List Int} (e : SqL K H a (ns.map V.int)) (h : Q (.int ns.sum) H) : rSum K [.ref a] H Q := ⟨a, ns, rfl, e, h⟩
theorem rd_sl0 {r : V → Option Int → Option Int → Hp → VK → Prop} {tl th : TO} (h : te σ H fun x H1 => tl σ H1 fun l H2 => th σ H2 fun u H3 => r x l u H3 Q) : tSl r te tl th σ H Q := h
theorem rd_noP {QO : Option Int → Hp → Prop} (h : QO none H) : tNoPart σ H QO := h
theorem rd_part {QO : Option Int → Hp → Prop} (h : te σ H fun x H1 => ∃ i, x = .int i ∧ QO (some i) H1) : tPart te σ H QO := h
theorem rd_part2 {R : Int → Prop} {j : Int} (h : R j) : ∃ i, V.int j = .int i ∧ R i := ⟨j, rfl, h⟩
theorem rd_slL {a : Addr} {xs : List V} {lo hi : Option Int} (e : SqL K H a xs) (h : ∀ p H', H p = none → Same H H' → H' p = some (.lst (cutV xs lo hi)) → H' = upd H p (.lst (cutV xs lo hi)) → Q (.ref p) H') : rSlL K (.ref a) lo hi H Q :=
  ⟨a, xs, rfl, e, fun p hp => h p _ hp (Same.new (Same.refl H) hp) upd_same rfl⟩
theorem cut_whole {xs : List V} {lo hi : Option Int} (h : HT.sIx xs.length 0 lo = 0 ∧ HT.sIx xs.length xs.length hi = xs.length) : cutV xs lo hi = xs := by
  unfold cutV
  rw [h.1, h.2]
  simp
theorem rd_slA {a : Addr} {xs : List V} {lo hi : Option Int} (e : H a = some (.tup xs)) (h : ∀ p H', Same H H' → H' p = some (.tup (cutV xs lo hi)) → Q (.ref p) H') : rSlA K (.ref a) lo hi H Q :=
  ⟨a, xs, rfl, SqT.of e, fun c => h a H (Same.refl H) (by rw [cut_whole c]; exact e), fun _ p hp => h p _ (Same.new (Same.refl H) hp) upd_same⟩
theorem rd_cat {a b : Addr} {xs ys : List V} (e1 : H a = some (.lst xs)) (e2 : H b = some (.lst ys)) (l : xs.length + ys.length ≤ 100000) (h : ∀ p H', H p = none → Same H H' → H' p = some (.lst (xs ++ ys)) → H' = upd H p (.lst (xs ++ ys)) → Q (.ref p) H') : rCat (.ref a) (.ref b) H Q :=
  ⟨a, b, xs, ys, rfl, rfl, e1, e2, Nat.le_trans l (by decide), fun p hp => h p _ hp (Same.new (Same.refl H) hp) upd_same rfl⟩
theorem rd_eqD {d e : PyData} (h1 : Dt H x d) (h2 : Dt H y e) (s1 : SeqAt.shaped d = true) (s2 : SeqAt.shaped e = true) (h : Q (.bl (PyData.eqv d e)) H) : rEqD K x y H Q := ⟨d, e, h1.dp, h2.dp, s1, s2, h⟩
theorem rd_neD {d e : PyData} (h1 : Dt H x d) (h2 : Dt H y e) (s1 : SeqAt.shaped d = true) (s2 : SeqAt.shaped e = true) (h : Q (.bl (!PyData.eqv d e)) H) : rNeD K x y H Q := ⟨d, e, h1.dp, h2.dp, s1, s2, h⟩
theorem rd_ownI {C a dx : Addr} {fs : List (Str × V)} {sp : Sp} {dvs : List V} (e : H a = some (.ins C dx fs)) (h : sp (.ref a :: ([y] ++ dvs)) H Q C8.E0) : rOwnI C sp dvs (.ref a) y H Q := ⟨a, dx, fs, rfl, e, h⟩
theorem rd_meth0 {C : Addr} {m : Str} {sp : Sp} {dvs : List V} {t : TA} (h : ta σ H fun x H1 => ∃ a dx fs, x = .ref a ∧ H1 a = some (.ins C dx fs) ∧ fs.lookup m = none ∧ t σ H1 fun vs H2 => sp (x :: (vs ++ dvs)) H2 Q E) : tMeth C m sp dvs E ta t σ H Q := h
theorem rd_star {t : TA} (h : te σ H fun x H1 => ∃ p xs, x = V.ref p ∧ (SqT K H1 p xs ∨ SqL K H1 p xs) ∧ t σ H1 fun ys H2 => QL (xs ++ ys) H2) : tStar K te t σ H QL := h
theorem rd_ixL {a : Addr} {xs : List V} {j : Int} (e : H a = some (.lst xs)) (n : atI xs j = some v) (h : Q v H) : rIxL K (.ref a) (.int j) H Q := ⟨a, xs, j, v, rfl, rfl, SqL.of e, n, h⟩
theorem rd_ixT {a : Addr} {xs : List V} {j : Int} (e : H a = some (.tup xs)) (n : atI xs j = some v) (h : Q v H) : rIxT K (.ref a) (.int j) H Q := ⟨a, xs, j, v, rfl, rfl, SqT.of e, n, h⟩
theorem rd_lst {t : TA} (h : t σ H fun xs H1 => rNewL Q xs H1) : tLst t σ H Q := h
theorem rd_tup {t : TA} (h : t σ H fun xs H1 => rNewT Q xs H1) : tTup t σ H Q := h
/-- a new object: its heap by a name -/
theorem rd_newL {xs : List V} (l : xs.length ≤ 100000) (h : ∀ p H', H p = none → Same H H' → H' p = some (.lst xs) → H' = upd H p (.lst xs) → Q (.ref p) H') : rNewL Q xs H :=
  ⟨Nat.le_trans l (by decide), fun p hp => h p _ hp (Same.new (Same.refl H) hp) upd_same rfl⟩
theorem rd_newT {xs : List V} (l : xs.length ≤ 100000) (h : ∀ p H', H p = none → Same H H' → H' p = some (.tup xs) → H' = upd H p (.tup xs) → Q (.ref p) H') : rNewT Q xs H :=
  ⟨Nat.le_trans l (by decide), fun p hp => h p _ hp (Same.new (Same.refl H) hp) upd_same rfl⟩
theorem rd_app {a : Addr} {xs : List V} (e : H a = some (.lst xs)) (l : xs.length < 100000) (h : ∀ H', H' = upd H a (.lst (xs ++ [y])) → H' a = some (.lst (xs ++ [y])) → Q .non H') : rAppend (.ref a) [y] H Q :=
  ⟨a, xs, y, rfl, rfl, e, Nat.lt_trans l (by decide), h _ rfl upd_same⟩
theorem rd_bm {r : V → List V → Hp → VK → Prop} {t : TA} (h : ta σ H fun x H1 => tyV K "list" x H1 ∧ t σ H1 fun xs H2 => r x xs H2 Q) : tBM K "list" r ta t σ H Q := h
theorem rd_tyL {a : Addr} {xs : List V} {R : Prop} (e : H a = some (.lst xs)) (h : R) : tyV K "list" (.ref a) H ∧ R := ⟨.inl ⟨rfl, xs, SqL.of e⟩, h⟩
theorem rd_ite {p : Prop} [Decidable p] {A B : Prop} (h1 : p → A) (h2 : ¬ p → B) : if decide p = true then A else B := by
  by_cases c : p
  · rw [if_pos (decide_eq_true c)]; exact h1 c
  · rw [if_neg (by rw [decide_eq_false c]; exact Bool.false_ne_true)]; exact h2 c
theorem rd_iteT {p : Prop} [Decidable p] {A B : Prop} (c : p) (h1 : A) : if decide p = true then A else B := by rw [if_pos (decide_eq_true c)]; exact h1
theorem rd_iteF {p : Prop} [Decidable p] {A B : Prop} (c : ¬ p) (h1 : B) : if decide p = true then A else B := by rw [if_neg (by rw [decide_eq_false c]; exact Bool.false_ne_true)]; exact h1
theorem rd_iteN {p : Prop} [Decidable p] {A B : Prop} (h1 : ¬ p → A) (h2 : p → B) : if (!decide p) = true then A else B := by
  by_cases c : p
  · rw [if_neg (by rw [decide_eq_true c]; decide)]; exact h2 c
  · rw [if_pos (by rw [decide_eq_false c]; rfl)]; exact h1 c
theorem rd_iteNT {p : Prop} [Decidable p] {A B : Prop} (c : ¬ p) (h1 : A) : if (!decide p) = true then A else B := by rw [if_pos (by rw [decide_eq_false c]; rfl)]; exact h1
theorem rd_iteNF {p : Prop} [Decidable p] {A B : Prop} (c : p) (h1 : B) : if (!decide p) = true then A else B := by rw [if_neg (by rw [decide_eq_true c]; decide)]; exact h1
theorem rd_iteTT {A B : Prop} (h : A) : if true = true then A else B := by rw [if_pos rfl]; exact h
theorem rd_iteFF {A B : Prop} (h : B) : if false = true then A else B := by rw [if_neg Bool.false_ne_true]; exact h
theorem rd_iteNTT {A B : Prop} (h : B) : if (!true) = true then A else B := h
theorem rd_iteNFF {A B : Prop} (h : A) : if (!false) = true then A else B := h
end
end Sl
set_option Elab.async false
set_option linter.all false
set_option maxRecDepth 100000
set_option maxHeartbeats 4000000
namespace Sl
open PySem L2 C8 StX
def rMake (C : Addr) (sp : Sp) (dvs : List V) (E : XK) (Q : VK) (vs : List V) (H1 : Hp) : Prop := ∀ x dx, H1 x = none → H1 dx = none → dx ≠ x →
  sp (.ref x :: (vs ++ dvs)) (upd (upd H1 dx (.own x)) x (.ins C dx [])) (fun v H2 => v = .non ∧ Q (.ref x) H2) E
def rDrawN (Q : VK) (xs : List V) (H1 : Hp) : Prop := ∃ sc i, xs = [.ref sc, .int i] ∧ ∀ p, H1 p = none → Q (.ref p) (upd H1 p (DrawO p sc))
section
variable {σ : L2.St} {H H1 : Hp} {wi : TI} {g : TG} {tb : TS} {ta : TA} {te : TE} {tt : TT} {c : TT} {nx bk ct : L2.St → Hp → Prop} {rt : VK} {R : It → Hp → Prop} {K : PySem.W.Frag} {Q : VK} {vs : List Nat} {D : Ends}
def ForR (J : It) (g : TG) (tb : TS) (D : Ends) (σ : L2.St) (H1 : Hp) : Prop := ∃ W : Nat → Nat → L2.St → Hp → Prop, (∃ m, W 0 m σ H1) ∧ ∀ i m σ H, W i m σ H →
  (J.stop i H ∧ D.nx σ H) ∨ (J.go i H ∧ ∃ N : L2.St → Hp → Prop, (∀ σ' H', N σ' H' → ∃ m', m' < m ∧ W (i + 1) m' σ' H') ∧ ∀ x H', J.yld i H x H' → g x σ H' fun σ2 H2 => tb { D with nx := N, ct := N, bk := D.nx } σ2 H2)
theorem rd_for (h : wi σ H fun J H1 => ForR J g tb D σ H1) : tFor wi g tb D σ H := h
/-- n turns -/
theorem forR_gen (J : It) (n : Nat) (Pv : Nat → L2.St → Hp → Prop) (h0 : Pv 0 σ H) (hg : ∀ i σ H, i < n → Pv i σ H → J.go i H) (he : ∀ σ H, Pv n σ H → J.stop n H)
    (hs : ∀ i σ H x H', i < n → Pv i σ H → J.yld i H x H' → g x σ H' fun σ2 H2 => tb ⟨Pv (i + 1), rt, nx, Pv (i + 1)⟩ σ2 H2) (hd : ∀ σ H, Pv n σ H → nx σ H) : ForR J g tb ⟨nx, rt, bk, ct⟩ σ H := by
  refine ⟨fun i m σ H => m = n - i ∧ i ≤ n ∧ Pv i σ H, ⟨n, by simp, Nat.zero_le _, h0⟩, ?_⟩
  rintro i m σ H ⟨rfl, hi, p⟩
  by_cases hlt : i < n
  · exact .inr ⟨hg i σ H hlt p, Pv (i + 1), fun σ' H' p' => ⟨n - (i + 1), by omega, rfl, hlt, p'⟩, fun x H' y => hs i σ H x H' hlt p y⟩
  · obtain rfl : i = n := by omega
    exact .inl ⟨he σ H p, hd σ H p⟩
theorem forR_rng {lo : Int} {n : Nat} (Pv : Nat → L2.St → Hp → Prop) (h0 : Pv 0 σ H) (hs : ∀ i σ H, i < n → Pv i σ H → g (.int (lo + i)) σ H fun σ2 H2 => tb ⟨Pv (i + 1), rt, nx, Pv (i + 1)⟩ σ2 H2) (hd : ∀ σ H, Pv n σ H → nx σ H) :
    ForR (Itr lo n) g tb ⟨nx, rt, bk, ct⟩ σ H := forR_gen _ n Pv h0 (fun i _ _ h _ => h) (fun _ _ _ => Nat.le_refl _) (fun i σ H x H' hi p ⟨e1, e2⟩ => by subst e1; subst e2; exact hs i σ _ hi p) hd
theorem forR_rngC {lo c : Int} {n : Nat} (Pv : Nat → L2.St → Hp → Prop) (h0 : Pv 0 σ H) (hs : ∀ (i : Nat) σ H, i < n → Pv i σ H → g (.int (lo + (i : Nat) * c)) σ H fun σ2 H2 => tb ⟨Pv (i + 1), rt, nx, Pv (i + 1)⟩ σ2 H2) (hd : ∀ σ H, Pv n σ H → nx σ H) :
    ForR (Itc lo c n) g tb ⟨nx, rt, bk, ct⟩ σ H := forR_gen _ n Pv h0 (fun i _ _ h _ => h) (fun _ _ _ => Nat.le_refl _) (fun i σ H x H' hi p ⟨e1, e2⟩ => by subst e1; subst e2; exact hs i σ _ hi p) hd
theorem forR_lst {a : Addr} {xs : List V} (Pv : Nat → L2.St → Hp → Prop) (hl : ∀ i σ H, Pv i σ H → SqL K H a xs) (h0 : Pv 0 σ H) (hs : ∀ i x σ H, xs[i]? = some x → Pv i σ H → g x σ H fun σ2 H2 => tb ⟨Pv (i + 1), rt, nx, Pv (i + 1)⟩ σ2 H2) (hd : ∀ σ H, Pv xs.length σ H → nx σ H) :
    ForR (Itl K a) g tb ⟨nx, rt, bk, ct⟩ σ H := forR_gen _ xs.length Pv h0 (fun i σ H h p => ⟨xs, xs[i], hl i σ H p, by simp [h]⟩) (fun σ H p => ⟨xs, hl _ σ H p, Nat.le_refl _⟩)
      (fun i σ H x H' hi p ⟨e1, e2⟩ => by subst e1; exact hs i x σ _ (e2 xs (hl i σ _ p)) p) hd
theorem forR_tup {a : Addr} {xs : List V} (Pv : Nat → L2.St → Hp → Prop) (hl : ∀ i σ H, Pv i σ H → SqT K H a xs) (h0 : Pv 0 σ H) (hs : ∀ i x σ H, xs[i]? = some x → Pv i σ H → g x σ H fun σ2 H2 => tb ⟨Pv (i + 1), rt, nx, Pv (i + 1)⟩ σ2 H2) (hd : ∀ σ H, Pv xs.length σ H → nx σ H) :
    ForR (Itt K a) g tb ⟨nx, rt, bk, ct⟩ σ H := forR_gen _ xs.length Pv h0 (fun i σ H h p => ⟨xs, xs[i], hl i σ H p, by simp [h]⟩) (fun σ H p => ⟨xs, hl _ σ H p, Nat.le_refl _⟩)
      (fun i σ H x H' hi p ⟨e1, e2⟩ => by subst e1; exact hs i x σ _ (e2 xs (hl i σ _ p)) p) hd
/-- the pair is a new tuple at t -/
theorem forR_enum {a : Addr} {xs : List V} (Pv : Nat → L2.St → Hp → Prop) (hl : ∀ i σ H, Pv i σ H → SqL K H a xs) (h0 : Pv 0 σ H)
    (hs : ∀ (i : Nat) x σ H t H', xs[i]? = some x → Pv i σ H → H t = none → Same H H' → H' t = some (.tup [.int (i : Nat), x]) → H' = upd H t (.tup [.int (i : Nat), x]) → g (.ref t) σ H' fun σ2 H2 => tb ⟨Pv (i + 1), rt, nx, Pv (i + 1)⟩ σ2 H2) (hd : ∀ σ H, Pv xs.length σ H → nx σ H) :
    ForR (Ite K a) g tb ⟨nx, rt, bk, ct⟩ σ H := forR_gen _ xs.length Pv h0 (fun i σ H h p => ⟨xs, xs[i], hl i σ H p, by simp [h]⟩) (fun σ H p => ⟨xs, hl _ σ H p, Nat.le_refl _⟩)
      (fun i σ H x H' hi p ⟨t, y, e1, e2, e3, e4⟩ => by subst e1; subst e3; exact hs i y σ H t _ (e4 xs (hl i σ _ p)) p e2 (Same.new (Same.refl H) e2) upd_same rfl) hd
/-! ### what is walked -/
def rgR1 (R : It → Hp → Prop) (vs : List V) (H : Hp) : Prop := ∃ j : Int, vs = [.int j] ∧ -(2 ^ 62) ≤ j ∧ j < 2 ^ 62 ∧ R (Itr 0 j.toNat) H
theorem rd_rng1 (h : ta σ H fun vs H1 => rgR1 R vs H1) : iRng1 ta σ H R := h
theorem rd_rgR1 {j : Int} (h0 : -(2 ^ 62) ≤ j) (h1 : j < 2 ^ 62) (h : R (Itr 0 j.toNat) H) : rgR1 R [.int j] H := ⟨j, rfl, h0, h1, h⟩
def rgR2 (R : It → Hp → Prop) (vs : List V) (H : Hp) : Prop := ∃ i j : Int, vs = [.int i, .int j] ∧ (-(2 ^ 62) ≤ i ∧ i < 2 ^ 62 ∧ -(2 ^ 62) ≤ j ∧ j < 2 ^ 62) ∧ R (Itr i (j - i).toNat) H
theorem rd_rng2 (h : ta σ H fun vs H1 => rgR2 R vs H1) : iRng2 ta σ H R := h
theorem rd_rgR2 {i j : Int} (h0 : -(2 ^ 62) ≤ i ∧ i < 2 ^ 62 ∧ -(2 ^ 62) ≤ j ∧ j < 2 ^ 62) (h : R (Itr i (j - i).toNat) H) : rgR2 R [.int i, .int j] H := ⟨i, j, rfl, h0, h⟩
def rgR3 (R : It → Hp → Prop) (vs : List V) (H : Hp) : Prop := ∃ (i j c : Int) (n : Nat), vs = [.int i, .int j, .int c] ∧ RgC i j c n ∧ R (Itc i c n) H
theorem rd_rng3 (h : ta σ H fun vs H1 => rgR3 R vs H1) : iRng3 ta σ H R := h
theorem rd_rgDn {i j : Int} (h0 : -(2 ^ 62) ≤ i ∧ i < 2 ^ 62 ∧ -(2 ^ 62) ≤ j ∧ j < 2 ^ 62) (h : R (Itc i (-1) (i - j).toNat) H) : rgR3 R [.int i, .int j, .int (-1)] H := ⟨i, j, -1, _, rfl, RgC.neg h0.1 h0.2.1 h0.2.2.1 h0.2.2.2, h⟩
def lsR (K : PySem.W.Frag) (R : It → Hp → Prop) (x : V) (H : Hp) : Prop := ∃ a, x = .ref a ∧ (∃ xs, SqL K H a xs) ∧ R (Itl K a) H
theorem rd_iList (h : te σ H fun x H1 => lsR K R x H1) : iList K te σ H R := h
theorem rd_lsR {a : Addr} {xs : List V} (e : SqL K H a xs) (h : R (Itl K a) H) : lsR K R (.ref a) H := ⟨a, rfl, ⟨xs, e⟩, h⟩
def tpR (K : PySem.W.Frag) (R : It → Hp → Prop) (x : V) (H : Hp) : Prop := ∃ a, x = .ref a ∧ (∃ xs, SqT K H a xs) ∧ R (Itt K a) H
theorem rd_iTup (h : te σ H fun x H1 => tpR K R x H1) : iTup K te σ H R := h
theorem rd_tpR {a : Addr} {xs : List V} (e : SqT K H a xs) (h : R (Itt K a) H) : tpR K R (.ref a) H := ⟨a, rfl, ⟨xs, e⟩, h⟩
def enR (K : PySem.W.Frag) (R : It → Hp → Prop) (vs : List V) (H : Hp) : Prop := ∃ a xs, vs = [.ref a] ∧ SqL K H a xs ∧ R (Ite K a) H
theorem rd_iEnum (h : ta σ H fun vs H1 => enR K R vs H1) : iEnum K ta σ H R := h
theorem rd_enR {a : Addr} {xs : List V} (e : SqL K H a xs) (h : R (Ite K a) H) : enR K R [.ref a] H := ⟨a, xs, rfl, e, h⟩
/-! ### while -/
def WhN (m : Nat) (W : Nat → L2.St → Hp → Prop) (tb : TS) (rt : VK) (nx : L2.St → Hp → Prop) (σ : L2.St) (H1 : Hp) : Prop := ∃ N : L2.St → Hp → Prop, (∀ σ' H', N σ' H' → ∃ m', m' < m ∧ W m' σ' H') ∧ tb ⟨N, rt, nx, N⟩ σ H1
theorem rd_whN {m : Nat} {W : Nat → L2.St → Hp → Prop} (h : tb ⟨fun σ' H' => ∃ m', m' < m ∧ W m' σ' H', rt, nx, fun σ' H' => ∃ m', m' < m ∧ W m' σ' H'⟩ σ H) : WhN m W tb rt nx σ H := ⟨_, fun _ _ q => q, h⟩
theorem rd_while (W : Nat → L2.St → Hp → Prop) (m0 : Nat) (h0 : W m0 σ H) (hs : ∀ m σ H, W m σ H → c σ H fun b H1 => if b = true then WhN m W tb rt nx σ H1 else nx σ H1) :
    tWhile c tb ⟨nx, rt, bk, ct⟩ σ H := ⟨W, ⟨m0, h0⟩, hs⟩
/-! ### a new instance -/
theorem rd_make0 {C : Addr} {sp : Sp} {dvs : List V} {E : XK} {t : TA} (h : t σ H fun vs H1 => rMake C sp dvs E Q vs H1) : tMake C sp dvs E t σ H Q := h
theorem rd_make {C : Addr} {sp : Sp} {dvs : List V} {E : XK} {ws : List V} (h : ∀ x dx H2, Same H H2 → H x = none → H2 x = some (.ins C dx []) → sp (.ref x :: (ws ++ dvs)) H2 (fun v H3 => v = .non ∧ Q (.ref x) H3) E) : rMake C sp dvs E Q ws H :=
  fun x dx hx hdx hne => h x dx _ (fun b o e => by rw [upd_ne (ne_of_none e hx), upd_ne (ne_of_none e hdx)]; exact e) hx upd_same
/-! ### draws -/
theorem rd_augS {to ti te : TE} {tget : V → V → Hp → VK → Prop} {tip : TIp} {tset : TSet} (h : to σ H fun o H1 => ti σ H1 fun i H2 => tget o i H2 fun x H3 => te σ H3 fun y H4 => tip x y H4 fun z H5 => tset o i z H5 fun H6 => nx σ H6) : tAugS to ti te tget tip tset ⟨nx, rt, bk, ct⟩ σ H := h
theorem rd_draw0 {a sc : Addr} (e : H a = some (DrawO a sc)) (h : Q (.ref sc) H) : rDraw0 (.ref a) (.int 0) H Q := ⟨a, sc, rfl, rfl, e, h⟩
theorem rd_draw1 {a sc : Addr} (e : H a = some (DrawO a sc)) (h : ∀ i : Int, Q (.int i) H) : rDraw1 (.ref a) (.int 1) H Q := ⟨a, sc, rfl, rfl, e, h⟩
theorem rd_setDraw1 {a sc : Addr} {j : Int} {QH : Hp → Prop} (e : H a = some (DrawO a sc)) (h : QH H) : sDraw1 (.ref a) (.int 1) (.int j) H QH := ⟨a, sc, j, rfl, rfl, rfl, e, h⟩
theorem rd_drawNew {t : TA} (h : t σ H fun xs H1 => rDrawN Q xs H1) : tDraw t σ H Q := h
theorem rd_drawN {sc : Addr} {j : Int} (h : ∀ p H', H p = none → Same H H' → H' p = some (DrawO p sc) → Q (.ref p) H') : rDrawN Q [.ref sc, .int j] H := ⟨sc, j, rfl, fun p hp => h p _ hp (Same.new (Same.refl H) hp) upd_same⟩
/-! ### comprehensions -/
theorem rd_yes {QB : Bool → Hp → Prop} (h : QB true H) : tYes σ H QB := h
def LcR (J : It) (g : TG) (tt : TT) (te : TE) (vs : List Nat) (σ : L2.St) (H1 : Hp) (Q : VK) : Prop := ∀ D, H1 D = none → ∃ W : Nat → Nat → Hp → Prop, (∃ m, W 0 m (upd H1 D (.lst []))) ∧ ∀ i m H, W i m H →
  (J.stop i H ∧ Q (.ref D) H) ∨ (J.go i H ∧ ∃ Nx : Hp → Prop, (∀ H', Nx H' → ∃ m', m' < m ∧ W (i + 1) m' H') ∧ ∀ x H', J.yld i H x H' → g x (wipe σ vs) H' fun σ2 H2 => wipe σ2 vs = wipe σ vs ∧ tt σ2 H2 fun b H3 =>
    if b = true then te σ2 H3 fun y H4 => ∃ acc, H4 D = some (.lst acc) ∧ acc.length < sizeLine ∧ Nx (upd H4 D (.lst (acc ++ [y]))) else Nx H3)
theorem rd_lc (h : wi σ H fun J H1 => LcR J g tt te vs σ H1 Q) : tLc wi g tt te vs σ H Q := h
/-- what a comprehension does with an element -/
def LcE (D : Addr) (Nx : Hp → Prop) (y : V) (H4 : Hp) : Prop := ∃ acc, H4 D = some (.lst acc) ∧ acc.length < sizeLine ∧ Nx (upd H4 D (.lst (acc ++ [y])))
theorem rd_lcE {D : Addr} {Nx : Hp → Prop} {y : V} {acc : List V} (e : H D = some (.lst acc)) (l : acc.length < 100000) (h : ∀ H', H' = upd H D (.lst (acc ++ [y])) → H' D = some (.lst (acc ++ [y])) → Nx H') : LcE D Nx y H := ⟨acc, e, Nat.lt_trans l (by decide), h _ rfl upd_same⟩
theorem lcR_gen (J : It) (n : Nat) (Pv : Addr → Nat → Hp → Prop) (h0 : ∀ D H', H D = none → Same H H' → H' D = some (.lst []) → H' = upd H D (.lst []) → Pv D 0 H') (hg : ∀ D i H', H D = none → i < n → Pv D i H' → J.go i H') (he : ∀ D H', H D = none → Pv D n H' → J.stop n H')
    (hs : ∀ D i H' x H2, H D = none → i < n → Pv D i H' → J.yld i H' x H2 → g x (wipe σ vs) H2 fun σ2 H2 => wipe σ2 vs = wipe σ vs ∧ tt σ2 H2 fun b H3 => if b = true then te σ2 H3 fun y H4 => LcE D (Pv D (i + 1)) y H4 else Pv D (i + 1) H3)
    (hd : ∀ D H', H D = none → Pv D n H' → Q (.ref D) H') : LcR J g tt te vs σ H Q := by
  intro D hD
  refine ⟨fun i m H => m = n - i ∧ i ≤ n ∧ Pv D i H, ⟨n, by simp, Nat.zero_le _, h0 D _ hD (Same.new (Same.refl H) hD) upd_same rfl⟩, ?_⟩
  rintro i m H' ⟨rfl, hi, p⟩
  by_cases hlt : i < n
  · exact .inr ⟨hg D i H' hD hlt p, Pv D (i + 1), fun H2 p' => ⟨n - (i + 1), by omega, rfl, hlt, p'⟩, fun x H2 y => hs D i H' x H2 hD hlt p y⟩
  · obtain rfl : i = n := by omega
    exact .inl ⟨he D H' hD p, hd D H' hD p⟩
theorem lcR_rng {lo : Int} {n : Nat} (Pv : Addr → Nat → Hp → Prop) (h0 : ∀ D H', H D = none → Same H H' → H' D = some (.lst []) → H' = upd H D (.lst []) → Pv D 0 H')
    (hs : ∀ D i H', H D = none → i < n → Pv D i H' → g (.int (lo + i)) (wipe σ vs) H' fun σ2 H2 => wipe σ2 vs = wipe σ vs ∧ tt σ2 H2 fun b H3 => if b = true then te σ2 H3 fun y H4 => LcE D (Pv D (i + 1)) y H4 else Pv D (i + 1) H3)
    (hd : ∀ D H', H D = none → Pv D n H' → Q (.ref D) H') : LcR (Itr lo n) g tt te vs σ H Q :=
  lcR_gen _ n Pv h0 (fun _ i _ _ h _ => h) (fun _ _ _ _ => Nat.le_refl _) (fun D i H x H' hD hi p ⟨e1, e2⟩ => by subst e1; subst e2; exact hs D i _ hD hi p) hd
theorem lcR_lst {a : Addr} {xs : List V} (Pv : Addr → Nat → Hp → Prop) (hl : ∀ D i H', H D = none → Pv D i H' → SqL K H' a xs) (h0 : ∀ D H', H D = none → Same H H' → H' D = some (.lst []) → H' = upd H D (.lst []) → Pv D 0 H')
    (hs : ∀ D i x H', H D = none → xs[i]? = some x → Pv D i H' → g x (wipe σ vs) H' fun σ2 H2 => wipe σ2 vs = wipe σ vs ∧ tt σ2 H2 fun b H3 => if b = true then te σ2 H3 fun y H4 => LcE D (Pv D (i + 1)) y H4 else Pv D (i + 1) H3)
    (hd : ∀ D H', H D = none → Pv D xs.length H' → Q (.ref D) H') : LcR (Itl K a) g tt te vs σ H Q :=
  lcR_gen _ xs.length Pv h0 (fun D i H' hD h p => ⟨xs, xs[i], hl D i H' hD p, by simp [h]⟩) (fun D H' hD p => ⟨xs, hl D _ H' hD p, Nat.le_refl _⟩)
    (fun D i H' x H2 hD hi p ⟨e1, e2⟩ => by subst e1; exact hs D i x _ hD (e2 xs (hl D i _ hD p)) p) hd
theorem lcR_enum {a : Addr} {xs : List V} (Pv : Addr → Nat → Hp → Prop) (hl : ∀ D i H', H D = none → Pv D i H' → SqL K H' a xs) (h0 : ∀ D H', H D = none → Same H H' → H' D = some (.lst []) → H' = upd H D (.lst []) → Pv D 0 H')
    (hs : ∀ D (i : Nat) x H' t H2, H D = none → xs[i]? = some x → Pv D i H' → H' t = none → Same H' H2 → H2 t = some (.tup [.int (i : Nat), x]) → H2 = upd H' t (.tup [.int (i : Nat), x]) → g (.ref t) (wipe σ vs) H2 fun σ2 H2 => wipe σ2 vs = wipe σ vs ∧ tt σ2 H2 fun b H3 => if b = true then te σ2 H3 fun y H4 => LcE D (Pv D (i + 1)) y H4 else Pv D (i + 1) H3)
    (hd : ∀ D H', H D = none → Pv D xs.length H' → Q (.ref D) H') : LcR (Ite K a) g tt te vs σ H Q :=
  lcR_gen _ xs.length Pv h0 (fun D i H' hD h p => ⟨xs, xs[i], hl D i H' hD p, by simp [h]⟩) (fun D H' hD p => ⟨xs, hl D _ H' hD p, Nat.le_refl _⟩)
    (fun D i H' x H2 hD hi p ⟨t, y, e1, e2, e3, e4⟩ => by subst e1; subst e3; exact hs D i y H' t _ hD (e4 xs (hl D i _ hD p)) p e2 (Same.new (Same.refl H') e2) upd_same rfl) hd
end
end Sl
set_option Elab.async false
set_option linter.all false
set_option maxRecDepth 100000
set_option maxHeartbeats 4000000
namespace L2
open PySem PySem.Spec PyProof.Rows
/-! ### defs that raise: a promise for the refused arguments -/
section
variable {X : Cx} {CX : CXT} {k j : Nat} {f C : Addr} {fd : FuncData} {ps : List Str} {ds : List Value} {dvs : List V} {sp : Sp} {E : St → XK} {x m : Str} {p pos apos : Pos} {e o : Expr} {es : List Expr} {ta : TE} {t : TA}
theorem run_fnSd {pins : List (Addr × Obj)} {σ : St} {H : Hp} {s : Shared} {Q : VK} {us : List Value} {vs : List V} (F : FnOk X.prog X.w X.K X.mg X.base CX k f fd ps sp) (hr : Room k X.A) (hb : Binds X.K fd ps ds) (hd : Vals dvs ds) (hx : PassesAt CX X σ (E σ))
    (I : Inv X pins σ H s) (r : Vals vs us) (h : sp (vs ++ dvs) H Q (E σ)) : wpAny (model X.prog X.w) X.A (call (.ref f) us) (EP X pins σ Q) X.xe s := by
  have r2 : Vals (vs ++ dvs) (us ++ ds) := r.append hd
  have hl : (us ++ ds).length = ps.length := by rw [← r2.length]; exact F.len _ _ _ _ h
  refine wpAny_call (codeAny_mono (F.run X.A X.stack s H ⟨us, []⟩ (us ++ ds) (vs ++ dvs) Q (E σ) hr I.env0 (hb s us I.kIn hl) r2 h) fun r s' hq => ?_)
  cases r with
  | error e => exact hx pins H s e s' I hq
  | ok fl =>
    cases fl with
    | ret u => exact I.after hq
    | next => exact False.elim hq
    | brk => exact False.elim hq
    | cont => exact False.elim hq
def tCallSd (sp : Sp) (dvs : List V) (E : St → XK) (t : TA) : TE := fun σ H Q => t σ H fun vs H1 => sp (vs ++ dvs) H1 Q (E σ)
/-- a def called by its name that may raise -/
structure CalX (P : Program) (w : World) (K : PySem.W.Frag) (mg : Str → Option Value) (base : Heap) (k : Nat) (x : Str) (sp : Sp) (dvs : List V) : Prop where
  ex : ∃ (f : Addr) (fd : FuncData) (ps : List Str) (ds : List Value), FnOk P w K mg base (L2.CX P w) k f fd ps sp ∧ mg x = some (.ref f) ∧ PySem.W.keepIn K (.ref f) = true ∧ Binds K fd ps ds ∧ Vals dvs ds
theorem pe_cX (c : CalX X.prog X.w X.K X.mg X.base k x sp dvs) (hr : Room j X.A) (hk : k ≤ j) (hg : Gl X x) (hx : ∀ σ, PassesAt (L2.CX X.prog X.w) X σ (E σ)) (ha : PA X (e :: es) t)
    (hdb : (x == ("__debug__" : Str)) = false := by decide) (he : starEach (e :: es) X.env = (false, eval e X.env) :: starEach es X.env := by rfl) (hpl : (backTo pos (starEach es X.env)).any (·.1) = false := by rfl) :
    PE X (.Call (.Name x p) (e :: es) [] pos) (tCallSd sp dvs E t) := by
  obtain ⟨f, fd, ps, ds, F, hm, kp, b, d⟩ := c.ex
  refine ⟨fun pins s σ H Q I h => ?_⟩
  refine wpAny_Call_Name_kw (ld_glob I hg hm ?_ hdb)
  refine PySem.W.callWith_K (h₀ := X.base) I.ok.mod.kin kp (thn (ha.run pos pins s σ H _ I h) fun us s1 ⟨vs, H1, I1, r, q⟩ => ⟨I1.kIn, ?_⟩) he hpl
  exact run_fnSd F (hr.mono hk) b d (hx σ) I1 r q
/-- around a body nothing is let out -/
theorem takesN {X : Cx} : Takes X (fun _ _ _ _ => False) := fun _ _ x => by
  obtain ⟨_, _, _, _, _, _, _, _, _, _, _, _, _, _, _, _, z⟩ := x
  exact z.elim
/-- a try by its name -/
def tTry (K : PySem.W.Frag) (c : Value) (tb : WX → TS) (ts : Addr → Value → Option Addr → TS) (Wout : WX) : TS := fun D σ H => tb (wOnly K c ts Wout D) D σ H
theorem ps_tryO {x : Str} {c : Value} {body suite : List Stmt} {b₀ : Stmt} {np pos pos' : Pos} {tb : WX → TS} {ts : Addr → Value → Option Addr → TS} {Wout : WX} (hs : X.stack = X.env :: X.outer) (hf : X.env.frame = some X.env.locals) (hc : Names X x c) (tk : Takes X Wout)
    (hb : ∀ (W : WX) (pn : List (Addr × Obj)) (xe : Value → Shared → Prop), Takes (X.tr pn xe) W → PSs (X.tr pn xe) body (tb W))
    (hsu : ∀ (a : Addr) (oe : Obj) (cls : Value) (d : Option Addr) (pn : List (Addr × Obj)), PSs (X.suite a ((a, oe) :: pn)) (b₀ :: suite) (ts a cls d)) :
    PS X (.Try body [.ExceptHandler (some (.Name x np)) none (b₀ :: suite) pos'] [] [] pos) (tTry X.K c tb ts Wout) :=
  ps_try_only hs hf hc tk (fun W pn xe tk _ => hb W pn xe tk) (fun a oe cls d pn _ _ => hsu a oe cls d pn)
end
end L2
namespace C8
open PySem PySem.Spec PyProof.Rows L2
section
variable {P : Program} {w : World} {K : PySem.W.Frag} {mg : Str → Option Value} {base : Heap}
theorem fnX {x qual : Str} {st : Stmt} {f : Addr} {fd : FuncData} {N ps : List Str} {k : Nat} {sp : Sp} (F : Fun K x qual st f fd) (S : FnScope N ps (fnScope st)) (len : ∀ vs H Q E, sp vs H Q E → vs.length = ps.length)
    (hbody : ∀ (cdv : Value) (A : Around) (outer : List Env) (s : Shared) (H : Hp) (vs : List V) (Q : VK) (E : XK), Room k (A.deeper (envOfC qual (fnScope st) s.heap.objs.size f cdv)) → sp vs H Q E →
      ∃ t, PSs (cxOf (L2.CX P w) P w K mg base N qual (fnScope st) f cdv A outer s H E) (fnBody st) t ∧ t { nx := fun _ H' => Q .non H', rt := Q } (start N vs) H) : FnOk P w K mg base (L2.CX P w) (k + 1) f fd ps sp := by
  obtain ⟨oc, od, dV, kV, doc, pm, an, cdv, ct, osl, rfl, lk, hcd⟩ := F.ex
  exact fn_of lk hcd S len fun A outer s H vs Q E hr hsp => hbody cdv A outer s H vs Q E hr hsp
theorem calX0 {x : Str} {st : Stmt} {f : Addr} {fd : FuncData} {N ps : List Str} {ds : List Value} {dvs : List V} {k : Nat} {sp : Sp} (F : Def K mg x st f fd) (b : Binds K fd ps ds) (d : Vals dvs ds) (S : FnScope N ps (fnScope st)) (len : ∀ vs H Q E, sp vs H Q E → vs.length = ps.length)
    (hbody : ∀ (cdv : Value) (A : Around) (outer : List Env) (s : Shared) (H : Hp) (vs : List V) (Q : VK) (E : XK), Room k (A.deeper (envOfC x (fnScope st) s.heap.objs.size f cdv)) → sp vs H Q E →
      ∃ t, PSs (cxOf (L2.CX P w) P w K mg base N x (fnScope st) f cdv A outer s H E) (fnBody st) t ∧ t { nx := fun _ H' => Q .non H', rt := Q } (start N vs) H) : CalX P w K mg base (k + 1) x sp dvs :=
  ⟨f, fd, ps, ds, fnX F.fn S len hbody, F.mgf, F.kp, b, d⟩
end
end C8
namespace Sl
open PySem L2 C8 StX
/-- an error of the class at S is what «except S» names -/
theorem exm_own {K : PySem.W.Frag} {S : Addr} (h1 : PySem.W.subIn K (.ref S) (.type "BaseException") = some true) (h2 : PySem.W.isClsIn K S = true) (h3 : PySem.W.typeIn K (.ref S) = some (.type "type")) (h4 : PySem.W.subIn K (.ref S) (.ref S) = some true) :
    PySem.W.exmOne K (.ref S) (.ref S) = some true := by
  have e1 : (PySem.W.subIn K (.ref S) (.type "BaseException") == some true) = true := by rw [h1] <;> rfl
  have e2 : ((PySem.W.clsIn K S).isSome && PySem.W.typeIn K (.ref S) == some (.type "type")) = true := by
    have h2' : (PySem.W.clsIn K S).isSome = true := h2
    rw [h2', h3] <;> rfl
  show (if (PySem.W.subIn K (.ref S) (.type "BaseException") == some true) = true then (if ((PySem.W.clsIn K S).isSome && PySem.W.typeIn K (.ref S) == some (.type "type")) = true then PySem.W.subIn K (.ref S) (.ref S) else none) else none) = some true
  rw [if_pos e1, if_pos e2]
  exact h4
/-- what is known of an own class of errors without its own __init__ -/
structure XOwn (K : PySem.W.Frag) (C : Addr) : Prop where
  x : PySem.W.excIn K C [.type "ValueError", .type "Exception", .type "BaseException", .type "object"] "ValueError.__new__" = true
  k : PySem.W.keepIn K (.ref C) = true
  b : PySem.W.subIn K (.ref C) (.type "BaseException") = some true
  t : PySem.W.typeIn K (.ref C) = some (.type "type")
  i : PySem.W.isClsIn K C = true
  s : PySem.W.subIn K (.ref C) (.ref C) = some true
theorem XOwn.e {K : PySem.W.Frag} {C : Addr} (T : XOwn K C) : PySem.W.exmOne K (.ref C) (.ref C) = some true := exm_own T.b T.i T.t T.s
section
variable {X : Cx} {x : Str} {np pos : Pos} {C : Addr} {W : WX}
/-- X('m') -/
theorem pmk_x {m : Str} {j : Nat} {p p2 pos : Pos} (T : XOwn X.K C) (gC : X.mg x = some (.ref C)) (hg : Gl X x) (hdb : (x == ("__debug__" : Str)) = false := by decide) : PMk X (.Call (.Name x p) [.Constant (.str m) j p2] [] pos) (fun _ H Q => Q (.ref C) none H) :=
  pmk_own PySem.F.excBase_ValueError T.x gC T.k (raises_own T.b T.t) hg hdb
/-- raise X('m') -/
def tRaise (C : Addr) (W : WX) : TS := fun _ σ H => W (.ref C) none σ H
theorem ps_raiseO {m : Str} {j : Nat} {p p2 pos pos2 : Pos} (hc : X.calm = true) (tk : Takes X W) (T : XOwn X.K C) (gC : X.mg x = some (.ref C)) (hg : Gl X x) (hdb : (x == ("__debug__" : Str)) = false := by decide) :
    PS X (.Raise (some (.Call (.Name x p) [.Constant (.str m) j p2] [] pos)) none pos2) (tRaise C W) := ps_raise hc tk (pmk_x T gC hg hdb)
end
section
variable {σ : L2.St} {H : Hp} {Q : VK} {K : PySem.W.Frag} {C : Addr} {W Wout : WX} {nx bk ct : L2.St → Hp → Prop} {rt : VK} {sp : Sp} {dvs : List V} {E : L2.St → XK} {t : TA} {tb : WX → TS} {ts : Addr → Value → Option Addr → TS} {c cls : Value} {d : Option Addr} {D : Ends} {vs : List V}
theorem rd_raise {E : XK} (h : E (.ref C) none H) : tRaise C (fun cls d _ H => E cls d H) ⟨nx, rt, bk, ct⟩ σ H := h
def rCallSd (sp : Sp) (dvs : List V) (E : XK) (Q : VK) (vs : List V) (H : Hp) : Prop := sp (vs ++ dvs) H Q E
theorem rd_callSd (h : t σ H fun vs H1 => rCallSd sp dvs (E σ) Q vs H1) : tCallSd sp dvs E t σ H Q := h
theorem rd_callSd2 {E : XK} {ws : List V} (h : sp (ws ++ dvs) H Q E) : rCallSd sp dvs E Q ws H := h
theorem rd_try (h : tb (wOnly K c ts Wout D) D σ H) : tTry K c tb ts Wout D σ H := h
theorem rd_caught (he : PySem.W.exmOne K cls c = some true) (h : ∀ a, H a = none → ts a cls d D σ H) : WE (wOnly K c ts Wout D) σ cls d H := ⟨true, he, fun _ => h, fun q => nomatch q⟩
theorem rd_isN0 {x : V} (h : Q (.bl (decide (x = .non))) H) : rIsNn x .non H Q := ⟨rfl, h⟩
theorem rd_notN0 {x : V} (h : Q (.bl (!decide (x = .non))) H) : rNotNn x .non H Q := ⟨rfl, h⟩
theorem rd_maxL {a : Addr} {ns : List Int} {m : Int} (e : SqL K H a (ns.map V.int)) (l : 0 < ns.length) (h : ∀ m, m ∈ ns → (∀ y, y ∈ ns → y ≤ m) → Q (.int m) H) : rMax K [.ref a] H Q := ⟨a, ns, rfl, e, l, h⟩
theorem rd_indexI {a : Addr} {ns : List Int} {y : Int} {j : Nat} (e : SqL K H a (ns.map V.int)) (hj : ns[j]? = some y) (hn : ∀ m z, m < j → ns[m]? = some z → z ≠ y) (h : Q (.int (j : Nat)) H) : rIndex K (.ref a) [.int y] H Q := by
  refine ⟨a, ns.map V.int, .int y, j, .int y, rfl, rfl, e, rfl, ?_, by rw [List.getElem?_map, hj]; rfl, by simp [eqV], ?_, h⟩
  · rw [List.all_eq_true]
    intro x hx
    obtain ⟨n, _, rfl⟩ := List.mem_map.mp hx
    rfl
  · intro m z' hm hz
    rw [List.getElem?_map] at hz
    cases q : ns[m]? with
    | none => rw [q] at hz; cases hz
    | some z =>
      rw [q] at hz
      cases hz
      have := hn m z hm q
      simp [eqV, this]
theorem rd_tyLq {a : Addr} {xs : List V} {R : Prop} (e : SqL K H a xs) (h : R) : tyV K "list" (.ref a) H ∧ R := ⟨.inl ⟨rfl, xs, e⟩, h⟩
end
end Sl
set_option Elab.async false
set_option linter.all false
set_option maxRecDepth 100000
set_option maxHeartbeats 4000000
namespace L2
open PySem PySem.Spec PyProof.Rows
/-! ### min of a list of pairs of ints: the loop of the built-in, the order told by what the heap keeps -/
section
variable {prog : Program} {w : World} {A : Around} {R : Result → Shared → Prop} {J l : Addr} {its : Array Value} {bt : Nat → Nat → Bool} {Kp : Heap → Prop}
/-- what is told of the order: while Kp stands -/
def Ord (prog : Program) (w : World) (A : Around) (its : Array Value) (Kp : Heap → Prop) (bt : Nat → Nat → Bool) : Prop :=
  ∀ i j x y (t : Shared) (Q : Value → Shared → Prop) (E : Value → Shared → Prop), Kp t.heap → its[i]? = some x → its[j]? = some y → Q (.bool (bt i j)) t → wpAny (model prog w) A (richCompare .Lt x y) Q E t
/-- Kp stands while nothing changes but the iterator and the box -/
def Kpt (Kp : Heap → Prop) (J S : Addr) : Prop := ∀ h h' : Heap, Kp h → (∀ b o, b ≠ J → b ≠ S → h.get? b = some o → h'.get? b = some o) → Kp h'
theorem min_turns (hh : A.in1.handled = none) (hlJ : l ≠ J) (O : Ord prog w A.in1 its Kp bt) {S : Addr} (hSJ : S ≠ J) (hSl : S ≠ l) (Z : Kpt Kp J S) :
    ∀ (k j : Nat) (t : Shared) (best : Value) (c : Nat), its.size - (j + 1) = k → j + 1 ≤ its.size → (t.heap.IsListIter J l (j + 1) ∧ t.heap.IsList l its) → Kp t.heap → its[argBest bt j]? = some best →
    t.heap.get? S = some { cls := .type "list", dict := none, data := .seq #[best, best] c, slots := #[] } →
    (∀ v h' tk, its[argBest bt (its.size - 1)]? = some v → (∀ b o, b ≠ J → b ≠ S → t.heap.get? b = some o → h'.get? b = some o) → R (.ok (.ret v)) { t with heap := h', toks := tk }) →
    codeAny (model prog w) A (.builtin "min.loop" ⟨[.ref J, .none, .ref S], []⟩) R t := by
  have Wl := Walks.list (prog := prog) (w := w) (A := A.in1) hh J l hlJ its
  have nm : (toString "min" ++ toString ".loop" : String) = "min.loop" := by decide
  intro k
  induction k with
  | zero =>
    intro j t best c ek ej st kp eb eS back
    refine codeAny_builtin F.entry_min_loop (by
      rw [Around.under_plainId F.plain_min_loop _]
      refine (show wpAny _ A.in1 (seqItems? (.ref S) >>= _) _ _ t from wpAny_bind (wpAny_seqItems eS rfl ?_))
      refine (show wpAny _ A.in1 (tryCatch (pyNext (.ref J)) _ >>= _) _ _ t from wpAny_bind (wpAny_tryCatch (Wl.done t _ _ ((by omega : j + 1 = its.size) ▸ st) fun h2 tk kept => ?_)))
      have eS2 := kept S _ (by simpa using hSJ) eS
      refine (show wpAny _ A.in1 (updateSeq S (fun _ => #[]) >>= _) _ _ _ from wpAny_bind (wpAny_updateSeq eS2 rfl (wpAny_bind (wpAny_letGo (wpAny_pure (back best _ tk ?_ fun b o n1 n2 e => ?_))))))
      · rw [← (by omega : j + 1 = its.size)]; exact eb
      · exact (Heap.get?_update_other _ _ (Ne.symm n2)).trans (kept b o (by simpa using n1) e))
  | succ k ih =>
    intro j t best c ek ej st kp eb eS back
    refine codeAny_builtin F.entry_min_loop (by
      rw [Around.under_plainId F.plain_min_loop _]
      refine (show wpAny _ A.in1 (seqItems? (.ref S) >>= _) _ _ t from wpAny_bind (wpAny_seqItems eS rfl ?_))
      refine (show wpAny _ A.in1 (tryCatch (pyNext (.ref J)) _ >>= _) _ _ t from wpAny_bind (wpAny_tryCatch (Wl.item (j + 1) t _ _ (by omega) st fun v h2 tk ev st2 kept => ?_)))
      have eS2 := kept S _ (by simpa using hSJ) eS
      have kp2 : Kp h2 := Z _ _ kp fun b o n1 _ e => kept b o (by simpa using n1) e
      refine (show wpAny _ A.in1 (tryCatch (holding [v, v] (richCompare .Lt v best >>= _)) _ >>= _) _ _ _ from wpAny_bind (wpAny_tryCatch (wpAny_holding (wpAny_bind (O (j + 1) (argBest bt j) v best _ _ _ kp2 ev eb ?_)))))
      refine wpAny_bind (wpAny_holding (wpAny_truthy_bool (wpAny_bind (wpAny_letGo (wpAny_pure ?_)))))
      cases hb : bt (j + 1) (argBest bt j) with
      | true =>
        simp only [if_true]
        refine wpAny_bind (wpAny_updateSeq eS2 rfl (wpAny_bind (wpAny_letGo ?_)))
        rw [nm]
        have kp3 : ∀ (g : Obj → Obj) b o, b ≠ S → h2.get? b = some o → (h2.update S g).get? b = some o := fun g b o n e => (Heap.get?_update_other _ _ (Ne.symm n)).trans e
        refine wpAny_pure ⟨plainId_quiet F.plain_min_loop _, ih (j + 1) _ v _ (by omega) (by omega) (Wl.frame _ _ _ st2 fun b hb2 o e => ?_) (Z _ _ kp2 fun b o _ n e => kp3 _ b o n e) (by simp only [argBest, hb, if_true]; exact ev) (Heap.get?_update_self _ eS2 rfl)
          fun v' h3 tk3 e3 kept3 => back v' h3 tk3 e3 fun b o n1 n2 e => kept3 b o n1 n2 (kp3 _ b o n2 (kept b o (by simpa using n1) e))⟩
        refine kp3 _ b o (fun z => ?_) e
        rcases List.mem_cons.mp hb2 with q | q
        · exact hSJ (z.symm.trans q)
        · exact hSl (z.symm.trans (by simpa using q))
      | false =>
        simp only [Bool.false_eq_true, if_false]
        refine wpAny_bind (wpAny_letGo ?_)
        rw [nm]
        exact wpAny_pure ⟨plainId_quiet F.plain_min_loop _, ih (j + 1) _ best c (by omega) (by omega) st2 kp2 (by simp only [argBest, hb, Bool.false_eq_true, if_false]; exact eb) eS2
          fun v' h3 tk3 e3 kept3 => back v' h3 tk3 e3 fun b o n1 n2 e => kept3 b o n1 n2 (kept b o (by simpa using n1) e)⟩)
theorem min_start (hh : A.in1.handled = none) (hlJ : l ≠ J) (O : Ord prog w A.in1 its Kp bt) {S : Addr} (hSJ : S ≠ J) (hSl : S ≠ l) (Z : Kpt Kp J S) (n0 : 0 < its.size) {t : Shared} {c : Nat} (st : t.heap.IsListIter J l 0 ∧ t.heap.IsList l its) (kp : Kp t.heap)
    (eS : t.heap.get? S = some { cls := .type "list", dict := none, data := .seq #[] c, slots := #[] })
    (back : ∀ v h' tk, its[argBest bt (its.size - 1)]? = some v → (∀ b o, b ≠ J → b ≠ S → t.heap.get? b = some o → h'.get? b = some o) → R (.ok (.ret v)) { t with heap := h', toks := tk }) :
    codeAny (model prog w) A (.builtin "min.loop" ⟨[.ref J, .none, .ref S], []⟩) R t := by
  have Wl := Walks.list (prog := prog) (w := w) (A := A.in1) hh J l hlJ its
  have nm : (toString "min" ++ toString ".loop" : String) = "min.loop" := by decide
  refine codeAny_builtin F.entry_min_loop (by
    rw [Around.under_plainId F.plain_min_loop _]
    refine (show wpAny _ A.in1 (seqItems? (.ref S) >>= _) _ _ t from wpAny_bind (wpAny_seqItems eS rfl ?_))
    refine (show wpAny _ A.in1 (tryCatch (pyNext (.ref J)) _ >>= _) _ _ t from wpAny_bind (wpAny_tryCatch (Wl.item 0 t _ _ n0 st fun v h2 tk ev st2 kept => ?_)))
    have eS2 := kept S _ (by simpa using hSJ) eS
    have kp2 : Kp h2 := Z _ _ kp fun b o n1 _ e => kept b o (by simpa using n1) e
    refine (show wpAny _ A.in1 (updateSeq S (fun _ => #[v, v]) >>= _) _ _ _ from wpAny_bind (wpAny_updateSeq eS2 rfl ?_))
    rw [nm]
    have kp3 : ∀ (g : Obj → Obj) b o, b ≠ S → h2.get? b = some o → (h2.update S g).get? b = some o := fun g b o n e => (Heap.get?_update_other _ _ (Ne.symm n)).trans e
    refine wpAny_pure ⟨plainId_quiet F.plain_min_loop _, min_turns hh hlJ O hSJ hSl Z _ 0 _ v _ rfl n0 (Wl.frame _ _ _ st2 fun b hb2 o e => ?_) (Z _ _ kp2 fun b o _ n e => kp3 _ b o n e) ev (Heap.get?_update_self _ eS2 rfl)
      fun v' h3 tk3 e3 kept3 => back v' h3 tk3 e3 fun b o n1 n2 e => kept3 b o n1 n2 (kp3 _ b o n2 (kept b o (by simpa using n1) e))⟩
    refine kp3 _ b o (fun z => ?_) e
    rcases List.mem_cons.mp hb2 with q | q
    · exact hSJ (z.symm.trans q)
    · exact hSl (z.symm.trans (by simpa using q)))
end
/-- the least of pairs: an order that is transitive has no better one -/
theorem argBest_least {bt : Nat → Nat → Bool} (tr : ∀ a b c, bt a b = true → bt b c = true → bt a c = true) (ir : ∀ a, bt a a = false) : ∀ k, argBest bt k ≤ k ∧ ∀ j, j ≤ k → bt j (argBest bt k) = false
  | 0 => ⟨Nat.le_refl _, fun j hj => by
    rw [show j = 0 by omega]
    exact ir 0⟩
  | k + 1 => by
    obtain ⟨h1, h2⟩ := argBest_least tr ir k
    show (if bt (k + 1) (argBest bt k) then k + 1 else argBest bt k) ≤ k + 1 ∧ ∀ j, j ≤ k + 1 → bt j (if bt (k + 1) (argBest bt k) then k + 1 else argBest bt k) = false
    by_cases c : bt (k + 1) (argBest bt k) = true
    · rw [if_pos c]
      refine ⟨Nat.le_refl _, fun j hj => ?_⟩
      rcases Nat.lt_or_ge k j with z | z
      · rw [show j = k + 1 by omega]
        exact ir _
      · cases e : bt j (k + 1) with
        | false => rfl
        | true =>
          have := tr _ _ _ e c
          rw [h2 j z] at this
          cases this
    · rw [if_neg c]
      refine ⟨by omega, fun j hj => ?_⟩
      rcases Nat.lt_or_ge k j with z | z
      · rw [show j = k + 1 by omega]
        simpa using c
      · exact h2 j z
section
variable {prog : Program} {w : World} {A : Around} {E : Value → Shared → Prop} {l : Addr} {its : Array Value} {bt : Nat → Nat → Bool}
/-- the call: Kp is that all that was there stands -/
theorem min_callP {s : Shared} {Q : Value → Shared → Prop} (hh : A.in1.handled = none) (hl : s.heap.IsList l its) (n0 : 0 < its.size) (O : Ord prog w A.in1 its (fun h => ∀ b o, s.heap.get? b = some o → h.get? b = some o) bt)
    (back : ∀ v h' tk, its[argBest bt (its.size - 1)]? = some v → (∀ b o, s.heap.get? b = some o → h'.get? b = some o) → Q v { s with heap := h', toks := tk }) : wpAny (model prog w) A (call (.builtin "min") [.ref l]) Q E s := by
  have nm : (toString "min" ++ toString ".loop" : String) = "min.loop" := by decide
  refine call_function_tree F.kind_min F.plain_min F.entry_min (F.args_min1 _) (wpAny_bind (m := Builtin.Builtins.bindParams "min" ["key", "default"] 0 ⟨[], []⟩) (wpAny_of_eq (show Builtin.Builtins.bindParams "min" ["key", "default"] 0 ⟨[], []⟩ = pure [none, none] from rfl) (wpAny_bind (wpAny_pure ?_))))
  refine wpAny_bind (wpAny_pyIter_list hl (wpAny_bind (wpAny_newObj_type ?_)))
  rw [nm]
  have hlt : l < s.heap.objs.size := by
    obtain ⟨_, e, _⟩ := id hl
    exact Heap.lt_size e
  have z1 : (s.heap.push { cls := .type "list_iterator", data := .fields #[.ref l, .int 0 0] }).objs.size = s.heap.objs.size + 1 := Heap.size_push ..
  have old : ∀ b o, s.heap.get? b = some o → b < s.heap.objs.size := fun b o e => Heap.lt_size e
  refine wpAny_pure ⟨plainId_quiet F.plain_min_loop _, min_start (l := l) (its := its) hh (Nat.ne_of_lt hlt) O (S := (s.heap.push { cls := .type "list_iterator", data := .fields #[.ref l, .int 0 0] }).objs.size) (by rw [z1]; exact Nat.succ_ne_self _) (by rw [z1]; exact (Nat.ne_of_lt (Nat.lt_succ_of_lt hlt)).symm) (fun h h' k f b o e => f b o (Nat.ne_of_lt (old b o e)) (by rw [z1]; exact Nat.ne_of_lt (Nat.lt_succ_of_lt (old b o e))) (k b o e)) n0 ⟨⟨_, Heap.get?_push_of_some _ (Heap.get?_push_size _ rfl), rfl, rfl⟩, (hl.push _).push _⟩ (fun b o e => Heap.get?_push_of_some _ (Heap.get?_push_of_some _ e)) (Heap.get?_push_size _ rfl) fun v h' tk ev f => ?_⟩
  exact back v h' tk ev fun b o e => f b o (Nat.ne_of_lt (old b o e)) (by rw [z1]; exact Nat.ne_of_lt (Nat.lt_succ_of_lt (old b o e))) (Heap.get?_push_of_some _ (Heap.get?_push_of_some _ e))
end
/-- x is before y: by the first, then by the second -/
def ltPr (x y : Int × Int) : Bool := decide (x.1 < y.1 ∨ x.1 = y.1 ∧ x.2 < y.2)
/-- min(xs), xs a list of pairs of ints: one of the least -/
def rMinP (K : PySem.W.Frag) : List V → Hp → VK → Prop := fun vs H Q => ∃ (a : Addr) (xs : List V) (ks : List (Int × Int)), vs = [V.ref a] ∧ SqL K H a xs ∧ 0 < xs.length ∧ ks.length = xs.length ∧ (∀ (i : Nat) x k, xs[i]? = some x → ks[i]? = some k → ∃ t, x = V.ref t ∧ H t = some (.tup [.int k.1, .int k.2])) ∧
  ∀ (i : Nat) x k, xs[i]? = some x → ks[i]? = some k → (∀ y ∈ ks, ltPr y k = false) → Q x H
theorem lex_pair (a b : Int × Int) : HT.lexLt [a.1, a.2] [b.1, b.2] = ltPr a b := by
  rw [HT.lexLt_cons, HT.lexLt_cons, HT.lexLt_nil_nil]
  unfold ltPr
  by_cases c : a.1 = b.1
  · rw [if_pos c]
    by_cases d : a.2 = b.2
    · rw [if_pos d]
      symm
      rw [decide_eq_false_iff_not]
      omega
    · rw [if_neg d]
      rw [decide_eq_decide]
      omega
  · rw [if_neg c]
    rw [decide_eq_decide]
    omega
section
variable {X : Cx} {j : Nat}
theorem cr_minP (hc : X.calm = true) (hr : Room (j + 1) X.A) : CallR X (.builtin "min") (rMinP X.K) := by
  intro pins s σ H vs us Q I r h
  obtain ⟨a, xs, ks, rfl, hs, hne, hk, hx, q⟩ := h
  obtain ⟨its, rv, hl, _⟩ := I.list hs
  rw [Vals.ref1 r]
  have hlen : its.length = xs.length := rv.length.symm
  refine min_callP (bt := fun i j => ltPr (ks.getD i (0, 0)) (ks.getD j (0, 0))) (I.ok.hd hc) hl.isList (by simpa using (by omega : 0 < its.length)) ?_ fun v h' tk ev kept => ?_
  · intro i1 i2 x y t Q' E' kp e1 e2 q'
    have g1 : its[i1]? = some x := by simpa using e1
    have g2 : its[i2]? = some y := by simpa using e2
    have b1 : i1 < its.length := (List.getElem?_eq_some_iff.mp g1).1
    have b2 : i2 < its.length := (List.getElem?_eq_some_iff.mp g2).1
    obtain ⟨u1, hu1, r1⟩ := rv.get (List.getElem?_eq_getElem (by omega : i1 < xs.length))
    obtain ⟨u2, hu2, r2⟩ := rv.get (List.getElem?_eq_getElem (by omega : i2 < xs.length))
    rw [g1] at hu1
    rw [g2] at hu2
    cases hu1
    cases hu2
    obtain ⟨t1, z1, o1⟩ := hx i1 _ _ (List.getElem?_eq_getElem (by omega)) (List.getElem?_eq_getElem (by omega : i1 < ks.length))
    obtain ⟨t2, z2, o2⟩ := hx i2 _ _ (List.getElem?_eq_getElem (by omega)) (List.getElem?_eq_getElem (by omega : i2 < ks.length))
    rw [z1] at r1
    rw [z2] at r2
    obtain rfl : x = Value.ref t1 := r1
    obtain rfl : y = Value.ref t2 := r2
    obtain ⟨l1, w1, ⟨ob1, p1, rest1⟩, _⟩ := I.tuple (SqT.of o1)
    obtain ⟨l2, w2, ⟨ob2, p2, rest2⟩, _⟩ := I.tuple (SqT.of o2)
    refine HT.lt_tupInts (l := t1) (b := t2) (items := l1.toArray) (items2 := l2.toArray) (ns := [ks[i1].1, ks[i1].2]) (ms := [ks[i2].1, ks[i2].2]) ⟨ob1, kp _ _ p1, rest1⟩ ⟨ob2, kp _ _ p2, rest2⟩ (Vals.ints w1) (Vals.ints w2) hr.in1.units0 ?_
    rw [lex_pair]
    simp only [List.getD_eq_getElem?_getD, List.getElem?_eq_getElem (by omega : i1 < ks.length), List.getElem?_eq_getElem (by omega : i2 < ks.length), Option.getD_some] at q'
    exact q'
  · obtain ⟨m1, m2⟩ := argBest_least (bt := fun i j => ltPr (ks.getD i (0, 0)) (ks.getD j (0, 0))) (fun a b c => by unfold ltPr; simp only [decide_eq_true_iff]; omega) (fun a => by unfold ltPr; simp) (its.toArray.size - 1)
    generalize hB : argBest (fun i j => ltPr (ks.getD i (0, 0)) (ks.getD j (0, 0))) (its.toArray.size - 1) = B at *
    have zs : its.toArray.size = its.length := by simp
    rw [zs] at m1 m2
    have bB : B < xs.length := by omega
    have g : its[B]? = some v := by simpa using ev
    obtain ⟨u, hu, ru⟩ := rv.get (List.getElem?_eq_getElem bB)
    rw [g] at hu
    cases hu
    refine ⟨xs[B], H, I.kept kept, ru, q B _ ks[B] (List.getElem?_eq_getElem bB) (List.getElem?_eq_getElem (by omega)) fun y hy => ?_⟩
    obtain ⟨i, hi, rfl⟩ := List.getElem_of_mem hy
    have := m2 i (by omega)
    simpa only [List.getD_eq_getElem?_getD, List.getElem?_eq_getElem hi, List.getElem?_eq_getElem (by omega : B < ks.length), Option.getD_some] using this
end
end L2
set_option Elab.async false
set_option linter.all false
set_option maxRecDepth 100000
set_option maxHeartbeats 4000000
namespace L2
open PySem PySem.Spec PyProof.Rows
/-! ### evidence: own __bool__, own __eq__, isinstance of a class above -/
section
variable {X : Cx} {k j : Nat} {C D : Addr} {sp : Sp} {dvs : List V} {a : Expr} {ta : TE}
/-- an instance as a test, by its own __bool__ -/
def tTruO (C : Addr) (sp : Sp) (dvs : List V) (ta : TE) : TT := fun σ H Q => ta σ H fun x H1 => ∃ a dx fs, x = .ref a ∧ H1 a = some (.ins C dx fs) ∧ sp ([.ref a] ++ dvs) H1 (fun v H2 => ∃ b, v = .bl b ∧ Q b H2) C8.E0
theorem pt_own (c : C8.Met X.prog X.w X.K X.mg X.base k C "__bool__" sp dvs) (hr : Room j X.A) (hk : k ≤ j) (ha : PE X a ta) (he : ∀ whole, isTrue a X.env whole = (do let v ← whole; standAt a.pos; holding [v] (truthy v)) := by intro _; rfl) : PT X a (tTruO C sp dvs ta) := by
  obtain ⟨f, fd, ps, ds, cl, hm, F, bd, d⟩ := c.ex
  refine ⟨fun pins s σ H Q I h => isTrue_plain (thn (ha.run pins s σ H _ I h) fun v s1 z => ?_) (he _)⟩
  obtain ⟨x, H1, I1, rx, o, dx, fs, rfl, e, q⟩ := z
  obtain rfl : v = Value.ref o := rx
  obtain ⟨mA, O, _, _, _, _⟩ := ins_get I1.hok e
  obtain ⟨od, J, _⟩ := O.look
  obtain ⟨m, F0⟩ := I1.fr
  refine PySem.W.truthy_K F0 I1.ok.mod.kin J hm.at_ hm.fn (wpAny_mono (run_fn (us := [.ref o]) (vs := [.ref o]) F (hr.mono hk) bd d C8.pass0 I1 (.cons rfl .nil) q) (fun v s2 y => ?_) fun _ _ y => y)
  obtain ⟨x2, H2, I2, rx2, b, rfl, q2⟩ := y
  obtain rfl : v = Value.bool b := rx2
  exact ⟨H2, I2, q2⟩
/-- x == y by the own __eq__ of the class of both -/
def rEqO (C : Addr) (sp : Sp) (dvs : List V) : R2 := fun x y H Q => ∃ a b dx dy fs gs, x = .ref a ∧ y = .ref b ∧ H a = some (.ins C dx fs) ∧ H b = some (.ins C dy gs) ∧ sp ([.ref a, .ref b] ++ dvs) H (fun v H' => ∃ k, v = .bl k ∧ Q v H') C8.E0
theorem op_eqO (c : C8.Met X.prog X.w X.K X.mg X.base k C "__eq__" sp dvs) (hr : Room j X.A) (hk : k ≤ j) : OpR X (compareOp .Eq) (rEqO C sp dvs) := by
  obtain ⟨f, fd, ps, ds, cl, hm, F, bd, d⟩ := c.ex
  intro pins s σ H x y v u Q I rx ry h
  obtain ⟨o, o2, dx, dy, fs, gs, rfl, rfl, e, e2, q⟩ := h
  obtain rfl : v = Value.ref o := rx
  obtain rfl : u = Value.ref o2 := ry
  obtain ⟨mA, O, _, _, _, _⟩ := ins_get I.hok e
  obtain ⟨mB, O2, _, _, _, _⟩ := ins_get I.hok e2
  obtain ⟨od, J, _⟩ := O.look
  obtain ⟨od2, J2, _⟩ := O2.look
  obtain ⟨m, F0⟩ := I.fr
  refine PySem.W.cmp_K (op := .Eq) (tb := .ref C) hr.units0 F0 I.ok.mod.kin J J2.type (by simp [PySem.W.notFirst]) hm.at_ hm.fn (wpAny_mono (run_fn (us := [.ref o, .ref o2]) (vs := [.ref o, .ref o2]) F (hr.mono hk) bd d C8.pass0 I (.cons rfl (.cons rfl .nil)) q) (fun v s2 y => ?_) fun _ _ y => y)
  obtain ⟨x2, H2, I2, rx2, b, rfl, q2⟩ := y
  obtain rfl : v = Value.bool b := rx2
  exact ⟨.bl b, H2, I2, rfl, q2⟩
/-- an instance of C is one of D, a class above -/
structure InsB (K : PySem.W.Frag) (C D : Addr) : Prop where
  cl : Cls K C
  ha : PySem.W.findIn K (.ref C) "__class__" = some (some (.builtin "object.__class__"))
  hn : PySem.W.specialIn K (.builtin "object.__class__") "__get__" = some (some (.builtin "getset_descriptor.__get__"))
  htk : PySem.W.takesIn K (.builtin "object.__class__") = some true
  hm : PySem.W.mroIn K C (.type "object") = some true
  me : PySem.W.kitOne K (.ref C) (.ref D) = some true
def rIsUp (C D : Addr) : List V → Hp → VK → Prop := fun xs H Q => ∃ a dx fs, xs = [.ref a, .ref D] ∧ H a = some (.ins C dx fs) ∧ Q (.bl true) H
theorem cr_isUp (c : InsB X.K C D) : CallR X (.builtin "isinstance") (rIsUp C D) := by
  intro pins s σ H xs us Q I r h
  obtain ⟨o, dx, fs, rfl, e, q⟩ := h
  obtain ⟨u, u2, rfl, r1, r2⟩ := vals2 r
  obtain rfl : u2 = Value.ref D := r2
  exact isinst_ok I r1 (TyOf.ins e c.cl c.ha c.hn c.htk c.hm) c.me fun tk => ⟨.bl true, H, I.tok _, rfl, q⟩
end
end L2
namespace Sl
open PySem L2 C8 StX
section
variable {σ : L2.St} {H : Hp} {Q : VK} {QB : Bool → Hp → Prop} {K : PySem.W.Frag} {C D : Addr} {sp : Sp} {dvs : List V} {ta : TE} {v : V} {f : Str} {u : Value}
def rTruO (C : Addr) (sp : Sp) (dvs : List V) (x : V) (H1 : Hp) (Q : Bool → Hp → Prop) : Prop := ∃ a dx fs, x = .ref a ∧ H1 a = some (.ins C dx fs) ∧ sp ([.ref a] ++ dvs) H1 (fun v H2 => ∃ b, v = .bl b ∧ Q b H2) C8.E0
theorem rd_truO0 (h : ta σ H fun x H1 => rTruO C sp dvs x H1 QB) : tTruO C sp dvs ta σ H QB := h
theorem rd_truO {a dx : Addr} {fs : List (Str × V)} (e : H a = some (.ins C dx fs)) (h : sp ([.ref a] ++ dvs) H (fun v H2 => ∃ b, v = .bl b ∧ QB b H2) C8.E0) : rTruO C sp dvs (.ref a) H QB := ⟨a, dx, fs, rfl, e, h⟩
theorem rd_eqO {a b dx dy : Addr} {fs gs : List (Str × V)} (e : H a = some (.ins C dx fs)) (e2 : H b = some (.ins C dy gs)) (h : sp ([.ref a, .ref b] ++ dvs) H (fun v H' => ∃ k, v = .bl k ∧ Q v H') C8.E0) : rEqO C sp dvs (.ref a) (.ref b) H Q := ⟨a, b, dx, dy, fs, gs, rfl, rfl, e, e2, h⟩
theorem rd_isUp {a dx : Addr} {fs : List (Str × V)} (e : H a = some (.ins C dx fs)) (h : Q (.bl true) H) : rIsUp C D [.ref a, .ref D] H Q := ⟨a, dx, fs, rfl, e, h⟩
def rCon (K : PySem.W.Frag) (f : Str) (x : V) (H : Hp) (Q : VK) : Prop := ∃ a C dx fs v u, x = .ref a ∧ H a = some (.ins C dx fs) ∧ Cls K C ∧ Con K C f v u ∧ fs.lookup f = none ∧ Q v H
theorem rd_con0 (h : ta σ H fun x H1 => rCon K f x H1 Q) : tCon K ta f σ H Q := h
theorem rd_con {a dx : Addr} {fs : List (Str × V)} (e : H a = some (.ins C dx fs)) (c : Cls K C) (k : ∃ u, Con K C f v u) (l : fs.lookup f = none) (h : Q v H) : rCon K f (.ref a) H Q := by
  obtain ⟨u, k⟩ := k
  exact ⟨a, C, dx, fs, v, u, rfl, e, c, k, l, h⟩
theorem rd_minP {a : Addr} {xs : List V} {ks : List (Int × Int)} (e : SqL K H a xs) (n : 0 < xs.length) (l : ks.length = xs.length) (hx : ∀ (i : Nat) x k, xs[i]? = some x → ks[i]? = some k → ∃ t, x = V.ref t ∧ H t = some (.tup [.int k.1, .int k.2]))
    (h : ∀ (i : Nat) t k, xs[i]? = some (.ref t) → ks[i]? = some k → H t = some (.tup [.int k.1, .int k.2]) → (∀ y ∈ ks, ltPr y k = false) → Q (.ref t) H) : rMinP K [.ref a] H Q :=
  ⟨a, xs, ks, rfl, e, n, l, hx, fun i x k h1 h2 h3 => by
    obtain ⟨t, rfl, e⟩ := hx i x k h1 h2
    exact h i t k h1 h2 e h3⟩
end
end Sl
set_option Elab.async false
set_option linter.all false
set_option maxRecDepth 100000
set_option maxHeartbeats 4000000
namespace L2
open PySem PySem.Spec PyProof.Rows
/-- a dict from ints to ints -/
def dI (ls : List (Int × Int)) : List (Key × V) := ls.map fun q => (Sum.inl q.1, V.int q.2)
theorem dI_len (ls : List (Int × Int)) : (dI ls).length = ls.length := by unfold dI; rw [List.length_map]
theorem dI_keys (ls : List (Int × Int)) : (dI ls).map (·.1) = (ls.map (·.1)).map Sum.inl := by unfold dI; rw [List.map_map, List.map_map]; rfl
theorem dI_nodup {ls : List (Int × Int)} (h : (ls.map (·.1)).Nodup) : ((dI ls).map (·.1)).Nodup := by
  rw [dI_keys]
  exact List.Pairwise.map Sum.inl (fun a b n e => n (Sum.inl.inj e)) h
theorem dI_val {ls : List (Int × Int)} (h : (ls.map (·.1)).Nodup) : ∀ p ∈ dI ls, valV (dI ls) p.1 = some p.2 ∧ flatB p.2 = true := by
  intro p hp
  refine ⟨val_nodup (dI_nodup h) p hp, ?_⟩
  obtain ⟨q, _, rfl⟩ := List.mem_map.mp hp
  rfl
theorem dI_at {ls : List (Int × Int)} (h : (ls.map (·.1)).Nodup) {k v : Int} (m : (k, v) ∈ ls) : valV (dI ls) (Sum.inl k) = some (.int v) := val_nodup (dI_nodup h) (Sum.inl k, V.int v) (List.mem_map.mpr ⟨(k, v), m, rfl⟩)
theorem dI_no {ls : List (Int × Int)} {k : Int} (h : ∀ q ∈ ls, q.1 ≠ k) : valV (dI ls) (Sum.inl k) = none := by
  induction ls with
  | nil => rfl
  | cons q r ih =>
    show valV ((Sum.inl q.1, V.int q.2) :: dI r) (Sum.inl k) = none
    rw [valV_neg (fun z => h q List.mem_cons_self (Sum.inl.inj z))]
    exact ih fun q' m => h q' (List.mem_cons_of_mem _ m)
theorem dI_putNew {ls : List (Int × Int)} {k v : Int} (h : ∀ q ∈ ls, q.1 ≠ k) : putK (dI ls) (Sum.inl k) (.int v) = dI (ls ++ [(k, v)]) := by
  rw [putK_new _ (dI_no h)]
  unfold dI
  rw [List.map_append]
  rfl
/-! ### == of such dicts, both answers where the lengths differ -/
section
variable {X : Cx}
def rEqDI : R2 := fun x y H Q => ∃ a b ls ms, x = .ref a ∧ y = .ref b ∧ H a = some (.dK (dI ls)) ∧ H b = some (.dK (dI ms)) ∧ (ls.map (·.1)).Nodup ∧ (ls = ms ∨ ls.length ≠ ms.length) ∧ Q (.bl (decide (ls = ms))) H
def rNeDI : R2 := fun x y H Q => ∃ a b ls ms, x = .ref a ∧ y = .ref b ∧ H a = some (.dK (dI ls)) ∧ H b = some (.dK (dI ms)) ∧ (ls.map (·.1)).Nodup ∧ (ls = ms ∨ ls.length ≠ ms.length) ∧ Q (.bl (!decide (ls = ms))) H
theorem dI_hits {A : Around} {s : Shared} {ls ms : List (Int × Int)} {va vb : List (Key × Value)} (nd : (ls.map (·.1)).Nodup) (h : ls = ms ∨ ls.length ≠ ms.length) (ra : KV (dI ls) va) (rb : KV (dI ms) vb) (e : va.length = vb.length) : ls = ms ∧ PySem.W.KeqHits A s vb va true := by
  rcases h with h | h
  · subst h
    exact ⟨rfl, hits_all rb ra (dI_val nd)⟩
  · exfalso
    have h1 := ra.length
    have h2 := rb.length
    rw [dI_len] at h1 h2
    omega
theorem dI_ans {ls ms : List (Int × Int)} {va vb : List (Key × Value)} (h : ls = ms ∨ ls.length ≠ ms.length) (ra : KV (dI ls) va) (rb : KV (dI ms) vb) : (va.length == vb.length && true) = decide (ls = ms) := by
  have h1 := ra.length
  have h2 := rb.length
  rw [dI_len] at h1 h2
  rw [Bool.and_true]
  rcases h with h | h
  · subst h
    rw [decide_eq_true rfl, ← h1, ← h2]
    simp
  · rw [decide_eq_false (fun z => h (by rw [z])), ← h1, ← h2]
    simpa using h
theorem op_eqDI (hu : X.A.units < cLine) : OpR X (compareOp .Eq) rEqDI := by
  intro pins s σ H x y v u Q I rx ry h
  obtain ⟨a, b, ls, ms, rfl, rfl, ea, eb, nd, hh, q⟩ := h
  obtain rfl : v = Value.ref a := rx
  obtain rfl : u = Value.ref b := ry
  obtain ⟨_, ya, va, ra, da⟩ := (show ObjOk X.prog X.w H s.heap a (.dK (dI ls)) from I.hok a _ ea)
  obtain ⟨_, yb, vb, rb, db⟩ := (show ObjOk X.prog X.w H s.heap b (.dK (dI ms)) from I.hok b _ eb)
  refine PySem.W.keq_eq (knd := mixKind X.prog X.w) (r := true) ya yb da db hu (fun e => (dI_hits nd hh ra rb e).2) ?_
  rw [dI_ans hh ra rb]
  exact ⟨.bl _, H, I, rfl, q⟩
theorem op_neDI (hu : X.A.units < cLine) : OpR X (compareOp .NotEq) rNeDI := by
  intro pins s σ H x y v u Q I rx ry h
  obtain ⟨a, b, ls, ms, rfl, rfl, ea, eb, nd, hh, q⟩ := h
  obtain rfl : v = Value.ref a := rx
  obtain rfl : u = Value.ref b := ry
  obtain ⟨_, ya, va, ra, da⟩ := (show ObjOk X.prog X.w H s.heap a (.dK (dI ls)) from I.hok a _ ea)
  obtain ⟨_, yb, vb, rb, db⟩ := (show ObjOk X.prog X.w H s.heap b (.dK (dI ms)) from I.hok b _ eb)
  refine PySem.W.keq_ne (knd := mixKind X.prog X.w) (r := true) ya yb da db hu (fun e => (dI_hits nd hh ra rb e).2) ?_
  rw [dI_ans hh ra rb]
  exact ⟨.bl _, H, I, rfl, q⟩
end
end L2
namespace Sl
open PySem L2 C8 StX
section
variable {σ : L2.St} {H H1 : Hp} {wi : TI} {g : TG} {tb : TS} {ta : TA} {td te ty tk tv : TE} {tt : TT} {nx bk ct : L2.St → Hp → Prop} {rt : VK} {K : PySem.W.Frag} {Q : VK} {QB : Bool → Hp → Prop} {vs : List Nat} {x y v : V}
theorem rd_dnew (h : ∀ p H', H p = none → Same H H' → H' p = some (.dK (dI [])) → H' = upd H p (.dK (dI [])) → Q (.ref p) H') : tDNewK σ H Q := fun p hp => h p _ hp (Same.new (Same.refl H) hp) upd_same rfl
def rDIn (y x : V) (H : Hp) (Q : VK) : Prop := ∃ a o, x = .ref a ∧ DGet H a y o ∧ Q (.bl o.isSome) H
def rDNot (y x : V) (H : Hp) (Q : VK) : Prop := ∃ a o, x = .ref a ∧ DGet H a y o ∧ Q (.bl (!o.isSome)) H
theorem rd_din0 (h : ty σ H fun y H1 => td σ H1 fun x H2 => rDIn y x H2 Q) : tDIn ty td σ H Q := h
theorem rd_dnot0 (h : ty σ H fun y H1 => td σ H1 fun x H2 => rDNot y x H2 Q) : tDNotIn ty td σ H Q := h
theorem rd_dnot {a : Addr} {ls : List (Int × Int)} {k : Int} (e : H a = some (.dK (dI ls))) (h : Q (.bl (!(valV (dI ls) (Sum.inl k)).isSome)) H) : rDNot (.int k) (.ref a) H Q := ⟨a, _, rfl, DGet.k (k := Sum.inl k) e, h⟩
def rDGet (x y : V) (H : Hp) (Q : VK) : Prop := ∃ a v, x = .ref a ∧ DGet H a y (some v) ∧ Q v H
theorem rd_dget0 (h : td σ H fun x H1 => ty σ H1 fun y H2 => rDGet x y H2 Q) : tDGet td ty σ H Q := h
theorem rd_dget {a : Addr} {ls : List (Int × Int)} {k w : Int} (e : Rd H a (.dK (dI ls))) (l : valV (dI ls) (Sum.inl k) = some (.int w)) (h : Q (.int w) H) : rDGet (.ref a) (.int k) H Q := ⟨a, .int w, rfl, .inl ⟨_, Sum.inl k, e, rfl, l.symm⟩, h⟩
def rDPut (nx : L2.St → Hp → Prop) (σ : L2.St) (v x y : V) (H : Hp) : Prop := ∃ a H4, x = .ref a ∧ DPut H a y v H4 ∧ nx σ H4
theorem rd_dput0 (h : tv σ H fun v H1 => td σ H1 fun x H2 => ty σ H2 fun y H3 => rDPut nx σ v x y H3) : sDPut td ty tv ⟨nx, rt, bk, ct⟩ σ H := h
theorem rd_dput {a : Addr} {ls : List (Int × Int)} {k w : Int} (e : H a = some (.dK (dI ls))) (l : ls.length < 100000) (h : ∀ H', H' = upd H a (.dK (putK (dI ls) (Sum.inl k) (.int w))) → H' a = some (.dK (putK (dI ls) (Sum.inl k) (.int w))) → nx σ H') : rDPut nx σ (.int w) (.ref a) (.int k) H :=
  ⟨a, _, rfl, DPut.k (k := Sum.inl k) e (by rw [dI_len]; exact Nat.lt_trans l (by decide)), h _ rfl upd_same⟩
def rDictD : List V → Hp → VK → Prop := fun xs H Q => ∃ (a : Addr) (kvs : List (Key × V)), xs = [.ref a] ∧ Rd H a (.dK kvs) ∧ ∀ p, H p = none → Q (.ref p) (upd H p (.dK kvs))
theorem cr_dictD {X : Cx} : CallR X (.type "dict") rDictD := call_dictD
theorem rd_dictD {a : Addr} {kvs : List (Key × V)} (e : H a = some (.dK kvs)) (h : ∀ p H', H p = none → Same H H' → H' p = some (.dK kvs) → H' = upd H p (.dK kvs) → Q (.ref p) H') : rDictD [.ref a] H Q := ⟨a, kvs, rfl, .inl e, fun p hp => h p _ hp (Same.new (Same.refl H) hp) upd_same rfl⟩
def rSortDI : List V → Hp → VK → Prop := fun xs H Q => ∃ (a : Addr) (kvs : List (Key × V)) (ks : List Int), xs = [.ref a] ∧ Rd H a (.dK kvs) ∧ kvs.map (·.1) = ks.map Sum.inl ∧ ks.length < 64 ∧ ∀ (ys : List Int) (p : Addr), ys.Perm ks → ys.Pairwise (· ≤ ·) → H p = none → Q (.ref p) (upd H p (.lst (ys.map V.int)))
theorem cr_sortDI {X : Cx} (hc : X.calm = true) : CallR X (.builtin "sorted") rSortDI := call_sortedDI hc
theorem perm_sorted : ∀ {ys ks : List Int}, ys.Perm ks → ys.Pairwise (· ≤ ·) → ks.Pairwise (· < ·) → ys = ks
  | [], ks, p, _, _ => (List.nil_perm.mp p).symm
  | y :: ys, [], p, _, _ => by have := p.length_eq; simp at this
  | y :: ys, k :: ks, p, s1, s2 => by
    have h1 := List.pairwise_cons.mp s1
    have h2 := List.pairwise_cons.mp s2
    have e : y = k := by
      have a : y ∈ k :: ks := p.mem_iff.mp List.mem_cons_self
      have b : k ∈ y :: ys := p.mem_iff.mpr List.mem_cons_self
      rcases List.mem_cons.mp a with z | z
      · exact z
      · rcases List.mem_cons.mp b with w | w
        · exact w.symm
        · have q1 := h2.1 y z
          have q2 := h1.1 k w
          omega
    subst e
    rw [perm_sorted p.cons_inv h1.2 h2.2]
theorem rd_sortDI {a : Addr} {ls : List (Int × Int)} (e : H a = some (.dK (dI ls))) (s : (ls.map (·.1)).Pairwise (· < ·)) (l : ls.length < 64) (h : ∀ p H', H p = none → Same H H' → H' p = some (.lst ((ls.map (·.1)).map V.int)) → Q (.ref p) H') : rSortDI [.ref a] H Q :=
  ⟨a, _, ls.map (·.1), rfl, .inl e, dI_keys ls, by rw [List.length_map]; exact l, fun ys p pm sr hp => by
    rw [perm_sorted pm sr s]
    exact h p _ hp (Same.new (Same.refl H) hp) upd_same⟩
theorem rd_sortL {a : Addr} {ks : List Int} (e : SqL K H a (ks.map V.int)) (s : ks.Pairwise (· < ·)) (l : ks.length < 64) (h : ∀ p H', H p = none → Same H H' → H' p = some (.lst (ks.map V.int)) → Q (.ref p) H') : rSorted K [.ref a] H Q :=
  ⟨a, ks, rfl, e, l, fun ys p pm sr hp => by
    rw [perm_sorted pm sr s]
    exact h p _ hp (Same.new (Same.refl H) hp) upd_same⟩
theorem rd_listD {a : Addr} {ls : List (Int × Int)} (e : H a = some (.dK (dI ls))) (h : ∀ p H', H p = none → Same H H' → H' p = some (.lst ((ls.map (·.1)).map V.int)) → Q (.ref p) H') : rListD [.ref a] H Q :=
  ⟨a, _, rfl, e, fun p hp => h p _ hp (Same.new (Same.refl H) hp) (by rw [upd_same]; unfold dI; rw [List.map_map, List.map_map]; rfl)⟩
theorem rd_eqDI {a b : Addr} {ls ms : List (Int × Int)} (ea : H a = some (.dK (dI ls))) (eb : H b = some (.dK (dI ms))) (nd : (ls.map (·.1)).Nodup) (hh : ls = ms ∨ ls.length ≠ ms.length) (q : Q (.bl (decide (ls = ms))) H) : rEqDI (.ref a) (.ref b) H Q := ⟨a, b, ls, ms, rfl, rfl, ea, eb, nd, hh, q⟩
theorem rd_neDI {a b : Addr} {ls ms : List (Int × Int)} (ea : H a = some (.dK (dI ls))) (eb : H b = some (.dK (dI ms))) (nd : (ls.map (·.1)).Nodup) (hh : ls = ms ∨ ls.length ≠ ms.length) (q : Q (.bl (!decide (ls = ms))) H) : rNeDI (.ref a) (.ref b) H Q := ⟨a, b, ls, ms, rfl, rfl, ea, eb, nd, hh, q⟩
/-! ### dict comprehensions -/
def DcE (D : Addr) (Nx : Hp → Prop) (y z : V) (H5 : Hp) : Prop := ∃ kvs k, y = kV k ∧ H5 D = some (.dK kvs) ∧ kvs.length < sizeLine ∧ Nx (upd H5 D (.dK (putK kvs k z)))
def DcR (J : It) (g : TG) (tt : TT) (tk tv : TE) (vs : List Nat) (σ : L2.St) (H1 : Hp) (Q : VK) : Prop := ∀ D, H1 D = none → ∃ W : Nat → Nat → Hp → Prop, (∃ m, W 0 m (upd H1 D (.dK []))) ∧ ∀ i m H, W i m H →
  (J.stop i H ∧ Q (.ref D) H) ∨ (J.go i H ∧ ∃ Nx : Hp → Prop, (∀ H', Nx H' → ∃ m', m' < m ∧ W (i + 1) m' H') ∧ ∀ x H', J.yld i H x H' → g x (wipe σ vs) H' fun σ2 H2 => wipe σ2 vs = wipe σ vs ∧ tt σ2 H2 fun b H3 =>
    if b = true then tk σ2 H3 fun y H4 => tv σ2 H4 fun z H5 => DcE D Nx y z H5 else Nx H3)
theorem rd_dc (h : wi σ H fun J H1 => DcR J g tt tk tv vs σ H1 Q) : tDc wi g tt tk tv vs σ H Q := h
theorem rd_dcE {D : Addr} {Nx : Hp → Prop} {ls : List (Int × Int)} {k w : Int} (e : H D = some (.dK (dI ls))) (l : ls.length < 100000) (n : ∀ q ∈ ls, q.1 ≠ k) (h : ∀ H', H' = upd H D (.dK (dI (ls ++ [(k, w)]))) → H' D = some (.dK (dI (ls ++ [(k, w)]))) → Nx H') : DcE D Nx (.int k) (.int w) H :=
  ⟨_, Sum.inl k, rfl, e, by rw [dI_len]; exact Nat.lt_trans l (by decide), by rw [dI_putNew n]; exact h _ rfl upd_same⟩
theorem dcR_gen (J : It) (n : Nat) (Pv : Addr → Nat → Hp → Prop) (h0 : ∀ D H', H D = none → Same H H' → H' D = some (.dK (dI [])) → H' = upd H D (.dK (dI [])) → Pv D 0 H') (hg : ∀ D i H', H D = none → i < n → Pv D i H' → J.go i H') (he : ∀ D H', H D = none → Pv D n H' → J.stop n H')
    (hs : ∀ D i H' x H2, H D = none → i < n → Pv D i H' → J.yld i H' x H2 → g x (wipe σ vs) H2 fun σ2 H2 => wipe σ2 vs = wipe σ vs ∧ tt σ2 H2 fun b H3 => if b = true then tk σ2 H3 fun y H4 => tv σ2 H4 fun z H5 => DcE D (Pv D (i + 1)) y z H5 else Pv D (i + 1) H3)
    (hd : ∀ D H', H D = none → Pv D n H' → Q (.ref D) H') : DcR J g tt tk tv vs σ H Q := by
  intro D hD
  refine ⟨fun i m H => m = n - i ∧ i ≤ n ∧ Pv D i H, ⟨n, by simp, Nat.zero_le _, h0 D _ hD (Same.new (Same.refl H) hD) upd_same rfl⟩, ?_⟩
  rintro i m H' ⟨rfl, hi, p⟩
  by_cases hlt : i < n
  · exact .inr ⟨hg D i H' hD hlt p, Pv D (i + 1), fun H2 p' => ⟨n - (i + 1), by omega, rfl, hlt, p'⟩, fun x H2 y => hs D i H' x H2 hD hlt p y⟩
  · obtain rfl : i = n := by omega
    exact .inl ⟨he D H' hD p, hd D H' hD p⟩
theorem dcR_lst {a : Addr} {xs : List V} (Pv : Addr → Nat → Hp → Prop) (hl : ∀ D i H', H D = none → Pv D i H' → SqL K H' a xs) (h0 : ∀ D H', H D = none → Same H H' → H' D = some (.dK (dI [])) → H' = upd H D (.dK (dI [])) → Pv D 0 H')
    (hs : ∀ D i x H', H D = none → xs[i]? = some x → Pv D i H' → g x (wipe σ vs) H' fun σ2 H2 => wipe σ2 vs = wipe σ vs ∧ tt σ2 H2 fun b H3 => if b = true then tk σ2 H3 fun y H4 => tv σ2 H4 fun z H5 => DcE D (Pv D (i + 1)) y z H5 else Pv D (i + 1) H3)
    (hd : ∀ D H', H D = none → Pv D xs.length H' → Q (.ref D) H') : DcR (Itl K a) g tt tk tv vs σ H Q :=
  dcR_gen _ xs.length Pv h0 (fun D i H' hD h p => ⟨xs, xs[i], hl D i H' hD p, by simp [h]⟩) (fun D H' hD p => ⟨xs, hl D _ H' hD p, Nat.le_refl _⟩)
    (fun D i H' x H2 hD hi p ⟨e1, e2⟩ => by subst e1; exact hs D i x _ hD (e2 xs (hl D i _ hD p)) p) hd
/-! ### the keys of a dict that is walked -/
def KeysR (R : It → Hp → Prop) (x : V) (H : Hp) : Prop := ∃ d o, x = .ref d ∧ ((∃ kvs, H d = some (.frz o (.dK kvs)) ∧ R (Itk d o kvs) H) ∨ ∃ kvs, H d = some (.frz o (.dT kvs)) ∧ R (Itkt d o kvs) H)
theorem rd_iKeys {R : It → Hp → Prop} (h : td σ H fun x H1 => KeysR R x H1) : iKeys td σ H R := h
theorem rd_keysR {R : It → Hp → Prop} {d : Addr} {o : Obj} {kvs : List (Key × V)} (e : H d = some (.frz o (.dK kvs))) (h : R (Itk d o kvs) H) : KeysR R (.ref d) H := ⟨d, o, rfl, .inl ⟨kvs, e, h⟩⟩
theorem rd_lock {d : Addr} {u : HO} (e : H d = some u) (m : Mut (some u)) (h : ∀ od, te σ (upd H d (.frz od u)) fun v H' => H' d = some (.frz od u) ∧ Q v (upd H' d u)) : tLockE te σ H Q := ⟨d, u, e, m, h⟩
theorem dcR_keys {d : Addr} {o : Obj} {kvs : List (Key × V)} (Pv : Addr → Nat → Hp → Prop) (hl : ∀ D i H', H D = none → Pv D i H' → H' d = some (.frz o (.dK kvs))) (h0 : ∀ D H', H D = none → Same H H' → H' D = some (.dK (dI [])) → H' = upd H D (.dK (dI [])) → Pv D 0 H')
    (hs : ∀ D i k z H', H D = none → kvs[i]? = some (k, z) → Pv D i H' → g (kV k) (wipe σ vs) H' fun σ2 H2 => wipe σ2 vs = wipe σ vs ∧ tt σ2 H2 fun b H3 => if b = true then tk σ2 H3 fun y H4 => tv σ2 H4 fun z H5 => DcE D (Pv D (i + 1)) y z H5 else Pv D (i + 1) H3)
    (hd : ∀ D H', H D = none → Pv D kvs.length H' → Q (.ref D) H') : DcR (Itk d o kvs) g tt tk tv vs σ H Q :=
  dcR_gen _ kvs.length Pv h0 (fun D i H' hD h p => ⟨hl D i H' hD p, h⟩) (fun D H' hD p => ⟨hl D _ H' hD p, Nat.le_refl _⟩)
    (fun D i H' x H2 hD hi p ⟨e1, k, v, e2, e3⟩ => by subst e1; subst e3; exact hs D i k v _ hD e2 p) hd
theorem lcR_keys {d : Addr} {o : Obj} {kvs : List (Key × V)} (Pv : Addr → Nat → Hp → Prop) (hl : ∀ D i H', H D = none → Pv D i H' → H' d = some (.frz o (.dK kvs))) (h0 : ∀ D H', H D = none → Same H H' → H' D = some (.lst []) → H' = upd H D (.lst []) → Pv D 0 H')
    (hs : ∀ D i k z H', H D = none → kvs[i]? = some (k, z) → Pv D i H' → g (kV k) (wipe σ vs) H' fun σ2 H2 => wipe σ2 vs = wipe σ vs ∧ tt σ2 H2 fun b H3 => if b = true then te σ2 H3 fun y H4 => LcE D (Pv D (i + 1)) y H4 else Pv D (i + 1) H3)
    (hd : ∀ D H', H D = none → Pv D kvs.length H' → Q (.ref D) H') : LcR (Itk d o kvs) g tt te vs σ H Q :=
  lcR_gen _ kvs.length Pv h0 (fun D i H' hD h p => ⟨hl D i H' hD p, h⟩) (fun D H' hD p => ⟨hl D _ H' hD p, Nat.le_refl _⟩)
    (fun D i H' x H2 hD hi p ⟨e1, k, v, e2, e3⟩ => by subst e1; subst e3; exact hs D i k v _ hD e2 p) hd
end
end Sl
set_option Elab.async false
set_option linter.all false
set_option maxRecDepth 100000
set_option maxHeartbeats 4000000
/-! ### t != u of tuples whose items are all equal, one of them a dict -/
namespace GQ
open PySem PySem.SeqAt
open AutoSeq1 (wpAny_loadPart')
open MeetsSeq MeetsSeq2 MeetsSeq3 SeqRoads2
section
variable {prog : Program} {w : World} {A : Around} {R : Result → Shared → Prop} {E : Value → Shared → Prop}
theorem tup_neT (t u : Addr) (xs ys : Array Value) (n m : Nat) (d1 d2 : Option Addr) (l1 l2 : Array (Option Value)) (len : xs.size = ys.size) {s : Shared}
    (each : ∀ i (h1 : i < xs.size) (h2 : i < ys.size) (E' : Value → Shared → Prop) (Q : Bool → Shared → Prop), Q true s → wpAny (model prog w) A.in1 (eqBool xs[i] ys[i]) Q E' s)
    (e1 : s.heap.get? t = some { cls := .type "tuple", dict := d1, data := .seq xs n, slots := l1 }) (e2 : s.heap.get? u = some { cls := .type "tuple", dict := d2, data := .seq ys m, slots := l2 }) (fin : R (.ok (.ret (.bool false))) s) :
    wpAny (model prog w) A.in1 (Builtin.«tuple.__ne__» ⟨[.ref t, .ref u], []⟩) (FinOf prog w A R) (fun e s' => R (.error e) s') s := by
  have f2 := AutoSeq1.sub_tuple_tuple
  have hz : (xs.toList.zip ys.toList).length = xs.size := by simp [len]
  obtain ⟨hp, gn, dr, tk, os⟩ := s
  wp_walk using wpAny_loadPart' e1, wpAny_loadPart' e2, wpAny_forIn_list _ (fun rest b s' => b.1 = none ∧ s' = (⟨hp, gn, dr, tk, os⟩ : Shared) ∧ ∃ i, rest = (xs.toList.zip ys.toList).drop i ∧ i ≤ xs.size) _
  case turn =>
    rintro ⟨y, x⟩ rest b s' ⟨hb, rfl, i, hr, hi⟩
    have lt : i < (xs.toList.zip ys.toList).length := by
      rcases Nat.lt_or_ge i (xs.toList.zip ys.toList).length with z | z
      · exact z
      · rw [List.drop_of_length_le z] at hr
        cases hr
    have h1 : i < xs.size := hz ▸ lt
    have h2 : i < ys.size := len ▸ h1
    rw [List.drop_eq_getElem_cons lt] at hr
    injection hr with q1 q2
    obtain rfl : y = xs[i] := by simpa using congrArg Prod.fst q1
    obtain rfl : x = ys[i] := by simpa using congrArg Prod.snd q1
    refine wpAny_bind (each i h1 h2 _ _ ?_)
    wp_walk
    exact ⟨rfl, rfl, i + 1, q2, h1⟩
  case fin =>
    rintro ⟨b1, b2⟩ s' ⟨hb, rfl, i, hr, hi⟩
    simp only at hb
    subst hb
    wp_walk
    simpa [Builtin.Tuple.tupleCompareSizes, len] using fin
  case h =>
    exact ⟨rfl, rfl, 0, rfl, Nat.zero_le _⟩
theorem rcne_tup {t u : Addr} {xs ys : Array Value} {Q : Value → Shared → Prop} {s : Shared} (len : xs.size = ys.size) (hu : A.units < cLine) (h1 : s.heap.IsTuple t xs) (h2 : s.heap.IsTuple u ys)
    (each : ∀ i (h1 : i < xs.size) (h2 : i < ys.size) (E' : Value → Shared → Prop) (Q : Bool → Shared → Prop), Q true s → wpAny (model prog w) A.in1 (eqBool xs[i] ys[i]) Q E' s) (fin : Q (.bool false) s) : wpAny (model prog w) A (richCompare .NotEq (.ref t) (.ref u)) Q E s := by
  obtain ⟨⟨c1, d1, k1, l1⟩, o1, z1, n, y1⟩ := id h1
  obtain ⟨⟨c2, d2, k2, l2⟩, o2, z2, m, y2⟩ := id h2
  simp only at z1 y1 z2 y2
  subst z1 y1 z2 y2
  refine wpAny_richCompare_same_room (op := .NotEq) ⟨_, o1, rfl⟩ ⟨_, o2, rfl⟩ F.slot_tuple_ne (call_here F.slot_tuple_ne ⟨_, o1, rfl⟩ F.entry_tuple_ne (F.args_tuple_ne_2 _ _) ?_) hu
  exact tup_neT (R := wants (fun v s' => v ≠ .notImplemented ∧ Q v s') E) t u xs ys n m d1 d2 l1 l2 len each o1 o2 ⟨(fun x => nomatch x), fin⟩
end
end GQ
namespace L2
open PySem PySem.Spec PyProof.Rows
section
variable {X : Cx}
/-- (i, d) != (i, e), d and e equal dicts -/
def rNePD (K : PySem.W.Frag) : R2 := fun x y H Q => ∃ t u i a b ls, x = .ref t ∧ y = .ref u ∧ H t = some (.tup [.int i, .ref a]) ∧ H u = some (.tup [.int i, .ref b]) ∧ H a = some (.dK (dI ls)) ∧ H b = some (.dK (dI ls)) ∧ (ls.map (·.1)).Nodup ∧ Q (.bl false) H
theorem op_nePD (hu : X.A.units + 64 < cLine) : OpR X (compareOp .NotEq) (rNePD X.K) := by
  intro pins s σ H x y v u' Q I rx ry h
  obtain ⟨t, u, i, a, b, ls, rfl, rfl, et, eu, ea, eb, nd, q⟩ := h
  obtain rfl : v = Value.ref t := rx
  obtain rfl : u' = Value.ref u := ry
  obtain ⟨xs, r1, p1, _⟩ := I.tuple (SqT.of et)
  obtain ⟨ys, r2, p2, _⟩ := I.tuple (SqT.of eu)
  obtain ⟨x1, x2, rfl, ⟨tx, rfl⟩, w2⟩ := vals2 r1
  obtain ⟨y1, y2, rfl, ⟨ty, rfl⟩, z2⟩ := vals2 r2
  obtain rfl : x2 = Value.ref a := w2
  obtain rfl : y2 = Value.ref b := z2
  obtain ⟨_, ya, va, ra, da⟩ := (show ObjOk X.prog X.w H s.heap a (.dK (dI ls)) from I.hok a _ ea)
  obtain ⟨_, yb, vb, rb, db⟩ := (show ObjOk X.prog X.w H s.heap b (.dK (dI ls)) from I.hok b _ eb)
  show wpAny (model X.prog X.w) X.A (richCompare .NotEq (.ref t) (.ref u)) (EP X pins σ Q) X.xe s
  refine GQ.rcne_tup (by simp) (by omega) p1 p2 (fun j h1 h2 E' Q' q' => ?_) ⟨.bl false, H, I, rfl, q⟩
  match j, h1, h2 with
  | 0, _, _ => exact (eqAt_same (A := X.A.in1) (s := s) (show RelV (V.int i) (Value.int i tx) from ⟨tx, rfl⟩) (show RelV (V.int i) (Value.int i ty) from ⟨ty, rfl⟩) rfl) X.prog X.w E' Q' q'
  | 1, _, _ =>
    show wpAny (model X.prog X.w) X.A.in1 (eqBool (Value.ref a) (Value.ref b)) Q' E' s
    by_cases c : a = b
    · subst c
      exact SeqAt.EqAt.same (A := X.A.in1) (s := s) (.ref a) X.prog X.w E' Q' q'
    · refine GQ.eqBool_refG c ?_
      show wpAny (model X.prog X.w) X.A.in1 (compareOp .Eq (.ref a) (.ref b)) _ E' s
      refine PySem.W.keq_eq (knd := mixKind X.prog X.w) (r := true) ya yb da db (by show X.A.units + 1 < cLine; omega) (fun e => (dI_hits nd (.inl rfl) ra rb e).2) ?_
      rw [dI_ans (.inl rfl) ra rb, decide_eq_true rfl]
      exact ⟨true, rfl, q'⟩
  | j + 2, h1, _ => exact absurd h1 (by simp)
end
end L2
namespace Sl
open PySem L2 C8 StX
theorem rd_nePD {K : PySem.W.Frag} {H : Hp} {Q : VK} {t u a b : Addr} {i : Int} {ls : List (Int × Int)} (et : H t = some (.tup [.int i, .ref a])) (eu : H u = some (.tup [.int i, .ref b])) (ea : H a = some (.dK (dI ls))) (eb : H b = some (.dK (dI ls))) (nd : (ls.map (·.1)).Nodup) (q : Q (.bl false) H) : rNePD K (.ref t) (.ref u) H Q :=
  ⟨t, u, i, a, b, ls, rfl, rfl, et, eu, ea, eb, nd, q⟩
end Sl
set_option Elab.async false
set_option linter.all false
set_option maxRecDepth 100000
set_option maxHeartbeats 400000
namespace L2
open PySem PySem.Spec PyProof.Rows NdefX
/-! ### an own error over ValueError whose __init__ begins with super().__init__('..') -/
section
variable {prog : Program} {w : World} {A : Around} {E : Value → Shared → Prop} {h : Heap} {g : Array GenState} {d : Drawn} {t : Nat} {os : OsState}
variable {nm q : Str} {C N u e t0 : Addr} {bs bm : List Value} {hd : Bool} {sn : List Str} {sub : List Value} {ab : Bool} {col : Option Bool} {dd : Option Addr} {k0 k1 k2 k3 k5 : Option Value}
/-- the bound ValueError.__init__ called: the error's texts are laid anew -/
theorem call_mw {us : List Value} {Q : Value → Shared → Prop} (hC : h.get? C = some (excClassObj nm q C N bs bm hd sn sub ab col dd k0 k1 k2 k3 k5 "ValueError.__new__")) (he : h.get? e = some (HandSPX.excO C t0))
    (hu : h.get? u = some (PySem.W.kxs_mw "ValueError.__init__" e)) (hl : us.length ≤ sizeLine)
    (hq : ∀ h' t1, (∀ b o, b ≠ e → h.get? b = some o → h'.get? b = some o) → h'.get? e = some (HandSPX.excO C t1) → Q .none ⟨h', g, d, t, os⟩) : wpAny (model prog w) A (call (.ref u) us) Q E ⟨h, g, d, t, os⟩ := by
  refine wpAny_call (codeAny_of_tree ?_)
  show wpAny _ A.in1 (callAny (.ref u) ⟨us, []⟩) _ _ _
  simp only [callAny]
  have two : (Value.type "method-wrapper" == Value.type "method" || Value.type "method-wrapper" == Value.type "builtin_function_or_method" || Value.type "method-wrapper" == Value.type "method-wrapper") = true := by decide
  refine wpAny_bind (wpAny_load hu ?_)
  simp only [PySem.W.kxs_mw, two, if_true]
  refine PySem.W.KFB.if_so (by decide) ?_
  refine wpAny_bind (PySem.ESX.check_bound (F.excBase_ValueError) hC he rfl ?_)
  refine (wpAny_bind (wpAny_pure (wpAny_pure ?_)))
  have EN := F.excBase_ValueError.initEntry
  refine ⟨Code.quiet_builtin _ (by decide +kernel), (codeAny_builtin EN ?_)⟩
  exact PySem.W.exc_init_tree (cls := .ref C) (t0 := t0) (dv := none) (c2 := .none) (c3 := .none) (b4 := .bool false) he hl fun h' k e' _ => hq h' _ k e'
end
/-- what the written part says of such a class and its __init__ -/
structure SupFn (P : Program) (K : PySem.W.Frag) (qual : Str) (st : Stmt) (f C : Addr) (fd : FuncData) : Prop where
  ex : ∃ (cc cda : Addr) (oc kV doc pm ct ccl cl : Value) (od an cdd cld : Option Addr) (osl ccs csl : Array (Option Value)) (vs : Array Value) (file : Str) (tf : Tok), fd = PySem.W.fnX "__init__" qual (C8.fnArgs st) (C8.fnBody st) (C8.fnScope st) [("__class__", cc)] .none kV doc pm an (.ref cda) ct ∧
    K.lookup f = some ⟨oc, od, .func fd, osl⟩ ∧ PySem.W.codeIn K (.ref cda) qual = true ∧ K.lookup cda = some ⟨ccl, cdd, .fields vs, ccs⟩ ∧ vs[2]? = some (.str file tf) ∧ ((P.main.file : Str) == file) = true ∧ K.lookup cc = some ⟨cl, cld, .cell (some (.ref C)), csl⟩
  top : (P.main.scope.names.lookup ("super" : Str)).isSome = false
  sub : PySem.W.mroIn K C (.ref C) = some true
  sup : PySem.W.ks_superIn K C C "__init__" = some (some (.builtin "ValueError.__init__"))
  ve : PySem.W.subIn K (.ref C) (.type "ValueError") = some true
  any : PySem.W.nsIn K cStatics "thirdparty.any" = some none
abbrev supNF (qual : Str) (st : Stmt) (cc cda : Addr) : NF := ⟨"__init__", qual, C8.fnArgs st, C8.fnBody st, C8.fnScope st, [("__class__", cc)], cda⟩
abbrev supCx (CX : CXT) (P : Program) (w : World) (K : PySem.W.Frag) (mg : Str → Option Value) (base : Heap) (N : List Str) (qual : Str) (st : Stmt) (cc cda f : Addr) (A : Around) (outer : List Env) (s : Shared) (H : Hp) (E : XK) : Cx := ncx CX P w K mg base N (supNF qual st cc cda) f A outer s H E
section
variable {CX : CXT} {P : Program} {w : World} {K : PySem.W.Frag} {mg : Str → Option Value} {base : Heap} {N ps : List Str} {f C : Addr} {qual txt : Str} {st : Stmt} {fd : FuncData} {k j : Nat} {sp : Sp} {p0 p1 p2 p3 p4 p5 : Pos} {rest : List Stmt} {ar : Arg}
theorem fn_sup (F : SupFn P K qual st f C fd) (S : NScope N ps ["__class__"] (C8.fnScope st)) (hc : ∀ env : Env, ∃ pl : Sem Bool, eval (.Call (.Attribute (.Call (.Name "super" p0) [] [] p1) "__init__" p2) [.Constant (.str txt) j p3] [] p4) env = (do
      let ov ← attributeBase (.Call (.Name "super" p0) [] [] p1) "__init__" env (eval (.Call (.Name "super" p0) [] [] p1) env)
      standAt p2.atName
      let (f, first) ← holding [ov] (getMethod ov "__init__" pl)
      callWith p4 f first (backTo p4 (starEach [.Constant (.str txt) j p3] env)) []))
    (hst : C8.fnBody st = .Expr (.Call (.Attribute (.Call (.Name "super" p0) [] [] p1) "__init__" p2) [.Constant (.str txt) j p3] [] p4) p5 :: rest)
    (hp : ((C8.fnArgs st).posonlyargs ++ (C8.fnArgs st).args).head? = some ar) (h0 : N[0]? = some ar.arg) (h1 : ar.arg ∈ ps) (hks : (C8.fnScope st).names.lookup ("super" : Str) = some .globalImplicit) (hm : mg "super" = none) (T : OexC K C)
    (len : ∀ vs H Q E, sp vs H Q E → vs.length = ps.length) (sp1 : ∀ vs H Q E, sp vs H Q E → ∃ a ws, vs = V.ref a :: ws ∧ H a = some (exo a C none))
    (hbody : ∀ (cc cda : Addr) (A : Around) (outer : List Env) (s : Shared) (H : Hp) (vs : List V) (Q : VK) (E : XK), Room k (A.deeper (envF (supNF qual st cc cda) f s.heap.objs.size)) → sp vs H Q E →
      ∃ t, PSs (supCx CX P w K mg base N qual st cc cda f A outer s H E) rest t ∧ t { nx := fun _ H' => Q .non H', rt := Q } (startF N vs [none]) H) : FnOk P w K mg base CX (k + 1) f fd ps sp := by
  obtain ⟨cc, cda, oc, kV, doc, pm, ct, ccl, cl, od, an, cdd, cld, osl, ccs, csl, vs2, file, tf, rfl, lk, hcd, lc, hvs, hfile, lcell⟩ := F.ex
  refine ⟨len, fun A outer s H args us vs Q E hr e0 hb r hsp => ?_⟩
  have hl := len _ _ _ _ hsp
  have KX : K.In s.heap := e0.mod.kin.keeps fun b o e => (e0.bs b o e).1
  have lim : s.heap.NoLimit := e0.mod.nolimit.keeps fun b o e => (e0.bs b o e).1
  obtain ⟨a, ws, rfl, ea⟩ := sp1 _ _ _ _ hsp
  obtain ⟨t, ht, hq⟩ := hbody cc cda A outer s H _ Q E (hr.deeper _) hsp
  have CA : CellsAt [((("__class__" : Str)), cc)] ["__class__"] [none] s.heap H := by
    have one : ∀ (y : Str) (c : Addr), List.lookup y [((("__class__" : Str)), cc)] = some c → y = ("__class__" : Str) ∧ c = cc := fun y c e => by
      have m := PySem.mem_of_lookup e
      have m := List.mem_singleton.mp m
      exact ⟨congrArg Prod.fst m, congrArg Prod.snd m⟩
    have hcb := e0.bs _ _ (e0.mod.kin _ _ lcell)
    refine ⟨rfl, fun y c e => ?_, fun x y c e1 e2 => ?_, fun i y e => ?_⟩
    · obtain ⟨rfl, rfl⟩ := one y c e
      exact ⟨hcb.2, _, _, hcb.1, rfl⟩
    · rw [(one x c e1).1, (one y c e2).1]
    · have hi : i = 0 := by
        have := (List.getElem?_eq_some_iff.mp e).1
        simp at this
        exact this
      subst hi
      cases e
      exact ⟨cc, List.lookup_cons_self, fun v ev => by cases ev⟩
  refine PySem.ks_codeAny_call_defAt (body := C8.fnBody st) (binds := ps.zip us) hr.depth (KX _ _ lk) rfl lim (PySem.W.codeRec_of KX hcd) rfl hb S.nocell (fun ⟨n, _⟩ hy => S.par n (List.of_mem_zip hy).1) (fun h₁ hns kp => ?_) S.co S.gen S.kind
  have I : Inv (supCx CX P w K mg base N qual st cc cda f A outer s H E) [] (startF N (V.ref a :: ws) [none]) H { s with heap := h₁, toks := s.toks + (ps.zip us).length } := inv_startN S hr.hd e0 hl r CA hns kp
  have kind : ∀ L, interactive (PySem.W.envX qual (C8.fnScope st) L f (.ref cda) [("__class__", cc)]) = false := fun L => by
    show ((C8.fnScope st).kind == .module && _) = false
    rw [S.kind]
    rfl
  show PySem.wpAt (model P w) (A.deeper (PySem.W.envX qual (C8.fnScope st) s.heap.objs.size f (.ref cda) [("__class__", cc)])) (.func (C8.fnBody st) (PySem.W.envX qual (C8.fnScope st) s.heap.objs.size f (.ref cda) [("__class__", cc)])) (execs (C8.fnBody st) (PySem.W.envX qual (C8.fnScope st) s.heap.objs.size f (.ref cda) [("__class__", cc)])) _ _ _
  obtain ⟨pl, he⟩ := hc (PySem.W.envX qual (C8.fnScope st) s.heap.objs.size f (.ref cda) [("__class__", cc)])
  have eB : execs (C8.fnBody st) (PySem.W.envX qual (C8.fnScope st) s.heap.objs.size f (.ref cda) [("__class__", cc)]) = execs (.Expr (.Call (.Attribute (.Call (.Name "super" p0) [] [] p1) "__init__" p2) [.Constant (.str txt) j p3] [] p4) p5 :: rest) (PySem.W.envX qual (C8.fnScope st) s.heap.objs.size f (.ref cda) [("__class__", cc)]) := by rw [hst]
  rw [eB]
  refine PySem.ks_wpAt_execs_cons (PySem.ks_wpAt_Expr_any (PySem.ks_wpAt_MethodCall (pl := pl) ?_ he) (kind _) rfl)
  obtain ⟨nm, qn, NS, bs, bm, sn, sub, ab, col, dd, k0, k1, k2, k3, k5, hC, hbm⟩ := T.cls
  obtain ⟨cd, hcl, hmro⟩ : ∃ cd, PySem.W.clsIn K C = some cd ∧ (∀ h : Heap, K.In h → PySem.W.Looks (model P w) h (mroOf (.ref C)) cd.mro) := by
    refine ⟨_, (by unfold PySem.W.clsIn; rw [hC]), fun h hk => ?_⟩
    exact (PySem.W.looks_clsIn hk (by unfold PySem.W.clsIn; rw [hC])).andThen .now
  have hsup := F.sup
  unfold PySem.W.ks_superIn at hsup
  rw [hcl] at hsup
  have hkc : (C8.fnScope st).names.lookup ("__class__" : Str) = some .free := S.frk _ List.mem_cons_self
  obtain ⟨t1, ho⟩ := exo_at I.hok ea
  obtain ⟨m, hn, hloc⟩ := I.loc
  obtain ⟨ua, rua, lua⟩ := hloc 0 ar.arg (.ref a) h0 rfl (.inl (S.par _ h1))
  obtain rfl : ua = Value.ref a := rua
  have hua : m ar.arg = some (.ref a) := by
    rcases lua with ⟨_, z⟩ | ⟨z, _⟩
    · exact z
    · have y := S.par _ h1
      rcases z with z | z
      · exact absurd (y.symm.trans z) (by simp)
      · exact absurd (y.symm.trans z) (by simp)
  have hCb : H C = none := (I.bs C _ (I.ok.mod.kin _ _ hC)).2
  have haC : a ≠ C := fun z => by rw [z, hCb] at ea; cases ea
  refine PySem.ks_wpAt_super_base hks hkc (by decide +kernel) rfl (I.kIn _ _ lk) rfl hp rfl (I.kIn _ _ lc) rfl hvs hfile F.top ?_
  refine PySem.W.ks_loadName_global S.kind hks ?_
  obtain ⟨mb, hb1, hb2⟩ := I.mod.blt
  refine Calls.loadGlobal_builtin (I.mod.glob.keeps I.bk) hm (hb1.keeps I.bk) ((hb2 _ (by decide +kernel)).trans (by decide +kernel)) ⟨rfl, ?_⟩
  refine wpAny_loadName_free S.kind hkc rfl ⟨_, I.kIn _ _ lcell, rfl⟩ ?_
  refine wpAny_loadName_local S.kind (S.par _ h1) hn hua ?_
  refine PySem.ks_wpAny_isType_cls (I.kIn _ _ hC) rfl ⟨rfl, ?_⟩
  refine PySem.ks_wpAny_call_super (I.kIn _ _ hC) rfl ho rfl (fun c z => nomatch z) (PySem.W.looks_mroIn I.kIn F.sub) (fun h2 hso k2 => ?_)
  -- .__init__
  have I2 := I.kept (t' := s.toks + (ps.zip us).length) k2
  have ho2 := k2 _ _ ho
  have II : PySem.W.InstAt h2 a _ C none := ⟨ho2, rfl, rfl, trivial⟩
  refine PySem.W.kxs_getMethod PySem.W.kxs_ValueError hso (PySem.W.looks_opaque I2.kIn F.any) (hmro _ I2.kIn) rfl I2.kIn hsup (II.type.andThen (PySem.W.looks_subIn I2.kIn F.ve)) haC (by decide +kernel) ?_
  have hmw : (h2.push (PySem.W.kxs_mw "ValueError.__init__" a)).get? h2.objs.size = some (PySem.W.kxs_mw "ValueError.__init__" a) := Heap.get?_push_at rfl rfl
  have k3 : ∀ b o, h2.get? b = some o → (h2.push (PySem.W.kxs_mw "ValueError.__init__" a)).get? b = some o := fun b o e => Heap.get?_push_of_some _ e
  have I3 := (I2.kept (t' := s.toks + (ps.zip us).length + 1) k3).pins_of (pins' := [(h2.objs.size, PySem.W.kxs_mw "ValueError.__init__" a)]) (fun p hp => by
    rw [List.mem_singleton.mp hp]
    exact ⟨hmw, I2.hok.fresh (Nat.le_refl _), Ne.symm (Nat.ne_of_lt I2.lt), I2.nofs (Nat.le_refl _), fun v z => nomatch z⟩)
  refine PySem.W.kxs_callWith (i := "ValueError.__init__") (x := a) rfl (PySem.Calls.evalArgs_plain ?_)
  refine thn ((pa_cons (pe_str (x := txt) (j := j) (pos := p3)) pa_nil).run p4 _ _ _ H (fun vs H1 => H1 = H ∧ vs.length = 1) I3 ⟨rfl, rfl⟩) fun us4 s4 ⟨vs4, H4, I4, r4, eH, hl4⟩ => ?_
  subst eH
  obtain ⟨hu4, -⟩ := I4.pin _ (List.mem_append_right _ (List.mem_singleton.mpr rfl))
  refine ⟨hu4, ?_⟩
  obtain ⟨t4, ho4⟩ := exo_at I4.hok ea
  obtain ⟨h4, g4, d4, tk4, os4⟩ := s4
  refine call_mw (I4.kIn _ _ hC) ho4 hu4 (by show us4.length ≤ sizeLine; rw [← r4.length, hl4]; decide) (fun h5 t5 k5 he5 => ?_)
  have J0 := I4.write (t' := tk4) (x := a) (e := a) (o := exo a C none) (by rw [ea]; exact True.intro) (.inl rfl) k5 ⟨_, he5⟩ (exo_ok he5)
  have eu : upd H4 a (exo a C none) = H4 := funext fun b => by
    by_cases hb : b = a
    · rw [hb, upd_same, ea]
    · exact upd_ne hb
  rw [eu] at J0
  have J := J0.pins_of (pins' := []) (fun p hp => nomatch hp)
  refine wpAt_of_wpAny (wpAny_mono (ht.run [] _ _ H4 _ J hq) (fun fl s6 hs => ?_) fun e s6 hs => hs)
  cases fl with
  | ret u =>
    obtain ⟨v, σ', H', J', rv, q⟩ := hs
    exact ⟨v, H', J'.os, J'.bare, J'.base, J'.hok, rv, q⟩
  | next =>
    obtain ⟨σ', H', J', q⟩ := hs
    exact ⟨V.non, H', J'.os, J'.bare, J'.base, J'.hok, rfl, q⟩
  | brk =>
    obtain ⟨_, _, _, q⟩ := hs
    exact False.elim q
  | cont =>
    obtain ⟨_, _, _, q⟩ := hs
    exact False.elim q
end
/-! ### raise C(place) -/
/-- the text of such an __init__: super().__init__('..'), self.place = place -/
structure SupSt (st : Stmt) (N : List Str) : Prop where
  S : NScope N ["self", "place"] ["__class__"] (C8.fnScope st)
  n0 : N[0]? = some ("self" : Str)
  n1 : N[1]? = some ("place" : Str)
  hp : ∃ ar, ((C8.fnArgs st).posonlyargs ++ (C8.fnArgs st).args).head? = some ar ∧ ar.arg = ("self" : Str)
  ks : (C8.fnScope st).names.lookup ("super" : Str) = some .globalImplicit
  tx : ∃ (p0 p1 p2 p3 p4 p5 a1 a2 a3 a4 : Pos) (txt : Str) (j : Nat), C8.fnBody st = [.Expr (.Call (.Attribute (.Call (.Name "super" p0) [] [] p1) "__init__" p2) [.Constant (.str txt) j p3] [] p4) p5, .Assign [.Attribute (.Name "self" a1) "place" a2] (.Name "place" a3) a4] ∧
    ∀ env : Env, ∃ pl : Sem Bool, eval (.Call (.Attribute (.Call (.Name "super" p0) [] [] p1) "__init__" p2) [.Constant (.str txt) j p3] [] p4) env = (do
      let ov ← attributeBase (.Call (.Name "super" p0) [] [] p1) "__init__" env (eval (.Call (.Name "super" p0) [] [] p1) env)
      standAt p2.atName
      let (f, first) ← holding [ov] (getMethod ov "__init__" pl)
      callWith p4 f first (backTo p4 (starEach [.Constant (.str txt) j p3] env)) [])
structure XSup (P : Program) (K : PySem.W.Frag) (C : Addr) (qual : Str) (st : Stmt) : Prop where
  o : OexC K C
  fn : ∃ f fd, SupFn P K qual st f C fd ∧ Binds K fd ["self", "place"] [] ∧ PySem.W.findIn K (.ref C) "__init__" = some (some (.ref f)) ∧ PySem.W.typeIn K (.ref f) = some (.type "function")
  np : PySem.W.findIn K (.ref C) "place" = some none
  xf : XfC K C
  i : PySem.W.isClsIn K C = true
  s : PySem.W.subIn K (.ref C) (.ref C) = some true
theorem XSup.e {P : Program} {K : PySem.W.Frag} {C : Addr} {qual : Str} {st : Stmt} (T : XSup P K C qual st) : PySem.W.exmOne K (.ref C) (.ref C) = some true := Sl.exm_own T.o.exC T.i T.o.tyC T.s
def spSup (C : Addr) : Sp := fun vs H Q _ => ∃ a v, vs = [V.ref a, v] ∧ H a = some (exo a C none) ∧ ∀ dx, H dx = none → dx ≠ a → Q .non (upd (upd H dx (exd dx [("place", v)])) a (exo a C (some dx)))
theorem fn_place {P : Program} {w : World} {K : PySem.W.Frag} {mg : Str → Option Value} {base : Heap} {C f : Addr} {fd : FuncData} {qual : Str} {st : Stmt} {N : List Str} (T : XSup P K C qual st) (F : SupFn P K qual st f C fd) (Z : SupSt st N) (hm : mg "super" = none) :
    FnOk P w K mg base C8.CX0 1 f fd ["self", "place"] (spSup C) := by
  obtain ⟨ar, ha, hn⟩ := Z.hp
  obtain ⟨p0, p1, p2, p3, p4, p5, a1, a2, a3, a4, txt, j, hb, he⟩ := Z.tx
  refine fn_sup (k := 0) F Z.S he hb ha (by rw [hn]; exact Z.n0) (by rw [hn]; exact List.mem_cons_self) Z.ks hm T.o (fun vs H Q E h => ?_) (fun vs H Q E h => ?_) (fun cc cda A outer s H vs Q E hr h => ?_)
  · obtain ⟨a, v, rfl, _⟩ := h
    rfl
  · obtain ⟨a, v, rfl, e, _⟩ := h
    exact ⟨a, [v], rfl, e⟩
  · obtain ⟨a, v, rfl, e, k⟩ := h
    refine ⟨_, pss_one (ps_ost (pe_var (i := 0) Z.n0 (.inl (Z.S.par _ List.mem_cons_self))) (pe_var (i := 1) Z.n1 (.inl (Z.S.par _ (.tail _ List.mem_cons_self))))), ?_⟩
    refine ⟨v, rfl, .ref a, rfl, a, C, rfl, T.o, T.np, .inl ⟨e, fun dx h1 h2 => ?_⟩⟩
    exact k dx h1 h2
/-- raise C(e) -/
def tRaP (C : Addr) (W : WX) (te : TE) : TS := fun _ σ H => tMkO C (spSup C) [] (tCons te tNil) σ H fun cls d H' => W cls d σ H'
theorem ps_raiseP {X : Cx} {W : WX} {x qual : Str} {C : Addr} {st : Stmt} {N : List Str} {e : Expr} {te : TE} {p pos pos2 : Pos} {n : Nat} (hc : X.calm = true) (tk : Takes X W) (T : XSup X.prog X.K C qual st) (Z : SupSt st N) (hm : X.mg "super" = none) (gC : X.mg x = some (.ref C)) (hr : Room n X.A) (hn : 2 ≤ n) (hg : Gl X x)
    (he : PE X e te) (hdb : (x == ("__debug__" : Str)) = false := by decide) (hs : starEach [e] X.env = (false, eval e X.env) :: starEach [] X.env := by rfl) :
    PS X (.Raise (some (.Call (.Name x p) [e] [] pos)) none pos2) (tRaP C W te) := by
  obtain ⟨f, fd, F, hb, iC, tI⟩ := T.fn
  exact ps_raise hc tk (pmk_oex T.o iC tI (fn_place (w := X.w) (base := X.base) T F Z hm) (hr.mono hn) hb .nil C8.pass0 hg gC (pa_cons he pa_nil hs) hdb hs rfl)
end L2
namespace Sl
open PySem L2 C8 StX
section
variable {σ : L2.St} {H : Hp} {C : Addr} {W : WX} {te : TE} {nx bk ct : L2.St → Hp → Prop} {rt : VK}
def rRaP (C : Addr) (W : WX) (σ : L2.St) (vs : List V) (H1 : Hp) : Prop := vs.length ≤ 1000 ∧ ∀ a, H1 a = none → spSup C (.ref a :: (vs ++ [])) (upd H1 a (exo a C none))
  (fun v H2 => v = .non ∧ ∃ (d : Addr) (fs : List (Str × V)), H2 a = some (exo a C (some d)) ∧ H2 d = some (exd d fs) ∧ H1 d = none ∧ W (.ref C) (some d) σ (upd (del H2 a) d (.xd fs))) (fun _ _ _ => False)
theorem rd_raP0 (h : tCons te tNil σ H fun vs H1 => rRaP C W σ vs H1) : tRaP C W te ⟨nx, rt, bk, ct⟩ σ H := h
theorem rd_raP {v : V} (h : ∀ d H', H d = none → Same H H' → H' d = some (.xd [("place", v)]) → W (.ref C) (some d) σ H') : rRaP C W σ [v] H := by
  refine ⟨(show 1 ≤ 1000 by decide), fun a ha => ⟨a, v, rfl, upd_same, fun dx h1 h2 => ?_⟩⟩
  have hd : H dx = none := by rw [upd_ne h2] at h1; exact h1
  have e : upd (del (upd (upd (upd H a (exo a C none)) dx (exd dx [("place", v)])) a (exo a C (some dx))) a) dx (.xd [("place", v)]) = upd H dx (.xd [("place", v)]) := by
    funext b
    by_cases hb : b = dx
    · rw [hb, upd_same, upd_same]
    · rw [upd_ne hb, upd_ne hb]
      by_cases hc : b = a
      · rw [hc, del_same, ha]
      · rw [del_ne hc, upd_ne hc, upd_ne hb, upd_ne hc]
  show V.non = V.non ∧ _
  refine ⟨rfl, dx, [("place", v)], upd_same, ?_, hd, ?_⟩
  · rw [upd_ne h2, upd_same]
  · rw [e]
    exact h dx _ hd (Same.new (Same.refl H) hd) upd_same
end
/-! ### try .. except X as n -/
end Sl
namespace L2
open PySem PySem.Spec PyProof.Rows
section
variable {X : Cx} {x n : Str} {c : Value} {i : Nat} {body suite : List Stmt} {b₀ : Stmt} {np pos pos' : Pos} {tb : WX → TS} {ts : Addr → Value → Option Addr → TS} {Wout : WX}
def tTryAs (K : PySem.W.Frag) (c : Value) (i : Nat) (tb : WX → TS) (ts : Addr → Value → Option Addr → TS) (Wout : WX) : TS := fun D σ H => tb (wAs K c i ts Wout D) D σ H
theorem ps_tryAsO (hs : X.stack = X.env :: X.outer) (hf : X.env.frame = some X.env.locals) (hN : X.N.Nodup) (hi : X.N[i]? = some n) (hln : X.env.kindOf n = some .local) (hc : Names X x c) (tk : Takes X Wout)
    (hb : ∀ (W : WX) (pn : List (Addr × Obj)) (xe : Value → Shared → Prop), Takes (X.tr pn xe) W → PSs (X.tr pn xe) body (tb W))
    (hsu : ∀ (a : Addr) (oe : Obj) (cls : Value) (d : Option Addr) (pn : List (Addr × Obj)), Zc cls d oe → (∃ vs, oe.data = .fields vs) → PSs (X.suite a ((a, oe) :: pn)) (b₀ :: suite) (ts a cls d)) :
    PS X (.Try body [.ExceptHandler (some (.Name x np)) (some n) (b₀ :: suite) pos'] [] [] pos) (tTryAs X.K c i tb ts Wout) :=
  ps_try_as hs hf hN hi hln hc tk (fun W pn xe k _ => hb W pn xe k) hsu
end
end L2
namespace Sl
open PySem L2 C8 StX
section
variable {σ : L2.St} {H : Hp} {Q : VK} {K : PySem.W.Frag} {C a dd : Addr} {Wout : WX} {te : TE} {tb : WX → TS} {ts : Addr → Value → Option Addr → TS} {c cls : Value} {d : Option Addr} {D : Ends} {i : Nat} {f : Str} {fs : List (Str × V)} {v : V}
theorem rd_tryAs (h : tb (wAs K c i ts Wout D) D σ H) : tTryAs K c i tb ts Wout D σ H := h
theorem rd_caughtAs (he : PySem.W.exmOne K cls c = some true) (h : ∀ a, H a = none → ts a cls d { nx := fun σ' H' => D.nx (σ'.set i none) H', rt := D.rt, bk := fun σ' H' => D.bk (σ'.set i none) H', ct := fun σ' H' => D.ct (σ'.set i none) H' } (σ.set i (some (.ref a))) H) :
    WE (wAs K c i ts Wout D) σ cls d H := ⟨true, he, fun _ => h, fun q => nomatch q⟩
def rXf (a : Addr) (cls : Value) (d : Option Addr) (C : Addr) (f : Str) (x : V) (H1 : Hp) (Q : VK) : Prop := x = .ref a ∧ cls = .ref C ∧ ∃ (dd : Addr) (fs : List (Str × V)) (v : V), d = some dd ∧ H1 dd = some (.xd fs) ∧ fs.lookup f = some v ∧ Q v H1
theorem rd_xf0 (h : te σ H fun x H1 => rXf a cls d C f x H1 Q) : tXf a cls d C f te σ H Q := h
theorem rd_xf (e : H dd = some (.xd fs)) (l : fs.lookup f = some v) (h : Q v H) : rXf a (.ref C) (some dd) C f (.ref a) H Q := ⟨rfl, rfl, dd, fs, v, rfl, e, l, h⟩
end
/-! ### the facts -/
section
open PySem.W
variable {P : Program} {K : PySem.W.Frag} {C f cc cda N dX : Addr} {qual nm q : Str} {st : Stmt} {bs bm : List Value} {sn : List Str} {sub : List Value} {ab : Bool} {col : Option Bool} {dd : Option Addr} {k0 k1 k2 k3 k5 : Option Value} {oc kV doc pm ct ccl cl : Value} {od an cdd cld : Option Addr} {osl ccs csl : Array (Option Value)} {vs : Array Value} {file : Str} {tf : Tok}
theorem xsupk (c1 : K.lookup C = some (excClassObj nm q C N bs bm true sn sub ab col dd k0 k1 k2 k3 k5 "ValueError.__new__")) (c2 : PySem.HandSPX.refsVE bm = true) (c3 : findIn K (.ref C) "__setattr__" = some (some (.builtin "object.__setattr__"))) (c4 : subIn K (.ref C) (.type "BaseException") = some true) (c5 : typeIn K (.ref C) = some (.type "type")) (c6 : keepIn K (.ref C) = true)
    (f1 : findIn K (.ref C) "__init__" = some (some (.ref f))) (f2 : K.lookup f = some ⟨oc, od, .func (fnX "__init__" qual (C8.fnArgs st) (C8.fnBody st) (C8.fnScope st) [("__class__", cc)] .none kV doc pm an (.ref cda) ct), osl⟩) (f3 : codeIn K (.ref cda) qual = true) (f4 : K.lookup cda = some ⟨ccl, cdd, .fields vs, ccs⟩) (f5 : vs[2]? = some (.str file tf)) (f6 : ((P.main.file : Str) == file) = true)
    (f7 : K.lookup cc = some ⟨cl, cld, .cell (some (.ref C)), csl⟩) (f8 : typeIn K (.ref f) = some (.type "function")) (s1 : (P.main.scope.names.lookup ("super" : Str)).isSome = false) (s2 : mroIn K C (.ref C) = some true) (s3 : ks_superIn K C C "__init__" = some (some (.builtin "ValueError.__init__"))) (s4 : subIn K (.ref C) (.type "ValueError") = some true) (s5 : nsIn K cStatics "thirdparty.any" = some none)
    (n1 : findIn K (.ref C) "place" = some none) (x1 : xfB K C = true) (i : isClsIn K C = true) (s : subIn K (.ref C) (.ref C) = some true)
    (bd : ∀ (kV doc pm : Value) (an : Option Addr) (cc cda : Addr) (ct : Value) (us : List Value), us.length = 2 → bindArgs (fnX "__init__" qual (C8.fnArgs st) (C8.fnBody st) (C8.fnScope st) [("__class__", cc)] .none kV doc pm an (.ref cda) ct) ⟨us, []⟩ = pure ((["self", "place"] : List Str).zip us)) : XSup P K C qual st :=
  ⟨⟨⟨_, _, _, _, _, _, _, _, _, _, _, _, _, _, _, c1, c2⟩, c3, c4, c5, c6⟩, ⟨f, _, ⟨⟨cc, cda, oc, kV, doc, pm, ct, ccl, cl, od, an, cdd, cld, osl, ccs, csl, vs, file, tf, rfl, f2, f3, f4, f5, f6, f7⟩, s1, s2, s3, s4, s5⟩, .all fun us hl => bd kV doc pm an cc cda ct us hl, f1, f8⟩, n1, xfB_ok x1, i, s⟩
end
end Sl
set_option Elab.async false
set_option linter.all false
set_option maxRecDepth 100000
set_option maxHeartbeats 4000000
/-! ### x != y by the own __eq__ of the class of both (object.__ne__) -/
namespace HNe
open PySem PySem.Spec PyProof.Rows PySem.SeqAt
section
variable {M : Model} {prog : Program} {w : World} {A : Around} {E : Value → Shared → Prop} {s : Shared} {K : PySem.W.Frag} {x y C f : Addr} {ox : Obj} {od : Option Obj}
theorem ifBound_objNe {args : List Value} {Q : Option Value → Shared → Prop} (X : K.In s.heap) (I : PySem.W.InstAt s.heap x ox C od) (hs : PySem.W.findIn K (.ref C) "__ne__" = some (some (.builtin "object.__ne__")))
    (h : wpAny M A (call (.builtin "object.__ne__") (.ref x :: args)) (fun v => Q (some v)) E s) : wpAny M A (callSpecialIfBound? (.ref x) "__ne__" args) Q E s := by
  simp only [callSpecialIfBound?, bindSpecialIfBound?]
  refine wpAny_holding (wpAny_bind (wpAny_bind (wpAny_bind (I.type.here ((PySem.W.looks_findIn X hs).here ?_)))))
  refine wpAny_bind (wpAny_askSetting (wpAny_ite ?_))
  have fin : wpAny M A (call (.builtin "object.__ne__") ([.ref x] ++ args) >>= fun v => pure (some v)) Q E s := wpAny_bind (wpAny_mono h (fun v s' h' => wpAny_pure h') fun _ _ h' => h')
  split
  · exact wpAny_bind (wpAny_of_eq (F.cmp_object.ne.bind _) (wpAny_pure (by exact fin)))
  · exact wpAny_tryCatch (wpAny_bind (wpAny_of_eq (F.cmp_object.ne.bind _) (wpAny_pure (by exact fin))))
theorem entry_ne (X : K.In s.heap) (I : PySem.W.InstAt s.heap x ox C od) (hs : PySem.W.findIn K (.ref C) "__eq__" = some (some (.ref f))) (hf : PySem.W.isFn K (.ref f) = true) (hu : A.units < cLine) {Q : Fin → Shared → Prop}
    (hcall : wpAny M A (call (.ref f) [.ref x, .ref y]) (fun v s' => ∃ b, v = .bool b ∧ Q (.done (.ret (.bool (!b)))) s') E s) : wpAny M A (Builtin.«object.__ne__» ⟨[.ref x, .ref y], []⟩) Q E s := by
  unfold Builtin.«object.__ne__»
  repeat (first
    | with_reducible refine wpAny_cRoomFor hu ?_
    | (refine wpAny_bind (m := callSpecialIfBound? (.ref x) (Str.ofString "__eq__") [.ref y])
        (PySem.W.ifBound_K X I hs hf (wpAny_mono hcall (fun r s' hr => by
          obtain ⟨b, rfl, hq⟩ := hr
          repeat (first | exact hq | exact wpAny_pure hq | exact wpAny_truthy_bool hq | (refine wpAny_bind (m := truthy (.bool _)) (wpAny_truthy_bool ?_)) | wp_step)) fun _ _ e => e)))
    | wp_step)
theorem call_objNe {Q : Value → Shared → Prop} (X : K.In s.heap) (I : PySem.W.InstAt s.heap x ox C od) (hm : PySem.W.mroIn K C (.type "object") = some true) (hs : PySem.W.findIn K (.ref C) "__eq__" = some (some (.ref f))) (hf : PySem.W.isFn K (.ref f) = true) (hu : A.units + 1 < cLine)
    (hcall : wpAny (model prog w) A.in1 (call (.ref f) [.ref x, .ref y]) (fun v s' => ∃ b, v = .bool b ∧ Q (.bool (!b)) s') E s) :
    wpAny (model prog w) A (call (.builtin "object.__ne__") [.ref x, .ref y]) Q E s :=
  wpAny_call (codeAny_call_builtin F.cmp_object.ne.plain F.cmpEntry_ne (PySem.W.check_slot F.cmpKind_ne F.cmpSplit_ne (I.type.andThen (PySem.W.looks_mroIn X hm)) (F.cmpArgs_ne _ _)
    (entry_ne (A := A.in1) X I hs hf hu (wpAny_mono hcall (fun v s' hv => by
      obtain ⟨b, rfl, hq⟩ := hv
      exact ⟨b, rfl, hq⟩) fun _ _ e => e))))
theorem cmp_neK {Q : Value → Shared → Prop} (X : K.In s.heap) (I : PySem.W.InstAt s.heap x ox C od) {oy : Obj} {od2 : Option Obj} (J : PySem.W.InstAt s.heap y oy C od2) (hm : PySem.W.mroIn K C (.type "object") = some true)
    (hn : PySem.W.findIn K (.ref C) "__ne__" = some (some (.builtin "object.__ne__"))) (hs : PySem.W.findIn K (.ref C) "__eq__" = some (some (.ref f))) (hf : PySem.W.isFn K (.ref f) = true) (hu : A.units + 1 < cLine)
    (hcall : wpAny (model prog w) A.in1 (call (.ref f) [.ref x, .ref y]) (fun v s' => ∃ b, v = .bool b ∧ Q (.bool (!b)) s') E s) : wpAny (model prog w) A (compareOp .NotEq (.ref x) (.ref y)) Q E s := by
  show wpAny (model prog w) A (richCompare .NotEq (.ref x) (.ref y)) Q E s
  have one : wpAny (model prog w) A (tryCompare (.ref x) "__ne__" (.ref y)) (fun r s' => ∃ v, r = some v ∧ Q v s') E s := by
    unfold tryCompare
    refine wpAny_bind (ifBound_objNe X I hn (call_objNe X I hm hs hf hu (wpAny_mono hcall (fun v s' hv => ?_) fun _ _ e => e)))
    obtain ⟨b, rfl, hq⟩ := hv
    exact ⟨b, rfl, wpAny_pure ⟨_, rfl, hq⟩⟩
  unfold richCompare
  simp only [oneThing_ref]
  refine wpAny_holding (wpAny_bind (wpAny_cRoomFor (Nat.lt_of_succ_lt hu) ?_))
  rw [cmpInfo_NotEq]
  dsimp only
  refine wpAny_bind (I.type.here (wpAny_bind (J.type.here ?_)))
  rw [show (Value.ref C != Value.ref C) = false from by simp]
  simp only [Bool.false_eq_true, if_false]
  refine wpAny_bind (wpAny_pure ?_)
  simp only [Bool.false_eq_true, if_false]
  refine wpAny_bind (wpAny_mono one (fun r s' z => ?_) fun _ _ e => e)
  obtain ⟨v, rfl, hq⟩ := z
  exact wpAny_pure hq
end
end HNe
namespace L2
open PySem PySem.Spec PyProof.Rows
section
variable {X : Cx} {k j : Nat} {C D : Addr} {sp : Sp} {dvs : List V} {a : Expr} {ta : TE}
/-- x != y by the own __eq__ of the class of both -/
def rNeO (C : Addr) (sp : Sp) (dvs : List V) : R2 := fun x y H Q => ∃ a b dx dy fs gs, x = .ref a ∧ y = .ref b ∧ H a = some (.ins C dx fs) ∧ H b = some (.ins C dy gs) ∧ sp ([.ref a, .ref b] ++ dvs) H (fun v H' => ∃ k, v = .bl k ∧ Q (.bl (!k)) H') C8.E0
theorem op_neO (c : C8.Met X.prog X.w X.K X.mg X.base k C "__eq__" sp dvs) (hr : Room j X.A) (hk : k + 1 ≤ j) (hm : PySem.W.mroIn X.K C (.type "object") = some true) (hn : PySem.W.findIn X.K (.ref C) "__ne__" = some (some (.builtin "object.__ne__"))) : OpR X (compareOp .NotEq) (rNeO C sp dvs) := by
  obtain ⟨f, fd, ps, ds, cl, hme, F, bd, d⟩ := c.ex
  intro pins s σ H x y v u Q I rx ry h
  obtain ⟨o, o2, dx, dy, fs, gs, rfl, rfl, e, e2, q⟩ := h
  obtain rfl : v = Value.ref o := rx
  obtain rfl : u = Value.ref o2 := ry
  obtain ⟨mA, O, _, _, _, _⟩ := ins_get I.hok e
  obtain ⟨mB, O2, _, _, _, _⟩ := ins_get I.hok e2
  obtain ⟨od, J, _⟩ := O.look
  obtain ⟨od2, J2, _⟩ := O2.look
  refine HNe.cmp_neK I.kIn J J2 hm hn hme.at_ hme.fn (by have := hr.units; omega) (wpAny_mono (run_fn1 (us := [.ref o, .ref o2]) (vs := [.ref o, .ref o2]) F (hr.mono hk) bd d C8.pass0 I (.cons rfl (.cons rfl .nil)) q) (fun v s2 y => ?_) fun _ _ y => y)
  obtain ⟨x2, H2, I2, rx2, b, rfl, q2⟩ := y
  obtain rfl : v = Value.bool b := rx2
  exact ⟨b, rfl, .bl (!b), H2, I2, rfl, q2⟩
/-- (i, d) == (i, e), d and e equal dicts -/
def rEqPD (K : PySem.W.Frag) : R2 := fun x y H Q => ∃ t u i a b ls, x = .ref t ∧ y = .ref u ∧ H t = some (.tup [.int i, .ref a]) ∧ H u = some (.tup [.int i, .ref b]) ∧ H a = some (.dK (dI ls)) ∧ H b = some (.dK (dI ls)) ∧ (ls.map (·.1)).Nodup ∧ Q (.bl true) H
theorem op_eqPD (hu : X.A.units + 64 < cLine) : OpR X (compareOp .Eq) (rEqPD X.K) := by
  intro pins s σ H x y v u' Q I rx ry h
  obtain ⟨t, u, i, a, b, ls, rfl, rfl, et, eu, ea, eb, nd, q⟩ := h
  obtain rfl : v = Value.ref t := rx
  obtain rfl : u' = Value.ref u := ry
  obtain ⟨xs, r1, p1, _⟩ := I.tuple (SqT.of et)
  obtain ⟨ys, r2, p2, _⟩ := I.tuple (SqT.of eu)
  obtain ⟨x1, x2, rfl, ⟨tx, rfl⟩, w2⟩ := vals2 r1
  obtain ⟨y1, y2, rfl, ⟨ty, rfl⟩, z2⟩ := vals2 r2
  obtain rfl : x2 = Value.ref a := w2
  obtain rfl : y2 = Value.ref b := z2
  obtain ⟨_, ya, va, ra, da⟩ := (show ObjOk X.prog X.w H s.heap a (.dK (dI ls)) from I.hok a _ ea)
  obtain ⟨_, yb, vb, rb, db⟩ := (show ObjOk X.prog X.w H s.heap b (.dK (dI ls)) from I.hok b _ eb)
  show wpAny (model X.prog X.w) X.A (richCompare .Eq (.ref t) (.ref u)) (EP X pins σ Q) X.xe s
  refine GQ.rc_tupG (by simp) (by omega) (fun _ s' => s' = s) p1 p2 (fun j h1 h2 s' es => ?_) (fun s' es => ?_) rfl
  · subst es
    match j, h1, h2 with
    | 0, _, _ => exact (eqAt_same (A := X.A.in1) (s := s') (show RelV (V.int i) (Value.int i tx) from ⟨tx, rfl⟩) (show RelV (V.int i) (Value.int i ty) from ⟨ty, rfl⟩) rfl) X.prog X.w _ _ ⟨rfl, rfl⟩
    | 1, _, _ =>
      show wpAny (model X.prog X.w) X.A.in1 (eqBool (Value.ref a) (Value.ref b)) _ _ s'
      by_cases c : a = b
      · subst c
        exact SeqAt.EqAt.same (A := X.A.in1) (s := s') (.ref a) X.prog X.w _ _ ⟨rfl, rfl⟩
      · refine GQ.eqBool_refG c ?_
        show wpAny (model X.prog X.w) X.A.in1 (compareOp .Eq (.ref a) (.ref b)) _ _ s'
        refine PySem.W.keq_eq (knd := mixKind X.prog X.w) (r := true) ya yb da db (by show X.A.units + 1 < cLine; omega) (fun e => (dI_hits nd (.inl rfl) ra rb e).2) ?_
        rw [dI_ans (.inl rfl) ra rb, decide_eq_true rfl]
        exact ⟨true, rfl, rfl, rfl⟩
    | j + 2, h1, _ => exact absurd h1 (by simp)
  · subst es
    exact ⟨.bl true, H, I, rfl, q⟩
end
end L2
namespace Sl
open PySem L2 C8 StX
section
variable {σ : L2.St} {H : Hp} {Q : VK} {K : PySem.W.Frag} {C : Addr} {sp : Sp} {dvs : List V}
theorem rd_neO {a b dx dy : Addr} {fs gs : List (Str × V)} (e : H a = some (.ins C dx fs)) (e2 : H b = some (.ins C dy gs)) (h : sp ([.ref a, .ref b] ++ dvs) H (fun v H' => ∃ k, v = .bl k ∧ Q (.bl (!k)) H') C8.E0) : rNeO C sp dvs (.ref a) (.ref b) H Q := ⟨a, b, dx, dy, fs, gs, rfl, rfl, e, e2, h⟩
theorem rd_eqPD {t u a b : Addr} {i : Int} {ls : List (Int × Int)} (et : H t = some (.tup [.int i, .ref a])) (eu : H u = some (.tup [.int i, .ref b])) (ea : H a = some (.dK (dI ls))) (eb : H b = some (.dK (dI ls))) (nd : (ls.map (·.1)).Nodup) (q : Q (.bl true) H) : rEqPD K (.ref t) (.ref u) H Q :=
  ⟨t, u, i, a, b, ls, rfl, rfl, et, eu, ea, eb, nd, q⟩
/-- isinstance(x, C) of an int, or None: no -/
theorem sub_int {K : PySem.W.Frag} {C : Addr} : PySem.W.subIn K (.type "int") (.ref C) = some false := by
  have e : fastBuiltinMro "int" = some [.type "int", .type "object"] := by decide +kernel
  show (fastBuiltinMro "int").map (·.contains (.ref C)) = some false
  rw [e]
  first
    | rfl
    | simp
theorem kit_not {K : PySem.W.Frag} {C : Addr} {n : String} (h1 : PySem.W.isClsIn K C = true) (h2 : PySem.W.typeIn K (.ref C) = some (.type "type")) (h3 : PySem.W.subIn K (.type n) (.ref C) = some false) : PySem.W.kitOne K (.type n) (.ref C) = some false := by
  have e2 : ((PySem.W.clsIn K C).isSome && PySem.W.typeIn K (.ref C) == some (.type "type")) = true := by
    have h1' : (PySem.W.clsIn K C).isSome = true := h1
    rw [h1', h2] <;> rfl
  unfold PySem.W.kitOne
  rw [if_neg (by simp)]
  show (if ((PySem.W.clsIn K C).isSome && PySem.W.typeIn K (.ref C) == some (.type "type")) = true then PySem.W.subIn K (.type n) (.ref C) else none) = some false
  rw [if_pos e2]
  exact h3
theorem rd_isiCi {C : Addr} {i : Int} (k : PySem.W.kitOne K (.type "int") (.ref C) = some false) (h : Q (.bl false) H) : rIsi K [.int i, .ref C] H Q := ⟨_, _, _, _, false, rfl, .own C, .base (.int i), k, h⟩
theorem rd_isiCn {C : Addr} (k : PySem.W.kitOne K (.type "NoneType") (.ref C) = some false) (h : Q (.bl false) H) : rIsi K [.non, .ref C] H Q := ⟨_, _, _, _, false, rfl, .own C, .base .non, k, h⟩
theorem rd_isiC {C a dx : Addr} {fs : List (Str × V)} (c : InsC K C) (e : H a = some (.ins C dx fs)) (h : Q (.bl true) H) : rIsi K [.ref a, .ref C] H Q := ⟨_, _, _, _, true, rfl, .own C, .base (TyOf.ins e c.cl c.ha c.hn c.htk c.hm), c.me, h⟩
/-- dict([(k, v), ..]) -/
def rDictP (K : PySem.W.Frag) : List V → Hp → VK → Prop := fun xs H Q => ∃ (a : Addr) (ps : List Addr) (kvs : List (Key × V)), xs = [.ref a] ∧ SqL K H a (ps.map V.ref) ∧ Paired (fun p kv => SqT K H p [kV kv.1, kv.2]) ps kvs ∧ ∀ p, H p = none → Q (.ref p) (upd H p (.dK (mergeK [] kvs)))
theorem cr_dictP {X : Cx} (hc : X.calm = true) : CallR X (.type "dict") (rDictP X.K) := call_dictP hc
end
end Sl
set_option Elab.async false
set_option linter.all false
set_option maxRecDepth 100000
set_option maxHeartbeats 2000000
namespace L2
open PySem PySem.Spec PyProof.Rows
/-! ### enumerate(t) of a tuple -/
abbrev enO (it : Addr) : Obj := { cls := .type "enumerate", data := .fields #[.none, .bool false, .ref it, rawInt 0, .none, .none] }
theorem enum_new1 {v : Value} {o ob : Obj} {a : Addr} {I : Heap → Prop} (B : Begins v o I) (hv : v = .ref a) (hc : ob.cls = .type "tuple") : Meets (Builtin.«enumerate.__new__» ⟨[.type "enumerate", v], []⟩) (fun _ R s => (s.heap.get? a = some ob ∧ I s.heap) ∧
    R (.ok (.ret (.ref (s.heap.push o).objs.size))) { s with heap := (s.heap.push o).push (enO s.heap.objs.size) }) :=
  .of_wp fun prog w A R s h => by
    obtain ⟨hp, g, d, tk, os⟩ := s
    obtain ⟨⟨hl, h1⟩, h2⟩ := h
    subst hv
    have hs := PySem.sub_enumerate
    have it0 : ∀ {A' : Around} {E Q : Value → Shared → Prop}, Q (.ref hp.objs.size) ⟨hp.push o, g, d, tk, os⟩ → wpAny (model prog w) A' (pyIter (.ref a)) Q E ⟨hp, g, d, tk, os⟩ := fun q => B.iter prog w _ _ ⟨hp, g, d, tk, os⟩ _ h1 q
    wp_walk using wpAny_loadPart' hl, it0
    refine (wpAny_stack_any fun st => (wpAny_pure ?_))
    split
    · rename_i c _ _ _ _ _
      cases (c == Value.type "enumerate") <;> (wp_walk using wpAny_loadPart' hl, it0; exact ⟨_, rfl, h2⟩)
    · wp_walk using wpAny_loadPart' hl, it0
      exact ⟨_, rfl, h2⟩
section
variable {prog : Program} {w : World} {A : Around} {E : Value → Shared → Prop} {s : Shared}
theorem call_enumT {a : Addr} {items : Array Value} {Q : Value → Shared → Prop} (ht : s.heap.IsTuple a items)
    (h : ∀ h', IsEnum h' (s.heap.objs.size + 1) s.heap.objs.size 0 .none → h'.IsTupleIter s.heap.objs.size a 0 → (∀ b o, s.heap.get? b = some o → h'.get? b = some o) → Q (.ref (s.heap.objs.size + 1)) { s with heap := h' }) :
    wpAny (model prog w) A (call (.type "enumerate") [.ref a]) Q E s := by
  obtain ⟨ob, ho, hc, hd⟩ := id ht
  have two : (s.heap.push { cls := .type "tuple_iterator", data := .fields #[.ref a, .int 0 0] }).objs.size = s.heap.objs.size + 1 := Heap.size_push ..
  have M := enum_new1 (begins_tuple a items) rfl hc
  refine callType_new PySem.F.called_enumerate (by decide) (PySem.F.typeCall_enumerate_1 _) (PySem.F.newCall_enumerate_1 _) (fun obj => PySem.F.args_object_init_2 obj _) PySem.F.entry_enumerate_new M ⟨⟨ho, ht⟩, ?_⟩
  show _ ∧ _
  rw [two]
  have he : IsEnum ((s.heap.push { cls := .type "tuple_iterator", data := .fields #[.ref a, .int 0 0] }).push (enO s.heap.objs.size)) (s.heap.objs.size + 1) s.heap.objs.size 0 .none := by
    have q := Heap.get?_push_size (s.heap.push { cls := .type "tuple_iterator", data := .fields #[.ref a, .int 0 0] }) (o := enO s.heap.objs.size) rfl
    rw [two] at q
    exact q
  exact ⟨⟨_, he, rfl⟩, h _ he ⟨_, Heap.get?_push_of_some _ (Heap.get?_push_size _ rfl), rfl, rfl⟩ fun b o x => Heap.get?_push_of_some _ (Heap.get?_push_of_some _ x)⟩
end
theorem next_enumT_end {prog : Program} {w : World} {A : Around} {E : Value → Shared → Prop} {s : Shared} {e it a : Addr} {i : Nat} {c : Int} {items : Array Value} {old : Value} {Q : Option Value → Shared → Prop} (hh : A.handled = none)
    (he : IsEnum s.heap e it c old) (hit : s.heap.IsTupleIter it a i) (ht : s.heap.IsTuple a items) (hi : items.size ≤ i)
    (hQ : ∀ h', Heap.ExtBut it s.heap h' → Q none { s with heap := h' }) : wpAny (model prog w) A (pyNext (.ref e)) Q E s := by
  have hT : s.TypeIs (.ref e) "enumerate" := ⟨_, he, rfl⟩
  unfold pyNext
  refine wpAny_bind (wpAny_attempt (wpAny_callSpecial?_slot (name := Str.ofString "__next__") hT F.slot_enumerate_next
    (wpAny_call_entry F.slot_enumerate_next hT F.entry_enumerate_next ?_ (F.args_enumerate_next_1 _))))
  show wpAny _ _ (field (.ref e) 2 >>= _) _ _ _
  refine wpAny_bind (wpAny_field he rfl (x := .ref it) rfl ?_)
  refine wpAny_bind (wpAny_nextOf_tuple_end (A := A.in1) hh hit ht (by simp [hi]) fun h' x he' hx' => ?_)
  obtain ⟨o, ho, hc⟩ := hx'
  refine wpAny_bind (wpAny_isInstance (T := "StopIteration") (b := true) ⟨o, ho, hc⟩ isSubtype_stop ?_)
  exact wpAny_pure (hQ _ he')
/-- the tuple at a as it stands at each turn, each item in a new pair -/
def IteT (K : PySem.W.Frag) (a : Addr) : It :=
  ⟨fun i H => ∃ (xs : List V) (x : V), SqT K H a xs ∧ xs[i]? = some x, fun i H v H' => ∃ T x, v = .ref T ∧ H T = none ∧ H' = upd H T (.tup [.int (i : Nat), x]) ∧ ∀ xs, SqT K H a xs → xs[i]? = some x, fun i H => ∃ xs : List V, SqT K H a xs ∧ xs.length ≤ i⟩
theorem apart_cls {h : Heap} {a b : Addr} {o u : Obj} (ha : h.get? a = some o) (hb : h.get? b = some u) (hn : o.cls ≠ u.cls) : a ≠ b := fun z => by
  rw [z, hb] at ha
  exact hn (by rw [Option.some.inj ha])
theorem turn_enumT {P : Program} {w : World} {K : PySem.W.Frag} {elts : List Expr} {kk : Nat} {tpos : Pos} (a e it : Addr) :
    Turn P w K (.Tuple elts kk tpos) (IteT K a) [e, it] e (fun i h => (∃ old, IsEnum h e it ((i : Nat) : Int) old) ∧ h.IsTupleIter it a i ∧ e ≠ it) where
  mem := by simp
  obj := fun i h st b hb => by
    obtain ⟨⟨old, he⟩, ⟨o, ho, hc, hd⟩, _⟩ := st
    rcases (show b = e ∨ b = it by simpa using hb) with rfl | rfl
    · exact ⟨_, he, fun v q => nomatch q⟩
    · exact ⟨o, ho, fun v q => by rw [hd] at q; cases q⟩
  keep := fun i h h' st k => let ⟨⟨old, he⟩, hi, hne⟩ := st; ⟨⟨old, k e (by simp) _ he⟩, hi.at fun o q => k it (by simp) o q, hne⟩
  item := by
    intro X hP hw hK hc i pins s σ H E I hf st hg
    subst hP hw hK
    obtain ⟨⟨old, he⟩, hit, hne⟩ := st
    obtain ⟨xs, x, hq, hx⟩ := hg
    obtain ⟨its, rv, p, hz⟩ := I.tuple hq
    obtain ⟨u, hu, ru⟩ := rv.get hx
    have hp : s.heap.IsTuple a its.toArray := p
    obtain ⟨op, gp, cp, _⟩ := id hp
    obtain ⟨oi, gi, ci, _⟩ := id hit
    have hai : a ≠ it := apart_cls gp gi (by rw [cp, ci]; decide)
    have hea : e ≠ a := apart_cls he gp (by rw [cp]; show Value.type "enumerate" ≠ Value.type "tuple"; decide)
    have hlt : i < its.toArray.size := by
      have := (List.getElem?_eq_some_iff.mp hu).1
      simpa using this
    have hel : e < s.heap.objs.size := Heap.lt_size he
    refine wpAny_pyNext_enum_itemD (Draws.tuple (A := X.A.in1) (I.ok.hd hc) it a hai its.toArray) he ⟨hit, hp⟩ hlt hne (by simp [hne, hea]) fun u2 h' tk hu2 ho st2 hT hsz hk => ?_
    have hu2' : u2 = u := by
      have q : its.toArray[i]? = some u := by simpa using hu
      rw [q] at hu2
      exact (Option.some.inj hu2).symm
    subst hu2'
    refine ⟨_, rfl, (wpAny_letOwnedTupleGo_enum (s := { s with heap := h', toks := tk + 1 }) ho fun h'' he' sb => ?_)⟩
    have hT2 : h''.get? s.heap.objs.size = some { cls := .type "tuple", data := .seq #[.int i tk, u2] } := (sb.2 _ (Nat.ne_of_gt hel)).trans hT
    have new : ObjOk X.prog X.w (upd H s.heap.objs.size (.tup [.int (i : Nat), x])) h'' s.heap.objs.size (.tup [.int (i : Nat), x]) :=
      ⟨(show 2 ≤ sizeLine by decide), [.int i tk, u2], .cons ⟨tk, rfl⟩ (.cons ru .nil), ⟨_, hT2, rfl, _, rfl⟩⟩
    have I1 : Inv X pins σ (upd H s.heap.objs.size (.tup [.int (i : Nat), x])) { s with heap := h'', toks := tk + 1 } :=
      I.turnedNew (ch := [e, it]) (fun b ob hb q => (sb.2 b fun z => hb (by simp [z])).trans (hk b ob (fun z => hb (by simp [z])) (fun z => hb (by simp [z])) q)) hf (Nat.le_refl _) new
    refine ⟨.ref s.heap.objs.size, _, I1, rfl, ⟨_, x, rfl, I.hok.fresh (Nat.le_refl _), rfl, fun ys hy => by rw [I.tuple_inj hy hq]; exact hx⟩, ⟨⟨u2, ?_⟩, st2.1.at fun o q => (sb.2 it hne.symm).trans q, hne⟩, fun b hb => ?_⟩
    · rw [show ((i + 1 : Nat) : Int) = (i : Int) + 1 by omega]
      exact he'
    · have hb' : b < s.heap.objs.size := by
        rcases (show b = e ∨ b = it by simpa using hb) with z | z
        · rw [z]; exact hel
        · rw [z]; exact Heap.lt_size gi
      rw [upd_ne (Nat.ne_of_lt hb')]
      exact (hf b hb).1
  done := by
    intro X hP hw hK hc i pins s σ H E I hf st hg
    subst hP hw hK
    obtain ⟨⟨old, he⟩, hit, hne⟩ := st
    obtain ⟨xs, hq, hx⟩ := hg
    obtain ⟨its, rv, p, hz⟩ := I.tuple hq
    obtain ⟨f0, f1, f2, f3, f4, f5⟩ := hf it (by simp)
    have hl := rv.length
    have hp : s.heap.IsTuple a its.toArray := p
    refine next_enumT_end (I.ok.hd hc) he hit hp (by simp; omega) fun h' eb => ⟨rfl, I.turned (t' := s.toks) (fun b o hb q => eb b o hb q) f0 f1 f3 f4 f5⟩
  self := fun A i s Q E st h => let ⟨⟨_, he⟩, _⟩ := st; wpAny_pyIter_enum he h
def iEnumT (K : PySem.W.Frag) (ta : TA) : TI := fun σ H R => ta σ H fun vs H1 => ∃ a xs, vs = [.ref a] ∧ SqT K H1 a xs ∧ R (IteT K a) H1
theorem pi_enumT {X : Cx} {e : Expr} {ta : TA} {p pos tpos : Pos} {elts : List Expr} {kk : Nat} (hg : Gl X "enumerate") (hm : X.mg "enumerate" = none) (ha : PA X [e] ta) (hs : starEach [e] X.env = [(false, eval e X.env)] := by rfl) :
    PI X (.Tuple elts kk tpos) (.Call (.Name "enumerate" p) [e] [] pos) (iEnumT X.K ta) := by
  refine ⟨fun pins s σ H R I h => ?_⟩
  refine Call_ (ld_blt I hg hm boot_enumerate (PyProof.Rows.callWith_type1 (thn (ha.run pos pins s σ H _ I h) fun us s1 ⟨vs, H1, I1, r1, q1⟩ => ?_) hs rfl))
  obtain ⟨a, xs, ex, hq, q⟩ := q1
  subst ex
  cases r1 with
  | cons r rr =>
    cases rr
    cases r
    obtain ⟨its, rv, p', hz⟩ := I1.tuple hq
    refine call_enumT (show s1.heap.IsTuple a its.toArray from p') fun h' he hit hk => wpAny_pyIter_enum he ?_
    have I2 : Inv X pins σ H1 { s1 with heap := h' } := I1.kept (t' := s1.toks) hk
    refine ⟨s1.heap.objs.size + 1, [s1.heap.objs.size + 1, s1.heap.objs.size], _, _, H1, rfl, I2, turn_enumT a (s1.heap.objs.size + 1) s1.heap.objs.size, ⟨⟨.none, he⟩, hit, Nat.succ_ne_self _⟩, fun b hb => ?_, q⟩
    have hle : s1.heap.objs.size ≤ b := by
      rcases (show b = s1.heap.objs.size + 1 ∨ b = s1.heap.objs.size by simpa using hb) with z | z
      · rw [z]; exact Nat.le_add_right _ _
      · rw [z]; exact Nat.le_refl _
    exact I1.fpOk hle (I1.hok.fresh hle)
end L2

namespace Sl
open PySem L2 C8 StX
section
variable {σ : L2.St} {H H1 : Hp} {g : TG} {tb : TS} {ta : TA} {te : TE} {tt : TT} {nx bk ct : L2.St → Hp → Prop} {rt : VK} {R : It → Hp → Prop} {K : PySem.W.Frag} {Q : VK} {vs : List Nat}
def enRT (K : PySem.W.Frag) (R : It → Hp → Prop) (vs : List V) (H : Hp) : Prop := ∃ a xs, vs = [.ref a] ∧ SqT K H a xs ∧ R (IteT K a) H
theorem rd_iEnumT (h : ta σ H fun vs H1 => enRT K R vs H1) : iEnumT K ta σ H R := h
theorem rd_enRT {a : Addr} {xs : List V} (e : SqT K H a xs) (h : R (IteT K a) H) : enRT K R [.ref a] H := ⟨a, xs, rfl, e, h⟩
theorem forR_enumT {a : Addr} {xs : List V} (Pv : Nat → L2.St → Hp → Prop) (hl : ∀ i σ H, Pv i σ H → SqT K H a xs) (h0 : Pv 0 σ H)
    (hs : ∀ (i : Nat) x σ H t H', xs[i]? = some x → Pv i σ H → H t = none → Same H H' → H' t = some (.tup [.int (i : Nat), x]) → H' = upd H t (.tup [.int (i : Nat), x]) → g (.ref t) σ H' fun σ2 H2 => tb ⟨Pv (i + 1), rt, nx, Pv (i + 1)⟩ σ2 H2) (hd : ∀ σ H, Pv xs.length σ H → nx σ H) :
    ForR (IteT K a) g tb ⟨nx, rt, bk, ct⟩ σ H := forR_gen _ xs.length Pv h0 (fun i σ H h p => ⟨xs, xs[i], hl i σ H p, by simp [h]⟩) (fun σ H p => ⟨xs, hl _ σ H p, Nat.le_refl _⟩)
      (fun i σ H x H' hi p ⟨t, y, e1, e2, e3, e4⟩ => by subst e1; subst e3; exact hs i y σ H t _ (e4 xs (hl i σ _ p)) p e2 (Same.new (Same.refl H) e2) upd_same rfl) hd
theorem lcR_enumT {a : Addr} {xs : List V} (Pv : Addr → Nat → Hp → Prop) (hl : ∀ D i H', H D = none → Pv D i H' → SqT K H' a xs) (h0 : ∀ D H', H D = none → Same H H' → H' D = some (.lst []) → H' = upd H D (.lst []) → Pv D 0 H')
    (hs : ∀ D (i : Nat) x H' t H2, H D = none → xs[i]? = some x → Pv D i H' → H' t = none → Same H' H2 → H2 t = some (.tup [.int (i : Nat), x]) → H2 = upd H' t (.tup [.int (i : Nat), x]) → g (.ref t) (wipe σ vs) H2 fun σ2 H2 => wipe σ2 vs = wipe σ vs ∧ tt σ2 H2 fun b H3 => if b = true then te σ2 H3 fun y H4 => LcE D (Pv D (i + 1)) y H4 else Pv D (i + 1) H3)
    (hd : ∀ D H', H D = none → Pv D xs.length H' → Q (.ref D) H') : LcR (IteT K a) g tt te vs σ H Q :=
  lcR_gen _ xs.length Pv h0 (fun D i H' hD h p => ⟨xs, xs[i], hl D i H' hD p, by simp [h]⟩) (fun D H' hD p => ⟨xs, hl D _ H' hD p, Nat.le_refl _⟩)
    (fun D i H' x H2 hD hi p ⟨t, y, e1, e2, e3, e4⟩ => by subst e1; subst e3; exact hs D i y H' t _ hD (e4 xs (hl D i _ hD p)) p e2 (Same.new (Same.refl H') e2) upd_same rfl) hd
theorem lcR_tup {a : Addr} {xs : List V} (Pv : Addr → Nat → Hp → Prop) (hl : ∀ D i H', H D = none → Pv D i H' → SqT K H' a xs) (h0 : ∀ D H', H D = none → Same H H' → H' D = some (.lst []) → H' = upd H D (.lst []) → Pv D 0 H')
    (hs : ∀ D i x H', H D = none → xs[i]? = some x → Pv D i H' → g x (wipe σ vs) H' fun σ2 H2 => wipe σ2 vs = wipe σ vs ∧ tt σ2 H2 fun b H3 => if b = true then te σ2 H3 fun y H4 => LcE D (Pv D (i + 1)) y H4 else Pv D (i + 1) H3)
    (hd : ∀ D H', H D = none → Pv D xs.length H' → Q (.ref D) H') : LcR (Itt K a) g tt te vs σ H Q :=
  lcR_gen _ xs.length Pv h0 (fun D i H' hD h p => ⟨xs, xs[i], hl D i H' hD p, by simp [h]⟩) (fun D H' hD p => ⟨xs, hl D _ H' hD p, Nat.le_refl _⟩)
    (fun D i H' x H2 hD hi p ⟨e1, e2⟩ => by subst e1; exact hs D i x _ hD (e2 xs (hl D i _ hD p)) p) hd
end
end Sl
set_option Elab.async false
set_option linter.all false
set_option maxRecDepth 100000
set_option maxHeartbeats 4000000
namespace Sl
open PySem L2 C8 StX
def topS (i : Nat) : Stmt := PySem.Challenge.pw_siltstore_k46_whole_cheapest.main.body.getD i (.Pass ⟨0, 0, 0, 0⟩)
abbrev s_is_whole : Stmt := topS 9
abbrev N_is_whole : List Str := ["thing"]
abbrev P_is_whole : List Str := ["thing"]
theorem sc_is_whole : FnScope N_is_whole P_is_whole (fnScope s_is_whole) := fnScope_by (by decide +kernel)
abbrev s_is_pair : Stmt := topS 10
abbrev N_is_pair : List Str := ["thing"]
abbrev P_is_pair : List Str := ["thing"]
theorem sc_is_pair : FnScope N_is_pair P_is_pair (fnScope s_is_pair) := fnScope_by (by decide +kernel)
abbrev s_shortest : Stmt := topS 11
abbrev N_shortest : List Str := ["front", "period", "many"]
abbrev P_shortest : List Str := ["front", "period"]
theorem sc_shortest : FnScope N_shortest P_shortest (fnScope s_shortest) := fnScope_by (by decide +kernel)
abbrev s_Rule_init : Stmt := inClass (topS 12) 0
abbrev N_Rule_init : List Str := ["self", "front", "period", "told", "place", "pair"]
abbrev P_Rule_init : List Str := ["self", "front", "period"]
theorem sc_Rule_init : FnScope N_Rule_init P_Rule_init (fnScope s_Rule_init) := fnScope_by (by decide +kernel)
abbrev s_Rule_eq : Stmt := inClass (topS 12) 1
abbrev N_Rule_eq : List Str := ["self", "other"]
abbrev P_Rule_eq : List Str := ["self", "other"]
theorem sc_Rule_eq : FnScope N_Rule_eq P_Rule_eq (fnScope s_Rule_eq) := fnScope_by (by decide +kernel)
abbrev s_Rule_getitem : Stmt := inClass (topS 12) 2
abbrev N_Rule_getitem : List Str := ["self", "grade"]
abbrev P_Rule_getitem : List Str := ["self", "grade"]
theorem sc_Rule_getitem : FnScope N_Rule_getitem P_Rule_getitem (fnScope s_Rule_getitem) := fnScope_by (by decide +kernel)
abbrev s_Rule_iter : Stmt := inClass (topS 12) 3
abbrev N_Rule_iter : List Str := ["self"]
abbrev P_Rule_iter : List Str := ["self"]
theorem sc_Rule_iter : FnScope N_Rule_iter P_Rule_iter (fnScope s_Rule_iter) := fnScope_by (by decide +kernel)
abbrev s_Rule_size : Stmt := inClass (topS 12) 4
abbrev N_Rule_size : List Str := ["self", "grade", "found", "one"]
abbrev P_Rule_size : List Str := ["self", "grade"]
theorem sc_Rule_size : FnScope N_Rule_size P_Rule_size (fnScope s_Rule_size) := fnScope_by (by decide +kernel)
abbrev s_Rule_owed : Stmt := inClass (topS 12) 5
abbrev N_Rule_owed : List Str := ["self", "grade", "found", "size", "one"]
abbrev P_Rule_owed : List Str := ["self", "grade"]
theorem sc_Rule_owed : FnScope N_Rule_owed P_Rule_owed (fnScope s_Rule_owed) := fnScope_by (by decide +kernel)
abbrev s_check_rule : Stmt := topS 13
abbrev N_check_rule : List Str := ["thing"]
abbrev P_check_rule : List Str := ["thing"]
theorem sc_check_rule : FnScope N_check_rule P_check_rule (fnScope s_check_rule) := fnScope_by (by decide +kernel)
abbrev s_check_number : Stmt := topS 14
abbrev N_check_number : List Str := ["thing", "least"]
abbrev P_check_number : List Str := ["thing", "least"]
theorem sc_check_number : FnScope N_check_number P_check_number (fnScope s_check_number) := fnScope_by (by decide +kernel)
abbrev s_made : Stmt := topS 16
abbrev N_made : List Str := ["rule", "grade", "day"]
abbrev P_made : List Str := ["rule", "grade", "day"]
theorem sc_made : FnScope N_made P_made (fnScope s_made) := fnScope_by (by decide +kernel)
abbrev s_day_of : Stmt := topS 17
abbrev N_day_of : List Str := ["rule", "told", "found", "size", "grade", "digit", "wait", "bake", "least"]
abbrev P_day_of : List Str := ["rule", "told"]
theorem sc_day_of : FnScope N_day_of P_day_of (fnScope s_day_of) := fnScope_by (by decide +kernel)
abbrev s_Evidence_pieces : Stmt := inClass (topS 19) 1
abbrev N_Evidence_pieces : List Str := ["self"]
abbrev P_Evidence_pieces : List Str := ["self"]
theorem sc_Evidence_pieces : FnScope N_Evidence_pieces P_Evidence_pieces (fnScope s_Evidence_pieces) := fnScope_by (by decide +kernel)
abbrev s_Evidence_eq : Stmt := inClass (topS 19) 2
abbrev N_Evidence_eq : List Str := ["self", "other"]
abbrev P_Evidence_eq : List Str := ["self", "other"]
theorem sc_Evidence_eq : FnScope N_Evidence_eq P_Evidence_eq (fnScope s_Evidence_eq) := fnScope_by (by decide +kernel)
abbrev s_Good_bool : Stmt := inClass (topS 20) 0
abbrev N_Good_bool : List Str := ["self"]
abbrev P_Good_bool : List Str := ["self"]
theorem sc_Good_bool : FnScope N_Good_bool P_Good_bool (fnScope s_Good_bool) := fnScope_by (by decide +kernel)
abbrev s_first_with : Stmt := topS 22
abbrev N_first_with : List Str := ["rule", "many", "found", "left"]
abbrev P_first_with : List Str := ["rule", "many"]
theorem sc_first_with : FnScope N_first_with P_first_with (fnScope s_first_with) := fnScope_by (by decide +kernel)
abbrev s_work : Stmt := topS 24
abbrev N_work : List Str := ["rule", "day", "found", "grade"]
abbrev P_work : List Str := ["rule", "day"]
theorem sc_work : FnScope N_work P_work (fnScope s_work) := fnScope_by (by decide +kernel)
abbrev s_check_choices : Stmt := topS 27
abbrev N_check_choices : List Str := ["choices", "place", "choice"]
abbrev P_check_choices : List Str := ["choices"]
theorem sc_check_choices : FnScope N_check_choices P_check_choices (fnScope s_check_choices) := fnScope_by (by decide +kernel)
abbrev s_check_asked : Stmt := topS 28
abbrev N_check_asked : List Str := ["choices", "most", "days"]
abbrev P_check_asked : List Str := ["choices", "most", "days"]
theorem sc_check_asked : FnScope N_check_asked P_check_asked (fnScope s_check_asked) := fnScope_by (by decide +kernel)
abbrev s_Cheapest_init : Stmt := inClass (topS 29) 1
abbrev N_Cheapest_init : List Str := ["self", "place", "against"]
abbrev P_Cheapest_init : List Str := ["self", "place", "against"]
theorem sc_Cheapest_init : FnScope N_Cheapest_init P_Cheapest_init (fnScope s_Cheapest_init) := fnScope_by (by decide +kernel)
abbrev s_Cheapest_pieces : Stmt := inClass (topS 29) 2
abbrev N_Cheapest_pieces : List Str := ["self"]
abbrev P_Cheapest_pieces : List Str := ["self"]
theorem sc_Cheapest_pieces : FnScope N_Cheapest_pieces P_Cheapest_pieces (fnScope s_Cheapest_pieces) := fnScope_by (by decide +kernel)
abbrev s_Cheapest_shows : Stmt := inClass (topS 29) 3
abbrev N_Cheapest_shows : List Str := ["self", "choices", "most", "days", "firsts", "place"]
abbrev P_Cheapest_shows : List Str := ["self", "choices", "most", "days"]
theorem sc_Cheapest_shows : FnScope N_Cheapest_shows P_Cheapest_shows (fnScope s_Cheapest_shows) := fnScope_by (by decide +kernel)
abbrev s_ahead_of : Stmt := topS 30
abbrev N_ahead_of : List Str := ["choices", "place", "days", "price", "prices", "choice", "late", "more"]
abbrev P_ahead_of : List Str := ["choices", "place", "days"]
theorem sc_ahead_of : FnScope N_ahead_of P_ahead_of (fnScope s_ahead_of) := fnScope_by (by decide +kernel)
abbrev s_cheapest : Stmt := topS 31
abbrev N_cheapest : List Str := ["choices", "most", "days", "fits", "place", "choice", "price", "late"]
abbrev P_cheapest : List Str := ["choices", "most", "days"]
theorem sc_cheapest : FnScope N_cheapest P_cheapest (fnScope s_cheapest) := fnScope_by (by decide +kernel)
abbrev s_outdone : Stmt := topS 32
abbrev N_outdone : List Str := ["choices", "days", "found", "place", "choice", "late", "other"]
abbrev P_outdone : List Str := ["choices", "days"]
theorem sc_outdone : FnScope N_outdone P_outdone (fnScope s_outdone) := fnScope_by (by decide +kernel)
abbrev s_is_outdone : Stmt := topS 33
abbrev N_is_outdone : List Str := ["choice", "other", "days", "many"]
abbrev P_is_outdone : List Str := ["choice", "other", "days"]
theorem sc_is_outdone : FnScope N_is_outdone P_is_outdone (fnScope s_is_outdone) := fnScope_by (by decide +kernel)
abbrev s__law_number : Stmt := topS 35
abbrev N__law_number : List Str := ["_law_script", "_law_index", "_law_cell", "_law_blend"]
abbrev P__law_number : List Str := ["_law_script", "_law_index"]
theorem sc__law_number : FnScope N__law_number P__law_number (fnScope s__law_number) := fnScope_by (by decide +kernel)
abbrev s__law_take : Stmt := topS 36
abbrev N__law_take : List Str := ["_law_draw", "_law_many"]
abbrev P__law_take : List Str := ["_law_draw", "_law_many"]
theorem sc__law_take : FnScope N__law_take P__law_take (fnScope s__law_take) := fnScope_by (by decide +kernel)
abbrev s__law_pick : Stmt := topS 37
abbrev N__law_pick : List Str := ["_law_draw", "_law_items"]
abbrev P__law_pick : List Str := ["_law_draw", "_law_items"]
theorem sc__law_pick : FnScope N__law_pick P__law_pick (fnScope s__law_pick) := fnScope_by (by decide +kernel)
abbrev s__law_pair : Stmt := topS 38
abbrev N__law_pair : List Str := ["_law_draw", "_law_bake"]
abbrev P__law_pair : List Str := ["_law_draw"]
theorem sc__law_pair : FnScope N__law_pair P__law_pair (fnScope s__law_pair) := fnScope_by (by decide +kernel)
abbrev s__law_rule : Stmt := topS 39
abbrev N__law_rule : List Str := ["_law_draw", "_law_front", "_law_turn"]
abbrev P__law_rule : List Str := ["_law_draw"]
theorem sc__law_rule : FnScope N__law_rule P__law_rule (fnScope s__law_rule) := fnScope_by (by decide +kernel)
abbrev s__law_at : Stmt := topS 40
abbrev N__law_at : List Str := ["_law_told", "_law_grade", "_law_front", "_law_period"]
abbrev P__law_at : List Str := ["_law_told", "_law_grade"]
theorem sc__law_at : FnScope N__law_at P__law_at (fnScope s__law_at) := fnScope_by (by decide +kernel)
abbrev s__law_size : Stmt := topS 41
abbrev N__law_size : List Str := ["_law_told", "_law_grade", "_law_found", "_law_one"]
abbrev P__law_size : List Str := ["_law_told", "_law_grade"]
theorem sc__law_size : FnScope N__law_size P__law_size (fnScope s__law_size) := fnScope_by (by decide +kernel)
abbrev s__law_fallen : Stmt := topS 42
abbrev N__law_fallen : List Str := ["_law_told", "_law_rows", "_law_day", "_law_grades", "_law_grade", "_law_wait", "_law_bake", "_law_some", "_law_at_here", "_law_row", "_law_first_here", "_law_last"]
abbrev P__law_fallen : List Str := ["_law_told", "_law_rows", "_law_day"]
theorem sc__law_fallen : FnScope N__law_fallen P__law_fallen (fnScope s__law_fallen) := fnScope_by (by decide +kernel)
abbrev s__law_played : Stmt := topS 43
abbrev N__law_played : List Str := ["_law_told", "_law_days", "_law_found", "_law_day"]
abbrev P__law_played : List Str := ["_law_told", "_law_days"]
theorem sc__law_played : FnScope N__law_played P__law_played (fnScope s__law_played) := fnScope_by (by decide +kernel)
abbrev s__law_first : Stmt := topS 44
abbrev N__law_first : List Str := ["_law_told", "_law_many", "_law_days", "_law_day", "_law_rows", "_law_grades"]
abbrev P__law_first : List Str := ["_law_told", "_law_many", "_law_days"]
theorem sc__law_first : FnScope N__law_first P__law_first (fnScope s__law_first) := fnScope_by (by decide +kernel)
abbrev s__law_work : Stmt := topS 45
abbrev N__law_work : List Str := ["_law_told", "_law_days", "_law_found", "_law_rows", "_law_grades", "_law_grade"]
abbrev P__law_work : List Str := ["_law_told", "_law_days"]
theorem sc__law_work : FnScope N__law_work P__law_work (fnScope s__law_work) := fnScope_by (by decide +kernel)
abbrev s_law : Stmt := topS 46
abbrev N_law : List Str := ["_law_script", "_law_draw", "_law_tolds", "_law_turn", "_law_choices", "_law_days", "_law_most", "_law_told", "_law_firsts", "_law_prices", "_law_fits", "_law_place", "_law_found", "_law_price", "_law_against", "_law_late", "_law_more", "_law_tops", "_law_due", "_law_rows", "_law_grades", "_law_better", "_law_far", "_law_wrong", "error"]
abbrev P_law : List Str := ["_law_script"]
theorem sc_law : FnScope N_law P_law (fnScope s_law) := fnScope_by (by decide +kernel)
abbrev s_BadChoices_init : Stmt := inClass (topS 5) 0
theorem ss_BadChoices : SupSt s_BadChoices_init ["self", "place", "__class__"] := ⟨NdefX.nscope_by (by decide +kernel), rfl, rfl, ⟨_, rfl, rfl⟩, by decide +kernel, ⟨_, _, _, _, _, _, _, _, _, _, _, _, rfl, fun env => ⟨_, rfl⟩⟩⟩
theorem bd_BadChoices : ∀ (kV doc pm : Value) (an : Option Addr) (cc cda : Addr) (ct : Value) (us : List Value), us.length = 2 → bindArgs (PySem.W.fnX "__init__" "BadChoices.__init__" (C8.fnArgs s_BadChoices_init) (C8.fnBody s_BadChoices_init) (C8.fnScope s_BadChoices_init) [("__class__", cc)] .none kV doc pm an (.ref cda) ct) ⟨us, []⟩ = pure ((["self", "place"] : List Str).zip us) := fun _ _ _ _ _ _ _ us hl => match us, hl with | [_, _], _ => rfl
/-- what isinstance asks of an own class, without the class itself -/
structure InsF (K : PySem.W.Frag) (C : Addr) : Prop where
  ha : PySem.W.findIn K (.ref C) "__class__" = some (some (.builtin "object.__class__"))
  hn : PySem.W.specialIn K (.builtin "object.__class__") "__get__" = some (some (.builtin "getset_descriptor.__get__"))
  htk : PySem.W.takesIn K (.builtin "object.__class__") = some true
  hm : PySem.W.mroIn K C (.type "object") = some true
theorem kit_self {K : PySem.W.Frag} {C : Addr} : PySem.W.kitOne K (.ref C) (.ref C) = some true := by
  unfold PySem.W.kitOne
  rw [if_pos (by simp)]
structure TX (P : Program) (K : PySem.W.Frag) (mg : Str → Option Value) (C_Rule C_Evidence C_Good C_Cheapest C_BadDay C_BadChoices : Addr) : Prop where
  mg_Rule : mg "Rule" = some (.ref C_Rule)
  mg_Evidence : mg "Evidence" = some (.ref C_Evidence)
  mg_Good : mg "Good" = some (.ref C_Good)
  mg_Cheapest : mg "Cheapest" = some (.ref C_Cheapest)
  mg_BadDay : mg "BadDay" = some (.ref C_BadDay)
  mg_BadChoices : mg "BadChoices" = some (.ref C_BadChoices)
  d_is_whole : ∃ f fd, C8.Def K mg "is_whole" s_is_whole f fd ∧ fd.defaults = .none
  d_is_pair : ∃ f fd, C8.Def K mg "is_pair" s_is_pair f fd ∧ fd.defaults = .none
  d_shortest : ∃ f fd, C8.Def K mg "shortest" s_shortest f fd ∧ fd.defaults = .none
  m_Rule_init : ∃ f fd, C8.Fun K "__init__" "Rule.__init__" s_Rule_init f fd ∧ fd.defaults = .none ∧ Mk K C_Rule f
  m_Rule_eq : ∃ f fd, C8.Fun K "__eq__" "Rule.__eq__" s_Rule_eq f fd ∧ fd.defaults = .none ∧ Meth K C_Rule "__eq__" f ∧ PySem.W.fnIn K f = true
  m_Rule_getitem : ∃ f fd, C8.Fun K "__getitem__" "Rule.__getitem__" s_Rule_getitem f fd ∧ fd.defaults = .none ∧ Meth K C_Rule "__getitem__" f ∧ PySem.W.fnIn K f = true
  m_Rule_iter : ∃ f fd, C8.Fun K "__iter__" "Rule.__iter__" s_Rule_iter f fd ∧ fd.defaults = .none ∧ Meth K C_Rule "__iter__" f ∧ PySem.W.fnIn K f = true
  m_Rule_size : ∃ f fd, C8.Fun K "size" "Rule.size" s_Rule_size f fd ∧ fd.defaults = .none ∧ Meth K C_Rule "size" f ∧ PySem.W.fnIn K f = true
  m_Rule_owed : ∃ f fd, C8.Fun K "owed" "Rule.owed" s_Rule_owed f fd ∧ fd.defaults = .none ∧ Meth K C_Rule "owed" f ∧ PySem.W.fnIn K f = true
  d_check_rule : ∃ f fd, C8.Def K mg "check_rule" s_check_rule f fd ∧ fd.defaults = .none
  d_check_number : ∃ f fd, C8.Def K mg "check_number" s_check_number f fd ∧ (∃ ds, Vals [] ds ∧ Binds K fd P_check_number ds) ∧ (∃ ds, Vals [.int 0] ds ∧ Binds K fd P_check_number ds)
  d_made : ∃ f fd, C8.Def K mg "made" s_made f fd ∧ fd.defaults = .none
  d_day_of : ∃ f fd, C8.Def K mg "day_of" s_day_of f fd ∧ fd.defaults = .none
  d_first_with : ∃ f fd, C8.Def K mg "first_with" s_first_with f fd ∧ fd.defaults = .none
  d_work : ∃ f fd, C8.Def K mg "work" s_work f fd ∧ fd.defaults = .none
  d_check_choices : ∃ f fd, C8.Def K mg "check_choices" s_check_choices f fd ∧ fd.defaults = .none
  d_check_asked : ∃ f fd, C8.Def K mg "check_asked" s_check_asked f fd ∧ fd.defaults = .none
  m_Cheapest_init : ∃ f fd, C8.Fun K "__init__" "Cheapest.__init__" s_Cheapest_init f fd ∧ fd.defaults = .none ∧ Mk K C_Cheapest f
  m_Cheapest_pieces : ∃ f fd, C8.Fun K "pieces" "Cheapest.pieces" s_Cheapest_pieces f fd ∧ fd.defaults = .none ∧ Meth K C_Cheapest "pieces" f ∧ PySem.W.fnIn K f = true
  m_Cheapest_shows : ∃ f fd, C8.Fun K "shows" "Cheapest.shows" s_Cheapest_shows f fd ∧ fd.defaults = .none ∧ Meth K C_Cheapest "shows" f ∧ PySem.W.fnIn K f = true
  d_ahead_of : ∃ f fd, C8.Def K mg "ahead_of" s_ahead_of f fd ∧ fd.defaults = .none
  d_cheapest : ∃ f fd, C8.Def K mg "cheapest" s_cheapest f fd ∧ fd.defaults = .none
  d_outdone : ∃ f fd, C8.Def K mg "outdone" s_outdone f fd ∧ fd.defaults = .none
  d_is_outdone : ∃ f fd, C8.Def K mg "is_outdone" s_is_outdone f fd ∧ fd.defaults = .none
  d__law_number : ∃ f fd, C8.Def K mg "_law_number" s__law_number f fd ∧ fd.defaults = .none
  d__law_take : ∃ f fd, C8.Def K mg "_law_take" s__law_take f fd ∧ fd.defaults = .none
  d__law_pick : ∃ f fd, C8.Def K mg "_law_pick" s__law_pick f fd ∧ fd.defaults = .none
  d__law_pair : ∃ f fd, C8.Def K mg "_law_pair" s__law_pair f fd ∧ fd.defaults = .none
  d__law_rule : ∃ f fd, C8.Def K mg "_law_rule" s__law_rule f fd ∧ fd.defaults = .none
  d__law_at : ∃ f fd, C8.Def K mg "_law_at" s__law_at f fd ∧ fd.defaults = .none
  d__law_size : ∃ f fd, C8.Def K mg "_law_size" s__law_size f fd ∧ fd.defaults = .none
  d__law_fallen : ∃ f fd, C8.Def K mg "_law_fallen" s__law_fallen f fd ∧ fd.defaults = .none
  d__law_played : ∃ f fd, C8.Def K mg "_law_played" s__law_played f fd ∧ fd.defaults = .none
  d__law_first : ∃ f fd, C8.Def K mg "_law_first" s__law_first f fd ∧ fd.defaults = .none
  d__law_work : ∃ f fd, C8.Def K mg "_law_work" s__law_work f fd ∧ fd.defaults = .none
  d_law : ∃ f fd, C8.Def K mg "law" s_law f fd ∧ fd.defaults = .none
  m_Cheapest_bool : ∃ f fd, C8.Fun K "__bool__" "Good.__bool__" s_Good_bool f fd ∧ fd.defaults = .none ∧ Meth K C_Cheapest "__bool__" f ∧ PySem.W.fnIn K f = true
  m_Cheapest_eq : ∃ f fd, C8.Fun K "__eq__" "Evidence.__eq__" s_Evidence_eq f fd ∧ fd.defaults = .none ∧ Meth K C_Cheapest "__eq__" f ∧ PySem.W.fnIn K f = true
  ux_Cheapest_Evidence : PySem.W.kitOne K (.ref C_Cheapest) (.ref C_Evidence) = some true
  k_Cheapest_WORD : ∃ u, Con K C_Cheapest "WORD" (.str "cheapest") u
  cl_Rule : Cls K C_Rule
  ic_Rule : InsF K C_Rule
  na_Rule_front : NoAttr K C_Rule "front"
  na_Rule_period : NoAttr K C_Rule "period"
  cl_Cheapest : Cls K C_Cheapest
  ic_Cheapest : InsF K C_Cheapest
  na_Cheapest_place : NoAttr K C_Cheapest "place"
  na_Cheapest_against : NoAttr K C_Cheapest "against"
  ne_Rule : PySem.W.findIn K (.ref C_Rule) "__ne__" = some (some (.builtin "object.__ne__"))
  nk_Rule : ∀ n, PySem.W.subIn K (.type n) (.ref C_Rule) = some false → PySem.W.kitOne K (.type n) (.ref C_Rule) = some false
  ne_Cheapest : PySem.W.findIn K (.ref C_Cheapest) "__ne__" = some (some (.builtin "object.__ne__"))
  nk_Cheapest : ∀ n, PySem.W.subIn K (.type n) (.ref C_Cheapest) = some false → PySem.W.kitOne K (.type n) (.ref C_Cheapest) = some false
  x_BadDay : XOwn K C_BadDay
  y_BadChoices : XSup P K C_BadChoices "BadChoices.__init__" s_BadChoices_init
  b_super : mg "super" = none
  g_MOST_LAYERS : ∃ u, mg "MOST_LAYERS" = some u ∧ RelV (.int 12) u
  g_MOST_PAIRS : ∃ u, mg "MOST_PAIRS" = some u ∧ RelV (.int 6) u
  g_MOST_CHOICES : ∃ u, mg "MOST_CHOICES" = some u ∧ RelV (.int 40) u
  b_max : mg "max" = none
  b_min : mg "min" = none
  b_len : mg "len" = none
  b_sum : mg "sum" = none
  b_abs : mg "abs" = none
  b_int : mg "int" = none
  b_bool : mg "bool" = none
  b_isinstance : mg "isinstance" = none
  b_range : mg "range" = none
  b_enumerate : mg "enumerate" = none
  b_list : mg "list" = none
  b_tuple : mg "tuple" = none
  b_sorted : mg "sorted" = none
  b_all : mg "all" = none
  b_any : mg "any" = none
  b_dict : mg "dict" = none
  b_str : mg "str" = none
  b_zip : mg "zip" = none
  b_reversed : mg "reversed" = none
  b_set : mg "set" = none
theorem TX.g_Rule {P : Program} {K : PySem.W.Frag} {mg : Str → Option Value} {C_Rule C_Evidence C_Good C_Cheapest C_BadDay C_BadChoices : Addr} (T : TX P K mg C_Rule C_Evidence C_Good C_Cheapest C_BadDay C_BadChoices) : ∃ u, mg "Rule" = some u ∧ RelV (.ref C_Rule) u := ⟨_, T.mg_Rule, rfl⟩
theorem TX.i_Rule {P : Program} {K : PySem.W.Frag} {mg : Str → Option Value} {C_Rule C_Evidence C_Good C_Cheapest C_BadDay C_BadChoices : Addr} (T : TX P K mg C_Rule C_Evidence C_Good C_Cheapest C_BadDay C_BadChoices) : InsC K C_Rule := ⟨T.cl_Rule, T.ic_Rule.ha, T.ic_Rule.hn, T.ic_Rule.htk, T.ic_Rule.hm, kit_self⟩
theorem TX.fi_Rule {P : Program} {K : PySem.W.Frag} {mg : Str → Option Value} {C_Rule C_Evidence C_Good C_Cheapest C_BadDay C_BadChoices : Addr} (T : TX P K mg C_Rule C_Evidence C_Good C_Cheapest C_BadDay C_BadChoices) : ∀ f, PySem.W.findIn K (.ref C_Rule) "__getitem__" = some (some (.ref f)) → PySem.W.fnIn K f = true := by
  intro f h
  obtain ⟨f1, fd, _, _, m, k⟩ := T.m_Rule_getitem
  have := m.at_.symm.trans h
  cases this
  exact k
theorem TX.g_Evidence {P : Program} {K : PySem.W.Frag} {mg : Str → Option Value} {C_Rule C_Evidence C_Good C_Cheapest C_BadDay C_BadChoices : Addr} (T : TX P K mg C_Rule C_Evidence C_Good C_Cheapest C_BadDay C_BadChoices) : ∃ u, mg "Evidence" = some u ∧ RelV (.ref C_Evidence) u := ⟨_, T.mg_Evidence, rfl⟩
theorem TX.g_Good {P : Program} {K : PySem.W.Frag} {mg : Str → Option Value} {C_Rule C_Evidence C_Good C_Cheapest C_BadDay C_BadChoices : Addr} (T : TX P K mg C_Rule C_Evidence C_Good C_Cheapest C_BadDay C_BadChoices) : ∃ u, mg "Good" = some u ∧ RelV (.ref C_Good) u := ⟨_, T.mg_Good, rfl⟩
theorem TX.g_Cheapest {P : Program} {K : PySem.W.Frag} {mg : Str → Option Value} {C_Rule C_Evidence C_Good C_Cheapest C_BadDay C_BadChoices : Addr} (T : TX P K mg C_Rule C_Evidence C_Good C_Cheapest C_BadDay C_BadChoices) : ∃ u, mg "Cheapest" = some u ∧ RelV (.ref C_Cheapest) u := ⟨_, T.mg_Cheapest, rfl⟩
theorem TX.up_Cheapest_Evidence {P : Program} {K : PySem.W.Frag} {mg : Str → Option Value} {C_Rule C_Evidence C_Good C_Cheapest C_BadDay C_BadChoices : Addr} (T : TX P K mg C_Rule C_Evidence C_Good C_Cheapest C_BadDay C_BadChoices) : InsB K C_Cheapest C_Evidence := ⟨T.cl_Cheapest, T.ic_Cheapest.ha, T.ic_Cheapest.hn, T.ic_Cheapest.htk, T.ic_Cheapest.hm, T.ux_Cheapest_Evidence⟩
theorem TX.i_Cheapest {P : Program} {K : PySem.W.Frag} {mg : Str → Option Value} {C_Rule C_Evidence C_Good C_Cheapest C_BadDay C_BadChoices : Addr} (T : TX P K mg C_Rule C_Evidence C_Good C_Cheapest C_BadDay C_BadChoices) : InsC K C_Cheapest := ⟨T.cl_Cheapest, T.ic_Cheapest.ha, T.ic_Cheapest.hn, T.ic_Cheapest.htk, T.ic_Cheapest.hm, kit_self⟩
end Sl
set_option Elab.async false
set_option linter.all false
set_option maxRecDepth 100000
set_option maxHeartbeats 4000000
namespace Sl
open PySem L2 C8 StX
/-! ### data without lists stands when a list changes -/
mutual
inductive Dn (H : Hp) : V → PyData → Prop
  | non : Dn H .non .none
  | bl (b : Bool) : Dn H (.bl b) (.bool b)
  | int (i : Int) : Dn H (.int i) (.int i)
  | str (x : Str) : Dn H (.str x) (.str x)
  | tup {a : Addr} {xs : List V} {ds : List PyData} : H a = some (.tup xs) → DnAll H xs ds → Dn H (.ref a) (.tuple ds)
inductive DnAll (H : Hp) : List V → List PyData → Prop
  | nil : DnAll H [] []
  | cons {v : V} {vs : List V} {d : PyData} {ds : List PyData} : Dn H v d → DnAll H vs ds → DnAll H (v :: vs) (d :: ds)
end
mutual
/-- it stands where all tuples stand -/
theorem Dn.keep {H H' : Hp} (s : ∀ a xs, H a = some (.tup xs) → H' a = some (.tup xs)) : ∀ {v : V} {d : PyData}, Dn H v d → Dn H' v d
  | _, _, .non => .non
  | _, _, .bl b => .bl b
  | _, _, .int i => .int i
  | _, _, .str x => .str x
  | _, _, .tup e h => .tup (s _ _ e) (DnAll.keep s h)
theorem DnAll.keep {H H' : Hp} (s : ∀ a xs, H a = some (.tup xs) → H' a = some (.tup xs)) : ∀ {vs : List V} {ds : List PyData}, DnAll H vs ds → DnAll H' vs ds
  | _, _, .nil => .nil
  | _, _, .cons h t => .cons (Dn.keep s h) (DnAll.keep s t)
end
mutual
theorem Dn.dt {H : Hp} : ∀ {v : V} {d : PyData}, Dn H v d → Dt H v d
  | _, _, .non => .non
  | _, _, .bl b => .bl b
  | _, _, .int i => .int i
  | _, _, .str x => .str x
  | _, _, .tup e h => .tup e (DnAll.dt h)
theorem DnAll.dt {H : Hp} : ∀ {vs : List V} {ds : List PyData}, DnAll H vs ds → DtAll H vs ds
  | _, _, .nil => .nil
  | _, _, .cons h t => .cons (Dn.dt h) (DnAll.dt t)
end
theorem Dn.mono {H H' : Hp} (s : Same H H') {v : V} {d : PyData} (h : Dn H v d) : Dn H' v d := h.keep fun a xs e => s a _ e
theorem DnAll.mono {H H' : Hp} (s : Same H H') {v : List V} {d : List PyData} (h : DnAll H v d) : DnAll H' v d := h.keep fun a xs e => s a _ e
theorem keep_lst {H : Hp} {t : Addr} {xs ys : List V} (e : H t = some (.lst xs)) : ∀ a zs, H a = some (.tup zs) → upd H t (.lst ys) a = some (.tup zs) := fun a zs ea => by
  rw [upd_ne (fun q => by rw [q, e] at ea; cases ea)]
  exact ea
theorem DnAll.updL {H : Hp} {t : Addr} {xs ys : List V} (e : H t = some (.lst xs)) {vs : List V} {ds : List PyData} (h : DnAll H vs ds) : DnAll (upd H t (.lst ys)) vs ds := h.keep (keep_lst e)
theorem Dn.updL {H : Hp} {t : Addr} {xs ys : List V} (e : H t = some (.lst xs)) {v : V} {d : PyData} (h : Dn H v d) : Dn (upd H t (.lst ys)) v d := h.keep (keep_lst e)
theorem DnAll.append {H : Hp} : ∀ {vs ws : List V} {ds es : List PyData}, DnAll H vs ds → DnAll H ws es → DnAll H (vs ++ ws) (ds ++ es)
  | _, _, _, _, .nil, s => s
  | _, _, _, _, .cons h t, s => .cons h (DnAll.append t s)
theorem DnAll.length {H : Hp} : ∀ {vs : List V} {ds : List PyData}, DnAll H vs ds → vs.length = ds.length
  | _, _, .nil => rfl
  | _, _, .cons _ t => by rw [List.length_cons, List.length_cons, DnAll.length t]
theorem DnAll.intsD {H : Hp} : ∀ (ns : List Int), DnAll H (ns.map V.int) (Sl.intsD ns)
  | [] => .nil
  | n :: ns => .cons (.int n) (DnAll.intsD ns)
def triD (q : Int × Int × Int) : PyData := .tuple [.int q.1, .int q.2.1, .int q.2.2]
def pairD (q : Int × Int) : PyData := .tuple [.int q.1, .int q.2]
theorem Dn.tri {H : Hp} {t : Addr} {a b c : Int} (e : H t = some (.tup [.int a, .int b, .int c])) : Dn H (.ref t) (triD (a, b, c)) := .tup e (.cons (.int _) (.cons (.int _) (.cons (.int _) .nil)))
theorem Dn.pair {H : Hp} {t : Addr} {q : Int × Int} (e : H t = some (.tup [.int q.1, .int q.2])) : Dn H (.ref t) (pairD q) := .tup e (.cons (.int _) (.cons (.int _) .nil))
theorem Dt.tri_inv {H : Hp} {v : V} {q : Int × Int × Int} (h : Dt H v (triD q)) : ∃ t, v = .ref t ∧ H t = some (.tup [.int q.1, .int q.2.1, .int q.2.2]) := by
  unfold triD at h
  cases h with
  | tup e h =>
    cases h with
    | cons h1 h2 =>
      cases h1
      cases h2 with
      | cons h1 h2 =>
        cases h1
        cases h2 with
        | cons h1 h2 =>
          cases h1
          cases h2
          exact ⟨_, rfl, e⟩
/-! ### shapes, equality -/
theorem lay_map {α : Type} {f : α → PyData} (h : ∀ x, (f x).canLay0 = true) : ∀ l : List α, PyData.canLayAll0 (l.map f) = true
  | [] => by simp [PyData.canLayAll0]
  | x :: l => by simp [PyData.canLayAll0, h x, lay_map h l]
theorem depth_map {α : Type} {f : α → PyData} {n : Nat} (h : ∀ x, (f x).depth ≤ n) : ∀ l : List α, PyData.depthAll (l.map f) ≤ n
  | [] => by simp [PyData.depthAll]
  | x :: l => by simp only [List.map_cons, PyData.depthAll]; have := h x; have := depth_map h l; omega
theorem shaped_listMap {α : Type} {f : α → PyData} (h : ∀ x, (f x).canLay0 = true) (hd : ∀ x, (f x).depth ≤ 60) (l : List α) : SeqAt.shaped (.list (l.map f)) = true := by
  have := depth_map hd l
  refine Bool.and_eq_true_iff.mpr ⟨by simp only [PyData.canLay0]; exact lay_map h l, decide_eq_true ?_⟩
  simp only [PyData.depth]
  omega
theorem shaped_tupMap {α : Type} {f : α → PyData} (h : ∀ x, (f x).canLay0 = true) (hd : ∀ x, (f x).depth ≤ 60) (l : List α) : SeqAt.shaped (.tuple (l.map f)) = true := by
  have := depth_map hd l
  refine Bool.and_eq_true_iff.mpr ⟨by simp only [PyData.canLay0]; exact lay_map h l, decide_eq_true ?_⟩
  simp only [PyData.depth]
  omega
theorem shaped_ints (ns : List Int) : SeqAt.shaped (.list (intsD ns)) = true := shaped_listMap (fun _ => by simp [PyData.canLay0]) (fun _ => by simp [PyData.depth]) ns
theorem shaped_tris (l : List (Int × Int × Int)) : SeqAt.shaped (.list (l.map triD)) = true := shaped_listMap (fun _ => by simp [triD, PyData.canLay0, PyData.canLayAll0]) (fun _ => by simp [triD, PyData.depth, PyData.depthAll]) l
theorem shaped_pair (q : Int × Int) : SeqAt.shaped (pairD q) = true := by simp [SeqAt.shaped, pairD, PyData.canLay0, PyData.canLayAll0, PyData.depth, PyData.depthAll]
theorem shaped_pairsT (l : List (Int × Int)) : SeqAt.shaped (.tuple (l.map pairD)) = true := shaped_tupMap (fun _ => by simp [pairD, PyData.canLay0, PyData.canLayAll0]) (fun _ => by simp [pairD, PyData.depth, PyData.depthAll]) l
theorem eqv_self {d : PyData} (h : SeqAt.shaped d = true) : PyData.eqv d d = true := SeqAt.eqv_refl d (SeqAt.canLay_of_shaped h)
theorem eqv_nil (l : List PyData) : PyData.eqv (.list l) (.list []) = decide (l = []) := by
  cases l with
  | nil => simp [PyData.eqv, PyData.eqvAll]
  | cons x l => simp [PyData.eqv, PyData.eqvAll]
/-! ### isinstance against (list, tuple) -/
section
variable {H : Hp} {Q : VK} {K : PySem.W.Frag}
theorem kit_ll : PySem.W.kitAny K (.type "list") [.type "list", .type "tuple"] = some true := kitAny_cons (b := true) (kit_ty (by decide +kernel)) (fun h => nomatch h) (fun _ => rfl)
theorem kit_tt : PySem.W.kitAny K (.type "tuple") [.type "list", .type "tuple"] = some true := kitAny_cons (b := false) (kit_ty (by decide +kernel)) (fun _ => kitAny_cons (b := true) (kit_ty (by decide +kernel)) (fun h => nomatch h) (fun _ => rfl)) (fun h => nomatch h)
theorem rd_isiTL {a u : Addr} {xs : List V} (e : H a = some (.lst xs)) (eu : H u = some (.tup [.ty "list", .ty "tuple"])) (h : Q (.bl true) H) : rIsiT K [.ref a, .ref u] H Q :=
  ⟨_, u, _, _, [.type "list", .type "tuple"], true, rfl, eu, .cons (.ty _) (.cons (.ty _) .nil), .base (.lst e), kit_ll, h⟩
theorem rd_isiTT {a u : Addr} {xs : List V} (e : H a = some (.tup xs)) (eu : H u = some (.tup [.ty "list", .ty "tuple"])) (h : Q (.bl true) H) : rIsiT K [.ref a, .ref u] H Q :=
  ⟨_, u, _, _, [.type "list", .type "tuple"], true, rfl, eu, .cons (.ty _) (.cons (.ty _) .nil), .base (.tup e), kit_tt, h⟩
/-- a conditional expression of two plain values -/
theorem rd_iteV {p : Prop} [Decidable p] {σ : L2.St} {ta tb : TE} {v : V} (h1 : p → ∀ Q' : VK, Q' v H → ta σ H Q') (h2 : ¬ p → ∀ Q' : VK, Q' v H → tb σ H Q') (h : Q v H) : if decide p = true then ta σ H Q else tb σ H Q := by
  by_cases c : p
  · rw [if_pos (decide_eq_true c)]; exact h1 c Q h
  · rw [if_neg (by rw [decide_eq_false c]; exact Bool.false_ne_true)]; exact h2 c Q h
end
end Sl
set_option Elab.async false
set_option linter.all false
set_option maxRecDepth 100000
set_option maxHeartbeats 4000000
namespace Sl
open PySem L2 C8 StX Silt
local macro_rules | `(tactic| walk_at "side") => `(tactic| first
  | exact cdivw (by omega) (by omega)
  | exact cmulw (by omega) (by omega) (by omega) (by omega)
  | exact Or.inr ⟨by omega, by omega⟩
  | exact Or.inl ⟨by omega, by omega⟩
  | omega
  | exact ⟨by omega, by omega, by decide⟩
  | decide)
local macro_rules | `(tactic| walk_at "rd1") => `(tactic| first
  | with_reducible refine rd_seq ?_
  | with_reducible refine rd_asg ?_
  | with_reducible refine rd_drop ?_
  | with_reducible refine rd_ret ?_
  | with_reducible refine rd_retN ?_
  | with_reducible refine rd_ifS ?_
  | ((with_reducible refine rd_var0 ?_); refine ⟨_, rfl, ?_⟩)
  | with_reducible refine rd_c ?_
  | with_reducible refine rd_op ?_
  | with_reducible refine rd_un ?_
  | with_reducible refine rd_I0 ?_
  | with_reducible refine rd_U ?_
  | ((with_reducible refine rd_I ?c ?_); (case c => walk_at "side"))
  | with_reducible refine rd_ipI ?_
  | with_reducible refine rd_eqI ?_
  | with_reducible refine rd_neI ?_
  | with_reducible refine rd_test ?_
  | with_reducible refine rd_tB ?_
  | with_reducible refine rd_bl ?_
  | with_reducible refine rd_not ?_
  | with_reducible refine rd_and ?_
  | with_reducible refine rd_or ?_
  | with_reducible refine rd_andV ?_
  | with_reducible refine rd_orV ?_
  | with_reducible refine rd_notV ?_
  | with_reducible refine rd_ifE ?_
  | with_reducible refine rd_chain ?_
  | with_reducible refine rd_chain3 ?_
  | with_reducible refine rd_nil ?_
  | with_reducible refine rd_cons ?_
  | with_reducible refine rd_call ?_
  | with_reducible refine rd_CB ?_
  | with_reducible refine rd_par ?_
  | with_reducible refine rd_par2 ?_
  | with_reducible refine rd_par3 ?_
  | with_reducible refine rd_par4 ?_
  | ((with_reducible refine rd_aug0 ?_); refine ⟨_, rfl, ?_⟩)
  | with_reducible refine rd_gname ?_
  | with_reducible refine rd_gcons ?_
  | with_reducible refine rd_gnil ?_
  | with_reducible refine rd_max ?_
  | with_reducible refine rd_min ?_
  | with_reducible refine rd_int1 ?_
  | with_reducible refine rd_abs ?_
  | with_reducible refine rd_lst ?_
  | with_reducible refine rd_tup ?_
  | with_reducible refine rd_bm ?_
  | with_reducible refine rd_fld0 ?_
  | with_reducible refine rd_sl0 ?_
  | with_reducible refine rd_noP ?_
  | with_reducible refine rd_part ?_
  | with_reducible refine rd_part2 ?_
  | with_reducible refine rd_meth0 ?_
  | with_reducible refine rd_star ?_
  | with_reducible refine rd_for ?_
  | with_reducible refine rd_rng1 ?_
  | with_reducible refine rd_rng2 ?_
  | with_reducible refine rd_rng3 ?_
  | with_reducible refine rd_iList ?_
  | with_reducible refine rd_iTup ?_
  | with_reducible refine rd_iEnum ?_
  | with_reducible refine rd_lc ?_
  | with_reducible refine rd_yes ?_
  | with_reducible refine rd_augS ?_
  | with_reducible refine rd_drawNew ?_
  | with_reducible refine rd_make0 ?_
  | with_reducible refine rd_next ?_
  | with_reducible refine rd_break ?_
  | with_reducible refine rd_cont ?_
  | with_reducible refine rd_iteTT ?_
  | with_reducible refine rd_iteFF ?_
  | with_reducible refine rd_iteNTT ?_
  | with_reducible refine rd_iteNFF ?_
  | with_reducible refine rd_con0 ?_
  | with_reducible refine rd_truO0 ?_
  | with_reducible refine rd_gfld0 ?_
  | with_reducible refine rd_dc ?_
  | with_reducible refine rd_iKeys ?_
  | with_reducible refine rd_dget0 ?_
  | with_reducible refine rd_dput0 ?_
  | with_reducible refine rd_dnot0 ?_
  | with_reducible refine rd_iEnumT ?_
  | with_reducible refine rd_raP0 ?_
  | with_reducible refine rd_xf0 ?_
  | with_reducible refine rd_asgG ?_)
local macro_rules | `(tactic| walk_at "rd") => `(tactic| repeat walk_at "rd1")
local macro_rules | `(tactic| walk_at "len") => `(tactic| first
  | (intro vs H Q E h; obtain ⟨h2, _⟩ := h; rw [h2]; rfl)
  | (intro vs H Q E h; obtain ⟨_, h2, _⟩ := h; rw [h2]; rfl)
  | (intro vs H Q E h; obtain ⟨_, _, h2, _⟩ := h; rw [h2]; rfl)
  | (intro vs H Q E h; obtain ⟨_, _, _, h2, _⟩ := h; rw [h2]; rfl)
  | (intro vs H Q E h; obtain ⟨_, _, _, _, h2, _⟩ := h; rw [h2]; rfl)
  | (intro vs H Q E h; obtain ⟨_, _, _, _, _, h2, _⟩ := h; rw [h2]; rfl)
  | (intro vs H Q E h; obtain ⟨_, _, _, _, _, _, h2, _⟩ := h; rw [h2]; rfl)
  | (intro vs H Q E h; obtain ⟨_, _, _, _, _, _, _, h2, _⟩ := h; rw [h2]; rfl)
  | (intro vs H Q E h; obtain ⟨_, _, _, _, _, _, _, _, h2, _⟩ := h; rw [h2]; rfl)
  | (intro vs H Q E h; obtain ⟨_, _, _, _, _, _, _, _, _, h2, _⟩ := h; rw [h2]; rfl)
  | (intro vs H Q E h; obtain ⟨_, _, _, _, _, _, _, _, _, _, h2, _⟩ := h; rw [h2]; rfl)
  | (intro vs H Q E h; obtain ⟨_, _, _, _, _, _, _, _, _, _, _, h2, _⟩ := h; rw [h2]; rfl)
  | (intro vs H Q E h; obtain ⟨_, _, _, _, _, _, _, _, _, _, _, _, h2, _⟩ := h; rw [h2]; rfl))
section
variable {σ : L2.St} {H H' : Hp} {Q : VK} {K : PySem.W.Frag} {te : TE} {v : V} {f : Str}
theorem rd_isiI {i : Int} (h : Q (.bl true) H) : rIsi K [.int i, .ty "int"] H Q := ⟨_, _, _, _, true, rfl, .ty _, .base (.int i), kit_ty (by decide +kernel), h⟩
theorem rd_isiIB {i : Int} (h : Q (.bl false) H) : rIsi K [.int i, .ty "bool"] H Q := ⟨_, _, _, _, false, rfl, .ty _, .base (.int i), kit_ty (by decide +kernel), h⟩
theorem rd_isiT {a : Addr} {xs : List V} (e : H a = some (.tup xs)) (h : Q (.bl true) H) : rIsi K [.ref a, .ty "tuple"] H Q := ⟨_, _, _, _, true, rfl, .ty _, .base (.tup e), kit_ty (by decide +kernel), h⟩
end
/-! ### the data -/
def pairsD (l : List (Int × Int)) : List PyData := l.map pairD
def atp (f q : List (Int × Int)) : Pr := fun g => if g < f.length then f.getD g (0, 0) else q.getD ((g - f.length) % q.length) (0, 0)
def rf (t1 t2 : Addr) : List (Str × V) := [("front", .ref t1), ("period", .ref t2)]
theorem rf_front (t1 t2 : Addr) : (rf t1 t2).lookup ("front" : Str) = some (.ref t1) := by rfl
theorem rf_period (t1 t2 : Addr) : (rf t1 t2).lookup ("period" : Str) = some (.ref t2) := by rfl
/-- an instance at a whose front and period are the tuples of f and q -/
def RuleAt (C : Addr) (H : Hp) (a : Addr) (f q : List PyData) : Prop := ∃ dx t1 t2, H a = some (.ins C dx (rf t1 t2)) ∧ Dt H (.ref t1) (.tuple f) ∧ Dt H (.ref t2) (.tuple q)
theorem RuleAt.mono {C : Addr} {H H' : Hp} {a : Addr} {f q : List PyData} (s : Same H H') (h : RuleAt C H a f q) : RuleAt C H' a f q := by
  obtain ⟨dx, t1, t2, e, h1, h2⟩ := h
  exact ⟨dx, t1, t2, s _ _ e, h1.mono s, h2.mono s⟩
/-- a rule -/
def RuleP (C : Addr) (H : Hp) (a : Addr) (p : Pr) : Prop := ∃ f q, RuleAt C H a (pairsD f) (pairsD q) ∧ q ≠ [] ∧ p = atp f q ∧ Good p
theorem RuleP.mono {C : Addr} {H H' : Hp} {a : Addr} {p : Pr} (s : Same H H') (h : RuleP C H a p) : RuleP C H' a p := by
  obtain ⟨f, q, h1, h2, h3, h4⟩ := h
  exact ⟨f, q, h1.mono s, h2, h3, h4⟩
theorem RuleP.good {C : Addr} {H : Hp} {a : Addr} {p : Pr} (h : RuleP C H a p) : Good p := by obtain ⟨_, _, _, _, _, g⟩ := h; exact g
theorem RuleP.ins {C : Addr} {H : Hp} {a : Addr} {p : Pr} (h : RuleP C H a p) : ∃ dx t1 t2, H a = some (.ins C dx (rf t1 t2)) := by
  obtain ⟨_, _, ⟨dx, t1, t2, e, _, _⟩, _⟩ := h
  exact ⟨dx, t1, t2, e⟩
theorem Dt.tup_inv {H : Hp} {t : Addr} {ds : List PyData} (h : Dt H (.ref t) (.tuple ds)) : ∃ xs, H t = some (.tup xs) ∧ DtAll H xs ds := by
  cases h with
  | tup e h => exact ⟨_, e, h⟩
theorem Dt.lst_inv {H : Hp} {t : Addr} {ds : List PyData} (h : Dt H (.ref t) (.list ds)) : ∃ xs, H t = some (.lst xs) ∧ DtAll H xs ds := by
  cases h with
  | lst e h => exact ⟨_, e, h⟩
theorem Dt.pair_inv {H : Hp} {v : V} {q : Int × Int} (h : Dt H v (pairD q)) : ∃ t, v = .ref t ∧ H t = some (.tup [.int q.1, .int q.2]) := by
  unfold pairD at h
  cases h with
  | tup e h =>
    cases h with
    | cons h1 h2 =>
      cases h1
      cases h2 with
      | cons h1 h2 =>
        cases h1
        cases h2
        exact ⟨_, rfl, e⟩
theorem atI_nat' {α : Type} {xs : List α} {i : Nat} {x : α} (h : xs[i]? = some x) : atI xs (i : Int) = some x := by
  exact atI_nat h
/-! ### promises -/
def spWhole : Sp := fun vs H Q _ => ∃ i : Int, vs = [.int i] ∧ Q (.bl true) H
def spChkR (C : Addr) : Sp := fun vs H Q _ => ∃ a p, vs = [.ref a] ∧ RuleP C H a p ∧ Q .non H
def spChkN : Sp := fun vs H Q _ => ∃ i j : Int, vs = [.int i, .int j] ∧ j ≤ i ∧ Q .non H
def spGet (C : Addr) : Sp := fun vs H Q _ => ∃ (a : Addr) (p : Pr) (g : Int), vs = [.ref a, .int g] ∧ RuleP C H a p ∧ 0 ≤ g ∧ ∀ t, H t = some (.tup [.int (p g.toNat).1, .int (p g.toNat).2]) → Q (.ref t) H
section
variable {P : Program} {w : World} {K : PySem.W.Frag} {mg : Str → Option Value} {base : Heap} {C_Rule C_Evidence C_Good C_Cheapest C_BadDay C_BadChoices : Addr}
theorem cal_is_whole (T : TX P K mg C_Rule C_Evidence C_Good C_Cheapest C_BadDay C_BadChoices) : Cal P w K mg base 1 "is_whole" spWhole [] := by
  obtain ⟨f0, fd, D, dn⟩ := T.d_is_whole
  refine cal0 D (D.fn.binds dn fun _ _ _ _ _ _ us hl => match us, hl with | [_], _ => rfl) .nil sc_is_whole (by walk_at "len") (fun cdv A outer s H vs Q E hr h => ?_)
  obtain ⟨i, rfl, k⟩ := h
  refine ⟨_, (pss_one (ps_ret (pe_and (pe_callB call_isi (by rfl) T.b_isinstance (by decide +kernel) (pa_cons (pv 0) (pa_cons (pe_bltn (v := .ty "int") (u := .type "int") rfl T.b_int (by decide +kernel) rfl) pa_nil))) (pe_one (pe_not (pe_callB call_isi (by rfl) T.b_isinstance (by decide +kernel) (pa_cons (pv 0) (pa_cons (pe_bltn (v := .ty "bool") (u := .type "bool") rfl T.b_bool (by decide +kernel) rfl) pa_nil)))))))), ?_⟩
  walk_at "rd"
  refine rd_isiI ?_
  walk_at "rd"
  refine rd_isiIB ?_
  walk_at "rd"
  exact k
theorem cal_check_rule (T : TX P K mg C_Rule C_Evidence C_Good C_Cheapest C_BadDay C_BadChoices) : Cal P w K mg base 1 "check_rule" (spChkR C_Rule) [] := by
  obtain ⟨f0, fd, D, dn⟩ := T.d_check_rule
  refine cal0 D (D.fn.binds dn fun _ _ _ _ _ _ us hl => match us, hl with | [_], _ => rfl) .nil sc_check_rule (by walk_at "len") (fun cdv A outer s H vs Q E hr h => ?_)
  obtain ⟨a, p, rfl, hp, k⟩ := h
  obtain ⟨dx, t1, t2, e⟩ := hp.ins
  refine ⟨_, (pss_one (ps_if (pt_not (pt_val (pe_callB (cr_isC T.i_Rule) (by rfl) T.b_isinstance (by decide +kernel) (pa_cons (pv 0) (pa_cons (pe_gc rfl T.g_Rule) pa_nil))))) (pss_one ps_never) pss_nil)), ?_⟩
  walk_at "rd"
  refine rd_isC e ?_
  walk_at "rd"
  exact k
theorem cal2_check_number (T : TX P K mg C_Rule C_Evidence C_Good C_Cheapest C_BadDay C_BadChoices) : ∃ f fd, C8.Def K mg "check_number" s_check_number f fd ∧ (∃ ds, Vals [] ds ∧ Binds K fd P_check_number ds) ∧ (∃ ds, Vals [.int 0] ds ∧ Binds K fd P_check_number ds) ∧ FnOk P w K mg base C8.CX0 2 f fd P_check_number spChkN := by
  obtain ⟨f0, fd, D, b0, b1⟩ := T.d_check_number
  have G_is_whole := cal_is_whole (P := P) (w := w) (base := base) T
  refine ⟨f0, fd, D, b0, b1, fn0 D.fn sc_check_number (by walk_at "len") (fun cdv A outer s H vs Q E hr h => ?_)⟩
  obtain ⟨i, j, rfl, hij, k⟩ := h
  refine ⟨_, (pss_one (ps_if (PW.pt (pw_or (pt_not (pt_val (pe_c G_is_whole hr (by decide) rfl (pa_cons (pv 0) pa_nil)))) (pw_or1 (pt_cmpR op_lt (pv 0) (pv 1) (nomark _))))) (pss_one ps_never) pss_nil)), ?_⟩
  walk_at "rd"
  refine ⟨_, rfl, ?_⟩
  walk_at "rd"
  refine rd_iteF (by omega) ?_
  walk_at "rd"
  exact k
end
section
variable {P : Program} {w : World} {K : PySem.W.Frag} {mg : Str → Option Value} {base : Heap} {C_Rule C_Evidence C_Good C_Cheapest C_BadDay C_BadChoices : Addr}
/-- check_number(thing) -/
theorem cal_check_number (T : TX P K mg C_Rule C_Evidence C_Good C_Cheapest C_BadDay C_BadChoices) : Cal P w K mg base 2 "check_number" spChkN [.int 0] := by
  obtain ⟨f, fd, D, _, ⟨ds, v, b⟩, F⟩ := cal2_check_number (P := P) (w := w) (base := base) T
  exact ⟨f, fd, _, ds, F, D.mgf, D.kp, b, v⟩
/-- check_number(thing, least) -/
theorem cal_check_number_2 (T : TX P K mg C_Rule C_Evidence C_Good C_Cheapest C_BadDay C_BadChoices) : Cal P w K mg base 2 "check_number" spChkN [] := by
  obtain ⟨f, fd, D, ⟨ds, v, b⟩, _, F⟩ := cal2_check_number (P := P) (w := w) (base := base) T
  exact ⟨f, fd, _, ds, F, D.mgf, D.kp, b, v⟩
theorem met_Rule_getitem (T : TX P K mg C_Rule C_Evidence C_Good C_Cheapest C_BadDay C_BadChoices) : Met P w K mg base 1 C_Rule "__getitem__" (spGet C_Rule) [] := by
  obtain ⟨f0, fd, D, dn, me, _⟩ := T.m_Rule_getitem
  refine met0 T.cl_Rule me D (D.binds dn fun _ _ _ _ _ _ us hl => match us, hl with | [_, _], _ => rfl) sc_Rule_getitem (by walk_at "len") (fun cdv A outer s H vs Q E hr h => ?_)
  obtain ⟨a, p, g, rfl, ⟨f, q, ⟨dx, t1, t2, e, h1, h2⟩, hq, rfl, gd⟩, hg, k⟩ := h
  obtain ⟨xs1, e1, d1⟩ := h1.tup_inv
  obtain ⟨xs2, e2, d2⟩ := h2.tup_inv
  have l1 : xs1.length = f.length := by rw [d1.length]; simp [pairsD]
  have l2 : xs2.length = q.length := by rw [d2.length]; simp [pairsD]
  have q0 : 0 < q.length := by cases q with | nil => exact absurd rfl hq | cons _ _ => exact Nat.succ_pos _
  obtain ⟨n, rfl⟩ : ∃ n : Nat, g = n := ⟨g.toNat, by omega⟩
  simp only [Int.toNat_natCast] at k
  refine ⟨_, (pss_cons (ps_if (pt_cmpR op_lt (pv 1) (pe_callB cr_lenS (by rfl) T.b_len (by decide +kernel) (pa_cons (pe_fld (pv 0) rfl) pa_nil)) (nomark _)) (pss_one (ps_ret (pe_ix ix_tup (pe_fld (pv 0) rfl) (pv 1) (fun _ _ => rfl)))) pss_nil)
      (pss_one (ps_ret (pe_ix ix_tup (pe_fld (pv 0) rfl) (pe_op op_modN (pe_op op_sub (pv 1) (pe_callB cr_lenS (by rfl) T.b_len (by decide +kernel) (pa_cons (pe_fld (pv 0) rfl) pa_nil))) (pe_callB cr_lenS (by rfl) T.b_len (by decide +kernel) (pa_cons (pe_fld (pv 0) rfl) pa_nil))) (fun _ _ => rfl))))), ?_⟩
  walk_at "rd"
  refine rd_fld e T.cl_Rule T.na_Rule_front (rf_front _ _) ?_
  walk_at "rd"
  refine rd_lenT e1 ?_
  walk_at "rd"
  refine rd_ite (fun c => ?_) (fun c => ?_)
  · walk_at "rd"
    refine rd_fld e T.cl_Rule T.na_Rule_front (rf_front _ _) ?_
    walk_at "rd"
    have hn : n < f.length := by omega
    obtain ⟨v, hv, dv⟩ := d1.get (i := n) (d := pairD (f[n])) (by simp [pairsD, hn])
    obtain ⟨t, rfl, et⟩ := dv.pair_inv
    refine rd_ixT e1 (atI_nat' hv) (k t ?_)
    rw [et]
    simp [atp, hn, List.getD_eq_getElem?_getD]
  · walk_at "rd"
    refine rd_fld e T.cl_Rule T.na_Rule_period (rf_period _ _) ?_
    walk_at "rd"
    refine rd_fld e T.cl_Rule T.na_Rule_front (rf_front _ _) ?_
    walk_at "rd"
    refine rd_lenT e1 ?_
    walk_at "rd"
    refine rd_fld e T.cl_Rule T.na_Rule_period (rf_period _ _) ?_
    walk_at "rd"
    refine rd_lenT e2 ?_
    walk_at "rd"
    have hn : ¬ n < f.length := by omega
    have hm : ((n : Int) - (xs1.length : Int)).fmod (xs2.length : Int) = (((n - f.length) % q.length : Nat) : Int) := by
      rw [l1, l2, Int.fmod_eq_emod_of_nonneg _ (by omega)]
      rw [show (n : Int) - (f.length : Int) = ((n - f.length : Nat) : Int) by omega]
      exact (Int.natCast_emod _ _).symm
    rw [hm]
    have hlt : (n - f.length) % q.length < q.length := Nat.mod_lt _ q0
    obtain ⟨v, hv, dv⟩ := d2.get (i := (n - f.length) % q.length) (d := pairD (q[(n - f.length) % q.length])) (by simp [pairsD, hlt])
    obtain ⟨t, rfl, et⟩ := dv.pair_inv
    refine rd_ixT e2 (atI_nat' hv) (k t ?_)
    rw [et]
    simp [atp, hn, hlt, List.getD_eq_getElem?_getD]
end
end Sl

set_option Elab.async false
set_option linter.all false
set_option maxRecDepth 100000
set_option maxHeartbeats 4000000
set_option exponentiation.threshold 9000
namespace Sl
open PySem L2 C8 StX Silt
local macro_rules | `(tactic| walk_at "side") => `(tactic| first
  | exact cdivw (by omega) (by omega)
  | exact cmulw (by omega) (by omega) (by omega) (by omega)
  | exact Or.inr ⟨by omega, by omega⟩
  | exact Or.inl ⟨by omega, by omega⟩
  | omega
  | exact ⟨by omega, by omega, by decide⟩
  | decide)
local macro_rules | `(tactic| walk_at "rd1") => `(tactic| first
  | with_reducible refine rd_seq ?_
  | with_reducible refine rd_asg ?_
  | with_reducible refine rd_drop ?_
  | with_reducible refine rd_ret ?_
  | with_reducible refine rd_retN ?_
  | with_reducible refine rd_ifS ?_
  | ((with_reducible refine rd_var0 ?_); refine ⟨_, rfl, ?_⟩)
  | with_reducible refine rd_c ?_
  | with_reducible refine rd_op ?_
  | with_reducible refine rd_un ?_
  | with_reducible refine rd_I0 ?_
  | with_reducible refine rd_U ?_
  | ((with_reducible refine rd_I ?c ?_); (case c => walk_at "side"))
  | with_reducible refine rd_ipI ?_
  | with_reducible refine rd_eqI ?_
  | with_reducible refine rd_neI ?_
  | with_reducible refine rd_test ?_
  | with_reducible refine rd_tB ?_
  | with_reducible refine rd_bl ?_
  | with_reducible refine rd_not ?_
  | with_reducible refine rd_and ?_
  | with_reducible refine rd_or ?_
  | with_reducible refine rd_andV ?_
  | with_reducible refine rd_orV ?_
  | with_reducible refine rd_notV ?_
  | with_reducible refine rd_ifE ?_
  | with_reducible refine rd_chain ?_
  | with_reducible refine rd_chain3 ?_
  | with_reducible refine rd_nil ?_
  | with_reducible refine rd_cons ?_
  | with_reducible refine rd_call ?_
  | with_reducible refine rd_CB ?_
  | with_reducible refine rd_par ?_
  | with_reducible refine rd_par2 ?_
  | with_reducible refine rd_par3 ?_
  | with_reducible refine rd_par4 ?_
  | ((with_reducible refine rd_aug0 ?_); refine ⟨_, rfl, ?_⟩)
  | with_reducible refine rd_gname ?_
  | with_reducible refine rd_gcons ?_
  | with_reducible refine rd_gnil ?_
  | with_reducible refine rd_max ?_
  | with_reducible refine rd_min ?_
  | with_reducible refine rd_int1 ?_
  | with_reducible refine rd_abs ?_
  | with_reducible refine rd_lst ?_
  | with_reducible refine rd_tup ?_
  | with_reducible refine rd_bm ?_
  | with_reducible refine rd_fld0 ?_
  | with_reducible refine rd_sl0 ?_
  | with_reducible refine rd_noP ?_
  | with_reducible refine rd_part ?_
  | with_reducible refine rd_part2 ?_
  | with_reducible refine rd_meth0 ?_
  | with_reducible refine rd_star ?_
  | with_reducible refine rd_for ?_
  | with_reducible refine rd_rng1 ?_
  | with_reducible refine rd_rng2 ?_
  | with_reducible refine rd_rng3 ?_
  | with_reducible refine rd_iList ?_
  | with_reducible refine rd_iTup ?_
  | with_reducible refine rd_iEnum ?_
  | with_reducible refine rd_lc ?_
  | with_reducible refine rd_yes ?_
  | with_reducible refine rd_augS ?_
  | with_reducible refine rd_drawNew ?_
  | with_reducible refine rd_make0 ?_
  | with_reducible refine rd_next ?_
  | with_reducible refine rd_break ?_
  | with_reducible refine rd_cont ?_
  | with_reducible refine rd_iteTT ?_
  | with_reducible refine rd_iteFF ?_
  | with_reducible refine rd_iteNTT ?_
  | with_reducible refine rd_iteNFF ?_
  | with_reducible refine rd_con0 ?_
  | with_reducible refine rd_truO0 ?_
  | with_reducible refine rd_gfld0 ?_
  | with_reducible refine rd_dc ?_
  | with_reducible refine rd_iKeys ?_
  | with_reducible refine rd_dget0 ?_
  | with_reducible refine rd_dput0 ?_
  | with_reducible refine rd_dnot0 ?_
  | with_reducible refine rd_iEnumT ?_
  | with_reducible refine rd_raP0 ?_
  | with_reducible refine rd_xf0 ?_
  | with_reducible refine rd_asgG ?_)
local macro_rules | `(tactic| walk_at "rd") => `(tactic| repeat walk_at "rd1")
local macro_rules | `(tactic| walk_at "len") => `(tactic| first
  | (intro vs H Q E h; obtain ⟨h2, _⟩ := h; rw [h2]; rfl)
  | (intro vs H Q E h; obtain ⟨_, h2, _⟩ := h; rw [h2]; rfl)
  | (intro vs H Q E h; obtain ⟨_, _, h2, _⟩ := h; rw [h2]; rfl)
  | (intro vs H Q E h; obtain ⟨_, _, _, h2, _⟩ := h; rw [h2]; rfl)
  | (intro vs H Q E h; obtain ⟨_, _, _, _, h2, _⟩ := h; rw [h2]; rfl)
  | (intro vs H Q E h; obtain ⟨_, _, _, _, _, h2, _⟩ := h; rw [h2]; rfl)
  | (intro vs H Q E h; obtain ⟨_, _, _, _, _, _, h2, _⟩ := h; rw [h2]; rfl)
  | (intro vs H Q E h; obtain ⟨_, _, _, _, _, _, _, h2, _⟩ := h; rw [h2]; rfl)
  | (intro vs H Q E h; obtain ⟨_, _, _, _, _, _, _, _, h2, _⟩ := h; rw [h2]; rfl)
  | (intro vs H Q E h; obtain ⟨_, _, _, _, _, _, _, _, _, h2, _⟩ := h; rw [h2]; rfl)
  | (intro vs H Q E h; obtain ⟨_, _, _, _, _, _, _, _, _, _, h2, _⟩ := h; rw [h2]; rfl)
  | (intro vs H Q E h; obtain ⟨_, _, _, _, _, _, _, _, _, _, _, h2, _⟩ := h; rw [h2]; rfl)
  | (intro vs H Q E h; obtain ⟨_, _, _, _, _, _, _, _, _, _, _, _, h2, _⟩ := h; rw [h2]; rfl))
/-- a grade -/
abbrev Gr (g : Int) : Prop := 0 ≤ g ∧ g ≤ 2100
/-- a day, a number -/
abbrev Dy (d : Int) : Prop := 0 ≤ d ∧ d ≤ DD
theorem size_le {p : Pr} (h : Good p) : ∀ g : Nat, size p g ≤ ((12 ^ g : Nat) : Int)
  | 0 => by simp [size]
  | g + 1 => by
    have h1 := size_le h g
    have h2 := size_pos h g
    have h3 : (p g).2 ≤ 12 := by have := h.le g; have := h.hi g; omega
    have h4 := h.lo g
    show size p g * (p g).2 ≤ _
    have e : ((12 ^ (g + 1) : Nat) : Int) = ((12 ^ g : Nat) : Int) * 12 := by rw [Nat.pow_succ]; omega
    rw [e]
    exact Int.mul_le_mul h1 h3 (by omega) (by omega)
theorem owed_le {p : Pr} (h : Good p) : ∀ g : Nat, owed p g ≤ ((12 ^ (g + 1) : Nat) : Int) - 12
  | 0 => by simp [owed]
  | g + 1 => by
    have h1 := owed_le h g
    have h2 := size_le h g
    have h2' := size_pos h g
    have h3 : (p g).1 - (p g).2 ≤ 10 := by have := h.lo g; have := h.hi g; omega
    have h4 : 0 ≤ (p g).1 - (p g).2 := by have := h.le g; omega
    show owed p g + size p g * ((p g).1 - (p g).2) ≤ _
    have h5 : size p g * ((p g).1 - (p g).2) ≤ ((12 ^ g : Nat) : Int) * 10 := Int.mul_le_mul h2 h3 h4 (by omega)
    have e : ((12 ^ (g + 1 + 1) : Nat) : Int) = ((12 ^ g : Nat) : Int) * 144 := by rw [Nat.pow_succ, Nat.pow_succ]; omega
    have e1 : ((12 ^ (g + 1) : Nat) : Int) = ((12 ^ g : Nat) : Int) * 12 := by rw [Nat.pow_succ]; omega
    rw [e]
    rw [e1] at h1
    omega
theorem pow12 {g : Nat} (h : g ≤ 2200) : 12 ^ g ≤ BBn := by
  unfold BBn
  have h1 : (12 : Nat) ^ g ≤ 12 ^ 2200 := Nat.pow_le_pow_right (by decide) h
  have h2 : (12 : Nat) ^ 2200 ≤ 16 ^ 2200 := Nat.pow_le_pow_left (by decide) _
  have h3 : (16 : Nat) ^ 2200 = 2 ^ 8800 := (Nat.pow_mul 2 4 2200).symm
  have h4 : (2 : Nat) ^ 8800 ≤ 2 ^ 8900 := Nat.pow_le_pow_right (by decide) (by decide)
  exact Nat.le_trans h1 (Nat.le_trans h2 (h3 ▸ h4))
theorem size_bb {p : Pr} (h : Good p) {g : Nat} (hg : g ≤ 2200) : size p g ≤ BB := by
  have h1 := size_le h g
  have h2 := pow12 hg
  unfold BB
  omega
theorem owed_bb {p : Pr} (h : Good p) {g : Nat} (hg : g ≤ 2199) : owed p g ≤ BB := by
  have h1 := owed_le h g
  have h2 := pow12 (g := g + 1) (by omega)
  unfold BB
  omega
def spSize (C : Addr) : Sp := fun vs H Q _ => ∃ (a : Addr) (p : Pr) (g : Int), vs = [.ref a, .int g] ∧ RuleP C H a p ∧ (0 ≤ g ∧ g ≤ 2101) ∧ Q (.int (size p g.toNat)) H
def spOwed (C : Addr) : Sp := fun vs H Q _ => ∃ (a : Addr) (p : Pr) (g : Int), vs = [.ref a, .int g] ∧ RuleP C H a p ∧ (0 ≤ g ∧ g ≤ 2101) ∧ ∀ H', Same H H' → Q (.int (owed p g.toNat)) H'
def spMade (C : Addr) : Sp := fun vs H Q _ => ∃ (a : Addr) (p : Pr) (g d : Int), vs = [.ref a, .int g, .int d] ∧ RuleP C H a p ∧ Gr g ∧ Dy d ∧ ∀ H', Same H H' → Q (.int (made p g.toNat d)) H'
section
variable {P : Program} {w : World} {K : PySem.W.Frag} {mg : Str → Option Value} {base : Heap} {C_Rule C_Evidence C_Good C_Cheapest C_BadDay C_BadChoices : Addr}
theorem met_Rule_size (T : TX P K mg C_Rule C_Evidence C_Good C_Cheapest C_BadDay C_BadChoices) : Met P w K mg base 3 C_Rule "size" (spSize C_Rule) [] := by
  obtain ⟨f0, fd, D, dn, me, _⟩ := T.m_Rule_size
  have G_Rule_getitem := met_Rule_getitem (P := P) (w := w) (base := base) T
  refine met0 T.cl_Rule me D (D.binds dn fun _ _ _ _ _ _ us hl => match us, hl with | [_, _], _ => rfl) sc_Rule_size (by walk_at "len") (fun cdv A outer s H vs Q E hr h => ?_)
  obtain ⟨a, p, g, rfl, hp, ⟨g0, g1⟩, k⟩ := h
  obtain ⟨dx, t1, t2, e⟩ := hp.ins
  have gd := hp.good
  refine ⟨_, (pss_cons (ps_s 2 sc_Rule_size.nd pe_int)
      (pss_cons (ps_for PassesOwn.never rfl (pi_range1 rfl T.b_range (pa_cons (pv 1) pa_nil)) (pg_n 3 sc_Rule_size.nd) (pss_one (ps_au 2 sc_Rule_size.nd (pe_ix ix_tup (pe_ixO G_Rule_getitem hr (by decide) (pv 0) (pv 3) T.fi_Rule) pe_int (fun _ _ => rfl)) iop_mul)))
      (pss_one (ps_ret (pv 2))))), ?_⟩
  walk_at "rd"
  refine rd_rgR1 (by omega) (by omega) ?_
  refine forR_rng (fun i σ H' => ∃ v, H' = H ∧ σ = [some (.ref a), some (.int g), some (.int (size p i)), v]) ⟨none, rfl, rfl⟩ ?_ ?_
  · rintro i σ H' hi ⟨v, rfl, rfl⟩
    walk_at "rd"
    refine rd_ownI e ⟨a, p, _, rfl, hp, by omega, fun t et => ?_⟩
    walk_at "rd"
    have ei : (0 + (i : Int)).toNat = i := by omega
    rw [ei] at et
    have b1 := gd.lo i
    have b2 := gd.le i
    have b3 := gd.hi i
    refine rd_ixT et (by rfl) ?_
    walk_at "rd"
    exact ⟨_, rfl, rfl⟩
  · rintro σ H' ⟨v, rfl, rfl⟩
    walk_at "rd"
    exact k
theorem met_Rule_owed (T : TX P K mg C_Rule C_Evidence C_Good C_Cheapest C_BadDay C_BadChoices) : Met P w K mg base 3 C_Rule "owed" (spOwed C_Rule) [] := by
  obtain ⟨f0, fd, D, dn, me, _⟩ := T.m_Rule_owed
  have G_Rule_getitem := met_Rule_getitem (P := P) (w := w) (base := base) T
  refine met0 T.cl_Rule me D (D.binds dn fun _ _ _ _ _ _ us hl => match us, hl with | [_, _], _ => rfl) sc_Rule_owed (by walk_at "len") (fun cdv A outer s H vs Q E hr h => ?_)
  obtain ⟨a, p, g, rfl, hp, ⟨g0, g1⟩, k⟩ := h
  obtain ⟨dx, t1, t2, e⟩ := hp.ins
  have gd := hp.good
  refine ⟨_, (pss_cons (ps_asg (pe_tup (pa_cons pe_int (pa_cons pe_int pa_nil))) (pg_tup rfl (pgs_cons (pg_n 2 sc_Rule_owed.nd) (pgs_cons (pg_n 3 sc_Rule_owed.nd) pgs_nil))))
      (pss_cons (ps_for PassesOwn.never rfl (pi_range1 rfl T.b_range (pa_cons (pv 1) pa_nil)) (pg_n 4 sc_Rule_owed.nd) (pss_cons (ps_au 2 sc_Rule_owed.nd (pe_op op_mulW (pv 3) (pe_op op_sub (pe_ix ix_tup (pe_ixO G_Rule_getitem hr (by decide) (pv 0) (pv 4) T.fi_Rule) pe_int (fun _ _ => rfl)) (pe_ix ix_tup (pe_ixO G_Rule_getitem hr (by decide) (pv 0) (pv 4) T.fi_Rule) pe_int (fun _ _ => rfl)))) ip_add)
      (pss_one (ps_au 3 sc_Rule_owed.nd (pe_ix ix_tup (pe_ixO G_Rule_getitem hr (by decide) (pv 0) (pv 4) T.fi_Rule) pe_int (fun _ _ => rfl)) iop_mul))))
      (pss_one (ps_ret (pv 2))))), ?_⟩
  walk_at "rd"
  refine rd_newT (by decide) fun t0 H0 _ s0 et0 _ => ?_
  walk_at "rd"
  refine rd_gtup et0 rfl ?_
  walk_at "rd"
  have hp := hp.mono s0
  have e := s0 _ _ e
  refine rd_rgR1 (by omega) (by omega) ?_
  refine forR_rng (fun i σ H' => ∃ v, H' = H0 ∧ σ = [some (.ref a), some (.int g), some (.int (owed p i)), some (.int (size p i)), v]) ⟨none, rfl, rfl⟩ ?_ ?_
  · rintro i σ H' hi ⟨v, rfl, rfl⟩
    have b1 := gd.lo i
    have b2 := gd.le i
    have b3 := gd.hi i
    have b4 := size_pos gd i
    have b5 := size_bb gd (g := i) (by omega)
    have b6 := bb_pos
    have ei : (0 + (i : Int)).toNat = i := by omega
    walk_at "rd"
    refine rd_ownI e ⟨a, p, _, rfl, hp, by omega, fun t et => ?_⟩
    walk_at "rd"
    rw [ei] at et
    refine rd_ixT et (by rfl) ?_
    walk_at "rd"
    refine rd_ownI e ⟨a, p, _, rfl, hp, by omega, fun t et => ?_⟩
    walk_at "rd"
    rw [ei] at et
    refine rd_ixT et (by rfl) ?_
    walk_at "rd"
    refine rd_ownI e ⟨a, p, _, rfl, hp, by omega, fun t et => ?_⟩
    walk_at "rd"
    rw [ei] at et
    refine rd_ixT et (by rfl) ?_
    walk_at "rd"
    exact ⟨_, rfl, rfl⟩
  · rintro σ H' ⟨v, rfl, rfl⟩
    walk_at "rd"
    exact k _ s0
theorem cal_made (T : TX P K mg C_Rule C_Evidence C_Good C_Cheapest C_BadDay C_BadChoices) : Cal P w K mg base 4 "made" (spMade C_Rule) [] := by
  obtain ⟨f0, fd, D, dn⟩ := T.d_made
  have G_check_rule := cal_check_rule (P := P) (w := w) (base := base) T
  have G_check_number := cal_check_number (P := P) (w := w) (base := base) T
  have G_Rule_owed := met_Rule_owed (P := P) (w := w) (base := base) T
  have G_Rule_size := met_Rule_size (P := P) (w := w) (base := base) T
  refine cal0 D (D.fn.binds dn fun _ _ _ _ _ _ us hl => match us, hl with | [_, _, _], _ => rfl) .nil sc_made (by walk_at "len") (fun cdv A outer s H vs Q E hr h => ?_)
  obtain ⟨a, p, g, d, rfl, hp, ⟨g0, g1⟩, ⟨d0, d1⟩, k⟩ := h
  obtain ⟨dx, t1, t2, e⟩ := hp.ins
  have gd := hp.good
  have b4 := size_pos gd g.toNat
  have b5 := size_bb gd (g := g.toNat) (by omega)
  refine ⟨_, (pss_cons (ps_expr (pe_c G_check_rule hr (by decide) rfl (pa_cons (pv 0) pa_nil)))
      (pss_cons (ps_expr (pe_c G_check_number hr (by decide) rfl (pa_cons (pv 1) pa_nil)))
      (pss_cons (ps_expr (pe_c G_check_number hr (by decide) rfl (pa_cons (pv 2) pa_nil)))
      (pss_one (ps_ret (pe_callB (cr_max2 rfl) (by rfl) T.b_max (by decide +kernel) (pa_cons pe_int (pa_cons (pe_op op_fdivW (pe_op op_sub (pv 2) (pe_mt G_Rule_owed hr (by decide) (pv 0) (pa_cons (pv 1) pa_nil))) (pe_mt G_Rule_size hr (by decide) (pv 0) (pa_cons (pv 1) pa_nil))) pa_nil)))))))), ?_⟩
  walk_at "rd"
  refine ⟨a, p, rfl, hp, ?_⟩
  walk_at "rd"
  refine ⟨_, _, rfl, g0, ?_⟩
  walk_at "rd"
  refine ⟨_, _, rfl, d0, ?_⟩
  walk_at "rd"
  refine ⟨_, _, _, rfl, e, rfl, ?_⟩
  walk_at "rd"
  refine ⟨a, p, _, rfl, hp, by omega, fun H1 s1 => ?_⟩
  walk_at "rd"
  refine ⟨_, _, _, rfl, s1 _ _ e, rfl, ?_⟩
  walk_at "rd"
  refine ⟨a, p, _, rfl, hp.mono s1, by omega, ?_⟩
  walk_at "rd"
  exact k _ s1
end
end Sl

set_option Elab.async false
set_option linter.all false
set_option maxRecDepth 100000
set_option maxHeartbeats 4000000
set_option exponentiation.threshold 9000
namespace Sl
open PySem L2 C8 StX Silt
local macro_rules | `(tactic| walk_at "side") => `(tactic| first
  | exact cdivw (by omega) (by omega)
  | exact cmulw (by omega) (by omega) (by omega) (by omega)
  | exact Or.inr ⟨by omega, by omega⟩
  | exact Or.inl ⟨by omega, by omega⟩
  | omega
  | exact ⟨by omega, by omega, by decide⟩
  | decide)
local macro_rules | `(tactic| walk_at "rd1") => `(tactic| first
  | with_reducible refine rd_seq ?_
  | with_reducible refine rd_asg ?_
  | with_reducible refine rd_drop ?_
  | with_reducible refine rd_ret ?_
  | with_reducible refine rd_retN ?_
  | with_reducible refine rd_ifS ?_
  | ((with_reducible refine rd_var0 ?_); refine ⟨_, rfl, ?_⟩)
  | with_reducible refine rd_c ?_
  | with_reducible refine rd_op ?_
  | with_reducible refine rd_un ?_
  | with_reducible refine rd_I0 ?_
  | with_reducible refine rd_U ?_
  | ((with_reducible refine rd_I ?c ?_); (case c => walk_at "side"))
  | with_reducible refine rd_ipI ?_
  | with_reducible refine rd_eqI ?_
  | with_reducible refine rd_neI ?_
  | with_reducible refine rd_test ?_
  | with_reducible refine rd_tB ?_
  | with_reducible refine rd_bl ?_
  | with_reducible refine rd_not ?_
  | with_reducible refine rd_and ?_
  | with_reducible refine rd_or ?_
  | with_reducible refine rd_andV ?_
  | with_reducible refine rd_orV ?_
  | with_reducible refine rd_notV ?_
  | with_reducible refine rd_ifE ?_
  | with_reducible refine rd_chain ?_
  | with_reducible refine rd_chain3 ?_
  | with_reducible refine rd_nil ?_
  | with_reducible refine rd_cons ?_
  | with_reducible refine rd_call ?_
  | with_reducible refine rd_CB ?_
  | with_reducible refine rd_par ?_
  | with_reducible refine rd_par2 ?_
  | with_reducible refine rd_par3 ?_
  | with_reducible refine rd_par4 ?_
  | ((with_reducible refine rd_aug0 ?_); refine ⟨_, rfl, ?_⟩)
  | with_reducible refine rd_gname ?_
  | with_reducible refine rd_gcons ?_
  | with_reducible refine rd_gnil ?_
  | with_reducible refine rd_max ?_
  | with_reducible refine rd_min ?_
  | with_reducible refine rd_int1 ?_
  | with_reducible refine rd_abs ?_
  | with_reducible refine rd_lst ?_
  | with_reducible refine rd_tup ?_
  | with_reducible refine rd_bm ?_
  | with_reducible refine rd_fld0 ?_
  | with_reducible refine rd_sl0 ?_
  | with_reducible refine rd_noP ?_
  | with_reducible refine rd_part ?_
  | with_reducible refine rd_part2 ?_
  | with_reducible refine rd_meth0 ?_
  | with_reducible refine rd_star ?_
  | with_reducible refine rd_for ?_
  | with_reducible refine rd_rng1 ?_
  | with_reducible refine rd_rng2 ?_
  | with_reducible refine rd_rng3 ?_
  | with_reducible refine rd_iList ?_
  | with_reducible refine rd_iTup ?_
  | with_reducible refine rd_iEnum ?_
  | with_reducible refine rd_lc ?_
  | with_reducible refine rd_yes ?_
  | with_reducible refine rd_augS ?_
  | with_reducible refine rd_drawNew ?_
  | with_reducible refine rd_make0 ?_
  | with_reducible refine rd_next ?_
  | with_reducible refine rd_break ?_
  | with_reducible refine rd_cont ?_
  | with_reducible refine rd_iteTT ?_
  | with_reducible refine rd_iteFF ?_
  | with_reducible refine rd_iteNTT ?_
  | with_reducible refine rd_iteNFF ?_
  | with_reducible refine rd_con0 ?_
  | with_reducible refine rd_truO0 ?_
  | with_reducible refine rd_gfld0 ?_
  | with_reducible refine rd_dc ?_
  | with_reducible refine rd_iKeys ?_
  | with_reducible refine rd_dget0 ?_
  | with_reducible refine rd_dput0 ?_
  | with_reducible refine rd_dnot0 ?_
  | with_reducible refine rd_iEnumT ?_
  | with_reducible refine rd_raP0 ?_
  | with_reducible refine rd_xf0 ?_
  | with_reducible refine rd_asgG ?_)
local macro_rules | `(tactic| walk_at "rd") => `(tactic| repeat walk_at "rd1")
local macro_rules | `(tactic| walk_at "len") => `(tactic| first
  | (intro vs H Q E h; obtain ⟨h2, _⟩ := h; rw [h2]; rfl)
  | (intro vs H Q E h; obtain ⟨_, h2, _⟩ := h; rw [h2]; rfl)
  | (intro vs H Q E h; obtain ⟨_, _, h2, _⟩ := h; rw [h2]; rfl)
  | (intro vs H Q E h; obtain ⟨_, _, _, h2, _⟩ := h; rw [h2]; rfl)
  | (intro vs H Q E h; obtain ⟨_, _, _, _, h2, _⟩ := h; rw [h2]; rfl)
  | (intro vs H Q E h; obtain ⟨_, _, _, _, _, h2, _⟩ := h; rw [h2]; rfl)
  | (intro vs H Q E h; obtain ⟨_, _, _, _, _, _, h2, _⟩ := h; rw [h2]; rfl)
  | (intro vs H Q E h; obtain ⟨_, _, _, _, _, _, _, h2, _⟩ := h; rw [h2]; rfl)
  | (intro vs H Q E h; obtain ⟨_, _, _, _, _, _, _, _, h2, _⟩ := h; rw [h2]; rfl)
  | (intro vs H Q E h; obtain ⟨_, _, _, _, _, _, _, _, _, h2, _⟩ := h; rw [h2]; rfl)
  | (intro vs H Q E h; obtain ⟨_, _, _, _, _, _, _, _, _, _, h2, _⟩ := h; rw [h2]; rfl)
  | (intro vs H Q E h; obtain ⟨_, _, _, _, _, _, _, _, _, _, _, h2, _⟩ := h; rw [h2]; rfl)
  | (intro vs H Q E h; obtain ⟨_, _, _, _, _, _, _, _, _, _, _, _, h2, _⟩ := h; rw [h2]; rfl))
theorem len_bound {n : Nat} {c : Int} (h0 : 1 ≤ c) (h : c * ((2 ^ n : Nat) : Int) ≤ DD) : n ≤ 2000 := by
  have h1 : ((2 ^ n : Nat) : Int) ≤ DD := by
    have : 1 * ((2 ^ n : Nat) : Int) ≤ c * ((2 ^ n : Nat) : Int) := Int.mul_le_mul_of_nonneg_right h0 (Int.natCast_nonneg _)
    omega
  unfold DD DDn at h1
  have h2 : (2 : Nat) ^ n ≤ 2 ^ 2000 := by
    generalize (2 : Nat) ^ 2000 = b at *
    omega
  exact (Nat.pow_le_pow_iff_right (by decide)).mp h2
theorem late_half {p : Pr} (h : Good p) {d : Int} (hd : 0 ≤ d) : late p d * 2 ≤ d := by
  have h1 := h.lo 0
  have h2 := h.le 0
  unfold late
  by_cases q : 0 ≤ (d - (p 0).1 + (p 0).2) / (p 0).2
  · have e : max 0 ((d - (p 0).1 + (p 0).2) / (p 0).2) = (d - (p 0).1 + (p 0).2) / (p 0).2 := by omega
    rw [e]
    have e3 := Int.ediv_mul_le (d - (p 0).1 + (p 0).2) (by omega : (p 0).2 ≠ 0)
    have e4 : (d - (p 0).1 + (p 0).2) / (p 0).2 * 2 ≤ (d - (p 0).1 + (p 0).2) / (p 0).2 * (p 0).2 := Int.mul_le_mul_of_nonneg_left h1 q
    omega
  · have e : max 0 ((d - (p 0).1 + (p 0).2) / (p 0).2) = 0 := by omega
    rw [e]; omega
theorem late_tl (p : Pr) (g : Nat) (d : Int) : late (tl p g) d = max 0 ((d - (p g).1 + (p g).2) / (p g).2) := by
  unfold late tl; simp only [Nat.zero_add]
theorem tl_at (p : Pr) (g : Nat) : tl p g 0 = p g := by unfold tl; simp only [Nat.zero_add]
def spDigits (C : Addr) : Sp := fun vs H Q _ => ∃ (a : Addr) (p : Pr) (d : Int), vs = [.ref a, .int d] ∧ RuleP C H a p ∧ Dy d ∧ ∀ H' t, Same H H' → H t = none → H' t = some (.lst ((digits p d).map V.int)) → Q (.ref t) H'
section
variable {P : Program} {w : World} {K : PySem.W.Frag} {mg : Str → Option Value} {base : Heap} {C_Rule C_Evidence C_Good C_Cheapest C_BadDay C_BadChoices : Addr}
end
end Sl

set_option Elab.async false
set_option linter.all false
set_option maxRecDepth 100000
set_option maxHeartbeats 4000000
set_option exponentiation.threshold 9000
namespace Sl
open PySem L2 C8 StX Silt
local macro_rules | `(tactic| walk_at "side") => `(tactic| first
  | exact cdivw (by omega) (by omega)
  | exact cmulw (by omega) (by omega) (by omega) (by omega)
  | exact Or.inr ⟨by omega, by omega⟩
  | exact Or.inl ⟨by omega, by omega⟩
  | omega
  | exact ⟨by omega, by omega, by decide⟩
  | decide)
local macro_rules | `(tactic| walk_at "rd1") => `(tactic| first
  | with_reducible refine rd_seq ?_
  | with_reducible refine rd_asg ?_
  | with_reducible refine rd_drop ?_
  | with_reducible refine rd_ret ?_
  | with_reducible refine rd_retN ?_
  | with_reducible refine rd_ifS ?_
  | ((with_reducible refine rd_var0 ?_); refine ⟨_, rfl, ?_⟩)
  | with_reducible refine rd_c ?_
  | with_reducible refine rd_op ?_
  | with_reducible refine rd_un ?_
  | with_reducible refine rd_I0 ?_
  | with_reducible refine rd_U ?_
  | ((with_reducible refine rd_I ?c ?_); (case c => walk_at "side"))
  | with_reducible refine rd_ipI ?_
  | with_reducible refine rd_eqI ?_
  | with_reducible refine rd_neI ?_
  | with_reducible refine rd_test ?_
  | with_reducible refine rd_tB ?_
  | with_reducible refine rd_bl ?_
  | with_reducible refine rd_not ?_
  | with_reducible refine rd_and ?_
  | with_reducible refine rd_or ?_
  | with_reducible refine rd_andV ?_
  | with_reducible refine rd_orV ?_
  | with_reducible refine rd_notV ?_
  | with_reducible refine rd_ifE ?_
  | with_reducible refine rd_chain ?_
  | with_reducible refine rd_chain3 ?_
  | with_reducible refine rd_nil ?_
  | with_reducible refine rd_cons ?_
  | with_reducible refine rd_call ?_
  | with_reducible refine rd_CB ?_
  | with_reducible refine rd_par ?_
  | with_reducible refine rd_par2 ?_
  | with_reducible refine rd_par3 ?_
  | with_reducible refine rd_par4 ?_
  | ((with_reducible refine rd_aug0 ?_); refine ⟨_, rfl, ?_⟩)
  | with_reducible refine rd_gname ?_
  | with_reducible refine rd_gcons ?_
  | with_reducible refine rd_gnil ?_
  | with_reducible refine rd_max ?_
  | with_reducible refine rd_min ?_
  | with_reducible refine rd_int1 ?_
  | with_reducible refine rd_abs ?_
  | with_reducible refine rd_lst ?_
  | with_reducible refine rd_tup ?_
  | with_reducible refine rd_bm ?_
  | with_reducible refine rd_fld0 ?_
  | with_reducible refine rd_sl0 ?_
  | with_reducible refine rd_noP ?_
  | with_reducible refine rd_part ?_
  | with_reducible refine rd_part2 ?_
  | with_reducible refine rd_meth0 ?_
  | with_reducible refine rd_star ?_
  | with_reducible refine rd_for ?_
  | with_reducible refine rd_rng1 ?_
  | with_reducible refine rd_rng2 ?_
  | with_reducible refine rd_rng3 ?_
  | with_reducible refine rd_iList ?_
  | with_reducible refine rd_iTup ?_
  | with_reducible refine rd_iEnum ?_
  | with_reducible refine rd_lc ?_
  | with_reducible refine rd_yes ?_
  | with_reducible refine rd_augS ?_
  | with_reducible refine rd_drawNew ?_
  | with_reducible refine rd_make0 ?_
  | with_reducible refine rd_next ?_
  | with_reducible refine rd_break ?_
  | with_reducible refine rd_cont ?_
  | with_reducible refine rd_iteTT ?_
  | with_reducible refine rd_iteFF ?_
  | with_reducible refine rd_iteNTT ?_
  | with_reducible refine rd_iteNFF ?_
  | with_reducible refine rd_con0 ?_
  | with_reducible refine rd_truO0 ?_
  | with_reducible refine rd_gfld0 ?_
  | with_reducible refine rd_dc ?_
  | with_reducible refine rd_iKeys ?_
  | with_reducible refine rd_dget0 ?_
  | with_reducible refine rd_dput0 ?_
  | with_reducible refine rd_dnot0 ?_
  | with_reducible refine rd_iEnumT ?_
  | with_reducible refine rd_raP0 ?_
  | with_reducible refine rd_xf0 ?_
  | with_reducible refine rd_asgG ?_)
local macro_rules | `(tactic| walk_at "rd") => `(tactic| repeat walk_at "rd1")
local macro_rules | `(tactic| walk_at "len") => `(tactic| first
  | (intro vs H Q E h; obtain ⟨h2, _⟩ := h; rw [h2]; rfl)
  | (intro vs H Q E h; obtain ⟨_, h2, _⟩ := h; rw [h2]; rfl)
  | (intro vs H Q E h; obtain ⟨_, _, h2, _⟩ := h; rw [h2]; rfl)
  | (intro vs H Q E h; obtain ⟨_, _, _, h2, _⟩ := h; rw [h2]; rfl)
  | (intro vs H Q E h; obtain ⟨_, _, _, _, h2, _⟩ := h; rw [h2]; rfl)
  | (intro vs H Q E h; obtain ⟨_, _, _, _, _, h2, _⟩ := h; rw [h2]; rfl)
  | (intro vs H Q E h; obtain ⟨_, _, _, _, _, _, h2, _⟩ := h; rw [h2]; rfl)
  | (intro vs H Q E h; obtain ⟨_, _, _, _, _, _, _, h2, _⟩ := h; rw [h2]; rfl)
  | (intro vs H Q E h; obtain ⟨_, _, _, _, _, _, _, _, h2, _⟩ := h; rw [h2]; rfl)
  | (intro vs H Q E h; obtain ⟨_, _, _, _, _, _, _, _, _, h2, _⟩ := h; rw [h2]; rfl)
  | (intro vs H Q E h; obtain ⟨_, _, _, _, _, _, _, _, _, _, h2, _⟩ := h; rw [h2]; rfl)
  | (intro vs H Q E h; obtain ⟨_, _, _, _, _, _, _, _, _, _, _, h2, _⟩ := h; rw [h2]; rfl)
  | (intro vs H Q E h; obtain ⟨_, _, _, _, _, _, _, _, _, _, _, _, h2, _⟩ := h; rw [h2]; rfl))
theorem two_le_dd {n : Nat} (h : ((2 ^ n : Nat) : Int) ≤ DD) : n ≤ 2000 := len_bound (c := 1) (by decide) (by omega)
theorem grade_le {p : Pr} (h : Good p) {g : Nat} {d : Int} (hs : size p g ≤ d) (hd : d ≤ DD) : g ≤ 2000 := two_le_dd (Int.le_trans (size_ge h g) (Int.le_trans hs hd))
def spIsBaked (C : Addr) : Sp := fun vs H Q _ => ∃ (a : Addr) (p : Pr) (g d : Int), vs = [.ref a, .int g, .int d] ∧ RuleP C H a p ∧ Gr g ∧ Dy d ∧ ∀ H', Same H H' → Q (.bl (isBaked p g.toNat d)) H'
def spBaked (C : Addr) : Sp := fun vs H Q _ => ∃ (a : Addr) (p : Pr) (d : Int), vs = [.ref a, .int d] ∧ RuleP C H a p ∧ Dy d ∧ ∀ H' t, Same H H' → H t = none → H' t = some (.lst ((bakedL p d).map V.int)) → Q (.ref t) H'
def spNextBaked (C : Addr) : Sp := fun vs H Q _ => ∃ (a : Addr) (p : Pr) (g d : Int), vs = [.ref a, .int g, .int d] ∧ RuleP C H a p ∧ Gr g ∧ Dy d ∧ ∀ H', Same H H' → Q (.int (nextBaked p g.toNat d)) H'
def spCount (C : Addr) : Sp := fun vs H Q _ => ∃ (a : Addr) (p : Pr) (d : Int), vs = [.ref a, .int d] ∧ RuleP C H a p ∧ Dy d ∧ ∀ H', Same H H' → Q (.int (digits p d).sum) H'
def spWork (C : Addr) : Sp := fun vs H Q _ => ∃ (a : Addr) (p : Pr) (d : Int), vs = [.ref a, .int d] ∧ RuleP C H a p ∧ Dy d ∧ ∀ H', Same H H' → Q (.int (work p d)) H'
section
variable {P : Program} {w : World} {K : PySem.W.Frag} {mg : Str → Option Value} {base : Heap} {C_Rule C_Evidence C_Good C_Cheapest C_BadDay C_BadChoices : Addr}
theorem cal_work (T : TX P K mg C_Rule C_Evidence C_Good C_Cheapest C_BadDay C_BadChoices) : Cal P w K mg base 5 "work" (spWork C_Rule) [] := by
  obtain ⟨f0, fd, D, dn⟩ := T.d_work
  have G_check_rule := cal_check_rule (P := P) (w := w) (base := base) T
  have G_check_number := cal_check_number (P := P) (w := w) (base := base) T
  have G_made := cal_made (P := P) (w := w) (base := base) T
  have G_Rule_size := met_Rule_size (P := P) (w := w) (base := base) T
  refine cal0 D (D.fn.binds dn fun _ _ _ _ _ _ us hl => match us, hl with | [_, _], _ => rfl) .nil sc_work (by walk_at "len") (fun cdv A outer s H vs Q E hr h => ?_)
  obtain ⟨a, p, d, rfl, hp, ⟨d0, d1⟩, k⟩ := h
  obtain ⟨dx, t1, t2, e⟩ := hp.ins
  have gd := hp.good
  have b7 := bb_pos
  have b8 := dd_bb
  have b9 := dd_pos
  refine ⟨_, (pss_cons (ps_expr (pe_c G_check_rule hr (by decide) rfl (pa_cons (pv 0) pa_nil)))
      (pss_cons (ps_expr (pe_c G_check_number hr (by decide) rfl (pa_cons (pv 1) pa_nil)))
      (pss_cons (ps_asg (pe_tup (pa_cons pe_int (pa_cons pe_int pa_nil))) (pg_tup rfl (pgs_cons (pg_n 2 sc_work.nd) (pgs_cons (pg_n 3 sc_work.nd) pgs_nil))))
      (pss_cons (ps_while PassesOwn.never (pt_cmpR op_gt (pe_c G_made hr (by decide) rfl (pa_cons (pv 0) (pa_cons (pv 3) (pa_cons (pv 1) pa_nil)))) pe_int (nomark _)) (pss_cons (ps_au 2 sc_work.nd (pe_op op_mulW (pe_c G_made hr (by decide) rfl (pa_cons (pv 0) (pa_cons (pv 3) (pa_cons (pv 1) pa_nil)))) (pe_mt G_Rule_size hr (by decide) (pv 0) (pa_cons (pv 3) pa_nil))) ip_add)
      (pss_one (ps_au 3 sc_work.nd pe_int ip_add))))
      (pss_one (ps_ret (pv 2))))))), ?_⟩
  walk_at "rd"
  refine ⟨a, p, rfl, hp, ?_⟩
  walk_at "rd"
  refine ⟨_, _, rfl, d0, ?_⟩
  walk_at "rd"
  refine rd_newT (by decide) fun t0 H0 _ s0 et0 _ => ?_
  walk_at "rd"
  refine rd_gtup et0 rfl ?_
  walk_at "rd"
  refine rd_while (fun m σ H' => ∃ (g : Nat) (f : Int), m = (made p g d).toNat ∧ g ≤ 2000 ∧ Same H H' ∧ work p d = f + size p g * work (tl p g) (made p g d) ∧ σ = [some (.ref a), some (.int d), some (.int f), some (.int (g + 1 : Nat))]) _ ⟨0, 0, rfl, by omega, s0, ?_, rfl⟩ ?_
  · rw [made_zero p d0, tl_zero]; simp [size]
  rintro m σ H' ⟨g, f, rfl, hg, s2, ew, rfl⟩
  have m0 := made_nn p g d
  have hn := made_next gd g d d0
  have hw := work_eq (gd.tl g) m0
  rw [← hn, tl_tl, tl_at] at hw
  walk_at "rd"
  refine ⟨a, p, _, d, rfl, hp.mono s2, ⟨by omega, by omega⟩, ⟨d0, d1⟩, fun H2 s3 => ?_⟩
  rw [Int.toNat_natCast]
  walk_at "rd"
  refine rd_ite (fun c => ?_) (fun c => ?_)
  · have b1 := made_pos gd c
    have b2 := grade_le gd b1 d1
    have b3 := made_le gd (g + 1) d0
    have b4 := size_pos gd (g + 1)
    have b5 := size_bb gd (g := g + 1) (by omega)
    have l1 : made p (g + 1) d < made p g d := by
      rw [hn]
      refine late_lt (gd.tl g) ?_
      rcases Int.lt_or_eq_of_le m0 with q | q
      · exact q
      · exfalso
        rw [hn, ← q] at c
        have := (gd.tl g).lo 0
        have := (gd.tl g).le 0
        have := neg_ediv_le (a := 0 - (tl p g 0).1 + (tl p g 0).2) (s := (tl p g 0).2) (by omega) (by omega)
        unfold late at c
        omega
    refine rd_whN ?_
    walk_at "rd"
    refine ⟨a, p, _, d, rfl, hp.mono (s2.trans s3), ⟨by omega, by omega⟩, ⟨d0, d1⟩, fun H3 s4 => ?_⟩
    rw [Int.toNat_natCast]
    walk_at "rd"
    have s5 := (s2.trans s3).trans s4
    refine ⟨_, _, _, rfl, s5 _ _ e, rfl, ?_⟩
    walk_at "rd"
    refine ⟨a, p, _, rfl, hp.mono s5, by omega, ?_⟩
    rw [Int.toNat_natCast]
    walk_at "rd"
    refine ⟨(made p (g + 1) d).toNat, by omega, g + 1, _, rfl, b2, s5, ?_, rfl⟩
    rw [ew, hw]
    show _ = f + made p (g + 1) d * (size p g * (p g).2) + size p g * (p g).2 * _
    rw [Int.mul_add, Int.mul_assoc (size p g), ← Int.mul_assoc (size p g) (p g).2 (made p (g + 1) d), Int.mul_comm (made p (g + 1) d)]
    omega
  · walk_at "rd"
    have z := made_nn p (g + 1) d
    have e0 : made p (g + 1) d = 0 := by omega
    rw [e0] at hw
    have : work (tl p (g + 1)) 0 = 0 := by simp [work, workF]
    rw [this] at hw
    have hz : work (tl p g) (made p g d) = 0 := by rw [hw]; simp
    rw [hz, Int.mul_zero, Int.add_zero] at ew
    rw [← ew]
    exact k H2 (s2.trans s3)
end
end Sl

set_option Elab.async false
set_option linter.all false
set_option maxRecDepth 100000
set_option maxHeartbeats 4000000
set_option exponentiation.threshold 9000
namespace Sl
open PySem L2 C8 StX Silt
local macro_rules | `(tactic| walk_at "side") => `(tactic| first
  | exact cdivw (by omega) (by omega)
  | exact cmulw (by omega) (by omega) (by omega) (by omega)
  | exact Or.inr ⟨by omega, by omega⟩
  | exact Or.inl ⟨by omega, by omega⟩
  | omega
  | exact ⟨by omega, by omega, by decide⟩
  | decide)
local macro_rules | `(tactic| walk_at "rd1") => `(tactic| first
  | with_reducible refine rd_seq ?_
  | with_reducible refine rd_asg ?_
  | with_reducible refine rd_drop ?_
  | with_reducible refine rd_ret ?_
  | with_reducible refine rd_retN ?_
  | with_reducible refine rd_ifS ?_
  | ((with_reducible refine rd_var0 ?_); refine ⟨_, rfl, ?_⟩)
  | with_reducible refine rd_c ?_
  | with_reducible refine rd_op ?_
  | with_reducible refine rd_un ?_
  | with_reducible refine rd_I0 ?_
  | with_reducible refine rd_U ?_
  | ((with_reducible refine rd_I ?c ?_); (case c => walk_at "side"))
  | with_reducible refine rd_ipI ?_
  | with_reducible refine rd_eqI ?_
  | with_reducible refine rd_neI ?_
  | with_reducible refine rd_test ?_
  | with_reducible refine rd_tB ?_
  | with_reducible refine rd_bl ?_
  | with_reducible refine rd_not ?_
  | with_reducible refine rd_and ?_
  | with_reducible refine rd_or ?_
  | with_reducible refine rd_andV ?_
  | with_reducible refine rd_orV ?_
  | with_reducible refine rd_notV ?_
  | with_reducible refine rd_ifE ?_
  | with_reducible refine rd_chain ?_
  | with_reducible refine rd_chain3 ?_
  | with_reducible refine rd_nil ?_
  | with_reducible refine rd_cons ?_
  | with_reducible refine rd_call ?_
  | with_reducible refine rd_CB ?_
  | with_reducible refine rd_par ?_
  | with_reducible refine rd_par2 ?_
  | with_reducible refine rd_par3 ?_
  | with_reducible refine rd_par4 ?_
  | ((with_reducible refine rd_aug0 ?_); refine ⟨_, rfl, ?_⟩)
  | with_reducible refine rd_gname ?_
  | with_reducible refine rd_gcons ?_
  | with_reducible refine rd_gnil ?_
  | with_reducible refine rd_max ?_
  | with_reducible refine rd_min ?_
  | with_reducible refine rd_int1 ?_
  | with_reducible refine rd_abs ?_
  | with_reducible refine rd_lst ?_
  | with_reducible refine rd_tup ?_
  | with_reducible refine rd_bm ?_
  | with_reducible refine rd_fld0 ?_
  | with_reducible refine rd_sl0 ?_
  | with_reducible refine rd_noP ?_
  | with_reducible refine rd_part ?_
  | with_reducible refine rd_part2 ?_
  | with_reducible refine rd_meth0 ?_
  | with_reducible refine rd_star ?_
  | with_reducible refine rd_for ?_
  | with_reducible refine rd_rng1 ?_
  | with_reducible refine rd_rng2 ?_
  | with_reducible refine rd_rng3 ?_
  | with_reducible refine rd_iList ?_
  | with_reducible refine rd_iTup ?_
  | with_reducible refine rd_iEnum ?_
  | with_reducible refine rd_lc ?_
  | with_reducible refine rd_yes ?_
  | with_reducible refine rd_augS ?_
  | with_reducible refine rd_drawNew ?_
  | with_reducible refine rd_make0 ?_
  | with_reducible refine rd_next ?_
  | with_reducible refine rd_break ?_
  | with_reducible refine rd_cont ?_
  | with_reducible refine rd_iteTT ?_
  | with_reducible refine rd_iteFF ?_
  | with_reducible refine rd_iteNTT ?_
  | with_reducible refine rd_iteNFF ?_
  | with_reducible refine rd_con0 ?_
  | with_reducible refine rd_truO0 ?_
  | with_reducible refine rd_gfld0 ?_
  | with_reducible refine rd_dc ?_
  | with_reducible refine rd_iKeys ?_
  | with_reducible refine rd_dget0 ?_
  | with_reducible refine rd_dput0 ?_
  | with_reducible refine rd_dnot0 ?_
  | with_reducible refine rd_iEnumT ?_
  | with_reducible refine rd_raP0 ?_
  | with_reducible refine rd_xf0 ?_
  | with_reducible refine rd_asgG ?_)
local macro_rules | `(tactic| walk_at "rd") => `(tactic| repeat walk_at "rd1")
local macro_rules | `(tactic| walk_at "len") => `(tactic| first
  | (intro vs H Q E h; obtain ⟨h2, _⟩ := h; rw [h2]; rfl)
  | (intro vs H Q E h; obtain ⟨_, h2, _⟩ := h; rw [h2]; rfl)
  | (intro vs H Q E h; obtain ⟨_, _, h2, _⟩ := h; rw [h2]; rfl)
  | (intro vs H Q E h; obtain ⟨_, _, _, h2, _⟩ := h; rw [h2]; rfl)
  | (intro vs H Q E h; obtain ⟨_, _, _, _, h2, _⟩ := h; rw [h2]; rfl)
  | (intro vs H Q E h; obtain ⟨_, _, _, _, _, h2, _⟩ := h; rw [h2]; rfl)
  | (intro vs H Q E h; obtain ⟨_, _, _, _, _, _, h2, _⟩ := h; rw [h2]; rfl)
  | (intro vs H Q E h; obtain ⟨_, _, _, _, _, _, _, h2, _⟩ := h; rw [h2]; rfl)
  | (intro vs H Q E h; obtain ⟨_, _, _, _, _, _, _, _, h2, _⟩ := h; rw [h2]; rfl)
  | (intro vs H Q E h; obtain ⟨_, _, _, _, _, _, _, _, _, h2, _⟩ := h; rw [h2]; rfl)
  | (intro vs H Q E h; obtain ⟨_, _, _, _, _, _, _, _, _, _, h2, _⟩ := h; rw [h2]; rfl)
  | (intro vs H Q E h; obtain ⟨_, _, _, _, _, _, _, _, _, _, _, h2, _⟩ := h; rw [h2]; rfl)
  | (intro vs H Q E h; obtain ⟨_, _, _, _, _, _, _, _, _, _, _, _, h2, _⟩ := h; rw [h2]; rfl))
def spDayOf (C : Addr) : Sp := fun vs H Q _ => ∃ (a t : Addr) (p : Pr) (ds : List Int), vs = [.ref a, .ref t] ∧ RuleP C H a p ∧ H t = some (.lst (ds.map V.int)) ∧ Valid p ds ∧ ds.length ≤ 2100 ∧ ∀ H', Same H H' → Q (.int (value p ds)) H'
def spFirstWith (C : Addr) : Sp := fun vs H Q _ => ∃ (a : Addr) (p : Pr) (m : Int), vs = [.ref a, .int m] ∧ RuleP C H a p ∧ (0 ≤ m ∧ m ≤ 2000) ∧ ∀ H', Same H H' → Q (.int (firstWith p m)) H'
def spLayers (C : Addr) : Sp := fun vs H Q _ => ∃ (a : Addr) (p : Pr) (d : Int), vs = [.ref a, .int d] ∧ RuleP C H a p ∧ Dy d ∧ ∀ H' t, Same H H' → H t = none → Dt H' (.ref t) (.list ((layersL p d).map triD)) → Q (.ref t) H'
def spPlace (C : Addr) : Sp := fun vs H Q _ => ∃ (a : Addr) (p : Pr) (day now : Int), vs = [.ref a, .int day, .int now] ∧ RuleP C H a p ∧ 1 ≤ day ∧ day ≤ now ∧ now ≤ DD ∧
  ∀ H' t r, Same H H' → PL p day 0 (digits p now) = .inl r → H' t = some (.tup [.int r.1, .int r.2]) → Q (.ref t) H'
theorem dd_len {p : Pr} (g : Good p) {d : Int} (h0 : 0 ≤ d) (h : d ≤ DD) : (digits p d).length ≤ 2001 := by
  refine digits_len g 2001 d h0 ?_
  unfold DD DDn at h
  have e : (2 : Nat) ^ 2001 = 2 ^ 2000 + 2 ^ 2000 := by rw [Nat.pow_succ, Nat.mul_two]
  have : (0 : Nat) < 2 ^ 2000 := Nat.pow_pos (by decide)
  rw [e]
  generalize (2 : Nat) ^ 2000 = b at *
  omega
section
variable {P : Program} {w : World} {K : PySem.W.Frag} {mg : Str → Option Value} {base : Heap} {C_Rule C_Evidence C_Good C_Cheapest C_BadDay C_BadChoices : Addr}
theorem cal_day_of (T : TX P K mg C_Rule C_Evidence C_Good C_Cheapest C_BadDay C_BadChoices) : Cal P w K mg base 3 "day_of" (spDayOf C_Rule) [] := by
  obtain ⟨f0, fd, D, dn⟩ := T.d_day_of
  have G_check_rule := cal_check_rule (P := P) (w := w) (base := base) T
  have G_Rule_getitem := met_Rule_getitem (P := P) (w := w) (base := base) T
  have G_is_whole := cal_is_whole (P := P) (w := w) (base := base) T
  refine cal0 D (D.fn.binds dn fun _ _ _ _ _ _ us hl => match us, hl with | [_, _], _ => rfl) .nil sc_day_of (by walk_at "len") (fun cdv A outer s H vs Q E hr h => ?_)
  obtain ⟨a, t, p, ds, rfl, hp, et, vd, hl, k⟩ := h
  obtain ⟨dx, t1, t2, e⟩ := hp.ins
  have gd := hp.good
  have b7 := bb_pos
  refine ⟨_, (pss_cons (ps_expr (pe_c G_check_rule hr (by decide) rfl (pa_cons (pv 0) pa_nil)))
      (pss_cons (ps_if (pt_not (pt_val (pe_callB call_isiT (by rfl) T.b_isinstance (by decide +kernel) (pa_cons (pv 1) (pa_cons (pe_tup (pa_cons (pe_bltn (v := .ty "list") (u := .type "list") rfl T.b_list (by decide +kernel) rfl) (pa_cons (pe_bltn (v := .ty "tuple") (u := .type "tuple") rfl T.b_tuple (by decide +kernel) rfl) pa_nil))) pa_nil))))) (pss_one ps_never) pss_nil)
      (pss_cons (ps_asg (pe_tup (pa_cons pe_int (pa_cons pe_int pa_nil))) (pg_tup rfl (pgs_cons (pg_n 2 sc_day_of.nd) (pgs_cons (pg_n 3 sc_day_of.nd) pgs_nil))))
      (pss_cons (ps_for PassesOwn.never rfl (pi_enum (by rfl) T.b_enumerate (pa_cons (pv 1) pa_nil)) (pg_tup rfl (pgs_cons (pg_n 4 sc_day_of.nd) (pgs_cons (pg_n 5 sc_day_of.nd) pgs_nil))) (pss_cons (ps_asg (pe_ixO G_Rule_getitem hr (by decide) (pv 0) (pv 4) T.fi_Rule) (pg_tup rfl (pgs_cons (pg_n 6 sc_day_of.nd) (pgs_cons (pg_n 7 sc_day_of.nd) pgs_nil))))
      (pss_cons (ps_s 8 sc_day_of.nd (pe_ifExp (pt_cmpR op_eq (pv 4) (pe_op op_sub (pe_callB cr_lenS (by rfl) T.b_len (by decide +kernel) (pa_cons (pv 1) pa_nil)) pe_int) (nomark _)) pe_int (pe_op op_sub (pv 6) (pv 7))))
      (pss_cons (ps_if (PW.pt (pw_or (pt_not (pt_val (pe_c G_is_whole hr (by decide) rfl (pa_cons (pv 5) pa_nil)))) (pw_or1 (pt_not (pt_chain op_le op_lt (pv 8) (pv 5) (pv 6)))))) (pss_one ps_never) pss_nil)
      (pss_cons (ps_au 2 sc_day_of.nd (pe_op op_mulW (pv 5) (pv 3)) ip_add)
      (pss_one (ps_au 3 sc_day_of.nd (pv 7) iop_mul)))))))
      (pss_one (ps_ret (pv 2))))))), ?_⟩
  walk_at "rd"
  refine ⟨a, p, rfl, hp, ?_⟩
  walk_at "rd"
  refine rd_newT (by decide) fun u H1 _ s1 eu _ => ?_
  walk_at "rd"
  refine rd_isiTL (s1 _ _ et) eu ?_
  walk_at "rd"
  refine rd_newT (by decide) fun u2 H2 _ s2 eu2 _ => ?_
  walk_at "rd"
  refine rd_gtup eu2 rfl ?_
  walk_at "rd"
  have s12 := s1.trans s2
  refine rd_enR (SqL.of (s12 _ _ et)) ?_
  refine forR_enum (xs := ds.map V.int) (fun i σ H' => ∃ v4 v5 v6 v7 v8, Same H H' ∧ σ = [some (.ref a), some (.ref t), some (.int (value p (ds.take i))), some (.int (size p i)), v4, v5, v6, v7, v8])
    (fun i σ H' ⟨_, _, _, _, _, s, _⟩ => SqL.of (s _ _ et)) ⟨none, none, none, none, none, s12, rfl⟩ ?_ ?_
  · rintro i y σ H' q H3 hi ⟨v4, v5, v6, v7, v8, s3, rfl⟩ _ s4 eq _
    obtain ⟨x, hx, rfl⟩ : ∃ x, ds[i]? = some x ∧ y = V.int x := by
      rw [List.getElem?_map] at hi
      cases e : ds[i]? with
      | none => rw [e] at hi; cases hi
      | some x => rw [e] at hi; exact ⟨x, rfl, (Option.some.inj hi).symm⟩
    have s34 := s3.trans s4
    have hil : i < ds.length := (List.getElem?_eq_some_iff.mp hx).1
    have vx := valid_get ds p i x vd hx
    have b1 := gd.lo i
    have b2 := gd.le i
    have b3 := gd.hi i
    have b4 := size_pos gd i
    have b5 := size_bb gd (g := i) (by omega)
    refine rd_gtup eq rfl ?_
    walk_at "rd"
    refine rd_ownI (s34 _ _ e) ⟨a, p, _, rfl, hp.mono s34, by omega, fun u eu => ?_⟩
    rw [Int.toNat_natCast] at eu
    refine rd_gtup eu rfl ?_
    walk_at "rd"
    refine rd_lenL (s34 _ _ et) ?_
    rw [List.length_map]
    walk_at "rd"
    refine rd_iteV (v := .int (if i + 1 = ds.length then 1 else (p i).1 - (p i).2)) (fun c Q' q => ?_) (fun c Q' q => ?_) ?_
    · walk_at "rd"
      rw [if_pos (by omega)] at q
      exact q
    · walk_at "rd"
      rw [if_neg (by omega)] at q
      exact q
    walk_at "rd"
    refine ⟨_, rfl, ?_⟩
    walk_at "rd"
    refine rd_iteT vx.2 ?_
    walk_at "rd"
    rw [decide_eq_true vx.1]
    walk_at "rd"
    refine ⟨some (.int i), some (.int x), some (.int (p i).1), some (.int (p i).2), some (.int (if i + 1 = ds.length then 1 else (p i).1 - (p i).2)), s34, ?_⟩
    rw [value_take ds p i x hx]
    rfl
  · rintro σ H' ⟨v4, v5, v6, v7, v8, s3, rfl⟩
    walk_at "rd"
    rw [List.length_map, List.take_length]
    exact k H' s3
theorem cal_first_with (T : TX P K mg C_Rule C_Evidence C_Good C_Cheapest C_BadDay C_BadChoices) : Cal P w K mg base 4 "first_with" (spFirstWith C_Rule) [] := by
  obtain ⟨f0, fd, D, dn⟩ := T.d_first_with
  have G_check_rule := cal_check_rule (P := P) (w := w) (base := base) T
  have G_check_number := cal_check_number (P := P) (w := w) (base := base) T
  have G_Rule_getitem := met_Rule_getitem (P := P) (w := w) (base := base) T
  have G_day_of := cal_day_of (P := P) (w := w) (base := base) T
  refine cal0 D (D.fn.binds dn fun _ _ _ _ _ _ us hl => match us, hl with | [_, _], _ => rfl) .nil sc_first_with (by walk_at "len") (fun cdv A outer s H vs Q E hr h => ?_)
  obtain ⟨a, p, m, rfl, hp, ⟨m0, m1⟩, k⟩ := h
  obtain ⟨dx, t1, t2, e⟩ := hp.ins
  have gd := hp.good
  refine ⟨_, (pss_cons (ps_expr (pe_c G_check_rule hr (by decide) rfl (pa_cons (pv 0) pa_nil)))
      (pss_cons (ps_expr (pe_c G_check_number hr (by decide) rfl (pa_cons (pv 1) pa_nil)))
      (pss_cons (ps_par (i := 2) (j := 3) rfl sc_first_with.nd rfl rfl (by decide) rfl rfl (pa_cons (pe_lst pa_nil) (pa_cons (pv 1) pa_nil)) (by rfl))
      (pss_cons (ps_while PassesOwn.never (pt_cmpR op_gt (pv 3) pe_int (nomark _)) (pss_cons (ps_expr (pe_bm PySem.F.plainAttrs_list PySem.F.slot_list_append PySem.F.type_list_append mt_append (pv 2) (pa_cons (pe_callB (cr_min2 rfl) (by rfl) T.b_min (by decide +kernel) (pa_cons (pv 3) (pa_cons (pe_op op_sub (pe_ix ix_tup (pe_ixO G_Rule_getitem hr (by decide) (pv 0) (pe_callB cr_lenS (by rfl) T.b_len (by decide +kernel) (pa_cons (pv 2) pa_nil)) T.fi_Rule) pe_int (fun _ _ => rfl)) pe_int) pa_nil))) pa_nil)))
      (pss_one (ps_au 3 sc_first_with.nd (pe_ix ix_list (pv 2) (pe_un un_neg pe_int) (fun _ _ => rfl)) ip_sub))))
      (pss_one (ps_ret (pe_ifExp (pt_cmpR (op_neD hr.units) (pv 2) (pe_lst pa_nil) (nomark _)) (pe_c G_day_of hr (by decide) rfl (pa_cons (pv 0) (pa_cons (pv 2) pa_nil))) pe_int))))))), ?_⟩
  walk_at "rd"
  refine ⟨a, p, rfl, hp, ?_⟩
  walk_at "rd"
  refine ⟨_, _, rfl, m0, ?_⟩
  walk_at "rd"
  refine rd_newL (by decide) fun t H1 ht s1 et _ => ?_
  walk_at "rd"
  refine rd_while (fun n σ H' => ∃ (c : Int) (ds : List Int), n = c.toNat ∧ 0 ≤ c ∧ (ds.length : Int) + c ≤ m ∧ Same H H' ∧ H' t = some (.lst (ds.map V.int)) ∧ fwL p m = ds ++ fwL (tl p ds.length) c ∧
    σ = [some (.ref a), some (.int m), some (.ref t), some (.int c)]) _ ⟨m, [], rfl, m0, by simp, s1, et, rfl, rfl⟩ ?_
  rintro n σ H' ⟨c, ds, rfl, c0, hl, s2, et, ed, rfl⟩
  walk_at "rd"
  refine rd_ite (fun hc => ?_) (fun hc => ?_)
  · have b1 := gd.lo ds.length
    have b2 := gd.le ds.length
    have b3 := gd.hi ds.length
    refine rd_whN ?_
    walk_at "rd"
    refine rd_tyL et ?_
    walk_at "rd"
    refine rd_lenL et ?_
    rw [List.length_map]
    walk_at "rd"
    refine rd_ownI (s2 _ _ e) ⟨a, p, _, rfl, hp.mono s2, by omega, fun u eu => ?_⟩
    rw [Int.toNat_natCast] at eu
    walk_at "rd"
    refine rd_ixT eu (by rfl) ?_
    walk_at "rd"
    refine rd_app et (by simp; omega) fun H3 eH et2 => ?_
    walk_at "rd"
    refine rd_ixL et2 (atI_last _ _) ?_
    walk_at "rd"
    have s3 : Same H H3 := by rw [eH]; exact Same.mut s2 ht
    refine ⟨_, ?_, c - min c ((p ds.length).1 - 1), ds ++ [min c ((p ds.length).1 - 1)], rfl, by omega, by rw [List.length_append, List.length_singleton]; omega, s3, ?_, ?_, rfl⟩
    · omega
    · rw [et2, List.map_append]; rfl
    · rw [ed, fwL_pos (gd.tl ds.length) hc, tl_tl, tl_at, List.append_assoc, List.length_append, List.length_singleton]
      rfl
  · walk_at "rd"
    rw [fwL_zero _ (by omega : c ≤ 0), List.append_nil] at ed
    refine rd_newL (by decide) fun u H3 _ s3 eu _ => ?_
    refine rd_neD (d := .list (intsD ds)) (e := .list []) (.lst (s3 _ _ et) (DtAll.intsD ds)) (.lst eu .nil) (shaped_ints ds) (by decide) ?_
    rw [eqv_nil]
    walk_at "rd"
    have s23 := s2.trans s3
    have hv : firstWith p m = value p ds := by unfold firstWith; rw [ed]
    refine rd_iteN (fun c1 => ?_) (fun c1 => ?_)
    · walk_at "rd"
      refine ⟨a, t, p, ds, rfl, hp.mono s23, s3 _ _ et, ?_, by omega, fun H4 s4 => ?_⟩
      · rw [← ed]; exact fwL_valid gd m
      · rw [← hv]; exact k H4 (s23.trans s4)
    · walk_at "rd"
      have e0 : ds = [] := by
        cases ds with
        | nil => rfl
        | cons x xs => simp [intsD] at c1
      have q := k H3 s23
      rw [hv, e0] at q
      exact q
end
end Sl

set_option Elab.async false
set_option linter.all false
set_option maxRecDepth 100000
set_option maxHeartbeats 4000000
namespace Sl
open PySem L2 C8 StX Silt
local macro_rules | `(tactic| walk_at "side") => `(tactic| first
  | exact cdivw (by omega) (by omega)
  | exact cmulw (by omega) (by omega) (by omega) (by omega)
  | exact Or.inr ⟨by omega, by omega⟩
  | exact Or.inl ⟨by omega, by omega⟩
  | omega
  | exact ⟨by omega, by omega, by decide⟩
  | decide)
local macro_rules | `(tactic| walk_at "rd1") => `(tactic| first
  | with_reducible refine rd_seq ?_
  | with_reducible refine rd_asg ?_
  | with_reducible refine rd_drop ?_
  | with_reducible refine rd_ret ?_
  | with_reducible refine rd_retN ?_
  | with_reducible refine rd_ifS ?_
  | ((with_reducible refine rd_var0 ?_); refine ⟨_, rfl, ?_⟩)
  | with_reducible refine rd_c ?_
  | with_reducible refine rd_op ?_
  | with_reducible refine rd_un ?_
  | with_reducible refine rd_I0 ?_
  | with_reducible refine rd_U ?_
  | ((with_reducible refine rd_I ?c ?_); (case c => walk_at "side"))
  | with_reducible refine rd_ipI ?_
  | with_reducible refine rd_eqI ?_
  | with_reducible refine rd_neI ?_
  | with_reducible refine rd_test ?_
  | with_reducible refine rd_tB ?_
  | with_reducible refine rd_bl ?_
  | with_reducible refine rd_not ?_
  | with_reducible refine rd_and ?_
  | with_reducible refine rd_or ?_
  | with_reducible refine rd_andV ?_
  | with_reducible refine rd_orV ?_
  | with_reducible refine rd_notV ?_
  | with_reducible refine rd_ifE ?_
  | with_reducible refine rd_chain ?_
  | with_reducible refine rd_chain3 ?_
  | with_reducible refine rd_nil ?_
  | with_reducible refine rd_cons ?_
  | with_reducible refine rd_call ?_
  | with_reducible refine rd_CB ?_
  | with_reducible refine rd_par ?_
  | with_reducible refine rd_par2 ?_
  | with_reducible refine rd_par3 ?_
  | with_reducible refine rd_par4 ?_
  | ((with_reducible refine rd_aug0 ?_); refine ⟨_, rfl, ?_⟩)
  | with_reducible refine rd_gname ?_
  | with_reducible refine rd_gcons ?_
  | with_reducible refine rd_gnil ?_
  | with_reducible refine rd_max ?_
  | with_reducible refine rd_min ?_
  | with_reducible refine rd_int1 ?_
  | with_reducible refine rd_abs ?_
  | with_reducible refine rd_lst ?_
  | with_reducible refine rd_tup ?_
  | with_reducible refine rd_bm ?_
  | with_reducible refine rd_fld0 ?_
  | with_reducible refine rd_sl0 ?_
  | with_reducible refine rd_noP ?_
  | with_reducible refine rd_part ?_
  | with_reducible refine rd_part2 ?_
  | with_reducible refine rd_meth0 ?_
  | with_reducible refine rd_star ?_
  | with_reducible refine rd_for ?_
  | with_reducible refine rd_rng1 ?_
  | with_reducible refine rd_rng2 ?_
  | with_reducible refine rd_rng3 ?_
  | with_reducible refine rd_iList ?_
  | with_reducible refine rd_iTup ?_
  | with_reducible refine rd_iEnum ?_
  | with_reducible refine rd_lc ?_
  | with_reducible refine rd_yes ?_
  | with_reducible refine rd_augS ?_
  | with_reducible refine rd_drawNew ?_
  | with_reducible refine rd_make0 ?_
  | with_reducible refine rd_next ?_
  | with_reducible refine rd_break ?_
  | with_reducible refine rd_cont ?_
  | with_reducible refine rd_iteTT ?_
  | with_reducible refine rd_iteFF ?_
  | with_reducible refine rd_iteNTT ?_
  | with_reducible refine rd_iteNFF ?_
  | with_reducible refine rd_con0 ?_
  | with_reducible refine rd_truO0 ?_
  | with_reducible refine rd_gfld0 ?_
  | with_reducible refine rd_dc ?_
  | with_reducible refine rd_iKeys ?_
  | with_reducible refine rd_dget0 ?_
  | with_reducible refine rd_dput0 ?_
  | with_reducible refine rd_dnot0 ?_
  | with_reducible refine rd_iEnumT ?_
  | with_reducible refine rd_raP0 ?_
  | with_reducible refine rd_xf0 ?_
  | with_reducible refine rd_asgG ?_)
local macro_rules | `(tactic| walk_at "rd") => `(tactic| repeat walk_at "rd1")
local macro_rules | `(tactic| walk_at "len") => `(tactic| first
  | (intro vs H Q E h; obtain ⟨h2, _⟩ := h; rw [h2]; rfl)
  | (intro vs H Q E h; obtain ⟨_, h2, _⟩ := h; rw [h2]; rfl)
  | (intro vs H Q E h; obtain ⟨_, _, h2, _⟩ := h; rw [h2]; rfl)
  | (intro vs H Q E h; obtain ⟨_, _, _, h2, _⟩ := h; rw [h2]; rfl)
  | (intro vs H Q E h; obtain ⟨_, _, _, _, h2, _⟩ := h; rw [h2]; rfl)
  | (intro vs H Q E h; obtain ⟨_, _, _, _, _, h2, _⟩ := h; rw [h2]; rfl)
  | (intro vs H Q E h; obtain ⟨_, _, _, _, _, _, h2, _⟩ := h; rw [h2]; rfl)
  | (intro vs H Q E h; obtain ⟨_, _, _, _, _, _, _, h2, _⟩ := h; rw [h2]; rfl)
  | (intro vs H Q E h; obtain ⟨_, _, _, _, _, _, _, _, h2, _⟩ := h; rw [h2]; rfl)
  | (intro vs H Q E h; obtain ⟨_, _, _, _, _, _, _, _, _, h2, _⟩ := h; rw [h2]; rfl)
  | (intro vs H Q E h; obtain ⟨_, _, _, _, _, _, _, _, _, _, h2, _⟩ := h; rw [h2]; rfl)
  | (intro vs H Q E h; obtain ⟨_, _, _, _, _, _, _, _, _, _, _, h2, _⟩ := h; rw [h2]; rfl)
  | (intro vs H Q E h; obtain ⟨_, _, _, _, _, _, _, _, _, _, _, _, h2, _⟩ := h; rw [h2]; rfl))
/-- things told as data: equal just if they are the same -/
structure EncOk {α : Type} [DecidableEq α] (enc : α → PyData) : Prop where
  eq : ∀ x y, PyData.eqv (enc x) (enc y) = decide (x = y)
  lay : ∀ x, (enc x).canLay0 = true
  dep : ∀ x, (enc x).depth ≤ 60
theorem EncOk.all {α : Type} [DecidableEq α] {enc : α → PyData} (E : EncOk enc) : ∀ l m : List α, PyData.eqvAll (l.map enc) (m.map enc) = decide (l = m)
  | [], [] => by simp [PyData.eqvAll]
  | [], _ :: _ => by simp [PyData.eqvAll]
  | _ :: _, [] => by simp [PyData.eqvAll]
  | x :: l, y :: m => by
    simp only [List.map_cons, PyData.eqvAll, E.eq, E.all l m, List.cons.injEq]
    rw [← Bool.decide_and]
theorem EncOk.tup {α : Type} [DecidableEq α] {enc : α → PyData} (E : EncOk enc) (l m : List α) : PyData.eqv (.tuple (l.map enc)) (.tuple (m.map enc)) = decide (l = m) := by
  simp only [PyData.eqv]; exact E.all l m
theorem EncOk.shT {α : Type} [DecidableEq α] {enc : α → PyData} (E : EncOk enc) (l : List α) : SeqAt.shaped (.tuple (l.map enc)) = true := shaped_tupMap E.lay E.dep l
theorem EncOk.sh {α : Type} [DecidableEq α] {enc : α → PyData} (E : EncOk enc) (x : α) : SeqAt.shaped (enc x) = true := by
  have := E.dep x
  exact Bool.and_eq_true_iff.mpr ⟨E.lay x, decide_eq_true (by omega)⟩
theorem enc_pair : EncOk pairD := ⟨fun x y => by
  obtain ⟨a, b⟩ := x
  obtain ⟨c, d⟩ := y
  simp only [pairD, PyData.eqv, PyData.eqvAll, Bool.and_true, Prod.mk.injEq]
  rw [Bool.beq_eq_decide_eq, Bool.beq_eq_decide_eq, ← Bool.decide_and], fun _ => by simp [pairD, PyData.canLay0, PyData.canLayAll0], fun _ => by simp [pairD, PyData.depth, PyData.depthAll]⟩
theorem enc_int : EncOk PyData.int := ⟨fun x y => by simp only [PyData.eqv]; exact Bool.beq_eq_decide_eq x y, fun _ => by simp [PyData.canLay0], fun _ => by simp [PyData.depth]⟩
theorem DnAll.take {H : Hp} : ∀ {vs : List V} {ds : List PyData} (n : Nat), DnAll H vs ds → DnAll H (vs.take n) (ds.take n)
  | _, _, 0, _ => .nil
  | _, _, _ + 1, .nil => .nil
  | _, _, n + 1, .cons h t => .cons h (DnAll.take n t)
theorem DnAll.rep {H : Hp} {vs : List V} {ds : List PyData} (h : DnAll H vs ds) : ∀ k : Nat, DnAll H (List.replicate k vs).flatten (List.replicate k ds).flatten
  | 0 => .nil
  | k + 1 => by rw [List.replicate_succ, List.replicate_succ, List.flatten_cons, List.flatten_cons]; exact h.append (h.rep k)
theorem DnAll.get {H : Hp} : ∀ {vs : List V} {ds : List PyData} {i : Nat} {d : PyData}, DnAll H vs ds → ds[i]? = some d → ∃ v, vs[i]? = some v ∧ Dn H v d
  | _, _, _, _, .nil, h => by simp at h
  | _, _, 0, _, .cons h _, e => by simp at e; subst e; exact ⟨_, rfl, h⟩
  | _, _, i + 1, _, .cons _ t, e => by
    obtain ⟨v, h1, h2⟩ := DnAll.get (i := i) t (by simpa using e)
    exact ⟨v, by simpa using h1, h2⟩
theorem Dn.tup_inv {H : Hp} {t : Addr} {ds : List PyData} (h : Dn H (.ref t) (.tuple ds)) : ∃ xs, H t = some (.tup xs) ∧ DnAll H xs ds := by
  cases h with
  | tup e h => exact ⟨_, e, h⟩
theorem cut_take {xs : List V} {m : Nat} : cutV xs none (some (m : Int)) = xs.take m := by
  unfold cutV
  rw [HT.sIx_none, HT.sIx_nat, List.drop_zero, Nat.sub_zero]
  by_cases c : m ≤ xs.length
  · rw [Nat.min_eq_left c]
  · rw [Nat.min_eq_right (by omega), List.take_of_length_le (Nat.le_refl _), List.take_of_length_le (by omega)]
theorem cut_front {xs : List V} {x : V} : cutV (xs ++ [x]) none (some (-1)) = xs := by
  unfold cutV
  have e : HT.sIx (xs ++ [x]).length (xs ++ [x]).length (some (-1)) = xs.length := by
    show (if (-1 : Int) < 0 then ((-1 : Int) + ((xs ++ [x]).length : Int)).toNat else min (-1 : Int).toNat (xs ++ [x]).length) = _
    rw [if_pos (by decide), List.length_append, List.length_singleton]
    omega
  rw [e, HT.sIx_none, List.drop_zero, Nat.sub_zero]
  simp
theorem rd_repTA {K : PySem.W.Frag} {H : Hp} {Q : VK} {p : Addr} {xs : List V} {k : Nat} (e : H p = some (.tup xs)) (hne : xs ≠ []) (hk : 0 < k) (h1 : k ≤ 1000) (h2 : xs.length ≤ 1000)
    (h : ∀ r H', Same H H' → H' r = some (.tup (List.replicate k xs).flatten) → Q (.ref r) H') : rOr (rRepT1 K) (rRepT K) (.ref p) (.int k) H Q := by
  by_cases c : k = 1
  · subst c
    exact .inl ⟨p, xs, rfl, rfl, SqT.of e, h p H (Same.refl H) (by simpa using e)⟩
  · refine .inr ⟨p, k, xs, rfl, rfl, SqT.of e, hne, by omega, by omega, h2, fun r hr => h r _ (Same.new (Same.refl H) hr) ?_⟩
    rw [Int.toNat_natCast]
    exact upd_same
/-- front and period as short as may be; what is told stays -/
def spShortest : Sp := fun vs H Q _ => ∃ (t1 t2 : Addr) (α : Type) (_ : DecidableEq α) (enc : α → PyData) (f q : List α), vs = [.ref t1, .ref t2] ∧ EncOk enc ∧ Dn H (.ref t1) (.tuple (f.map enc)) ∧ Dn H (.ref t2) (.tuple (q.map enc)) ∧ q ≠ [] ∧ f.length ≤ 6 ∧ q.length ≤ 6 ∧
  ∀ H' t s1 s2 (f' q' : List α), Same H H' → H' t = some (.tup [.ref s1, .ref s2]) → Dn H' (.ref s1) (.tuple (f'.map enc)) → Dn H' (.ref s2) (.tuple (q'.map enc)) → q' ≠ [] → (∀ g, atO f' q' g = atO f q g) → Q (.ref t) H'
section
variable {P : Program} {w : World} {K : PySem.W.Frag} {mg : Str → Option Value} {base : Heap} {C_Rule C_Evidence C_Good C_Cheapest C_BadDay C_BadChoices : Addr}
theorem cal_shortest (T : TX P K mg C_Rule C_Evidence C_Good C_Cheapest C_BadDay C_BadChoices) : Cal P w K mg base 1 "shortest" spShortest [] := by
  obtain ⟨f0, fd, D, dn⟩ := T.d_shortest
  refine cal0 D (D.fn.binds dn fun _ _ _ _ _ _ us hl => match us, hl with | [_, _], _ => rfl) .nil sc_shortest (by walk_at "len") (fun cdv A outer s H vs Q E hr h => ?_)
  obtain ⟨t1, t2, α, _, enc, f, q, rfl, E, h1, h2, hq, hf6, hq6, k⟩ := h
  obtain ⟨xs2, e2, d2⟩ := h2.tup_inv
  have l2 : xs2.length = q.length := by rw [d2.length, List.length_map]
  have q0 : 0 < q.length := List.length_pos_iff.mpr hq
  refine ⟨_, (pss_cut (ps_for PassesOwn.never rfl (pi_range2 rfl T.b_range (pa_cons pe_int (pa_cons (pe_op op_add (pe_callB cr_lenS (by rfl) T.b_len (by decide +kernel) (pa_cons (pv 1) pa_nil)) pe_int) pa_nil))) (pg_n 2 sc_shortest.nd) (pss_one (ps_if (PW.pt (pw_and (pt_cmpR op_eq (pe_op op_modN (pe_callB cr_lenS (by rfl) T.b_len (by decide +kernel) (pa_cons (pv 1) pa_nil)) (pv 2)) pe_int (nomark _)) (pw_and1 (pt_cmpR (op_eqD hr.units) (pv 1) (pe_op op_repTA (pe_slice sl_tupA (pv 1) po_none (po_some (pv 2))) (pe_op op_fdivW (pe_callB cr_lenS (by rfl) T.b_len (by decide +kernel) (pa_cons (pv 1) pa_nil)) (pv 2))) (nomark _))))) (pss_cons (ps_s 1 sc_shortest.nd (pe_slice sl_tupA (pv 1) po_none (po_some (pv 2))))
      (pss_one ps_break)) pss_nil)))
      (pss_cons (ps_while PassesOwn.never (PW.pt (pw_and (pt_cmpR (op_neD hr.units) (pv 0) (pe_tup pa_nil) (nomark _)) (pw_and1 (pt_cmpR (op_eqD hr.units) (pe_ix ix_tup (pv 0) (pe_un un_neg pe_int) (fun _ _ => rfl)) (pe_ix ix_tup (pv 1) (pe_un un_neg pe_int) (fun _ _ => rfl)) (nomark _))))) (pss_one (ps_par (i := 0) (j := 1) rfl sc_shortest.nd rfl rfl (by decide) rfl rfl (pa_cons (pe_slice sl_tupA (pv 0) po_none (po_some (pe_un un_neg pe_int))) (pa_cons (pe_tup (pa_cons (pe_ix ix_tup (pv 1) (pe_un un_neg pe_int) (fun _ _ => rfl)) (pa_star (pe_slice sl_tupA (pv 1) po_none (po_some (pe_un un_neg pe_int))) pa_nil))) pa_nil)) (by rfl))))
      (pss_one (ps_ret (pe_tup (pa_cons (pv 0) (pa_cons (pv 1) pa_nil))))))), ?_⟩
  refine ⟨fun σ' H' => ∃ (t2' : Addr) (q' : List α) (v : Option V), Same H H' ∧ Dn H' (.ref t2') (.tuple (q'.map enc)) ∧ q' ≠ [] ∧ (∀ g, atO f q' g = atO f q g) ∧ q'.length ≤ 6 ∧ σ' = [some (.ref t1), some (.ref t2'), v], ?_, ?_⟩
  · walk_at "rd"
    refine rd_lenT e2 ?_
    walk_at "rd"
    refine rd_rgR2 (by omega) ?_
    refine forR_rng (fun i σ H' => ∃ v, Same H H' ∧ σ = [some (.ref t1), some (.ref t2), v]) ⟨none, Same.refl _, rfl⟩ ?_ ?_
    · rintro i σ H' hi ⟨v, s1, rfl⟩
      walk_at "rd"
      refine rd_lenT (s1 _ _ e2) ?_
      walk_at "rd"
      refine rd_ite (fun c1 => ?_) (fun c1 => ?_)
      · walk_at "rd"
        refine rd_slA (s1 _ _ e2) fun p2 H2 s2 ep2 => ?_
        have em : (1 : Int) + (i : Int) = ((i + 1 : Nat) : Int) := by omega
        rw [em, cut_take] at ep2
        have s12 := s1.trans s2
        have hile : i + 1 ≤ q.length := by omega
        walk_at "rd"
        refine rd_lenT (s12 _ _ e2) ?_
        walk_at "rd"
        rw [em, l2] at c1 ⊢
        rw [Int.fmod_eq_emod_of_nonneg _ (by omega), ← Int.natCast_emod] at c1
        have c1' : q.length % (i + 1) = 0 := by omega
        obtain ⟨kk, hkk⟩ := Nat.dvd_of_mod_eq_zero c1'
        have hkd : ((q.length : Int)) / ((i + 1 : Nat) : Int) = (kk : Int) := by
          rw [← Int.natCast_ediv, hkk, Nat.mul_div_cancel_left _ (Nat.succ_pos _)]
        have b7 := bb_pos
        walk_at "rd"
        rw [hkd]
        have hk0 : 0 < kk := by
          rcases Nat.eq_zero_or_pos kk with z | z
          · rw [z] at hkk; omega
          · exact z
        have dtk := (d2.take (i + 1)).mono s12
        rw [← List.map_take] at dtk
        have eqf : (List.replicate kk ((q.take (i + 1)).map enc)).flatten = (List.replicate kk (q.take (i + 1))).flatten.map enc := by rw [List.map_flatten, List.map_replicate]
        have hr : q.take (i + 1) ≠ [] := by
          intro z
          have := congrArg List.length z
          rw [List.length_take, List.length_nil] at this
          omega
        refine rd_repTA ep2 (by intro z; have := congrArg List.length z; rw [List.length_take, List.length_nil] at this; omega) hk0 (by rw [hkk] at hq6; have : 1 * kk ≤ (i + 1) * kk := Nat.mul_le_mul_right _ (by omega); omega) (by rw [List.length_take]; omega) fun r H3 s3 er => ?_
        refine rd_eqD ((h2.mono (s12.trans s3)).dt) (Dn.dt (.tup er ((dtk.rep kk).mono s3))) (E.shT q) (by rw [eqf]; exact E.shT _) ?_
        rw [eqf, E.tup]
        walk_at "rd"
        refine rd_ite (fun c2 => ?_) (fun c2 => ?_)
        · walk_at "rd"
          refine rd_slA ((s12.trans s3) _ _ e2) fun p4 H4 s4 ep4 => ?_
          rw [cut_take] at ep4
          walk_at "rd"
          refine ⟨p4, q.take (i + 1), _, (s12.trans s3).trans s4, .tup ep4 (by rw [List.map_take]; exact (d2.take (i + 1)).mono ((s12.trans s3).trans s4)), hr, fun g => ?_, by rw [List.length_take]; omega, rfl⟩
          rw [atO_rep f _ hr hk0, ← c2]
        · walk_at "rd"
          exact ⟨_, s12.trans s3, rfl⟩
      · exact ⟨_, s1, rfl⟩
    · rintro σ H' ⟨v, s1, rfl⟩
      exact ⟨t2, q, v, s1, h2.mono s1, hq, fun _ => rfl, hq6, rfl⟩
  · rintro σ0 H0 ⟨t2', q', v0, s0, dq0, hq0, hat0, hl0, rfl⟩
    walk_at "rd"
    refine rd_while (fun n σ H' => ∃ (u1 u2 : Addr) (f1 q1 : List α) (v : Option V), n = f1.length ∧ Same H H' ∧ Dn H' (.ref u1) (.tuple (f1.map enc)) ∧ Dn H' (.ref u2) (.tuple (q1.map enc)) ∧ q1 ≠ [] ∧ (∀ g, atO f1 q1 g = atO f q g) ∧ q1.length ≤ 6 ∧
      σ = [some (.ref u1), some (.ref u2), v]) _ ⟨t1, t2', f, q', v0, rfl, s0, h1.mono s0, dq0, hq0, hat0, hl0, rfl⟩ ?_
    rintro n σ H' ⟨u1, u2, f1, q1, v, rfl, s1, du1, du2, hq1, hat1, hl1, rfl⟩
    walk_at "rd"
    refine rd_newT (by simp) fun w H2 _ s2 ew _ => ?_
    refine rd_neD (d := .tuple (f1.map enc)) (e := .tuple ([].map enc)) ((du1.mono s2).dt) (.tup ew .nil) (E.shT f1) (E.shT []) ?_
    rw [E.tup]
    walk_at "rd"
    have out : ∀ H3, Same H2 H3 → (tRet (tTup (tCons (tVar 0) (tCons (tVar 1) tNil)))) { nx := fun x H' => Q .non H', rt := Q } [some (.ref u1), some (.ref u2), v] H3 := by
      intro H3 s3
      walk_at "rd"
      refine rd_newT (by simp) fun w4 H4 _ s4 ew4 _ => ?_
      have s := (s2.trans s3).trans s4
      exact k H4 w4 u1 u2 f1 q1 (s1.trans s) ew4 (du1.mono s) (du2.mono s) hq1 hat1
    refine rd_iteN (fun c1 => ?_) (fun c1 => ?_)
    · -- the front is not empty
      obtain ⟨f2, x, rfl⟩ : ∃ f2 x, f1 = f2 ++ [x] := ⟨f1.dropLast, f1.getLast c1, (List.dropLast_concat_getLast c1).symm⟩
      obtain ⟨q2, y, rfl⟩ : ∃ q2 y, q1 = q2 ++ [y] := ⟨q1.dropLast, q1.getLast hq1, (List.dropLast_concat_getLast hq1).symm⟩
      obtain ⟨xs1, e1, d1⟩ := du1.tup_inv
      obtain ⟨ys1, e3, d3⟩ := du2.tup_inv
      rw [List.map_append] at d1 d3
      have split : ∀ {H0 : Hp} {vs : List V} {ds : List PyData} {d : PyData}, DnAll H0 vs (ds ++ [d]) → ∃ vs' v, vs = vs' ++ [v] ∧ DnAll H0 vs' ds ∧ Dn H0 v d := by
        intro H0 vs ds
        induction ds generalizing vs with
        | nil =>
          intro d h
          cases h with
          | cons h t => cases t; exact ⟨[], _, rfl, .nil, h⟩
        | cons a ds ih =>
          intro d h
          cases h with
          | cons h t =>
            obtain ⟨vs', v, rfl, h2, h3⟩ := ih t
            exact ⟨_ :: vs', v, rfl, .cons h h2, h3⟩
      obtain ⟨vs1, v1, rfl, da1, db1⟩ := split d1
      obtain ⟨vs3, v3, rfl, da3, db3⟩ := split d3
      walk_at "rd"
      refine rd_ixT (s2 _ _ e1) (atI_last _ _) ?_
      walk_at "rd"
      refine rd_ixT (s2 _ _ e3) (atI_last _ _) ?_
      refine rd_eqD ((db1.mono s2).dt) ((db3.mono s2).dt) (E.sh x) (E.sh y) ?_
      rw [E.eq]
      walk_at "rd"
      refine rd_ite (fun c2 => ?_) (fun c2 => ?_)
      · subst c2
        refine rd_whN ?_
        walk_at "rd"
        refine rd_slA (s2 _ _ e1) fun p3 H3 s3 ep3 => ?_
        rw [cut_front] at ep3
        walk_at "rd"
        refine rd_ixT ((s2.trans s3) _ _ e3) (atI_last _ _) ?_
        walk_at "rd"
        refine rd_slA ((s2.trans s3) _ _ e3) fun p4 H4 s4 ep4 => ?_
        rw [cut_front] at ep4
        refine ⟨p4, _, rfl, .inl (SqT.of ep4), ?_⟩
        walk_at "rd"
        have l3 := da3.length
        rw [List.length_map] at l3
        rw [List.length_append, List.length_singleton] at hl1
        refine rd_newT (by simp; omega) fun w5 H5 _ s5 ew5 _ => ?_
        walk_at "rd"
        have s25 := ((s2.trans s3).trans s4).trans s5
        refine ⟨f2.length, by rw [List.length_append, List.length_singleton]; omega, p3, w5, f2, x :: q2, v, rfl, s1.trans s25, .tup ((s4.trans s5) _ _ ep3) (da1.mono s25), .tup ew5 ?_, by simp, fun g => ?_, by rw [List.length_cons]; omega, rfl⟩
        · rw [List.append_nil]
          exact .cons (db3.mono s25) (da3.mono s25)
        · rw [atO_turn]; exact hat1 g
      · exact out H2 (Same.refl _)
    · refine rd_iteFF ?_
      exact out H2 (Same.refl _)
end
end Sl

set_option Elab.async false
set_option linter.all false
set_option maxRecDepth 100000
set_option maxHeartbeats 4000000
namespace Sl
open PySem L2 C8 StX Silt
local macro_rules | `(tactic| walk_at "side") => `(tactic| first
  | exact cdivw (by omega) (by omega)
  | exact cmulw (by omega) (by omega) (by omega) (by omega)
  | exact Or.inr ⟨by omega, by omega⟩
  | exact Or.inl ⟨by omega, by omega⟩
  | omega
  | exact ⟨by omega, by omega, by decide⟩
  | decide)
local macro_rules | `(tactic| walk_at "rd1") => `(tactic| first
  | with_reducible refine rd_seq ?_
  | with_reducible refine rd_asg ?_
  | with_reducible refine rd_drop ?_
  | with_reducible refine rd_ret ?_
  | with_reducible refine rd_retN ?_
  | with_reducible refine rd_ifS ?_
  | ((with_reducible refine rd_var0 ?_); refine ⟨_, rfl, ?_⟩)
  | with_reducible refine rd_c ?_
  | with_reducible refine rd_op ?_
  | with_reducible refine rd_un ?_
  | with_reducible refine rd_I0 ?_
  | with_reducible refine rd_U ?_
  | ((with_reducible refine rd_I ?c ?_); (case c => walk_at "side"))
  | with_reducible refine rd_ipI ?_
  | with_reducible refine rd_eqI ?_
  | with_reducible refine rd_neI ?_
  | with_reducible refine rd_test ?_
  | with_reducible refine rd_tB ?_
  | with_reducible refine rd_bl ?_
  | with_reducible refine rd_not ?_
  | with_reducible refine rd_and ?_
  | with_reducible refine rd_or ?_
  | with_reducible refine rd_andV ?_
  | with_reducible refine rd_orV ?_
  | with_reducible refine rd_notV ?_
  | with_reducible refine rd_ifE ?_
  | with_reducible refine rd_chain ?_
  | with_reducible refine rd_chain3 ?_
  | with_reducible refine rd_nil ?_
  | with_reducible refine rd_cons ?_
  | with_reducible refine rd_call ?_
  | with_reducible refine rd_CB ?_
  | with_reducible refine rd_par ?_
  | with_reducible refine rd_par2 ?_
  | with_reducible refine rd_par3 ?_
  | with_reducible refine rd_par4 ?_
  | ((with_reducible refine rd_aug0 ?_); refine ⟨_, rfl, ?_⟩)
  | with_reducible refine rd_gname ?_
  | with_reducible refine rd_gcons ?_
  | with_reducible refine rd_gnil ?_
  | with_reducible refine rd_max ?_
  | with_reducible refine rd_min ?_
  | with_reducible refine rd_int1 ?_
  | with_reducible refine rd_abs ?_
  | with_reducible refine rd_lst ?_
  | with_reducible refine rd_tup ?_
  | with_reducible refine rd_bm ?_
  | with_reducible refine rd_fld0 ?_
  | with_reducible refine rd_sl0 ?_
  | with_reducible refine rd_noP ?_
  | with_reducible refine rd_part ?_
  | with_reducible refine rd_part2 ?_
  | with_reducible refine rd_meth0 ?_
  | with_reducible refine rd_star ?_
  | with_reducible refine rd_for ?_
  | with_reducible refine rd_rng1 ?_
  | with_reducible refine rd_rng2 ?_
  | with_reducible refine rd_rng3 ?_
  | with_reducible refine rd_iList ?_
  | with_reducible refine rd_iTup ?_
  | with_reducible refine rd_iEnum ?_
  | with_reducible refine rd_lc ?_
  | with_reducible refine rd_yes ?_
  | with_reducible refine rd_augS ?_
  | with_reducible refine rd_drawNew ?_
  | with_reducible refine rd_make0 ?_
  | with_reducible refine rd_next ?_
  | with_reducible refine rd_break ?_
  | with_reducible refine rd_cont ?_
  | with_reducible refine rd_iteTT ?_
  | with_reducible refine rd_iteFF ?_
  | with_reducible refine rd_iteNTT ?_
  | with_reducible refine rd_iteNFF ?_
  | with_reducible refine rd_con0 ?_
  | with_reducible refine rd_truO0 ?_
  | with_reducible refine rd_gfld0 ?_
  | with_reducible refine rd_dc ?_
  | with_reducible refine rd_iKeys ?_
  | with_reducible refine rd_dget0 ?_
  | with_reducible refine rd_dput0 ?_
  | with_reducible refine rd_dnot0 ?_
  | with_reducible refine rd_iEnumT ?_
  | with_reducible refine rd_raP0 ?_
  | with_reducible refine rd_xf0 ?_
  | with_reducible refine rd_asgG ?_)
local macro_rules | `(tactic| walk_at "rd") => `(tactic| repeat walk_at "rd1")
local macro_rules | `(tactic| walk_at "len") => `(tactic| first
  | (intro vs H Q E h; obtain ⟨h2, _⟩ := h; rw [h2]; rfl)
  | (intro vs H Q E h; obtain ⟨_, h2, _⟩ := h; rw [h2]; rfl)
  | (intro vs H Q E h; obtain ⟨_, _, h2, _⟩ := h; rw [h2]; rfl)
  | (intro vs H Q E h; obtain ⟨_, _, _, h2, _⟩ := h; rw [h2]; rfl)
  | (intro vs H Q E h; obtain ⟨_, _, _, _, h2, _⟩ := h; rw [h2]; rfl)
  | (intro vs H Q E h; obtain ⟨_, _, _, _, _, h2, _⟩ := h; rw [h2]; rfl)
  | (intro vs H Q E h; obtain ⟨_, _, _, _, _, _, h2, _⟩ := h; rw [h2]; rfl)
  | (intro vs H Q E h; obtain ⟨_, _, _, _, _, _, _, h2, _⟩ := h; rw [h2]; rfl)
  | (intro vs H Q E h; obtain ⟨_, _, _, _, _, _, _, _, h2, _⟩ := h; rw [h2]; rfl)
  | (intro vs H Q E h; obtain ⟨_, _, _, _, _, _, _, _, _, h2, _⟩ := h; rw [h2]; rfl)
  | (intro vs H Q E h; obtain ⟨_, _, _, _, _, _, _, _, _, _, h2, _⟩ := h; rw [h2]; rfl)
  | (intro vs H Q E h; obtain ⟨_, _, _, _, _, _, _, _, _, _, _, h2, _⟩ := h; rw [h2]; rfl)
  | (intro vs H Q E h; obtain ⟨_, _, _, _, _, _, _, _, _, _, _, _, h2, _⟩ := h; rw [h2]; rfl))
/-- a list or a tuple -/
def Seq (H : Hp) (a : Addr) (xs : List V) : Prop := H a = some (.lst xs) ∨ H a = some (.tup xs)
theorem Seq.mono {H H' : Hp} {a : Addr} {xs : List V} (s : Same H H') (h : Seq H a xs) : Seq H' a xs := h.elim (fun e => .inl (s _ _ e)) fun e => .inr (s _ _ e)
section
variable {σ : L2.St} {H : Hp} {Q : VK} {K : PySem.W.Frag} {QS : L2.St → Hp → Prop} {v : V}
theorem Seq.star {a : Addr} {xs : List V} (h : Seq H a xs) : SqT K H a xs ∨ SqL K H a xs := h.elim (fun e => .inr (SqL.of e)) fun e => .inl (SqT.of e)
theorem rd_isiTS {a u : Addr} {xs : List V} (e : Seq H a xs) (eu : H u = some (.tup [.ty "list", .ty "tuple"])) (h : Q (.bl true) H) : rIsiT K [.ref a, .ref u] H Q :=
  e.elim (fun e => rd_isiTL e eu h) fun e => rd_isiTT e eu h
theorem rd_lenQ {a : Addr} {xs : List V} (e : Seq H a xs) (h : Q (.int xs.length) H) : rLenS K [.ref a] H Q := e.elim (fun e => rd_lenL e h) fun e => rd_lenT e h
theorem rd_tupOfS {a : Addr} {xs : List V} (e : Seq H a xs) (h : ∀ p H', Same H H' → H' p = some (.tup xs) → Q (.ref p) H') : rTupOf K [.ref a] H Q :=
  e.elim (fun e => rd_tupOfL e fun p H' _ s ep _ => h p H' s ep) fun e => rd_tupOfT e (h a H (Same.refl H) e)
def rGFld (K : PySem.W.Frag) (f : Str) (v : V) (QS : L2.St → Hp → Prop) (σ : L2.St) (x : V) (H1 : Hp) : Prop := ∃ a C dx fs, x = .ref a ∧ H1 a = some (.ins C dx fs) ∧ Cls K C ∧ NoAttr K C f ∧ fs.length < 1000 ∧ QS σ (upd H1 a (.ins C dx (putF f v fs)))
theorem rd_gfld0 {to : TE} {f : Str} (h : to σ H fun x H1 => rGFld K f v QS σ x H1) : gFld K to f v σ H QS := h
theorem rd_gfld {f : Str} {a C dx : Addr} {fs : List (Str × V)} (e : H a = some (.ins C dx fs)) (c : Cls K C) (n : NoAttr K C f) (l : fs.length < 1000) (h : ∀ H', H' = upd H a (.ins C dx (putF f v fs)) → H' a = some (.ins C dx (putF f v fs)) → QS σ H') : rGFld K f v QS σ (.ref a) H :=
  ⟨a, C, dx, fs, rfl, e, c, n, l, h _ rfl upd_same⟩
end
theorem put_rf (t1 t2 : Addr) : putF "period" (.ref t2) (putF "front" (.ref t1) []) = rf t1 t2 := by
  have h : ¬ (("front" : Str) = "period") := by decide +kernel
  show (if ("front" : Str) = "period" then [(("front" : Str), V.ref t2)] else (("front" : Str), V.ref t1) :: putF "period" (V.ref t2) []) = rf t1 t2
  rw [if_neg h]
  rfl
/-- behind the two stores of __init__ -/
theorem ruleAt_made {H H1 H2 : Hp} {C dx self t1 t2 : Addr} {f q : List PyData} {fs : List (Str × V)} (e : H self = some (.ins C dx [])) (e1 : H1 = upd H self (.ins C dx (putF "front" (.ref t1) []))) (e2 : H2 = upd H1 self (.ins C dx (putF "period" (.ref t2) (putF "front" (.ref t1) []))))
    (d1 : Dn H (.ref t1) (.tuple f)) (d2 : Dn H (.ref t2) (.tuple q)) : RuleAt C H2 self f q := by
  have k : ∀ a xs, H a = some (.tup xs) → H2 a = some (.tup xs) := fun a xs ea => by
    have hne : a ≠ self := fun z => by rw [z, e] at ea; cases ea
    rw [e2, upd_ne hne, e1, upd_ne hne]
    exact ea
  exact ⟨dx, t1, t2, by rw [e2, put_rf]; exact upd_same, (d1.keep k).dt, (d2.keep k).dt⟩
theorem same_made {H0 H H1 H2 : Hp} {self : Addr} {o1 o2 : HO} (s : Same H0 H) (h0 : H0 self = none) (e1 : H1 = upd H self o1) (e2 : H2 = upd H1 self o2) : Same H0 H2 := by
  rw [e2, e1]
  exact Same.mut (Same.mut s h0) h0
/-- pairs that may be told -/
def OkP (q : Int × Int) : Prop := 2 ≤ q.2 ∧ q.2 ≤ q.1 ∧ q.1 ≤ 6
theorem atp_atO (f q : List (Int × Int)) (g : Nat) : atp f q g = (atO f q g).getD (0, 0) := by
  unfold atp atO
  by_cases c : g < f.length
  · rw [if_pos c, if_pos c, List.getD_eq_getElem?_getD]
  · rw [if_neg c, if_neg c, List.getD_eq_getElem?_getD]
theorem good_of {f q : List (Int × Int)} (hq : q ≠ []) (hf : ∀ x ∈ f, OkP x) (hp : ∀ x ∈ q, OkP x) : Good (atp f q) := by
  have h : ∀ g, OkP (atp f q g) := fun g => by
    obtain ⟨x, e, hx⟩ := atO_some (f := f) hq g
    rw [atp_atO, e]
    exact hx.elim (hf x) (hp x)
  exact ⟨fun g => (h g).1, fun g => (h g).2.1, fun g => Int.le_trans (h g).2.2 (by decide)⟩
theorem atp_six {f q : List (Int × Int)} (hq : q ≠ []) (hf : ∀ x ∈ f, OkP x) (hp : ∀ x ∈ q, OkP x) (g : Nat) : (atp f q g).1 ≤ 6 := by
  obtain ⟨x, e, hx⟩ := atO_some (f := f) hq g
  rw [atp_atO, e]
  exact (hx.elim (hf x) (hp x)).2.2
def spPair : Sp := fun vs H Q _ => ∃ (t : Addr) (q : Int × Int), vs = [.ref t] ∧ H t = some (.tup [.int q.1, .int q.2]) ∧ OkP q ∧ Q (.bl true) H
def spRule (C : Addr) : Sp := fun vs H Q _ => ∃ (self dx fl pl : Addr) (H0 : Hp) (xs1 xs2 : List V) (f q : List (Int × Int)), vs = [.ref self, .ref fl, .ref pl] ∧ Same H0 H ∧ H0 self = none ∧ H self = some (.ins C dx []) ∧
  Seq H fl xs1 ∧ Seq H pl xs2 ∧ DnAll H xs1 (pairsD f) ∧ DnAll H xs2 (pairsD q) ∧ f.length ≤ 6 ∧ q.length ≤ 6 ∧ q ≠ [] ∧ (∀ x ∈ f, OkP x) ∧ (∀ x ∈ q, OkP x) ∧
  ∀ H', Same H0 H' → RuleP C H' self (atp f q) → Q .non H'
section
variable {P : Program} {w : World} {K : PySem.W.Frag} {mg : Str → Option Value} {base : Heap} {C_Rule C_Evidence C_Good C_Cheapest C_BadDay C_BadChoices : Addr}
theorem cal_is_pair (T : TX P K mg C_Rule C_Evidence C_Good C_Cheapest C_BadDay C_BadChoices) : Cal P w K mg base 2 "is_pair" spPair [] := by
  obtain ⟨f0, fd, D, dn⟩ := T.d_is_pair
  have G_is_whole := cal_is_whole (P := P) (w := w) (base := base) T
  refine cal0 D (D.fn.binds dn fun _ _ _ _ _ _ us hl => match us, hl with | [_], _ => rfl) .nil sc_is_pair (by walk_at "len") (fun cdv A outer s H vs Q E hr h => ?_)
  obtain ⟨t, q, rfl, e, ⟨o1, o2, o3⟩, k⟩ := h
  refine ⟨_, (pss_cons (ps_if (PW.pt (pw_or (pt_not (pt_val (pe_callB call_isi (by rfl) T.b_isinstance (by decide +kernel) (pa_cons (pv 0) (pa_cons (pe_bltn (v := .ty "tuple") (u := .type "tuple") rfl T.b_tuple (by decide +kernel) rfl) pa_nil))))) (pw_or (pt_cmpR op_ne (pe_callB cr_lenS (by rfl) T.b_len (by decide +kernel) (pa_cons (pv 0) pa_nil)) pe_int (nomark _)) (pw_or (pt_not (pt_val (pe_c G_is_whole hr (by decide) rfl (pa_cons (pe_ix ix_tup (pv 0) pe_int (fun _ _ => rfl)) pa_nil)))) (pw_or1 (pt_not (pt_val (pe_c G_is_whole hr (by decide) rfl (pa_cons (pe_ix ix_tup (pv 0) pe_int (fun _ _ => rfl)) pa_nil))))))))) (pss_one (ps_ret pe_bl)) pss_nil)
      (pss_one (ps_ret (pe_chain3 op_le op_le op_le pe_int (pe_ix ix_tup (pv 0) pe_int (fun _ _ => rfl)) (pe_ix ix_tup (pv 0) pe_int (fun _ _ => rfl)) (pe_gc rfl T.g_MOST_LAYERS))))), ?_⟩
  walk_at "rd"
  refine rd_isiT e ?_
  walk_at "rd"
  refine rd_lenT e ?_
  walk_at "rd"
  refine rd_iteNF (by simp) ?_
  walk_at "rd"
  refine rd_ixT e (by rfl) ?_
  walk_at "rd"
  refine ⟨_, rfl, ?_⟩
  walk_at "rd"
  refine rd_ixT e (by rfl) ?_
  walk_at "rd"
  refine ⟨_, rfl, ?_⟩
  walk_at "rd"
  refine rd_ixT e (by rfl) ?_
  walk_at "rd"
  refine rd_iteT o1 ?_
  walk_at "rd"
  refine rd_ixT e (by rfl) ?_
  walk_at "rd"
  refine rd_iteT o2 ?_
  walk_at "rd"
  rw [decide_eq_true (Int.le_trans o3 (by decide) : q.1 ≤ 12)]
  exact k
theorem mak_Rule_init (T : TX P K mg C_Rule C_Evidence C_Good C_Cheapest C_BadDay C_BadChoices) : Mak P w K mg base 3 "Rule" C_Rule (spRule C_Rule) [] := by
  obtain ⟨f0, fd, D, dn, mk⟩ := T.m_Rule_init
  have G_is_pair := cal_is_pair (P := P) (w := w) (base := base) T
  have G_shortest := cal_shortest (P := P) (w := w) (base := base) T
  refine mak0 mk T.mg_Rule D (D.binds dn fun _ _ _ _ _ _ us hl => match us, hl with | [_, _, _], _ => rfl) .nil sc_Rule_init (by walk_at "len") (fun cdv A outer s H vs Q E hr h => ?_)
  obtain ⟨self, dx, fl, pl, H0, xs1, xs2, f, q, rfl, s0, h0, eS, sf, sp, df, dq, lf, lq, hq, okf, okq, k⟩ := h
  have l1 : xs1.length = f.length := by rw [df.length]; simp [pairsD]
  have l2 : xs2.length = q.length := by rw [dq.length]; simp [pairsD]
  have q0 : 0 < q.length := List.length_pos_iff.mpr hq
  refine ⟨_, (pss_cons (ps_for PassesOwn.never rfl (pi_tup (pe_tup (pa_cons (pv 1) (pa_cons (pv 2) pa_nil)))) (pg_n 3 sc_Rule_init.nd) (pss_one (ps_if (PW.pt (pw_or (pt_not (pt_val (pe_callB call_isiT (by rfl) T.b_isinstance (by decide +kernel) (pa_cons (pv 3) (pa_cons (pe_tup (pa_cons (pe_bltn (v := .ty "list") (u := .type "list") rfl T.b_list (by decide +kernel) rfl) (pa_cons (pe_bltn (v := .ty "tuple") (u := .type "tuple") rfl T.b_tuple (by decide +kernel) rfl) pa_nil))) pa_nil))))) (pw_or1 (pt_cmpR op_gt (pe_callB cr_lenS (by rfl) T.b_len (by decide +kernel) (pa_cons (pv 3) pa_nil)) (pe_gc rfl T.g_MOST_PAIRS) (nomark _))))) (pss_one ps_never) pss_nil)))
      (pss_cons (ps_if (pt_cmpR op_eq (pe_callB cr_lenS (by rfl) T.b_len (by decide +kernel) (pa_cons (pv 2) pa_nil)) pe_int (nomark _)) (pss_one ps_never) pss_nil)
      (pss_cons (ps_for PassesOwn.never rfl (pi_enum (by rfl) T.b_enumerate (pa_cons (pe_lst (pa_star (pv 1) (pa_star (pv 2) pa_nil))) pa_nil)) (pg_tup rfl (pgs_cons (pg_n 4 sc_Rule_init.nd) (pgs_cons (pg_n 5 sc_Rule_init.nd) pgs_nil))) (pss_one (ps_if (pt_not (pt_val (pe_c G_is_pair hr (by decide) rfl (pa_cons (pv 5) pa_nil)))) (pss_one ps_never) pss_nil)))
      (pss_one (ps_asg (pe_c G_shortest hr (by decide) rfl (pa_cons (pe_callTy cr_tupOf (by rfl) T.b_tuple (by decide +kernel) (pa_cons (pv 1) pa_nil)) (pa_cons (pe_callTy cr_tupOf (by rfl) T.b_tuple (by decide +kernel) (pa_cons (pv 2) pa_nil)) pa_nil))) (pg_tup rfl (pgs_cons (pg_attr (pv 0)) (pgs_cons (pg_attr (pv 0)) pgs_nil)))))))), ?_⟩
  walk_at "rd"
  refine rd_newT (by simp) fun u H1 _ s1 eu _ => ?_
  refine rd_tpR (SqT.of eu) ?_
  refine forR_tup (xs := [.ref fl, .ref pl]) (fun i σ H' => ∃ v, Same H1 H' ∧ σ = [some (.ref self), some (.ref fl), some (.ref pl), v, none, none]) (fun i σ H' ⟨v, s, _⟩ => SqT.of (s _ _ eu)) ⟨none, Same.refl _, rfl⟩ ?_ ?_
  · rintro i x σ H' hi ⟨v, s2, rfl⟩
    obtain ⟨b, ys, rfl, hb, hlb⟩ : ∃ b ys, x = V.ref b ∧ Seq H b ys ∧ ys.length ≤ 6 := by
      match i, hi with
      | 0, hi => cases hi; exact ⟨fl, xs1, rfl, sf, by omega⟩
      | 1, hi => cases hi; exact ⟨pl, xs2, rfl, sp, by omega⟩
      | i + 2, hi => simp at hi
    walk_at "rd"
    refine rd_newT (by simp) fun u2 H3 _ s3 eu2 _ => ?_
    walk_at "rd"
    refine rd_isiTS (hb.mono ((s1.trans s2).trans s3)) eu2 ?_
    walk_at "rd"
    refine rd_lenQ (hb.mono ((s1.trans s2).trans s3)) ?_
    walk_at "rd"
    refine rd_iteF (by omega) ?_
    walk_at "rd"
    exact ⟨_, s2.trans s3, rfl⟩
  · rintro σ H' ⟨v, s2, rfl⟩
    have s12 := s1.trans s2
    walk_at "rd"
    refine rd_lenQ (sp.mono s12) ?_
    walk_at "rd"
    refine rd_iteF (by omega) ?_
    walk_at "rd"
    refine ⟨_, _, rfl, (sf.mono s12).star, ?_⟩
    walk_at "rd"
    refine ⟨_, _, rfl, (sp.mono s12).star, ?_⟩
    walk_at "rd"
    rw [List.append_nil]
    refine rd_newL (by rw [List.length_append]; omega) fun L H3 _ s3 eL _ => ?_
    walk_at "rd"
    refine rd_enR (SqL.of eL) ?_
    refine forR_enum (xs := xs1 ++ xs2) (fun i σ H' => ∃ v4 v5, Same H3 H' ∧ σ = [some (.ref self), some (.ref fl), some (.ref pl), v, v4, v5]) (fun i σ H' ⟨_, _, s, _⟩ => SqL.of (s _ _ eL)) ⟨none, none, Same.refl _, rfl⟩ ?_ ?_
    · rintro i x σ H' t H4 hi ⟨v4, v5, s4, rfl⟩ _ s5 et _
      have dall : DnAll H4 (xs1 ++ xs2) ((f ++ q).map pairD) := by
        rw [List.map_append]
        exact (df.append dq).mono (((s12.trans s3).trans s4).trans s5)
      have hil : i < (xs1 ++ xs2).length := (List.getElem?_eq_some_iff.mp hi).1
      have hif : i < (f ++ q).length := by rw [List.length_append] at hil ⊢; omega
      obtain ⟨y, hy, dy⟩ := dall.get (i := i) (d := pairD (f ++ q)[i]) (by rw [List.getElem?_map, List.getElem?_eq_getElem hif]; rfl)
      rw [hi] at hy
      cases hy
      obtain ⟨tp, rfl, etp⟩ := dy.dt.pair_inv
      have ok : OkP (f ++ q)[i] := by
        have := List.getElem_mem hif
        rcases List.mem_append.mp this with z | z
        · exact okf _ z
        · exact okq _ z
      refine rd_gtup et rfl ?_
      walk_at "rd"
      refine ⟨tp, _, rfl, etp, ok, ?_⟩
      walk_at "rd"
      exact ⟨_, _, s4.trans s5, rfl⟩
    · rintro σ H' ⟨v4, v5, s4, rfl⟩
      have s14 := (s12.trans s3).trans s4
      walk_at "rd"
      refine rd_tupOfS (sf.mono s14) fun p1 H5 s5 ep1 => ?_
      walk_at "rd"
      refine rd_tupOfS (sp.mono (s14.trans s5)) fun p2 H6 s6 ep2 => ?_
      walk_at "rd"
      have s16 := (s14.trans s5).trans s6
      refine ⟨p1, p2, Int × Int, inferInstance, pairD, f, q, rfl, enc_pair, .tup (s6 _ _ ep1) (df.mono s16), .tup ep2 (dq.mono s16), hq, lf, lq, fun H7 t r1 r2 f' q' s7 et d1 d2 hq' hat => ?_⟩
      have s17 := s16.trans s7
      refine rd_gtup et rfl ?_
      refine rd_gcons ?_
      refine rd_gfld0 ?_
      walk_at "rd"
      refine rd_gfld (s17 _ _ eS) T.cl_Rule T.na_Rule_front (by decide) fun H8 e8 e8' => ?_
      refine rd_gcons ?_
      refine rd_gfld0 ?_
      walk_at "rd"
      refine rd_gfld e8' T.cl_Rule T.na_Rule_period (by show 1 < 1000; decide) fun H9 e9 e9' => ?_
      walk_at "rd"
      have hr := ruleAt_made (fs := []) (s17 _ _ eS) e8 e9 d1 d2
      have heq : atp f q = atp f' q' := by
        funext g
        rw [atp_atO, atp_atO, hat]
      exact k H9 (same_made (s0.trans s17) h0 e8 e9) ⟨f', q', hr, hq', heq, good_of hq okf okq⟩
end
end Sl

set_option Elab.async false
set_option linter.all false
set_option maxRecDepth 100000
set_option maxHeartbeats 4000000
namespace Sl
open PySem L2 C8 StX Silt
local macro_rules | `(tactic| walk_at "side") => `(tactic| first
  | exact cdivw (by omega) (by omega)
  | exact cmulw (by omega) (by omega) (by omega) (by omega)
  | exact Or.inr ⟨by omega, by omega⟩
  | exact Or.inl ⟨by omega, by omega⟩
  | omega
  | exact ⟨by omega, by omega, by decide⟩
  | decide)
local macro_rules | `(tactic| walk_at "rd1") => `(tactic| first
  | with_reducible refine rd_seq ?_
  | with_reducible refine rd_asg ?_
  | with_reducible refine rd_drop ?_
  | with_reducible refine rd_ret ?_
  | with_reducible refine rd_retN ?_
  | with_reducible refine rd_ifS ?_
  | ((with_reducible refine rd_var0 ?_); refine ⟨_, rfl, ?_⟩)
  | with_reducible refine rd_c ?_
  | with_reducible refine rd_op ?_
  | with_reducible refine rd_un ?_
  | with_reducible refine rd_I0 ?_
  | with_reducible refine rd_U ?_
  | ((with_reducible refine rd_I ?c ?_); (case c => walk_at "side"))
  | with_reducible refine rd_ipI ?_
  | with_reducible refine rd_eqI ?_
  | with_reducible refine rd_neI ?_
  | with_reducible refine rd_test ?_
  | with_reducible refine rd_tB ?_
  | with_reducible refine rd_bl ?_
  | with_reducible refine rd_not ?_
  | with_reducible refine rd_and ?_
  | with_reducible refine rd_or ?_
  | with_reducible refine rd_andV ?_
  | with_reducible refine rd_orV ?_
  | with_reducible refine rd_notV ?_
  | with_reducible refine rd_ifE ?_
  | with_reducible refine rd_chain ?_
  | with_reducible refine rd_chain3 ?_
  | with_reducible refine rd_nil ?_
  | with_reducible refine rd_cons ?_
  | with_reducible refine rd_call ?_
  | with_reducible refine rd_CB ?_
  | with_reducible refine rd_par ?_
  | with_reducible refine rd_par2 ?_
  | with_reducible refine rd_par3 ?_
  | with_reducible refine rd_par4 ?_
  | ((with_reducible refine rd_aug0 ?_); refine ⟨_, rfl, ?_⟩)
  | with_reducible refine rd_gname ?_
  | with_reducible refine rd_gcons ?_
  | with_reducible refine rd_gnil ?_
  | with_reducible refine rd_max ?_
  | with_reducible refine rd_min ?_
  | with_reducible refine rd_int1 ?_
  | with_reducible refine rd_abs ?_
  | with_reducible refine rd_lst ?_
  | with_reducible refine rd_tup ?_
  | with_reducible refine rd_bm ?_
  | with_reducible refine rd_fld0 ?_
  | with_reducible refine rd_sl0 ?_
  | with_reducible refine rd_noP ?_
  | with_reducible refine rd_part ?_
  | with_reducible refine rd_part2 ?_
  | with_reducible refine rd_meth0 ?_
  | with_reducible refine rd_star ?_
  | with_reducible refine rd_for ?_
  | with_reducible refine rd_rng1 ?_
  | with_reducible refine rd_rng2 ?_
  | with_reducible refine rd_rng3 ?_
  | with_reducible refine rd_iList ?_
  | with_reducible refine rd_iTup ?_
  | with_reducible refine rd_iEnum ?_
  | with_reducible refine rd_lc ?_
  | with_reducible refine rd_yes ?_
  | with_reducible refine rd_augS ?_
  | with_reducible refine rd_drawNew ?_
  | with_reducible refine rd_make0 ?_
  | with_reducible refine rd_next ?_
  | with_reducible refine rd_break ?_
  | with_reducible refine rd_cont ?_
  | with_reducible refine rd_iteTT ?_
  | with_reducible refine rd_iteFF ?_
  | with_reducible refine rd_iteNTT ?_
  | with_reducible refine rd_iteNFF ?_
  | with_reducible refine rd_con0 ?_
  | with_reducible refine rd_truO0 ?_
  | with_reducible refine rd_gfld0 ?_
  | with_reducible refine rd_dc ?_
  | with_reducible refine rd_iKeys ?_
  | with_reducible refine rd_dget0 ?_
  | with_reducible refine rd_dput0 ?_
  | with_reducible refine rd_dnot0 ?_
  | with_reducible refine rd_iEnumT ?_
  | with_reducible refine rd_raP0 ?_
  | with_reducible refine rd_xf0 ?_
  | with_reducible refine rd_asgG ?_)
local macro_rules | `(tactic| walk_at "rd") => `(tactic| repeat walk_at "rd1")
local macro_rules | `(tactic| walk_at "len") => `(tactic| first
  | (intro vs H Q E h; obtain ⟨h2, _⟩ := h; rw [h2]; rfl)
  | (intro vs H Q E h; obtain ⟨_, h2, _⟩ := h; rw [h2]; rfl)
  | (intro vs H Q E h; obtain ⟨_, _, h2, _⟩ := h; rw [h2]; rfl)
  | (intro vs H Q E h; obtain ⟨_, _, _, h2, _⟩ := h; rw [h2]; rfl)
  | (intro vs H Q E h; obtain ⟨_, _, _, _, h2, _⟩ := h; rw [h2]; rfl)
  | (intro vs H Q E h; obtain ⟨_, _, _, _, _, h2, _⟩ := h; rw [h2]; rfl)
  | (intro vs H Q E h; obtain ⟨_, _, _, _, _, _, h2, _⟩ := h; rw [h2]; rfl)
  | (intro vs H Q E h; obtain ⟨_, _, _, _, _, _, _, h2, _⟩ := h; rw [h2]; rfl)
  | (intro vs H Q E h; obtain ⟨_, _, _, _, _, _, _, _, h2, _⟩ := h; rw [h2]; rfl)
  | (intro vs H Q E h; obtain ⟨_, _, _, _, _, _, _, _, _, h2, _⟩ := h; rw [h2]; rfl)
  | (intro vs H Q E h; obtain ⟨_, _, _, _, _, _, _, _, _, _, h2, _⟩ := h; rw [h2]; rfl)
  | (intro vs H Q E h; obtain ⟨_, _, _, _, _, _, _, _, _, _, _, h2, _⟩ := h; rw [h2]; rfl)
  | (intro vs H Q E h; obtain ⟨_, _, _, _, _, _, _, _, _, _, _, _, h2, _⟩ := h; rw [h2]; rfl))
/-- the weight of a grade -/
def wat (f q : List Int) : Nat → Int := fun g => (atO f q g).getD 0
def wsum (w : Nat → Int) : Nat → List Int → Int
  | _, [] => 0
  | k, x :: xs => w k * x + wsum w (k + 1) xs
def wl (w : Nat → Int) : Nat → List Int → List Int
  | _, [] => []
  | k, x :: xs => w k * x :: wl w (k + 1) xs
theorem wl_sum (w : Nat → Int) : ∀ (k : Nat) (xs : List Int), (wl w k xs).sum = wsum w k xs
  | _, [] => rfl
  | k, x :: xs => by simp only [wl, wsum, List.sum_cons, wl_sum w (k + 1) xs]
theorem wl_len (w : Nat → Int) : ∀ (k : Nat) (xs : List Int), (wl w k xs).length = xs.length
  | _, [] => rfl
  | k, x :: xs => by simp only [wl, List.length_cons, wl_len w (k + 1) xs]
theorem wl_take (w : Nat → Int) : ∀ (xs : List Int) (k i : Nat) (x : Int), xs[i]? = some x → wl w k (xs.take (i + 1)) = wl w k (xs.take i) ++ [w (k + i) * x]
  | [], _, _, _, h => by simp at h
  | y :: ys, k, 0, x, h => by simp at h; subst h; simp [wl]
  | y :: ys, k, i + 1, x, h => by
    have h' : ys[i]? = some x := by simpa using h
    show w k * y :: wl w (k + 1) (ys.take (i + 1)) = w k * y :: wl w (k + 1) (ys.take i) ++ [w (k + (i + 1)) * x]
    rw [wl_take w ys (k + 1) i x h', show k + 1 + i = k + (i + 1) by omega]
    rfl
theorem wsum_tl (w : Nat → Int) : ∀ (k : Nat) (xs : List Int), wsum w (k + 1) xs = wsum (fun g => w (g + 1)) k xs
  | _, [] => rfl
  | k, x :: xs => by simp only [wsum, wsum_tl w (k + 1) xs]
/-- weights -/
def WeiP (C : Addr) (H : Hp) (a : Addr) (w : Nat → Int) : Prop := ∃ f q, RuleAt C H a (intsD f) (intsD q) ∧ q ≠ [] ∧ w = wat f q ∧ ∀ g, -100 ≤ w g ∧ w g ≤ 100
theorem WeiP.mono {C : Addr} {H H' : Hp} {a : Addr} {w : Nat → Int} (s : Same H H') (h : WeiP C H a w) : WeiP C H' a w := by
  obtain ⟨f, q, h1, h2, h3, h4⟩ := h
  exact ⟨f, q, h1.mono s, h2, h3, h4⟩
theorem WeiP.ins {C : Addr} {H : Hp} {a : Addr} {w : Nat → Int} (h : WeiP C H a w) : ∃ dx t1 t2, H a = some (.ins C dx (rf t1 t2)) := by
  obtain ⟨_, _, ⟨dx, t1, t2, e, _, _⟩, _⟩ := h
  exact ⟨dx, t1, t2, e⟩
theorem Dt.int_inv {H : Hp} {v : V} {i : Int} (h : Dt H v (.int i)) : v = .int i := by cases h; rfl
theorem wat_bound {f q : List Int} (hq : q ≠ []) (hf : ∀ x ∈ f, -100 ≤ x ∧ x ≤ 100) (hp : ∀ x ∈ q, -100 ≤ x ∧ x ≤ 100) (g : Nat) : -100 ≤ wat f q g ∧ wat f q g ≤ 100 := by
  obtain ⟨x, e, hx⟩ := atO_some (f := f) hq g
  unfold wat
  rw [e]
  exact hx.elim (hf x) (hp x)
def spWGet (C : Addr) : Sp := fun vs H Q _ => ∃ (a : Addr) (w : Nat → Int) (g : Int), vs = [.ref a, .int g] ∧ WeiP C H a w ∧ 0 ≤ g ∧ Q (.int (w g.toNat)) H
def spChkW (C : Addr) : Sp := fun vs H Q _ => ∃ a w, vs = [.ref a] ∧ WeiP C H a w ∧ Q .non H
def spTotal (C : Addr) : Sp := fun vs H Q _ => ∃ (a t : Addr) (w : Nat → Int) (ds : List Int), vs = [.ref a, .ref t] ∧ WeiP C H a w ∧ H t = some (.lst (ds.map V.int)) ∧ (∀ x ∈ ds, 0 ≤ x ∧ x ≤ 12) ∧ ds.length ≤ 3000 ∧ ∀ H', Same H H' → Q (.int (wsum w 0 ds)) H'
def spWeighed (C D : Addr) : Sp := fun vs H Q _ => ∃ (a b : Addr) (p : Pr) (w : Nat → Int) (d : Int), vs = [.ref a, .ref b, .int d] ∧ RuleP C H a p ∧ WeiP D H b w ∧ Dy d ∧ ∀ H', Same H H' → Q (.int (wsum w 0 (digits p d))) H'
def spWei (C : Addr) : Sp := fun vs H Q _ => ∃ (self dx fl pl : Addr) (H0 : Hp) (f q : List Int), vs = [.ref self, .ref fl, .ref pl] ∧ Same H0 H ∧ H0 self = none ∧ H self = some (.ins C dx []) ∧
  H fl = some (.lst (f.map V.int)) ∧ H pl = some (.lst (q.map V.int)) ∧ f.length ≤ 6 ∧ q.length ≤ 6 ∧ q ≠ [] ∧ (∀ x ∈ f, -100 ≤ x ∧ x ≤ 100) ∧ (∀ x ∈ q, -100 ≤ x ∧ x ≤ 100) ∧
  ∀ H', Same H0 H' → WeiP C H' self (wat f q) → Q .non H'
section
variable {P : Program} {w : World} {K : PySem.W.Frag} {mg : Str → Option Value} {base : Heap} {C_Rule C_Evidence C_Good C_Cheapest C_BadDay C_BadChoices : Addr}
end
end Sl

set_option Elab.async false
set_option linter.all false
set_option maxRecDepth 100000
set_option maxHeartbeats 4000000
set_option exponentiation.threshold 9000
namespace Sl
open PySem L2 C8 StX Silt
local macro_rules | `(tactic| walk_at "side") => `(tactic| first
  | exact cdivw (by omega) (by omega)
  | exact cmulw (by omega) (by omega) (by omega) (by omega)
  | exact Or.inr ⟨by omega, by omega⟩
  | exact Or.inl ⟨by omega, by omega⟩
  | omega
  | exact ⟨by omega, by omega, by decide⟩
  | decide)
local macro_rules | `(tactic| walk_at "rd1") => `(tactic| first
  | with_reducible refine rd_seq ?_
  | with_reducible refine rd_asg ?_
  | with_reducible refine rd_drop ?_
  | with_reducible refine rd_ret ?_
  | with_reducible refine rd_retN ?_
  | with_reducible refine rd_ifS ?_
  | ((with_reducible refine rd_var0 ?_); refine ⟨_, rfl, ?_⟩)
  | with_reducible refine rd_c ?_
  | with_reducible refine rd_op ?_
  | with_reducible refine rd_un ?_
  | with_reducible refine rd_I0 ?_
  | with_reducible refine rd_U ?_
  | ((with_reducible refine rd_I ?c ?_); (case c => walk_at "side"))
  | with_reducible refine rd_ipI ?_
  | with_reducible refine rd_eqI ?_
  | with_reducible refine rd_neI ?_
  | with_reducible refine rd_test ?_
  | with_reducible refine rd_tB ?_
  | with_reducible refine rd_bl ?_
  | with_reducible refine rd_not ?_
  | with_reducible refine rd_and ?_
  | with_reducible refine rd_or ?_
  | with_reducible refine rd_andV ?_
  | with_reducible refine rd_orV ?_
  | with_reducible refine rd_notV ?_
  | with_reducible refine rd_ifE ?_
  | with_reducible refine rd_chain ?_
  | with_reducible refine rd_chain3 ?_
  | with_reducible refine rd_nil ?_
  | with_reducible refine rd_cons ?_
  | with_reducible refine rd_call ?_
  | with_reducible refine rd_CB ?_
  | with_reducible refine rd_par ?_
  | with_reducible refine rd_par2 ?_
  | with_reducible refine rd_par3 ?_
  | with_reducible refine rd_par4 ?_
  | ((with_reducible refine rd_aug0 ?_); refine ⟨_, rfl, ?_⟩)
  | with_reducible refine rd_gname ?_
  | with_reducible refine rd_gcons ?_
  | with_reducible refine rd_gnil ?_
  | with_reducible refine rd_max ?_
  | with_reducible refine rd_min ?_
  | with_reducible refine rd_int1 ?_
  | with_reducible refine rd_abs ?_
  | with_reducible refine rd_lst ?_
  | with_reducible refine rd_tup ?_
  | with_reducible refine rd_bm ?_
  | with_reducible refine rd_fld0 ?_
  | with_reducible refine rd_sl0 ?_
  | with_reducible refine rd_noP ?_
  | with_reducible refine rd_part ?_
  | with_reducible refine rd_part2 ?_
  | with_reducible refine rd_meth0 ?_
  | with_reducible refine rd_star ?_
  | with_reducible refine rd_for ?_
  | with_reducible refine rd_rng1 ?_
  | with_reducible refine rd_rng2 ?_
  | with_reducible refine rd_rng3 ?_
  | with_reducible refine rd_iList ?_
  | with_reducible refine rd_iTup ?_
  | with_reducible refine rd_iEnum ?_
  | with_reducible refine rd_lc ?_
  | with_reducible refine rd_yes ?_
  | with_reducible refine rd_augS ?_
  | with_reducible refine rd_drawNew ?_
  | with_reducible refine rd_make0 ?_
  | with_reducible refine rd_next ?_
  | with_reducible refine rd_break ?_
  | with_reducible refine rd_cont ?_
  | with_reducible refine rd_iteTT ?_
  | with_reducible refine rd_iteFF ?_
  | with_reducible refine rd_iteNTT ?_
  | with_reducible refine rd_iteNFF ?_
  | with_reducible refine rd_con0 ?_
  | with_reducible refine rd_truO0 ?_
  | with_reducible refine rd_gfld0 ?_
  | with_reducible refine rd_dc ?_
  | with_reducible refine rd_iKeys ?_
  | with_reducible refine rd_dget0 ?_
  | with_reducible refine rd_dput0 ?_
  | with_reducible refine rd_dnot0 ?_
  | with_reducible refine rd_iEnumT ?_
  | with_reducible refine rd_raP0 ?_
  | with_reducible refine rd_xf0 ?_
  | with_reducible refine rd_asgG ?_)
local macro_rules | `(tactic| walk_at "rd") => `(tactic| repeat walk_at "rd1")
local macro_rules | `(tactic| walk_at "len") => `(tactic| first
  | (intro vs H Q E h; obtain ⟨h2, _⟩ := h; rw [h2]; rfl)
  | (intro vs H Q E h; obtain ⟨_, h2, _⟩ := h; rw [h2]; rfl)
  | (intro vs H Q E h; obtain ⟨_, _, h2, _⟩ := h; rw [h2]; rfl)
  | (intro vs H Q E h; obtain ⟨_, _, _, h2, _⟩ := h; rw [h2]; rfl)
  | (intro vs H Q E h; obtain ⟨_, _, _, _, h2, _⟩ := h; rw [h2]; rfl)
  | (intro vs H Q E h; obtain ⟨_, _, _, _, _, h2, _⟩ := h; rw [h2]; rfl)
  | (intro vs H Q E h; obtain ⟨_, _, _, _, _, _, h2, _⟩ := h; rw [h2]; rfl)
  | (intro vs H Q E h; obtain ⟨_, _, _, _, _, _, _, h2, _⟩ := h; rw [h2]; rfl)
  | (intro vs H Q E h; obtain ⟨_, _, _, _, _, _, _, _, h2, _⟩ := h; rw [h2]; rfl)
  | (intro vs H Q E h; obtain ⟨_, _, _, _, _, _, _, _, _, h2, _⟩ := h; rw [h2]; rfl)
  | (intro vs H Q E h; obtain ⟨_, _, _, _, _, _, _, _, _, _, h2, _⟩ := h; rw [h2]; rfl)
  | (intro vs H Q E h; obtain ⟨_, _, _, _, _, _, _, _, _, _, _, h2, _⟩ := h; rw [h2]; rfl)
  | (intro vs H Q E h; obtain ⟨_, _, _, _, _, _, _, _, _, _, _, _, h2, _⟩ := h; rw [h2]; rfl))
theorem dd_far : (10 : Int) ^ 30 ≤ DD := by
  have h : (10 : Nat) ^ 30 ≤ DDn := by
    unfold DDn
    have e : (2 : Nat) ^ 2000 = 2 ^ 100 * 2 ^ 1900 := Nat.pow_add 2 100 1900
    have h1 : (1 : Nat) ≤ 2 ^ 1900 := Nat.pow_pos (by decide)
    have h2 : (10 : Nat) ^ 30 ≤ 2 ^ 100 := by decide
    rw [e]
    exact Nat.le_trans h2 (Nat.le_mul_of_pos_right _ h1)
  unfold DD
  exact Int.ofNat_le.mpr h
/-- a list to draw from stands at a -/
def DrawP (K : PySem.W.Frag) (H : Hp) (a : Addr) : Prop := ∃ (sc : Addr) (ns : List Int), H a = some (DrawO a sc) ∧ SqL K H sc (ns.map V.int)
theorem DrawP.mono {K : PySem.W.Frag} {H H' : Hp} {a : Addr} (s : Same H H') (h : DrawP K H a) : DrawP K H' a := by
  obtain ⟨sc, ns, e, q⟩ := h
  exact ⟨sc, ns, s _ _ e, L2.Same.seq s q⟩
theorem rd_ixSq {K : PySem.W.Frag} {H : Hp} {Q : VK} {a : Addr} {xs : List V} {j : Int} {v : V} (e : SqL K H a xs) (n : atI xs j = some v) (h : Q v H) : rIxL K (.ref a) (.int j) H Q := ⟨a, xs, j, v, rfl, rfl, e, n, h⟩
theorem fmod_pos {i j : Int} (h : 0 < j) : 0 ≤ i.fmod j ∧ i.fmod j < j := by
  rw [Int.fmod_eq_emod_of_nonneg _ (by omega)]
  exact ⟨Int.emod_nonneg _ (by omega), Int.emod_lt_of_pos _ h⟩
def spNumber (K : PySem.W.Frag) : Sp := fun vs H Q _ => ∃ (sc : Addr) (ns : List Int) (i : Int), vs = [.ref sc, .int i] ∧ SqL K H sc (ns.map V.int) ∧ ∀ H' n, Same H H' → Q (.int n) H'
def spTake (K : PySem.W.Frag) : Sp := fun vs H Q _ => ∃ (a : Addr) (m : Int), vs = [.ref a, .int m] ∧ DrawP K H a ∧ 0 < m ∧ ∀ H' n, Same H H' → 0 ≤ n → n < m → Q (.int n) H'
def spPick (K : PySem.W.Frag) : Sp := fun vs H Q _ => ∃ (a t : Addr) (xs : List V), vs = [.ref a, .ref t] ∧ DrawP K H a ∧ H t = some (.lst xs) ∧ xs ≠ [] ∧ ∀ H' (i : Nat) x, Same H H' → xs[i]? = some x → Q x H'
def spDPair (K : PySem.W.Frag) : Sp := fun vs H Q _ => ∃ (a : Addr), vs = [.ref a] ∧ DrawP K H a ∧ ∀ H' t q, Same H H' → OkP q → H' t = some (.tup [.int q.1, .int q.2]) → Q (.ref t) H'
/-- a told rule: a tuple of two lists of pairs -/
def ToldP (H : Hp) (t : Addr) (f q : List (Int × Int)) : Prop := ∃ l1 l2 xs1 xs2, H t = some (.tup [.ref l1, .ref l2]) ∧ H l1 = some (.lst xs1) ∧ H l2 = some (.lst xs2) ∧ DnAll H xs1 (pairsD f) ∧ DnAll H xs2 (pairsD q)
theorem ToldP.mono {H H' : Hp} {t : Addr} {f q : List (Int × Int)} (s : Same H H') (h : ToldP H t f q) : ToldP H' t f q := by
  obtain ⟨l1, l2, xs1, xs2, h1, h2, h3, h4, h5⟩ := h
  exact ⟨l1, l2, xs1, xs2, s _ _ h1, s _ _ h2, s _ _ h3, h4.mono s, h5.mono s⟩
/-- what is drawn may be told -/
structure OkT (f q : List (Int × Int)) : Prop where
  f2 : f.length ≤ 2
  q2 : q.length ≤ 2
  ne : q ≠ []
  okf : ∀ x ∈ f, OkP x
  okq : ∀ x ∈ q, OkP x
def spDRule (K : PySem.W.Frag) : Sp := fun vs H Q _ => ∃ (a : Addr), vs = [.ref a] ∧ DrawP K H a ∧ ∀ H' t f q, Same H H' → OkT f q → ToldP H' t f q → Q (.ref t) H'
def spFar (K : PySem.W.Frag) : Sp := fun vs H Q _ => ∃ (a : Addr), vs = [.ref a] ∧ DrawP K H a ∧ ∀ H' n, Same H H' → 0 ≤ n → n ≤ 10 ^ 21 → Q (.int n) H'
def spAt : Sp := fun vs H Q _ => ∃ (a : Addr) (f q : List (Int × Int)) (g : Int), vs = [.ref a, .int g] ∧ ToldP H a f q ∧ q ≠ [] ∧ 0 ≤ g ∧ ∀ t, H t = some (.tup [.int (atp f q g.toNat).1, .int (atp f q g.toNat).2]) → Q (.ref t) H
def spTail : Sp := fun vs H Q _ => ∃ (a : Addr) (f q : List (Int × Int)), vs = [.ref a] ∧ ToldP H a f q ∧ OkT f q ∧ ∀ H' t f' q', Same H H' → OkT f' q' → (∀ g, atp f' q' g = atp f q (g + 1)) → ToldP H' t f' q' → Q (.ref t) H'
theorem cut_drop1 {xs : List V} : cutV xs (some 1) none = xs.drop 1 := by
  unfold cutV
  rw [HT.sIx_none, show (1 : Int) = ((1 : Nat) : Int) from rfl, HT.sIx_nat]
  by_cases c : 1 ≤ xs.length
  · rw [Nat.min_eq_left c, List.take_of_length_le (by rw [List.length_drop]; omega)]
  · rw [Nat.min_eq_right (by omega), List.drop_of_length_le (Nat.le_refl _), List.drop_of_length_le (by omega)]
    simp
theorem DnAll.drop {H : Hp} : ∀ {vs : List V} {ds : List PyData} (n : Nat), DnAll H vs ds → DnAll H (vs.drop n) (ds.drop n)
  | _, _, 0, r => r
  | _, _, _ + 1, .nil => .nil
  | _, _, n + 1, .cons _ t => DnAll.drop n t
theorem atO_rot (q : List (Int × Int)) (g : Nat) : atO [] (q.drop 1 ++ q.take 1) g = atO [] q (g + 1) := by
  cases q with
  | nil => rfl
  | cons x r =>
    rw [atO_turn [] r x (g + 1)]
    show atO [] (r ++ [x]) g = atO [x] (r ++ [x]) (g + 1)
    unfold atO
    rw [if_neg (by simp), if_neg (by simp)]
    rfl
theorem atp_rot (q : List (Int × Int)) (g : Nat) : atp [] (q.drop 1 ++ q.take 1) g = atp [] q (g + 1) := by rw [atp_atO, atp_atO, atO_rot]
theorem atp_drop {f q : List (Int × Int)} (hf : f ≠ []) (g : Nat) : atp (f.drop 1) q g = atp f q (g + 1) := by
  rw [atp_atO, atp_atO]
  congr 1
  cases f with
  | nil => exact absurd rfl hf
  | cons x r =>
    show atO r q g = atO (x :: r) q (g + 1)
    unfold atO
    rw [List.length_cons]
    by_cases c : g < r.length
    · rw [if_pos c, if_pos (by omega), List.getElem?_cons_succ]
    · rw [if_neg c, if_neg (by omega)]
      congr 2
      omega
section
variable {P : Program} {w : World} {K : PySem.W.Frag} {mg : Str → Option Value} {base : Heap} {C_Rule C_Evidence C_Good C_Cheapest C_BadDay C_BadChoices : Addr}
theorem cal__law_number (T : TX P K mg C_Rule C_Evidence C_Good C_Cheapest C_BadDay C_BadChoices) : Cal P w K mg base 1 "_law_number" (spNumber K) [] := by
  obtain ⟨f0, fd, D, dn⟩ := T.d__law_number
  refine cal0 D (D.fn.binds dn fun _ _ _ _ _ _ us hl => match us, hl with | [_, _], _ => rfl) .nil sc__law_number (by walk_at "len") (fun cdv A outer s H vs Q E hr h => ?_)
  obtain ⟨sc, ns, i, rfl, hS, k⟩ := h
  refine ⟨_, (pss_cons (ps_if (pt_cmpR (op_eqD hr.units) (pv 0) (pe_lst pa_nil) (nomark _)) (pss_one (ps_ret (pe_callTy cr_int1 (by rfl) T.b_int (by decide +kernel) (pa_cons (pe_op op_modN (pe_op op_add (pe_op op_mul (pv 1) pe_int) pe_int) pe_int) pa_nil)))) pss_nil)
      (pss_cons (ps_s 2 sc__law_number.nd (pe_ix ix_list (pv 0) (pe_op op_modN (pv 1) (pe_callB cr_lenS (by rfl) T.b_len (by decide +kernel) (pa_cons (pv 0) pa_nil))) (fun _ _ => rfl)))
      (pss_cut (ps_if (pt_cmpR op_ge (pe_callB cr_abs (by rfl) T.b_abs (by decide +kernel) (pa_cons (pv 2) pa_nil)) (pe_op op_pow pe_int pe_int) (nomark _)) (pss_one (ps_s 2 sc__law_number.nd (pe_op op_modN (pv 2) (pe_op op_pow pe_int pe_int)))) pss_nil)
      (pss_cons (ps_s 3 sc__law_number.nd (pe_op op_modN (pe_op op_add (pe_op op_mul (pe_op op_add (pv 2) (pe_op op_mul pe_int (pv 1))) pe_int) (pe_op op_mul pe_int (pe_callB cr_lenS (by rfl) T.b_len (by decide +kernel) (pa_cons (pv 0) pa_nil)))) pe_int))
      (pss_one (ps_ret (pe_callTy cr_int1 (by rfl) T.b_int (by decide +kernel) (pa_cons (pe_op op_modN (pe_op op_add (pe_op op_mul (pe_op op_modN (pe_op op_mul (pv 3) pe_int) pe_int) pe_int) (pv 1)) pe_int) pa_nil)))))))), ?_⟩
  walk_at "rd"
  refine rd_newL (by decide) fun u H1 _ s1 eu _ => ?_
  refine ⟨.list (intsD ns), .list [], .lst (L2.Same.seq s1 hS) (DtAll.intsD ns).dp, .lst (SqL.of eu) .nil, shaped_ints ns, by decide, ?_⟩
  rw [eqv_nil]
  walk_at "rd"
  refine rd_ite (fun c => ?_) (fun c => ?_)
  · walk_at "rd"
    exact k _ _ s1
  · have hns : ns ≠ [] := fun z => c (by rw [z]; rfl)
    have hl : 0 < ns.length := List.length_pos_iff.mpr hns
    walk_at "rd"
    refine rd_lenSq (L2.Same.seq s1 hS) ?_
    rw [List.length_map]
    walk_at "rd"
    have fm := fmod_pos (i := i) (j := (ns.length : Int)) (by omega)
    obtain ⟨n, hn⟩ : ∃ n : Nat, i.fmod (ns.length : Int) = n := ⟨(i.fmod (ns.length : Int)).toNat, by omega⟩
    rw [hn]
    refine rd_ixSq (L2.Same.seq s1 hS) (v := .int (ns[n]'(by omega))) (atI_nat' (by rw [List.getElem?_map, List.getElem?_eq_getElem (by omega : n < ns.length)]; rfl)) ?_
    generalize ns[n]'(by omega) = c0
    refine ⟨fun σ' H' => ∃ c : Int, Same H H' ∧ σ' = [some (.ref sc), some (.int i), some (.int c), none], ?_, ?_⟩
    · walk_at "rd"
      refine rd_ite (fun c => ?_) (fun c => ?_)
      · walk_at "rd"
        exact ⟨_, s1, rfl⟩
      · walk_at "rd"
        exact ⟨_, s1, rfl⟩
    · rintro σ' H2 ⟨c, s2, rfl⟩
      walk_at "rd"
      refine rd_lenSq (L2.Same.seq s2 hS) ?_
      walk_at "rd"
      exact k _ _ s2
theorem cal__law_take (T : TX P K mg C_Rule C_Evidence C_Good C_Cheapest C_BadDay C_BadChoices) : Cal P w K mg base 2 "_law_take" (spTake K) [] := by
  obtain ⟨f0, fd, D, dn⟩ := T.d__law_take
  have G__law_number := cal__law_number (P := P) (w := w) (base := base) T
  refine cal0 D (D.fn.binds dn fun _ _ _ _ _ _ us hl => match us, hl with | [_, _], _ => rfl) .nil sc__law_take (by walk_at "len") (fun cdv A outer s H vs Q E hr h => ?_)
  obtain ⟨a, m, rfl, ⟨sc, ns, e, hS⟩, hm, k⟩ := h
  refine ⟨_, (pss_cons (ps_augS (pv 0) pe_int get_draw1 pe_int ip_add set_draw1)
      (pss_one (ps_ret (pe_op op_modN (pe_callTy cr_int1 (by rfl) T.b_int (by decide +kernel) (pa_cons (pe_c G__law_number hr (by decide) rfl (pa_cons (pe_ix ix_draw0 (pv 0) pe_int (fun _ _ => rfl)) (pa_cons (pe_callTy cr_int1 (by rfl) T.b_int (by decide +kernel) (pa_cons (pe_ix ix_draw1 (pv 0) pe_int (fun _ _ => rfl)) pa_nil)) pa_nil))) pa_nil)) (pv 1))))), ?_⟩
  walk_at "rd"
  refine rd_draw1 e fun i => ?_
  walk_at "rd"
  refine rd_setDraw1 e ?_
  walk_at "rd"
  refine rd_draw0 e ?_
  walk_at "rd"
  refine rd_draw1 e fun i => ?_
  walk_at "rd"
  refine ⟨sc, ns, _, rfl, hS, fun H' n s => ?_⟩
  walk_at "rd"
  have fm := fmod_pos (i := n) hm
  exact k H' _ s fm.1 fm.2
theorem cal__law_pick (T : TX P K mg C_Rule C_Evidence C_Good C_Cheapest C_BadDay C_BadChoices) : Cal P w K mg base 3 "_law_pick" (spPick K) [] := by
  obtain ⟨f0, fd, D, dn⟩ := T.d__law_pick
  have G__law_take := cal__law_take (P := P) (w := w) (base := base) T
  refine cal0 D (D.fn.binds dn fun _ _ _ _ _ _ us hl => match us, hl with | [_, _], _ => rfl) .nil sc__law_pick (by walk_at "len") (fun cdv A outer s H vs Q E hr h => ?_)
  obtain ⟨a, t, xs, rfl, hd, et, hne, k⟩ := h
  have hl : 0 < xs.length := List.length_pos_iff.mpr hne
  refine ⟨_, (pss_one (ps_ret (pe_ix ix_list (pv 1) (pe_c G__law_take hr (by decide) rfl (pa_cons (pv 0) (pa_cons (pe_callB cr_lenS (by rfl) T.b_len (by decide +kernel) (pa_cons (pv 1) pa_nil)) pa_nil))) (fun _ _ => rfl)))), ?_⟩
  walk_at "rd"
  refine rd_lenL et ?_
  walk_at "rd"
  refine ⟨a, _, rfl, hd, by omega, fun H' n s n0 n1 => ?_⟩
  obtain ⟨j, rfl⟩ : ∃ j : Nat, n = j := ⟨n.toNat, by omega⟩
  have hj : j < xs.length := by omega
  refine rd_ixL (s _ _ et) (atI_nat' (List.getElem?_eq_getElem hj)) ?_
  exact k H' j _ s (List.getElem?_eq_getElem hj)
theorem cal__law_pair (T : TX P K mg C_Rule C_Evidence C_Good C_Cheapest C_BadDay C_BadChoices) : Cal P w K mg base 4 "_law_pair" (spDPair K) [] := by
  obtain ⟨f0, fd, D, dn⟩ := T.d__law_pair
  have G__law_take := cal__law_take (P := P) (w := w) (base := base) T
  have G__law_pick := cal__law_pick (P := P) (w := w) (base := base) T
  refine cal0 D (D.fn.binds dn fun _ _ _ _ _ _ us hl => match us, hl with | [_], _ => rfl) .nil sc__law_pair (by walk_at "len") (fun cdv A outer s H vs Q E hr h => ?_)
  obtain ⟨a, rfl, hd, k⟩ := h
  refine ⟨_, (pss_cons (ps_s 1 sc__law_pair.nd (pe_op op_add pe_int (pe_c G__law_take hr (by decide) rfl (pa_cons (pv 0) (pa_cons pe_int pa_nil)))))
      (pss_one (ps_ret (pe_tup (pa_cons (pe_op op_add (pv 1) (pe_c G__law_pick hr (by decide) rfl (pa_cons (pv 0) (pa_cons (pe_lst (pa_cons pe_int (pa_cons pe_int (pa_cons pe_int (pa_cons pe_int pa_nil))))) pa_nil)))) (pa_cons (pv 1) pa_nil)))))), ?_⟩
  walk_at "rd"
  refine ⟨a, 3, rfl, hd, by decide, fun H1 n s1 n0 n1 => ?_⟩
  walk_at "rd"
  refine rd_newL (by simp) fun u H2 _ s2 eu _ => ?_
  walk_at "rd"
  refine ⟨a, u, _, rfl, hd.mono (s1.trans s2), eu, by simp, fun H3 i x s3 hx => ?_⟩
  obtain ⟨z, rfl, z0, z1⟩ : ∃ z : Int, x = .int z ∧ 0 ≤ z ∧ z ≤ 2 := by
    match i, hx with
    | 0, hx => cases hx; exact ⟨0, rfl, by decide, by decide⟩
    | 1, hx => cases hx; exact ⟨0, rfl, by decide, by decide⟩
    | 2, hx => cases hx; exact ⟨1, rfl, by decide, by decide⟩
    | 3, hx => cases hx; exact ⟨2, rfl, by decide, by decide⟩
    | i + 4, hx => simp at hx
  walk_at "rd"
  refine rd_newT (by simp) fun t H4 _ s4 et _ => ?_
  exact k H4 t (2 + n + z, 2 + n) (((s1.trans s2).trans s3).trans s4) ⟨by omega, by omega, by omega⟩ et
theorem cal__law_rule (T : TX P K mg C_Rule C_Evidence C_Good C_Cheapest C_BadDay C_BadChoices) : Cal P w K mg base 5 "_law_rule" (spDRule K) [] := by
  obtain ⟨f0, fd, D, dn⟩ := T.d__law_rule
  have G__law_pick := cal__law_pick (P := P) (w := w) (base := base) T
  have G__law_pair := cal__law_pair (P := P) (w := w) (base := base) T
  refine cal0 D (D.fn.binds dn fun _ _ _ _ _ _ us hl => match us, hl with | [_], _ => rfl) .nil sc__law_rule (by walk_at "len") (fun cdv A outer s H vs Q E hr h => ?_)
  obtain ⟨a, rfl, hd, k⟩ := h
  refine ⟨_, (pss_cons (ps_setLc (i := 1) (own := [("_law_turn", 2)]) (g := gName 2) (tt := tYes) rfl sc__law_rule.nd rfl rfl (sw_true rfl rfl rfl (by decide +kernel)) (pi_range1 rfl T.b_range (pa_cons (pe_c G__law_pick hr (by decide) rfl (pa_cons (pv 0) (pa_cons (pe_lst (pa_cons pe_int (pa_cons pe_int (pa_cons pe_int (pa_cons pe_int pa_nil))))) pa_nil))) pa_nil)) (blkOk_by (own := [("_law_turn", 2)]) (N := N__law_rule) (sc := fnScope s__law_rule) (by decide +kernel)) (fun _ _ _ _ _ => (pg_n 2 sc__law_rule.nd)) (fun _ _ _ _ _ => pts_nil) (fun _ _ _ _ _ => (pe_c G__law_pair hr (by decide) rfl (pa_cons (pv 0) pa_nil))))
      (pss_one (ps_ret (pe_tup (pa_cons (pv 1) (pa_cons (pe_lc (own := [("_law_turn", 2)]) (g := gName 2) (tt := tYes) rfl sc__law_rule.nd (pi_range1 rfl T.b_range (pa_cons (pe_op op_add pe_int (pe_c G__law_pick hr (by decide) rfl (pa_cons (pv 0) (pa_cons (pe_lst (pa_cons pe_int (pa_cons pe_int (pa_cons pe_int pa_nil)))) pa_nil)))) pa_nil)) (blkOk_by (own := [("_law_turn", 2)]) (N := N__law_rule) (sc := fnScope s__law_rule) (by decide +kernel)) (fun _ _ _ _ _ => (pg_n 2 sc__law_rule.nd)) (fun _ _ _ _ _ => pts_nil) (fun _ _ _ _ _ => (pe_c G__law_pair hr (by decide) rfl (pa_cons (pv 0) pa_nil)))) pa_nil)))))), ?_⟩
  walk_at "rd"
  refine rd_newL (by simp) fun u H1 _ s1 eu _ => ?_
  walk_at "rd"
  refine ⟨a, u, _, rfl, hd.mono s1, eu, by simp, fun H2 i x s2 hx => ?_⟩
  obtain ⟨z, rfl, z1⟩ : ∃ z : Nat, x = .int z ∧ z ≤ 2 := by
    match i, hx with
    | 0, hx => cases hx; exact ⟨0, rfl, by decide⟩
    | 1, hx => cases hx; exact ⟨0, rfl, by decide⟩
    | 2, hx => cases hx; exact ⟨1, rfl, by decide⟩
    | 3, hx => cases hx; exact ⟨2, rfl, by decide⟩
    | i + 4, hx => simp at hx
  walk_at "rd"
  have s12 := s1.trans s2
  refine rd_rgR1 (by omega) (by omega) ?_
  rw [Int.toNat_natCast]
  refine lcR_rng (fun D i H' => ∃ (l : List V) (f : List (Int × Int)), Same H2 H' ∧ H' D = some (.lst l) ∧ f.length = i ∧ (∀ x ∈ f, OkP x) ∧ DnAll H' l (pairsD f)) (fun D H' _ s e _ => ⟨[], [], s, e, rfl, by simp, .nil⟩) ?_ ?_
  · rintro D i H' hD hi ⟨l, f, s3, eD, hl, okf, df⟩
    walk_at "rd"
    refine ⟨rfl, ?_⟩
    walk_at "rd"
    refine ⟨a, rfl, hd.mono (s12.trans s3), fun H4 t q s4 okq et => ?_⟩
    refine rd_lcE (s4 _ _ eD) (by rw [df.length]; simp [pairsD]; omega) fun H5 eH e5 => ?_
    refine ⟨_, f ++ [q], by rw [eH]; exact Same.mut (s3.trans s4) hD, e5, by simp [hl], ?_, ?_⟩
    · intro x hx
      rcases List.mem_append.mp hx with h | h
      · exact okf x h
      · rw [List.mem_singleton.mp h]; exact okq
    · rw [eH]
      unfold pairsD
      rw [List.map_append]
      exact DnAll.updL (s4 _ _ eD) ((df.mono s4).append (.cons (.pair et) .nil))
  · rintro D H3 hD ⟨l, f, s3, eD, hl, okf, df⟩
    have s13 := s12.trans s3
    walk_at "rd"
    refine rd_newL (by simp) fun u2 H4 _ s4 eu2 _ => ?_
    walk_at "rd"
    have s14 := s13.trans s4
    refine ⟨a, u2, _, rfl, hd.mono s14, eu2, by simp, fun H5 i2 x2 s5 hx2 => ?_⟩
    obtain ⟨z2, rfl, z21⟩ : ∃ z : Nat, x2 = .int z ∧ z ≤ 1 := by
      match i2, hx2 with
      | 0, hx => cases hx; exact ⟨0, rfl, by decide⟩
      | 1, hx => cases hx; exact ⟨0, rfl, by decide⟩
      | 2, hx => cases hx; exact ⟨1, rfl, by decide⟩
      | i + 3, hx => simp at hx
    walk_at "rd"
    have s15 := s14.trans s5
    refine rd_rgR1 (by omega) (by omega) ?_
    have e1z : ((1 : Int) + (z2 : Int)).toNat = 1 + z2 := by omega
    rw [e1z]
    refine lcR_rng (fun D2 i H' => ∃ (l2 : List V) (q : List (Int × Int)), Same H5 H' ∧ H' D2 = some (.lst l2) ∧ q.length = i ∧ (∀ x ∈ q, OkP x) ∧ DnAll H' l2 (pairsD q)) (fun D2 H' _ s e _ => ⟨[], [], s, e, rfl, by simp, .nil⟩) ?_ ?_
    · rintro D2 i H' hD2 hi ⟨l2, q, s6, eD2, hl2, okq, dq⟩
      walk_at "rd"
      refine ⟨rfl, ?_⟩
      walk_at "rd"
      refine ⟨a, rfl, hd.mono (s15.trans s6), fun H7 t q2 s7 okq2 et => ?_⟩
      refine rd_lcE (s7 _ _ eD2) (by rw [dq.length]; simp [pairsD]; omega) fun H8 eH e8 => ?_
      refine ⟨_, q ++ [q2], by rw [eH]; exact Same.mut (s6.trans s7) hD2, e8, by simp [hl2], ?_, ?_⟩
      · intro x hx
        rcases List.mem_append.mp hx with h | h
        · exact okq x h
        · rw [List.mem_singleton.mp h]; exact okq2
      · rw [eH]
        unfold pairsD
        rw [List.map_append]
        exact DnAll.updL (s7 _ _ eD2) ((dq.mono s7).append (.cons (.pair et) .nil))
    · rintro D2 H6 hD2 ⟨l2, q, s6, eD2, hl2, okq, dq⟩
      walk_at "rd"
      refine rd_newT (by simp) fun t H7 _ s7 et _ => ?_
      have s37 := ((s4.trans s5).trans s6).trans s7
      refine k H7 t f q ((s15.trans s6).trans s7) ⟨by omega, by omega, fun z => by rw [z] at hl2; simp at hl2; omega, okf, okq⟩ ⟨D, D2, l, l2, et, s37 _ _ eD, s7 _ _ eD2, df.mono s37, dq.mono s7⟩
theorem cal__law_at (T : TX P K mg C_Rule C_Evidence C_Good C_Cheapest C_BadDay C_BadChoices) : Cal P w K mg base 1 "_law_at" spAt [] := by
  obtain ⟨f0, fd, D, dn⟩ := T.d__law_at
  refine cal0 D (D.fn.binds dn fun _ _ _ _ _ _ us hl => match us, hl with | [_, _], _ => rfl) .nil sc__law_at (by walk_at "len") (fun cdv A outer s H vs Q E hr h => ?_)
  obtain ⟨a, f, q, g, rfl, ⟨l1, l2, xs1, xs2, ea, e1, e2, d1, d2⟩, hq, hg, k⟩ := h
  have q0 : 0 < q.length := List.length_pos_iff.mpr hq
  have n1 : xs1.length = f.length := by rw [d1.length]; simp [pairsD]
  have n2 : xs2.length = q.length := by rw [d2.length]; simp [pairsD]
  obtain ⟨n, rfl⟩ : ∃ n : Nat, g = n := ⟨g.toNat, by omega⟩
  rw [Int.toNat_natCast] at k
  refine ⟨_, (pss_cons (ps_asg (pv 0) (pg_tup rfl (pgs_cons (pg_n 2 sc__law_at.nd) (pgs_cons (pg_n 3 sc__law_at.nd) pgs_nil))))
      (pss_one (ps_ret (pe_ifExp (pt_cmpR op_lt (pv 1) (pe_callB cr_lenS (by rfl) T.b_len (by decide +kernel) (pa_cons (pv 2) pa_nil)) (nomark _)) (pe_ix ix_list (pv 2) (pv 1) (fun _ _ => rfl)) (pe_ix ix_list (pv 3) (pe_op op_modN (pe_callTy cr_int1 (by rfl) T.b_int (by decide +kernel) (pa_cons (pe_op op_sub (pv 1) (pe_callB cr_lenS (by rfl) T.b_len (by decide +kernel) (pa_cons (pv 2) pa_nil))) pa_nil)) (pe_callB cr_lenS (by rfl) T.b_len (by decide +kernel) (pa_cons (pv 3) pa_nil))) (fun _ _ => rfl)))))), ?_⟩
  walk_at "rd"
  refine rd_gtup ea rfl ?_
  walk_at "rd"
  refine rd_lenL e1 ?_
  walk_at "rd"
  refine rd_ite (fun c => ?_) (fun c => ?_)
  · walk_at "rd"
    have hn : n < f.length := by omega
    obtain ⟨v, hv, dv⟩ := d1.get (i := n) (d := pairD (f[n])) (by simp [pairsD, hn])
    obtain ⟨t, rfl, et⟩ := dv.dt.pair_inv
    refine rd_ixL e1 (atI_nat' hv) (k t ?_)
    rw [et]
    simp [atp, hn, List.getD_eq_getElem?_getD]
  · walk_at "rd"
    refine rd_lenL e1 ?_
    walk_at "rd"
    refine rd_lenL e2 ?_
    walk_at "rd"
    have hn : ¬ n < f.length := by omega
    have hm : ((n : Int) - (xs1.length : Int)).fmod (xs2.length : Int) = (((n - f.length) % q.length : Nat) : Int) := by
      rw [n1, n2, Int.fmod_eq_emod_of_nonneg _ (by omega)]
      rw [show (n : Int) - (f.length : Int) = ((n - f.length : Nat) : Int) by omega]
      exact (Int.natCast_emod _ _).symm
    rw [hm]
    have hlt : (n - f.length) % q.length < q.length := Nat.mod_lt _ q0
    obtain ⟨v, hv, dv⟩ := d2.get (i := (n - f.length) % q.length) (d := pairD (q[(n - f.length) % q.length])) (by simp [pairsD, hlt])
    obtain ⟨t, rfl, et⟩ := dv.dt.pair_inv
    refine rd_ixL e2 (atI_nat' hv) (k t ?_)
    rw [et]
    simp [atp, hn, hlt, List.getD_eq_getElem?_getD]
end
end Sl

set_option Elab.async false
set_option linter.all false
set_option maxRecDepth 100000
set_option maxHeartbeats 4000000
set_option exponentiation.threshold 9000
namespace Sl
open PySem L2 C8 StX Silt
local macro_rules | `(tactic| walk_at "side") => `(tactic| first
  | exact cdivw (by omega) (by omega)
  | exact cmulw (by omega) (by omega) (by omega) (by omega)
  | exact Or.inr ⟨by omega, by omega⟩
  | exact Or.inl ⟨by omega, by omega⟩
  | omega
  | exact ⟨by omega, by omega, by decide⟩
  | decide)
local macro_rules | `(tactic| walk_at "rd1") => `(tactic| first
  | with_reducible refine rd_seq ?_
  | with_reducible refine rd_asg ?_
  | with_reducible refine rd_drop ?_
  | with_reducible refine rd_ret ?_
  | with_reducible refine rd_retN ?_
  | with_reducible refine rd_ifS ?_
  | ((with_reducible refine rd_var0 ?_); refine ⟨_, rfl, ?_⟩)
  | with_reducible refine rd_c ?_
  | with_reducible refine rd_op ?_
  | with_reducible refine rd_un ?_
  | with_reducible refine rd_I0 ?_
  | with_reducible refine rd_U ?_
  | ((with_reducible refine rd_I ?c ?_); (case c => walk_at "side"))
  | with_reducible refine rd_ipI ?_
  | with_reducible refine rd_eqI ?_
  | with_reducible refine rd_neI ?_
  | with_reducible refine rd_test ?_
  | with_reducible refine rd_tB ?_
  | with_reducible refine rd_bl ?_
  | with_reducible refine rd_not ?_
  | with_reducible refine rd_and ?_
  | with_reducible refine rd_or ?_
  | with_reducible refine rd_andV ?_
  | with_reducible refine rd_orV ?_
  | with_reducible refine rd_notV ?_
  | with_reducible refine rd_ifE ?_
  | with_reducible refine rd_chain ?_
  | with_reducible refine rd_chain3 ?_
  | with_reducible refine rd_nil ?_
  | with_reducible refine rd_cons ?_
  | with_reducible refine rd_call ?_
  | with_reducible refine rd_CB ?_
  | with_reducible refine rd_par ?_
  | with_reducible refine rd_par2 ?_
  | with_reducible refine rd_par3 ?_
  | with_reducible refine rd_par4 ?_
  | ((with_reducible refine rd_aug0 ?_); refine ⟨_, rfl, ?_⟩)
  | with_reducible refine rd_gname ?_
  | with_reducible refine rd_gcons ?_
  | with_reducible refine rd_gnil ?_
  | with_reducible refine rd_max ?_
  | with_reducible refine rd_min ?_
  | with_reducible refine rd_int1 ?_
  | with_reducible refine rd_abs ?_
  | with_reducible refine rd_lst ?_
  | with_reducible refine rd_tup ?_
  | with_reducible refine rd_bm ?_
  | with_reducible refine rd_fld0 ?_
  | with_reducible refine rd_sl0 ?_
  | with_reducible refine rd_noP ?_
  | with_reducible refine rd_part ?_
  | with_reducible refine rd_part2 ?_
  | with_reducible refine rd_meth0 ?_
  | with_reducible refine rd_star ?_
  | with_reducible refine rd_for ?_
  | with_reducible refine rd_rng1 ?_
  | with_reducible refine rd_rng2 ?_
  | with_reducible refine rd_rng3 ?_
  | with_reducible refine rd_iList ?_
  | with_reducible refine rd_iTup ?_
  | with_reducible refine rd_iEnum ?_
  | with_reducible refine rd_lc ?_
  | with_reducible refine rd_yes ?_
  | with_reducible refine rd_augS ?_
  | with_reducible refine rd_drawNew ?_
  | with_reducible refine rd_make0 ?_
  | with_reducible refine rd_next ?_
  | with_reducible refine rd_break ?_
  | with_reducible refine rd_cont ?_
  | with_reducible refine rd_iteTT ?_
  | with_reducible refine rd_iteFF ?_
  | with_reducible refine rd_iteNTT ?_
  | with_reducible refine rd_iteNFF ?_
  | with_reducible refine rd_con0 ?_
  | with_reducible refine rd_truO0 ?_
  | with_reducible refine rd_gfld0 ?_
  | with_reducible refine rd_dc ?_
  | with_reducible refine rd_iKeys ?_
  | with_reducible refine rd_dget0 ?_
  | with_reducible refine rd_dput0 ?_
  | with_reducible refine rd_dnot0 ?_
  | with_reducible refine rd_iEnumT ?_
  | with_reducible refine rd_raP0 ?_
  | with_reducible refine rd_xf0 ?_
  | with_reducible refine rd_asgG ?_)
local macro_rules | `(tactic| walk_at "rd") => `(tactic| repeat walk_at "rd1")
local macro_rules | `(tactic| walk_at "len") => `(tactic| first
  | (intro vs H Q E h; obtain ⟨h2, _⟩ := h; rw [h2]; rfl)
  | (intro vs H Q E h; obtain ⟨_, h2, _⟩ := h; rw [h2]; rfl)
  | (intro vs H Q E h; obtain ⟨_, _, h2, _⟩ := h; rw [h2]; rfl)
  | (intro vs H Q E h; obtain ⟨_, _, _, h2, _⟩ := h; rw [h2]; rfl)
  | (intro vs H Q E h; obtain ⟨_, _, _, _, h2, _⟩ := h; rw [h2]; rfl)
  | (intro vs H Q E h; obtain ⟨_, _, _, _, _, h2, _⟩ := h; rw [h2]; rfl)
  | (intro vs H Q E h; obtain ⟨_, _, _, _, _, _, h2, _⟩ := h; rw [h2]; rfl)
  | (intro vs H Q E h; obtain ⟨_, _, _, _, _, _, _, h2, _⟩ := h; rw [h2]; rfl)
  | (intro vs H Q E h; obtain ⟨_, _, _, _, _, _, _, _, h2, _⟩ := h; rw [h2]; rfl)
  | (intro vs H Q E h; obtain ⟨_, _, _, _, _, _, _, _, _, h2, _⟩ := h; rw [h2]; rfl)
  | (intro vs H Q E h; obtain ⟨_, _, _, _, _, _, _, _, _, _, h2, _⟩ := h; rw [h2]; rfl)
  | (intro vs H Q E h; obtain ⟨_, _, _, _, _, _, _, _, _, _, _, h2, _⟩ := h; rw [h2]; rfl)
  | (intro vs H Q E h; obtain ⟨_, _, _, _, _, _, _, _, _, _, _, _, h2, _⟩ := h; rw [h2]; rfl))
def optV (r : Option Int) : V := match r with | some i => .int i | none => .non
def spDayMade (C : Addr) : Sp := fun vs H Q _ => ∃ (a : Addr) (p : Pr) (g m : Int), vs = [.ref a, .int g, .int m] ∧ RuleP C H a p ∧ Gr g ∧ (0 ≤ m ∧ m ≤ BB) ∧ ∀ H', Same H H' → Q (.int (dayMade p g.toNat m)) H'
def spDayIn (C : Addr) : Sp := fun vs H Q _ => ∃ (a : Addr) (p : Pr) (d g : Int), vs = [.ref a, .int d, .int g] ∧ RuleP C H a p ∧ (1 ≤ d ∧ d ≤ DD) ∧ Gr g ∧ ∀ H', Same H H' → Q (.int (dayIn p d g.toNat)) H'
def spStay (C : Addr) : Sp := fun vs H Q _ => ∃ (a : Addr) (p : Pr) (d g : Int), vs = [.ref a, .int d, .int g] ∧ RuleP C H a p ∧ (1 ≤ d ∧ d ≤ DD) ∧ (0 ≤ g ∧ g ≤ 2050) ∧
  ∀ H', Same H H' → (dayIn p d g.toNat < dayIn p d (g.toNat + 1) → ∀ t, H' t = some (.tup [.int (dayIn p d g.toNat), .int (dayIn p d (g.toNat + 1) - 1)]) → Q (.ref t) H') ∧ (¬ dayIn p d g.toNat < dayIn p d (g.toNat + 1) → Q .non H')
def spWorkOn (C : Addr) : Sp := fun vs H Q _ => ∃ (a : Addr) (p : Pr) (d : Int), vs = [.ref a, .int d] ∧ RuleP C H a p ∧ Dy d ∧ ∀ H', Same H H' → Q (.int (((bakedL p d).map fun g => size p (g + 1).toNat).sum)) H'
def spHardest (C : Addr) : Sp := fun vs H Q _ => ∃ (a : Addr) (p : Pr) (d : Int), vs = [.ref a, .int d] ∧ RuleP C H a p ∧ Dy d ∧ ∀ H' r, Same H H' → HardR p d r → Q (optV r) H'
def spResting (C : Addr) : Sp := fun vs H Q _ => ∃ (a : Addr) (p : Pr) (d : Int), vs = [.ref a, .int d] ∧ RuleP C H a p ∧ Dy d ∧ ∀ H', Same H H' → Q (.int (d - made p 1 d)) H'
def spTogether (C : Addr) : Sp := fun vs H Q _ => ∃ (a : Addr) (p : Pr) (d e : Int), vs = [.ref a, .int d, .int e] ∧ RuleP C H a p ∧ (1 ≤ d ∧ d ≤ DD) ∧ (1 ≤ e ∧ e ≤ DD) ∧ ∀ H' r, Same H H' → TogR p d e r → Q (.int r) H'
theorem bkF_mem {p : Pr} {d : Int} : ∀ (n g : Nat) (x : Int), x ∈ bkF n p d g → ∃ k : Nat, x = k ∧ isBaked p k d = true
  | 0, _, _, h => by cases h
  | n + 1, g, x, h => by
    have h' : x ∈ (if isBaked p g d then (g : Int) :: bkF n p d (g + 1) else []) := h
    by_cases c : isBaked p g d = true
    · rw [if_pos c] at h'
      rcases List.mem_cons.mp h' with q | q
      · exact ⟨g, q, c⟩
      · exact bkF_mem n (g + 1) x q
    · rw [if_neg c] at h'; cases h'
theorem baked_all {p : Pr} (g : Good p) {d : Int} (h : d ≤ DD) : ∀ x ∈ bakedL p d, 0 ≤ x ∧ x ≤ 2000 := by
  intro x hx
  obtain ⟨k, rfl, b⟩ := bkF_mem _ _ _ hx
  have := grade_le g (isBaked_size g b) h
  omega
theorem bkF_lenB {p : Pr} (g : Good p) {d : Int} (h : d ≤ DD) : ∀ (n k : Nat), k ≤ 2001 → (bkF n p d k).length + k ≤ 2001
  | 0, k, hk => by show 0 + k ≤ 2001; omega
  | n + 1, k, hk => by
    show (if isBaked p k d then (k : Int) :: bkF n p d (k + 1) else []).length + k ≤ 2001
    by_cases c : isBaked p k d = true
    · rw [if_pos c, List.length_cons]
      have := grade_le g (isBaked_size g c) h
      have := bkF_lenB g h n (k + 1) (by omega)
      omega
    · rw [if_neg c]; show 0 + k ≤ 2001; omega
theorem baked_len2 {p : Pr} (g : Good p) {d : Int} (h : d ≤ DD) : (bakedL p d).length ≤ 2001 := bkF_lenB g h _ 0 (by omega)
section
variable {P : Program} {w : World} {K : PySem.W.Frag} {mg : Str → Option Value} {base : Heap} {C_Rule C_Evidence C_Good C_Cheapest C_BadDay C_BadChoices : Addr}
end
end Sl

set_option Elab.async false
set_option linter.all false
set_option maxRecDepth 100000
set_option maxHeartbeats 4000000
set_option exponentiation.threshold 9000
namespace Sl
open PySem L2 C8 StX Silt
local macro_rules | `(tactic| walk_at "side") => `(tactic| first
  | exact cdivw (by omega) (by omega)
  | exact cmulw (by omega) (by omega) (by omega) (by omega)
  | exact Or.inr ⟨by omega, by omega⟩
  | exact Or.inl ⟨by omega, by omega⟩
  | omega
  | exact ⟨by omega, by omega, by decide⟩
  | decide)
local macro_rules | `(tactic| walk_at "rd1") => `(tactic| first
  | with_reducible refine rd_seq ?_
  | with_reducible refine rd_asg ?_
  | with_reducible refine rd_drop ?_
  | with_reducible refine rd_ret ?_
  | with_reducible refine rd_retN ?_
  | with_reducible refine rd_ifS ?_
  | ((with_reducible refine rd_var0 ?_); refine ⟨_, rfl, ?_⟩)
  | with_reducible refine rd_c ?_
  | with_reducible refine rd_op ?_
  | with_reducible refine rd_un ?_
  | with_reducible refine rd_I0 ?_
  | with_reducible refine rd_U ?_
  | ((with_reducible refine rd_I ?c ?_); (case c => walk_at "side"))
  | with_reducible refine rd_ipI ?_
  | with_reducible refine rd_eqI ?_
  | with_reducible refine rd_neI ?_
  | with_reducible refine rd_test ?_
  | with_reducible refine rd_tB ?_
  | with_reducible refine rd_bl ?_
  | with_reducible refine rd_not ?_
  | with_reducible refine rd_and ?_
  | with_reducible refine rd_or ?_
  | with_reducible refine rd_andV ?_
  | with_reducible refine rd_orV ?_
  | with_reducible refine rd_notV ?_
  | with_reducible refine rd_ifE ?_
  | with_reducible refine rd_chain ?_
  | with_reducible refine rd_chain3 ?_
  | with_reducible refine rd_nil ?_
  | with_reducible refine rd_cons ?_
  | with_reducible refine rd_call ?_
  | with_reducible refine rd_CB ?_
  | with_reducible refine rd_par ?_
  | with_reducible refine rd_par2 ?_
  | with_reducible refine rd_par3 ?_
  | with_reducible refine rd_par4 ?_
  | ((with_reducible refine rd_aug0 ?_); refine ⟨_, rfl, ?_⟩)
  | with_reducible refine rd_gname ?_
  | with_reducible refine rd_gcons ?_
  | with_reducible refine rd_gnil ?_
  | with_reducible refine rd_max ?_
  | with_reducible refine rd_min ?_
  | with_reducible refine rd_int1 ?_
  | with_reducible refine rd_abs ?_
  | with_reducible refine rd_lst ?_
  | with_reducible refine rd_tup ?_
  | with_reducible refine rd_bm ?_
  | with_reducible refine rd_fld0 ?_
  | with_reducible refine rd_sl0 ?_
  | with_reducible refine rd_noP ?_
  | with_reducible refine rd_part ?_
  | with_reducible refine rd_part2 ?_
  | with_reducible refine rd_meth0 ?_
  | with_reducible refine rd_star ?_
  | with_reducible refine rd_for ?_
  | with_reducible refine rd_rng1 ?_
  | with_reducible refine rd_rng2 ?_
  | with_reducible refine rd_rng3 ?_
  | with_reducible refine rd_iList ?_
  | with_reducible refine rd_iTup ?_
  | with_reducible refine rd_iEnum ?_
  | with_reducible refine rd_lc ?_
  | with_reducible refine rd_yes ?_
  | with_reducible refine rd_augS ?_
  | with_reducible refine rd_drawNew ?_
  | with_reducible refine rd_make0 ?_
  | with_reducible refine rd_next ?_
  | with_reducible refine rd_break ?_
  | with_reducible refine rd_cont ?_
  | with_reducible refine rd_iteTT ?_
  | with_reducible refine rd_iteFF ?_
  | with_reducible refine rd_iteNTT ?_
  | with_reducible refine rd_iteNFF ?_
  | with_reducible refine rd_con0 ?_
  | with_reducible refine rd_truO0 ?_
  | with_reducible refine rd_gfld0 ?_
  | with_reducible refine rd_dc ?_
  | with_reducible refine rd_iKeys ?_
  | with_reducible refine rd_dget0 ?_
  | with_reducible refine rd_dput0 ?_
  | with_reducible refine rd_dnot0 ?_
  | with_reducible refine rd_iEnumT ?_
  | with_reducible refine rd_raP0 ?_
  | with_reducible refine rd_xf0 ?_
  | with_reducible refine rd_asgG ?_)
local macro_rules | `(tactic| walk_at "rd") => `(tactic| repeat walk_at "rd1")
local macro_rules | `(tactic| walk_at "len") => `(tactic| first
  | (intro vs H Q E h; obtain ⟨h2, _⟩ := h; rw [h2]; rfl)
  | (intro vs H Q E h; obtain ⟨_, h2, _⟩ := h; rw [h2]; rfl)
  | (intro vs H Q E h; obtain ⟨_, _, h2, _⟩ := h; rw [h2]; rfl)
  | (intro vs H Q E h; obtain ⟨_, _, _, h2, _⟩ := h; rw [h2]; rfl)
  | (intro vs H Q E h; obtain ⟨_, _, _, _, h2, _⟩ := h; rw [h2]; rfl)
  | (intro vs H Q E h; obtain ⟨_, _, _, _, _, h2, _⟩ := h; rw [h2]; rfl)
  | (intro vs H Q E h; obtain ⟨_, _, _, _, _, _, h2, _⟩ := h; rw [h2]; rfl)
  | (intro vs H Q E h; obtain ⟨_, _, _, _, _, _, _, h2, _⟩ := h; rw [h2]; rfl)
  | (intro vs H Q E h; obtain ⟨_, _, _, _, _, _, _, _, h2, _⟩ := h; rw [h2]; rfl)
  | (intro vs H Q E h; obtain ⟨_, _, _, _, _, _, _, _, _, h2, _⟩ := h; rw [h2]; rfl)
  | (intro vs H Q E h; obtain ⟨_, _, _, _, _, _, _, _, _, _, h2, _⟩ := h; rw [h2]; rfl)
  | (intro vs H Q E h; obtain ⟨_, _, _, _, _, _, _, _, _, _, _, h2, _⟩ := h; rw [h2]; rfl)
  | (intro vs H Q E h; obtain ⟨_, _, _, _, _, _, _, _, _, _, _, _, h2, _⟩ := h; rw [h2]; rfl))
/-- a value that is no whole number -/
def NoInt (v : V) : Prop := (∃ b, v = .bl b) ∨ v = .non
section
variable {H : Hp} {Q : VK} {K : PySem.W.Frag}
theorem rd_isiBi {b : Bool} (h : Q (.bl true) H) : rIsi K [.bl b, .ty "int"] H Q := ⟨_, _, _, _, true, rfl, .ty _, .base (.bl b), kit_ty (by decide +kernel), h⟩
theorem rd_isiBb {b : Bool} (h : Q (.bl true) H) : rIsi K [.bl b, .ty "bool"] H Q := ⟨_, _, _, _, true, rfl, .ty _, .base (.bl b), kit_ty (by decide +kernel), h⟩
theorem rd_isiNi (h : Q (.bl false) H) : rIsi K [.non, .ty "int"] H Q := ⟨_, _, _, _, false, rfl, .ty _, .base .non, kit_ty (by decide +kernel), h⟩
end
def spNotWhole : Sp := fun vs H Q _ => ∃ v, vs = [v] ∧ NoInt v ∧ Q (.bl false) H
def spAnyWhole : Sp := fun vs H Q _ => ∃ v, vs = [v] ∧ ((∃ i, v = .int i) ∧ Q (.bl true) H ∨ NoInt v ∧ Q (.bl false) H)
def BadN (v : V) (j : Int) : Prop := NoInt v ∨ ∃ i, v = .int i ∧ i < j
def spChkNX (C : Addr) : Sp := fun vs H Q E => ∃ v j, vs = [v, .int j] ∧ ((∃ i, v = .int i ∧ j ≤ i ∧ Q .non H) ∨ (BadN v j ∧ E (.ref C) none H))
/-- a call of place that is refused -/
def spPlaceX (CR C : Addr) : Sp := fun vs H _ E => ∃ (a : Addr) (p : Pr) (v1 v2 : V), vs = [.ref a, v1, v2] ∧ RuleP CR H a p ∧ E (.ref C) none H ∧ (BadN v1 1 ∨ ∃ i, v1 = .int i ∧ 1 ≤ i ∧ (BadN v2 0 ∨ ∃ j, v2 = .int j ∧ 0 ≤ j ∧ j < i))
section
variable {P : Program} {w : World} {K : PySem.W.Frag} {mg : Str → Option Value} {base : Heap} {C_Rule C_Evidence C_Good C_Cheapest C_BadDay C_BadChoices : Addr}
theorem cal_is_whole_any (T : TX P K mg C_Rule C_Evidence C_Good C_Cheapest C_BadDay C_BadChoices) : Cal P w K mg base 1 "is_whole" spAnyWhole [] := by
  obtain ⟨f0, fd, D, dn⟩ := T.d_is_whole
  refine cal0 D (D.fn.binds dn fun _ _ _ _ _ _ us hl => match us, hl with | [_], _ => rfl) .nil sc_is_whole (by walk_at "len") (fun cdv A outer s H vs Q E hr h => ?_)
  obtain ⟨v, rfl, h⟩ := h
  rcases h with ⟨⟨i, rfl⟩, k⟩ | ⟨⟨b, rfl⟩ | rfl, k⟩
  · refine ⟨_, (pss_one (ps_ret (pe_and (pe_callB call_isi (by rfl) T.b_isinstance (by decide +kernel) (pa_cons (pv 0) (pa_cons (pe_bltn (v := .ty "int") (u := .type "int") rfl T.b_int (by decide +kernel) rfl) pa_nil))) (pe_one (pe_not (pe_callB call_isi (by rfl) T.b_isinstance (by decide +kernel) (pa_cons (pv 0) (pa_cons (pe_bltn (v := .ty "bool") (u := .type "bool") rfl T.b_bool (by decide +kernel) rfl) pa_nil)))))))), ?_⟩
    walk_at "rd"
    refine rd_isiI ?_
    walk_at "rd"
    refine rd_isiIB ?_
    walk_at "rd"
    exact k
  · refine ⟨_, (pss_one (ps_ret (pe_and (pe_callB call_isi (by rfl) T.b_isinstance (by decide +kernel) (pa_cons (pv 0) (pa_cons (pe_bltn (v := .ty "int") (u := .type "int") rfl T.b_int (by decide +kernel) rfl) pa_nil))) (pe_one (pe_not (pe_callB call_isi (by rfl) T.b_isinstance (by decide +kernel) (pa_cons (pv 0) (pa_cons (pe_bltn (v := .ty "bool") (u := .type "bool") rfl T.b_bool (by decide +kernel) rfl) pa_nil)))))))), ?_⟩
    walk_at "rd"
    refine rd_isiBi ?_
    walk_at "rd"
    refine rd_isiBb ?_
    walk_at "rd"
    exact k
  · refine ⟨_, (pss_one (ps_ret (pe_and (pe_callB call_isi (by rfl) T.b_isinstance (by decide +kernel) (pa_cons (pv 0) (pa_cons (pe_bltn (v := .ty "int") (u := .type "int") rfl T.b_int (by decide +kernel) rfl) pa_nil))) (pe_one (pe_not (pe_callB call_isi (by rfl) T.b_isinstance (by decide +kernel) (pa_cons (pv 0) (pa_cons (pe_bltn (v := .ty "bool") (u := .type "bool") rfl T.b_bool (by decide +kernel) rfl) pa_nil)))))))), ?_⟩
    walk_at "rd"
    refine rd_isiNi ?_
    walk_at "rd"
    exact k
theorem xal2_check_number (T : TX P K mg C_Rule C_Evidence C_Good C_Cheapest C_BadDay C_BadChoices) : ∃ f fd, C8.Def K mg "check_number" s_check_number f fd ∧ (∃ ds, Vals [] ds ∧ Binds K fd P_check_number ds) ∧ (∃ ds, Vals [.int 0] ds ∧ Binds K fd P_check_number ds) ∧ FnOk P w K mg base (L2.CX P w) 2 f fd P_check_number (spChkNX C_BadDay) := by
  obtain ⟨f0, fd, D, b0, b1⟩ := T.d_check_number
  have G_is_whole := cal_is_whole_any (P := P) (w := w) (base := base) T
  refine ⟨f0, fd, D, b0, b1, fnX D.fn sc_check_number (by walk_at "len") (fun cdv A outer s H vs Q E hr h => ?_)⟩
  obtain ⟨v, j, rfl, h⟩ := h
  refine ⟨_, (pss_one (ps_if (PW.pt (pw_or (pt_not (pt_val (pe_c G_is_whole hr (by decide) rfl (pa_cons (pv 0) pa_nil)))) (pw_or1 (pt_cmpR op_lt (pv 0) (pv 1) (nomark _))))) (pss_one (ps_raiseO rfl (takes_of rfl rfl rfl rfl) T.x_BadDay T.mg_BadDay rfl)) pss_nil)), ?_⟩
  walk_at "rd"
  rcases h with ⟨i, rfl, hi, k⟩ | ⟨hb | ⟨i, rfl, hi⟩, k⟩
  · refine ⟨_, rfl, .inl ⟨⟨i, rfl⟩, ?_⟩⟩
    walk_at "rd"
    refine rd_iteF (by omega) ?_
    walk_at "rd"
    exact k
  · refine ⟨_, rfl, .inr ⟨hb, ?_⟩⟩
    walk_at "rd"
    exact rd_raise k
  · refine ⟨_, rfl, .inl ⟨⟨i, rfl⟩, ?_⟩⟩
    walk_at "rd"
    refine rd_iteT (by omega) ?_
    exact rd_raise k
end
section
variable {P : Program} {w : World} {K : PySem.W.Frag} {mg : Str → Option Value} {base : Heap} {C_Rule C_Evidence C_Good C_Cheapest C_BadDay C_BadChoices : Addr}
theorem xal_check_number (T : TX P K mg C_Rule C_Evidence C_Good C_Cheapest C_BadDay C_BadChoices) : CalX P w K mg base 2 "check_number" (spChkNX C_BadDay) [.int 0] := by
  obtain ⟨f, fd, D, _, ⟨ds, v, b⟩, F⟩ := xal2_check_number (P := P) (w := w) (base := base) T
  exact ⟨f, fd, _, ds, F, D.mgf, D.kp, b, v⟩
theorem xal_check_number_2 (T : TX P K mg C_Rule C_Evidence C_Good C_Cheapest C_BadDay C_BadChoices) : CalX P w K mg base 2 "check_number" (spChkNX C_BadDay) [] := by
  obtain ⟨f, fd, D, ⟨ds, v, b⟩, _, F⟩ := xal2_check_number (P := P) (w := w) (base := base) T
  exact ⟨f, fd, _, ds, F, D.mgf, D.kp, b, v⟩
end
end Sl

set_option Elab.async false
set_option linter.all false
set_option maxRecDepth 100000
set_option maxHeartbeats 8000000
set_option exponentiation.threshold 9000
namespace Sl
open PySem L2 C8 StX Silt
local macro_rules | `(tactic| walk_at "side") => `(tactic| first
  | exact cdivw (by omega) (by omega)
  | exact cmulw (by omega) (by omega) (by omega) (by omega)
  | exact Or.inr ⟨by omega, by omega⟩
  | exact Or.inl ⟨by omega, by omega⟩
  | omega
  | exact ⟨by omega, by omega, by decide⟩
  | decide)
local macro_rules | `(tactic| walk_at "rd1") => `(tactic| first
  | with_reducible refine rd_seq ?_
  | with_reducible refine rd_asg ?_
  | with_reducible refine rd_drop ?_
  | with_reducible refine rd_ret ?_
  | with_reducible refine rd_retN ?_
  | with_reducible refine rd_ifS ?_
  | ((with_reducible refine rd_var0 ?_); refine ⟨_, rfl, ?_⟩)
  | with_reducible refine rd_c ?_
  | with_reducible refine rd_op ?_
  | with_reducible refine rd_un ?_
  | with_reducible refine rd_I0 ?_
  | with_reducible refine rd_U ?_
  | ((with_reducible refine rd_I ?c ?_); (case c => walk_at "side"))
  | with_reducible refine rd_ipI ?_
  | with_reducible refine rd_eqI ?_
  | with_reducible refine rd_neI ?_
  | with_reducible refine rd_test ?_
  | with_reducible refine rd_tB ?_
  | with_reducible refine rd_bl ?_
  | with_reducible refine rd_not ?_
  | with_reducible refine rd_and ?_
  | with_reducible refine rd_or ?_
  | with_reducible refine rd_andV ?_
  | with_reducible refine rd_orV ?_
  | with_reducible refine rd_notV ?_
  | with_reducible refine rd_ifE ?_
  | with_reducible refine rd_chain ?_
  | with_reducible refine rd_chain3 ?_
  | with_reducible refine rd_nil ?_
  | with_reducible refine rd_cons ?_
  | with_reducible refine rd_call ?_
  | with_reducible refine rd_CB ?_
  | with_reducible refine rd_par ?_
  | with_reducible refine rd_par2 ?_
  | with_reducible refine rd_par3 ?_
  | with_reducible refine rd_par4 ?_
  | ((with_reducible refine rd_aug0 ?_); refine ⟨_, rfl, ?_⟩)
  | with_reducible refine rd_gname ?_
  | with_reducible refine rd_gcons ?_
  | with_reducible refine rd_gnil ?_
  | with_reducible refine rd_max ?_
  | with_reducible refine rd_min ?_
  | with_reducible refine rd_int1 ?_
  | with_reducible refine rd_abs ?_
  | with_reducible refine rd_lst ?_
  | with_reducible refine rd_tup ?_
  | with_reducible refine rd_bm ?_
  | with_reducible refine rd_fld0 ?_
  | with_reducible refine rd_sl0 ?_
  | with_reducible refine rd_noP ?_
  | with_reducible refine rd_part ?_
  | with_reducible refine rd_part2 ?_
  | with_reducible refine rd_meth0 ?_
  | with_reducible refine rd_star ?_
  | with_reducible refine rd_for ?_
  | with_reducible refine rd_rng1 ?_
  | with_reducible refine rd_rng2 ?_
  | with_reducible refine rd_rng3 ?_
  | with_reducible refine rd_iList ?_
  | with_reducible refine rd_iTup ?_
  | with_reducible refine rd_iEnum ?_
  | with_reducible refine rd_lc ?_
  | with_reducible refine rd_yes ?_
  | with_reducible refine rd_augS ?_
  | with_reducible refine rd_drawNew ?_
  | with_reducible refine rd_make0 ?_
  | with_reducible refine rd_next ?_
  | with_reducible refine rd_break ?_
  | with_reducible refine rd_cont ?_
  | with_reducible refine rd_iteTT ?_
  | with_reducible refine rd_iteFF ?_
  | with_reducible refine rd_iteNTT ?_
  | with_reducible refine rd_iteNFF ?_
  | with_reducible refine rd_con0 ?_
  | with_reducible refine rd_truO0 ?_
  | with_reducible refine rd_gfld0 ?_
  | with_reducible refine rd_dc ?_
  | with_reducible refine rd_iKeys ?_
  | with_reducible refine rd_dget0 ?_
  | with_reducible refine rd_dput0 ?_
  | with_reducible refine rd_dnot0 ?_
  | with_reducible refine rd_iEnumT ?_
  | with_reducible refine rd_raP0 ?_
  | with_reducible refine rd_xf0 ?_
  | with_reducible refine rd_asgG ?_)
local macro_rules | `(tactic| walk_at "rd") => `(tactic| repeat walk_at "rd1")
local macro_rules | `(tactic| walk_at "len") => `(tactic| first
  | (intro vs H Q E h; obtain ⟨h2, _⟩ := h; rw [h2]; rfl)
  | (intro vs H Q E h; obtain ⟨_, h2, _⟩ := h; rw [h2]; rfl)
  | (intro vs H Q E h; obtain ⟨_, _, h2, _⟩ := h; rw [h2]; rfl)
  | (intro vs H Q E h; obtain ⟨_, _, _, h2, _⟩ := h; rw [h2]; rfl)
  | (intro vs H Q E h; obtain ⟨_, _, _, _, h2, _⟩ := h; rw [h2]; rfl)
  | (intro vs H Q E h; obtain ⟨_, _, _, _, _, h2, _⟩ := h; rw [h2]; rfl)
  | (intro vs H Q E h; obtain ⟨_, _, _, _, _, _, h2, _⟩ := h; rw [h2]; rfl)
  | (intro vs H Q E h; obtain ⟨_, _, _, _, _, _, _, h2, _⟩ := h; rw [h2]; rfl)
  | (intro vs H Q E h; obtain ⟨_, _, _, _, _, _, _, _, h2, _⟩ := h; rw [h2]; rfl)
  | (intro vs H Q E h; obtain ⟨_, _, _, _, _, _, _, _, _, h2, _⟩ := h; rw [h2]; rfl)
  | (intro vs H Q E h; obtain ⟨_, _, _, _, _, _, _, _, _, _, h2, _⟩ := h; rw [h2]; rfl)
  | (intro vs H Q E h; obtain ⟨_, _, _, _, _, _, _, _, _, _, _, h2, _⟩ := h; rw [h2]; rfl)
  | (intro vs H Q E h; obtain ⟨_, _, _, _, _, _, _, _, _, _, _, _, h2, _⟩ := h; rw [h2]; rfl))
theorem cut_drop {xs : List V} {m : Nat} : cutV xs (some (m : Int)) none = xs.drop m := by
  unfold cutV
  rw [HT.sIx_none, HT.sIx_nat]
  by_cases c : m ≤ xs.length
  · rw [Nat.min_eq_left c, List.take_of_length_le (by rw [List.length_drop]; omega)]
  · rw [Nat.min_eq_right (by omega), List.drop_of_length_le (Nat.le_refl _), List.drop_of_length_le (by omega)]
    simp
theorem Dn.tri_inv {H : Hp} {v : V} {q : Int × Int × Int} (h : Dn H v (triD q)) : ∃ t, v = .ref t ∧ H t = some (.tup [.int q.1, .int q.2.1, .int q.2.2]) := Dt.tri_inv h.dt
theorem DnAll.getV {H : Hp} : ∀ {vs : List V} {ds : List PyData} {i : Nat} {v : V}, DnAll H vs ds → vs[i]? = some v → ∃ d, ds[i]? = some d ∧ Dn H v d
  | _, _, _, _, .nil, h => by simp at h
  | _, _, 0, _, .cons h _, e => by simp at e; subst e; exact ⟨_, rfl, h⟩
  | _, _, i + 1, _, .cons _ t, e => by
    obtain ⟨v, h1, h2⟩ := DnAll.getV (i := i) t (by simpa using e)
    exact ⟨v, by simpa using h1, h2⟩
/-- a list of rows -/
def RowsP (H : Hp) (r : Addr) (rows : List Rw) : Prop := ∃ ys, H r = some (.lst ys) ∧ DnAll H ys (rows.map triD)
theorem RowsP.mono {H H' : Hp} {r : Addr} {rows : List Rw} (s : Same H H') (h : RowsP H r rows) : RowsP H' r rows := by
  obtain ⟨ys, e, d⟩ := h
  exact ⟨ys, s _ _ e, d.mono s⟩
theorem RowsP.upd {H : Hp} {r F : Addr} {rows : List Rw} {xs ys : List V} (h : RowsP H r rows) (e : H F = some (.lst xs)) (n : r ≠ F) : RowsP (upd H F (.lst ys)) r rows := by
  obtain ⟨zs, e1, d⟩ := h
  exact ⟨zs, by rw [upd_ne n]; exact e1, d.updL e⟩
/-- what a day of the play is -/
def TurnP (H : Hp) (v : V) (p : Pr) (d : Int) (F : Addr) : Prop := ∃ t r g, v = .ref t ∧ H t = some (.tup [.ref r, .ref g]) ∧ RowsP H r (layersL p d) ∧ H g = some (.lst ((bakedL p d).map V.int)) ∧ r ≠ F ∧ g ≠ F
theorem TurnP.mono {H H' : Hp} {v : V} {p : Pr} {d : Int} {F : Addr} (s : Same H H') (h : TurnP H v p d F) : TurnP H' v p d F := by
  obtain ⟨t, r, g, e, h1, h2, h3, h4⟩ := h
  exact ⟨t, r, g, e, s _ _ h1, h2.mono s, s _ _ h3, h4⟩
theorem TurnP.upd {H : Hp} {v : V} {p : Pr} {d : Int} {F : Addr} {xs ys : List V} (h : TurnP H v p d F) (e : H F = some (.lst xs)) : TurnP (upd H F (.lst ys)) v p d F := by
  obtain ⟨t, r, g, ev, h1, h2, h3, h4, h5⟩ := h
  refine ⟨t, r, g, ev, ?_, h2.upd e h4, ?_, h4, h5⟩
  · rw [upd_ne (fun z => by rw [z, e] at h1; cases h1)]; exact h1
  · rw [upd_ne h5]; exact h3
/-- the play of the days 0 .. n-1 -/
def PlayP (H : Hp) (F : Addr) (p : Pr) (n : Nat) : Prop := ∃ vs, H F = some (.lst vs) ∧ vs.length = n ∧ ∀ (i : Nat) v, vs[i]? = some v → TurnP H v p i F
theorem PlayP.mono {H H' : Hp} {F : Addr} {p : Pr} {n : Nat} (s : Same H H') (h : PlayP H F p n) : PlayP H' F p n := by
  obtain ⟨vs, e, l, k⟩ := h
  exact ⟨vs, s _ _ e, l, fun i v hv => (k i v hv).mono s⟩
def spLSize : Sp := fun vs H Q _ => ∃ (a : Addr) (f q : List (Int × Int)) (g : Int), vs = [.ref a, .int g] ∧ ToldP H a f q ∧ OkT f q ∧ Gr g ∧ Q (.int (size (atp f q) g.toNat)) H
def spFallen : Sp := fun vs H Q _ => ∃ (a r : Addr) (f q : List (Int × Int)) (d : Int), vs = [.ref a, .ref r, .int (d + 1)] ∧ ToldP H a f q ∧ OkT f q ∧ RowsP H r (layersL (atp f q) d) ∧ 0 ≤ d ∧ d ≤ 1000 ∧
  ∀ H' t r' g', Same H H' → H r' = none → H g' = none → H' t = some (.tup [.ref r', .ref g']) → RowsP H' r' (layersL (atp f q) (d + 1)) → H' g' = some (.lst ((bakedL (atp f q) (d + 1)).map V.int)) → Q (.ref t) H'
def spPlayed : Sp := fun vs H Q _ => ∃ (a : Addr) (f q : List (Int × Int)) (n : Int), vs = [.ref a, .int n] ∧ ToldP H a f q ∧ OkT f q ∧ 0 ≤ n ∧ n ≤ 1000 ∧ ∀ H' F, Same H H' → H F = none → PlayP H' F (atp f q) (n + 1).toNat → Q (.ref F) H'
def spWhere : Sp := fun vs H Q _ => ∃ (r : Addr) (rows : List Rw) (d : Int), vs = [.ref r, .int d] ∧ RowsP H r rows ∧ ∀ H', Same H H' → (whereL rows d = none → Q .non H') ∧ ∀ t g i, whereL rows d = some (g, i) → H' t = some (.tup [.int g, .int i]) → Q (.ref t) H'
def spLoads : Sp := fun vs H Q _ => ∃ (a F : Addr) (f q : List (Int × Int)) (n : Nat), vs = [.ref a, .ref F] ∧ ToldP H a f q ∧ OkT f q ∧ PlayP H F (atp f q) n ∧ n ≤ 1001 ∧ ∀ H' L, Same H H' → H' L = some (.lst ((List.range n).map fun (i : Nat) => V.int (load (atp f q) i))) → Q (.ref L) H'
theorem OkT.good {f q : List (Int × Int)} (h : OkT f q) : Good (atp f q) := good_of h.ne h.okf h.okq
theorem atI_0 {α : Type} {x : α} {xs : List α} : atI (x :: xs) 0 = some x := atI_nat' (i := 0) rfl
section
variable {P : Program} {w : World} {K : PySem.W.Frag} {mg : Str → Option Value} {base : Heap} {C_Rule C_Evidence C_Good C_Cheapest C_BadDay C_BadChoices : Addr}
theorem cal__law_size (T : TX P K mg C_Rule C_Evidence C_Good C_Cheapest C_BadDay C_BadChoices) : Cal P w K mg base 2 "_law_size" spLSize [] := by
  obtain ⟨f0, fd, D, dn⟩ := T.d__law_size
  have G__law_at := cal__law_at (P := P) (w := w) (base := base) T
  refine cal0 D (D.fn.binds dn fun _ _ _ _ _ _ us hl => match us, hl with | [_, _], _ => rfl) .nil sc__law_size (by walk_at "len") (fun cdv A outer s H vs Q E hr h => ?_)
  obtain ⟨a, f, q, g, rfl, tp, ok, ⟨g0, g1⟩, k⟩ := h
  have gd := ok.good
  refine ⟨_, (pss_cons (ps_s 2 sc__law_size.nd pe_int)
      (pss_cons (ps_for PassesOwn.never rfl (pi_range1 rfl T.b_range (pa_cons (pv 1) pa_nil)) (pg_n 3 sc__law_size.nd) (pss_one (ps_au 2 sc__law_size.nd (pe_ix ix_tup (pe_c G__law_at hr (by decide) rfl (pa_cons (pv 0) (pa_cons (pv 3) pa_nil))) pe_int (fun _ _ => rfl)) iop_mul)))
      (pss_one (ps_ret (pv 2))))), ?_⟩
  walk_at "rd"
  refine rd_rgR1 (by omega) (by omega) ?_
  refine forR_rng (fun i σ H' => ∃ v, H' = H ∧ σ = [some (.ref a), some (.int g), some (.int (size (atp f q) i)), v]) ⟨none, rfl, rfl⟩ ?_ ?_
  · rintro i σ H' hi ⟨v, rfl, rfl⟩
    walk_at "rd"
    have ei : (0 + (i : Int)).toNat = i := by omega
    refine ⟨a, f, q, _, rfl, tp, ok.ne, by omega, fun t et => ?_⟩
    rw [ei] at et
    have b1 := gd.lo i
    have b2 := gd.le i
    have b3 := gd.hi i
    walk_at "rd"
    refine rd_ixT et (by rfl) ?_
    walk_at "rd"
    exact ⟨_, rfl, rfl⟩
  · rintro σ H' ⟨v, rfl, rfl⟩
    walk_at "rd"
    exact k
theorem cal__law_fallen (T : TX P K mg C_Rule C_Evidence C_Good C_Cheapest C_BadDay C_BadChoices) : Cal P w K mg base 2 "_law_fallen" spFallen [] := by
  obtain ⟨f0, fd, D, dn⟩ := T.d__law_fallen
  have G__law_at := cal__law_at (P := P) (w := w) (base := base) T
  refine cal0 D (D.fn.binds dn fun _ _ _ _ _ _ us hl => match us, hl with | [_, _, _], _ => rfl) .nil sc__law_fallen (by walk_at "len") (fun cdv A outer s H vs Q E hr h => ?_)
  obtain ⟨a, r, f, q, d, rfl, tp, ok, ⟨ys0, er, dr⟩, d0, d1, k⟩ := h
  have gd := ok.good
  generalize hp : atp f q = p at *
  have b7 := bb_pos
  have hv := valid_digits gd d0
  have hdl := digits_len gd 10 d d0 (by omega)
  have hl0 : ys0.length ≤ 1300 := by
    rw [dr.length, List.length_map]
    have := LY_len p 0 (digits p d) fun x hx => (valid_le gd hv x hx).2
    unfold layersL
    omega
  refine ⟨_, (pss_cut (ps_par (i := 1) (j := 3) rfl sc__law_fallen.nd rfl rfl (by decide) rfl rfl (pa_cons (pe_op op_cat (pv 1) (pe_lst (pa_cons (pe_tup (pa_cons (pv 2) (pa_cons (pv 2) (pa_cons pe_int pa_nil)))) pa_nil))) (pa_cons (pe_lst pa_nil) pa_nil)) (by rfl))
      (pss_cons (ps_for PassesOwn.never rfl (pi_range1 rfl T.b_range (pa_cons pe_int pa_nil)) (pg_n 4 sc__law_fallen.nd) (pss_cons (ps_asg (pe_c G__law_at hr (by decide) rfl (pa_cons (pv 0) (pa_cons (pv 4) pa_nil))) (pg_tup rfl (pgs_cons (pg_n 5 sc__law_fallen.nd) (pgs_cons (pg_n 6 sc__law_fallen.nd) pgs_nil))))
      (pss_cons (ps_setLc (i := 7) (own := [("_law_at_here", 8), ("_law_row", 9)]) (g := gTup _ 2 (gCons (gName 8) (gCons (gName 9) gNil))) (tt := _) rfl sc__law_fallen.nd rfl rfl (sw_true rfl rfl rfl (by decide +kernel)) (pi_enum (by rfl) T.b_enumerate (pa_cons (pv 1) pa_nil)) (blkOk_by (own := [("_law_at_here", 8), ("_law_row", 9)]) (N := N__law_fallen) (sc := fnScope s__law_fallen) (by decide +kernel)) (fun _ _ _ _ _ => (pg_tup rfl (pgs_cons (pg_n 8 sc__law_fallen.nd) (pgs_cons (pg_n 9 sc__law_fallen.nd) pgs_nil)))) (fun _ _ _ _ _ => (pts_one (pt_cmpR op_eq (pe_ix (ixK rIxT K ix_tup) (pv 9) pe_int (fun _ _ => rfl)) (pv 4) (nomark _)))) (fun _ _ _ _ _ => (pv 8)))
      (pss_cons (ps_if (pt_cmpR op_lt (pe_callB cr_lenS (by rfl) T.b_len (by decide +kernel) (pa_cons (pv 7) pa_nil)) (pv 5) (nomark _)) (pss_one (ps_ret (pe_tup (pa_cons (pv 1) (pa_cons (pv 3) pa_nil))))) pss_nil)
      (pss_cons (ps_par (i := 10) (j := 11) rfl sc__law_fallen.nd rfl rfl (by decide) rfl rfl (pa_cons (pe_ix ix_list (pv 7) pe_int (fun _ _ => rfl)) (pa_cons (pe_ix ix_list (pv 7) (pe_op op_sub (pv 6) pe_int) (fun _ _ => rfl)) pa_nil)) (by rfl))
      (pss_cons (ps_s 1 sc__law_fallen.nd (pe_op op_cat (pe_op op_cat (pe_slice sl_list (pv 1) po_none (po_some (pv 10))) (pe_lst (pa_cons (pe_tup (pa_cons (pe_ix ix_tup (pe_ix ix_list (pv 1) (pv 10) (fun _ _ => rfl)) pe_int (fun _ _ => rfl)) (pa_cons (pe_ix ix_tup (pe_ix ix_list (pv 1) (pv 11) (fun _ _ => rfl)) pe_int (fun _ _ => rfl)) (pa_cons (pe_op op_add (pv 4) pe_int) pa_nil)))) pa_nil))) (pe_slice sl_list (pv 1) (po_some (pe_op op_add (pv 11) pe_int)) po_none)))
      (pss_one (ps_expr (pe_bm PySem.F.plainAttrs_list PySem.F.slot_list_append PySem.F.type_list_append mt_append (pv 3) (pa_cons (pv 4) pa_nil))))))))))
      (pss_one (ps_ret (pe_tup (pa_cons (pv 1) (pa_cons (pv 3) pa_nil))))))), ?_⟩
  refine ⟨fun σ H' => ∃ (R G : Addr) (ys : List V) (v4 v5 v6 v7 v8 v9 v10 v11 : Option V), Same H H' ∧ H R = none ∧ H G = none ∧ R ≠ G ∧ H' R = some (.lst ys) ∧ ys.length ≤ 1301 ∧ DnAll H' ys ((LY p 0 (bump (digits p d))).1.map triD) ∧ H' G = some (.lst []) ∧
    σ = [some (.ref a), some (.ref R), some (.int (d + 1)), some (.ref G), v4, v5, v6, v7, v8, v9, v10, v11], ?_, ?_⟩
  · walk_at "rd"
    refine rd_newT (by simp) fun t1 H1 _ s1 et1 _ => ?_
    walk_at "rd"
    refine rd_newL (by simp) fun t2 H2 _ s2 et2 _ => ?_
    walk_at "rd"
    have s12 := s1.trans s2
    refine rd_cat (s12 _ _ er) et2 (by simp; omega) fun R H3 hR s3 eR _ => ?_
    walk_at "rd"
    refine rd_newL (by simp) fun G H4 hG s4 eG _ => ?_
    walk_at "rd"
    have s14 := (s12.trans s3).trans s4
    have hRG : R ≠ G := fun z => by rw [z] at eR; rw [eR] at hG; cases hG
    have hR0 : H R = none := by
      cases z : H R with
      | none => rfl
      | some o => rw [s12 _ _ z] at hR; cases hR
    have hG0 : H G = none := by
      cases z : H G with
      | none => rfl
      | some o => rw [(s12.trans s3) _ _ z] at hG; cases hG
    refine ⟨R, G, _, none, none, none, none, none, none, none, none, s14, hR0, hG0, hRG, s4 _ _ eR, by simp; omega, ?_, eG, rfl⟩
    rw [← rows_first gd d0, List.map_append]
    exact (dr.mono s14).append (.cons (.tri (((s2.trans s3).trans s4) _ _ et1)) .nil)
  · rintro σ H5 ⟨R, G, ys, v4, v5, v6, v7, v8, v9, v10, v11, s5, hR0, hG0, hRG, eR, hys, dR, eG, rfl⟩
    walk_at "rd"
    refine rd_rgR1 (by omega) (by omega) ?_
    refine forR_rng (fun i σ H' => ∃ (lo : List Int) (R : Addr) (ys : List V) (v4 v5 v6 v7 v8 v9 v10 v11 : Option V), Same H H' ∧ lo.length = i ∧ i ≤ (digits p d).length ∧ H R = none ∧ R ≠ G ∧ H' R = some (.lst ys) ∧ ys.length ≤ 1301 ∧
      DnAll H' ys ((LY p 0 (lo ++ bump ((digits p d).drop i))).1.map triD) ∧ H' G = some (.lst ((List.range i).map fun (j : Nat) => V.int j)) ∧ inc p (digits p d) = lo ++ inc (tl p i) ((digits p d).drop i) ∧
      carry p (digits p d) = (List.range i).map (fun (j : Nat) => (j : Int)) ++ (carry (tl p i) ((digits p d).drop i)).map (· + (i : Int)) ∧
      σ = [some (.ref a), some (.ref R), some (.int (d + 1)), some (.ref G), v4, v5, v6, v7, v8, v9, v10, v11]) ?_ ?_ ?_
    · refine ⟨[], R, ys, v4, v5, v6, v7, v8, v9, v10, v11, s5, rfl, by omega, hR0, hRG, eR, hys, dR, eG, by rw [tl_zero]; rfl, ?_, rfl⟩
      rw [tl_zero]
      simp
    · rintro i σ H6 hi ⟨lo, R, ys, v4, v5, v6, v7, v8, v9, v10, v11, s6, rfl, hil, hR0, hRG, eR, hys, dR, eG, ei, ec, rfl⟩
      have b1 := gd.lo lo.length
      have b2 := gd.le lo.length
      have b3 := gd.hi lo.length
      walk_at "rd"
      have ei0 : (0 + (lo.length : Int)).toNat = lo.length := by omega
      have ei1 : (0 + (lo.length : Int)) = (lo.length : Int) := by omega
      refine ⟨a, f, q, _, rfl, tp.mono s6, ok.ne, by omega, fun u eu => ?_⟩
      rw [ei0, hp] at eu
      rw [ei1]
      refine rd_gtup eu rfl ?_
      walk_at "rd"
      refine rd_enR (SqL.of eR) ?_
      have drx : ∀ (j : Nat) v, ys[j]? = some v → ∃ rw, (LY p 0 (lo ++ bump ((digits p d).drop lo.length))).1[j]? = some rw ∧ ∃ t, v = .ref t ∧ H6 t = some (.tup [.int rw.1, .int rw.2.1, .int rw.2.2]) := by
        intro j v hv
        obtain ⟨x, hx, dx⟩ := dR.getV hv
        rw [List.getElem?_map] at hx
        cases z : (LY p 0 (lo ++ bump ((digits p d).drop lo.length))).1[j]? with
        | none => rw [z] at hx; cases hx
        | some rw =>
          rw [z] at hx
          cases hx
          exact ⟨rw, rfl, dx.tri_inv⟩
      generalize hrows : (LY p 0 (lo ++ bump ((digits p d).drop lo.length))).1 = rows at *
      refine lcR_enum (xs := ys) (fun D j H' => Same H6 H' ∧ H' D = some (.lst ((pos (lo.length : Nat) 0 (rows.take j)).map V.int))) (fun D j H' _ ⟨s, _⟩ => SqL.of (s _ _ eR)) (fun D H' _ s e _ => ⟨s, e⟩) ?_ ?_
      · rintro D j v H7 t H8 hD hv ⟨s7, eD⟩ ht s8 et _
        obtain ⟨rw, hrw, t2, rfl, et2⟩ := drx j v hv
        refine rd_gtup et rfl ?_
        walk_at "rd"
        refine ⟨rfl, ?_⟩
        walk_at "rd"
        refine rd_ixT ((s7.trans s8) _ _ et2) (by rfl) ?_
        walk_at "rd"
        have hpt := pos_take (lo.length : Nat) rows j rw hrw
        have hjl : j < ys.length := (List.getElem?_eq_some_iff.mp hv).1
        refine rd_ite (fun c => ?_) (fun c => ?_)
        · walk_at "rd"
          refine rd_lcE (s8 _ _ eD) ?_ fun H9 eH9 eD9 => ?_
          · have := pos_len (lo.length : Nat) (rows.take j) 0
            rw [List.length_map]
            rw [List.length_take] at this
            omega
          · refine ⟨by rw [eH9]; exact Same.mut (s7.trans s8) hD, ?_⟩
            rw [eD9, hpt, if_pos c, List.map_append]
            rfl
        · refine ⟨s7.trans s8, ?_⟩
          rw [hpt, if_neg c, List.append_nil]
          exact s8 _ _ eD
      · rintro D H7 hD ⟨s7, eD⟩
        have hyl : ys.length = rows.length := by rw [dR.length, List.length_map]
        rw [hyl, List.take_length] at eD
        walk_at "rd"
        refine rd_lenL eD ?_
        rw [List.length_map]
        walk_at "rd"
        have s67 := s6.trans s7
        obtain ⟨y, ys0, hb, hy1⟩ : ∃ y ys0, bump ((digits p d).drop lo.length) = y :: ys0 ∧ 1 ≤ y := by
          cases z : (digits p d).drop lo.length with
          | nil => exact ⟨1, [], rfl, by omega⟩
          | cons x xs => exact ⟨x + 1, xs, rfl, by have := (valid_le gd hv x (List.mem_of_mem_drop (by rw [z]; exact List.mem_cons_self))).1; omega⟩
        have hpos := rows_pos p lo y ys0
        rw [← hb, hrows] at hpos
        rw [hpos]
        rw [hpos] at eD
        rw [List.length_map, List.length_range]
        refine rd_ite (fun c => ?_) (fun c => ?_)
        · -- no more bakes
          walk_at "rd"
          refine rd_newT (by simp) fun t H8 _ s8 et _ => ?_
          obtain ⟨q1, q2⟩ := inc_stop (p := p) (lo := lo) (xs := (digits p d).drop lo.length) (by rw [hb]; intro x hx; cases hx; omega) (by omega)
          rw [q1] at ei
          rw [q2, List.map_nil, List.append_nil] at ec
          refine k H8 t R G ((s6.trans s7).trans s8) hR0 hG0 et ?_ ?_
          · refine ⟨ys, (s7.trans s8) _ _ eR, ?_⟩
            unfold layersL
            rw [digits_succ gd d0, ei, hrows]
            exact dR.mono (s7.trans s8)
          · rw [bakedL_succ gd d0, ec, List.map_map]
            exact (s7.trans s8) _ _ eG
        · -- a bake
          obtain ⟨x, xs, hx⟩ : ∃ x xs, (digits p d).drop lo.length = x :: xs := by
            cases z : (digits p d).drop lo.length with
            | nil => rw [z] at hb; cases hb; omega
            | cons x xs => exact ⟨x, xs, rfl⟩
          have hlt : lo.length < (digits p d).length := by
            rcases Nat.lt_or_ge lo.length (digits p d).length with z | z
            · exact z
            · rw [List.drop_of_length_le z] at hx; cases hx
          have hxs : (digits p d).drop (lo.length + 1) = xs := by rw [← List.drop_drop, hx]; rfl
          have hg : (digits p d)[lo.length]? = some x := by
            have := congrArg (fun l => l[0]?) hx
            simpa using this
          have hxv := valid_get (digits p d) p lo.length x hv hg
          rw [hx] at hb
          have hb' : x + 1 = y ∧ xs = ys0 := by cases hb; exact ⟨rfl, rfl⟩
          obtain ⟨rfl, rfl⟩ := hb'
          have hw : (p lo.length).1 = x + 1 := by omega
          rw [hx] at ei ec hrows
          rw [inc_turn hw] at ei
          rw [carry_turn hw] at ec
          have hxs0 : ∀ z ∈ xs, 0 ≤ z := fun z hz => (valid_le gd hv z (List.mem_of_mem_drop (by rw [hx]; exact List.mem_cons_of_mem _ hz))).1
          obtain ⟨f1, l1, hf1, hl1, hbake⟩ := rows_bake gd lo (x + 1) xs (by omega) hxs0
          have hrows' : (LY p 0 (lo ++ (x + 1) :: xs)).1 = rows := hrows
          rw [hrows'] at hf1 hl1 hbake
          generalize hA : (LY p (lo.length + 1) xs).1.length = A at *
          walk_at "rd"
          refine rd_ixL eD (v := .int (A : Nat)) (atI_nat' (i := 0) (by rw [List.getElem?_map, List.getElem?_map, List.getElem?_range (by omega)]; rfl)) ?_
          walk_at "rd"
          have eb : (p lo.length).2 - 1 = (((p lo.length).2.toNat - 1 : Nat) : Int) := by omega
          rw [eb]
          refine rd_ixL eD (v := .int ((A + ((p lo.length).2.toNat - 1) : Nat) : Int)) (atI_nat' (by rw [List.getElem?_map, List.getElem?_map, List.getElem?_range (by omega)]; rfl)) ?_
          walk_at "rd"
          refine rd_slL (SqL.of (s7 _ _ eR)) fun p1 H8 _ s8 ep1 _ => ?_
          rw [cut_take] at ep1
          walk_at "rd"
          have eR8 := (s7.trans s8) _ _ eR
          have gv : ∀ (j : Nat) rw, rows[j]? = some rw → ∃ t, ys[j]? = some (.ref t) ∧ H6 t = some (.tup [.int rw.1, .int rw.2.1, .int rw.2.2]) := by
            intro j rw h
            have hj : j < ys.length := by rw [hyl]; exact (List.getElem?_eq_some_iff.mp h).1
            obtain ⟨rw2, h2, t, et, e2⟩ := drx j ys[j] (List.getElem?_eq_getElem hj)
            rw [h] at h2
            cases h2
            exact ⟨t, by rw [List.getElem?_eq_getElem hj, et], e2⟩
          obtain ⟨tf, htf, etf⟩ := gv _ _ hf1
          obtain ⟨tl1, htl, etl⟩ := gv _ _ hl1
          refine rd_ixL eR8 (atI_nat' htf) ?_
          walk_at "rd"
          refine rd_ixT ((s7.trans s8) _ _ etf) (by rfl) ?_
          walk_at "rd"
          refine rd_ixL eR8 (atI_nat' htl) ?_
          walk_at "rd"
          refine rd_ixT ((s7.trans s8) _ _ etl) (by rfl) ?_
          walk_at "rd"
          refine rd_newT (by simp) fun t9 H9 _ s9 et9 _ => ?_
          walk_at "rd"
          refine rd_newL (by simp) fun p2 H10 _ s10 ep2 _ => ?_
          walk_at "rd"
          refine rd_cat ((s9.trans s10) _ _ ep1) ep2 (by rw [List.length_take, List.length_singleton]; omega) fun p3 H11 _ s11 ep3 _ => ?_
          walk_at "rd"
          have s8_11 := (s9.trans s10).trans s11
          refine rd_slL (SqL.of (s8_11 _ _ eR8)) fun p4 H12 _ s12 ep4 _ => ?_
          have el : ((A + ((p lo.length).2.toNat - 1) : Nat) : Int) + 1 = ((A + ((p lo.length).2.toNat - 1) + 1 : Nat) : Int) := by omega
          rw [el, cut_drop] at ep4
          walk_at "rd"
          have hA1 : A + ((p lo.length).2.toNat - 1) < rows.length := (List.getElem?_eq_some_iff.mp hl1).1
          refine rd_cat (s12 _ _ ep3) ep4 (by rw [List.length_append, List.length_take, List.length_drop, List.length_singleton]; omega) fun R2 H13 hR2 s13 eR2 _ => ?_
          walk_at "rd"
          have sall := (((s7.trans s8).trans s8_11).trans s12)
          have eG13 := (sall.trans s13) _ _ eG
          refine rd_tyL eG13 ?_
          walk_at "rd"
          refine rd_app eG13 (by simp; omega) fun H14 eH14 eG14 => ?_
          walk_at "rd"
          have hR2G : R2 ≠ G := fun z => by rw [z] at hR2; rw [sall _ _ eG] at hR2; cases hR2
          have hR20 : H R2 = none := by
            cases z : H R2 with
            | none => rfl
            | some o => rw [(s6.trans sall) _ _ z] at hR2; cases hR2
          refine ⟨lo ++ [x + 1 - (p lo.length).2], R2, _, some (.int lo.length), some (.int (p lo.length).1), some (.int (p lo.length).2), some (.ref D), v8, v9, _, _, by rw [eH14]; exact Same.mut (s6.trans (sall.trans s13)) hG0, by simp, hlt, hR20, hR2G, by rw [eH14, upd_ne hR2G]; exact eR2, ?_, ?_, ?_, ?_, ?_, rfl⟩
          · rw [List.length_append, List.length_append, List.length_take, List.length_drop, List.length_singleton]; omega
          · rw [hxs, ← hbake, List.map_append, List.map_append, List.map_take, List.map_drop, eH14]
            have s9_13 := ((s10.trans s11).trans s12).trans s13
            exact DnAll.updL eG13 ((((dR.take A).mono (sall.trans s13)).append (.cons (.tri (s9_13 _ _ et9)) .nil)).append ((dR.drop _).mono (sall.trans s13)))
          · rw [eG14, List.range_succ, List.map_append]; rfl
          · rw [ei, hxs]
          · rw [ec, hxs, List.range_succ, List.map_append, List.append_assoc]; rfl
    · rintro σ H6 ⟨lo, R, ys, v4, v5, v6, v7, v8, v9, v10, v11, s6, hlo, hil, _⟩
      exfalso
      have : ((60 : Int) - 0).toNat = 60 := by decide
      omega
theorem cal__law_played (T : TX P K mg C_Rule C_Evidence C_Good C_Cheapest C_BadDay C_BadChoices) : Cal P w K mg base 3 "_law_played" spPlayed [] := by
  obtain ⟨f0, fd, D, dn⟩ := T.d__law_played
  have G__law_fallen := cal__law_fallen (P := P) (w := w) (base := base) T
  refine cal0 D (D.fn.binds dn fun _ _ _ _ _ _ us hl => match us, hl with | [_, _], _ => rfl) .nil sc__law_played (by walk_at "len") (fun cdv A outer s H vs Q E hr h => ?_)
  obtain ⟨a, f, q, n, rfl, tp, ok, n0, n1, k⟩ := h
  have gd := ok.good
  generalize hp : atp f q = p at *
  refine ⟨_, (pss_cons (ps_s 2 sc__law_played.nd (pe_lst (pa_cons (pe_tup (pa_cons (pe_lst pa_nil) (pa_cons (pe_lst pa_nil) pa_nil))) pa_nil)))
      (pss_cons (ps_for PassesOwn.never rfl (pi_range2 rfl T.b_range (pa_cons pe_int (pa_cons (pe_op op_add (pv 1) pe_int) pa_nil))) (pg_n 3 sc__law_played.nd) (pss_one (ps_expr (pe_bm PySem.F.plainAttrs_list PySem.F.slot_list_append PySem.F.type_list_append mt_append (pv 2) (pa_cons (pe_c G__law_fallen hr (by decide) rfl (pa_cons (pv 0) (pa_cons (pe_ix ix_tup (pe_ix ix_list (pv 2) (pe_un un_neg pe_int) (fun _ _ => rfl)) pe_int (fun _ _ => rfl)) (pa_cons (pv 3) pa_nil)))) pa_nil)))))
      (pss_one (ps_ret (pv 2))))), ?_⟩
  walk_at "rd"
  refine rd_newL (by simp) fun l1 H1 hl1 s1 e1 _ => ?_
  walk_at "rd"
  refine rd_newL (by simp) fun l2 H2 hl2 s2 e2 _ => ?_
  walk_at "rd"
  refine rd_newT (by simp) fun t H3 ht s3 et _ => ?_
  walk_at "rd"
  refine rd_newL (by simp) fun F H4 hF s4 eF _ => ?_
  walk_at "rd"
  have s14 := ((s1.trans s2).trans s3).trans s4
  have hF0 : H F = none := by
    cases z : H F with
    | none => rfl
    | some o => rw [((s1.trans s2).trans s3) _ _ z] at hF; cases hF
  have eN : ((n : Int) + 1 - 1).toNat = n.toNat := by omega
  refine rd_rgR2 (by omega) ?_
  rw [eN]
  refine forR_rng (fun i σ H' => ∃ v3, Same H H' ∧ PlayP H' F p (i + 1) ∧ σ = [some (.ref a), some (.int n), some (.ref F), v3]) ?_ ?_ ?_
  · refine ⟨none, s14, ⟨[.ref t], eF, rfl, fun i v hv => ?_⟩, rfl⟩
    match i, hv with
    | 0, hv =>
      cases hv
      refine ⟨t, l1, l2, rfl, s4 _ _ et, ⟨[], ((s2.trans s3).trans s4) _ _ e1, ?_⟩, ?_, ?_, ?_⟩
      · have : layersL p ((0 : Nat) : Int) = [] := by unfold layersL; rw [digits_zero p (by omega)]; rfl
        rw [this]; exact .nil
      · have : bakedL p ((0 : Nat) : Int) = [] := by unfold bakedL; rfl
        rw [this]; exact (s3.trans s4) _ _ e2
      · exact fun z => by rw [← z, (s2.trans s3) _ _ e1] at hF; cases hF
      · exact fun z => by rw [← z, s3 _ _ e2] at hF; cases hF
    | i + 1, hv => simp at hv
  · rintro i σ H5 hi ⟨v3, s5, ⟨vs, eF5, hl, hk⟩, rfl⟩
    walk_at "rd"
    refine rd_tyL eF5 ?_
    walk_at "rd"
    obtain ⟨xs, x, rfl⟩ : ∃ xs x, vs = xs ++ [x] := by
      rcases List.eq_nil_or_concat vs with z | ⟨xs, x, z⟩
      · rw [z] at hl; simp at hl
      · exact ⟨xs, x, by rw [z]; simp⟩
    refine rd_ixL eF5 (atI_last _ _) ?_
    walk_at "rd"
    have hxl : xs.length = i := by simpa using hl
    obtain ⟨t5, r5, g5, rfl, et5, er5, eg5, n5, m5⟩ := hk i x (by rw [List.getElem?_append_right (by omega), hxl, Nat.sub_self]; rfl)
    refine rd_ixT et5 (by rfl) ?_
    walk_at "rd"
    have eD : ((1 : Int) + (i : Int)) = (i : Int) + 1 := by omega
    rw [eD]
    refine ⟨a, r5, f, q, (i : Int), rfl, tp.mono s5, ok, by rw [hp]; exact er5, by omega, by omega, fun H6 t6 r6 g6 s6 hr6 hg6 et6 er6 eg6 => ?_⟩
    rw [hp] at er6 eg6
    walk_at "rd"
    refine rd_app (s6 _ _ eF5) (by simp; omega) fun H7 eH7 eF7 => ?_
    walk_at "rd"
    refine ⟨_, by rw [eH7]; exact Same.mut (s5.trans s6) hF0, ⟨_, eF7, by simp [hxl], fun j v hv => ?_⟩, rfl⟩
    rw [eH7]
    rcases Nat.lt_or_ge j (i + 1) with hj | hj
    · rw [List.getElem?_append_left (by simp; omega)] at hv
      exact ((hk j v hv).mono s6).upd (s6 _ _ eF5)
    · obtain rfl : j = i + 1 := by
        have := (List.getElem?_eq_some_iff.mp hv).1
        simp at this
        omega
      rw [List.getElem?_append_right (by simp; omega)] at hv
      have hv' : V.ref t6 = v := by simpa [hxl] using hv
      subst hv'
      refine TurnP.upd ?_ (s6 _ _ eF5)
      have ec : ((i + 1 : Nat) : Int) = (i : Int) + 1 := by omega
      rw [ec]
      exact ⟨t6, r6, g6, rfl, et6, er6, eg6, fun z => (by rw [z, eF5] at hr6; cases hr6), fun z => (by rw [z, eF5] at hg6; cases hg6)⟩
  · rintro σ H5 ⟨v3, s5, pl, rfl⟩
    walk_at "rd"
    have : (n + 1).toNat = n.toNat + 1 := by omega
    rw [this] at k
    exact k H5 F s5 hF0 pl
end
end Sl

set_option Elab.async false
set_option linter.all false
set_option maxRecDepth 100000
set_option maxHeartbeats 8000000
set_option exponentiation.threshold 9000
namespace Sl
open PySem L2 C8 StX Silt
local macro_rules | `(tactic| walk_at "side") => `(tactic| first
  | exact cdivw (by omega) (by omega)
  | exact cmulw (by omega) (by omega) (by omega) (by omega)
  | exact Or.inr ⟨by omega, by omega⟩
  | exact Or.inl ⟨by omega, by omega⟩
  | omega
  | exact ⟨by omega, by omega, by decide⟩
  | decide)
local macro_rules | `(tactic| walk_at "rd1") => `(tactic| first
  | with_reducible refine rd_seq ?_
  | with_reducible refine rd_asg ?_
  | with_reducible refine rd_drop ?_
  | with_reducible refine rd_ret ?_
  | with_reducible refine rd_retN ?_
  | with_reducible refine rd_ifS ?_
  | ((with_reducible refine rd_var0 ?_); refine ⟨_, rfl, ?_⟩)
  | with_reducible refine rd_c ?_
  | with_reducible refine rd_op ?_
  | with_reducible refine rd_un ?_
  | with_reducible refine rd_I0 ?_
  | with_reducible refine rd_U ?_
  | ((with_reducible refine rd_I ?c ?_); (case c => walk_at "side"))
  | with_reducible refine rd_ipI ?_
  | with_reducible refine rd_eqI ?_
  | with_reducible refine rd_neI ?_
  | with_reducible refine rd_test ?_
  | with_reducible refine rd_tB ?_
  | with_reducible refine rd_bl ?_
  | with_reducible refine rd_not ?_
  | with_reducible refine rd_and ?_
  | with_reducible refine rd_or ?_
  | with_reducible refine rd_andV ?_
  | with_reducible refine rd_orV ?_
  | with_reducible refine rd_notV ?_
  | with_reducible refine rd_ifE ?_
  | with_reducible refine rd_chain ?_
  | with_reducible refine rd_chain3 ?_
  | with_reducible refine rd_nil ?_
  | with_reducible refine rd_cons ?_
  | with_reducible refine rd_call ?_
  | with_reducible refine rd_CB ?_
  | with_reducible refine rd_par ?_
  | with_reducible refine rd_par2 ?_
  | with_reducible refine rd_par3 ?_
  | with_reducible refine rd_par4 ?_
  | ((with_reducible refine rd_aug0 ?_); refine ⟨_, rfl, ?_⟩)
  | with_reducible refine rd_gname ?_
  | with_reducible refine rd_gcons ?_
  | with_reducible refine rd_gnil ?_
  | with_reducible refine rd_max ?_
  | with_reducible refine rd_min ?_
  | with_reducible refine rd_int1 ?_
  | with_reducible refine rd_abs ?_
  | with_reducible refine rd_lst ?_
  | with_reducible refine rd_tup ?_
  | with_reducible refine rd_bm ?_
  | with_reducible refine rd_fld0 ?_
  | with_reducible refine rd_sl0 ?_
  | with_reducible refine rd_noP ?_
  | with_reducible refine rd_part ?_
  | with_reducible refine rd_part2 ?_
  | with_reducible refine rd_meth0 ?_
  | with_reducible refine rd_star ?_
  | with_reducible refine rd_for ?_
  | with_reducible refine rd_rng1 ?_
  | with_reducible refine rd_rng2 ?_
  | with_reducible refine rd_rng3 ?_
  | with_reducible refine rd_iList ?_
  | with_reducible refine rd_iTup ?_
  | with_reducible refine rd_iEnum ?_
  | with_reducible refine rd_lc ?_
  | with_reducible refine rd_yes ?_
  | with_reducible refine rd_augS ?_
  | with_reducible refine rd_drawNew ?_
  | with_reducible refine rd_make0 ?_
  | with_reducible refine rd_next ?_
  | with_reducible refine rd_break ?_
  | with_reducible refine rd_cont ?_
  | with_reducible refine rd_iteTT ?_
  | with_reducible refine rd_iteFF ?_
  | with_reducible refine rd_iteNTT ?_
  | with_reducible refine rd_iteNFF ?_
  | with_reducible refine rd_con0 ?_
  | with_reducible refine rd_truO0 ?_
  | with_reducible refine rd_gfld0 ?_
  | with_reducible refine rd_dc ?_
  | with_reducible refine rd_iKeys ?_
  | with_reducible refine rd_dget0 ?_
  | with_reducible refine rd_dput0 ?_
  | with_reducible refine rd_dnot0 ?_
  | with_reducible refine rd_iEnumT ?_
  | with_reducible refine rd_raP0 ?_
  | with_reducible refine rd_xf0 ?_
  | with_reducible refine rd_asgG ?_)
local macro_rules | `(tactic| walk_at "rd") => `(tactic| repeat walk_at "rd1")
local macro_rules | `(tactic| walk_at "len") => `(tactic| first
  | (intro vs H Q E h; obtain ⟨h2, _⟩ := h; rw [h2]; rfl)
  | (intro vs H Q E h; obtain ⟨_, h2, _⟩ := h; rw [h2]; rfl)
  | (intro vs H Q E h; obtain ⟨_, _, h2, _⟩ := h; rw [h2]; rfl)
  | (intro vs H Q E h; obtain ⟨_, _, _, h2, _⟩ := h; rw [h2]; rfl)
  | (intro vs H Q E h; obtain ⟨_, _, _, _, h2, _⟩ := h; rw [h2]; rfl)
  | (intro vs H Q E h; obtain ⟨_, _, _, _, _, h2, _⟩ := h; rw [h2]; rfl)
  | (intro vs H Q E h; obtain ⟨_, _, _, _, _, _, h2, _⟩ := h; rw [h2]; rfl)
  | (intro vs H Q E h; obtain ⟨_, _, _, _, _, _, _, h2, _⟩ := h; rw [h2]; rfl)
  | (intro vs H Q E h; obtain ⟨_, _, _, _, _, _, _, _, h2, _⟩ := h; rw [h2]; rfl)
  | (intro vs H Q E h; obtain ⟨_, _, _, _, _, _, _, _, _, h2, _⟩ := h; rw [h2]; rfl)
  | (intro vs H Q E h; obtain ⟨_, _, _, _, _, _, _, _, _, _, h2, _⟩ := h; rw [h2]; rfl)
  | (intro vs H Q E h; obtain ⟨_, _, _, _, _, _, _, _, _, _, _, h2, _⟩ := h; rw [h2]; rfl)
  | (intro vs H Q E h; obtain ⟨_, _, _, _, _, _, _, _, _, _, _, _, h2, _⟩ := h; rw [h2]; rfl))
/-! ### evidence with a number and a day -/
def evF (n d : Int) : List (Str × V) := [("number", .int n), ("day", .int d)]
def EvP (C : Addr) (H : Hp) (a : Addr) (n d : Int) : Prop := ∃ dx, H a = some (.ins C dx (evF n d))
theorem EvP.mono {C : Addr} {H H' : Hp} {a : Addr} {n d : Int} (s : Same H H') (h : EvP C H a n d) : EvP C H' a n d := by
  obtain ⟨dx, e⟩ := h
  exact ⟨dx, s _ _ e⟩
theorem ev_number (n d : Int) : (evF n d).lookup ("number" : Str) = some (.int n) := by rfl
theorem ev_day (n d : Int) : (evF n d).lookup ("day" : Str) = some (.int d) := by
  have h : (("day" : Str) == "number") = false := by decide +kernel
  show (match (("day" : Str) == "number") with | true => some (V.int n) | false => _) = _
  rw [h]
  rfl
theorem ev_word (n d : Int) : (evF n d).lookup ("WORD" : Str) = none := by
  have h : (("WORD" : Str) == "number") = false := by decide +kernel
  have h2 : (("WORD" : Str) == "day") = false := by decide +kernel
  show (match (("WORD" : Str) == "number") with | true => some (V.int n) | false => (match (("WORD" : Str) == "day") with | true => some (V.int d) | false => none)) = _
  rw [h, h2]
theorem put_ev (n d : Int) : putF "day" (.int d) (putF "number" (.int n) []) = evF n d := by
  have h : ¬ (("number" : Str) = "day") := by decide +kernel
  show (if ("number" : Str) = "day" then [(("number" : Str), V.int d)] else (("number" : Str), V.int n) :: putF "day" (V.int d) []) = evF n d
  rw [if_neg h]
  rfl
theorem ev_meth (n d : Int) {m : Str} (h : (m == ("number" : Str)) = false) (h2 : (m == ("day" : Str)) = false) : (evF n d).lookup m = none := by
  show (match (m == ("number" : Str)) with | true => some (V.int n) | false => (match (m == ("day" : Str)) with | true => some (V.int d) | false => none)) = _
  rw [h, h2]
def spEv (C : Addr) : Sp := fun vs H Q _ => ∃ (self dx : Addr) (H0 : Hp) (n d : Int), vs = [.ref self, .int n, .int d] ∧ Same H0 H ∧ H0 self = none ∧ H self = some (.ins C dx []) ∧ ∀ H', Same H0 H' → EvP C H' self n d → Q .non H'
def spTrue : Sp := fun vs H Q _ => ∃ (a : Addr), vs = [.ref a] ∧ Q (.bl true) H
def spPieces (C : Addr) : Sp := fun vs H Q _ => ∃ (a : Addr) (n d : Int), vs = [.ref a] ∧ EvP C H a n d ∧ ∀ H' t, Same H H' → H' t = some (.tup [.int n, .int d]) → Q (.ref t) H'
def spEvEq (C : Addr) : Sp := fun vs H Q _ => ∃ (a b : Addr) (n d m e : Int), vs = [.ref a, .ref b] ∧ EvP C H a n d ∧ EvP C H b m e ∧ ∀ H', Same H H' → Q (.bl (decide (n = m ∧ d = e))) H'
def spMost (CR C : Addr) : Sp := fun vs H Q _ => ∃ (a : Addr) (p : Pr) (l : Int), vs = [.ref a, .int l] ∧ RuleP CR H a p ∧ (0 ≤ l ∧ l ≤ 10 ^ 21) ∧
  ∀ H' x (N : Int), Same H H' → 0 ≤ N → firstWith p N ≤ l → l < firstWith p (N + 1) → EvP C H' x N (firstWith p N) → Q (.ref x) H'
def ShowsM (p : Pr) (n d l : Int) : Prop := 0 ≤ d ∧ d ≤ l ∧ 0 ≤ n ∧ (digits p d).sum = n ∧ firstWith p n = d ∧ l < firstWith p (n + 1)
def spMostS (CR C : Addr) : Sp := fun vs H Q _ => ∃ (a r : Addr) (p : Pr) (n d l : Int), vs = [.ref a, .ref r, .int l] ∧ EvP C H a n d ∧ RuleP CR H r p ∧ (0 ≤ l ∧ l ≤ DD) ∧ n ≤ 1900 ∧ ∀ H' b, Same H H' → (b = true ↔ ShowsM p n d l) → Q (.bl b) H'
def spLeastD (CR : Addr) : Sp := fun vs H Q _ => ∃ (r : Addr) (p : Pr) (k : Nat), vs = [.ref r, .int k] ∧ RuleP CR H r p ∧ k ≤ 2100 ∧ ∀ H' t, Same H H' → H t = none → H' t = some (.lst ((leastD p k).map V.int)) → Q (.ref t) H'
/-- a list (at D) of lists of ints -/
def LsP (H : Hp) (D : Addr) (us : List V) (rs : List (List Int)) : Prop := us.length = rs.length ∧ ∀ (i : Nat) r, rs[i]? = some r → ∃ t, us[i]? = some (.ref t) ∧ t ≠ D ∧ H t = some (.lst (r.map V.int))
theorem LsP.mono {H H' : Hp} {D : Addr} {us : List V} {rs : List (List Int)} (s : Same H H') (h : LsP H D us rs) : LsP H' D us rs :=
  ⟨h.1, fun i r hr => by obtain ⟨t, h1, h2, h3⟩ := h.2 i r hr; exact ⟨t, h1, h2, s _ _ h3⟩⟩
theorem LsP.upd {H : Hp} {D : Addr} {us : List V} {rs : List (List Int)} {o : HO} (h : LsP H D us rs) : LsP (upd H D o) D us rs :=
  ⟨h.1, fun i r hr => by obtain ⟨t, h1, h2, h3⟩ := h.2 i r hr; exact ⟨t, h1, h2, by rw [upd_ne h2]; exact h3⟩⟩
theorem LsP.app {H : Hp} {D t : Addr} {us : List V} {rs : List (List Int)} {r : List Int} (h : LsP H D us rs) (n : t ≠ D) (e : H t = some (.lst (r.map V.int))) : LsP H D (us ++ [.ref t]) (rs ++ [r]) := by
  refine ⟨by simp [h.1], fun i r' hr => ?_⟩
  rcases Nat.lt_or_ge i rs.length with z | z
  · rw [List.getElem?_append_left z] at hr
    obtain ⟨t', h1, h2, h3⟩ := h.2 i r' hr
    exact ⟨t', by rw [List.getElem?_append_left (by rw [h.1]; exact z)]; exact h1, h2, h3⟩
  · rw [List.getElem?_append_right z] at hr
    have hi : i = rs.length := by
      have := (List.getElem?_eq_some_iff.mp hr).1
      simp at this
      omega
    subst hi
    simp at hr
    subst hr
    exact ⟨t, by rw [List.getElem?_append_right (by rw [h.1]; exact Nat.le_refl _), h.1]; simp, n, e⟩
theorem LsP.nil {H : Hp} {D : Addr} : LsP H D [] [] := ⟨rfl, fun i r hr => by simp at hr⟩
def spRaised (CR : Addr) : Sp := fun vs H Q _ => ∃ (r t : Addr) (p : Pr) (ds : List Int), vs = [.ref r, .ref t] ∧ RuleP CR H r p ∧ H t = some (.lst (ds.map V.int)) ∧ ds.length ≤ 2000 ∧ ∀ H' D us, Same H H' → H' D = some (.lst us) → LsP H' D us (ds :: RT p ds) → Q (.ref D) H'
def spFewest (CR C : Addr) : Sp := fun vs H Q _ => ∃ (r : Addr) (p : Pr) (d : Int), vs = [.ref r, .int d] ∧ RuleP CR H r p ∧ (0 ≤ d ∧ d ≤ 10 ^ 21) ∧ ∀ H' x k, Same H H' → LeastP p d k → EvP C H' x k.1 k.2 → Q (.ref x) H'
def spFewS (CR C : Addr) : Sp := fun vs H Q _ => ∃ (a r : Addr) (p : Pr) (n e d : Int), vs = [.ref a, .ref r, .int d] ∧ EvP C H a n e ∧ RuleP CR H r p ∧ (0 ≤ d ∧ d ≤ 10 ^ 21) ∧ ∀ H' k, Same H H' → LeastP p d k → Q (.bl (decide (n = k.1 ∧ e = k.2))) H'
/-- a call of first_with that is refused -/
def spFirstX (CR C : Addr) : Sp := fun vs H _ E => ∃ (a : Addr) (p : Pr) (v : V), vs = [.ref a, v] ∧ RuleP CR H a p ∧ BadN v 0 ∧ E (.ref C) none H
theorem far_dd : (10 : Int) ^ 21 ≤ DD := by have := dd_far; omega
theorem far_bits : (10 : Int) ^ 21 < ((2 ^ 70 : Nat) : Int) := by decide
theorem few_len {p : Pr} (g : Good p) {d : Int} (h : 0 ≤ d) (h2 : d ≤ 10 ^ 21) : (digits p d).length ≤ 70 := digits_len g 70 d h (by have := far_bits; omega)
section
variable {P : Program} {w : World} {K : PySem.W.Frag} {mg : Str → Option Value} {base : Heap} {C_Rule C_Evidence C_Good C_Cheapest C_BadDay C_BadChoices : Addr}
theorem xal_first_with (T : TX P K mg C_Rule C_Evidence C_Good C_Cheapest C_BadDay C_BadChoices) : CalX P w K mg base 4 "first_with" (spFirstX C_Rule C_BadDay) [] := by
  obtain ⟨f0, fd, D, dn⟩ := T.d_first_with
  have G_check_rule := cal_check_rule (P := P) (w := w) (base := base) T
  have X_check_number := xal_check_number (P := P) (w := w) (base := base) T
  refine calX0 D (D.fn.binds dn fun _ _ _ _ _ _ us hl => match us, hl with | [_, _], _ => rfl) .nil sc_first_with (by walk_at "len") (fun cdv A outer s H vs Q E hr h => ?_)
  obtain ⟨a, p, v, rfl, hp, hb, k⟩ := h
  refine ⟨_, (pss_cons (ps_expr (pe_c G_check_rule hr (by decide) rfl (pa_cons (pv 0) pa_nil)))
      (pss_cons (ps_expr (pe_cX X_check_number hr (by decide) rfl (fun σ => passAt (takes_of rfl rfl rfl rfl) σ) (pa_cons (pv 1) pa_nil)))
      (pss_cons ps_never
      (pss_cons ps_never
      (pss_one ps_never))))), ?_⟩
  walk_at "rd"
  refine ⟨a, p, rfl, hp, ?_⟩
  walk_at "rd"
  refine rd_callSd ?_
  walk_at "rd"
  exact rd_callSd2 ⟨v, 0, rfl, .inr ⟨hb, k⟩⟩
end
end Sl

set_option Elab.async false
set_option linter.all false
set_option maxRecDepth 100000
set_option maxHeartbeats 8000000
set_option exponentiation.threshold 9000
namespace Sl
open PySem L2 C8 StX Silt
local macro_rules | `(tactic| walk_at "side") => `(tactic| first
  | exact cdivw (by omega) (by omega)
  | exact cmulw (by omega) (by omega) (by omega) (by omega)
  | exact Or.inr ⟨by omega, by omega⟩
  | exact Or.inl ⟨by omega, by omega⟩
  | omega
  | exact ⟨by omega, by omega, by decide⟩
  | decide)
local macro_rules | `(tactic| walk_at "rd1") => `(tactic| first
  | with_reducible refine rd_seq ?_
  | with_reducible refine rd_asg ?_
  | with_reducible refine rd_drop ?_
  | with_reducible refine rd_ret ?_
  | with_reducible refine rd_retN ?_
  | with_reducible refine rd_ifS ?_
  | ((with_reducible refine rd_var0 ?_); refine ⟨_, rfl, ?_⟩)
  | with_reducible refine rd_c ?_
  | with_reducible refine rd_op ?_
  | with_reducible refine rd_un ?_
  | with_reducible refine rd_I0 ?_
  | with_reducible refine rd_U ?_
  | ((with_reducible refine rd_I ?c ?_); (case c => walk_at "side"))
  | with_reducible refine rd_ipI ?_
  | with_reducible refine rd_eqI ?_
  | with_reducible refine rd_neI ?_
  | with_reducible refine rd_test ?_
  | with_reducible refine rd_tB ?_
  | with_reducible refine rd_bl ?_
  | with_reducible refine rd_not ?_
  | with_reducible refine rd_and ?_
  | with_reducible refine rd_or ?_
  | with_reducible refine rd_andV ?_
  | with_reducible refine rd_orV ?_
  | with_reducible refine rd_notV ?_
  | with_reducible refine rd_ifE ?_
  | with_reducible refine rd_chain ?_
  | with_reducible refine rd_chain3 ?_
  | with_reducible refine rd_nil ?_
  | with_reducible refine rd_cons ?_
  | with_reducible refine rd_call ?_
  | with_reducible refine rd_CB ?_
  | with_reducible refine rd_par ?_
  | with_reducible refine rd_par2 ?_
  | with_reducible refine rd_par3 ?_
  | with_reducible refine rd_par4 ?_
  | ((with_reducible refine rd_aug0 ?_); refine ⟨_, rfl, ?_⟩)
  | with_reducible refine rd_gname ?_
  | with_reducible refine rd_gcons ?_
  | with_reducible refine rd_gnil ?_
  | with_reducible refine rd_max ?_
  | with_reducible refine rd_min ?_
  | with_reducible refine rd_int1 ?_
  | with_reducible refine rd_abs ?_
  | with_reducible refine rd_lst ?_
  | with_reducible refine rd_tup ?_
  | with_reducible refine rd_bm ?_
  | with_reducible refine rd_fld0 ?_
  | with_reducible refine rd_sl0 ?_
  | with_reducible refine rd_noP ?_
  | with_reducible refine rd_part ?_
  | with_reducible refine rd_part2 ?_
  | with_reducible refine rd_meth0 ?_
  | with_reducible refine rd_star ?_
  | with_reducible refine rd_for ?_
  | with_reducible refine rd_rng1 ?_
  | with_reducible refine rd_rng2 ?_
  | with_reducible refine rd_rng3 ?_
  | with_reducible refine rd_iList ?_
  | with_reducible refine rd_iTup ?_
  | with_reducible refine rd_iEnum ?_
  | with_reducible refine rd_lc ?_
  | with_reducible refine rd_yes ?_
  | with_reducible refine rd_augS ?_
  | with_reducible refine rd_drawNew ?_
  | with_reducible refine rd_make0 ?_
  | with_reducible refine rd_next ?_
  | with_reducible refine rd_break ?_
  | with_reducible refine rd_cont ?_
  | with_reducible refine rd_iteTT ?_
  | with_reducible refine rd_iteFF ?_
  | with_reducible refine rd_iteNTT ?_
  | with_reducible refine rd_iteNFF ?_
  | with_reducible refine rd_con0 ?_
  | with_reducible refine rd_truO0 ?_
  | with_reducible refine rd_gfld0 ?_
  | with_reducible refine rd_dc ?_
  | with_reducible refine rd_iKeys ?_
  | with_reducible refine rd_dget0 ?_
  | with_reducible refine rd_dput0 ?_
  | with_reducible refine rd_dnot0 ?_
  | with_reducible refine rd_iEnumT ?_
  | with_reducible refine rd_raP0 ?_
  | with_reducible refine rd_xf0 ?_
  | with_reducible refine rd_asgG ?_)
local macro_rules | `(tactic| walk_at "rd") => `(tactic| repeat walk_at "rd1")
local macro_rules | `(tactic| walk_at "len") => `(tactic| first
  | (intro vs H Q E h; obtain ⟨h2, _⟩ := h; rw [h2]; rfl)
  | (intro vs H Q E h; obtain ⟨_, h2, _⟩ := h; rw [h2]; rfl)
  | (intro vs H Q E h; obtain ⟨_, _, h2, _⟩ := h; rw [h2]; rfl)
  | (intro vs H Q E h; obtain ⟨_, _, _, h2, _⟩ := h; rw [h2]; rfl)
  | (intro vs H Q E h; obtain ⟨_, _, _, _, h2, _⟩ := h; rw [h2]; rfl)
  | (intro vs H Q E h; obtain ⟨_, _, _, _, _, h2, _⟩ := h; rw [h2]; rfl)
  | (intro vs H Q E h; obtain ⟨_, _, _, _, _, _, h2, _⟩ := h; rw [h2]; rfl)
  | (intro vs H Q E h; obtain ⟨_, _, _, _, _, _, _, h2, _⟩ := h; rw [h2]; rfl)
  | (intro vs H Q E h; obtain ⟨_, _, _, _, _, _, _, _, h2, _⟩ := h; rw [h2]; rfl)
  | (intro vs H Q E h; obtain ⟨_, _, _, _, _, _, _, _, _, h2, _⟩ := h; rw [h2]; rfl)
  | (intro vs H Q E h; obtain ⟨_, _, _, _, _, _, _, _, _, _, h2, _⟩ := h; rw [h2]; rfl)
  | (intro vs H Q E h; obtain ⟨_, _, _, _, _, _, _, _, _, _, _, h2, _⟩ := h; rw [h2]; rfl)
  | (intro vs H Q E h; obtain ⟨_, _, _, _, _, _, _, _, _, _, _, _, h2, _⟩ := h; rw [h2]; rfl))
theorem dt_ints {H : Hp} {u : Addr} {ns : List Int} (e : H u = some (.lst (ns.map V.int))) : Dt H (.ref u) (.list (intsD ns)) := .lst e (DtAll.intsD ns)
theorem dt_tup2 {H : Hp} {u : Addr} {a b : Int} (e : H u = some (.tup [.int a, .int b])) : Dt H (.ref u) (pairD (a, b)) := .tup e (.cons (.int _) (.cons (.int _) .nil))
theorem fewPs_len (p : Pr) (d : Int) : (fewPs p d).length = (digits p d :: RT p (digits p d)).length := by unfold fewPs; rw [List.length_map]
theorem upD_len (p : Pr) (ds : List Int) (i : Nat) : (upD p ds i).length ≤ i := by
  unfold upD
  rw [List.length_map]
  have := List.length_filter_le (fun g => decide (ds.getD g 0 + 1 < (p g).1)) (List.range i)
  rw [List.length_range] at this
  exact this
theorem RT_len (p : Pr) (ds : List Int) : (RT p ds).length ≤ ds.length + 1 := by
  rw [RT_eq, List.length_append, List.length_singleton]
  have := upD_len p ds ds.length
  omega
theorem RT_lens : ∀ (p : Pr) (ds : List Int), ∀ r ∈ RT p ds, r.length ≤ ds.length + 1
  | p, [], r, h => by
    have h : r ∈ [[(1 : Int)]] := h
    rw [List.mem_singleton] at h
    subst h
    simp
  | p, x :: xs, r, h => by
    have h : r ∈ (if x + 1 < (p 0).1 then [(x + 1) :: xs] else []) ++ (RT (tl p 1) xs).map (((p 0).1 - (p 0).2) :: ·) := h
    rcases List.mem_append.mp h with z | z
    · by_cases c : x + 1 < (p 0).1
      · rw [if_pos c, List.mem_singleton] at z
        subst z
        simp
      · rw [if_neg c] at z; cases z
    · obtain ⟨r', hr', rfl⟩ := List.mem_map.mp z
      have := RT_lens (tl p 1) xs r' hr'
      rw [List.length_cons, List.length_cons]
      omega
theorem leastD_len (p : Pr) (k : Nat) : (leastD p k).length = k := by unfold leastD; rw [List.length_map, List.length_range]
theorem getD_of {ds : List Int} {i : Nat} {x : Int} (h : ds[i]? = some x) : ds.getD i 0 = x := by
  rw [List.getD_eq_getElem?_getD, h]; rfl
theorem ltPr_iff {x y : Int × Int} : L2.ltPr x y = false ↔ ¬ (x.1 < y.1 ∨ x.1 = y.1 ∧ x.2 < y.2) := by
  unfold L2.ltPr
  rw [decide_eq_false_iff_not]
section
variable {P : Program} {w : World} {K : PySem.W.Frag} {mg : Str → Option Value} {base : Heap} {C_Rule C_Evidence C_Good C_Cheapest C_BadDay C_BadChoices : Addr}
end
end Sl

set_option Elab.async false
set_option linter.all false
set_option maxRecDepth 100000
set_option maxHeartbeats 8000000
set_option exponentiation.threshold 9000
namespace Sl
open PySem L2 C8 StX Silt
local macro_rules | `(tactic| walk_at "side") => `(tactic| first
  | exact cdivw (by omega) (by omega)
  | exact cmulw (by omega) (by omega) (by omega) (by omega)
  | exact Or.inr ⟨by omega, by omega⟩
  | exact Or.inl ⟨by omega, by omega⟩
  | omega
  | exact ⟨by omega, by omega, by decide⟩
  | decide)
local macro_rules | `(tactic| walk_at "rd1") => `(tactic| first
  | with_reducible refine rd_seq ?_
  | with_reducible refine rd_asg ?_
  | with_reducible refine rd_drop ?_
  | with_reducible refine rd_ret ?_
  | with_reducible refine rd_retN ?_
  | with_reducible refine rd_ifS ?_
  | ((with_reducible refine rd_var0 ?_); refine ⟨_, rfl, ?_⟩)
  | with_reducible refine rd_c ?_
  | with_reducible refine rd_op ?_
  | with_reducible refine rd_un ?_
  | with_reducible refine rd_I0 ?_
  | with_reducible refine rd_U ?_
  | ((with_reducible refine rd_I ?c ?_); (case c => walk_at "side"))
  | with_reducible refine rd_ipI ?_
  | with_reducible refine rd_eqI ?_
  | with_reducible refine rd_neI ?_
  | with_reducible refine rd_test ?_
  | with_reducible refine rd_tB ?_
  | with_reducible refine rd_bl ?_
  | with_reducible refine rd_not ?_
  | with_reducible refine rd_and ?_
  | with_reducible refine rd_or ?_
  | with_reducible refine rd_andV ?_
  | with_reducible refine rd_orV ?_
  | with_reducible refine rd_notV ?_
  | with_reducible refine rd_ifE ?_
  | with_reducible refine rd_chain ?_
  | with_reducible refine rd_chain3 ?_
  | with_reducible refine rd_nil ?_
  | with_reducible refine rd_cons ?_
  | with_reducible refine rd_call ?_
  | with_reducible refine rd_CB ?_
  | with_reducible refine rd_par ?_
  | with_reducible refine rd_par2 ?_
  | with_reducible refine rd_par3 ?_
  | with_reducible refine rd_par4 ?_
  | ((with_reducible refine rd_aug0 ?_); refine ⟨_, rfl, ?_⟩)
  | with_reducible refine rd_gname ?_
  | with_reducible refine rd_gcons ?_
  | with_reducible refine rd_gnil ?_
  | with_reducible refine rd_max ?_
  | with_reducible refine rd_min ?_
  | with_reducible refine rd_int1 ?_
  | with_reducible refine rd_abs ?_
  | with_reducible refine rd_lst ?_
  | with_reducible refine rd_tup ?_
  | with_reducible refine rd_bm ?_
  | with_reducible refine rd_fld0 ?_
  | with_reducible refine rd_sl0 ?_
  | with_reducible refine rd_noP ?_
  | with_reducible refine rd_part ?_
  | with_reducible refine rd_part2 ?_
  | with_reducible refine rd_meth0 ?_
  | with_reducible refine rd_star ?_
  | with_reducible refine rd_for ?_
  | with_reducible refine rd_rng1 ?_
  | with_reducible refine rd_rng2 ?_
  | with_reducible refine rd_rng3 ?_
  | with_reducible refine rd_iList ?_
  | with_reducible refine rd_iTup ?_
  | with_reducible refine rd_iEnum ?_
  | with_reducible refine rd_lc ?_
  | with_reducible refine rd_yes ?_
  | with_reducible refine rd_augS ?_
  | with_reducible refine rd_drawNew ?_
  | with_reducible refine rd_make0 ?_
  | with_reducible refine rd_next ?_
  | with_reducible refine rd_break ?_
  | with_reducible refine rd_cont ?_
  | with_reducible refine rd_iteTT ?_
  | with_reducible refine rd_iteFF ?_
  | with_reducible refine rd_iteNTT ?_
  | with_reducible refine rd_iteNFF ?_
  | with_reducible refine rd_con0 ?_
  | with_reducible refine rd_truO0 ?_
  | with_reducible refine rd_gfld0 ?_
  | with_reducible refine rd_dc ?_
  | with_reducible refine rd_iKeys ?_
  | with_reducible refine rd_dget0 ?_
  | with_reducible refine rd_dput0 ?_
  | with_reducible refine rd_dnot0 ?_
  | with_reducible refine rd_iEnumT ?_
  | with_reducible refine rd_raP0 ?_
  | with_reducible refine rd_xf0 ?_
  | with_reducible refine rd_asgG ?_)
local macro_rules | `(tactic| walk_at "rd") => `(tactic| repeat walk_at "rd1")
local macro_rules | `(tactic| walk_at "len") => `(tactic| first
  | (intro vs H Q E h; obtain ⟨h2, _⟩ := h; rw [h2]; rfl)
  | (intro vs H Q E h; obtain ⟨_, h2, _⟩ := h; rw [h2]; rfl)
  | (intro vs H Q E h; obtain ⟨_, _, h2, _⟩ := h; rw [h2]; rfl)
  | (intro vs H Q E h; obtain ⟨_, _, _, h2, _⟩ := h; rw [h2]; rfl)
  | (intro vs H Q E h; obtain ⟨_, _, _, _, h2, _⟩ := h; rw [h2]; rfl)
  | (intro vs H Q E h; obtain ⟨_, _, _, _, _, h2, _⟩ := h; rw [h2]; rfl)
  | (intro vs H Q E h; obtain ⟨_, _, _, _, _, _, h2, _⟩ := h; rw [h2]; rfl)
  | (intro vs H Q E h; obtain ⟨_, _, _, _, _, _, _, h2, _⟩ := h; rw [h2]; rfl)
  | (intro vs H Q E h; obtain ⟨_, _, _, _, _, _, _, _, h2, _⟩ := h; rw [h2]; rfl)
  | (intro vs H Q E h; obtain ⟨_, _, _, _, _, _, _, _, _, h2, _⟩ := h; rw [h2]; rfl)
  | (intro vs H Q E h; obtain ⟨_, _, _, _, _, _, _, _, _, _, h2, _⟩ := h; rw [h2]; rfl)
  | (intro vs H Q E h; obtain ⟨_, _, _, _, _, _, _, _, _, _, _, h2, _⟩ := h; rw [h2]; rfl)
  | (intro vs H Q E h; obtain ⟨_, _, _, _, _, _, _, _, _, _, _, _, h2, _⟩ := h; rw [h2]; rfl))
theorem late_if {p : Pr} (g : Good p) (i : Nat) {m : Int} (h : 0 ≤ m) : (if (p i).1 ≤ m then (m - (p i).1) / (p i).2 + 1 else 0) = late (tl p i) m := by
  have h1 := g.lo i
  rw [late_tl]
  have e : m - (p i).1 + (p i).2 = (m - (p i).1) + 1 * (p i).2 := by omega
  rw [e, Int.add_mul_ediv_right _ _ (by omega)]
  by_cases c : (p i).1 ≤ m
  · rw [if_pos c]
    have : 0 ≤ (m - (p i).1) / (p i).2 := Int.ediv_nonneg (by omega) (by omega)
    omega
  · rw [if_neg c]
    have : (m - (p i).1) / (p i).2 < 0 := Int.ediv_neg_of_neg_of_pos (by omega) (by omega)
    omega
theorem far_two {p : Pr} (g : Good p) {d : Int} (h : d ≤ 10 ^ 21) {k : Nat} (hm : 0 < made p k d) : k < 199 := by
  have h1 := size_ge g k
  have h2 := made_size g (k := k) (d := d) (by omega)
  have h3 := owed_nn g k
  rcases Nat.lt_or_ge k 199 with z | z
  · exact z
  · exfalso
    have : 2 ^ 199 ≤ 2 ^ k := Nat.pow_le_pow_right (by decide) z
    have e : (10 : Int) ^ 21 < ((2 ^ 199 : Nat) : Int) := by decide
    omega
theorem LY_lenE (p : Pr) : ∀ (xs : List Int) (k : Nat), (∀ x ∈ xs, 0 ≤ x) → ((LY p k xs).1.length : Int) = xs.sum
  | [], _, _ => rfl
  | x :: xs, k, h => by
    have ih := LY_lenE p xs (k + 1) fun y hy => h y (List.mem_cons_of_mem _ hy)
    have h0 := h x List.mem_cons_self
    show (((LY p (k + 1) xs).1 ++ lyN (LY p (k + 1) xs).2 (size p k) k x.toNat).length : Int) = _
    rw [List.length_append, List.sum_cons, ← ih]
    unfold lyN
    rw [List.length_map, List.length_range]
    omega
theorem layers_len {p : Pr} (g : Good p) {d : Int} (h : 0 ≤ d) : ((layersL p d).length : Int) = (digits p d).sum := LY_lenE p _ 0 fun x hx => (valid_le g (valid_digits g h) x hx).1
theorem value_sum (p : Pr) (ds : List Int) : ∀ i : Nat, i ≤ ds.length → ((List.range i).map fun (j : Nat) => ds.getD j 0 * size p j).sum = value p (ds.take i)
  | 0, _ => rfl
  | i + 1, h => by
    have hx : ds[i]? = some ds[i] := List.getElem?_eq_getElem (by omega)
    rw [List.range_succ, List.map_append, List.sum_append, value_sum p ds i (by omega), value_take ds p i _ hx]
    simp [hx]
def numsL (p : Pr) (n : Nat) : List Int := (List.range n).map fun (i : Nat) => (digits p (i : Int)).sum
def spOf : Sp := fun vs H Q _ => ∃ (t : Addr) (f q : List (Int × Int)) (d : Int), vs = [.ref t, .int d] ∧ ToldP H t f q ∧ OkT f q ∧ (0 ≤ d ∧ d ≤ 10 ^ 21) ∧ ∀ H' u, Same H H' → H' u = some (.lst ((digits (atp f q) d).map V.int)) → Q (.ref u) H'
def spNums : Sp := fun vs H Q _ => ∃ (t : Addr) (f q : List (Int × Int)) (n : Int), vs = [.ref t, .int n] ∧ ToldP H t f q ∧ OkT f q ∧ 0 ≤ n ∧ n ≤ 1000 ∧ ∀ H' u, Same H H' → H' u = some (.lst ((numsL (atp f q) (n + 1).toNat).map V.int)) → Q (.ref u) H'
def spLFew : Sp := fun vs H Q _ => ∃ (t : Addr) (f q : List (Int × Int)) (d : Int), vs = [.ref t, .int d] ∧ ToldP H t f q ∧ OkT f q ∧ (0 ≤ d ∧ d ≤ 10 ^ 21) ∧ ∀ H' u k, Same H H' → LeastP (atp f q) d k → H' u = some (.tup [.int k.1, .int k.2]) → Q (.ref u) H'
/-- the rows behind i turns -/
def rowsAt (p : Pr) (ds : List Int) (i : Nat) : List (List Int) := if i ≤ ds.length then ds :: upD p ds i else ds :: RT p ds
def lateAt (p : Pr) (ds : List Int) (i : Nat) : List Int := leastD p i ++ if i < ds.length then (ds.getD i 0 + 1) :: ds.drop (i + 1) else [1]
theorem rowsAt_succ {p : Pr} (g : Good p) {ds : List Int} {i : Nat} (h : i < ds.length + 1) : rowsAt p ds (i + 1) = rowsAt p ds i ++ if (if i < ds.length then ds.getD i 0 + 1 else 1) < (p i).1 then [lateAt p ds i] else [] := by
  unfold rowsAt lateAt
  rw [if_pos (by omega : i ≤ ds.length)]
  by_cases c : i < ds.length
  · rw [if_pos (by omega : i + 1 ≤ ds.length), upD_succ, if_pos c, if_pos c, List.cons_append]
  · have e : i = ds.length := by omega
    subst e
    have b := g.lo ds.length
    have b2 := g.le ds.length
    rw [if_neg (by omega), if_neg c, if_neg c, if_pos (by omega), RT_eq, List.cons_append]
theorem lateAt_get (p : Pr) (ds : List Int) (i : Nat) : (lateAt p ds i)[i]? = some (if i < ds.length then ds.getD i 0 + 1 else 1) := by
  unfold lateAt
  rw [List.getElem?_append_right (by rw [leastD_len]; exact Nat.le_refl _), leastD_len, Nat.sub_self]
  by_cases c : i < ds.length
  · rw [if_pos c, if_pos c]; rfl
  · rw [if_neg c, if_neg c]; rfl
theorem lateAt_len (p : Pr) (ds : List Int) (i : Nat) : (lateAt p ds i).length ≤ ds.length + 1 + i := by
  unfold lateAt
  rw [List.length_append, leastD_len]
  by_cases c : i < ds.length
  · rw [if_pos c, List.length_cons, List.length_drop]; omega
  · rw [if_neg c, List.length_singleton]; omega
section
variable {P : Program} {w : World} {K : PySem.W.Frag} {mg : Str → Option Value} {base : Heap} {C_Rule C_Evidence C_Good C_Cheapest C_BadDay C_BadChoices : Addr}
end
end Sl

set_option Elab.async false
set_option linter.all false
set_option maxRecDepth 100000
set_option maxHeartbeats 8000000
set_option exponentiation.threshold 9000
namespace Sl
open PySem L2 C8 StX Silt
local macro_rules | `(tactic| walk_at "side") => `(tactic| first
  | exact cdivw (by omega) (by omega)
  | exact cmulw (by omega) (by omega) (by omega) (by omega)
  | exact Or.inr ⟨by omega, by omega⟩
  | exact Or.inl ⟨by omega, by omega⟩
  | omega
  | exact ⟨by omega, by omega, by decide⟩
  | decide)
local macro_rules | `(tactic| walk_at "rd1") => `(tactic| first
  | with_reducible refine rd_seq ?_
  | with_reducible refine rd_asg ?_
  | with_reducible refine rd_drop ?_
  | with_reducible refine rd_ret ?_
  | with_reducible refine rd_retN ?_
  | with_reducible refine rd_ifS ?_
  | ((with_reducible refine rd_var0 ?_); refine ⟨_, rfl, ?_⟩)
  | with_reducible refine rd_c ?_
  | with_reducible refine rd_op ?_
  | with_reducible refine rd_un ?_
  | with_reducible refine rd_I0 ?_
  | with_reducible refine rd_U ?_
  | ((with_reducible refine rd_I ?c ?_); (case c => walk_at "side"))
  | with_reducible refine rd_ipI ?_
  | with_reducible refine rd_eqI ?_
  | with_reducible refine rd_neI ?_
  | with_reducible refine rd_test ?_
  | with_reducible refine rd_tB ?_
  | with_reducible refine rd_bl ?_
  | with_reducible refine rd_not ?_
  | with_reducible refine rd_and ?_
  | with_reducible refine rd_or ?_
  | with_reducible refine rd_andV ?_
  | with_reducible refine rd_orV ?_
  | with_reducible refine rd_notV ?_
  | with_reducible refine rd_ifE ?_
  | with_reducible refine rd_chain ?_
  | with_reducible refine rd_chain3 ?_
  | with_reducible refine rd_nil ?_
  | with_reducible refine rd_cons ?_
  | with_reducible refine rd_call ?_
  | with_reducible refine rd_CB ?_
  | with_reducible refine rd_par ?_
  | with_reducible refine rd_par2 ?_
  | with_reducible refine rd_par3 ?_
  | with_reducible refine rd_par4 ?_
  | ((with_reducible refine rd_aug0 ?_); refine ⟨_, rfl, ?_⟩)
  | with_reducible refine rd_gname ?_
  | with_reducible refine rd_gcons ?_
  | with_reducible refine rd_gnil ?_
  | with_reducible refine rd_max ?_
  | with_reducible refine rd_min ?_
  | with_reducible refine rd_int1 ?_
  | with_reducible refine rd_abs ?_
  | with_reducible refine rd_lst ?_
  | with_reducible refine rd_tup ?_
  | with_reducible refine rd_bm ?_
  | with_reducible refine rd_fld0 ?_
  | with_reducible refine rd_sl0 ?_
  | with_reducible refine rd_noP ?_
  | with_reducible refine rd_part ?_
  | with_reducible refine rd_part2 ?_
  | with_reducible refine rd_meth0 ?_
  | with_reducible refine rd_star ?_
  | with_reducible refine rd_for ?_
  | with_reducible refine rd_rng1 ?_
  | with_reducible refine rd_rng2 ?_
  | with_reducible refine rd_rng3 ?_
  | with_reducible refine rd_iList ?_
  | with_reducible refine rd_iTup ?_
  | with_reducible refine rd_iEnum ?_
  | with_reducible refine rd_lc ?_
  | with_reducible refine rd_yes ?_
  | with_reducible refine rd_augS ?_
  | with_reducible refine rd_drawNew ?_
  | with_reducible refine rd_make0 ?_
  | with_reducible refine rd_next ?_
  | with_reducible refine rd_break ?_
  | with_reducible refine rd_cont ?_
  | with_reducible refine rd_iteTT ?_
  | with_reducible refine rd_iteFF ?_
  | with_reducible refine rd_iteNTT ?_
  | with_reducible refine rd_iteNFF ?_
  | with_reducible refine rd_con0 ?_
  | with_reducible refine rd_truO0 ?_
  | with_reducible refine rd_gfld0 ?_
  | with_reducible refine rd_dc ?_
  | with_reducible refine rd_iKeys ?_
  | with_reducible refine rd_dget0 ?_
  | with_reducible refine rd_dput0 ?_
  | with_reducible refine rd_dnot0 ?_
  | with_reducible refine rd_iEnumT ?_
  | with_reducible refine rd_raP0 ?_
  | with_reducible refine rd_xf0 ?_
  | with_reducible refine rd_asgG ?_)
local macro_rules | `(tactic| walk_at "rd") => `(tactic| repeat walk_at "rd1")
local macro_rules | `(tactic| walk_at "len") => `(tactic| first
  | (intro vs H Q E h; obtain ⟨h2, _⟩ := h; rw [h2]; rfl)
  | (intro vs H Q E h; obtain ⟨_, h2, _⟩ := h; rw [h2]; rfl)
  | (intro vs H Q E h; obtain ⟨_, _, h2, _⟩ := h; rw [h2]; rfl)
  | (intro vs H Q E h; obtain ⟨_, _, _, h2, _⟩ := h; rw [h2]; rfl)
  | (intro vs H Q E h; obtain ⟨_, _, _, _, h2, _⟩ := h; rw [h2]; rfl)
  | (intro vs H Q E h; obtain ⟨_, _, _, _, _, h2, _⟩ := h; rw [h2]; rfl)
  | (intro vs H Q E h; obtain ⟨_, _, _, _, _, _, h2, _⟩ := h; rw [h2]; rfl)
  | (intro vs H Q E h; obtain ⟨_, _, _, _, _, _, _, h2, _⟩ := h; rw [h2]; rfl)
  | (intro vs H Q E h; obtain ⟨_, _, _, _, _, _, _, _, h2, _⟩ := h; rw [h2]; rfl)
  | (intro vs H Q E h; obtain ⟨_, _, _, _, _, _, _, _, _, h2, _⟩ := h; rw [h2]; rfl)
  | (intro vs H Q E h; obtain ⟨_, _, _, _, _, _, _, _, _, _, h2, _⟩ := h; rw [h2]; rfl)
  | (intro vs H Q E h; obtain ⟨_, _, _, _, _, _, _, _, _, _, _, h2, _⟩ := h; rw [h2]; rfl)
  | (intro vs H Q E h; obtain ⟨_, _, _, _, _, _, _, _, _, _, _, _, h2, _⟩ := h; rw [h2]; rfl))
/-! ### what stands while a dict is walked -/
mutual
theorem Dt.lock {H : Hp} {d : Addr} {kvs : List (Key × V)} {o : HO} (e : H d = some (.dK kvs)) : ∀ {v : V} {x : PyData}, Dt H v x → Dt (upd H d o) v x
  | _, _, .non => .non
  | _, _, .bl b => .bl b
  | _, _, .int i => .int i
  | _, _, .str x => .str x
  | _, _, .lst (a := a) e2 h => .lst (by rw [upd_ne (fun z => by rw [z, e] at e2; cases e2)]; exact e2) (DtAll.lock e h)
  | _, _, .tup (a := a) e2 h => .tup (by rw [upd_ne (fun z => by rw [z, e] at e2; cases e2)]; exact e2) (DtAll.lock e h)
theorem DtAll.lock {H : Hp} {d : Addr} {kvs : List (Key × V)} {o : HO} (e : H d = some (.dK kvs)) : ∀ {vs : List V} {ds : List PyData}, DtAll H vs ds → DtAll (upd H d o) vs ds
  | _, _, .nil => .nil
  | _, _, .cons h t => .cons (Dt.lock e h) (DtAll.lock e t)
end
theorem RuleP.lock {C : Addr} {H : Hp} {a d : Addr} {p : Pr} {kvs : List (Key × V)} {o : HO} (e : H d = some (.dK kvs)) (h : RuleP C H a p) : RuleP C (upd H d o) a p := by
  obtain ⟨f, q, ⟨dx, t1, t2, e1, h1, h2⟩, hq, hp, g⟩ := h
  exact ⟨f, q, ⟨dx, t1, t2, by rw [upd_ne (fun z => by rw [z, e] at e1; cases e1)]; exact e1, h1.lock e, h2.lock e⟩, hq, hp, g⟩
theorem Same.unlock {H H' : Hp} {d : Addr} {u o : HO} (e : H d = some u) (s : Same (upd H d o) H') : Same H (upd H' d u) := fun a w ha => by
  by_cases z : a = d
  · subst z
    rw [e] at ha
    cases ha
    exact upd_same
  · rw [upd_ne z]
    refine s _ _ ?_
    rw [upd_ne z]
    exact ha
theorem Same.at {H H' : Hp} {d : Addr} {o : HO} (s : Same (upd H d o) H') : H' d = some o := s _ _ upd_same
/-! ### choices -/
def ChP (C : Addr) (H : Hp) (a : Addr) (ps : Nat → Pr) (m : Nat) : Prop := ∃ vs, H a = some (.lst vs) ∧ vs.length = m ∧ ∀ i : Nat, i < m → ∃ r, vs[i]? = some (.ref r) ∧ RuleP C H r (ps i)
theorem ChP.mono {C : Addr} {H H' : Hp} {a : Addr} {ps : Nat → Pr} {m : Nat} (s : Same H H') (h : ChP C H a ps m) : ChP C H' a ps m := by
  obtain ⟨vs, e, l, k⟩ := h
  refine ⟨vs, s _ _ e, l, fun i hi => ?_⟩
  obtain ⟨r, h1, h2⟩ := k i hi
  exact ⟨r, h1, h2.mono s⟩
theorem ChP.lock {C : Addr} {H : Hp} {a d : Addr} {ps : Nat → Pr} {m : Nat} {kvs : List (Key × V)} {o : HO} (e : H d = some (.dK kvs)) (h : ChP C H a ps m) : ChP C (upd H d o) a ps m := by
  obtain ⟨vs, e1, l, k⟩ := h
  refine ⟨vs, by rw [upd_ne (fun z => by rw [z, e] at e1; cases e1)]; exact e1, l, fun i hi => ?_⟩
  obtain ⟨r, h1, h2⟩ := k i hi
  exact ⟨r, h1, h2.lock e⟩
theorem ChP.good {C : Addr} {H : Hp} {a : Addr} {ps : Nat → Pr} {m i : Nat} (h : ChP C H a ps m) (hi : i < m) : Good (ps i) := by
  obtain ⟨vs, e1, l, k⟩ := h
  obtain ⟨r, h1, h2⟩ := k i hi
  exact h2.good
def natI (l : List Nat) : List Int := l.map fun (i : Nat) => (i : Int)
theorem natI_inj : ∀ {a b : List Nat}, natI a = natI b → a = b
  | [], [], _ => rfl
  | [], _ :: _, h => by cases h
  | _ :: _, [], h => by cases h
  | x :: xs, y :: ys, h => by
    have h : (x : Int) :: natI xs = (y : Int) :: natI ys := h
    injection h with h1 h2
    rw [natI_inj h2, show x = y by omega]
theorem natI_asc {l : List Nat} (h : l.Pairwise (· < ·)) : (natI l).Pairwise (· < ·) := List.Pairwise.map _ (fun a b z => by omega) h
theorem asc_nodup {l : List Int} (h : l.Pairwise (· < ·)) : l.Nodup := h.imp fun z => by omega
def dN (l : List Nat) (g : Nat → Int) : List (Int × Int) := l.map fun (i : Nat) => ((i : Int), g i)
theorem dN_keys (l : List Nat) (g : Nat → Int) : (dN l g).map (·.1) = natI l := by unfold dN natI; rw [List.map_map]; rfl
def cheF (k : Int) (D : Addr) : List (Str × V) := [("place", .int k), ("against", .ref D)]
theorem che_place (k : Int) (D : Addr) : (cheF k D).lookup ("place" : Str) = some (.int k) := by rfl
theorem che_against (k : Int) (D : Addr) : (cheF k D).lookup ("against" : Str) = some (.ref D) := by
  have h : (("against" : Str) == "place") = false := by decide +kernel
  show (match (("against" : Str) == "place") with | true => some (V.int k) | false => _) = _
  rw [h]
  rfl
theorem che_meth (k : Int) (D : Addr) {m : Str} (h : (m == ("place" : Str)) = false) (h2 : (m == ("against" : Str)) = false) : (cheF k D).lookup m = none := by
  show (match (m == ("place" : Str)) with | true => some (V.int k) | false => (match (m == ("against" : Str)) with | true => some (V.ref D) | false => none)) = _
  rw [h, h2]
theorem put_che (k : Int) (D : Addr) : putF "against" (.ref D) (putF "place" (.int k) []) = cheF k D := by
  have h : ¬ (("place" : Str) = "against") := by decide +kernel
  show (if ("place" : Str) = "against" then [(("place" : Str), V.ref D)] else (("place" : Str), V.int k) :: putF "against" (V.ref D) []) = cheF k D
  rw [if_neg h]
  rfl
def CheP (C : Addr) (H : Hp) (x : Addr) (k : Int) (D : Addr) (ls : List (Int × Int)) : Prop := (∃ dx, H x = some (.ins C dx (cheF k D))) ∧ H D = some (.dK (dI ls))
theorem CheP.mono {C : Addr} {H H' : Hp} {x D : Addr} {k : Int} {ls : List (Int × Int)} (s : Same H H') (h : CheP C H x k D ls) : CheP C H' x k D ls := by
  obtain ⟨⟨dx, e⟩, e2⟩ := h
  exact ⟨⟨dx, s _ _ e⟩, s _ _ e2⟩
abbrev wkF (ps : Nat → Pr) (d : Int) : Nat → Int := fun i => work (ps i) d
abbrev fsF (ps : Nat → Pr) (n : Int) : Nat → Int := fun i => firstWith (ps i) (n + 1)
def spChkC (C : Addr) : Sp := fun vs H Q _ => ∃ (a : Addr) (ps : Nat → Pr) (m : Nat), vs = [.ref a] ∧ ChP C H a ps m ∧ (1 ≤ m ∧ m ≤ 40) ∧ ∀ H', Same H H' → Q .non H'
def spChkA (C : Addr) : Sp := fun vs H Q _ => ∃ (a : Addr) (ps : Nat → Pr) (m : Nat) (n d : Int), vs = [.ref a, .int n, .int d] ∧ ChP C H a ps m ∧ (1 ≤ m ∧ m ≤ 40) ∧ 0 ≤ n ∧ 0 ≤ d ∧ ∀ H', Same H H' → Q .non H'
def spAhead (C : Addr) : Sp := fun vs H Q _ => ∃ (a : Addr) (ps : Nat → Pr) (m k : Nat) (d : Int), vs = [.ref a, .int (k : Nat), .int d] ∧ ChP C H a ps m ∧ m ≤ 40 ∧ k < m ∧ (0 ≤ d ∧ d ≤ 10 ^ 21) ∧ ∀ H' t, Same H H' → H' t = some (.lst ((natI (aheadL (wkF ps d) m k)).map V.int)) → Q (.ref t) H'
def spIsOut (C : Addr) : Sp := fun vs H Q _ => ∃ (a b : Addr) (p q : Pr) (d N M : Int), vs = [.ref a, .ref b, .int d] ∧ RuleP C H a p ∧ RuleP C H b q ∧ (0 ≤ d ∧ d ≤ 10 ^ 21) ∧ TopR p d N ∧ TopR q d M ∧ ∀ H', Same H H' → Q (.bl (decide (work q d < work p d ∧ M ≤ N))) H'
def spCheI (C : Addr) : Sp := fun vs H Q _ => ∃ (self dx A : Addr) (H0 : Hp) (k : Int) (ls : List (Int × Int)), vs = [.ref self, .int k, .ref A] ∧ Same H0 H ∧ H0 self = none ∧ H self = some (.ins C dx []) ∧ H A = some (.dK (dI ls)) ∧ ∀ H' D, Same H0 H' → CheP C H' self k D ls → Q .non H'
def spCheap (CR C : Addr) : Sp := fun vs H Q _ => ∃ (a : Addr) (ps : Nat → Pr) (m : Nat) (n d : Int), vs = [.ref a, .int n, .int d] ∧ ChP CR H a ps m ∧ (1 ≤ m ∧ m ≤ 40) ∧ (0 ≤ n ∧ n ≤ 1900) ∧ (0 ≤ d ∧ d ≤ 10 ^ 21) ∧
  ∀ H', Same H H' → (fitsL (fsF ps n) d m = [] → Q .non H') ∧ (∀ x D k, CheapK (wkF ps d) (fsF ps n) d m k → CheP C H' x (k : Nat) D (dN (aheadL (wkF ps d) m k) (fsF ps n)) → Q (.ref x) H')
def spCheS (CR C : Addr) : Sp := fun vs H Q _ => ∃ (x a D : Addr) (ps : Nat → Pr) (m k : Nat) (n d : Int) (ks : List Nat) (g : Nat → Int), vs = [.ref x, .ref a, .int n, .int d] ∧ CheP C H x (k : Nat) D (dN ks g) ∧ ks.Pairwise (· < ·) ∧ (∀ l ∈ ks, l < m) ∧ ks.length ≤ 40 ∧ ChP CR H a ps m ∧ (1 ≤ m ∧ m ≤ 40) ∧ k < m ∧ (0 ≤ n ∧ n ≤ 1900) ∧ (0 ≤ d ∧ d ≤ 10 ^ 21) ∧
  ∀ H' b, Same H H' → (b = true ↔ d < fsF ps n k ∧ ks = aheadL (wkF ps d) m k ∧ ∀ l ∈ ks, g l = fsF ps n l ∧ fsF ps n l ≤ d) → Q (.bl b) H'
def spOutd (C : Addr) : Sp := fun vs H Q _ => ∃ (a : Addr) (ps : Nat → Pr) (m : Nat) (d : Int) (N : Nat → Int), vs = [.ref a, .int d] ∧ ChP C H a ps m ∧ (1 ≤ m ∧ m ≤ 40) ∧ (0 ≤ d ∧ d ≤ 10 ^ 21) ∧ (∀ i, i < m → TopR (ps i) d (N i)) ∧
  ∀ H' D, Same H H' → H' D = some (.dK (dI ((outL (wkF ps d) N m m).map fun q => ((q.1 : Int), (q.2 : Int))))) → Q (.ref D) H'
section
variable {P : Program} {w : World} {K : PySem.W.Frag} {mg : Str → Option Value} {base : Heap} {C_Rule C_Evidence C_Good C_Cheapest C_BadDay C_BadChoices : Addr}
theorem cal_check_choices (T : TX P K mg C_Rule C_Evidence C_Good C_Cheapest C_BadDay C_BadChoices) : Cal P w K mg base 3 "check_choices" (spChkC C_Rule) [] := by
  obtain ⟨f0, fd, D, dn⟩ := T.d_check_choices
  refine cal0 D (D.fn.binds dn fun _ _ _ _ _ _ us hl => match us, hl with | [_], _ => rfl) .nil sc_check_choices (by walk_at "len") (fun cdv A outer s H vs Q E hr h => ?_)
  obtain ⟨a, ps, m, rfl, ⟨vs, e, l, kk⟩, ⟨m0, m1⟩, k⟩ := h
  refine ⟨_, (pss_cons (ps_if (PW.pt (pw_or (pt_not (pt_val (pe_callB call_isiT (by rfl) T.b_isinstance (by decide +kernel) (pa_cons (pv 0) (pa_cons (pe_tup (pa_cons (pe_bltn (v := .ty "list") (u := .type "list") rfl T.b_list (by decide +kernel) rfl) (pa_cons (pe_bltn (v := .ty "tuple") (u := .type "tuple") rfl T.b_tuple (by decide +kernel) rfl) pa_nil))) pa_nil))))) (pw_or1 (pt_not (pt_chain op_le op_le pe_int (pe_callB cr_lenS (by rfl) T.b_len (by decide +kernel) (pa_cons (pv 0) pa_nil)) (pe_gc rfl T.g_MOST_CHOICES)))))) (pss_one ps_never) pss_nil)
      (pss_one (ps_for PassesOwn.never rfl (pi_enum (by rfl) T.b_enumerate (pa_cons (pv 0) pa_nil)) (pg_tup rfl (pgs_cons (pg_n 1 sc_check_choices.nd) (pgs_cons (pg_n 2 sc_check_choices.nd) pgs_nil))) (pss_one (ps_if (pt_not (pt_val (pe_callB (cr_isC T.i_Rule) (by rfl) T.b_isinstance (by decide +kernel) (pa_cons (pv 2) (pa_cons (pe_gc rfl T.g_Rule) pa_nil))))) (pss_one ps_never) pss_nil))))), ?_⟩
  walk_at "rd"
  refine rd_newT (by decide) fun u H1 _ s1 eu _ => ?_
  walk_at "rd"
  refine rd_isiTL (s1 _ _ e) eu ?_
  walk_at "rd"
  refine rd_lenL (s1 _ _ e) ?_
  rw [l]
  walk_at "rd"
  rw [decide_eq_true (by omega : (1 : Int) ≤ (m : Int))]
  walk_at "rd"
  rw [decide_eq_true (by omega : (m : Int) ≤ 40)]
  walk_at "rd"
  refine rd_enR (SqL.of (s1 _ _ e)) ?_
  refine forR_enum (xs := vs) (fun i σ H' => ∃ v1 v2, Same H H' ∧ σ = [some (.ref a), v1, v2]) (fun i σ H' ⟨_, _, s, _⟩ => SqL.of (s _ _ e)) ⟨none, none, s1, rfl⟩ ?_ ?_
  · rintro i y σ H2 q H3 hi ⟨v1, v2, s2, rfl⟩ _ s3 eq _
    have him : i < m := by rw [← l]; exact (List.getElem?_eq_some_iff.mp hi).1
    obtain ⟨r, h1, h2⟩ := kk i him
    rw [hi] at h1
    cases h1
    obtain ⟨dx, t1, t2, er⟩ := h2.ins
    refine rd_gtup eq rfl ?_
    walk_at "rd"
    refine rd_isC ((s2.trans s3) _ _ er) ?_
    walk_at "rd"
    exact ⟨_, _, s2.trans s3, rfl⟩
  · rintro σ H2 ⟨v1, v2, s2, rfl⟩
    walk_at "rd"
    exact k H2 s2
theorem cal_check_asked (T : TX P K mg C_Rule C_Evidence C_Good C_Cheapest C_BadDay C_BadChoices) : Cal P w K mg base 4 "check_asked" (spChkA C_Rule) [] := by
  obtain ⟨f0, fd, D, dn⟩ := T.d_check_asked
  have G_check_choices := cal_check_choices (P := P) (w := w) (base := base) T
  have G_check_number := cal_check_number (P := P) (w := w) (base := base) T
  refine cal0 D (D.fn.binds dn fun _ _ _ _ _ _ us hl => match us, hl with | [_, _, _], _ => rfl) .nil sc_check_asked (by walk_at "len") (fun cdv A outer s H vs Q E hr h => ?_)
  obtain ⟨a, ps, m, n, d, rfl, hc, hm, n0, d0, k⟩ := h
  refine ⟨_, (pss_cons (ps_expr (pe_c G_check_choices hr (by decide) rfl (pa_cons (pv 0) pa_nil)))
      (pss_cons (ps_expr (pe_c G_check_number hr (by decide) rfl (pa_cons (pv 1) pa_nil)))
      (pss_one (ps_expr (pe_c G_check_number hr (by decide) rfl (pa_cons (pv 2) pa_nil)))))), ?_⟩
  walk_at "rd"
  refine ⟨a, ps, m, rfl, hc, hm, fun H1 s1 => ?_⟩
  walk_at "rd"
  refine ⟨_, _, rfl, n0, ?_⟩
  walk_at "rd"
  refine ⟨_, _, rfl, d0, ?_⟩
  walk_at "rd"
  exact k H1 s1
theorem cal_ahead_of (T : TX P K mg C_Rule C_Evidence C_Good C_Cheapest C_BadDay C_BadChoices) : Cal P w K mg base 6 "ahead_of" (spAhead C_Rule) [] := by
  obtain ⟨f0, fd, D, dn⟩ := T.d_ahead_of
  have G_work := cal_work (P := P) (w := w) (base := base) T
  refine cal0 D (D.fn.binds dn fun _ _ _ _ _ _ us hl => match us, hl with | [_, _, _], _ => rfl) .nil sc_ahead_of (by walk_at "len") (fun cdv A outer s H vs Q E hr h => ?_)
  obtain ⟨a, ps, m, k', d, rfl, hc, hm, hk, ⟨d0, d1⟩, k⟩ := h
  obtain ⟨vs, e, l, kk⟩ := id hc
  have dd := far_dd
  obtain ⟨rk, ek, hrk⟩ := kk k' hk
  refine ⟨_, (pss_cons (ps_s 3 sc_ahead_of.nd (pe_c G_work hr (by decide) rfl (pa_cons (pe_ix ix_list (pv 0) (pv 1) (fun _ _ => rfl)) (pa_cons (pv 2) pa_nil))))
      (pss_cons (ps_setLc (i := 4) (own := [("choice", 5)]) (g := gName 5) (tt := tYes) rfl sc_ahead_of.nd rfl rfl (sw_true rfl rfl rfl (by decide +kernel)) (pi_list (pv 0)) (blkOk_by (own := [("choice", 5)]) (N := N_ahead_of) (sc := fnScope s_ahead_of) (by decide +kernel)) (fun _ _ _ _ _ => (pg_n 5 sc_ahead_of.nd)) (fun _ _ _ _ _ => pts_nil) (fun _ _ _ _ _ => (pe_c G_work hr (by decide) rfl (pa_cons (pv 5) (pa_cons (pv 2) pa_nil)))))
      (pss_one (ps_ret (pe_lc (own := [("late", 6), ("more", 7)]) (g := gTup _ 2 (gCons (gName 6) (gCons (gName 7) gNil))) (tt := _) rfl sc_ahead_of.nd (pi_enum (by rfl) T.b_enumerate (pa_cons (pv 4) pa_nil)) (blkOk_by (own := [("late", 6), ("more", 7)]) (N := N_ahead_of) (sc := fnScope s_ahead_of) (by decide +kernel)) (fun _ _ _ _ _ => (pg_tup rfl (pgs_cons (pg_n 6 sc_ahead_of.nd) (pgs_cons (pg_n 7 sc_ahead_of.nd) pgs_nil)))) (fun _ _ _ _ _ => (pts_one (PW.pt (pw_or (pt_cmpR op_lt (pv 7) (pv 3) (nomark _)) (pw_or1 (PW.pt (pw_and (pt_cmpR op_eq (pv 7) (pv 3) (nomark _)) (pw_and1 (pt_cmpR op_lt (pv 6) (pv 1) (nomark _)))))))))) (fun _ _ _ _ _ => (pv 6))))))), ?_⟩
  walk_at "rd"
  refine rd_ixL e (atI_nat' ek) ?_
  walk_at "rd"
  refine ⟨rk, _, _, rfl, hrk, ⟨d0, by omega⟩, fun H1 s1 => ?_⟩
  walk_at "rd"
  refine rd_lsR (SqL.of (s1 _ _ e)) ?_
  refine lcR_lst (xs := vs) (fun D j H' => Same H1 H' ∧ H' D = some (.lst (((List.range j).map (wkF ps d)).map V.int))) (fun D j H' _ ⟨s, _⟩ => SqL.of ((s1.trans s) _ _ e)) (fun D H' _ s e _ => ⟨s, e⟩) ?_ ?_
  · rintro D j v H2 hD hv ⟨s2, eD⟩
    have hj : j < m := by rw [← l]; exact (List.getElem?_eq_some_iff.mp hv).1
    obtain ⟨r, h1, h2⟩ := kk j hj
    rw [hv] at h1
    cases h1
    walk_at "rd"
    refine ⟨rfl, ?_⟩
    walk_at "rd"
    refine ⟨r, _, _, rfl, h2.mono (s1.trans s2), ⟨d0, by omega⟩, fun H3 s3 => ?_⟩
    refine rd_lcE (s3 _ _ eD) (by simp; omega) fun H4 eH4 eD4 => ?_
    refine ⟨by rw [eH4]; exact Same.mut (s2.trans s3) hD, ?_⟩
    rw [eD4, List.range_succ, List.map_append, List.map_append]
    rfl
  · rintro D H2 hD ⟨s2, eD⟩
    rw [l] at eD
    walk_at "rd"
    refine rd_enR (SqL.of eD) ?_
    refine lcR_enum (xs := ((List.range m).map (wkF ps d)).map V.int) (fun D2 j H' => Same H2 H' ∧ H' D2 = some (.lst ((natI ((List.range j).filter fun l => decide (wkF ps d l < wkF ps d k' ∨ wkF ps d l = wkF ps d k' ∧ l < k'))).map V.int))) (fun D2 j H' _ ⟨s, _⟩ => SqL.of (s _ _ eD)) (fun D2 H' _ s e _ => ⟨s, e⟩) ?_ ?_
    · rintro D2 j y H3 w H4 hD2 hy ⟨s3, eD2⟩ hw s4 ew _
      have hj : j < m := by have := (List.getElem?_eq_some_iff.mp hy).1; simpa using this
      rw [List.getElem?_map, List.getElem?_map, List.getElem?_range hj] at hy
      cases hy
      refine rd_gtup ew rfl ?_
      walk_at "rd"
      refine ⟨rfl, ?_⟩
      have eD24 := s4 _ _ eD2
      have hfl : ((List.range j).filter fun l => decide (wkF ps d l < wkF ps d k' ∨ wkF ps d l = wkF ps d k' ∧ l < k')).length ≤ j := by
        have := List.length_filter_le (fun l => decide (wkF ps d l < wkF ps d k' ∨ wkF ps d l = wkF ps d k' ∧ l < k')) (List.range j)
        rw [List.length_range] at this
        exact this
      have yes : wkF ps d j < wkF ps d k' ∨ wkF ps d j = wkF ps d k' ∧ j < k' → ∀ H5, Same H4 H5 → LcE D2 (fun H' => Same H2 H' ∧ H' D2 = some (.lst ((natI ((List.range (j + 1)).filter fun l => decide (wkF ps d l < wkF ps d k' ∨ wkF ps d l = wkF ps d k' ∧ l < k'))).map V.int))) (.int (j : Int)) H4 := by
        intro c _ _
        refine rd_lcE eD24 (by unfold natI; rw [List.length_map, List.length_map]; omega) fun H6 eH6 eD6 => ?_
        refine ⟨by rw [eH6]; exact Same.mut (s3.trans s4) hD2, ?_⟩
        rw [eD6, filter_succ, if_pos (by simpa using c)]
        unfold natI
        rw [List.map_append, List.map_append]
        rfl
      have no : ¬ (wkF ps d j < wkF ps d k' ∨ wkF ps d j = wkF ps d k' ∧ j < k') → Same H2 H4 ∧ H4 D2 = some (.lst ((natI ((List.range (j + 1)).filter fun l => decide (wkF ps d l < wkF ps d k' ∨ wkF ps d l = wkF ps d k' ∧ l < k'))).map V.int)) := by
        intro c
        refine ⟨s3.trans s4, ?_⟩
        rw [filter_succ, if_neg (by simpa using c), List.append_nil]
        exact eD24
      walk_at "rd"
      refine rd_ite (fun c1 => ?_) (fun c1 => ?_)
      · walk_at "rd"
        exact yes (.inl c1) _ (Same.refl _)
      walk_at "rd"
      refine rd_ite (fun c2 => ?_) (fun c2 => ?_)
      · walk_at "rd"
        refine rd_ite (fun c3 => ?_) (fun c3 => ?_)
        · walk_at "rd"
          exact yes (.inr ⟨c2, by omega⟩) _ (Same.refl _)
        · exact no (by rintro (z | z); exact c1 z; exact c3 (by omega))
      · walk_at "rd"
        exact no (by rintro (z | z); exact c1 z; exact c2 z.1)
    · rintro D2 H3 hD2 ⟨s3, eD2⟩
      rw [List.length_map, List.length_map, List.length_range] at eD2
      walk_at "rd"
      exact k H3 D2 ((s1.trans s2).trans s3) eD2
end
end Sl

set_option Elab.async false
set_option linter.all false
set_option maxRecDepth 100000
set_option maxHeartbeats 8000000
set_option exponentiation.threshold 9000
namespace Sl
open PySem L2 C8 StX Silt
local macro_rules | `(tactic| walk_at "side") => `(tactic| first
  | exact cdivw (by omega) (by omega)
  | exact cmulw (by omega) (by omega) (by omega) (by omega)
  | exact Or.inr ⟨by omega, by omega⟩
  | exact Or.inl ⟨by omega, by omega⟩
  | omega
  | exact ⟨by omega, by omega, by decide⟩
  | decide)
local macro_rules | `(tactic| walk_at "rd1") => `(tactic| first
  | with_reducible refine rd_seq ?_
  | with_reducible refine rd_asg ?_
  | with_reducible refine rd_drop ?_
  | with_reducible refine rd_ret ?_
  | with_reducible refine rd_retN ?_
  | with_reducible refine rd_ifS ?_
  | ((with_reducible refine rd_var0 ?_); refine ⟨_, rfl, ?_⟩)
  | with_reducible refine rd_c ?_
  | with_reducible refine rd_op ?_
  | with_reducible refine rd_un ?_
  | with_reducible refine rd_I0 ?_
  | with_reducible refine rd_U ?_
  | ((with_reducible refine rd_I ?c ?_); (case c => walk_at "side"))
  | with_reducible refine rd_ipI ?_
  | with_reducible refine rd_eqI ?_
  | with_reducible refine rd_neI ?_
  | with_reducible refine rd_test ?_
  | with_reducible refine rd_tB ?_
  | with_reducible refine rd_bl ?_
  | with_reducible refine rd_not ?_
  | with_reducible refine rd_and ?_
  | with_reducible refine rd_or ?_
  | with_reducible refine rd_andV ?_
  | with_reducible refine rd_orV ?_
  | with_reducible refine rd_notV ?_
  | with_reducible refine rd_ifE ?_
  | with_reducible refine rd_chain ?_
  | with_reducible refine rd_chain3 ?_
  | with_reducible refine rd_nil ?_
  | with_reducible refine rd_cons ?_
  | with_reducible refine rd_call ?_
  | with_reducible refine rd_CB ?_
  | with_reducible refine rd_par ?_
  | with_reducible refine rd_par2 ?_
  | with_reducible refine rd_par3 ?_
  | with_reducible refine rd_par4 ?_
  | ((with_reducible refine rd_aug0 ?_); refine ⟨_, rfl, ?_⟩)
  | with_reducible refine rd_gname ?_
  | with_reducible refine rd_gcons ?_
  | with_reducible refine rd_gnil ?_
  | with_reducible refine rd_max ?_
  | with_reducible refine rd_min ?_
  | with_reducible refine rd_int1 ?_
  | with_reducible refine rd_abs ?_
  | with_reducible refine rd_lst ?_
  | with_reducible refine rd_tup ?_
  | with_reducible refine rd_bm ?_
  | with_reducible refine rd_fld0 ?_
  | with_reducible refine rd_sl0 ?_
  | with_reducible refine rd_noP ?_
  | with_reducible refine rd_part ?_
  | with_reducible refine rd_part2 ?_
  | with_reducible refine rd_meth0 ?_
  | with_reducible refine rd_star ?_
  | with_reducible refine rd_for ?_
  | with_reducible refine rd_rng1 ?_
  | with_reducible refine rd_rng2 ?_
  | with_reducible refine rd_rng3 ?_
  | with_reducible refine rd_iList ?_
  | with_reducible refine rd_iTup ?_
  | with_reducible refine rd_iEnum ?_
  | with_reducible refine rd_lc ?_
  | with_reducible refine rd_yes ?_
  | with_reducible refine rd_augS ?_
  | with_reducible refine rd_drawNew ?_
  | with_reducible refine rd_make0 ?_
  | with_reducible refine rd_next ?_
  | with_reducible refine rd_break ?_
  | with_reducible refine rd_cont ?_
  | with_reducible refine rd_iteTT ?_
  | with_reducible refine rd_iteFF ?_
  | with_reducible refine rd_iteNTT ?_
  | with_reducible refine rd_iteNFF ?_
  | with_reducible refine rd_con0 ?_
  | with_reducible refine rd_truO0 ?_
  | with_reducible refine rd_gfld0 ?_
  | with_reducible refine rd_dc ?_
  | with_reducible refine rd_iKeys ?_
  | with_reducible refine rd_dget0 ?_
  | with_reducible refine rd_dput0 ?_
  | with_reducible refine rd_dnot0 ?_
  | with_reducible refine rd_iEnumT ?_
  | with_reducible refine rd_raP0 ?_
  | with_reducible refine rd_xf0 ?_
  | with_reducible refine rd_asgG ?_)
local macro_rules | `(tactic| walk_at "rd") => `(tactic| repeat walk_at "rd1")
local macro_rules | `(tactic| walk_at "len") => `(tactic| first
  | (intro vs H Q E h; obtain ⟨h2, _⟩ := h; rw [h2]; rfl)
  | (intro vs H Q E h; obtain ⟨_, h2, _⟩ := h; rw [h2]; rfl)
  | (intro vs H Q E h; obtain ⟨_, _, h2, _⟩ := h; rw [h2]; rfl)
  | (intro vs H Q E h; obtain ⟨_, _, _, h2, _⟩ := h; rw [h2]; rfl)
  | (intro vs H Q E h; obtain ⟨_, _, _, _, h2, _⟩ := h; rw [h2]; rfl)
  | (intro vs H Q E h; obtain ⟨_, _, _, _, _, h2, _⟩ := h; rw [h2]; rfl)
  | (intro vs H Q E h; obtain ⟨_, _, _, _, _, _, h2, _⟩ := h; rw [h2]; rfl)
  | (intro vs H Q E h; obtain ⟨_, _, _, _, _, _, _, h2, _⟩ := h; rw [h2]; rfl)
  | (intro vs H Q E h; obtain ⟨_, _, _, _, _, _, _, _, h2, _⟩ := h; rw [h2]; rfl)
  | (intro vs H Q E h; obtain ⟨_, _, _, _, _, _, _, _, _, h2, _⟩ := h; rw [h2]; rfl)
  | (intro vs H Q E h; obtain ⟨_, _, _, _, _, _, _, _, _, _, h2, _⟩ := h; rw [h2]; rfl)
  | (intro vs H Q E h; obtain ⟨_, _, _, _, _, _, _, _, _, _, _, h2, _⟩ := h; rw [h2]; rfl)
  | (intro vs H Q E h; obtain ⟨_, _, _, _, _, _, _, _, _, _, _, _, h2, _⟩ := h; rw [h2]; rfl))
theorem natI_len (l : List Nat) : (natI l).length = l.length := by unfold natI; rw [List.length_map]
theorem natI_get {l : List Nat} {j : Nat} {x : Nat} (h : l[j]? = some x) : (natI l)[j]? = some (x : Int) := by unfold natI; rw [List.getElem?_map, h]; rfl
theorem filt_len (b : Nat → Bool) (m : Nat) : ((List.range m).filter b).length ≤ m := by
  have := List.length_filter_le b (List.range m)
  rw [List.length_range] at this
  exact this
theorem top_bound {p : Pr} (g : Good p) {d N : Int} (h : TopR p d N) (hd : d ≤ 10 ^ 21) : N ≤ 840 := by
  have := firstWith_bound g h.1 h.2.1 (n := 70) (by have := far_bits; omega)
  omega
theorem dN_take (l : List Nat) (g : Nat → Int) {j x : Nat} (h : l[j]? = some x) : dN (l.take (j + 1)) g = dN (l.take j) g ++ [((x : Int), g x)] := by
  unfold dN
  rw [List.take_succ, h, List.map_append]
  rfl
theorem nodup_take {l : List Nat} (h : l.Pairwise (· < ·)) {j x : Nat} (e : l[j]? = some x) : ∀ y ∈ l.take j, y < x := by
  intro y hy
  obtain ⟨i, hi⟩ := List.mem_iff_getElem?.mp hy
  have hil : i < j := by
    have := (List.getElem?_eq_some_iff.mp hi).1
    rw [List.length_take] at this
    omega
  rw [List.getElem?_take_of_lt hil] at hi
  obtain ⟨h1, e1⟩ := List.getElem?_eq_some_iff.mp hi
  obtain ⟨h2, e2⟩ := List.getElem?_eq_some_iff.mp e
  have := List.pairwise_iff_getElem.mp h i j h1 h2 hil
  omega
theorem dN_new {l : List Nat} (h : l.Pairwise (· < ·)) (g : Nat → Int) {j x : Nat} (e : l[j]? = some x) : ∀ q ∈ dN (l.take j) g, q.1 ≠ (x : Int) := by
  intro q hq
  obtain ⟨y, hy, rfl⟩ := List.mem_map.mp hq
  have := nodup_take h e y hy
  show (y : Int) ≠ (x : Int)
  omega
section
variable {P : Program} {w : World} {K : PySem.W.Frag} {mg : Str → Option Value} {base : Heap} {C_Rule C_Evidence C_Good C_Cheapest C_BadDay C_BadChoices : Addr}
theorem cal_is_outdone (T : TX P K mg C_Rule C_Evidence C_Good C_Cheapest C_BadDay C_BadChoices) : Cal P w K mg base 6 "is_outdone" (spIsOut C_Rule) [] := by
  obtain ⟨f0, fd, D, dn⟩ := T.d_is_outdone
  have G_work := cal_work (P := P) (w := w) (base := base) T
  have G_first_with := cal_first_with (P := P) (w := w) (base := base) T
  refine cal0 D (D.fn.binds dn fun _ _ _ _ _ _ us hl => match us, hl with | [_, _, _], _ => rfl) .nil sc_is_outdone (by walk_at "len") (fun cdv A outer s H vs Q E hr h => ?_)
  obtain ⟨a, b, p, q, d, N, M, rfl, hp, hq, ⟨d0, d1⟩, hN, hM, k⟩ := h
  have gp := hp.good
  have gq := hq.good
  have dd := far_dd
  have nb := top_bound gp hN d1
  refine ⟨_, (pss_cons (ps_if (pt_cmpR op_ge (pe_c G_work hr (by decide) rfl (pa_cons (pv 1) (pa_cons (pv 2) pa_nil))) (pe_c G_work hr (by decide) rfl (pa_cons (pv 0) (pa_cons (pv 2) pa_nil))) (nomark _)) (pss_one (ps_ret pe_bl)) pss_nil)
      (pss_cons (ps_s 3 sc_is_outdone.nd pe_int)
      (pss_cons (ps_while PassesOwn.never (pt_cmpR op_le (pe_c G_first_with hr (by decide) rfl (pa_cons (pv 0) (pa_cons (pv 3) pa_nil))) (pv 2) (nomark _)) (pss_one (ps_au 3 sc_is_outdone.nd pe_int ip_add)))
      (pss_one (ps_ret (pe_cmpR op_gt (pe_c G_first_with hr (by decide) rfl (pa_cons (pv 1) (pa_cons (pv 3) pa_nil))) (pv 2) (nomark _))))))), ?_⟩
  walk_at "rd"
  refine ⟨b, q, _, rfl, hq, ⟨d0, by omega⟩, fun H1 s1 => ?_⟩
  walk_at "rd"
  refine ⟨a, p, _, rfl, hp.mono s1, ⟨d0, by omega⟩, fun H2 s2 => ?_⟩
  walk_at "rd"
  have s12 := s1.trans s2
  refine rd_ite (fun c => ?_) (fun c => ?_)
  · walk_at "rd"
    have := k H2 s12
    rw [decide_eq_false (fun z => by omega)] at this
    exact this
  walk_at "rd"
  refine rd_while (fun n σ H' => ∃ (j : Int), n = (N - j).toNat ∧ 0 ≤ j ∧ j ≤ N ∧ Same H H' ∧ σ = [some (.ref a), some (.ref b), some (.int d), some (.int (j + 1))]) _ ⟨0, rfl, by decide, hN.1, s12, rfl⟩ ?_
  rintro n σ H3 ⟨j, rfl, j0, j1, s3, rfl⟩
  walk_at "rd"
  refine ⟨a, p, _, rfl, hp.mono s3, ⟨by omega, by omega⟩, fun H4 s4 => ?_⟩
  walk_at "rd"
  have hle := hN.le gp (m := j + 1) (by omega)
  refine rd_ite (fun c1 => ?_) (fun c1 => ?_)
  · refine rd_whN ?_
    walk_at "rd"
    have := hle.mp c1
    exact ⟨(N - (j + 1)).toNat, by omega, j + 1, rfl, by omega, by omega, s3.trans s4, rfl⟩
  · have ej : j = N := by
      rcases Int.lt_or_eq_of_le j1 with z | z
      · exact absurd (hle.mpr (by omega)) c1
      · exact z
    subst ej
    walk_at "rd"
    refine ⟨b, q, _, rfl, hq.mono (s3.trans s4), ⟨by omega, by omega⟩, fun H5 s5 => ?_⟩
    walk_at "rd"
    have := k H5 ((s3.trans s4).trans s5)
    have hle2 := hM.le gq (m := j + 1) (by omega)
    have e : decide (work q d < work p d ∧ M ≤ j) = decide (d < firstWith q (j + 1)) := by
      rw [decide_eq_decide]
      constructor
      · intro z
        rcases Int.lt_or_le d (firstWith q (j + 1)) with y | y
        · exact y
        · have := hle2.mp y; omega
      · intro z
        refine ⟨by omega, ?_⟩
        rcases Int.lt_or_le j M with y | y
        · have := hle2.mpr (by omega); omega
        · exact y
    rw [e] at this
    exact this
theorem mak_Cheapest_init (T : TX P K mg C_Rule C_Evidence C_Good C_Cheapest C_BadDay C_BadChoices) : Mak P w K mg base 1 "Cheapest" C_Cheapest (spCheI C_Cheapest) [] := by
  obtain ⟨f0, fd, D, dn, mk⟩ := T.m_Cheapest_init
  refine mak0 mk T.mg_Cheapest D (D.binds dn fun _ _ _ _ _ _ us hl => match us, hl with | [_, _, _], _ => rfl) .nil sc_Cheapest_init (by walk_at "len") (fun cdv A outer s H vs Q E hr h => ?_)
  obtain ⟨self, dx, A, H0, k', ls, rfl, s0, h0, eS, eA, k⟩ := h
  refine ⟨_, (pss_cons (ps_asg (pv 1) (pg_attr (pv 0)))
      (pss_one (ps_asg (pe_callTy cr_dictD (by rfl) T.b_dict (by decide +kernel) (pa_cons (pv 2) pa_nil)) (pg_attr (pv 0))))), ?_⟩
  walk_at "rd"
  refine rd_gfld eS T.cl_Cheapest T.na_Cheapest_place (by decide) fun H1 e1 e1' => ?_
  walk_at "rd"
  have eA1 : H1 A = some (.dK (dI ls)) := by
    rw [e1, upd_ne (fun z => by rw [z, eS] at eA; cases eA)]
    exact eA
  refine rd_dictD eA1 fun D H2 hD s2 eD eH2 => ?_
  walk_at "rd"
  refine rd_gfld (s2 _ _ e1') T.cl_Cheapest T.na_Cheapest_against (by show 1 < 1000; decide) fun H3 e3 e3' => ?_
  walk_at "rd"
  rw [put_che] at e3'
  have hDs : D ≠ self := fun z => by rw [z, e1'] at hD; cases hD
  refine k H3 D ?_ ⟨⟨dx, e3'⟩, by rw [e3, upd_ne hDs]; exact eD⟩
  rw [e3]
  refine Same.mut ?_ h0
  refine Same.trans ?_ s2
  rw [e1]
  exact Same.mut s0 h0
theorem cal_cheapest (T : TX P K mg C_Rule C_Evidence C_Good C_Cheapest C_BadDay C_BadChoices) : Cal P w K mg base 7 "cheapest" (spCheap C_Rule C_Cheapest) [] := by
  obtain ⟨f0, fd, D, dn⟩ := T.d_cheapest
  have G_check_asked := cal_check_asked (P := P) (w := w) (base := base) T
  have G_first_with := cal_first_with (P := P) (w := w) (base := base) T
  have G_work := cal_work (P := P) (w := w) (base := base) T
  have G_Cheapest_init := mak_Cheapest_init (P := P) (w := w) (base := base) T
  have G_ahead_of := cal_ahead_of (P := P) (w := w) (base := base) T
  refine cal0 D (D.fn.binds dn fun _ _ _ _ _ _ us hl => match us, hl with | [_, _, _], _ => rfl) .nil sc_cheapest (by walk_at "len") (fun cdv A outer s H vs Q E hr h => ?_)
  obtain ⟨a, ps, m, n, d, rfl, hc, ⟨m0, m1⟩, ⟨n0, n1⟩, ⟨d0, d1⟩, k⟩ := h
  obtain ⟨vs, e, l, kk⟩ := id hc
  have dd := far_dd
  refine ⟨_, (pss_cons (ps_expr (pe_c G_check_asked hr (by decide) rfl (pa_cons (pv 0) (pa_cons (pv 1) (pa_cons (pv 2) pa_nil)))))
      (pss_cons (ps_setLc (i := 3) (own := [("place", 4), ("choice", 5)]) (g := gTup _ 2 (gCons (gName 4) (gCons (gName 5) gNil))) (tt := _) rfl sc_cheapest.nd rfl rfl (sw_true rfl rfl rfl (by decide +kernel)) (pi_enum (by rfl) T.b_enumerate (pa_cons (pv 0) pa_nil)) (blkOk_by (own := [("place", 4), ("choice", 5)]) (N := N_cheapest) (sc := fnScope s_cheapest) (by decide +kernel)) (fun _ _ _ _ _ => (pg_tup rfl (pgs_cons (pg_n 4 sc_cheapest.nd) (pgs_cons (pg_n 5 sc_cheapest.nd) pgs_nil)))) (fun _ _ _ _ _ => (pts_one (pt_cmpR op_gt (pe_c G_first_with hr (by decide) rfl (pa_cons (pv 5) (pa_cons (pe_op op_add (pv 1) pe_int) pa_nil))) (pv 2) (nomark _)))) (fun _ _ _ _ _ => (pv 4)))
      (pss_cons (ps_if (pt_cmpR (op_eqD hr.units) (pv 3) (pe_lst pa_nil) (nomark _)) (pss_one (ps_ret pe_non)) pss_nil)
      (pss_cons (ps_asg (pe_callB (cr_minP rfl hr) (by rfl) T.b_min (by decide +kernel) (pa_cons (pe_lc (own := [("place", 4)]) (g := gName 4) (tt := tYes) rfl sc_cheapest.nd (pi_list (pv 3)) (blkOk_by (own := [("place", 4)]) (N := N_cheapest) (sc := fnScope s_cheapest) (by decide +kernel)) (fun _ _ _ _ _ => (pg_n 4 sc_cheapest.nd)) (fun _ _ _ _ _ => pts_nil) (fun _ _ _ _ _ => (pe_tup (pa_cons (pe_c G_work hr (by decide) rfl (pa_cons (pe_ix (ixK rIxL K ix_list) (pv 0) (pv 4) (fun _ _ => rfl)) (pa_cons (pv 2) pa_nil))) (pa_cons (pv 4) pa_nil))))) pa_nil)) (pg_tup rfl (pgs_cons (pg_n 6 sc_cheapest.nd) (pgs_cons (pg_n 4 sc_cheapest.nd) pgs_nil))))
      (pss_one (ps_ret (pe_mk G_Cheapest_init hr (by decide) rfl (pa_cons (pv 4) (pa_cons (pe_dc (own := [("late", 7)]) (g := gName 7) (tt := tYes) rfl sc_cheapest.nd (pi_list (pe_c G_ahead_of hr (by decide) rfl (pa_cons (pv 0) (pa_cons (pv 4) (pa_cons (pv 2) pa_nil))))) (blkOk_by (own := [("late", 7)]) (N := N_cheapest) (sc := fnScope s_cheapest) (by decide +kernel)) (fun _ _ _ _ _ => (pg_n 7 sc_cheapest.nd)) (fun _ _ _ _ _ => pts_nil) (fun _ _ _ _ _ => (pv 7)) (fun _ _ _ _ _ => (pe_c G_first_with hr (by decide) rfl (pa_cons (pe_ix (ixK rIxL K ix_list) (pv 0) (pv 7) (fun _ _ => rfl)) (pa_cons (pe_op op_add (pv 1) pe_int) pa_nil))))) pa_nil))))))))), ?_⟩
  walk_at "rd"
  refine ⟨a, ps, m, _, _, rfl, hc, ⟨m0, m1⟩, n0, d0, fun H1 s1 => ?_⟩
  walk_at "rd"
  refine rd_enR (SqL.of (s1 _ _ e)) ?_
  refine lcR_enum (xs := vs) (fun D j H' => Same H1 H' ∧ H' D = some (.lst ((natI ((List.range j).filter fun i => decide (d < fsF ps n i))).map V.int))) (fun D j H' _ ⟨s, _⟩ => SqL.of ((s1.trans s) _ _ e)) (fun D H' _ s e _ => ⟨s, e⟩) ?_ ?_
  · rintro D j y H2 w H3 hD hy ⟨s2, eD⟩ hw s3 ew _
    have hj : j < m := by rw [← l]; exact (List.getElem?_eq_some_iff.mp hy).1
    obtain ⟨r, h1, h2⟩ := kk j hj
    rw [hy] at h1
    cases h1
    refine rd_gtup ew rfl ?_
    walk_at "rd"
    refine ⟨rfl, ?_⟩
    walk_at "rd"
    refine ⟨r, _, _, rfl, h2.mono ((s1.trans s2).trans s3), ⟨by omega, by omega⟩, fun H4 s4 => ?_⟩
    walk_at "rd"
    have fl := filt_len (fun i => decide (d < fsF ps n i)) j
    refine rd_ite (fun c => ?_) (fun c => ?_)
    · walk_at "rd"
      refine rd_lcE ((s3.trans s4) _ _ eD) (by rw [List.length_map, natI_len]; omega) fun H5 eH5 eD5 => ?_
      refine ⟨by rw [eH5]; exact Same.mut ((s2.trans s3).trans s4) hD, ?_⟩
      rw [eD5, filter_succ, if_pos (by simpa using c)]
      unfold natI
      rw [List.map_append, List.map_append]
      rfl
    · refine ⟨(s2.trans s3).trans s4, ?_⟩
      rw [filter_succ, if_neg (by simpa using c), List.append_nil]
      exact (s3.trans s4) _ _ eD
  rintro D H2 hD ⟨s2, eD⟩
  rw [l] at eD
  have s12 := s1.trans s2
  walk_at "rd"
  refine rd_newL (by simp) fun u H3 _ s3 eu _ => ?_
  refine rd_eqD (.lst (s3 _ _ eD) (DtAll.intsD _)) (.lst eu .nil) (shaped_ints _) (by decide) ?_
  rw [eqv_nil]
  walk_at "rd"
  generalize hfi : (List.range m).filter (fun i => decide (d < fsF ps n i)) = fi at *
  have hfit : fitsL (fsF ps n) d m = fi := hfi
  refine rd_ite (fun c => ?_) (fun c => ?_)
  · walk_at "rd"
    refine (k H3 (s12.trans s3)).1 ?_
    rw [hfit]
    cases fi with
    | nil => rfl
    | cons x xs => cases c
  have fin : ∀ x ∈ fi, x < m ∧ d < fsF ps n x := by
    intro x hx
    rw [← hfi] at hx
    obtain ⟨h1, h2⟩ := List.mem_filter.mp hx
    exact ⟨List.mem_range.mp h1, of_decide_eq_true h2⟩
  have fall : ∀ x, x < m → d < fsF ps n x → x ∈ fi := by
    intro x h1 h2
    rw [← hfi]
    exact List.mem_filter.mpr ⟨List.mem_range.mpr h1, decide_eq_true h2⟩
  have fl := filt_len (fun i => decide (d < fsF ps n i)) m
  rw [hfi] at fl
  have s13 := s12.trans s3
  have eD3 := s3 _ _ eD
  walk_at "rd"
  refine rd_lsR (SqL.of eD3) ?_
  refine lcR_lst (xs := (natI fi).map V.int) (fun D2 j H' => Same H3 H' ∧ ∃ ys, H' D2 = some (.lst ys) ∧ DnAll H' ys ((fi.take j).map fun i => pairD (wkF ps d i, (i : Int)))) (fun D2 j H' _ ⟨s, _⟩ => SqL.of (s _ _ eD3)) (fun D2 H' _ s e _ => ⟨s, [], e, .nil⟩) ?_ ?_
  · rintro D2 j v H4 hD2 hv ⟨s4, ys, eD2, dy⟩
    obtain ⟨i, hi, rfl⟩ : ∃ i : Nat, fi[j]? = some i ∧ v = V.int (i : Int) := by
      unfold natI at hv
      rw [List.map_map, List.getElem?_map] at hv
      cases q : fi[j]? with
      | none => rw [q] at hv; cases hv
      | some i => rw [q] at hv; exact ⟨i, rfl, (Option.some.inj hv).symm⟩
    have him := fin i (List.mem_of_getElem? hi)
    have hjl : j < fi.length := (List.getElem?_eq_some_iff.mp hi).1
    obtain ⟨r, h1, h2⟩ := kk i him.1
    walk_at "rd"
    refine ⟨rfl, ?_⟩
    walk_at "rd"
    refine rd_ixL ((s13.trans s4) _ _ e) (atI_nat' h1) ?_
    walk_at "rd"
    refine ⟨r, _, _, rfl, h2.mono (s13.trans s4), ⟨d0, by omega⟩, fun H5 s5 => ?_⟩
    walk_at "rd"
    refine rd_newT (by simp) fun w H6 _ s6 ew _ => ?_
    have e6 := (s5.trans s6) _ _ eD2
    refine rd_lcE e6 (by rw [dy.length, List.length_map, List.length_take]; omega) fun H7 eH7 eD7 => ?_
    refine ⟨by rw [eH7]; exact Same.mut ((s4.trans s5).trans s6) hD2, _, eD7, ?_⟩
    rw [List.take_succ, hi, List.map_append, eH7]
    refine DnAll.updL e6 ((dy.mono (s5.trans s6)).append (.cons ?_ .nil))
    exact .pair ew
  rintro D2 H4 hD2 ⟨s4, ys, eD2, dy⟩
  rw [List.length_map, natI_len, List.take_length] at dy
  have yl : ys.length = fi.length := by rw [dy.length, List.length_map]
  have fne : 0 < fi.length := by
    cases fi with
    | nil => exact absurd rfl c
    | cons x xs => simp
  walk_at "rd"
  refine rd_minP (ks := fi.map fun i => (wkF ps d i, (i : Int))) (SqL.of eD2) (by omega) (by rw [List.length_map]; exact yl.symm) (fun i x kk hx hk => ?_) fun i t kq hx hk et hmin => ?_
  · obtain ⟨dt, h1, h2⟩ := dy.getV hx
    rw [List.getElem?_map] at h1 hk
    cases q : fi[i]? with
    | none => rw [q] at hk; cases hk
    | some z =>
      rw [q] at h1 hk
      cases h1
      cases hk
      exact h2.dt.pair_inv
  obtain ⟨K0, hK0, rfl⟩ : ∃ z : Nat, z ∈ fi ∧ kq = (wkF ps d z, (z : Int)) := by
    rw [List.getElem?_map] at hk
    cases q : fi[i]? with
    | none => rw [q] at hk; cases hk
    | some z => rw [q] at hk; exact ⟨z, List.mem_of_getElem? q, (Option.some.inj hk).symm⟩
  have hKm := fin K0 hK0
  have hCK : CheapK (wkF ps d) (fsF ps n) d m K0 := by
    refine ⟨hKm.1, hKm.2, fun j hj hjF z => ?_⟩
    have := ltPr_iff.mp (hmin (wkF ps d j, (j : Int)) (List.mem_map.mpr ⟨j, fall j hj hjF, rfl⟩))
    apply this
    rcases z with z | ⟨z1, z2⟩
    · exact .inl z
    · exact .inr ⟨z1, by show (j : Int) < (K0 : Int); omega⟩
  have s14 := s13.trans s4
  refine rd_gtup et rfl ?_
  walk_at "rd"
  refine ⟨a, ps, m, K0, d, rfl, hc.mono s14, m1, hKm.1, ⟨d0, d1⟩, fun H5 A s5 eA => ?_⟩
  generalize hal : aheadL (wkF ps d) m K0 = al at *
  have s15 := s14.trans s5
  have alt : ∀ x ∈ al, x < m := by rw [← hal]; exact filter_lt
  have ala : al.Pairwise (· < ·) := by rw [← hal]; exact filter_asc
  have all : al.length ≤ m := by rw [← hal]; exact filt_len _ m
  refine rd_lsR (SqL.of eA) ?_
  refine dcR_lst (xs := (natI al).map V.int) (fun D3 j H' => Same H5 H' ∧ H' D3 = some (.dK (dI (dN (al.take j) (fsF ps n))))) (fun D3 j H' _ ⟨s, _⟩ => SqL.of (s _ _ eA)) (fun D3 H' _ s e _ => ⟨s, e⟩) ?_ ?_
  · rintro D3 j v H6 hD3 hv ⟨s6, eD3⟩
    obtain ⟨i, hi, rfl⟩ : ∃ i : Nat, al[j]? = some i ∧ v = V.int (i : Int) := by
      unfold natI at hv
      rw [List.map_map, List.getElem?_map] at hv
      cases q : al[j]? with
      | none => rw [q] at hv; cases hv
      | some i => rw [q] at hv; exact ⟨i, rfl, (Option.some.inj hv).symm⟩
    have him := alt i (List.mem_of_getElem? hi)
    obtain ⟨r, h1, h2⟩ := kk i him
    walk_at "rd"
    refine ⟨rfl, ?_⟩
    walk_at "rd"
    refine rd_ixL ((s15.trans s6) _ _ e) (atI_nat' h1) ?_
    walk_at "rd"
    refine ⟨r, _, _, rfl, h2.mono (s15.trans s6), ⟨by omega, by omega⟩, fun H7 s7 => ?_⟩
    refine rd_dcE (s7 _ _ eD3) (by unfold dN; rw [List.length_map, List.length_take]; omega) (dN_new ala _ hi) fun H8 eH8 eD8 => ?_
    refine ⟨by rw [eH8]; exact Same.mut (s6.trans s7) hD3, ?_⟩
    rw [eD8, dN_take _ _ hi]
  · rintro D3 H6 hD3 ⟨s6, eD3⟩
    rw [List.length_map, natI_len, List.take_length] at eD3
    walk_at "rd"
    refine rd_make fun x dx H7 s7 hx e7 => ?_
    refine ⟨x, dx, D3, H6, _, _, rfl, s7, hx, e7, s7 _ _ eD3, fun H8 D4 s8 cp => ⟨rfl, ?_⟩⟩
    have := (k H8 ((s15.trans s6).trans s8)).2 x D4 K0 hCK
    rw [hal] at this
    exact this cp
end
end Sl

set_option Elab.async false
set_option linter.all false
set_option maxRecDepth 100000
set_option maxHeartbeats 8000000
set_option exponentiation.threshold 9000
namespace Sl
open PySem L2 C8 StX Silt
local macro_rules | `(tactic| walk_at "side") => `(tactic| first
  | exact cdivw (by omega) (by omega)
  | exact cmulw (by omega) (by omega) (by omega) (by omega)
  | exact Or.inr ⟨by omega, by omega⟩
  | exact Or.inl ⟨by omega, by omega⟩
  | omega
  | exact ⟨by omega, by omega, by decide⟩
  | decide)
local macro_rules | `(tactic| walk_at "rd1") => `(tactic| first
  | with_reducible refine rd_seq ?_
  | with_reducible refine rd_asg ?_
  | with_reducible refine rd_drop ?_
  | with_reducible refine rd_ret ?_
  | with_reducible refine rd_retN ?_
  | with_reducible refine rd_ifS ?_
  | ((with_reducible refine rd_var0 ?_); refine ⟨_, rfl, ?_⟩)
  | with_reducible refine rd_c ?_
  | with_reducible refine rd_op ?_
  | with_reducible refine rd_un ?_
  | with_reducible refine rd_I0 ?_
  | with_reducible refine rd_U ?_
  | ((with_reducible refine rd_I ?c ?_); (case c => walk_at "side"))
  | with_reducible refine rd_ipI ?_
  | with_reducible refine rd_eqI ?_
  | with_reducible refine rd_neI ?_
  | with_reducible refine rd_test ?_
  | with_reducible refine rd_tB ?_
  | with_reducible refine rd_bl ?_
  | with_reducible refine rd_not ?_
  | with_reducible refine rd_and ?_
  | with_reducible refine rd_or ?_
  | with_reducible refine rd_andV ?_
  | with_reducible refine rd_orV ?_
  | with_reducible refine rd_notV ?_
  | with_reducible refine rd_ifE ?_
  | with_reducible refine rd_chain ?_
  | with_reducible refine rd_chain3 ?_
  | with_reducible refine rd_nil ?_
  | with_reducible refine rd_cons ?_
  | with_reducible refine rd_call ?_
  | with_reducible refine rd_CB ?_
  | with_reducible refine rd_par ?_
  | with_reducible refine rd_par2 ?_
  | with_reducible refine rd_par3 ?_
  | with_reducible refine rd_par4 ?_
  | ((with_reducible refine rd_aug0 ?_); refine ⟨_, rfl, ?_⟩)
  | with_reducible refine rd_gname ?_
  | with_reducible refine rd_gcons ?_
  | with_reducible refine rd_gnil ?_
  | with_reducible refine rd_max ?_
  | with_reducible refine rd_min ?_
  | with_reducible refine rd_int1 ?_
  | with_reducible refine rd_abs ?_
  | with_reducible refine rd_lst ?_
  | with_reducible refine rd_tup ?_
  | with_reducible refine rd_bm ?_
  | with_reducible refine rd_fld0 ?_
  | with_reducible refine rd_sl0 ?_
  | with_reducible refine rd_noP ?_
  | with_reducible refine rd_part ?_
  | with_reducible refine rd_part2 ?_
  | with_reducible refine rd_meth0 ?_
  | with_reducible refine rd_star ?_
  | with_reducible refine rd_for ?_
  | with_reducible refine rd_rng1 ?_
  | with_reducible refine rd_rng2 ?_
  | with_reducible refine rd_rng3 ?_
  | with_reducible refine rd_iList ?_
  | with_reducible refine rd_iTup ?_
  | with_reducible refine rd_iEnum ?_
  | with_reducible refine rd_lc ?_
  | with_reducible refine rd_yes ?_
  | with_reducible refine rd_augS ?_
  | with_reducible refine rd_drawNew ?_
  | with_reducible refine rd_make0 ?_
  | with_reducible refine rd_next ?_
  | with_reducible refine rd_break ?_
  | with_reducible refine rd_cont ?_
  | with_reducible refine rd_iteTT ?_
  | with_reducible refine rd_iteFF ?_
  | with_reducible refine rd_iteNTT ?_
  | with_reducible refine rd_iteNFF ?_
  | with_reducible refine rd_con0 ?_
  | with_reducible refine rd_truO0 ?_
  | with_reducible refine rd_gfld0 ?_
  | with_reducible refine rd_dc ?_
  | with_reducible refine rd_iKeys ?_
  | with_reducible refine rd_dget0 ?_
  | with_reducible refine rd_dput0 ?_
  | with_reducible refine rd_dnot0 ?_
  | with_reducible refine rd_iEnumT ?_
  | with_reducible refine rd_raP0 ?_
  | with_reducible refine rd_xf0 ?_
  | with_reducible refine rd_asgG ?_)
local macro_rules | `(tactic| walk_at "rd") => `(tactic| repeat walk_at "rd1")
local macro_rules | `(tactic| walk_at "len") => `(tactic| first
  | (intro vs H Q E h; obtain ⟨h2, _⟩ := h; rw [h2]; rfl)
  | (intro vs H Q E h; obtain ⟨_, h2, _⟩ := h; rw [h2]; rfl)
  | (intro vs H Q E h; obtain ⟨_, _, h2, _⟩ := h; rw [h2]; rfl)
  | (intro vs H Q E h; obtain ⟨_, _, _, h2, _⟩ := h; rw [h2]; rfl)
  | (intro vs H Q E h; obtain ⟨_, _, _, _, h2, _⟩ := h; rw [h2]; rfl)
  | (intro vs H Q E h; obtain ⟨_, _, _, _, _, h2, _⟩ := h; rw [h2]; rfl)
  | (intro vs H Q E h; obtain ⟨_, _, _, _, _, _, h2, _⟩ := h; rw [h2]; rfl)
  | (intro vs H Q E h; obtain ⟨_, _, _, _, _, _, _, h2, _⟩ := h; rw [h2]; rfl)
  | (intro vs H Q E h; obtain ⟨_, _, _, _, _, _, _, _, h2, _⟩ := h; rw [h2]; rfl)
  | (intro vs H Q E h; obtain ⟨_, _, _, _, _, _, _, _, _, h2, _⟩ := h; rw [h2]; rfl)
  | (intro vs H Q E h; obtain ⟨_, _, _, _, _, _, _, _, _, _, h2, _⟩ := h; rw [h2]; rfl)
  | (intro vs H Q E h; obtain ⟨_, _, _, _, _, _, _, _, _, _, _, h2, _⟩ := h; rw [h2]; rfl)
  | (intro vs H Q E h; obtain ⟨_, _, _, _, _, _, _, _, _, _, _, _, h2, _⟩ := h; rw [h2]; rfl))
def outD (W N : Nat → Int) (m i : Nat) : List (Int × Int) := (outL W N m i).map fun q => ((q.1 : Int), (q.2 : Int))
theorem outD_succ (W N : Nat → Int) (m i : Nat) : outD W N m (i + 1) = outD W N m i ++ match (betL W N i m).head? with | none => [] | some l => [((i : Int), (l : Int))] := by
  unfold outD
  rw [outL_succ, List.map_append]
  cases (betL W N i m).head? with
  | none => rfl
  | some l => rfl
theorem outD_no (W N : Nat → Int) (m i : Nat) : ∀ q ∈ outD W N m i, q.1 ≠ (i : Int) := by
  intro q hq
  obtain ⟨r, hr, rfl⟩ := List.mem_map.mp hq
  have := outL_lt r hr
  show (r.1 : Int) ≠ (i : Int)
  omega
theorem outD_len (W N : Nat → Int) (m : Nat) : ∀ i, (outD W N m i).length ≤ i
  | 0 => Nat.zero_le _
  | i + 1 => by
    rw [outD_succ, List.length_append]
    have := outD_len W N m i
    cases (betL W N i m).head? with
    | none => show _ + 0 ≤ i + 1; omega
    | some l => show _ + 1 ≤ i + 1; omega
theorem outD_asc (W N : Nat → Int) (m i : Nat) : ((outD W N m i).map (·.1)).Pairwise (· < ·) := by
  have h := outL_asc W N m i
  unfold outD
  rw [List.map_map]
  have e : ((fun x : Int × Int => x.1) ∘ fun q : Nat × Nat => ((q.1 : Int), (q.2 : Int))) = (fun z : Nat => (z : Int)) ∘ (fun q : Nat × Nat => q.1) := rfl
  rw [e, ← List.map_map]
  exact List.Pairwise.map _ (fun a b z => by omega) h
/-- the inner walk: what stands in the dict behind i others -/
def inD (W N : Nat → Int) (m k i : Nat) : List (Int × Int) := outD W N m k ++ match (betL W N k i).head? with | none => [] | some l => [((k : Int), (l : Int))]
section
variable {P : Program} {w : World} {K : PySem.W.Frag} {mg : Str → Option Value} {base : Heap} {C_Rule C_Evidence C_Good C_Cheapest C_BadDay C_BadChoices : Addr}
theorem cal_outdone (T : TX P K mg C_Rule C_Evidence C_Good C_Cheapest C_BadDay C_BadChoices) : Cal P w K mg base 7 "outdone" (spOutd C_Rule) [] := by
  obtain ⟨f0, fd, D, dn⟩ := T.d_outdone
  have G_check_choices := cal_check_choices (P := P) (w := w) (base := base) T
  have G_check_number := cal_check_number (P := P) (w := w) (base := base) T
  have G_is_outdone := cal_is_outdone (P := P) (w := w) (base := base) T
  refine cal0 D (D.fn.binds dn fun _ _ _ _ _ _ us hl => match us, hl with | [_, _], _ => rfl) .nil sc_outdone (by walk_at "len") (fun cdv A outer s H vs Q E hr h => ?_)
  obtain ⟨a, ps, m, d, N, rfl, hc, ⟨m0, m1⟩, ⟨d0, d1⟩, hN, k⟩ := h
  obtain ⟨vs, e, l, kk⟩ := id hc
  refine ⟨_, (pss_cons (ps_expr (pe_c G_check_choices hr (by decide) rfl (pa_cons (pv 0) pa_nil)))
      (pss_cons (ps_expr (pe_c G_check_number hr (by decide) rfl (pa_cons (pv 1) pa_nil)))
      (pss_cons (ps_s 2 sc_outdone.nd pe_dnewK)
      (pss_cons (ps_for PassesOwn.never rfl (pi_enum (by rfl) T.b_enumerate (pa_cons (pv 0) pa_nil)) (pg_tup rfl (pgs_cons (pg_n 3 sc_outdone.nd) (pgs_cons (pg_n 4 sc_outdone.nd) pgs_nil))) (pss_one (ps_for PassesOwn.never rfl (pi_enum (by rfl) T.b_enumerate (pa_cons (pv 0) pa_nil)) (pg_tup rfl (pgs_cons (pg_n 5 sc_outdone.nd) (pgs_cons (pg_n 6 sc_outdone.nd) pgs_nil))) (pss_one (ps_if (PW.pt (pw_and (pt_cmp (pc_dnotin (hu_of hr) (pv 3) (pv 2))) (pw_and (pt_cmpR op_ne (pv 5) (pv 3) (nomark _)) (pw_and1 (pt_val (pe_c G_is_outdone hr (by decide) rfl (pa_cons (pv 4) (pa_cons (pv 6) (pa_cons (pv 1) pa_nil))))))))) (pss_one (ps_dput (hu_of hr) (pv 2) (pv 3) (pv 5) rfl)) pss_nil)))))
      (pss_one (ps_ret (pv 2))))))), ?_⟩
  walk_at "rd"
  refine ⟨a, ps, m, rfl, hc, ⟨m0, m1⟩, fun H1 s1 => ?_⟩
  walk_at "rd"
  refine ⟨_, _, rfl, d0, ?_⟩
  walk_at "rd"
  refine rd_dnew fun D H2 hD s2 eD _ => ?_
  have s12 := s1.trans s2
  walk_at "rd"
  refine rd_enR (SqL.of (s12 _ _ e)) ?_
  refine forR_enum (xs := vs) (fun i σ H' => ∃ v3 v4 v5 v6, Same H1 H' ∧ H' D = some (.dK (dI (outD (wkF ps d) N m i))) ∧ σ = [some (.ref a), some (.int d), some (.ref D), v3, v4, v5, v6]) (fun i σ H' ⟨_, _, _, _, s, _⟩ => SqL.of ((s1.trans s) _ _ e)) ⟨none, none, none, none, s2, eD, rfl⟩ ?_ ?_
  · rintro i y σ H3 q H4 hi ⟨v3, v4, v5, v6, s3, eD3, rfl⟩ _ s4 eq _
    have him : i < m := by rw [← l]; exact (List.getElem?_eq_some_iff.mp hi).1
    obtain ⟨r, h1, h2⟩ := kk i him
    rw [hi] at h1
    cases h1
    refine rd_gtup eq rfl ?_
    walk_at "rd"
    have s34 := s3.trans s4
    have eD4 := s4 _ _ eD3
    refine rd_enR (SqL.of ((s1.trans s34) _ _ e)) ?_
    refine forR_enum (xs := vs) (fun j σ H' => ∃ v5 v6, Same H1 H' ∧ H' D = some (.dK (dI (inD (wkF ps d) N m i j))) ∧ σ = [some (.ref a), some (.int d), some (.ref D), some (.int (i : Nat)), some (.ref r), v5, v6]) (fun j σ H' ⟨_, _, s, _⟩ => SqL.of ((s1.trans s) _ _ e)) ⟨v5, v6, s34, ?_, rfl⟩ ?_ ?_
    · show H4 D = some (.dK (dI (outD (wkF ps d) N m i ++ [])))
      rw [List.append_nil]
      exact eD4
    · rintro j y2 σ H5 q2 H6 hj ⟨w5, w6, s5, eD5, rfl⟩ _ s6 eq2 _
      have hjm : j < m := by rw [← l]; exact (List.getElem?_eq_some_iff.mp hj).1
      obtain ⟨r2, g1, g2⟩ := kk j hjm
      rw [hj] at g1
      cases g1
      have eD6 := s6 _ _ eD5
      have s56 := s5.trans s6
      have hst : inD (wkF ps d) N m i (j + 1) = outD (wkF ps d) N m i ++ match ((betL (wkF ps d) N i j ++ if wkF ps d j < wkF ps d i ∧ N j ≤ N i then [j] else []).head?) with | none => [] | some l => [((i : Int), (l : Int))] := by
        unfold inD
        rw [betL_succ]
      refine rd_gtup eq2 rfl ?_
      walk_at "rd"
      refine rd_dnot eD6 ?_
      cases hb : betL (wkF ps d) N i j with
      | cons z zs =>
        have hin : inD (wkF ps d) N m i j = outD (wkF ps d) N m i ++ [((i : Int), (z : Int))] := by unfold inD; rw [hb]; rfl
        have hin2 : inD (wkF ps d) N m i (j + 1) = inD (wkF ps d) N m i j := by rw [hst, hb, hin]; rfl
        have hv : valV (dI (inD (wkF ps d) N m i j)) (Sum.inl (i : Int)) = some (.int (z : Int)) := by
          rw [hin]
          refine dI_at ?_ (List.mem_append_right _ (List.mem_singleton.mpr rfl))
          have := outD_asc (wkF ps d) N m (i + 1)
          rw [List.map_append, List.nodup_append]
          refine ⟨asc_nodup (outD_asc _ _ _ _), by simp, ?_⟩
          intro x hx y hy
          have hy : y = (i : Int) := by simpa using hy
          obtain ⟨w, hw, rfl⟩ := List.mem_map.mp hx
          rw [hy]
          exact outD_no _ _ _ _ w hw
        rw [hv, Option.isSome_some]
        walk_at "rd"
        refine ⟨_, _, s56, ?_, rfl⟩
        rw [hin2]
        exact eD6
      | nil =>
        have hin : inD (wkF ps d) N m i j = outD (wkF ps d) N m i := by unfold inD; rw [hb]; exact List.append_nil _
        rw [hin] at eD6
        have hv : valV (dI (outD (wkF ps d) N m i)) (Sum.inl (i : Int)) = none := dI_no (outD_no _ _ _ _)
        rw [hin, hv, Option.isSome_none]
        walk_at "rd"
        refine rd_iteN (fun c => ?_) (fun c => ?_)
        · walk_at "rd"
          refine ⟨r, r2, ps i, ps j, d, N i, N j, rfl, h2.mono (s1.trans s56), g2.mono (s1.trans s56), ⟨d0, d1⟩, hN i him, hN j hjm, fun H7 s7 => ?_⟩
          walk_at "rd"
          refine rd_ite (fun c2 => ?_) (fun c2 => ?_)
          · walk_at "rd"
            refine rd_dput (s7 _ _ eD6) (by have := outD_len (wkF ps d) N m i; omega) fun H8 eH8 eD8 => ?_
            rw [dI_putNew (outD_no _ _ _ _)] at eH8 eD8
            refine ⟨_, _, ?_, ?_, rfl⟩
            · rw [eH8]; exact Same.mut (s56.trans s7) hD
            · rw [eD8, hst, hb, if_pos c2]
              rfl
          · walk_at "rd"
            refine ⟨_, _, s56.trans s7, ?_, rfl⟩
            rw [hst, hb, if_neg c2]
            show H7 D = some (.dK (dI (outD (wkF ps d) N m i ++ [])))
            rw [List.append_nil]
            exact s7 _ _ eD6
        · have hji : j = i := by omega
          subst hji
          walk_at "rd"
          refine ⟨_, _, s56, ?_, rfl⟩
          rw [hst, hb, if_neg (by omega)]
          show H6 D = some (.dK (dI (outD (wkF ps d) N m j ++ [])))
          rw [List.append_nil]
          exact eD6
    · rintro σ H5 ⟨w5, w6, s5, eD5, rfl⟩
      walk_at "rd"
      refine ⟨_, _, _, _, s5, ?_, rfl⟩
      rw [l] at eD5
      rw [outD_succ]
      exact eD5
  · rintro σ H3 ⟨v3, v4, v5, v6, s3, eD3, rfl⟩
    rw [l] at eD3
    walk_at "rd"
    exact k H3 D (s1.trans s3) eD3
end
end Sl

set_option Elab.async false
set_option linter.all false
set_option maxRecDepth 100000
set_option maxHeartbeats 8000000
set_option exponentiation.threshold 9000
namespace Sl
open PySem L2 C8 StX Silt
local macro_rules | `(tactic| walk_at "side") => `(tactic| first
  | exact cdivw (by omega) (by omega)
  | exact cmulw (by omega) (by omega) (by omega) (by omega)
  | exact Or.inr ⟨by omega, by omega⟩
  | exact Or.inl ⟨by omega, by omega⟩
  | omega
  | exact ⟨by omega, by omega, by decide⟩
  | decide)
local macro_rules | `(tactic| walk_at "rd1") => `(tactic| first
  | with_reducible refine rd_seq ?_
  | with_reducible refine rd_asg ?_
  | with_reducible refine rd_drop ?_
  | with_reducible refine rd_ret ?_
  | with_reducible refine rd_retN ?_
  | with_reducible refine rd_ifS ?_
  | ((with_reducible refine rd_var0 ?_); refine ⟨_, rfl, ?_⟩)
  | with_reducible refine rd_c ?_
  | with_reducible refine rd_op ?_
  | with_reducible refine rd_un ?_
  | with_reducible refine rd_I0 ?_
  | with_reducible refine rd_U ?_
  | ((with_reducible refine rd_I ?c ?_); (case c => walk_at "side"))
  | with_reducible refine rd_ipI ?_
  | with_reducible refine rd_eqI ?_
  | with_reducible refine rd_neI ?_
  | with_reducible refine rd_test ?_
  | with_reducible refine rd_tB ?_
  | with_reducible refine rd_bl ?_
  | with_reducible refine rd_not ?_
  | with_reducible refine rd_and ?_
  | with_reducible refine rd_or ?_
  | with_reducible refine rd_andV ?_
  | with_reducible refine rd_orV ?_
  | with_reducible refine rd_notV ?_
  | with_reducible refine rd_ifE ?_
  | with_reducible refine rd_chain ?_
  | with_reducible refine rd_chain3 ?_
  | with_reducible refine rd_nil ?_
  | with_reducible refine rd_cons ?_
  | with_reducible refine rd_call ?_
  | with_reducible refine rd_CB ?_
  | with_reducible refine rd_par ?_
  | with_reducible refine rd_par2 ?_
  | with_reducible refine rd_par3 ?_
  | with_reducible refine rd_par4 ?_
  | ((with_reducible refine rd_aug0 ?_); refine ⟨_, rfl, ?_⟩)
  | with_reducible refine rd_gname ?_
  | with_reducible refine rd_gcons ?_
  | with_reducible refine rd_gnil ?_
  | with_reducible refine rd_max ?_
  | with_reducible refine rd_min ?_
  | with_reducible refine rd_int1 ?_
  | with_reducible refine rd_abs ?_
  | with_reducible refine rd_lst ?_
  | with_reducible refine rd_tup ?_
  | with_reducible refine rd_bm ?_
  | with_reducible refine rd_fld0 ?_
  | with_reducible refine rd_sl0 ?_
  | with_reducible refine rd_noP ?_
  | with_reducible refine rd_part ?_
  | with_reducible refine rd_part2 ?_
  | with_reducible refine rd_meth0 ?_
  | with_reducible refine rd_star ?_
  | with_reducible refine rd_for ?_
  | with_reducible refine rd_rng1 ?_
  | with_reducible refine rd_rng2 ?_
  | with_reducible refine rd_rng3 ?_
  | with_reducible refine rd_iList ?_
  | with_reducible refine rd_iTup ?_
  | with_reducible refine rd_iEnum ?_
  | with_reducible refine rd_lc ?_
  | with_reducible refine rd_yes ?_
  | with_reducible refine rd_augS ?_
  | with_reducible refine rd_drawNew ?_
  | with_reducible refine rd_make0 ?_
  | with_reducible refine rd_next ?_
  | with_reducible refine rd_break ?_
  | with_reducible refine rd_cont ?_
  | with_reducible refine rd_iteTT ?_
  | with_reducible refine rd_iteFF ?_
  | with_reducible refine rd_iteNTT ?_
  | with_reducible refine rd_iteNFF ?_
  | with_reducible refine rd_con0 ?_
  | with_reducible refine rd_truO0 ?_
  | with_reducible refine rd_gfld0 ?_
  | with_reducible refine rd_dc ?_
  | with_reducible refine rd_iKeys ?_
  | with_reducible refine rd_dget0 ?_
  | with_reducible refine rd_dput0 ?_
  | with_reducible refine rd_dnot0 ?_
  | with_reducible refine rd_iEnumT ?_
  | with_reducible refine rd_raP0 ?_
  | with_reducible refine rd_xf0 ?_
  | with_reducible refine rd_asgG ?_)
local macro_rules | `(tactic| walk_at "rd") => `(tactic| repeat walk_at "rd1")
local macro_rules | `(tactic| walk_at "len") => `(tactic| first
  | (intro vs H Q E h; obtain ⟨h2, _⟩ := h; rw [h2]; rfl)
  | (intro vs H Q E h; obtain ⟨_, h2, _⟩ := h; rw [h2]; rfl)
  | (intro vs H Q E h; obtain ⟨_, _, h2, _⟩ := h; rw [h2]; rfl)
  | (intro vs H Q E h; obtain ⟨_, _, _, h2, _⟩ := h; rw [h2]; rfl)
  | (intro vs H Q E h; obtain ⟨_, _, _, _, h2, _⟩ := h; rw [h2]; rfl)
  | (intro vs H Q E h; obtain ⟨_, _, _, _, _, h2, _⟩ := h; rw [h2]; rfl)
  | (intro vs H Q E h; obtain ⟨_, _, _, _, _, _, h2, _⟩ := h; rw [h2]; rfl)
  | (intro vs H Q E h; obtain ⟨_, _, _, _, _, _, _, h2, _⟩ := h; rw [h2]; rfl)
  | (intro vs H Q E h; obtain ⟨_, _, _, _, _, _, _, _, h2, _⟩ := h; rw [h2]; rfl)
  | (intro vs H Q E h; obtain ⟨_, _, _, _, _, _, _, _, _, h2, _⟩ := h; rw [h2]; rfl)
  | (intro vs H Q E h; obtain ⟨_, _, _, _, _, _, _, _, _, _, h2, _⟩ := h; rw [h2]; rfl)
  | (intro vs H Q E h; obtain ⟨_, _, _, _, _, _, _, _, _, _, _, h2, _⟩ := h; rw [h2]; rfl)
  | (intro vs H Q E h; obtain ⟨_, _, _, _, _, _, _, _, _, _, _, _, h2, _⟩ := h; rw [h2]; rfl))
theorem eqv_ints (a b : List Int) : PyData.eqv (.list (intsD a)) (.list (intsD b)) = decide (a = b) := by
  simp only [PyData.eqv]
  exact enc_int.all a b
theorem dIN_get {ks : List Nat} {g : Nat → Int} {j : Nat} {k : Key} {z : V} (h : (dI (dN ks g))[j]? = some (k, z)) : ∃ i : Nat, ks[j]? = some i ∧ k = Sum.inl (i : Int) ∧ z = V.int (g i) := by
  unfold dI dN at h
  rw [List.map_map, List.getElem?_map] at h
  cases q : ks[j]? with
  | none => rw [q] at h; cases h
  | some i => rw [q] at h; cases h; exact ⟨i, rfl, rfl, rfl⟩
theorem dN_at {ks : List Nat} (h : ks.Pairwise (· < ·)) (g : Nat → Int) {i : Nat} (m : i ∈ ks) : valV (dI (dN ks g)) (Sum.inl (i : Int)) = some (.int (g i)) := by
  refine dI_at ?_ (List.mem_map.mpr ⟨i, m, rfl⟩)
  rw [dN_keys]
  exact asc_nodup (natI_asc h)
theorem dN_len (ks : List Nat) (g : Nat → Int) : (dN ks g).length = ks.length := by unfold dN; rw [List.length_map]
section
variable {P : Program} {w : World} {K : PySem.W.Frag} {mg : Str → Option Value} {base : Heap} {C_Rule C_Evidence C_Good C_Cheapest C_BadDay C_BadChoices : Addr}
theorem met_Cheapest_shows (T : TX P K mg C_Rule C_Evidence C_Good C_Cheapest C_BadDay C_BadChoices) : Met P w K mg base 7 C_Cheapest "shows" (spCheS C_Rule C_Cheapest) [] := by
  obtain ⟨f0, fd, D, dn, me, _⟩ := T.m_Cheapest_shows
  have G_check_asked := cal_check_asked (P := P) (w := w) (base := base) T
  have G_is_whole := cal_is_whole (P := P) (w := w) (base := base) T
  have G_first_with := cal_first_with (P := P) (w := w) (base := base) T
  have G_ahead_of := cal_ahead_of (P := P) (w := w) (base := base) T
  refine met0 T.cl_Cheapest me D (D.binds dn fun _ _ _ _ _ _ us hl => match us, hl with | [_, _, _, _], _ => rfl) sc_Cheapest_shows (by walk_at "len") (fun cdv A outer s H vs Q E hr h => ?_)
  obtain ⟨x, a, D, ps, m, k', n, d, ks, g, rfl, cp, ka, km, kl, hc, ⟨m0, m1⟩, hk, ⟨n0, n1⟩, ⟨d0, d1⟩, k⟩ := h
  obtain ⟨vs, e, l, kk⟩ := id hc
  obtain ⟨⟨dx, ex⟩, eD⟩ := id cp
  obtain ⟨rk, ek, hrk⟩ := kk k' hk
  refine ⟨_, (pss_cons (ps_expr (pe_c G_check_asked hr (by decide) rfl (pa_cons (pv 1) (pa_cons (pv 2) (pa_cons (pv 3) pa_nil)))))
      (pss_cons (ps_if (PW.pt (pw_or (pt_not (pt_val (pe_c G_is_whole hr (by decide) rfl (pa_cons (pe_fld (pv 0) rfl) pa_nil)))) (pw_or1 (pt_not (pt_chain op_le op_lt pe_int (pe_fld (pv 0) rfl) (pe_callB cr_lenS (by rfl) T.b_len (by decide +kernel) (pa_cons (pv 1) pa_nil))))))) (pss_one (ps_ret pe_bl)) pss_nil)
      (pss_cons (ps_if (pt_cmpR op_le (pe_c G_first_with hr (by decide) rfl (pa_cons (pe_ix ix_list (pv 1) (pe_fld (pv 0) rfl) (fun _ _ => rfl)) (pa_cons (pe_op op_add (pv 2) pe_int) pa_nil))) (pv 3) (nomark _)) (pss_one (ps_ret pe_bl)) pss_nil)
      (pss_cons (ps_if (pt_cmpR (op_neD hr.units) (pe_callB (cr_sortDI rfl) (by rfl) T.b_sorted (by decide +kernel) (pa_cons (pe_fld (pv 0) rfl) pa_nil)) (pe_c G_ahead_of hr (by decide) rfl (pa_cons (pv 1) (pa_cons (pe_fld (pv 0) rfl) (pa_cons (pv 3) pa_nil)))) (nomark _)) (pss_one (ps_ret pe_bl)) pss_nil)
      (pss_cons (ps_s 4 sc_Cheapest_shows.nd (pe_lock (pe_dc (own := [("place", 5)]) (g := gName 5) (tt := tYes) rfl sc_Cheapest_shows.nd (pi_keys (pe_fld (pv 0) rfl)) (blkOk_by (own := [("place", 5)]) (N := N_Cheapest_shows) (sc := fnScope s_Cheapest_shows) (by decide +kernel)) (fun _ _ _ _ _ => (pg_n 5 sc_Cheapest_shows.nd)) (fun _ _ _ _ _ => pts_nil) (fun _ _ _ _ _ => (pv 5)) (fun _ _ _ _ _ => (pe_c G_first_with hr (by decide) rfl (pa_cons (pe_ix (ixK rIxL K ix_list) (pv 1) (pv 5) (fun _ _ => rfl)) (pa_cons (pe_op op_add (pv 2) pe_int) pa_nil)))))))
      (pss_one (ps_ret (pe_callB (cr_all rfl) (by rfl) T.b_all (by decide +kernel) (pa_cons (pe_lock (pe_lc (own := [("place", 5)]) (g := gName 5) (tt := tYes) rfl sc_Cheapest_shows.nd (pi_keys (pv 4)) (blkOk_by (own := [("place", 5)]) (N := N_Cheapest_shows) (sc := fnScope s_Cheapest_shows) (by decide +kernel)) (fun _ _ _ _ _ => (pg_n 5 sc_Cheapest_shows.nd)) (fun _ _ _ _ _ => pts_nil) (fun _ _ _ _ _ => (pe_chain op_eq op_le (pe_dget (hu_of hr) (pe_fldK K (pe_fld (pv 0) rfl)) (pv 5) (fun _ _ => rfl)) (pe_dget (hu_of hr) (pv 4) (pv 5) (fun _ _ => rfl)) (pv 3))))) pa_nil))))))))), ?_⟩
  walk_at "rd"
  refine ⟨a, ps, m, _, _, rfl, hc, ⟨m0, m1⟩, n0, d0, fun H1 s1 => ?_⟩
  walk_at "rd"
  refine rd_fld (s1 _ _ ex) T.cl_Cheapest T.na_Cheapest_place (che_place _ _) ?_
  walk_at "rd"
  refine ⟨_, rfl, ?_⟩
  walk_at "rd"
  refine rd_fld (s1 _ _ ex) T.cl_Cheapest T.na_Cheapest_place (che_place _ _) ?_
  walk_at "rd"
  rw [decide_eq_true (by omega : (0 : Int) ≤ (k' : Int))]
  walk_at "rd"
  refine rd_lenL (s1 _ _ e) ?_
  walk_at "rd"
  rw [decide_eq_true (by omega : (k' : Int) < (vs.length : Int))]
  walk_at "rd"
  refine rd_fld (s1 _ _ ex) T.cl_Cheapest T.na_Cheapest_place (che_place _ _) ?_
  walk_at "rd"
  refine rd_ixL (s1 _ _ e) (atI_nat' ek) ?_
  walk_at "rd"
  refine ⟨rk, _, _, rfl, hrk.mono s1, ⟨by omega, by omega⟩, fun H2 s2 => ?_⟩
  walk_at "rd"
  have s12 := s1.trans s2
  refine rd_ite (fun c1 => ?_) (fun c1 => ?_)
  · walk_at "rd"
    exact k H2 false s12 ⟨fun z => (nomatch z), fun z => absurd z.1 (by show ¬ d < firstWith (ps k') (n + 1); omega)⟩
  walk_at "rd"
  refine rd_fld (s12 _ _ ex) T.cl_Cheapest T.na_Cheapest_against (che_against _ _) ?_
  walk_at "rd"
  refine rd_sortDI (s12 _ _ eD) (by rw [dN_keys]; exact natI_asc ka) (by rw [dN_len]; omega) fun u H3 _ s3 eu => ?_
  rw [dN_keys] at eu
  walk_at "rd"
  have s13 := s12.trans s3
  refine rd_fld (s13 _ _ ex) T.cl_Cheapest T.na_Cheapest_place (che_place _ _) ?_
  walk_at "rd"
  refine ⟨a, ps, m, k', d, rfl, hc.mono s13, m1, hk, ⟨d0, d1⟩, fun H4 t s4 et => ?_⟩
  refine rd_neD (dt_ints (s4 _ _ eu)) (dt_ints et) (shaped_ints _) (shaped_ints _) ?_
  rw [eqv_ints]
  have s14 := s13.trans s4
  walk_at "rd"
  refine rd_iteN (fun c2 => ?_) (fun c2 => ?_)
  · walk_at "rd"
    exact k H4 false s14 ⟨fun z => (nomatch z), fun z => absurd (by rw [z.2.1]) c2⟩
  have c2 := natI_inj c2
  walk_at "rd"
  have eD4 := s14 _ _ eD
  have ex4 := s14 _ _ ex
  have hxD : x ≠ D := fun z => by rw [z, eD] at ex; cases ex
  refine rd_lock eD4 trivial fun od => ?_
  obtain ⟨HL, eHL⟩ : ∃ HL, HL = upd H4 D (.frz od (.dK (dI (dN ks g)))) := ⟨_, rfl⟩
  rw [← eHL]
  have exL : HL x = some (.ins C_Cheapest dx (cheF (k' : Nat) D)) := by rw [eHL, upd_ne hxD]; exact ex4
  have eDL : HL D = some (.frz od (.dK (dI (dN ks g)))) := by rw [eHL]; exact upd_same
  obtain ⟨vs2, e2, l2, kk2⟩ : ChP C_Rule HL a ps m := by rw [eHL]; exact (hc.mono s14).lock eD4
  walk_at "rd"
  refine rd_fld exL T.cl_Cheapest T.na_Cheapest_against (che_against _ _) ?_
  refine rd_keysR eDL ?_
  refine dcR_keys (fun D2 j H' => Same HL H' ∧ H' D2 = some (.dK (dI (dN (ks.take j) (fsF ps n))))) (fun D2 j H' _ ⟨s, _⟩ => s _ _ eDL) (fun D2 H' _ s e _ => ⟨s, e⟩) ?_ ?_
  · rintro D2 j kx z H5 hD2 hj ⟨s5, eD2⟩
    obtain ⟨i, hi, rfl, rfl⟩ := dIN_get hj
    have him := km i (List.mem_of_getElem? hi)
    obtain ⟨r, h1, h2⟩ := kk2 i him
    have ekv : kV (Sum.inl (i : Int)) = V.int (i : Int) := rfl
    rw [ekv]
    walk_at "rd"
    refine ⟨rfl, ?_⟩
    walk_at "rd"
    refine rd_ixL (s5 _ _ e2) (atI_nat' h1) ?_
    walk_at "rd"
    refine ⟨r, _, _, rfl, h2.mono s5, ⟨by omega, by omega⟩, fun H6 s6 => ?_⟩
    refine rd_dcE (s6 _ _ eD2) (by rw [dN_len, List.length_take]; omega) (dN_new ka _ hi) fun H7 eH7 eD7 => ?_
    refine ⟨by rw [eH7]; exact Same.mut (s5.trans s6) hD2, ?_⟩
    rw [eD7, dN_take _ _ hi]
  rintro D2 H5 hD2 ⟨s5, eD2⟩
  rw [dI_len, dN_len, List.take_length] at eD2
  have hDD : D2 ≠ D := fun z => by rw [z, eDL] at hD2; cases hD2
  refine ⟨s5 _ _ eDL, ?_⟩
  obtain ⟨H6, eH6⟩ : ∃ H6, H6 = upd H5 D (.dK (dI (dN ks g))) := ⟨_, rfl⟩
  rw [← eH6]
  have s46 : Same H4 H6 := by
    rw [eH6]
    refine Same.unlock eD4 (o := .frz od (.dK (dI (dN ks g)))) ?_
    rw [← eHL]
    exact s5
  have s16 := s14.trans s46
  have eD26 : H6 D2 = some (.dK (dI (dN ks (fsF ps n)))) := by rw [eH6, upd_ne hDD]; exact eD2
  have eD6 := s16 _ _ eD
  have ex6 := s16 _ _ ex
  walk_at "rd"
  refine rd_lock eD26 trivial fun od2 => ?_
  obtain ⟨HM, eHM⟩ : ∃ HM, HM = upd H6 D2 (.frz od2 (.dK (dI (dN ks (fsF ps n))))) := ⟨_, rfl⟩
  rw [← eHM]
  have hxD2 : x ≠ D2 := fun z => by rw [z, eD26] at ex6; cases ex6
  have exM : HM x = some (.ins C_Cheapest dx (cheF (k' : Nat) D)) := by rw [eHM, upd_ne hxD2]; exact ex6
  have eDM : HM D = some (.dK (dI (dN ks g))) := by rw [eHM, upd_ne (Ne.symm hDD)]; exact eD6
  have eD2M : HM D2 = some (.frz od2 (.dK (dI (dN ks (fsF ps n))))) := by rw [eHM]; exact upd_same
  walk_at "rd"
  refine rd_keysR eD2M ?_
  refine lcR_keys (fun L j H' => Same HM H' ∧ H' L = some (.lst (((ks.take j).map fun i => decide (g i = fsF ps n i ∧ fsF ps n i ≤ d)).map V.bl))) (fun L j H' _ ⟨s, _⟩ => s _ _ eD2M) (fun L H' _ s e _ => ⟨s, e⟩) ?_ ?_
  · rintro L j kx z H7 hL hj ⟨s7, eL⟩
    obtain ⟨i, hi, rfl, rfl⟩ := dIN_get hj
    have hik := List.mem_of_getElem? hi
    have ekv : kV (Sum.inl (i : Int)) = V.int (i : Int) := rfl
    rw [ekv]
    walk_at "rd"
    refine ⟨rfl, ?_⟩
    walk_at "rd"
    refine rd_fld (s7 _ _ exM) T.cl_Cheapest T.na_Cheapest_against (che_against _ _) ?_
    walk_at "rd"
    refine rd_dget (.inl (s7 _ _ eDM)) (dN_at ka g hik) ?_
    walk_at "rd"
    refine rd_dget (.inr ⟨od2, s7 _ _ eD2M⟩) (dN_at ka _ hik) ?_
    walk_at "rd"
    have fin : ∀ b : Bool, (b = true ↔ (g i = fsF ps n i ∧ fsF ps n i ≤ d)) → LcE L (fun H' => Same HM H' ∧ H' L = some (.lst (((ks.take (j + 1)).map fun i => decide (g i = fsF ps n i ∧ fsF ps n i ≤ d)).map V.bl))) (.bl b) H7 := by
      intro b hb
      refine rd_lcE eL (by rw [List.length_map, List.length_map, List.length_take]; omega) fun H8 eH8 eL8 => ?_
      refine ⟨by rw [eH8]; exact Same.mut s7 hL, ?_⟩
      have e : decide (g i = fsF ps n i ∧ fsF ps n i ≤ d) = b := by
        rw [Bool.eq_iff_iff, decide_eq_true_iff]
        exact hb.symm
      rw [eL8, List.take_succ, hi, List.map_append, List.map_append]
      show _ = some (HO.lst (_ ++ [V.bl (decide (g i = fsF ps n i ∧ fsF ps n i ≤ d))]))
      rw [e]
    refine rd_ite (fun c3 => ?_) (fun c3 => ?_)
    · walk_at "rd"
      exact fin _ (by rw [decide_eq_true_iff]; exact ⟨fun z => ⟨c3, z⟩, fun z => z.2⟩)
    · walk_at "rd"
      exact fin false ⟨fun z => (nomatch z), fun z => absurd z.1 c3⟩
  rintro L H7 hL ⟨s7, eL⟩
  rw [dI_len, dN_len, List.take_length] at eL
  have hLD : L ≠ D2 := fun z => by rw [z, eD2M] at hL; cases hL
  refine ⟨s7 _ _ eD2M, ?_⟩
  obtain ⟨H8, eH8⟩ : ∃ H8, H8 = upd H7 D2 (.dK (dI (dN ks (fsF ps n)))) := ⟨_, rfl⟩
  rw [← eH8]
  have s68 : Same H6 H8 := by
    rw [eH8]
    refine Same.unlock eD26 (o := .frz od2 (.dK (dI (dN ks (fsF ps n))))) ?_
    rw [← eHM]
    exact s7
  have eL8 : H8 L = some (.lst ((ks.map fun i => decide (g i = fsF ps n i ∧ fsF ps n i ≤ d)).map V.bl)) := by rw [eH8, upd_ne hLD]; exact eL
  walk_at "rd"
  refine ⟨L, ks.map fun i => decide (g i = fsF ps n i ∧ fsF ps n i ≤ d), rfl, SqL.of eL8, ?_⟩
  refine k H8 _ (s16.trans s68) ?_
  rw [List.all_eq_true]
  constructor
  · intro z
    refine ⟨by show d < firstWith (ps k') (n + 1); omega, c2, fun i hi => ?_⟩
    have := z _ (List.mem_map.mpr ⟨i, hi, rfl⟩)
    exact of_decide_eq_true this
  · intro z b hb
    obtain ⟨i, hi, rfl⟩ := List.mem_map.mp hb
    exact decide_eq_true (z.2.2 i hi)
end
end Sl

set_option Elab.async false
set_option linter.all false
set_option maxRecDepth 100000
set_option maxHeartbeats 8000000
set_option exponentiation.threshold 9000
namespace Sl
open PySem L2 C8 StX Silt
local macro_rules | `(tactic| walk_at "side") => `(tactic| first
  | exact cdivw (by omega) (by omega)
  | exact cmulw (by omega) (by omega) (by omega) (by omega)
  | exact Or.inr ⟨by omega, by omega⟩
  | exact Or.inl ⟨by omega, by omega⟩
  | omega
  | exact ⟨by omega, by omega, by decide⟩
  | decide)
local macro_rules | `(tactic| walk_at "rd1") => `(tactic| first
  | with_reducible refine rd_seq ?_
  | with_reducible refine rd_asg ?_
  | with_reducible refine rd_drop ?_
  | with_reducible refine rd_ret ?_
  | with_reducible refine rd_retN ?_
  | with_reducible refine rd_ifS ?_
  | ((with_reducible refine rd_var0 ?_); refine ⟨_, rfl, ?_⟩)
  | with_reducible refine rd_c ?_
  | with_reducible refine rd_op ?_
  | with_reducible refine rd_un ?_
  | with_reducible refine rd_I0 ?_
  | with_reducible refine rd_U ?_
  | ((with_reducible refine rd_I ?c ?_); (case c => walk_at "side"))
  | with_reducible refine rd_ipI ?_
  | with_reducible refine rd_eqI ?_
  | with_reducible refine rd_neI ?_
  | with_reducible refine rd_test ?_
  | with_reducible refine rd_tB ?_
  | with_reducible refine rd_bl ?_
  | with_reducible refine rd_not ?_
  | with_reducible refine rd_and ?_
  | with_reducible refine rd_or ?_
  | with_reducible refine rd_andV ?_
  | with_reducible refine rd_orV ?_
  | with_reducible refine rd_notV ?_
  | with_reducible refine rd_ifE ?_
  | with_reducible refine rd_chain ?_
  | with_reducible refine rd_chain3 ?_
  | with_reducible refine rd_nil ?_
  | with_reducible refine rd_cons ?_
  | with_reducible refine rd_call ?_
  | with_reducible refine rd_CB ?_
  | with_reducible refine rd_par ?_
  | with_reducible refine rd_par2 ?_
  | with_reducible refine rd_par3 ?_
  | with_reducible refine rd_par4 ?_
  | ((with_reducible refine rd_aug0 ?_); refine ⟨_, rfl, ?_⟩)
  | with_reducible refine rd_gname ?_
  | with_reducible refine rd_gcons ?_
  | with_reducible refine rd_gnil ?_
  | with_reducible refine rd_max ?_
  | with_reducible refine rd_min ?_
  | with_reducible refine rd_int1 ?_
  | with_reducible refine rd_abs ?_
  | with_reducible refine rd_lst ?_
  | with_reducible refine rd_tup ?_
  | with_reducible refine rd_bm ?_
  | with_reducible refine rd_fld0 ?_
  | with_reducible refine rd_sl0 ?_
  | with_reducible refine rd_noP ?_
  | with_reducible refine rd_part ?_
  | with_reducible refine rd_part2 ?_
  | with_reducible refine rd_meth0 ?_
  | with_reducible refine rd_star ?_
  | with_reducible refine rd_for ?_
  | with_reducible refine rd_rng1 ?_
  | with_reducible refine rd_rng2 ?_
  | with_reducible refine rd_rng3 ?_
  | with_reducible refine rd_iList ?_
  | with_reducible refine rd_iTup ?_
  | with_reducible refine rd_iEnum ?_
  | with_reducible refine rd_lc ?_
  | with_reducible refine rd_yes ?_
  | with_reducible refine rd_augS ?_
  | with_reducible refine rd_drawNew ?_
  | with_reducible refine rd_make0 ?_
  | with_reducible refine rd_next ?_
  | with_reducible refine rd_break ?_
  | with_reducible refine rd_cont ?_
  | with_reducible refine rd_iteTT ?_
  | with_reducible refine rd_iteFF ?_
  | with_reducible refine rd_iteNTT ?_
  | with_reducible refine rd_iteNFF ?_
  | with_reducible refine rd_con0 ?_
  | with_reducible refine rd_truO0 ?_
  | with_reducible refine rd_gfld0 ?_
  | with_reducible refine rd_dc ?_
  | with_reducible refine rd_iKeys ?_
  | with_reducible refine rd_dget0 ?_
  | with_reducible refine rd_dput0 ?_
  | with_reducible refine rd_dnot0 ?_
  | with_reducible refine rd_iEnumT ?_
  | with_reducible refine rd_raP0 ?_
  | with_reducible refine rd_xf0 ?_
  | with_reducible refine rd_asgG ?_)
local macro_rules | `(tactic| walk_at "rd") => `(tactic| repeat walk_at "rd1")
local macro_rules | `(tactic| walk_at "len") => `(tactic| first
  | (intro vs H Q E h; obtain ⟨h2, _⟩ := h; rw [h2]; rfl)
  | (intro vs H Q E h; obtain ⟨_, h2, _⟩ := h; rw [h2]; rfl)
  | (intro vs H Q E h; obtain ⟨_, _, h2, _⟩ := h; rw [h2]; rfl)
  | (intro vs H Q E h; obtain ⟨_, _, _, h2, _⟩ := h; rw [h2]; rfl)
  | (intro vs H Q E h; obtain ⟨_, _, _, _, h2, _⟩ := h; rw [h2]; rfl)
  | (intro vs H Q E h; obtain ⟨_, _, _, _, _, h2, _⟩ := h; rw [h2]; rfl)
  | (intro vs H Q E h; obtain ⟨_, _, _, _, _, _, h2, _⟩ := h; rw [h2]; rfl)
  | (intro vs H Q E h; obtain ⟨_, _, _, _, _, _, _, h2, _⟩ := h; rw [h2]; rfl)
  | (intro vs H Q E h; obtain ⟨_, _, _, _, _, _, _, _, h2, _⟩ := h; rw [h2]; rfl)
  | (intro vs H Q E h; obtain ⟨_, _, _, _, _, _, _, _, _, h2, _⟩ := h; rw [h2]; rfl)
  | (intro vs H Q E h; obtain ⟨_, _, _, _, _, _, _, _, _, _, h2, _⟩ := h; rw [h2]; rfl)
  | (intro vs H Q E h; obtain ⟨_, _, _, _, _, _, _, _, _, _, _, h2, _⟩ := h; rw [h2]; rfl)
  | (intro vs H Q E h; obtain ⟨_, _, _, _, _, _, _, _, _, _, _, _, h2, _⟩ := h; rw [h2]; rfl))
/-! ### choices in a tuple (turned from the proofs for a list by mkcheapT.py) -/
def ChT (C : Addr) (H : Hp) (a : Addr) (ps : Nat → Pr) (m : Nat) : Prop := ∃ vs, H a = some (.tup vs) ∧ vs.length = m ∧ ∀ i : Nat, i < m → ∃ r, vs[i]? = some (.ref r) ∧ RuleP C H r (ps i)
theorem ChT.mono {C : Addr} {H H' : Hp} {a : Addr} {ps : Nat → Pr} {m : Nat} (s : Same H H') (h : ChT C H a ps m) : ChT C H' a ps m := by
  obtain ⟨vs, e, l, k⟩ := h
  refine ⟨vs, s _ _ e, l, fun i hi => ?_⟩
  obtain ⟨r, h1, h2⟩ := k i hi
  exact ⟨r, h1, h2.mono s⟩
def spChkCT (C : Addr) : Sp := fun vs H Q _ => ∃ (a : Addr) (ps : Nat → Pr) (m : Nat), vs = [.ref a] ∧ ChT C H a ps m ∧ (1 ≤ m ∧ m ≤ 40) ∧ ∀ H', Same H H' → Q .non H'
def spChkAT (C : Addr) : Sp := fun vs H Q _ => ∃ (a : Addr) (ps : Nat → Pr) (m : Nat) (n d : Int), vs = [.ref a, .int n, .int d] ∧ ChT C H a ps m ∧ (1 ≤ m ∧ m ≤ 40) ∧ 0 ≤ n ∧ 0 ≤ d ∧ ∀ H', Same H H' → Q .non H'
def spAheadT (C : Addr) : Sp := fun vs H Q _ => ∃ (a : Addr) (ps : Nat → Pr) (m k : Nat) (d : Int), vs = [.ref a, .int (k : Nat), .int d] ∧ ChT C H a ps m ∧ m ≤ 40 ∧ k < m ∧ (0 ≤ d ∧ d ≤ 10 ^ 21) ∧ ∀ H' t, Same H H' → H' t = some (.lst ((natI (aheadL (wkF ps d) m k)).map V.int)) → Q (.ref t) H'
def spCheapT (CR C : Addr) : Sp := fun vs H Q _ => ∃ (a : Addr) (ps : Nat → Pr) (m : Nat) (n d : Int), vs = [.ref a, .int n, .int d] ∧ ChT CR H a ps m ∧ (1 ≤ m ∧ m ≤ 40) ∧ (0 ≤ n ∧ n ≤ 1900) ∧ (0 ≤ d ∧ d ≤ 10 ^ 21) ∧
  ∀ H', Same H H' → (fitsL (fsF ps n) d m = [] → Q .non H') ∧ (∀ x D k, CheapK (wkF ps d) (fsF ps n) d m k → CheP C H' x (k : Nat) D (dN (aheadL (wkF ps d) m k) (fsF ps n)) → Q (.ref x) H')
section
variable {P : Program} {w : World} {K : PySem.W.Frag} {mg : Str → Option Value} {base : Heap} {C_Rule C_Evidence C_Good C_Cheapest C_BadDay C_BadChoices : Addr}
theorem cal_check_choices_tup (T : TX P K mg C_Rule C_Evidence C_Good C_Cheapest C_BadDay C_BadChoices) : Cal P w K mg base 3 "check_choices" (spChkCT C_Rule) [] := by
  obtain ⟨f0, fd, D, dn⟩ := T.d_check_choices
  refine cal0 D (D.fn.binds dn fun _ _ _ _ _ _ us hl => match us, hl with | [_], _ => rfl) .nil sc_check_choices (by walk_at "len") (fun cdv A outer s H vs Q E hr h => ?_)
  obtain ⟨a, ps, m, rfl, ⟨vs, e, l, kk⟩, ⟨m0, m1⟩, k⟩ := h
  refine ⟨_, (pss_cons (ps_if (PW.pt (pw_or (pt_not (pt_val (pe_callB call_isiT (by rfl) T.b_isinstance (by decide +kernel) (pa_cons (pv 0) (pa_cons (pe_tup (pa_cons (pe_bltn (v := .ty "list") (u := .type "list") rfl T.b_list (by decide +kernel) rfl) (pa_cons (pe_bltn (v := .ty "tuple") (u := .type "tuple") rfl T.b_tuple (by decide +kernel) rfl) pa_nil))) pa_nil))))) (pw_or1 (pt_not (pt_chain op_le op_le pe_int (pe_callB cr_lenS (by rfl) T.b_len (by decide +kernel) (pa_cons (pv 0) pa_nil)) (pe_gc rfl T.g_MOST_CHOICES)))))) (pss_one ps_never) pss_nil)
      (pss_one (ps_for PassesOwn.never rfl (pi_enumT (by rfl) T.b_enumerate (pa_cons (pv 0) pa_nil)) (pg_tup rfl (pgs_cons (pg_n 1 sc_check_choices.nd) (pgs_cons (pg_n 2 sc_check_choices.nd) pgs_nil))) (pss_one (ps_if (pt_not (pt_val (pe_callB (cr_isC T.i_Rule) (by rfl) T.b_isinstance (by decide +kernel) (pa_cons (pv 2) (pa_cons (pe_gc rfl T.g_Rule) pa_nil))))) (pss_one ps_never) pss_nil))))), ?_⟩
  walk_at "rd"
  refine rd_newT (by decide) fun u H1 _ s1 eu _ => ?_
  walk_at "rd"
  refine rd_isiTT (s1 _ _ e) eu ?_
  walk_at "rd"
  refine rd_lenT (s1 _ _ e) ?_
  rw [l]
  walk_at "rd"
  rw [decide_eq_true (by omega : (1 : Int) ≤ (m : Int))]
  walk_at "rd"
  rw [decide_eq_true (by omega : (m : Int) ≤ 40)]
  walk_at "rd"
  refine rd_enRT (SqT.of (s1 _ _ e)) ?_
  refine forR_enumT (xs := vs) (fun i σ H' => ∃ v1 v2, Same H H' ∧ σ = [some (.ref a), v1, v2]) (fun i σ H' ⟨_, _, s, _⟩ => SqT.of (s _ _ e)) ⟨none, none, s1, rfl⟩ ?_ ?_
  · rintro i y σ H2 q H3 hi ⟨v1, v2, s2, rfl⟩ _ s3 eq _
    have him : i < m := by rw [← l]; exact (List.getElem?_eq_some_iff.mp hi).1
    obtain ⟨r, h1, h2⟩ := kk i him
    rw [hi] at h1
    cases h1
    obtain ⟨dx, t1, t2, er⟩ := h2.ins
    refine rd_gtup eq rfl ?_
    walk_at "rd"
    refine rd_isC ((s2.trans s3) _ _ er) ?_
    walk_at "rd"
    exact ⟨_, _, s2.trans s3, rfl⟩
  · rintro σ H2 ⟨v1, v2, s2, rfl⟩
    walk_at "rd"
    exact k H2 s2
theorem cal_check_asked_tup (T : TX P K mg C_Rule C_Evidence C_Good C_Cheapest C_BadDay C_BadChoices) : Cal P w K mg base 4 "check_asked" (spChkAT C_Rule) [] := by
  obtain ⟨f0, fd, D, dn⟩ := T.d_check_asked
  have G_check_choices_tup := cal_check_choices_tup (P := P) (w := w) (base := base) T
  have G_check_number := cal_check_number (P := P) (w := w) (base := base) T
  refine cal0 D (D.fn.binds dn fun _ _ _ _ _ _ us hl => match us, hl with | [_, _, _], _ => rfl) .nil sc_check_asked (by walk_at "len") (fun cdv A outer s H vs Q E hr h => ?_)
  obtain ⟨a, ps, m, n, d, rfl, hc, hm, n0, d0, k⟩ := h
  refine ⟨_, (pss_cons (ps_expr (pe_c G_check_choices_tup hr (by decide) rfl (pa_cons (pv 0) pa_nil)))
      (pss_cons (ps_expr (pe_c G_check_number hr (by decide) rfl (pa_cons (pv 1) pa_nil)))
      (pss_one (ps_expr (pe_c G_check_number hr (by decide) rfl (pa_cons (pv 2) pa_nil)))))), ?_⟩
  walk_at "rd"
  refine ⟨a, ps, m, rfl, hc, hm, fun H1 s1 => ?_⟩
  walk_at "rd"
  refine ⟨_, _, rfl, n0, ?_⟩
  walk_at "rd"
  refine ⟨_, _, rfl, d0, ?_⟩
  walk_at "rd"
  exact k H1 s1
theorem cal_ahead_of_tup (T : TX P K mg C_Rule C_Evidence C_Good C_Cheapest C_BadDay C_BadChoices) : Cal P w K mg base 6 "ahead_of" (spAheadT C_Rule) [] := by
  obtain ⟨f0, fd, D, dn⟩ := T.d_ahead_of
  have G_work := cal_work (P := P) (w := w) (base := base) T
  refine cal0 D (D.fn.binds dn fun _ _ _ _ _ _ us hl => match us, hl with | [_, _, _], _ => rfl) .nil sc_ahead_of (by walk_at "len") (fun cdv A outer s H vs Q E hr h => ?_)
  obtain ⟨a, ps, m, k', d, rfl, hc, hm, hk, ⟨d0, d1⟩, k⟩ := h
  obtain ⟨vs, e, l, kk⟩ := id hc
  have dd := far_dd
  obtain ⟨rk, ek, hrk⟩ := kk k' hk
  refine ⟨_, (pss_cons (ps_s 3 sc_ahead_of.nd (pe_c G_work hr (by decide) rfl (pa_cons (pe_ix ix_tup (pv 0) (pv 1) (fun _ _ => rfl)) (pa_cons (pv 2) pa_nil))))
      (pss_cons (ps_setLc (i := 4) (own := [("choice", 5)]) (g := gName 5) (tt := tYes) rfl sc_ahead_of.nd rfl rfl (sw_true rfl rfl rfl (by decide +kernel)) (pi_tup (pv 0)) (blkOk_by (own := [("choice", 5)]) (N := N_ahead_of) (sc := fnScope s_ahead_of) (by decide +kernel)) (fun _ _ _ _ _ => (pg_n 5 sc_ahead_of.nd)) (fun _ _ _ _ _ => pts_nil) (fun _ _ _ _ _ => (pe_c G_work hr (by decide) rfl (pa_cons (pv 5) (pa_cons (pv 2) pa_nil)))))
      (pss_one (ps_ret (pe_lc (own := [("late", 6), ("more", 7)]) (g := gTup _ 2 (gCons (gName 6) (gCons (gName 7) gNil))) (tt := _) rfl sc_ahead_of.nd (pi_enum (by rfl) T.b_enumerate (pa_cons (pv 4) pa_nil)) (blkOk_by (own := [("late", 6), ("more", 7)]) (N := N_ahead_of) (sc := fnScope s_ahead_of) (by decide +kernel)) (fun _ _ _ _ _ => (pg_tup rfl (pgs_cons (pg_n 6 sc_ahead_of.nd) (pgs_cons (pg_n 7 sc_ahead_of.nd) pgs_nil)))) (fun _ _ _ _ _ => (pts_one (PW.pt (pw_or (pt_cmpR op_lt (pv 7) (pv 3) (nomark _)) (pw_or1 (PW.pt (pw_and (pt_cmpR op_eq (pv 7) (pv 3) (nomark _)) (pw_and1 (pt_cmpR op_lt (pv 6) (pv 1) (nomark _)))))))))) (fun _ _ _ _ _ => (pv 6))))))), ?_⟩
  walk_at "rd"
  refine rd_ixT e (atI_nat' ek) ?_
  walk_at "rd"
  refine ⟨rk, _, _, rfl, hrk, ⟨d0, by omega⟩, fun H1 s1 => ?_⟩
  walk_at "rd"
  refine rd_tpR (SqT.of (s1 _ _ e)) ?_
  refine lcR_tup (xs := vs) (fun D j H' => Same H1 H' ∧ H' D = some (.lst (((List.range j).map (wkF ps d)).map V.int))) (fun D j H' _ ⟨s, _⟩ => SqT.of ((s1.trans s) _ _ e)) (fun D H' _ s e _ => ⟨s, e⟩) ?_ ?_
  · rintro D j v H2 hD hv ⟨s2, eD⟩
    have hj : j < m := by rw [← l]; exact (List.getElem?_eq_some_iff.mp hv).1
    obtain ⟨r, h1, h2⟩ := kk j hj
    rw [hv] at h1
    cases h1
    walk_at "rd"
    refine ⟨rfl, ?_⟩
    walk_at "rd"
    refine ⟨r, _, _, rfl, h2.mono (s1.trans s2), ⟨d0, by omega⟩, fun H3 s3 => ?_⟩
    refine rd_lcE (s3 _ _ eD) (by simp; omega) fun H4 eH4 eD4 => ?_
    refine ⟨by rw [eH4]; exact Same.mut (s2.trans s3) hD, ?_⟩
    rw [eD4, List.range_succ, List.map_append, List.map_append]
    rfl
  · rintro D H2 hD ⟨s2, eD⟩
    rw [l] at eD
    walk_at "rd"
    refine rd_enR (SqL.of eD) ?_
    refine lcR_enum (xs := ((List.range m).map (wkF ps d)).map V.int) (fun D2 j H' => Same H2 H' ∧ H' D2 = some (.lst ((natI ((List.range j).filter fun l => decide (wkF ps d l < wkF ps d k' ∨ wkF ps d l = wkF ps d k' ∧ l < k'))).map V.int))) (fun D2 j H' _ ⟨s, _⟩ => SqL.of (s _ _ eD)) (fun D2 H' _ s e _ => ⟨s, e⟩) ?_ ?_
    · rintro D2 j y H3 w H4 hD2 hy ⟨s3, eD2⟩ hw s4 ew _
      have hj : j < m := by have := (List.getElem?_eq_some_iff.mp hy).1; simpa using this
      rw [List.getElem?_map, List.getElem?_map, List.getElem?_range hj] at hy
      cases hy
      refine rd_gtup ew rfl ?_
      walk_at "rd"
      refine ⟨rfl, ?_⟩
      have eD24 := s4 _ _ eD2
      have hfl : ((List.range j).filter fun l => decide (wkF ps d l < wkF ps d k' ∨ wkF ps d l = wkF ps d k' ∧ l < k')).length ≤ j := by
        have := List.length_filter_le (fun l => decide (wkF ps d l < wkF ps d k' ∨ wkF ps d l = wkF ps d k' ∧ l < k')) (List.range j)
        rw [List.length_range] at this
        exact this
      have yes : wkF ps d j < wkF ps d k' ∨ wkF ps d j = wkF ps d k' ∧ j < k' → ∀ H5, Same H4 H5 → LcE D2 (fun H' => Same H2 H' ∧ H' D2 = some (.lst ((natI ((List.range (j + 1)).filter fun l => decide (wkF ps d l < wkF ps d k' ∨ wkF ps d l = wkF ps d k' ∧ l < k'))).map V.int))) (.int (j : Int)) H4 := by
        intro c _ _
        refine rd_lcE eD24 (by unfold natI; rw [List.length_map, List.length_map]; omega) fun H6 eH6 eD6 => ?_
        refine ⟨by rw [eH6]; exact Same.mut (s3.trans s4) hD2, ?_⟩
        rw [eD6, filter_succ, if_pos (by simpa using c)]
        unfold natI
        rw [List.map_append, List.map_append]
        rfl
      have no : ¬ (wkF ps d j < wkF ps d k' ∨ wkF ps d j = wkF ps d k' ∧ j < k') → Same H2 H4 ∧ H4 D2 = some (.lst ((natI ((List.range (j + 1)).filter fun l => decide (wkF ps d l < wkF ps d k' ∨ wkF ps d l = wkF ps d k' ∧ l < k'))).map V.int)) := by
        intro c
        refine ⟨s3.trans s4, ?_⟩
        rw [filter_succ, if_neg (by simpa using c), List.append_nil]
        exact eD24
      walk_at "rd"
      refine rd_ite (fun c1 => ?_) (fun c1 => ?_)
      · walk_at "rd"
        exact yes (.inl c1) _ (Same.refl _)
      walk_at "rd"
      refine rd_ite (fun c2 => ?_) (fun c2 => ?_)
      · walk_at "rd"
        refine rd_ite (fun c3 => ?_) (fun c3 => ?_)
        · walk_at "rd"
          exact yes (.inr ⟨c2, by omega⟩) _ (Same.refl _)
        · exact no (by rintro (z | z); exact c1 z; exact c3 (by omega))
      · walk_at "rd"
        exact no (by rintro (z | z); exact c1 z; exact c2 z.1)
    · rintro D2 H3 hD2 ⟨s3, eD2⟩
      rw [List.length_map, List.length_map, List.length_range] at eD2
      walk_at "rd"
      exact k H3 D2 ((s1.trans s2).trans s3) eD2
theorem cal_cheapest_tup (T : TX P K mg C_Rule C_Evidence C_Good C_Cheapest C_BadDay C_BadChoices) : Cal P w K mg base 7 "cheapest" (spCheapT C_Rule C_Cheapest) [] := by
  obtain ⟨f0, fd, D, dn⟩ := T.d_cheapest
  have G_check_asked_tup := cal_check_asked_tup (P := P) (w := w) (base := base) T
  have G_first_with := cal_first_with (P := P) (w := w) (base := base) T
  have G_work := cal_work (P := P) (w := w) (base := base) T
  have G_Cheapest_init := mak_Cheapest_init (P := P) (w := w) (base := base) T
  have G_ahead_of_tup := cal_ahead_of_tup (P := P) (w := w) (base := base) T
  refine cal0 D (D.fn.binds dn fun _ _ _ _ _ _ us hl => match us, hl with | [_, _, _], _ => rfl) .nil sc_cheapest (by walk_at "len") (fun cdv A outer s H vs Q E hr h => ?_)
  obtain ⟨a, ps, m, n, d, rfl, hc, ⟨m0, m1⟩, ⟨n0, n1⟩, ⟨d0, d1⟩, k⟩ := h
  obtain ⟨vs, e, l, kk⟩ := id hc
  have dd := far_dd
  refine ⟨_, (pss_cons (ps_expr (pe_c G_check_asked_tup hr (by decide) rfl (pa_cons (pv 0) (pa_cons (pv 1) (pa_cons (pv 2) pa_nil)))))
      (pss_cons (ps_setLc (i := 3) (own := [("place", 4), ("choice", 5)]) (g := gTup _ 2 (gCons (gName 4) (gCons (gName 5) gNil))) (tt := _) rfl sc_cheapest.nd rfl rfl (sw_true rfl rfl rfl (by decide +kernel)) (pi_enumT (by rfl) T.b_enumerate (pa_cons (pv 0) pa_nil)) (blkOk_by (own := [("place", 4), ("choice", 5)]) (N := N_cheapest) (sc := fnScope s_cheapest) (by decide +kernel)) (fun _ _ _ _ _ => (pg_tup rfl (pgs_cons (pg_n 4 sc_cheapest.nd) (pgs_cons (pg_n 5 sc_cheapest.nd) pgs_nil)))) (fun _ _ _ _ _ => (pts_one (pt_cmpR op_gt (pe_c G_first_with hr (by decide) rfl (pa_cons (pv 5) (pa_cons (pe_op op_add (pv 1) pe_int) pa_nil))) (pv 2) (nomark _)))) (fun _ _ _ _ _ => (pv 4)))
      (pss_cons (ps_if (pt_cmpR (op_eqD hr.units) (pv 3) (pe_lst pa_nil) (nomark _)) (pss_one (ps_ret pe_non)) pss_nil)
      (pss_cons (ps_asg (pe_callB (cr_minP rfl hr) (by rfl) T.b_min (by decide +kernel) (pa_cons (pe_lc (own := [("place", 4)]) (g := gName 4) (tt := tYes) rfl sc_cheapest.nd (pi_list (pv 3)) (blkOk_by (own := [("place", 4)]) (N := N_cheapest) (sc := fnScope s_cheapest) (by decide +kernel)) (fun _ _ _ _ _ => (pg_n 4 sc_cheapest.nd)) (fun _ _ _ _ _ => pts_nil) (fun _ _ _ _ _ => (pe_tup (pa_cons (pe_c G_work hr (by decide) rfl (pa_cons (pe_ix (ixK rIxT K ix_tup) (pv 0) (pv 4) (fun _ _ => rfl)) (pa_cons (pv 2) pa_nil))) (pa_cons (pv 4) pa_nil))))) pa_nil)) (pg_tup rfl (pgs_cons (pg_n 6 sc_cheapest.nd) (pgs_cons (pg_n 4 sc_cheapest.nd) pgs_nil))))
      (pss_one (ps_ret (pe_mk G_Cheapest_init hr (by decide) rfl (pa_cons (pv 4) (pa_cons (pe_dc (own := [("late", 7)]) (g := gName 7) (tt := tYes) rfl sc_cheapest.nd (pi_list (pe_c G_ahead_of_tup hr (by decide) rfl (pa_cons (pv 0) (pa_cons (pv 4) (pa_cons (pv 2) pa_nil))))) (blkOk_by (own := [("late", 7)]) (N := N_cheapest) (sc := fnScope s_cheapest) (by decide +kernel)) (fun _ _ _ _ _ => (pg_n 7 sc_cheapest.nd)) (fun _ _ _ _ _ => pts_nil) (fun _ _ _ _ _ => (pv 7)) (fun _ _ _ _ _ => (pe_c G_first_with hr (by decide) rfl (pa_cons (pe_ix (ixK rIxT K ix_tup) (pv 0) (pv 7) (fun _ _ => rfl)) (pa_cons (pe_op op_add (pv 1) pe_int) pa_nil))))) pa_nil))))))))), ?_⟩
  walk_at "rd"
  refine ⟨a, ps, m, _, _, rfl, hc, ⟨m0, m1⟩, n0, d0, fun H1 s1 => ?_⟩
  walk_at "rd"
  refine rd_enRT (SqT.of (s1 _ _ e)) ?_
  refine lcR_enumT (xs := vs) (fun D j H' => Same H1 H' ∧ H' D = some (.lst ((natI ((List.range j).filter fun i => decide (d < fsF ps n i))).map V.int))) (fun D j H' _ ⟨s, _⟩ => SqT.of ((s1.trans s) _ _ e)) (fun D H' _ s e _ => ⟨s, e⟩) ?_ ?_
  · rintro D j y H2 w H3 hD hy ⟨s2, eD⟩ hw s3 ew _
    have hj : j < m := by rw [← l]; exact (List.getElem?_eq_some_iff.mp hy).1
    obtain ⟨r, h1, h2⟩ := kk j hj
    rw [hy] at h1
    cases h1
    refine rd_gtup ew rfl ?_
    walk_at "rd"
    refine ⟨rfl, ?_⟩
    walk_at "rd"
    refine ⟨r, _, _, rfl, h2.mono ((s1.trans s2).trans s3), ⟨by omega, by omega⟩, fun H4 s4 => ?_⟩
    walk_at "rd"
    have fl := filt_len (fun i => decide (d < fsF ps n i)) j
    refine rd_ite (fun c => ?_) (fun c => ?_)
    · walk_at "rd"
      refine rd_lcE ((s3.trans s4) _ _ eD) (by rw [List.length_map, natI_len]; omega) fun H5 eH5 eD5 => ?_
      refine ⟨by rw [eH5]; exact Same.mut ((s2.trans s3).trans s4) hD, ?_⟩
      rw [eD5, filter_succ, if_pos (by simpa using c)]
      unfold natI
      rw [List.map_append, List.map_append]
      rfl
    · refine ⟨(s2.trans s3).trans s4, ?_⟩
      rw [filter_succ, if_neg (by simpa using c), List.append_nil]
      exact (s3.trans s4) _ _ eD
  rintro D H2 hD ⟨s2, eD⟩
  rw [l] at eD
  have s12 := s1.trans s2
  walk_at "rd"
  refine rd_newL (by simp) fun u H3 _ s3 eu _ => ?_
  refine rd_eqD (.lst (s3 _ _ eD) (DtAll.intsD _)) (.lst eu .nil) (shaped_ints _) (by decide) ?_
  rw [eqv_nil]
  walk_at "rd"
  generalize hfi : (List.range m).filter (fun i => decide (d < fsF ps n i)) = fi at *
  have hfit : fitsL (fsF ps n) d m = fi := hfi
  refine rd_ite (fun c => ?_) (fun c => ?_)
  · walk_at "rd"
    refine (k H3 (s12.trans s3)).1 ?_
    rw [hfit]
    cases fi with
    | nil => rfl
    | cons x xs => cases c
  have fin : ∀ x ∈ fi, x < m ∧ d < fsF ps n x := by
    intro x hx
    rw [← hfi] at hx
    obtain ⟨h1, h2⟩ := List.mem_filter.mp hx
    exact ⟨List.mem_range.mp h1, of_decide_eq_true h2⟩
  have fall : ∀ x, x < m → d < fsF ps n x → x ∈ fi := by
    intro x h1 h2
    rw [← hfi]
    exact List.mem_filter.mpr ⟨List.mem_range.mpr h1, decide_eq_true h2⟩
  have fl := filt_len (fun i => decide (d < fsF ps n i)) m
  rw [hfi] at fl
  have s13 := s12.trans s3
  have eD3 := s3 _ _ eD
  walk_at "rd"
  refine rd_lsR (SqL.of eD3) ?_
  refine lcR_lst (xs := (natI fi).map V.int) (fun D2 j H' => Same H3 H' ∧ ∃ ys, H' D2 = some (.lst ys) ∧ DnAll H' ys ((fi.take j).map fun i => pairD (wkF ps d i, (i : Int)))) (fun D2 j H' _ ⟨s, _⟩ => SqL.of (s _ _ eD3)) (fun D2 H' _ s e _ => ⟨s, [], e, .nil⟩) ?_ ?_
  · rintro D2 j v H4 hD2 hv ⟨s4, ys, eD2, dy⟩
    obtain ⟨i, hi, rfl⟩ : ∃ i : Nat, fi[j]? = some i ∧ v = V.int (i : Int) := by
      unfold natI at hv
      rw [List.map_map, List.getElem?_map] at hv
      cases q : fi[j]? with
      | none => rw [q] at hv; cases hv
      | some i => rw [q] at hv; exact ⟨i, rfl, (Option.some.inj hv).symm⟩
    have him := fin i (List.mem_of_getElem? hi)
    have hjl : j < fi.length := (List.getElem?_eq_some_iff.mp hi).1
    obtain ⟨r, h1, h2⟩ := kk i him.1
    walk_at "rd"
    refine ⟨rfl, ?_⟩
    walk_at "rd"
    refine rd_ixT ((s13.trans s4) _ _ e) (atI_nat' h1) ?_
    walk_at "rd"
    refine ⟨r, _, _, rfl, h2.mono (s13.trans s4), ⟨d0, by omega⟩, fun H5 s5 => ?_⟩
    walk_at "rd"
    refine rd_newT (by simp) fun w H6 _ s6 ew _ => ?_
    have e6 := (s5.trans s6) _ _ eD2
    refine rd_lcE e6 (by rw [dy.length, List.length_map, List.length_take]; omega) fun H7 eH7 eD7 => ?_
    refine ⟨by rw [eH7]; exact Same.mut ((s4.trans s5).trans s6) hD2, _, eD7, ?_⟩
    rw [List.take_succ, hi, List.map_append, eH7]
    refine DnAll.updL e6 ((dy.mono (s5.trans s6)).append (.cons ?_ .nil))
    exact .pair ew
  rintro D2 H4 hD2 ⟨s4, ys, eD2, dy⟩
  rw [List.length_map, natI_len, List.take_length] at dy
  have yl : ys.length = fi.length := by rw [dy.length, List.length_map]
  have fne : 0 < fi.length := by
    cases fi with
    | nil => exact absurd rfl c
    | cons x xs => simp
  walk_at "rd"
  refine rd_minP (ks := fi.map fun i => (wkF ps d i, (i : Int))) (SqL.of eD2) (by omega) (by rw [List.length_map]; exact yl.symm) (fun i x kk hx hk => ?_) fun i t kq hx hk et hmin => ?_
  · obtain ⟨dt, h1, h2⟩ := dy.getV hx
    rw [List.getElem?_map] at h1 hk
    cases q : fi[i]? with
    | none => rw [q] at hk; cases hk
    | some z =>
      rw [q] at h1 hk
      cases h1
      cases hk
      exact h2.dt.pair_inv
  obtain ⟨K0, hK0, rfl⟩ : ∃ z : Nat, z ∈ fi ∧ kq = (wkF ps d z, (z : Int)) := by
    rw [List.getElem?_map] at hk
    cases q : fi[i]? with
    | none => rw [q] at hk; cases hk
    | some z => rw [q] at hk; exact ⟨z, List.mem_of_getElem? q, (Option.some.inj hk).symm⟩
  have hKm := fin K0 hK0
  have hCK : CheapK (wkF ps d) (fsF ps n) d m K0 := by
    refine ⟨hKm.1, hKm.2, fun j hj hjF z => ?_⟩
    have := ltPr_iff.mp (hmin (wkF ps d j, (j : Int)) (List.mem_map.mpr ⟨j, fall j hj hjF, rfl⟩))
    apply this
    rcases z with z | ⟨z1, z2⟩
    · exact .inl z
    · exact .inr ⟨z1, by show (j : Int) < (K0 : Int); omega⟩
  have s14 := s13.trans s4
  refine rd_gtup et rfl ?_
  walk_at "rd"
  refine ⟨a, ps, m, K0, d, rfl, hc.mono s14, m1, hKm.1, ⟨d0, d1⟩, fun H5 A s5 eA => ?_⟩
  generalize hal : aheadL (wkF ps d) m K0 = al at *
  have s15 := s14.trans s5
  have alt : ∀ x ∈ al, x < m := by rw [← hal]; exact filter_lt
  have ala : al.Pairwise (· < ·) := by rw [← hal]; exact filter_asc
  have all : al.length ≤ m := by rw [← hal]; exact filt_len _ m
  refine rd_lsR (SqL.of eA) ?_
  refine dcR_lst (xs := (natI al).map V.int) (fun D3 j H' => Same H5 H' ∧ H' D3 = some (.dK (dI (dN (al.take j) (fsF ps n))))) (fun D3 j H' _ ⟨s, _⟩ => SqL.of (s _ _ eA)) (fun D3 H' _ s e _ => ⟨s, e⟩) ?_ ?_
  · rintro D3 j v H6 hD3 hv ⟨s6, eD3⟩
    obtain ⟨i, hi, rfl⟩ : ∃ i : Nat, al[j]? = some i ∧ v = V.int (i : Int) := by
      unfold natI at hv
      rw [List.map_map, List.getElem?_map] at hv
      cases q : al[j]? with
      | none => rw [q] at hv; cases hv
      | some i => rw [q] at hv; exact ⟨i, rfl, (Option.some.inj hv).symm⟩
    have him := alt i (List.mem_of_getElem? hi)
    obtain ⟨r, h1, h2⟩ := kk i him
    walk_at "rd"
    refine ⟨rfl, ?_⟩
    walk_at "rd"
    refine rd_ixT ((s15.trans s6) _ _ e) (atI_nat' h1) ?_
    walk_at "rd"
    refine ⟨r, _, _, rfl, h2.mono (s15.trans s6), ⟨by omega, by omega⟩, fun H7 s7 => ?_⟩
    refine rd_dcE (s7 _ _ eD3) (by unfold dN; rw [List.length_map, List.length_take]; omega) (dN_new ala _ hi) fun H8 eH8 eD8 => ?_
    refine ⟨by rw [eH8]; exact Same.mut (s6.trans s7) hD3, ?_⟩
    rw [eD8, dN_take _ _ hi]
  · rintro D3 H6 hD3 ⟨s6, eD3⟩
    rw [List.length_map, natI_len, List.take_length] at eD3
    walk_at "rd"
    refine rd_make fun x dx H7 s7 hx e7 => ?_
    refine ⟨x, dx, D3, H6, _, _, rfl, s7, hx, e7, s7 _ _ eD3, fun H8 D4 s8 cp => ⟨rfl, ?_⟩⟩
    have := (k H8 ((s15.trans s6).trans s8)).2 x D4 K0 hCK
    rw [hal] at this
    exact this cp
end
end Sl

set_option Elab.async false
set_option linter.all false
set_option maxRecDepth 100000
set_option maxHeartbeats 8000000
set_option exponentiation.threshold 9000
namespace Sl
open PySem L2 C8 StX Silt
local macro_rules | `(tactic| walk_at "side") => `(tactic| first
  | exact cdivw (by omega) (by omega)
  | exact cmulw (by omega) (by omega) (by omega) (by omega)
  | exact Or.inr ⟨by omega, by omega⟩
  | exact Or.inl ⟨by omega, by omega⟩
  | omega
  | exact ⟨by omega, by omega, by decide⟩
  | decide)
local macro_rules | `(tactic| walk_at "rd1") => `(tactic| first
  | with_reducible refine rd_seq ?_
  | with_reducible refine rd_asg ?_
  | with_reducible refine rd_drop ?_
  | with_reducible refine rd_ret ?_
  | with_reducible refine rd_retN ?_
  | with_reducible refine rd_ifS ?_
  | ((with_reducible refine rd_var0 ?_); refine ⟨_, rfl, ?_⟩)
  | with_reducible refine rd_c ?_
  | with_reducible refine rd_op ?_
  | with_reducible refine rd_un ?_
  | with_reducible refine rd_I0 ?_
  | with_reducible refine rd_U ?_
  | ((with_reducible refine rd_I ?c ?_); (case c => walk_at "side"))
  | with_reducible refine rd_ipI ?_
  | with_reducible refine rd_eqI ?_
  | with_reducible refine rd_neI ?_
  | with_reducible refine rd_test ?_
  | with_reducible refine rd_tB ?_
  | with_reducible refine rd_bl ?_
  | with_reducible refine rd_not ?_
  | with_reducible refine rd_and ?_
  | with_reducible refine rd_or ?_
  | with_reducible refine rd_andV ?_
  | with_reducible refine rd_orV ?_
  | with_reducible refine rd_notV ?_
  | with_reducible refine rd_ifE ?_
  | with_reducible refine rd_chain ?_
  | with_reducible refine rd_chain3 ?_
  | with_reducible refine rd_nil ?_
  | with_reducible refine rd_cons ?_
  | with_reducible refine rd_call ?_
  | with_reducible refine rd_CB ?_
  | with_reducible refine rd_par ?_
  | with_reducible refine rd_par2 ?_
  | with_reducible refine rd_par3 ?_
  | with_reducible refine rd_par4 ?_
  | ((with_reducible refine rd_aug0 ?_); refine ⟨_, rfl, ?_⟩)
  | with_reducible refine rd_gname ?_
  | with_reducible refine rd_gcons ?_
  | with_reducible refine rd_gnil ?_
  | with_reducible refine rd_max ?_
  | with_reducible refine rd_min ?_
  | with_reducible refine rd_int1 ?_
  | with_reducible refine rd_abs ?_
  | with_reducible refine rd_lst ?_
  | with_reducible refine rd_tup ?_
  | with_reducible refine rd_bm ?_
  | with_reducible refine rd_fld0 ?_
  | with_reducible refine rd_sl0 ?_
  | with_reducible refine rd_noP ?_
  | with_reducible refine rd_part ?_
  | with_reducible refine rd_part2 ?_
  | with_reducible refine rd_meth0 ?_
  | with_reducible refine rd_star ?_
  | with_reducible refine rd_for ?_
  | with_reducible refine rd_rng1 ?_
  | with_reducible refine rd_rng2 ?_
  | with_reducible refine rd_rng3 ?_
  | with_reducible refine rd_iList ?_
  | with_reducible refine rd_iTup ?_
  | with_reducible refine rd_iEnum ?_
  | with_reducible refine rd_lc ?_
  | with_reducible refine rd_yes ?_
  | with_reducible refine rd_augS ?_
  | with_reducible refine rd_drawNew ?_
  | with_reducible refine rd_make0 ?_
  | with_reducible refine rd_next ?_
  | with_reducible refine rd_break ?_
  | with_reducible refine rd_cont ?_
  | with_reducible refine rd_iteTT ?_
  | with_reducible refine rd_iteFF ?_
  | with_reducible refine rd_iteNTT ?_
  | with_reducible refine rd_iteNFF ?_
  | with_reducible refine rd_con0 ?_
  | with_reducible refine rd_truO0 ?_
  | with_reducible refine rd_gfld0 ?_
  | with_reducible refine rd_dc ?_
  | with_reducible refine rd_iKeys ?_
  | with_reducible refine rd_dget0 ?_
  | with_reducible refine rd_dput0 ?_
  | with_reducible refine rd_dnot0 ?_
  | with_reducible refine rd_iEnumT ?_
  | with_reducible refine rd_raP0 ?_
  | with_reducible refine rd_xf0 ?_
  | with_reducible refine rd_asgG ?_)
local macro_rules | `(tactic| walk_at "rd") => `(tactic| repeat walk_at "rd1")
local macro_rules | `(tactic| walk_at "len") => `(tactic| first
  | (intro vs H Q E h; obtain ⟨h2, _⟩ := h; rw [h2]; rfl)
  | (intro vs H Q E h; obtain ⟨_, h2, _⟩ := h; rw [h2]; rfl)
  | (intro vs H Q E h; obtain ⟨_, _, h2, _⟩ := h; rw [h2]; rfl)
  | (intro vs H Q E h; obtain ⟨_, _, _, h2, _⟩ := h; rw [h2]; rfl)
  | (intro vs H Q E h; obtain ⟨_, _, _, _, h2, _⟩ := h; rw [h2]; rfl)
  | (intro vs H Q E h; obtain ⟨_, _, _, _, _, h2, _⟩ := h; rw [h2]; rfl)
  | (intro vs H Q E h; obtain ⟨_, _, _, _, _, _, h2, _⟩ := h; rw [h2]; rfl)
  | (intro vs H Q E h; obtain ⟨_, _, _, _, _, _, _, h2, _⟩ := h; rw [h2]; rfl)
  | (intro vs H Q E h; obtain ⟨_, _, _, _, _, _, _, _, h2, _⟩ := h; rw [h2]; rfl)
  | (intro vs H Q E h; obtain ⟨_, _, _, _, _, _, _, _, _, h2, _⟩ := h; rw [h2]; rfl)
  | (intro vs H Q E h; obtain ⟨_, _, _, _, _, _, _, _, _, _, h2, _⟩ := h; rw [h2]; rfl)
  | (intro vs H Q E h; obtain ⟨_, _, _, _, _, _, _, _, _, _, _, h2, _⟩ := h; rw [h2]; rfl)
  | (intro vs H Q E h; obtain ⟨_, _, _, _, _, _, _, _, _, _, _, _, h2, _⟩ := h; rw [h2]; rfl))
section
variable {H : Hp} {Q : VK} {K : PySem.W.Frag}
theorem kit_nn : PySem.W.kitAny K (.type "NoneType") [.type "list", .type "tuple"] = some false := kitAny_cons (b := false) (kit_ty (by decide +kernel)) (fun _ => kitAny_cons (b := false) (kit_ty (by decide +kernel)) (fun _ => rfl) (fun h => nomatch h)) (fun h => nomatch h)
theorem rd_isiTN {u : Addr} (eu : H u = some (.tup [.ty "list", .ty "tuple"])) (h : Q (.bl false) H) : rIsiT K [.non, .ref u] H Q :=
  ⟨_, u, _, _, [.type "list", .type "tuple"], false, rfl, eu, .cons (.ty _) (.cons (.ty _) .nil), .base .non, kit_nn, h⟩
end
/-- no choices: and the place that is told -/
def BadC (C : Addr) (H : Hp) (v z : V) : Prop := (v = .non ∧ z = .non) ∨ (∃ a xs, v = .ref a ∧ H a = some (.lst xs) ∧ (xs.length = 0 ∨ 40 < xs.length) ∧ z = .non) ∨
  ∃ a r dx fs i, v = .ref a ∧ H a = some (.lst [.ref r, .int i]) ∧ H r = some (.ins C dx fs) ∧ z = .int 1
def spChkCX (CR C : Addr) : Sp := fun vs H _ E => ∃ v z, vs = [v] ∧ BadC CR H v z ∧ ∀ d H', Same H H' → H' d = some (.xd [("place", z)]) → E (.ref C) (some d) H'
def spOutdX (CR C : Addr) : Sp := fun vs H _ E => ∃ v w z, vs = [v, w] ∧ BadC CR H v z ∧ ∀ d H', Same H H' → H' d = some (.xd [("place", z)]) → E (.ref C) (some d) H'
def spChkAX (CR C : Addr) : Sp := fun vs H _ E => ∃ (a : Addr) (ps : Nat → Pr) (m : Nat) (n d : Int), vs = [.ref a, .int n, .int d] ∧ ChP CR H a ps m ∧ (1 ≤ m ∧ m ≤ 40) ∧ n < 0 ∧ ∀ H', Same H H' → E (.ref C) none H'
section
variable {P : Program} {w : World} {K : PySem.W.Frag} {mg : Str → Option Value} {base : Heap} {C_Rule C_Evidence C_Good C_Cheapest C_BadDay C_BadChoices : Addr}
theorem xal_check_choices (T : TX P K mg C_Rule C_Evidence C_Good C_Cheapest C_BadDay C_BadChoices) : CalX P w K mg base 3 "check_choices" (spChkCX C_Rule C_BadChoices) [] := by
  obtain ⟨f0, fd, D, dn⟩ := T.d_check_choices
  refine calX0 D (D.fn.binds dn fun _ _ _ _ _ _ us hl => match us, hl with | [_], _ => rfl) .nil sc_check_choices (by walk_at "len") (fun cdv A outer s H vs Q E hr h => ?_)
  obtain ⟨v, z, rfl, hb, k⟩ := h
  rcases hb with ⟨rfl, rfl⟩ | ⟨a, xs, rfl, e, hl, rfl⟩ | ⟨a, r, dx, fs, i, rfl, e, er, rfl⟩
  · refine ⟨_, (pss_cons (ps_if (PW.pt (pw_or (pt_not (pt_val (pe_callB call_isiT (by rfl) T.b_isinstance (by decide +kernel) (pa_cons (pv 0) (pa_cons (pe_tup (pa_cons (pe_bltn (v := .ty "list") (u := .type "list") rfl T.b_list (by decide +kernel) rfl) (pa_cons (pe_bltn (v := .ty "tuple") (u := .type "tuple") rfl T.b_tuple (by decide +kernel) rfl) pa_nil))) pa_nil))))) (pw_or1 (pt_not (pt_chain op_le op_le pe_int (pe_callB cr_lenS (by rfl) T.b_len (by decide +kernel) (pa_cons (pv 0) pa_nil)) (pe_gc rfl T.g_MOST_CHOICES)))))) (pss_one (ps_raiseP rfl (takes_of rfl rfl rfl rfl) T.y_BadChoices ss_BadChoices T.b_super T.mg_BadChoices hr (by decide) rfl pe_non)) pss_nil)
      (pss_one (ps_for (passes_of rfl) rfl (pi_enum (by rfl) T.b_enumerate (pa_cons (pv 0) pa_nil)) (pg_tup rfl (pgs_cons (pg_n 1 sc_check_choices.nd) (pgs_cons (pg_n 2 sc_check_choices.nd) pgs_nil))) (pss_one (ps_if (pt_not (pt_val (pe_callB call_isi (by rfl) T.b_isinstance (by decide +kernel) (pa_cons (pv 2) (pa_cons (pe_gc rfl T.g_Rule) pa_nil))))) (pss_one (ps_raiseP rfl (takes_of rfl rfl rfl rfl) T.y_BadChoices ss_BadChoices T.b_super T.mg_BadChoices hr (by decide) rfl (pv 1))) pss_nil))))), ?_⟩
    walk_at "rd"
    refine rd_newT (by decide) fun u H1 _ s1 eu _ => ?_
    walk_at "rd"
    refine rd_isiTN eu ?_
    walk_at "rd"
    exact rd_raP fun d H' hd s e => k d H' (s1.trans s) e
  · refine ⟨_, (pss_cons (ps_if (PW.pt (pw_or (pt_not (pt_val (pe_callB call_isiT (by rfl) T.b_isinstance (by decide +kernel) (pa_cons (pv 0) (pa_cons (pe_tup (pa_cons (pe_bltn (v := .ty "list") (u := .type "list") rfl T.b_list (by decide +kernel) rfl) (pa_cons (pe_bltn (v := .ty "tuple") (u := .type "tuple") rfl T.b_tuple (by decide +kernel) rfl) pa_nil))) pa_nil))))) (pw_or1 (pt_not (pt_chain op_le op_le pe_int (pe_callB cr_lenS (by rfl) T.b_len (by decide +kernel) (pa_cons (pv 0) pa_nil)) (pe_gc rfl T.g_MOST_CHOICES)))))) (pss_one (ps_raiseP rfl (takes_of rfl rfl rfl rfl) T.y_BadChoices ss_BadChoices T.b_super T.mg_BadChoices hr (by decide) rfl pe_non)) pss_nil)
      (pss_one (ps_for (passes_of rfl) rfl (pi_enum (by rfl) T.b_enumerate (pa_cons (pv 0) pa_nil)) (pg_tup rfl (pgs_cons (pg_n 1 sc_check_choices.nd) (pgs_cons (pg_n 2 sc_check_choices.nd) pgs_nil))) (pss_one (ps_if (pt_not (pt_val (pe_callB call_isi (by rfl) T.b_isinstance (by decide +kernel) (pa_cons (pv 2) (pa_cons (pe_gc rfl T.g_Rule) pa_nil))))) (pss_one (ps_raiseP rfl (takes_of rfl rfl rfl rfl) T.y_BadChoices ss_BadChoices T.b_super T.mg_BadChoices hr (by decide) rfl (pv 1))) pss_nil))))), ?_⟩
    walk_at "rd"
    refine rd_newT (by decide) fun u H1 _ s1 eu _ => ?_
    walk_at "rd"
    refine rd_isiTL (s1 _ _ e) eu ?_
    walk_at "rd"
    refine rd_lenL (s1 _ _ e) ?_
    walk_at "rd"
    refine rd_ite (fun c => ?_) (fun c => ?_)
    · walk_at "rd"
      rw [decide_eq_false (by omega : ¬ (xs.length : Int) ≤ 40)]
      walk_at "rd"
      exact rd_raP fun d H' hd s e => k d H' (s1.trans s) e
    · walk_at "rd"
      exact rd_raP fun d H' hd s e => k d H' (s1.trans s) e
  · refine ⟨_, (pss_cons (ps_if (PW.pt (pw_or (pt_not (pt_val (pe_callB call_isiT (by rfl) T.b_isinstance (by decide +kernel) (pa_cons (pv 0) (pa_cons (pe_tup (pa_cons (pe_bltn (v := .ty "list") (u := .type "list") rfl T.b_list (by decide +kernel) rfl) (pa_cons (pe_bltn (v := .ty "tuple") (u := .type "tuple") rfl T.b_tuple (by decide +kernel) rfl) pa_nil))) pa_nil))))) (pw_or1 (pt_not (pt_chain op_le op_le pe_int (pe_callB cr_lenS (by rfl) T.b_len (by decide +kernel) (pa_cons (pv 0) pa_nil)) (pe_gc rfl T.g_MOST_CHOICES)))))) (pss_one (ps_raiseP rfl (takes_of rfl rfl rfl rfl) T.y_BadChoices ss_BadChoices T.b_super T.mg_BadChoices hr (by decide) rfl pe_non)) pss_nil)
      (pss_one (ps_for (passes_of rfl) rfl (pi_enum (by rfl) T.b_enumerate (pa_cons (pv 0) pa_nil)) (pg_tup rfl (pgs_cons (pg_n 1 sc_check_choices.nd) (pgs_cons (pg_n 2 sc_check_choices.nd) pgs_nil))) (pss_one (ps_if (pt_not (pt_val (pe_callB call_isi (by rfl) T.b_isinstance (by decide +kernel) (pa_cons (pv 2) (pa_cons (pe_gc rfl T.g_Rule) pa_nil))))) (pss_one (ps_raiseP rfl (takes_of rfl rfl rfl rfl) T.y_BadChoices ss_BadChoices T.b_super T.mg_BadChoices hr (by decide) rfl (pv 1))) pss_nil))))), ?_⟩
    walk_at "rd"
    refine rd_newT (by decide) fun u H1 _ s1 eu _ => ?_
    walk_at "rd"
    refine rd_isiTL (s1 _ _ e) eu ?_
    walk_at "rd"
    refine rd_lenL (s1 _ _ e) ?_
    rw [show (([V.ref r, V.int i] : List V).length : Int) = 2 from rfl]
    walk_at "rd"
    rw [decide_eq_true (by decide : (1 : Int) ≤ 2)]
    walk_at "rd"
    rw [decide_eq_true (by decide : (2 : Int) ≤ 40)]
    walk_at "rd"
    refine rd_enR (SqL.of (s1 _ _ e)) ?_
    refine forR_enum (xs := [.ref r, .int i]) (fun j σ H' => ∃ v1 v2, j < 2 ∧ Same H H' ∧ σ = [some (.ref a), v1, v2]) (fun i σ H' ⟨_, _, _, s, _⟩ => SqL.of (s _ _ e)) ⟨none, none, by decide, s1, rfl⟩ ?_ ?_
    · rintro j y σ H2 q H3 hi ⟨v1, v2, _, s2, rfl⟩ _ s3 eq _
      refine rd_gtup eq rfl ?_
      walk_at "rd"
      match j, hi with
      | 0, hi =>
        cases hi
        refine rd_isiC T.i_Rule ((s2.trans s3) _ _ er) ?_
        walk_at "rd"
        exact ⟨_, _, by decide, s2.trans s3, rfl⟩
      | 1, hi =>
        cases hi
        refine rd_isiCi (T.nk_Rule _ sub_int) ?_
        walk_at "rd"
        exact rd_raP fun d H' hd s e => k d H' ((s2.trans s3).trans s) e
      | j + 2, hi => simp at hi
    · rintro σ H2 ⟨v1, v2, hc, _⟩
      exact absurd hc (Nat.lt_irrefl 2)
theorem xal_outdone (T : TX P K mg C_Rule C_Evidence C_Good C_Cheapest C_BadDay C_BadChoices) : CalX P w K mg base 7 "outdone" (spOutdX C_Rule C_BadChoices) [] := by
  obtain ⟨f0, fd, D, dn⟩ := T.d_outdone
  have X_check_choices := xal_check_choices (P := P) (w := w) (base := base) T
  refine calX0 D (D.fn.binds dn fun _ _ _ _ _ _ us hl => match us, hl with | [_, _], _ => rfl) .nil sc_outdone (by walk_at "len") (fun cdv A outer s H vs Q E hr h => ?_)
  obtain ⟨v, w', z, rfl, hb, k⟩ := h
  refine ⟨_, (pss_cons (ps_expr (pe_cX X_check_choices hr (by decide) rfl (fun σ => passAt (takes_of rfl rfl rfl rfl) σ) (pa_cons (pv 0) pa_nil)))
      (pss_cons ps_never
      (pss_cons ps_never
      (pss_cons ps_never
      (pss_one ps_never))))), ?_⟩
  walk_at "rd"
  refine rd_callSd ?_
  walk_at "rd"
  exact rd_callSd2 ⟨v, z, rfl, hb, k⟩
theorem xal_check_asked (T : TX P K mg C_Rule C_Evidence C_Good C_Cheapest C_BadDay C_BadChoices) : CalX P w K mg base 4 "check_asked" (spChkAX C_Rule C_BadDay) [] := by
  obtain ⟨f0, fd, D, dn⟩ := T.d_check_asked
  have G_check_choices := cal_check_choices (P := P) (w := w) (base := base) T
  have X_check_number := xal_check_number (P := P) (w := w) (base := base) T
  refine calX0 D (D.fn.binds dn fun _ _ _ _ _ _ us hl => match us, hl with | [_, _, _], _ => rfl) .nil sc_check_asked (by walk_at "len") (fun cdv A outer s H vs Q E hr h => ?_)
  obtain ⟨a, ps, m, n, d, rfl, hc, hm, hn, k⟩ := h
  refine ⟨_, (pss_cons (ps_expr (pe_c G_check_choices hr (by decide) rfl (pa_cons (pv 0) pa_nil)))
      (pss_cons (ps_expr (pe_cX X_check_number hr (by decide) rfl (fun σ => passAt (takes_of rfl rfl rfl rfl) σ) (pa_cons (pv 1) pa_nil)))
      (pss_one ps_never))), ?_⟩
  walk_at "rd"
  refine ⟨a, ps, m, rfl, hc, hm, fun H1 s1 => ?_⟩
  walk_at "rd"
  refine rd_callSd ?_
  walk_at "rd"
  exact rd_callSd2 ⟨.int n, 0, rfl, .inr ⟨.inr ⟨n, rfl, hn⟩, k H1 s1⟩⟩
theorem xal_cheapest (T : TX P K mg C_Rule C_Evidence C_Good C_Cheapest C_BadDay C_BadChoices) : CalX P w K mg base 7 "cheapest" (spChkAX C_Rule C_BadDay) [] := by
  obtain ⟨f0, fd, D, dn⟩ := T.d_cheapest
  have X_check_asked := xal_check_asked (P := P) (w := w) (base := base) T
  refine calX0 D (D.fn.binds dn fun _ _ _ _ _ _ us hl => match us, hl with | [_, _, _], _ => rfl) .nil sc_cheapest (by walk_at "len") (fun cdv A outer s H vs Q E hr h => ?_)
  obtain ⟨a, ps, m, n, d, rfl, hc, hm, hn, k⟩ := h
  refine ⟨_, (pss_cons (ps_expr (pe_cX X_check_asked hr (by decide) rfl (fun σ => passAt (takes_of rfl rfl rfl rfl) σ) (pa_cons (pv 0) (pa_cons (pv 1) (pa_cons (pv 2) pa_nil)))))
      (pss_cons ps_never
      (pss_cons ps_never
      (pss_cons ps_never
      (pss_one ps_never))))), ?_⟩
  walk_at "rd"
  refine rd_callSd ?_
  walk_at "rd"
  exact rd_callSd2 ⟨a, ps, m, n, d, rfl, hc, hm, hn, k⟩
end
end Sl

set_option Elab.async false
set_option linter.all false
set_option maxRecDepth 100000
set_option maxHeartbeats 8000000
set_option exponentiation.threshold 9000
namespace Sl
open PySem L2 C8 StX Silt
local macro_rules | `(tactic| walk_at "side") => `(tactic| first
  | exact cdivw (by omega) (by omega)
  | exact cmulw (by omega) (by omega) (by omega) (by omega)
  | exact Or.inr ⟨by omega, by omega⟩
  | exact Or.inl ⟨by omega, by omega⟩
  | omega
  | exact ⟨by omega, by omega, by decide⟩
  | decide)
local macro_rules | `(tactic| walk_at "rd1") => `(tactic| first
  | with_reducible refine rd_seq ?_
  | with_reducible refine rd_asg ?_
  | with_reducible refine rd_drop ?_
  | with_reducible refine rd_ret ?_
  | with_reducible refine rd_retN ?_
  | with_reducible refine rd_ifS ?_
  | ((with_reducible refine rd_var0 ?_); refine ⟨_, rfl, ?_⟩)
  | with_reducible refine rd_c ?_
  | with_reducible refine rd_op ?_
  | with_reducible refine rd_un ?_
  | with_reducible refine rd_I0 ?_
  | with_reducible refine rd_U ?_
  | ((with_reducible refine rd_I ?c ?_); (case c => walk_at "side"))
  | with_reducible refine rd_ipI ?_
  | with_reducible refine rd_eqI ?_
  | with_reducible refine rd_neI ?_
  | with_reducible refine rd_test ?_
  | with_reducible refine rd_tB ?_
  | with_reducible refine rd_bl ?_
  | with_reducible refine rd_not ?_
  | with_reducible refine rd_and ?_
  | with_reducible refine rd_or ?_
  | with_reducible refine rd_andV ?_
  | with_reducible refine rd_orV ?_
  | with_reducible refine rd_notV ?_
  | with_reducible refine rd_ifE ?_
  | with_reducible refine rd_chain ?_
  | with_reducible refine rd_chain3 ?_
  | with_reducible refine rd_nil ?_
  | with_reducible refine rd_cons ?_
  | with_reducible refine rd_call ?_
  | with_reducible refine rd_CB ?_
  | with_reducible refine rd_par ?_
  | with_reducible refine rd_par2 ?_
  | with_reducible refine rd_par3 ?_
  | with_reducible refine rd_par4 ?_
  | ((with_reducible refine rd_aug0 ?_); refine ⟨_, rfl, ?_⟩)
  | with_reducible refine rd_gname ?_
  | with_reducible refine rd_gcons ?_
  | with_reducible refine rd_gnil ?_
  | with_reducible refine rd_max ?_
  | with_reducible refine rd_min ?_
  | with_reducible refine rd_int1 ?_
  | with_reducible refine rd_abs ?_
  | with_reducible refine rd_lst ?_
  | with_reducible refine rd_tup ?_
  | with_reducible refine rd_bm ?_
  | with_reducible refine rd_fld0 ?_
  | with_reducible refine rd_sl0 ?_
  | with_reducible refine rd_noP ?_
  | with_reducible refine rd_part ?_
  | with_reducible refine rd_part2 ?_
  | with_reducible refine rd_meth0 ?_
  | with_reducible refine rd_star ?_
  | with_reducible refine rd_for ?_
  | with_reducible refine rd_rng1 ?_
  | with_reducible refine rd_rng2 ?_
  | with_reducible refine rd_rng3 ?_
  | with_reducible refine rd_iList ?_
  | with_reducible refine rd_iTup ?_
  | with_reducible refine rd_iEnum ?_
  | with_reducible refine rd_lc ?_
  | with_reducible refine rd_yes ?_
  | with_reducible refine rd_augS ?_
  | with_reducible refine rd_drawNew ?_
  | with_reducible refine rd_make0 ?_
  | with_reducible refine rd_next ?_
  | with_reducible refine rd_break ?_
  | with_reducible refine rd_cont ?_
  | with_reducible refine rd_iteTT ?_
  | with_reducible refine rd_iteFF ?_
  | with_reducible refine rd_iteNTT ?_
  | with_reducible refine rd_iteNFF ?_
  | with_reducible refine rd_con0 ?_
  | with_reducible refine rd_truO0 ?_
  | with_reducible refine rd_gfld0 ?_
  | with_reducible refine rd_dc ?_
  | with_reducible refine rd_iKeys ?_
  | with_reducible refine rd_dget0 ?_
  | with_reducible refine rd_dput0 ?_
  | with_reducible refine rd_dnot0 ?_
  | with_reducible refine rd_iEnumT ?_
  | with_reducible refine rd_raP0 ?_
  | with_reducible refine rd_xf0 ?_
  | with_reducible refine rd_asgG ?_)
local macro_rules | `(tactic| walk_at "rd") => `(tactic| repeat walk_at "rd1")
local macro_rules | `(tactic| walk_at "len") => `(tactic| first
  | (intro vs H Q E h; obtain ⟨h2, _⟩ := h; rw [h2]; rfl)
  | (intro vs H Q E h; obtain ⟨_, h2, _⟩ := h; rw [h2]; rfl)
  | (intro vs H Q E h; obtain ⟨_, _, h2, _⟩ := h; rw [h2]; rfl)
  | (intro vs H Q E h; obtain ⟨_, _, _, h2, _⟩ := h; rw [h2]; rfl)
  | (intro vs H Q E h; obtain ⟨_, _, _, _, h2, _⟩ := h; rw [h2]; rfl)
  | (intro vs H Q E h; obtain ⟨_, _, _, _, _, h2, _⟩ := h; rw [h2]; rfl)
  | (intro vs H Q E h; obtain ⟨_, _, _, _, _, _, h2, _⟩ := h; rw [h2]; rfl)
  | (intro vs H Q E h; obtain ⟨_, _, _, _, _, _, _, h2, _⟩ := h; rw [h2]; rfl)
  | (intro vs H Q E h; obtain ⟨_, _, _, _, _, _, _, _, h2, _⟩ := h; rw [h2]; rfl)
  | (intro vs H Q E h; obtain ⟨_, _, _, _, _, _, _, _, _, h2, _⟩ := h; rw [h2]; rfl)
  | (intro vs H Q E h; obtain ⟨_, _, _, _, _, _, _, _, _, _, h2, _⟩ := h; rw [h2]; rfl)
  | (intro vs H Q E h; obtain ⟨_, _, _, _, _, _, _, _, _, _, _, h2, _⟩ := h; rw [h2]; rfl)
  | (intro vs H Q E h; obtain ⟨_, _, _, _, _, _, _, _, _, _, _, _, h2, _⟩ := h; rw [h2]; rfl))
def spChePc (C : Addr) : Sp := fun vs H Q _ => ∃ (x D : Addr) (k : Int) (ls : List (Int × Int)), vs = [.ref x] ∧ CheP C H x k D ls ∧ ∀ H' t, Same H H' → H' t = some (.tup [.int k, .ref D]) → Q (.ref t) H'
def spCheEq (C : Addr) : Sp := fun vs H Q _ => ∃ (x y D E : Addr) (k : Int) (ls : List (Int × Int)), vs = [.ref x, .ref y] ∧ CheP C H x k D ls ∧ CheP C H y k E ls ∧ (ls.map (·.1)).Nodup ∧ ∀ H', Same H H' → Q (.bl true) H'
/-- evidence that does not show -/
def spCheSN (CR C : Addr) : Sp := fun vs H Q _ => ∃ (x a D : Addr) (ps : Nat → Pr) (m : Nat) (k n d : Int) (ls : List (Int × Int)), vs = [.ref x, .ref a, .int n, .int d] ∧ CheP C H x k D ls ∧ (ls.map (·.1)).Nodup ∧ ls.length < 64 ∧ ChP CR H a ps m ∧ (1 ≤ m ∧ m ≤ 40) ∧ (0 ≤ n ∧ n ≤ 1900) ∧ (0 ≤ d ∧ d ≤ 10 ^ 21) ∧
  (k < 0 ∨ (m : Int) ≤ k ∨ ∃ j : Nat, k = j ∧ j < m ∧ (fsF ps n j ≤ d ∨ ls.length ≠ (aheadL (wkF ps d) m j).length)) ∧ ∀ H', Same H H' → Q (.bl false) H'
def spCheSB (CR C : Addr) : Sp := fun vs H Q E => ∃ (x a : Addr) (n d : Int), vs = [.ref x, .ref a, .int n, .int d] ∧ (spCheS CR C vs H Q E ∨ spCheSN CR C vs H Q E)
theorem rd_sortDIp {H : Hp} {Q : VK} {a : Addr} {ls : List (Int × Int)} (e : H a = some (.dK (dI ls))) (l : ls.length < 64) (h : ∀ p H' (ys : List Int), H p = none → Same H H' → ys.Perm (ls.map (·.1)) → H' p = some (.lst (ys.map V.int)) → Q (.ref p) H') : rSortDI [.ref a] H Q :=
  ⟨a, _, ls.map (·.1), rfl, .inl e, dI_keys ls, by rw [List.length_map]; exact l, fun ys p pm sr hp => h p _ ys hp (Same.new (Same.refl H) hp) pm upd_same⟩
section
variable {P : Program} {w : World} {K : PySem.W.Frag} {mg : Str → Option Value} {base : Heap} {C_Rule C_Evidence C_Good C_Cheapest C_BadDay C_BadChoices : Addr}
theorem met_Cheapest_bool (T : TX P K mg C_Rule C_Evidence C_Good C_Cheapest C_BadDay C_BadChoices) : Met P w K mg base 1 C_Cheapest "__bool__" spTrue [] := by
  obtain ⟨f0, fd, D, dn, me, _⟩ := T.m_Cheapest_bool
  refine met0 T.cl_Cheapest me D (D.binds dn fun _ _ _ _ _ _ us hl => match us, hl with | [_], _ => rfl) sc_Good_bool (by walk_at "len") (fun cdv A outer s H vs Q E hr h => ?_)
  obtain ⟨a, rfl, k⟩ := h
  refine ⟨_, (pss_one (ps_ret pe_bl)), ?_⟩
  walk_at "rd"
  exact k
theorem met_Cheapest_pieces (T : TX P K mg C_Rule C_Evidence C_Good C_Cheapest C_BadDay C_BadChoices) : Met P w K mg base 1 C_Cheapest "pieces" (spChePc C_Cheapest) [] := by
  obtain ⟨f0, fd, D, dn, me, _⟩ := T.m_Cheapest_pieces
  refine met0 T.cl_Cheapest me D (D.binds dn fun _ _ _ _ _ _ us hl => match us, hl with | [_], _ => rfl) sc_Cheapest_pieces (by walk_at "len") (fun cdv A outer s H vs Q E hr h => ?_)
  obtain ⟨x, D, k', ls, rfl, ⟨⟨dx, e⟩, eD⟩, k⟩ := h
  refine ⟨_, (pss_one (ps_ret (pe_tup (pa_cons (pe_fld (pv 0) rfl) (pa_cons (pe_fld (pv 0) rfl) pa_nil))))), ?_⟩
  walk_at "rd"
  refine rd_fld e T.cl_Cheapest T.na_Cheapest_place (che_place _ _) ?_
  walk_at "rd"
  refine rd_fld e T.cl_Cheapest T.na_Cheapest_against (che_against _ _) ?_
  walk_at "rd"
  refine rd_newT (by simp) fun t H1 _ s1 et _ => ?_
  exact k H1 t s1 et
theorem met_Cheapest_eq (T : TX P K mg C_Rule C_Evidence C_Good C_Cheapest C_BadDay C_BadChoices) : Met P w K mg base 2 C_Cheapest "__eq__" (spCheEq C_Cheapest) [] := by
  obtain ⟨f0, fd, D, dn, me, _⟩ := T.m_Cheapest_eq
  have G_Cheapest_pieces := met_Cheapest_pieces (P := P) (w := w) (base := base) T
  refine met0 T.cl_Cheapest me D (D.binds dn fun _ _ _ _ _ _ us hl => match us, hl with | [_, _], _ => rfl) sc_Evidence_eq (by walk_at "len") (fun cdv A outer s H vs Q E hr h => ?_)
  obtain ⟨a, b, D, E', k', ls, rfl, ca, cb, nd, k⟩ := h
  obtain ⟨⟨dx, ea⟩, eD⟩ := id ca
  obtain ⟨⟨dy, eb⟩, eE⟩ := id cb
  refine ⟨_, (pss_cons (ps_if (PW.pt (pw_or (pt_not (pt_val (pe_callB (cr_isUp T.up_Cheapest_Evidence) (by rfl) T.b_isinstance (by decide +kernel) (pa_cons (pv 1) (pa_cons (pe_gc rfl T.g_Evidence) pa_nil))))) (pw_or1 (pt_cmpR op_ne (pe_con (pv 0) rfl) (pe_con (pv 1) rfl) (nomark _))))) (pss_one (ps_ret pe_bl)) pss_nil)
      (pss_one (ps_ret (pe_cmpR (op_eqPD hr.units) (pe_mt0 (pl := _) G_Cheapest_pieces hr (by decide) (pv 0)) (pe_mt0 (pl := _) G_Cheapest_pieces hr (by decide) (pv 1)) (nomark _))))), ?_⟩
  walk_at "rd"
  refine rd_isUp eb ?_
  walk_at "rd"
  refine rd_con ea T.cl_Cheapest T.k_Cheapest_WORD (che_meth _ _ (by decide +kernel) (by decide +kernel)) ?_
  walk_at "rd"
  refine rd_con eb T.cl_Cheapest T.k_Cheapest_WORD (che_meth _ _ (by decide +kernel) (by decide +kernel)) ?_
  walk_at "rd"
  refine rd_ne rfl ?_
  rw [decide_eq_true rfl]
  walk_at "rd"
  refine ⟨_, _, _, rfl, ea, che_meth _ _ (by decide +kernel) (by decide +kernel), ?_⟩
  walk_at "rd"
  refine ⟨a, D, k', ls, rfl, ca, fun H1 t1 s1 et1 => ?_⟩
  walk_at "rd"
  refine ⟨_, _, _, rfl, s1 _ _ eb, che_meth _ _ (by decide +kernel) (by decide +kernel), ?_⟩
  walk_at "rd"
  refine ⟨b, E', k', ls, rfl, cb.mono s1, fun H2 t2 s2 et2 => ?_⟩
  have s12 := s1.trans s2
  refine rd_eqPD (s2 _ _ et1) et2 (s12 _ _ eD) (s12 _ _ eE) nd ?_
  exact k H2 s12
theorem met_Cheapest_shows_both (T : TX P K mg C_Rule C_Evidence C_Good C_Cheapest C_BadDay C_BadChoices) : Met P w K mg base 7 C_Cheapest "shows" (spCheSB C_Rule C_Cheapest) [] := by
  obtain ⟨f0, fd, D, dn, me, _⟩ := T.m_Cheapest_shows
  have G_check_asked := cal_check_asked (P := P) (w := w) (base := base) T
  have G_is_whole := cal_is_whole (P := P) (w := w) (base := base) T
  have G_first_with := cal_first_with (P := P) (w := w) (base := base) T
  have G_ahead_of := cal_ahead_of (P := P) (w := w) (base := base) T
  refine met0 T.cl_Cheapest me D (D.binds dn fun _ _ _ _ _ _ us hl => match us, hl with | [_, _, _, _], _ => rfl) sc_Cheapest_shows (by walk_at "len") (fun cdv A outer s H vs Q E hr h => ?_)
  obtain ⟨_, _, _, _, _, h⟩ := h
  rcases h with h | h
  · obtain ⟨x, a, D, ps, m, k', n, d, ks, g, rfl, cp, ka, km, kl, hc, ⟨m0, m1⟩, hk, ⟨n0, n1⟩, ⟨d0, d1⟩, k⟩ := h
    obtain ⟨vs, e, l, kk⟩ := id hc
    obtain ⟨⟨dx, ex⟩, eD⟩ := id cp
    obtain ⟨rk, ek, hrk⟩ := kk k' hk
    refine ⟨_, (pss_cons (ps_expr (pe_c G_check_asked hr (by decide) rfl (pa_cons (pv 1) (pa_cons (pv 2) (pa_cons (pv 3) pa_nil)))))
      (pss_cons (ps_if (PW.pt (pw_or (pt_not (pt_val (pe_c G_is_whole hr (by decide) rfl (pa_cons (pe_fld (pv 0) rfl) pa_nil)))) (pw_or1 (pt_not (pt_chain op_le op_lt pe_int (pe_fld (pv 0) rfl) (pe_callB cr_lenS (by rfl) T.b_len (by decide +kernel) (pa_cons (pv 1) pa_nil))))))) (pss_one (ps_ret pe_bl)) pss_nil)
      (pss_cons (ps_if (pt_cmpR op_le (pe_c G_first_with hr (by decide) rfl (pa_cons (pe_ix ix_list (pv 1) (pe_fld (pv 0) rfl) (fun _ _ => rfl)) (pa_cons (pe_op op_add (pv 2) pe_int) pa_nil))) (pv 3) (nomark _)) (pss_one (ps_ret pe_bl)) pss_nil)
      (pss_cons (ps_if (pt_cmpR (op_neD hr.units) (pe_callB (cr_sortDI rfl) (by rfl) T.b_sorted (by decide +kernel) (pa_cons (pe_fld (pv 0) rfl) pa_nil)) (pe_c G_ahead_of hr (by decide) rfl (pa_cons (pv 1) (pa_cons (pe_fld (pv 0) rfl) (pa_cons (pv 3) pa_nil)))) (nomark _)) (pss_one (ps_ret pe_bl)) pss_nil)
      (pss_cons (ps_s 4 sc_Cheapest_shows.nd (pe_lock (pe_dc (own := [("place", 5)]) (g := gName 5) (tt := tYes) rfl sc_Cheapest_shows.nd (pi_keys (pe_fld (pv 0) rfl)) (blkOk_by (own := [("place", 5)]) (N := N_Cheapest_shows) (sc := fnScope s_Cheapest_shows) (by decide +kernel)) (fun _ _ _ _ _ => (pg_n 5 sc_Cheapest_shows.nd)) (fun _ _ _ _ _ => pts_nil) (fun _ _ _ _ _ => (pv 5)) (fun _ _ _ _ _ => (pe_c G_first_with hr (by decide) rfl (pa_cons (pe_ix (ixK rIxL K ix_list) (pv 1) (pv 5) (fun _ _ => rfl)) (pa_cons (pe_op op_add (pv 2) pe_int) pa_nil)))))))
      (pss_one (ps_ret (pe_callB (cr_all rfl) (by rfl) T.b_all (by decide +kernel) (pa_cons (pe_lock (pe_lc (own := [("place", 5)]) (g := gName 5) (tt := tYes) rfl sc_Cheapest_shows.nd (pi_keys (pv 4)) (blkOk_by (own := [("place", 5)]) (N := N_Cheapest_shows) (sc := fnScope s_Cheapest_shows) (by decide +kernel)) (fun _ _ _ _ _ => (pg_n 5 sc_Cheapest_shows.nd)) (fun _ _ _ _ _ => pts_nil) (fun _ _ _ _ _ => (pe_chain op_eq op_le (pe_dget (hu_of hr) (pe_fldK K (pe_fld (pv 0) rfl)) (pv 5) (fun _ _ => rfl)) (pe_dget (hu_of hr) (pv 4) (pv 5) (fun _ _ => rfl)) (pv 3))))) pa_nil))))))))), ?_⟩
    walk_at "rd"
    refine ⟨a, ps, m, _, _, rfl, hc, ⟨m0, m1⟩, n0, d0, fun H1 s1 => ?_⟩
    walk_at "rd"
    refine rd_fld (s1 _ _ ex) T.cl_Cheapest T.na_Cheapest_place (che_place _ _) ?_
    walk_at "rd"
    refine ⟨_, rfl, ?_⟩
    walk_at "rd"
    refine rd_fld (s1 _ _ ex) T.cl_Cheapest T.na_Cheapest_place (che_place _ _) ?_
    walk_at "rd"
    rw [decide_eq_true (by omega : (0 : Int) ≤ (k' : Int))]
    walk_at "rd"
    refine rd_lenL (s1 _ _ e) ?_
    walk_at "rd"
    rw [decide_eq_true (by omega : (k' : Int) < (vs.length : Int))]
    walk_at "rd"
    refine rd_fld (s1 _ _ ex) T.cl_Cheapest T.na_Cheapest_place (che_place _ _) ?_
    walk_at "rd"
    refine rd_ixL (s1 _ _ e) (atI_nat' ek) ?_
    walk_at "rd"
    refine ⟨rk, _, _, rfl, hrk.mono s1, ⟨by omega, by omega⟩, fun H2 s2 => ?_⟩
    walk_at "rd"
    have s12 := s1.trans s2
    refine rd_ite (fun c1 => ?_) (fun c1 => ?_)
    · walk_at "rd"
      exact k H2 false s12 ⟨fun z => (nomatch z), fun z => absurd z.1 (by show ¬ d < firstWith (ps k') (n + 1); omega)⟩
    walk_at "rd"
    refine rd_fld (s12 _ _ ex) T.cl_Cheapest T.na_Cheapest_against (che_against _ _) ?_
    walk_at "rd"
    refine rd_sortDI (s12 _ _ eD) (by rw [dN_keys]; exact natI_asc ka) (by rw [dN_len]; omega) fun u H3 _ s3 eu => ?_
    rw [dN_keys] at eu
    walk_at "rd"
    have s13 := s12.trans s3
    refine rd_fld (s13 _ _ ex) T.cl_Cheapest T.na_Cheapest_place (che_place _ _) ?_
    walk_at "rd"
    refine ⟨a, ps, m, k', d, rfl, hc.mono s13, m1, hk, ⟨d0, d1⟩, fun H4 t s4 et => ?_⟩
    refine rd_neD (dt_ints (s4 _ _ eu)) (dt_ints et) (shaped_ints _) (shaped_ints _) ?_
    rw [eqv_ints]
    have s14 := s13.trans s4
    walk_at "rd"
    refine rd_iteN (fun c2 => ?_) (fun c2 => ?_)
    · walk_at "rd"
      exact k H4 false s14 ⟨fun z => (nomatch z), fun z => absurd (by rw [z.2.1]) c2⟩
    have c2 := natI_inj c2
    walk_at "rd"
    have eD4 := s14 _ _ eD
    have ex4 := s14 _ _ ex
    have hxD : x ≠ D := fun z => by rw [z, eD] at ex; cases ex
    refine rd_lock eD4 trivial fun od => ?_
    obtain ⟨HL, eHL⟩ : ∃ HL, HL = upd H4 D (.frz od (.dK (dI (dN ks g)))) := ⟨_, rfl⟩
    rw [← eHL]
    have exL : HL x = some (.ins C_Cheapest dx (cheF (k' : Nat) D)) := by rw [eHL, upd_ne hxD]; exact ex4
    have eDL : HL D = some (.frz od (.dK (dI (dN ks g)))) := by rw [eHL]; exact upd_same
    obtain ⟨vs2, e2, l2, kk2⟩ : ChP C_Rule HL a ps m := by rw [eHL]; exact (hc.mono s14).lock eD4
    walk_at "rd"
    refine rd_fld exL T.cl_Cheapest T.na_Cheapest_against (che_against _ _) ?_
    refine rd_keysR eDL ?_
    refine dcR_keys (fun D2 j H' => Same HL H' ∧ H' D2 = some (.dK (dI (dN (ks.take j) (fsF ps n))))) (fun D2 j H' _ ⟨s, _⟩ => s _ _ eDL) (fun D2 H' _ s e _ => ⟨s, e⟩) ?_ ?_
    · rintro D2 j kx z H5 hD2 hj ⟨s5, eD2⟩
      obtain ⟨i, hi, rfl, rfl⟩ := dIN_get hj
      have him := km i (List.mem_of_getElem? hi)
      obtain ⟨r, h1, h2⟩ := kk2 i him
      have ekv : kV (Sum.inl (i : Int)) = V.int (i : Int) := rfl
      rw [ekv]
      walk_at "rd"
      refine ⟨rfl, ?_⟩
      walk_at "rd"
      refine rd_ixL (s5 _ _ e2) (atI_nat' h1) ?_
      walk_at "rd"
      refine ⟨r, _, _, rfl, h2.mono s5, ⟨by omega, by omega⟩, fun H6 s6 => ?_⟩
      refine rd_dcE (s6 _ _ eD2) (by rw [dN_len, List.length_take]; omega) (dN_new ka _ hi) fun H7 eH7 eD7 => ?_
      refine ⟨by rw [eH7]; exact Same.mut (s5.trans s6) hD2, ?_⟩
      rw [eD7, dN_take _ _ hi]
    rintro D2 H5 hD2 ⟨s5, eD2⟩
    rw [dI_len, dN_len, List.take_length] at eD2
    have hDD : D2 ≠ D := fun z => by rw [z, eDL] at hD2; cases hD2
    refine ⟨s5 _ _ eDL, ?_⟩
    obtain ⟨H6, eH6⟩ : ∃ H6, H6 = upd H5 D (.dK (dI (dN ks g))) := ⟨_, rfl⟩
    rw [← eH6]
    have s46 : Same H4 H6 := by
      rw [eH6]
      refine Same.unlock eD4 (o := .frz od (.dK (dI (dN ks g)))) ?_
      rw [← eHL]
      exact s5
    have s16 := s14.trans s46
    have eD26 : H6 D2 = some (.dK (dI (dN ks (fsF ps n)))) := by rw [eH6, upd_ne hDD]; exact eD2
    have eD6 := s16 _ _ eD
    have ex6 := s16 _ _ ex
    walk_at "rd"
    refine rd_lock eD26 trivial fun od2 => ?_
    obtain ⟨HM, eHM⟩ : ∃ HM, HM = upd H6 D2 (.frz od2 (.dK (dI (dN ks (fsF ps n))))) := ⟨_, rfl⟩
    rw [← eHM]
    have hxD2 : x ≠ D2 := fun z => by rw [z, eD26] at ex6; cases ex6
    have exM : HM x = some (.ins C_Cheapest dx (cheF (k' : Nat) D)) := by rw [eHM, upd_ne hxD2]; exact ex6
    have eDM : HM D = some (.dK (dI (dN ks g))) := by rw [eHM, upd_ne (Ne.symm hDD)]; exact eD6
    have eD2M : HM D2 = some (.frz od2 (.dK (dI (dN ks (fsF ps n))))) := by rw [eHM]; exact upd_same
    walk_at "rd"
    refine rd_keysR eD2M ?_
    refine lcR_keys (fun L j H' => Same HM H' ∧ H' L = some (.lst (((ks.take j).map fun i => decide (g i = fsF ps n i ∧ fsF ps n i ≤ d)).map V.bl))) (fun L j H' _ ⟨s, _⟩ => s _ _ eD2M) (fun L H' _ s e _ => ⟨s, e⟩) ?_ ?_
    · rintro L j kx z H7 hL hj ⟨s7, eL⟩
      obtain ⟨i, hi, rfl, rfl⟩ := dIN_get hj
      have hik := List.mem_of_getElem? hi
      have ekv : kV (Sum.inl (i : Int)) = V.int (i : Int) := rfl
      rw [ekv]
      walk_at "rd"
      refine ⟨rfl, ?_⟩
      walk_at "rd"
      refine rd_fld (s7 _ _ exM) T.cl_Cheapest T.na_Cheapest_against (che_against _ _) ?_
      walk_at "rd"
      refine rd_dget (.inl (s7 _ _ eDM)) (dN_at ka g hik) ?_
      walk_at "rd"
      refine rd_dget (.inr ⟨od2, s7 _ _ eD2M⟩) (dN_at ka _ hik) ?_
      walk_at "rd"
      have fin : ∀ b : Bool, (b = true ↔ (g i = fsF ps n i ∧ fsF ps n i ≤ d)) → LcE L (fun H' => Same HM H' ∧ H' L = some (.lst (((ks.take (j + 1)).map fun i => decide (g i = fsF ps n i ∧ fsF ps n i ≤ d)).map V.bl))) (.bl b) H7 := by
        intro b hb
        refine rd_lcE eL (by rw [List.length_map, List.length_map, List.length_take]; omega) fun H8 eH8 eL8 => ?_
        refine ⟨by rw [eH8]; exact Same.mut s7 hL, ?_⟩
        have e : decide (g i = fsF ps n i ∧ fsF ps n i ≤ d) = b := by
          rw [Bool.eq_iff_iff, decide_eq_true_iff]
          exact hb.symm
        rw [eL8, List.take_succ, hi, List.map_append, List.map_append]
        show _ = some (HO.lst (_ ++ [V.bl (decide (g i = fsF ps n i ∧ fsF ps n i ≤ d))]))
        rw [e]
      refine rd_ite (fun c3 => ?_) (fun c3 => ?_)
      · walk_at "rd"
        exact fin _ (by rw [decide_eq_true_iff]; exact ⟨fun z => ⟨c3, z⟩, fun z => z.2⟩)
      · walk_at "rd"
        exact fin false ⟨fun z => (nomatch z), fun z => absurd z.1 c3⟩
    rintro L H7 hL ⟨s7, eL⟩
    rw [dI_len, dN_len, List.take_length] at eL
    have hLD : L ≠ D2 := fun z => by rw [z, eD2M] at hL; cases hL
    refine ⟨s7 _ _ eD2M, ?_⟩
    obtain ⟨H8, eH8⟩ : ∃ H8, H8 = upd H7 D2 (.dK (dI (dN ks (fsF ps n)))) := ⟨_, rfl⟩
    rw [← eH8]
    have s68 : Same H6 H8 := by
      rw [eH8]
      refine Same.unlock eD26 (o := .frz od2 (.dK (dI (dN ks (fsF ps n))))) ?_
      rw [← eHM]
      exact s7
    have eL8 : H8 L = some (.lst ((ks.map fun i => decide (g i = fsF ps n i ∧ fsF ps n i ≤ d)).map V.bl)) := by rw [eH8, upd_ne hLD]; exact eL
    walk_at "rd"
    refine ⟨L, ks.map fun i => decide (g i = fsF ps n i ∧ fsF ps n i ≤ d), rfl, SqL.of eL8, ?_⟩
    refine k H8 _ (s16.trans s68) ?_
    rw [List.all_eq_true]
    constructor
    · intro z
      refine ⟨by show d < firstWith (ps k') (n + 1); omega, c2, fun i hi => ?_⟩
      have := z _ (List.mem_map.mpr ⟨i, hi, rfl⟩)
      exact of_decide_eq_true this
    · intro z b hb
      obtain ⟨i, hi, rfl⟩ := List.mem_map.mp hb
      exact decide_eq_true (z.2.2 i hi)
  · obtain ⟨x, a, D, ps, m, k', n, d, ls, rfl, cp, nd, ll, hc, ⟨m0, m1⟩, ⟨n0, n1⟩, ⟨d0, d1⟩, hno, k⟩ := h
    obtain ⟨vs, e, l, kk⟩ := id hc
    obtain ⟨⟨dx, ex⟩, eD⟩ := id cp
    refine ⟨_, (pss_cons (ps_expr (pe_c G_check_asked hr (by decide) rfl (pa_cons (pv 1) (pa_cons (pv 2) (pa_cons (pv 3) pa_nil)))))
      (pss_cons (ps_if (PW.pt (pw_or (pt_not (pt_val (pe_c G_is_whole hr (by decide) rfl (pa_cons (pe_fld (pv 0) rfl) pa_nil)))) (pw_or1 (pt_not (pt_chain op_le op_lt pe_int (pe_fld (pv 0) rfl) (pe_callB cr_lenS (by rfl) T.b_len (by decide +kernel) (pa_cons (pv 1) pa_nil))))))) (pss_one (ps_ret pe_bl)) pss_nil)
      (pss_cons (ps_if (pt_cmpR op_le (pe_c G_first_with hr (by decide) rfl (pa_cons (pe_ix ix_list (pv 1) (pe_fld (pv 0) rfl) (fun _ _ => rfl)) (pa_cons (pe_op op_add (pv 2) pe_int) pa_nil))) (pv 3) (nomark _)) (pss_one (ps_ret pe_bl)) pss_nil)
      (pss_cons (ps_if (pt_cmpR (op_neD hr.units) (pe_callB (cr_sortDI rfl) (by rfl) T.b_sorted (by decide +kernel) (pa_cons (pe_fld (pv 0) rfl) pa_nil)) (pe_c G_ahead_of hr (by decide) rfl (pa_cons (pv 1) (pa_cons (pe_fld (pv 0) rfl) (pa_cons (pv 3) pa_nil)))) (nomark _)) (pss_one (ps_ret pe_bl)) pss_nil)
      (pss_cons (ps_s 4 sc_Cheapest_shows.nd (pe_lock (pe_dc (own := [("place", 5)]) (g := gName 5) (tt := tYes) rfl sc_Cheapest_shows.nd (pi_keys (pe_fld (pv 0) rfl)) (blkOk_by (own := [("place", 5)]) (N := N_Cheapest_shows) (sc := fnScope s_Cheapest_shows) (by decide +kernel)) (fun _ _ _ _ _ => (pg_n 5 sc_Cheapest_shows.nd)) (fun _ _ _ _ _ => pts_nil) (fun _ _ _ _ _ => (pv 5)) (fun _ _ _ _ _ => (pe_c G_first_with hr (by decide) rfl (pa_cons (pe_ix (ixK rIxL K ix_list) (pv 1) (pv 5) (fun _ _ => rfl)) (pa_cons (pe_op op_add (pv 2) pe_int) pa_nil)))))))
      (pss_one (ps_ret (pe_callB (cr_all rfl) (by rfl) T.b_all (by decide +kernel) (pa_cons (pe_lock (pe_lc (own := [("place", 5)]) (g := gName 5) (tt := tYes) rfl sc_Cheapest_shows.nd (pi_keys (pv 4)) (blkOk_by (own := [("place", 5)]) (N := N_Cheapest_shows) (sc := fnScope s_Cheapest_shows) (by decide +kernel)) (fun _ _ _ _ _ => (pg_n 5 sc_Cheapest_shows.nd)) (fun _ _ _ _ _ => pts_nil) (fun _ _ _ _ _ => (pe_chain op_eq op_le (pe_dget (hu_of hr) (pe_fldK K (pe_fld (pv 0) rfl)) (pv 5) (fun _ _ => rfl)) (pe_dget (hu_of hr) (pv 4) (pv 5) (fun _ _ => rfl)) (pv 3))))) pa_nil))))))))), ?_⟩
    walk_at "rd"
    refine ⟨a, ps, m, _, _, rfl, hc, ⟨m0, m1⟩, n0, d0, fun H1 s1 => ?_⟩
    walk_at "rd"
    refine rd_fld (s1 _ _ ex) T.cl_Cheapest T.na_Cheapest_place (che_place _ _) ?_
    walk_at "rd"
    refine ⟨_, rfl, ?_⟩
    walk_at "rd"
    refine rd_fld (s1 _ _ ex) T.cl_Cheapest T.na_Cheapest_place (che_place _ _) ?_
    walk_at "rd"
    refine rd_ite (fun c0 => ?_) (fun c0 => ?_)
    rotate_left
    · walk_at "rd"
      exact k H1 s1
    walk_at "rd"
    refine rd_lenL (s1 _ _ e) ?_
    walk_at "rd"
    refine rd_iteN (fun c1 => ?_) (fun c1 => ?_)
    · walk_at "rd"
      exact k H1 s1
    obtain ⟨j, rfl, hj, hno⟩ : ∃ j : Nat, k' = j ∧ j < m ∧ (fsF ps n j ≤ d ∨ ls.length ≠ (aheadL (wkF ps d) m j).length) := by
      rcases hno with z | z | z
      · omega
      · rw [l] at c1; omega
      · exact z
    obtain ⟨rk, ek, hrk⟩ := kk j hj
    walk_at "rd"
    refine rd_fld (s1 _ _ ex) T.cl_Cheapest T.na_Cheapest_place (che_place _ _) ?_
    walk_at "rd"
    refine rd_ixL (s1 _ _ e) (atI_nat' ek) ?_
    walk_at "rd"
    refine ⟨rk, _, _, rfl, hrk.mono s1, ⟨by omega, by omega⟩, fun H2 s2 => ?_⟩
    walk_at "rd"
    have s12 := s1.trans s2
    refine rd_ite (fun c2 => ?_) (fun c2 => ?_)
    · walk_at "rd"
      exact k H2 s12
    walk_at "rd"
    refine rd_fld (s12 _ _ ex) T.cl_Cheapest T.na_Cheapest_against (che_against _ _) ?_
    walk_at "rd"
    refine rd_sortDIp (s12 _ _ eD) ll fun u H3 ys _ s3 pm eu => ?_
    walk_at "rd"
    have s13 := s12.trans s3
    refine rd_fld (s13 _ _ ex) T.cl_Cheapest T.na_Cheapest_place (che_place _ _) ?_
    walk_at "rd"
    refine ⟨a, ps, m, j, d, rfl, hc.mono s13, m1, hj, ⟨d0, d1⟩, fun H4 t s4 et => ?_⟩
    refine rd_neD (dt_ints (s4 _ _ eu)) (dt_ints et) (shaped_ints _) (shaped_ints _) ?_
    rw [eqv_ints]
    have hne : ¬ ys = natI (aheadL (wkF ps d) m j) := by
      intro z
      rcases hno with y | y
      · exact absurd y (by show ¬ firstWith (ps j) (n + 1) ≤ d; omega)
      · have h1 := pm.length_eq
        rw [z, natI_len, List.length_map] at h1
        exact y h1.symm
    walk_at "rd"
    refine rd_iteNT hne ?_
    walk_at "rd"
    exact k H4 (s13.trans s4)
end
end Sl

set_option Elab.async false
set_option linter.all false
set_option maxRecDepth 100000
set_option maxHeartbeats 8000000
set_option exponentiation.threshold 9000
namespace Sl
open PySem L2 C8 StX Silt
local macro_rules | `(tactic| walk_at "side") => `(tactic| first
  | exact cdivw (by omega) (by omega)
  | exact cmulw (by omega) (by omega) (by omega) (by omega)
  | exact Or.inr ⟨by omega, by omega⟩
  | exact Or.inl ⟨by omega, by omega⟩
  | omega
  | exact ⟨by omega, by omega, by decide⟩
  | decide)
local macro_rules | `(tactic| walk_at "rd1") => `(tactic| first
  | with_reducible refine rd_seq ?_
  | with_reducible refine rd_asg ?_
  | with_reducible refine rd_drop ?_
  | with_reducible refine rd_ret ?_
  | with_reducible refine rd_retN ?_
  | with_reducible refine rd_ifS ?_
  | ((with_reducible refine rd_var0 ?_); refine ⟨_, rfl, ?_⟩)
  | with_reducible refine rd_c ?_
  | with_reducible refine rd_op ?_
  | with_reducible refine rd_un ?_
  | with_reducible refine rd_I0 ?_
  | with_reducible refine rd_U ?_
  | ((with_reducible refine rd_I ?c ?_); (case c => walk_at "side"))
  | with_reducible refine rd_ipI ?_
  | with_reducible refine rd_eqI ?_
  | with_reducible refine rd_neI ?_
  | with_reducible refine rd_test ?_
  | with_reducible refine rd_tB ?_
  | with_reducible refine rd_bl ?_
  | with_reducible refine rd_not ?_
  | with_reducible refine rd_and ?_
  | with_reducible refine rd_or ?_
  | with_reducible refine rd_andV ?_
  | with_reducible refine rd_orV ?_
  | with_reducible refine rd_notV ?_
  | with_reducible refine rd_ifE ?_
  | with_reducible refine rd_chain ?_
  | with_reducible refine rd_chain3 ?_
  | with_reducible refine rd_nil ?_
  | with_reducible refine rd_cons ?_
  | with_reducible refine rd_call ?_
  | with_reducible refine rd_CB ?_
  | with_reducible refine rd_par ?_
  | with_reducible refine rd_par2 ?_
  | with_reducible refine rd_par3 ?_
  | with_reducible refine rd_par4 ?_
  | ((with_reducible refine rd_aug0 ?_); refine ⟨_, rfl, ?_⟩)
  | with_reducible refine rd_gname ?_
  | with_reducible refine rd_gcons ?_
  | with_reducible refine rd_gnil ?_
  | with_reducible refine rd_max ?_
  | with_reducible refine rd_min ?_
  | with_reducible refine rd_int1 ?_
  | with_reducible refine rd_abs ?_
  | with_reducible refine rd_lst ?_
  | with_reducible refine rd_tup ?_
  | with_reducible refine rd_bm ?_
  | with_reducible refine rd_fld0 ?_
  | with_reducible refine rd_sl0 ?_
  | with_reducible refine rd_noP ?_
  | with_reducible refine rd_part ?_
  | with_reducible refine rd_part2 ?_
  | with_reducible refine rd_meth0 ?_
  | with_reducible refine rd_star ?_
  | with_reducible refine rd_for ?_
  | with_reducible refine rd_rng1 ?_
  | with_reducible refine rd_rng2 ?_
  | with_reducible refine rd_rng3 ?_
  | with_reducible refine rd_iList ?_
  | with_reducible refine rd_iTup ?_
  | with_reducible refine rd_iEnum ?_
  | with_reducible refine rd_lc ?_
  | with_reducible refine rd_yes ?_
  | with_reducible refine rd_augS ?_
  | with_reducible refine rd_drawNew ?_
  | with_reducible refine rd_make0 ?_
  | with_reducible refine rd_next ?_
  | with_reducible refine rd_break ?_
  | with_reducible refine rd_cont ?_
  | with_reducible refine rd_iteTT ?_
  | with_reducible refine rd_iteFF ?_
  | with_reducible refine rd_iteNTT ?_
  | with_reducible refine rd_iteNFF ?_
  | with_reducible refine rd_con0 ?_
  | with_reducible refine rd_truO0 ?_
  | with_reducible refine rd_gfld0 ?_
  | with_reducible refine rd_dc ?_
  | with_reducible refine rd_iKeys ?_
  | with_reducible refine rd_dget0 ?_
  | with_reducible refine rd_dput0 ?_
  | with_reducible refine rd_dnot0 ?_
  | with_reducible refine rd_iEnumT ?_
  | with_reducible refine rd_raP0 ?_
  | with_reducible refine rd_xf0 ?_
  | with_reducible refine rd_asgG ?_)
local macro_rules | `(tactic| walk_at "rd") => `(tactic| repeat walk_at "rd1")
local macro_rules | `(tactic| walk_at "len") => `(tactic| first
  | (intro vs H Q E h; obtain ⟨h2, _⟩ := h; rw [h2]; rfl)
  | (intro vs H Q E h; obtain ⟨_, h2, _⟩ := h; rw [h2]; rfl)
  | (intro vs H Q E h; obtain ⟨_, _, h2, _⟩ := h; rw [h2]; rfl)
  | (intro vs H Q E h; obtain ⟨_, _, _, h2, _⟩ := h; rw [h2]; rfl)
  | (intro vs H Q E h; obtain ⟨_, _, _, _, h2, _⟩ := h; rw [h2]; rfl)
  | (intro vs H Q E h; obtain ⟨_, _, _, _, _, h2, _⟩ := h; rw [h2]; rfl)
  | (intro vs H Q E h; obtain ⟨_, _, _, _, _, _, h2, _⟩ := h; rw [h2]; rfl)
  | (intro vs H Q E h; obtain ⟨_, _, _, _, _, _, _, h2, _⟩ := h; rw [h2]; rfl)
  | (intro vs H Q E h; obtain ⟨_, _, _, _, _, _, _, _, h2, _⟩ := h; rw [h2]; rfl)
  | (intro vs H Q E h; obtain ⟨_, _, _, _, _, _, _, _, _, h2, _⟩ := h; rw [h2]; rfl)
  | (intro vs H Q E h; obtain ⟨_, _, _, _, _, _, _, _, _, _, h2, _⟩ := h; rw [h2]; rfl)
  | (intro vs H Q E h; obtain ⟨_, _, _, _, _, _, _, _, _, _, _, h2, _⟩ := h; rw [h2]; rfl)
  | (intro vs H Q E h; obtain ⟨_, _, _, _, _, _, _, _, _, _, _, _, h2, _⟩ := h; rw [h2]; rfl))
/-- the first day up to n with at least m layers, None if there is none -/
def FirstV (p : Pr) (m n : Int) (v : V) : Prop := (firstWith p m ≤ n ∧ v = .int (firstWith p m)) ∨ (n < firstWith p m ∧ v = .non)
def spLFirst : Sp := fun vs H Q _ => ∃ (a : Addr) (f q : List (Int × Int)) (m n : Int), vs = [.ref a, .int m, .int n] ∧ ToldP H a f q ∧ OkT f q ∧ 0 ≤ m ∧ 0 ≤ n ∧ n ≤ 1000 ∧ ∀ H' v, Same H H' → FirstV (atp f q) m n v → Q v H'
def spLWork : Sp := fun vs H Q _ => ∃ (a : Addr) (f q : List (Int × Int)) (n : Int), vs = [.ref a, .int n] ∧ ToldP H a f q ∧ OkT f q ∧ 0 ≤ n ∧ n ≤ 1000 ∧ ∀ H', Same H H' → Q (.int (work (atp f q) n)) H'
section
variable {P : Program} {w : World} {K : PySem.W.Frag} {mg : Str → Option Value} {base : Heap} {C_Rule C_Evidence C_Good C_Cheapest C_BadDay C_BadChoices : Addr}
theorem cal__law_first (T : TX P K mg C_Rule C_Evidence C_Good C_Cheapest C_BadDay C_BadChoices) : Cal P w K mg base 4 "_law_first" spLFirst [] := by
  obtain ⟨f0, fd, D, dn⟩ := T.d__law_first
  have G__law_played := cal__law_played (P := P) (w := w) (base := base) T
  refine cal0 D (D.fn.binds dn fun _ _ _ _ _ _ us hl => match us, hl with | [_, _, _], _ => rfl) .nil sc__law_first (by walk_at "len") (fun cdv A outer s H vs Q E hr h => ?_)
  obtain ⟨a, f, q, m, n, rfl, tp, ok, m0, n0, n1, k⟩ := h
  have gd := ok.good
  refine ⟨_, (pss_cons (ps_for PassesOwn.never rfl (pi_enum (by rfl) T.b_enumerate (pa_cons (pe_c G__law_played hr (by decide) rfl (pa_cons (pv 0) (pa_cons (pv 2) pa_nil))) pa_nil)) (pg_tup rfl (pgs_cons (pg_n 3 sc__law_first.nd) (pgs_cons (pg_tup rfl (pgs_cons (pg_n 4 sc__law_first.nd) (pgs_cons (pg_n 5 sc__law_first.nd) pgs_nil))) pgs_nil))) (pss_one (ps_if (pt_cmpR op_ge (pe_callB cr_lenS (by rfl) T.b_len (by decide +kernel) (pa_cons (pv 4) pa_nil)) (pv 1) (nomark _)) (pss_one (ps_ret (pv 3))) pss_nil)))
      (pss_one (ps_ret pe_non))), ?_⟩
  walk_at "rd"
  refine ⟨a, f, q, n, rfl, tp, ok, n0, n1, fun H1 F s1 hF pl => ?_⟩
  obtain ⟨vs, eF, hl, hk⟩ := pl
  walk_at "rd"
  refine rd_enR (SqL.of eF) ?_
  refine forR_enum (xs := vs) (fun i σ H' => ∃ v3 v4 v5, Same H1 H' ∧ (∀ j : Nat, j < i → (digits (atp f q) (j : Int)).sum < m) ∧ σ = [some (.ref a), some (.int m), some (.int n), v3, v4, v5]) (fun i σ H' ⟨_, _, _, s, _⟩ => SqL.of (s _ _ eF)) ⟨none, none, none, Same.refl _, fun j hj => absurd hj (Nat.not_lt_zero _), rfl⟩ ?_ ?_
  · rintro i v σ H2 w' H3 hv ⟨v3, v4, v5, s2, hlt, rfl⟩ _ s3 ew _
    have s13 := s2.trans s3
    obtain ⟨t, r, g, rfl, et, ⟨ys, er, dr⟩, eg, _, _⟩ := (hk i v hv).mono s13
    refine rd_gtup ew rfl ?_
    walk_at "rd"
    refine rd_gtup et rfl ?_
    walk_at "rd"
    refine rd_lenL er ?_
    rw [dr.length, List.length_map, layers_len gd (by omega)]
    walk_at "rd"
    refine rd_ite (fun c => ?_) (fun c => ?_)
    · walk_at "rd"
      have h1 := firstWith_least gd (d := (i : Int)) (m := m) (by omega) (by omega)
      have h2 := firstWith_sum gd (m := m) m0
      have h3 := firstWith_nn gd m
      have e : firstWith (atp f q) m = i := by
        rcases Int.lt_or_le (firstWith (atp f q) m) i with z | z
        · have := hlt (firstWith (atp f q) m).toNat (by omega)
          rw [Int.toNat_of_nonneg h3] at this
          omega
        · omega
      have hi : i < (n + 1).toNat := by rw [← hl]; exact (List.getElem?_eq_some_iff.mp hv).1
      refine k H3 _ (s1.trans s13) (.inl ⟨by omega, by rw [e]⟩)
    · walk_at "rd"
      refine ⟨_, _, _, s13, fun j hj => ?_, rfl⟩
      rcases Nat.lt_or_ge j i with z | z
      · exact hlt j z
      · have : j = i := by omega
        subst this
        omega
  · rintro σ H2 ⟨v3, v4, v5, s2, hlt, rfl⟩
    walk_at "rd"
    refine k H2 _ (s1.trans s2) (.inr ⟨?_, rfl⟩)
    have h2 := firstWith_sum gd (m := m) m0
    have h3 := firstWith_nn gd m
    rcases Int.lt_or_le n (firstWith (atp f q) m) with z | z
    · exact z
    · have := hlt (firstWith (atp f q) m).toNat (by omega)
      rw [Int.toNat_of_nonneg h3] at this
      omega
theorem cal__law_work (T : TX P K mg C_Rule C_Evidence C_Good C_Cheapest C_BadDay C_BadChoices) : Cal P w K mg base 4 "_law_work" spLWork [] := by
  obtain ⟨f0, fd, D, dn⟩ := T.d__law_work
  have G__law_played := cal__law_played (P := P) (w := w) (base := base) T
  have G__law_size := cal__law_size (P := P) (w := w) (base := base) T
  refine cal0 D (D.fn.binds dn fun _ _ _ _ _ _ us hl => match us, hl with | [_, _], _ => rfl) .nil sc__law_work (by walk_at "len") (fun cdv A outer s H vs Q E hr h => ?_)
  obtain ⟨a, f, q, n, rfl, tp, ok, n0, n1, k⟩ := h
  have gd := ok.good
  have b9 := dd_pos
  refine ⟨_, (pss_cons (ps_s 2 sc__law_work.nd pe_int)
      (pss_cons (ps_for PassesOwn.never rfl (pi_list (pe_c G__law_played hr (by decide) rfl (pa_cons (pv 0) (pa_cons (pv 1) pa_nil)))) (pg_tup rfl (pgs_cons (pg_n 3 sc__law_work.nd) (pgs_cons (pg_n 4 sc__law_work.nd) pgs_nil))) (pss_one (ps_au 2 sc__law_work.nd (pe_callB (cr_sum rfl) (by rfl) T.b_sum (by decide +kernel) (pa_cons (pe_lc (own := [("_law_grade", 5)]) (g := gName 5) (tt := tYes) rfl sc__law_work.nd (pi_list (pv 4)) (blkOk_by (own := [("_law_grade", 5)]) (N := N__law_work) (sc := fnScope s__law_work) (by decide +kernel)) (fun _ _ _ _ _ => (pg_n 5 sc__law_work.nd)) (fun _ _ _ _ _ => pts_nil) (fun _ _ _ _ _ => (pe_c G__law_size hr (by decide) rfl (pa_cons (pv 0) (pa_cons (pe_op op_add (pv 5) pe_int) pa_nil))))) pa_nil)) ip_add)))
      (pss_one (ps_ret (pv 2))))), ?_⟩
  walk_at "rd"
  refine ⟨a, f, q, n, rfl, tp, ok, n0, n1, fun H1 F s1 hF pl => ?_⟩
  obtain ⟨vs, eF, hl, hk⟩ := pl
  refine rd_lsR (SqL.of eF) ?_
  refine forR_lst (xs := vs) (fun i σ H' => ∃ v3 v4 v5, Same H1 H' ∧ σ = [some (.ref a), some (.int n), some (.int (((List.range i).map fun (j : Nat) => load (atp f q) j).sum)), v3, v4, v5]) (fun i σ H' ⟨_, _, _, s, _⟩ => SqL.of (s _ _ eF)) ⟨none, none, none, Same.refl _, rfl⟩ ?_ ?_
  · rintro i v σ H2 hv ⟨v3, v4, v5, s2, rfl⟩
    obtain ⟨t, r, g, rfl, et, er, eg, _, _⟩ := (hk i v hv).mono s2
    have hil := (List.getElem?_eq_some_iff.mp hv).1
    have hb := baked_all gd (d := (i : Int)) (by omega)
    have hlen := baked_len2 gd (d := (i : Int)) (by omega)
    refine rd_gtup et rfl ?_
    walk_at "rd"
    refine rd_lsR (SqL.of eg) ?_
    refine lcR_lst (xs := (bakedL (atp f q) i).map V.int) (fun D j H' => Same H2 H' ∧ H' D = some (.lst ((((bakedL (atp f q) i).take j).map fun g => size (atp f q) (g + 1).toNat).map V.int)))
      (fun D j H' _ ⟨s, _⟩ => SqL.of (s _ _ eg)) (fun D H' hD s' eD eH => ⟨s', eD⟩) ?_ ?_
    · rintro D j x H3 hD hx ⟨s3, eD⟩
      obtain ⟨g1, hg, rfl⟩ : ∃ g, (bakedL (atp f q) i)[j]? = some g ∧ x = V.int g := by
        rw [List.getElem?_map] at hx
        cases q1 : (bakedL (atp f q) i)[j]? with
        | none => rw [q1] at hx; cases hx
        | some g => rw [q1] at hx; exact ⟨g, rfl, (Option.some.inj hx).symm⟩
      have hgb := hb g1 (List.mem_of_getElem? hg)
      have hj := (List.getElem?_eq_some_iff.mp hg).1
      walk_at "rd"
      refine ⟨rfl, ?_⟩
      walk_at "rd"
      refine ⟨a, f, q, _, rfl, tp.mono ((s1.trans s2).trans s3), ok, ⟨by omega, by omega⟩, ?_⟩
      refine rd_lcE eD (by simp; omega) fun H4 eH eD4 => ?_
      refine ⟨by rw [eH]; exact Same.mut s3 hD, ?_⟩
      rw [eD4, List.take_succ, hg, List.map_append, List.map_append]; rfl
    · rintro D H3 hD ⟨s3, eD⟩
      walk_at "rd"
      rw [List.length_map, List.take_length] at eD
      refine rd_sum (SqL.of eD) ?_
      walk_at "rd"
      have e : ((List.range i).map fun (j : Nat) => load (atp f q) j).sum + ((bakedL (atp f q) i).map fun g => size (atp f q) (g + 1).toNat).sum = ((List.range (i + 1)).map fun (j : Nat) => load (atp f q) j).sum := by
        rw [List.range_succ, List.map_append, List.sum_append]
        simp [Silt.load]
      rw [e]
      exact ⟨_, _, _, s2.trans s3, rfl⟩
  · rintro σ H2 ⟨v3, v4, v5, s2, rfl⟩
    walk_at "rd"
    have e := work_sum gd n.toNat
    have en : (n + 1).toNat = n.toNat + 1 := by omega
    rw [hl, en, e, Int.toNat_of_nonneg n0]
    exact k H2 (s1.trans s2)
end
end Sl


set_option Elab.async false
set_option linter.all false
set_option maxRecDepth 100000
set_option maxHeartbeats 8000000
set_option exponentiation.threshold 9000
namespace Sl
open PySem L2 C8 StX Silt
local macro_rules | `(tactic| walk_at "side") => `(tactic| first
  | exact cdivw (by omega) (by omega)
  | exact cmulw (by omega) (by omega) (by omega) (by omega)
  | exact Or.inr ⟨by omega, by omega⟩
  | exact Or.inl ⟨by omega, by omega⟩
  | omega
  | exact ⟨by omega, by omega, by decide⟩
  | decide)
local macro_rules | `(tactic| walk_at "rd1") => `(tactic| first
  | with_reducible refine rd_seq ?_
  | with_reducible refine rd_asg ?_
  | with_reducible refine rd_drop ?_
  | with_reducible refine rd_ret ?_
  | with_reducible refine rd_retN ?_
  | with_reducible refine rd_ifS ?_
  | ((with_reducible refine rd_var0 ?_); refine ⟨_, rfl, ?_⟩)
  | with_reducible refine rd_c ?_
  | with_reducible refine rd_op ?_
  | with_reducible refine rd_un ?_
  | with_reducible refine rd_I0 ?_
  | with_reducible refine rd_U ?_
  | ((with_reducible refine rd_I ?c ?_); (case c => walk_at "side"))
  | with_reducible refine rd_ipI ?_
  | with_reducible refine rd_eqI ?_
  | with_reducible refine rd_neI ?_
  | with_reducible refine rd_test ?_
  | with_reducible refine rd_tB ?_
  | with_reducible refine rd_bl ?_
  | with_reducible refine rd_not ?_
  | with_reducible refine rd_and ?_
  | with_reducible refine rd_or ?_
  | with_reducible refine rd_andV ?_
  | with_reducible refine rd_orV ?_
  | with_reducible refine rd_notV ?_
  | with_reducible refine rd_ifE ?_
  | with_reducible refine rd_chain ?_
  | with_reducible refine rd_chain3 ?_
  | with_reducible refine rd_nil ?_
  | with_reducible refine rd_cons ?_
  | with_reducible refine rd_call ?_
  | with_reducible refine rd_CB ?_
  | with_reducible refine rd_par ?_
  | with_reducible refine rd_par2 ?_
  | with_reducible refine rd_par3 ?_
  | with_reducible refine rd_par4 ?_
  | ((with_reducible refine rd_aug0 ?_); refine ⟨_, rfl, ?_⟩)
  | with_reducible refine rd_gname ?_
  | with_reducible refine rd_gcons ?_
  | with_reducible refine rd_gnil ?_
  | with_reducible refine rd_max ?_
  | with_reducible refine rd_min ?_
  | with_reducible refine rd_int1 ?_
  | with_reducible refine rd_abs ?_
  | with_reducible refine rd_lst ?_
  | with_reducible refine rd_tup ?_
  | with_reducible refine rd_bm ?_
  | with_reducible refine rd_fld0 ?_
  | with_reducible refine rd_sl0 ?_
  | with_reducible refine rd_noP ?_
  | with_reducible refine rd_part ?_
  | with_reducible refine rd_part2 ?_
  | with_reducible refine rd_meth0 ?_
  | with_reducible refine rd_star ?_
  | with_reducible refine rd_for ?_
  | with_reducible refine rd_rng1 ?_
  | with_reducible refine rd_rng2 ?_
  | with_reducible refine rd_rng3 ?_
  | with_reducible refine rd_iList ?_
  | with_reducible refine rd_iTup ?_
  | with_reducible refine rd_iEnum ?_
  | with_reducible refine rd_lc ?_
  | with_reducible refine rd_yes ?_
  | with_reducible refine rd_augS ?_
  | with_reducible refine rd_drawNew ?_
  | with_reducible refine rd_make0 ?_
  | with_reducible refine rd_next ?_
  | with_reducible refine rd_break ?_
  | with_reducible refine rd_cont ?_
  | with_reducible refine rd_iteTT ?_
  | with_reducible refine rd_iteFF ?_
  | with_reducible refine rd_iteNTT ?_
  | with_reducible refine rd_iteNFF ?_
  | with_reducible refine rd_con0 ?_
  | with_reducible refine rd_truO0 ?_
  | with_reducible refine rd_gfld0 ?_
  | with_reducible refine rd_dc ?_
  | with_reducible refine rd_iKeys ?_
  | with_reducible refine rd_dget0 ?_
  | with_reducible refine rd_dput0 ?_
  | with_reducible refine rd_dnot0 ?_
  | with_reducible refine rd_iEnumT ?_
  | with_reducible refine rd_raP0 ?_
  | with_reducible refine rd_xf0 ?_
  | with_reducible refine rd_asgG ?_)
local macro_rules | `(tactic| walk_at "rd") => `(tactic| repeat walk_at "rd1")
local macro_rules | `(tactic| walk_at "len") => `(tactic| first
  | (intro vs H Q E h; obtain ⟨h2, _⟩ := h; rw [h2]; rfl)
  | (intro vs H Q E h; obtain ⟨_, h2, _⟩ := h; rw [h2]; rfl)
  | (intro vs H Q E h; obtain ⟨_, _, h2, _⟩ := h; rw [h2]; rfl)
  | (intro vs H Q E h; obtain ⟨_, _, _, h2, _⟩ := h; rw [h2]; rfl)
  | (intro vs H Q E h; obtain ⟨_, _, _, _, h2, _⟩ := h; rw [h2]; rfl)
  | (intro vs H Q E h; obtain ⟨_, _, _, _, _, h2, _⟩ := h; rw [h2]; rfl)
  | (intro vs H Q E h; obtain ⟨_, _, _, _, _, _, h2, _⟩ := h; rw [h2]; rfl)
  | (intro vs H Q E h; obtain ⟨_, _, _, _, _, _, _, h2, _⟩ := h; rw [h2]; rfl)
  | (intro vs H Q E h; obtain ⟨_, _, _, _, _, _, _, _, h2, _⟩ := h; rw [h2]; rfl)
  | (intro vs H Q E h; obtain ⟨_, _, _, _, _, _, _, _, _, h2, _⟩ := h; rw [h2]; rfl)
  | (intro vs H Q E h; obtain ⟨_, _, _, _, _, _, _, _, _, _, h2, _⟩ := h; rw [h2]; rfl)
  | (intro vs H Q E h; obtain ⟨_, _, _, _, _, _, _, _, _, _, _, h2, _⟩ := h; rw [h2]; rfl)
  | (intro vs H Q E h; obtain ⟨_, _, _, _, _, _, _, _, _, _, _, _, h2, _⟩ := h; rw [h2]; rfl))
theorem none_back {H H' : Hp} {a : Addr} (s : Same H H') (h : H' a = none) : H a = none := by
  cases z : H a with
  | none => rfl
  | some o => rw [s _ _ z] at h; cases h
/-- what is told, its lists not at D -/
def ToldQ (H : Hp) (D t : Addr) (f q : List (Int × Int)) : Prop := ∃ l1 l2 xs1 xs2, H t = some (.tup [.ref l1, .ref l2]) ∧ H l1 = some (.lst xs1) ∧ H l2 = some (.lst xs2) ∧ DnAll H xs1 (pairsD f) ∧ DnAll H xs2 (pairsD q) ∧ l1 ≠ D ∧ l2 ≠ D
theorem ToldQ.p {H : Hp} {D t : Addr} {f q : List (Int × Int)} (h : ToldQ H D t f q) : ToldP H t f q := by
  obtain ⟨l1, l2, xs1, xs2, h1, h2, h3, h4, h5, _, _⟩ := h
  exact ⟨l1, l2, xs1, xs2, h1, h2, h3, h4, h5⟩
theorem ToldQ.mono {H H' : Hp} {D t : Addr} {f q : List (Int × Int)} (s : Same H H') (h : ToldQ H D t f q) : ToldQ H' D t f q := by
  obtain ⟨l1, l2, xs1, xs2, h1, h2, h3, h4, h5, h6, h7⟩ := h
  exact ⟨l1, l2, xs1, xs2, s _ _ h1, s _ _ h2, s _ _ h3, h4.mono s, h5.mono s, h6, h7⟩
theorem ToldQ.upd {H : Hp} {D t : Addr} {f q : List (Int × Int)} {xs ys : List V} (e : H D = some (.lst xs)) (h : ToldQ H D t f q) : ToldQ (upd H D (.lst ys)) D t f q := by
  obtain ⟨l1, l2, xs1, xs2, h1, h2, h3, h4, h5, h6, h7⟩ := h
  refine ⟨l1, l2, xs1, xs2, ?_, ?_, ?_, h4.updL e, h5.updL e, h6, h7⟩
  · rw [upd_ne (fun z => by rw [z, e] at h1; cases h1)]; exact h1
  · rw [upd_ne h6]; exact h2
  · rw [upd_ne h7]; exact h3
def spDRuleN (K : PySem.W.Frag) : Sp := fun vs H Q _ => ∃ (a : Addr), vs = [.ref a] ∧ DrawP K H a ∧ ∀ H' t f q, Same H H' → OkT f q →
  (∃ l1 l2 xs1 xs2, H' t = some (.tup [.ref l1, .ref l2]) ∧ H' l1 = some (.lst xs1) ∧ H' l2 = some (.lst xs2) ∧ DnAll H' xs1 (pairsD f) ∧ DnAll H' xs2 (pairsD q) ∧ H l1 = none ∧ H l2 = none) → Q (.ref t) H'
abbrev FQ := List (Int × Int) × List (Int × Int)
/-- a list of what is told -/
def TsP (H : Hp) (D : Addr) (L : List FQ) : Prop := ∃ vs, H D = some (.lst vs) ∧ vs.length = L.length ∧ ∀ (i : Nat) x, L[i]? = some x → ∃ t, vs[i]? = some (.ref t) ∧ ToldQ H D t x.1 x.2 ∧ OkT x.1 x.2
theorem TsP.mono {H H' : Hp} {D : Addr} {L : List FQ} (s : Same H H') (h : TsP H D L) : TsP H' D L := by
  obtain ⟨vs, e, l, k⟩ := h
  refine ⟨vs, s _ _ e, l, fun i x hx => ?_⟩
  obtain ⟨t, h1, h2, h3⟩ := k i x hx
  exact ⟨t, h1, h2.mono s, h3⟩
theorem TsP.app {H : Hp} {D t : Addr} {L : List FQ} {vs : List V} {x : FQ} (e : H D = some (.lst vs)) (h : TsP H D L) (ht : ToldQ H D t x.1 x.2) (ok : OkT x.1 x.2) : TsP (upd H D (.lst (vs ++ [.ref t]))) D (L ++ [x]) := by
  obtain ⟨vs', e', l, k⟩ := h
  rw [e] at e'
  cases e'
  refine ⟨_, upd_same, by simp [l], fun i y hy => ?_⟩
  rcases Nat.lt_or_ge i L.length with z | z
  · rw [List.getElem?_append_left z] at hy
    obtain ⟨t', h1, h2, h3⟩ := k i y hy
    exact ⟨t', by rw [List.getElem?_append_left (by omega)]; exact h1, h2.upd e, h3⟩
  · rw [List.getElem?_append_right z] at hy
    have hi : i = L.length := by
      have := (List.getElem?_eq_some_iff.mp hy).1
      simp at this
      omega
    subst hi
    simp at hy
    subst hy
    exact ⟨t, by rw [List.getElem?_append_right (by omega), l]; simp, ht.upd e, ok⟩
def psL (L : List FQ) : Nat → Pr := fun i => atp (L.getD i ([], [])).1 (L.getD i ([], [])).2
theorem psL_at {L : List FQ} {i : Nat} {x : FQ} (h : L[i]? = some x) : psL L i = atp x.1 x.2 := by
  unfold psL
  rw [List.getD_eq_getElem?_getD, h]; rfl
/-- a rule stands when a list changes -/
theorem pairs_upd {H : Hp} {E : Addr} {ys : List V} {o : HO} (e : H E = some (.lst ys)) : ∀ {vs : List V} {f : List (Int × Int)}, DtAll H vs (pairsD f) → DtAll (upd H E o) vs (pairsD f)
  | [], [], _ => .nil
  | [], _ :: _, h => nomatch h
  | _ :: _, [], h => nomatch h
  | v :: vs, x :: f, .cons h t => by
    obtain ⟨t', rfl, et⟩ := Dt.pair_inv h
    refine .cons ?_ (pairs_upd e t)
    exact .tup (by rw [upd_ne (fun z => by rw [z, e] at et; cases et)]; exact et) (.cons (.int _) (.cons (.int _) .nil))
theorem RuleP.updL {C : Addr} {H : Hp} {a E : Addr} {p : Pr} {ys : List V} {o : HO} (e : H E = some (.lst ys)) (h : RuleP C H a p) : RuleP C (upd H E o) a p := by
  obtain ⟨f, q, ⟨dx, t1, t2, e1, h1, h2⟩, hq, hp, g⟩ := h
  obtain ⟨xs1, e2, d1⟩ := h1.tup_inv
  obtain ⟨xs2, e3, d2⟩ := h2.tup_inv
  refine ⟨f, q, ⟨dx, t1, t2, ?_, .tup ?_ (pairs_upd e d1), .tup ?_ (pairs_upd e d2)⟩, hq, hp, g⟩
  · rw [upd_ne (fun z => by rw [z, e] at e1; cases e1)]; exact e1
  · rw [upd_ne (fun z => by rw [z, e] at e2; cases e2)]; exact e2
  · rw [upd_ne (fun z => by rw [z, e] at e3; cases e3)]; exact e3
section
variable {P : Program} {w : World} {K : PySem.W.Frag} {mg : Str → Option Value} {base : Heap} {C_Rule C_Evidence C_Good C_Cheapest C_BadDay C_BadChoices : Addr}
theorem cal__law_rule_new (T : TX P K mg C_Rule C_Evidence C_Good C_Cheapest C_BadDay C_BadChoices) : Cal P w K mg base 5 "_law_rule" (spDRuleN K) [] := by
  obtain ⟨f0, fd, D, dn⟩ := T.d__law_rule
  have G__law_pick := cal__law_pick (P := P) (w := w) (base := base) T
  have G__law_pair := cal__law_pair (P := P) (w := w) (base := base) T
  refine cal0 D (D.fn.binds dn fun _ _ _ _ _ _ us hl => match us, hl with | [_], _ => rfl) .nil sc__law_rule (by walk_at "len") (fun cdv A outer s H vs Q E hr h => ?_)
  obtain ⟨a, rfl, hd, k⟩ := h
  refine ⟨_, (pss_cons (ps_setLc (i := 1) (own := [("_law_turn", 2)]) (g := gName 2) (tt := tYes) rfl sc__law_rule.nd rfl rfl (sw_true rfl rfl rfl (by decide +kernel)) (pi_range1 rfl T.b_range (pa_cons (pe_c G__law_pick hr (by decide) rfl (pa_cons (pv 0) (pa_cons (pe_lst (pa_cons pe_int (pa_cons pe_int (pa_cons pe_int (pa_cons pe_int pa_nil))))) pa_nil))) pa_nil)) (blkOk_by (own := [("_law_turn", 2)]) (N := N__law_rule) (sc := fnScope s__law_rule) (by decide +kernel)) (fun _ _ _ _ _ => (pg_n 2 sc__law_rule.nd)) (fun _ _ _ _ _ => pts_nil) (fun _ _ _ _ _ => (pe_c G__law_pair hr (by decide) rfl (pa_cons (pv 0) pa_nil))))
      (pss_one (ps_ret (pe_tup (pa_cons (pv 1) (pa_cons (pe_lc (own := [("_law_turn", 2)]) (g := gName 2) (tt := tYes) rfl sc__law_rule.nd (pi_range1 rfl T.b_range (pa_cons (pe_op op_add pe_int (pe_c G__law_pick hr (by decide) rfl (pa_cons (pv 0) (pa_cons (pe_lst (pa_cons pe_int (pa_cons pe_int (pa_cons pe_int pa_nil)))) pa_nil)))) pa_nil)) (blkOk_by (own := [("_law_turn", 2)]) (N := N__law_rule) (sc := fnScope s__law_rule) (by decide +kernel)) (fun _ _ _ _ _ => (pg_n 2 sc__law_rule.nd)) (fun _ _ _ _ _ => pts_nil) (fun _ _ _ _ _ => (pe_c G__law_pair hr (by decide) rfl (pa_cons (pv 0) pa_nil)))) pa_nil)))))), ?_⟩
  walk_at "rd"
  refine rd_newL (by simp) fun u H1 _ s1 eu _ => ?_
  walk_at "rd"
  refine ⟨a, u, _, rfl, hd.mono s1, eu, by simp, fun H2 i x s2 hx => ?_⟩
  obtain ⟨z, rfl, z1⟩ : ∃ z : Nat, x = .int z ∧ z ≤ 2 := by
    match i, hx with
    | 0, hx => cases hx; exact ⟨0, rfl, by decide⟩
    | 1, hx => cases hx; exact ⟨0, rfl, by decide⟩
    | 2, hx => cases hx; exact ⟨1, rfl, by decide⟩
    | 3, hx => cases hx; exact ⟨2, rfl, by decide⟩
    | i + 4, hx => simp at hx
  walk_at "rd"
  have s12 := s1.trans s2
  refine rd_rgR1 (by omega) (by omega) ?_
  rw [Int.toNat_natCast]
  refine lcR_rng (fun D i H' => ∃ (l : List V) (f : List (Int × Int)), Same H2 H' ∧ H' D = some (.lst l) ∧ f.length = i ∧ (∀ x ∈ f, OkP x) ∧ DnAll H' l (pairsD f)) (fun D H' _ s e _ => ⟨[], [], s, e, rfl, by simp, .nil⟩) ?_ ?_
  · rintro D i H' hD hi ⟨l, f, s3, eD, hl, okf, df⟩
    walk_at "rd"
    refine ⟨rfl, ?_⟩
    walk_at "rd"
    refine ⟨a, rfl, hd.mono (s12.trans s3), fun H4 t q s4 okq et => ?_⟩
    refine rd_lcE (s4 _ _ eD) (by rw [df.length]; simp [pairsD]; omega) fun H5 eH e5 => ?_
    refine ⟨_, f ++ [q], by rw [eH]; exact Same.mut (s3.trans s4) hD, e5, by simp [hl], ?_, ?_⟩
    · intro x hx
      rcases List.mem_append.mp hx with h | h
      · exact okf x h
      · rw [List.mem_singleton.mp h]; exact okq
    · rw [eH]
      unfold pairsD
      rw [List.map_append]
      exact DnAll.updL (s4 _ _ eD) ((df.mono s4).append (.cons (.pair et) .nil))
  · rintro D H3 hD ⟨l, f, s3, eD, hl, okf, df⟩
    have s13 := s12.trans s3
    walk_at "rd"
    refine rd_newL (by simp) fun u2 H4 _ s4 eu2 _ => ?_
    walk_at "rd"
    have s14 := s13.trans s4
    refine ⟨a, u2, _, rfl, hd.mono s14, eu2, by simp, fun H5 i2 x2 s5 hx2 => ?_⟩
    obtain ⟨z2, rfl, z21⟩ : ∃ z : Nat, x2 = .int z ∧ z ≤ 1 := by
      match i2, hx2 with
      | 0, hx => cases hx; exact ⟨0, rfl, by decide⟩
      | 1, hx => cases hx; exact ⟨0, rfl, by decide⟩
      | 2, hx => cases hx; exact ⟨1, rfl, by decide⟩
      | i + 3, hx => simp at hx
    walk_at "rd"
    have s15 := s14.trans s5
    refine rd_rgR1 (by omega) (by omega) ?_
    have e1z : ((1 : Int) + (z2 : Int)).toNat = 1 + z2 := by omega
    rw [e1z]
    refine lcR_rng (fun D2 i H' => ∃ (l2 : List V) (q : List (Int × Int)), Same H5 H' ∧ H' D2 = some (.lst l2) ∧ q.length = i ∧ (∀ x ∈ q, OkP x) ∧ DnAll H' l2 (pairsD q)) (fun D2 H' _ s e _ => ⟨[], [], s, e, rfl, by simp, .nil⟩) ?_ ?_
    · rintro D2 i H' hD2 hi ⟨l2, q, s6, eD2, hl2, okq, dq⟩
      walk_at "rd"
      refine ⟨rfl, ?_⟩
      walk_at "rd"
      refine ⟨a, rfl, hd.mono (s15.trans s6), fun H7 t q2 s7 okq2 et => ?_⟩
      refine rd_lcE (s7 _ _ eD2) (by rw [dq.length]; simp [pairsD]; omega) fun H8 eH e8 => ?_
      refine ⟨_, q ++ [q2], by rw [eH]; exact Same.mut (s6.trans s7) hD2, e8, by simp [hl2], ?_, ?_⟩
      · intro x hx
        rcases List.mem_append.mp hx with h | h
        · exact okq x h
        · rw [List.mem_singleton.mp h]; exact okq2
      · rw [eH]
        unfold pairsD
        rw [List.map_append]
        exact DnAll.updL (s7 _ _ eD2) ((dq.mono s7).append (.cons (.pair et) .nil))
    · rintro D2 H6 hD2 ⟨l2, q, s6, eD2, hl2, okq, dq⟩
      walk_at "rd"
      refine rd_newT (by simp) fun t H7 _ s7 et _ => ?_
      have s37 := ((s4.trans s5).trans s6).trans s7
      refine k H7 t f q ((s15.trans s6).trans s7) ⟨by omega, by omega, fun z => by rw [z] at hl2; simp at hl2; omega, okf, okq⟩ ⟨D, D2, l, l2, et, s37 _ _ eD, s7 _ _ eD2, df.mono s37, dq.mono s7, none_back s12 hD, none_back s15 hD2⟩
end
end Sl

set_option Elab.async false
set_option linter.all false
set_option maxRecDepth 100000
set_option maxHeartbeats 16000000
set_option exponentiation.threshold 9000
namespace Sl
open PySem L2 C8 StX Silt
local macro_rules | `(tactic| walk_at "side") => `(tactic| first
  | exact cdivw (by omega) (by omega)
  | exact cmulw (by omega) (by omega) (by omega) (by omega)
  | exact Or.inr ⟨by omega, by omega⟩
  | exact Or.inl ⟨by omega, by omega⟩
  | omega
  | exact ⟨by omega, by omega, by decide⟩
  | decide)
local macro_rules | `(tactic| walk_at "rd1") => `(tactic| first
  | with_reducible refine rd_seq ?_
  | with_reducible refine rd_asg ?_
  | with_reducible refine rd_drop ?_
  | with_reducible refine rd_ret ?_
  | with_reducible refine rd_retN ?_
  | with_reducible refine rd_ifS ?_
  | ((with_reducible refine rd_var0 ?_); refine ⟨_, rfl, ?_⟩)
  | with_reducible refine rd_c ?_
  | with_reducible refine rd_op ?_
  | with_reducible refine rd_un ?_
  | with_reducible refine rd_I0 ?_
  | with_reducible refine rd_U ?_
  | ((with_reducible refine rd_I ?c ?_); (case c => walk_at "side"))
  | with_reducible refine rd_ipI ?_
  | with_reducible refine rd_eqI ?_
  | with_reducible refine rd_neI ?_
  | with_reducible refine rd_test ?_
  | with_reducible refine rd_tB ?_
  | with_reducible refine rd_bl ?_
  | with_reducible refine rd_not ?_
  | with_reducible refine rd_and ?_
  | with_reducible refine rd_or ?_
  | with_reducible refine rd_andV ?_
  | with_reducible refine rd_orV ?_
  | with_reducible refine rd_notV ?_
  | with_reducible refine rd_ifE ?_
  | with_reducible refine rd_chain ?_
  | with_reducible refine rd_chain3 ?_
  | with_reducible refine rd_nil ?_
  | with_reducible refine rd_cons ?_
  | with_reducible refine rd_call ?_
  | with_reducible refine rd_CB ?_
  | with_reducible refine rd_par ?_
  | with_reducible refine rd_par2 ?_
  | with_reducible refine rd_par3 ?_
  | with_reducible refine rd_par4 ?_
  | ((with_reducible refine rd_aug0 ?_); refine ⟨_, rfl, ?_⟩)
  | with_reducible refine rd_gname ?_
  | with_reducible refine rd_gcons ?_
  | with_reducible refine rd_gnil ?_
  | with_reducible refine rd_max ?_
  | with_reducible refine rd_min ?_
  | with_reducible refine rd_int1 ?_
  | with_reducible refine rd_abs ?_
  | with_reducible refine rd_lst ?_
  | with_reducible refine rd_tup ?_
  | with_reducible refine rd_bm ?_
  | with_reducible refine rd_fld0 ?_
  | with_reducible refine rd_sl0 ?_
  | with_reducible refine rd_noP ?_
  | with_reducible refine rd_part ?_
  | with_reducible refine rd_part2 ?_
  | with_reducible refine rd_meth0 ?_
  | with_reducible refine rd_star ?_
  | with_reducible refine rd_for ?_
  | with_reducible refine rd_rng1 ?_
  | with_reducible refine rd_rng2 ?_
  | with_reducible refine rd_rng3 ?_
  | with_reducible refine rd_iList ?_
  | with_reducible refine rd_iTup ?_
  | with_reducible refine rd_iEnum ?_
  | with_reducible refine rd_lc ?_
  | with_reducible refine rd_yes ?_
  | with_reducible refine rd_augS ?_
  | with_reducible refine rd_drawNew ?_
  | with_reducible refine rd_make0 ?_
  | with_reducible refine rd_next ?_
  | with_reducible refine rd_break ?_
  | with_reducible refine rd_cont ?_
  | with_reducible refine rd_iteTT ?_
  | with_reducible refine rd_iteFF ?_
  | with_reducible refine rd_iteNTT ?_
  | with_reducible refine rd_iteNFF ?_
  | with_reducible refine rd_con0 ?_
  | with_reducible refine rd_truO0 ?_
  | with_reducible refine rd_gfld0 ?_
  | with_reducible refine rd_dc ?_
  | with_reducible refine rd_iKeys ?_
  | with_reducible refine rd_dget0 ?_
  | with_reducible refine rd_dput0 ?_
  | with_reducible refine rd_dnot0 ?_
  | with_reducible refine rd_iEnumT ?_
  | with_reducible refine rd_raP0 ?_
  | with_reducible refine rd_xf0 ?_
  | with_reducible refine rd_asgG ?_)
local macro_rules | `(tactic| walk_at "rd") => `(tactic| repeat walk_at "rd1")
local macro_rules | `(tactic| walk_at "len") => `(tactic| first
  | (intro vs H Q E h; obtain ⟨h2, _⟩ := h; rw [h2]; rfl)
  | (intro vs H Q E h; obtain ⟨_, h2, _⟩ := h; rw [h2]; rfl)
  | (intro vs H Q E h; obtain ⟨_, _, h2, _⟩ := h; rw [h2]; rfl)
  | (intro vs H Q E h; obtain ⟨_, _, _, h2, _⟩ := h; rw [h2]; rfl)
  | (intro vs H Q E h; obtain ⟨_, _, _, _, h2, _⟩ := h; rw [h2]; rfl)
  | (intro vs H Q E h; obtain ⟨_, _, _, _, _, h2, _⟩ := h; rw [h2]; rfl)
  | (intro vs H Q E h; obtain ⟨_, _, _, _, _, _, h2, _⟩ := h; rw [h2]; rfl)
  | (intro vs H Q E h; obtain ⟨_, _, _, _, _, _, _, h2, _⟩ := h; rw [h2]; rfl)
  | (intro vs H Q E h; obtain ⟨_, _, _, _, _, _, _, _, h2, _⟩ := h; rw [h2]; rfl)
  | (intro vs H Q E h; obtain ⟨_, _, _, _, _, _, _, _, _, h2, _⟩ := h; rw [h2]; rfl)
  | (intro vs H Q E h; obtain ⟨_, _, _, _, _, _, _, _, _, _, h2, _⟩ := h; rw [h2]; rfl)
  | (intro vs H Q E h; obtain ⟨_, _, _, _, _, _, _, _, _, _, _, h2, _⟩ := h; rw [h2]; rfl)
  | (intro vs H Q E h; obtain ⟨_, _, _, _, _, _, _, _, _, _, _, _, h2, _⟩ := h; rw [h2]; rfl))
def spLaw (K : PySem.W.Frag) : Sp := fun vs H Q _ => ∃ (a : Addr) (ns : List Int), vs = [.ref a] ∧ SqL K H a (ns.map V.int) ∧ ns.length ≤ 63 ∧ ∀ H', Q (.bl true) H'
/-- what cheapest gives -/
def FoundV (C : Addr) (H : Hp) (W F : Nat → Int) (d : Int) (m : Nat) (v : V) : Prop := (fitsL F d m = [] ∧ v = .non) ∨ (∃ x D k, v = .ref x ∧ CheapK W F d m k ∧ CheP C H x (k : Nat) D (dN (aheadL W m k) F))
theorem FoundV.mono {C : Addr} {H H' : Hp} {W F : Nat → Int} {d : Int} {m : Nat} {v : V} (s : Same H H') (h : FoundV C H W F d m v) : FoundV C H' W F d m v := by
  rcases h with h | ⟨x, D, k, h1, h2, h3⟩
  · exact .inl h
  · exact .inr ⟨x, D, k, h1, h2, h3.mono s⟩
theorem shaped_pairsL (l : List Nat) (W : Nat → Int) : SeqAt.shaped (.list (l.map fun i => pairD (W i, (i : Int)))) = true := shaped_listMap (fun _ => by simp [pairD, PyData.canLay0, PyData.canLayAll0]) (fun _ => by simp [pairD, PyData.depth, PyData.depthAll]) l
/-- the first day, None where there is none -/
def fV (F : Nat → Int) (d : Int) (i : Nat) : V := if F i ≤ d then V.int (F i) else V.non
theorem FirstV.eq {p : Pr} {m n : Int} {v : V} (h : FirstV p m n v) : v = if firstWith p m ≤ n then V.int (firstWith p m) else V.non := by
  rcases h with ⟨h1, h2⟩ | ⟨h1, h2⟩
  · rw [if_pos h1]; exact h2
  · rw [if_neg (by omega)]; exact h2
theorem fV_none {F : Nat → Int} {d : Int} {i : Nat} : fV F d i = V.non ↔ d < F i := by
  unfold fV
  by_cases c : F i ≤ d
  · rw [if_pos c]
    exact ⟨fun z => (nomatch z), fun z => by omega⟩
  · rw [if_neg c]
    exact ⟨fun _ => by omega, fun _ => rfl⟩
theorem dI_mergeA : ∀ (ms ls : List (Int × Int)), ((ls ++ ms).map (·.1)).Nodup → mergeK (dI ls) (dI ms) = dI (ls ++ ms)
  | [], ls, _ => by rw [List.append_nil]; rfl
  | (k, v) :: ms, ls, h => by
    have hn : ∀ q ∈ ls, q.1 ≠ k := by
      intro q hq e
      rw [List.map_append, List.nodup_append] at h
      exact h.2.2 q.1 (List.mem_map.mpr ⟨q, hq, rfl⟩) k (by simp) e
    show mergeK (putK (dI ls) (Sum.inl k) (.int v)) (dI ms) = _
    rw [dI_putNew hn, dI_mergeA ms (ls ++ [(k, v)]) (by rw [List.append_assoc]; exact h), List.append_assoc]
    rfl
theorem dI_merge {ls : List (Int × Int)} (h : (ls.map (·.1)).Nodup) : mergeK [] (dI ls) = dI ls := dI_mergeA ls [] h
theorem pairs_laid {K : PySem.W.Frag} {H : Hp} : ∀ {ys : List V} {ls : List (Int × Int)}, DnAll H ys (ls.map pairD) → ∃ ps : List Addr, ys = ps.map V.ref ∧ Paired (fun p kv => SqT K H p [kV kv.1, kv.2]) ps (dI ls)
  | [], [], _ => ⟨[], rfl, .nil⟩
  | [], _ :: _, h => nomatch h
  | _ :: _, [], h => nomatch h
  | y :: ys, q :: ls, .cons h t => by
    obtain ⟨p, rfl, e⟩ := h.dt.pair_inv
    obtain ⟨ps, e2, pr⟩ := pairs_laid t
    exact ⟨p :: ps, by rw [e2]; rfl, .cons (SqT.of e) pr⟩
theorem BadC.mono {C : Addr} {H H' : Hp} {v z : V} (s : Same H H') (h : BadC C H v z) : BadC C H' v z := by
  rcases h with h | ⟨a, xs, h1, h2, h3⟩ | ⟨a, r, dx, fs, i, h1, h2, h3, h4⟩
  · exact .inl h
  · exact .inr (.inl ⟨a, xs, h1, s _ _ h2, h3⟩)
  · exact .inr (.inr ⟨a, r, dx, fs, i, h1, s _ _ h2, s _ _ h3, h4⟩)
section
variable {P : Program} {w : World} {K : PySem.W.Frag} {mg : Str → Option Value} {base : Heap} {C_Rule C_Evidence C_Good C_Cheapest C_BadDay C_BadChoices : Addr}
theorem fn_law (T : TX P K mg C_Rule C_Evidence C_Good C_Cheapest C_BadDay C_BadChoices) {f0 : Addr} {fd : FuncData} (D : C8.Def K mg "law" s_law f0 fd) : FnOk P w K mg base C8.CX0 8 f0 fd P_law (spLaw K) := by
  have G__law_take := cal__law_take (P := P) (w := w) (base := base) T
  have G__law_rule := cal__law_rule_new (P := P) (w := w) (base := base) T
  have G__law_pick := cal__law_pick (P := P) (w := w) (base := base) T
  have G_Rule_init := mak_Rule_init (P := P) (w := w) (base := base) T
  have G__law_first := cal__law_first (P := P) (w := w) (base := base) T
  have G__law_work := cal__law_work (P := P) (w := w) (base := base) T
  have G_cheapest := cal_cheapest (P := P) (w := w) (base := base) T
  have G_Cheapest_bool := met_Cheapest_bool (P := P) (w := w) (base := base) T
  have G_Cheapest_shows := met_Cheapest_shows_both (P := P) (w := w) (base := base) T
  have G_Cheapest_init := mak_Cheapest_init (P := P) (w := w) (base := base) T
  have G_cheapest_tup := cal_cheapest_tup (P := P) (w := w) (base := base) T
  have G_Cheapest_eq := met_Cheapest_eq (P := P) (w := w) (base := base) T
  have G__law_played := cal__law_played (P := P) (w := w) (base := base) T
  have G_outdone := cal_outdone (P := P) (w := w) (base := base) T
  have X_outdone := xal_outdone (P := P) (w := w) (base := base) T
  have X_cheapest := xal_cheapest (P := P) (w := w) (base := base) T
  refine fn0 D.fn sc_law (by walk_at "len") (fun cdv A outer s H vs Q E hr h => ?_)
  obtain ⟨sc, ns, rfl, hS, _, k⟩ := h
  have b7 := bb_pos
  have b8 := dd_bb
  have b9 := far_dd
  refine ⟨_, (pss_cons (ps_s 1 sc_law.nd (pe_draw (pa_cons (pv 0) (pa_cons pe_int pa_nil))))
      (pss_cons (ps_setLc (i := 2) (own := [("_law_turn", 3)]) (g := gName 3) (tt := tYes) rfl sc_law.nd rfl rfl (sw_true rfl rfl rfl (by decide +kernel)) (pi_range1 rfl T.b_range (pa_cons (pe_op op_add pe_int (pe_c G__law_take hr (by decide) rfl (pa_cons (pv 1) (pa_cons pe_int pa_nil)))) pa_nil)) (blkOk_by (own := [("_law_turn", 3)]) (N := N_law) (sc := fnScope s_law) (by decide +kernel)) (fun _ _ _ _ _ => (pg_n 3 sc_law.nd)) (fun _ _ _ _ _ => pts_nil) (fun _ _ _ _ _ => (pe_c G__law_rule hr (by decide) rfl (pa_cons (pv 1) pa_nil))))
      (pss_cons (ps_expr (pe_bm PySem.F.plainAttrs_list PySem.F.slot_list_append PySem.F.type_list_append mt_append (pv 2) (pa_cons (pe_c G__law_pick hr (by decide) rfl (pa_cons (pv 1) (pa_cons (pv 2) pa_nil))) pa_nil)))
      (pss_cons (ps_asg (pe_tup (pa_cons (pe_lc (own := [("_law_told", 7)]) (g := gName 7) (tt := tYes) rfl sc_law.nd (pi_list (pv 2)) (blkOk_by (own := [("_law_told", 7)]) (N := N_law) (sc := fnScope s_law) (by decide +kernel)) (fun _ _ _ _ _ => (pg_n 7 sc_law.nd)) (fun _ _ _ _ _ => pts_nil) (fun _ _ _ _ _ => (pe_mk G_Rule_init hr (by decide) rfl (pa_cons (pe_ix (ixK rIxT K ix_tup) (pv 7) pe_int (fun _ _ => rfl)) (pa_cons (pe_ix (ixK rIxT K ix_tup) (pv 7) pe_int (fun _ _ => rfl)) pa_nil))))) (pa_cons (pe_op op_add pe_int (pe_c G__law_take hr (by decide) rfl (pa_cons (pv 1) (pa_cons pe_int pa_nil)))) (pa_cons (pe_op op_add pe_int (pe_c G__law_take hr (by decide) rfl (pa_cons (pv 1) (pa_cons pe_int pa_nil)))) pa_nil)))) (pg_tup rfl (pgs_cons (pg_n 4 sc_law.nd) (pgs_cons (pg_n 5 sc_law.nd) (pgs_cons (pg_n 6 sc_law.nd) pgs_nil)))))
      (pss_cons (ps_asg (pe_tup (pa_cons (pe_lc (own := [("_law_told", 7)]) (g := gName 7) (tt := tYes) rfl sc_law.nd (pi_list (pv 2)) (blkOk_by (own := [("_law_told", 7)]) (N := N_law) (sc := fnScope s_law) (by decide +kernel)) (fun _ _ _ _ _ => (pg_n 7 sc_law.nd)) (fun _ _ _ _ _ => pts_nil) (fun _ _ _ _ _ => (pe_c G__law_first hr (by decide) rfl (pa_cons (pv 7) (pa_cons (pe_op op_add (pv 6) pe_int) (pa_cons (pv 5) pa_nil)))))) (pa_cons (pe_lc (own := [("_law_told", 7)]) (g := gName 7) (tt := tYes) rfl sc_law.nd (pi_list (pv 2)) (blkOk_by (own := [("_law_told", 7)]) (N := N_law) (sc := fnScope s_law) (by decide +kernel)) (fun _ _ _ _ _ => (pg_n 7 sc_law.nd)) (fun _ _ _ _ _ => pts_nil) (fun _ _ _ _ _ => (pe_c G__law_work hr (by decide) rfl (pa_cons (pv 7) (pa_cons (pv 5) pa_nil))))) pa_nil))) (pg_tup rfl (pgs_cons (pg_n 8 sc_law.nd) (pgs_cons (pg_n 9 sc_law.nd) pgs_nil))))
      (pss_cons (ps_setLc (i := 10) (own := [("_law_place", 11)]) (g := gName 11) (tt := _) rfl sc_law.nd rfl rfl (sw_true rfl rfl rfl (by decide +kernel)) (pi_range1 rfl T.b_range (pa_cons (pe_callB cr_lenS (by rfl) T.b_len (by decide +kernel) (pa_cons (pv 2) pa_nil)) pa_nil)) (blkOk_by (own := [("_law_place", 11)]) (N := N_law) (sc := fnScope s_law) (by decide +kernel)) (fun _ _ _ _ _ => (pg_n 11 sc_law.nd)) (fun _ _ _ _ _ => (pts_one (pt_cmpR op_isNn (pe_ix (ixK rIxL K ix_list) (pv 8) (pv 11) (fun _ _ => rfl)) pe_non (nomark _)))) (fun _ _ _ _ _ => (pe_tup (pa_cons (pe_ix (ixK rIxL K ix_list) (pv 9) (pv 11) (fun _ _ => rfl)) (pa_cons (pv 11) pa_nil)))))
      (pss_cut (ps_s 12 sc_law.nd (pe_c G_cheapest hr (by decide) rfl (pa_cons (pv 4) (pa_cons (pv 6) (pa_cons (pv 5) pa_nil)))))
      (pss_cut (ps_if (pt_cmpR op_ne (pe_cmpR op_isNn (pv 12) pe_non (nomark _)) (pe_cmpR (op_eqD hr.units) (pv 10) (pe_lst pa_nil) (nomark _)) (nomark _)) (pss_one (ps_ret pe_bl)) pss_nil)
      (pss_cut (ps_if (pt_cmpR op_notNn (pv 12) pe_non (nomark _)) (pss_cons (ps_asg (pe_callB (cr_minP rfl hr) (by rfl) T.b_min (by decide +kernel) (pa_cons (pv 10) pa_nil)) (pg_tup rfl (pgs_cons (pg_n 13 sc_law.nd) (pgs_cons (pg_n 11 sc_law.nd) pgs_nil))))
      (pss_cons (ps_s 14 sc_law.nd (pe_callTy (cr_dictP rfl) (by rfl) T.b_dict (by decide +kernel) (pa_cons (pe_lc (own := [("_law_late", 15)]) (g := gName 15) (tt := _) rfl sc_law.nd (pi_range1 rfl T.b_range (pa_cons (pe_callB cr_lenS (by rfl) T.b_len (by decide +kernel) (pa_cons (pv 2) pa_nil)) pa_nil)) (blkOk_by (own := [("_law_late", 15)]) (N := N_law) (sc := fnScope s_law) (by decide +kernel)) (fun _ _ _ _ _ => (pg_n 15 sc_law.nd)) (fun _ _ _ _ _ => (pts_one (PW.pt (pw_or (pt_cmpR op_lt (pe_ix (ixK rIxL K ix_list) (pv 9) (pv 15) (fun _ _ => rfl)) (pv 13) (nomark _)) (pw_or1 (PW.pt (pw_and (pt_cmpR op_eq (pe_ix (ixK rIxL K ix_list) (pv 9) (pv 15) (fun _ _ => rfl)) (pv 13) (nomark _)) (pw_and1 (pt_cmpR op_lt (pv 15) (pv 11) (nomark _)))))))))) (fun _ _ _ _ _ => (pe_tup (pa_cons (pv 15) (pa_cons (pe_ix (ixK rIxL K ix_list) (pv 8) (pv 15) (fun _ _ => rfl)) pa_nil))))) pa_nil)))
      (pss_cons (ps_if (PW.pt (pw_or (pt_cmpR op_ne (pe_fld (pv 12) rfl) (pv 11) (nomark _)) (pw_or (pt_cmpR (op_neDI hr.units0) (pe_fld (pv 12) rfl) (pv 14) (nomark _)) (pw_or (pt_not (pt_val (pe_mt G_Cheapest_shows hr (by decide) (pv 12) (pa_cons (pv 4) (pa_cons (pv 6) (pa_cons (pv 5) pa_nil)))))) (pw_or1 (pt_not (pt_own G_Cheapest_bool hr (by decide) (pv 12)))))))) (pss_one (ps_ret pe_bl)) pss_nil)
      (pss_cut (ps_if (PW.pt (pw_or (pt_val (pe_mt G_Cheapest_shows hr (by decide) (pe_mk G_Cheapest_init hr (by decide) rfl (pa_cons (pe_callB cr_lenS (by rfl) T.b_len (by decide +kernel) (pa_cons (pv 2) pa_nil)) (pa_cons (pv 14) pa_nil))) (pa_cons (pv 4) (pa_cons (pv 6) (pa_cons (pv 5) pa_nil))))) (pw_or1 (PW.pt (pw_and (pt_cmpR (op_neDI hr.units0) (pv 14) pe_dnewK (nomark _)) (pw_and1 (pt_val (pe_mt G_Cheapest_shows hr (by decide) (pe_mk G_Cheapest_init hr (by decide) rfl (pa_cons (pv 11) (pa_cons pe_dnewK pa_nil))) (pa_cons (pv 4) (pa_cons (pv 6) (pa_cons (pv 5) pa_nil))))))))))) (pss_one (ps_ret pe_bl)) pss_nil)
      (pss_cons (ps_s 16 sc_law.nd (pe_callTy cr_dictD (by rfl) T.b_dict (by decide +kernel) (pa_cons (pv 14) pa_nil)))
      (pss_cons (ps_dput (hu_of hr) (pv 16) (pv 11) pe_int rfl)
      (pss_cons (ps_if (PW.pt (pw_or (pt_val (pe_mt G_Cheapest_shows hr (by decide) (pe_mk G_Cheapest_init hr (by decide) rfl (pa_cons (pv 11) (pa_cons (pv 16) pa_nil))) (pa_cons (pv 4) (pa_cons (pv 6) (pa_cons (pv 5) pa_nil))))) (pw_or1 (pt_cmpR (op_neO G_Cheapest_eq hr (by decide) T.ic_Cheapest.hm T.ne_Cheapest) (pe_c G_cheapest_tup hr (by decide) rfl (pa_cons (pe_callTy cr_tupOf (by rfl) T.b_tuple (by decide +kernel) (pa_cons (pv 4) pa_nil)) (pa_cons (pv 6) (pa_cons (pv 5) pa_nil)))) (pv 12) (nomark _))))) (pss_one (ps_ret pe_bl)) pss_nil)
      (pss_one (ps_if (pt_val (pe_callB (cr_any rfl) (by rfl) T.b_any (by decide +kernel) (pa_cons (pe_lc (own := [("_law_late", 15)]) (g := gName 15) (tt := _) rfl sc_law.nd (pi_range1 rfl T.b_range (pa_cons (pe_callB cr_lenS (by rfl) T.b_len (by decide +kernel) (pa_cons (pv 2) pa_nil)) pa_nil)) (blkOk_by (own := [("_law_late", 15)]) (N := N_law) (sc := fnScope s_law) (by decide +kernel)) (fun _ _ _ _ _ => (pg_n 15 sc_law.nd)) (fun _ _ _ _ _ => (pts_one (pt_cmpR op_notNn (pe_ix (ixK rIxL K ix_list) (pv 8) (pv 15) (fun _ _ => rfl)) pe_non (nomark _)))) (fun _ _ _ _ _ => (pe_mt G_Cheapest_shows hr (by decide) (pe_mk G_Cheapest_init hr (by decide) rfl (pa_cons (pv 15) (pa_cons pe_dnewK pa_nil))) (pa_cons (pv 4) (pa_cons (pv 6) (pa_cons (pv 5) pa_nil)))))) pa_nil))) (pss_one (ps_ret pe_bl)) pss_nil))))))))) pss_nil)
      (pss_cons (ps_asg (pe_tup (pa_cons (pe_lc (own := [("_law_told", 7)]) (g := gName 7) (tt := tYes) rfl sc_law.nd (pi_list (pv 2)) (blkOk_by (own := [("_law_told", 7)]) (N := N_law) (sc := fnScope s_law) (by decide +kernel)) (fun _ _ _ _ _ => (pg_n 7 sc_law.nd)) (fun _ _ _ _ _ => pts_nil) (fun _ _ _ _ _ => (pe_callB (callK rMax K (cr_max rfl)) (by rfl) T.b_max (by decide +kernel) (by exact (pa_cons (by exact (pe_lc (own := [("_law_rows", 19), ("_law_grades", 20)]) (g := gTup K 2 (gCons (gName 19) (gCons (gName 20) gNil))) (tt := tYes) (wi := iList K _) (by rfl) (by exact sc_law.nd) (by exact (pi_list (pe_c G__law_played hr (by decide) rfl (pa_cons (pv 7) (pa_cons (pv 5) pa_nil))))) (by exact blkOk_by (own := [("_law_rows", 19), ("_law_grades", 20)]) (N := N_law) (by rfl)) (by exact (fun _ _ _ _ _ => (pg_tup rfl (pgs_cons (pg_n 19 sc_law.nd) (pgs_cons (pg_n 20 sc_law.nd) pgs_nil))))) (by exact (fun _ _ _ _ _ => pts_nil)) (by exact (fun _ _ _ _ _ => (pe_callB (callK rLenS K cr_lenS) (by rfl) T.b_len (by decide +kernel) (pa_cons (pv 19) pa_nil)))) (by intro _; rfl))) pa_nil))))) (pa_cons pe_dnewK pa_nil))) (pg_tup rfl (pgs_cons (pg_n 17 sc_law.nd) (pgs_cons (pg_n 18 sc_law.nd) pgs_nil))))
      (pss_cut (ps_for PassesOwn.never rfl (pi_range1 rfl T.b_range (pa_cons (pe_callB cr_lenS (by rfl) T.b_len (by decide +kernel) (pa_cons (pv 2) pa_nil)) pa_nil)) (pg_n 11 sc_law.nd) (pss_cons (ps_setLc (i := 21) (own := [("_law_late", 15)]) (g := gName 15) (tt := _) rfl sc_law.nd rfl rfl (sw_true rfl rfl rfl (by decide +kernel)) (pi_range1 rfl T.b_range (pa_cons (pe_callB cr_lenS (by rfl) T.b_len (by decide +kernel) (pa_cons (pv 2) pa_nil)) pa_nil)) (blkOk_by (own := [("_law_late", 15)]) (N := N_law) (sc := fnScope s_law) (by decide +kernel)) (fun _ _ _ _ _ => (pg_n 15 sc_law.nd)) (fun _ _ _ _ _ => (pts_one (PW.pt (pw_and (pt_cmpR op_lt (pe_ix (ixK rIxL K ix_list) (pv 9) (pv 15) (fun _ _ => rfl)) (pe_ix (ixK rIxL K ix_list) (pv 9) (pv 11) (fun _ _ => rfl)) (nomark _)) (pw_and1 (pt_cmpR op_le (pe_ix (ixK rIxL K ix_list) (pv 17) (pv 15) (fun _ _ => rfl)) (pe_ix (ixK rIxL K ix_list) (pv 17) (pv 11) (fun _ _ => rfl)) (nomark _))))))) (fun _ _ _ _ _ => (pv 15)))
      (pss_one (ps_if (pt_cmpR (op_neD hr.units) (pv 21) (pe_lst pa_nil) (nomark _)) (pss_one (ps_dput (hu_of hr) (pv 18) (pv 11) (pe_ix ix_list (pv 21) pe_int (fun _ _ => rfl)) rfl)) pss_nil))))
      (pss_cut (ps_if (PW.pt (pw_or (pt_cmpR (op_neDI hr.units0) (pe_c G_outdone hr (by decide) rfl (pa_cons (pv 4) (pa_cons (pv 5) pa_nil))) (pv 18) (nomark _)) (pw_or1 (pt_cmpR (op_neD hr.units) (pe_callTy (call_list_dK rfl) (by rfl) T.b_list (by decide +kernel) (pa_cons (pe_c G_outdone hr (by decide) rfl (pa_cons (pv 4) (pa_cons (pv 5) pa_nil))) pa_nil)) (pe_callTy (call_list_dK rfl) (by rfl) T.b_list (by decide +kernel) (pa_cons (pv 18) pa_nil)) (nomark _))))) (pss_one (ps_ret pe_bl)) pss_nil)
      (pss_cons (ps_s 22 sc_law.nd (pe_c G_cheapest hr (by decide) rfl (pa_cons (pv 4) (pa_cons pe_int (pa_cons (pe_op op_pow pe_int pe_int) pa_nil)))))
      (pss_cut (ps_if (PW.pt (pw_or (pt_cmpR op_isNn (pv 22) pe_non (nomark _)) (pw_or (pt_cmpR (op_neDI hr.units0) (pe_fld (pv 22) rfl) pe_dnewK (nomark _)) (pw_or (pt_cmpR op_notNn (pe_c G_cheapest hr (by decide) rfl (pa_cons (pv 4) (pa_cons pe_int (pa_cons pe_int pa_nil)))) pe_non (nomark _)) (pw_or1 (pt_cmpR op_ne (pe_fld (pe_c G_cheapest hr (by decide) rfl (pa_cons (pv 4) (pa_cons pe_int (pa_cons pe_int pa_nil)))) rfl) pe_int (nomark _))))))) (pss_one (ps_ret pe_bl)) pss_nil)
      (pss_cons (ps_for PassesOwn.never rfl (pi_tup (pe_tup (pa_cons (pe_tup (pa_cons (pe_lst pa_nil) (pa_cons pe_non pa_nil))) (pa_cons (pe_tup (pa_cons (pe_lst (pa_cons (pe_ix ix_list (pv 4) pe_int (fun _ _ => rfl)) (pa_cons pe_int pa_nil))) (pa_cons pe_int pa_nil))) (pa_cons (pe_tup (pa_cons pe_non (pa_cons pe_non pa_nil))) (pa_cons (pe_tup (pa_cons (pe_op op_rep (pv 4) pe_int) (pa_cons pe_non pa_nil))) pa_nil)))))) (pg_tup rfl (pgs_cons (pg_n 23 sc_law.nd) (pgs_cons (pg_n 11 sc_law.nd) pgs_nil))) (pss_one (ps_tryAsO (i := 24) rfl rfl sc_law.nd rfl rfl ⟨rfl, by decide, .inl T.mg_BadChoices⟩ takesN (fun W pn xe tk => (pss_cons (ps_expr (pe_cX X_outdone hr (by decide) rfl (fun σ => passAt tk σ) (pa_cons (pv 23) (pa_cons pe_int pa_nil))))
      (pss_one (ps_ret pe_bl)))) (fun a oe cls d pn hz hf => (pss_one (ps_if (pt_cmpR op_ne (pe_xf T.y_BadChoices.xf T.y_BadChoices.np hz hf (pv 24)) (pv 11) (nomark _)) (pss_one (ps_ret pe_bl)) pss_nil))))))
      (pss_one (ps_tryO rfl rfl ⟨rfl, by decide, .inl T.mg_BadDay⟩ takesN (fun W pn xe tk => (pss_cons (ps_expr (pe_cX X_cheapest hr (by decide) rfl (fun σ => passAt tk σ) (pa_cons (pv 4) (pa_cons (pe_un un_neg pe_int) (pa_cons pe_int pa_nil)))))
      (pss_one (ps_ret pe_bl)))) (fun a oe cls d pn => (pss_one (ps_ret pe_bl)))))))))))))))))))), ?_⟩
  walk_at "rd"
  refine rd_drawN fun a H1 _ s1 ea => ?_
  have dr1 : DrawP K H1 a := ⟨sc, ns, ea, L2.Same.seq s1 hS⟩
  walk_at "rd"
  refine ⟨a, _, rfl, dr1, by decide, fun H2 z s2 z0 z1 => ?_⟩
  obtain ⟨zn, rfl⟩ : ∃ zn : Nat, z = (zn : Int) := ⟨z.toNat, by omega⟩
  walk_at "rd"
  refine rd_rgR1 (by omega) (by omega) ?_
  have ez : ((1 : Int) + (zn : Int)).toNat = 1 + zn := by omega
  rw [ez]
  have dr2 := dr1.mono s2
  refine lcR_rng (fun D i H' => ∃ L : List FQ, Same H2 H' ∧ L.length = i ∧ TsP H' D L) (fun D H' _ s e _ => ⟨[], s, rfl, [], e, rfl, fun i x hx => by simp at hx⟩) ?_ ?_
  · rintro D i H3 hD hi ⟨L, s3, hl, ts⟩
    walk_at "rd"
    refine ⟨rfl, ?_⟩
    walk_at "rd"
    refine ⟨a, rfl, dr2.mono s3, fun H4 t f q s4 ok ⟨l1, l2, xs1, xs2, e1, e2, e3, d1, d2, n1, n2⟩ => ?_⟩
    obtain ⟨vs, ev, lv, kv⟩ := id (ts.mono s4)
    have hD3 : H3 D ≠ none := by
      obtain ⟨vs', e', _⟩ := id ts
      rw [e']
      intro z
      cases z
    refine rd_lcE ev (by omega) fun H5 eH5 eD5 => ?_
    refine ⟨L ++ [(f, q)], by rw [eH5]; exact Same.mut (s3.trans s4) hD, by simp [hl], ?_⟩
    rw [eH5]
    refine TsP.app ev (ts.mono s4) (x := (f, q)) ⟨l1, l2, xs1, xs2, e1, e2, e3, d1, d2, ?_, ?_⟩ ok
    · exact fun z => hD3 (by rw [← z]; exact n1)
    · exact fun z => hD3 (by rw [← z]; exact n2)
  rintro Tl H3 hTl ⟨L0, s3, hl0, ts0⟩
  walk_at "rd"
  obtain ⟨vs0, ev0, lv0, kv0⟩ := id ts0
  refine rd_tyL ev0 ?_
  walk_at "rd"
  refine ⟨a, Tl, vs0, rfl, dr2.mono s3, ev0, fun z => by rw [z] at lv0; simp at lv0; omega, fun H4 ip xp s4 hxp => ?_⟩
  obtain ⟨t0, hx0, hq0, ok0⟩ : ∃ t, xp = .ref t ∧ ToldQ H4 Tl t (L0.getD ip ([], [])).1 (L0.getD ip ([], [])).2 ∧ OkT (L0.getD ip ([], [])).1 (L0.getD ip ([], [])).2 := by
    have hip : ip < L0.length := by rw [← lv0]; exact (List.getElem?_eq_some_iff.mp hxp).1
    obtain ⟨t, h1, h2, h3⟩ := kv0 ip _ (List.getElem?_eq_getElem hip)
    rw [hxp] at h1
    rw [List.getD_eq_getElem?_getD, List.getElem?_eq_getElem hip]
    exact ⟨t, Option.some.inj h1, h2.mono s4, h3⟩
  subst hx0
  walk_at "rd"
  refine rd_app (s4 _ _ ev0) (by omega) fun H5 eH5 eT5 => ?_
  have ts5 : TsP H5 Tl (L0 ++ [L0.getD ip ([], [])]) := by rw [eH5]; exact TsP.app (s4 _ _ ev0) (ts0.mono s4) hq0 ok0
  have s25 : Same H2 H5 := by rw [eH5]; exact Same.mut (s3.trans s4) hTl
  obtain ⟨L, eL⟩ : ∃ L, L = L0 ++ [L0.getD ip ([], [])] := ⟨_, rfl⟩
  rw [← eL] at ts5
  have hL1 : 2 ≤ L.length := by rw [eL]; simp; omega
  have hL2 : L.length ≤ 6 := by rw [eL]; simp; omega
  have dr5 := dr2.mono s25
  clear ts0 kv0 hq0 ok0 eL eT5 eH5 ev0 lv0
  obtain ⟨vs, ev, lv, kv⟩ := id ts5
  walk_at "rd"
  refine rd_lsR (SqL.of ev) ?_
  refine lcR_lst (xs := vs) (fun D j H' => Same H5 H' ∧ ∃ cs, H' D = some (.lst cs) ∧ cs.length = j ∧ ∀ i : Nat, i < j → ∃ r, cs[i]? = some (.ref r) ∧ RuleP C_Rule H' r (psL L i)) (fun D j H' _ ⟨s, _⟩ => SqL.of (s _ _ ev)) (fun D H' _ s e _ => ⟨s, [], e, rfl, fun i hi => absurd hi (Nat.not_lt_zero _)⟩) ?_ ?_
  · rintro D j v H6 hD hv ⟨s6, cs, eD, lc, kc⟩
    have hjl : j < L.length := by rw [← lv]; exact (List.getElem?_eq_some_iff.mp hv).1
    obtain ⟨t, h1, h2, ok⟩ := kv j _ (List.getElem?_eq_getElem hjl)
    rw [hv] at h1
    cases h1
    obtain ⟨l1, l2, xs1, xs2, et, el1, el2, dl1, dl2, _, _⟩ := h2.mono s6
    have o1 := ok.f2
    have o2 := ok.q2
    walk_at "rd"
    refine ⟨rfl, ?_⟩
    walk_at "rd"
    refine rd_ixT et (by rfl) ?_
    walk_at "rd"
    refine rd_ixT et (by rfl) ?_
    walk_at "rd"
    refine rd_make fun r dx H7 s7 hx e7 => ?_
    refine ⟨r, dx, l1, l2, H6, xs1, xs2, L[j].1, L[j].2, rfl, s7, hx, e7, .inl (s7 _ _ el1), .inl (s7 _ _ el2), dl1.mono s7, dl2.mono s7, by omega, by omega, ok.ne, ok.okf, ok.okq, fun H8 s8 hr1 => ⟨rfl, ?_⟩⟩
    have eD8 := s8 _ _ eD
    refine rd_lcE eD8 (by omega) fun H9 eH9 eD9 => ?_
    refine ⟨by rw [eH9]; exact Same.mut (s6.trans s8) hD, _, eD9, by simp [lc], fun i hi => ?_⟩
    rcases Nat.lt_or_ge i j with z | z
    · obtain ⟨r', g1, g2⟩ := kc i z
      refine ⟨r', by rw [List.getElem?_append_left (by omega)]; exact g1, ?_⟩
      rw [eH9]
      exact (g2.mono s8).updL eD8
    · have hij : i = j := by omega
      subst hij
      refine ⟨r, by rw [List.getElem?_append_right (by omega), lc]; simp, ?_⟩
      rw [psL_at (List.getElem?_eq_getElem hjl), eH9]
      exact hr1.updL eD8
  rintro Ch H6 hCh ⟨s6, cs, eC, lc, kc⟩
  have dr6 := dr5.mono s6
  have ts6 := ts5.mono s6
  have ch6 : ChP C_Rule H6 Ch (psL L) L.length := ⟨cs, eC, by rw [lc, lv], fun i hi => kc i (by rw [lv]; exact hi)⟩
  clear ts5 dr5 kc kv eC lc hCh hTl dr2 dr1
  walk_at "rd"
  refine ⟨a, _, rfl, dr6, by decide, fun H7 z3 s7 z30 z31 => ?_⟩
  walk_at "rd"
  refine ⟨a, _, rfl, dr6.mono s7, by decide, fun H8 z4 s8 z40 z41 => ?_⟩
  walk_at "rd"
  obtain ⟨d, ed⟩ : ∃ d, d = 20 + z3 := ⟨_, rfl⟩
  obtain ⟨mn, em⟩ : ∃ mn, mn = 1 + z4 := ⟨_, rfl⟩
  rw [← ed, ← em]
  refine rd_newT (by simp) fun w1 H9 _ s9 ew1 _ => ?_
  refine rd_gtup ew1 rfl ?_
  walk_at "rd"
  have s69 := (s7.trans s8).trans s9
  have ts9 := ts6.mono s69
  have ch9 := ch6.mono s69
  have d0 : 0 ≤ d := by omega
  have d1 : d ≤ 10 ^ 21 := by omega
  have dh : d ≤ 999 := by omega
  have mn0 : 1 ≤ mn := by omega
  have mn1 : mn ≤ 1000 := by omega
  clear ed em z30 z31 z40 z41 dr6 ts6 ch6 ew1
  obtain ⟨vs, ev, lv, kv⟩ := id ts9
  have hps : ∀ (j : Nat) (hj : j < L.length), psL L j = atp (L[j]).1 (L[j]).2 := fun j hj => psL_at (List.getElem?_eq_getElem hj)
  have gds : ∀ j, j < L.length → Good (psL L j) := fun j hj => ch9.good hj
  have kv1 : ∀ (i : Nat) (hi : i < L.length) H', Same H9 H' → ∃ t, vs[i]? = some (.ref t) ∧ ToldP H' t (L[i]).1 (L[i]).2 ∧ OkT (L[i]).1 (L[i]).2 := by
    intro i hi H' s'
    obtain ⟨t, q1, q2, q3⟩ := kv i _ (List.getElem?_eq_getElem hi)
    exact ⟨t, q1, (q2.mono s').p, q3⟩
  -- first days and prices
  refine rd_lsR (SqL.of ev) ?_
  refine lcR_lst (xs := vs) (fun D j H' => Same H9 H' ∧ H' D = some (.lst ((List.range j).map (fV (fsF (psL L) mn) d)))) (fun D j H' _ ⟨s, _⟩ => SqL.of (s _ _ ev)) (fun D H' _ s e _ => ⟨s, e⟩) ?_ ?_
  · rintro D j v H10 hD hv ⟨s10, eD⟩
    have hj : j < L.length := by rw [← lv]; exact (List.getElem?_eq_some_iff.mp hv).1
    obtain ⟨t, q1, q2, q3⟩ := kv1 j hj H10 s10
    rw [hv] at q1
    cases q1
    walk_at "rd"
    refine ⟨rfl, ?_⟩
    walk_at "rd"
    refine ⟨t, _, _, _, d, rfl, q2, q3, by omega, d0, by omega, fun H11 v1 s11 hv1 => ?_⟩
    refine rd_lcE (s11 _ _ eD) (by simp; omega) fun H12 eH12 eD12 => ?_
    refine ⟨by rw [eH12]; exact Same.mut (s10.trans s11) hD, ?_⟩
    rw [eD12, List.range_succ, List.map_append, hv1.eq, ← hps j hj]
    rfl
  rintro Fs H10 hFs ⟨s10, eFs⟩
  rw [lv] at eFs
  walk_at "rd"
  refine rd_lsR (SqL.of (s10 _ _ ev)) ?_
  refine lcR_lst (xs := vs) (fun D j H' => Same H10 H' ∧ H' D = some (.lst (((List.range j).map (wkF (psL L) d)).map V.int))) (fun D j H' _ ⟨s, _⟩ => SqL.of ((s10.trans s) _ _ ev)) (fun D H' _ s e _ => ⟨s, e⟩) ?_ ?_
  · rintro D j v H11 hD hv ⟨s11, eD⟩
    have hj : j < L.length := by rw [← lv]; exact (List.getElem?_eq_some_iff.mp hv).1
    obtain ⟨t, q1, q2, q3⟩ := kv1 j hj H11 (s10.trans s11)
    rw [hv] at q1
    cases q1
    walk_at "rd"
    refine ⟨rfl, ?_⟩
    walk_at "rd"
    refine ⟨t, _, _, d, rfl, q2, q3, d0, by omega, fun H12 s12 => ?_⟩
    refine rd_lcE (s12 _ _ eD) (by simp; omega) fun H13 eH13 eD13 => ?_
    refine ⟨by rw [eH13]; exact Same.mut (s11.trans s12) hD, ?_⟩
    rw [eD13, List.range_succ, List.map_append, List.map_append, ← hps j hj]
    rfl
  rintro Pr H11 hPr ⟨s11, ePr⟩
  rw [lv] at ePr
  walk_at "rd"
  refine rd_newT (by simp) fun w2 H12 _ s12 ew2 _ => ?_
  refine rd_gtup ew2 rfl ?_
  walk_at "rd"
  have s912 := (s10.trans s11).trans s12
  have ch12 := ch9.mono s912
  have eFs12 := (s11.trans s12) _ _ eFs
  have ePr12 := s12 _ _ ePr
  have ev12 := s912 _ _ ev
  have kv12 : ∀ (i : Nat) (hi : i < L.length) H', Same H12 H' → ∃ t, vs[i]? = some (.ref t) ∧ ToldP H' t (L[i]).1 (L[i]).2 ∧ OkT (L[i]).1 (L[i]).2 := fun i hi H' s' => kv1 i hi H' (s912.trans s')
  clear ch9 eFs ePr ew2 kv1 kv s10 s11 s12 hFs hPr ev
  have hfi : ∀ i, i < L.length → ((List.range L.length).map (fV (fsF (psL L) mn) d))[i]? = some (fV (fsF (psL L) mn) d i) := fun i hi => by rw [List.getElem?_map, List.getElem?_range hi]; rfl
  have hpi : ∀ i, i < L.length → (((List.range L.length).map (wkF (psL L) d)).map V.int)[i]? = some (.int (wkF (psL L) d i)) := fun i hi => by rw [List.getElem?_map, List.getElem?_map, List.getElem?_range hi]; rfl
  -- which fit
  refine rd_lenL ev12 ?_
  rw [lv]
  walk_at "rd"
  refine rd_rgR1 (by omega) (by omega) ?_
  rw [Int.toNat_natCast]
  refine lcR_rng (fun D j H' => Same H12 H' ∧ ∃ ys, H' D = some (.lst ys) ∧ DnAll H' ys (((List.range j).filter fun i => decide (d < fsF (psL L) mn i)).map fun i => pairD (wkF (psL L) d i, (i : Int)))) (fun D H' _ s e _ => ⟨s, [], e, .nil⟩) ?_ ?_
  · rintro D j H13 hD hj ⟨s13, ys, eD, dy⟩
    walk_at "rd"
    refine ⟨rfl, ?_⟩
    walk_at "rd"
    rw [Int.zero_add]
    refine rd_ixL (s13 _ _ eFs12) (atI_nat' (hfi j hj)) ?_
    walk_at "rd"
    refine rd_isN0 ?_
    walk_at "rd"
    have fl := filt_len (fun i => decide (d < fsF (psL L) mn i)) j
    refine rd_ite (fun c => ?_) (fun c => ?_)
    · have c := fV_none.mp c
      walk_at "rd"
      refine rd_ixL (s13 _ _ ePr12) (atI_nat' (hpi j hj)) ?_
      walk_at "rd"
      refine rd_newT (by simp) fun w3 H14 _ s14 ew3 _ => ?_
      refine rd_lcE (s14 _ _ eD) (by rw [dy.length, List.length_map]; omega) fun H15 eH15 eD15 => ?_
      refine ⟨by rw [eH15]; exact Same.mut (s13.trans s14) hD, _, eD15, ?_⟩
      rw [filter_succ, if_pos (decide_eq_true c), List.map_append, eH15]
      refine DnAll.updL (s14 _ _ eD) ((dy.mono s14).append (.cons ?_ .nil))
      exact .pair ew3
    · refine ⟨s13, ys, eD, ?_⟩
      rw [filter_succ, if_neg (by rw [decide_eq_true_iff]; exact fun q => c (fV_none.mpr q)), List.append_nil]
      exact dy
  rintro Ft H13 hFt ⟨s13, ys, eFt, dy⟩
  have ch13 := ch12.mono s13
  have eFs13 := s13 _ _ eFs12
  have ePr13 := s13 _ _ ePr12
  have ev13 := s13 _ _ ev12
  have kv13 : ∀ (i : Nat) (hi : i < L.length) H', Same H13 H' → ∃ t, vs[i]? = some (.ref t) ∧ ToldP H' t (L[i]).1 (L[i]).2 ∧ OkT (L[i]).1 (L[i]).2 := fun i hi H' s' => kv12 i hi H' (s13.trans s')
  clear ch12 eFs12 ePr12 ev12 kv12 s13 hFt
  walk_at "rd"
  refine ⟨fun σ H => ∃ v, FoundV C_Cheapest H (wkF (psL L) d) (fsF (psL L) mn) d L.length v ∧ Same H13 H ∧ σ = [some (.ref sc), some (.ref a), some (.ref Tl), none, some (.ref Ch), some (.int d), some (.int mn), none, some (.ref Fs), some (.ref Pr), some (.ref Ft), none, some v, none, none, none, none, none, none, none, none, none, none, none, none], ?_, ?_⟩
  · walk_at "rd"
    refine ⟨Ch, psL L, L.length, mn, d, rfl, ch13, ⟨by omega, by omega⟩, ⟨by omega, by omega⟩, ⟨d0, d1⟩, fun H14 s14 => ⟨fun hn => ?_, fun x D k' hk cp => ?_⟩⟩
    · walk_at "rd"
      exact ⟨.non, .inl ⟨hn, rfl⟩, s14, rfl⟩
    · walk_at "rd"
      exact ⟨.ref x, .inr ⟨x, D, k', rfl, hk, cp⟩, s14, rfl⟩
  rintro σ H14 ⟨v, fv, s14, rfl⟩
  refine ⟨fun σ H => ∃ v, FoundV C_Cheapest H (wkF (psL L) d) (fsF (psL L) mn) d L.length v ∧ Same H13 H ∧ σ = [some (.ref sc), some (.ref a), some (.ref Tl), none, some (.ref Ch), some (.int d), some (.int mn), none, some (.ref Fs), some (.ref Pr), some (.ref Ft), none, some v, none, none, none, none, none, none, none, none, none, none, none, none], ?_, ?_⟩
  · walk_at "rd"
    refine rd_isN0 ?_
    walk_at "rd"
    refine rd_newL (by simp) fun u H15 _ s15 eu _ => ?_
    refine rd_eqD (.lst ((s14.trans s15) _ _ eFt) (dy.mono (s14.trans s15)).dt) (.lst eu .nil) (shaped_pairsL _ _) (by decide) ?_
    rw [eqv_nil]
    refine rd_ne rfl ?_
    have key : (decide (V.bl (decide (v = V.non)) = V.bl (decide (((List.range L.length).filter fun i => decide (d < fsF (psL L) mn i)).map (fun i => pairD (wkF (psL L) d i, (i : Int))) = [])))) = true := by
      rw [decide_eq_true_iff]
      congr 1
      rw [decide_eq_decide]
      rcases fv with ⟨h1, h2⟩ | ⟨x, D, k', h1, h2, h3⟩
      · have h1 : (List.range L.length).filter (fun i => decide (d < fsF (psL L) mn i)) = [] := h1
        rw [h1, h2]
        exact ⟨fun _ => rfl, fun _ => rfl⟩
      · rw [h1]
        constructor
        · intro z; cases z
        · intro z
          exfalso
          have hm : k' ∈ (List.range L.length).filter (fun i => decide (d < fsF (psL L) mn i)) := List.mem_filter.mpr ⟨List.mem_range.mpr h2.1, decide_eq_true h2.2.1⟩
          rw [List.map_eq_nil_iff] at z
          rw [z] at hm
          cases hm
    rw [key]
    walk_at "rd"
    exact ⟨v, fv.mono s15, s14.trans s15, rfl⟩
  rintro σ H14 ⟨v, fv, s14, rfl⟩
  refine ⟨fun σ H => ∃ v v11 v13 v14 v15 v16, Same H13 H ∧ σ = [some (.ref sc), some (.ref a), some (.ref Tl), none, some (.ref Ch), some (.int d), some (.int mn), none, some (.ref Fs), some (.ref Pr), some (.ref Ft), v11, some v, v13, v14, v15, v16, none, none, none, none, none, none, none, none], ?_, ?_⟩
  · rcases fv with ⟨h1, rfl⟩ | ⟨x, D0, k', rfl, hk, cp⟩
    · walk_at "rd"
      refine rd_notN0 ?_
      walk_at "rd"
      refine rd_iteNF rfl ?_
      walk_at "rd"
      exact ⟨_, _, _, _, _, _, s14, rfl⟩
    walk_at "rd"
    refine rd_notN0 ?_
    walk_at "rd"
    refine rd_iteNT (fun z => nomatch z) ?_
    walk_at "rd"
    have eFt14 := s14 _ _ eFt
    have dy14 := dy.mono s14
    have ev14 := s14 _ _ ev13
    have eFs14 := s14 _ _ eFs13
    have ePr14 := s14 _ _ ePr13
    have ch14 := ch13.mono s14
    generalize hfi' : (List.range L.length).filter (fun i => decide (d < fsF (psL L) mn i)) = fi at *
    have fin : ∀ x ∈ fi, x < L.length ∧ d < fsF (psL L) mn x := by
      intro x hx
      rw [← hfi'] at hx
      obtain ⟨h1, h2⟩ := List.mem_filter.mp hx
      exact ⟨List.mem_range.mp h1, of_decide_eq_true h2⟩
    have fall : ∀ x, x < L.length → d < fsF (psL L) mn x → x ∈ fi := by
      intro x h1 h2
      rw [← hfi']
      exact List.mem_filter.mpr ⟨List.mem_range.mpr h1, decide_eq_true h2⟩
    have yl : ys.length = fi.length := by rw [dy.length, List.length_map]
    have fne : 0 < fi.length := List.length_pos_of_mem (fall k' hk.1 hk.2.1)
    refine rd_minP (ks := fi.map fun i => (wkF (psL L) d i, (i : Int))) (SqL.of eFt14) (by omega) (by rw [List.length_map]; exact yl.symm) (fun i x kk hx hk => ?_) fun i t kq hx hkq et hmin => ?_
    · obtain ⟨dt, h1, h2⟩ := dy14.getV hx
      rw [List.getElem?_map] at h1 hk
      cases q : fi[i]? with
      | none => rw [q] at hk; cases hk
      | some z =>
        rw [q] at h1 hk
        cases h1
        cases hk
        exact h2.dt.pair_inv
    obtain ⟨K0, hK0, rfl⟩ : ∃ z : Nat, z ∈ fi ∧ kq = (wkF (psL L) d z, (z : Int)) := by
      rw [List.getElem?_map] at hkq
      cases q : fi[i]? with
      | none => rw [q] at hkq; cases hkq
      | some z => rw [q] at hkq; exact ⟨z, List.mem_of_getElem? q, (Option.some.inj hkq).symm⟩
    have hKm := fin K0 hK0
    have hCK : CheapK (wkF (psL L) d) (fsF (psL L) mn) d L.length K0 := by
      refine ⟨hKm.1, hKm.2, fun j hj hjF z => ?_⟩
      have := ltPr_iff.mp (hmin (wkF (psL L) d j, (j : Int)) (List.mem_map.mpr ⟨j, fall j hj hjF, rfl⟩))
      apply this
      rcases z with z | ⟨z1, z2⟩
      · exact .inl z
      · exact .inr ⟨z1, by show (j : Int) < (K0 : Int); omega⟩
    obtain rfl := cheap_uniq hk hCK
    refine rd_gtup et rfl ?_
    walk_at "rd"
    -- what bars the cheaper ones
    refine rd_lenL ev14 ?_
    rw [lv]
    walk_at "rd"
    refine rd_rgR1 (by omega) (by omega) ?_
    rw [Int.toNat_natCast]
    refine lcR_rng (fun D j H' => Same H14 H' ∧ ∃ zs, H' D = some (.lst zs) ∧ DnAll H' zs ((dN ((List.range j).filter fun l => decide (wkF (psL L) d l < wkF (psL L) d k' ∨ wkF (psL L) d l = wkF (psL L) d k' ∧ l < k')) (fsF (psL L) mn)).map pairD)) (fun D H' _ s e _ => ⟨s, [], e, .nil⟩) ?_ ?_
    · rintro D j H15 hD hj ⟨s15, zs, eD, dz⟩
      have fl := filt_len (fun l => decide (wkF (psL L) d l < wkF (psL L) d k' ∨ wkF (psL L) d l = wkF (psL L) d k' ∧ l < k')) j
      have no : ¬ (wkF (psL L) d j < wkF (psL L) d k' ∨ wkF (psL L) d j = wkF (psL L) d k' ∧ j < k') → Same H14 H15 ∧ ∃ zs, H15 D = some (.lst zs) ∧ DnAll H15 zs ((dN ((List.range (j + 1)).filter fun l => decide (wkF (psL L) d l < wkF (psL L) d k' ∨ wkF (psL L) d l = wkF (psL L) d k' ∧ l < k')) (fsF (psL L) mn)).map pairD) := by
        intro q
        refine ⟨s15, zs, eD, ?_⟩
        rw [filter_succ, if_neg (by rw [decide_eq_true_iff]; exact q), List.append_nil]
        exact dz
      have yes : (wkF (psL L) d j < wkF (psL L) d k' ∨ wkF (psL L) d j = wkF (psL L) d k' ∧ j < k') → fV (fsF (psL L) mn) d j = V.int (fsF (psL L) mn j) ∧ ∀ (w3 : Addr) H16, Same H15 H16 → H16 w3 = some (.tup [.int (j : Int), .int (fsF (psL L) mn j)]) → LcE D (fun H' => Same H14 H' ∧ ∃ zs, H' D = some (.lst zs) ∧ DnAll H' zs ((dN ((List.range (j + 1)).filter fun l => decide (wkF (psL L) d l < wkF (psL L) d k' ∨ wkF (psL L) d l = wkF (psL L) d k' ∧ l < k')) (fsF (psL L) mn)).map pairD)) (.ref w3) H16 := by
        intro q
        have hF : fsF (psL L) mn j ≤ d := ahead_first hk (List.mem_filter.mpr ⟨List.mem_range.mpr hj, decide_eq_true q⟩)
        refine ⟨if_pos hF, fun w3 H16 s16 ew3 => ?_⟩
        refine rd_lcE (s16 _ _ eD) (by rw [dz.length, List.length_map, dN_len]; omega) fun H17 eH17 eD17 => ?_
        refine ⟨by rw [eH17]; exact Same.mut (s15.trans s16) hD, _, eD17, ?_⟩
        rw [filter_succ, if_pos (decide_eq_true q)]
        unfold dN
        rw [List.map_append, List.map_append, eH17]
        refine DnAll.updL (s16 _ _ eD) ((dz.mono s16).append (.cons ?_ .nil))
        exact .pair ew3
      walk_at "rd"
      refine ⟨rfl, ?_⟩
      walk_at "rd"
      rw [Int.zero_add]
      refine rd_ixL (s15 _ _ ePr14) (atI_nat' (hpi j hj)) ?_
      walk_at "rd"
      refine rd_ite (fun c1 => ?_) (fun c1 => ?_)
      · obtain ⟨y1, y2⟩ := yes (.inl c1)
        walk_at "rd"
        refine rd_ixL (s15 _ _ eFs14) (atI_nat' (hfi j hj)) ?_
        walk_at "rd"
        rw [y1]
        refine rd_newT (by simp) fun w3 H16 _ s16 ew3 _ => ?_
        exact y2 w3 H16 s16 ew3
      walk_at "rd"
      refine rd_ixL (s15 _ _ ePr14) (atI_nat' (hpi j hj)) ?_
      walk_at "rd"
      refine rd_ite (fun c2 => ?_) (fun c2 => ?_)
      · walk_at "rd"
        refine rd_ite (fun c3 => ?_) (fun c3 => ?_)
        · obtain ⟨y1, y2⟩ := yes (.inr ⟨c2, by omega⟩)
          walk_at "rd"
          refine rd_ixL (s15 _ _ eFs14) (atI_nat' (hfi j hj)) ?_
          walk_at "rd"
          rw [y1]
          refine rd_newT (by simp) fun w3 H16 _ s16 ew3 _ => ?_
          exact y2 w3 H16 s16 ew3
        · exact no (by rintro (z | z); exact c1 z; exact c3 (by omega))
      · walk_at "rd"
        exact no (by rintro (z | z); exact c1 z; exact c2 z.1)
    rintro Z H15 hZ ⟨s15, zs, eZ, dz⟩
    generalize hal : (List.range L.length).filter (fun l => decide (wkF (psL L) d l < wkF (psL L) d k' ∨ wkF (psL L) d l = wkF (psL L) d k' ∧ l < k')) = al at *
    have hal : aheadL (wkF (psL L) d) L.length k' = al := hal
    have ala : al.Pairwise (· < ·) := by rw [← hal]; exact filter_asc
    have alt : ∀ y ∈ al, y < L.length := by rw [← hal]; exact filter_lt
    have all : al.length ≤ L.length := by rw [← hal]; exact filt_len _ _
    have alf : ∀ l ∈ al, fsF (psL L) mn l ≤ d := fun l hl => ahead_first hk (by rw [hal]; exact hl)
    have and_ : ((dN al (fsF (psL L) mn)).map (·.1)).Nodup := by rw [dN_keys]; exact asc_nodup (natI_asc ala)
    rw [hal] at cp
    obtain ⟨qs, rfl, pr⟩ := pairs_laid (K := K) dz
    walk_at "rd"
    refine ⟨Z, qs, _, rfl, SqL.of eZ, pr, fun A hA => ?_⟩
    rw [dI_merge and_]
    obtain ⟨H16, eH16⟩ : ∃ H16, H16 = upd H15 A (.dK (dI (dN al (fsF (psL L) mn)))) := ⟨_, rfl⟩
    rw [← eH16]
    have s16 : Same H15 H16 := by rw [eH16]; exact Same.new (Same.refl _) hA
    have eA : H16 A = some (.dK (dI (dN al (fsF (psL L) mn)))) := by rw [eH16]; exact upd_same
    have s1416 := s15.trans s16
    have cp16 := cp.mono s1416
    have ch16 := ch14.mono s1416
    obtain ⟨⟨dx, ex⟩, eD0⟩ := id cp16
    clear dz pr eZ hZ hA eH16
    walk_at "rd"
    refine rd_fld ex T.cl_Cheapest T.na_Cheapest_place (che_place _ _) ?_
    walk_at "rd"
    refine rd_iteNF rfl ?_
    walk_at "rd"
    refine rd_fld ex T.cl_Cheapest T.na_Cheapest_against (che_against _ _) ?_
    walk_at "rd"
    refine rd_neDI eD0 eA and_ (.inl rfl) ?_
    walk_at "rd"
    refine rd_iteNF rfl ?_
    walk_at "rd"
    refine ⟨_, _, _, rfl, ex, che_meth _ _ (by decide +kernel) (by decide +kernel), ?_⟩
    walk_at "rd"
    refine ⟨x, Ch, mn, d, rfl, .inl ⟨x, Ch, D0, psL L, L.length, k', mn, d, al, _, rfl, cp16, ala, alt, by omega, ch16, ⟨by omega, by omega⟩, hk.1, ⟨by omega, by omega⟩, ⟨d0, d1⟩, fun H17 b s17 hb => ?_⟩⟩
    have hbt : b = true := hb.mpr ⟨hk.2.1, hal.symm, fun l hl => ⟨rfl, alf l hl⟩⟩
    subst hbt
    walk_at "rd"
    refine rd_truO (s17 _ _ ex) ⟨x, rfl, ?_⟩
    walk_at "rd"
    have hfT : (al = [] ∨ al ≠ []) := by
      cases al with
      | nil => exact .inl rfl
      | cons y ys => exact .inr (fun z => by cases z)
    have eA17 := s17 _ _ eA
    have ex17 := s17 _ _ ex
    have ch17 := ch16.mono s17
    have cp17 := cp16.mono s17
    have s1417 := s1416.trans s17
    have ev17 := s1417 _ _ ev14
    have eFs17 := s1417 _ _ eFs14
    have s1317 := s14.trans s1417
    clear ev14 dy14 eFs14 ePr14 ch14 cp16 ch16 eA ex eD0 cp
    refine ⟨fun σ H => Same H17 H ∧ σ = [some (.ref sc), some (.ref a), some (.ref Tl), none, some (.ref Ch), some (.int d), some (.int mn), none, some (.ref Fs), some (.ref Pr), some (.ref Ft), some (.int (k' : Nat)), some (.ref x), some (.int (wkF (psL L) d k')), some (.ref A), none, none, none, none, none, none, none, none, none, none], ?_, ?_⟩
    · walk_at "rd"
      refine rd_lenL ev17 ?_
      rw [lv]
      walk_at "rd"
      refine rd_make fun y dy H18 s18 hy e18 => ?_
      refine ⟨y, dy, A, H17, _, _, rfl, s18, hy, e18, s18 _ _ eA17, fun H19 D1 s19 cp1 => ⟨rfl, ?_⟩⟩
      obtain ⟨⟨dz, ez⟩, _⟩ := id cp1
      refine ⟨_, _, _, rfl, ez, che_meth _ _ (by decide +kernel) (by decide +kernel), ?_⟩
      walk_at "rd"
      refine ⟨y, Ch, mn, d, rfl, .inr ⟨y, Ch, D1, psL L, L.length, _, mn, d, _, rfl, cp1, and_, by rw [dN_len]; omega, ch17.mono s19, ⟨by omega, by omega⟩, ⟨by omega, by omega⟩, ⟨d0, d1⟩, .inr (.inl (Int.le_refl _)), fun H20 s20 => ?_⟩⟩
      walk_at "rd"
      have s1720 := s19.trans s20
      refine rd_dnew fun U H21 hU s21 eU _ => ?_
      refine rd_neDI (s21 _ _ (s1720 _ _ eA17)) eU and_ ?_ ?_
      · cases al with
        | nil => exact .inl rfl
        | cons y ys => exact .inr (by rw [dN_len]; simp)
      walk_at "rd"
      have s1721 := s1720.trans s21
      refine rd_iteN (fun c => ?_) (fun c => ?_)
      rotate_left
      · walk_at "rd"
        exact ⟨s1721, rfl⟩
      walk_at "rd"
      refine rd_dnew fun U2 H22 hU2 s22 eU2 _ => ?_
      walk_at "rd"
      refine rd_make fun y2 dy2 H23 s23 hy2 e23 => ?_
      refine ⟨y2, dy2, U2, H22, _, _, rfl, s23, hy2, e23, s23 _ _ eU2, fun H24 D2 s24 cp2 => ⟨rfl, ?_⟩⟩
      obtain ⟨⟨dz2, ez2⟩, _⟩ := id cp2
      refine ⟨_, _, _, rfl, ez2, che_meth _ _ (by decide +kernel) (by decide +kernel), ?_⟩
      walk_at "rd"
      have s1724 := (s1721.trans s22).trans s24
      refine ⟨y2, Ch, mn, d, rfl, .inr ⟨y2, Ch, D2, psL L, L.length, _, mn, d, _, rfl, cp2, List.nodup_nil, by decide, ch17.mono s1724, ⟨by omega, by omega⟩, ⟨by omega, by omega⟩, ⟨d0, d1⟩, .inr (.inr ⟨k', rfl, hk.1, .inr ?_⟩), fun H25 s25 => ?_⟩⟩
      · rw [hal]
        intro z
        refine c ?_
        have z : 0 = al.length := z
        rw [List.eq_nil_of_length_eq_zero z.symm]
        rfl
      walk_at "rd"
      exact ⟨s1724.trans s25, rfl⟩
    rintro σ H18 ⟨s18, rfl⟩
    -- one more against it
    have hkal : k' ∉ al := by
      intro z
      have := alf k' z
      have := hk.2.1
      omega
    have hnew : ∀ q ∈ dN al (fsF (psL L) mn), q.1 ≠ (k' : Int) := by
      intro q hq e
      obtain ⟨z, hz, rfl⟩ := List.mem_map.mp hq
      have e : (z : Int) = (k' : Int) := e
      exact hkal (by rw [show k' = z by omega]; exact hz)
    have nd2 : ((dN al (fsF (psL L) mn) ++ [((k' : Int), (1 : Int))]).map (·.1)).Nodup := by
      rw [List.map_append, List.nodup_append]
      refine ⟨and_, by simp, ?_⟩
      intro q hq b hb
      obtain ⟨z, hz, rfl⟩ := List.mem_map.mp hq
      have hb : b = (k' : Int) := by simpa using hb
      rw [hb]
      exact hnew z hz
    walk_at "rd"
    refine rd_dictD (s18 _ _ eA17) fun Mo H19 hMo s19 eMo _ => ?_
    walk_at "rd"
    refine rd_dput eMo (by rw [dN_len]; omega) fun H20 eH20 eM20 => ?_
    rw [dI_putNew hnew] at eH20 eM20
    have s1820 : Same H18 H20 := by rw [eH20]; exact Same.mut s19 hMo
    have s1720 := s18.trans s1820
    clear eH20 eMo s19 hMo
    walk_at "rd"
    refine rd_make fun y dy H21 s21 hy e21 => ?_
    refine ⟨y, dy, Mo, H20, _, _, rfl, s21, hy, e21, s21 _ _ eM20, fun H22 D1 s22 cp1 => ⟨rfl, ?_⟩⟩
    obtain ⟨⟨dz, ez⟩, _⟩ := id cp1
    refine ⟨_, _, _, rfl, ez, che_meth _ _ (by decide +kernel) (by decide +kernel), ?_⟩
    walk_at "rd"
    have s1722 := s1720.trans s22
    refine ⟨y, Ch, mn, d, rfl, .inr ⟨y, Ch, D1, psL L, L.length, _, mn, d, _, rfl, cp1, nd2, by rw [List.length_append, dN_len]; simp; omega, ch17.mono s1722, ⟨by omega, by omega⟩, ⟨by omega, by omega⟩, ⟨d0, d1⟩, .inr (.inr ⟨k', rfl, hk.1, .inr ?_⟩), fun H23 s23 => ?_⟩⟩
    · rw [hal, List.length_append, dN_len]
      simp
    walk_at "rd"
    have s1723 := s1722.trans s23
    have ch23 := ch17.mono s1723
    obtain ⟨cs23, ec23, lc23, kc23⟩ := id ch23
    refine rd_tupOfL ec23 fun tt H24 _ s24 ett _ => ?_
    walk_at "rd"
    have ct24 : ChT C_Rule H24 tt (psL L) L.length := by
      refine ⟨cs23, ett, lc23, fun i hi => ?_⟩
      obtain ⟨r, q1, q2⟩ := kc23 i hi
      exact ⟨r, q1, q2.mono s24⟩
    refine ⟨tt, psL L, L.length, mn, d, rfl, ct24, ⟨by omega, by omega⟩, ⟨by omega, by omega⟩, ⟨d0, d1⟩, fun H25 s25 => ⟨fun hn => ?_, fun x2 D2 k2 hk2 cp2 => ?_⟩⟩
    · exfalso
      have hm : k' ∈ fitsL (fsF (psL L) mn) d L.length := List.mem_filter.mpr ⟨List.mem_range.mpr hk.1, decide_eq_true hk.2.1⟩
      rw [hn] at hm
      cases hm
    obtain rfl := cheap_uniq hk2 hk
    have s1725 := (s1723.trans s24).trans s25
    have cp25 := cp17.mono s1725
    obtain ⟨⟨dxx, exx⟩, _⟩ := id cp25
    rw [hal] at cp2
    obtain ⟨⟨dx2, ex2⟩, _⟩ := id cp2
    walk_at "rd"
    refine rd_neO ex2 exx ?_
    refine ⟨x2, x, D2, D0, (k2 : Nat), _, rfl, cp2, cp25, and_, fun H26 s26 => ⟨true, rfl, ?_⟩⟩
    walk_at "rd"
    have s1726 := s1725.trans s26
    refine rd_lenL (s1726 _ _ ev17) ?_
    rw [lv]
    walk_at "rd"
    refine rd_rgR1 (by omega) (by omega) ?_
    rw [Int.toNat_natCast]
    refine lcR_rng (fun D j H' => Same H26 H' ∧ ∃ bs : List Bool, H' D = some (.lst (bs.map V.bl)) ∧ bs.length ≤ j ∧ ∀ b ∈ bs, b = false) (fun D H' _ s e _ => ⟨s, [], e, Nat.le_refl _, fun b hb => by cases hb⟩) ?_ ?_
    · rintro D j H27 hD hj ⟨s27, bs, eD, lb, hb⟩
      have s1727 := s1726.trans s27
      walk_at "rd"
      refine ⟨rfl, ?_⟩
      walk_at "rd"
      rw [Int.zero_add]
      refine rd_ixL (s1727 _ _ eFs17) (atI_nat' (hfi j hj)) ?_
      walk_at "rd"
      refine rd_notN0 ?_
      walk_at "rd"
      refine rd_iteN (fun c => ?_) (fun c => ?_)
      rotate_left
      · exact ⟨s27, bs, eD, by omega, hb⟩
      have hFj : fsF (psL L) mn j ≤ d := by
        rcases Int.lt_or_le d (fsF (psL L) mn j) with z | z
        · exact absurd (fV_none.mpr z) c
        · exact z
      walk_at "rd"
      refine rd_dnew fun U2 H28 hU2 s28 eU2 _ => ?_
      walk_at "rd"
      refine rd_make fun y2 dy2 H29 s29 hy2 e29 => ?_
      refine ⟨y2, dy2, U2, H28, _, _, rfl, s29, hy2, e29, s29 _ _ eU2, fun H30 D3 s30 cp3 => ⟨rfl, ?_⟩⟩
      obtain ⟨⟨dz3, ez3⟩, _⟩ := id cp3
      refine ⟨_, _, _, rfl, ez3, che_meth _ _ (by decide +kernel) (by decide +kernel), ?_⟩
      walk_at "rd"
      have s2730 := s28.trans s30
      refine ⟨y2, Ch, mn, d, rfl, .inr ⟨y2, Ch, D3, psL L, L.length, _, mn, d, _, rfl, cp3, List.nodup_nil, by decide, ch17.mono (s1727.trans s2730), ⟨by omega, by omega⟩, ⟨by omega, by omega⟩, ⟨d0, d1⟩, .inr (.inr ⟨j, rfl, hj, .inl hFj⟩), fun H31 s31 => ?_⟩⟩
      refine rd_lcE ((s2730.trans s31) _ _ eD) (by rw [List.length_map]; omega) fun H32 eH32 eD32 => ?_
      refine ⟨by rw [eH32]; exact Same.mut (s27.trans (s2730.trans s31)) hD, bs ++ [false], by rw [eD32, List.map_append]; rfl, by rw [List.length_append]; simp; omega, fun b hb' => ?_⟩
      rcases List.mem_append.mp hb' with z | z
      · exact hb b z
      · simpa using z
    rintro D H27 hD ⟨s27, bs, eD, lb, hb⟩
    walk_at "rd"
    refine ⟨D, bs, rfl, SqL.of eD, ?_⟩
    have hany : bs.any id = false := by
      rw [List.any_eq_false]
      intro b hb'
      rw [hb b hb']
      decide
    rw [hany]
    walk_at "rd"
    exact ⟨_, _, _, _, _, _, s1317.trans (s1726.trans s27), rfl⟩
  -- which are outdone
  rintro σ H14 ⟨v, v11, v13, v14, v15, v16, s14, rfl⟩
  have ev14 := s14 _ _ ev13
  walk_at "rd"
  refine rd_lsR (SqL.of ev14) ?_
  refine lcR_lst (xs := vs) (fun D j H' => Same H14 H' ∧ ∃ Ns : List Int, H' D = some (.lst (Ns.map V.int)) ∧ Ns.length = j ∧ ∀ (i : Nat) x, Ns[i]? = some x → TopR (psL L i) d x) (fun D j H' _ ⟨s, _⟩ => SqL.of (s _ _ ev14)) (fun D H' _ s e _ => ⟨s, [], e, rfl, fun i x hx => by simp at hx⟩) ?_ ?_
  · rintro D j v H15 hD hv ⟨s15, Ns, eD, lN, kN⟩
    have hj : j < L.length := by rw [← lv]; exact (List.getElem?_eq_some_iff.mp hv).1
    obtain ⟨t, q1, q2, q3⟩ := kv13 j hj H15 (s14.trans s15)
    rw [hv] at q1
    cases q1
    have gd := q3.good
    walk_at "rd"
    refine ⟨rfl, ?_⟩
    walk_at "rd"
    refine ⟨t, _, _, d, rfl, q2, q3, d0, by omega, fun H16 F s16 hF pl => ?_⟩
    obtain ⟨ts, eF, hl, hkF⟩ := pl
    refine rd_lsR (SqL.of eF) ?_
    refine lcR_lst (xs := ts) (fun D2 i H' => Same H16 H' ∧ H' D2 = some (.lst ((numsL (atp (L[j]).1 (L[j]).2) i).map V.int))) (fun D2 i H' _ ⟨s, _⟩ => SqL.of (s _ _ eF)) (fun D2 H' _ s e _ => ⟨s, e⟩) ?_ ?_
    · rintro D2 i x H17 hD2 hx ⟨s17, eD2⟩
      have hi : i < (d + 1).toNat := by rw [← hl]; exact (List.getElem?_eq_some_iff.mp hx).1
      obtain ⟨t2, r, g, rfl, et, ⟨ys2, er, dr⟩, eg, _, _⟩ := (hkF i x hx).mono s17
      refine rd_gtup et rfl ?_
      walk_at "rd"
      refine ⟨rfl, ?_⟩
      walk_at "rd"
      refine rd_lenL er ?_
      rw [dr.length, List.length_map, layers_len gd (by omega)]
      refine rd_lcE eD2 (by unfold numsL; simp; omega) fun H18 eH18 eD18 => ?_
      refine ⟨by rw [eH18]; exact Same.mut s17 hD2, ?_⟩
      rw [eD18]
      unfold numsL
      rw [List.range_succ, List.map_append, List.map_append]
      rfl
    rintro D2 H17 hD2 ⟨s17, eD2⟩
    rw [hl] at eD2
    walk_at "rd"
    refine rd_maxL (m := 0) (SqL.of eD2) (by unfold numsL; simp; omega) fun N hN hle => ?_
    have hT : TopR (atp (L[j]).1 (L[j]).2) d N := by
      have e : d = ((d.toNat : Nat) : Int) := by omega
      rw [e]
      have ed1 : (d + 1).toNat = d.toNat + 1 := by omega
      rw [ed1] at hN hle
      refine top_max gd ?_ fun i hi => hle _ (List.mem_map.mpr ⟨i, List.mem_range.mpr (by omega), rfl⟩)
      obtain ⟨i, hi, e2⟩ := List.mem_map.mp hN
      exact ⟨i, by have := List.mem_range.mp hi; omega, e2⟩
    refine rd_lcE ((s16.trans s17) _ _ eD) (by rw [List.length_map]; omega) fun H18 eH18 eD18 => ?_
    refine ⟨by rw [eH18]; exact Same.mut (s15.trans (s16.trans s17)) hD, Ns ++ [N], by rw [eD18, List.map_append]; rfl, by rw [List.length_append, lN]; rfl, fun i x hx => ?_⟩
    rcases Nat.lt_or_ge i j with z | z
    · rw [List.getElem?_append_left (by omega)] at hx
      exact kN i x hx
    · have : i < j + 1 := by have := (List.getElem?_eq_some_iff.mp hx).1; rw [List.length_append, lN] at this; simpa using this
      have hij : i = j := by omega
      subst hij
      rw [List.getElem?_append_right (by omega), lN] at hx
      rw [show N = x by simpa using hx] at hT
      rw [hps i hj]
      exact hT
  rintro Tp H15 hTp ⟨s15, Ns, eTp, lN, kN⟩
  rw [lv] at lN
  walk_at "rd"
  refine rd_dnew fun U H16 hU s16 eU _ => ?_
  walk_at "rd"
  refine rd_newT (by simp) fun w5 H17 _ s17 ew5 _ => ?_
  refine rd_gtup ew5 rfl ?_
  walk_at "rd"
  have eU17 := s17 _ _ eU
  have s1517 := s16.trans s17
  have s1417' := s15.trans s1517
  have s1317 := s14.trans s1417'
  have hU14 : H14 U = none := by
    cases q : H14 U with
    | none => rfl
    | some o => have z := s15 _ _ q; rw [hU] at z; cases z
  have eTp17 := s1517 _ _ eTp
  have ePr17 := s1317 _ _ ePr13
  have ev17 := s1317 _ _ ev13
  have ch17 := ch13.mono s1317
  obtain ⟨N, hN⟩ : ∃ N : Nat → Int, ∀ i, i < L.length → Ns[i]? = some (N i) := ⟨fun i => Ns.getD i 0, fun i hi => by show Ns[i]? = some (Ns.getD i 0); rw [List.getD_eq_getElem?_getD, List.getElem?_eq_getElem (by omega)]; rfl⟩
  have hTN : ∀ i, i < L.length → TopR (psL L i) d (N i) := fun i hi => kN i _ (hN i hi)
  clear ew5 s15 s16 s17 kN eTp eU hTp
  refine ⟨fun σ H => ∃ v v11 v13 v14 v15 v16 v21, Same H14 H ∧ H U = some (.dK (dI (outD (wkF (psL L) d) N L.length L.length))) ∧ σ = [some (.ref sc), some (.ref a), some (.ref Tl), none, some (.ref Ch), some (.int d), some (.int mn), none, some (.ref Fs), some (.ref Pr), some (.ref Ft), v11, some v, v13, v14, v15, v16, some (.ref Tp), some (.ref U), none, none, v21, none, none, none], ?_, ?_⟩
  · walk_at "rd"
    refine rd_lenL ev17 ?_
    rw [lv]
    walk_at "rd"
    refine rd_rgR1 (by omega) (by omega) ?_
    rw [Int.toNat_natCast]
    refine forR_rng (fun i σ H' => ∃ v11 v15 v21, Same H14 H' ∧ H' Tp = some (.lst (Ns.map V.int)) ∧ H' U = some (.dK (dI (outD (wkF (psL L) d) N L.length i))) ∧ σ = [some (.ref sc), some (.ref a), some (.ref Tl), none, some (.ref Ch), some (.int d), some (.int mn), none, some (.ref Fs), some (.ref Pr), some (.ref Ft), v11, some v, v13, v14, v15, v16, some (.ref Tp), some (.ref U), none, none, v21, none, none, none]) ⟨v11, v15, none, s1417', eTp17, eU17, rfl⟩ ?_ ?_
    · rintro i σ H18 hi ⟨w11, w15, w21, s18, eTp18, eU18, rfl⟩
      have s1318 := s14.trans s18
      have ePr18 := s1318 _ _ ePr13
      have ev18 := s1318 _ _ ev13
      have hti : ∀ j, j < L.length → (Ns.map V.int)[j]? = some (.int (N j)) := fun j hj => by rw [List.getElem?_map, hN j hj]; rfl
      walk_at "rd"
      rw [Int.zero_add]
      refine rd_lenL ev18 ?_
      rw [lv]
      walk_at "rd"
      refine rd_rgR1 (by omega) (by omega) ?_
      rw [Int.toNat_natCast]
      refine lcR_rng (fun D j H' => Same H18 H' ∧ H' D = some (.lst ((natI (betL (wkF (psL L) d) N i j)).map V.int))) (fun D H' _ s e _ => ⟨s, e⟩) ?_ ?_
      · rintro D j H19 hD hj ⟨s19, eD⟩
        have bl := filt_len (fun l => decide (wkF (psL L) d l < wkF (psL L) d i ∧ N l ≤ N i)) j
        have no : ¬ (wkF (psL L) d j < wkF (psL L) d i ∧ N j ≤ N i) → Same H18 H19 ∧ H19 D = some (.lst ((natI (betL (wkF (psL L) d) N i (j + 1))).map V.int)) := by
          intro q
          refine ⟨s19, ?_⟩
          rw [betL_succ, if_neg q, List.append_nil]
          exact eD
        walk_at "rd"
        refine ⟨rfl, ?_⟩
        walk_at "rd"
        rw [Int.zero_add]
        refine rd_ixL (s19 _ _ ePr18) (atI_nat' (hpi j hj)) ?_
        walk_at "rd"
        refine rd_ixL (s19 _ _ ePr18) (atI_nat' (hpi i hi)) ?_
        walk_at "rd"
        refine rd_ite (fun c1 => ?_) (fun c1 => ?_)
        · walk_at "rd"
          refine rd_ixL (s19 _ _ eTp18) (atI_nat' (hti j hj)) ?_
          walk_at "rd"
          refine rd_ixL (s19 _ _ eTp18) (atI_nat' (hti i hi)) ?_
          walk_at "rd"
          refine rd_ite (fun c2 => ?_) (fun c2 => ?_)
          · walk_at "rd"
            refine rd_lcE eD (by rw [List.length_map, natI_len]; unfold betL; omega) fun H20 eH20 eD20 => ?_
            refine ⟨by rw [eH20]; exact Same.mut s19 hD, ?_⟩
            rw [eD20, betL_succ, if_pos ⟨c1, c2⟩]
            unfold natI
            rw [List.map_append, List.map_append]
            rfl
          · exact no fun z => c2 z.2
        · walk_at "rd"
          exact no fun z => c1 z.1
      · rintro D H19 hD ⟨s19, eD⟩
        walk_at "rd"
        refine rd_newL (by simp) fun u H20 _ s20 eu _ => ?_
        refine rd_neD (.lst (s20 _ _ eD) (DtAll.intsD _)) (.lst eu .nil) (shaped_ints _) (by decide) ?_
        rw [eqv_nil]
        walk_at "rd"
        have s1820 := s19.trans s20
        have eU20 := s1820 _ _ eU18
        have eTp20 := s1820 _ _ eTp18
        cases hb : betL (wkF (psL L) d) N i L.length with
        | nil =>
          refine rd_iteNF rfl ?_
          walk_at "rd"
          refine ⟨_, _, _, s18.trans s1820, eTp20, ?_, rfl⟩
          rw [outD_succ, hb]
          show H20 U = some (.dK (dI (outD (wkF (psL L) d) N L.length i ++ [])))
          rw [List.append_nil]
          exact eU20
        | cons y0 yr =>
          rw [hb] at eD
          refine rd_iteNT (by simp [natI, intsD]) ?_
          walk_at "rd"
          refine rd_ixL (s20 _ _ eD) atI_0 ?_
          walk_at "rd"
          refine rd_dput eU20 (by have := outD_len (wkF (psL L) d) N L.length i; omega) fun H21 eH21 eU21 => ?_
          rw [dI_putNew (outD_no _ _ _ _)] at eH21 eU21
          refine ⟨_, _, _, by rw [eH21]; exact Same.mut (s18.trans s1820) hU14, ?_, ?_, rfl⟩
          · rw [eH21, upd_ne (fun z => by rw [z, eU20] at eTp20; cases eTp20)]
            exact eTp20
          rw [eU21, outD_succ, hb]
          rfl
    · rintro σ H18 ⟨w11, w15, w21, s18, eTp18, eU18, rfl⟩
      walk_at "rd"
      exact ⟨_, _, _, _, _, _, _, s18, eU18, rfl⟩
  rintro σ H18 ⟨w, w11, w13, w14, w15, w16, w21, s18, eU18, rfl⟩
  have s1318 := s14.trans s18
  have ch18 := ch13.mono s1318
  refine ⟨fun σ H => ∃ v v11 v13 v14 v15 v16 v19 v20 v21, Same H13 H ∧ σ = [some (.ref sc), some (.ref a), some (.ref Tl), none, some (.ref Ch), some (.int d), some (.int mn), none, some (.ref Fs), some (.ref Pr), some (.ref Ft), v11, some v, v13, v14, v15, v16, some (.ref Tp), some (.ref U), v19, v20, v21, none, none, none], ?_, ?_⟩
  · have oa := outD_asc (wkF (psL L) d) N L.length L.length
    clear ev17 ePr17 ch17 eTp17 eU17
    walk_at "rd"
    refine ⟨Ch, psL L, L.length, d, N, rfl, ch18, ⟨by omega, by omega⟩, ⟨d0, d1⟩, hTN, fun H19 Gn s19 eGn => ?_⟩
    have eGn : H19 Gn = some (.dK (dI (outD (wkF (psL L) d) N L.length L.length))) := eGn
    walk_at "rd"
    refine rd_neDI eGn (s19 _ _ eU18) (asc_nodup oa) (.inl rfl) ?_
    walk_at "rd"
    refine rd_iteNF rfl ?_
    walk_at "rd"
    refine ⟨Ch, psL L, L.length, d, N, rfl, ch18.mono s19, ⟨by omega, by omega⟩, ⟨d0, d1⟩, hTN, fun H20 G2 s20 eG2 => ?_⟩
    have eG2 : H20 G2 = some (.dK (dI (outD (wkF (psL L) d) N L.length L.length))) := eG2
    walk_at "rd"
    refine rd_listD eG2 fun w1 H21 _ s21 ew1 => ?_
    walk_at "rd"
    refine rd_listD (((s19.trans s20).trans s21) _ _ eU18) fun w2 H22 _ s22 ew2 => ?_
    refine rd_neD (dt_ints (s22 _ _ ew1)) (dt_ints ew2) (shaped_ints _) (shaped_ints _) ?_
    rw [eqv_self (shaped_ints _)]
    walk_at "rd"
    exact ⟨_, _, _, _, _, _, _, _, _, s1318.trans (((s19.trans s20).trans s21).trans s22), rfl⟩
  clear eU18 ch18 s18 s1318
  rintro σ H22 ⟨w, w11, w13, w14, w15, w16, w19, w20, w21, s1322, rfl⟩
  have ch22 := ch13.mono s1322
  have gd1 : ∀ i, i < L.length → Good (psL L i) := fun i hi => gds i hi
  have six : ∀ i, i < L.length → ∀ k, (psL L i k).1 ≤ 6 := by
    intro i hi k
    obtain ⟨t, _, _, q3⟩ := kv13 i hi H13 (Same.refl _)
    rw [hps i hi]
    exact atp_six q3.ne q3.okf q3.okq k
  have far : ∀ i, i < L.length → (10 : Int) ^ 18 < fsF (psL L) 400 i := fun i hi => firstWith_six (gd1 i hi) (six i hi)
  have one : ∀ i, i < L.length → fsF (psL L) 0 i = 1 := fun i hi => firstWith_one (gd1 i hi)
  walk_at "rd"
  refine ⟨Ch, psL L, L.length, 400, (10 : Int) ^ 18, rfl, ch22, ⟨by omega, by omega⟩, ⟨by decide, by decide⟩, ⟨by decide, by decide⟩, fun H23 s23 => ⟨fun hn => absurd hn (fits_all (by omega) far), fun x D k2 hk2 cp2 => ?_⟩⟩
  rw [ahead_none hk2 far] at cp2
  have ch23 := ch22.mono s23
  obtain ⟨⟨dx, ex⟩, eD⟩ := id cp2
  walk_at "rd"
  refine ⟨fun σ H => ∃ v v11 v13 v14 v15 v16 v19 v20 v21 v22, Same H23 H ∧ σ = [some (.ref sc), some (.ref a), some (.ref Tl), none, some (.ref Ch), some (.int d), some (.int mn), none, some (.ref Fs), some (.ref Pr), some (.ref Ft), v11, some v, v13, v14, v15, v16, some (.ref Tp), some (.ref U), v19, v20, v21, v22, none, none], ?_, ?_⟩
  · walk_at "rd"
    refine rd_isN0 ?_
    walk_at "rd"
    refine rd_iteF (fun z => nomatch z) ?_
    walk_at "rd"
    refine rd_fld ex T.cl_Cheapest T.na_Cheapest_against (che_against _ _) ?_
    walk_at "rd"
    refine rd_dnew fun w2 H24 _ s24 ew2 _ => ?_
    walk_at "rd"
    refine rd_neDI (s24 _ _ eD) ew2 List.nodup_nil (.inl rfl) ?_
    walk_at "rd"
    refine rd_iteNF rfl ?_
    have ch24 := ch23.mono s24
    walk_at "rd"
    refine ⟨Ch, psL L, L.length, 0, 1, rfl, ch24, ⟨by omega, by omega⟩, ⟨by decide, by decide⟩, ⟨by decide, by decide⟩, fun H25 s25 => ⟨fun _ => ?_, fun x2 D2 k3 hk3 cp3 => ?_⟩⟩
    rotate_left
    · exfalso
      have a1 := hk3.2.1
      have a2 := one k3 hk3.1
      omega
    walk_at "rd"
    refine rd_notN0 ?_
    walk_at "rd"
    refine rd_iteNF rfl ?_
    walk_at "rd"
    have ch25 := ch24.mono s25
    refine ⟨Ch, psL L, L.length, 0, 0, rfl, ch25, ⟨by omega, by omega⟩, ⟨by decide, by decide⟩, ⟨by decide, by decide⟩, fun H26 s26 => ⟨fun hn => absurd hn (fits_all (by omega) fun i hi => by rw [one i hi]; decide), fun x4 D4 k4 hk4 cp4 => ?_⟩⟩
    have k40 := cheap_first hk4 (fun i hi => by rw [one i hi]; decide) (fun i hi => work_zero _)
    subst k40
    obtain ⟨⟨dx4, ex4⟩, eD4⟩ := id cp4
    walk_at "rd"
    refine rd_fld ex4 T.cl_Cheapest T.na_Cheapest_place (che_place _ _) ?_
    walk_at "rd"
    refine rd_iteNF rfl ?_
    walk_at "rd"
    exact ⟨_, _, _, _, _, _, _, _, _, _, (s24.trans s25).trans s26, rfl⟩
  clear ch22 far one six cp2 eD ex
  rintro σ H24 ⟨w, w11, w13, w14, w15, w16, w19, w20, w21, w22, s2324, rfl⟩
  have ch24 := ch23.mono s2324
  obtain ⟨cs, eC, lC, kC⟩ := id ch24
  obtain ⟨r0, h0, rp0⟩ := kC 0 (by omega)
  obtain ⟨_, _, ⟨dr, t1, t2, er, _, _⟩, _⟩ := id rp0
  walk_at "rd"
  refine rd_newL (by simp) fun l1 H25 _ s25 el1 _ => ?_
  walk_at "rd"
  refine rd_newT (by simp) fun u1 H26 _ s26 eu1 _ => ?_
  walk_at "rd"
  refine rd_ixL ((s25.trans s26) _ _ eC) (atI_nat' h0) ?_
  walk_at "rd"
  refine rd_newL (by simp) fun l2 H27 _ s27 el2 _ => ?_
  walk_at "rd"
  refine rd_newT (by simp) fun u2 H28 _ s28 eu2 _ => ?_
  walk_at "rd"
  refine rd_newT (by simp) fun u3 H29 _ s29 eu3 _ => ?_
  walk_at "rd"
  have s2429 := (((s25.trans s26).trans s27).trans s28).trans s29
  refine ⟨Ch, 41, cs, rfl, rfl, s2429 _ _ eC, by decide, by decide, Nat.le_trans (Nat.mul_le_mul_right _ (show cs.length ≤ 40 by omega)) (by decide), fun l4 hl4 => ?_⟩
  have s30 := Same.new (Same.refl H29) (o := HO.lst (List.replicate (41 : Int).toNat cs).flatten) hl4
  have el4 : upd H29 l4 (.lst (List.replicate (41 : Int).toNat cs).flatten) l4 = some (.lst (List.replicate (41 : Int).toNat cs).flatten) := upd_same
  revert s30 el4
  generalize upd H29 l4 (.lst (List.replicate (41 : Int).toNat cs).flatten) = H30
  intro s30 el4
  walk_at "rd"
  refine rd_newT (by simp) fun u4 H31 _ s31 eu4 _ => ?_
  walk_at "rd"
  refine rd_newT (by simp) fun u5 H32 _ s32 eu5 _ => ?_
  walk_at "rd"
  refine rd_tpR (SqT.of eu5) ?_
  have s3032 := s31.trans s32
  have s2932 := s30.trans s3032
  have s2832 := s29.trans s2932
  have s2732 := s28.trans s2832
  have s2632 := s27.trans s2732
  have s2532 := s26.trans s2632
  have s2432 := s25.trans s2532
  have hw : ∀ x, x ∈ [V.ref u1, V.ref u2, V.ref u3, V.ref u4] → ∃ u v z, x = V.ref u ∧ H32 u = some (.tup [v, z]) ∧ BadC C_Rule H32 v z ∧ (z = .non ∨ z = .int 1) := by
    intro x hx
    simp only [List.mem_cons, List.not_mem_nil, or_false] at hx
    rcases hx with rfl | rfl | rfl | rfl
    · exact ⟨u1, _, _, rfl, s2632 _ _ eu1, .inr (.inl ⟨l1, [], rfl, s2532 _ _ el1, .inl rfl, rfl⟩), .inl rfl⟩
    · exact ⟨u2, _, _, rfl, s2832 _ _ eu2, .inr (.inr ⟨l2, r0, dr, _, 3, rfl, s2732 _ _ el2, s2432 _ _ er, rfl⟩), .inr rfl⟩
    · exact ⟨u3, _, _, rfl, s2932 _ _ eu3, .inl ⟨rfl, rfl⟩, .inl rfl⟩
    · refine ⟨u4, _, _, rfl, s32 _ _ eu4, .inr (.inl ⟨l4, _, rfl, s3032 _ _ el4, .inr ?_, rfl⟩), .inl rfl⟩
      rw [List.length_flatten, List.map_replicate, List.sum_replicate_nat]
      show 40 < 41 * cs.length
      omega
  refine forR_tup (xs := [V.ref u1, V.ref u2, V.ref u3, V.ref u4]) (fun _ σ' H' => Same H32 H' ∧ ∃ v11 v23 v24, σ' = [some (.ref sc), some (.ref a), some (.ref Tl), none, some (.ref Ch), some (.int d), some (.int mn), none, some (.ref Fs), some (.ref Pr), some (.ref Ft), v11, some w, w13, w14, w15, w16, some (.ref Tp), some (.ref U), w19, w20, w21, w22, v23, v24]) (fun _ _ _ ⟨s, _⟩ => SqT.of (s _ _ eu5)) ⟨Same.refl _, _, _, _, rfl⟩ ?_ ?_
  · rintro i x σ H33 hx ⟨s33, v11, v23, v24, rfl⟩
    obtain ⟨u, v, z, rfl, eu, hb, hz⟩ := hw x (List.mem_of_getElem? hx)
    walk_at "rd"
    refine rd_gtup (s33 _ _ eu) rfl ?_
    walk_at "rd"
    refine rd_tryAs ?_
    walk_at "rd"
    refine rd_callSd ?_
    walk_at "rd"
    refine rd_callSd2 ⟨v, .int 5, z, rfl, BadC.mono s33 hb, fun dd H34 s34 ed => ?_⟩
    refine rd_caughtAs T.y_BadChoices.e fun ea hea => ?_
    walk_at "rd"
    refine rd_xf ed rfl ?_
    walk_at "rd"
    refine rd_ne (by rcases hz with rfl | rfl <;> rfl) ?_
    walk_at "rd"
    refine rd_iteNF rfl ?_
    walk_at "rd"
    exact ⟨s33.trans s34, _, _, _, rfl⟩
  · rintro σ H33 ⟨s33, v11, v23, v24, rfl⟩
    walk_at "rd"
    refine rd_try ?_
    walk_at "rd"
    refine rd_callSd ?_
    walk_at "rd"
    refine rd_callSd2 ⟨Ch, psL L, L.length, -1, 5, rfl, ch24.mono (s2432.trans s33), ⟨by omega, by omega⟩, by decide, fun H34 s34 => ?_⟩
    refine rd_caught T.x_BadDay.e fun zz hzz => ?_
    walk_at "rd"
    exact k _
end
end Sl
namespace Sl
open PySem L2 C8 StX
section
variable {K : PySem.W.Frag} {h : Heap} {mg : Str → Option Value} {x qual : Str} {st : Stmt} {f C : Addr} {oc dV kV doc pm cdv ct : Value} {od an : Option Addr} {osl : Array (Option Value)}
theorem dmk (X : K.In h) (G : h.Ns mainGlobals mg) (a : PySem.W.nsIn K mainGlobals x = some (some (.ref f))) (l : K.lookup f = some ⟨oc, od, .func (PySem.W.fnOf x x (fnArgs st) (fnBody st) (fnScope st) .none kV doc pm an cdv ct), osl⟩)
    (c : PySem.W.codeIn K cdv x = true) (k : PySem.W.keepIn K (.ref f) = true) : ∃ f fd, C8.Def K mg x st f fd ∧ fd.defaults = .none :=
  ⟨f, _, ⟨⟨_, _, _, _, _, _, _, _, _, _, rfl, l, c⟩, PySem.W.mg_of X G a, k⟩, rfl⟩
theorem mmk (a : PySem.W.findIn K (.ref C) x = some (some (.ref f))) (i : PySem.W.isFn K (.ref f) = true) (l : K.lookup f = some ⟨oc, od, .func (PySem.W.fnOf x qual (fnArgs st) (fnBody st) (fnScope st) .none kV doc pm an cdv ct), osl⟩)
    (c : PySem.W.codeIn K cdv qual = true) (k : PySem.W.keepIn K (.ref f) = true) (n : PySem.W.fnIn K f = true) : ∃ f fd, C8.Fun K x qual st f fd ∧ fd.defaults = .none ∧ Meth K C x f ∧ PySem.W.fnIn K f = true :=
  ⟨f, _, ⟨_, _, _, _, _, _, _, _, _, _, rfl, l, c⟩, rfl, ⟨a, i, k⟩, n⟩
theorem mkmk (m : PySem.W.makesIn K C = true) (a : PySem.W.findIn K (.ref C) "__init__" = some (some (.ref f))) (i : PySem.W.isFn K (.ref f) = true) (l : K.lookup f = some ⟨oc, od, .func (PySem.W.fnOf "__init__" qual (fnArgs st) (fnBody st) (fnScope st) .none kV doc pm an cdv ct), osl⟩)
    (c : PySem.W.codeIn K cdv qual = true) (k : PySem.W.keepIn K (.ref C) = true) : ∃ f fd, C8.Fun K "__init__" qual st f fd ∧ fd.defaults = .none ∧ Mk K C f :=
  ⟨f, _, ⟨_, _, _, _, _, _, _, _, _, _, rfl, l, c⟩, rfl, ⟨m, a, i, k⟩⟩
theorem kit_up {D : Addr} (h1 : PySem.W.isClsIn K D = true) (h2 : PySem.W.typeIn K (.ref D) = some (.type "type")) (h3 : PySem.W.subIn K (.ref C) (.ref D) = some true) : PySem.W.kitOne K (.ref C) (.ref D) = some true := by
  have e2 : ((PySem.W.clsIn K D).isSome && PySem.W.typeIn K (.ref D) == some (.type "type")) = true := by
    have h1' : (PySem.W.clsIn K D).isSome = true := h1
    rw [h1', h2] <;> rfl
  unfold PySem.W.kitOne
  by_cases c : ((Value.ref C) == (Value.ref D)) = true
  · rw [if_pos c]
  · rw [if_neg c]
    show (if ((PySem.W.clsIn K D).isSome && PySem.W.typeIn K (.ref D) == some (.type "type")) = true then PySem.W.subIn K (.ref C) (.ref D) else none) = some true
    rw [if_pos e2]
    exact h3
theorem conk {z : Str} {t : Tok} (a : PySem.W.findIn K (.ref C) x = some (some (.str z t))) (g : PySem.W.specialIn K (.str z t) "__get__" = some none) (c : PySem.W.copiedNames.contains x = false) : ∃ u, Con K C x (.str z) u := ⟨_, a, ⟨t, rfl⟩, g, c⟩
theorem nak (a : PySem.W.findIn K (.ref C) x = some none) : NoAttr K C x := a
theorem gmk {n : Int} {t : Tok} (X : K.In h) (G : h.Ns mainGlobals mg) (a : PySem.W.nsIn K mainGlobals x = some (some (.int n t))) : ∃ u, mg x = some u ∧ RelV (.int n) u := ⟨_, PySem.W.mg_of X G a, t, rfl⟩
end
theorem dmk_check_number {K : PySem.W.Frag} {h : Heap} {mg : Str → Option Value} {f T : Addr} {oc kV doc pm cdv ct tc : Value} {od an td : Option Addr} {osl tsl : Array (Option Value)} {n : Nat} {t : Tok} (X : K.In h) (G : h.Ns mainGlobals mg)
    (a : PySem.W.nsIn K mainGlobals "check_number" = some (some (.ref f))) (l : K.lookup f = some ⟨oc, od, .func (PySem.W.fnOf "check_number" "check_number" (fnArgs s_check_number) (fnBody s_check_number) (fnScope s_check_number) (.ref T) kV doc pm an cdv ct), osl⟩)
    (c : PySem.W.codeIn K cdv "check_number" = true) (k : PySem.W.keepIn K (.ref f) = true) (lT : K.lookup T = some ⟨tc, td, .seq #[.int 0 t] n, tsl⟩) :
    ∃ f fd, C8.Def K mg "check_number" s_check_number f fd ∧ (∃ ds, Vals [] ds ∧ Binds K fd P_check_number ds) ∧ (∃ ds, Vals [.int 0] ds ∧ Binds K fd P_check_number ds) := by
  have F : FunD K "check_number" "check_number" (fnArgs s_check_number) (fnBody s_check_number) (fnScope s_check_number) [.int 0] [] f (PySem.W.fnOf "check_number" "check_number" (fnArgs s_check_number) (fnBody s_check_number) (fnScope s_check_number) (.ref T) kV doc pm an cdv ct) :=
    ⟨⟨oc, od, .ref T, kV, doc, pm, an, cdv, ct, osl, rfl, l, c, .inr ⟨by simp, T, _, [.int 0 t], n, rfl, lT, rfl, .cons ⟨t, rfl⟩ .nil⟩, .inl rfl⟩, k⟩
  refine ⟨f, _, ⟨⟨_, _, _, _, _, _, _, _, _, _, rfl, l, c⟩, PySem.W.mg_of X G a, k⟩, ?_, ?_⟩
  · exact F.binds1 2 1 (by simp) rfl fun T kV doc pm an cdv ct us its h1 h2 => match us, its, h1, h2 with | [_, _], [_], _, _ => ⟨_, rfl, rfl⟩
  · exact F.binds1 1 0 (by simp) rfl fun T kV doc pm an cdv ct us its h1 h2 => match us, its, h1, h2 with | [_], [_], _, _ => ⟨_, rfl, rfl⟩
end Sl
namespace Sl
open PySem L2 C8 StX
theorem fin {P : Program} {w : World} {K : PySem.W.Frag} {h : Heap} {mg : Str → Option Value} {fa C_Rule C_Evidence C_Good C_Cheapest C_BadDay C_BadChoices : Addr} (T : TX P K mg C_Rule C_Evidence C_Good C_Cheapest C_BadDay C_BadChoices) (X : K.In h) (G : h.Ns mainGlobals mg) (hfa : mg "law" = some (.ref fa)) :
    ∃ fd : FuncData, (∀ (s : Shared) (v : Value), BindsTo s fd ⟨[v], []⟩ [("_law_script", v)]) ∧ ∀ base : Heap, K.In base → base.Ns mainGlobals mg → FnOk P w K mg base C8.CX0 8 fa fd ["_law_script"] (spLaw K) := by
  obtain ⟨f, fd, D, dn⟩ := T.d_law
  have e := hfa.symm.trans D.mgf
  cases e
  refine ⟨fd, fun s v => ?_, fun base _ _ => fn_law T D⟩
  obtain ⟨oc, od, dV, kV, doc, pm, an, cdv, ct, osl, rfl, lk, hcd⟩ := D.fn.ex
  have e : dV = .none := dn
  subst e
  exact .of_eq rfl
end Sl
open PySem PySem.W PyProof.Rows
set_option maxRecDepth 100000 in
set_option maxHeartbeats 0 in
theorem PySem.Challenge.cw_siltstore_k46_whole_cheapest_holds : PySem.Challenge.rw_siltstore_k46_whole_cheapest.Holds := by
  refine headQ ?_
  k_fill
  refine L2.walk_ofK (sp := Sl.spLaw) (CX := C8.CX0) (n := 63) (k := 8) (x := "_law_script") rfl (by decide) rfl ⟨rfl, by decide, by decide⟩ (fun w h Y => PySem.W.kIn_of Y) ?F (fun _ _ a ns hl _ hS => ⟨a, ns, rfl, hS, hl, fun _ => rfl⟩) fun _ _ _ _ z => z
  case F =>
    intro w mg fa h KX G hmg
    refine' Sl.fin ?T KX G hmg
    case T =>
      refine' Sl.TX.mk (PySem.W.mg_of KX G ?q1) (PySem.W.mg_of KX G ?q2) (PySem.W.mg_of KX G ?q3) (PySem.W.mg_of KX G ?q4) (PySem.W.mg_of KX G ?q5) (PySem.W.mg_of KX G ?q6) (Sl.dmk KX G ?q7 ?q8 ?q9 ?q10) (Sl.dmk KX G ?q11 ?q12 ?q13 ?q14) (Sl.dmk KX G ?q15 ?q16 ?q17 ?q18) (Sl.mkmk ?q19 ?q20 ?q21 ?q22 ?q23 ?q24) (Sl.mmk ?q25 ?q26 ?q27 ?q28 ?q29 ?q30) (Sl.mmk ?q31 ?q32 ?q33 ?q34 ?q35 ?q36) (Sl.mmk ?q37 ?q38 ?q39 ?q40 ?q41 ?q42) (Sl.mmk ?q43 ?q44 ?q45 ?q46 ?q47 ?q48) (Sl.mmk ?q49 ?q50 ?q51 ?q52 ?q53 ?q54) (Sl.dmk KX G ?q55 ?q56 ?q57 ?q58) (Sl.dmk_check_number KX G ?q59 ?q60 ?q61 ?q62 ?q63) (Sl.dmk KX G ?q64 ?q65 ?q66 ?q67) (Sl.dmk KX G ?q68 ?q69 ?q70 ?q71) (Sl.dmk KX G ?q72 ?q73 ?q74 ?q75) (Sl.dmk KX G ?q76 ?q77 ?q78 ?q79) (Sl.dmk KX G ?q80 ?q81 ?q82 ?q83) (Sl.dmk KX G ?q84 ?q85 ?q86 ?q87) (Sl.mkmk ?q88 ?q89 ?q90 ?q91 ?q92 ?q93) (Sl.mmk ?q94 ?q95 ?q96 ?q97 ?q98 ?q99) (Sl.mmk ?q100 ?q101 ?q102 ?q103 ?q104 ?q105) (Sl.dmk KX G ?q106 ?q107 ?q108 ?q109) (Sl.dmk KX G ?q110 ?q111 ?q112 ?q113) (Sl.dmk KX G ?q114 ?q115 ?q116 ?q117) (Sl.dmk KX G ?q118 ?q119 ?q120 ?q121) (Sl.dmk KX G ?q122 ?q123 ?q124 ?q125) (Sl.dmk KX G ?q126 ?q127 ?q128 ?q129) (Sl.dmk KX G ?q130 ?q131 ?q132 ?q133) (Sl.dmk KX G ?q134 ?q135 ?q136 ?q137) (Sl.dmk KX G ?q138 ?q139 ?q140 ?q141) (Sl.dmk KX G ?q142 ?q143 ?q144 ?q145) (Sl.dmk KX G ?q146 ?q147 ?q148 ?q149) (Sl.dmk KX G ?q150 ?q151 ?q152 ?q153) (Sl.dmk KX G ?q154 ?q155 ?q156 ?q157) (Sl.dmk KX G ?q158 ?q159 ?q160 ?q161) (Sl.dmk KX G ?q162 ?q163 ?q164 ?q165) (Sl.dmk KX G ?q166 ?q167 ?q168 ?q169) (Sl.mmk ?q170 ?q171 ?q172 ?q173 ?q174 ?q175) (Sl.mmk ?q176 ?q177 ?q178 ?q179 ?q180 ?q181) (Sl.kit_up ?q182 ?q183 ?q184) (Sl.conk ?q185 ?q186 (by decide)) (⟨?q187, ?q188, ?q189, ?q190⟩) (⟨?q191, ?q192, ?q193, ?q194⟩) (Sl.nak ?q195) (Sl.nak ?q196) (⟨?q197, ?q198, ?q199, ?q200⟩) (⟨?q201, ?q202, ?q203, ?q204⟩) (Sl.nak ?q205) (Sl.nak ?q206) (?q207) (fun n => Sl.kit_not ?q208 ?q209) (?q210) (fun n => Sl.kit_not ?q211 ?q212) (⟨?q213, ?q214, ?q215, ?q216, ?q217, ?q218⟩) (Sl.xsupk ?q219 ?q220 ?q221 ?q222 ?q223 ?q224 ?q225 ?q226 ?q227 ?q228 ?q229 ?q230 ?q231 ?q232 ?q233 ?q234 ?q235 ?q236 ?q237 ?q238 ?q239 ?q240 ?q241 Sl.bd_BadChoices) (PySem.W.mg_none_of KX G ?q242) (Sl.gmk KX G ?q243) (Sl.gmk KX G ?q244) (Sl.gmk KX G ?q245) (PySem.W.mg_none_of KX G ?q246) (PySem.W.mg_none_of KX G ?q247) (PySem.W.mg_none_of KX G ?q248) (PySem.W.mg_none_of KX G ?q249) (PySem.W.mg_none_of KX G ?q250) (PySem.W.mg_none_of KX G ?q251) (PySem.W.mg_none_of KX G ?q252) (PySem.W.mg_none_of KX G ?q253) (PySem.W.mg_none_of KX G ?q254) (PySem.W.mg_none_of KX G ?q255) (PySem.W.mg_none_of KX G ?q256) (PySem.W.mg_none_of KX G ?q257) (PySem.W.mg_none_of KX G ?q258) (PySem.W.mg_none_of KX G ?q259) (PySem.W.mg_none_of KX G ?q260) (PySem.W.mg_none_of KX G ?q261) (PySem.W.mg_none_of KX G ?q262) (PySem.W.mg_none_of KX G ?q263) (PySem.W.mg_none_of KX G ?q264) (PySem.W.mg_none_of KX G ?q265)
      (case q1 => k_is)
      (case q2 => k_is)
      (case q3 => k_is)
      (case q4 => k_is)
      (case q5 => k_is)
      (case q6 => k_is)
      (case q7 => k_is)
      (case q8 => k_is)
      (case q9 => k_is)
      (case q10 => k_is)
      (case q11 => k_is)
      (case q12 => k_is)
      (case q13 => k_is)
      (case q14 => k_is)
      (case q15 => k_is)
      (case q16 => k_is)
      (case q17 => k_is)
      (case q18 => k_is)
      (case q19 => k_is)
      (case q20 => k_is)
      (case q21 => k_is)
      (case q22 => k_is)
      (case q23 => k_is)
      (case q24 => k_is)
      (case q25 => k_is)
      (case q26 => k_is)
      (case q27 => k_is)
      (case q28 => k_is)
      (case q29 => k_is)
      (case q30 => k_is)
      (case q31 => k_is)
      (case q32 => k_is)
      (case q33 => k_is)
      (case q34 => k_is)
      (case q35 => k_is)
      (case q36 => k_is)
      (case q37 => k_is)
      (case q38 => k_is)
      (case q39 => k_is)
      (case q40 => k_is)
      (case q41 => k_is)
      (case q42 => k_is)
      (case q43 => k_is)
      (case q44 => k_is)
      (case q45 => k_is)
      (case q46 => k_is)
      (case q47 => k_is)
      (case q48 => k_is)
      (case q49 => k_is)
      (case q50 => k_is)
      (case q51 => k_is)
      (case q52 => k_is)
      (case q53 => k_is)
      (case q54 => k_is)
      (case q55 => k_is)
      (case q56 => k_is)
      (case q57 => k_is)
      (case q58 => k_is)
      (case q59 => k_is)
      (case q60 => k_is)
      (case q61 => k_is)
      (case q62 => k_is)
      (case q63 => k_is)
      (case q64 => k_is)
      (case q65 => k_is)
      (case q66 => k_is)
      (case q67 => k_is)
      (case q68 => k_is)
      (case q69 => k_is)
      (case q70 => k_is)
      (case q71 => k_is)
      (case q72 => k_is)
      (case q73 => k_is)
      (case q74 => k_is)
      (case q75 => k_is)
      (case q76 => k_is)
      (case q77 => k_is)
      (case q78 => k_is)
      (case q79 => k_is)
      (case q80 => k_is)
      (case q81 => k_is)
      (case q82 => k_is)
      (case q83 => k_is)
      (case q84 => k_is)
      (case q85 => k_is)
      (case q86 => k_is)
      (case q87 => k_is)
      (case q88 => k_is)
      (case q89 => k_is)
      (case q90 => k_is)
      (case q91 => k_is)
      (case q92 => k_is)
      (case q93 => k_is)
      (case q94 => k_is)
      (case q95 => k_is)
      (case q96 => k_is)
      (case q97 => k_is)
      (case q98 => k_is)
      (case q99 => k_is)
      (case q100 => k_is)
      (case q101 => k_is)
      (case q102 => k_is)
      (case q103 => k_is)
      (case q104 => k_is)
      (case q105 => k_is)
      (case q106 => k_is)
      (case q107 => k_is)
      (case q108 => k_is)
      (case q109 => k_is)
      (case q110 => k_is)
      (case q111 => k_is)
      (case q112 => k_is)
      (case q113 => k_is)
      (case q114 => k_is)
      (case q115 => k_is)
      (case q116 => k_is)
      (case q117 => k_is)
      (case q118 => k_is)
      (case q119 => k_is)
      (case q120 => k_is)
      (case q121 => k_is)
      (case q122 => k_is)
      (case q123 => k_is)
      (case q124 => k_is)
      (case q125 => k_is)
      (case q126 => k_is)
      (case q127 => k_is)
      (case q128 => k_is)
      (case q129 => k_is)
      (case q130 => k_is)
      (case q131 => k_is)
      (case q132 => k_is)
      (case q133 => k_is)
      (case q134 => k_is)
      (case q135 => k_is)
      (case q136 => k_is)
      (case q137 => k_is)
      (case q138 => k_is)
      (case q139 => k_is)
      (case q140 => k_is)
      (case q141 => k_is)
      (case q142 => k_is)
      (case q143 => k_is)
      (case q144 => k_is)
      (case q145 => k_is)
      (case q146 => k_is)
      (case q147 => k_is)
      (case q148 => k_is)
      (case q149 => k_is)
      (case q150 => k_is)
      (case q151 => k_is)
      (case q152 => k_is)
      (case q153 => k_is)
      (case q154 => k_is)
      (case q155 => k_is)
      (case q156 => k_is)
      (case q157 => k_is)
      (case q158 => k_is)
      (case q159 => k_is)
      (case q160 => k_is)
      (case q161 => k_is)
      (case q162 => k_is)
      (case q163 => k_is)
      (case q164 => k_is)
      (case q165 => k_is)
      (case q166 => k_is)
      (case q167 => k_is)
      (case q168 => k_is)
      (case q169 => k_is)
      (case q170 => k_is)
      (case q171 => k_is)
      (case q172 => k_is)
      (case q173 => k_is)
      (case q174 => k_is)
      (case q175 => k_is)
      (case q176 => k_is)
      (case q177 => k_is)
      (case q178 => k_is)
      (case q179 => k_is)
      (case q180 => k_is)
      (case q181 => k_is)
      (case q182 => k_is)
      (case q183 => k_is)
      (case q184 => k_is)
      (case q185 => k_is)
      (case q186 => k_is)
      (case q187 => k_is)
      (case q188 => k_is)
      (case q189 => k_is)
      (case q190 => k_is)
      (case q191 => k_is)
      (case q192 => k_is)
      (case q193 => k_is)
      (case q194 => k_is)
      (case q195 => k_is)
      (case q196 => k_is)
      (case q197 => k_is)
      (case q198 => k_is)
      (case q199 => k_is)
      (case q200 => k_is)
      (case q201 => k_is)
      (case q202 => k_is)
      (case q203 => k_is)
      (case q204 => k_is)
      (case q205 => k_is)
      (case q206 => k_is)
      (case q207 => k_is)
      (case q208 => k_is)
      (case q209 => k_is)
      (case q210 => k_is)
      (case q211 => k_is)
      (case q212 => k_is)
      (case q213 => k_exc)
      (case q214 => k_is)
      (case q215 => k_is)
      (case q216 => k_is)
      (case q217 => k_is)
      (case q218 => first | rfl | k_is)
      (case q219 => first | k_is | rfl | decide +kernel)
      (case q220 => first | k_is | rfl | decide +kernel)
      (case q221 => first | k_is | rfl | decide +kernel)
      (case q222 => first | k_is | rfl | decide +kernel)
      (case q223 => first | k_is | rfl | decide +kernel)
      (case q224 => first | k_is | rfl | decide +kernel)
      (case q225 => first | k_is | rfl | decide +kernel)
      (case q226 => first | k_is | rfl | decide +kernel)
      (case q227 => first | k_is | rfl | decide +kernel)
      (case q228 => first | k_is | rfl | decide +kernel)
      (case q229 => first | k_is | rfl | decide +kernel)
      (case q230 => first | k_is | rfl | decide +kernel)
      (case q231 => first | k_is | rfl | decide +kernel)
      (case q232 => first | k_is | rfl | decide +kernel)
      (case q233 => first | k_is | rfl | decide +kernel)
      (case q234 => first | k_is | rfl | decide +kernel)
      (case q235 => first | k_is | rfl | decide +kernel)
      (case q236 => first | k_is | rfl | decide +kernel)
      (case q237 => first | k_is | rfl | decide +kernel)
      (case q238 => first | k_is | rfl | decide +kernel)
      (case q239 => first | k_is | rfl | decide +kernel)
      (case q240 => first | k_is | rfl | decide +kernel)
      (case q241 => first | k_is | rfl | decide +kernel)
      (case q242 => k_is)
      (case q243 => k_is)
      (case q244 => k_is)
      (case q245 => k_is)
      (case q246 => k_is)
      (case q247 => k_is)
      (case q248 => k_is)
      (case q249 => k_is)
      (case q250 => k_is)
      (case q251 => k_is)
      (case q252 => k_is)
      (case q253 => k_is)
      (case q254 => k_is)
      (case q255 => k_is)
      (case q256 => k_is)
      (case q257 => k_is)
      (case q258 => k_is)
      (case q259 => k_is)
      (case q260 => k_is)
      (case q261 => k_is)
      (case q262 => k_is)
      (case q263 => k_is)
      (case q264 => k_is)
      (case q265 => k_is)
#print axioms PySem.Challenge.cw_siltstore_k46_whole_cheapest_holds
