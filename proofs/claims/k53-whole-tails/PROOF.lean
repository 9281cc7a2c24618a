import PyProof.Rows.All
import Wide.All
import OpenK.AllK
import Wide.FinOn
import HandS.ForMost
import HandS.Codes
import HandS.Star
import HandS.Wide
import HandS.IsInst
import HandS.TupAny
import HandS.TupMul
import HandS.Style
import HandS.Defaults
import PySem.Challenge.RW_siltstore_k53_whole_tails
set_option Elab.async false
set_option linter.all false
set_option maxRecDepth 100000
set_option maxHeartbeats 4000000
set_option exponentiation.threshold 9000
section
open PySem PySem.W PyProof.Rows
set_option maxHeartbeats 0
open_top headQ for PySem.Challenge.rw_siltstore_k53_whole_tails
end
/-! Plain mathematics of rules: pairs by grades, sizes, digits. No program in sight. -/
set_option linter.all false
namespace Silt
abbrev Pr := Nat → Int × Int
structure Good (p : Pr) : Prop where
  lo : ∀ g, 2 ≤ (p g).2
  le : ∀ g, (p g).2 ≤ (p g).1
  hi : ∀ g, (p g).1 ≤ 12
/-- the rule without its first k grades -/
def tl (p : Pr) (k : Nat) : Pr := fun g => p (g + k)
theorem Good.tl {p : Pr} (h : Good p) (k : Nat) : Good (tl p k) := ⟨fun g => h.lo _, fun g => h.le _, fun g => h.hi _⟩
theorem tl_tl (p : Pr) (j k : Nat) : tl (tl p j) k = tl p (j + k) := by
  funext g; simp only [tl]; congr 1; omega
theorem tl_zero (p : Pr) : tl p 0 = p := rfl
def size (p : Pr) : Nat → Int
  | 0 => 1
  | g + 1 => size p g * (p g).2
def owed (p : Pr) : Nat → Int
  | 0 => 0
  | g + 1 => owed p g + size p g * ((p g).1 - (p g).2)
theorem size_pos {p : Pr} (h : Good p) : ∀ g, 0 < size p g
  | 0 => by show (0 : Int) < 1; decide
  | g + 1 => Int.mul_pos (size_pos h g) (by have := h.lo g; omega)
theorem owed_nn {p : Pr} (h : Good p) : ∀ g, 0 ≤ owed p g
  | 0 => by show (0 : Int) ≤ 0; decide
  | g + 1 => by
    have h1 := owed_nn h g
    have h2 := size_pos h g
    have h3 := h.le g
    have h4 : 0 ≤ size p g * ((p g).1 - (p g).2) := Int.mul_nonneg (by omega) (by omega)
    show 0 ≤ owed p g + size p g * ((p g).1 - (p g).2)
    omega
theorem size_tl (p : Pr) : ∀ g, size p (g + 1) = (p 0).2 * size (tl p 1) g
  | 0 => by simp [size]
  | g + 1 => by
    show size p (g + 1) * (p (g + 1)).2 = (p 0).2 * (size (tl p 1) g * (p (g + 1)).2)
    rw [size_tl p g, Int.mul_assoc]
theorem owed_tl (p : Pr) : ∀ g, owed p (g + 1) = ((p 0).1 - (p 0).2) + (p 0).2 * owed (tl p 1) g
  | 0 => by simp [owed, size]
  | g + 1 => by
    show owed p (g + 1) + size p (g + 1) * ((p (g + 1)).1 - (p (g + 1)).2) = _ + (p 0).2 * (owed (tl p 1) g + size (tl p 1) g * ((p (g + 1)).1 - (p (g + 1)).2))
    rw [owed_tl p g, size_tl p g, Int.mul_add, Int.mul_assoc]
    omega
def made (p : Pr) (g : Nat) (d : Int) : Int := max 0 ((d - owed p g) / size p g)
theorem made_nn (p : Pr) (g : Nat) (d : Int) : 0 ≤ made p g d := by unfold made; omega
/-- how many layers of the next grade there have been, of so many -/
def late (p : Pr) (d : Int) : Int := max 0 ((d - (p 0).1 + (p 0).2) / (p 0).2)
theorem made_zero (p : Pr) {d : Int} (h : 0 ≤ d) : made p 0 d = d := by simp [made, owed, size]; omega
theorem made_one (p : Pr) (d : Int) : made p 1 d = late p d := by
  simp only [made, late, owed, size]
  have e : d - (0 + 1 * ((p 0).1 - (p 0).2)) = d - (p 0).1 + (p 0).2 := by omega
  rw [e, Int.one_mul]
theorem ediv_shift {a b o s : Int} (hb : 0 < b) (hs : 0 < s) : (a - b * o) / (b * s) = (a / b - o) / s := by
  rw [← Int.ediv_ediv_of_nonneg (by omega : (0:Int) ≤ b)]
  congr 1
  have : a - b * o = a + b * (-o) := by rw [Int.mul_neg]; omega
  rw [this, Int.add_mul_ediv_left _ _ (by omega : b ≠ 0)]
  omega
theorem neg_ediv_le {a s : Int} (ha : a ≤ 0) (hs : 0 < s) : a / s ≤ 0 := by
  have := Int.ediv_le_ediv hs ha
  simpa using this
/-- the rule without its first grade, on the day that is the number of layers of grade 1 -/
theorem made_tl {p : Pr} (h : Good p) (g : Nat) (d : Int) : made p (g + 1) d = made (tl p 1) g (late p d) := by
  have hb : 0 < (p 0).2 := by have := h.lo 0; omega
  have hs := size_pos (h.tl 1) g
  have ho := owed_nn (h.tl 1) g
  unfold made
  rw [size_tl, owed_tl]
  have e : d - ((p 0).1 - (p 0).2 + (p 0).2 * owed (tl p 1) g) = (d - (p 0).1 + (p 0).2) - (p 0).2 * owed (tl p 1) g := by omega
  rw [e, ediv_shift hb hs]
  unfold late
  by_cases q : 0 ≤ (d - (p 0).1 + (p 0).2) / (p 0).2
  · have e2 : max 0 ((d - (p 0).1 + (p 0).2) / (p 0).2) = (d - (p 0).1 + (p 0).2) / (p 0).2 := by omega
    rw [e2]
  · have e2 : max 0 ((d - (p 0).1 + (p 0).2) / (p 0).2) = 0 := by omega
    rw [e2]
    have q1 := neg_ediv_le (a := (d - (p 0).1 + (p 0).2) / (p 0).2 - owed (tl p 1) g) (by omega) hs
    have q2 := neg_ediv_le (a := 0 - owed (tl p 1) g) (by omega) hs
    omega
theorem late_lt {p : Pr} (h : Good p) {d : Int} (hd : 0 < d) : late p d < d := by
  have h1 := h.lo 0
  have h2 := h.le 0
  unfold late
  have : (d - (p 0).1 + (p 0).2) / (p 0).2 < d := by
    refine Int.ediv_lt_of_lt_mul (by omega) ?_
    have : d * 2 ≤ d * (p 0).2 := Int.mul_le_mul_of_nonneg_left h1 (by omega)
    omega
  omega
theorem late_nn (p : Pr) (d : Int) : 0 ≤ late p d := by unfold late; omega
/-- the next grade's number from this one's -/
theorem made_next {p : Pr} (h : Good p) : ∀ (g : Nat) (d : Int), 0 ≤ d → made p (g + 1) d = late (tl p g) (made p g d)
  | 0, d, hd => by rw [made_one, made_zero p hd]; rfl
  | g + 1, d, hd => by
    rw [made_tl h (g + 1), made_next (h.tl 1) g _ (late_nn p d), made_tl h g, tl_tl, Nat.add_comm 1 g]
/-! ### digits -/
def digF : Nat → Pr → Int → List Int
  | 0, _, _ => []
  | n + 1, p, d => if d ≤ 0 then [] else (d - (p 0).2 * late p d) :: digF n (tl p 1) (late p d)
def digits (p : Pr) (d : Int) : List Int := digF d.toNat p d
theorem digF_more : ∀ (n m : Nat) (p : Pr) (d : Int), Good p → d ≤ n → d ≤ m → digF n p d = digF m p d
  | 0, 0, _, _, _, _, _ => rfl
  | 0, m + 1, p, d, _, h, _ => by show [] = if d ≤ 0 then [] else _; rw [if_pos (by omega)]
  | n + 1, 0, p, d, _, _, h => by show (if d ≤ 0 then [] else _) = []; rw [if_pos (by omega)]
  | n + 1, m + 1, p, d, g, h, h' => by
    show (if d ≤ 0 then [] else _) = (if d ≤ 0 then [] else _)
    by_cases c : d ≤ 0
    · rw [if_pos c, if_pos c]
    · rw [if_neg c, if_neg c]
      have := late_lt g (d := d) (by omega)
      rw [digF_more n m (tl p 1) (late p d) (g.tl 1) (by omega) (by omega)]
theorem digits_eq {p : Pr} (g : Good p) (d : Int) : digits p d = if d ≤ 0 then [] else (d - (p 0).2 * late p d) :: digits (tl p 1) (late p d) := by
  unfold digits
  by_cases c : d ≤ 0
  · rw [if_pos c]
    have : d.toNat = 0 := by omega
    rw [this]; rfl
  · rw [if_neg c]
    obtain ⟨n, hn⟩ : ∃ n, d.toNat = n + 1 := ⟨d.toNat - 1, by omega⟩
    rw [hn]
    show (if d ≤ 0 then [] else _) = _
    rw [if_neg c]
    have := late_lt g (d := d) (by omega)
    have := late_nn p d
    rw [digF_more n (late p d).toNat (tl p 1) (late p d) (g.tl 1) (by omega) (by omega)]
theorem digits_zero (p : Pr) {d : Int} (h : d ≤ 0) : digits p d = [] := by
  unfold digits
  have : d.toNat = 0 := by omega
  rw [this]; rfl
theorem digits_pos {p : Pr} (g : Good p) {d : Int} (h : 0 < d) : digits p d = (d - (p 0).2 * late p d) :: digits (tl p 1) (late p d) := by
  rw [digits_eq g, if_neg (by omega)]
/-- the digit's bounds -/
theorem digit_lt {p : Pr} (g : Good p) {d : Int} (h : 0 < d) : d - (p 0).2 * late p d < (p 0).1 ∧ 0 ≤ d - (p 0).2 * late p d ∧ (0 < late p d → (p 0).1 - (p 0).2 ≤ d - (p 0).2 * late p d) ∧ (late p d = 0 → 1 ≤ d - (p 0).2 * late p d) := by
  have h1 := g.lo 0
  have h2 := g.le 0
  unfold late
  generalize (p 0).1 = w at *
  generalize (p 0).2 = b at *
  have e1 := Int.emod_add_mul_ediv (d - w + b) b
  have e2 := Int.emod_nonneg (d - w + b) (by omega : b ≠ 0)
  have e3 := Int.emod_lt_of_pos (d - w + b) (by omega : 0 < b)
  by_cases q : 0 ≤ (d - w + b) / b
  · have e : max 0 ((d - w + b) / b) = (d - w + b) / b := by omega
    rw [e]
    refine ⟨by omega, by omega, by omega, fun z => ?_⟩
    rw [z] at e1 ⊢
    omega
  · have e : max 0 ((d - w + b) / b) = 0 := by omega
    rw [e]
    have : (d - w + b) / b ≤ -1 := by omega
    have : b * ((d - w + b) / b) ≤ b * (-1) := Int.mul_le_mul_of_nonneg_left this (by omega)
    refine ⟨by omega, by omega, by omega, by omega⟩
/-- what digits are worth -/
def value (p : Pr) : List Int → Int
  | [] => 0
  | x :: xs => x + (p 0).2 * value (tl p 1) xs
theorem value_digF : ∀ (n : Nat) (p : Pr) (d : Int), Good p → 0 ≤ d → d ≤ n → value p (digF n p d) = d
  | 0, _, _, _, _, _ => by show (0 : Int) = _; omega
  | n + 1, p, d, g, h0, h => by
    show value p (if d ≤ 0 then [] else _) = d
    by_cases c : d ≤ 0
    · rw [if_pos c]; show (0 : Int) = _; omega
    · rw [if_neg c]
      show _ + (p 0).2 * value (tl p 1) _ = d
      have := late_lt g (d := d) (by omega)
      rw [value_digF n (tl p 1) (late p d) (g.tl 1) (late_nn p d) (by omega)]
      omega
theorem value_digits {p : Pr} (g : Good p) {d : Int} (h : 0 ≤ d) : value p (digits p d) = d := value_digF _ p d g h (by omega)
/-- the digits of a day are fit to be told -/
def Valid (p : Pr) : List Int → Prop
  | [] => True
  | [x] => 1 ≤ x ∧ x < (p 0).1
  | x :: y :: ys => (p 0).1 - (p 0).2 ≤ x ∧ x < (p 0).1 ∧ Valid (tl p 1) (y :: ys)
theorem valid_digF : ∀ (n : Nat) (p : Pr) (d : Int), Good p → 0 ≤ d → d ≤ n → Valid p (digF n p d)
  | 0, _, _, _, _, _ => trivial
  | n + 1, p, d, g, h0, h => by
    show Valid p (if d ≤ 0 then [] else _)
    by_cases c : d ≤ 0
    · rw [if_pos c]; trivial
    · rw [if_neg c]
      have b := digit_lt g (d := d) (by omega)
      have l := late_lt g (d := d) (by omega)
      have l0 := late_nn p d
      have ih := valid_digF n (tl p 1) (late p d) (g.tl 1) l0 (by omega)
      cases e : digF n (tl p 1) (late p d) with
      | nil =>
        have v := value_digF n (tl p 1) (late p d) (g.tl 1) l0 (by omega)
        rw [e] at v
        have v' : late p d = 0 := v.symm
        exact ⟨b.2.2.2 v', b.1⟩
      | cons y ys =>
        rw [e] at ih
        have : 0 < late p d := by
          rcases Int.lt_or_eq_of_le l0 with q | q
          · exact q
          · rw [← q] at e
            cases n <;> simp [digF] at e
        exact ⟨b.2.2.1 this, b.1, ih⟩
theorem valid_digits {p : Pr} (g : Good p) {d : Int} (h : 0 ≤ d) : Valid p (digits p d) := valid_digF _ p d g h (by omega)
theorem digits_nil {p : Pr} (g : Good p) {d : Int} (h : 0 ≤ d) : digits p d = [] ↔ d = 0 := by
  constructor
  · intro e
    have v := value_digits g h
    rw [e] at v
    exact v.symm
  · intro e; exact digits_zero p (by omega)
end Silt
set_option linter.all false
namespace Silt
theorem size_ge {p : Pr} (h : Good p) : ∀ g : Nat, ((2 ^ g : Nat) : Int) ≤ size p g
  | 0 => by simp [size]
  | g + 1 => by
    have h1 := size_ge h g
    have h2 := h.lo g
    show _ ≤ size p g * (p g).2
    have e : ((2 ^ (g + 1) : Nat) : Int) = ((2 ^ g : Nat) : Int) * 2 := by rw [Nat.pow_succ]; omega
    rw [e]
    exact Int.mul_le_mul h1 h2 (by omega) (by have := size_pos h g; omega)
theorem lt_two_pow' (g : Nat) : (g : Int) < ((2 ^ g : Nat) : Int) := by
  have := @Nat.lt_two_pow_self g
  omega
theorem made_pos {p : Pr} (h : Good p) {g : Nat} {d : Int} (hm : 0 < made p g d) : size p g ≤ d := by
  have h1 := size_pos h g
  have h2 := owed_nn h g
  unfold made at hm
  have h3 : 1 ≤ (d - owed p g) / size p g := by omega
  have h4 := Int.ediv_mul_le (d - owed p g) (by omega : size p g ≠ 0)
  have h5 : 1 * size p g ≤ (d - owed p g) / size p g * size p g := Int.mul_le_mul_of_nonneg_right h3 (by omega)
  omega
theorem made_le {p : Pr} (h : Good p) (g : Nat) {d : Int} (hd : 0 ≤ d) : made p g d ≤ d := by
  have h1 := size_pos h g
  have h2 := owed_nn h g
  unfold made
  have h3 : (d - owed p g) / size p g ≤ d := by
    by_cases q : 0 ≤ (d - owed p g) / size p g
    · have h4 := Int.ediv_mul_le (d - owed p g) (by omega : size p g ≠ 0)
      have h5 : (d - owed p g) / size p g * 1 ≤ (d - owed p g) / size p g * size p g := Int.mul_le_mul_of_nonneg_left (by omega) q
      omega
    · omega
  omega
/-! ### bakes -/
def isBaked (p : Pr) (g : Nat) (d : Int) : Bool := decide (owed p (g + 1) + size p (g + 1) ≤ d) && decide ((d - owed p (g + 1)) % size p (g + 1) = 0)
theorem isBaked_iff {p : Pr} {g : Nat} {d : Int} : isBaked p g d = true ↔ owed p (g + 1) + size p (g + 1) ≤ d ∧ (d - owed p (g + 1)) % size p (g + 1) = 0 := by
  unfold isBaked
  rw [Bool.and_eq_true, decide_eq_true_iff, decide_eq_true_iff]
theorem isBaked_size {p : Pr} (h : Good p) {g : Nat} {d : Int} (b : isBaked p g d = true) : size p (g + 1) ≤ d := by
  have := (isBaked_iff.mp b).1
  have := owed_nn h (g + 1)
  omega
theorem isBaked_lt {p : Pr} (h : Good p) {g : Nat} {d : Int} (b : isBaked p g d = true) : (g : Int) + 1 < d := by
  have h1 := isBaked_size h b
  have h2 := size_ge h (g + 1)
  have h3 := lt_two_pow' (g + 1)
  omega
def bkF : Nat → Pr → Int → Nat → List Int
  | 0, _, _, _ => []
  | n + 1, p, d, g => if isBaked p g d then (g : Int) :: bkF n p d (g + 1) else []
def bakedL (p : Pr) (d : Int) : List Int := bkF d.toNat p d 0
theorem bkF_step {p : Pr} (h : Good p) {n g : Nat} {d : Int} (hn : n = d.toNat - g) : bkF n p d g = if isBaked p g d then (g : Int) :: bkF (d.toNat - (g + 1)) p d (g + 1) else [] := by
  cases n with
  | zero =>
    show [] = _
    by_cases c : isBaked p g d = true
    · have := isBaked_lt h c; omega
    · rw [if_neg c]
  | succ n =>
    show (if isBaked p g d then (g : Int) :: bkF n p d (g + 1) else []) = _
    have : n = d.toNat - (g + 1) := by omega
    rw [this]
theorem bkF_len : ∀ (n : Nat) (p : Pr) (d : Int) (g : Nat), (bkF n p d g).length ≤ n
  | 0, _, _, _ => Nat.le_refl _
  | n + 1, p, d, g => by
    show (if isBaked p g d then (g : Int) :: bkF n p d (g + 1) else []).length ≤ _
    split
    · rw [List.length_cons]; have := bkF_len n p d (g + 1); omega
    · exact Nat.zero_le _
def nextBaked (p : Pr) (g : Nat) (d : Int) : Int := owed p (g + 1) + size p (g + 1) * max 1 ((d - owed p (g + 1)) / size p (g + 1) + 1)
/-- the bakes of the rule without its first grade -/
theorem isBaked_tl {p : Pr} (h : Good p) {d : Int} (b : isBaked p 0 d = true) (g : Nat) : isBaked p (g + 1) d = isBaked (tl p 1) g (late p d) := by
  have hb : 0 < (p 0).2 := by have := h.lo 0; omega
  obtain ⟨b1, b2⟩ := isBaked_iff.mp b
  have e1 : owed p (0 + 1) = (p 0).1 - (p 0).2 := by simp [owed, size]
  have e2 : size p (0 + 1) = (p 0).2 := by simp [size]
  rw [e1, e2] at b1 b2
  obtain ⟨q, hq⟩ := Int.dvd_of_emod_eq_zero b2
  have hl : late p d = q := by
    unfold late
    have : d - (p 0).1 + (p 0).2 = (p 0).2 * q := by omega
    rw [this, Int.mul_ediv_cancel_left _ (by omega)]
    have : 1 ≤ q := by
      have : (p 0).2 * 1 ≤ (p 0).2 * q := by omega
      exact Int.le_of_mul_le_mul_left this hb
    omega
  rw [hl]
  unfold isBaked
  rw [size_tl, owed_tl]
  have hd : d = (p 0).1 - (p 0).2 + (p 0).2 * q := by omega
  have hs := size_pos (h.tl 1) (g + 1)
  congr 1
  · congr 1
    apply propext
    constructor
    · intro z
      have : (p 0).2 * (owed (tl p 1) (g + 1) + size (tl p 1) (g + 1)) ≤ (p 0).2 * q := by rw [Int.mul_add]; omega
      exact Int.le_of_mul_le_mul_left this hb
    · intro z
      have : (p 0).2 * (owed (tl p 1) (g + 1) + size (tl p 1) (g + 1)) ≤ (p 0).2 * q := Int.mul_le_mul_of_nonneg_left z (by omega)
      rw [Int.mul_add] at this
      omega
  · congr 1
    have : d - ((p 0).1 - (p 0).2 + (p 0).2 * owed (tl p 1) (g + 1)) = (p 0).2 * (q - owed (tl p 1) (g + 1)) := by rw [Int.mul_sub]; omega
    rw [this, Int.mul_emod_mul_of_pos _ _ hb]
    apply propext
    constructor
    · intro z
      rcases Int.mul_eq_zero.mp z with z | z
      · omega
      · exact z
    · intro z; rw [z, Int.mul_zero]
/-- grade 0 is baked on a day just if there comes one more layer of grade 1 -/
theorem isBaked_zero {p : Pr} (h : Good p) {d : Int} (hd : 0 ≤ d) : isBaked p 0 d = decide (made p 1 (max 0 (d - 1)) < late p d) := by
  have hb : 2 ≤ (p 0).2 := h.lo 0
  have hw := h.le 0
  rw [made_one]
  have e1 : owed p (0 + 1) = (p 0).1 - (p 0).2 := by simp [owed, size]
  have e2 : size p (0 + 1) = (p 0).2 := by simp [size]
  unfold isBaked late
  rw [e1, e2]
  generalize (p 0).2 = b at *
  generalize (p 0).1 = w at *
  have hb0 : 0 < b := by omega
  rw [← Bool.decide_and]
  congr 1
  apply propext
  have f1 := Int.emod_add_mul_ediv (d - (w - b)) b
  have f2 := Int.emod_nonneg (d - (w - b)) (by omega : b ≠ 0)
  have f3 := Int.emod_lt_of_pos (d - (w - b)) hb0
  have ed : d - w + b = d - (w - b) := by omega
  rw [ed]
  generalize hq : (d - (w - b)) / b = q at *
  generalize hr : (d - (w - b)) % b = r at *
  by_cases hd1 : 1 ≤ d
  · have em : max 0 (d - 1) = d - 1 := by omega
    rw [em]
    have eq2 : (d - 1 - w + b) / b = if r = 0 then q - 1 else q := by
      by_cases c : r = 0
      · rw [if_pos c]
        have : d - 1 - w + b = (b - 1) + b * (q - 1) := by rw [Int.mul_sub]; omega
        rw [this, Int.add_mul_ediv_left _ _ (by omega : b ≠ 0), Int.ediv_eq_zero_of_lt (by omega) (by omega)]
        omega
      · rw [if_neg c]
        have : d - 1 - w + b = (r - 1) + b * q := by omega
        rw [this, Int.add_mul_ediv_left _ _ (by omega : b ≠ 0), Int.ediv_eq_zero_of_lt (by omega) (by omega)]
        omega
    rw [eq2]
    constructor
    · rintro ⟨z1, z2⟩
      rw [if_pos z2]
      have : b * 1 ≤ b * q := by omega
      have := Int.le_of_mul_le_mul_left this hb0
      omega
    · intro z
      by_cases c : r = 0
      · rw [if_pos c] at z
        have : 1 ≤ q := by omega
        have : b * 1 ≤ b * q := Int.mul_le_mul_of_nonneg_left this (by omega)
        exact ⟨by omega, c⟩
      · rw [if_neg c] at z; omega
  · have : d = 0 := by omega
    subst this
    constructor
    · rintro ⟨z1, _⟩; omega
    · intro z
      exfalso
      have em : max 0 ((0 : Int) - 1) = 0 := by omega
      rw [em, ed] at z
      omega
theorem bkF_shift {p q : Pr} {d e : Int} (s : ∀ g, isBaked p (g + 1) d = isBaked q g e) : ∀ (n g : Nat), bkF n p d (g + 1) = (bkF n q e g).map (· + 1)
  | 0, _ => rfl
  | n + 1, g => by
    show (if isBaked p (g + 1) d then (((g + 1 : Nat)) : Int) :: bkF n p d (g + 1 + 1) else []) = List.map _ (if isBaked q g e then (g : Int) :: bkF n q e (g + 1) else [])
    rw [s g]
    by_cases c : isBaked q g e = true
    · rw [if_pos c, if_pos c, bkF_shift s n (g + 1)]
      rfl
    · rw [if_neg c, if_neg c]; rfl
theorem bkF_fuel {p : Pr} (h : Good p) {d : Int} : ∀ (n m g : Nat), d ≤ n + g → d ≤ m + g → bkF n p d g = bkF m p d g
  | 0, 0, _, _, _ => rfl
  | 0, m + 1, g, hn, _ => by
    show [] = if isBaked p g d then _ else []
    by_cases c : isBaked p g d = true
    · have := isBaked_lt h c; omega
    · rw [if_neg c]
  | n + 1, 0, g, _, hm => by
    show (if isBaked p g d then _ else []) = []
    by_cases c : isBaked p g d = true
    · have := isBaked_lt h c; omega
    · rw [if_neg c]
  | n + 1, m + 1, g, hn, hm => by
    show (if isBaked p g d then (g : Int) :: bkF n p d (g + 1) else []) = if isBaked p g d then (g : Int) :: bkF m p d (g + 1) else []
    rw [bkF_fuel h n m (g + 1) (by omega) (by omega)]
theorem bakedL_tl {p : Pr} (h : Good p) {d : Int} (hd : 0 ≤ d) : bakedL p d = if made p 1 (max 0 (d - 1)) < late p d then 0 :: (bakedL (tl p 1) (late p d)).map (· + 1) else [] := by
  unfold bakedL
  rw [bkF_step h (g := 0) (by omega)]
  rw [isBaked_zero h hd]
  by_cases c : made p 1 (max 0 (d - 1)) < late p d
  · rw [if_pos (decide_eq_true c), if_pos c]
    have b : isBaked p 0 d = true := by rw [isBaked_zero h hd]; exact decide_eq_true c
    have l0 := late_nn p d
    have l1 := late_lt h (d := d) (by have := isBaked_lt h b; omega)
    rw [bkF_shift (fun g => isBaked_tl h b g), bkF_fuel (h.tl 1) (d.toNat - (0 + 1)) (late p d).toNat 0 (by omega) (by omega)]
    rfl
  · rw [if_neg (by rw [decide_eq_false c]; decide), if_neg c]
/-! ### work -/
def workF : Nat → Pr → Int → Int
  | 0, _, _ => 0
  | n + 1, p, d => if late p d ≤ 0 then 0 else (p 0).2 * late p d + (p 0).2 * workF n (tl p 1) (late p d)
def work (p : Pr) (d : Int) : Int := workF d.toNat p d
theorem workF_more : ∀ (n m : Nat) (p : Pr) (d : Int), Good p → d ≤ n → d ≤ m → workF n p d = workF m p d
  | 0, 0, _, _, _, _, _ => rfl
  | 0, m + 1, p, d, g, h, _ => by
    show (0 : Int) = if late p d ≤ 0 then 0 else _
    have : late p d ≤ 0 := by
      have h1 := g.lo 0
      have h2 := g.le 0
      have := neg_ediv_le (a := d - (p 0).1 + (p 0).2) (s := (p 0).2) (by omega) (by omega)
      unfold late; omega
    rw [if_pos this]
  | n + 1, 0, p, d, g, _, h => by
    show (if late p d ≤ 0 then 0 else _) = (0 : Int)
    have : late p d ≤ 0 := by
      have h1 := g.lo 0
      have h2 := g.le 0
      have := neg_ediv_le (a := d - (p 0).1 + (p 0).2) (s := (p 0).2) (by omega) (by omega)
      unfold late; omega
    rw [if_pos this]
  | n + 1, m + 1, p, d, g, h, h' => by
    show (if late p d ≤ 0 then 0 else _) = (if late p d ≤ 0 then 0 else _)
    by_cases c : late p d ≤ 0
    · rw [if_pos c, if_pos c]
    · rw [if_neg c, if_neg c]
      have hd : 0 < d := by
        rcases Int.lt_or_le 0 d with q | q
        · exact q
        · exfalso
          have h1 := g.lo 0
          have h2 := g.le 0
          have := neg_ediv_le (a := d - (p 0).1 + (p 0).2) (s := (p 0).2) (by omega) (by omega)
          unfold late at c; omega
      have := late_lt g hd
      rw [workF_more n m (tl p 1) (late p d) (g.tl 1) (by omega) (by omega)]
theorem work_eq {p : Pr} (g : Good p) {d : Int} (hd : 0 ≤ d) : work p d = (p 0).2 * late p d + (p 0).2 * work (tl p 1) (late p d) := by
  unfold work
  by_cases c : d = 0
  · subst c
    have h1 := g.lo 0
    have h2 := g.le 0
    have := neg_ediv_le (a := 0 - (p 0).1 + (p 0).2) (s := (p 0).2) (by omega) (by omega)
    have e : late p 0 = 0 := by unfold late; omega
    rw [e]
    simp [workF]
  · obtain ⟨n, hn⟩ : ∃ n, d.toNat = n + 1 := ⟨d.toNat - 1, by omega⟩
    rw [hn]
    show (if late p d ≤ 0 then 0 else _) = _
    have l1 := late_lt g (d := d) (by omega)
    have l0 := late_nn p d
    by_cases c : late p d ≤ 0
    · rw [if_pos c]
      have e : late p d = 0 := by omega
      rw [e]
      simp [workF]
    · rw [if_neg c, workF_more n (late p d).toNat (tl p 1) (late p d) (g.tl 1) (by omega) (by omega)]
/-! ### the value of digits, digit by digit -/
theorem value_take : ∀ (ds : List Int) (p : Pr) (i : Nat) (x : Int), ds[i]? = some x → value p (ds.take (i + 1)) = value p (ds.take i) + x * size p i
  | [], _, _, _, h => by simp at h
  | y :: ys, p, 0, x, h => by
    simp at h; subst h
    simp [value, size]
  | y :: ys, p, i + 1, x, h => by
    have h' : ys[i]? = some x := by simpa using h
    show y + (p 0).2 * value (tl p 1) (ys.take (i + 1)) = y + (p 0).2 * value (tl p 1) (ys.take i) + x * size p (i + 1)
    rw [value_take ys (tl p 1) i x h', size_tl, Int.mul_add]
    have : (p 0).2 * (x * size (tl p 1) i) = x * ((p 0).2 * size (tl p 1) i) := by
      rw [← Int.mul_assoc, Int.mul_comm (p 0).2 x, Int.mul_assoc]
    omega
theorem valid_get : ∀ (ds : List Int) (p : Pr) (i : Nat) (x : Int), Valid p ds → ds[i]? = some x → x < (p i).1 ∧ (if i + 1 = ds.length then 1 else (p i).1 - (p i).2) ≤ x
  | [], _, _, _, _, h => by simp at h
  | [y], p, 0, x, v, h => by
    simp at h; subst h
    exact ⟨v.2, by simpa using v.1⟩
  | [y], p, i + 1, x, v, h => by simp at h
  | y :: z :: zs, p, 0, x, v, h => by
    simp at h; subst h
    refine ⟨v.2.1, ?_⟩
    rw [if_neg (by simp)]
    exact v.1
  | y :: z :: zs, p, i + 1, x, v, h => by
    have h' : (z :: zs)[i]? = some x := by simpa using h
    have q := valid_get (z :: zs) (tl p 1) i x v.2.2 h'
    refine ⟨q.1, ?_⟩
    have e : (i + 1 + 1 = (y :: z :: zs).length) ↔ (i + 1 = (z :: zs).length) := by simp
    by_cases c : i + 1 = (z :: zs).length
    · rw [if_pos (e.mpr c)]; rw [if_pos c] at q; exact q.2
    · rw [if_neg (fun w => c (e.mp w))]; rw [if_neg c] at q; exact q.2
/-! ### first days with so many layers -/
def fwF : Nat → Pr → Int → List Int
  | 0, _, _ => []
  | n + 1, p, m => if m ≤ 0 then [] else min m ((p 0).1 - 1) :: fwF n (tl p 1) (m - min m ((p 0).1 - 1))
def fwL (p : Pr) (m : Int) : List Int := fwF m.toNat p m
def firstWith (p : Pr) (m : Int) : Int := value p (fwL p m)
theorem fwF_more : ∀ (n k : Nat) (p : Pr) (m : Int), Good p → m ≤ n → m ≤ k → fwF n p m = fwF k p m
  | 0, 0, _, _, _, _, _ => rfl
  | 0, k + 1, p, m, _, h, _ => by show [] = if m ≤ 0 then [] else _; rw [if_pos (by omega)]
  | n + 1, 0, p, m, _, _, h => by show (if m ≤ 0 then [] else _) = []; rw [if_pos (by omega)]
  | n + 1, k + 1, p, m, g, h, h' => by
    show (if m ≤ 0 then [] else _) = (if m ≤ 0 then [] else _)
    by_cases c : m ≤ 0
    · rw [if_pos c, if_pos c]
    · rw [if_neg c, if_neg c]
      have h1 := g.lo 0
      have h2 := g.le 0
      rw [fwF_more n k (tl p 1) _ (g.tl 1) (by omega) (by omega)]
theorem fwL_pos {p : Pr} (g : Good p) {m : Int} (h : 0 < m) : fwL p m = min m ((p 0).1 - 1) :: fwL (tl p 1) (m - min m ((p 0).1 - 1)) := by
  unfold fwL
  obtain ⟨n, hn⟩ : ∃ n, m.toNat = n + 1 := ⟨m.toNat - 1, by omega⟩
  rw [hn]
  show (if m ≤ 0 then [] else _) = _
  have h1 := g.lo 0
  have h2 := g.le 0
  rw [if_neg (by omega), fwF_more n (m - min m ((p 0).1 - 1)).toNat (tl p 1) _ (g.tl 1) (by omega) (by omega)]
theorem fwL_zero (p : Pr) {m : Int} (h : m ≤ 0) : fwL p m = [] := by
  unfold fwL
  have : m.toNat = 0 := by omega
  rw [this]; rfl
theorem fwF_valid : ∀ (n : Nat) (p : Pr) (m : Int), Good p → m ≤ n → Valid p (fwF n p m)
  | 0, _, _, _, _ => trivial
  | n + 1, p, m, g, h => by
    show Valid p (if m ≤ 0 then [] else _)
    have h1 := g.lo 0
    have h2 := g.le 0
    by_cases c : m ≤ 0
    · rw [if_pos c]; trivial
    · rw [if_neg c]
      have ih := fwF_valid n (tl p 1) (m - min m ((p 0).1 - 1)) (g.tl 1) (by omega)
      cases e : fwF n (tl p 1) (m - min m ((p 0).1 - 1)) with
      | nil => exact ⟨by omega, by omega⟩
      | cons y ys =>
        rw [e] at ih
        have : ¬ (m - min m ((p 0).1 - 1) ≤ 0) := by
          intro z
          cases n with
          | zero => simp [fwF] at e
          | succ n => simp [fwF, if_pos z] at e
        exact ⟨by omega, by omega, ih⟩
theorem fwL_valid {p : Pr} (g : Good p) (m : Int) : Valid p (fwL p m) := fwF_valid _ p m g (by omega)
theorem fwF_len : ∀ (n : Nat) (p : Pr) (m : Int), (fwF n p m).length ≤ n
  | 0, _, _ => Nat.le_refl _
  | n + 1, p, m => by
    show (if m ≤ 0 then [] else _).length ≤ _
    split
    · exact Nat.zero_le _
    · rw [List.length_cons]; have := fwF_len n (tl p 1) (m - min m ((p 0).1 - 1)); omega
theorem fwL_len (p : Pr) (m : Int) : (fwL p m).length ≤ m.toNat := fwF_len _ p m
theorem firstWith_tl {p : Pr} (g : Good p) {m : Int} (h : (p 0).1 - 1 < m) : firstWith p m = ((p 0).1 - 1) + (p 0).2 * firstWith (tl p 1) (m - ((p 0).1 - 1)) := by
  have h1 := g.lo 0
  have h2 := g.le 0
  unfold firstWith
  rw [fwL_pos g (by omega)]
  have e : min m ((p 0).1 - 1) = (p 0).1 - 1 := by omega
  rw [e]
  rfl
end Silt
set_option linter.all false
namespace Silt
/-- what digits from grade k on are worth -/
def sv (p : Pr) : Nat → List Int → Int
  | _, [] => 0
  | k, x :: xs => size p k * x + sv p (k + 1) xs
theorem sv_tl (p : Pr) : ∀ (k : Nat) (xs : List Int), sv p (k + 1) xs = (p 0).2 * sv (tl p 1) k xs
  | _, [] => by simp [sv]
  | k, x :: xs => by
    show size p (k + 1) * x + sv p (k + 1 + 1) xs = (p 0).2 * (size (tl p 1) k * x + sv (tl p 1) (k + 1) xs)
    rw [sv_tl p (k + 1) xs, size_tl, Int.mul_add, Int.mul_assoc]
theorem value_sv : ∀ (xs : List Int) (p : Pr), value p xs = sv p 0 xs
  | [], _ => rfl
  | x :: xs, p => by
    show x + (p 0).2 * value (tl p 1) xs = size p 0 * x + sv p (0 + 1) xs
    rw [value_sv xs (tl p 1), sv_tl]
    simp [size]
/-! ### layers -/
def lyN (last s : Int) (k : Nat) (n : Nat) : List (Int × Int × Int) := (List.range n).map fun (i : Nat) => (last + (i : Int) * s + 1, last + (i : Int) * s + s, (k : Int))
theorem lyN_succ (last s : Int) (k n : Nat) : lyN last s k (n + 1) = lyN last s k n ++ [(last + (n : Int) * s + 1, last + (n : Int) * s + s, (k : Int))] := by
  unfold lyN
  rw [List.range_succ, List.map_append]
  rfl
def LY (p : Pr) : Nat → List Int → List (Int × Int × Int) × Int
  | _, [] => ([], 0)
  | k, x :: xs => ((LY p (k + 1) xs).1 ++ lyN (LY p (k + 1) xs).2 (size p k) k x.toNat, (LY p (k + 1) xs).2 + (x.toNat : Int) * size p k)
def layersL (p : Pr) (d : Int) : List (Int × Int × Int) := (LY p 0 (digits p d)).1
def upL (b : Int) (r : Int × Int × Int) : Int × Int × Int := ((r.1 - 1) * b + 1, r.2.1 * b, r.2.2 + 1)
theorem LY_tl (p : Pr) : ∀ (k : Nat) (xs : List Int), LY p (k + 1) xs = ((LY (tl p 1) k xs).1.map (upL (p 0).2), (LY (tl p 1) k xs).2 * (p 0).2)
  | _, [] => by simp [LY]
  | k, x :: xs => by
    show ((LY p (k + 1 + 1) xs).1 ++ lyN (LY p (k + 1 + 1) xs).2 (size p (k + 1)) (k + 1) x.toNat, (LY p (k + 1 + 1) xs).2 + (x.toNat : Int) * size p (k + 1)) =
      (List.map (upL (p 0).2) ((LY (tl p 1) (k + 1) xs).1 ++ lyN (LY (tl p 1) (k + 1) xs).2 (size (tl p 1) k) k x.toNat), ((LY (tl p 1) (k + 1) xs).2 + (x.toNat : Int) * size (tl p 1) k) * (p 0).2)
    rw [LY_tl p (k + 1) xs, size_tl, List.map_append]
    generalize (LY (tl p 1) (k + 1) xs).2 = l
    generalize size (tl p 1) k = s
    generalize (p 0).2 = b
    have e1 : ∀ i : Int, i * (b * s) = i * s * b := fun i => by rw [Int.mul_comm b s, Int.mul_assoc]
    congr 1
    · congr 1
      unfold lyN
      rw [List.map_map]
      refine List.map_congr_left fun i _ => ?_
      show _ = ((l + (i : Int) * s + 1 - 1) * b + 1, (l + (i : Int) * s + s) * b, (k : Int) + 1)
      have h1 : l * b + (i : Int) * (b * s) + 1 = (l + (i : Int) * s + 1 - 1) * b + 1 := by
        rw [e1]
        have : l + (i : Int) * s + 1 - 1 = l + (i : Int) * s := by omega
        rw [this, Int.add_mul]
      have h2 : l * b + (i : Int) * (b * s) + b * s = (l + (i : Int) * s + s) * b := by
        rw [e1, Int.add_mul, Int.add_mul, Int.mul_comm b s]
      have h3 : (((k + 1 : Nat)) : Int) = (k : Int) + 1 := by omega
      rw [h1, h2, h3]
    · rw [e1, Int.add_mul]
theorem layersL_tl {p : Pr} (g : Good p) {d : Int} (hd : 0 ≤ d) : ∃ r, layersL p d = (layersL (tl p 1) (late p d)).map (upL (p 0).2) ++ r := by
  unfold layersL
  by_cases c : d ≤ 0
  · have e : d = 0 := by omega
    subst e
    have h1 := g.lo 0
    have h2 := g.le 0
    have := neg_ediv_le (a := 0 - (p 0).1 + (p 0).2) (s := (p 0).2) (by omega) (by omega)
    have e : late p 0 = 0 := by unfold late; omega
    rw [e, digits_zero p (by omega), digits_zero (tl p 1) (by omega)]
    exact ⟨[], rfl⟩
  · rw [digits_pos g (by omega)]
    exact ⟨lyN (LY p 1 (digits (tl p 1) (late p d))).2 (size p 0) 0 (d - (p 0).2 * late p d).toNat, by
      show (LY p (0 + 1) (digits (tl p 1) (late p d))).1 ++ _ = _
      rw [LY_tl]⟩
theorem LY_len (p : Pr) : ∀ (k : Nat) (xs : List Int), (∀ x ∈ xs, x ≤ 12) → (LY p k xs).1.length ≤ 12 * xs.length
  | _, [], _ => by simp [LY]
  | k, x :: xs, h => by
    show ((LY p (k + 1) xs).1 ++ lyN (LY p (k + 1) xs).2 (size p k) k x.toNat).length ≤ _
    rw [List.length_append, List.length_cons]
    have h1 := LY_len p (k + 1) xs fun y hy => h y (List.mem_cons_of_mem _ hy)
    have h2 := h x List.mem_cons_self
    have h3 : (lyN (LY p (k + 1) xs).2 (size p k) k x.toNat).length = x.toNat := by unfold lyN; simp
    omega
/-! ### places -/
def PL (p : Pr) (day : Int) : Nat → List Int → Sum (Int × Int) (Int × Int)
  | _, [] => .inr (0, 0)
  | k, x :: xs => match PL p day (k + 1) xs with
    | .inl r => .inl r
    | .inr (l, n) => if day ≤ l + size p k * x then .inl ((k : Int), n + (day - l - 1) / size p k) else .inr (l + size p k * x, n + x)
theorem PL_step {p : Pr} {day : Int} {k : Nat} {x : Int} {xs : List Int} {l n : Int} (h : PL p day (k + 1) xs = .inr (l, n)) :
    PL p day k (x :: xs) = if day ≤ l + size p k * x then .inl ((k : Int), n + (day - l - 1) / size p k) else .inr (l + size p k * x, n + x) := by
  unfold PL
  rw [h]
theorem PL_keep {p : Pr} {day : Int} {k : Nat} {x : Int} {xs : List Int} {r : Int × Int} (h : PL p day (k + 1) xs = .inl r) : PL p day k (x :: xs) = .inl r := by
  unfold PL
  rw [h]
/-- found at a grade: found -/
theorem PL_down {p : Pr} {day : Int} {r : Int × Int} {ds : List Int} : ∀ (j : Nat), j ≤ ds.length → PL p day j (ds.drop j) = .inl r → PL p day 0 ds = .inl r
  | 0, _, h => by simpa using h
  | j + 1, hj, h => by
    refine PL_down j (by omega) ?_
    rw [List.drop_eq_getElem_cons (by omega : j < ds.length)]
    exact PL_keep h
theorem PL_sv {p : Pr} {day : Int} : ∀ (k : Nat) (xs : List Int) (l n : Int), PL p day k xs = .inr (l, n) → l = sv p k xs ∧ (xs = [] ∨ l < day)
  | _, [], l, n, h => by
    have h' : (0, 0) = (l, n) := Sum.inr.inj h
    exact ⟨(Prod.mk.inj h').1.symm, .inl rfl⟩
  | k, x :: xs, l, n, h => by
    cases e : PL p day (k + 1) xs with
    | inl r => rw [PL_keep e] at h; cases h
    | inr r =>
      obtain ⟨l1, n1⟩ := r
      rw [PL_step e] at h
      have q := PL_sv (k + 1) xs l1 n1 e
      by_cases c : day ≤ l1 + size p k * x
      · rw [if_pos c] at h; cases h
      · rw [if_neg c] at h
        have h' := Prod.mk.inj (Sum.inr.inj h)
        refine ⟨?_, .inr (by omega)⟩
        show l = size p k * x + sv p (k + 1) xs
        rw [← h'.1, q.1]; omega
theorem sv_nn {p : Pr} (g : Good p) : ∀ (k : Nat) (xs : List Int), (∀ x ∈ xs, 0 ≤ x) → 0 ≤ sv p k xs
  | _, [], _ => Int.le_refl _
  | k, x :: xs, h => by
    have h1 := sv_nn g (k + 1) xs fun y hy => h y (List.mem_cons_of_mem _ hy)
    have h2 : 0 ≤ size p k * x := Int.mul_nonneg (by have := size_pos g k; omega) (h x List.mem_cons_self)
    show 0 ≤ size p k * x + sv p (k + 1) xs
    omega
theorem PL_inl_le {p : Pr} (g : Good p) {day : Int} : ∀ (k : Nat) (xs : List Int) (r : Int × Int), (∀ x ∈ xs, 0 ≤ x) → PL p day k xs = .inl r → day ≤ sv p k xs ∧ (k : Int) ≤ r.1
  | _, [], r, _, h => by cases h
  | k, x :: xs, r, hx, h => by
    have h2 : 0 ≤ size p k * x := Int.mul_nonneg (by have := size_pos g k; omega) (hx x List.mem_cons_self)
    show day ≤ size p k * x + sv p (k + 1) xs ∧ _
    cases e : PL p day (k + 1) xs with
    | inl r1 =>
      rw [PL_keep e] at h
      cases h
      have q := PL_inl_le g (k + 1) xs r (fun y hy => hx y (List.mem_cons_of_mem _ hy)) e
      omega
    | inr r1 =>
      obtain ⟨l1, n1⟩ := r1
      rw [PL_step e] at h
      have q := PL_sv (k + 1) xs l1 n1 e
      by_cases c : day ≤ l1 + size p k * x
      · rw [if_pos c] at h
        have h' := Sum.inl.inj h
        rw [← h']
        exact ⟨by omega, Int.le_refl _⟩
      · rw [if_neg c] at h; cases h
theorem PL_tl {p : Pr} (g : Good p) (day : Int) : ∀ (k : Nat) (xs : List Int), PL p day (k + 1) xs = match PL (tl p 1) ((day + (p 0).2 - 1) / (p 0).2) k xs with
    | .inl (gr, n) => .inl (gr + 1, n)
    | .inr (l, n) => .inr ((p 0).2 * l, n)
  | _, [] => by simp [PL]
  | k, x :: xs => by
    have ih := PL_tl g day (k + 1) xs
    have hb := g.lo 0
    cases e : PL (tl p 1) ((day + (p 0).2 - 1) / (p 0).2) (k + 1) xs with
    | inl r =>
      obtain ⟨gr, n⟩ := r
      rw [e] at ih
      rw [PL_keep ih, PL_keep e]
    | inr r =>
      obtain ⟨l, n⟩ := r
      rw [e] at ih
      rw [PL_step ih, PL_step e, size_tl]
      have hs := size_pos (g.tl 1) k
      generalize size (tl p 1) k = s at *
      generalize (p 0).2 = b at *
      have hb0 : 0 < b := by omega
      have f1 := Int.emod_add_mul_ediv (day + b - 1) b
      have f2 := Int.emod_nonneg (day + b - 1) (by omega : b ≠ 0)
      have f3 := Int.emod_lt_of_pos (day + b - 1) hb0
      generalize hq : (day + b - 1) / b = q at *
      generalize hr : (day + b - 1) % b = r at *
      have e1 : b * l + b * s * x = b * (l + s * x) := by rw [Int.mul_add, Int.mul_assoc]
      have hc : (day ≤ b * l + b * s * x) ↔ (q ≤ l + s * x) := by
        rw [e1]
        constructor
        · intro z
          have : b * q < b * (l + s * x + 1) := by rw [Int.mul_add]; omega
          have := Int.lt_of_mul_lt_mul_left this (by omega)
          omega
        · intro z
          have : b * q ≤ b * (l + s * x) := Int.mul_le_mul_of_nonneg_left z (by omega)
          omega
      by_cases c : q ≤ l + s * x
      · rw [if_pos c, if_pos (hc.mpr c)]
        have e2 : (day - b * l - 1) / (b * s) = (q - l - 1) / s := by
          have e3 : day - b * l - 1 = (day - 1) - b * l := by omega
          rw [e3, ediv_shift hb0 hs]
          congr 1
          have : day - 1 = (r - (0 : Int)) + b * (q - 1) := by rw [Int.mul_sub]; omega
          rw [this, Int.add_mul_ediv_left _ _ (by omega : b ≠ 0), Int.sub_zero, Int.ediv_eq_zero_of_lt f2 f3]
          omega
        rw [e2]
        have : (((k + 1 : Nat)) : Int) = (k : Int) + 1 := by omega
        rw [this]
      · rw [if_neg c, if_neg (fun z => c (hc.mp z)), e1]
theorem valid_le {p : Pr} (g : Good p) {ds : List Int} (v : Valid p ds) : ∀ x ∈ ds, 0 ≤ x ∧ x ≤ 12 := by
  intro x hx
  obtain ⟨i, hi, e⟩ := List.mem_iff_getElem.mp hx
  have q := valid_get ds p i x v (by rw [List.getElem?_eq_getElem hi, e])
  have h1 := g.lo i
  have h2 := g.le i
  have h3 := g.hi i
  refine ⟨?_, by omega⟩
  have := q.2
  split at this <;> omega
theorem digits_len {p : Pr} (g : Good p) : ∀ (n : Nat) (d : Int), 0 ≤ d → d < ((2 ^ n : Nat) : Int) → (digits p d).length ≤ n
  | 0, d, h0, h => by
    have : d = 0 := by simp at h; omega
    subst this
    rw [digits_zero p (by omega)]
    exact Nat.le_refl _
  | n + 1, d, h0, h => by
    by_cases c : d ≤ 0
    · rw [digits_zero p c]; exact Nat.zero_le _
    · rw [digits_pos g (by omega), List.length_cons]
      have l0 := late_nn p d
      have l2 : late p d * 2 ≤ d := by
        have h1 := g.lo 0
        have h2 := g.le 0
        unfold late
        by_cases q : 0 ≤ (d - (p 0).1 + (p 0).2) / (p 0).2
        · have e : max 0 ((d - (p 0).1 + (p 0).2) / (p 0).2) = (d - (p 0).1 + (p 0).2) / (p 0).2 := by omega
          rw [e]
          have e3 := Int.ediv_mul_le (d - (p 0).1 + (p 0).2) (by omega : (p 0).2 ≠ 0)
          have e4 : (d - (p 0).1 + (p 0).2) / (p 0).2 * 2 ≤ (d - (p 0).1 + (p 0).2) / (p 0).2 * (p 0).2 := Int.mul_le_mul_of_nonneg_left h1 q
          omega
        · have e : max 0 ((d - (p 0).1 + (p 0).2) / (p 0).2) = 0 := by omega
          rw [e]; omega
      have e : ((2 ^ (n + 1) : Nat) : Int) = ((2 ^ n : Nat) : Int) * 2 := by rw [Nat.pow_succ]; omega
      rw [e] at h
      have := digits_len (g.tl 1) n (late p d) l0 (by omega)
      omega
end Silt
set_option linter.all false
namespace Silt
/-- the item of a grade, told by a front and a period -/
def atO {α : Type} (f q : List α) (g : Nat) : Option α := if g < f.length then f[g]? else q[(g - f.length) % q.length]?
theorem atO_some {α : Type} {f q : List α} (hq : q ≠ []) (g : Nat) : ∃ x, atO f q g = some x ∧ (x ∈ f ∨ x ∈ q) := by
  unfold atO
  by_cases c : g < f.length
  · rw [if_pos c, List.getElem?_eq_getElem c]
    exact ⟨_, rfl, .inl (List.getElem_mem c)⟩
  · rw [if_neg c]
    have h0 : 0 < q.length := List.length_pos_iff.mpr hq
    have h1 : (g - f.length) % q.length < q.length := Nat.mod_lt _ h0
    rw [List.getElem?_eq_getElem h1]
    exact ⟨_, rfl, .inr (List.getElem_mem h1)⟩
/-- the last of the front goes ahead of the period -/
theorem atO_turn {α : Type} (f q : List α) (x : α) (g : Nat) : atO f (x :: q) g = atO (f ++ [x]) (q ++ [x]) g := by
  unfold atO
  rw [List.length_append, List.length_singleton, List.length_append, List.length_singleton, List.length_cons]
  by_cases c : g < f.length
  · rw [if_pos c, if_pos (by omega), List.getElem?_append_left c]
  · rw [if_neg c]
    by_cases c2 : g = f.length
    · subst c2
      rw [if_pos (by omega), Nat.sub_self, Nat.zero_mod, List.getElem?_append_right (Nat.le_refl _), Nat.sub_self]
      rfl
    · rw [if_neg (by omega)]
      obtain ⟨j, hj⟩ : ∃ j, g - f.length = j + 1 := ⟨g - f.length - 1, by omega⟩
      have hj2 : g - (f.length + 1) = j := by omega
      rw [hj, hj2]
      have hn : 0 < q.length + 1 := Nat.succ_pos _
      have hlt := Nat.mod_lt j hn
      by_cases c3 : j % (q.length + 1) = q.length
      · have e : (j + 1) % (q.length + 1) = 0 := by
          rw [Nat.add_mod, c3]
          by_cases z : q.length = 0
          · rw [z]
          · rw [Nat.mod_eq_of_lt (by omega : 1 < q.length + 1), Nat.mod_self]
        rw [e, c3, List.getElem?_append_right (Nat.le_refl _), Nat.sub_self]
        rfl
      · have e : (j + 1) % (q.length + 1) = j % (q.length + 1) + 1 := by
          rw [Nat.add_mod]
          by_cases z : q.length = 0
          · rw [z] at hlt c3; omega
          · rw [Nat.mod_eq_of_lt (by omega : 1 < q.length + 1), Nat.mod_eq_of_lt (by omega)]
        rw [e, List.getElem?_cons_succ, List.getElem?_append_left (by omega)]
theorem flat_get {α : Type} (r : List α) (h : r ≠ []) : ∀ (k i : Nat), i < k * r.length → (List.replicate k r).flatten[i]? = r[i % r.length]?
  | 0, i, hi => by simp at hi
  | k + 1, i, hi => by
    have h0 : 0 < r.length := List.length_pos_iff.mpr h
    rw [List.replicate_succ, List.flatten_cons]
    by_cases c : i < r.length
    · rw [List.getElem?_append_left c, Nat.mod_eq_of_lt c]
    · rw [List.getElem?_append_right (by omega), flat_get r h k (i - r.length) (by rw [Nat.succ_mul] at hi; omega)]
      congr 1
      rw [Nat.mod_eq_sub_mod (by omega : i ≥ r.length)]
theorem flat_len {α : Type} (r : List α) (k : Nat) : (List.replicate k r).flatten.length = k * r.length := by
  induction k with
  | zero => simp
  | succ k ih => rw [List.replicate_succ, List.flatten_cons, List.length_append, ih, Nat.succ_mul]; omega
/-- a period told several times over -/
theorem atO_rep {α : Type} (f r : List α) (h : r ≠ []) {k : Nat} (hk : 0 < k) (g : Nat) : atO f r g = atO f (List.replicate k r).flatten g := by
  unfold atO
  by_cases c : g < f.length
  · rw [if_pos c, if_pos c]
  · rw [if_neg c, if_neg c, flat_len]
    have h0 : 0 < r.length := List.length_pos_iff.mpr h
    have h1 : (g - f.length) % (k * r.length) < k * r.length := Nat.mod_lt _ (Nat.mul_pos hk h0)
    rw [flat_get r h k _ h1, Nat.mod_mul_left_mod]
end Silt
set_option linter.all false
namespace Silt
theorem late_zero {p : Pr} (g : Good p) : late p 0 = 0 := by
  have h1 := g.lo 0
  have h2 := g.le 0
  have := neg_ediv_le (a := 0 - (p 0).1 + (p 0).2) (s := (p 0).2) (by omega) (by omega)
  unfold late; omega
theorem late_le {p : Pr} (g : Good p) {d : Int} (h : 0 ≤ d) : late p d ≤ d := by
  by_cases c : d = 0
  · rw [c, late_zero g]; exact Int.le_refl _
  · have := late_lt g (d := d) (by omega); omega
theorem digits_drop {p : Pr} (g : Good p) {d : Int} (h : 0 ≤ d) : (digits p d).drop 1 = digits (tl p 1) (late p d) := by
  by_cases c : d = 0
  · rw [c, late_zero g, digits_zero p (by omega), digits_zero (tl p 1) (by omega)]; rfl
  · rw [digits_pos g (by omega)]; rfl
def head0 (p : Pr) (d : Int) : Int := if d ≤ 0 then 0 else d - (p 0).2 * late p d
theorem head_get {p : Pr} (g : Good p) (d : Int) : (digits p d ++ [0])[0]? = some (head0 p d) := by
  unfold head0
  by_cases c : d ≤ 0
  · rw [digits_zero p c, if_pos c]; rfl
  · rw [digits_pos g (by omega), if_neg c]; rfl
theorem head_sum {p : Pr} (g : Good p) {d : Int} (h : 0 ≤ d) : (digits p d).sum - head0 p d = (digits (tl p 1) (late p d)).sum := by
  unfold head0
  by_cases c : d ≤ 0
  · have e : d = 0 := by omega
    subst e
    rw [if_pos c, late_zero g, digits_zero p (by omega), digits_zero (tl p 1) (by omega)]; rfl
  · rw [digits_pos g (by omega), if_neg c, List.sum_cons]; omega
theorem head_bound {p : Pr} (g : Good p) {d : Int} (h : 0 ≤ d) : 0 ≤ head0 p d ∧ head0 p d ≤ 12 := by
  unfold head0
  by_cases c : d ≤ 0
  · rw [if_pos c]; omega
  · rw [if_neg c]
    have := digit_lt g (d := d) (by omega)
    have := g.hi 0
    omega
theorem nextBaked_lo {p : Pr} (g : Good p) (k : Nat) (d : Int) : 1 ≤ nextBaked p k d := by
  have h1 := size_pos g (k + 1)
  have h2 := owed_nn g (k + 1)
  unfold nextBaked
  have : size p (k + 1) * 1 ≤ size p (k + 1) * max 1 ((d - owed p (k + 1)) / size p (k + 1) + 1) := Int.mul_le_mul_of_nonneg_left (by omega) (by omega)
  omega
theorem nextBaked_hi {p : Pr} (g : Good p) (k : Nat) {d : Int} (hd : 0 ≤ d) : nextBaked p k d ≤ owed p (k + 1) + size p (k + 1) * (d + 1) := by
  have h1 := size_pos g (k + 1)
  have h3 := made_le g (k + 1) hd
  unfold made at h3
  unfold nextBaked
  have : size p (k + 1) * max 1 ((d - owed p (k + 1)) / size p (k + 1) + 1) ≤ size p (k + 1) * (d + 1) := Int.mul_le_mul_of_nonneg_left (by omega) (by omega)
  omega
theorem nextBaked_tl {p : Pr} (g : Good p) (k : Nat) (d : Int) : nextBaked p 0 (nextBaked p (k + 1) d - 1) = nextBaked p (k + 1) d := by
  have hb := g.lo 0
  have e1 : owed p (0 + 1) = (p 0).1 - (p 0).2 := by simp [owed, size]
  have e2 : size p (0 + 1) = (p 0).2 := by simp [size]
  have hs := size_pos (g.tl 1) (k + 1)
  have ho := owed_nn (g.tl 1) (k + 1)
  have key : nextBaked p (k + 1) d = ((p 0).1 - (p 0).2) + (p 0).2 * (owed (tl p 1) (k + 1) + size (tl p 1) (k + 1) * max 1 ((d - owed p (k + 1 + 1)) / size p (k + 1 + 1) + 1)) := by
    show owed p (k + 1 + 1) + size p (k + 1 + 1) * _ = _
    rw [Int.mul_add, ← Int.mul_assoc, ← size_tl p (k + 1), owed_tl p (k + 1)]
    omega
  generalize hM : max 1 ((d - owed p (k + 1 + 1)) / size p (k + 1 + 1) + 1) = M at key
  have hM1 : 1 ≤ M := by omega
  have hq : 1 ≤ owed (tl p 1) (k + 1) + size (tl p 1) (k + 1) * M := by
    have : size (tl p 1) (k + 1) * 1 ≤ size (tl p 1) (k + 1) * M := Int.mul_le_mul_of_nonneg_left hM1 (by omega)
    omega
  generalize owed (tl p 1) (k + 1) + size (tl p 1) (k + 1) * M = q at key hq
  rw [key]
  unfold nextBaked
  rw [e1, e2]
  generalize (p 0).2 = b at *
  generalize (p 0).1 = w at *
  have : (w - b + b * q - 1 - (w - b)) / b = q - 1 := by
    have : w - b + b * q - 1 - (w - b) = (b - 1) + b * (q - 1) := by rw [Int.mul_sub]; omega
    rw [this, Int.add_mul_ediv_left _ _ (by omega : b ≠ 0), Int.ediv_eq_zero_of_lt (by omega) (by omega)]
    omega
  rw [this]
  have : max 1 (q - 1 + 1) = q := by omega
  rw [this]
/-- a day that lies in a grade above 0 lies in the rest -/
theorem PL_rest {p : Pr} (g : Good p) {one d : Int} {r : Int × Int} (hd : 0 < d) (h : PL p one 0 (digits p d) = .inl r) (hr : 0 < r.1) :
    PL (tl p 1) ((one + (p 0).2 - 1) / (p 0).2) 0 (digits (tl p 1) (late p d)) = .inl (r.1 - 1, r.2) ∧ (one + (p 0).2 - 1) / (p 0).2 ≤ late p d := by
  rw [digits_pos g hd] at h
  have t := PL_tl g one 0 (digits (tl p 1) (late p d))
  cases e : PL (tl p 1) ((one + (p 0).2 - 1) / (p 0).2) 0 (digits (tl p 1) (late p d)) with
  | inl r1 =>
    obtain ⟨gr, n⟩ := r1
    rw [e] at t
    have h2 := PL_keep (k := 0) (x := d - (p 0).2 * late p d) t
    rw [h2] at h
    have h3 := Sum.inl.inj h
    rw [← h3]
    refine ⟨by congr 2; show gr = gr + 1 - 1; omega, ?_⟩
    have l0 := late_nn p d
    have q := PL_inl_le (g.tl 1) 0 _ _ (fun y hy => (valid_le (g.tl 1) (valid_digits (g.tl 1) l0) y hy).1) e
    rw [← value_sv, value_digits (g.tl 1) l0] at q
    exact q.1
  | inr r1 =>
    obtain ⟨l, n⟩ := r1
    rw [e] at t
    rw [PL_step t] at h
    by_cases c : one ≤ (p 0).2 * l + size p 0 * (d - (p 0).2 * late p d)
    · rw [if_pos c] at h
      have h3 := Sum.inl.inj h
      rw [← h3] at hr
      simp at hr
    · rw [if_neg c] at h; cases h
end Silt
set_option Elab.async false
set_option linter.all false
set_option maxRecDepth 100000
set_option maxHeartbeats 4000000
namespace L2
open PySem PySem.Spec PyProof.Rows
section
variable {X : Cx} {CX : CXT} {k j : Nat} {f C : Addr} {fd : FuncData} {ps : List Str} {sp : Sp} {dvs : List V} {ds : List Value} {E : XK} {pos : Pos} {a b : Expr} {ta tb : TE}
/-- the callee runs one level within a built-in's body -/
theorem run_fn1 {pins : List (Addr × Obj)} {σ : St} {H : Hp} {s : Shared} {Q : VK} {us : List Value} {vs : List V} (F : FnOk X.prog X.w X.K X.mg X.base CX k f fd ps sp) (hr : Room (k + 1) X.A) (hb : Binds X.K fd ps ds) (hd : Vals dvs ds) (hx : Passes CX X E)
    (I : Inv X pins σ H s) (r : Vals vs us) (h : sp (vs ++ dvs) H Q E) : wpAny (model X.prog X.w) X.A.in1 (call (.ref f) us) (EP X pins σ Q) X.xe s := by
  have r2 : Vals (vs ++ dvs) (us ++ ds) := r.append hd
  have hl : (us ++ ds).length = ps.length := by rw [← r2.length]; exact F.len _ _ _ _ h
  refine wpAny_call (codeAny_mono (F.run X.A.in1 X.stack s H ⟨us, []⟩ (us ++ ds) (vs ++ dvs) Q E hr.in1 I.env0.in1 (hb s us I.kIn hl) r2 h) fun r s' hq => ?_)
  cases r with
  | error e => exact hx pins σ H s e s' I hq
  | ok fl =>
    cases fl with
    | ret u => exact I.after hq
    | next => exact False.elim hq
    | brk => exact False.elim hq
    | cont => exact False.elim hq
/-- o[i] of an own class with its own __getitem__ -/
def rOwnI (C : Addr) (sp : Sp) (dvs : List V) : R2 := fun x y H Q => ∃ a dx fs, x = .ref a ∧ H a = some (.ins C dx fs) ∧ sp (x :: ([y] ++ dvs)) H Q C8.E0
theorem pe_ixO (c : C8.Met X.prog X.w X.K X.mg X.base k C "__getitem__" sp dvs) (hr : Room j X.A) (hk : k + 1 ≤ j) (ha : PE X a ta) (hb : PE X b tb) (hfn : ∀ f, PySem.W.findIn X.K (.ref C) "__getitem__" = some (some (.ref f)) → PySem.W.fnIn X.K f = true)
    (hs : ∀ o i, subscripted b true o i = runValue (.builtin "lifetime.subscript" ⟨[o, i], []⟩) := by intro _ _; first | rfl | with_unfolding_all rfl) :
    PE X (.Subscript a b pos) (tOp (rOwnI C sp dvs) ta tb) := by
  obtain ⟨f, fd, ps, ds, cl, hm, F, bd, d⟩ := c.ex
  refine ⟨fun pins s σ H Q I h => ?_⟩
  refine Subscript_ (binT ha hb I h fun v u s2 x y H2 I2 rx ry q => ?_)
  obtain ⟨p, dx, fs, rfl, e, q⟩ := q
  obtain rfl : v = Value.ref p := rx
  obtain ⟨mA, O, _, _, _, _⟩ := ins_get I2.hok e
  obtain ⟨od, J, _⟩ := O.look
  obtain ⟨m, F0⟩ := I2.fr
  refine PySem.W.sub_K F0 I2.ok.mod.kin J hm.at_ (hfn _ hm.at_) hm.fn ?_ (hs _ _)
  exact run_fn1 (us := [.ref p, u]) (vs := [.ref p, y]) F (hr.mono hk) bd d C8.pass0 I2 (.cons rfl (.cons ry .nil)) q

/-! ### names as slots -/
theorem pg_n (i : Nat) {x : Str} {pos : Pos} (hN : X.N.Nodup) (hi : X.N[i]? = some x := by rfl) (hx : Loc X.env.scope x := by first | exact .inl rfl | exact .inr rfl) (hf : X.fn x = true ∨ X.env.scope.names.lookup x = some .local := by first | exact .inl rfl | exact .inr rfl) : PG X (.Name x pos) (gName i) := pg_name hN hi hx hf
theorem ps_s (i : Nat) {x : Str} {e : Expr} {te : TE} {pos' : Pos} (hN : X.N.Nodup) (he : PE X e te) (hi : X.N[i]? = some x := by rfl) (hx : Loc X.env.scope x := by first | exact .inl rfl | exact .inr rfl) (hs : swapsWith e (some (.Name x pos')) pos.line X.env = pure false := by rfl) (hf : X.fn x = true ∨ X.env.scope.names.lookup x = some .local := by first | exact .inl rfl | exact .inr rfl) :
    PS X (.Assign [.Name x pos'] e pos) (tAsg te (gName i)) := ps_set hN hi hx he hs hf
theorem ps_au (i : Nat) {x : Str} {e : Expr} {te : TE} {op : Operator} {ti : TIp} {pos' : Pos} (hN : X.N.Nodup) (he : PE X e te) (ho : PIp X op ti) (hi : X.N[i]? = some x := by rfl) (hx : Loc X.env.scope x := by first | exact .inl rfl | exact .inr rfl) (hf : X.fn x = true ∨ X.env.scope.names.lookup x = some .local := by first | exact .inl rfl | exact .inr rfl) :
    PS X (.AugAssign (.Name x pos') op e pos) (tAug i te ti) := ps_aug hN hi hx he ho hf
/-! ### a drawing list: item 0 is the script, item 1 some int (which one is not told) -/
def DrawO (a sc : Addr) : HO := .ext fun h => ∃ (i : Int) (t : Tok) (n : Nat), h.get? a = some { cls := .type "list", data := .seq #[.ref sc, .int i t] n }
theorem drawO_new {P : Program} {w : World} {H : Hp} {h : Heap} {a sc : Addr} {i : Int} {t : Tok} {n : Nat} (e : h.get? a = some { cls := .type "list", data := .seq #[.ref sc, .int i t] n }) : ObjOk P w H h a (DrawO a sc) :=
  ⟨⟨i, t, n, e⟩, ⟨_, e⟩, fun h1 h2 ⟨i, t, n, e⟩ k => ⟨i, t, n, k _ e⟩⟩
/-- [script, 0] -/
def tDraw (t : TA) : TE := fun σ H Q => t σ H fun xs H1 => ∃ sc i, xs = [.ref sc, .int i] ∧ ∀ p, H1 p = none → Q (.ref p) (upd H1 p (DrawO p sc))
theorem pe_draw {es : List Expr} {t : TA} (h : PA X es t) : PE X (.List es pos) (tDraw t) := by
  refine ⟨fun pins s σ H Q I hq => ?_⟩
  refine wpAny_List_spliced (thn (h.run pos pins s σ H _ I hq) fun us s1 ⟨xs, H1, I1, r, sc, i, e, q⟩ => ?_)
  subst e
  obtain ⟨u1, u2, rfl, r1, r2⟩ := vals2 r
  obtain rfl : u1 = Value.ref sc := r1
  obtain ⟨t, rfl⟩ := r2
  refine ⟨by show 2 ≤ sizeLine; decide, ?_⟩
  have hf : H1 s1.heap.objs.size = none := I1.hok.fresh (Nat.le_refl _)
  refine ⟨.ref s1.heap.objs.size, upd H1 s1.heap.objs.size (DrawO s1.heap.objs.size sc), I1.laid (t' := s1.toks) (fun b u e => Heap.get?_push_of_some _ e) (Nat.le_refl _) ?_, rfl, q _ hf⟩
  exact drawO_new (i := i) (t := t) (n := 0) (Heap.get?_push_size _ rfl)
theorem draw_get {pins : List (Addr × Obj)} {σ : St} {H : Hp} {s : Shared} {a sc : Addr} (I : Inv X pins σ H s) (e : H a = some (DrawO a sc)) : ∃ (i : Int) (t : Tok) (n : Nat), s.heap.get? a = some { cls := .type "list", data := .seq #[.ref sc, .int i t] n } := (I.hok a _ e).1
def rDraw0 : R2 := fun x y H Q => ∃ a sc, x = .ref a ∧ y = .int 0 ∧ H a = some (DrawO a sc) ∧ Q (.ref sc) H
def rDraw1 : R2 := fun x y H Q => ∃ a sc, x = .ref a ∧ y = .int 1 ∧ H a = some (DrawO a sc) ∧ ∀ i : Int, Q (.int i) H
theorem ix_draw0 : IxR X rDraw0 := by
  intro value slice pins s σ H x y v u Q I rx ry h hs
  obtain ⟨a, sc, rfl, rfl, e, q⟩ := h
  cases rx
  obtain ⟨t, rfl⟩ := ry
  obtain ⟨i, ti, n, ho⟩ := draw_get I e
  exact item_listR (items := #[.ref sc, .int i ti]) (x := .ref sc) ⟨_, ho, rfl, n, rfl⟩ (by decide) (by decide) (by rfl) ⟨.ref sc, H, I, rfl, q⟩ hs
theorem ix_draw1 : IxR X rDraw1 := by
  intro value slice pins s σ H x y v u Q I rx ry h hs
  obtain ⟨a, sc, rfl, rfl, e, q⟩ := h
  cases rx
  obtain ⟨t, rfl⟩ := ry
  obtain ⟨i, ti, n, ho⟩ := draw_get I e
  exact item_listR (items := #[.ref sc, .int i ti]) (x := .int i ti) ⟨_, ho, rfl, n, rfl⟩ (by decide) (by decide) (by rfl) ⟨.int i, H, I, ⟨ti, rfl⟩, q i⟩ hs
theorem get_draw1 : PGet X rDraw1 := by
  intro pins s σ H x y v u Q I rx ry h
  obtain ⟨a, sc, rfl, rfl, e, q⟩ := h
  cases rx
  obtain ⟨t, rfl⟩ := ry
  obtain ⟨i, ti, n, ho⟩ := draw_get I e
  exact wpAny_getItem_list (items := #[.ref sc, .int i ti]) (x := .int i ti) ⟨_, ho, rfl, n, rfl⟩ (by decide) (by decide) (by rfl) ⟨.int i, H, I, ⟨ti, rfl⟩, q i⟩
def sDraw1 : TSet := fun o i v H Q => ∃ (a sc : Addr) (j : Int), o = .ref a ∧ i = .int 1 ∧ v = .int j ∧ H a = some (DrawO a sc) ∧ Q H
theorem upd_self {H : Hp} {a : Addr} {o : HO} (e : H a = some o) : upd H a o = H := by
  funext b
  unfold upd
  by_cases h : b = a
  · rw [if_pos h, h, e]
  · rw [if_neg h]
theorem set_draw1 : PSet X sDraw1 := by
  intro pins s σ H o i v ov iv u Q I ro ri rv h
  obtain ⟨a, sc, j, rfl, rfl, rfl, e, q⟩ := h
  cases ro
  obtain ⟨t, rfl⟩ := ri
  obtain ⟨t2, rfl⟩ := rv
  obtain ⟨i0, ti, n, ho⟩ := draw_get I e
  have hm : Obj.mapSeq (·.setIfInBounds 1 (.int j t2)) { cls := .type "list", data := .seq #[.ref sc, .int i0 ti] n } = { cls := .type "list", data := .seq #[.ref sc, .int j t2] n } := by rfl
  have g1 : (s.heap.update a (Obj.mapSeq (·.setIfInBounds 1 (.int j t2)))).get? a = some { cls := .type "list", data := .seq #[.ref sc, .int j t2] n } := by
    rw [Heap.get?_update_self _ ho (by rw [hm]; rfl), hm]
  have I' := I.write (x := a) (e := a) (o := DrawO a sc) (h' := s.heap.update a (Obj.mapSeq (·.setIfInBounds 1 (.int j t2)))) (t' := s.toks) (by rw [e]; exact True.intro) (.inl rfl)
    (fun b u hb z => by rw [Heap.get?_update_ne _ _ _ _ hb]; exact z) ⟨_, g1⟩ (drawO_new g1)
  rw [upd_self e] at I'
  exact PySem.W.ki_setAt (items := #[.ref sc, .int i0 ti]) ho (by decide) (by decide) (by show (1 : Int) < 2; decide) ⟨H, I', q⟩
end
end L2
set_option Elab.async false
set_option linter.all false
set_option maxRecDepth 100000
set_option maxHeartbeats 4000000
namespace L2
open PySem PySem.Spec PyProof.Rows
section
variable {X : Cx} {a b c d : Expr} {ta tb tc td : TE} {pos : Pos}
/-- a op1 b op2 c op3 d -/
def tChain3 (r r' r'' : R2) (ta tb tc td : TE) : TE := fun σ H Q => ta σ H fun x H1 => tb σ H1 fun y H2 => r x y H2 fun z H3 => ∃ k, z = .bl k ∧
  (if k = true then tc σ H3 fun w' H4 => r' y w' H4 fun z' H5 => ∃ k', z' = .bl k' ∧ (if k' = true then td σ H5 fun v' H6 => r'' w' v' H6 Q else Q (.bl false) H5) else Q (.bl false) H3)
theorem pe_chain3 {op op' op'' : CmpOp} {r r' r'' : R2} (ho : OpR X (compareOp op) r) (ho' : OpR X (compareOp op') r') (ho'' : OpR X (compareOp op'') r'') (ha : PE X a ta) (hb : PE X b tb) (hc : PE X c tc) (hd : PE X d td)
    (hm : lastMarks [op, op', op''] [b, c, d] = false := by with_unfolding_all rfl) : PE X (.Compare a [op, op', op''] [b, c, d] pos) (tChain3 r r' r'' ta tb tc td) := by
  refine ⟨fun pins s σ H Q I h => ?_⟩
  refine Compare_chain (thn (ha.run pins s σ H _ I h) fun v s1 ⟨x, H1, I1, r1, q1⟩ => chain_link (thn (hb.run pins s1 σ H1 _ I1 q1) fun u s2 ⟨y, H2, I2, r2, q2⟩ =>
    thn (ho pins s2 σ H2 x y v u _ I2 r1 r2 q2) fun d s3 ⟨z, H3, I3, r3, k, e, q3⟩ => ?_)) hm
  subst e
  cases r3
  refine wpAny_truthy_bool ?_
  cases k with
  | false => exact ite_ff ⟨.bl false, H3, I3, rfl, q3⟩
  | true =>
    refine ite_tt (chain_link (thn (hc.run pins s3 σ H3 _ I3 q3) fun w' s4 ⟨z', H4, I4, r4, q4⟩ => thn (ho' pins s4 σ H4 y z' u w' _ I4 r2 r4 q4) fun d s5 ⟨z5, H5, I5, r5, k5, e5, q5⟩ => ?_))
    subst e5
    cases r5
    refine wpAny_truthy_bool ?_
    cases k5 with
    | false => exact ite_ff ⟨.bl false, H5, I5, rfl, q5⟩
    | true => exact ite_tt (chain_last (thn (hd.run pins s5 σ H5 _ I5 q5) fun w6 s6 ⟨z6, H6, I6, r6, q6⟩ => ho'' pins s6 σ H6 z' z6 w' w6 Q I6 r4 r6 q6))
/-- o.f as a target -/
def gFld (K : PySem.W.Frag) (to : TE) (f : Str) : TG := fun v σ H Q => to σ H fun x H1 => ∃ a C dx fs, x = .ref a ∧ H1 a = some (.ins C dx fs) ∧ Cls K C ∧ NoAttr K C f ∧ fs.length < 1000 ∧ Q σ (upd H1 a (.ins C dx (putF f v fs)))
theorem pg_attr {o : Expr} {f : Str} {to : TE} (ho : PE X o to)
    (ha : ∀ v, assign (.Attribute o f pos) X.env v = (do
      let ov ← holding [v] (eval o X.env)
      standAt pos.atName
      holding [v, ov] (setAttr ov f v)
      release [v, ov] []) := by intro _; rfl) : PG X (.Attribute o f pos) (gFld X.K to f) := by
  refine ⟨fun pins s σ H v u Q I r h => ?_⟩
  rw [ha]
  refine wpAny_bind (wpAny_holding (thn (ho.run pins s σ H _ I h) fun ov s1 ⟨x, H1, I1, r1, p, C, dx, fs, ex, e, c, n, hl, q1⟩ => ?_))
  subst ex
  obtain rfl : ov = Value.ref p := r1
  refine wpAny_bind (wpAny_standAt (wpAny_bind (wpAny_holding (setattr_ok I1 e c n hl r fun s2 I2 => ?_))))
  exact wpAny_release ⟨σ, _, I2, q1⟩
/-! ### tuple * 1 is the tuple itself -/
theorem tuple_mul1 (l : Addr) (items : Array Value) (n : Nat) (dd : Option Addr) (sl : Array (Option Value)) (u : Tok) :
    Meets (Builtin.«tuple.__mul__» ⟨[.ref l, .int 1 u], []⟩) (fun _ R s => s.heap.get? l = some { cls := .type "tuple", dict := dd, data := .seq items n, slots := sl } ∧
      R (.ok (.ret (Value.ref l))) s) :=
  .of_wp fun prog w A R s h => by
    obtain ⟨hp, g, d, tk, os⟩ := s
    obtain ⟨hl, h⟩ := h
    have f1 := AutoSeq1.idx_int
    have c1 : (items.isEmpty || (1 : Int) == 1) = true := by simp
    wp_walk using wpAny_loadPart' hl
    exact ⟨_, rfl, h⟩
def rRepT1 (K : PySem.W.Frag) : R2 := fun x y H Q => ∃ l xs, x = .ref l ∧ y = .int 1 ∧ SqT K H l xs ∧ Q (.ref l) H
theorem op_repT1 : OpR X (binaryOp .Mult) (rRepT1 X.K) := by
  intro pins s σ H x y v u Q I rx ry h
  obtain ⟨l, xs, rfl, rfl, hT, q⟩ := h
  cases rx
  obtain ⟨t, rfl⟩ := ry
  obtain ⟨its, r, ⟨⟨cls, dd, data, sl⟩, ho, hc, n, hd⟩, hs⟩ := I.tuple hT
  simp only at hc hd
  subst hc hd
  exact wpAny_binaryOp_repeat_ref (T := "tuple") (U := "int") (by decide) ⟨_, ho, rfl⟩ (fun s' => typeIs_int s' 1 t) noFill_tuple_mul F.fills_int_mul F.slot_int_rmul repeat_tuple F.slot_int_index.lookup
    (call_meets F.slot_int_rmul (typeIs_int s 1 t) F.entry_int_rmul (F.args_int_rmul_2 _ _) (int_rmul_tuple 1 t l its.toArray n dd sl)
      ⟨ho, rfl, ⟨_, ho, rfl⟩, call_meets F.slot_tuple_mul ⟨_, ho, rfl⟩ F.entry_tuple_mul (F.args_tuple_mul_2 _ _) (tuple_mul1 l its.toArray n dd sl t) ⟨ho, ⟨.ref l, H, I, rfl, q⟩⟩⟩)
def rOr (r r' : R2) : R2 := fun x y H Q => r x y H Q ∨ r' x y H Q
theorem opR_or {f : Value → Value → Sem Value} {r r' : R2} (h : OpR X f r) (h' : OpR X f r') : OpR X f (rOr r r') := by
  intro pins s σ H x y v u Q I rx ry q
  rcases q with q | q
  · exact h pins s σ H x y v u Q I rx ry q
  · exact h' pins s σ H x y v u Q I rx ry q
theorem op_repTA : OpR X (binaryOp .Mult) (rOr (rRepT1 X.K) (rRepT X.K)) := opR_or op_repT1 op_repT
end
end L2
set_option Elab.async false
set_option linter.all false
set_option maxRecDepth 100000
set_option maxHeartbeats 4000000
set_option exponentiation.threshold 9000
namespace Sl
open PySem L2 C8 StX
/-! ### great numbers -/
def BBn : Nat := 2 ^ 8900
theorem bbn_pos : 1000000 ≤ BBn := by
  unfold BBn
  have e : (2 : Nat) ^ 8900 = 2 ^ 20 * 2 ^ 8880 := (Nat.pow_add 2 20 8880)
  have : (1 : Nat) ≤ 2 ^ 8880 := Nat.pow_pos (by decide)
  rw [e]
  omega
theorem bbn_lt : BBn < 2 ^ 8901 := by
  unfold BBn
  exact Nat.pow_lt_pow_right (by decide) (by decide)
def BB : Int := (BBn : Nat)
theorem bb_nat {i : Int} (h0 : -BB ≤ i) (h : i ≤ BB) : i.natAbs < 2 ^ 8901 := by
  have := bbn_lt
  unfold BB at h0 h
  generalize (2 : Nat) ^ 8001 = b at *
  omega
theorem bb_pos : 1000000 ≤ BB := by have := bbn_pos; unfold BB; omega
def DDn : Nat := 2 ^ 2000
/-- days are below this -/
def DD : Int := (DDn : Nat)
theorem dd_pos : 1000000 ≤ DD := by
  have : 1000000 ≤ DDn := by
    unfold DDn
    have e : (2 : Nat) ^ 2000 = 2 ^ 20 * 2 ^ 1980 := (Nat.pow_add 2 20 1980)
    have : (1 : Nat) ≤ 2 ^ 1980 := Nat.pow_pos (by decide)
    rw [e]
    omega
  unfold DD; omega
theorem dd_bb : DD * 1000 ≤ BB := by
  have h : DDn * 1000 ≤ BBn := by
    unfold DDn BBn
    have e : (2 : Nat) ^ 8900 = 2 ^ 2000 * 2 ^ 6900 := (Nat.pow_add 2 2000 6900)
    have e2 : (2 : Nat) ^ 6900 = 2 ^ 10 * 2 ^ 6890 := (Nat.pow_add 2 10 6890)
    have : (1 : Nat) ≤ 2 ^ 6890 := Nat.pow_pos (by decide)
    rw [e]
    exact Nat.mul_le_mul_left _ (by omega)
  unfold DD BB
  omega
theorem cmulw {i j : Int} (h0 : -BB ≤ i) (h : i ≤ BB) (g0 : -BB ≤ j) (g : j ≤ BB) : CMulW i j := wide_mul (bb_nat h0 h) (bb_nat g0 g) (by decide) (by decide) (by decide)
theorem cdivw {i j : Int} (h0 : 0 < j) (h : j ≤ BB) : CDivW i j := wide_div h0 (bb_nat (by have := bb_pos; omega) h) (by decide) (by decide)
/-! ### heaps -/
theorem Same.new {H H' : Hp} {p : Addr} {o : HO} (e : Same H H') (h : H' p = none) : Same H (upd H' p o) := fun a u ha => by
  rw [upd_ne (ne_of_none (e a u ha) h)]
  exact e a u ha
theorem Same.mut {H H' : Hp} {p : Addr} {o : HO} (e : Same H H') (h : H p = none) : Same H (upd H' p o) := fun a u ha => by
  rw [upd_ne (ne_of_none ha h)]
  exact e a u ha
mutual
/-- a value that holds data, all of it tracked -/
inductive Dt (H : Hp) : V → PyData → Prop
  | non : Dt H .non .none
  | bl (b : Bool) : Dt H (.bl b) (.bool b)
  | int (i : Int) : Dt H (.int i) (.int i)
  | str (x : Str) : Dt H (.str x) (.str x)
  | lst {a : Addr} {xs : List V} {ds : List PyData} : H a = some (.lst xs) → DtAll H xs ds → Dt H (.ref a) (.list ds)
  | tup {a : Addr} {xs : List V} {ds : List PyData} : H a = some (.tup xs) → DtAll H xs ds → Dt H (.ref a) (.tuple ds)
inductive DtAll (H : Hp) : List V → List PyData → Prop
  | nil : DtAll H [] []
  | cons {v : V} {vs : List V} {d : PyData} {ds : List PyData} : Dt H v d → DtAll H vs ds → DtAll H (v :: vs) (d :: ds)
end
mutual
theorem Dt.mono {H H' : Hp} (s : Same H H') : ∀ {v : V} {d : PyData}, Dt H v d → Dt H' v d
  | _, _, .non => .non
  | _, _, .bl b => .bl b
  | _, _, .int i => .int i
  | _, _, .str x => .str x
  | _, _, .lst e h => .lst (s _ _ e) (DtAll.mono s h)
  | _, _, .tup e h => .tup (s _ _ e) (DtAll.mono s h)
theorem DtAll.mono {H H' : Hp} (s : Same H H') : ∀ {vs : List V} {ds : List PyData}, DtAll H vs ds → DtAll H' vs ds
  | _, _, .nil => .nil
  | _, _, .cons h t => .cons (Dt.mono s h) (DtAll.mono s t)
end
mutual
theorem Dt.dp {K : PySem.W.Frag} {H : Hp} : ∀ {v : V} {d : PyData}, Dt H v d → Dp K H v d
  | _, _, .non => .non
  | _, _, .bl b => .bl b
  | _, _, .int i => .int i
  | _, _, .str x => .str x
  | _, _, .lst e h => .lst (SqL.of e) (DtAll.dp h)
  | _, _, .tup e h => .tup (SqT.of e) (DtAll.dp h)
theorem DtAll.dp {K : PySem.W.Frag} {H : Hp} : ∀ {vs : List V} {ds : List PyData}, DtAll H vs ds → DpAll K H vs ds
  | _, _, .nil => .nil
  | _, _, .cons h t => .cons (Dt.dp h) (DtAll.dp t)
end
theorem DtAll.length {H : Hp} : ∀ {vs : List V} {ds : List PyData}, DtAll H vs ds → vs.length = ds.length
  | _, _, .nil => rfl
  | _, _, .cons _ t => by rw [List.length_cons, List.length_cons, DtAll.length t]
theorem DtAll.get {H : Hp} : ∀ {vs : List V} {ds : List PyData} {i : Nat} {d : PyData}, DtAll H vs ds → ds[i]? = some d → ∃ v, vs[i]? = some v ∧ Dt H v d
  | _, _, _, _, .nil, h => by simp at h
  | _, _, 0, _, .cons h _, e => by simp at e; subst e; exact ⟨_, rfl, h⟩
  | _, _, i + 1, _, .cons _ t, e => by
    obtain ⟨v, h1, h2⟩ := DtAll.get (i := i) t (by simpa using e)
    exact ⟨v, by simpa using h1, h2⟩
theorem DtAll.getV {H : Hp} : ∀ {vs : List V} {ds : List PyData} {i : Nat} {v : V}, DtAll H vs ds → vs[i]? = some v → ∃ d, ds[i]? = some d ∧ Dt H v d
  | _, _, _, _, .nil, h => by simp at h
  | _, _, 0, _, .cons h _, e => by simp at e; subst e; exact ⟨_, rfl, h⟩
  | _, _, i + 1, _, .cons _ t, e => by
    obtain ⟨v, h1, h2⟩ := DtAll.getV (i := i) t (by simpa using e)
    exact ⟨v, by simpa using h1, h2⟩
theorem DtAll.append {H : Hp} : ∀ {vs ws : List V} {ds es : List PyData}, DtAll H vs ds → DtAll H ws es → DtAll H (vs ++ ws) (ds ++ es)
  | _, _, _, _, .nil, s => s
  | _, _, _, _, .cons h t, s => .cons h (DtAll.append t s)
theorem DtAll.take {H : Hp} : ∀ {vs : List V} {ds : List PyData} (n : Nat), DtAll H vs ds → DtAll H (vs.take n) (ds.take n)
  | _, _, 0, _ => .nil
  | _, _, _ + 1, .nil => .nil
  | _, _, n + 1, .cons h t => .cons h (DtAll.take n t)
theorem DtAll.drop {H : Hp} : ∀ {vs : List V} {ds : List PyData} (n : Nat), DtAll H vs ds → DtAll H (vs.drop n) (ds.drop n)
  | _, _, 0, r => r
  | _, _, _ + 1, .nil => .nil
  | _, _, n + 1, .cons _ t => DtAll.drop n t
/-- ints -/
def intsD (ns : List Int) : List PyData := ns.map PyData.int
theorem DtAll.intsD {H : Hp} : ∀ (ns : List Int), DtAll H (ns.map V.int) (intsD ns)
  | [] => .nil
  | n :: ns => .cons (.int n) (DtAll.intsD ns)
theorem DtAll.intsD_inv {H : Hp} : ∀ {ns : List Int} {vs : List V}, DtAll H vs (Sl.intsD ns) → vs = ns.map V.int
  | [], _, .nil => rfl
  | n :: ns, _, .cons (.int _) t => by rw [DtAll.intsD_inv t]; rfl
/-! ### readings by names -/
def rNewL (Q : VK) (xs : List V) (H1 : Hp) : Prop := xs.length ≤ sizeLine ∧ ∀ p, H1 p = none → Q (.ref p) (upd H1 p (.lst xs))
def rNewT (Q : VK) (xs : List V) (H1 : Hp) : Prop := xs.length ≤ sizeLine ∧ ∀ p, H1 p = none → Q (.ref p) (upd H1 p (.tup xs))
def rMax2 : List V → Hp → VK → Prop := fun xs H Q => ∃ i j, xs = [.int i, .int j] ∧ Q (.int (if j > i then j else i)) H
def rMin2 : List V → Hp → VK → Prop := fun xs H Q => ∃ i j, xs = [.int i, .int j] ∧ Q (.int (if j < i then j else i)) H
def rAbs : List V → Hp → VK → Prop := fun xs H Q => ∃ i, xs = [.int i] ∧ Q (.int (if i < 0 then -i else i)) H
def rInt1 : List V → Hp → VK → Prop := fun xs H Q => (∃ i, xs = [.int i] ∧ Q (.int i) H) ∨ ∃ k, xs = [.bl k] ∧ Q (.int (if k then 1 else 0)) H
def rLenS (K : PySem.W.Frag) : List V → Hp → VK → Prop := fun xs H Q => ∃ p ys, xs = [.ref p] ∧ (SqL K H p ys ∨ SqT K H p ys) ∧ Q (.int ys.length) H
def rIsC (C : Addr) : List V → Hp → VK → Prop := fun xs H Q => ∃ a dx fs, xs = [.ref a, .ref C] ∧ H a = some (.ins C dx fs) ∧ Q (.bl true) H
def rTupOf (K : PySem.W.Frag) : List V → Hp → VK → Prop := fun xs H Q => ∃ p ys, xs = [.ref p] ∧ ((SqL K H p ys ∧ ∀ l, H l = none → Q (.ref l) (upd H l (.tup ys))) ∨ (SqT K H p ys ∧ Q (.ref p) H))
def rLstOf (K : PySem.W.Frag) : List V → Hp → VK → Prop := fun xs H Q => ∃ p ys, xs = [.ref p] ∧ (SqL K H p ys ∨ SqT K H p ys) ∧ ∀ l, H l = none → Q (.ref l) (upd H l (.lst ys))
def rFld (K : PySem.W.Frag) (f : Str) : V → Hp → VK → Prop := fun x H1 Q => ∃ a C dx fs v, x = .ref a ∧ H1 a = some (.ins C dx fs) ∧ Cls K C ∧ NoAttr K C f ∧ fs.lookup f = some v ∧ Q v H1
section
variable {X : Cx}
theorem cr_max2 (hc : X.calm = true) : CallR X (.builtin "max") rMax2 := call_max2 hc
theorem cr_min2 (hc : X.calm = true) : CallR X (.builtin "min") rMin2 := call_min2 hc
theorem cr_abs : CallR X (.builtin "abs") rAbs := call_abs
theorem cr_int1 : CallR X (.type "int") rInt1 := call_int1
theorem cr_lenS : CallR X (.builtin "len") (rLenS X.K) := call_len_seq
theorem cr_isC {C : Addr} (c : InsC X.K C) : CallR X (.builtin "isinstance") (rIsC C) := call_isC c
theorem cr_tupOf : CallR X (.type "tuple") (rTupOf X.K) := call_tuple_of
theorem cr_lstOf : CallR X (.type "list") (rLstOf X.K) := call_list_of
end
/-! ### readings, backwards -/
section
variable {σ : L2.St} {H H' : Hp} {Q : VK} {E : XK} {te ta tb tc : TE} {t u : TS} {g : TG} {i : Nat} {v x y : V} {K : PySem.W.Frag} {nx bk ct : L2.St → Hp → Prop} {rt : VK} {QB : Bool → Hp → Prop} {QL : List V → Hp → Prop} {QS : L2.St → Hp → Prop}
theorem rd_seq (h : t ⟨u ⟨nx, rt, bk, ct⟩, rt, bk, ct⟩ σ H) : tSeq t u ⟨nx, rt, bk, ct⟩ σ H := h
theorem rd_asg (h : te σ H fun x H1 => nx (σ.set i (some x)) H1) : tAsg te (gName i) ⟨nx, rt, bk, ct⟩ σ H := h
theorem rd_asgG (h : te σ H fun x H1 => g x σ H1 nx) : tAsg te g ⟨nx, rt, bk, ct⟩ σ H := h
theorem rd_drop (h : te σ H fun _ H1 => nx σ H1) : tDrop te ⟨nx, rt, bk, ct⟩ σ H := h
theorem rd_ret (h : te σ H rt) : tRet te ⟨nx, rt, bk, ct⟩ σ H := h
theorem rd_retN (h : rt .non H) : tRetN ⟨nx, rt, bk, ct⟩ σ H := h
theorem rd_next (h : nx σ H) : tNext ⟨nx, rt, bk, ct⟩ σ H := h
theorem rd_break (h : bk σ H) : tBreak ⟨nx, rt, bk, ct⟩ σ H := h
theorem rd_cont (h : ct σ H) : tCont ⟨nx, rt, bk, ct⟩ σ H := h
theorem rd_ifS {c : TT} (h : c σ H fun b H1 => if b = true then t ⟨nx, rt, bk, ct⟩ σ H1 else u ⟨nx, rt, bk, ct⟩ σ H1) : tIfS c t u ⟨nx, rt, bk, ct⟩ σ H := h
theorem rd_par {j : Nat} {ta : TA} (h : ta σ H fun vs H1 => ∃ v w, vs = [v, w] ∧ nx ((σ.set i (some v)).set j (some w)) H1) : tPar i j ta ⟨nx, rt, bk, ct⟩ σ H := h
theorem rd_par2 {w : V} {R : V → V → Prop} (h : R v w) : ∃ v' w', [v, w] = [v', w'] ∧ R v' w' := ⟨v, w, rfl, h⟩
theorem rd_par3 {j l : Nat} {ta : TA} (h : ta σ H fun vs H1 => ∃ u v w, vs = [u, v, w] ∧ nx (((σ.set i (some u)).set j (some v)).set l (some w)) H1) : tPar3 i j l ta ⟨nx, rt, bk, ct⟩ σ H := h
theorem rd_par4 {u v w : V} {R : V → V → V → Prop} (h : R u v w) : ∃ u' v' w', [u, v, w] = [u', v', w'] ∧ R u' v' w' := ⟨u, v, w, rfl, h⟩
theorem rd_aug {ti : TIp} (e : σ[i]? = some (some x)) (h : te σ H fun y H1 => ti x y H1 fun z H2 => nx (σ.set i (some z)) H2) : tAug i te ti ⟨nx, rt, bk, ct⟩ σ H := ⟨x, e, h⟩
theorem rd_var (e : σ[i]? = some (some v)) (h : Q v H) : tVar i σ H Q := ⟨v, e, h⟩
theorem rd_var0 (h : ∃ v, σ[i]? = some (some v) ∧ Q v H) : tVar i σ H Q := h
theorem rd_aug0 {ti : TIp} (h : ∃ x, σ[i]? = some (some x) ∧ te σ H fun y H1 => ti x y H1 fun z H2 => nx (σ.set i (some z)) H2) : tAug i te ti ⟨nx, rt, bk, ct⟩ σ H := h
theorem rd_c (h : Q v H) : tC v σ H Q := h
theorem rd_op {r : R2} (h : ta σ H fun x H1 => tb σ H1 fun y H2 => r x y H2 Q) : tOp r ta tb σ H Q := h
theorem rd_un {r : V → Hp → VK → Prop} (h : ta σ H fun x H1 => r x H1 Q) : tUn r ta σ H Q := h
theorem rd_I0 {f : Int → Int → V} {a b : Int} (h : Q (f a b) H) : rI0 f (.int a) (.int b) H Q := ⟨a, b, rfl, rfl, h⟩
theorem rd_I {C : Int → Int → Prop} {f : Int → Int → V} {a b : Int} (c : C a b) (h : Q (f a b) H) : rI C f (.int a) (.int b) H Q := ⟨a, b, rfl, rfl, c, h⟩
theorem rd_U {f : Int → V} {a : Int} (h : Q (f a) H) : rU f (.int a) H Q := ⟨a, rfl, h⟩
theorem rd_ipI {f : Int → Int → Int} {a b : Int} (h : Q (.int (f a b)) H) : ipI f (.int a) (.int b) H Q := ⟨a, b, rfl, rfl, h⟩
theorem rd_eq (s : scal x y = true) (h : Q (.bl (decide (x = y))) H) : rEq x y H Q := ⟨s, h⟩
theorem rd_ne (s : scal x y = true) (h : Q (.bl (!decide (x = y))) H) : rNe x y H Q := ⟨s, h⟩
theorem rd_eqI {a b : Int} (h : Q (.bl (decide (a = b))) H) : rEq (.int a) (.int b) H Q := ⟨rfl, by
  have e : decide (V.int a = V.int b) = decide (a = b) := by
    by_cases c : a = b
    · rw [decide_eq_true c, decide_eq_true (by rw [c])]
    · rw [decide_eq_false c, decide_eq_false (by intro z; exact c (V.int.inj z))]
  rw [e]; exact h⟩
theorem rd_neI {a b : Int} (h : Q (.bl (!decide (a = b))) H) : rNe (.int a) (.int b) H Q := ⟨rfl, by
  have e : decide (V.int a = V.int b) = decide (a = b) := by
    by_cases c : a = b
    · rw [decide_eq_true c, decide_eq_true (by rw [c])]
    · rw [decide_eq_false c, decide_eq_false (by intro z; exact c (V.int.inj z))]
  rw [e]; exact h⟩
theorem rd_test (h : te σ H fun x H' => ∃ k, x = .bl k ∧ QB k H') : tTest te σ H QB := h
theorem rd_tB (h : te σ H fun x H' => ∃ k, x = .bl k ∧ QB k H') : tB te σ H QB := h
theorem rd_bl {b : Bool} {R : Bool → Prop} (h : R b) : ∃ k, V.bl b = .bl k ∧ R k := ⟨b, rfl, h⟩
theorem rd_not {c : TT} (h : c σ H fun b H1 => QB (!b) H1) : tNot c σ H QB := h
theorem rd_and {c d : TT} (h : c σ H fun b H1 => if b = true then d σ H1 QB else QB false H1) : tAnd c d σ H QB := h
theorem rd_or {c d : TT} (h : c σ H fun b H1 => if b = true then QB true H1 else d σ H1 QB) : tOr c d σ H QB := h
theorem rd_andV (h : ta σ H fun x H1 => ∃ c, x = .bl c ∧ if c = true then tb σ H1 Q else Q (.bl false) H1) : tAndV ta tb σ H Q := h
theorem rd_orV (h : ta σ H fun x H1 => ∃ c, x = .bl c ∧ if c = true then Q (.bl true) H1 else tb σ H1 Q) : tOrV ta tb σ H Q := h
theorem rd_notV (h : ta σ H fun x H1 => ∃ c, x = .bl c ∧ Q (.bl (!c)) H1) : tNotV ta σ H Q := h
theorem rd_ifE {c : TT} (h : c σ H fun b H1 => if b = true then ta σ H1 Q else tb σ H1 Q) : tIf c ta tb σ H Q := h
theorem rd_chain {r r' : R2} (h : ta σ H fun x H1 => tb σ H1 fun y H2 => r x y H2 fun z H3 => ∃ k, z = .bl k ∧ (if k = true then tc σ H3 fun w' H4 => r' y w' H4 Q else Q (.bl false) H3)) : tChain r r' ta tb tc σ H Q := h
theorem rd_chain3 {r r' r'' : R2} {td : TE} (h : ta σ H fun x H1 => tb σ H1 fun y H2 => r x y H2 fun z H3 => ∃ k, z = .bl k ∧
  (if k = true then tc σ H3 fun w' H4 => r' y w' H4 fun z' H5 => ∃ k', z' = .bl k' ∧ (if k' = true then td σ H5 fun v' H6 => r'' w' v' H6 Q else Q (.bl false) H5) else Q (.bl false) H3)) : tChain3 r r' r'' ta tb tc td σ H Q := h
theorem rd_nil (h : QL [] H) : tNil σ H QL := h
theorem rd_cons {tr : TA} (h : ta σ H fun x H1 => tr σ H1 fun xs H2 => QL (x :: xs) H2) : tCons ta tr σ H QL := h
theorem rd_call {sp : Sp} {dvs : List V} {t : TA} (h : t σ H fun vs H1 => sp (vs ++ dvs) H1 Q E) : tCall sp dvs E t σ H Q := h
theorem rd_CB {r : List V → Hp → VK → Prop} {t : TA} (h : t σ H fun vs H1 => r vs H1 Q) : tCB r t σ H Q := h
theorem rd_gname {j : Nat} (h : QS (σ.set j (some v)) H) : gName j v σ H QS := h
theorem rd_gcons {tg : TG} {ug : TGs} {r : List V} (h : tg v σ H fun σ' H' => ug r σ' H' QS) : gCons tg ug (v :: r) σ H QS := ⟨v, r, rfl, h⟩
theorem rd_gnil (h : QS σ H) : gNil [] σ H QS := ⟨rfl, h⟩
theorem rd_gtup {n : Nat} {tg : TGs} {a : Addr} {xs : List V} (e : H a = some (.tup xs)) (l : xs.length = n) (h : tg xs σ H QS) : gTup K n tg (.ref a) σ H QS := ⟨a, xs, rfl, SqT.of e, l, h⟩
theorem rd_max {a b : Int} (h : Q (.int (max a b)) H) : rMax2 [.int a, .int b] H Q := ⟨a, b, rfl, by
  have e : (if b > a then b else a) = max a b := by split <;> omega
  rw [e]; exact h⟩
theorem rd_min {a b : Int} (h : Q (.int (min a b)) H) : rMin2 [.int a, .int b] H Q := ⟨a, b, rfl, by
  have e : (if b < a then b else a) = min a b := by split <;> omega
  rw [e]; exact h⟩
theorem rd_lenL {a : Addr} {xs : List V} (e : H a = some (.lst xs)) (h : Q (.int xs.length) H) : rLenS K [.ref a] H Q := ⟨a, xs, rfl, .inl (SqL.of e), h⟩
theorem rd_lenT {a : Addr} {xs : List V} (e : H a = some (.tup xs)) (h : Q (.int xs.length) H) : rLenS K [.ref a] H Q := ⟨a, xs, rfl, .inr (SqT.of e), h⟩
theorem rd_lenSq {a : Addr} {xs : List V} (e : SqL K H a xs) (h : Q (.int xs.length) H) : rLenS K [.ref a] H Q := ⟨a, xs, rfl, .inl e, h⟩
theorem rd_int1 {a : Int} (h : Q (.int a) H) : rInt1 [.int a] H Q := .inl ⟨a, rfl, h⟩
theorem rd_abs {a : Int} (h : Q (.int a.natAbs) H) : rAbs [.int a] H Q := ⟨a, rfl, by
  have e : (if a < 0 then -a else a) = (a.natAbs : Int) := by split <;> omega
  rw [e]; exact h⟩
theorem rd_isC {C a dx : Addr} {fs : List (Str × V)} (e : H a = some (.ins C dx fs)) (h : Q (.bl true) H) : rIsC C [.ref a, .ref C] H Q := ⟨a, dx, fs, rfl, e, h⟩
theorem rd_tupOfL {a : Addr} {xs : List V} (e : H a = some (.lst xs)) (h : ∀ p H', H p = none → Same H H' → H' p = some (.tup xs) → H' = upd H p (.tup xs) → Q (.ref p) H') : rTupOf K [.ref a] H Q :=
  ⟨a, xs, rfl, .inl ⟨SqL.of e, fun p hp => h p _ hp (Same.new (Same.refl H) hp) upd_same rfl⟩⟩
theorem rd_tupOfT {a : Addr} {xs : List V} (e : H a = some (.tup xs)) (h : Q (.ref a) H) : rTupOf K [.ref a] H Q := ⟨a, xs, rfl, .inr ⟨SqT.of e, h⟩⟩
theorem rd_fld0 {f : Str} (h : te σ H fun x H1 => rFld K f x H1 Q) : tFld K te f σ H Q := h
theorem rd_fld {a C dx : Addr} {fs : List (Str × V)} {f : Str} (e : H a = some (.ins C dx fs)) (c : Cls K C) (n : NoAttr K C f) (l : fs.lookup f = some v) (h : Q v H) : rFld K f (.ref a) H Q :=
  ⟨a, C, dx, fs, v, rfl, e, c, n, l, h⟩
theorem rd_sum {a : Addr} {ns : List Int} (e : SqL K H a (ns.map V.int)) (h : Q (.int ns.sum) H) : rSum K [.ref a] H Q := ⟨a, ns, rfl, e, h⟩
theorem rd_sl0 {r : V → Option Int → Option Int → Hp → VK → Prop} {tl th : TO} (h : te σ H fun x H1 => tl σ H1 fun l H2 => th σ H2 fun u H3 => r x l u H3 Q) : tSl r te tl th σ H Q := h
theorem rd_noP {QO : Option Int → Hp → Prop} (h : QO none H) : tNoPart σ H QO := h
theorem rd_part {QO : Option Int → Hp → Prop} (h : te σ H fun x H1 => ∃ i, x = .int i ∧ QO (some i) H1) : tPart te σ H QO := h
theorem rd_part2 {R : Int → Prop} {j : Int} (h : R j) : ∃ i, V.int j = .int i ∧ R i := ⟨j, rfl, h⟩
theorem rd_slL {a : Addr} {xs : List V} {lo hi : Option Int} (e : SqL K H a xs) (h : ∀ p H', H p = none → Same H H' → H' p = some (.lst (cutV xs lo hi)) → H' = upd H p (.lst (cutV xs lo hi)) → Q (.ref p) H') : rSlL K (.ref a) lo hi H Q :=
  ⟨a, xs, rfl, e, fun p hp => h p _ hp (Same.new (Same.refl H) hp) upd_same rfl⟩
theorem cut_whole {xs : List V} {lo hi : Option Int} (h : HT.sIx xs.length 0 lo = 0 ∧ HT.sIx xs.length xs.length hi = xs.length) : cutV xs lo hi = xs := by
  unfold cutV
  rw [h.1, h.2]
  simp
theorem rd_slA {a : Addr} {xs : List V} {lo hi : Option Int} (e : H a = some (.tup xs)) (h : ∀ p H', Same H H' → H' p = some (.tup (cutV xs lo hi)) → Q (.ref p) H') : rSlA K (.ref a) lo hi H Q :=
  ⟨a, xs, rfl, SqT.of e, fun c => h a H (Same.refl H) (by rw [cut_whole c]; exact e), fun _ p hp => h p _ (Same.new (Same.refl H) hp) upd_same⟩
theorem rd_cat {a b : Addr} {xs ys : List V} (e1 : H a = some (.lst xs)) (e2 : H b = some (.lst ys)) (l : xs.length + ys.length ≤ 100000) (h : ∀ p H', H p = none → Same H H' → H' p = some (.lst (xs ++ ys)) → H' = upd H p (.lst (xs ++ ys)) → Q (.ref p) H') : rCat (.ref a) (.ref b) H Q :=
  ⟨a, b, xs, ys, rfl, rfl, e1, e2, Nat.le_trans l (by decide), fun p hp => h p _ hp (Same.new (Same.refl H) hp) upd_same rfl⟩
theorem rd_eqD {d e : PyData} (h1 : Dt H x d) (h2 : Dt H y e) (s1 : SeqAt.shaped d = true) (s2 : SeqAt.shaped e = true) (h : Q (.bl (PyData.eqv d e)) H) : rEqD K x y H Q := ⟨d, e, h1.dp, h2.dp, s1, s2, h⟩
theorem rd_neD {d e : PyData} (h1 : Dt H x d) (h2 : Dt H y e) (s1 : SeqAt.shaped d = true) (s2 : SeqAt.shaped e = true) (h : Q (.bl (!PyData.eqv d e)) H) : rNeD K x y H Q := ⟨d, e, h1.dp, h2.dp, s1, s2, h⟩
theorem rd_ownI {C a dx : Addr} {fs : List (Str × V)} {sp : Sp} {dvs : List V} (e : H a = some (.ins C dx fs)) (h : sp (.ref a :: ([y] ++ dvs)) H Q C8.E0) : rOwnI C sp dvs (.ref a) y H Q := ⟨a, dx, fs, rfl, e, h⟩
theorem rd_meth0 {C : Addr} {m : Str} {sp : Sp} {dvs : List V} {t : TA} (h : ta σ H fun x H1 => ∃ a dx fs, x = .ref a ∧ H1 a = some (.ins C dx fs) ∧ fs.lookup m = none ∧ t σ H1 fun vs H2 => sp (x :: (vs ++ dvs)) H2 Q E) : tMeth C m sp dvs E ta t σ H Q := h
theorem rd_star {t : TA} (h : te σ H fun x H1 => ∃ p xs, x = V.ref p ∧ (SqT K H1 p xs ∨ SqL K H1 p xs) ∧ t σ H1 fun ys H2 => QL (xs ++ ys) H2) : tStar K te t σ H QL := h
theorem rd_ixL {a : Addr} {xs : List V} {j : Int} (e : H a = some (.lst xs)) (n : atI xs j = some v) (h : Q v H) : rIxL K (.ref a) (.int j) H Q := ⟨a, xs, j, v, rfl, rfl, SqL.of e, n, h⟩
theorem rd_ixT {a : Addr} {xs : List V} {j : Int} (e : H a = some (.tup xs)) (n : atI xs j = some v) (h : Q v H) : rIxT K (.ref a) (.int j) H Q := ⟨a, xs, j, v, rfl, rfl, SqT.of e, n, h⟩
theorem rd_lst {t : TA} (h : t σ H fun xs H1 => rNewL Q xs H1) : tLst t σ H Q := h
theorem rd_tup {t : TA} (h : t σ H fun xs H1 => rNewT Q xs H1) : tTup t σ H Q := h
/-- a new object: its heap by a name -/
theorem rd_newL {xs : List V} (l : xs.length ≤ 100000) (h : ∀ p H', H p = none → Same H H' → H' p = some (.lst xs) → H' = upd H p (.lst xs) → Q (.ref p) H') : rNewL Q xs H :=
  ⟨Nat.le_trans l (by decide), fun p hp => h p _ hp (Same.new (Same.refl H) hp) upd_same rfl⟩
theorem rd_newT {xs : List V} (l : xs.length ≤ 100000) (h : ∀ p H', H p = none → Same H H' → H' p = some (.tup xs) → H' = upd H p (.tup xs) → Q (.ref p) H') : rNewT Q xs H :=
  ⟨Nat.le_trans l (by decide), fun p hp => h p _ hp (Same.new (Same.refl H) hp) upd_same rfl⟩
theorem rd_app {a : Addr} {xs : List V} (e : H a = some (.lst xs)) (l : xs.length < 100000) (h : ∀ H', H' = upd H a (.lst (xs ++ [y])) → H' a = some (.lst (xs ++ [y])) → Q .non H') : rAppend (.ref a) [y] H Q :=
  ⟨a, xs, y, rfl, rfl, e, Nat.lt_trans l (by decide), h _ rfl upd_same⟩
theorem rd_bm {r : V → List V → Hp → VK → Prop} {t : TA} (h : ta σ H fun x H1 => tyV K "list" x H1 ∧ t σ H1 fun xs H2 => r x xs H2 Q) : tBM K "list" r ta t σ H Q := h
theorem rd_tyL {a : Addr} {xs : List V} {R : Prop} (e : H a = some (.lst xs)) (h : R) : tyV K "list" (.ref a) H ∧ R := ⟨.inl ⟨rfl, xs, SqL.of e⟩, h⟩
theorem rd_ite {p : Prop} [Decidable p] {A B : Prop} (h1 : p → A) (h2 : ¬ p → B) : if decide p = true then A else B := by
  by_cases c : p
  · rw [if_pos (decide_eq_true c)]; exact h1 c
  · rw [if_neg (by rw [decide_eq_false c]; exact Bool.false_ne_true)]; exact h2 c
theorem rd_iteT {p : Prop} [Decidable p] {A B : Prop} (c : p) (h1 : A) : if decide p = true then A else B := by rw [if_pos (decide_eq_true c)]; exact h1
theorem rd_iteF {p : Prop} [Decidable p] {A B : Prop} (c : ¬ p) (h1 : B) : if decide p = true then A else B := by rw [if_neg (by rw [decide_eq_false c]; exact Bool.false_ne_true)]; exact h1
theorem rd_iteN {p : Prop} [Decidable p] {A B : Prop} (h1 : ¬ p → A) (h2 : p → B) : if (!decide p) = true then A else B := by
  by_cases c : p
  · rw [if_neg (by rw [decide_eq_true c]; decide)]; exact h2 c
  · rw [if_pos (by rw [decide_eq_false c]; rfl)]; exact h1 c
theorem rd_iteNT {p : Prop} [Decidable p] {A B : Prop} (c : ¬ p) (h1 : A) : if (!decide p) = true then A else B := by rw [if_pos (by rw [decide_eq_false c]; rfl)]; exact h1
theorem rd_iteNF {p : Prop} [Decidable p] {A B : Prop} (c : p) (h1 : B) : if (!decide p) = true then A else B := by rw [if_neg (by rw [decide_eq_true c]; decide)]; exact h1
theorem rd_iteTT {A B : Prop} (h : A) : if true = true then A else B := by rw [if_pos rfl]; exact h
theorem rd_iteFF {A B : Prop} (h : B) : if false = true then A else B := by rw [if_neg Bool.false_ne_true]; exact h
theorem rd_iteNTT {A B : Prop} (h : B) : if (!true) = true then A else B := h
theorem rd_iteNFF {A B : Prop} (h : A) : if (!false) = true then A else B := h
end
end Sl
set_option Elab.async false
set_option linter.all false
set_option maxRecDepth 100000
set_option maxHeartbeats 4000000
namespace Sl
open PySem L2 C8 StX
def topS (i : Nat) : Stmt := PySem.Challenge.pw_siltstore_k53_whole_tails.main.body.getD i (.Pass ⟨0, 0, 0, 0⟩)
abbrev s_is_whole : Stmt := topS 9
abbrev N_is_whole : List Str := ["thing"]
abbrev P_is_whole : List Str := ["thing"]
theorem sc_is_whole : FnScope N_is_whole P_is_whole (fnScope s_is_whole) := fnScope_by (by decide +kernel)
abbrev s_is_pair : Stmt := topS 10
abbrev N_is_pair : List Str := ["thing"]
abbrev P_is_pair : List Str := ["thing"]
theorem sc_is_pair : FnScope N_is_pair P_is_pair (fnScope s_is_pair) := fnScope_by (by decide +kernel)
abbrev s_shortest : Stmt := topS 11
abbrev N_shortest : List Str := ["front", "period", "many"]
abbrev P_shortest : List Str := ["front", "period"]
theorem sc_shortest : FnScope N_shortest P_shortest (fnScope s_shortest) := fnScope_by (by decide +kernel)
abbrev s_Rule_init : Stmt := inClass (topS 12) 0
abbrev N_Rule_init : List Str := ["self", "front", "period", "told", "place", "pair"]
abbrev P_Rule_init : List Str := ["self", "front", "period"]
theorem sc_Rule_init : FnScope N_Rule_init P_Rule_init (fnScope s_Rule_init) := fnScope_by (by decide +kernel)
abbrev s_Rule_eq : Stmt := inClass (topS 12) 1
abbrev N_Rule_eq : List Str := ["self", "other"]
abbrev P_Rule_eq : List Str := ["self", "other"]
theorem sc_Rule_eq : FnScope N_Rule_eq P_Rule_eq (fnScope s_Rule_eq) := fnScope_by (by decide +kernel)
abbrev s_Rule_getitem : Stmt := inClass (topS 12) 2
abbrev N_Rule_getitem : List Str := ["self", "grade"]
abbrev P_Rule_getitem : List Str := ["self", "grade"]
theorem sc_Rule_getitem : FnScope N_Rule_getitem P_Rule_getitem (fnScope s_Rule_getitem) := fnScope_by (by decide +kernel)
abbrev s_Rule_iter : Stmt := inClass (topS 12) 3
abbrev N_Rule_iter : List Str := ["self"]
abbrev P_Rule_iter : List Str := ["self"]
theorem sc_Rule_iter : FnScope N_Rule_iter P_Rule_iter (fnScope s_Rule_iter) := fnScope_by (by decide +kernel)
abbrev s_Rule_size : Stmt := inClass (topS 12) 4
abbrev N_Rule_size : List Str := ["self", "grade", "found", "one"]
abbrev P_Rule_size : List Str := ["self", "grade"]
theorem sc_Rule_size : FnScope N_Rule_size P_Rule_size (fnScope s_Rule_size) := fnScope_by (by decide +kernel)
abbrev s_Rule_owed : Stmt := inClass (topS 12) 5
abbrev N_Rule_owed : List Str := ["self", "grade", "found", "size", "one"]
abbrev P_Rule_owed : List Str := ["self", "grade"]
theorem sc_Rule_owed : FnScope N_Rule_owed P_Rule_owed (fnScope s_Rule_owed) := fnScope_by (by decide +kernel)
abbrev s_check_rule : Stmt := topS 13
abbrev N_check_rule : List Str := ["thing"]
abbrev P_check_rule : List Str := ["thing"]
theorem sc_check_rule : FnScope N_check_rule P_check_rule (fnScope s_check_rule) := fnScope_by (by decide +kernel)
abbrev s_check_number : Stmt := topS 14
abbrev N_check_number : List Str := ["thing", "least"]
abbrev P_check_number : List Str := ["thing", "least"]
theorem sc_check_number : FnScope N_check_number P_check_number (fnScope s_check_number) := fnScope_by (by decide +kernel)
abbrev s_made : Stmt := topS 16
abbrev N_made : List Str := ["rule", "grade", "day"]
abbrev P_made : List Str := ["rule", "grade", "day"]
theorem sc_made : FnScope N_made P_made (fnScope s_made) := fnScope_by (by decide +kernel)
abbrev s_digits : Stmt := topS 17
abbrev N_digits : List Str := ["rule", "day", "found", "grade", "many", "wait", "bake", "late"]
abbrev P_digits : List Str := ["rule", "day"]
theorem sc_digits : FnScope N_digits P_digits (fnScope s_digits) := fnScope_by (by decide +kernel)
abbrev s_day_of : Stmt := topS 18
abbrev N_day_of : List Str := ["rule", "told", "found", "size", "grade", "digit", "wait", "bake", "least"]
abbrev P_day_of : List Str := ["rule", "told"]
theorem sc_day_of : FnScope N_day_of P_day_of (fnScope s_day_of) := fnScope_by (by decide +kernel)
abbrev s_layers : Stmt := topS 19
abbrev N_layers : List Str := ["rule", "day", "found", "told", "last", "grade", "size", "turn"]
abbrev P_layers : List Str := ["rule", "day"]
theorem sc_layers : FnScope N_layers P_layers (fnScope s_layers) := fnScope_by (by decide +kernel)
abbrev s_baked : Stmt := topS 20
abbrev N_baked : List Str := ["rule", "day", "found", "grade"]
abbrev P_baked : List Str := ["rule", "day"]
theorem sc_baked : FnScope N_baked P_baked (fnScope s_baked) := fnScope_by (by decide +kernel)
abbrev s_is_baked : Stmt := topS 21
abbrev N_is_baked : List Str := ["rule", "grade", "day", "size", "owed"]
abbrev P_is_baked : List Str := ["rule", "grade", "day"]
theorem sc_is_baked : FnScope N_is_baked P_is_baked (fnScope s_is_baked) := fnScope_by (by decide +kernel)
abbrev s_next_baked : Stmt := topS 22
abbrev N_next_baked : List Str := ["rule", "grade", "day", "size", "owed"]
abbrev P_next_baked : List Str := ["rule", "grade", "day"]
theorem sc_next_baked : FnScope N_next_baked P_next_baked (fnScope s_next_baked) := fnScope_by (by decide +kernel)
abbrev s_count : Stmt := topS 24
abbrev N_count : List Str := ["rule", "day"]
abbrev P_count : List Str := ["rule", "day"]
theorem sc_count : FnScope N_count P_count (fnScope s_count) := fnScope_by (by decide +kernel)
abbrev s_first_with : Stmt := topS 25
abbrev N_first_with : List Str := ["rule", "many", "found", "left"]
abbrev P_first_with : List Str := ["rule", "many"]
theorem sc_first_with : FnScope N_first_with P_first_with (fnScope s_first_with) := fnScope_by (by decide +kernel)
abbrev s_place : Stmt := topS 27
abbrev N_place : List Str := ["rule", "day", "now", "told", "last", "number", "grade", "size"]
abbrev P_place : List Str := ["rule", "day", "now"]
theorem sc_place : FnScope N_place P_place (fnScope s_place) := fnScope_by (by decide +kernel)
abbrev s_work : Stmt := topS 28
abbrev N_work : List Str := ["rule", "day", "found", "grade"]
abbrev P_work : List Str := ["rule", "day"]
theorem sc_work : FnScope N_work P_work (fnScope s_work) := fnScope_by (by decide +kernel)
abbrev s_Weights_init : Stmt := inClass (topS 32) 0
abbrev N_Weights_init : List Str := ["self", "front", "period", "told", "one"]
abbrev P_Weights_init : List Str := ["self", "front", "period"]
theorem sc_Weights_init : FnScope N_Weights_init P_Weights_init (fnScope s_Weights_init) := fnScope_by (by decide +kernel)
abbrev s_Weights_eq : Stmt := inClass (topS 32) 1
abbrev N_Weights_eq : List Str := ["self", "other"]
abbrev P_Weights_eq : List Str := ["self", "other"]
theorem sc_Weights_eq : FnScope N_Weights_eq P_Weights_eq (fnScope s_Weights_eq) := fnScope_by (by decide +kernel)
abbrev s_Weights_getitem : Stmt := inClass (topS 32) 2
abbrev N_Weights_getitem : List Str := ["self", "grade"]
abbrev P_Weights_getitem : List Str := ["self", "grade"]
theorem sc_Weights_getitem : FnScope N_Weights_getitem P_Weights_getitem (fnScope s_Weights_getitem) := fnScope_by (by decide +kernel)
abbrev s_Weights_iter : Stmt := inClass (topS 32) 3
abbrev N_Weights_iter : List Str := ["self"]
abbrev P_Weights_iter : List Str := ["self"]
theorem sc_Weights_iter : FnScope N_Weights_iter P_Weights_iter (fnScope s_Weights_iter) := fnScope_by (by decide +kernel)
abbrev s_Weights_total : Stmt := inClass (topS 32) 4
abbrev N_Weights_total : List Str := ["self", "told", "grade", "many"]
abbrev P_Weights_total : List Str := ["self", "told"]
theorem sc_Weights_total : FnScope N_Weights_total P_Weights_total (fnScope s_Weights_total) := fnScope_by (by decide +kernel)
abbrev s_check_weights : Stmt := topS 33
abbrev N_check_weights : List Str := ["thing"]
abbrev P_check_weights : List Str := ["thing"]
theorem sc_check_weights : FnScope N_check_weights P_check_weights (fnScope s_check_weights) := fnScope_by (by decide +kernel)
abbrev s_weighed : Stmt := topS 34
abbrev N_weighed : List Str := ["rule", "weights", "day", "told"]
abbrev P_weighed : List Str := ["rule", "weights", "day"]
theorem sc_weighed : FnScope N_weighed P_weighed (fnScope s_weighed) := fnScope_by (by decide +kernel)
abbrev s__law_number : Stmt := topS 36
abbrev N__law_number : List Str := ["_law_script", "_law_index", "_law_cell", "_law_blend"]
abbrev P__law_number : List Str := ["_law_script", "_law_index"]
theorem sc__law_number : FnScope N__law_number P__law_number (fnScope s__law_number) := fnScope_by (by decide +kernel)
abbrev s__law_take : Stmt := topS 37
abbrev N__law_take : List Str := ["_law_draw", "_law_many"]
abbrev P__law_take : List Str := ["_law_draw", "_law_many"]
theorem sc__law_take : FnScope N__law_take P__law_take (fnScope s__law_take) := fnScope_by (by decide +kernel)
abbrev s__law_pick : Stmt := topS 38
abbrev N__law_pick : List Str := ["_law_draw", "_law_items"]
abbrev P__law_pick : List Str := ["_law_draw", "_law_items"]
theorem sc__law_pick : FnScope N__law_pick P__law_pick (fnScope s__law_pick) := fnScope_by (by decide +kernel)
abbrev s__law_pair : Stmt := topS 39
abbrev N__law_pair : List Str := ["_law_draw", "_law_bake"]
abbrev P__law_pair : List Str := ["_law_draw"]
theorem sc__law_pair : FnScope N__law_pair P__law_pair (fnScope s__law_pair) := fnScope_by (by decide +kernel)
abbrev s__law_rule : Stmt := topS 40
abbrev N__law_rule : List Str := ["_law_draw", "_law_front", "_law_turn"]
abbrev P__law_rule : List Str := ["_law_draw"]
theorem sc__law_rule : FnScope N__law_rule P__law_rule (fnScope s__law_rule) := fnScope_by (by decide +kernel)
abbrev s__law_at : Stmt := topS 41
abbrev N__law_at : List Str := ["_law_told", "_law_grade", "_law_front", "_law_period"]
abbrev P__law_at : List Str := ["_law_told", "_law_grade"]
theorem sc__law_at : FnScope N__law_at P__law_at (fnScope s__law_at) := fnScope_by (by decide +kernel)
abbrev s__law_far : Stmt := topS 42
abbrev N__law_far : List Str := ["_law_draw"]
abbrev P__law_far : List Str := ["_law_draw"]
theorem sc__law_far : FnScope N__law_far P__law_far (fnScope s__law_far) := fnScope_by (by decide +kernel)
abbrev s__law_tail : Stmt := topS 43
abbrev N__law_tail : List Str := ["_law_told", "_law_front", "_law_period"]
abbrev P__law_tail : List Str := ["_law_told"]
theorem sc__law_tail : FnScope N__law_tail P__law_tail (fnScope s__law_tail) := fnScope_by (by decide +kernel)
abbrev s_law : Stmt := topS 44
abbrev N_law : List Str := ["_law_script", "_law_draw", "_law_told", "_law_rest", "_law_rule_here", "_law_tail_here", "_law_day", "_law_late", "_law_bake", "_law_mine", "_law_theirs", "_law_first", "_law_last", "_law_grade", "_law_one", "_law_number_here", "_law_some", "_law_turn", "_law_many", "_law_top"]
abbrev P_law : List Str := ["_law_script"]
theorem sc_law : FnScope N_law P_law (fnScope s_law) := fnScope_by (by decide +kernel)
/-- what isinstance asks of an own class, without the class itself -/
structure InsF (K : PySem.W.Frag) (C : Addr) : Prop where
  ha : PySem.W.findIn K (.ref C) "__class__" = some (some (.builtin "object.__class__"))
  hn : PySem.W.specialIn K (.builtin "object.__class__") "__get__" = some (some (.builtin "getset_descriptor.__get__"))
  htk : PySem.W.takesIn K (.builtin "object.__class__") = some true
  hm : PySem.W.mroIn K C (.type "object") = some true
theorem kit_self {K : PySem.W.Frag} {C : Addr} : PySem.W.kitOne K (.ref C) (.ref C) = some true := by
  unfold PySem.W.kitOne
  rw [if_pos (by simp)]
structure TX (K : PySem.W.Frag) (mg : Str → Option Value) (C_Rule C_Weights : Addr) : Prop where
  mg_Rule : mg "Rule" = some (.ref C_Rule)
  mg_Weights : mg "Weights" = some (.ref C_Weights)
  d_is_whole : ∃ f fd, C8.Def K mg "is_whole" s_is_whole f fd ∧ fd.defaults = .none
  d_is_pair : ∃ f fd, C8.Def K mg "is_pair" s_is_pair f fd ∧ fd.defaults = .none
  d_shortest : ∃ f fd, C8.Def K mg "shortest" s_shortest f fd ∧ fd.defaults = .none
  m_Rule_init : ∃ f fd, C8.Fun K "__init__" "Rule.__init__" s_Rule_init f fd ∧ fd.defaults = .none ∧ Mk K C_Rule f
  m_Rule_eq : ∃ f fd, C8.Fun K "__eq__" "Rule.__eq__" s_Rule_eq f fd ∧ fd.defaults = .none ∧ Meth K C_Rule "__eq__" f ∧ PySem.W.fnIn K f = true
  m_Rule_getitem : ∃ f fd, C8.Fun K "__getitem__" "Rule.__getitem__" s_Rule_getitem f fd ∧ fd.defaults = .none ∧ Meth K C_Rule "__getitem__" f ∧ PySem.W.fnIn K f = true
  m_Rule_iter : ∃ f fd, C8.Fun K "__iter__" "Rule.__iter__" s_Rule_iter f fd ∧ fd.defaults = .none ∧ Meth K C_Rule "__iter__" f ∧ PySem.W.fnIn K f = true
  m_Rule_size : ∃ f fd, C8.Fun K "size" "Rule.size" s_Rule_size f fd ∧ fd.defaults = .none ∧ Meth K C_Rule "size" f ∧ PySem.W.fnIn K f = true
  m_Rule_owed : ∃ f fd, C8.Fun K "owed" "Rule.owed" s_Rule_owed f fd ∧ fd.defaults = .none ∧ Meth K C_Rule "owed" f ∧ PySem.W.fnIn K f = true
  d_check_rule : ∃ f fd, C8.Def K mg "check_rule" s_check_rule f fd ∧ fd.defaults = .none
  d_check_number : ∃ f fd, C8.Def K mg "check_number" s_check_number f fd ∧ (∃ ds, Vals [] ds ∧ Binds K fd P_check_number ds) ∧ (∃ ds, Vals [.int 0] ds ∧ Binds K fd P_check_number ds)
  d_made : ∃ f fd, C8.Def K mg "made" s_made f fd ∧ fd.defaults = .none
  d_digits : ∃ f fd, C8.Def K mg "digits" s_digits f fd ∧ fd.defaults = .none
  d_day_of : ∃ f fd, C8.Def K mg "day_of" s_day_of f fd ∧ fd.defaults = .none
  d_layers : ∃ f fd, C8.Def K mg "layers" s_layers f fd ∧ fd.defaults = .none
  d_baked : ∃ f fd, C8.Def K mg "baked" s_baked f fd ∧ fd.defaults = .none
  d_is_baked : ∃ f fd, C8.Def K mg "is_baked" s_is_baked f fd ∧ fd.defaults = .none
  d_next_baked : ∃ f fd, C8.Def K mg "next_baked" s_next_baked f fd ∧ fd.defaults = .none
  d_count : ∃ f fd, C8.Def K mg "count" s_count f fd ∧ fd.defaults = .none
  d_first_with : ∃ f fd, C8.Def K mg "first_with" s_first_with f fd ∧ fd.defaults = .none
  d_place : ∃ f fd, C8.Def K mg "place" s_place f fd ∧ fd.defaults = .none
  d_work : ∃ f fd, C8.Def K mg "work" s_work f fd ∧ fd.defaults = .none
  m_Weights_init : ∃ f fd, C8.Fun K "__init__" "Weights.__init__" s_Weights_init f fd ∧ fd.defaults = .none ∧ Mk K C_Weights f
  m_Weights_eq : ∃ f fd, C8.Fun K "__eq__" "Weights.__eq__" s_Weights_eq f fd ∧ fd.defaults = .none ∧ Meth K C_Weights "__eq__" f ∧ PySem.W.fnIn K f = true
  m_Weights_getitem : ∃ f fd, C8.Fun K "__getitem__" "Weights.__getitem__" s_Weights_getitem f fd ∧ fd.defaults = .none ∧ Meth K C_Weights "__getitem__" f ∧ PySem.W.fnIn K f = true
  m_Weights_iter : ∃ f fd, C8.Fun K "__iter__" "Weights.__iter__" s_Weights_iter f fd ∧ fd.defaults = .none ∧ Meth K C_Weights "__iter__" f ∧ PySem.W.fnIn K f = true
  m_Weights_total : ∃ f fd, C8.Fun K "total" "Weights.total" s_Weights_total f fd ∧ fd.defaults = .none ∧ Meth K C_Weights "total" f ∧ PySem.W.fnIn K f = true
  d_check_weights : ∃ f fd, C8.Def K mg "check_weights" s_check_weights f fd ∧ fd.defaults = .none
  d_weighed : ∃ f fd, C8.Def K mg "weighed" s_weighed f fd ∧ fd.defaults = .none
  d__law_number : ∃ f fd, C8.Def K mg "_law_number" s__law_number f fd ∧ fd.defaults = .none
  d__law_take : ∃ f fd, C8.Def K mg "_law_take" s__law_take f fd ∧ fd.defaults = .none
  d__law_pick : ∃ f fd, C8.Def K mg "_law_pick" s__law_pick f fd ∧ fd.defaults = .none
  d__law_pair : ∃ f fd, C8.Def K mg "_law_pair" s__law_pair f fd ∧ fd.defaults = .none
  d__law_rule : ∃ f fd, C8.Def K mg "_law_rule" s__law_rule f fd ∧ fd.defaults = .none
  d__law_at : ∃ f fd, C8.Def K mg "_law_at" s__law_at f fd ∧ fd.defaults = .none
  d__law_far : ∃ f fd, C8.Def K mg "_law_far" s__law_far f fd ∧ fd.defaults = .none
  d__law_tail : ∃ f fd, C8.Def K mg "_law_tail" s__law_tail f fd ∧ fd.defaults = .none
  d_law : ∃ f fd, C8.Def K mg "law" s_law f fd ∧ fd.defaults = .none
  cl_Rule : Cls K C_Rule
  ic_Rule : InsF K C_Rule
  na_Rule_front : NoAttr K C_Rule "front"
  na_Rule_period : NoAttr K C_Rule "period"
  cl_Weights : Cls K C_Weights
  ic_Weights : InsF K C_Weights
  na_Weights_front : NoAttr K C_Weights "front"
  na_Weights_period : NoAttr K C_Weights "period"
  g_MOST_LAYERS : ∃ u, mg "MOST_LAYERS" = some u ∧ RelV (.int 12) u
  g_MOST_PAIRS : ∃ u, mg "MOST_PAIRS" = some u ∧ RelV (.int 6) u
  g_MOST_WEIGHT : ∃ u, mg "MOST_WEIGHT" = some u ∧ RelV (.int 100) u
  g_MOST_GRADES : ∃ u, mg "MOST_GRADES" = some u ∧ RelV (.int 6) u
  b_max : mg "max" = none
  b_min : mg "min" = none
  b_len : mg "len" = none
  b_sum : mg "sum" = none
  b_abs : mg "abs" = none
  b_int : mg "int" = none
  b_bool : mg "bool" = none
  b_isinstance : mg "isinstance" = none
  b_range : mg "range" = none
  b_enumerate : mg "enumerate" = none
  b_list : mg "list" = none
  b_tuple : mg "tuple" = none
  b_sorted : mg "sorted" = none
  b_all : mg "all" = none
  b_any : mg "any" = none
  b_dict : mg "dict" = none
  b_str : mg "str" = none
  b_zip : mg "zip" = none
  b_reversed : mg "reversed" = none
  b_set : mg "set" = none
theorem TX.g_Rule {K : PySem.W.Frag} {mg : Str → Option Value} {C_Rule C_Weights : Addr} (T : TX K mg C_Rule C_Weights) : ∃ u, mg "Rule" = some u ∧ RelV (.ref C_Rule) u := ⟨_, T.mg_Rule, rfl⟩
theorem TX.i_Rule {K : PySem.W.Frag} {mg : Str → Option Value} {C_Rule C_Weights : Addr} (T : TX K mg C_Rule C_Weights) : InsC K C_Rule := ⟨T.cl_Rule, T.ic_Rule.ha, T.ic_Rule.hn, T.ic_Rule.htk, T.ic_Rule.hm, kit_self⟩
theorem TX.fi_Rule {K : PySem.W.Frag} {mg : Str → Option Value} {C_Rule C_Weights : Addr} (T : TX K mg C_Rule C_Weights) : ∀ f, PySem.W.findIn K (.ref C_Rule) "__getitem__" = some (some (.ref f)) → PySem.W.fnIn K f = true := by
  intro f h
  obtain ⟨f1, fd, _, _, m, k⟩ := T.m_Rule_getitem
  have := m.at_.symm.trans h
  cases this
  exact k
theorem TX.g_Weights {K : PySem.W.Frag} {mg : Str → Option Value} {C_Rule C_Weights : Addr} (T : TX K mg C_Rule C_Weights) : ∃ u, mg "Weights" = some u ∧ RelV (.ref C_Weights) u := ⟨_, T.mg_Weights, rfl⟩
theorem TX.i_Weights {K : PySem.W.Frag} {mg : Str → Option Value} {C_Rule C_Weights : Addr} (T : TX K mg C_Rule C_Weights) : InsC K C_Weights := ⟨T.cl_Weights, T.ic_Weights.ha, T.ic_Weights.hn, T.ic_Weights.htk, T.ic_Weights.hm, kit_self⟩
theorem TX.fi_Weights {K : PySem.W.Frag} {mg : Str → Option Value} {C_Rule C_Weights : Addr} (T : TX K mg C_Rule C_Weights) : ∀ f, PySem.W.findIn K (.ref C_Weights) "__getitem__" = some (some (.ref f)) → PySem.W.fnIn K f = true := by
  intro f h
  obtain ⟨f1, fd, _, _, m, k⟩ := T.m_Weights_getitem
  have := m.at_.symm.trans h
  cases this
  exact k
end Sl
set_option Elab.async false
set_option linter.all false
set_option maxRecDepth 100000
set_option maxHeartbeats 4000000
namespace Sl
open PySem L2 C8 StX
def rMake (C : Addr) (sp : Sp) (dvs : List V) (E : XK) (Q : VK) (vs : List V) (H1 : Hp) : Prop := ∀ x dx, H1 x = none → H1 dx = none → dx ≠ x →
  sp (.ref x :: (vs ++ dvs)) (upd (upd H1 dx (.own x)) x (.ins C dx [])) (fun v H2 => v = .non ∧ Q (.ref x) H2) E
def rDrawN (Q : VK) (xs : List V) (H1 : Hp) : Prop := ∃ sc i, xs = [.ref sc, .int i] ∧ ∀ p, H1 p = none → Q (.ref p) (upd H1 p (DrawO p sc))
section
variable {σ : L2.St} {H H1 : Hp} {wi : TI} {g : TG} {tb : TS} {ta : TA} {te : TE} {tt : TT} {c : TT} {nx bk ct : L2.St → Hp → Prop} {rt : VK} {R : It → Hp → Prop} {K : PySem.W.Frag} {Q : VK} {vs : List Nat} {D : Ends}
def ForR (J : It) (g : TG) (tb : TS) (D : Ends) (σ : L2.St) (H1 : Hp) : Prop := ∃ W : Nat → Nat → L2.St → Hp → Prop, (∃ m, W 0 m σ H1) ∧ ∀ i m σ H, W i m σ H →
  (J.stop i H ∧ D.nx σ H) ∨ (J.go i H ∧ ∃ N : L2.St → Hp → Prop, (∀ σ' H', N σ' H' → ∃ m', m' < m ∧ W (i + 1) m' σ' H') ∧ ∀ x H', J.yld i H x H' → g x σ H' fun σ2 H2 => tb { D with nx := N, ct := N, bk := D.nx } σ2 H2)
theorem rd_for (h : wi σ H fun J H1 => ForR J g tb D σ H1) : tFor wi g tb D σ H := h
/-- n turns -/
theorem forR_gen (J : It) (n : Nat) (Pv : Nat → L2.St → Hp → Prop) (h0 : Pv 0 σ H) (hg : ∀ i σ H, i < n → Pv i σ H → J.go i H) (he : ∀ σ H, Pv n σ H → J.stop n H)
    (hs : ∀ i σ H x H', i < n → Pv i σ H → J.yld i H x H' → g x σ H' fun σ2 H2 => tb ⟨Pv (i + 1), rt, nx, Pv (i + 1)⟩ σ2 H2) (hd : ∀ σ H, Pv n σ H → nx σ H) : ForR J g tb ⟨nx, rt, bk, ct⟩ σ H := by
  refine ⟨fun i m σ H => m = n - i ∧ i ≤ n ∧ Pv i σ H, ⟨n, by simp, Nat.zero_le _, h0⟩, ?_⟩
  rintro i m σ H ⟨rfl, hi, p⟩
  by_cases hlt : i < n
  · exact .inr ⟨hg i σ H hlt p, Pv (i + 1), fun σ' H' p' => ⟨n - (i + 1), by omega, rfl, hlt, p'⟩, fun x H' y => hs i σ H x H' hlt p y⟩
  · obtain rfl : i = n := by omega
    exact .inl ⟨he σ H p, hd σ H p⟩
theorem forR_rng {lo : Int} {n : Nat} (Pv : Nat → L2.St → Hp → Prop) (h0 : Pv 0 σ H) (hs : ∀ i σ H, i < n → Pv i σ H → g (.int (lo + i)) σ H fun σ2 H2 => tb ⟨Pv (i + 1), rt, nx, Pv (i + 1)⟩ σ2 H2) (hd : ∀ σ H, Pv n σ H → nx σ H) :
    ForR (Itr lo n) g tb ⟨nx, rt, bk, ct⟩ σ H := forR_gen _ n Pv h0 (fun i _ _ h _ => h) (fun _ _ _ => Nat.le_refl _) (fun i σ H x H' hi p ⟨e1, e2⟩ => by subst e1; subst e2; exact hs i σ _ hi p) hd
theorem forR_rngC {lo c : Int} {n : Nat} (Pv : Nat → L2.St → Hp → Prop) (h0 : Pv 0 σ H) (hs : ∀ (i : Nat) σ H, i < n → Pv i σ H → g (.int (lo + (i : Nat) * c)) σ H fun σ2 H2 => tb ⟨Pv (i + 1), rt, nx, Pv (i + 1)⟩ σ2 H2) (hd : ∀ σ H, Pv n σ H → nx σ H) :
    ForR (Itc lo c n) g tb ⟨nx, rt, bk, ct⟩ σ H := forR_gen _ n Pv h0 (fun i _ _ h _ => h) (fun _ _ _ => Nat.le_refl _) (fun i σ H x H' hi p ⟨e1, e2⟩ => by subst e1; subst e2; exact hs i σ _ hi p) hd
theorem forR_lst {a : Addr} {xs : List V} (Pv : Nat → L2.St → Hp → Prop) (hl : ∀ i σ H, Pv i σ H → SqL K H a xs) (h0 : Pv 0 σ H) (hs : ∀ i x σ H, xs[i]? = some x → Pv i σ H → g x σ H fun σ2 H2 => tb ⟨Pv (i + 1), rt, nx, Pv (i + 1)⟩ σ2 H2) (hd : ∀ σ H, Pv xs.length σ H → nx σ H) :
    ForR (Itl K a) g tb ⟨nx, rt, bk, ct⟩ σ H := forR_gen _ xs.length Pv h0 (fun i σ H h p => ⟨xs, xs[i], hl i σ H p, by simp [h]⟩) (fun σ H p => ⟨xs, hl _ σ H p, Nat.le_refl _⟩)
      (fun i σ H x H' hi p ⟨e1, e2⟩ => by subst e1; exact hs i x σ _ (e2 xs (hl i σ _ p)) p) hd
theorem forR_tup {a : Addr} {xs : List V} (Pv : Nat → L2.St → Hp → Prop) (hl : ∀ i σ H, Pv i σ H → SqT K H a xs) (h0 : Pv 0 σ H) (hs : ∀ i x σ H, xs[i]? = some x → Pv i σ H → g x σ H fun σ2 H2 => tb ⟨Pv (i + 1), rt, nx, Pv (i + 1)⟩ σ2 H2) (hd : ∀ σ H, Pv xs.length σ H → nx σ H) :
    ForR (Itt K a) g tb ⟨nx, rt, bk, ct⟩ σ H := forR_gen _ xs.length Pv h0 (fun i σ H h p => ⟨xs, xs[i], hl i σ H p, by simp [h]⟩) (fun σ H p => ⟨xs, hl _ σ H p, Nat.le_refl _⟩)
      (fun i σ H x H' hi p ⟨e1, e2⟩ => by subst e1; exact hs i x σ _ (e2 xs (hl i σ _ p)) p) hd
/-- the pair is a new tuple at t -/
theorem forR_enum {a : Addr} {xs : List V} (Pv : Nat → L2.St → Hp → Prop) (hl : ∀ i σ H, Pv i σ H → SqL K H a xs) (h0 : Pv 0 σ H)
    (hs : ∀ (i : Nat) x σ H t H', xs[i]? = some x → Pv i σ H → H t = none → Same H H' → H' t = some (.tup [.int (i : Nat), x]) → H' = upd H t (.tup [.int (i : Nat), x]) → g (.ref t) σ H' fun σ2 H2 => tb ⟨Pv (i + 1), rt, nx, Pv (i + 1)⟩ σ2 H2) (hd : ∀ σ H, Pv xs.length σ H → nx σ H) :
    ForR (Ite K a) g tb ⟨nx, rt, bk, ct⟩ σ H := forR_gen _ xs.length Pv h0 (fun i σ H h p => ⟨xs, xs[i], hl i σ H p, by simp [h]⟩) (fun σ H p => ⟨xs, hl _ σ H p, Nat.le_refl _⟩)
      (fun i σ H x H' hi p ⟨t, y, e1, e2, e3, e4⟩ => by subst e1; subst e3; exact hs i y σ H t _ (e4 xs (hl i σ _ p)) p e2 (Same.new (Same.refl H) e2) upd_same rfl) hd
/-! ### what is walked -/
def rgR1 (R : It → Hp → Prop) (vs : List V) (H : Hp) : Prop := ∃ j : Int, vs = [.int j] ∧ -(2 ^ 62) ≤ j ∧ j < 2 ^ 62 ∧ R (Itr 0 j.toNat) H
theorem rd_rng1 (h : ta σ H fun vs H1 => rgR1 R vs H1) : iRng1 ta σ H R := h
theorem rd_rgR1 {j : Int} (h0 : -(2 ^ 62) ≤ j) (h1 : j < 2 ^ 62) (h : R (Itr 0 j.toNat) H) : rgR1 R [.int j] H := ⟨j, rfl, h0, h1, h⟩
def rgR2 (R : It → Hp → Prop) (vs : List V) (H : Hp) : Prop := ∃ i j : Int, vs = [.int i, .int j] ∧ (-(2 ^ 62) ≤ i ∧ i < 2 ^ 62 ∧ -(2 ^ 62) ≤ j ∧ j < 2 ^ 62) ∧ R (Itr i (j - i).toNat) H
theorem rd_rng2 (h : ta σ H fun vs H1 => rgR2 R vs H1) : iRng2 ta σ H R := h
theorem rd_rgR2 {i j : Int} (h0 : -(2 ^ 62) ≤ i ∧ i < 2 ^ 62 ∧ -(2 ^ 62) ≤ j ∧ j < 2 ^ 62) (h : R (Itr i (j - i).toNat) H) : rgR2 R [.int i, .int j] H := ⟨i, j, rfl, h0, h⟩
def rgR3 (R : It → Hp → Prop) (vs : List V) (H : Hp) : Prop := ∃ (i j c : Int) (n : Nat), vs = [.int i, .int j, .int c] ∧ RgC i j c n ∧ R (Itc i c n) H
theorem rd_rng3 (h : ta σ H fun vs H1 => rgR3 R vs H1) : iRng3 ta σ H R := h
theorem rd_rgDn {i j : Int} (h0 : -(2 ^ 62) ≤ i ∧ i < 2 ^ 62 ∧ -(2 ^ 62) ≤ j ∧ j < 2 ^ 62) (h : R (Itc i (-1) (i - j).toNat) H) : rgR3 R [.int i, .int j, .int (-1)] H := ⟨i, j, -1, _, rfl, RgC.neg h0.1 h0.2.1 h0.2.2.1 h0.2.2.2, h⟩
def lsR (K : PySem.W.Frag) (R : It → Hp → Prop) (x : V) (H : Hp) : Prop := ∃ a, x = .ref a ∧ (∃ xs, SqL K H a xs) ∧ R (Itl K a) H
theorem rd_iList (h : te σ H fun x H1 => lsR K R x H1) : iList K te σ H R := h
theorem rd_lsR {a : Addr} {xs : List V} (e : SqL K H a xs) (h : R (Itl K a) H) : lsR K R (.ref a) H := ⟨a, rfl, ⟨xs, e⟩, h⟩
def tpR (K : PySem.W.Frag) (R : It → Hp → Prop) (x : V) (H : Hp) : Prop := ∃ a, x = .ref a ∧ (∃ xs, SqT K H a xs) ∧ R (Itt K a) H
theorem rd_iTup (h : te σ H fun x H1 => tpR K R x H1) : iTup K te σ H R := h
theorem rd_tpR {a : Addr} {xs : List V} (e : SqT K H a xs) (h : R (Itt K a) H) : tpR K R (.ref a) H := ⟨a, rfl, ⟨xs, e⟩, h⟩
def enR (K : PySem.W.Frag) (R : It → Hp → Prop) (vs : List V) (H : Hp) : Prop := ∃ a xs, vs = [.ref a] ∧ SqL K H a xs ∧ R (Ite K a) H
theorem rd_iEnum (h : ta σ H fun vs H1 => enR K R vs H1) : iEnum K ta σ H R := h
theorem rd_enR {a : Addr} {xs : List V} (e : SqL K H a xs) (h : R (Ite K a) H) : enR K R [.ref a] H := ⟨a, xs, rfl, e, h⟩
/-! ### while -/
def WhN (m : Nat) (W : Nat → L2.St → Hp → Prop) (tb : TS) (rt : VK) (nx : L2.St → Hp → Prop) (σ : L2.St) (H1 : Hp) : Prop := ∃ N : L2.St → Hp → Prop, (∀ σ' H', N σ' H' → ∃ m', m' < m ∧ W m' σ' H') ∧ tb ⟨N, rt, nx, N⟩ σ H1
theorem rd_whN {m : Nat} {W : Nat → L2.St → Hp → Prop} (h : tb ⟨fun σ' H' => ∃ m', m' < m ∧ W m' σ' H', rt, nx, fun σ' H' => ∃ m', m' < m ∧ W m' σ' H'⟩ σ H) : WhN m W tb rt nx σ H := ⟨_, fun _ _ q => q, h⟩
theorem rd_while (W : Nat → L2.St → Hp → Prop) (m0 : Nat) (h0 : W m0 σ H) (hs : ∀ m σ H, W m σ H → c σ H fun b H1 => if b = true then WhN m W tb rt nx σ H1 else nx σ H1) :
    tWhile c tb ⟨nx, rt, bk, ct⟩ σ H := ⟨W, ⟨m0, h0⟩, hs⟩
/-! ### a new instance -/
theorem rd_make0 {C : Addr} {sp : Sp} {dvs : List V} {E : XK} {t : TA} (h : t σ H fun vs H1 => rMake C sp dvs E Q vs H1) : tMake C sp dvs E t σ H Q := h
theorem rd_make {C : Addr} {sp : Sp} {dvs : List V} {E : XK} {ws : List V} (h : ∀ x dx H2, Same H H2 → H x = none → H2 x = some (.ins C dx []) → sp (.ref x :: (ws ++ dvs)) H2 (fun v H3 => v = .non ∧ Q (.ref x) H3) E) : rMake C sp dvs E Q ws H :=
  fun x dx hx hdx hne => h x dx _ (fun b o e => by rw [upd_ne (ne_of_none e hx), upd_ne (ne_of_none e hdx)]; exact e) hx upd_same
/-! ### draws -/
theorem rd_augS {to ti te : TE} {tget : V → V → Hp → VK → Prop} {tip : TIp} {tset : TSet} (h : to σ H fun o H1 => ti σ H1 fun i H2 => tget o i H2 fun x H3 => te σ H3 fun y H4 => tip x y H4 fun z H5 => tset o i z H5 fun H6 => nx σ H6) : tAugS to ti te tget tip tset ⟨nx, rt, bk, ct⟩ σ H := h
theorem rd_draw0 {a sc : Addr} (e : H a = some (DrawO a sc)) (h : Q (.ref sc) H) : rDraw0 (.ref a) (.int 0) H Q := ⟨a, sc, rfl, rfl, e, h⟩
theorem rd_draw1 {a sc : Addr} (e : H a = some (DrawO a sc)) (h : ∀ i : Int, Q (.int i) H) : rDraw1 (.ref a) (.int 1) H Q := ⟨a, sc, rfl, rfl, e, h⟩
theorem rd_setDraw1 {a sc : Addr} {j : Int} {QH : Hp → Prop} (e : H a = some (DrawO a sc)) (h : QH H) : sDraw1 (.ref a) (.int 1) (.int j) H QH := ⟨a, sc, j, rfl, rfl, rfl, e, h⟩
theorem rd_drawNew {t : TA} (h : t σ H fun xs H1 => rDrawN Q xs H1) : tDraw t σ H Q := h
theorem rd_drawN {sc : Addr} {j : Int} (h : ∀ p H', H p = none → Same H H' → H' p = some (DrawO p sc) → Q (.ref p) H') : rDrawN Q [.ref sc, .int j] H := ⟨sc, j, rfl, fun p hp => h p _ hp (Same.new (Same.refl H) hp) upd_same⟩
/-! ### comprehensions -/
theorem rd_yes {QB : Bool → Hp → Prop} (h : QB true H) : tYes σ H QB := h
def LcR (J : It) (g : TG) (tt : TT) (te : TE) (vs : List Nat) (σ : L2.St) (H1 : Hp) (Q : VK) : Prop := ∀ D, H1 D = none → ∃ W : Nat → Nat → Hp → Prop, (∃ m, W 0 m (upd H1 D (.lst []))) ∧ ∀ i m H, W i m H →
  (J.stop i H ∧ Q (.ref D) H) ∨ (J.go i H ∧ ∃ Nx : Hp → Prop, (∀ H', Nx H' → ∃ m', m' < m ∧ W (i + 1) m' H') ∧ ∀ x H', J.yld i H x H' → g x (wipe σ vs) H' fun σ2 H2 => wipe σ2 vs = wipe σ vs ∧ tt σ2 H2 fun b H3 =>
    if b = true then te σ2 H3 fun y H4 => ∃ acc, H4 D = some (.lst acc) ∧ acc.length < sizeLine ∧ Nx (upd H4 D (.lst (acc ++ [y]))) else Nx H3)
theorem rd_lc (h : wi σ H fun J H1 => LcR J g tt te vs σ H1 Q) : tLc wi g tt te vs σ H Q := h
/-- what a comprehension does with an element -/
def LcE (D : Addr) (Nx : Hp → Prop) (y : V) (H4 : Hp) : Prop := ∃ acc, H4 D = some (.lst acc) ∧ acc.length < sizeLine ∧ Nx (upd H4 D (.lst (acc ++ [y])))
theorem rd_lcE {D : Addr} {Nx : Hp → Prop} {y : V} {acc : List V} (e : H D = some (.lst acc)) (l : acc.length < 100000) (h : ∀ H', H' = upd H D (.lst (acc ++ [y])) → H' D = some (.lst (acc ++ [y])) → Nx H') : LcE D Nx y H := ⟨acc, e, Nat.lt_trans l (by decide), h _ rfl upd_same⟩
theorem lcR_gen (J : It) (n : Nat) (Pv : Addr → Nat → Hp → Prop) (h0 : ∀ D H', H D = none → Same H H' → H' D = some (.lst []) → H' = upd H D (.lst []) → Pv D 0 H') (hg : ∀ D i H', H D = none → i < n → Pv D i H' → J.go i H') (he : ∀ D H', H D = none → Pv D n H' → J.stop n H')
    (hs : ∀ D i H' x H2, H D = none → i < n → Pv D i H' → J.yld i H' x H2 → g x (wipe σ vs) H2 fun σ2 H2 => wipe σ2 vs = wipe σ vs ∧ tt σ2 H2 fun b H3 => if b = true then te σ2 H3 fun y H4 => LcE D (Pv D (i + 1)) y H4 else Pv D (i + 1) H3)
    (hd : ∀ D H', H D = none → Pv D n H' → Q (.ref D) H') : LcR J g tt te vs σ H Q := by
  intro D hD
  refine ⟨fun i m H => m = n - i ∧ i ≤ n ∧ Pv D i H, ⟨n, by simp, Nat.zero_le _, h0 D _ hD (Same.new (Same.refl H) hD) upd_same rfl⟩, ?_⟩
  rintro i m H' ⟨rfl, hi, p⟩
  by_cases hlt : i < n
  · exact .inr ⟨hg D i H' hD hlt p, Pv D (i + 1), fun H2 p' => ⟨n - (i + 1), by omega, rfl, hlt, p'⟩, fun x H2 y => hs D i H' x H2 hD hlt p y⟩
  · obtain rfl : i = n := by omega
    exact .inl ⟨he D H' hD p, hd D H' hD p⟩
theorem lcR_rng {lo : Int} {n : Nat} (Pv : Addr → Nat → Hp → Prop) (h0 : ∀ D H', H D = none → Same H H' → H' D = some (.lst []) → H' = upd H D (.lst []) → Pv D 0 H')
    (hs : ∀ D i H', H D = none → i < n → Pv D i H' → g (.int (lo + i)) (wipe σ vs) H' fun σ2 H2 => wipe σ2 vs = wipe σ vs ∧ tt σ2 H2 fun b H3 => if b = true then te σ2 H3 fun y H4 => LcE D (Pv D (i + 1)) y H4 else Pv D (i + 1) H3)
    (hd : ∀ D H', H D = none → Pv D n H' → Q (.ref D) H') : LcR (Itr lo n) g tt te vs σ H Q :=
  lcR_gen _ n Pv h0 (fun _ i _ _ h _ => h) (fun _ _ _ _ => Nat.le_refl _) (fun D i H x H' hD hi p ⟨e1, e2⟩ => by subst e1; subst e2; exact hs D i _ hD hi p) hd
theorem lcR_lst {a : Addr} {xs : List V} (Pv : Addr → Nat → Hp → Prop) (hl : ∀ D i H', H D = none → Pv D i H' → SqL K H' a xs) (h0 : ∀ D H', H D = none → Same H H' → H' D = some (.lst []) → H' = upd H D (.lst []) → Pv D 0 H')
    (hs : ∀ D i x H', H D = none → xs[i]? = some x → Pv D i H' → g x (wipe σ vs) H' fun σ2 H2 => wipe σ2 vs = wipe σ vs ∧ tt σ2 H2 fun b H3 => if b = true then te σ2 H3 fun y H4 => LcE D (Pv D (i + 1)) y H4 else Pv D (i + 1) H3)
    (hd : ∀ D H', H D = none → Pv D xs.length H' → Q (.ref D) H') : LcR (Itl K a) g tt te vs σ H Q :=
  lcR_gen _ xs.length Pv h0 (fun D i H' hD h p => ⟨xs, xs[i], hl D i H' hD p, by simp [h]⟩) (fun D H' hD p => ⟨xs, hl D _ H' hD p, Nat.le_refl _⟩)
    (fun D i H' x H2 hD hi p ⟨e1, e2⟩ => by subst e1; exact hs D i x _ hD (e2 xs (hl D i _ hD p)) p) hd
theorem lcR_enum {a : Addr} {xs : List V} (Pv : Addr → Nat → Hp → Prop) (hl : ∀ D i H', H D = none → Pv D i H' → SqL K H' a xs) (h0 : ∀ D H', H D = none → Same H H' → H' D = some (.lst []) → H' = upd H D (.lst []) → Pv D 0 H')
    (hs : ∀ D (i : Nat) x H' t H2, H D = none → xs[i]? = some x → Pv D i H' → H' t = none → Same H' H2 → H2 t = some (.tup [.int (i : Nat), x]) → H2 = upd H' t (.tup [.int (i : Nat), x]) → g (.ref t) (wipe σ vs) H2 fun σ2 H2 => wipe σ2 vs = wipe σ vs ∧ tt σ2 H2 fun b H3 => if b = true then te σ2 H3 fun y H4 => LcE D (Pv D (i + 1)) y H4 else Pv D (i + 1) H3)
    (hd : ∀ D H', H D = none → Pv D xs.length H' → Q (.ref D) H') : LcR (Ite K a) g tt te vs σ H Q :=
  lcR_gen _ xs.length Pv h0 (fun D i H' hD h p => ⟨xs, xs[i], hl D i H' hD p, by simp [h]⟩) (fun D H' hD p => ⟨xs, hl D _ H' hD p, Nat.le_refl _⟩)
    (fun D i H' x H2 hD hi p ⟨t, y, e1, e2, e3, e4⟩ => by subst e1; subst e3; exact hs D i y H' t _ hD (e4 xs (hl D i _ hD p)) p e2 (Same.new (Same.refl H') e2) upd_same rfl) hd
end
end Sl
set_option Elab.async false
set_option linter.all false
set_option maxRecDepth 100000
set_option maxHeartbeats 4000000
namespace Sl
open PySem L2 C8 StX
/-! ### data without lists stands when a list changes -/
mutual
inductive Dn (H : Hp) : V → PyData → Prop
  | non : Dn H .non .none
  | bl (b : Bool) : Dn H (.bl b) (.bool b)
  | int (i : Int) : Dn H (.int i) (.int i)
  | str (x : Str) : Dn H (.str x) (.str x)
  | tup {a : Addr} {xs : List V} {ds : List PyData} : H a = some (.tup xs) → DnAll H xs ds → Dn H (.ref a) (.tuple ds)
inductive DnAll (H : Hp) : List V → List PyData → Prop
  | nil : DnAll H [] []
  | cons {v : V} {vs : List V} {d : PyData} {ds : List PyData} : Dn H v d → DnAll H vs ds → DnAll H (v :: vs) (d :: ds)
end
mutual
/-- it stands where all tuples stand -/
theorem Dn.keep {H H' : Hp} (s : ∀ a xs, H a = some (.tup xs) → H' a = some (.tup xs)) : ∀ {v : V} {d : PyData}, Dn H v d → Dn H' v d
  | _, _, .non => .non
  | _, _, .bl b => .bl b
  | _, _, .int i => .int i
  | _, _, .str x => .str x
  | _, _, .tup e h => .tup (s _ _ e) (DnAll.keep s h)
theorem DnAll.keep {H H' : Hp} (s : ∀ a xs, H a = some (.tup xs) → H' a = some (.tup xs)) : ∀ {vs : List V} {ds : List PyData}, DnAll H vs ds → DnAll H' vs ds
  | _, _, .nil => .nil
  | _, _, .cons h t => .cons (Dn.keep s h) (DnAll.keep s t)
end
mutual
theorem Dn.dt {H : Hp} : ∀ {v : V} {d : PyData}, Dn H v d → Dt H v d
  | _, _, .non => .non
  | _, _, .bl b => .bl b
  | _, _, .int i => .int i
  | _, _, .str x => .str x
  | _, _, .tup e h => .tup e (DnAll.dt h)
theorem DnAll.dt {H : Hp} : ∀ {vs : List V} {ds : List PyData}, DnAll H vs ds → DtAll H vs ds
  | _, _, .nil => .nil
  | _, _, .cons h t => .cons (Dn.dt h) (DnAll.dt t)
end
theorem Dn.mono {H H' : Hp} (s : Same H H') {v : V} {d : PyData} (h : Dn H v d) : Dn H' v d := h.keep fun a xs e => s a _ e
theorem DnAll.mono {H H' : Hp} (s : Same H H') {v : List V} {d : List PyData} (h : DnAll H v d) : DnAll H' v d := h.keep fun a xs e => s a _ e
theorem keep_lst {H : Hp} {t : Addr} {xs ys : List V} (e : H t = some (.lst xs)) : ∀ a zs, H a = some (.tup zs) → upd H t (.lst ys) a = some (.tup zs) := fun a zs ea => by
  rw [upd_ne (fun q => by rw [q, e] at ea; cases ea)]
  exact ea
theorem DnAll.updL {H : Hp} {t : Addr} {xs ys : List V} (e : H t = some (.lst xs)) {vs : List V} {ds : List PyData} (h : DnAll H vs ds) : DnAll (upd H t (.lst ys)) vs ds := h.keep (keep_lst e)
theorem Dn.updL {H : Hp} {t : Addr} {xs ys : List V} (e : H t = some (.lst xs)) {v : V} {d : PyData} (h : Dn H v d) : Dn (upd H t (.lst ys)) v d := h.keep (keep_lst e)
theorem DnAll.append {H : Hp} : ∀ {vs ws : List V} {ds es : List PyData}, DnAll H vs ds → DnAll H ws es → DnAll H (vs ++ ws) (ds ++ es)
  | _, _, _, _, .nil, s => s
  | _, _, _, _, .cons h t, s => .cons h (DnAll.append t s)
theorem DnAll.length {H : Hp} : ∀ {vs : List V} {ds : List PyData}, DnAll H vs ds → vs.length = ds.length
  | _, _, .nil => rfl
  | _, _, .cons _ t => by rw [List.length_cons, List.length_cons, DnAll.length t]
theorem DnAll.intsD {H : Hp} : ∀ (ns : List Int), DnAll H (ns.map V.int) (Sl.intsD ns)
  | [] => .nil
  | n :: ns => .cons (.int n) (DnAll.intsD ns)
def triD (q : Int × Int × Int) : PyData := .tuple [.int q.1, .int q.2.1, .int q.2.2]
def pairD (q : Int × Int) : PyData := .tuple [.int q.1, .int q.2]
theorem Dn.tri {H : Hp} {t : Addr} {a b c : Int} (e : H t = some (.tup [.int a, .int b, .int c])) : Dn H (.ref t) (triD (a, b, c)) := .tup e (.cons (.int _) (.cons (.int _) (.cons (.int _) .nil)))
theorem Dn.pair {H : Hp} {t : Addr} {q : Int × Int} (e : H t = some (.tup [.int q.1, .int q.2])) : Dn H (.ref t) (pairD q) := .tup e (.cons (.int _) (.cons (.int _) .nil))
theorem Dt.tri_inv {H : Hp} {v : V} {q : Int × Int × Int} (h : Dt H v (triD q)) : ∃ t, v = .ref t ∧ H t = some (.tup [.int q.1, .int q.2.1, .int q.2.2]) := by
  unfold triD at h
  cases h with
  | tup e h =>
    cases h with
    | cons h1 h2 =>
      cases h1
      cases h2 with
      | cons h1 h2 =>
        cases h1
        cases h2 with
        | cons h1 h2 =>
          cases h1
          cases h2
          exact ⟨_, rfl, e⟩
/-! ### shapes, equality -/
theorem lay_map {α : Type} {f : α → PyData} (h : ∀ x, (f x).canLay0 = true) : ∀ l : List α, PyData.canLayAll0 (l.map f) = true
  | [] => by simp [PyData.canLayAll0]
  | x :: l => by simp [PyData.canLayAll0, h x, lay_map h l]
theorem depth_map {α : Type} {f : α → PyData} {n : Nat} (h : ∀ x, (f x).depth ≤ n) : ∀ l : List α, PyData.depthAll (l.map f) ≤ n
  | [] => by simp [PyData.depthAll]
  | x :: l => by simp only [List.map_cons, PyData.depthAll]; have := h x; have := depth_map h l; omega
theorem shaped_listMap {α : Type} {f : α → PyData} (h : ∀ x, (f x).canLay0 = true) (hd : ∀ x, (f x).depth ≤ 60) (l : List α) : SeqAt.shaped (.list (l.map f)) = true := by
  have := depth_map hd l
  refine Bool.and_eq_true_iff.mpr ⟨by simp only [PyData.canLay0]; exact lay_map h l, decide_eq_true ?_⟩
  simp only [PyData.depth]
  omega
theorem shaped_tupMap {α : Type} {f : α → PyData} (h : ∀ x, (f x).canLay0 = true) (hd : ∀ x, (f x).depth ≤ 60) (l : List α) : SeqAt.shaped (.tuple (l.map f)) = true := by
  have := depth_map hd l
  refine Bool.and_eq_true_iff.mpr ⟨by simp only [PyData.canLay0]; exact lay_map h l, decide_eq_true ?_⟩
  simp only [PyData.depth]
  omega
theorem shaped_ints (ns : List Int) : SeqAt.shaped (.list (intsD ns)) = true := shaped_listMap (fun _ => by simp [PyData.canLay0]) (fun _ => by simp [PyData.depth]) ns
theorem shaped_tris (l : List (Int × Int × Int)) : SeqAt.shaped (.list (l.map triD)) = true := shaped_listMap (fun _ => by simp [triD, PyData.canLay0, PyData.canLayAll0]) (fun _ => by simp [triD, PyData.depth, PyData.depthAll]) l
theorem shaped_pair (q : Int × Int) : SeqAt.shaped (pairD q) = true := by simp [SeqAt.shaped, pairD, PyData.canLay0, PyData.canLayAll0, PyData.depth, PyData.depthAll]
theorem shaped_pairsT (l : List (Int × Int)) : SeqAt.shaped (.tuple (l.map pairD)) = true := shaped_tupMap (fun _ => by simp [pairD, PyData.canLay0, PyData.canLayAll0]) (fun _ => by simp [pairD, PyData.depth, PyData.depthAll]) l
theorem eqv_self {d : PyData} (h : SeqAt.shaped d = true) : PyData.eqv d d = true := SeqAt.eqv_refl d (SeqAt.canLay_of_shaped h)
theorem eqv_nil (l : List PyData) : PyData.eqv (.list l) (.list []) = decide (l = []) := by
  cases l with
  | nil => simp [PyData.eqv, PyData.eqvAll]
  | cons x l => simp [PyData.eqv, PyData.eqvAll]
/-! ### isinstance against (list, tuple) -/
section
variable {H : Hp} {Q : VK} {K : PySem.W.Frag}
theorem kit_ll : PySem.W.kitAny K (.type "list") [.type "list", .type "tuple"] = some true := kitAny_cons (b := true) (kit_ty (by decide +kernel)) (fun h => nomatch h) (fun _ => rfl)
theorem kit_tt : PySem.W.kitAny K (.type "tuple") [.type "list", .type "tuple"] = some true := kitAny_cons (b := false) (kit_ty (by decide +kernel)) (fun _ => kitAny_cons (b := true) (kit_ty (by decide +kernel)) (fun h => nomatch h) (fun _ => rfl)) (fun h => nomatch h)
theorem rd_isiTL {a u : Addr} {xs : List V} (e : H a = some (.lst xs)) (eu : H u = some (.tup [.ty "list", .ty "tuple"])) (h : Q (.bl true) H) : rIsiT K [.ref a, .ref u] H Q :=
  ⟨_, u, _, _, [.type "list", .type "tuple"], true, rfl, eu, .cons (.ty _) (.cons (.ty _) .nil), .base (.lst e), kit_ll, h⟩
theorem rd_isiTT {a u : Addr} {xs : List V} (e : H a = some (.tup xs)) (eu : H u = some (.tup [.ty "list", .ty "tuple"])) (h : Q (.bl true) H) : rIsiT K [.ref a, .ref u] H Q :=
  ⟨_, u, _, _, [.type "list", .type "tuple"], true, rfl, eu, .cons (.ty _) (.cons (.ty _) .nil), .base (.tup e), kit_tt, h⟩
/-- a conditional expression of two plain values -/
theorem rd_iteV {p : Prop} [Decidable p] {σ : L2.St} {ta tb : TE} {v : V} (h1 : p → ∀ Q' : VK, Q' v H → ta σ H Q') (h2 : ¬ p → ∀ Q' : VK, Q' v H → tb σ H Q') (h : Q v H) : if decide p = true then ta σ H Q else tb σ H Q := by
  by_cases c : p
  · rw [if_pos (decide_eq_true c)]; exact h1 c Q h
  · rw [if_neg (by rw [decide_eq_false c]; exact Bool.false_ne_true)]; exact h2 c Q h
end
end Sl
set_option Elab.async false
set_option linter.all false
set_option maxRecDepth 100000
set_option maxHeartbeats 4000000
namespace Sl
open PySem L2 C8 StX Silt
local macro_rules | `(tactic| walk_at "side") => `(tactic| first
  | exact cdivw (by omega) (by omega)
  | exact cmulw (by omega) (by omega) (by omega) (by omega)
  | exact Or.inr ⟨by omega, by omega⟩
  | exact Or.inl ⟨by omega, by omega⟩
  | omega
  | exact ⟨by omega, by omega, by decide⟩
  | decide)
local macro_rules | `(tactic| walk_at "rd1") => `(tactic| first
  | with_reducible refine rd_seq ?_
  | with_reducible refine rd_asg ?_
  | with_reducible refine rd_drop ?_
  | with_reducible refine rd_ret ?_
  | with_reducible refine rd_retN ?_
  | with_reducible refine rd_ifS ?_
  | ((with_reducible refine rd_var0 ?_); refine ⟨_, rfl, ?_⟩)
  | with_reducible refine rd_c ?_
  | with_reducible refine rd_op ?_
  | with_reducible refine rd_un ?_
  | with_reducible refine rd_I0 ?_
  | with_reducible refine rd_U ?_
  | ((with_reducible refine rd_I ?c ?_); (case c => walk_at "side"))
  | with_reducible refine rd_ipI ?_
  | with_reducible refine rd_eqI ?_
  | with_reducible refine rd_neI ?_
  | with_reducible refine rd_test ?_
  | with_reducible refine rd_tB ?_
  | with_reducible refine rd_bl ?_
  | with_reducible refine rd_not ?_
  | with_reducible refine rd_and ?_
  | with_reducible refine rd_or ?_
  | with_reducible refine rd_andV ?_
  | with_reducible refine rd_orV ?_
  | with_reducible refine rd_notV ?_
  | with_reducible refine rd_ifE ?_
  | with_reducible refine rd_chain ?_
  | with_reducible refine rd_chain3 ?_
  | with_reducible refine rd_nil ?_
  | with_reducible refine rd_cons ?_
  | with_reducible refine rd_call ?_
  | with_reducible refine rd_CB ?_
  | with_reducible refine rd_par ?_
  | with_reducible refine rd_par2 ?_
  | with_reducible refine rd_par3 ?_
  | with_reducible refine rd_par4 ?_
  | ((with_reducible refine rd_aug0 ?_); refine ⟨_, rfl, ?_⟩)
  | with_reducible refine rd_gname ?_
  | with_reducible refine rd_gcons ?_
  | with_reducible refine rd_gnil ?_
  | with_reducible refine rd_max ?_
  | with_reducible refine rd_min ?_
  | with_reducible refine rd_int1 ?_
  | with_reducible refine rd_abs ?_
  | with_reducible refine rd_lst ?_
  | with_reducible refine rd_tup ?_
  | with_reducible refine rd_bm ?_
  | with_reducible refine rd_fld0 ?_
  | with_reducible refine rd_sl0 ?_
  | with_reducible refine rd_noP ?_
  | with_reducible refine rd_part ?_
  | with_reducible refine rd_part2 ?_
  | with_reducible refine rd_meth0 ?_
  | with_reducible refine rd_star ?_
  | with_reducible refine rd_for ?_
  | with_reducible refine rd_rng1 ?_
  | with_reducible refine rd_rng2 ?_
  | with_reducible refine rd_rng3 ?_
  | with_reducible refine rd_iList ?_
  | with_reducible refine rd_iTup ?_
  | with_reducible refine rd_iEnum ?_
  | with_reducible refine rd_lc ?_
  | with_reducible refine rd_yes ?_
  | with_reducible refine rd_augS ?_
  | with_reducible refine rd_drawNew ?_
  | with_reducible refine rd_make0 ?_
  | with_reducible refine rd_next ?_
  | with_reducible refine rd_break ?_
  | with_reducible refine rd_cont ?_
  | with_reducible refine rd_iteTT ?_
  | with_reducible refine rd_iteFF ?_
  | with_reducible refine rd_iteNTT ?_
  | with_reducible refine rd_iteNFF ?_
  | with_reducible refine rd_asgG ?_)
local macro_rules | `(tactic| walk_at "rd") => `(tactic| repeat walk_at "rd1")
local macro_rules | `(tactic| walk_at "len") => `(tactic| first
  | (intro vs H Q E h; obtain ⟨h2, _⟩ := h; rw [h2]; rfl)
  | (intro vs H Q E h; obtain ⟨_, h2, _⟩ := h; rw [h2]; rfl)
  | (intro vs H Q E h; obtain ⟨_, _, h2, _⟩ := h; rw [h2]; rfl)
  | (intro vs H Q E h; obtain ⟨_, _, _, h2, _⟩ := h; rw [h2]; rfl)
  | (intro vs H Q E h; obtain ⟨_, _, _, _, h2, _⟩ := h; rw [h2]; rfl)
  | (intro vs H Q E h; obtain ⟨_, _, _, _, _, h2, _⟩ := h; rw [h2]; rfl)
  | (intro vs H Q E h; obtain ⟨_, _, _, _, _, _, h2, _⟩ := h; rw [h2]; rfl)
  | (intro vs H Q E h; obtain ⟨_, _, _, _, _, _, _, h2, _⟩ := h; rw [h2]; rfl)
  | (intro vs H Q E h; obtain ⟨_, _, _, _, _, _, _, _, h2, _⟩ := h; rw [h2]; rfl)
  | (intro vs H Q E h; obtain ⟨_, _, _, _, _, _, _, _, _, h2, _⟩ := h; rw [h2]; rfl))
section
variable {σ : L2.St} {H H' : Hp} {Q : VK} {K : PySem.W.Frag} {te : TE} {v : V} {f : Str}
theorem rd_isiI {i : Int} (h : Q (.bl true) H) : rIsi K [.int i, .ty "int"] H Q := ⟨_, _, _, _, true, rfl, .ty _, .base (.int i), kit_ty (by decide +kernel), h⟩
theorem rd_isiIB {i : Int} (h : Q (.bl false) H) : rIsi K [.int i, .ty "bool"] H Q := ⟨_, _, _, _, false, rfl, .ty _, .base (.int i), kit_ty (by decide +kernel), h⟩
theorem rd_isiT {a : Addr} {xs : List V} (e : H a = some (.tup xs)) (h : Q (.bl true) H) : rIsi K [.ref a, .ty "tuple"] H Q := ⟨_, _, _, _, true, rfl, .ty _, .base (.tup e), kit_ty (by decide +kernel), h⟩
end
/-! ### the data -/
def pairsD (l : List (Int × Int)) : List PyData := l.map pairD
def atp (f q : List (Int × Int)) : Pr := fun g => if g < f.length then f.getD g (0, 0) else q.getD ((g - f.length) % q.length) (0, 0)
def rf (t1 t2 : Addr) : List (Str × V) := [("front", .ref t1), ("period", .ref t2)]
theorem rf_front (t1 t2 : Addr) : (rf t1 t2).lookup ("front" : Str) = some (.ref t1) := by rfl
theorem rf_period (t1 t2 : Addr) : (rf t1 t2).lookup ("period" : Str) = some (.ref t2) := by rfl
/-- an instance at a whose front and period are the tuples of f and q -/
def RuleAt (C : Addr) (H : Hp) (a : Addr) (f q : List PyData) : Prop := ∃ dx t1 t2, H a = some (.ins C dx (rf t1 t2)) ∧ Dt H (.ref t1) (.tuple f) ∧ Dt H (.ref t2) (.tuple q)
theorem RuleAt.mono {C : Addr} {H H' : Hp} {a : Addr} {f q : List PyData} (s : Same H H') (h : RuleAt C H a f q) : RuleAt C H' a f q := by
  obtain ⟨dx, t1, t2, e, h1, h2⟩ := h
  exact ⟨dx, t1, t2, s _ _ e, h1.mono s, h2.mono s⟩
/-- a rule -/
def RuleP (C : Addr) (H : Hp) (a : Addr) (p : Pr) : Prop := ∃ f q, RuleAt C H a (pairsD f) (pairsD q) ∧ q ≠ [] ∧ p = atp f q ∧ Good p
theorem RuleP.mono {C : Addr} {H H' : Hp} {a : Addr} {p : Pr} (s : Same H H') (h : RuleP C H a p) : RuleP C H' a p := by
  obtain ⟨f, q, h1, h2, h3, h4⟩ := h
  exact ⟨f, q, h1.mono s, h2, h3, h4⟩
theorem RuleP.good {C : Addr} {H : Hp} {a : Addr} {p : Pr} (h : RuleP C H a p) : Good p := by obtain ⟨_, _, _, _, _, g⟩ := h; exact g
theorem RuleP.ins {C : Addr} {H : Hp} {a : Addr} {p : Pr} (h : RuleP C H a p) : ∃ dx t1 t2, H a = some (.ins C dx (rf t1 t2)) := by
  obtain ⟨_, _, ⟨dx, t1, t2, e, _, _⟩, _⟩ := h
  exact ⟨dx, t1, t2, e⟩
theorem Dt.tup_inv {H : Hp} {t : Addr} {ds : List PyData} (h : Dt H (.ref t) (.tuple ds)) : ∃ xs, H t = some (.tup xs) ∧ DtAll H xs ds := by
  cases h with
  | tup e h => exact ⟨_, e, h⟩
theorem Dt.lst_inv {H : Hp} {t : Addr} {ds : List PyData} (h : Dt H (.ref t) (.list ds)) : ∃ xs, H t = some (.lst xs) ∧ DtAll H xs ds := by
  cases h with
  | lst e h => exact ⟨_, e, h⟩
theorem Dt.pair_inv {H : Hp} {v : V} {q : Int × Int} (h : Dt H v (pairD q)) : ∃ t, v = .ref t ∧ H t = some (.tup [.int q.1, .int q.2]) := by
  unfold pairD at h
  cases h with
  | tup e h =>
    cases h with
    | cons h1 h2 =>
      cases h1
      cases h2 with
      | cons h1 h2 =>
        cases h1
        cases h2
        exact ⟨_, rfl, e⟩
theorem atI_nat' {α : Type} {xs : List α} {i : Nat} {x : α} (h : xs[i]? = some x) : atI xs (i : Int) = some x := by
  exact atI_nat h
/-! ### promises -/
def spWhole : Sp := fun vs H Q _ => ∃ i : Int, vs = [.int i] ∧ Q (.bl true) H
def spChkR (C : Addr) : Sp := fun vs H Q _ => ∃ a p, vs = [.ref a] ∧ RuleP C H a p ∧ Q .non H
def spChkN : Sp := fun vs H Q _ => ∃ i j : Int, vs = [.int i, .int j] ∧ j ≤ i ∧ Q .non H
def spGet (C : Addr) : Sp := fun vs H Q _ => ∃ (a : Addr) (p : Pr) (g : Int), vs = [.ref a, .int g] ∧ RuleP C H a p ∧ 0 ≤ g ∧ ∀ t, H t = some (.tup [.int (p g.toNat).1, .int (p g.toNat).2]) → Q (.ref t) H
section
variable {P : Program} {w : World} {K : PySem.W.Frag} {mg : Str → Option Value} {base : Heap} {C_Rule C_Weights : Addr}
theorem cal_is_whole (T : TX K mg C_Rule C_Weights) : Cal P w K mg base 1 "is_whole" spWhole [] := by
  obtain ⟨f0, fd, D, dn⟩ := T.d_is_whole
  refine cal0 D (D.fn.binds dn fun _ _ _ _ _ _ us hl => match us, hl with | [_], _ => rfl) .nil sc_is_whole (by walk_at "len") (fun cdv A outer s H vs Q E hr h => ?_)
  obtain ⟨i, rfl, k⟩ := h
  refine ⟨_, (pss_one (ps_ret (pe_and (pe_callB call_isi (by rfl) T.b_isinstance (by decide +kernel) (pa_cons (pv 0) (pa_cons (pe_bltn (v := .ty "int") (u := .type "int") rfl T.b_int (by decide +kernel) rfl) pa_nil))) (pe_one (pe_not (pe_callB call_isi (by rfl) T.b_isinstance (by decide +kernel) (pa_cons (pv 0) (pa_cons (pe_bltn (v := .ty "bool") (u := .type "bool") rfl T.b_bool (by decide +kernel) rfl) pa_nil)))))))), ?_⟩
  walk_at "rd"
  refine rd_isiI ?_
  walk_at "rd"
  refine rd_isiIB ?_
  walk_at "rd"
  exact k
theorem cal_check_rule (T : TX K mg C_Rule C_Weights) : Cal P w K mg base 1 "check_rule" (spChkR C_Rule) [] := by
  obtain ⟨f0, fd, D, dn⟩ := T.d_check_rule
  refine cal0 D (D.fn.binds dn fun _ _ _ _ _ _ us hl => match us, hl with | [_], _ => rfl) .nil sc_check_rule (by walk_at "len") (fun cdv A outer s H vs Q E hr h => ?_)
  obtain ⟨a, p, rfl, hp, k⟩ := h
  obtain ⟨dx, t1, t2, e⟩ := hp.ins
  refine ⟨_, (pss_one (ps_if (pt_not (pt_val (pe_callB (cr_isC T.i_Rule) (by rfl) T.b_isinstance (by decide +kernel) (pa_cons (pv 0) (pa_cons (pe_gc rfl T.g_Rule) pa_nil))))) (pss_one ps_never) pss_nil)), ?_⟩
  walk_at "rd"
  refine rd_isC e ?_
  walk_at "rd"
  exact k
theorem cal2_check_number (T : TX K mg C_Rule C_Weights) : ∃ f fd, C8.Def K mg "check_number" s_check_number f fd ∧ (∃ ds, Vals [] ds ∧ Binds K fd P_check_number ds) ∧ (∃ ds, Vals [.int 0] ds ∧ Binds K fd P_check_number ds) ∧ FnOk P w K mg base C8.CX0 2 f fd P_check_number spChkN := by
  obtain ⟨f0, fd, D, b0, b1⟩ := T.d_check_number
  have G_is_whole := cal_is_whole (P := P) (w := w) (base := base) T
  refine ⟨f0, fd, D, b0, b1, fn0 D.fn sc_check_number (by walk_at "len") (fun cdv A outer s H vs Q E hr h => ?_)⟩
  obtain ⟨i, j, rfl, hij, k⟩ := h
  refine ⟨_, (pss_one (ps_if (PW.pt (pw_or (pt_not (pt_val (pe_c G_is_whole hr (by decide) rfl (pa_cons (pv 0) pa_nil)))) (pw_or1 (pt_cmpR op_lt (pv 0) (pv 1) (nomark _))))) (pss_one ps_never) pss_nil)), ?_⟩
  walk_at "rd"
  refine ⟨_, rfl, ?_⟩
  walk_at "rd"
  refine rd_iteF (by omega) ?_
  walk_at "rd"
  exact k
end
section
variable {P : Program} {w : World} {K : PySem.W.Frag} {mg : Str → Option Value} {base : Heap} {C_Rule C_Weights : Addr}
/-- check_number(thing) -/
theorem cal_check_number (T : TX K mg C_Rule C_Weights) : Cal P w K mg base 2 "check_number" spChkN [.int 0] := by
  obtain ⟨f, fd, D, _, ⟨ds, v, b⟩, F⟩ := cal2_check_number (P := P) (w := w) (base := base) T
  exact ⟨f, fd, _, ds, F, D.mgf, D.kp, b, v⟩
/-- check_number(thing, least) -/
theorem cal_check_number_2 (T : TX K mg C_Rule C_Weights) : Cal P w K mg base 2 "check_number" spChkN [] := by
  obtain ⟨f, fd, D, ⟨ds, v, b⟩, _, F⟩ := cal2_check_number (P := P) (w := w) (base := base) T
  exact ⟨f, fd, _, ds, F, D.mgf, D.kp, b, v⟩
theorem met_Rule_getitem (T : TX K mg C_Rule C_Weights) : Met P w K mg base 1 C_Rule "__getitem__" (spGet C_Rule) [] := by
  obtain ⟨f0, fd, D, dn, me, _⟩ := T.m_Rule_getitem
  refine met0 T.cl_Rule me D (D.binds dn fun _ _ _ _ _ _ us hl => match us, hl with | [_, _], _ => rfl) sc_Rule_getitem (by walk_at "len") (fun cdv A outer s H vs Q E hr h => ?_)
  obtain ⟨a, p, g, rfl, ⟨f, q, ⟨dx, t1, t2, e, h1, h2⟩, hq, rfl, gd⟩, hg, k⟩ := h
  obtain ⟨xs1, e1, d1⟩ := h1.tup_inv
  obtain ⟨xs2, e2, d2⟩ := h2.tup_inv
  have l1 : xs1.length = f.length := by rw [d1.length]; simp [pairsD]
  have l2 : xs2.length = q.length := by rw [d2.length]; simp [pairsD]
  have q0 : 0 < q.length := by cases q with | nil => exact absurd rfl hq | cons _ _ => exact Nat.succ_pos _
  obtain ⟨n, rfl⟩ : ∃ n : Nat, g = n := ⟨g.toNat, by omega⟩
  simp only [Int.toNat_natCast] at k
  refine ⟨_, (pss_cons (ps_if (pt_cmpR op_lt (pv 1) (pe_callB cr_lenS (by rfl) T.b_len (by decide +kernel) (pa_cons (pe_fld (pv 0) rfl) pa_nil)) (nomark _)) (pss_one (ps_ret (pe_ix ix_tup (pe_fld (pv 0) rfl) (pv 1) (fun _ _ => rfl)))) pss_nil)
      (pss_one (ps_ret (pe_ix ix_tup (pe_fld (pv 0) rfl) (pe_op op_modN (pe_op op_sub (pv 1) (pe_callB cr_lenS (by rfl) T.b_len (by decide +kernel) (pa_cons (pe_fld (pv 0) rfl) pa_nil))) (pe_callB cr_lenS (by rfl) T.b_len (by decide +kernel) (pa_cons (pe_fld (pv 0) rfl) pa_nil))) (fun _ _ => rfl))))), ?_⟩
  walk_at "rd"
  refine rd_fld e T.cl_Rule T.na_Rule_front (rf_front _ _) ?_
  walk_at "rd"
  refine rd_lenT e1 ?_
  walk_at "rd"
  refine rd_ite (fun c => ?_) (fun c => ?_)
  · walk_at "rd"
    refine rd_fld e T.cl_Rule T.na_Rule_front (rf_front _ _) ?_
    walk_at "rd"
    have hn : n < f.length := by omega
    obtain ⟨v, hv, dv⟩ := d1.get (i := n) (d := pairD (f[n])) (by simp [pairsD, hn])
    obtain ⟨t, rfl, et⟩ := dv.pair_inv
    refine rd_ixT e1 (atI_nat' hv) (k t ?_)
    rw [et]
    simp [atp, hn, List.getD_eq_getElem?_getD]
  · walk_at "rd"
    refine rd_fld e T.cl_Rule T.na_Rule_period (rf_period _ _) ?_
    walk_at "rd"
    refine rd_fld e T.cl_Rule T.na_Rule_front (rf_front _ _) ?_
    walk_at "rd"
    refine rd_lenT e1 ?_
    walk_at "rd"
    refine rd_fld e T.cl_Rule T.na_Rule_period (rf_period _ _) ?_
    walk_at "rd"
    refine rd_lenT e2 ?_
    walk_at "rd"
    have hn : ¬ n < f.length := by omega
    have hm : ((n : Int) - (xs1.length : Int)).fmod (xs2.length : Int) = (((n - f.length) % q.length : Nat) : Int) := by
      rw [l1, l2, Int.fmod_eq_emod_of_nonneg _ (by omega)]
      rw [show (n : Int) - (f.length : Int) = ((n - f.length : Nat) : Int) by omega]
      exact (Int.natCast_emod _ _).symm
    rw [hm]
    have hlt : (n - f.length) % q.length < q.length := Nat.mod_lt _ q0
    obtain ⟨v, hv, dv⟩ := d2.get (i := (n - f.length) % q.length) (d := pairD (q[(n - f.length) % q.length])) (by simp [pairsD, hlt])
    obtain ⟨t, rfl, et⟩ := dv.pair_inv
    refine rd_ixT e2 (atI_nat' hv) (k t ?_)
    rw [et]
    simp [atp, hn, hlt, List.getD_eq_getElem?_getD]
end
end Sl

set_option Elab.async false
set_option linter.all false
set_option maxRecDepth 100000
set_option maxHeartbeats 4000000
set_option exponentiation.threshold 9000
namespace Sl
open PySem L2 C8 StX Silt
local macro_rules | `(tactic| walk_at "side") => `(tactic| first
  | exact cdivw (by omega) (by omega)
  | exact cmulw (by omega) (by omega) (by omega) (by omega)
  | exact Or.inr ⟨by omega, by omega⟩
  | exact Or.inl ⟨by omega, by omega⟩
  | omega
  | exact ⟨by omega, by omega, by decide⟩
  | decide)
local macro_rules | `(tactic| walk_at "rd1") => `(tactic| first
  | with_reducible refine rd_seq ?_
  | with_reducible refine rd_asg ?_
  | with_reducible refine rd_drop ?_
  | with_reducible refine rd_ret ?_
  | with_reducible refine rd_retN ?_
  | with_reducible refine rd_ifS ?_
  | ((with_reducible refine rd_var0 ?_); refine ⟨_, rfl, ?_⟩)
  | with_reducible refine rd_c ?_
  | with_reducible refine rd_op ?_
  | with_reducible refine rd_un ?_
  | with_reducible refine rd_I0 ?_
  | with_reducible refine rd_U ?_
  | ((with_reducible refine rd_I ?c ?_); (case c => walk_at "side"))
  | with_reducible refine rd_ipI ?_
  | with_reducible refine rd_eqI ?_
  | with_reducible refine rd_neI ?_
  | with_reducible refine rd_test ?_
  | with_reducible refine rd_tB ?_
  | with_reducible refine rd_bl ?_
  | with_reducible refine rd_not ?_
  | with_reducible refine rd_and ?_
  | with_reducible refine rd_or ?_
  | with_reducible refine rd_andV ?_
  | with_reducible refine rd_orV ?_
  | with_reducible refine rd_notV ?_
  | with_reducible refine rd_ifE ?_
  | with_reducible refine rd_chain ?_
  | with_reducible refine rd_chain3 ?_
  | with_reducible refine rd_nil ?_
  | with_reducible refine rd_cons ?_
  | with_reducible refine rd_call ?_
  | with_reducible refine rd_CB ?_
  | with_reducible refine rd_par ?_
  | with_reducible refine rd_par2 ?_
  | with_reducible refine rd_par3 ?_
  | with_reducible refine rd_par4 ?_
  | ((with_reducible refine rd_aug0 ?_); refine ⟨_, rfl, ?_⟩)
  | with_reducible refine rd_gname ?_
  | with_reducible refine rd_gcons ?_
  | with_reducible refine rd_gnil ?_
  | with_reducible refine rd_max ?_
  | with_reducible refine rd_min ?_
  | with_reducible refine rd_int1 ?_
  | with_reducible refine rd_abs ?_
  | with_reducible refine rd_lst ?_
  | with_reducible refine rd_tup ?_
  | with_reducible refine rd_bm ?_
  | with_reducible refine rd_fld0 ?_
  | with_reducible refine rd_sl0 ?_
  | with_reducible refine rd_noP ?_
  | with_reducible refine rd_part ?_
  | with_reducible refine rd_part2 ?_
  | with_reducible refine rd_meth0 ?_
  | with_reducible refine rd_star ?_
  | with_reducible refine rd_for ?_
  | with_reducible refine rd_rng1 ?_
  | with_reducible refine rd_rng2 ?_
  | with_reducible refine rd_rng3 ?_
  | with_reducible refine rd_iList ?_
  | with_reducible refine rd_iTup ?_
  | with_reducible refine rd_iEnum ?_
  | with_reducible refine rd_lc ?_
  | with_reducible refine rd_yes ?_
  | with_reducible refine rd_augS ?_
  | with_reducible refine rd_drawNew ?_
  | with_reducible refine rd_make0 ?_
  | with_reducible refine rd_next ?_
  | with_reducible refine rd_break ?_
  | with_reducible refine rd_cont ?_
  | with_reducible refine rd_iteTT ?_
  | with_reducible refine rd_iteFF ?_
  | with_reducible refine rd_iteNTT ?_
  | with_reducible refine rd_iteNFF ?_
  | with_reducible refine rd_asgG ?_)
local macro_rules | `(tactic| walk_at "rd") => `(tactic| repeat walk_at "rd1")
local macro_rules | `(tactic| walk_at "len") => `(tactic| first
  | (intro vs H Q E h; obtain ⟨h2, _⟩ := h; rw [h2]; rfl)
  | (intro vs H Q E h; obtain ⟨_, h2, _⟩ := h; rw [h2]; rfl)
  | (intro vs H Q E h; obtain ⟨_, _, h2, _⟩ := h; rw [h2]; rfl)
  | (intro vs H Q E h; obtain ⟨_, _, _, h2, _⟩ := h; rw [h2]; rfl)
  | (intro vs H Q E h; obtain ⟨_, _, _, _, h2, _⟩ := h; rw [h2]; rfl)
  | (intro vs H Q E h; obtain ⟨_, _, _, _, _, h2, _⟩ := h; rw [h2]; rfl)
  | (intro vs H Q E h; obtain ⟨_, _, _, _, _, _, h2, _⟩ := h; rw [h2]; rfl)
  | (intro vs H Q E h; obtain ⟨_, _, _, _, _, _, _, h2, _⟩ := h; rw [h2]; rfl)
  | (intro vs H Q E h; obtain ⟨_, _, _, _, _, _, _, _, h2, _⟩ := h; rw [h2]; rfl)
  | (intro vs H Q E h; obtain ⟨_, _, _, _, _, _, _, _, _, h2, _⟩ := h; rw [h2]; rfl))
/-- a grade -/
abbrev Gr (g : Int) : Prop := 0 ≤ g ∧ g ≤ 2100
/-- a day, a number -/
abbrev Dy (d : Int) : Prop := 0 ≤ d ∧ d ≤ DD
theorem size_le {p : Pr} (h : Good p) : ∀ g : Nat, size p g ≤ ((12 ^ g : Nat) : Int)
  | 0 => by simp [size]
  | g + 1 => by
    have h1 := size_le h g
    have h2 := size_pos h g
    have h3 : (p g).2 ≤ 12 := by have := h.le g; have := h.hi g; omega
    have h4 := h.lo g
    show size p g * (p g).2 ≤ _
    have e : ((12 ^ (g + 1) : Nat) : Int) = ((12 ^ g : Nat) : Int) * 12 := by rw [Nat.pow_succ]; omega
    rw [e]
    exact Int.mul_le_mul h1 h3 (by omega) (by omega)
theorem owed_le {p : Pr} (h : Good p) : ∀ g : Nat, owed p g ≤ ((12 ^ (g + 1) : Nat) : Int) - 12
  | 0 => by simp [owed]
  | g + 1 => by
    have h1 := owed_le h g
    have h2 := size_le h g
    have h2' := size_pos h g
    have h3 : (p g).1 - (p g).2 ≤ 10 := by have := h.lo g; have := h.hi g; omega
    have h4 : 0 ≤ (p g).1 - (p g).2 := by have := h.le g; omega
    show owed p g + size p g * ((p g).1 - (p g).2) ≤ _
    have h5 : size p g * ((p g).1 - (p g).2) ≤ ((12 ^ g : Nat) : Int) * 10 := Int.mul_le_mul h2 h3 h4 (by omega)
    have e : ((12 ^ (g + 1 + 1) : Nat) : Int) = ((12 ^ g : Nat) : Int) * 144 := by rw [Nat.pow_succ, Nat.pow_succ]; omega
    have e1 : ((12 ^ (g + 1) : Nat) : Int) = ((12 ^ g : Nat) : Int) * 12 := by rw [Nat.pow_succ]; omega
    rw [e]
    rw [e1] at h1
    omega
theorem pow12 {g : Nat} (h : g ≤ 2200) : 12 ^ g ≤ BBn := by
  unfold BBn
  have h1 : (12 : Nat) ^ g ≤ 12 ^ 2200 := Nat.pow_le_pow_right (by decide) h
  have h2 : (12 : Nat) ^ 2200 ≤ 16 ^ 2200 := Nat.pow_le_pow_left (by decide) _
  have h3 : (16 : Nat) ^ 2200 = 2 ^ 8800 := (Nat.pow_mul 2 4 2200).symm
  have h4 : (2 : Nat) ^ 8800 ≤ 2 ^ 8900 := Nat.pow_le_pow_right (by decide) (by decide)
  exact Nat.le_trans h1 (Nat.le_trans h2 (h3 ▸ h4))
theorem size_bb {p : Pr} (h : Good p) {g : Nat} (hg : g ≤ 2200) : size p g ≤ BB := by
  have h1 := size_le h g
  have h2 := pow12 hg
  unfold BB
  omega
theorem owed_bb {p : Pr} (h : Good p) {g : Nat} (hg : g ≤ 2199) : owed p g ≤ BB := by
  have h1 := owed_le h g
  have h2 := pow12 (g := g + 1) (by omega)
  unfold BB
  omega
def spSize (C : Addr) : Sp := fun vs H Q _ => ∃ (a : Addr) (p : Pr) (g : Int), vs = [.ref a, .int g] ∧ RuleP C H a p ∧ (0 ≤ g ∧ g ≤ 2101) ∧ Q (.int (size p g.toNat)) H
def spOwed (C : Addr) : Sp := fun vs H Q _ => ∃ (a : Addr) (p : Pr) (g : Int), vs = [.ref a, .int g] ∧ RuleP C H a p ∧ (0 ≤ g ∧ g ≤ 2101) ∧ ∀ H', Same H H' → Q (.int (owed p g.toNat)) H'
def spMade (C : Addr) : Sp := fun vs H Q _ => ∃ (a : Addr) (p : Pr) (g d : Int), vs = [.ref a, .int g, .int d] ∧ RuleP C H a p ∧ Gr g ∧ Dy d ∧ ∀ H', Same H H' → Q (.int (made p g.toNat d)) H'
section
variable {P : Program} {w : World} {K : PySem.W.Frag} {mg : Str → Option Value} {base : Heap} {C_Rule C_Weights : Addr}
theorem met_Rule_size (T : TX K mg C_Rule C_Weights) : Met P w K mg base 3 C_Rule "size" (spSize C_Rule) [] := by
  obtain ⟨f0, fd, D, dn, me, _⟩ := T.m_Rule_size
  have G_Rule_getitem := met_Rule_getitem (P := P) (w := w) (base := base) T
  refine met0 T.cl_Rule me D (D.binds dn fun _ _ _ _ _ _ us hl => match us, hl with | [_, _], _ => rfl) sc_Rule_size (by walk_at "len") (fun cdv A outer s H vs Q E hr h => ?_)
  obtain ⟨a, p, g, rfl, hp, ⟨g0, g1⟩, k⟩ := h
  obtain ⟨dx, t1, t2, e⟩ := hp.ins
  have gd := hp.good
  refine ⟨_, (pss_cons (ps_s 2 sc_Rule_size.nd pe_int)
      (pss_cons (ps_for PassesOwn.never rfl (pi_range1 rfl T.b_range (pa_cons (pv 1) pa_nil)) (pg_n 3 sc_Rule_size.nd) (pss_one (ps_au 2 sc_Rule_size.nd (pe_ix ix_tup (pe_ixO G_Rule_getitem hr (by decide) (pv 0) (pv 3) T.fi_Rule) pe_int (fun _ _ => rfl)) iop_mul)))
      (pss_one (ps_ret (pv 2))))), ?_⟩
  walk_at "rd"
  refine rd_rgR1 (by omega) (by omega) ?_
  refine forR_rng (fun i σ H' => ∃ v, H' = H ∧ σ = [some (.ref a), some (.int g), some (.int (size p i)), v]) ⟨none, rfl, rfl⟩ ?_ ?_
  · rintro i σ H' hi ⟨v, rfl, rfl⟩
    walk_at "rd"
    refine rd_ownI e ⟨a, p, _, rfl, hp, by omega, fun t et => ?_⟩
    walk_at "rd"
    have ei : (0 + (i : Int)).toNat = i := by omega
    rw [ei] at et
    have b1 := gd.lo i
    have b2 := gd.le i
    have b3 := gd.hi i
    refine rd_ixT et (by rfl) ?_
    walk_at "rd"
    exact ⟨_, rfl, rfl⟩
  · rintro σ H' ⟨v, rfl, rfl⟩
    walk_at "rd"
    exact k
theorem met_Rule_owed (T : TX K mg C_Rule C_Weights) : Met P w K mg base 3 C_Rule "owed" (spOwed C_Rule) [] := by
  obtain ⟨f0, fd, D, dn, me, _⟩ := T.m_Rule_owed
  have G_Rule_getitem := met_Rule_getitem (P := P) (w := w) (base := base) T
  refine met0 T.cl_Rule me D (D.binds dn fun _ _ _ _ _ _ us hl => match us, hl with | [_, _], _ => rfl) sc_Rule_owed (by walk_at "len") (fun cdv A outer s H vs Q E hr h => ?_)
  obtain ⟨a, p, g, rfl, hp, ⟨g0, g1⟩, k⟩ := h
  obtain ⟨dx, t1, t2, e⟩ := hp.ins
  have gd := hp.good
  refine ⟨_, (pss_cons (ps_asg (pe_tup (pa_cons pe_int (pa_cons pe_int pa_nil))) (pg_tup rfl (pgs_cons (pg_n 2 sc_Rule_owed.nd) (pgs_cons (pg_n 3 sc_Rule_owed.nd) pgs_nil))))
      (pss_cons (ps_for PassesOwn.never rfl (pi_range1 rfl T.b_range (pa_cons (pv 1) pa_nil)) (pg_n 4 sc_Rule_owed.nd) (pss_cons (ps_au 2 sc_Rule_owed.nd (pe_op op_mulW (pv 3) (pe_op op_sub (pe_ix ix_tup (pe_ixO G_Rule_getitem hr (by decide) (pv 0) (pv 4) T.fi_Rule) pe_int (fun _ _ => rfl)) (pe_ix ix_tup (pe_ixO G_Rule_getitem hr (by decide) (pv 0) (pv 4) T.fi_Rule) pe_int (fun _ _ => rfl)))) ip_add)
      (pss_one (ps_au 3 sc_Rule_owed.nd (pe_ix ix_tup (pe_ixO G_Rule_getitem hr (by decide) (pv 0) (pv 4) T.fi_Rule) pe_int (fun _ _ => rfl)) iop_mul))))
      (pss_one (ps_ret (pv 2))))), ?_⟩
  walk_at "rd"
  refine rd_newT (by decide) fun t0 H0 _ s0 et0 _ => ?_
  walk_at "rd"
  refine rd_gtup et0 rfl ?_
  walk_at "rd"
  have hp := hp.mono s0
  have e := s0 _ _ e
  refine rd_rgR1 (by omega) (by omega) ?_
  refine forR_rng (fun i σ H' => ∃ v, H' = H0 ∧ σ = [some (.ref a), some (.int g), some (.int (owed p i)), some (.int (size p i)), v]) ⟨none, rfl, rfl⟩ ?_ ?_
  · rintro i σ H' hi ⟨v, rfl, rfl⟩
    have b1 := gd.lo i
    have b2 := gd.le i
    have b3 := gd.hi i
    have b4 := size_pos gd i
    have b5 := size_bb gd (g := i) (by omega)
    have b6 := bb_pos
    have ei : (0 + (i : Int)).toNat = i := by omega
    walk_at "rd"
    refine rd_ownI e ⟨a, p, _, rfl, hp, by omega, fun t et => ?_⟩
    walk_at "rd"
    rw [ei] at et
    refine rd_ixT et (by rfl) ?_
    walk_at "rd"
    refine rd_ownI e ⟨a, p, _, rfl, hp, by omega, fun t et => ?_⟩
    walk_at "rd"
    rw [ei] at et
    refine rd_ixT et (by rfl) ?_
    walk_at "rd"
    refine rd_ownI e ⟨a, p, _, rfl, hp, by omega, fun t et => ?_⟩
    walk_at "rd"
    rw [ei] at et
    refine rd_ixT et (by rfl) ?_
    walk_at "rd"
    exact ⟨_, rfl, rfl⟩
  · rintro σ H' ⟨v, rfl, rfl⟩
    walk_at "rd"
    exact k _ s0
theorem cal_made (T : TX K mg C_Rule C_Weights) : Cal P w K mg base 4 "made" (spMade C_Rule) [] := by
  obtain ⟨f0, fd, D, dn⟩ := T.d_made
  have G_check_rule := cal_check_rule (P := P) (w := w) (base := base) T
  have G_check_number := cal_check_number (P := P) (w := w) (base := base) T
  have G_Rule_owed := met_Rule_owed (P := P) (w := w) (base := base) T
  have G_Rule_size := met_Rule_size (P := P) (w := w) (base := base) T
  refine cal0 D (D.fn.binds dn fun _ _ _ _ _ _ us hl => match us, hl with | [_, _, _], _ => rfl) .nil sc_made (by walk_at "len") (fun cdv A outer s H vs Q E hr h => ?_)
  obtain ⟨a, p, g, d, rfl, hp, ⟨g0, g1⟩, ⟨d0, d1⟩, k⟩ := h
  obtain ⟨dx, t1, t2, e⟩ := hp.ins
  have gd := hp.good
  have b4 := size_pos gd g.toNat
  have b5 := size_bb gd (g := g.toNat) (by omega)
  refine ⟨_, (pss_cons (ps_expr (pe_c G_check_rule hr (by decide) rfl (pa_cons (pv 0) pa_nil)))
      (pss_cons (ps_expr (pe_c G_check_number hr (by decide) rfl (pa_cons (pv 1) pa_nil)))
      (pss_cons (ps_expr (pe_c G_check_number hr (by decide) rfl (pa_cons (pv 2) pa_nil)))
      (pss_one (ps_ret (pe_callB (cr_max2 rfl) (by rfl) T.b_max (by decide +kernel) (pa_cons pe_int (pa_cons (pe_op op_fdivW (pe_op op_sub (pv 2) (pe_mt G_Rule_owed hr (by decide) (pv 0) (pa_cons (pv 1) pa_nil))) (pe_mt G_Rule_size hr (by decide) (pv 0) (pa_cons (pv 1) pa_nil))) pa_nil)))))))), ?_⟩
  walk_at "rd"
  refine ⟨a, p, rfl, hp, ?_⟩
  walk_at "rd"
  refine ⟨_, _, rfl, g0, ?_⟩
  walk_at "rd"
  refine ⟨_, _, rfl, d0, ?_⟩
  walk_at "rd"
  refine ⟨_, _, _, rfl, e, rfl, ?_⟩
  walk_at "rd"
  refine ⟨a, p, _, rfl, hp, by omega, fun H1 s1 => ?_⟩
  walk_at "rd"
  refine ⟨_, _, _, rfl, s1 _ _ e, rfl, ?_⟩
  walk_at "rd"
  refine ⟨a, p, _, rfl, hp.mono s1, by omega, ?_⟩
  walk_at "rd"
  exact k _ s1
end
end Sl

set_option Elab.async false
set_option linter.all false
set_option maxRecDepth 100000
set_option maxHeartbeats 4000000
set_option exponentiation.threshold 9000
namespace Sl
open PySem L2 C8 StX Silt
local macro_rules | `(tactic| walk_at "side") => `(tactic| first
  | exact cdivw (by omega) (by omega)
  | exact cmulw (by omega) (by omega) (by omega) (by omega)
  | exact Or.inr ⟨by omega, by omega⟩
  | exact Or.inl ⟨by omega, by omega⟩
  | omega
  | exact ⟨by omega, by omega, by decide⟩
  | decide)
local macro_rules | `(tactic| walk_at "rd1") => `(tactic| first
  | with_reducible refine rd_seq ?_
  | with_reducible refine rd_asg ?_
  | with_reducible refine rd_drop ?_
  | with_reducible refine rd_ret ?_
  | with_reducible refine rd_retN ?_
  | with_reducible refine rd_ifS ?_
  | ((with_reducible refine rd_var0 ?_); refine ⟨_, rfl, ?_⟩)
  | with_reducible refine rd_c ?_
  | with_reducible refine rd_op ?_
  | with_reducible refine rd_un ?_
  | with_reducible refine rd_I0 ?_
  | with_reducible refine rd_U ?_
  | ((with_reducible refine rd_I ?c ?_); (case c => walk_at "side"))
  | with_reducible refine rd_ipI ?_
  | with_reducible refine rd_eqI ?_
  | with_reducible refine rd_neI ?_
  | with_reducible refine rd_test ?_
  | with_reducible refine rd_tB ?_
  | with_reducible refine rd_bl ?_
  | with_reducible refine rd_not ?_
  | with_reducible refine rd_and ?_
  | with_reducible refine rd_or ?_
  | with_reducible refine rd_andV ?_
  | with_reducible refine rd_orV ?_
  | with_reducible refine rd_notV ?_
  | with_reducible refine rd_ifE ?_
  | with_reducible refine rd_chain ?_
  | with_reducible refine rd_chain3 ?_
  | with_reducible refine rd_nil ?_
  | with_reducible refine rd_cons ?_
  | with_reducible refine rd_call ?_
  | with_reducible refine rd_CB ?_
  | with_reducible refine rd_par ?_
  | with_reducible refine rd_par2 ?_
  | with_reducible refine rd_par3 ?_
  | with_reducible refine rd_par4 ?_
  | ((with_reducible refine rd_aug0 ?_); refine ⟨_, rfl, ?_⟩)
  | with_reducible refine rd_gname ?_
  | with_reducible refine rd_gcons ?_
  | with_reducible refine rd_gnil ?_
  | with_reducible refine rd_max ?_
  | with_reducible refine rd_min ?_
  | with_reducible refine rd_int1 ?_
  | with_reducible refine rd_abs ?_
  | with_reducible refine rd_lst ?_
  | with_reducible refine rd_tup ?_
  | with_reducible refine rd_bm ?_
  | with_reducible refine rd_fld0 ?_
  | with_reducible refine rd_sl0 ?_
  | with_reducible refine rd_noP ?_
  | with_reducible refine rd_part ?_
  | with_reducible refine rd_part2 ?_
  | with_reducible refine rd_meth0 ?_
  | with_reducible refine rd_star ?_
  | with_reducible refine rd_for ?_
  | with_reducible refine rd_rng1 ?_
  | with_reducible refine rd_rng2 ?_
  | with_reducible refine rd_rng3 ?_
  | with_reducible refine rd_iList ?_
  | with_reducible refine rd_iTup ?_
  | with_reducible refine rd_iEnum ?_
  | with_reducible refine rd_lc ?_
  | with_reducible refine rd_yes ?_
  | with_reducible refine rd_augS ?_
  | with_reducible refine rd_drawNew ?_
  | with_reducible refine rd_make0 ?_
  | with_reducible refine rd_next ?_
  | with_reducible refine rd_break ?_
  | with_reducible refine rd_cont ?_
  | with_reducible refine rd_iteTT ?_
  | with_reducible refine rd_iteFF ?_
  | with_reducible refine rd_iteNTT ?_
  | with_reducible refine rd_iteNFF ?_
  | with_reducible refine rd_asgG ?_)
local macro_rules | `(tactic| walk_at "rd") => `(tactic| repeat walk_at "rd1")
local macro_rules | `(tactic| walk_at "len") => `(tactic| first
  | (intro vs H Q E h; obtain ⟨h2, _⟩ := h; rw [h2]; rfl)
  | (intro vs H Q E h; obtain ⟨_, h2, _⟩ := h; rw [h2]; rfl)
  | (intro vs H Q E h; obtain ⟨_, _, h2, _⟩ := h; rw [h2]; rfl)
  | (intro vs H Q E h; obtain ⟨_, _, _, h2, _⟩ := h; rw [h2]; rfl)
  | (intro vs H Q E h; obtain ⟨_, _, _, _, h2, _⟩ := h; rw [h2]; rfl)
  | (intro vs H Q E h; obtain ⟨_, _, _, _, _, h2, _⟩ := h; rw [h2]; rfl)
  | (intro vs H Q E h; obtain ⟨_, _, _, _, _, _, h2, _⟩ := h; rw [h2]; rfl)
  | (intro vs H Q E h; obtain ⟨_, _, _, _, _, _, _, h2, _⟩ := h; rw [h2]; rfl)
  | (intro vs H Q E h; obtain ⟨_, _, _, _, _, _, _, _, h2, _⟩ := h; rw [h2]; rfl)
  | (intro vs H Q E h; obtain ⟨_, _, _, _, _, _, _, _, _, h2, _⟩ := h; rw [h2]; rfl))
theorem len_bound {n : Nat} {c : Int} (h0 : 1 ≤ c) (h : c * ((2 ^ n : Nat) : Int) ≤ DD) : n ≤ 2000 := by
  have h1 : ((2 ^ n : Nat) : Int) ≤ DD := by
    have : 1 * ((2 ^ n : Nat) : Int) ≤ c * ((2 ^ n : Nat) : Int) := Int.mul_le_mul_of_nonneg_right h0 (Int.natCast_nonneg _)
    omega
  unfold DD DDn at h1
  have h2 : (2 : Nat) ^ n ≤ 2 ^ 2000 := by
    generalize (2 : Nat) ^ 2000 = b at *
    omega
  exact (Nat.pow_le_pow_iff_right (by decide)).mp h2
theorem late_half {p : Pr} (h : Good p) {d : Int} (hd : 0 ≤ d) : late p d * 2 ≤ d := by
  have h1 := h.lo 0
  have h2 := h.le 0
  unfold late
  by_cases q : 0 ≤ (d - (p 0).1 + (p 0).2) / (p 0).2
  · have e : max 0 ((d - (p 0).1 + (p 0).2) / (p 0).2) = (d - (p 0).1 + (p 0).2) / (p 0).2 := by omega
    rw [e]
    have e3 := Int.ediv_mul_le (d - (p 0).1 + (p 0).2) (by omega : (p 0).2 ≠ 0)
    have e4 : (d - (p 0).1 + (p 0).2) / (p 0).2 * 2 ≤ (d - (p 0).1 + (p 0).2) / (p 0).2 * (p 0).2 := Int.mul_le_mul_of_nonneg_left h1 q
    omega
  · have e : max 0 ((d - (p 0).1 + (p 0).2) / (p 0).2) = 0 := by omega
    rw [e]; omega
theorem late_tl (p : Pr) (g : Nat) (d : Int) : late (tl p g) d = max 0 ((d - (p g).1 + (p g).2) / (p g).2) := by
  unfold late tl; simp only [Nat.zero_add]
theorem tl_at (p : Pr) (g : Nat) : tl p g 0 = p g := by unfold tl; simp only [Nat.zero_add]
def spDigits (C : Addr) : Sp := fun vs H Q _ => ∃ (a : Addr) (p : Pr) (d : Int), vs = [.ref a, .int d] ∧ RuleP C H a p ∧ Dy d ∧ ∀ H' t, Same H H' → H t = none → H' t = some (.lst ((digits p d).map V.int)) → Q (.ref t) H'
section
variable {P : Program} {w : World} {K : PySem.W.Frag} {mg : Str → Option Value} {base : Heap} {C_Rule C_Weights : Addr}
theorem cal_digits (T : TX K mg C_Rule C_Weights) : Cal P w K mg base 3 "digits" (spDigits C_Rule) [] := by
  obtain ⟨f0, fd, D, dn⟩ := T.d_digits
  have G_check_rule := cal_check_rule (P := P) (w := w) (base := base) T
  have G_check_number := cal_check_number (P := P) (w := w) (base := base) T
  have G_Rule_getitem := met_Rule_getitem (P := P) (w := w) (base := base) T
  refine cal0 D (D.fn.binds dn fun _ _ _ _ _ _ us hl => match us, hl with | [_, _], _ => rfl) .nil sc_digits (by walk_at "len") (fun cdv A outer s H vs Q E hr h => ?_)
  obtain ⟨a, p, d, rfl, hp, ⟨d0, d1⟩, k⟩ := h
  obtain ⟨dx, t1, t2, e⟩ := hp.ins
  have gd := hp.good
  refine ⟨_, (pss_cons (ps_expr (pe_c G_check_rule hr (by decide) rfl (pa_cons (pv 0) pa_nil)))
      (pss_cons (ps_expr (pe_c G_check_number hr (by decide) rfl (pa_cons (pv 1) pa_nil)))
      (pss_cons (ps_par3 (i := 2) (j := 3) (l := 4) rfl sc_digits.nd rfl rfl rfl (by decide) (by decide) (by decide) rfl rfl rfl (pa_cons (pe_lst pa_nil) (pa_cons pe_int (pa_cons (pv 1) pa_nil))) (by rfl))
      (pss_cons (ps_while PassesOwn.never (pt_cmpR op_gt (pv 4) pe_int (nomark _)) (pss_cons (ps_asg (pe_ixO G_Rule_getitem hr (by decide) (pv 0) (pv 3) T.fi_Rule) (pg_tup rfl (pgs_cons (pg_n 5 sc_digits.nd) (pgs_cons (pg_n 6 sc_digits.nd) pgs_nil))))
      (pss_cons (ps_s 7 sc_digits.nd (pe_callB (cr_max2 rfl) (by rfl) T.b_max (by decide +kernel) (pa_cons pe_int (pa_cons (pe_op op_fdivW (pe_op op_add (pe_op op_sub (pv 4) (pv 5)) (pv 6)) (pv 6)) pa_nil))))
      (pss_cons (ps_expr (pe_bm PySem.F.plainAttrs_list PySem.F.slot_list_append PySem.F.type_list_append mt_append (pv 2) (pa_cons (pe_op op_sub (pv 4) (pe_op op_mulW (pv 6) (pv 7))) pa_nil)))
      (pss_one (ps_par (i := 3) (j := 4) rfl sc_digits.nd rfl rfl (by decide) rfl rfl (pa_cons (pe_op op_add (pv 3) pe_int) (pa_cons (pv 7) pa_nil)) (by rfl)))))))
      (pss_one (ps_ret (pv 2))))))), ?_⟩
  walk_at "rd"
  refine ⟨a, p, rfl, hp, ?_⟩
  walk_at "rd"
  refine ⟨_, _, rfl, d0, ?_⟩
  walk_at "rd"
  refine rd_newL (by decide) fun t H1 ht s1 et _ => ?_
  walk_at "rd"
  refine rd_while (fun m σ H' => ∃ (g : Nat) (c : Int) (ds : List Int) (v5 v6 v7 : Option V), m = c.toNat ∧ 0 ≤ c ∧ c * ((2 ^ ds.length : Nat) : Int) ≤ d ∧ Same H H' ∧ H' t = some (.lst (ds.map V.int)) ∧ digits p d = ds ++ digits (tl p g) c ∧
    σ = [some (.ref a), some (.int d), some (.ref t), some (.int g), some (.int c), v5, v6, v7]) d.toNat ⟨0, d, [], none, none, none, rfl, d0, by simp, s1, et, rfl, rfl⟩ ?_
  rintro m σ H' ⟨g, c, ds, v5, v6, v7, rfl, c0, cd, s2, et, ed, rfl⟩
  walk_at "rd"
  refine rd_ite (fun hc => ?_) (fun hc => ?_)
  · have b1 := gd.lo g
    have b2 := gd.le g
    have b3 := gd.hi g
    have hl : ds.length ≤ 2000 := len_bound (c := c) (by omega) (by omega)
    have hcd : c ≤ d := by
      have h1 : (1 : Int) ≤ ((2 ^ ds.length : Nat) : Int) := by have := Nat.pow_pos (n := ds.length) (by decide : 0 < 2); omega
      have h2 : c * 1 ≤ c * ((2 ^ ds.length : Nat) : Int) := Int.mul_le_mul_of_nonneg_left h1 c0
      omega
    refine rd_whN ?_
    walk_at "rd"
    refine rd_ownI (s2 _ _ e) ⟨a, p, _, rfl, hp.mono s2, by omega, fun u eu => ?_⟩
    rw [Int.toNat_natCast] at eu
    refine rd_gtup eu rfl ?_
    have bb := bb_pos
    have bd := dd_bb
    have bd2 := dd_pos
    walk_at "rd"
    rw [← late_tl p g c]
    have l0 := late_nn (tl p g) c
    have l1 := late_lt (gd.tl g) (d := c) (by omega)
    have l2 := late_half (gd.tl g) c0
    walk_at "rd"
    refine rd_tyL et ?_
    walk_at "rd"
    refine rd_app et (by simp; omega) fun H2 eH et2 => ?_
    walk_at "rd"
    have s3 : Same H H2 := by rw [eH]; exact Same.mut s2 ht
    refine ⟨(late (tl p g) c).toNat, by omega, g + 1, late (tl p g) c, ds ++ [c - (p g).2 * late (tl p g) c], _, _, _, rfl, l0, ?_, s3, ?_, ?_, rfl⟩
    · rw [List.length_append, List.length_singleton, Nat.pow_succ]
      have h1 : (0 : Int) ≤ ((2 ^ ds.length : Nat) : Int) := Int.natCast_nonneg _
      have h2 : late (tl p g) c * 2 * ((2 ^ ds.length : Nat) : Int) ≤ c * ((2 ^ ds.length : Nat) : Int) := Int.mul_le_mul_of_nonneg_right l2 h1
      have h3 : late (tl p g) c * (((2 ^ ds.length * 2 : Nat)) : Int) = late (tl p g) c * 2 * ((2 ^ ds.length : Nat) : Int) := by
        rw [Int.natCast_mul, Int.mul_assoc]
        congr 1
        exact Int.mul_comm _ _
      rw [h3]
      exact Int.le_trans h2 cd
    · rw [et2, List.map_append]
      rfl
    · rw [ed, digits_pos (gd.tl g) (by omega : 0 < c), tl_tl, tl_at, List.append_assoc]
      rfl
  · walk_at "rd"
    have hz : c ≤ 0 := by omega
    rw [digits_zero (tl p g) hz, List.append_nil] at ed
    refine k H' t s2 ht ?_
    rw [ed]
    exact et
end
end Sl

set_option Elab.async false
set_option linter.all false
set_option maxRecDepth 100000
set_option maxHeartbeats 4000000
set_option exponentiation.threshold 9000
namespace Sl
open PySem L2 C8 StX Silt
local macro_rules | `(tactic| walk_at "side") => `(tactic| first
  | exact cdivw (by omega) (by omega)
  | exact cmulw (by omega) (by omega) (by omega) (by omega)
  | exact Or.inr ⟨by omega, by omega⟩
  | exact Or.inl ⟨by omega, by omega⟩
  | omega
  | exact ⟨by omega, by omega, by decide⟩
  | decide)
local macro_rules | `(tactic| walk_at "rd1") => `(tactic| first
  | with_reducible refine rd_seq ?_
  | with_reducible refine rd_asg ?_
  | with_reducible refine rd_drop ?_
  | with_reducible refine rd_ret ?_
  | with_reducible refine rd_retN ?_
  | with_reducible refine rd_ifS ?_
  | ((with_reducible refine rd_var0 ?_); refine ⟨_, rfl, ?_⟩)
  | with_reducible refine rd_c ?_
  | with_reducible refine rd_op ?_
  | with_reducible refine rd_un ?_
  | with_reducible refine rd_I0 ?_
  | with_reducible refine rd_U ?_
  | ((with_reducible refine rd_I ?c ?_); (case c => walk_at "side"))
  | with_reducible refine rd_ipI ?_
  | with_reducible refine rd_eqI ?_
  | with_reducible refine rd_neI ?_
  | with_reducible refine rd_test ?_
  | with_reducible refine rd_tB ?_
  | with_reducible refine rd_bl ?_
  | with_reducible refine rd_not ?_
  | with_reducible refine rd_and ?_
  | with_reducible refine rd_or ?_
  | with_reducible refine rd_andV ?_
  | with_reducible refine rd_orV ?_
  | with_reducible refine rd_notV ?_
  | with_reducible refine rd_ifE ?_
  | with_reducible refine rd_chain ?_
  | with_reducible refine rd_chain3 ?_
  | with_reducible refine rd_nil ?_
  | with_reducible refine rd_cons ?_
  | with_reducible refine rd_call ?_
  | with_reducible refine rd_CB ?_
  | with_reducible refine rd_par ?_
  | with_reducible refine rd_par2 ?_
  | with_reducible refine rd_par3 ?_
  | with_reducible refine rd_par4 ?_
  | ((with_reducible refine rd_aug0 ?_); refine ⟨_, rfl, ?_⟩)
  | with_reducible refine rd_gname ?_
  | with_reducible refine rd_gcons ?_
  | with_reducible refine rd_gnil ?_
  | with_reducible refine rd_max ?_
  | with_reducible refine rd_min ?_
  | with_reducible refine rd_int1 ?_
  | with_reducible refine rd_abs ?_
  | with_reducible refine rd_lst ?_
  | with_reducible refine rd_tup ?_
  | with_reducible refine rd_bm ?_
  | with_reducible refine rd_fld0 ?_
  | with_reducible refine rd_sl0 ?_
  | with_reducible refine rd_noP ?_
  | with_reducible refine rd_part ?_
  | with_reducible refine rd_part2 ?_
  | with_reducible refine rd_meth0 ?_
  | with_reducible refine rd_star ?_
  | with_reducible refine rd_for ?_
  | with_reducible refine rd_rng1 ?_
  | with_reducible refine rd_rng2 ?_
  | with_reducible refine rd_rng3 ?_
  | with_reducible refine rd_iList ?_
  | with_reducible refine rd_iTup ?_
  | with_reducible refine rd_iEnum ?_
  | with_reducible refine rd_lc ?_
  | with_reducible refine rd_yes ?_
  | with_reducible refine rd_augS ?_
  | with_reducible refine rd_drawNew ?_
  | with_reducible refine rd_make0 ?_
  | with_reducible refine rd_next ?_
  | with_reducible refine rd_break ?_
  | with_reducible refine rd_cont ?_
  | with_reducible refine rd_iteTT ?_
  | with_reducible refine rd_iteFF ?_
  | with_reducible refine rd_iteNTT ?_
  | with_reducible refine rd_iteNFF ?_
  | with_reducible refine rd_asgG ?_)
local macro_rules | `(tactic| walk_at "rd") => `(tactic| repeat walk_at "rd1")
local macro_rules | `(tactic| walk_at "len") => `(tactic| first
  | (intro vs H Q E h; obtain ⟨h2, _⟩ := h; rw [h2]; rfl)
  | (intro vs H Q E h; obtain ⟨_, h2, _⟩ := h; rw [h2]; rfl)
  | (intro vs H Q E h; obtain ⟨_, _, h2, _⟩ := h; rw [h2]; rfl)
  | (intro vs H Q E h; obtain ⟨_, _, _, h2, _⟩ := h; rw [h2]; rfl)
  | (intro vs H Q E h; obtain ⟨_, _, _, _, h2, _⟩ := h; rw [h2]; rfl)
  | (intro vs H Q E h; obtain ⟨_, _, _, _, _, h2, _⟩ := h; rw [h2]; rfl)
  | (intro vs H Q E h; obtain ⟨_, _, _, _, _, _, h2, _⟩ := h; rw [h2]; rfl)
  | (intro vs H Q E h; obtain ⟨_, _, _, _, _, _, _, h2, _⟩ := h; rw [h2]; rfl)
  | (intro vs H Q E h; obtain ⟨_, _, _, _, _, _, _, _, h2, _⟩ := h; rw [h2]; rfl)
  | (intro vs H Q E h; obtain ⟨_, _, _, _, _, _, _, _, _, h2, _⟩ := h; rw [h2]; rfl))
theorem two_le_dd {n : Nat} (h : ((2 ^ n : Nat) : Int) ≤ DD) : n ≤ 2000 := len_bound (c := 1) (by decide) (by omega)
theorem grade_le {p : Pr} (h : Good p) {g : Nat} {d : Int} (hs : size p g ≤ d) (hd : d ≤ DD) : g ≤ 2000 := two_le_dd (Int.le_trans (size_ge h g) (Int.le_trans hs hd))
def spIsBaked (C : Addr) : Sp := fun vs H Q _ => ∃ (a : Addr) (p : Pr) (g d : Int), vs = [.ref a, .int g, .int d] ∧ RuleP C H a p ∧ Gr g ∧ Dy d ∧ ∀ H', Same H H' → Q (.bl (isBaked p g.toNat d)) H'
def spBaked (C : Addr) : Sp := fun vs H Q _ => ∃ (a : Addr) (p : Pr) (d : Int), vs = [.ref a, .int d] ∧ RuleP C H a p ∧ Dy d ∧ ∀ H' t, Same H H' → H t = none → H' t = some (.lst ((bakedL p d).map V.int)) → Q (.ref t) H'
def spNextBaked (C : Addr) : Sp := fun vs H Q _ => ∃ (a : Addr) (p : Pr) (g d : Int), vs = [.ref a, .int g, .int d] ∧ RuleP C H a p ∧ Gr g ∧ Dy d ∧ ∀ H', Same H H' → Q (.int (nextBaked p g.toNat d)) H'
def spCount (C : Addr) : Sp := fun vs H Q _ => ∃ (a : Addr) (p : Pr) (d : Int), vs = [.ref a, .int d] ∧ RuleP C H a p ∧ Dy d ∧ ∀ H', Same H H' → Q (.int (digits p d).sum) H'
def spWork (C : Addr) : Sp := fun vs H Q _ => ∃ (a : Addr) (p : Pr) (d : Int), vs = [.ref a, .int d] ∧ RuleP C H a p ∧ Dy d ∧ ∀ H', Same H H' → Q (.int (work p d)) H'
section
variable {P : Program} {w : World} {K : PySem.W.Frag} {mg : Str → Option Value} {base : Heap} {C_Rule C_Weights : Addr}
theorem cal_is_baked (T : TX K mg C_Rule C_Weights) : Cal P w K mg base 4 "is_baked" (spIsBaked C_Rule) [] := by
  obtain ⟨f0, fd, D, dn⟩ := T.d_is_baked
  have G_Rule_size := met_Rule_size (P := P) (w := w) (base := base) T
  have G_Rule_owed := met_Rule_owed (P := P) (w := w) (base := base) T
  refine cal0 D (D.fn.binds dn fun _ _ _ _ _ _ us hl => match us, hl with | [_, _, _], _ => rfl) .nil sc_is_baked (by walk_at "len") (fun cdv A outer s H vs Q E hr h => ?_)
  obtain ⟨a, p, g, d, rfl, hp, ⟨g0, g1⟩, ⟨d0, d1⟩, k⟩ := h
  obtain ⟨dx, t1, t2, e⟩ := hp.ins
  have gd := hp.good
  have eg : (g + 1).toNat = g.toNat + 1 := by omega
  have b4 := size_pos gd (g.toNat + 1)
  refine ⟨_, (pss_cons (ps_par (i := 3) (j := 4) rfl sc_is_baked.nd rfl rfl (by decide) rfl rfl (pa_cons (pe_mt G_Rule_size hr (by decide) (pv 0) (pa_cons (pe_op op_add (pv 1) pe_int) pa_nil)) (pa_cons (pe_mt G_Rule_owed hr (by decide) (pv 0) (pa_cons (pe_op op_add (pv 1) pe_int) pa_nil)) pa_nil)) (by rfl))
      (pss_one (ps_ret (pe_and (pe_cmpR op_ge (pv 2) (pe_op op_add (pv 4) (pv 3)) (nomark _)) (pe_one (pe_cmpR op_eq (pe_op op_modN (pe_op op_sub (pv 2) (pv 4)) (pv 3)) pe_int (nomark _))))))), ?_⟩
  walk_at "rd"
  refine ⟨_, _, _, rfl, e, rfl, ?_⟩
  walk_at "rd"
  refine ⟨a, p, _, rfl, hp, by omega, ?_⟩
  walk_at "rd"
  refine ⟨_, _, _, rfl, e, rfl, ?_⟩
  walk_at "rd"
  refine ⟨a, p, _, rfl, hp, by omega, fun H1 s1 => ?_⟩
  rw [eg]
  walk_at "rd"
  by_cases c : owed p (g.toNat + 1) + size p (g.toNat + 1) ≤ d
  · refine rd_iteT c ?_
    walk_at "rd"
    have q := k H1 s1
    unfold isBaked at q
    rw [decide_eq_true c, Bool.true_and] at q
    rw [Int.fmod_eq_emod_of_nonneg _ (by omega)]
    exact q
  · refine rd_iteF c ?_
    have q := k H1 s1
    unfold isBaked at q
    rw [decide_eq_false c, Bool.false_and] at q
    exact q
theorem cal_baked (T : TX K mg C_Rule C_Weights) : Cal P w K mg base 5 "baked" (spBaked C_Rule) [] := by
  obtain ⟨f0, fd, D, dn⟩ := T.d_baked
  have G_check_rule := cal_check_rule (P := P) (w := w) (base := base) T
  have G_check_number := cal_check_number (P := P) (w := w) (base := base) T
  have G_is_baked := cal_is_baked (P := P) (w := w) (base := base) T
  refine cal0 D (D.fn.binds dn fun _ _ _ _ _ _ us hl => match us, hl with | [_, _], _ => rfl) .nil sc_baked (by walk_at "len") (fun cdv A outer s H vs Q E hr h => ?_)
  obtain ⟨a, p, d, rfl, hp, ⟨d0, d1⟩, k⟩ := h
  have gd := hp.good
  refine ⟨_, (pss_cons (ps_expr (pe_c G_check_rule hr (by decide) rfl (pa_cons (pv 0) pa_nil)))
      (pss_cons (ps_expr (pe_c G_check_number hr (by decide) rfl (pa_cons (pv 1) pa_nil)))
      (pss_cons (ps_par (i := 2) (j := 3) rfl sc_baked.nd rfl rfl (by decide) rfl rfl (pa_cons (pe_lst pa_nil) (pa_cons pe_int pa_nil)) (by rfl))
      (pss_cons (ps_while PassesOwn.never (pt_val (pe_c G_is_baked hr (by decide) rfl (pa_cons (pv 0) (pa_cons (pv 3) (pa_cons (pv 1) pa_nil))))) (pss_cons (ps_expr (pe_bm PySem.F.plainAttrs_list PySem.F.slot_list_append PySem.F.type_list_append mt_append (pv 2) (pa_cons (pv 3) pa_nil)))
      (pss_one (ps_au 3 sc_baked.nd pe_int ip_add))))
      (pss_one (ps_ret (pv 2))))))), ?_⟩
  walk_at "rd"
  refine ⟨a, p, rfl, hp, ?_⟩
  walk_at "rd"
  refine ⟨_, _, rfl, d0, ?_⟩
  walk_at "rd"
  refine rd_newL (by decide) fun t H1 ht s1 et _ => ?_
  walk_at "rd"
  refine rd_while (fun m σ H' => ∃ (g : Nat) (ds : List Int), m = d.toNat - g ∧ g ≤ 2000 ∧ ds.length = g ∧ Same H H' ∧ H' t = some (.lst (ds.map V.int)) ∧ bakedL p d = ds ++ bkF (d.toNat - g) p d g ∧
    σ = [some (.ref a), some (.int d), some (.ref t), some (.int g)]) d.toNat ⟨0, [], by omega, by omega, rfl, s1, et, by rfl, rfl⟩ ?_
  rintro m σ H' ⟨g, ds, rfl, hg, hl, s2, et, ed, rfl⟩
  walk_at "rd"
  refine ⟨a, p, g, d, rfl, hp.mono s2, ⟨by omega, by omega⟩, ⟨d0, d1⟩, fun H2 s3 => ?_⟩
  rw [Int.toNat_natCast]
  walk_at "rd"
  rw [bkF_step gd rfl] at ed
  by_cases c : isBaked p g d = true
  · rw [c]
    rw [if_pos c] at ed
    have b1 := isBaked_lt gd c
    have b2 := grade_le gd (isBaked_size gd c) d1
    walk_at "rd"
    refine rd_whN ?_
    walk_at "rd"
    refine rd_tyL (s3 _ _ et) ?_
    walk_at "rd"
    refine rd_app (s3 _ _ et) (by simp; omega) fun H3 eH et2 => ?_
    walk_at "rd"
    have s4 : Same H H3 := by rw [eH]; exact Same.mut (s2.trans s3) ht
    refine ⟨d.toNat - (g + 1), by omega, g + 1, ds ++ [(g : Int)], rfl, b2, by simp [hl], s4, ?_, ?_, rfl⟩
    · rw [et2, List.map_append]; rfl
    · rw [ed, List.append_assoc]; rfl
  · have c' : isBaked p g d = false := by cases q : isBaked p g d with | true => exact absurd q c | false => rfl
    rw [c']
    rw [if_neg c, List.append_nil] at ed
    walk_at "rd"
    refine k H2 t (s2.trans s3) ht ?_
    rw [ed]
    exact s3 _ _ et
theorem cal_next_baked (T : TX K mg C_Rule C_Weights) : Cal P w K mg base 4 "next_baked" (spNextBaked C_Rule) [] := by
  obtain ⟨f0, fd, D, dn⟩ := T.d_next_baked
  have G_check_rule := cal_check_rule (P := P) (w := w) (base := base) T
  have G_check_number := cal_check_number (P := P) (w := w) (base := base) T
  have G_Rule_size := met_Rule_size (P := P) (w := w) (base := base) T
  have G_Rule_owed := met_Rule_owed (P := P) (w := w) (base := base) T
  refine cal0 D (D.fn.binds dn fun _ _ _ _ _ _ us hl => match us, hl with | [_, _, _], _ => rfl) .nil sc_next_baked (by walk_at "len") (fun cdv A outer s H vs Q E hr h => ?_)
  obtain ⟨a, p, g, d, rfl, hp, ⟨g0, g1⟩, ⟨d0, d1⟩, k⟩ := h
  obtain ⟨dx, t1, t2, e⟩ := hp.ins
  have gd := hp.good
  have eg : (g + 1).toNat = g.toNat + 1 := by omega
  have b4 := size_pos gd (g.toNat + 1)
  have b5 := size_bb gd (g := g.toNat + 1) (by omega)
  have b6 := owed_nn gd (g.toNat + 1)
  have b7 := bb_pos
  have b8 := dd_bb
  have b9 := dd_pos
  have b10 : (d - owed p (g.toNat + 1)) / size p (g.toNat + 1) ≤ d := by
    have := made_le gd (g.toNat + 1) d0
    unfold made at this
    omega
  refine ⟨_, (pss_cons (ps_expr (pe_c G_check_rule hr (by decide) rfl (pa_cons (pv 0) pa_nil)))
      (pss_cons (ps_expr (pe_c G_check_number hr (by decide) rfl (pa_cons (pv 1) pa_nil)))
      (pss_cons (ps_expr (pe_c G_check_number hr (by decide) rfl (pa_cons (pv 2) pa_nil)))
      (pss_cons (ps_par (i := 3) (j := 4) rfl sc_next_baked.nd rfl rfl (by decide) rfl rfl (pa_cons (pe_mt G_Rule_size hr (by decide) (pv 0) (pa_cons (pe_op op_add (pv 1) pe_int) pa_nil)) (pa_cons (pe_mt G_Rule_owed hr (by decide) (pv 0) (pa_cons (pe_op op_add (pv 1) pe_int) pa_nil)) pa_nil)) (by rfl))
      (pss_one (ps_ret (pe_op op_add (pv 4) (pe_op op_mulW (pv 3) (pe_callB (cr_max2 rfl) (by rfl) T.b_max (by decide +kernel) (pa_cons pe_int (pa_cons (pe_op op_add (pe_op op_fdivW (pe_op op_sub (pv 2) (pv 4)) (pv 3)) pe_int) pa_nil))))))))))), ?_⟩
  walk_at "rd"
  refine ⟨a, p, rfl, hp, ?_⟩
  walk_at "rd"
  refine ⟨_, _, rfl, g0, ?_⟩
  walk_at "rd"
  refine ⟨_, _, rfl, d0, ?_⟩
  walk_at "rd"
  refine ⟨_, _, _, rfl, e, rfl, ?_⟩
  walk_at "rd"
  refine ⟨a, p, _, rfl, hp, by omega, ?_⟩
  walk_at "rd"
  refine ⟨_, _, _, rfl, e, rfl, ?_⟩
  walk_at "rd"
  refine ⟨a, p, _, rfl, hp, by omega, fun H1 s1 => ?_⟩
  rw [eg]
  walk_at "rd"
  exact k H1 s1
theorem cal_count (T : TX K mg C_Rule C_Weights) : Cal P w K mg base 4 "count" (spCount C_Rule) [] := by
  obtain ⟨f0, fd, D, dn⟩ := T.d_count
  have G_digits := cal_digits (P := P) (w := w) (base := base) T
  refine cal0 D (D.fn.binds dn fun _ _ _ _ _ _ us hl => match us, hl with | [_, _], _ => rfl) .nil sc_count (by walk_at "len") (fun cdv A outer s H vs Q E hr h => ?_)
  obtain ⟨a, p, d, rfl, hp, dy, k⟩ := h
  refine ⟨_, (pss_one (ps_ret (pe_callB (cr_sum rfl) (by rfl) T.b_sum (by decide +kernel) (pa_cons (pe_c G_digits hr (by decide) rfl (pa_cons (pv 0) (pa_cons (pv 1) pa_nil))) pa_nil)))), ?_⟩
  walk_at "rd"
  refine ⟨a, p, d, rfl, hp, dy, fun H' t s1 _ et => ?_⟩
  walk_at "rd"
  refine rd_sum (SqL.of et) ?_
  exact k H' s1
theorem cal_work (T : TX K mg C_Rule C_Weights) : Cal P w K mg base 5 "work" (spWork C_Rule) [] := by
  obtain ⟨f0, fd, D, dn⟩ := T.d_work
  have G_check_rule := cal_check_rule (P := P) (w := w) (base := base) T
  have G_check_number := cal_check_number (P := P) (w := w) (base := base) T
  have G_made := cal_made (P := P) (w := w) (base := base) T
  have G_Rule_size := met_Rule_size (P := P) (w := w) (base := base) T
  refine cal0 D (D.fn.binds dn fun _ _ _ _ _ _ us hl => match us, hl with | [_, _], _ => rfl) .nil sc_work (by walk_at "len") (fun cdv A outer s H vs Q E hr h => ?_)
  obtain ⟨a, p, d, rfl, hp, ⟨d0, d1⟩, k⟩ := h
  obtain ⟨dx, t1, t2, e⟩ := hp.ins
  have gd := hp.good
  have b7 := bb_pos
  have b8 := dd_bb
  have b9 := dd_pos
  refine ⟨_, (pss_cons (ps_expr (pe_c G_check_rule hr (by decide) rfl (pa_cons (pv 0) pa_nil)))
      (pss_cons (ps_expr (pe_c G_check_number hr (by decide) rfl (pa_cons (pv 1) pa_nil)))
      (pss_cons (ps_asg (pe_tup (pa_cons pe_int (pa_cons pe_int pa_nil))) (pg_tup rfl (pgs_cons (pg_n 2 sc_work.nd) (pgs_cons (pg_n 3 sc_work.nd) pgs_nil))))
      (pss_cons (ps_while PassesOwn.never (pt_cmpR op_gt (pe_c G_made hr (by decide) rfl (pa_cons (pv 0) (pa_cons (pv 3) (pa_cons (pv 1) pa_nil)))) pe_int (nomark _)) (pss_cons (ps_au 2 sc_work.nd (pe_op op_mulW (pe_c G_made hr (by decide) rfl (pa_cons (pv 0) (pa_cons (pv 3) (pa_cons (pv 1) pa_nil)))) (pe_mt G_Rule_size hr (by decide) (pv 0) (pa_cons (pv 3) pa_nil))) ip_add)
      (pss_one (ps_au 3 sc_work.nd pe_int ip_add))))
      (pss_one (ps_ret (pv 2))))))), ?_⟩
  walk_at "rd"
  refine ⟨a, p, rfl, hp, ?_⟩
  walk_at "rd"
  refine ⟨_, _, rfl, d0, ?_⟩
  walk_at "rd"
  refine rd_newT (by decide) fun t0 H0 _ s0 et0 _ => ?_
  walk_at "rd"
  refine rd_gtup et0 rfl ?_
  walk_at "rd"
  refine rd_while (fun m σ H' => ∃ (g : Nat) (f : Int), m = (made p g d).toNat ∧ g ≤ 2000 ∧ Same H H' ∧ work p d = f + size p g * work (tl p g) (made p g d) ∧ σ = [some (.ref a), some (.int d), some (.int f), some (.int (g + 1 : Nat))]) _ ⟨0, 0, rfl, by omega, s0, ?_, rfl⟩ ?_
  · rw [made_zero p d0, tl_zero]; simp [size]
  rintro m σ H' ⟨g, f, rfl, hg, s2, ew, rfl⟩
  have m0 := made_nn p g d
  have hn := made_next gd g d d0
  have hw := work_eq (gd.tl g) m0
  rw [← hn, tl_tl, tl_at] at hw
  walk_at "rd"
  refine ⟨a, p, _, d, rfl, hp.mono s2, ⟨by omega, by omega⟩, ⟨d0, d1⟩, fun H2 s3 => ?_⟩
  rw [Int.toNat_natCast]
  walk_at "rd"
  refine rd_ite (fun c => ?_) (fun c => ?_)
  · have b1 := made_pos gd c
    have b2 := grade_le gd b1 d1
    have b3 := made_le gd (g + 1) d0
    have b4 := size_pos gd (g + 1)
    have b5 := size_bb gd (g := g + 1) (by omega)
    have l1 : made p (g + 1) d < made p g d := by
      rw [hn]
      refine late_lt (gd.tl g) ?_
      rcases Int.lt_or_eq_of_le m0 with q | q
      · exact q
      · exfalso
        rw [hn, ← q] at c
        have := (gd.tl g).lo 0
        have := (gd.tl g).le 0
        have := neg_ediv_le (a := 0 - (tl p g 0).1 + (tl p g 0).2) (s := (tl p g 0).2) (by omega) (by omega)
        unfold late at c
        omega
    refine rd_whN ?_
    walk_at "rd"
    refine ⟨a, p, _, d, rfl, hp.mono (s2.trans s3), ⟨by omega, by omega⟩, ⟨d0, d1⟩, fun H3 s4 => ?_⟩
    rw [Int.toNat_natCast]
    walk_at "rd"
    have s5 := (s2.trans s3).trans s4
    refine ⟨_, _, _, rfl, s5 _ _ e, rfl, ?_⟩
    walk_at "rd"
    refine ⟨a, p, _, rfl, hp.mono s5, by omega, ?_⟩
    rw [Int.toNat_natCast]
    walk_at "rd"
    refine ⟨(made p (g + 1) d).toNat, by omega, g + 1, _, rfl, b2, s5, ?_, rfl⟩
    rw [ew, hw]
    show _ = f + made p (g + 1) d * (size p g * (p g).2) + size p g * (p g).2 * _
    rw [Int.mul_add, Int.mul_assoc (size p g), ← Int.mul_assoc (size p g) (p g).2 (made p (g + 1) d), Int.mul_comm (made p (g + 1) d)]
    omega
  · walk_at "rd"
    have z := made_nn p (g + 1) d
    have e0 : made p (g + 1) d = 0 := by omega
    rw [e0] at hw
    have : work (tl p (g + 1)) 0 = 0 := by simp [work, workF]
    rw [this] at hw
    have hz : work (tl p g) (made p g d) = 0 := by rw [hw]; simp
    rw [hz, Int.mul_zero, Int.add_zero] at ew
    rw [← ew]
    exact k H2 (s2.trans s3)
end
end Sl

set_option Elab.async false
set_option linter.all false
set_option maxRecDepth 100000
set_option maxHeartbeats 4000000
set_option exponentiation.threshold 9000
namespace Sl
open PySem L2 C8 StX Silt
local macro_rules | `(tactic| walk_at "side") => `(tactic| first
  | exact cdivw (by omega) (by omega)
  | exact cmulw (by omega) (by omega) (by omega) (by omega)
  | exact Or.inr ⟨by omega, by omega⟩
  | exact Or.inl ⟨by omega, by omega⟩
  | omega
  | exact ⟨by omega, by omega, by decide⟩
  | decide)
local macro_rules | `(tactic| walk_at "rd1") => `(tactic| first
  | with_reducible refine rd_seq ?_
  | with_reducible refine rd_asg ?_
  | with_reducible refine rd_drop ?_
  | with_reducible refine rd_ret ?_
  | with_reducible refine rd_retN ?_
  | with_reducible refine rd_ifS ?_
  | ((with_reducible refine rd_var0 ?_); refine ⟨_, rfl, ?_⟩)
  | with_reducible refine rd_c ?_
  | with_reducible refine rd_op ?_
  | with_reducible refine rd_un ?_
  | with_reducible refine rd_I0 ?_
  | with_reducible refine rd_U ?_
  | ((with_reducible refine rd_I ?c ?_); (case c => walk_at "side"))
  | with_reducible refine rd_ipI ?_
  | with_reducible refine rd_eqI ?_
  | with_reducible refine rd_neI ?_
  | with_reducible refine rd_test ?_
  | with_reducible refine rd_tB ?_
  | with_reducible refine rd_bl ?_
  | with_reducible refine rd_not ?_
  | with_reducible refine rd_and ?_
  | with_reducible refine rd_or ?_
  | with_reducible refine rd_andV ?_
  | with_reducible refine rd_orV ?_
  | with_reducible refine rd_notV ?_
  | with_reducible refine rd_ifE ?_
  | with_reducible refine rd_chain ?_
  | with_reducible refine rd_chain3 ?_
  | with_reducible refine rd_nil ?_
  | with_reducible refine rd_cons ?_
  | with_reducible refine rd_call ?_
  | with_reducible refine rd_CB ?_
  | with_reducible refine rd_par ?_
  | with_reducible refine rd_par2 ?_
  | with_reducible refine rd_par3 ?_
  | with_reducible refine rd_par4 ?_
  | ((with_reducible refine rd_aug0 ?_); refine ⟨_, rfl, ?_⟩)
  | with_reducible refine rd_gname ?_
  | with_reducible refine rd_gcons ?_
  | with_reducible refine rd_gnil ?_
  | with_reducible refine rd_max ?_
  | with_reducible refine rd_min ?_
  | with_reducible refine rd_int1 ?_
  | with_reducible refine rd_abs ?_
  | with_reducible refine rd_lst ?_
  | with_reducible refine rd_tup ?_
  | with_reducible refine rd_bm ?_
  | with_reducible refine rd_fld0 ?_
  | with_reducible refine rd_sl0 ?_
  | with_reducible refine rd_noP ?_
  | with_reducible refine rd_part ?_
  | with_reducible refine rd_part2 ?_
  | with_reducible refine rd_meth0 ?_
  | with_reducible refine rd_star ?_
  | with_reducible refine rd_for ?_
  | with_reducible refine rd_rng1 ?_
  | with_reducible refine rd_rng2 ?_
  | with_reducible refine rd_rng3 ?_
  | with_reducible refine rd_iList ?_
  | with_reducible refine rd_iTup ?_
  | with_reducible refine rd_iEnum ?_
  | with_reducible refine rd_lc ?_
  | with_reducible refine rd_yes ?_
  | with_reducible refine rd_augS ?_
  | with_reducible refine rd_drawNew ?_
  | with_reducible refine rd_make0 ?_
  | with_reducible refine rd_next ?_
  | with_reducible refine rd_break ?_
  | with_reducible refine rd_cont ?_
  | with_reducible refine rd_iteTT ?_
  | with_reducible refine rd_iteFF ?_
  | with_reducible refine rd_iteNTT ?_
  | with_reducible refine rd_iteNFF ?_
  | with_reducible refine rd_asgG ?_)
local macro_rules | `(tactic| walk_at "rd") => `(tactic| repeat walk_at "rd1")
local macro_rules | `(tactic| walk_at "len") => `(tactic| first
  | (intro vs H Q E h; obtain ⟨h2, _⟩ := h; rw [h2]; rfl)
  | (intro vs H Q E h; obtain ⟨_, h2, _⟩ := h; rw [h2]; rfl)
  | (intro vs H Q E h; obtain ⟨_, _, h2, _⟩ := h; rw [h2]; rfl)
  | (intro vs H Q E h; obtain ⟨_, _, _, h2, _⟩ := h; rw [h2]; rfl)
  | (intro vs H Q E h; obtain ⟨_, _, _, _, h2, _⟩ := h; rw [h2]; rfl)
  | (intro vs H Q E h; obtain ⟨_, _, _, _, _, h2, _⟩ := h; rw [h2]; rfl)
  | (intro vs H Q E h; obtain ⟨_, _, _, _, _, _, h2, _⟩ := h; rw [h2]; rfl)
  | (intro vs H Q E h; obtain ⟨_, _, _, _, _, _, _, h2, _⟩ := h; rw [h2]; rfl)
  | (intro vs H Q E h; obtain ⟨_, _, _, _, _, _, _, _, h2, _⟩ := h; rw [h2]; rfl)
  | (intro vs H Q E h; obtain ⟨_, _, _, _, _, _, _, _, _, h2, _⟩ := h; rw [h2]; rfl))
def spDayOf (C : Addr) : Sp := fun vs H Q _ => ∃ (a t : Addr) (p : Pr) (ds : List Int), vs = [.ref a, .ref t] ∧ RuleP C H a p ∧ H t = some (.lst (ds.map V.int)) ∧ Valid p ds ∧ ds.length ≤ 2100 ∧ ∀ H', Same H H' → Q (.int (value p ds)) H'
def spFirstWith (C : Addr) : Sp := fun vs H Q _ => ∃ (a : Addr) (p : Pr) (m : Int), vs = [.ref a, .int m] ∧ RuleP C H a p ∧ (0 ≤ m ∧ m ≤ 2000) ∧ ∀ H', Same H H' → Q (.int (firstWith p m)) H'
def spLayers (C : Addr) : Sp := fun vs H Q _ => ∃ (a : Addr) (p : Pr) (d : Int), vs = [.ref a, .int d] ∧ RuleP C H a p ∧ Dy d ∧ ∀ H' t, Same H H' → H t = none → Dt H' (.ref t) (.list ((layersL p d).map triD)) → Q (.ref t) H'
def spPlace (C : Addr) : Sp := fun vs H Q _ => ∃ (a : Addr) (p : Pr) (day now : Int), vs = [.ref a, .int day, .int now] ∧ RuleP C H a p ∧ 1 ≤ day ∧ day ≤ now ∧ now ≤ DD ∧
  ∀ H' t r, Same H H' → PL p day 0 (digits p now) = .inl r → H' t = some (.tup [.int r.1, .int r.2]) → Q (.ref t) H'
theorem dd_len {p : Pr} (g : Good p) {d : Int} (h0 : 0 ≤ d) (h : d ≤ DD) : (digits p d).length ≤ 2001 := by
  refine digits_len g 2001 d h0 ?_
  unfold DD DDn at h
  have e : (2 : Nat) ^ 2001 = 2 ^ 2000 + 2 ^ 2000 := by rw [Nat.pow_succ, Nat.mul_two]
  have : (0 : Nat) < 2 ^ 2000 := Nat.pow_pos (by decide)
  rw [e]
  generalize (2 : Nat) ^ 2000 = b at *
  omega
section
variable {P : Program} {w : World} {K : PySem.W.Frag} {mg : Str → Option Value} {base : Heap} {C_Rule C_Weights : Addr}
theorem cal_day_of (T : TX K mg C_Rule C_Weights) : Cal P w K mg base 3 "day_of" (spDayOf C_Rule) [] := by
  obtain ⟨f0, fd, D, dn⟩ := T.d_day_of
  have G_check_rule := cal_check_rule (P := P) (w := w) (base := base) T
  have G_Rule_getitem := met_Rule_getitem (P := P) (w := w) (base := base) T
  have G_is_whole := cal_is_whole (P := P) (w := w) (base := base) T
  refine cal0 D (D.fn.binds dn fun _ _ _ _ _ _ us hl => match us, hl with | [_, _], _ => rfl) .nil sc_day_of (by walk_at "len") (fun cdv A outer s H vs Q E hr h => ?_)
  obtain ⟨a, t, p, ds, rfl, hp, et, vd, hl, k⟩ := h
  obtain ⟨dx, t1, t2, e⟩ := hp.ins
  have gd := hp.good
  have b7 := bb_pos
  refine ⟨_, (pss_cons (ps_expr (pe_c G_check_rule hr (by decide) rfl (pa_cons (pv 0) pa_nil)))
      (pss_cons (ps_if (pt_not (pt_val (pe_callB call_isiT (by rfl) T.b_isinstance (by decide +kernel) (pa_cons (pv 1) (pa_cons (pe_tup (pa_cons (pe_bltn (v := .ty "list") (u := .type "list") rfl T.b_list (by decide +kernel) rfl) (pa_cons (pe_bltn (v := .ty "tuple") (u := .type "tuple") rfl T.b_tuple (by decide +kernel) rfl) pa_nil))) pa_nil))))) (pss_one ps_never) pss_nil)
      (pss_cons (ps_asg (pe_tup (pa_cons pe_int (pa_cons pe_int pa_nil))) (pg_tup rfl (pgs_cons (pg_n 2 sc_day_of.nd) (pgs_cons (pg_n 3 sc_day_of.nd) pgs_nil))))
      (pss_cons (ps_for PassesOwn.never rfl (pi_enum (by rfl) T.b_enumerate (pa_cons (pv 1) pa_nil)) (pg_tup rfl (pgs_cons (pg_n 4 sc_day_of.nd) (pgs_cons (pg_n 5 sc_day_of.nd) pgs_nil))) (pss_cons (ps_asg (pe_ixO G_Rule_getitem hr (by decide) (pv 0) (pv 4) T.fi_Rule) (pg_tup rfl (pgs_cons (pg_n 6 sc_day_of.nd) (pgs_cons (pg_n 7 sc_day_of.nd) pgs_nil))))
      (pss_cons (ps_s 8 sc_day_of.nd (pe_ifExp (pt_cmpR op_eq (pv 4) (pe_op op_sub (pe_callB cr_lenS (by rfl) T.b_len (by decide +kernel) (pa_cons (pv 1) pa_nil)) pe_int) (nomark _)) pe_int (pe_op op_sub (pv 6) (pv 7))))
      (pss_cons (ps_if (PW.pt (pw_or (pt_not (pt_val (pe_c G_is_whole hr (by decide) rfl (pa_cons (pv 5) pa_nil)))) (pw_or1 (pt_not (pt_chain op_le op_lt (pv 8) (pv 5) (pv 6)))))) (pss_one ps_never) pss_nil)
      (pss_cons (ps_au 2 sc_day_of.nd (pe_op op_mulW (pv 5) (pv 3)) ip_add)
      (pss_one (ps_au 3 sc_day_of.nd (pv 7) iop_mul)))))))
      (pss_one (ps_ret (pv 2))))))), ?_⟩
  walk_at "rd"
  refine ⟨a, p, rfl, hp, ?_⟩
  walk_at "rd"
  refine rd_newT (by decide) fun u H1 _ s1 eu _ => ?_
  walk_at "rd"
  refine rd_isiTL (s1 _ _ et) eu ?_
  walk_at "rd"
  refine rd_newT (by decide) fun u2 H2 _ s2 eu2 _ => ?_
  walk_at "rd"
  refine rd_gtup eu2 rfl ?_
  walk_at "rd"
  have s12 := s1.trans s2
  refine rd_enR (SqL.of (s12 _ _ et)) ?_
  refine forR_enum (xs := ds.map V.int) (fun i σ H' => ∃ v4 v5 v6 v7 v8, Same H H' ∧ σ = [some (.ref a), some (.ref t), some (.int (value p (ds.take i))), some (.int (size p i)), v4, v5, v6, v7, v8])
    (fun i σ H' ⟨_, _, _, _, _, s, _⟩ => SqL.of (s _ _ et)) ⟨none, none, none, none, none, s12, rfl⟩ ?_ ?_
  · rintro i y σ H' q H3 hi ⟨v4, v5, v6, v7, v8, s3, rfl⟩ _ s4 eq _
    obtain ⟨x, hx, rfl⟩ : ∃ x, ds[i]? = some x ∧ y = V.int x := by
      rw [List.getElem?_map] at hi
      cases e : ds[i]? with
      | none => rw [e] at hi; cases hi
      | some x => rw [e] at hi; exact ⟨x, rfl, (Option.some.inj hi).symm⟩
    have s34 := s3.trans s4
    have hil : i < ds.length := (List.getElem?_eq_some_iff.mp hx).1
    have vx := valid_get ds p i x vd hx
    have b1 := gd.lo i
    have b2 := gd.le i
    have b3 := gd.hi i
    have b4 := size_pos gd i
    have b5 := size_bb gd (g := i) (by omega)
    refine rd_gtup eq rfl ?_
    walk_at "rd"
    refine rd_ownI (s34 _ _ e) ⟨a, p, _, rfl, hp.mono s34, by omega, fun u eu => ?_⟩
    rw [Int.toNat_natCast] at eu
    refine rd_gtup eu rfl ?_
    walk_at "rd"
    refine rd_lenL (s34 _ _ et) ?_
    rw [List.length_map]
    walk_at "rd"
    refine rd_iteV (v := .int (if i + 1 = ds.length then 1 else (p i).1 - (p i).2)) (fun c Q' q => ?_) (fun c Q' q => ?_) ?_
    · walk_at "rd"
      rw [if_pos (by omega)] at q
      exact q
    · walk_at "rd"
      rw [if_neg (by omega)] at q
      exact q
    walk_at "rd"
    refine ⟨_, rfl, ?_⟩
    walk_at "rd"
    refine rd_iteT vx.2 ?_
    walk_at "rd"
    rw [decide_eq_true vx.1]
    walk_at "rd"
    refine ⟨some (.int i), some (.int x), some (.int (p i).1), some (.int (p i).2), some (.int (if i + 1 = ds.length then 1 else (p i).1 - (p i).2)), s34, ?_⟩
    rw [value_take ds p i x hx]
    rfl
  · rintro σ H' ⟨v4, v5, v6, v7, v8, s3, rfl⟩
    walk_at "rd"
    rw [List.length_map, List.take_length]
    exact k H' s3
theorem cal_first_with (T : TX K mg C_Rule C_Weights) : Cal P w K mg base 4 "first_with" (spFirstWith C_Rule) [] := by
  obtain ⟨f0, fd, D, dn⟩ := T.d_first_with
  have G_check_rule := cal_check_rule (P := P) (w := w) (base := base) T
  have G_check_number := cal_check_number (P := P) (w := w) (base := base) T
  have G_Rule_getitem := met_Rule_getitem (P := P) (w := w) (base := base) T
  have G_day_of := cal_day_of (P := P) (w := w) (base := base) T
  refine cal0 D (D.fn.binds dn fun _ _ _ _ _ _ us hl => match us, hl with | [_, _], _ => rfl) .nil sc_first_with (by walk_at "len") (fun cdv A outer s H vs Q E hr h => ?_)
  obtain ⟨a, p, m, rfl, hp, ⟨m0, m1⟩, k⟩ := h
  obtain ⟨dx, t1, t2, e⟩ := hp.ins
  have gd := hp.good
  refine ⟨_, (pss_cons (ps_expr (pe_c G_check_rule hr (by decide) rfl (pa_cons (pv 0) pa_nil)))
      (pss_cons (ps_expr (pe_c G_check_number hr (by decide) rfl (pa_cons (pv 1) pa_nil)))
      (pss_cons (ps_par (i := 2) (j := 3) rfl sc_first_with.nd rfl rfl (by decide) rfl rfl (pa_cons (pe_lst pa_nil) (pa_cons (pv 1) pa_nil)) (by rfl))
      (pss_cons (ps_while PassesOwn.never (pt_cmpR op_gt (pv 3) pe_int (nomark _)) (pss_cons (ps_expr (pe_bm PySem.F.plainAttrs_list PySem.F.slot_list_append PySem.F.type_list_append mt_append (pv 2) (pa_cons (pe_callB (cr_min2 rfl) (by rfl) T.b_min (by decide +kernel) (pa_cons (pv 3) (pa_cons (pe_op op_sub (pe_ix ix_tup (pe_ixO G_Rule_getitem hr (by decide) (pv 0) (pe_callB cr_lenS (by rfl) T.b_len (by decide +kernel) (pa_cons (pv 2) pa_nil)) T.fi_Rule) pe_int (fun _ _ => rfl)) pe_int) pa_nil))) pa_nil)))
      (pss_one (ps_au 3 sc_first_with.nd (pe_ix ix_list (pv 2) (pe_un un_neg pe_int) (fun _ _ => rfl)) ip_sub))))
      (pss_one (ps_ret (pe_ifExp (pt_cmpR (op_neD hr.units) (pv 2) (pe_lst pa_nil) (nomark _)) (pe_c G_day_of hr (by decide) rfl (pa_cons (pv 0) (pa_cons (pv 2) pa_nil))) pe_int))))))), ?_⟩
  walk_at "rd"
  refine ⟨a, p, rfl, hp, ?_⟩
  walk_at "rd"
  refine ⟨_, _, rfl, m0, ?_⟩
  walk_at "rd"
  refine rd_newL (by decide) fun t H1 ht s1 et _ => ?_
  walk_at "rd"
  refine rd_while (fun n σ H' => ∃ (c : Int) (ds : List Int), n = c.toNat ∧ 0 ≤ c ∧ (ds.length : Int) + c ≤ m ∧ Same H H' ∧ H' t = some (.lst (ds.map V.int)) ∧ fwL p m = ds ++ fwL (tl p ds.length) c ∧
    σ = [some (.ref a), some (.int m), some (.ref t), some (.int c)]) _ ⟨m, [], rfl, m0, by simp, s1, et, rfl, rfl⟩ ?_
  rintro n σ H' ⟨c, ds, rfl, c0, hl, s2, et, ed, rfl⟩
  walk_at "rd"
  refine rd_ite (fun hc => ?_) (fun hc => ?_)
  · have b1 := gd.lo ds.length
    have b2 := gd.le ds.length
    have b3 := gd.hi ds.length
    refine rd_whN ?_
    walk_at "rd"
    refine rd_tyL et ?_
    walk_at "rd"
    refine rd_lenL et ?_
    rw [List.length_map]
    walk_at "rd"
    refine rd_ownI (s2 _ _ e) ⟨a, p, _, rfl, hp.mono s2, by omega, fun u eu => ?_⟩
    rw [Int.toNat_natCast] at eu
    walk_at "rd"
    refine rd_ixT eu (by rfl) ?_
    walk_at "rd"
    refine rd_app et (by simp; omega) fun H3 eH et2 => ?_
    walk_at "rd"
    refine rd_ixL et2 (atI_last _ _) ?_
    walk_at "rd"
    have s3 : Same H H3 := by rw [eH]; exact Same.mut s2 ht
    refine ⟨_, ?_, c - min c ((p ds.length).1 - 1), ds ++ [min c ((p ds.length).1 - 1)], rfl, by omega, by rw [List.length_append, List.length_singleton]; omega, s3, ?_, ?_, rfl⟩
    · omega
    · rw [et2, List.map_append]; rfl
    · rw [ed, fwL_pos (gd.tl ds.length) hc, tl_tl, tl_at, List.append_assoc, List.length_append, List.length_singleton]
      rfl
  · walk_at "rd"
    rw [fwL_zero _ (by omega : c ≤ 0), List.append_nil] at ed
    refine rd_newL (by decide) fun u H3 _ s3 eu _ => ?_
    refine rd_neD (d := .list (intsD ds)) (e := .list []) (.lst (s3 _ _ et) (DtAll.intsD ds)) (.lst eu .nil) (shaped_ints ds) (by decide) ?_
    rw [eqv_nil]
    walk_at "rd"
    have s23 := s2.trans s3
    have hv : firstWith p m = value p ds := by unfold firstWith; rw [ed]
    refine rd_iteN (fun c1 => ?_) (fun c1 => ?_)
    · walk_at "rd"
      refine ⟨a, t, p, ds, rfl, hp.mono s23, s3 _ _ et, ?_, by omega, fun H4 s4 => ?_⟩
      · rw [← ed]; exact fwL_valid gd m
      · rw [← hv]; exact k H4 (s23.trans s4)
    · walk_at "rd"
      have e0 : ds = [] := by
        cases ds with
        | nil => rfl
        | cons x xs => simp [intsD] at c1
      have q := k H3 s23
      rw [hv, e0] at q
      exact q
theorem cal_layers (T : TX K mg C_Rule C_Weights) : Cal P w K mg base 4 "layers" (spLayers C_Rule) [] := by
  obtain ⟨f0, fd, D, dn⟩ := T.d_layers
  have G_digits := cal_digits (P := P) (w := w) (base := base) T
  have G_Rule_size := met_Rule_size (P := P) (w := w) (base := base) T
  refine cal0 D (D.fn.binds dn fun _ _ _ _ _ _ us hl => match us, hl with | [_, _], _ => rfl) .nil sc_layers (by walk_at "len") (fun cdv A outer s H vs Q E hr h => ?_)
  obtain ⟨a, p, d, rfl, hp, ⟨d0, d1⟩, k⟩ := h
  obtain ⟨dx, t1, t2, e⟩ := hp.ins
  have gd := hp.good
  have hlen := dd_len gd d0 d1
  have hv := valid_le gd (valid_digits gd d0)
  refine ⟨_, (pss_cons (ps_par3 (i := 2) (j := 3) (l := 4) rfl sc_layers.nd rfl rfl rfl (by decide) (by decide) (by decide) rfl rfl rfl (pa_cons (pe_lst pa_nil) (pa_cons (pe_c G_digits hr (by decide) rfl (pa_cons (pv 0) (pa_cons (pv 1) pa_nil))) (pa_cons pe_int pa_nil))) (by rfl))
      (pss_cons (ps_for PassesOwn.never rfl (pi_range3 rfl T.b_range (pa_cons (pe_op op_sub (pe_callB cr_lenS (by rfl) T.b_len (by decide +kernel) (pa_cons (pv 3) pa_nil)) pe_int) (pa_cons (pe_un un_neg pe_int) (pa_cons (pe_un un_neg pe_int) pa_nil)))) (pg_n 5 sc_layers.nd) (pss_cons (ps_s 6 sc_layers.nd (pe_mt G_Rule_size hr (by decide) (pv 0) (pa_cons (pv 5) pa_nil)))
      (pss_one (ps_for PassesOwn.never rfl (pi_range1 rfl T.b_range (pa_cons (pe_ix ix_list (pv 3) (pv 5) (fun _ _ => rfl)) pa_nil)) (pg_n 7 sc_layers.nd) (pss_cons (ps_expr (pe_bm PySem.F.plainAttrs_list PySem.F.slot_list_append PySem.F.type_list_append mt_append (pv 2) (pa_cons (pe_tup (pa_cons (pe_op op_add (pv 4) pe_int) (pa_cons (pe_op op_add (pv 4) (pv 6)) (pa_cons (pv 5) pa_nil)))) pa_nil)))
      (pss_one (ps_au 4 sc_layers.nd (pv 6) ip_add)))))))
      (pss_one (ps_ret (pv 2))))), ?_⟩
  walk_at "rd"
  refine rd_newL (by decide) fun t H1 ht s1 et _ => ?_
  walk_at "rd"
  refine ⟨a, p, d, rfl, hp.mono s1, ⟨d0, d1⟩, fun H2 u s2 hu eu => ?_⟩
  walk_at "rd"
  refine rd_lenL eu ?_
  rw [List.length_map]
  walk_at "rd"
  refine rd_rgDn (by omega) ?_
  have en : (((digits p d).length : Int) - 1 - -1).toNat = (digits p d).length := by omega
  rw [en]
  have htu : t ≠ u := fun q => by rw [← q, et] at hu; cases hu
  refine forR_rngC (fun i σ H' => ∃ (l : List V) (v5 v6 v7 : Option V), Same H H' ∧ H' t = some (.lst l) ∧ H' u = some (.lst ((digits p d).map V.int)) ∧ DnAll H' l ((LY p ((digits p d).length - i) ((digits p d).drop ((digits p d).length - i))).1.map triD) ∧
    σ = [some (.ref a), some (.int d), some (.ref t), some (.ref u), some (.int (LY p ((digits p d).length - i) ((digits p d).drop ((digits p d).length - i))).2), v5, v6, v7]) ?_ ?_ ?_
  · refine ⟨[], none, none, none, s1.trans s2, s2 _ _ et, eu, ?_, ?_⟩
    · rw [Nat.sub_zero, List.drop_length]; exact .nil
    · rw [Nat.sub_zero, List.drop_length]; rfl
  · rintro i σ H' hi ⟨l, v5, v6, v7, s3, et3, eu3, dl, rfl⟩
    obtain ⟨j, hj, hjl⟩ : ∃ j, (digits p d).length - i = j + 1 ∧ j < (digits p d).length := ⟨(digits p d).length - i - 1, by omega, by omega⟩
    have hj' : (digits p d).length - (i + 1) = j := by omega
    rw [hj] at dl ⊢
    have eg : ((digits p d).length : Int) - 1 + (i : Int) * -1 = (j : Int) := by omega
    rw [eg, hj']
    have hx : (digits p d)[j]? = some ((digits p d)[j]) := List.getElem?_eq_getElem hjl
    generalize hxx : (digits p d)[j] = x at hx
    have xv := hv x (List.mem_of_getElem? hx)
    have hdrop : (digits p d).drop j = x :: (digits p d).drop (j + 1) := by rw [List.drop_eq_getElem_cons hjl, hxx]
    rw [hdrop]
    show _
    generalize hr : LY p (j + 1) ((digits p d).drop (j + 1)) = r at dl ⊢
    have hLY : LY p j (x :: (digits p d).drop (j + 1)) = (r.1 ++ lyN r.2 (size p j) j x.toNat, r.2 + (x.toNat : Int) * size p j) := by
      show ((LY p (j + 1) ((digits p d).drop (j + 1))).1 ++ lyN (LY p (j + 1) ((digits p d).drop (j + 1))).2 (size p j) j x.toNat, (LY p (j + 1) ((digits p d).drop (j + 1))).2 + (x.toNat : Int) * size p j) = _
      rw [hr]
    rw [hLY]
    have rl : r.1.length ≤ 12 * ((digits p d).drop (j + 1)).length := by
      rw [← hr]
      exact LY_len p (j + 1) _ fun y hy => (hv y (List.mem_of_mem_drop hy)).2
    rw [List.length_drop] at rl
    walk_at "rd"
    refine ⟨_, _, _, rfl, s3 _ _ e, rfl, ?_⟩
    walk_at "rd"
    refine ⟨a, p, _, rfl, hp.mono s3, by omega, ?_⟩
    rw [Int.toNat_natCast]
    walk_at "rd"
    refine rd_ixL eu3 (atI_nat' (by rw [List.getElem?_map, hx]; rfl)) ?_
    walk_at "rd"
    refine rd_rgR1 (by omega) (by omega) ?_
    refine forR_rng (fun n σ H' => ∃ (l : List V) (v7 : Option V), Same H H' ∧ H' t = some (.lst l) ∧ H' u = some (.lst ((digits p d).map V.int)) ∧ DnAll H' l ((r.1 ++ lyN r.2 (size p j) j n).map triD) ∧
      σ = [some (.ref a), some (.int d), some (.ref t), some (.ref u), some (.int (r.2 + (n : Int) * size p j)), some (.int j), some (.int (size p j)), v7]) ⟨l, v7, s3, et3, eu3, ?_, ?_⟩ ?_ ?_
    · simpa [lyN] using dl
    · have : r.2 + ((0 : Nat) : Int) * size p j = r.2 := by simp
      rw [this]; rfl
    · rintro n σ H4 hn ⟨l4, v7, s4, et4, eu4, dl4, rfl⟩
      walk_at "rd"
      refine rd_tyL et4 ?_
      walk_at "rd"
      refine rd_newT (by simp) fun w H5 hw s5 ew _ => ?_
      have len4 : l4.length ≤ 90000 := by
        rw [dl4.length, List.length_map, List.length_append]
        have : (lyN r.2 (size p j) j n).length = n := by unfold lyN; simp
        omega
      walk_at "rd"
      refine rd_app (s5 _ _ et4) (by omega) fun H6 eH et6 => ?_
      walk_at "rd"
      have s6 : Same H H6 := by rw [eH]; exact Same.mut (s4.trans s5) ht
      refine ⟨_, some (.int (0 + (n : Int))), s6, et6, ?_, ?_, ?_⟩
      · rw [eH, upd_ne (Ne.symm htu)]; exact s5 _ _ eu4
      · rw [lyN_succ, ← List.append_assoc, List.map_append, eH]
        exact DnAll.updL (s5 _ _ et4) ((dl4.mono s5).append (.cons (.tri ew) .nil))
      · have : r.2 + ((n + 1 : Nat) : Int) * size p j = r.2 + (n : Int) * size p j + size p j := by
          have : ((n + 1 : Nat) : Int) = (n : Int) + 1 := by omega
          rw [this, Int.add_mul]; omega
        rw [this]
        rfl
    · rintro σ H4 ⟨l4, v7, s4, et4, eu4, dl4, rfl⟩
      have exn : (x.toNat : Int) = x := by omega
      exact ⟨l4, _, _, _, s4, et4, eu4, dl4, rfl⟩
  · rintro σ H' ⟨l, v5, v6, v7, s3, et3, eu3, dl, rfl⟩
    walk_at "rd"
    rw [Nat.sub_self, List.drop_zero] at dl
    exact k H' t s3 ht (.lst et3 dl.dt)
theorem cal_place (T : TX K mg C_Rule C_Weights) : Cal P w K mg base 4 "place" (spPlace C_Rule) [] := by
  obtain ⟨f0, fd, D, dn⟩ := T.d_place
  have G_check_rule := cal_check_rule (P := P) (w := w) (base := base) T
  have G_check_number_2 := cal_check_number_2 (P := P) (w := w) (base := base) T
  have G_check_number := cal_check_number (P := P) (w := w) (base := base) T
  have G_digits := cal_digits (P := P) (w := w) (base := base) T
  have G_Rule_size := met_Rule_size (P := P) (w := w) (base := base) T
  refine cal0 D (D.fn.binds dn fun _ _ _ _ _ _ us hl => match us, hl with | [_, _, _], _ => rfl) .nil sc_place (by walk_at "len") (fun cdv A outer s H vs Q E hr h => ?_)
  obtain ⟨a, p, day, now, rfl, hp, h1, h2, h3, k⟩ := h
  obtain ⟨dx, t1, t2, e⟩ := hp.ins
  have gd := hp.good
  have d0 : 0 ≤ now := by omega
  have hlen := dd_len gd d0 h3
  have hv := valid_le gd (valid_digits gd d0)
  have b7 := bb_pos
  have b8 := dd_bb
  have b9 := dd_pos
  refine ⟨_, (pss_cons (ps_expr (pe_c G_check_rule hr (by decide) rfl (pa_cons (pv 0) pa_nil)))
      (pss_cons (ps_expr (pe_c G_check_number_2 hr (by decide) rfl (pa_cons (pv 1) (pa_cons pe_int pa_nil))))
      (pss_cons (ps_expr (pe_c G_check_number hr (by decide) rfl (pa_cons (pv 2) pa_nil)))
      (pss_cons (ps_if (pt_cmpR op_gt (pv 1) (pv 2) (nomark _)) (pss_one ps_never) pss_nil)
      (pss_cons (ps_par3 (i := 3) (j := 4) (l := 5) rfl sc_place.nd rfl rfl rfl (by decide) (by decide) (by decide) rfl rfl rfl (pa_cons (pe_c G_digits hr (by decide) rfl (pa_cons (pv 0) (pa_cons (pv 2) pa_nil))) (pa_cons pe_int (pa_cons pe_int pa_nil))) (by rfl))
      (pss_cons (ps_for PassesOwn.never rfl (pi_range3 rfl T.b_range (pa_cons (pe_op op_sub (pe_callB cr_lenS (by rfl) T.b_len (by decide +kernel) (pa_cons (pv 3) pa_nil)) pe_int) (pa_cons (pe_un un_neg pe_int) (pa_cons (pe_un un_neg pe_int) pa_nil)))) (pg_n 6 sc_place.nd) (pss_cons (ps_s 7 sc_place.nd (pe_mt G_Rule_size hr (by decide) (pv 0) (pa_cons (pv 6) pa_nil)))
      (pss_cons (ps_if (pt_cmpR op_le (pv 1) (pe_op op_add (pv 4) (pe_op op_mulW (pv 7) (pe_ix ix_list (pv 3) (pv 6) (fun _ _ => rfl)))) (nomark _)) (pss_one (ps_ret (pe_tup (pa_cons (pv 6) (pa_cons (pe_op op_add (pv 5) (pe_op op_fdivW (pe_op op_sub (pe_op op_sub (pv 1) (pv 4)) pe_int) (pv 7))) pa_nil))))) pss_nil)
      (pss_cons (ps_au 4 sc_place.nd (pe_op op_mulW (pv 7) (pe_ix ix_list (pv 3) (pv 6) (fun _ _ => rfl))) ip_add)
      (pss_one (ps_au 5 sc_place.nd (pe_ix ix_list (pv 3) (pv 6) (fun _ _ => rfl)) ip_add))))))
      (pss_one (ps_ret pe_non)))))))), ?_⟩
  walk_at "rd"
  refine ⟨a, p, rfl, hp, ?_⟩
  walk_at "rd"
  refine ⟨_, _, rfl, h1, ?_⟩
  walk_at "rd"
  refine ⟨_, _, rfl, d0, ?_⟩
  walk_at "rd"
  refine rd_iteF (by omega) ?_
  walk_at "rd"
  refine ⟨a, p, now, rfl, hp, ⟨d0, h3⟩, fun H2 u s2 hu eu => ?_⟩
  walk_at "rd"
  refine rd_lenL eu ?_
  rw [List.length_map]
  walk_at "rd"
  refine rd_rgDn (by omega) ?_
  have en : (((digits p now).length : Int) - 1 - -1).toNat = (digits p now).length := by omega
  rw [en]
  refine forR_rngC (fun i σ H' => ∃ (l n : Int) (v6 v7 : Option V), Same H2 H' ∧ PL p day ((digits p now).length - i) ((digits p now).drop ((digits p now).length - i)) = .inr (l, n) ∧
    σ = [some (.ref a), some (.int day), some (.int now), some (.ref u), some (.int l), some (.int n), v6, v7]) ?_ ?_ ?_
  · refine ⟨0, 0, none, none, Same.refl _, ?_, rfl⟩
    rw [Nat.sub_zero, List.drop_length]; rfl
  · rintro i σ H' hi ⟨l, n, v6, v7, s3, hP, rfl⟩
    obtain ⟨j, hj, hjl⟩ : ∃ j, (digits p now).length - i = j + 1 ∧ j < (digits p now).length := ⟨(digits p now).length - i - 1, by omega, by omega⟩
    have hj' : (digits p now).length - (i + 1) = j := by omega
    rw [hj] at hP
    have eg : ((digits p now).length : Int) - 1 + (i : Int) * -1 = (j : Int) := by omega
    rw [eg, hj']
    have hx : (digits p now)[j]? = some ((digits p now)[j]) := List.getElem?_eq_getElem hjl
    generalize hxx : (digits p now)[j] = x at hx
    have xv := hv x (List.mem_of_getElem? hx)
    have hdrop : (digits p now).drop j = x :: (digits p now).drop (j + 1) := by rw [List.drop_eq_getElem_cons hjl, hxx]
    have b4 := size_pos gd j
    have b5 := size_bb gd (g := j) (by omega)
    have s23 := s2.trans s3
    have hstep := PL_step (x := x) hP
    rw [← hdrop] at hstep
    walk_at "rd"
    refine ⟨_, _, _, rfl, s23 _ _ e, rfl, ?_⟩
    walk_at "rd"
    refine ⟨a, p, _, rfl, hp.mono s23, by omega, ?_⟩
    rw [Int.toNat_natCast]
    walk_at "rd"
    have eix : atI ((digits p now).map V.int) (j : Int) = some (.int x) := atI_nat' (by rw [List.getElem?_map, hx]; rfl)
    refine rd_ixL (s3 _ _ eu) eix ?_
    walk_at "rd"
    refine rd_ite (fun c => ?_) (fun c => ?_)
    · rw [if_pos c] at hstep
      walk_at "rd"
      refine rd_newT (by simp) fun w H5 hw s5 ew _ => ?_
      exact k H5 w _ (s23.trans s5) (PL_down j (by omega) hstep) ew
    · rw [if_neg c] at hstep
      walk_at "rd"
      refine rd_ixL (s3 _ _ eu) eix ?_
      walk_at "rd"
      refine rd_ixL (s3 _ _ eu) eix ?_
      walk_at "rd"
      exact ⟨_, _, _, _, s3, hstep, rfl⟩
  · rintro σ H' ⟨l, n, v6, v7, s3, hP, rfl⟩
    exfalso
    rw [Nat.sub_self, List.drop_zero] at hP
    have q := PL_sv 0 _ l n hP
    rw [← value_sv, value_digits gd d0] at q
    rcases q.2 with z | z
    · have := (digits_nil gd d0).mp z; omega
    · omega
end
end Sl

set_option Elab.async false
set_option linter.all false
set_option maxRecDepth 100000
set_option maxHeartbeats 4000000
namespace Sl
open PySem L2 C8 StX Silt
local macro_rules | `(tactic| walk_at "side") => `(tactic| first
  | exact cdivw (by omega) (by omega)
  | exact cmulw (by omega) (by omega) (by omega) (by omega)
  | exact Or.inr ⟨by omega, by omega⟩
  | exact Or.inl ⟨by omega, by omega⟩
  | omega
  | exact ⟨by omega, by omega, by decide⟩
  | decide)
local macro_rules | `(tactic| walk_at "rd1") => `(tactic| first
  | with_reducible refine rd_seq ?_
  | with_reducible refine rd_asg ?_
  | with_reducible refine rd_drop ?_
  | with_reducible refine rd_ret ?_
  | with_reducible refine rd_retN ?_
  | with_reducible refine rd_ifS ?_
  | ((with_reducible refine rd_var0 ?_); refine ⟨_, rfl, ?_⟩)
  | with_reducible refine rd_c ?_
  | with_reducible refine rd_op ?_
  | with_reducible refine rd_un ?_
  | with_reducible refine rd_I0 ?_
  | with_reducible refine rd_U ?_
  | ((with_reducible refine rd_I ?c ?_); (case c => walk_at "side"))
  | with_reducible refine rd_ipI ?_
  | with_reducible refine rd_eqI ?_
  | with_reducible refine rd_neI ?_
  | with_reducible refine rd_test ?_
  | with_reducible refine rd_tB ?_
  | with_reducible refine rd_bl ?_
  | with_reducible refine rd_not ?_
  | with_reducible refine rd_and ?_
  | with_reducible refine rd_or ?_
  | with_reducible refine rd_andV ?_
  | with_reducible refine rd_orV ?_
  | with_reducible refine rd_notV ?_
  | with_reducible refine rd_ifE ?_
  | with_reducible refine rd_chain ?_
  | with_reducible refine rd_chain3 ?_
  | with_reducible refine rd_nil ?_
  | with_reducible refine rd_cons ?_
  | with_reducible refine rd_call ?_
  | with_reducible refine rd_CB ?_
  | with_reducible refine rd_par ?_
  | with_reducible refine rd_par2 ?_
  | with_reducible refine rd_par3 ?_
  | with_reducible refine rd_par4 ?_
  | ((with_reducible refine rd_aug0 ?_); refine ⟨_, rfl, ?_⟩)
  | with_reducible refine rd_gname ?_
  | with_reducible refine rd_gcons ?_
  | with_reducible refine rd_gnil ?_
  | with_reducible refine rd_max ?_
  | with_reducible refine rd_min ?_
  | with_reducible refine rd_int1 ?_
  | with_reducible refine rd_abs ?_
  | with_reducible refine rd_lst ?_
  | with_reducible refine rd_tup ?_
  | with_reducible refine rd_bm ?_
  | with_reducible refine rd_fld0 ?_
  | with_reducible refine rd_sl0 ?_
  | with_reducible refine rd_noP ?_
  | with_reducible refine rd_part ?_
  | with_reducible refine rd_part2 ?_
  | with_reducible refine rd_meth0 ?_
  | with_reducible refine rd_star ?_
  | with_reducible refine rd_for ?_
  | with_reducible refine rd_rng1 ?_
  | with_reducible refine rd_rng2 ?_
  | with_reducible refine rd_rng3 ?_
  | with_reducible refine rd_iList ?_
  | with_reducible refine rd_iTup ?_
  | with_reducible refine rd_iEnum ?_
  | with_reducible refine rd_lc ?_
  | with_reducible refine rd_yes ?_
  | with_reducible refine rd_augS ?_
  | with_reducible refine rd_drawNew ?_
  | with_reducible refine rd_make0 ?_
  | with_reducible refine rd_next ?_
  | with_reducible refine rd_break ?_
  | with_reducible refine rd_cont ?_
  | with_reducible refine rd_iteTT ?_
  | with_reducible refine rd_iteFF ?_
  | with_reducible refine rd_iteNTT ?_
  | with_reducible refine rd_iteNFF ?_
  | with_reducible refine rd_asgG ?_)
local macro_rules | `(tactic| walk_at "rd") => `(tactic| repeat walk_at "rd1")
local macro_rules | `(tactic| walk_at "len") => `(tactic| first
  | (intro vs H Q E h; obtain ⟨h2, _⟩ := h; rw [h2]; rfl)
  | (intro vs H Q E h; obtain ⟨_, h2, _⟩ := h; rw [h2]; rfl)
  | (intro vs H Q E h; obtain ⟨_, _, h2, _⟩ := h; rw [h2]; rfl)
  | (intro vs H Q E h; obtain ⟨_, _, _, h2, _⟩ := h; rw [h2]; rfl)
  | (intro vs H Q E h; obtain ⟨_, _, _, _, h2, _⟩ := h; rw [h2]; rfl)
  | (intro vs H Q E h; obtain ⟨_, _, _, _, _, h2, _⟩ := h; rw [h2]; rfl)
  | (intro vs H Q E h; obtain ⟨_, _, _, _, _, _, h2, _⟩ := h; rw [h2]; rfl)
  | (intro vs H Q E h; obtain ⟨_, _, _, _, _, _, _, h2, _⟩ := h; rw [h2]; rfl)
  | (intro vs H Q E h; obtain ⟨_, _, _, _, _, _, _, _, h2, _⟩ := h; rw [h2]; rfl)
  | (intro vs H Q E h; obtain ⟨_, _, _, _, _, _, _, _, _, h2, _⟩ := h; rw [h2]; rfl))
/-- things told as data: equal just if they are the same -/
structure EncOk {α : Type} [DecidableEq α] (enc : α → PyData) : Prop where
  eq : ∀ x y, PyData.eqv (enc x) (enc y) = decide (x = y)
  lay : ∀ x, (enc x).canLay0 = true
  dep : ∀ x, (enc x).depth ≤ 60
theorem EncOk.all {α : Type} [DecidableEq α] {enc : α → PyData} (E : EncOk enc) : ∀ l m : List α, PyData.eqvAll (l.map enc) (m.map enc) = decide (l = m)
  | [], [] => by simp [PyData.eqvAll]
  | [], _ :: _ => by simp [PyData.eqvAll]
  | _ :: _, [] => by simp [PyData.eqvAll]
  | x :: l, y :: m => by
    simp only [List.map_cons, PyData.eqvAll, E.eq, E.all l m, List.cons.injEq]
    rw [← Bool.decide_and]
theorem EncOk.tup {α : Type} [DecidableEq α] {enc : α → PyData} (E : EncOk enc) (l m : List α) : PyData.eqv (.tuple (l.map enc)) (.tuple (m.map enc)) = decide (l = m) := by
  simp only [PyData.eqv]; exact E.all l m
theorem EncOk.shT {α : Type} [DecidableEq α] {enc : α → PyData} (E : EncOk enc) (l : List α) : SeqAt.shaped (.tuple (l.map enc)) = true := shaped_tupMap E.lay E.dep l
theorem EncOk.sh {α : Type} [DecidableEq α] {enc : α → PyData} (E : EncOk enc) (x : α) : SeqAt.shaped (enc x) = true := by
  have := E.dep x
  exact Bool.and_eq_true_iff.mpr ⟨E.lay x, decide_eq_true (by omega)⟩
theorem enc_pair : EncOk pairD := ⟨fun x y => by
  obtain ⟨a, b⟩ := x
  obtain ⟨c, d⟩ := y
  simp only [pairD, PyData.eqv, PyData.eqvAll, Bool.and_true, Prod.mk.injEq]
  rw [Bool.beq_eq_decide_eq, Bool.beq_eq_decide_eq, ← Bool.decide_and], fun _ => by simp [pairD, PyData.canLay0, PyData.canLayAll0], fun _ => by simp [pairD, PyData.depth, PyData.depthAll]⟩
theorem enc_int : EncOk PyData.int := ⟨fun x y => by simp only [PyData.eqv]; exact Bool.beq_eq_decide_eq x y, fun _ => by simp [PyData.canLay0], fun _ => by simp [PyData.depth]⟩
theorem DnAll.take {H : Hp} : ∀ {vs : List V} {ds : List PyData} (n : Nat), DnAll H vs ds → DnAll H (vs.take n) (ds.take n)
  | _, _, 0, _ => .nil
  | _, _, _ + 1, .nil => .nil
  | _, _, n + 1, .cons h t => .cons h (DnAll.take n t)
theorem DnAll.rep {H : Hp} {vs : List V} {ds : List PyData} (h : DnAll H vs ds) : ∀ k : Nat, DnAll H (List.replicate k vs).flatten (List.replicate k ds).flatten
  | 0 => .nil
  | k + 1 => by rw [List.replicate_succ, List.replicate_succ, List.flatten_cons, List.flatten_cons]; exact h.append (h.rep k)
theorem DnAll.get {H : Hp} : ∀ {vs : List V} {ds : List PyData} {i : Nat} {d : PyData}, DnAll H vs ds → ds[i]? = some d → ∃ v, vs[i]? = some v ∧ Dn H v d
  | _, _, _, _, .nil, h => by simp at h
  | _, _, 0, _, .cons h _, e => by simp at e; subst e; exact ⟨_, rfl, h⟩
  | _, _, i + 1, _, .cons _ t, e => by
    obtain ⟨v, h1, h2⟩ := DnAll.get (i := i) t (by simpa using e)
    exact ⟨v, by simpa using h1, h2⟩
theorem Dn.tup_inv {H : Hp} {t : Addr} {ds : List PyData} (h : Dn H (.ref t) (.tuple ds)) : ∃ xs, H t = some (.tup xs) ∧ DnAll H xs ds := by
  cases h with
  | tup e h => exact ⟨_, e, h⟩
theorem cut_take {xs : List V} {m : Nat} : cutV xs none (some (m : Int)) = xs.take m := by
  unfold cutV
  rw [HT.sIx_none, HT.sIx_nat, List.drop_zero, Nat.sub_zero]
  by_cases c : m ≤ xs.length
  · rw [Nat.min_eq_left c]
  · rw [Nat.min_eq_right (by omega), List.take_of_length_le (Nat.le_refl _), List.take_of_length_le (by omega)]
theorem cut_front {xs : List V} {x : V} : cutV (xs ++ [x]) none (some (-1)) = xs := by
  unfold cutV
  have e : HT.sIx (xs ++ [x]).length (xs ++ [x]).length (some (-1)) = xs.length := by
    show (if (-1 : Int) < 0 then ((-1 : Int) + ((xs ++ [x]).length : Int)).toNat else min (-1 : Int).toNat (xs ++ [x]).length) = _
    rw [if_pos (by decide), List.length_append, List.length_singleton]
    omega
  rw [e, HT.sIx_none, List.drop_zero, Nat.sub_zero]
  simp
theorem rd_repTA {K : PySem.W.Frag} {H : Hp} {Q : VK} {p : Addr} {xs : List V} {k : Nat} (e : H p = some (.tup xs)) (hne : xs ≠ []) (hk : 0 < k) (h1 : k ≤ 1000) (h2 : xs.length ≤ 1000)
    (h : ∀ r H', Same H H' → H' r = some (.tup (List.replicate k xs).flatten) → Q (.ref r) H') : rOr (rRepT1 K) (rRepT K) (.ref p) (.int k) H Q := by
  by_cases c : k = 1
  · subst c
    exact .inl ⟨p, xs, rfl, rfl, SqT.of e, h p H (Same.refl H) (by simpa using e)⟩
  · refine .inr ⟨p, k, xs, rfl, rfl, SqT.of e, hne, by omega, by omega, h2, fun r hr => h r _ (Same.new (Same.refl H) hr) ?_⟩
    rw [Int.toNat_natCast]
    exact upd_same
/-- front and period as short as may be; what is told stays -/
def spShortest : Sp := fun vs H Q _ => ∃ (t1 t2 : Addr) (α : Type) (_ : DecidableEq α) (enc : α → PyData) (f q : List α), vs = [.ref t1, .ref t2] ∧ EncOk enc ∧ Dn H (.ref t1) (.tuple (f.map enc)) ∧ Dn H (.ref t2) (.tuple (q.map enc)) ∧ q ≠ [] ∧ f.length ≤ 6 ∧ q.length ≤ 6 ∧
  ∀ H' t s1 s2 (f' q' : List α), Same H H' → H' t = some (.tup [.ref s1, .ref s2]) → Dn H' (.ref s1) (.tuple (f'.map enc)) → Dn H' (.ref s2) (.tuple (q'.map enc)) → q' ≠ [] → (∀ g, atO f' q' g = atO f q g) → Q (.ref t) H'
section
variable {P : Program} {w : World} {K : PySem.W.Frag} {mg : Str → Option Value} {base : Heap} {C_Rule C_Weights : Addr}
theorem cal_shortest (T : TX K mg C_Rule C_Weights) : Cal P w K mg base 1 "shortest" spShortest [] := by
  obtain ⟨f0, fd, D, dn⟩ := T.d_shortest
  refine cal0 D (D.fn.binds dn fun _ _ _ _ _ _ us hl => match us, hl with | [_, _], _ => rfl) .nil sc_shortest (by walk_at "len") (fun cdv A outer s H vs Q E hr h => ?_)
  obtain ⟨t1, t2, α, _, enc, f, q, rfl, E, h1, h2, hq, hf6, hq6, k⟩ := h
  obtain ⟨xs2, e2, d2⟩ := h2.tup_inv
  have l2 : xs2.length = q.length := by rw [d2.length, List.length_map]
  have q0 : 0 < q.length := List.length_pos_iff.mpr hq
  refine ⟨_, (pss_cut (ps_for PassesOwn.never rfl (pi_range2 rfl T.b_range (pa_cons pe_int (pa_cons (pe_op op_add (pe_callB cr_lenS (by rfl) T.b_len (by decide +kernel) (pa_cons (pv 1) pa_nil)) pe_int) pa_nil))) (pg_n 2 sc_shortest.nd) (pss_one (ps_if (PW.pt (pw_and (pt_cmpR op_eq (pe_op op_modN (pe_callB cr_lenS (by rfl) T.b_len (by decide +kernel) (pa_cons (pv 1) pa_nil)) (pv 2)) pe_int (nomark _)) (pw_and1 (pt_cmpR (op_eqD hr.units) (pv 1) (pe_op op_repTA (pe_slice sl_tupA (pv 1) po_none (po_some (pv 2))) (pe_op op_fdivW (pe_callB cr_lenS (by rfl) T.b_len (by decide +kernel) (pa_cons (pv 1) pa_nil)) (pv 2))) (nomark _))))) (pss_cons (ps_s 1 sc_shortest.nd (pe_slice sl_tupA (pv 1) po_none (po_some (pv 2))))
      (pss_one ps_break)) pss_nil)))
      (pss_cons (ps_while PassesOwn.never (PW.pt (pw_and (pt_cmpR (op_neD hr.units) (pv 0) (pe_tup pa_nil) (nomark _)) (pw_and1 (pt_cmpR (op_eqD hr.units) (pe_ix ix_tup (pv 0) (pe_un un_neg pe_int) (fun _ _ => rfl)) (pe_ix ix_tup (pv 1) (pe_un un_neg pe_int) (fun _ _ => rfl)) (nomark _))))) (pss_one (ps_par (i := 0) (j := 1) rfl sc_shortest.nd rfl rfl (by decide) rfl rfl (pa_cons (pe_slice sl_tupA (pv 0) po_none (po_some (pe_un un_neg pe_int))) (pa_cons (pe_tup (pa_cons (pe_ix ix_tup (pv 1) (pe_un un_neg pe_int) (fun _ _ => rfl)) (pa_star (pe_slice sl_tupA (pv 1) po_none (po_some (pe_un un_neg pe_int))) pa_nil))) pa_nil)) (by rfl))))
      (pss_one (ps_ret (pe_tup (pa_cons (pv 0) (pa_cons (pv 1) pa_nil))))))), ?_⟩
  refine ⟨fun σ' H' => ∃ (t2' : Addr) (q' : List α) (v : Option V), Same H H' ∧ Dn H' (.ref t2') (.tuple (q'.map enc)) ∧ q' ≠ [] ∧ (∀ g, atO f q' g = atO f q g) ∧ q'.length ≤ 6 ∧ σ' = [some (.ref t1), some (.ref t2'), v], ?_, ?_⟩
  · walk_at "rd"
    refine rd_lenT e2 ?_
    walk_at "rd"
    refine rd_rgR2 (by omega) ?_
    refine forR_rng (fun i σ H' => ∃ v, Same H H' ∧ σ = [some (.ref t1), some (.ref t2), v]) ⟨none, Same.refl _, rfl⟩ ?_ ?_
    · rintro i σ H' hi ⟨v, s1, rfl⟩
      walk_at "rd"
      refine rd_lenT (s1 _ _ e2) ?_
      walk_at "rd"
      refine rd_ite (fun c1 => ?_) (fun c1 => ?_)
      · walk_at "rd"
        refine rd_slA (s1 _ _ e2) fun p2 H2 s2 ep2 => ?_
        have em : (1 : Int) + (i : Int) = ((i + 1 : Nat) : Int) := by omega
        rw [em, cut_take] at ep2
        have s12 := s1.trans s2
        have hile : i + 1 ≤ q.length := by omega
        walk_at "rd"
        refine rd_lenT (s12 _ _ e2) ?_
        walk_at "rd"
        rw [em, l2] at c1 ⊢
        rw [Int.fmod_eq_emod_of_nonneg _ (by omega), ← Int.natCast_emod] at c1
        have c1' : q.length % (i + 1) = 0 := by omega
        obtain ⟨kk, hkk⟩ := Nat.dvd_of_mod_eq_zero c1'
        have hkd : ((q.length : Int)) / ((i + 1 : Nat) : Int) = (kk : Int) := by
          rw [← Int.natCast_ediv, hkk, Nat.mul_div_cancel_left _ (Nat.succ_pos _)]
        have b7 := bb_pos
        walk_at "rd"
        rw [hkd]
        have hk0 : 0 < kk := by
          rcases Nat.eq_zero_or_pos kk with z | z
          · rw [z] at hkk; omega
          · exact z
        have dtk := (d2.take (i + 1)).mono s12
        rw [← List.map_take] at dtk
        have eqf : (List.replicate kk ((q.take (i + 1)).map enc)).flatten = (List.replicate kk (q.take (i + 1))).flatten.map enc := by rw [List.map_flatten, List.map_replicate]
        have hr : q.take (i + 1) ≠ [] := by
          intro z
          have := congrArg List.length z
          rw [List.length_take, List.length_nil] at this
          omega
        refine rd_repTA ep2 (by intro z; have := congrArg List.length z; rw [List.length_take, List.length_nil] at this; omega) hk0 (by rw [hkk] at hq6; have : 1 * kk ≤ (i + 1) * kk := Nat.mul_le_mul_right _ (by omega); omega) (by rw [List.length_take]; omega) fun r H3 s3 er => ?_
        refine rd_eqD ((h2.mono (s12.trans s3)).dt) (Dn.dt (.tup er ((dtk.rep kk).mono s3))) (E.shT q) (by rw [eqf]; exact E.shT _) ?_
        rw [eqf, E.tup]
        walk_at "rd"
        refine rd_ite (fun c2 => ?_) (fun c2 => ?_)
        · walk_at "rd"
          refine rd_slA ((s12.trans s3) _ _ e2) fun p4 H4 s4 ep4 => ?_
          rw [cut_take] at ep4
          walk_at "rd"
          refine ⟨p4, q.take (i + 1), _, (s12.trans s3).trans s4, .tup ep4 (by rw [List.map_take]; exact (d2.take (i + 1)).mono ((s12.trans s3).trans s4)), hr, fun g => ?_, by rw [List.length_take]; omega, rfl⟩
          rw [atO_rep f _ hr hk0, ← c2]
        · walk_at "rd"
          exact ⟨_, s12.trans s3, rfl⟩
      · exact ⟨_, s1, rfl⟩
    · rintro σ H' ⟨v, s1, rfl⟩
      exact ⟨t2, q, v, s1, h2.mono s1, hq, fun _ => rfl, hq6, rfl⟩
  · rintro σ0 H0 ⟨t2', q', v0, s0, dq0, hq0, hat0, hl0, rfl⟩
    walk_at "rd"
    refine rd_while (fun n σ H' => ∃ (u1 u2 : Addr) (f1 q1 : List α) (v : Option V), n = f1.length ∧ Same H H' ∧ Dn H' (.ref u1) (.tuple (f1.map enc)) ∧ Dn H' (.ref u2) (.tuple (q1.map enc)) ∧ q1 ≠ [] ∧ (∀ g, atO f1 q1 g = atO f q g) ∧ q1.length ≤ 6 ∧
      σ = [some (.ref u1), some (.ref u2), v]) _ ⟨t1, t2', f, q', v0, rfl, s0, h1.mono s0, dq0, hq0, hat0, hl0, rfl⟩ ?_
    rintro n σ H' ⟨u1, u2, f1, q1, v, rfl, s1, du1, du2, hq1, hat1, hl1, rfl⟩
    walk_at "rd"
    refine rd_newT (by simp) fun w H2 _ s2 ew _ => ?_
    refine rd_neD (d := .tuple (f1.map enc)) (e := .tuple ([].map enc)) ((du1.mono s2).dt) (.tup ew .nil) (E.shT f1) (E.shT []) ?_
    rw [E.tup]
    walk_at "rd"
    have out : ∀ H3, Same H2 H3 → (tRet (tTup (tCons (tVar 0) (tCons (tVar 1) tNil)))) { nx := fun x H' => Q .non H', rt := Q } [some (.ref u1), some (.ref u2), v] H3 := by
      intro H3 s3
      walk_at "rd"
      refine rd_newT (by simp) fun w4 H4 _ s4 ew4 _ => ?_
      have s := (s2.trans s3).trans s4
      exact k H4 w4 u1 u2 f1 q1 (s1.trans s) ew4 (du1.mono s) (du2.mono s) hq1 hat1
    refine rd_iteN (fun c1 => ?_) (fun c1 => ?_)
    · -- the front is not empty
      obtain ⟨f2, x, rfl⟩ : ∃ f2 x, f1 = f2 ++ [x] := ⟨f1.dropLast, f1.getLast c1, (List.dropLast_concat_getLast c1).symm⟩
      obtain ⟨q2, y, rfl⟩ : ∃ q2 y, q1 = q2 ++ [y] := ⟨q1.dropLast, q1.getLast hq1, (List.dropLast_concat_getLast hq1).symm⟩
      obtain ⟨xs1, e1, d1⟩ := du1.tup_inv
      obtain ⟨ys1, e3, d3⟩ := du2.tup_inv
      rw [List.map_append] at d1 d3
      have split : ∀ {H0 : Hp} {vs : List V} {ds : List PyData} {d : PyData}, DnAll H0 vs (ds ++ [d]) → ∃ vs' v, vs = vs' ++ [v] ∧ DnAll H0 vs' ds ∧ Dn H0 v d := by
        intro H0 vs ds
        induction ds generalizing vs with
        | nil =>
          intro d h
          cases h with
          | cons h t => cases t; exact ⟨[], _, rfl, .nil, h⟩
        | cons a ds ih =>
          intro d h
          cases h with
          | cons h t =>
            obtain ⟨vs', v, rfl, h2, h3⟩ := ih t
            exact ⟨_ :: vs', v, rfl, .cons h h2, h3⟩
      obtain ⟨vs1, v1, rfl, da1, db1⟩ := split d1
      obtain ⟨vs3, v3, rfl, da3, db3⟩ := split d3
      walk_at "rd"
      refine rd_ixT (s2 _ _ e1) (atI_last _ _) ?_
      walk_at "rd"
      refine rd_ixT (s2 _ _ e3) (atI_last _ _) ?_
      refine rd_eqD ((db1.mono s2).dt) ((db3.mono s2).dt) (E.sh x) (E.sh y) ?_
      rw [E.eq]
      walk_at "rd"
      refine rd_ite (fun c2 => ?_) (fun c2 => ?_)
      · subst c2
        refine rd_whN ?_
        walk_at "rd"
        refine rd_slA (s2 _ _ e1) fun p3 H3 s3 ep3 => ?_
        rw [cut_front] at ep3
        walk_at "rd"
        refine rd_ixT ((s2.trans s3) _ _ e3) (atI_last _ _) ?_
        walk_at "rd"
        refine rd_slA ((s2.trans s3) _ _ e3) fun p4 H4 s4 ep4 => ?_
        rw [cut_front] at ep4
        refine ⟨p4, _, rfl, .inl (SqT.of ep4), ?_⟩
        walk_at "rd"
        have l3 := da3.length
        rw [List.length_map] at l3
        rw [List.length_append, List.length_singleton] at hl1
        refine rd_newT (by simp; omega) fun w5 H5 _ s5 ew5 _ => ?_
        walk_at "rd"
        have s25 := ((s2.trans s3).trans s4).trans s5
        refine ⟨f2.length, by rw [List.length_append, List.length_singleton]; omega, p3, w5, f2, x :: q2, v, rfl, s1.trans s25, .tup ((s4.trans s5) _ _ ep3) (da1.mono s25), .tup ew5 ?_, by simp, fun g => ?_, by rw [List.length_cons]; omega, rfl⟩
        · rw [List.append_nil]
          exact .cons (db3.mono s25) (da3.mono s25)
        · rw [atO_turn]; exact hat1 g
      · exact out H2 (Same.refl _)
    · refine rd_iteFF ?_
      exact out H2 (Same.refl _)
end
end Sl

set_option Elab.async false
set_option linter.all false
set_option maxRecDepth 100000
set_option maxHeartbeats 4000000
namespace Sl
open PySem L2 C8 StX Silt
local macro_rules | `(tactic| walk_at "side") => `(tactic| first
  | exact cdivw (by omega) (by omega)
  | exact cmulw (by omega) (by omega) (by omega) (by omega)
  | exact Or.inr ⟨by omega, by omega⟩
  | exact Or.inl ⟨by omega, by omega⟩
  | omega
  | exact ⟨by omega, by omega, by decide⟩
  | decide)
local macro_rules | `(tactic| walk_at "rd1") => `(tactic| first
  | with_reducible refine rd_seq ?_
  | with_reducible refine rd_asg ?_
  | with_reducible refine rd_drop ?_
  | with_reducible refine rd_ret ?_
  | with_reducible refine rd_retN ?_
  | with_reducible refine rd_ifS ?_
  | ((with_reducible refine rd_var0 ?_); refine ⟨_, rfl, ?_⟩)
  | with_reducible refine rd_c ?_
  | with_reducible refine rd_op ?_
  | with_reducible refine rd_un ?_
  | with_reducible refine rd_I0 ?_
  | with_reducible refine rd_U ?_
  | ((with_reducible refine rd_I ?c ?_); (case c => walk_at "side"))
  | with_reducible refine rd_ipI ?_
  | with_reducible refine rd_eqI ?_
  | with_reducible refine rd_neI ?_
  | with_reducible refine rd_test ?_
  | with_reducible refine rd_tB ?_
  | with_reducible refine rd_bl ?_
  | with_reducible refine rd_not ?_
  | with_reducible refine rd_and ?_
  | with_reducible refine rd_or ?_
  | with_reducible refine rd_andV ?_
  | with_reducible refine rd_orV ?_
  | with_reducible refine rd_notV ?_
  | with_reducible refine rd_ifE ?_
  | with_reducible refine rd_chain ?_
  | with_reducible refine rd_chain3 ?_
  | with_reducible refine rd_nil ?_
  | with_reducible refine rd_cons ?_
  | with_reducible refine rd_call ?_
  | with_reducible refine rd_CB ?_
  | with_reducible refine rd_par ?_
  | with_reducible refine rd_par2 ?_
  | with_reducible refine rd_par3 ?_
  | with_reducible refine rd_par4 ?_
  | ((with_reducible refine rd_aug0 ?_); refine ⟨_, rfl, ?_⟩)
  | with_reducible refine rd_gname ?_
  | with_reducible refine rd_gcons ?_
  | with_reducible refine rd_gnil ?_
  | with_reducible refine rd_max ?_
  | with_reducible refine rd_min ?_
  | with_reducible refine rd_int1 ?_
  | with_reducible refine rd_abs ?_
  | with_reducible refine rd_lst ?_
  | with_reducible refine rd_tup ?_
  | with_reducible refine rd_bm ?_
  | with_reducible refine rd_fld0 ?_
  | with_reducible refine rd_sl0 ?_
  | with_reducible refine rd_noP ?_
  | with_reducible refine rd_part ?_
  | with_reducible refine rd_part2 ?_
  | with_reducible refine rd_meth0 ?_
  | with_reducible refine rd_star ?_
  | with_reducible refine rd_for ?_
  | with_reducible refine rd_rng1 ?_
  | with_reducible refine rd_rng2 ?_
  | with_reducible refine rd_rng3 ?_
  | with_reducible refine rd_iList ?_
  | with_reducible refine rd_iTup ?_
  | with_reducible refine rd_iEnum ?_
  | with_reducible refine rd_lc ?_
  | with_reducible refine rd_yes ?_
  | with_reducible refine rd_augS ?_
  | with_reducible refine rd_drawNew ?_
  | with_reducible refine rd_make0 ?_
  | with_reducible refine rd_next ?_
  | with_reducible refine rd_break ?_
  | with_reducible refine rd_cont ?_
  | with_reducible refine rd_iteTT ?_
  | with_reducible refine rd_iteFF ?_
  | with_reducible refine rd_iteNTT ?_
  | with_reducible refine rd_iteNFF ?_
  | with_reducible refine rd_asgG ?_)
local macro_rules | `(tactic| walk_at "rd") => `(tactic| repeat walk_at "rd1")
local macro_rules | `(tactic| walk_at "len") => `(tactic| first
  | (intro vs H Q E h; obtain ⟨h2, _⟩ := h; rw [h2]; rfl)
  | (intro vs H Q E h; obtain ⟨_, h2, _⟩ := h; rw [h2]; rfl)
  | (intro vs H Q E h; obtain ⟨_, _, h2, _⟩ := h; rw [h2]; rfl)
  | (intro vs H Q E h; obtain ⟨_, _, _, h2, _⟩ := h; rw [h2]; rfl)
  | (intro vs H Q E h; obtain ⟨_, _, _, _, h2, _⟩ := h; rw [h2]; rfl)
  | (intro vs H Q E h; obtain ⟨_, _, _, _, _, h2, _⟩ := h; rw [h2]; rfl)
  | (intro vs H Q E h; obtain ⟨_, _, _, _, _, _, h2, _⟩ := h; rw [h2]; rfl)
  | (intro vs H Q E h; obtain ⟨_, _, _, _, _, _, _, h2, _⟩ := h; rw [h2]; rfl)
  | (intro vs H Q E h; obtain ⟨_, _, _, _, _, _, _, _, h2, _⟩ := h; rw [h2]; rfl)
  | (intro vs H Q E h; obtain ⟨_, _, _, _, _, _, _, _, _, h2, _⟩ := h; rw [h2]; rfl))
/-- a list or a tuple -/
def Seq (H : Hp) (a : Addr) (xs : List V) : Prop := H a = some (.lst xs) ∨ H a = some (.tup xs)
theorem Seq.mono {H H' : Hp} {a : Addr} {xs : List V} (s : Same H H') (h : Seq H a xs) : Seq H' a xs := h.elim (fun e => .inl (s _ _ e)) fun e => .inr (s _ _ e)
section
variable {σ : L2.St} {H : Hp} {Q : VK} {K : PySem.W.Frag} {QS : L2.St → Hp → Prop} {v : V}
theorem Seq.star {a : Addr} {xs : List V} (h : Seq H a xs) : SqT K H a xs ∨ SqL K H a xs := h.elim (fun e => .inr (SqL.of e)) fun e => .inl (SqT.of e)
theorem rd_isiTS {a u : Addr} {xs : List V} (e : Seq H a xs) (eu : H u = some (.tup [.ty "list", .ty "tuple"])) (h : Q (.bl true) H) : rIsiT K [.ref a, .ref u] H Q :=
  e.elim (fun e => rd_isiTL e eu h) fun e => rd_isiTT e eu h
theorem rd_lenQ {a : Addr} {xs : List V} (e : Seq H a xs) (h : Q (.int xs.length) H) : rLenS K [.ref a] H Q := e.elim (fun e => rd_lenL e h) fun e => rd_lenT e h
theorem rd_tupOfS {a : Addr} {xs : List V} (e : Seq H a xs) (h : ∀ p H', Same H H' → H' p = some (.tup xs) → Q (.ref p) H') : rTupOf K [.ref a] H Q :=
  e.elim (fun e => rd_tupOfL e fun p H' _ s ep _ => h p H' s ep) fun e => rd_tupOfT e (h a H (Same.refl H) e)
def rGFld (K : PySem.W.Frag) (f : Str) (v : V) (QS : L2.St → Hp → Prop) (σ : L2.St) (x : V) (H1 : Hp) : Prop := ∃ a C dx fs, x = .ref a ∧ H1 a = some (.ins C dx fs) ∧ Cls K C ∧ NoAttr K C f ∧ fs.length < 1000 ∧ QS σ (upd H1 a (.ins C dx (putF f v fs)))
theorem rd_gfld0 {to : TE} {f : Str} (h : to σ H fun x H1 => rGFld K f v QS σ x H1) : gFld K to f v σ H QS := h
theorem rd_gfld {f : Str} {a C dx : Addr} {fs : List (Str × V)} (e : H a = some (.ins C dx fs)) (c : Cls K C) (n : NoAttr K C f) (l : fs.length < 1000) (h : ∀ H', H' = upd H a (.ins C dx (putF f v fs)) → H' a = some (.ins C dx (putF f v fs)) → QS σ H') : rGFld K f v QS σ (.ref a) H :=
  ⟨a, C, dx, fs, rfl, e, c, n, l, h _ rfl upd_same⟩
end
theorem put_rf (t1 t2 : Addr) : putF "period" (.ref t2) (putF "front" (.ref t1) []) = rf t1 t2 := by
  have h : ¬ (("front" : Str) = "period") := by decide +kernel
  show (if ("front" : Str) = "period" then [(("front" : Str), V.ref t2)] else (("front" : Str), V.ref t1) :: putF "period" (V.ref t2) []) = rf t1 t2
  rw [if_neg h]
  rfl
/-- behind the two stores of __init__ -/
theorem ruleAt_made {H H1 H2 : Hp} {C dx self t1 t2 : Addr} {f q : List PyData} {fs : List (Str × V)} (e : H self = some (.ins C dx [])) (e1 : H1 = upd H self (.ins C dx (putF "front" (.ref t1) []))) (e2 : H2 = upd H1 self (.ins C dx (putF "period" (.ref t2) (putF "front" (.ref t1) []))))
    (d1 : Dn H (.ref t1) (.tuple f)) (d2 : Dn H (.ref t2) (.tuple q)) : RuleAt C H2 self f q := by
  have k : ∀ a xs, H a = some (.tup xs) → H2 a = some (.tup xs) := fun a xs ea => by
    have hne : a ≠ self := fun z => by rw [z, e] at ea; cases ea
    rw [e2, upd_ne hne, e1, upd_ne hne]
    exact ea
  exact ⟨dx, t1, t2, by rw [e2, put_rf]; exact upd_same, (d1.keep k).dt, (d2.keep k).dt⟩
theorem same_made {H0 H H1 H2 : Hp} {self : Addr} {o1 o2 : HO} (s : Same H0 H) (h0 : H0 self = none) (e1 : H1 = upd H self o1) (e2 : H2 = upd H1 self o2) : Same H0 H2 := by
  rw [e2, e1]
  exact Same.mut (Same.mut s h0) h0
/-- pairs that may be told -/
def OkP (q : Int × Int) : Prop := 2 ≤ q.2 ∧ q.2 ≤ q.1 ∧ q.1 ≤ 12
theorem atp_atO (f q : List (Int × Int)) (g : Nat) : atp f q g = (atO f q g).getD (0, 0) := by
  unfold atp atO
  by_cases c : g < f.length
  · rw [if_pos c, if_pos c, List.getD_eq_getElem?_getD]
  · rw [if_neg c, if_neg c, List.getD_eq_getElem?_getD]
theorem good_of {f q : List (Int × Int)} (hq : q ≠ []) (hf : ∀ x ∈ f, OkP x) (hp : ∀ x ∈ q, OkP x) : Good (atp f q) := by
  have h : ∀ g, OkP (atp f q g) := fun g => by
    obtain ⟨x, e, hx⟩ := atO_some (f := f) hq g
    rw [atp_atO, e]
    exact hx.elim (hf x) (hp x)
  exact ⟨fun g => (h g).1, fun g => (h g).2.1, fun g => (h g).2.2⟩
def spPair : Sp := fun vs H Q _ => ∃ (t : Addr) (q : Int × Int), vs = [.ref t] ∧ H t = some (.tup [.int q.1, .int q.2]) ∧ OkP q ∧ Q (.bl true) H
def spRule (C : Addr) : Sp := fun vs H Q _ => ∃ (self dx fl pl : Addr) (H0 : Hp) (xs1 xs2 : List V) (f q : List (Int × Int)), vs = [.ref self, .ref fl, .ref pl] ∧ Same H0 H ∧ H0 self = none ∧ H self = some (.ins C dx []) ∧
  Seq H fl xs1 ∧ Seq H pl xs2 ∧ DnAll H xs1 (pairsD f) ∧ DnAll H xs2 (pairsD q) ∧ f.length ≤ 6 ∧ q.length ≤ 6 ∧ q ≠ [] ∧ (∀ x ∈ f, OkP x) ∧ (∀ x ∈ q, OkP x) ∧
  ∀ H', Same H0 H' → RuleP C H' self (atp f q) → Q .non H'
section
variable {P : Program} {w : World} {K : PySem.W.Frag} {mg : Str → Option Value} {base : Heap} {C_Rule C_Weights : Addr}
theorem cal_is_pair (T : TX K mg C_Rule C_Weights) : Cal P w K mg base 2 "is_pair" spPair [] := by
  obtain ⟨f0, fd, D, dn⟩ := T.d_is_pair
  have G_is_whole := cal_is_whole (P := P) (w := w) (base := base) T
  refine cal0 D (D.fn.binds dn fun _ _ _ _ _ _ us hl => match us, hl with | [_], _ => rfl) .nil sc_is_pair (by walk_at "len") (fun cdv A outer s H vs Q E hr h => ?_)
  obtain ⟨t, q, rfl, e, ⟨o1, o2, o3⟩, k⟩ := h
  refine ⟨_, (pss_cons (ps_if (PW.pt (pw_or (pt_not (pt_val (pe_callB call_isi (by rfl) T.b_isinstance (by decide +kernel) (pa_cons (pv 0) (pa_cons (pe_bltn (v := .ty "tuple") (u := .type "tuple") rfl T.b_tuple (by decide +kernel) rfl) pa_nil))))) (pw_or (pt_cmpR op_ne (pe_callB cr_lenS (by rfl) T.b_len (by decide +kernel) (pa_cons (pv 0) pa_nil)) pe_int (nomark _)) (pw_or (pt_not (pt_val (pe_c G_is_whole hr (by decide) rfl (pa_cons (pe_ix ix_tup (pv 0) pe_int (fun _ _ => rfl)) pa_nil)))) (pw_or1 (pt_not (pt_val (pe_c G_is_whole hr (by decide) rfl (pa_cons (pe_ix ix_tup (pv 0) pe_int (fun _ _ => rfl)) pa_nil))))))))) (pss_one (ps_ret pe_bl)) pss_nil)
      (pss_one (ps_ret (pe_chain3 op_le op_le op_le pe_int (pe_ix ix_tup (pv 0) pe_int (fun _ _ => rfl)) (pe_ix ix_tup (pv 0) pe_int (fun _ _ => rfl)) (pe_gc rfl T.g_MOST_LAYERS))))), ?_⟩
  walk_at "rd"
  refine rd_isiT e ?_
  walk_at "rd"
  refine rd_lenT e ?_
  walk_at "rd"
  refine rd_iteNF (by simp) ?_
  walk_at "rd"
  refine rd_ixT e (by rfl) ?_
  walk_at "rd"
  refine ⟨_, rfl, ?_⟩
  walk_at "rd"
  refine rd_ixT e (by rfl) ?_
  walk_at "rd"
  refine ⟨_, rfl, ?_⟩
  walk_at "rd"
  refine rd_ixT e (by rfl) ?_
  walk_at "rd"
  refine rd_iteT o1 ?_
  walk_at "rd"
  refine rd_ixT e (by rfl) ?_
  walk_at "rd"
  refine rd_iteT o2 ?_
  walk_at "rd"
  rw [decide_eq_true o3]
  exact k
theorem mak_Rule_init (T : TX K mg C_Rule C_Weights) : Mak P w K mg base 3 "Rule" C_Rule (spRule C_Rule) [] := by
  obtain ⟨f0, fd, D, dn, mk⟩ := T.m_Rule_init
  have G_is_pair := cal_is_pair (P := P) (w := w) (base := base) T
  have G_shortest := cal_shortest (P := P) (w := w) (base := base) T
  refine mak0 mk T.mg_Rule D (D.binds dn fun _ _ _ _ _ _ us hl => match us, hl with | [_, _, _], _ => rfl) .nil sc_Rule_init (by walk_at "len") (fun cdv A outer s H vs Q E hr h => ?_)
  obtain ⟨self, dx, fl, pl, H0, xs1, xs2, f, q, rfl, s0, h0, eS, sf, sp, df, dq, lf, lq, hq, okf, okq, k⟩ := h
  have l1 : xs1.length = f.length := by rw [df.length]; simp [pairsD]
  have l2 : xs2.length = q.length := by rw [dq.length]; simp [pairsD]
  have q0 : 0 < q.length := List.length_pos_iff.mpr hq
  refine ⟨_, (pss_cons (ps_for PassesOwn.never rfl (pi_tup (pe_tup (pa_cons (pv 1) (pa_cons (pv 2) pa_nil)))) (pg_n 3 sc_Rule_init.nd) (pss_one (ps_if (PW.pt (pw_or (pt_not (pt_val (pe_callB call_isiT (by rfl) T.b_isinstance (by decide +kernel) (pa_cons (pv 3) (pa_cons (pe_tup (pa_cons (pe_bltn (v := .ty "list") (u := .type "list") rfl T.b_list (by decide +kernel) rfl) (pa_cons (pe_bltn (v := .ty "tuple") (u := .type "tuple") rfl T.b_tuple (by decide +kernel) rfl) pa_nil))) pa_nil))))) (pw_or1 (pt_cmpR op_gt (pe_callB cr_lenS (by rfl) T.b_len (by decide +kernel) (pa_cons (pv 3) pa_nil)) (pe_gc rfl T.g_MOST_PAIRS) (nomark _))))) (pss_one ps_never) pss_nil)))
      (pss_cons (ps_if (pt_cmpR op_eq (pe_callB cr_lenS (by rfl) T.b_len (by decide +kernel) (pa_cons (pv 2) pa_nil)) pe_int (nomark _)) (pss_one ps_never) pss_nil)
      (pss_cons (ps_for PassesOwn.never rfl (pi_enum (by rfl) T.b_enumerate (pa_cons (pe_lst (pa_star (pv 1) (pa_star (pv 2) pa_nil))) pa_nil)) (pg_tup rfl (pgs_cons (pg_n 4 sc_Rule_init.nd) (pgs_cons (pg_n 5 sc_Rule_init.nd) pgs_nil))) (pss_one (ps_if (pt_not (pt_val (pe_c G_is_pair hr (by decide) rfl (pa_cons (pv 5) pa_nil)))) (pss_one ps_never) pss_nil)))
      (pss_one (ps_asg (pe_c G_shortest hr (by decide) rfl (pa_cons (pe_callTy cr_tupOf (by rfl) T.b_tuple (by decide +kernel) (pa_cons (pv 1) pa_nil)) (pa_cons (pe_callTy cr_tupOf (by rfl) T.b_tuple (by decide +kernel) (pa_cons (pv 2) pa_nil)) pa_nil))) (pg_tup rfl (pgs_cons (pg_attr (pv 0)) (pgs_cons (pg_attr (pv 0)) pgs_nil)))))))), ?_⟩
  walk_at "rd"
  refine rd_newT (by simp) fun u H1 _ s1 eu _ => ?_
  refine rd_tpR (SqT.of eu) ?_
  refine forR_tup (xs := [.ref fl, .ref pl]) (fun i σ H' => ∃ v, Same H1 H' ∧ σ = [some (.ref self), some (.ref fl), some (.ref pl), v, none, none]) (fun i σ H' ⟨v, s, _⟩ => SqT.of (s _ _ eu)) ⟨none, Same.refl _, rfl⟩ ?_ ?_
  · rintro i x σ H' hi ⟨v, s2, rfl⟩
    obtain ⟨b, ys, rfl, hb, hlb⟩ : ∃ b ys, x = V.ref b ∧ Seq H b ys ∧ ys.length ≤ 6 := by
      match i, hi with
      | 0, hi => cases hi; exact ⟨fl, xs1, rfl, sf, by omega⟩
      | 1, hi => cases hi; exact ⟨pl, xs2, rfl, sp, by omega⟩
      | i + 2, hi => simp at hi
    walk_at "rd"
    refine rd_newT (by simp) fun u2 H3 _ s3 eu2 _ => ?_
    walk_at "rd"
    refine rd_isiTS (hb.mono ((s1.trans s2).trans s3)) eu2 ?_
    walk_at "rd"
    refine rd_lenQ (hb.mono ((s1.trans s2).trans s3)) ?_
    walk_at "rd"
    refine rd_iteF (by omega) ?_
    walk_at "rd"
    exact ⟨_, s2.trans s3, rfl⟩
  · rintro σ H' ⟨v, s2, rfl⟩
    have s12 := s1.trans s2
    walk_at "rd"
    refine rd_lenQ (sp.mono s12) ?_
    walk_at "rd"
    refine rd_iteF (by omega) ?_
    walk_at "rd"
    refine ⟨_, _, rfl, (sf.mono s12).star, ?_⟩
    walk_at "rd"
    refine ⟨_, _, rfl, (sp.mono s12).star, ?_⟩
    walk_at "rd"
    rw [List.append_nil]
    refine rd_newL (by rw [List.length_append]; omega) fun L H3 _ s3 eL _ => ?_
    walk_at "rd"
    refine rd_enR (SqL.of eL) ?_
    refine forR_enum (xs := xs1 ++ xs2) (fun i σ H' => ∃ v4 v5, Same H3 H' ∧ σ = [some (.ref self), some (.ref fl), some (.ref pl), v, v4, v5]) (fun i σ H' ⟨_, _, s, _⟩ => SqL.of (s _ _ eL)) ⟨none, none, Same.refl _, rfl⟩ ?_ ?_
    · rintro i x σ H' t H4 hi ⟨v4, v5, s4, rfl⟩ _ s5 et _
      have dall : DnAll H4 (xs1 ++ xs2) ((f ++ q).map pairD) := by
        rw [List.map_append]
        exact (df.append dq).mono (((s12.trans s3).trans s4).trans s5)
      have hil : i < (xs1 ++ xs2).length := (List.getElem?_eq_some_iff.mp hi).1
      have hif : i < (f ++ q).length := by rw [List.length_append] at hil ⊢; omega
      obtain ⟨y, hy, dy⟩ := dall.get (i := i) (d := pairD (f ++ q)[i]) (by rw [List.getElem?_map, List.getElem?_eq_getElem hif]; rfl)
      rw [hi] at hy
      cases hy
      obtain ⟨tp, rfl, etp⟩ := dy.dt.pair_inv
      have ok : OkP (f ++ q)[i] := by
        have := List.getElem_mem hif
        rcases List.mem_append.mp this with z | z
        · exact okf _ z
        · exact okq _ z
      refine rd_gtup et rfl ?_
      walk_at "rd"
      refine ⟨tp, _, rfl, etp, ok, ?_⟩
      walk_at "rd"
      exact ⟨_, _, s4.trans s5, rfl⟩
    · rintro σ H' ⟨v4, v5, s4, rfl⟩
      have s14 := (s12.trans s3).trans s4
      walk_at "rd"
      refine rd_tupOfS (sf.mono s14) fun p1 H5 s5 ep1 => ?_
      walk_at "rd"
      refine rd_tupOfS (sp.mono (s14.trans s5)) fun p2 H6 s6 ep2 => ?_
      walk_at "rd"
      have s16 := (s14.trans s5).trans s6
      refine ⟨p1, p2, Int × Int, inferInstance, pairD, f, q, rfl, enc_pair, .tup (s6 _ _ ep1) (df.mono s16), .tup ep2 (dq.mono s16), hq, lf, lq, fun H7 t r1 r2 f' q' s7 et d1 d2 hq' hat => ?_⟩
      have s17 := s16.trans s7
      refine rd_gtup et rfl ?_
      refine rd_gcons ?_
      refine rd_gfld0 ?_
      walk_at "rd"
      refine rd_gfld (s17 _ _ eS) T.cl_Rule T.na_Rule_front (by decide) fun H8 e8 e8' => ?_
      refine rd_gcons ?_
      refine rd_gfld0 ?_
      walk_at "rd"
      refine rd_gfld e8' T.cl_Rule T.na_Rule_period (by show 1 < 1000; decide) fun H9 e9 e9' => ?_
      walk_at "rd"
      have hr := ruleAt_made (fs := []) (s17 _ _ eS) e8 e9 d1 d2
      have heq : atp f q = atp f' q' := by
        funext g
        rw [atp_atO, atp_atO, hat]
      exact k H9 (same_made (s0.trans s17) h0 e8 e9) ⟨f', q', hr, hq', heq, good_of hq okf okq⟩
end
end Sl

set_option Elab.async false
set_option linter.all false
set_option maxRecDepth 100000
set_option maxHeartbeats 4000000
namespace Sl
open PySem L2 C8 StX Silt
local macro_rules | `(tactic| walk_at "side") => `(tactic| first
  | exact cdivw (by omega) (by omega)
  | exact cmulw (by omega) (by omega) (by omega) (by omega)
  | exact Or.inr ⟨by omega, by omega⟩
  | exact Or.inl ⟨by omega, by omega⟩
  | omega
  | exact ⟨by omega, by omega, by decide⟩
  | decide)
local macro_rules | `(tactic| walk_at "rd1") => `(tactic| first
  | with_reducible refine rd_seq ?_
  | with_reducible refine rd_asg ?_
  | with_reducible refine rd_drop ?_
  | with_reducible refine rd_ret ?_
  | with_reducible refine rd_retN ?_
  | with_reducible refine rd_ifS ?_
  | ((with_reducible refine rd_var0 ?_); refine ⟨_, rfl, ?_⟩)
  | with_reducible refine rd_c ?_
  | with_reducible refine rd_op ?_
  | with_reducible refine rd_un ?_
  | with_reducible refine rd_I0 ?_
  | with_reducible refine rd_U ?_
  | ((with_reducible refine rd_I ?c ?_); (case c => walk_at "side"))
  | with_reducible refine rd_ipI ?_
  | with_reducible refine rd_eqI ?_
  | with_reducible refine rd_neI ?_
  | with_reducible refine rd_test ?_
  | with_reducible refine rd_tB ?_
  | with_reducible refine rd_bl ?_
  | with_reducible refine rd_not ?_
  | with_reducible refine rd_and ?_
  | with_reducible refine rd_or ?_
  | with_reducible refine rd_andV ?_
  | with_reducible refine rd_orV ?_
  | with_reducible refine rd_notV ?_
  | with_reducible refine rd_ifE ?_
  | with_reducible refine rd_chain ?_
  | with_reducible refine rd_chain3 ?_
  | with_reducible refine rd_nil ?_
  | with_reducible refine rd_cons ?_
  | with_reducible refine rd_call ?_
  | with_reducible refine rd_CB ?_
  | with_reducible refine rd_par ?_
  | with_reducible refine rd_par2 ?_
  | with_reducible refine rd_par3 ?_
  | with_reducible refine rd_par4 ?_
  | ((with_reducible refine rd_aug0 ?_); refine ⟨_, rfl, ?_⟩)
  | with_reducible refine rd_gname ?_
  | with_reducible refine rd_gcons ?_
  | with_reducible refine rd_gnil ?_
  | with_reducible refine rd_max ?_
  | with_reducible refine rd_min ?_
  | with_reducible refine rd_int1 ?_
  | with_reducible refine rd_abs ?_
  | with_reducible refine rd_lst ?_
  | with_reducible refine rd_tup ?_
  | with_reducible refine rd_bm ?_
  | with_reducible refine rd_fld0 ?_
  | with_reducible refine rd_sl0 ?_
  | with_reducible refine rd_noP ?_
  | with_reducible refine rd_part ?_
  | with_reducible refine rd_part2 ?_
  | with_reducible refine rd_meth0 ?_
  | with_reducible refine rd_star ?_
  | with_reducible refine rd_for ?_
  | with_reducible refine rd_rng1 ?_
  | with_reducible refine rd_rng2 ?_
  | with_reducible refine rd_rng3 ?_
  | with_reducible refine rd_iList ?_
  | with_reducible refine rd_iTup ?_
  | with_reducible refine rd_iEnum ?_
  | with_reducible refine rd_lc ?_
  | with_reducible refine rd_yes ?_
  | with_reducible refine rd_augS ?_
  | with_reducible refine rd_drawNew ?_
  | with_reducible refine rd_make0 ?_
  | with_reducible refine rd_next ?_
  | with_reducible refine rd_break ?_
  | with_reducible refine rd_cont ?_
  | with_reducible refine rd_iteTT ?_
  | with_reducible refine rd_iteFF ?_
  | with_reducible refine rd_iteNTT ?_
  | with_reducible refine rd_iteNFF ?_
  | with_reducible refine rd_asgG ?_)
local macro_rules | `(tactic| walk_at "rd") => `(tactic| repeat walk_at "rd1")
local macro_rules | `(tactic| walk_at "len") => `(tactic| first
  | (intro vs H Q E h; obtain ⟨h2, _⟩ := h; rw [h2]; rfl)
  | (intro vs H Q E h; obtain ⟨_, h2, _⟩ := h; rw [h2]; rfl)
  | (intro vs H Q E h; obtain ⟨_, _, h2, _⟩ := h; rw [h2]; rfl)
  | (intro vs H Q E h; obtain ⟨_, _, _, h2, _⟩ := h; rw [h2]; rfl)
  | (intro vs H Q E h; obtain ⟨_, _, _, _, h2, _⟩ := h; rw [h2]; rfl)
  | (intro vs H Q E h; obtain ⟨_, _, _, _, _, h2, _⟩ := h; rw [h2]; rfl)
  | (intro vs H Q E h; obtain ⟨_, _, _, _, _, _, h2, _⟩ := h; rw [h2]; rfl)
  | (intro vs H Q E h; obtain ⟨_, _, _, _, _, _, _, h2, _⟩ := h; rw [h2]; rfl)
  | (intro vs H Q E h; obtain ⟨_, _, _, _, _, _, _, _, h2, _⟩ := h; rw [h2]; rfl)
  | (intro vs H Q E h; obtain ⟨_, _, _, _, _, _, _, _, _, h2, _⟩ := h; rw [h2]; rfl))
/-- the weight of a grade -/
def wat (f q : List Int) : Nat → Int := fun g => (atO f q g).getD 0
def wsum (w : Nat → Int) : Nat → List Int → Int
  | _, [] => 0
  | k, x :: xs => w k * x + wsum w (k + 1) xs
def wl (w : Nat → Int) : Nat → List Int → List Int
  | _, [] => []
  | k, x :: xs => w k * x :: wl w (k + 1) xs
theorem wl_sum (w : Nat → Int) : ∀ (k : Nat) (xs : List Int), (wl w k xs).sum = wsum w k xs
  | _, [] => rfl
  | k, x :: xs => by simp only [wl, wsum, List.sum_cons, wl_sum w (k + 1) xs]
theorem wl_len (w : Nat → Int) : ∀ (k : Nat) (xs : List Int), (wl w k xs).length = xs.length
  | _, [] => rfl
  | k, x :: xs => by simp only [wl, List.length_cons, wl_len w (k + 1) xs]
theorem wl_take (w : Nat → Int) : ∀ (xs : List Int) (k i : Nat) (x : Int), xs[i]? = some x → wl w k (xs.take (i + 1)) = wl w k (xs.take i) ++ [w (k + i) * x]
  | [], _, _, _, h => by simp at h
  | y :: ys, k, 0, x, h => by simp at h; subst h; simp [wl]
  | y :: ys, k, i + 1, x, h => by
    have h' : ys[i]? = some x := by simpa using h
    show w k * y :: wl w (k + 1) (ys.take (i + 1)) = w k * y :: wl w (k + 1) (ys.take i) ++ [w (k + (i + 1)) * x]
    rw [wl_take w ys (k + 1) i x h', show k + 1 + i = k + (i + 1) by omega]
    rfl
theorem wsum_tl (w : Nat → Int) : ∀ (k : Nat) (xs : List Int), wsum w (k + 1) xs = wsum (fun g => w (g + 1)) k xs
  | _, [] => rfl
  | k, x :: xs => by simp only [wsum, wsum_tl w (k + 1) xs]
/-- weights -/
def WeiP (C : Addr) (H : Hp) (a : Addr) (w : Nat → Int) : Prop := ∃ f q, RuleAt C H a (intsD f) (intsD q) ∧ q ≠ [] ∧ w = wat f q ∧ ∀ g, -100 ≤ w g ∧ w g ≤ 100
theorem WeiP.mono {C : Addr} {H H' : Hp} {a : Addr} {w : Nat → Int} (s : Same H H') (h : WeiP C H a w) : WeiP C H' a w := by
  obtain ⟨f, q, h1, h2, h3, h4⟩ := h
  exact ⟨f, q, h1.mono s, h2, h3, h4⟩
theorem WeiP.ins {C : Addr} {H : Hp} {a : Addr} {w : Nat → Int} (h : WeiP C H a w) : ∃ dx t1 t2, H a = some (.ins C dx (rf t1 t2)) := by
  obtain ⟨_, _, ⟨dx, t1, t2, e, _, _⟩, _⟩ := h
  exact ⟨dx, t1, t2, e⟩
theorem Dt.int_inv {H : Hp} {v : V} {i : Int} (h : Dt H v (.int i)) : v = .int i := by cases h; rfl
theorem wat_bound {f q : List Int} (hq : q ≠ []) (hf : ∀ x ∈ f, -100 ≤ x ∧ x ≤ 100) (hp : ∀ x ∈ q, -100 ≤ x ∧ x ≤ 100) (g : Nat) : -100 ≤ wat f q g ∧ wat f q g ≤ 100 := by
  obtain ⟨x, e, hx⟩ := atO_some (f := f) hq g
  unfold wat
  rw [e]
  exact hx.elim (hf x) (hp x)
def spWGet (C : Addr) : Sp := fun vs H Q _ => ∃ (a : Addr) (w : Nat → Int) (g : Int), vs = [.ref a, .int g] ∧ WeiP C H a w ∧ 0 ≤ g ∧ Q (.int (w g.toNat)) H
def spChkW (C : Addr) : Sp := fun vs H Q _ => ∃ a w, vs = [.ref a] ∧ WeiP C H a w ∧ Q .non H
def spTotal (C : Addr) : Sp := fun vs H Q _ => ∃ (a t : Addr) (w : Nat → Int) (ds : List Int), vs = [.ref a, .ref t] ∧ WeiP C H a w ∧ H t = some (.lst (ds.map V.int)) ∧ (∀ x ∈ ds, 0 ≤ x ∧ x ≤ 12) ∧ ds.length ≤ 3000 ∧ ∀ H', Same H H' → Q (.int (wsum w 0 ds)) H'
def spWeighed (C D : Addr) : Sp := fun vs H Q _ => ∃ (a b : Addr) (p : Pr) (w : Nat → Int) (d : Int), vs = [.ref a, .ref b, .int d] ∧ RuleP C H a p ∧ WeiP D H b w ∧ Dy d ∧ ∀ H', Same H H' → Q (.int (wsum w 0 (digits p d))) H'
def spWei (C : Addr) : Sp := fun vs H Q _ => ∃ (self dx fl pl : Addr) (H0 : Hp) (f q : List Int), vs = [.ref self, .ref fl, .ref pl] ∧ Same H0 H ∧ H0 self = none ∧ H self = some (.ins C dx []) ∧
  H fl = some (.lst (f.map V.int)) ∧ H pl = some (.lst (q.map V.int)) ∧ f.length ≤ 6 ∧ q.length ≤ 6 ∧ q ≠ [] ∧ (∀ x ∈ f, -100 ≤ x ∧ x ≤ 100) ∧ (∀ x ∈ q, -100 ≤ x ∧ x ≤ 100) ∧
  ∀ H', Same H0 H' → WeiP C H' self (wat f q) → Q .non H'
section
variable {P : Program} {w : World} {K : PySem.W.Frag} {mg : Str → Option Value} {base : Heap} {C_Rule C_Weights : Addr}
theorem met_Weights_getitem (T : TX K mg C_Rule C_Weights) : Met P w K mg base 1 C_Weights "__getitem__" (spWGet C_Weights) [] := by
  obtain ⟨f0, fd, D, dn, me, _⟩ := T.m_Weights_getitem
  refine met0 T.cl_Weights me D (D.binds dn fun _ _ _ _ _ _ us hl => match us, hl with | [_, _], _ => rfl) sc_Weights_getitem (by walk_at "len") (fun cdv A outer s H vs Q E hr h => ?_)
  obtain ⟨a, w, g, rfl, ⟨f, q, ⟨dx, t1, t2, e, h1, h2⟩, hq, rfl, hb⟩, hg, k⟩ := h
  obtain ⟨xs1, e1, d1⟩ := h1.tup_inv
  obtain ⟨xs2, e2, d2⟩ := h2.tup_inv
  have l1 : xs1.length = f.length := by rw [d1.length]; simp [intsD]
  have l2 : xs2.length = q.length := by rw [d2.length]; simp [intsD]
  have q0 : 0 < q.length := List.length_pos_iff.mpr hq
  obtain ⟨n, rfl⟩ : ∃ n : Nat, g = n := ⟨g.toNat, by omega⟩
  rw [Int.toNat_natCast] at k
  refine ⟨_, (pss_cons (ps_if (pt_cmpR op_lt (pv 1) (pe_callB cr_lenS (by rfl) T.b_len (by decide +kernel) (pa_cons (pe_fld (pv 0) rfl) pa_nil)) (nomark _)) (pss_one (ps_ret (pe_ix ix_tup (pe_fld (pv 0) rfl) (pv 1) (fun _ _ => rfl)))) pss_nil)
      (pss_one (ps_ret (pe_ix ix_tup (pe_fld (pv 0) rfl) (pe_op op_modN (pe_op op_sub (pv 1) (pe_callB cr_lenS (by rfl) T.b_len (by decide +kernel) (pa_cons (pe_fld (pv 0) rfl) pa_nil))) (pe_callB cr_lenS (by rfl) T.b_len (by decide +kernel) (pa_cons (pe_fld (pv 0) rfl) pa_nil))) (fun _ _ => rfl))))), ?_⟩
  walk_at "rd"
  refine rd_fld e T.cl_Weights T.na_Weights_front (rf_front _ _) ?_
  walk_at "rd"
  refine rd_lenT e1 ?_
  walk_at "rd"
  refine rd_ite (fun c => ?_) (fun c => ?_)
  · walk_at "rd"
    refine rd_fld e T.cl_Weights T.na_Weights_front (rf_front _ _) ?_
    walk_at "rd"
    have hn : n < f.length := by omega
    obtain ⟨v, hv, dv⟩ := d1.get (i := n) (d := .int (f[n])) (by simp [intsD, hn])
    obtain rfl := dv.int_inv
    refine rd_ixT e1 (atI_nat' hv) ?_
    have : wat f q n = f[n] := by unfold wat atO; rw [if_pos hn, List.getElem?_eq_getElem hn]; rfl
    rw [← this]
    exact k
  · walk_at "rd"
    refine rd_fld e T.cl_Weights T.na_Weights_period (rf_period _ _) ?_
    walk_at "rd"
    refine rd_fld e T.cl_Weights T.na_Weights_front (rf_front _ _) ?_
    walk_at "rd"
    refine rd_lenT e1 ?_
    walk_at "rd"
    refine rd_fld e T.cl_Weights T.na_Weights_period (rf_period _ _) ?_
    walk_at "rd"
    refine rd_lenT e2 ?_
    walk_at "rd"
    have hn : ¬ n < f.length := by omega
    have hm : ((n : Int) - (xs1.length : Int)).fmod (xs2.length : Int) = (((n - f.length) % q.length : Nat) : Int) := by
      rw [l1, l2, Int.fmod_eq_emod_of_nonneg _ (by omega)]
      rw [show (n : Int) - (f.length : Int) = ((n - f.length : Nat) : Int) by omega]
      exact (Int.natCast_emod _ _).symm
    rw [hm]
    have hlt : (n - f.length) % q.length < q.length := Nat.mod_lt _ q0
    obtain ⟨v, hv, dv⟩ := d2.get (i := (n - f.length) % q.length) (d := .int (q[(n - f.length) % q.length])) (by simp [intsD, hlt])
    obtain rfl := dv.int_inv
    refine rd_ixT e2 (atI_nat' hv) ?_
    have : wat f q n = q[(n - f.length) % q.length] := by unfold wat atO; rw [if_neg hn, List.getElem?_eq_getElem hlt]; rfl
    rw [← this]
    exact k
theorem cal_check_weights (T : TX K mg C_Rule C_Weights) : Cal P w K mg base 1 "check_weights" (spChkW C_Weights) [] := by
  obtain ⟨f0, fd, D, dn⟩ := T.d_check_weights
  refine cal0 D (D.fn.binds dn fun _ _ _ _ _ _ us hl => match us, hl with | [_], _ => rfl) .nil sc_check_weights (by walk_at "len") (fun cdv A outer s H vs Q E hr h => ?_)
  obtain ⟨a, p, rfl, hp, k⟩ := h
  obtain ⟨dx, t1, t2, e⟩ := hp.ins
  refine ⟨_, (pss_one (ps_if (pt_not (pt_val (pe_callB (cr_isC T.i_Weights) (by rfl) T.b_isinstance (by decide +kernel) (pa_cons (pv 0) (pa_cons (pe_gc rfl T.g_Weights) pa_nil))))) (pss_one ps_never) pss_nil)), ?_⟩
  walk_at "rd"
  refine rd_isC e ?_
  walk_at "rd"
  exact k
theorem met_Weights_total (T : TX K mg C_Rule C_Weights) : Met P w K mg base 3 C_Weights "total" (spTotal C_Weights) [] := by
  obtain ⟨f0, fd, D, dn, me, _⟩ := T.m_Weights_total
  have G_Weights_getitem := met_Weights_getitem (P := P) (w := w) (base := base) T
  refine met0 T.cl_Weights me D (D.binds dn fun _ _ _ _ _ _ us hl => match us, hl with | [_, _], _ => rfl) sc_Weights_total (by walk_at "len") (fun cdv A outer s H vs Q E hr h => ?_)
  obtain ⟨a, t, w, ds, rfl, hp, et, hd, hl, k⟩ := h
  obtain ⟨dx, t1, t2, e⟩ := hp.ins
  have hwb : ∀ g, -100 ≤ w g ∧ w g ≤ 100 := by obtain ⟨_, _, _, _, _, h⟩ := hp; exact h
  have b7 := bb_pos
  refine ⟨_, (pss_one (ps_ret (pe_callB (cr_sum rfl) (by rfl) T.b_sum (by decide +kernel) (pa_cons (pe_lc (own := [("grade", 2), ("many", 3)]) (g := gTup _ 2 (gCons (gName 2) (gCons (gName 3) gNil))) (tt := tYes) rfl sc_Weights_total.nd (pi_enum (by rfl) T.b_enumerate (pa_cons (pv 1) pa_nil)) (blkOk_by (own := [("grade", 2), ("many", 3)]) (N := N_Weights_total) (sc := fnScope s_Weights_total) (by decide +kernel)) (fun _ _ _ _ _ => (pg_tup rfl (pgs_cons (pg_n 2 sc_Weights_total.nd) (pgs_cons (pg_n 3 sc_Weights_total.nd) pgs_nil)))) (fun _ _ _ _ _ => pts_nil) (fun _ _ _ _ _ => (pe_op op_mulW (pe_ixO G_Weights_getitem hr (by decide) (pv 0) (pv 2) T.fi_Weights) (pv 3)))) pa_nil)))), ?_⟩
  walk_at "rd"
  refine rd_enR (SqL.of et) ?_
  refine lcR_enum (xs := ds.map V.int) (fun D i H' => Same H H' ∧ H' D = some (.lst ((wl w 0 (ds.take i)).map V.int))) (fun D i H' _ ⟨s, _⟩ => SqL.of (s _ _ et)) (fun D H' _ s e _ => ⟨s, e⟩) ?_ ?_
  · rintro D i y H' u H2 hD hi ⟨s1, eD⟩ _ s2 eu _
    obtain ⟨x, hx, rfl⟩ : ∃ x, ds[i]? = some x ∧ y = V.int x := by
      rw [List.getElem?_map] at hi
      cases e : ds[i]? with
      | none => rw [e] at hi; cases hi
      | some x => rw [e] at hi; exact ⟨x, rfl, (Option.some.inj hi).symm⟩
    have s12 := s1.trans s2
    have hil : i < ds.length := (List.getElem?_eq_some_iff.mp hx).1
    have hxb := hd x (List.mem_of_getElem? hx)
    have hw := hwb i
    refine rd_gtup eu rfl ?_
    walk_at "rd"
    refine ⟨rfl, ?_⟩
    walk_at "rd"
    refine rd_ownI (s12 _ _ e) ⟨a, w, _, rfl, hp.mono s12, by omega, ?_⟩
    rw [Int.toNat_natCast]
    walk_at "rd"
    refine rd_lcE (s2 _ _ eD) (by rw [List.length_map, wl_len, List.length_take]; omega) fun H3 eH e3 => ?_
    refine ⟨by rw [eH]; exact Same.mut s12 hD, ?_⟩
    rw [e3, wl_take w ds 0 i x hx, List.map_append, Nat.zero_add]
    rfl
  · rintro D H' hD ⟨s1, eD⟩
    walk_at "rd"
    rw [List.length_map, List.take_length] at eD
    refine rd_sum (SqL.of eD) ?_
    rw [wl_sum]
    exact k H' s1
theorem cal_weighed (T : TX K mg C_Rule C_Weights) : Cal P w K mg base 4 "weighed" (spWeighed C_Rule C_Weights) [] := by
  obtain ⟨f0, fd, D, dn⟩ := T.d_weighed
  have G_digits := cal_digits (P := P) (w := w) (base := base) T
  have G_check_weights := cal_check_weights (P := P) (w := w) (base := base) T
  have G_Weights_total := met_Weights_total (P := P) (w := w) (base := base) T
  refine cal0 D (D.fn.binds dn fun _ _ _ _ _ _ us hl => match us, hl with | [_, _, _], _ => rfl) .nil sc_weighed (by walk_at "len") (fun cdv A outer s H vs Q E hr h => ?_)
  obtain ⟨a, b, p, w, d, rfl, hp, hw, dy, k⟩ := h
  obtain ⟨dx, t1, t2, e⟩ := hw.ins
  refine ⟨_, (pss_cons (ps_s 3 sc_weighed.nd (pe_c G_digits hr (by decide) rfl (pa_cons (pv 0) (pa_cons (pv 2) pa_nil))))
      (pss_cons (ps_expr (pe_c G_check_weights hr (by decide) rfl (pa_cons (pv 1) pa_nil)))
      (pss_one (ps_ret (pe_mt G_Weights_total hr (by decide) (pv 1) (pa_cons (pv 3) pa_nil)))))), ?_⟩
  walk_at "rd"
  refine ⟨a, p, d, rfl, hp, dy, fun H1 t s1 _ et => ?_⟩
  walk_at "rd"
  refine ⟨b, w, rfl, hw.mono s1, ?_⟩
  walk_at "rd"
  refine ⟨_, _, _, rfl, s1 _ _ e, rfl, ?_⟩
  walk_at "rd"
  have h2 := dd_len hp.good dy.1 dy.2
  refine ⟨b, t, w, _, rfl, hw.mono s1, et, valid_le hp.good (valid_digits hp.good dy.1), by omega, fun H2 s2 => ?_⟩
  exact k H2 (s1.trans s2)
theorem mak_Weights_init (T : TX K mg C_Rule C_Weights) : Mak P w K mg base 2 "Weights" C_Weights (spWei C_Weights) [] := by
  obtain ⟨f0, fd, D, dn, mk⟩ := T.m_Weights_init
  have G_is_whole := cal_is_whole (P := P) (w := w) (base := base) T
  have G_shortest := cal_shortest (P := P) (w := w) (base := base) T
  refine mak0 mk T.mg_Weights D (D.binds dn fun _ _ _ _ _ _ us hl => match us, hl with | [_, _, _], _ => rfl) .nil sc_Weights_init (by walk_at "len") (fun cdv A outer s H vs Q E hr h => ?_)
  obtain ⟨self, dx, fl, pl, H0, f, q, rfl, s0, h0, eS, ef, ep, lf, lq, hq, okf, okq, k⟩ := h
  have q0 : 0 < q.length := List.length_pos_iff.mpr hq
  refine ⟨_, (pss_cons (ps_for PassesOwn.never rfl (pi_tup (pe_tup (pa_cons (pv 1) (pa_cons (pv 2) pa_nil)))) (pg_n 3 sc_Weights_init.nd) (pss_cons (ps_if (PW.pt (pw_or (pt_not (pt_val (pe_callB call_isiT (by rfl) T.b_isinstance (by decide +kernel) (pa_cons (pv 3) (pa_cons (pe_tup (pa_cons (pe_bltn (v := .ty "list") (u := .type "list") rfl T.b_list (by decide +kernel) rfl) (pa_cons (pe_bltn (v := .ty "tuple") (u := .type "tuple") rfl T.b_tuple (by decide +kernel) rfl) pa_nil))) pa_nil))))) (pw_or1 (pt_cmpR op_gt (pe_callB cr_lenS (by rfl) T.b_len (by decide +kernel) (pa_cons (pv 3) pa_nil)) (pe_gc rfl T.g_MOST_GRADES) (nomark _))))) (pss_one ps_never) pss_nil)
      (pss_one (ps_if (pt_not (pt_val (pe_callB (cr_all rfl) (by rfl) T.b_all (by decide +kernel) (pa_cons (pe_lc (own := [("one", 4)]) (g := gName 4) (tt := tYes) rfl sc_Weights_init.nd (pi_list (pv 3)) (blkOk_by (own := [("one", 4)]) (N := N_Weights_init) (sc := fnScope s_Weights_init) (by decide +kernel)) (fun _ _ _ _ _ => (pg_n 4 sc_Weights_init.nd)) (fun _ _ _ _ _ => pts_nil) (fun _ _ _ _ _ => (pe_and (pe_c G_is_whole hr (by decide) rfl (pa_cons (pv 4) pa_nil)) (pe_one (pe_cmpR op_le (pe_callB cr_abs (by rfl) T.b_abs (by decide +kernel) (pa_cons (pv 4) pa_nil)) (pe_gc rfl T.g_MOST_WEIGHT) (nomark _)))))) pa_nil)))) (pss_one ps_never) pss_nil))))
      (pss_cons (ps_if (pt_cmpR op_eq (pe_callB cr_lenS (by rfl) T.b_len (by decide +kernel) (pa_cons (pv 2) pa_nil)) pe_int (nomark _)) (pss_one ps_never) pss_nil)
      (pss_one (ps_asg (pe_c G_shortest hr (by decide) rfl (pa_cons (pe_callTy cr_tupOf (by rfl) T.b_tuple (by decide +kernel) (pa_cons (pv 1) pa_nil)) (pa_cons (pe_callTy cr_tupOf (by rfl) T.b_tuple (by decide +kernel) (pa_cons (pv 2) pa_nil)) pa_nil))) (pg_tup rfl (pgs_cons (pg_attr (pv 0)) (pgs_cons (pg_attr (pv 0)) pgs_nil))))))), ?_⟩
  walk_at "rd"
  refine rd_newT (by simp) fun u H1 _ s1 eu _ => ?_
  refine rd_tpR (SqT.of eu) ?_
  refine forR_tup (xs := [.ref fl, .ref pl]) (fun i σ H' => ∃ v, Same H1 H' ∧ σ = [some (.ref self), some (.ref fl), some (.ref pl), v, none]) (fun i σ H' ⟨v, s, _⟩ => SqT.of (s _ _ eu)) ⟨none, Same.refl _, rfl⟩ ?_ ?_
  · rintro i x σ H' hi ⟨v, s2, rfl⟩
    obtain ⟨b, ns, rfl, hb, hlb, hok⟩ : ∃ (b : Addr) (ns : List Int), x = V.ref b ∧ H b = some (.lst (ns.map V.int)) ∧ ns.length ≤ 6 ∧ ∀ x ∈ ns, -100 ≤ x ∧ x ≤ 100 := by
      match i, hi with
      | 0, hi => cases hi; exact ⟨fl, f, rfl, ef, lf, okf⟩
      | 1, hi => cases hi; exact ⟨pl, q, rfl, ep, lq, okq⟩
      | i + 2, hi => simp at hi
    walk_at "rd"
    refine rd_newT (by simp) fun u2 H3 _ s3 eu2 _ => ?_
    have s13 := (s1.trans s2).trans s3
    walk_at "rd"
    refine rd_isiTL (s13 _ _ hb) eu2 ?_
    walk_at "rd"
    refine rd_lenL (s13 _ _ hb) ?_
    walk_at "rd"
    refine rd_iteF (by rw [List.length_map]; omega) ?_
    walk_at "rd"
    refine rd_lsR (SqL.of (s13 _ _ hb)) ?_
    refine lcR_lst (xs := ns.map V.int) (fun D i H' => Same H3 H' ∧ H' D = some (.lst ((List.replicate i true).map V.bl))) (fun D i H' _ ⟨s, _⟩ => SqL.of (s _ _ (s13 _ _ hb))) (fun D H' _ s e _ => ⟨s, e⟩) ?_ ?_
    · rintro D j y H4 hD hj ⟨s4, eD⟩
      obtain ⟨x, hx, rfl⟩ : ∃ x, ns[j]? = some x ∧ y = V.int x := by
        rw [List.getElem?_map] at hj
        cases e : ns[j]? with
        | none => rw [e] at hj; cases hj
        | some x => rw [e] at hj; exact ⟨x, rfl, (Option.some.inj hj).symm⟩
      have hxb := hok x (List.mem_of_getElem? hx)
      have hjl : j < ns.length := (List.getElem?_eq_some_iff.mp hx).1
      walk_at "rd"
      refine ⟨rfl, ?_⟩
      walk_at "rd"
      refine ⟨_, rfl, ?_⟩
      walk_at "rd"
      refine rd_lcE eD (by simp; omega) fun H5 eH e5 => ?_
      refine ⟨by rw [eH]; exact Same.mut s4 hD, ?_⟩
      rw [e5, decide_eq_true (by omega), List.replicate_succ', List.map_append]
      rfl
    · rintro D H4 hD ⟨s4, eD⟩
      walk_at "rd"
      refine ⟨D, List.replicate (ns.map V.int).length true, rfl, SqL.of eD, ?_⟩
      have : (List.replicate (ns.map V.int).length true).all id = true := by simp
      rw [this]
      walk_at "rd"
      exact ⟨_, (s2.trans s3).trans s4, rfl⟩
  · rintro σ H' ⟨v, s2, rfl⟩
    have s12 := s1.trans s2
    walk_at "rd"
    refine rd_lenL (s12 _ _ ep) ?_
    walk_at "rd"
    refine rd_iteF (by rw [List.length_map]; omega) ?_
    walk_at "rd"
    refine rd_tupOfL (s12 _ _ ef) fun p1 H5 _ s5 ep1 _ => ?_
    walk_at "rd"
    refine rd_tupOfL ((s12.trans s5) _ _ ep) fun p2 H6 _ s6 ep2 _ => ?_
    walk_at "rd"
    have s16 := (s12.trans s5).trans s6
    refine ⟨p1, p2, Int, inferInstance, PyData.int, f, q, rfl, enc_int, .tup (s6 _ _ ep1) (DnAll.intsD f), .tup ep2 (DnAll.intsD q), hq, lf, lq, fun H7 t r1 r2 f' q' s7 et d1 d2 hq' hat => ?_⟩
    have s17 := s16.trans s7
    refine rd_gtup et rfl ?_
    refine rd_gcons ?_
    refine rd_gfld0 ?_
    walk_at "rd"
    refine rd_gfld (s17 _ _ eS) T.cl_Weights T.na_Weights_front (by decide) fun H8 e8 e8' => ?_
    refine rd_gcons ?_
    refine rd_gfld0 ?_
    walk_at "rd"
    refine rd_gfld e8' T.cl_Weights T.na_Weights_period (by show 1 < 1000; decide) fun H9 e9 e9' => ?_
    walk_at "rd"
    have hr := ruleAt_made (fs := []) (s17 _ _ eS) e8 e9 d1 d2
    have heq : wat f q = wat f' q' := by
      funext g
      unfold wat
      rw [hat]
    exact k H9 (same_made (s0.trans s17) h0 e8 e9) ⟨f', q', hr, hq', heq, wat_bound hq okf okq⟩
end
end Sl

set_option Elab.async false
set_option linter.all false
set_option maxRecDepth 100000
set_option maxHeartbeats 4000000
set_option exponentiation.threshold 9000
namespace Sl
open PySem L2 C8 StX Silt
local macro_rules | `(tactic| walk_at "side") => `(tactic| first
  | exact cdivw (by omega) (by omega)
  | exact cmulw (by omega) (by omega) (by omega) (by omega)
  | exact Or.inr ⟨by omega, by omega⟩
  | exact Or.inl ⟨by omega, by omega⟩
  | omega
  | exact ⟨by omega, by omega, by decide⟩
  | decide)
local macro_rules | `(tactic| walk_at "rd1") => `(tactic| first
  | with_reducible refine rd_seq ?_
  | with_reducible refine rd_asg ?_
  | with_reducible refine rd_drop ?_
  | with_reducible refine rd_ret ?_
  | with_reducible refine rd_retN ?_
  | with_reducible refine rd_ifS ?_
  | ((with_reducible refine rd_var0 ?_); refine ⟨_, rfl, ?_⟩)
  | with_reducible refine rd_c ?_
  | with_reducible refine rd_op ?_
  | with_reducible refine rd_un ?_
  | with_reducible refine rd_I0 ?_
  | with_reducible refine rd_U ?_
  | ((with_reducible refine rd_I ?c ?_); (case c => walk_at "side"))
  | with_reducible refine rd_ipI ?_
  | with_reducible refine rd_eqI ?_
  | with_reducible refine rd_neI ?_
  | with_reducible refine rd_test ?_
  | with_reducible refine rd_tB ?_
  | with_reducible refine rd_bl ?_
  | with_reducible refine rd_not ?_
  | with_reducible refine rd_and ?_
  | with_reducible refine rd_or ?_
  | with_reducible refine rd_andV ?_
  | with_reducible refine rd_orV ?_
  | with_reducible refine rd_notV ?_
  | with_reducible refine rd_ifE ?_
  | with_reducible refine rd_chain ?_
  | with_reducible refine rd_chain3 ?_
  | with_reducible refine rd_nil ?_
  | with_reducible refine rd_cons ?_
  | with_reducible refine rd_call ?_
  | with_reducible refine rd_CB ?_
  | with_reducible refine rd_par ?_
  | with_reducible refine rd_par2 ?_
  | with_reducible refine rd_par3 ?_
  | with_reducible refine rd_par4 ?_
  | ((with_reducible refine rd_aug0 ?_); refine ⟨_, rfl, ?_⟩)
  | with_reducible refine rd_gname ?_
  | with_reducible refine rd_gcons ?_
  | with_reducible refine rd_gnil ?_
  | with_reducible refine rd_max ?_
  | with_reducible refine rd_min ?_
  | with_reducible refine rd_int1 ?_
  | with_reducible refine rd_abs ?_
  | with_reducible refine rd_lst ?_
  | with_reducible refine rd_tup ?_
  | with_reducible refine rd_bm ?_
  | with_reducible refine rd_fld0 ?_
  | with_reducible refine rd_sl0 ?_
  | with_reducible refine rd_noP ?_
  | with_reducible refine rd_part ?_
  | with_reducible refine rd_part2 ?_
  | with_reducible refine rd_meth0 ?_
  | with_reducible refine rd_star ?_
  | with_reducible refine rd_for ?_
  | with_reducible refine rd_rng1 ?_
  | with_reducible refine rd_rng2 ?_
  | with_reducible refine rd_rng3 ?_
  | with_reducible refine rd_iList ?_
  | with_reducible refine rd_iTup ?_
  | with_reducible refine rd_iEnum ?_
  | with_reducible refine rd_lc ?_
  | with_reducible refine rd_yes ?_
  | with_reducible refine rd_augS ?_
  | with_reducible refine rd_drawNew ?_
  | with_reducible refine rd_make0 ?_
  | with_reducible refine rd_next ?_
  | with_reducible refine rd_break ?_
  | with_reducible refine rd_cont ?_
  | with_reducible refine rd_iteTT ?_
  | with_reducible refine rd_iteFF ?_
  | with_reducible refine rd_iteNTT ?_
  | with_reducible refine rd_iteNFF ?_
  | with_reducible refine rd_asgG ?_)
local macro_rules | `(tactic| walk_at "rd") => `(tactic| repeat walk_at "rd1")
local macro_rules | `(tactic| walk_at "len") => `(tactic| first
  | (intro vs H Q E h; obtain ⟨h2, _⟩ := h; rw [h2]; rfl)
  | (intro vs H Q E h; obtain ⟨_, h2, _⟩ := h; rw [h2]; rfl)
  | (intro vs H Q E h; obtain ⟨_, _, h2, _⟩ := h; rw [h2]; rfl)
  | (intro vs H Q E h; obtain ⟨_, _, _, h2, _⟩ := h; rw [h2]; rfl)
  | (intro vs H Q E h; obtain ⟨_, _, _, _, h2, _⟩ := h; rw [h2]; rfl)
  | (intro vs H Q E h; obtain ⟨_, _, _, _, _, h2, _⟩ := h; rw [h2]; rfl)
  | (intro vs H Q E h; obtain ⟨_, _, _, _, _, _, h2, _⟩ := h; rw [h2]; rfl)
  | (intro vs H Q E h; obtain ⟨_, _, _, _, _, _, _, h2, _⟩ := h; rw [h2]; rfl)
  | (intro vs H Q E h; obtain ⟨_, _, _, _, _, _, _, _, h2, _⟩ := h; rw [h2]; rfl)
  | (intro vs H Q E h; obtain ⟨_, _, _, _, _, _, _, _, _, h2, _⟩ := h; rw [h2]; rfl))
theorem dd_far : (10 : Int) ^ 30 ≤ DD := by
  have h : (10 : Nat) ^ 30 ≤ DDn := by
    unfold DDn
    have e : (2 : Nat) ^ 2000 = 2 ^ 100 * 2 ^ 1900 := Nat.pow_add 2 100 1900
    have h1 : (1 : Nat) ≤ 2 ^ 1900 := Nat.pow_pos (by decide)
    have h2 : (10 : Nat) ^ 30 ≤ 2 ^ 100 := by decide
    rw [e]
    exact Nat.le_trans h2 (Nat.le_mul_of_pos_right _ h1)
  unfold DD
  exact Int.ofNat_le.mpr h
/-- a list to draw from stands at a -/
def DrawP (K : PySem.W.Frag) (H : Hp) (a : Addr) : Prop := ∃ (sc : Addr) (ns : List Int), H a = some (DrawO a sc) ∧ SqL K H sc (ns.map V.int)
theorem DrawP.mono {K : PySem.W.Frag} {H H' : Hp} {a : Addr} (s : Same H H') (h : DrawP K H a) : DrawP K H' a := by
  obtain ⟨sc, ns, e, q⟩ := h
  exact ⟨sc, ns, s _ _ e, L2.Same.seq s q⟩
theorem rd_ixSq {K : PySem.W.Frag} {H : Hp} {Q : VK} {a : Addr} {xs : List V} {j : Int} {v : V} (e : SqL K H a xs) (n : atI xs j = some v) (h : Q v H) : rIxL K (.ref a) (.int j) H Q := ⟨a, xs, j, v, rfl, rfl, e, n, h⟩
theorem fmod_pos {i j : Int} (h : 0 < j) : 0 ≤ i.fmod j ∧ i.fmod j < j := by
  rw [Int.fmod_eq_emod_of_nonneg _ (by omega)]
  exact ⟨Int.emod_nonneg _ (by omega), Int.emod_lt_of_pos _ h⟩
def spNumber (K : PySem.W.Frag) : Sp := fun vs H Q _ => ∃ (sc : Addr) (ns : List Int) (i : Int), vs = [.ref sc, .int i] ∧ SqL K H sc (ns.map V.int) ∧ ∀ H' n, Same H H' → Q (.int n) H'
def spTake (K : PySem.W.Frag) : Sp := fun vs H Q _ => ∃ (a : Addr) (m : Int), vs = [.ref a, .int m] ∧ DrawP K H a ∧ 0 < m ∧ ∀ H' n, Same H H' → 0 ≤ n → n < m → Q (.int n) H'
def spPick (K : PySem.W.Frag) : Sp := fun vs H Q _ => ∃ (a t : Addr) (xs : List V), vs = [.ref a, .ref t] ∧ DrawP K H a ∧ H t = some (.lst xs) ∧ xs ≠ [] ∧ ∀ H' (i : Nat) x, Same H H' → xs[i]? = some x → Q x H'
def spDPair (K : PySem.W.Frag) : Sp := fun vs H Q _ => ∃ (a : Addr), vs = [.ref a] ∧ DrawP K H a ∧ ∀ H' t q, Same H H' → OkP q → H' t = some (.tup [.int q.1, .int q.2]) → Q (.ref t) H'
/-- a told rule: a tuple of two lists of pairs -/
def ToldP (H : Hp) (t : Addr) (f q : List (Int × Int)) : Prop := ∃ l1 l2 xs1 xs2, H t = some (.tup [.ref l1, .ref l2]) ∧ H l1 = some (.lst xs1) ∧ H l2 = some (.lst xs2) ∧ DnAll H xs1 (pairsD f) ∧ DnAll H xs2 (pairsD q)
theorem ToldP.mono {H H' : Hp} {t : Addr} {f q : List (Int × Int)} (s : Same H H') (h : ToldP H t f q) : ToldP H' t f q := by
  obtain ⟨l1, l2, xs1, xs2, h1, h2, h3, h4, h5⟩ := h
  exact ⟨l1, l2, xs1, xs2, s _ _ h1, s _ _ h2, s _ _ h3, h4.mono s, h5.mono s⟩
/-- what is drawn may be told -/
structure OkT (f q : List (Int × Int)) : Prop where
  f2 : f.length ≤ 2
  q2 : q.length ≤ 2
  ne : q ≠ []
  okf : ∀ x ∈ f, OkP x
  okq : ∀ x ∈ q, OkP x
def spDRule (K : PySem.W.Frag) : Sp := fun vs H Q _ => ∃ (a : Addr), vs = [.ref a] ∧ DrawP K H a ∧ ∀ H' t f q, Same H H' → OkT f q → ToldP H' t f q → Q (.ref t) H'
def spFar (K : PySem.W.Frag) : Sp := fun vs H Q _ => ∃ (a : Addr), vs = [.ref a] ∧ DrawP K H a ∧ ∀ H' n, Same H H' → 0 ≤ n → n ≤ 10 ^ 21 → Q (.int n) H'
def spAt : Sp := fun vs H Q _ => ∃ (a : Addr) (f q : List (Int × Int)) (g : Int), vs = [.ref a, .int g] ∧ ToldP H a f q ∧ q ≠ [] ∧ 0 ≤ g ∧ ∀ t, H t = some (.tup [.int (atp f q g.toNat).1, .int (atp f q g.toNat).2]) → Q (.ref t) H
def spTail : Sp := fun vs H Q _ => ∃ (a : Addr) (f q : List (Int × Int)), vs = [.ref a] ∧ ToldP H a f q ∧ OkT f q ∧ ∀ H' t f' q', Same H H' → OkT f' q' → (∀ g, atp f' q' g = atp f q (g + 1)) → ToldP H' t f' q' → Q (.ref t) H'
theorem cut_drop1 {xs : List V} : cutV xs (some 1) none = xs.drop 1 := by
  unfold cutV
  rw [HT.sIx_none, show (1 : Int) = ((1 : Nat) : Int) from rfl, HT.sIx_nat]
  by_cases c : 1 ≤ xs.length
  · rw [Nat.min_eq_left c, List.take_of_length_le (by rw [List.length_drop]; omega)]
  · rw [Nat.min_eq_right (by omega), List.drop_of_length_le (Nat.le_refl _), List.drop_of_length_le (by omega)]
    simp
theorem DnAll.drop {H : Hp} : ∀ {vs : List V} {ds : List PyData} (n : Nat), DnAll H vs ds → DnAll H (vs.drop n) (ds.drop n)
  | _, _, 0, r => r
  | _, _, _ + 1, .nil => .nil
  | _, _, n + 1, .cons _ t => DnAll.drop n t
theorem atO_rot (q : List (Int × Int)) (g : Nat) : atO [] (q.drop 1 ++ q.take 1) g = atO [] q (g + 1) := by
  cases q with
  | nil => rfl
  | cons x r =>
    rw [atO_turn [] r x (g + 1)]
    show atO [] (r ++ [x]) g = atO [x] (r ++ [x]) (g + 1)
    unfold atO
    rw [if_neg (by simp), if_neg (by simp)]
    rfl
theorem atp_rot (q : List (Int × Int)) (g : Nat) : atp [] (q.drop 1 ++ q.take 1) g = atp [] q (g + 1) := by rw [atp_atO, atp_atO, atO_rot]
theorem atp_drop {f q : List (Int × Int)} (hf : f ≠ []) (g : Nat) : atp (f.drop 1) q g = atp f q (g + 1) := by
  rw [atp_atO, atp_atO]
  congr 1
  cases f with
  | nil => exact absurd rfl hf
  | cons x r =>
    show atO r q g = atO (x :: r) q (g + 1)
    unfold atO
    rw [List.length_cons]
    by_cases c : g < r.length
    · rw [if_pos c, if_pos (by omega), List.getElem?_cons_succ]
    · rw [if_neg c, if_neg (by omega)]
      congr 2
      omega
section
variable {P : Program} {w : World} {K : PySem.W.Frag} {mg : Str → Option Value} {base : Heap} {C_Rule C_Weights : Addr}
theorem cal__law_number (T : TX K mg C_Rule C_Weights) : Cal P w K mg base 1 "_law_number" (spNumber K) [] := by
  obtain ⟨f0, fd, D, dn⟩ := T.d__law_number
  refine cal0 D (D.fn.binds dn fun _ _ _ _ _ _ us hl => match us, hl with | [_, _], _ => rfl) .nil sc__law_number (by walk_at "len") (fun cdv A outer s H vs Q E hr h => ?_)
  obtain ⟨sc, ns, i, rfl, hS, k⟩ := h
  refine ⟨_, (pss_cons (ps_if (pt_cmpR (op_eqD hr.units) (pv 0) (pe_lst pa_nil) (nomark _)) (pss_one (ps_ret (pe_callTy cr_int1 (by rfl) T.b_int (by decide +kernel) (pa_cons (pe_op op_modN (pe_op op_add (pe_op op_mul (pv 1) pe_int) pe_int) pe_int) pa_nil)))) pss_nil)
      (pss_cons (ps_s 2 sc__law_number.nd (pe_ix ix_list (pv 0) (pe_op op_modN (pv 1) (pe_callB cr_lenS (by rfl) T.b_len (by decide +kernel) (pa_cons (pv 0) pa_nil))) (fun _ _ => rfl)))
      (pss_cut (ps_if (pt_cmpR op_ge (pe_callB cr_abs (by rfl) T.b_abs (by decide +kernel) (pa_cons (pv 2) pa_nil)) (pe_op op_pow pe_int pe_int) (nomark _)) (pss_one (ps_s 2 sc__law_number.nd (pe_op op_modN (pv 2) (pe_op op_pow pe_int pe_int)))) pss_nil)
      (pss_cons (ps_s 3 sc__law_number.nd (pe_op op_modN (pe_op op_add (pe_op op_mul (pe_op op_add (pv 2) (pe_op op_mul pe_int (pv 1))) pe_int) (pe_op op_mul pe_int (pe_callB cr_lenS (by rfl) T.b_len (by decide +kernel) (pa_cons (pv 0) pa_nil)))) pe_int))
      (pss_one (ps_ret (pe_callTy cr_int1 (by rfl) T.b_int (by decide +kernel) (pa_cons (pe_op op_modN (pe_op op_add (pe_op op_mul (pe_op op_modN (pe_op op_mul (pv 3) pe_int) pe_int) pe_int) (pv 1)) pe_int) pa_nil)))))))), ?_⟩
  walk_at "rd"
  refine rd_newL (by decide) fun u H1 _ s1 eu _ => ?_
  refine ⟨.list (intsD ns), .list [], .lst (L2.Same.seq s1 hS) (DtAll.intsD ns).dp, .lst (SqL.of eu) .nil, shaped_ints ns, by decide, ?_⟩
  rw [eqv_nil]
  walk_at "rd"
  refine rd_ite (fun c => ?_) (fun c => ?_)
  · walk_at "rd"
    exact k _ _ s1
  · have hns : ns ≠ [] := fun z => c (by rw [z]; rfl)
    have hl : 0 < ns.length := List.length_pos_iff.mpr hns
    walk_at "rd"
    refine rd_lenSq (L2.Same.seq s1 hS) ?_
    rw [List.length_map]
    walk_at "rd"
    have fm := fmod_pos (i := i) (j := (ns.length : Int)) (by omega)
    obtain ⟨n, hn⟩ : ∃ n : Nat, i.fmod (ns.length : Int) = n := ⟨(i.fmod (ns.length : Int)).toNat, by omega⟩
    rw [hn]
    refine rd_ixSq (L2.Same.seq s1 hS) (v := .int (ns[n]'(by omega))) (atI_nat' (by rw [List.getElem?_map, List.getElem?_eq_getElem (by omega : n < ns.length)]; rfl)) ?_
    generalize ns[n]'(by omega) = c0
    refine ⟨fun σ' H' => ∃ c : Int, Same H H' ∧ σ' = [some (.ref sc), some (.int i), some (.int c), none], ?_, ?_⟩
    · walk_at "rd"
      refine rd_ite (fun c => ?_) (fun c => ?_)
      · walk_at "rd"
        exact ⟨_, s1, rfl⟩
      · walk_at "rd"
        exact ⟨_, s1, rfl⟩
    · rintro σ' H2 ⟨c, s2, rfl⟩
      walk_at "rd"
      refine rd_lenSq (L2.Same.seq s2 hS) ?_
      walk_at "rd"
      exact k _ _ s2
theorem cal__law_take (T : TX K mg C_Rule C_Weights) : Cal P w K mg base 2 "_law_take" (spTake K) [] := by
  obtain ⟨f0, fd, D, dn⟩ := T.d__law_take
  have G__law_number := cal__law_number (P := P) (w := w) (base := base) T
  refine cal0 D (D.fn.binds dn fun _ _ _ _ _ _ us hl => match us, hl with | [_, _], _ => rfl) .nil sc__law_take (by walk_at "len") (fun cdv A outer s H vs Q E hr h => ?_)
  obtain ⟨a, m, rfl, ⟨sc, ns, e, hS⟩, hm, k⟩ := h
  refine ⟨_, (pss_cons (ps_augS (pv 0) pe_int get_draw1 pe_int ip_add set_draw1)
      (pss_one (ps_ret (pe_op op_modN (pe_callTy cr_int1 (by rfl) T.b_int (by decide +kernel) (pa_cons (pe_c G__law_number hr (by decide) rfl (pa_cons (pe_ix ix_draw0 (pv 0) pe_int (fun _ _ => rfl)) (pa_cons (pe_callTy cr_int1 (by rfl) T.b_int (by decide +kernel) (pa_cons (pe_ix ix_draw1 (pv 0) pe_int (fun _ _ => rfl)) pa_nil)) pa_nil))) pa_nil)) (pv 1))))), ?_⟩
  walk_at "rd"
  refine rd_draw1 e fun i => ?_
  walk_at "rd"
  refine rd_setDraw1 e ?_
  walk_at "rd"
  refine rd_draw0 e ?_
  walk_at "rd"
  refine rd_draw1 e fun i => ?_
  walk_at "rd"
  refine ⟨sc, ns, _, rfl, hS, fun H' n s => ?_⟩
  walk_at "rd"
  have fm := fmod_pos (i := n) hm
  exact k H' _ s fm.1 fm.2
theorem cal__law_pick (T : TX K mg C_Rule C_Weights) : Cal P w K mg base 3 "_law_pick" (spPick K) [] := by
  obtain ⟨f0, fd, D, dn⟩ := T.d__law_pick
  have G__law_take := cal__law_take (P := P) (w := w) (base := base) T
  refine cal0 D (D.fn.binds dn fun _ _ _ _ _ _ us hl => match us, hl with | [_, _], _ => rfl) .nil sc__law_pick (by walk_at "len") (fun cdv A outer s H vs Q E hr h => ?_)
  obtain ⟨a, t, xs, rfl, hd, et, hne, k⟩ := h
  have hl : 0 < xs.length := List.length_pos_iff.mpr hne
  refine ⟨_, (pss_one (ps_ret (pe_ix ix_list (pv 1) (pe_c G__law_take hr (by decide) rfl (pa_cons (pv 0) (pa_cons (pe_callB cr_lenS (by rfl) T.b_len (by decide +kernel) (pa_cons (pv 1) pa_nil)) pa_nil))) (fun _ _ => rfl)))), ?_⟩
  walk_at "rd"
  refine rd_lenL et ?_
  walk_at "rd"
  refine ⟨a, _, rfl, hd, by omega, fun H' n s n0 n1 => ?_⟩
  obtain ⟨j, rfl⟩ : ∃ j : Nat, n = j := ⟨n.toNat, by omega⟩
  have hj : j < xs.length := by omega
  refine rd_ixL (s _ _ et) (atI_nat' (List.getElem?_eq_getElem hj)) ?_
  exact k H' j _ s (List.getElem?_eq_getElem hj)
theorem cal__law_pair (T : TX K mg C_Rule C_Weights) : Cal P w K mg base 4 "_law_pair" (spDPair K) [] := by
  obtain ⟨f0, fd, D, dn⟩ := T.d__law_pair
  have G__law_take := cal__law_take (P := P) (w := w) (base := base) T
  have G__law_pick := cal__law_pick (P := P) (w := w) (base := base) T
  refine cal0 D (D.fn.binds dn fun _ _ _ _ _ _ us hl => match us, hl with | [_], _ => rfl) .nil sc__law_pair (by walk_at "len") (fun cdv A outer s H vs Q E hr h => ?_)
  obtain ⟨a, rfl, hd, k⟩ := h
  refine ⟨_, (pss_cons (ps_s 1 sc__law_pair.nd (pe_op op_add pe_int (pe_c G__law_take hr (by decide) rfl (pa_cons (pv 0) (pa_cons pe_int pa_nil)))))
      (pss_one (ps_ret (pe_tup (pa_cons (pe_op op_add (pv 1) (pe_c G__law_pick hr (by decide) rfl (pa_cons (pv 0) (pa_cons (pe_lst (pa_cons pe_int (pa_cons pe_int (pa_cons pe_int (pa_cons pe_int pa_nil))))) pa_nil)))) (pa_cons (pv 1) pa_nil)))))), ?_⟩
  walk_at "rd"
  refine ⟨a, 3, rfl, hd, by decide, fun H1 n s1 n0 n1 => ?_⟩
  walk_at "rd"
  refine rd_newL (by simp) fun u H2 _ s2 eu _ => ?_
  walk_at "rd"
  refine ⟨a, u, _, rfl, hd.mono (s1.trans s2), eu, by simp, fun H3 i x s3 hx => ?_⟩
  obtain ⟨z, rfl, z0, z1⟩ : ∃ z : Int, x = .int z ∧ 0 ≤ z ∧ z ≤ 2 := by
    match i, hx with
    | 0, hx => cases hx; exact ⟨0, rfl, by decide, by decide⟩
    | 1, hx => cases hx; exact ⟨0, rfl, by decide, by decide⟩
    | 2, hx => cases hx; exact ⟨1, rfl, by decide, by decide⟩
    | 3, hx => cases hx; exact ⟨2, rfl, by decide, by decide⟩
    | i + 4, hx => simp at hx
  walk_at "rd"
  refine rd_newT (by simp) fun t H4 _ s4 et _ => ?_
  exact k H4 t (2 + n + z, 2 + n) (((s1.trans s2).trans s3).trans s4) ⟨by omega, by omega, by omega⟩ et
theorem cal__law_rule (T : TX K mg C_Rule C_Weights) : Cal P w K mg base 5 "_law_rule" (spDRule K) [] := by
  obtain ⟨f0, fd, D, dn⟩ := T.d__law_rule
  have G__law_pick := cal__law_pick (P := P) (w := w) (base := base) T
  have G__law_pair := cal__law_pair (P := P) (w := w) (base := base) T
  refine cal0 D (D.fn.binds dn fun _ _ _ _ _ _ us hl => match us, hl with | [_], _ => rfl) .nil sc__law_rule (by walk_at "len") (fun cdv A outer s H vs Q E hr h => ?_)
  obtain ⟨a, rfl, hd, k⟩ := h
  refine ⟨_, (pss_cons (ps_setLc (i := 1) (own := [("_law_turn", 2)]) (g := gName 2) (tt := tYes) rfl sc__law_rule.nd rfl rfl (sw_true rfl rfl rfl (by decide +kernel)) (pi_range1 rfl T.b_range (pa_cons (pe_c G__law_pick hr (by decide) rfl (pa_cons (pv 0) (pa_cons (pe_lst (pa_cons pe_int (pa_cons pe_int (pa_cons pe_int (pa_cons pe_int pa_nil))))) pa_nil))) pa_nil)) (blkOk_by (own := [("_law_turn", 2)]) (N := N__law_rule) (sc := fnScope s__law_rule) (by decide +kernel)) (fun _ _ _ _ _ => (pg_n 2 sc__law_rule.nd)) (fun _ _ _ _ _ => pts_nil) (fun _ _ _ _ _ => (pe_c G__law_pair hr (by decide) rfl (pa_cons (pv 0) pa_nil))))
      (pss_one (ps_ret (pe_tup (pa_cons (pv 1) (pa_cons (pe_lc (own := [("_law_turn", 2)]) (g := gName 2) (tt := tYes) rfl sc__law_rule.nd (pi_range1 rfl T.b_range (pa_cons (pe_op op_add pe_int (pe_c G__law_pick hr (by decide) rfl (pa_cons (pv 0) (pa_cons (pe_lst (pa_cons pe_int (pa_cons pe_int (pa_cons pe_int pa_nil)))) pa_nil)))) pa_nil)) (blkOk_by (own := [("_law_turn", 2)]) (N := N__law_rule) (sc := fnScope s__law_rule) (by decide +kernel)) (fun _ _ _ _ _ => (pg_n 2 sc__law_rule.nd)) (fun _ _ _ _ _ => pts_nil) (fun _ _ _ _ _ => (pe_c G__law_pair hr (by decide) rfl (pa_cons (pv 0) pa_nil)))) pa_nil)))))), ?_⟩
  walk_at "rd"
  refine rd_newL (by simp) fun u H1 _ s1 eu _ => ?_
  walk_at "rd"
  refine ⟨a, u, _, rfl, hd.mono s1, eu, by simp, fun H2 i x s2 hx => ?_⟩
  obtain ⟨z, rfl, z1⟩ : ∃ z : Nat, x = .int z ∧ z ≤ 2 := by
    match i, hx with
    | 0, hx => cases hx; exact ⟨0, rfl, by decide⟩
    | 1, hx => cases hx; exact ⟨0, rfl, by decide⟩
    | 2, hx => cases hx; exact ⟨1, rfl, by decide⟩
    | 3, hx => cases hx; exact ⟨2, rfl, by decide⟩
    | i + 4, hx => simp at hx
  walk_at "rd"
  have s12 := s1.trans s2
  refine rd_rgR1 (by omega) (by omega) ?_
  rw [Int.toNat_natCast]
  refine lcR_rng (fun D i H' => ∃ (l : List V) (f : List (Int × Int)), Same H2 H' ∧ H' D = some (.lst l) ∧ f.length = i ∧ (∀ x ∈ f, OkP x) ∧ DnAll H' l (pairsD f)) (fun D H' _ s e _ => ⟨[], [], s, e, rfl, by simp, .nil⟩) ?_ ?_
  · rintro D i H' hD hi ⟨l, f, s3, eD, hl, okf, df⟩
    walk_at "rd"
    refine ⟨rfl, ?_⟩
    walk_at "rd"
    refine ⟨a, rfl, hd.mono (s12.trans s3), fun H4 t q s4 okq et => ?_⟩
    refine rd_lcE (s4 _ _ eD) (by rw [df.length]; simp [pairsD]; omega) fun H5 eH e5 => ?_
    refine ⟨_, f ++ [q], by rw [eH]; exact Same.mut (s3.trans s4) hD, e5, by simp [hl], ?_, ?_⟩
    · intro x hx
      rcases List.mem_append.mp hx with h | h
      · exact okf x h
      · rw [List.mem_singleton.mp h]; exact okq
    · rw [eH]
      unfold pairsD
      rw [List.map_append]
      exact DnAll.updL (s4 _ _ eD) ((df.mono s4).append (.cons (.pair et) .nil))
  · rintro D H3 hD ⟨l, f, s3, eD, hl, okf, df⟩
    have s13 := s12.trans s3
    walk_at "rd"
    refine rd_newL (by simp) fun u2 H4 _ s4 eu2 _ => ?_
    walk_at "rd"
    have s14 := s13.trans s4
    refine ⟨a, u2, _, rfl, hd.mono s14, eu2, by simp, fun H5 i2 x2 s5 hx2 => ?_⟩
    obtain ⟨z2, rfl, z21⟩ : ∃ z : Nat, x2 = .int z ∧ z ≤ 1 := by
      match i2, hx2 with
      | 0, hx => cases hx; exact ⟨0, rfl, by decide⟩
      | 1, hx => cases hx; exact ⟨0, rfl, by decide⟩
      | 2, hx => cases hx; exact ⟨1, rfl, by decide⟩
      | i + 3, hx => simp at hx
    walk_at "rd"
    have s15 := s14.trans s5
    refine rd_rgR1 (by omega) (by omega) ?_
    have e1z : ((1 : Int) + (z2 : Int)).toNat = 1 + z2 := by omega
    rw [e1z]
    refine lcR_rng (fun D2 i H' => ∃ (l2 : List V) (q : List (Int × Int)), Same H5 H' ∧ H' D2 = some (.lst l2) ∧ q.length = i ∧ (∀ x ∈ q, OkP x) ∧ DnAll H' l2 (pairsD q)) (fun D2 H' _ s e _ => ⟨[], [], s, e, rfl, by simp, .nil⟩) ?_ ?_
    · rintro D2 i H' hD2 hi ⟨l2, q, s6, eD2, hl2, okq, dq⟩
      walk_at "rd"
      refine ⟨rfl, ?_⟩
      walk_at "rd"
      refine ⟨a, rfl, hd.mono (s15.trans s6), fun H7 t q2 s7 okq2 et => ?_⟩
      refine rd_lcE (s7 _ _ eD2) (by rw [dq.length]; simp [pairsD]; omega) fun H8 eH e8 => ?_
      refine ⟨_, q ++ [q2], by rw [eH]; exact Same.mut (s6.trans s7) hD2, e8, by simp [hl2], ?_, ?_⟩
      · intro x hx
        rcases List.mem_append.mp hx with h | h
        · exact okq x h
        · rw [List.mem_singleton.mp h]; exact okq2
      · rw [eH]
        unfold pairsD
        rw [List.map_append]
        exact DnAll.updL (s7 _ _ eD2) ((dq.mono s7).append (.cons (.pair et) .nil))
    · rintro D2 H6 hD2 ⟨l2, q, s6, eD2, hl2, okq, dq⟩
      walk_at "rd"
      refine rd_newT (by simp) fun t H7 _ s7 et _ => ?_
      have s37 := ((s4.trans s5).trans s6).trans s7
      refine k H7 t f q ((s15.trans s6).trans s7) ⟨by omega, by omega, fun z => by rw [z] at hl2; simp at hl2; omega, okf, okq⟩ ⟨D, D2, l, l2, et, s37 _ _ eD, s7 _ _ eD2, df.mono s37, dq.mono s7⟩
theorem cal__law_far (T : TX K mg C_Rule C_Weights) : Cal P w K mg base 4 "_law_far" (spFar K) [] := by
  obtain ⟨f0, fd, D, dn⟩ := T.d__law_far
  have G__law_take := cal__law_take (P := P) (w := w) (base := base) T
  have G__law_pick := cal__law_pick (P := P) (w := w) (base := base) T
  refine cal0 D (D.fn.binds dn fun _ _ _ _ _ _ us hl => match us, hl with | [_], _ => rfl) .nil sc__law_far (by walk_at "len") (fun cdv A outer s H vs Q E hr h => ?_)
  obtain ⟨a, rfl, hd, k⟩ := h
  have b7 := bb_pos
  refine ⟨_, (pss_one (ps_ret (pe_op op_add (pe_c G__law_take hr (by decide) rfl (pa_cons (pv 0) (pa_cons pe_int pa_nil))) (pe_op op_mulW (pe_c G__law_pick hr (by decide) rfl (pa_cons (pv 0) (pa_cons (pe_lst (pa_cons (pe_op op_pow pe_int pe_int) (pa_cons (pe_op op_pow pe_int pe_int) (pa_cons (pe_op op_pow pe_int pe_int) (pa_cons (pe_op op_pow pe_int pe_int) pa_nil))))) pa_nil))) (pe_op op_add pe_int (pe_c G__law_take hr (by decide) rfl (pa_cons (pv 0) (pa_cons pe_int pa_nil)))))))), ?_⟩
  walk_at "rd"
  refine ⟨a, _, rfl, hd, by decide, fun H1 n s1 n0 n1 => ?_⟩
  walk_at "rd"
  refine rd_newL (by simp) fun u H2 _ s2 eu _ => ?_
  walk_at "rd"
  refine ⟨a, u, _, rfl, hd.mono (s1.trans s2), eu, by simp, fun H3 i x s3 hx => ?_⟩
  obtain ⟨z, rfl, z0, z1⟩ : ∃ z : Int, x = .int z ∧ 0 ≤ z ∧ z ≤ 10 ^ 18 := by
    match i, hx with
    | 0, hx => cases hx; exact ⟨_, rfl, by decide, by decide⟩
    | 1, hx => cases hx; exact ⟨_, rfl, by decide, by decide⟩
    | 2, hx => cases hx; exact ⟨_, rfl, by decide, by decide⟩
    | 3, hx => cases hx; exact ⟨_, rfl, by decide, by decide⟩
    | i + 4, hx => simp at hx
  walk_at "rd"
  refine ⟨a, _, rfl, hd.mono ((s1.trans s2).trans s3), by decide, fun H4 n2 s4 n20 n21 => ?_⟩
  walk_at "rd"
  have hz : z * (1 + n2) ≤ 10 ^ 18 * 100 := Int.mul_le_mul z1 (by omega) (by omega) (by decide)
  have hz0 : 0 ≤ z * (1 + n2) := Int.mul_nonneg z0 (by omega)
  have b8 := dd_far
  have b9 := dd_bb
  refine rd_I (cmulw (by omega) (by omega) (by omega) (by omega)) ?_
  walk_at "rd"
  exact k H4 _ (((s1.trans s2).trans s3).trans s4) (by omega) (by omega)
theorem cal__law_at (T : TX K mg C_Rule C_Weights) : Cal P w K mg base 1 "_law_at" spAt [] := by
  obtain ⟨f0, fd, D, dn⟩ := T.d__law_at
  refine cal0 D (D.fn.binds dn fun _ _ _ _ _ _ us hl => match us, hl with | [_, _], _ => rfl) .nil sc__law_at (by walk_at "len") (fun cdv A outer s H vs Q E hr h => ?_)
  obtain ⟨a, f, q, g, rfl, ⟨l1, l2, xs1, xs2, ea, e1, e2, d1, d2⟩, hq, hg, k⟩ := h
  have q0 : 0 < q.length := List.length_pos_iff.mpr hq
  have n1 : xs1.length = f.length := by rw [d1.length]; simp [pairsD]
  have n2 : xs2.length = q.length := by rw [d2.length]; simp [pairsD]
  obtain ⟨n, rfl⟩ : ∃ n : Nat, g = n := ⟨g.toNat, by omega⟩
  rw [Int.toNat_natCast] at k
  refine ⟨_, (pss_cons (ps_asg (pv 0) (pg_tup rfl (pgs_cons (pg_n 2 sc__law_at.nd) (pgs_cons (pg_n 3 sc__law_at.nd) pgs_nil))))
      (pss_one (ps_ret (pe_ifExp (pt_cmpR op_lt (pv 1) (pe_callB cr_lenS (by rfl) T.b_len (by decide +kernel) (pa_cons (pv 2) pa_nil)) (nomark _)) (pe_ix ix_list (pv 2) (pv 1) (fun _ _ => rfl)) (pe_ix ix_list (pv 3) (pe_op op_modN (pe_callTy cr_int1 (by rfl) T.b_int (by decide +kernel) (pa_cons (pe_op op_sub (pv 1) (pe_callB cr_lenS (by rfl) T.b_len (by decide +kernel) (pa_cons (pv 2) pa_nil))) pa_nil)) (pe_callB cr_lenS (by rfl) T.b_len (by decide +kernel) (pa_cons (pv 3) pa_nil))) (fun _ _ => rfl)))))), ?_⟩
  walk_at "rd"
  refine rd_gtup ea rfl ?_
  walk_at "rd"
  refine rd_lenL e1 ?_
  walk_at "rd"
  refine rd_ite (fun c => ?_) (fun c => ?_)
  · walk_at "rd"
    have hn : n < f.length := by omega
    obtain ⟨v, hv, dv⟩ := d1.get (i := n) (d := pairD (f[n])) (by simp [pairsD, hn])
    obtain ⟨t, rfl, et⟩ := dv.dt.pair_inv
    refine rd_ixL e1 (atI_nat' hv) (k t ?_)
    rw [et]
    simp [atp, hn, List.getD_eq_getElem?_getD]
  · walk_at "rd"
    refine rd_lenL e1 ?_
    walk_at "rd"
    refine rd_lenL e2 ?_
    walk_at "rd"
    have hn : ¬ n < f.length := by omega
    have hm : ((n : Int) - (xs1.length : Int)).fmod (xs2.length : Int) = (((n - f.length) % q.length : Nat) : Int) := by
      rw [n1, n2, Int.fmod_eq_emod_of_nonneg _ (by omega)]
      rw [show (n : Int) - (f.length : Int) = ((n - f.length : Nat) : Int) by omega]
      exact (Int.natCast_emod _ _).symm
    rw [hm]
    have hlt : (n - f.length) % q.length < q.length := Nat.mod_lt _ q0
    obtain ⟨v, hv, dv⟩ := d2.get (i := (n - f.length) % q.length) (d := pairD (q[(n - f.length) % q.length])) (by simp [pairsD, hlt])
    obtain ⟨t, rfl, et⟩ := dv.dt.pair_inv
    refine rd_ixL e2 (atI_nat' hv) (k t ?_)
    rw [et]
    simp [atp, hn, hlt, List.getD_eq_getElem?_getD]
theorem cal__law_tail (T : TX K mg C_Rule C_Weights) : Cal P w K mg base 1 "_law_tail" spTail [] := by
  obtain ⟨f0, fd, D, dn⟩ := T.d__law_tail
  refine cal0 D (D.fn.binds dn fun _ _ _ _ _ _ us hl => match us, hl with | [_], _ => rfl) .nil sc__law_tail (by walk_at "len") (fun cdv A outer s H vs Q E hr h => ?_)
  obtain ⟨a, f, q, rfl, ⟨l1, l2, xs1, xs2, ea, e1, e2, d1, d2⟩, ok, k⟩ := h
  have n1 : xs1.length = f.length := by rw [d1.length]; simp [pairsD]
  have n2 : xs2.length = q.length := by rw [d2.length]; simp [pairsD]
  have o1 := ok.f2
  have o2 := ok.q2
  refine ⟨_, (pss_cons (ps_asg (pv 0) (pg_tup rfl (pgs_cons (pg_n 1 sc__law_tail.nd) (pgs_cons (pg_n 2 sc__law_tail.nd) pgs_nil))))
      (pss_one (ps_ret (pe_ifExp (pt_cmpR (op_neD hr.units) (pv 1) (pe_lst pa_nil) (nomark _)) (pe_tup (pa_cons (pe_slice sl_list (pv 1) (po_some pe_int) po_none) (pa_cons (pv 2) pa_nil))) (pe_tup (pa_cons (pe_lst pa_nil) (pa_cons (pe_op op_cat (pe_slice sl_list (pv 2) (po_some pe_int) po_none) (pe_slice sl_list (pv 2) po_none (po_some pe_int))) pa_nil))))))), ?_⟩
  walk_at "rd"
  refine rd_gtup ea rfl ?_
  walk_at "rd"
  refine rd_newL (by simp) fun u H1 _ s1 eu _ => ?_
  refine rd_neD (d := .list (f.map pairD)) (e := .list []) (.lst (s1 _ _ e1) (d1.mono s1).dt) (.lst eu .nil) (shaped_listMap enc_pair.lay enc_pair.dep f) (by decide) ?_
  rw [eqv_nil]
  walk_at "rd"
  refine rd_iteN (fun c => ?_) (fun c => ?_)
  · have hf : f ≠ [] := fun z => c (by rw [z]; rfl)
    walk_at "rd"
    refine rd_slL (SqL.of (s1 _ _ e1)) fun p2 H2 _ s2 ep2 _ => ?_
    rw [cut_drop1] at ep2
    walk_at "rd"
    refine rd_newT (by simp) fun t H3 _ s3 et _ => ?_
    have s := (s1.trans s2).trans s3
    refine k H3 t (f.drop 1) q s ⟨by rw [List.length_drop]; omega, o2, ok.ne, fun x hx => ok.okf x (List.mem_of_mem_drop hx), ok.okq⟩ (atp_drop hf) ⟨p2, l2, _, xs2, et, s3 _ _ ep2, s _ _ e2, ?_, d2.mono s⟩
    unfold pairsD
    rw [List.map_drop]
    exact (d1.drop 1).mono s
  · have hf : f = [] := by
      cases f with
      | nil => rfl
      | cons x f => simp at c
    subst hf
    walk_at "rd"
    refine rd_newL (by simp) fun p1 H2 _ s2 ep1 _ => ?_
    walk_at "rd"
    refine rd_slL (SqL.of ((s1.trans s2) _ _ e2)) fun p2 H3 _ s3 ep2 _ => ?_
    rw [cut_drop1] at ep2
    walk_at "rd"
    refine rd_slL (SqL.of (((s1.trans s2).trans s3) _ _ e2)) fun p3 H4 _ s4 ep3 _ => ?_
    rw [show (1 : Int) = ((1 : Nat) : Int) from rfl, cut_take] at ep3
    walk_at "rd"
    refine rd_cat (s4 _ _ ep2) ep3 (by rw [List.length_drop, List.length_take]; omega) fun p4 H5 _ s5 ep4 _ => ?_
    walk_at "rd"
    refine rd_newT (by simp) fun t H6 _ s6 et _ => ?_
    have s := ((((s1.trans s2).trans s3).trans s4).trans s5).trans s6
    refine k H6 t [] (q.drop 1 ++ q.take 1) s ⟨by simp, by rw [List.length_append, List.length_drop, List.length_take]; omega, ?_, by simp, fun x hx => ?_⟩ (atp_rot q) ⟨p1, p4, [], _, et, (((s3.trans s4).trans s5).trans s6) _ _ ep1, s6 _ _ ep4, .nil, ?_⟩
    · intro z
      have := congrArg List.length z
      rw [List.length_append, List.length_drop, List.length_take, List.length_nil] at this
      have := List.length_pos_iff.mpr ok.ne
      omega
    · rcases List.mem_append.mp hx with h | h
      · exact ok.okq x (List.mem_of_mem_drop h)
      · exact ok.okq x (List.mem_of_mem_take h)
    · unfold pairsD
      rw [List.map_append, List.map_drop, List.map_take]
      exact ((d2.drop 1).append (d2.take 1)).mono s
end
end Sl

set_option Elab.async false
set_option linter.all false
set_option maxRecDepth 100000
set_option maxHeartbeats 16000000
set_option exponentiation.threshold 9000
namespace Sl
open PySem L2 C8 StX Silt
local macro_rules | `(tactic| walk_at "side") => `(tactic| first
  | exact cdivw (by omega) (by omega)
  | exact cmulw (by omega) (by omega) (by omega) (by omega)
  | exact Or.inr ⟨by omega, by omega⟩
  | exact Or.inl ⟨by omega, by omega⟩
  | omega
  | exact ⟨by omega, by omega, by decide⟩
  | decide)
local macro_rules | `(tactic| walk_at "rd1") => `(tactic| first
  | with_reducible refine rd_seq ?_
  | with_reducible refine rd_asg ?_
  | with_reducible refine rd_drop ?_
  | with_reducible refine rd_ret ?_
  | with_reducible refine rd_retN ?_
  | with_reducible refine rd_ifS ?_
  | ((with_reducible refine rd_var0 ?_); refine ⟨_, rfl, ?_⟩)
  | with_reducible refine rd_c ?_
  | with_reducible refine rd_op ?_
  | with_reducible refine rd_un ?_
  | with_reducible refine rd_I0 ?_
  | with_reducible refine rd_U ?_
  | ((with_reducible refine rd_I ?c ?_); (case c => walk_at "side"))
  | with_reducible refine rd_ipI ?_
  | with_reducible refine rd_eqI ?_
  | with_reducible refine rd_neI ?_
  | with_reducible refine rd_test ?_
  | with_reducible refine rd_tB ?_
  | with_reducible refine rd_bl ?_
  | with_reducible refine rd_not ?_
  | with_reducible refine rd_and ?_
  | with_reducible refine rd_or ?_
  | with_reducible refine rd_andV ?_
  | with_reducible refine rd_orV ?_
  | with_reducible refine rd_notV ?_
  | with_reducible refine rd_ifE ?_
  | with_reducible refine rd_chain ?_
  | with_reducible refine rd_chain3 ?_
  | with_reducible refine rd_nil ?_
  | with_reducible refine rd_cons ?_
  | with_reducible refine rd_call ?_
  | with_reducible refine rd_CB ?_
  | with_reducible refine rd_par ?_
  | with_reducible refine rd_par2 ?_
  | with_reducible refine rd_par3 ?_
  | with_reducible refine rd_par4 ?_
  | ((with_reducible refine rd_aug0 ?_); refine ⟨_, rfl, ?_⟩)
  | with_reducible refine rd_gname ?_
  | with_reducible refine rd_gcons ?_
  | with_reducible refine rd_gnil ?_
  | with_reducible refine rd_max ?_
  | with_reducible refine rd_min ?_
  | with_reducible refine rd_int1 ?_
  | with_reducible refine rd_abs ?_
  | with_reducible refine rd_lst ?_
  | with_reducible refine rd_tup ?_
  | with_reducible refine rd_bm ?_
  | with_reducible refine rd_fld0 ?_
  | with_reducible refine rd_sl0 ?_
  | with_reducible refine rd_noP ?_
  | with_reducible refine rd_part ?_
  | with_reducible refine rd_part2 ?_
  | with_reducible refine rd_meth0 ?_
  | with_reducible refine rd_star ?_
  | with_reducible refine rd_for ?_
  | with_reducible refine rd_rng1 ?_
  | with_reducible refine rd_rng2 ?_
  | with_reducible refine rd_rng3 ?_
  | with_reducible refine rd_iList ?_
  | with_reducible refine rd_iTup ?_
  | with_reducible refine rd_iEnum ?_
  | with_reducible refine rd_lc ?_
  | with_reducible refine rd_yes ?_
  | with_reducible refine rd_augS ?_
  | with_reducible refine rd_drawNew ?_
  | with_reducible refine rd_make0 ?_
  | with_reducible refine rd_next ?_
  | with_reducible refine rd_break ?_
  | with_reducible refine rd_cont ?_
  | with_reducible refine rd_iteTT ?_
  | with_reducible refine rd_iteFF ?_
  | with_reducible refine rd_iteNTT ?_
  | with_reducible refine rd_iteNFF ?_
  | with_reducible refine rd_asgG ?_)
local macro_rules | `(tactic| walk_at "rd") => `(tactic| repeat walk_at "rd1")
local macro_rules | `(tactic| walk_at "len") => `(tactic| first
  | (intro vs H Q E h; obtain ⟨h2, _⟩ := h; rw [h2]; rfl)
  | (intro vs H Q E h; obtain ⟨_, h2, _⟩ := h; rw [h2]; rfl)
  | (intro vs H Q E h; obtain ⟨_, _, h2, _⟩ := h; rw [h2]; rfl)
  | (intro vs H Q E h; obtain ⟨_, _, _, h2, _⟩ := h; rw [h2]; rfl)
  | (intro vs H Q E h; obtain ⟨_, _, _, _, h2, _⟩ := h; rw [h2]; rfl)
  | (intro vs H Q E h; obtain ⟨_, _, _, _, _, h2, _⟩ := h; rw [h2]; rfl)
  | (intro vs H Q E h; obtain ⟨_, _, _, _, _, _, h2, _⟩ := h; rw [h2]; rfl)
  | (intro vs H Q E h; obtain ⟨_, _, _, _, _, _, _, h2, _⟩ := h; rw [h2]; rfl)
  | (intro vs H Q E h; obtain ⟨_, _, _, _, _, _, _, _, h2, _⟩ := h; rw [h2]; rfl)
  | (intro vs H Q E h; obtain ⟨_, _, _, _, _, _, _, _, _, h2, _⟩ := h; rw [h2]; rfl))
/-- what stands behind the first statements of the law: a rule, its tail, a day -/
structure LF (K : PySem.W.Frag) (CR : Addr) (H : Hp) (a t r1 r2 : Addr) (f q : List (Int × Int)) (d : Int) : Prop where
  dr : DrawP K H a
  tp : ToldP H t f q
  ok : OkT f q
  h1 : RuleP CR H r1 (atp f q)
  h2 : RuleP CR H r2 (tl (atp f q) 1)
  d0 : 0 ≤ d
  d1 : d ≤ 10 ^ 21
theorem LF.mono {K : PySem.W.Frag} {CR : Addr} {H H' : Hp} {a t r1 r2 : Addr} {f q : List (Int × Int)} {d : Int} (s : Same H H') (h : LF K CR H a t r1 r2 f q d) : LF K CR H' a t r1 r2 f q d :=
  ⟨h.dr.mono s, h.tp.mono s, h.ok, h.h1.mono s, h.h2.mono s, h.d0, h.d1⟩
/-- the slots -/
def LS (K : PySem.W.Frag) (CR sc a t t2 r1 r2 : Addr) (f q : List (Int × Int)) (d : Int) (σ : L2.St) (H : Hp) : Prop := ∃ v9 v10 v11 v12 v13 v14 v15 v16 v17 v18 v19 : Option V, LF K CR H a t r1 r2 f q d ∧
  σ = [some (.ref sc), some (.ref a), some (.ref t), some (.ref t2), some (.ref r1), some (.ref r2), some (.int d), some (.int (late (atp f q) d)), some (.int (atp f q 0).2), v9, v10, v11, v12, v13, v14, v15, v16, v17, v18, v19]
def spLaw (K : PySem.W.Frag) : Sp := fun vs H Q _ => ∃ (a : Addr) (ns : List Int), vs = [.ref a] ∧ SqL K H a (ns.map V.int) ∧ ns.length ≤ 63 ∧ ∀ H', Q (.bl true) H'
theorem bkF_len2 {p : Pr} {d : Int} : ∀ (n g m : Nat), isBaked p (g + m) d = false → (bkF n p d g).length ≤ m
  | 0, _, _, _ => Nat.zero_le _
  | n + 1, g, m, h => by
    show (if isBaked p g d then (g : Int) :: bkF n p d (g + 1) else []).length ≤ m
    by_cases c : isBaked p g d = true
    · rw [if_pos c, List.length_cons]
      cases m with
      | zero => rw [Nat.add_zero, c] at h; cases h
      | succ m =>
        have := bkF_len2 n (g + 1) m (by rw [← h]; congr 1; omega)
        omega
    · rw [if_neg c]; exact Nat.zero_le _
theorem baked_len {p : Pr} (g : Good p) {d : Int} (h : d ≤ DD) : (bakedL p d).length ≤ 2001 := by
  refine bkF_len2 _ 0 2001 ?_
  cases e : isBaked p (0 + 2001) d with
  | false => rfl
  | true =>
    have := grade_le g (isBaked_size g e) h
    omega
theorem dt_ints {H : Hp} {u : Addr} {ns : List Int} (e : H u = some (.lst (ns.map V.int))) : Dt H (.ref u) (.list (intsD ns)) := .lst e (DtAll.intsD ns)
section
variable {P : Program} {w : World} {K : PySem.W.Frag} {mg : Str → Option Value} {base : Heap} {C_Rule C_Weights : Addr}
theorem fn_law (T : TX K mg C_Rule C_Weights) {f0 : Addr} {fd : FuncData} (D : C8.Def K mg "law" s_law f0 fd) : FnOk P w K mg base C8.CX0 6 f0 fd P_law (spLaw K) := by
  have G__law_rule := cal__law_rule (P := P) (w := w) (base := base) T
  have G__law_tail := cal__law_tail (P := P) (w := w) (base := base) T
  have G_Rule_init := mak_Rule_init (P := P) (w := w) (base := base) T
  have G__law_pick := cal__law_pick (P := P) (w := w) (base := base) T
  have G__law_take := cal__law_take (P := P) (w := w) (base := base) T
  have G__law_far := cal__law_far (P := P) (w := w) (base := base) T
  have G_made := cal_made (P := P) (w := w) (base := base) T
  have G__law_at := cal__law_at (P := P) (w := w) (base := base) T
  have G_count := cal_count (P := P) (w := w) (base := base) T
  have G_digits := cal_digits (P := P) (w := w) (base := base) T
  have G_work := cal_work (P := P) (w := w) (base := base) T
  have G_layers := cal_layers (P := P) (w := w) (base := base) T
  have G_baked := cal_baked (P := P) (w := w) (base := base) T
  have G_next_baked := cal_next_baked (P := P) (w := w) (base := base) T
  have G_place := cal_place (P := P) (w := w) (base := base) T
  have G_weighed := cal_weighed (P := P) (w := w) (base := base) T
  have G_Weights_init := mak_Weights_init (P := P) (w := w) (base := base) T
  have G_first_with := cal_first_with (P := P) (w := w) (base := base) T
  refine fn0 D.fn sc_law (by walk_at "len") (fun cdv A outer s H vs Q E hr h => ?_)
  obtain ⟨sc, ns, rfl, hS, _, k⟩ := h
  have b7 := bb_pos
  have b8 := dd_bb
  have b9 := dd_far
  refine ⟨_, (pss_cons (ps_s 1 sc_law.nd (pe_draw (pa_cons (pv 0) (pa_cons pe_int pa_nil))))
      (pss_cons (ps_s 2 sc_law.nd (pe_c G__law_rule hr (by decide) rfl (pa_cons (pv 1) pa_nil)))
      (pss_cons (ps_s 3 sc_law.nd (pe_c G__law_tail hr (by decide) rfl (pa_cons (pv 2) pa_nil)))
      (pss_cons (ps_par (i := 4) (j := 5) rfl sc_law.nd rfl rfl (by decide) rfl rfl (pa_cons (pe_mk G_Rule_init hr (by decide) rfl (pa_cons (pe_ix ix_tup (pv 2) pe_int (fun _ _ => rfl)) (pa_cons (pe_ix ix_tup (pv 2) pe_int (fun _ _ => rfl)) pa_nil))) (pa_cons (pe_mk G_Rule_init hr (by decide) rfl (pa_cons (pe_ix ix_tup (pv 3) pe_int (fun _ _ => rfl)) (pa_cons (pe_ix ix_tup (pv 3) pe_int (fun _ _ => rfl)) pa_nil))) pa_nil)) (by rfl))
      (pss_cons (ps_s 6 sc_law.nd (pe_c G__law_pick hr (by decide) rfl (pa_cons (pv 1) (pa_cons (pe_lst (pa_cons (pe_c G__law_take hr (by decide) rfl (pa_cons (pv 1) (pa_cons pe_int pa_nil))) (pa_cons (pe_c G__law_far hr (by decide) rfl (pa_cons (pv 1) pa_nil)) pa_nil))) pa_nil))))
      (pss_cons (ps_s 7 sc_law.nd (pe_c G_made hr (by decide) rfl (pa_cons (pv 4) (pa_cons pe_int (pa_cons (pv 6) pa_nil)))))
      (pss_cut (ps_s 8 sc_law.nd (pe_ix ix_tup (pe_c G__law_at hr (by decide) rfl (pa_cons (pv 2) (pa_cons pe_int pa_nil))) pe_int (fun _ _ => rfl)))
      (pss_cut (ps_if (PW.pt (pw_or (pt_cmpR (op_neD hr.units) (pe_slice sl_list (pe_c G_digits hr (by decide) rfl (pa_cons (pv 4) (pa_cons (pv 6) pa_nil))) (po_some pe_int) po_none) (pe_c G_digits hr (by decide) rfl (pa_cons (pv 5) (pa_cons (pv 7) pa_nil))) (nomark _)) (pw_or1 (pt_cmpR op_ne (pe_op op_sub (pe_c G_count hr (by decide) rfl (pa_cons (pv 4) (pa_cons (pv 6) pa_nil))) (pe_ix ix_list (pe_op op_cat (pe_c G_digits hr (by decide) rfl (pa_cons (pv 4) (pa_cons (pv 6) pa_nil))) (pe_lst (pa_cons pe_int pa_nil))) pe_int (fun _ _ => rfl))) (pe_c G_count hr (by decide) rfl (pa_cons (pv 5) (pa_cons (pv 7) pa_nil))) (nomark _))))) (pss_one (ps_ret pe_bl)) pss_nil)
      (pss_cut (ps_if (pt_cmpR op_ne (pe_c G_work hr (by decide) rfl (pa_cons (pv 4) (pa_cons (pv 6) pa_nil))) (pe_op op_add (pe_op op_mul (pv 8) (pv 7)) (pe_op op_mul (pv 8) (pe_c G_work hr (by decide) rfl (pa_cons (pv 5) (pa_cons (pv 7) pa_nil))))) (nomark _)) (pss_one (ps_ret pe_bl)) pss_nil)
      (pss_cons (ps_par (i := 9) (j := 10) rfl sc_law.nd rfl rfl (by decide) rfl rfl (pa_cons (pe_c G_layers hr (by decide) rfl (pa_cons (pv 4) (pa_cons (pv 6) pa_nil))) (pa_cons (pe_c G_layers hr (by decide) rfl (pa_cons (pv 5) (pa_cons (pv 7) pa_nil))) pa_nil)) (by rfl))
      (pss_cut (ps_if (pt_cmpR (op_neD hr.units) (pe_lc (own := [("_law_first", 11), ("_law_last", 12), ("_law_grade", 13)]) (g := gTup _ 3 (gCons (gName 11) (gCons (gName 12) (gCons (gName 13) gNil)))) (tt := tYes) rfl sc_law.nd (pi_list (pv 10)) (blkOk_by (own := [("_law_first", 11), ("_law_last", 12), ("_law_grade", 13)]) (N := N_law) (sc := fnScope s_law) (by decide +kernel)) (fun _ _ _ _ _ => (pg_tup rfl (pgs_cons (pg_n 11 sc_law.nd) (pgs_cons (pg_n 12 sc_law.nd) (pgs_cons (pg_n 13 sc_law.nd) pgs_nil))))) (fun _ _ _ _ _ => pts_nil) (fun _ _ _ _ _ => (pe_tup (pa_cons (pe_op op_add (pe_op op_mul (pe_op op_sub (pv 11) pe_int) (pv 8)) pe_int) (pa_cons (pe_op op_mul (pv 12) (pv 8)) (pa_cons (pe_op op_add (pv 13) pe_int) pa_nil)))))) (pe_slice sl_list (pv 9) po_none (po_some (pe_callB cr_lenS (by rfl) T.b_len (by decide +kernel) (pa_cons (pv 10) pa_nil)))) (nomark _)) (pss_one (ps_ret pe_bl)) pss_nil)
      (pss_cut (ps_if (pt_cmpR (op_neD hr.units) (pe_c G_baked hr (by decide) rfl (pa_cons (pv 4) (pa_cons (pv 6) pa_nil))) (pe_ifExp (pt_cmpR op_gt (pv 7) (pe_c G_made hr (by decide) rfl (pa_cons (pv 4) (pa_cons pe_int (pa_cons (pe_callB (cr_max2 rfl) (by rfl) T.b_max (by decide +kernel) (pa_cons pe_int (pa_cons (pe_op op_sub (pv 6) pe_int) pa_nil))) pa_nil)))) (nomark _)) (pe_op op_cat (pe_lst (pa_cons pe_int pa_nil)) (pe_lc (own := [("_law_grade", 13)]) (g := gName 13) (tt := tYes) rfl sc_law.nd (pi_list (pe_c G_baked hr (by decide) rfl (pa_cons (pv 5) (pa_cons (pv 7) pa_nil)))) (blkOk_by (own := [("_law_grade", 13)]) (N := N_law) (sc := fnScope s_law) (by decide +kernel)) (fun _ _ _ _ _ => (pg_n 13 sc_law.nd)) (fun _ _ _ _ _ => pts_nil) (fun _ _ _ _ _ => (pe_op op_add (pv 13) pe_int)))) (pe_lst pa_nil)) (nomark _)) (pss_one (ps_ret pe_bl)) pss_nil)
      (pss_cut (ps_for PassesOwn.never rfl (pi_range1 rfl T.b_range (pa_cons pe_int pa_nil)) (pg_n 13 sc_law.nd) (pss_cons (ps_s 11 sc_law.nd (pe_c G_next_baked hr (by decide) rfl (pa_cons (pv 4) (pa_cons (pe_op op_add (pv 13) pe_int) (pa_cons (pv 6) pa_nil)))))
      (pss_one (ps_if (PW.pt (pw_or (pt_cmpR op_ne (pv 11) (pe_c G_next_baked hr (by decide) rfl (pa_cons (pv 4) (pa_cons pe_int (pa_cons (pe_op op_sub (pv 11) pe_int) pa_nil)))) (nomark _)) (pw_or1 (pt_cmpR op_ne (pe_c G_made hr (by decide) rfl (pa_cons (pv 4) (pa_cons (pe_op op_add (pv 13) pe_int) (pa_cons (pv 6) pa_nil)))) (pe_c G_made hr (by decide) rfl (pa_cons (pv 5) (pa_cons (pv 13) (pa_cons (pv 7) pa_nil)))) (nomark _))))) (pss_one (ps_ret pe_bl)) pss_nil))))
      (pss_cons (ps_s 14 sc_law.nd (pe_op op_add pe_int (pe_c G__law_take hr (by decide) rfl (pa_cons (pv 1) (pa_cons pe_int pa_nil)))))
      (pss_cut (ps_if (pt_cmpR op_le (pv 14) (pv 6) (nomark _)) (pss_cons (ps_asg (pe_c G_place hr (by decide) rfl (pa_cons (pv 4) (pa_cons (pv 14) (pa_cons (pv 6) pa_nil)))) (pg_tup rfl (pgs_cons (pg_n 13 sc_law.nd) (pgs_cons (pg_n 15 sc_law.nd) pgs_nil))))
      (pss_one (ps_if (PW.pt (pw_and (pt_cmpR op_gt (pv 13) pe_int (nomark _)) (pw_and1 (pt_cmpR (op_neD hr.units) (pe_c G_place hr (by decide) rfl (pa_cons (pv 5) (pa_cons (pe_callTy cr_int1 (by rfl) T.b_int (by decide +kernel) (pa_cons (pe_op op_fdivW (pe_op op_sub (pe_op op_add (pv 14) (pv 8)) pe_int) (pv 8)) pa_nil)) (pa_cons (pv 7) pa_nil)))) (pe_tup (pa_cons (pe_op op_sub (pv 13) pe_int) (pa_cons (pv 15) pa_nil))) (nomark _))))) (pss_one (ps_ret pe_bl)) pss_nil))) pss_nil)
      (pss_cons (ps_setLc (i := 16) (own := [("_law_turn", 17)]) (g := gName 17) (tt := tYes) rfl sc_law.nd rfl rfl (sw_true rfl rfl rfl (by decide +kernel)) (pi_range1 rfl T.b_range (pa_cons pe_int pa_nil)) (blkOk_by (own := [("_law_turn", 17)]) (N := N_law) (sc := fnScope s_law) (by decide +kernel)) (fun _ _ _ _ _ => (pg_n 17 sc_law.nd)) (fun _ _ _ _ _ => pts_nil) (fun _ _ _ _ _ => (pe_op op_sub (pe_c G__law_take hr (by decide) rfl (pa_cons (pv 1) (pa_cons pe_int pa_nil))) pe_int)))
      (pss_cut (ps_if (pt_cmpR op_ne (pe_c G_weighed hr (by decide) rfl (pa_cons (pv 4) (pa_cons (pe_mk G_Weights_init hr (by decide) rfl (pa_cons (pe_slice sl_list (pv 16) po_none (po_some pe_int)) (pa_cons (pe_slice sl_list (pv 16) (po_some pe_int) po_none) pa_nil))) (pa_cons (pv 6) pa_nil)))) (pe_op op_add (pe_op op_mul (pe_ix ix_list (pv 16) pe_int (fun _ _ => rfl)) (pe_ix ix_list (pe_op op_cat (pe_c G_digits hr (by decide) rfl (pa_cons (pv 4) (pa_cons (pv 6) pa_nil))) (pe_lst (pa_cons pe_int pa_nil))) pe_int (fun _ _ => rfl))) (pe_c G_weighed hr (by decide) rfl (pa_cons (pv 5) (pa_cons (pe_mk G_Weights_init hr (by decide) rfl (pa_cons (pe_slice sl_list (pv 16) (po_some pe_int) (po_some pe_int)) (pa_cons (pe_slice sl_list (pv 16) (po_some pe_int) po_none) pa_nil))) (pa_cons (pv 7) pa_nil))))) (nomark _)) (pss_one (ps_ret pe_bl)) pss_nil)
      (pss_cons (ps_s 18 sc_law.nd (pe_c G__law_take hr (by decide) rfl (pa_cons (pv 1) (pa_cons pe_int pa_nil))))
      (pss_cons (ps_s 19 sc_law.nd (pe_op op_sub (pe_ix ix_tup (pe_c G__law_at hr (by decide) rfl (pa_cons (pv 2) (pa_cons pe_int pa_nil))) pe_int (fun _ _ => rfl)) pe_int))
      (pss_one (ps_ret (pe_or (pe_cmpR op_le (pv 18) (pv 19) (nomark _)) (pe_one (pe_cmpR op_eq (pe_c G_first_with hr (by decide) rfl (pa_cons (pv 4) (pa_cons (pv 18) pa_nil))) (pe_op op_add (pv 19) (pe_op op_mul (pv 8) (pe_c G_first_with hr (by decide) rfl (pa_cons (pv 5) (pa_cons (pe_op op_sub (pv 18) (pv 19)) pa_nil))))) (nomark _))))))))))))))))))))))))), ?_⟩
  walk_at "rd"
  refine rd_drawN fun a H1 _ s1 ea => ?_
  walk_at "rd"
  refine ⟨a, rfl, ⟨sc, ns, ea, L2.Same.seq s1 hS⟩, fun H2 t f q s2 ok tp => ?_⟩
  walk_at "rd"
  refine ⟨t, f, q, rfl, tp, ok, fun H3 t2 f' q' s3 ok' hat tp' => ?_⟩
  have tp := tp.mono s3
  obtain ⟨l1, l2, xs1, xs2, et, el1, el2, dl1, dl2⟩ := id tp
  obtain ⟨m1, m2, ys1, ys2, et2, em1, em2, dm1, dm2⟩ := id tp'
  have htl : atp f' q' = tl (atp f q) 1 := funext hat
  walk_at "rd"
  refine rd_ixT et (by rfl) ?_
  walk_at "rd"
  refine rd_ixT et (by rfl) ?_
  walk_at "rd"
  refine rd_make fun r1 dx H4 s4 hx e4 => ?_
  have o1 := ok.f2
  have o2 := ok.q2
  have o3 := ok'.f2
  have o4 := ok'.q2
  refine ⟨r1, dx, l1, l2, H3, xs1, xs2, f, q, rfl, s4, hx, e4, .inl (s4 _ _ el1), .inl (s4 _ _ el2), dl1.mono s4, dl2.mono s4, by omega, by omega, ok.ne, ok.okf, ok.okq, fun H5 s5 hr1 => ⟨rfl, ?_⟩⟩
  walk_at "rd"
  refine rd_ixT (s5 _ _ et2) (by rfl) ?_
  walk_at "rd"
  refine rd_ixT (s5 _ _ et2) (by rfl) ?_
  walk_at "rd"
  refine rd_make fun r2 dx2 H6 s6 hx2 e6 => ?_
  have s56 := s5.trans s6
  refine ⟨r2, dx2, m1, m2, H5, ys1, ys2, f', q', rfl, s6, hx2, e6, .inl (s56 _ _ em1), .inl (s56 _ _ em2), dm1.mono s56, dm2.mono s56, by omega, by omega, ok'.ne, ok'.okf, ok'.okq, fun H7 s7 hr2 => ⟨rfl, ?_⟩⟩
  rw [htl] at hr2
  have hr1 := hr1.mono s7
  have hdr : DrawP K H7 a := ⟨sc, ns, (((s2.trans s3).trans s5).trans s7) _ _ ea, L2.Same.seq ((((s1.trans s2).trans s3).trans s5).trans s7) hS⟩
  have tp := tp.mono (s5.trans s7)
  walk_at "rd"
  refine ⟨a, _, rfl, hdr, by decide, fun H8 n8 s8 n80 n81 => ?_⟩
  walk_at "rd"
  refine ⟨a, rfl, hdr.mono s8, fun H9 n9 s9 n90 n91 => ?_⟩
  walk_at "rd"
  refine rd_newL (by simp) fun u H10 _ s10 eu _ => ?_
  have s710 := (s8.trans s9).trans s10
  walk_at "rd"
  refine ⟨a, u, _, rfl, hdr.mono s710, eu, by simp, fun H11 i x s11 hx11 => ?_⟩
  have s711 := s710.trans s11
  obtain ⟨d, rfl, d0, d1⟩ : ∃ d : Int, x = .int d ∧ 0 ≤ d ∧ d ≤ 10 ^ 21 := by
    match i, hx11 with
    | 0, hx => cases hx; exact ⟨_, rfl, n80, by omega⟩
    | 1, hx => cases hx; exact ⟨_, rfl, n90, n91⟩
    | i + 2, hx => simp at hx
  walk_at "rd"
  have hd2 : d ≤ DD := by omega
  refine ⟨r1, atp f q, 1, d, rfl, hr1.mono s711, ⟨by decide, by decide⟩, ⟨d0, hd2⟩, fun H12 s12 => ?_⟩
  have e1 : made (atp f q) (1 : Int).toNat d = late (atp f q) d := made_one _ _
  rw [e1]
  refine ⟨LS K C_Rule sc a t t2 r1 r2 f q d, ?_, ?_⟩
  · walk_at "rd"
    have s712 := s711.trans s12
    refine ⟨t, f, q, 0, rfl, tp.mono s712, ok.ne, by decide, fun u2 eu2 => ?_⟩
    walk_at "rd"
    refine rd_ixT eu2 (by rfl) ?_
    exact ⟨none, none, none, none, none, none, none, none, none, none, none, ⟨hdr.mono s712, tp.mono s712, ok, hr1.mono s712, hr2.mono s712, d0, d1⟩, rfl⟩
  rintro σ H0 ⟨v9, v10, v11, v12, v13, v14, v15, v16, v17, v18, v19, F, rfl⟩
  -- from here on the parts: the rule p, its good, the late day
  generalize hp : atp f q = p at *
  have gd := F.h1.good
  rw [hp] at gd
  have l0 := late_nn p d
  have l1' := late_le gd d0
  have hl2 : late p d ≤ DD := by omega
  have dyd : Dy d := ⟨d0, hd2⟩
  have dyl : Dy (late p d) := ⟨l0, hl2⟩
  have p1 := gd.lo 0
  have p2 := gd.le 0
  have p3 := gd.hi 0
  have hd := head_bound gd d0
  clear hr1 hr2 hdr tp
  refine ⟨LS K C_Rule sc a t t2 r1 r2 f q d, ?_, ?_⟩
  · -- digits and counts
    have hr1 := F.h1
    have hr2 := F.h2
    rw [hp] at hr1 hr2
    walk_at "rd"
    refine ⟨r1, p, d, rfl, hr1, dyd, fun H1 u1 s1 _ eu1 => ?_⟩
    walk_at "rd"
    refine rd_slL (SqL.of eu1) fun u2 H2 _ s2 eu2 _ => ?_
    rw [cut_drop1, ← List.map_drop, digits_drop gd d0] at eu2
    have s12 := s1.trans s2
    walk_at "rd"
    refine ⟨r2, tl p 1, late p d, rfl, hr2.mono s12, dyl, fun H3 u3 s3 _ eu3 => ?_⟩
    refine rd_neD (dt_ints (s3 _ _ eu2)) (dt_ints eu3) (shaped_ints _) (shaped_ints _) ?_
    rw [eqv_self (shaped_ints _)]
    have s13 := s12.trans s3
    walk_at "rd"
    refine ⟨r1, p, d, rfl, hr1.mono s13, dyd, fun H4 s4 => ?_⟩
    walk_at "rd"
    have s14 := s13.trans s4
    refine ⟨r1, p, d, rfl, hr1.mono s14, dyd, fun H5 u5 s5 _ eu5 => ?_⟩
    walk_at "rd"
    refine rd_newL (by simp) fun u6 H6 _ s6 eu6 _ => ?_
    have hlen := dd_len gd d0 hd2
    refine rd_cat (ys := [.int 0]) (s6 _ _ eu5) eu6 (by rw [List.length_map]; simp; omega) fun u7 H7 _ s7 eu7 _ => ?_
    walk_at "rd"
    refine rd_ixL eu7 (v := .int (head0 p d)) (atI_nat' (i := 0) (by
      have := head_get gd d
      have e : (digits p d).map V.int ++ [V.int 0] = (digits p d ++ [0]).map V.int := by rw [List.map_append]; rfl
      rw [e, List.getElem?_map, this]; rfl)) ?_
    walk_at "rd"
    have s17 := ((s14.trans s5).trans s6).trans s7
    refine ⟨r2, tl p 1, late p d, rfl, hr2.mono s17, dyl, fun H8 s8 => ?_⟩
    refine rd_neI ?_
    rw [head_sum gd d0]
    walk_at "rd"
    refine rd_iteNF rfl ?_
    walk_at "rd"
    have s18 := s17.trans s8
    exact ⟨v9, v10, v11, v12, v13, v14, v15, v16, v17, v18, v19, F.mono s18, by rw [hp]⟩
  clear v9 v10 v11 v12 v13 v14 v15 v16 v17 v18 v19 F
  rintro σ H0 ⟨v9, v10, v11, v12, v13, v14, v15, v16, v17, v18, v19, F, rfl⟩
  rw [hp]
  refine ⟨LS K C_Rule sc a t t2 r1 r2 f q d, ?_, ?_⟩
  · -- work
    have hr1 := F.h1
    have hr2 := F.h2
    rw [hp] at hr1 hr2
    walk_at "rd"
    refine ⟨r1, p, d, rfl, hr1, dyd, fun H1 s1 => ?_⟩
    walk_at "rd"
    refine ⟨r2, tl p 1, late p d, rfl, hr2.mono s1, dyl, fun H2 s2 => ?_⟩
    walk_at "rd"
    rw [← work_eq gd d0]
    refine rd_iteNF rfl ?_
    walk_at "rd"
    have s12 := s1.trans s2
    exact ⟨v9, v10, v11, v12, v13, v14, v15, v16, v17, v18, v19, F.mono s12, by rw [hp]⟩
  clear v9 v10 v11 v12 v13 v14 v15 v16 v17 v18 v19 F
  rintro σ H0 ⟨v9, v10, v11, v12, v13, v14, v15, v16, v17, v18, v19, F, rfl⟩
  rw [hp]
  have hr1 := F.h1
  have hr2 := F.h2
  rw [hp] at hr1 hr2
  -- layers
  walk_at "rd"
  refine ⟨r1, p, d, rfl, hr1, dyd, fun H1 u1 s1 _ dt1 => ?_⟩
  walk_at "rd"
  refine ⟨r2, tl p 1, late p d, rfl, hr2.mono s1, dyl, fun H2 u2 s2 _ dt2 => ?_⟩
  walk_at "rd"
  have dt1 := dt1.mono s2
  obtain ⟨xs1, e1, da1⟩ := dt1.lst_inv
  obtain ⟨xs2, e2, da2⟩ := dt2.lst_inv
  obtain ⟨rest, hly⟩ := layersL_tl gd d0
  have s12 := s1.trans s2
  refine ⟨LS K C_Rule sc a t t2 r1 r2 f q d, ?_, ?_⟩
  · walk_at "rd"
    refine rd_lsR (SqL.of e2) ?_
    have n2 : xs2.length = (layersL (tl p 1) (late p d)).length := by rw [da2.length, List.length_map]
    have hlen : (layersL (tl p 1) (late p d)).length ≤ 90000 := by
      have h1 := dd_len (gd.tl 1) l0 hl2
      have h2 := LY_len (tl p 1) 0 (digits (tl p 1) (late p d)) (fun x hx => (valid_le (gd.tl 1) (valid_digits (gd.tl 1) l0) x hx).2)
      unfold layersL
      omega
    refine lcR_lst (xs := xs2) (fun D i H' => ∃ l, Same H2 H' ∧ H' D = some (.lst l) ∧ DnAll H' l ((((layersL (tl p 1) (late p d)).take i).map (upL (p 0).2)).map triD)) (fun D i H' _ ⟨_, s, _⟩ => SqL.of (s _ _ e2)) (fun D H' _ s e _ => ⟨[], s, e, .nil⟩) ?_ ?_
    · rintro D i x H' hD hi ⟨l, s3, eD, dl⟩
      have hil : i < xs2.length := (List.getElem?_eq_some_iff.mp hi).1
      have hil2 : i < (layersL (tl p 1) (late p d)).length := by omega
      have hy : (layersL (tl p 1) (late p d))[i]? = some ((layersL (tl p 1) (late p d))[i]) := List.getElem?_eq_getElem hil2
      generalize (layersL (tl p 1) (late p d))[i] = y at hy
      obtain ⟨v, hv, dv⟩ := da2.get (i := i) (d := triD y) (by rw [List.getElem?_map, hy]; rfl)
      rw [hi] at hv
      cases hv
      obtain ⟨u, rfl, eu⟩ := dv.tri_inv
      refine rd_gtup (s3 _ _ eu) rfl ?_
      walk_at "rd"
      refine ⟨rfl, ?_⟩
      walk_at "rd"
      refine rd_newT (by simp) fun w3 H3 _ s4 ew _ => ?_
      refine rd_lcE (s4 _ _ eD) (by rw [dl.length]; simp; omega) fun H4 eH e4 => ?_
      refine ⟨_, by rw [eH]; exact Same.mut (s3.trans s4) hD, e4, ?_⟩
      rw [List.take_add_one, hy, List.map_append, List.map_append, eH]
      exact DnAll.updL (s4 _ _ eD) ((dl.mono s4).append (.cons (.tri ew) .nil))
    · rintro D H3 hD ⟨l, s3, eD, dl⟩
      rw [n2, List.take_length] at dl
      walk_at "rd"
      refine rd_lenL (s3 _ _ e2) ?_
      walk_at "rd"
      refine rd_slL (SqL.of (s3 _ _ e1)) fun u4 H4 _ s4 eu4 _ => ?_
      rw [cut_take] at eu4
      have d4 := (da1.mono (s3.trans s4)).take xs2.length
      have htake : (layersL p d).take (layersL (tl p 1) (late p d)).length = (layersL (tl p 1) (late p d)).map (upL (p 0).2) := by
        rw [hly, List.take_append_of_le_length (by rw [List.length_map]; exact Nat.le_refl _), List.take_of_length_le (by rw [List.length_map]; exact Nat.le_refl _)]
      rw [← List.map_take, n2, htake] at d4
      rw [n2] at eu4
      refine rd_neD (.lst (s4 _ _ eD) (dl.mono s4).dt) (.lst eu4 d4) (shaped_tris _) (shaped_tris _) ?_
      rw [eqv_self (shaped_tris _)]
      walk_at "rd"
      have s04 := (s12.trans s3).trans s4
      exact ⟨some (.ref u1), some (.ref u2), v11, v12, v13, v14, v15, v16, v17, v18, v19, F.mono s04, by rw [hp]; rfl⟩
  clear v9 v10 v11 v12 v13 v14 v15 v16 v17 v18 v19 F hr1 hr2 dt1 dt2 e1 e2 da1 da2 s12 s1 s2
  rintro σ H0 ⟨v9, v10, v11, v12, v13, v14, v15, v16, v17, v18, v19, F, rfl⟩
  rw [hp]
  refine ⟨LS K C_Rule sc a t t2 r1 r2 f q d, ?_, ?_⟩
  · -- bakes
    have hr1 := F.h1
    have hr2 := F.h2
    rw [hp] at hr1 hr2
    walk_at "rd"
    refine ⟨r1, p, d, rfl, hr1, dyd, fun H1 u1 s1 _ eu1 => ?_⟩
    rw [bakedL_tl gd d0] at eu1
    walk_at "rd"
    refine ⟨r1, p, 1, max 0 (d - 1), rfl, hr1.mono s1, ⟨by decide, by decide⟩, ⟨by omega, by omega⟩, fun H2 s2 => ?_⟩
    have e1 : (1 : Int).toNat = 1 := rfl
    rw [e1]
    walk_at "rd"
    have s12 := s1.trans s2
    refine rd_ite (fun c => ?_) (fun c => ?_)
    · rw [if_pos c] at eu1
      walk_at "rd"
      refine rd_newL (by simp) fun u3 H3 _ s3 eu3 _ => ?_
      have s13 := s12.trans s3
      walk_at "rd"
      refine ⟨r2, tl p 1, late p d, rfl, hr2.mono s13, dyl, fun H4 u4 s4 _ eu4 => ?_⟩
      refine rd_lsR (SqL.of eu4) ?_
      have hbl : (bakedL (tl p 1) (late p d)).length ≤ 90000 := by have := baked_len (gd.tl 1) hl2; omega
      refine lcR_lst (xs := (bakedL (tl p 1) (late p d)).map V.int) (fun D i H' => Same H4 H' ∧ H' D = some (.lst ((((bakedL (tl p 1) (late p d)).take i).map (· + 1)).map V.int))) (fun D i H' _ ⟨s, _⟩ => SqL.of (s _ _ eu4)) (fun D H' _ s e _ => ⟨s, e⟩) ?_ ?_
      · rintro D i x H' hD hi ⟨s5, eD⟩
        obtain ⟨y, hy, rfl⟩ : ∃ y, (bakedL (tl p 1) (late p d))[i]? = some y ∧ x = V.int y := by
          rw [List.getElem?_map] at hi
          cases e : (bakedL (tl p 1) (late p d))[i]? with
          | none => rw [e] at hi; cases hi
          | some x => rw [e] at hi; exact ⟨x, rfl, (Option.some.inj hi).symm⟩
        have hil : i < (bakedL (tl p 1) (late p d)).length := (List.getElem?_eq_some_iff.mp hy).1
        walk_at "rd"
        refine ⟨rfl, ?_⟩
        walk_at "rd"
        refine rd_lcE eD (by simp; omega) fun H6 eH e6 => ?_
        refine ⟨by rw [eH]; exact Same.mut s5 hD, ?_⟩
        rw [e6, List.take_add_one, hy, List.map_append, List.map_append]
        rfl
      · rintro D H5 hD ⟨s5, eD⟩
        rw [List.length_map, List.take_length] at eD
        refine rd_cat ((s4.trans s5) _ _ eu3) eD (by simp; omega) fun u6 H6 _ s6 eu6 _ => ?_
        have s26 := ((((s2.trans s3).trans s4).trans s5).trans s6)
        refine rd_neD (dt_ints (s26 _ _ eu1)) (dt_ints (ns := 0 :: (bakedL (tl p 1) (late p d)).map (· + 1)) (by rw [eu6]; rfl)) (shaped_ints _) (shaped_ints _) ?_
        rw [eqv_self (shaped_ints _)]
        walk_at "rd"
        exact ⟨v9, v10, v11, v12, v13, v14, v15, v16, v17, v18, v19, F.mono (s1.trans s26), by rw [hp]⟩
    · rw [if_neg c] at eu1
      walk_at "rd"
      refine rd_newL (by simp) fun u3 H3 _ s3 eu3 _ => ?_
      refine rd_neD (dt_ints (ns := []) ((s2.trans s3) _ _ eu1)) (dt_ints (ns := []) eu3) (shaped_ints _) (shaped_ints _) ?_
      rw [eqv_self (shaped_ints _)]
      walk_at "rd"
      exact ⟨v9, v10, v11, v12, v13, v14, v15, v16, v17, v18, v19, F.mono (s12.trans s3), by rw [hp]⟩
  clear v9 v10 v11 v12 v13 v14 v15 v16 v17 v18 v19 F
  rintro σ H0 ⟨v9, v10, v11, v12, v13, v14, v15, v16, v17, v18, v19, F, rfl⟩
  rw [hp]
  refine ⟨LS K C_Rule sc a t t2 r1 r2 f q d, ?_, ?_⟩
  · -- next bakes
    walk_at "rd"
    refine rd_rgR1 (by omega) (by omega) ?_
    refine forR_rng (fun i σ H' => LS K C_Rule sc a t t2 r1 r2 f q d σ H') ⟨v9, v10, v11, v12, v13, v14, v15, v16, v17, v18, v19, F, by rw [hp]⟩ ?_ (fun σ H' h => h)
    clear v9 v10 v11 v12 v13 v14 v15 v16 v17 v18 v19 F
    rintro i σ H1 hi ⟨v9, v10, v11, v12, v13, v14, v15, v16, v17, v18, v19, F, rfl⟩
    rw [hp]
    have hr1 := F.h1
    have hr2 := F.h2
    rw [hp] at hr1 hr2
    have hi3 : i < 3 := by simpa using hi
    have ei : (0 : Int) + (i : Int) + 1 = ((i + 1 : Nat) : Int) := by omega
    have ei0 : (0 : Int) + (i : Int) = (i : Int) := by omega
    have nb1 := nextBaked_lo gd (i + 1) d
    have nb2 := nextBaked_hi gd (i + 1) d0
    have sz := size_le gd (i + 1 + 1)
    have ow := owed_le gd (i + 1 + 1)
    have szp := size_pos gd (i + 1 + 1)
    have pw : (12 : Nat) ^ (i + 1 + 1) ≤ 12 ^ 4 := Nat.pow_le_pow_right (by decide) (by omega)
    have pw2 : (12 : Nat) ^ (i + 1 + 1 + 1) ≤ 12 ^ 5 := Nat.pow_le_pow_right (by decide) (by omega)
    have hm : size p (i + 1 + 1) * (d + 1) ≤ (12 ^ 4 : Nat) * (10 ^ 21 + 1) := Int.mul_le_mul (Int.le_trans sz (Int.ofNat_le.mpr pw)) (by omega) (by omega) (by decide)
    have hnb : nextBaked p (i + 1) d ≤ DD := by
      have h1 : owed p (i + 1 + 1) ≤ ((12 ^ 5 : Nat) : Int) := by have := Int.ofNat_le.mpr pw2; omega
      have h2 : ((12 ^ 5 : Nat) : Int) + ((12 ^ 4 : Nat) : Int) * (10 ^ 21 + 1) ≤ 10 ^ 30 := by decide
      omega
    rw [ei0]
    walk_at "rd"
    refine ⟨r1, p, _, d, rfl, hr1, ⟨by omega, by omega⟩, dyd, fun H2 s2 => ?_⟩
    have ei1 : ((i : Int) + 1).toNat = i + 1 := by omega
    rw [ei1]
    walk_at "rd"
    refine ⟨r1, p, 0, _, rfl, hr1.mono s2, ⟨by decide, by decide⟩, ⟨by omega, by omega⟩, fun H3 s3 => ?_⟩
    have e0 : (0 : Int).toNat = 0 := rfl
    rw [e0]
    rw [nextBaked_tl gd]
    walk_at "rd"
    refine rd_iteNF rfl ?_
    have s23 := s2.trans s3
    walk_at "rd"
    refine ⟨r1, p, _, d, rfl, hr1.mono s23, ⟨by omega, by omega⟩, dyd, fun H4 s4 => ?_⟩
    rw [ei1]
    walk_at "rd"
    refine ⟨r2, tl p 1, (i : Int), late p d, rfl, hr2.mono (s23.trans s4), ⟨by omega, by omega⟩, dyl, fun H5 s5 => ?_⟩
    rw [Int.toNat_natCast, made_tl gd]
    refine rd_neI ?_
    walk_at "rd"
    refine rd_iteNF rfl ?_
    walk_at "rd"
    have s25 := (s23.trans s4).trans s5
    exact ⟨v9, v10, _, v12, _, v14, v15, v16, v17, v18, v19, F.mono s25, by rw [hp]; rfl⟩
  clear v9 v10 v11 v12 v13 v14 v15 v16 v17 v18 v19 F
  rintro σ H0 ⟨v9, v10, v11, v12, v13, v14, v15, v16, v17, v18, v19, F, rfl⟩
  rw [hp]
  walk_at "rd"
  refine ⟨a, _, rfl, F.dr, by decide, fun H1 n1 s1 n10 n11 => ?_⟩
  walk_at "rd"
  refine ⟨LS K C_Rule sc a t t2 r1 r2 f q d, ?_, ?_⟩
  · -- places
    have hr1 := F.h1.mono s1
    have hr2 := F.h2.mono s1
    rw [hp] at hr1 hr2
    walk_at "rd"
    refine rd_ite (fun c => ?_) (fun c => ?_)
    · walk_at "rd"
      refine ⟨r1, p, 1 + n1, d, rfl, hr1, by omega, c, hd2, fun H2 u2 r s2 hP eu2 => ?_⟩
      refine rd_gtup eu2 rfl ?_
      walk_at "rd"
      refine rd_ite (fun c2 => ?_) (fun c2 => ?_)
      · obtain ⟨hP2, hle⟩ := PL_rest gd (by omega) hP c2
        have hone : 1 ≤ (1 + n1 + (p 0).2 - 1) / (p 0).2 := by
          have : (p 0).2 * 1 ≤ 1 + n1 + (p 0).2 - 1 := by omega
          exact (Int.le_ediv_iff_mul_le (by omega)).mpr (by rw [Int.one_mul]; omega)
        walk_at "rd"
        refine ⟨r2, tl p 1, _, late p d, rfl, hr2.mono s2, hone, hle, hl2, fun H3 u3 r' s3 hP3 eu3 => ?_⟩
        rw [hP2] at hP3
        have er := Sum.inl.inj hP3
        walk_at "rd"
        refine rd_newT (by simp) fun u4 H4 _ s4 eu4 _ => ?_
        refine rd_neD (d := pairD r') (e := pairD (r.1 - 1, r.2)) (Dn.dt (.pair (s4 _ _ eu3))) (Dn.dt (.pair eu4)) (shaped_pair _) (shaped_pair _) ?_
        rw [er, eqv_self (shaped_pair _)]
        walk_at "rd"
        have s14 := ((s1.trans s2).trans s3).trans s4
        exact ⟨v9, v10, v11, v12, _, _, _, v16, v17, v18, v19, F.mono s14, by rw [hp]; rfl⟩
      · walk_at "rd"
        exact ⟨v9, v10, v11, v12, _, _, _, v16, v17, v18, v19, F.mono (s1.trans s2), by rw [hp]; rfl⟩
    · walk_at "rd"
      exact ⟨v9, v10, v11, v12, v13, _, v15, v16, v17, v18, v19, F.mono s1, by rw [hp]; rfl⟩
  clear v9 v10 v11 v12 v13 v14 v15 v16 v17 v18 v19 F s1 n10 n11 n1
  rintro σ H0 ⟨v9, v10, v11, v12, v13, v14, v15, v16, v17, v18, v19, F, rfl⟩
  rw [hp]
  walk_at "rd"
  refine rd_rgR1 (by omega) (by omega) ?_
  refine lcR_rng (fun D i H' => ∃ ns : List Int, Same H0 H' ∧ H' D = some (.lst (ns.map V.int)) ∧ ns.length = i ∧ ∀ x ∈ ns, -4 ≤ x ∧ x ≤ 4) (fun D H' _ s e _ => ⟨[], s, e, rfl, by simp⟩) ?_ ?_
  · rintro D i H' hD hi ⟨ns, s1, eD, hl, hb⟩
    walk_at "rd"
    refine ⟨rfl, ?_⟩
    walk_at "rd"
    refine ⟨a, _, rfl, F.dr.mono s1, by decide, fun H2 n2 s2 n20 n21 => ?_⟩
    walk_at "rd"
    have hi3 : i < 3 := by simpa using hi
    refine rd_lcE (s2 _ _ eD) (by simp; omega) fun H3 eH e3 => ?_
    refine ⟨ns ++ [n2 - 4], by rw [eH]; exact Same.mut (s1.trans s2) hD, by rw [e3, List.map_append]; rfl, by simp [hl], ?_⟩
    intro x hx
    rcases List.mem_append.mp hx with h | h
    · exact hb x h
    · rw [List.mem_singleton.mp h]; omega
  rintro D H1 hD ⟨ns, s1, eD, hl, hb⟩
  obtain ⟨x0, x1, x2, rfl⟩ : ∃ x0 x1 x2, ns = [x0, x1, x2] := by
    match ns, hl with
    | [x0, x1, x2], _ => exact ⟨x0, x1, x2, rfl⟩
  have hx0 := hb x0 (by simp)
  have hx1 := hb x1 (by simp)
  have hx2 := hb x2 (by simp)
  refine ⟨LS K C_Rule sc a t t2 r1 r2 f q d, ?_, ?_⟩
  · -- weights
    have F1 := F.mono s1
    have hr1 := F1.h1
    have hr2 := F1.h2
    rw [hp] at hr1 hr2
    walk_at "rd"
    refine rd_slL (SqL.of eD) fun u2 H2 _ s2 eu2 _ => ?_
    walk_at "rd"
    refine rd_slL (SqL.of (s2 _ _ eD)) fun u3 H3 _ s3 eu3 _ => ?_
    walk_at "rd"
    refine rd_make fun w1 dx H4 s4 hx4 e4 => ?_
    refine ⟨w1, dx, u2, u3, H3, [x0, x1], [x2], rfl, s4, hx4, e4, (s3.trans s4) _ _ eu2, s4 _ _ eu3, by simp, by simp, by simp, ?_, ?_, fun H5 s5 hw1 => ⟨rfl, ?_⟩⟩
    · intro x hx
      simp at hx
      rcases hx with h | h <;> (rw [h]; omega)
    · intro x hx
      simp at hx
      rw [hx]; omega
    have s15 := (s2.trans s3).trans s5
    walk_at "rd"
    refine ⟨r1, w1, p, _, d, rfl, hr1.mono s15, hw1, dyd, fun H6 s6 => ?_⟩
    have s16 := s15.trans s6
    walk_at "rd"
    refine rd_ixL (s16 _ _ eD) (by rfl) ?_
    walk_at "rd"
    refine ⟨r1, p, d, rfl, hr1.mono s16, dyd, fun H7 u7 s7 _ eu7 => ?_⟩
    walk_at "rd"
    refine rd_newL (by simp) fun u8 H8 _ s8 eu8 _ => ?_
    have hlen := dd_len gd d0 hd2
    refine rd_cat (ys := [.int 0]) (s8 _ _ eu7) eu8 (by rw [List.length_map]; simp; omega) fun u9 H9 _ s9 eu9 _ => ?_
    walk_at "rd"
    refine rd_ixL eu9 (v := .int (head0 p d)) (atI_nat' (i := 0) (by
      have := head_get gd d
      have e : (digits p d).map V.int ++ [V.int 0] = (digits p d ++ [0]).map V.int := by rw [List.map_append]; rfl
      rw [e, List.getElem?_map, this]; rfl)) ?_
    walk_at "rd"
    have s19 := ((s16.trans s7).trans s8).trans s9
    refine rd_slL (SqL.of (s19 _ _ eD)) fun y2 J2 _ q2 ey2 _ => ?_
    walk_at "rd"
    refine rd_slL (SqL.of ((s19.trans q2) _ _ eD)) fun y3 J3 _ q3 ey3 _ => ?_
    walk_at "rd"
    refine rd_make fun w2 dx2 J4 q4 hx5 e5 => ?_
    refine ⟨w2, dx2, y2, y3, J3, [x1], [x2], rfl, q4, hx5, e5, (q3.trans q4) _ _ ey2, q4 _ _ ey3, by simp, by simp, by simp, ?_, ?_, fun J5 q5 hw2 => ⟨rfl, ?_⟩⟩
    · intro x hx
      simp at hx
      rw [hx]; omega
    · intro x hx
      simp at hx
      rw [hx]; omega
    have s20 := ((s19.trans q2).trans q3).trans q5
    walk_at "rd"
    refine ⟨r2, w2, tl p 1, _, late p d, rfl, hr2.mono s20, hw2, dyl, fun J6 q6 => ?_⟩
    walk_at "rd"
    have key : wsum (wat [x0, x1] [x2]) 0 (digits p d) = x0 * head0 p d + wsum (wat [x1] [x2]) 0 (digits (tl p 1) (late p d)) := by
      unfold head0
      have hw : ∀ k, wat [x0, x1] [x2] (k + 1) = wat [x1] [x2] k := by
        intro k
        unfold wat atO
        simp only [List.length_cons, List.length_nil]
        by_cases c : k < 1
        · have : k = 0 := by omega
          subst this; rfl
        · rw [if_neg (by omega), if_neg (by omega)]
          congr 2
      by_cases c : d ≤ 0
      · have e : d = 0 := by omega
        subst e
        rw [if_pos c, late_zero gd, digits_zero p (by omega), digits_zero (tl p 1) (by omega)]
        simp [wsum]
      · rw [digits_pos gd (by omega), if_neg c]
        show wat [x0, x1] [x2] 0 * _ + wsum _ (0 + 1) _ = _
        rw [wsum_tl]
        have : (fun g => wat [x0, x1] [x2] (g + 1)) = wat [x1] [x2] := funext hw
        rw [this]
        rfl
    rw [key]
    refine rd_iteNF rfl ?_
    walk_at "rd"
    exact ⟨v9, v10, v11, v12, v13, v14, v15, _, v17, v18, v19, F1.mono (s20.trans q6), by rw [hp]; rfl⟩
  clear v9 v10 v11 v12 v13 v14 v15 v16 v17 v18 v19 F s1 hl hb hx0 hx1 hx2 eD
  rintro σ H2 ⟨v9, v10, v11, v12, v13, v14, v15, v16, v17, v18, v19, F, rfl⟩
  rw [hp]
  have hr1 := F.h1
  have hr2 := F.h2
  rw [hp] at hr1 hr2
  -- first days with so many
  walk_at "rd"
  refine ⟨a, _, rfl, F.dr, by decide, fun H3 m s3 m0 m1' => ?_⟩
  walk_at "rd"
  refine ⟨t, f, q, 0, rfl, F.tp.mono s3, ok.ne, by decide, fun u eu => ?_⟩
  rw [hp] at eu
  walk_at "rd"
  refine rd_ixT eu (by rfl) ?_
  have e0 : (0 : Int).toNat = 0 := rfl
  rw [e0]
  walk_at "rd"
  refine rd_ite (fun c => ?_) (fun c => ?_)
  · exact k _
  · walk_at "rd"
    refine ⟨r1, p, m, rfl, hr1.mono s3, ⟨m0, by omega⟩, fun H4 s4 => ?_⟩
    walk_at "rd"
    refine ⟨r2, tl p 1, _, rfl, hr2.mono (s3.trans s4), ⟨by omega, by omega⟩, fun H5 s5 => ?_⟩
    walk_at "rd"
    rw [← firstWith_tl gd (by omega), decide_eq_true rfl]
    exact k _
end
end Sl
namespace Sl
open PySem L2 C8 StX
section
variable {K : PySem.W.Frag} {h : Heap} {mg : Str → Option Value} {x qual : Str} {st : Stmt} {f C : Addr} {oc dV kV doc pm cdv ct : Value} {od an : Option Addr} {osl : Array (Option Value)}
theorem dmk (X : K.In h) (G : h.Ns mainGlobals mg) (a : PySem.W.nsIn K mainGlobals x = some (some (.ref f))) (l : K.lookup f = some ⟨oc, od, .func (PySem.W.fnOf x x (fnArgs st) (fnBody st) (fnScope st) .none kV doc pm an cdv ct), osl⟩)
    (c : PySem.W.codeIn K cdv x = true) (k : PySem.W.keepIn K (.ref f) = true) : ∃ f fd, C8.Def K mg x st f fd ∧ fd.defaults = .none :=
  ⟨f, _, ⟨⟨_, _, _, _, _, _, _, _, _, _, rfl, l, c⟩, PySem.W.mg_of X G a, k⟩, rfl⟩
theorem mmk (a : PySem.W.findIn K (.ref C) x = some (some (.ref f))) (i : PySem.W.isFn K (.ref f) = true) (l : K.lookup f = some ⟨oc, od, .func (PySem.W.fnOf x qual (fnArgs st) (fnBody st) (fnScope st) .none kV doc pm an cdv ct), osl⟩)
    (c : PySem.W.codeIn K cdv qual = true) (k : PySem.W.keepIn K (.ref f) = true) (n : PySem.W.fnIn K f = true) : ∃ f fd, C8.Fun K x qual st f fd ∧ fd.defaults = .none ∧ Meth K C x f ∧ PySem.W.fnIn K f = true :=
  ⟨f, _, ⟨_, _, _, _, _, _, _, _, _, _, rfl, l, c⟩, rfl, ⟨a, i, k⟩, n⟩
theorem mkmk (m : PySem.W.makesIn K C = true) (a : PySem.W.findIn K (.ref C) "__init__" = some (some (.ref f))) (i : PySem.W.isFn K (.ref f) = true) (l : K.lookup f = some ⟨oc, od, .func (PySem.W.fnOf "__init__" qual (fnArgs st) (fnBody st) (fnScope st) .none kV doc pm an cdv ct), osl⟩)
    (c : PySem.W.codeIn K cdv qual = true) (k : PySem.W.keepIn K (.ref C) = true) : ∃ f fd, C8.Fun K "__init__" qual st f fd ∧ fd.defaults = .none ∧ Mk K C f :=
  ⟨f, _, ⟨_, _, _, _, _, _, _, _, _, _, rfl, l, c⟩, rfl, ⟨m, a, i, k⟩⟩
theorem nak (a : PySem.W.findIn K (.ref C) x = some none) : NoAttr K C x := a
theorem gmk {n : Int} {t : Tok} (X : K.In h) (G : h.Ns mainGlobals mg) (a : PySem.W.nsIn K mainGlobals x = some (some (.int n t))) : ∃ u, mg x = some u ∧ RelV (.int n) u := ⟨_, PySem.W.mg_of X G a, t, rfl⟩
end
theorem dmk_check_number {K : PySem.W.Frag} {h : Heap} {mg : Str → Option Value} {f T : Addr} {oc kV doc pm cdv ct tc : Value} {od an td : Option Addr} {osl tsl : Array (Option Value)} {n : Nat} {t : Tok} (X : K.In h) (G : h.Ns mainGlobals mg)
    (a : PySem.W.nsIn K mainGlobals "check_number" = some (some (.ref f))) (l : K.lookup f = some ⟨oc, od, .func (PySem.W.fnOf "check_number" "check_number" (fnArgs s_check_number) (fnBody s_check_number) (fnScope s_check_number) (.ref T) kV doc pm an cdv ct), osl⟩)
    (c : PySem.W.codeIn K cdv "check_number" = true) (k : PySem.W.keepIn K (.ref f) = true) (lT : K.lookup T = some ⟨tc, td, .seq #[.int 0 t] n, tsl⟩) :
    ∃ f fd, C8.Def K mg "check_number" s_check_number f fd ∧ (∃ ds, Vals [] ds ∧ Binds K fd P_check_number ds) ∧ (∃ ds, Vals [.int 0] ds ∧ Binds K fd P_check_number ds) := by
  have F : FunD K "check_number" "check_number" (fnArgs s_check_number) (fnBody s_check_number) (fnScope s_check_number) [.int 0] [] f (PySem.W.fnOf "check_number" "check_number" (fnArgs s_check_number) (fnBody s_check_number) (fnScope s_check_number) (.ref T) kV doc pm an cdv ct) :=
    ⟨⟨oc, od, .ref T, kV, doc, pm, an, cdv, ct, osl, rfl, l, c, .inr ⟨by simp, T, _, [.int 0 t], n, rfl, lT, rfl, .cons ⟨t, rfl⟩ .nil⟩, .inl rfl⟩, k⟩
  refine ⟨f, _, ⟨⟨_, _, _, _, _, _, _, _, _, _, rfl, l, c⟩, PySem.W.mg_of X G a, k⟩, ?_, ?_⟩
  · exact F.binds1 2 1 (by simp) rfl fun T kV doc pm an cdv ct us its h1 h2 => match us, its, h1, h2 with | [_, _], [_], _, _ => ⟨_, rfl, rfl⟩
  · exact F.binds1 1 0 (by simp) rfl fun T kV doc pm an cdv ct us its h1 h2 => match us, its, h1, h2 with | [_], [_], _, _ => ⟨_, rfl, rfl⟩
end Sl
namespace Sl
open PySem L2 C8 StX
theorem fin {P : Program} {w : World} {K : PySem.W.Frag} {h : Heap} {mg : Str → Option Value} {fa C_Rule C_Weights : Addr} (T : TX K mg C_Rule C_Weights) (X : K.In h) (G : h.Ns mainGlobals mg) (hfa : mg "law" = some (.ref fa)) :
    ∃ fd : FuncData, (∀ (s : Shared) (v : Value), BindsTo s fd ⟨[v], []⟩ [("_law_script", v)]) ∧ ∀ base : Heap, K.In base → base.Ns mainGlobals mg → FnOk P w K mg base C8.CX0 6 fa fd ["_law_script"] (spLaw K) := by
  obtain ⟨f, fd, D, dn⟩ := T.d_law
  have e := hfa.symm.trans D.mgf
  cases e
  refine ⟨fd, fun s v => ?_, fun base _ _ => fn_law T D⟩
  obtain ⟨oc, od, dV, kV, doc, pm, an, cdv, ct, osl, rfl, lk, hcd⟩ := D.fn.ex
  have e : dV = .none := dn
  subst e
  exact .of_eq rfl
end Sl
open PySem PySem.W PyProof.Rows
set_option maxRecDepth 100000 in
set_option maxHeartbeats 0 in
theorem PySem.Challenge.cw_siltstore_k53_whole_tails_holds : PySem.Challenge.rw_siltstore_k53_whole_tails.Holds := by
  refine headQ ?_
  k_fill
  refine L2.walk_ofK (sp := Sl.spLaw) (CX := C8.CX0) (n := 63) (k := 6) (x := "_law_script") rfl (by decide) rfl ⟨rfl, by decide, by decide⟩ (fun w h Y => PySem.W.kIn_of Y) ?F (fun _ _ a ns hl _ hS => ⟨a, ns, rfl, hS, hl, fun _ => rfl⟩) fun _ _ _ _ z => z
  case F =>
    intro w mg fa h KX G hmg
    refine' Sl.fin ?T KX G hmg
    case T =>
      refine' Sl.TX.mk (PySem.W.mg_of KX G ?q1) (PySem.W.mg_of KX G ?q2) (Sl.dmk KX G ?q3 ?q4 ?q5 ?q6) (Sl.dmk KX G ?q7 ?q8 ?q9 ?q10) (Sl.dmk KX G ?q11 ?q12 ?q13 ?q14) (Sl.mkmk ?q15 ?q16 ?q17 ?q18 ?q19 ?q20) (Sl.mmk ?q21 ?q22 ?q23 ?q24 ?q25 ?q26) (Sl.mmk ?q27 ?q28 ?q29 ?q30 ?q31 ?q32) (Sl.mmk ?q33 ?q34 ?q35 ?q36 ?q37 ?q38) (Sl.mmk ?q39 ?q40 ?q41 ?q42 ?q43 ?q44) (Sl.mmk ?q45 ?q46 ?q47 ?q48 ?q49 ?q50) (Sl.dmk KX G ?q51 ?q52 ?q53 ?q54) (Sl.dmk_check_number KX G ?q55 ?q56 ?q57 ?q58 ?q59) (Sl.dmk KX G ?q60 ?q61 ?q62 ?q63) (Sl.dmk KX G ?q64 ?q65 ?q66 ?q67) (Sl.dmk KX G ?q68 ?q69 ?q70 ?q71) (Sl.dmk KX G ?q72 ?q73 ?q74 ?q75) (Sl.dmk KX G ?q76 ?q77 ?q78 ?q79) (Sl.dmk KX G ?q80 ?q81 ?q82 ?q83) (Sl.dmk KX G ?q84 ?q85 ?q86 ?q87) (Sl.dmk KX G ?q88 ?q89 ?q90 ?q91) (Sl.dmk KX G ?q92 ?q93 ?q94 ?q95) (Sl.dmk KX G ?q96 ?q97 ?q98 ?q99) (Sl.dmk KX G ?q100 ?q101 ?q102 ?q103) (Sl.mkmk ?q104 ?q105 ?q106 ?q107 ?q108 ?q109) (Sl.mmk ?q110 ?q111 ?q112 ?q113 ?q114 ?q115) (Sl.mmk ?q116 ?q117 ?q118 ?q119 ?q120 ?q121) (Sl.mmk ?q122 ?q123 ?q124 ?q125 ?q126 ?q127) (Sl.mmk ?q128 ?q129 ?q130 ?q131 ?q132 ?q133) (Sl.dmk KX G ?q134 ?q135 ?q136 ?q137) (Sl.dmk KX G ?q138 ?q139 ?q140 ?q141) (Sl.dmk KX G ?q142 ?q143 ?q144 ?q145) (Sl.dmk KX G ?q146 ?q147 ?q148 ?q149) (Sl.dmk KX G ?q150 ?q151 ?q152 ?q153) (Sl.dmk KX G ?q154 ?q155 ?q156 ?q157) (Sl.dmk KX G ?q158 ?q159 ?q160 ?q161) (Sl.dmk KX G ?q162 ?q163 ?q164 ?q165) (Sl.dmk KX G ?q166 ?q167 ?q168 ?q169) (Sl.dmk KX G ?q170 ?q171 ?q172 ?q173) (Sl.dmk KX G ?q174 ?q175 ?q176 ?q177) (⟨?q178, ?q179, ?q180, ?q181⟩) (⟨?q182, ?q183, ?q184, ?q185⟩) (Sl.nak ?q186) (Sl.nak ?q187) (⟨?q188, ?q189, ?q190, ?q191⟩) (⟨?q192, ?q193, ?q194, ?q195⟩) (Sl.nak ?q196) (Sl.nak ?q197) (Sl.gmk KX G ?q198) (Sl.gmk KX G ?q199) (Sl.gmk KX G ?q200) (Sl.gmk KX G ?q201) (PySem.W.mg_none_of KX G ?q202) (PySem.W.mg_none_of KX G ?q203) (PySem.W.mg_none_of KX G ?q204) (PySem.W.mg_none_of KX G ?q205) (PySem.W.mg_none_of KX G ?q206) (PySem.W.mg_none_of KX G ?q207) (PySem.W.mg_none_of KX G ?q208) (PySem.W.mg_none_of KX G ?q209) (PySem.W.mg_none_of KX G ?q210) (PySem.W.mg_none_of KX G ?q211) (PySem.W.mg_none_of KX G ?q212) (PySem.W.mg_none_of KX G ?q213) (PySem.W.mg_none_of KX G ?q214) (PySem.W.mg_none_of KX G ?q215) (PySem.W.mg_none_of KX G ?q216) (PySem.W.mg_none_of KX G ?q217) (PySem.W.mg_none_of KX G ?q218) (PySem.W.mg_none_of KX G ?q219) (PySem.W.mg_none_of KX G ?q220) (PySem.W.mg_none_of KX G ?q221)
      (case q1 => k_is)
      (case q2 => k_is)
      (case q3 => k_is)
      (case q4 => k_is)
      (case q5 => k_is)
      (case q6 => k_is)
      (case q7 => k_is)
      (case q8 => k_is)
      (case q9 => k_is)
      (case q10 => k_is)
      (case q11 => k_is)
      (case q12 => k_is)
      (case q13 => k_is)
      (case q14 => k_is)
      (case q15 => k_is)
      (case q16 => k_is)
      (case q17 => k_is)
      (case q18 => k_is)
      (case q19 => k_is)
      (case q20 => k_is)
      (case q21 => k_is)
      (case q22 => k_is)
      (case q23 => k_is)
      (case q24 => k_is)
      (case q25 => k_is)
      (case q26 => k_is)
      (case q27 => k_is)
      (case q28 => k_is)
      (case q29 => k_is)
      (case q30 => k_is)
      (case q31 => k_is)
      (case q32 => k_is)
      (case q33 => k_is)
      (case q34 => k_is)
      (case q35 => k_is)
      (case q36 => k_is)
      (case q37 => k_is)
      (case q38 => k_is)
      (case q39 => k_is)
      (case q40 => k_is)
      (case q41 => k_is)
      (case q42 => k_is)
      (case q43 => k_is)
      (case q44 => k_is)
      (case q45 => k_is)
      (case q46 => k_is)
      (case q47 => k_is)
      (case q48 => k_is)
      (case q49 => k_is)
      (case q50 => k_is)
      (case q51 => k_is)
      (case q52 => k_is)
      (case q53 => k_is)
      (case q54 => k_is)
      (case q55 => k_is)
      (case q56 => k_is)
      (case q57 => k_is)
      (case q58 => k_is)
      (case q59 => k_is)
      (case q60 => k_is)
      (case q61 => k_is)
      (case q62 => k_is)
      (case q63 => k_is)
      (case q64 => k_is)
      (case q65 => k_is)
      (case q66 => k_is)
      (case q67 => k_is)
      (case q68 => k_is)
      (case q69 => k_is)
      (case q70 => k_is)
      (case q71 => k_is)
      (case q72 => k_is)
      (case q73 => k_is)
      (case q74 => k_is)
      (case q75 => k_is)
      (case q76 => k_is)
      (case q77 => k_is)
      (case q78 => k_is)
      (case q79 => k_is)
      (case q80 => k_is)
      (case q81 => k_is)
      (case q82 => k_is)
      (case q83 => k_is)
      (case q84 => k_is)
      (case q85 => k_is)
      (case q86 => k_is)
      (case q87 => k_is)
      (case q88 => k_is)
      (case q89 => k_is)
      (case q90 => k_is)
      (case q91 => k_is)
      (case q92 => k_is)
      (case q93 => k_is)
      (case q94 => k_is)
      (case q95 => k_is)
      (case q96 => k_is)
      (case q97 => k_is)
      (case q98 => k_is)
      (case q99 => k_is)
      (case q100 => k_is)
      (case q101 => k_is)
      (case q102 => k_is)
      (case q103 => k_is)
      (case q104 => k_is)
      (case q105 => k_is)
      (case q106 => k_is)
      (case q107 => k_is)
      (case q108 => k_is)
      (case q109 => k_is)
      (case q110 => k_is)
      (case q111 => k_is)
      (case q112 => k_is)
      (case q113 => k_is)
      (case q114 => k_is)
      (case q115 => k_is)
      (case q116 => k_is)
      (case q117 => k_is)
      (case q118 => k_is)
      (case q119 => k_is)
      (case q120 => k_is)
      (case q121 => k_is)
      (case q122 => k_is)
      (case q123 => k_is)
      (case q124 => k_is)
      (case q125 => k_is)
      (case q126 => k_is)
      (case q127 => k_is)
      (case q128 => k_is)
      (case q129 => k_is)
      (case q130 => k_is)
      (case q131 => k_is)
      (case q132 => k_is)
      (case q133 => k_is)
      (case q134 => k_is)
      (case q135 => k_is)
      (case q136 => k_is)
      (case q137 => k_is)
      (case q138 => k_is)
      (case q139 => k_is)
      (case q140 => k_is)
      (case q141 => k_is)
      (case q142 => k_is)
      (case q143 => k_is)
      (case q144 => k_is)
      (case q145 => k_is)
      (case q146 => k_is)
      (case q147 => k_is)
      (case q148 => k_is)
      (case q149 => k_is)
      (case q150 => k_is)
      (case q151 => k_is)
      (case q152 => k_is)
      (case q153 => k_is)
      (case q154 => k_is)
      (case q155 => k_is)
      (case q156 => k_is)
      (case q157 => k_is)
      (case q158 => k_is)
      (case q159 => k_is)
      (case q160 => k_is)
      (case q161 => k_is)
      (case q162 => k_is)
      (case q163 => k_is)
      (case q164 => k_is)
      (case q165 => k_is)
      (case q166 => k_is)
      (case q167 => k_is)
      (case q168 => k_is)
      (case q169 => k_is)
      (case q170 => k_is)
      (case q171 => k_is)
      (case q172 => k_is)
      (case q173 => k_is)
      (case q174 => k_is)
      (case q175 => k_is)
      (case q176 => k_is)
      (case q177 => k_is)
      (case q178 => k_is)
      (case q179 => k_is)
      (case q180 => k_is)
      (case q181 => k_is)
      (case q182 => k_is)
      (case q183 => k_is)
      (case q184 => k_is)
      (case q185 => k_is)
      (case q186 => k_is)
      (case q187 => k_is)
      (case q188 => k_is)
      (case q189 => k_is)
      (case q190 => k_is)
      (case q191 => k_is)
      (case q192 => k_is)
      (case q193 => k_is)
      (case q194 => k_is)
      (case q195 => k_is)
      (case q196 => k_is)
      (case q197 => k_is)
      (case q198 => k_is)
      (case q199 => k_is)
      (case q200 => k_is)
      (case q201 => k_is)
      (case q202 => k_is)
      (case q203 => k_is)
      (case q204 => k_is)
      (case q205 => k_is)
      (case q206 => k_is)
      (case q207 => k_is)
      (case q208 => k_is)
      (case q209 => k_is)
      (case q210 => k_is)
      (case q211 => k_is)
      (case q212 => k_is)
      (case q213 => k_is)
      (case q214 => k_is)
      (case q215 => k_is)
      (case q216 => k_is)
      (case q217 => k_is)
      (case q218 => k_is)
      (case q219 => k_is)
      (case q220 => k_is)
      (case q221 => k_is)
#print axioms PySem.Challenge.cw_siltstore_k53_whole_tails_holds
