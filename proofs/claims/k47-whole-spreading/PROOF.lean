import PyProof.Rows.All
import Wide.All
import OpenK.AllK
import Wide.FinOn
import HandS.ForMost
import HandS.Codes
import HandS.Star
import HandS.Wide
import HandS.IsInst
import HandS.TupAny
import HandS.TupMul
import HandS.Style
import HandS.Defaults
import HandS.TryOnly
import HandS.ExcOwn
import PySem.Challenge.RW_siltstore_k47_whole_spreading
import HandS.DictComp
import HandS.OwnEq
import HandS.Conv
import HandS.More
import HandS.Sort
import HandS.Nested
import HandS.EndTab
import HandS.SortKw
import HandS.NoneIn
import HandS.Small
import KE.SortKeyHeap
import KE.SortData
import PyProof.Conv_bool
set_option Elab.async false
set_option linter.all false
set_option maxRecDepth 100000
set_option maxHeartbeats 4000000
set_option exponentiation.threshold 9000
section
open PySem PySem.W PyProof.Rows
set_option maxHeartbeats 0
open_top headQ for PySem.Challenge.rw_siltstore_k47_whole_spreading
end
/-! Plain mathematics of rules: pairs by grades, sizes, digits. No program in sight. -/
set_option linter.all false
namespace Silt
abbrev Pr := Nat → Int × Int
structure Good (p : Pr) : Prop where
  lo : ∀ g, 2 ≤ (p g).2
  le : ∀ g, (p g).2 ≤ (p g).1
  hi : ∀ g, (p g).1 ≤ 12
/-- the rule without its first k grades -/
def tl (p : Pr) (k : Nat) : Pr := fun g => p (g + k)
theorem Good.tl {p : Pr} (h : Good p) (k : Nat) : Good (tl p k) := ⟨fun g => h.lo _, fun g => h.le _, fun g => h.hi _⟩
theorem tl_tl (p : Pr) (j k : Nat) : tl (tl p j) k = tl p (j + k) := by
  funext g; simp only [tl]; congr 1; omega
theorem tl_zero (p : Pr) : tl p 0 = p := rfl
def size (p : Pr) : Nat → Int
  | 0 => 1
  | g + 1 => size p g * (p g).2
def owed (p : Pr) : Nat → Int
  | 0 => 0
  | g + 1 => owed p g + size p g * ((p g).1 - (p g).2)
theorem size_pos {p : Pr} (h : Good p) : ∀ g, 0 < size p g
  | 0 => by show (0 : Int) < 1; decide
  | g + 1 => Int.mul_pos (size_pos h g) (by have := h.lo g; omega)
theorem owed_nn {p : Pr} (h : Good p) : ∀ g, 0 ≤ owed p g
  | 0 => by show (0 : Int) ≤ 0; decide
  | g + 1 => by
    have h1 := owed_nn h g
    have h2 := size_pos h g
    have h3 := h.le g
    have h4 : 0 ≤ size p g * ((p g).1 - (p g).2) := Int.mul_nonneg (by omega) (by omega)
    show 0 ≤ owed p g + size p g * ((p g).1 - (p g).2)
    omega
theorem size_tl (p : Pr) : ∀ g, size p (g + 1) = (p 0).2 * size (tl p 1) g
  | 0 => by simp [size]
  | g + 1 => by
    show size p (g + 1) * (p (g + 1)).2 = (p 0).2 * (size (tl p 1) g * (p (g + 1)).2)
    rw [size_tl p g, Int.mul_assoc]
theorem owed_tl (p : Pr) : ∀ g, owed p (g + 1) = ((p 0).1 - (p 0).2) + (p 0).2 * owed (tl p 1) g
  | 0 => by simp [owed, size]
  | g + 1 => by
    show owed p (g + 1) + size p (g + 1) * ((p (g + 1)).1 - (p (g + 1)).2) = _ + (p 0).2 * (owed (tl p 1) g + size (tl p 1) g * ((p (g + 1)).1 - (p (g + 1)).2))
    rw [owed_tl p g, size_tl p g, Int.mul_add, Int.mul_assoc]
    omega
def made (p : Pr) (g : Nat) (d : Int) : Int := max 0 ((d - owed p g) / size p g)
theorem made_nn (p : Pr) (g : Nat) (d : Int) : 0 ≤ made p g d := by unfold made; omega
/-- how many layers of the next grade there have been, of so many -/
def late (p : Pr) (d : Int) : Int := max 0 ((d - (p 0).1 + (p 0).2) / (p 0).2)
theorem made_zero (p : Pr) {d : Int} (h : 0 ≤ d) : made p 0 d = d := by simp [made, owed, size]; omega
theorem made_one (p : Pr) (d : Int) : made p 1 d = late p d := by
  simp only [made, late, owed, size]
  have e : d - (0 + 1 * ((p 0).1 - (p 0).2)) = d - (p 0).1 + (p 0).2 := by omega
  rw [e, Int.one_mul]
theorem ediv_shift {a b o s : Int} (hb : 0 < b) (hs : 0 < s) : (a - b * o) / (b * s) = (a / b - o) / s := by
  rw [← Int.ediv_ediv_of_nonneg (by omega : (0:Int) ≤ b)]
  congr 1
  have : a - b * o = a + b * (-o) := by rw [Int.mul_neg]; omega
  rw [this, Int.add_mul_ediv_left _ _ (by omega : b ≠ 0)]
  omega
theorem neg_ediv_le {a s : Int} (ha : a ≤ 0) (hs : 0 < s) : a / s ≤ 0 := by
  have := Int.ediv_le_ediv hs ha
  simpa using this
/-- the rule without its first grade, on the day that is the number of layers of grade 1 -/
theorem made_tl {p : Pr} (h : Good p) (g : Nat) (d : Int) : made p (g + 1) d = made (tl p 1) g (late p d) := by
  have hb : 0 < (p 0).2 := by have := h.lo 0; omega
  have hs := size_pos (h.tl 1) g
  have ho := owed_nn (h.tl 1) g
  unfold made
  rw [size_tl, owed_tl]
  have e : d - ((p 0).1 - (p 0).2 + (p 0).2 * owed (tl p 1) g) = (d - (p 0).1 + (p 0).2) - (p 0).2 * owed (tl p 1) g := by omega
  rw [e, ediv_shift hb hs]
  unfold late
  by_cases q : 0 ≤ (d - (p 0).1 + (p 0).2) / (p 0).2
  · have e2 : max 0 ((d - (p 0).1 + (p 0).2) / (p 0).2) = (d - (p 0).1 + (p 0).2) / (p 0).2 := by omega
    rw [e2]
  · have e2 : max 0 ((d - (p 0).1 + (p 0).2) / (p 0).2) = 0 := by omega
    rw [e2]
    have q1 := neg_ediv_le (a := (d - (p 0).1 + (p 0).2) / (p 0).2 - owed (tl p 1) g) (by omega) hs
    have q2 := neg_ediv_le (a := 0 - owed (tl p 1) g) (by omega) hs
    omega
theorem late_lt {p : Pr} (h : Good p) {d : Int} (hd : 0 < d) : late p d < d := by
  have h1 := h.lo 0
  have h2 := h.le 0
  unfold late
  have : (d - (p 0).1 + (p 0).2) / (p 0).2 < d := by
    refine Int.ediv_lt_of_lt_mul (by omega) ?_
    have : d * 2 ≤ d * (p 0).2 := Int.mul_le_mul_of_nonneg_left h1 (by omega)
    omega
  omega
theorem late_nn (p : Pr) (d : Int) : 0 ≤ late p d := by unfold late; omega
/-- the next grade's number from this one's -/
theorem made_next {p : Pr} (h : Good p) : ∀ (g : Nat) (d : Int), 0 ≤ d → made p (g + 1) d = late (tl p g) (made p g d)
  | 0, d, hd => by rw [made_one, made_zero p hd]; rfl
  | g + 1, d, hd => by
    rw [made_tl h (g + 1), made_next (h.tl 1) g _ (late_nn p d), made_tl h g, tl_tl, Nat.add_comm 1 g]
/-! ### digits -/
def digF : Nat → Pr → Int → List Int
  | 0, _, _ => []
  | n + 1, p, d => if d ≤ 0 then [] else (d - (p 0).2 * late p d) :: digF n (tl p 1) (late p d)
def digits (p : Pr) (d : Int) : List Int := digF d.toNat p d
theorem digF_more : ∀ (n m : Nat) (p : Pr) (d : Int), Good p → d ≤ n → d ≤ m → digF n p d = digF m p d
  | 0, 0, _, _, _, _, _ => rfl
  | 0, m + 1, p, d, _, h, _ => by show [] = if d ≤ 0 then [] else _; rw [if_pos (by omega)]
  | n + 1, 0, p, d, _, _, h => by show (if d ≤ 0 then [] else _) = []; rw [if_pos (by omega)]
  | n + 1, m + 1, p, d, g, h, h' => by
    show (if d ≤ 0 then [] else _) = (if d ≤ 0 then [] else _)
    by_cases c : d ≤ 0
    · rw [if_pos c, if_pos c]
    · rw [if_neg c, if_neg c]
      have := late_lt g (d := d) (by omega)
      rw [digF_more n m (tl p 1) (late p d) (g.tl 1) (by omega) (by omega)]
theorem digits_eq {p : Pr} (g : Good p) (d : Int) : digits p d = if d ≤ 0 then [] else (d - (p 0).2 * late p d) :: digits (tl p 1) (late p d) := by
  unfold digits
  by_cases c : d ≤ 0
  · rw [if_pos c]
    have : d.toNat = 0 := by omega
    rw [this]; rfl
  · rw [if_neg c]
    obtain ⟨n, hn⟩ : ∃ n, d.toNat = n + 1 := ⟨d.toNat - 1, by omega⟩
    rw [hn]
    show (if d ≤ 0 then [] else _) = _
    rw [if_neg c]
    have := late_lt g (d := d) (by omega)
    have := late_nn p d
    rw [digF_more n (late p d).toNat (tl p 1) (late p d) (g.tl 1) (by omega) (by omega)]
theorem digits_zero (p : Pr) {d : Int} (h : d ≤ 0) : digits p d = [] := by
  unfold digits
  have : d.toNat = 0 := by omega
  rw [this]; rfl
theorem digits_pos {p : Pr} (g : Good p) {d : Int} (h : 0 < d) : digits p d = (d - (p 0).2 * late p d) :: digits (tl p 1) (late p d) := by
  rw [digits_eq g, if_neg (by omega)]
/-- the digit's bounds -/
theorem digit_lt {p : Pr} (g : Good p) {d : Int} (h : 0 < d) : d - (p 0).2 * late p d < (p 0).1 ∧ 0 ≤ d - (p 0).2 * late p d ∧ (0 < late p d → (p 0).1 - (p 0).2 ≤ d - (p 0).2 * late p d) ∧ (late p d = 0 → 1 ≤ d - (p 0).2 * late p d) := by
  have h1 := g.lo 0
  have h2 := g.le 0
  unfold late
  generalize (p 0).1 = w at *
  generalize (p 0).2 = b at *
  have e1 := Int.emod_add_mul_ediv (d - w + b) b
  have e2 := Int.emod_nonneg (d - w + b) (by omega : b ≠ 0)
  have e3 := Int.emod_lt_of_pos (d - w + b) (by omega : 0 < b)
  by_cases q : 0 ≤ (d - w + b) / b
  · have e : max 0 ((d - w + b) / b) = (d - w + b) / b := by omega
    rw [e]
    refine ⟨by omega, by omega, by omega, fun z => ?_⟩
    rw [z] at e1 ⊢
    omega
  · have e : max 0 ((d - w + b) / b) = 0 := by omega
    rw [e]
    have : (d - w + b) / b ≤ -1 := by omega
    have : b * ((d - w + b) / b) ≤ b * (-1) := Int.mul_le_mul_of_nonneg_left this (by omega)
    refine ⟨by omega, by omega, by omega, by omega⟩
/-- what digits are worth -/
def value (p : Pr) : List Int → Int
  | [] => 0
  | x :: xs => x + (p 0).2 * value (tl p 1) xs
theorem value_digF : ∀ (n : Nat) (p : Pr) (d : Int), Good p → 0 ≤ d → d ≤ n → value p (digF n p d) = d
  | 0, _, _, _, _, _ => by show (0 : Int) = _; omega
  | n + 1, p, d, g, h0, h => by
    show value p (if d ≤ 0 then [] else _) = d
    by_cases c : d ≤ 0
    · rw [if_pos c]; show (0 : Int) = _; omega
    · rw [if_neg c]
      show _ + (p 0).2 * value (tl p 1) _ = d
      have := late_lt g (d := d) (by omega)
      rw [value_digF n (tl p 1) (late p d) (g.tl 1) (late_nn p d) (by omega)]
      omega
theorem value_digits {p : Pr} (g : Good p) {d : Int} (h : 0 ≤ d) : value p (digits p d) = d := value_digF _ p d g h (by omega)
/-- the digits of a day are fit to be told -/
def Valid (p : Pr) : List Int → Prop
  | [] => True
  | [x] => 1 ≤ x ∧ x < (p 0).1
  | x :: y :: ys => (p 0).1 - (p 0).2 ≤ x ∧ x < (p 0).1 ∧ Valid (tl p 1) (y :: ys)
theorem valid_digF : ∀ (n : Nat) (p : Pr) (d : Int), Good p → 0 ≤ d → d ≤ n → Valid p (digF n p d)
  | 0, _, _, _, _, _ => trivial
  | n + 1, p, d, g, h0, h => by
    show Valid p (if d ≤ 0 then [] else _)
    by_cases c : d ≤ 0
    · rw [if_pos c]; trivial
    · rw [if_neg c]
      have b := digit_lt g (d := d) (by omega)
      have l := late_lt g (d := d) (by omega)
      have l0 := late_nn p d
      have ih := valid_digF n (tl p 1) (late p d) (g.tl 1) l0 (by omega)
      cases e : digF n (tl p 1) (late p d) with
      | nil =>
        have v := value_digF n (tl p 1) (late p d) (g.tl 1) l0 (by omega)
        rw [e] at v
        have v' : late p d = 0 := v.symm
        exact ⟨b.2.2.2 v', b.1⟩
      | cons y ys =>
        rw [e] at ih
        have : 0 < late p d := by
          rcases Int.lt_or_eq_of_le l0 with q | q
          · exact q
          · rw [← q] at e
            cases n <;> simp [digF] at e
        exact ⟨b.2.2.1 this, b.1, ih⟩
theorem valid_digits {p : Pr} (g : Good p) {d : Int} (h : 0 ≤ d) : Valid p (digits p d) := valid_digF _ p d g h (by omega)
theorem digits_nil {p : Pr} (g : Good p) {d : Int} (h : 0 ≤ d) : digits p d = [] ↔ d = 0 := by
  constructor
  · intro e
    have v := value_digits g h
    rw [e] at v
    exact v.symm
  · intro e; exact digits_zero p (by omega)
end Silt
set_option linter.all false
namespace Silt
theorem size_ge {p : Pr} (h : Good p) : ∀ g : Nat, ((2 ^ g : Nat) : Int) ≤ size p g
  | 0 => by simp [size]
  | g + 1 => by
    have h1 := size_ge h g
    have h2 := h.lo g
    show _ ≤ size p g * (p g).2
    have e : ((2 ^ (g + 1) : Nat) : Int) = ((2 ^ g : Nat) : Int) * 2 := by rw [Nat.pow_succ]; omega
    rw [e]
    exact Int.mul_le_mul h1 h2 (by omega) (by have := size_pos h g; omega)
theorem lt_two_pow' (g : Nat) : (g : Int) < ((2 ^ g : Nat) : Int) := by
  have := @Nat.lt_two_pow_self g
  omega
theorem made_pos {p : Pr} (h : Good p) {g : Nat} {d : Int} (hm : 0 < made p g d) : size p g ≤ d := by
  have h1 := size_pos h g
  have h2 := owed_nn h g
  unfold made at hm
  have h3 : 1 ≤ (d - owed p g) / size p g := by omega
  have h4 := Int.ediv_mul_le (d - owed p g) (by omega : size p g ≠ 0)
  have h5 : 1 * size p g ≤ (d - owed p g) / size p g * size p g := Int.mul_le_mul_of_nonneg_right h3 (by omega)
  omega
theorem made_le {p : Pr} (h : Good p) (g : Nat) {d : Int} (hd : 0 ≤ d) : made p g d ≤ d := by
  have h1 := size_pos h g
  have h2 := owed_nn h g
  unfold made
  have h3 : (d - owed p g) / size p g ≤ d := by
    by_cases q : 0 ≤ (d - owed p g) / size p g
    · have h4 := Int.ediv_mul_le (d - owed p g) (by omega : size p g ≠ 0)
      have h5 : (d - owed p g) / size p g * 1 ≤ (d - owed p g) / size p g * size p g := Int.mul_le_mul_of_nonneg_left (by omega) q
      omega
    · omega
  omega
/-! ### bakes -/
def isBaked (p : Pr) (g : Nat) (d : Int) : Bool := decide (owed p (g + 1) + size p (g + 1) ≤ d) && decide ((d - owed p (g + 1)) % size p (g + 1) = 0)
theorem isBaked_iff {p : Pr} {g : Nat} {d : Int} : isBaked p g d = true ↔ owed p (g + 1) + size p (g + 1) ≤ d ∧ (d - owed p (g + 1)) % size p (g + 1) = 0 := by
  unfold isBaked
  rw [Bool.and_eq_true, decide_eq_true_iff, decide_eq_true_iff]
theorem isBaked_size {p : Pr} (h : Good p) {g : Nat} {d : Int} (b : isBaked p g d = true) : size p (g + 1) ≤ d := by
  have := (isBaked_iff.mp b).1
  have := owed_nn h (g + 1)
  omega
theorem isBaked_lt {p : Pr} (h : Good p) {g : Nat} {d : Int} (b : isBaked p g d = true) : (g : Int) + 1 < d := by
  have h1 := isBaked_size h b
  have h2 := size_ge h (g + 1)
  have h3 := lt_two_pow' (g + 1)
  omega
def bkF : Nat → Pr → Int → Nat → List Int
  | 0, _, _, _ => []
  | n + 1, p, d, g => if isBaked p g d then (g : Int) :: bkF n p d (g + 1) else []
def bakedL (p : Pr) (d : Int) : List Int := bkF d.toNat p d 0
theorem bkF_step {p : Pr} (h : Good p) {n g : Nat} {d : Int} (hn : n = d.toNat - g) : bkF n p d g = if isBaked p g d then (g : Int) :: bkF (d.toNat - (g + 1)) p d (g + 1) else [] := by
  cases n with
  | zero =>
    show [] = _
    by_cases c : isBaked p g d = true
    · have := isBaked_lt h c; omega
    · rw [if_neg c]
  | succ n =>
    show (if isBaked p g d then (g : Int) :: bkF n p d (g + 1) else []) = _
    have : n = d.toNat - (g + 1) := by omega
    rw [this]
theorem bkF_len : ∀ (n : Nat) (p : Pr) (d : Int) (g : Nat), (bkF n p d g).length ≤ n
  | 0, _, _, _ => Nat.le_refl _
  | n + 1, p, d, g => by
    show (if isBaked p g d then (g : Int) :: bkF n p d (g + 1) else []).length ≤ _
    split
    · rw [List.length_cons]; have := bkF_len n p d (g + 1); omega
    · exact Nat.zero_le _
def nextBaked (p : Pr) (g : Nat) (d : Int) : Int := owed p (g + 1) + size p (g + 1) * max 1 ((d - owed p (g + 1)) / size p (g + 1) + 1)
/-- the bakes of the rule without its first grade -/
theorem isBaked_tl {p : Pr} (h : Good p) {d : Int} (b : isBaked p 0 d = true) (g : Nat) : isBaked p (g + 1) d = isBaked (tl p 1) g (late p d) := by
  have hb : 0 < (p 0).2 := by have := h.lo 0; omega
  obtain ⟨b1, b2⟩ := isBaked_iff.mp b
  have e1 : owed p (0 + 1) = (p 0).1 - (p 0).2 := by simp [owed, size]
  have e2 : size p (0 + 1) = (p 0).2 := by simp [size]
  rw [e1, e2] at b1 b2
  obtain ⟨q, hq⟩ := Int.dvd_of_emod_eq_zero b2
  have hl : late p d = q := by
    unfold late
    have : d - (p 0).1 + (p 0).2 = (p 0).2 * q := by omega
    rw [this, Int.mul_ediv_cancel_left _ (by omega)]
    have : 1 ≤ q := by
      have : (p 0).2 * 1 ≤ (p 0).2 * q := by omega
      exact Int.le_of_mul_le_mul_left this hb
    omega
  rw [hl]
  unfold isBaked
  rw [size_tl, owed_tl]
  have hd : d = (p 0).1 - (p 0).2 + (p 0).2 * q := by omega
  have hs := size_pos (h.tl 1) (g + 1)
  congr 1
  · congr 1
    apply propext
    constructor
    · intro z
      have : (p 0).2 * (owed (tl p 1) (g + 1) + size (tl p 1) (g + 1)) ≤ (p 0).2 * q := by rw [Int.mul_add]; omega
      exact Int.le_of_mul_le_mul_left this hb
    · intro z
      have : (p 0).2 * (owed (tl p 1) (g + 1) + size (tl p 1) (g + 1)) ≤ (p 0).2 * q := Int.mul_le_mul_of_nonneg_left z (by omega)
      rw [Int.mul_add] at this
      omega
  · congr 1
    have : d - ((p 0).1 - (p 0).2 + (p 0).2 * owed (tl p 1) (g + 1)) = (p 0).2 * (q - owed (tl p 1) (g + 1)) := by rw [Int.mul_sub]; omega
    rw [this, Int.mul_emod_mul_of_pos _ _ hb]
    apply propext
    constructor
    · intro z
      rcases Int.mul_eq_zero.mp z with z | z
      · omega
      · exact z
    · intro z; rw [z, Int.mul_zero]
/-- grade 0 is baked on a day just if there comes one more layer of grade 1 -/
theorem isBaked_zero {p : Pr} (h : Good p) {d : Int} (hd : 0 ≤ d) : isBaked p 0 d = decide (made p 1 (max 0 (d - 1)) < late p d) := by
  have hb : 2 ≤ (p 0).2 := h.lo 0
  have hw := h.le 0
  rw [made_one]
  have e1 : owed p (0 + 1) = (p 0).1 - (p 0).2 := by simp [owed, size]
  have e2 : size p (0 + 1) = (p 0).2 := by simp [size]
  unfold isBaked late
  rw [e1, e2]
  generalize (p 0).2 = b at *
  generalize (p 0).1 = w at *
  have hb0 : 0 < b := by omega
  rw [← Bool.decide_and]
  congr 1
  apply propext
  have f1 := Int.emod_add_mul_ediv (d - (w - b)) b
  have f2 := Int.emod_nonneg (d - (w - b)) (by omega : b ≠ 0)
  have f3 := Int.emod_lt_of_pos (d - (w - b)) hb0
  have ed : d - w + b = d - (w - b) := by omega
  rw [ed]
  generalize hq : (d - (w - b)) / b = q at *
  generalize hr : (d - (w - b)) % b = r at *
  by_cases hd1 : 1 ≤ d
  · have em : max 0 (d - 1) = d - 1 := by omega
    rw [em]
    have eq2 : (d - 1 - w + b) / b = if r = 0 then q - 1 else q := by
      by_cases c : r = 0
      · rw [if_pos c]
        have : d - 1 - w + b = (b - 1) + b * (q - 1) := by rw [Int.mul_sub]; omega
        rw [this, Int.add_mul_ediv_left _ _ (by omega : b ≠ 0), Int.ediv_eq_zero_of_lt (by omega) (by omega)]
        omega
      · rw [if_neg c]
        have : d - 1 - w + b = (r - 1) + b * q := by omega
        rw [this, Int.add_mul_ediv_left _ _ (by omega : b ≠ 0), Int.ediv_eq_zero_of_lt (by omega) (by omega)]
        omega
    rw [eq2]
    constructor
    · rintro ⟨z1, z2⟩
      rw [if_pos z2]
      have : b * 1 ≤ b * q := by omega
      have := Int.le_of_mul_le_mul_left this hb0
      omega
    · intro z
      by_cases c : r = 0
      · rw [if_pos c] at z
        have : 1 ≤ q := by omega
        have : b * 1 ≤ b * q := Int.mul_le_mul_of_nonneg_left this (by omega)
        exact ⟨by omega, c⟩
      · rw [if_neg c] at z; omega
  · have : d = 0 := by omega
    subst this
    constructor
    · rintro ⟨z1, _⟩; omega
    · intro z
      exfalso
      have em : max 0 ((0 : Int) - 1) = 0 := by omega
      rw [em, ed] at z
      omega
theorem bkF_shift {p q : Pr} {d e : Int} (s : ∀ g, isBaked p (g + 1) d = isBaked q g e) : ∀ (n g : Nat), bkF n p d (g + 1) = (bkF n q e g).map (· + 1)
  | 0, _ => rfl
  | n + 1, g => by
    show (if isBaked p (g + 1) d then (((g + 1 : Nat)) : Int) :: bkF n p d (g + 1 + 1) else []) = List.map _ (if isBaked q g e then (g : Int) :: bkF n q e (g + 1) else [])
    rw [s g]
    by_cases c : isBaked q g e = true
    · rw [if_pos c, if_pos c, bkF_shift s n (g + 1)]
      rfl
    · rw [if_neg c, if_neg c]; rfl
theorem bkF_fuel {p : Pr} (h : Good p) {d : Int} : ∀ (n m g : Nat), d ≤ n + g → d ≤ m + g → bkF n p d g = bkF m p d g
  | 0, 0, _, _, _ => rfl
  | 0, m + 1, g, hn, _ => by
    show [] = if isBaked p g d then _ else []
    by_cases c : isBaked p g d = true
    · have := isBaked_lt h c; omega
    · rw [if_neg c]
  | n + 1, 0, g, _, hm => by
    show (if isBaked p g d then _ else []) = []
    by_cases c : isBaked p g d = true
    · have := isBaked_lt h c; omega
    · rw [if_neg c]
  | n + 1, m + 1, g, hn, hm => by
    show (if isBaked p g d then (g : Int) :: bkF n p d (g + 1) else []) = if isBaked p g d then (g : Int) :: bkF m p d (g + 1) else []
    rw [bkF_fuel h n m (g + 1) (by omega) (by omega)]
theorem bakedL_tl {p : Pr} (h : Good p) {d : Int} (hd : 0 ≤ d) : bakedL p d = if made p 1 (max 0 (d - 1)) < late p d then 0 :: (bakedL (tl p 1) (late p d)).map (· + 1) else [] := by
  unfold bakedL
  rw [bkF_step h (g := 0) (by omega)]
  rw [isBaked_zero h hd]
  by_cases c : made p 1 (max 0 (d - 1)) < late p d
  · rw [if_pos (decide_eq_true c), if_pos c]
    have b : isBaked p 0 d = true := by rw [isBaked_zero h hd]; exact decide_eq_true c
    have l0 := late_nn p d
    have l1 := late_lt h (d := d) (by have := isBaked_lt h b; omega)
    rw [bkF_shift (fun g => isBaked_tl h b g), bkF_fuel (h.tl 1) (d.toNat - (0 + 1)) (late p d).toNat 0 (by omega) (by omega)]
    rfl
  · rw [if_neg (by rw [decide_eq_false c]; decide), if_neg c]
/-! ### work -/
def workF : Nat → Pr → Int → Int
  | 0, _, _ => 0
  | n + 1, p, d => if late p d ≤ 0 then 0 else (p 0).2 * late p d + (p 0).2 * workF n (tl p 1) (late p d)
def work (p : Pr) (d : Int) : Int := workF d.toNat p d
theorem workF_more : ∀ (n m : Nat) (p : Pr) (d : Int), Good p → d ≤ n → d ≤ m → workF n p d = workF m p d
  | 0, 0, _, _, _, _, _ => rfl
  | 0, m + 1, p, d, g, h, _ => by
    show (0 : Int) = if late p d ≤ 0 then 0 else _
    have : late p d ≤ 0 := by
      have h1 := g.lo 0
      have h2 := g.le 0
      have := neg_ediv_le (a := d - (p 0).1 + (p 0).2) (s := (p 0).2) (by omega) (by omega)
      unfold late; omega
    rw [if_pos this]
  | n + 1, 0, p, d, g, _, h => by
    show (if late p d ≤ 0 then 0 else _) = (0 : Int)
    have : late p d ≤ 0 := by
      have h1 := g.lo 0
      have h2 := g.le 0
      have := neg_ediv_le (a := d - (p 0).1 + (p 0).2) (s := (p 0).2) (by omega) (by omega)
      unfold late; omega
    rw [if_pos this]
  | n + 1, m + 1, p, d, g, h, h' => by
    show (if late p d ≤ 0 then 0 else _) = (if late p d ≤ 0 then 0 else _)
    by_cases c : late p d ≤ 0
    · rw [if_pos c, if_pos c]
    · rw [if_neg c, if_neg c]
      have hd : 0 < d := by
        rcases Int.lt_or_le 0 d with q | q
        · exact q
        · exfalso
          have h1 := g.lo 0
          have h2 := g.le 0
          have := neg_ediv_le (a := d - (p 0).1 + (p 0).2) (s := (p 0).2) (by omega) (by omega)
          unfold late at c; omega
      have := late_lt g hd
      rw [workF_more n m (tl p 1) (late p d) (g.tl 1) (by omega) (by omega)]
theorem work_eq {p : Pr} (g : Good p) {d : Int} (hd : 0 ≤ d) : work p d = (p 0).2 * late p d + (p 0).2 * work (tl p 1) (late p d) := by
  unfold work
  by_cases c : d = 0
  · subst c
    have h1 := g.lo 0
    have h2 := g.le 0
    have := neg_ediv_le (a := 0 - (p 0).1 + (p 0).2) (s := (p 0).2) (by omega) (by omega)
    have e : late p 0 = 0 := by unfold late; omega
    rw [e]
    simp [workF]
  · obtain ⟨n, hn⟩ : ∃ n, d.toNat = n + 1 := ⟨d.toNat - 1, by omega⟩
    rw [hn]
    show (if late p d ≤ 0 then 0 else _) = _
    have l1 := late_lt g (d := d) (by omega)
    have l0 := late_nn p d
    by_cases c : late p d ≤ 0
    · rw [if_pos c]
      have e : late p d = 0 := by omega
      rw [e]
      simp [workF]
    · rw [if_neg c, workF_more n (late p d).toNat (tl p 1) (late p d) (g.tl 1) (by omega) (by omega)]
/-! ### the value of digits, digit by digit -/
theorem value_take : ∀ (ds : List Int) (p : Pr) (i : Nat) (x : Int), ds[i]? = some x → value p (ds.take (i + 1)) = value p (ds.take i) + x * size p i
  | [], _, _, _, h => by simp at h
  | y :: ys, p, 0, x, h => by
    simp at h; subst h
    simp [value, size]
  | y :: ys, p, i + 1, x, h => by
    have h' : ys[i]? = some x := by simpa using h
    show y + (p 0).2 * value (tl p 1) (ys.take (i + 1)) = y + (p 0).2 * value (tl p 1) (ys.take i) + x * size p (i + 1)
    rw [value_take ys (tl p 1) i x h', size_tl, Int.mul_add]
    have : (p 0).2 * (x * size (tl p 1) i) = x * ((p 0).2 * size (tl p 1) i) := by
      rw [← Int.mul_assoc, Int.mul_comm (p 0).2 x, Int.mul_assoc]
    omega
theorem valid_get : ∀ (ds : List Int) (p : Pr) (i : Nat) (x : Int), Valid p ds → ds[i]? = some x → x < (p i).1 ∧ (if i + 1 = ds.length then 1 else (p i).1 - (p i).2) ≤ x
  | [], _, _, _, _, h => by simp at h
  | [y], p, 0, x, v, h => by
    simp at h; subst h
    exact ⟨v.2, by simpa using v.1⟩
  | [y], p, i + 1, x, v, h => by simp at h
  | y :: z :: zs, p, 0, x, v, h => by
    simp at h; subst h
    refine ⟨v.2.1, ?_⟩
    rw [if_neg (by simp)]
    exact v.1
  | y :: z :: zs, p, i + 1, x, v, h => by
    have h' : (z :: zs)[i]? = some x := by simpa using h
    have q := valid_get (z :: zs) (tl p 1) i x v.2.2 h'
    refine ⟨q.1, ?_⟩
    have e : (i + 1 + 1 = (y :: z :: zs).length) ↔ (i + 1 = (z :: zs).length) := by simp
    by_cases c : i + 1 = (z :: zs).length
    · rw [if_pos (e.mpr c)]; rw [if_pos c] at q; exact q.2
    · rw [if_neg (fun w => c (e.mp w))]; rw [if_neg c] at q; exact q.2
/-! ### first days with so many layers -/
def fwF : Nat → Pr → Int → List Int
  | 0, _, _ => []
  | n + 1, p, m => if m ≤ 0 then [] else min m ((p 0).1 - 1) :: fwF n (tl p 1) (m - min m ((p 0).1 - 1))
def fwL (p : Pr) (m : Int) : List Int := fwF m.toNat p m
def firstWith (p : Pr) (m : Int) : Int := value p (fwL p m)
theorem fwF_more : ∀ (n k : Nat) (p : Pr) (m : Int), Good p → m ≤ n → m ≤ k → fwF n p m = fwF k p m
  | 0, 0, _, _, _, _, _ => rfl
  | 0, k + 1, p, m, _, h, _ => by show [] = if m ≤ 0 then [] else _; rw [if_pos (by omega)]
  | n + 1, 0, p, m, _, _, h => by show (if m ≤ 0 then [] else _) = []; rw [if_pos (by omega)]
  | n + 1, k + 1, p, m, g, h, h' => by
    show (if m ≤ 0 then [] else _) = (if m ≤ 0 then [] else _)
    by_cases c : m ≤ 0
    · rw [if_pos c, if_pos c]
    · rw [if_neg c, if_neg c]
      have h1 := g.lo 0
      have h2 := g.le 0
      rw [fwF_more n k (tl p 1) _ (g.tl 1) (by omega) (by omega)]
theorem fwL_pos {p : Pr} (g : Good p) {m : Int} (h : 0 < m) : fwL p m = min m ((p 0).1 - 1) :: fwL (tl p 1) (m - min m ((p 0).1 - 1)) := by
  unfold fwL
  obtain ⟨n, hn⟩ : ∃ n, m.toNat = n + 1 := ⟨m.toNat - 1, by omega⟩
  rw [hn]
  show (if m ≤ 0 then [] else _) = _
  have h1 := g.lo 0
  have h2 := g.le 0
  rw [if_neg (by omega), fwF_more n (m - min m ((p 0).1 - 1)).toNat (tl p 1) _ (g.tl 1) (by omega) (by omega)]
theorem fwL_zero (p : Pr) {m : Int} (h : m ≤ 0) : fwL p m = [] := by
  unfold fwL
  have : m.toNat = 0 := by omega
  rw [this]; rfl
theorem fwF_valid : ∀ (n : Nat) (p : Pr) (m : Int), Good p → m ≤ n → Valid p (fwF n p m)
  | 0, _, _, _, _ => trivial
  | n + 1, p, m, g, h => by
    show Valid p (if m ≤ 0 then [] else _)
    have h1 := g.lo 0
    have h2 := g.le 0
    by_cases c : m ≤ 0
    · rw [if_pos c]; trivial
    · rw [if_neg c]
      have ih := fwF_valid n (tl p 1) (m - min m ((p 0).1 - 1)) (g.tl 1) (by omega)
      cases e : fwF n (tl p 1) (m - min m ((p 0).1 - 1)) with
      | nil => exact ⟨by omega, by omega⟩
      | cons y ys =>
        rw [e] at ih
        have : ¬ (m - min m ((p 0).1 - 1) ≤ 0) := by
          intro z
          cases n with
          | zero => simp [fwF] at e
          | succ n => simp [fwF, if_pos z] at e
        exact ⟨by omega, by omega, ih⟩
theorem fwL_valid {p : Pr} (g : Good p) (m : Int) : Valid p (fwL p m) := fwF_valid _ p m g (by omega)
theorem fwF_len : ∀ (n : Nat) (p : Pr) (m : Int), (fwF n p m).length ≤ n
  | 0, _, _ => Nat.le_refl _
  | n + 1, p, m => by
    show (if m ≤ 0 then [] else _).length ≤ _
    split
    · exact Nat.zero_le _
    · rw [List.length_cons]; have := fwF_len n (tl p 1) (m - min m ((p 0).1 - 1)); omega
theorem fwL_len (p : Pr) (m : Int) : (fwL p m).length ≤ m.toNat := fwF_len _ p m
theorem firstWith_tl {p : Pr} (g : Good p) {m : Int} (h : (p 0).1 - 1 < m) : firstWith p m = ((p 0).1 - 1) + (p 0).2 * firstWith (tl p 1) (m - ((p 0).1 - 1)) := by
  have h1 := g.lo 0
  have h2 := g.le 0
  unfold firstWith
  rw [fwL_pos g (by omega)]
  have e : min m ((p 0).1 - 1) = (p 0).1 - 1 := by omega
  rw [e]
  rfl
end Silt
set_option linter.all false
namespace Silt
/-- what digits from grade k on are worth -/
def sv (p : Pr) : Nat → List Int → Int
  | _, [] => 0
  | k, x :: xs => size p k * x + sv p (k + 1) xs
theorem sv_tl (p : Pr) : ∀ (k : Nat) (xs : List Int), sv p (k + 1) xs = (p 0).2 * sv (tl p 1) k xs
  | _, [] => by simp [sv]
  | k, x :: xs => by
    show size p (k + 1) * x + sv p (k + 1 + 1) xs = (p 0).2 * (size (tl p 1) k * x + sv (tl p 1) (k + 1) xs)
    rw [sv_tl p (k + 1) xs, size_tl, Int.mul_add, Int.mul_assoc]
theorem value_sv : ∀ (xs : List Int) (p : Pr), value p xs = sv p 0 xs
  | [], _ => rfl
  | x :: xs, p => by
    show x + (p 0).2 * value (tl p 1) xs = size p 0 * x + sv p (0 + 1) xs
    rw [value_sv xs (tl p 1), sv_tl]
    simp [size]
/-! ### layers -/
def lyN (last s : Int) (k : Nat) (n : Nat) : List (Int × Int × Int) := (List.range n).map fun (i : Nat) => (last + (i : Int) * s + 1, last + (i : Int) * s + s, (k : Int))
theorem lyN_succ (last s : Int) (k n : Nat) : lyN last s k (n + 1) = lyN last s k n ++ [(last + (n : Int) * s + 1, last + (n : Int) * s + s, (k : Int))] := by
  unfold lyN
  rw [List.range_succ, List.map_append]
  rfl
def LY (p : Pr) : Nat → List Int → List (Int × Int × Int) × Int
  | _, [] => ([], 0)
  | k, x :: xs => ((LY p (k + 1) xs).1 ++ lyN (LY p (k + 1) xs).2 (size p k) k x.toNat, (LY p (k + 1) xs).2 + (x.toNat : Int) * size p k)
def layersL (p : Pr) (d : Int) : List (Int × Int × Int) := (LY p 0 (digits p d)).1
def upL (b : Int) (r : Int × Int × Int) : Int × Int × Int := ((r.1 - 1) * b + 1, r.2.1 * b, r.2.2 + 1)
theorem LY_tl (p : Pr) : ∀ (k : Nat) (xs : List Int), LY p (k + 1) xs = ((LY (tl p 1) k xs).1.map (upL (p 0).2), (LY (tl p 1) k xs).2 * (p 0).2)
  | _, [] => by simp [LY]
  | k, x :: xs => by
    show ((LY p (k + 1 + 1) xs).1 ++ lyN (LY p (k + 1 + 1) xs).2 (size p (k + 1)) (k + 1) x.toNat, (LY p (k + 1 + 1) xs).2 + (x.toNat : Int) * size p (k + 1)) =
      (List.map (upL (p 0).2) ((LY (tl p 1) (k + 1) xs).1 ++ lyN (LY (tl p 1) (k + 1) xs).2 (size (tl p 1) k) k x.toNat), ((LY (tl p 1) (k + 1) xs).2 + (x.toNat : Int) * size (tl p 1) k) * (p 0).2)
    rw [LY_tl p (k + 1) xs, size_tl, List.map_append]
    generalize (LY (tl p 1) (k + 1) xs).2 = l
    generalize size (tl p 1) k = s
    generalize (p 0).2 = b
    have e1 : ∀ i : Int, i * (b * s) = i * s * b := fun i => by rw [Int.mul_comm b s, Int.mul_assoc]
    congr 1
    · congr 1
      unfold lyN
      rw [List.map_map]
      refine List.map_congr_left fun i _ => ?_
      show _ = ((l + (i : Int) * s + 1 - 1) * b + 1, (l + (i : Int) * s + s) * b, (k : Int) + 1)
      have h1 : l * b + (i : Int) * (b * s) + 1 = (l + (i : Int) * s + 1 - 1) * b + 1 := by
        rw [e1]
        have : l + (i : Int) * s + 1 - 1 = l + (i : Int) * s := by omega
        rw [this, Int.add_mul]
      have h2 : l * b + (i : Int) * (b * s) + b * s = (l + (i : Int) * s + s) * b := by
        rw [e1, Int.add_mul, Int.add_mul, Int.mul_comm b s]
      have h3 : (((k + 1 : Nat)) : Int) = (k : Int) + 1 := by omega
      rw [h1, h2, h3]
    · rw [e1, Int.add_mul]
theorem layersL_tl {p : Pr} (g : Good p) {d : Int} (hd : 0 ≤ d) : ∃ r, layersL p d = (layersL (tl p 1) (late p d)).map (upL (p 0).2) ++ r := by
  unfold layersL
  by_cases c : d ≤ 0
  · have e : d = 0 := by omega
    subst e
    have h1 := g.lo 0
    have h2 := g.le 0
    have := neg_ediv_le (a := 0 - (p 0).1 + (p 0).2) (s := (p 0).2) (by omega) (by omega)
    have e : late p 0 = 0 := by unfold late; omega
    rw [e, digits_zero p (by omega), digits_zero (tl p 1) (by omega)]
    exact ⟨[], rfl⟩
  · rw [digits_pos g (by omega)]
    exact ⟨lyN (LY p 1 (digits (tl p 1) (late p d))).2 (size p 0) 0 (d - (p 0).2 * late p d).toNat, by
      show (LY p (0 + 1) (digits (tl p 1) (late p d))).1 ++ _ = _
      rw [LY_tl]⟩
theorem LY_len (p : Pr) : ∀ (k : Nat) (xs : List Int), (∀ x ∈ xs, x ≤ 12) → (LY p k xs).1.length ≤ 12 * xs.length
  | _, [], _ => by simp [LY]
  | k, x :: xs, h => by
    show ((LY p (k + 1) xs).1 ++ lyN (LY p (k + 1) xs).2 (size p k) k x.toNat).length ≤ _
    rw [List.length_append, List.length_cons]
    have h1 := LY_len p (k + 1) xs fun y hy => h y (List.mem_cons_of_mem _ hy)
    have h2 := h x List.mem_cons_self
    have h3 : (lyN (LY p (k + 1) xs).2 (size p k) k x.toNat).length = x.toNat := by unfold lyN; simp
    omega
/-! ### places -/
def PL (p : Pr) (day : Int) : Nat → List Int → Sum (Int × Int) (Int × Int)
  | _, [] => .inr (0, 0)
  | k, x :: xs => match PL p day (k + 1) xs with
    | .inl r => .inl r
    | .inr (l, n) => if day ≤ l + size p k * x then .inl ((k : Int), n + (day - l - 1) / size p k) else .inr (l + size p k * x, n + x)
theorem PL_step {p : Pr} {day : Int} {k : Nat} {x : Int} {xs : List Int} {l n : Int} (h : PL p day (k + 1) xs = .inr (l, n)) :
    PL p day k (x :: xs) = if day ≤ l + size p k * x then .inl ((k : Int), n + (day - l - 1) / size p k) else .inr (l + size p k * x, n + x) := by
  unfold PL
  rw [h]
theorem PL_keep {p : Pr} {day : Int} {k : Nat} {x : Int} {xs : List Int} {r : Int × Int} (h : PL p day (k + 1) xs = .inl r) : PL p day k (x :: xs) = .inl r := by
  unfold PL
  rw [h]
/-- found at a grade: found -/
theorem PL_down {p : Pr} {day : Int} {r : Int × Int} {ds : List Int} : ∀ (j : Nat), j ≤ ds.length → PL p day j (ds.drop j) = .inl r → PL p day 0 ds = .inl r
  | 0, _, h => by simpa using h
  | j + 1, hj, h => by
    refine PL_down j (by omega) ?_
    rw [List.drop_eq_getElem_cons (by omega : j < ds.length)]
    exact PL_keep h
theorem PL_sv {p : Pr} {day : Int} : ∀ (k : Nat) (xs : List Int) (l n : Int), PL p day k xs = .inr (l, n) → l = sv p k xs ∧ (xs = [] ∨ l < day)
  | _, [], l, n, h => by
    have h' : (0, 0) = (l, n) := Sum.inr.inj h
    exact ⟨(Prod.mk.inj h').1.symm, .inl rfl⟩
  | k, x :: xs, l, n, h => by
    cases e : PL p day (k + 1) xs with
    | inl r => rw [PL_keep e] at h; cases h
    | inr r =>
      obtain ⟨l1, n1⟩ := r
      rw [PL_step e] at h
      have q := PL_sv (k + 1) xs l1 n1 e
      by_cases c : day ≤ l1 + size p k * x
      · rw [if_pos c] at h; cases h
      · rw [if_neg c] at h
        have h' := Prod.mk.inj (Sum.inr.inj h)
        refine ⟨?_, .inr (by omega)⟩
        show l = size p k * x + sv p (k + 1) xs
        rw [← h'.1, q.1]; omega
theorem sv_nn {p : Pr} (g : Good p) : ∀ (k : Nat) (xs : List Int), (∀ x ∈ xs, 0 ≤ x) → 0 ≤ sv p k xs
  | _, [], _ => Int.le_refl _
  | k, x :: xs, h => by
    have h1 := sv_nn g (k + 1) xs fun y hy => h y (List.mem_cons_of_mem _ hy)
    have h2 : 0 ≤ size p k * x := Int.mul_nonneg (by have := size_pos g k; omega) (h x List.mem_cons_self)
    show 0 ≤ size p k * x + sv p (k + 1) xs
    omega
theorem PL_inl_le {p : Pr} (g : Good p) {day : Int} : ∀ (k : Nat) (xs : List Int) (r : Int × Int), (∀ x ∈ xs, 0 ≤ x) → PL p day k xs = .inl r → day ≤ sv p k xs ∧ (k : Int) ≤ r.1
  | _, [], r, _, h => by cases h
  | k, x :: xs, r, hx, h => by
    have h2 : 0 ≤ size p k * x := Int.mul_nonneg (by have := size_pos g k; omega) (hx x List.mem_cons_self)
    show day ≤ size p k * x + sv p (k + 1) xs ∧ _
    cases e : PL p day (k + 1) xs with
    | inl r1 =>
      rw [PL_keep e] at h
      cases h
      have q := PL_inl_le g (k + 1) xs r (fun y hy => hx y (List.mem_cons_of_mem _ hy)) e
      omega
    | inr r1 =>
      obtain ⟨l1, n1⟩ := r1
      rw [PL_step e] at h
      have q := PL_sv (k + 1) xs l1 n1 e
      by_cases c : day ≤ l1 + size p k * x
      · rw [if_pos c] at h
        have h' := Sum.inl.inj h
        rw [← h']
        exact ⟨by omega, Int.le_refl _⟩
      · rw [if_neg c] at h; cases h
theorem PL_tl {p : Pr} (g : Good p) (day : Int) : ∀ (k : Nat) (xs : List Int), PL p day (k + 1) xs = match PL (tl p 1) ((day + (p 0).2 - 1) / (p 0).2) k xs with
    | .inl (gr, n) => .inl (gr + 1, n)
    | .inr (l, n) => .inr ((p 0).2 * l, n)
  | _, [] => by simp [PL]
  | k, x :: xs => by
    have ih := PL_tl g day (k + 1) xs
    have hb := g.lo 0
    cases e : PL (tl p 1) ((day + (p 0).2 - 1) / (p 0).2) (k + 1) xs with
    | inl r =>
      obtain ⟨gr, n⟩ := r
      rw [e] at ih
      rw [PL_keep ih, PL_keep e]
    | inr r =>
      obtain ⟨l, n⟩ := r
      rw [e] at ih
      rw [PL_step ih, PL_step e, size_tl]
      have hs := size_pos (g.tl 1) k
      generalize size (tl p 1) k = s at *
      generalize (p 0).2 = b at *
      have hb0 : 0 < b := by omega
      have f1 := Int.emod_add_mul_ediv (day + b - 1) b
      have f2 := Int.emod_nonneg (day + b - 1) (by omega : b ≠ 0)
      have f3 := Int.emod_lt_of_pos (day + b - 1) hb0
      generalize hq : (day + b - 1) / b = q at *
      generalize hr : (day + b - 1) % b = r at *
      have e1 : b * l + b * s * x = b * (l + s * x) := by rw [Int.mul_add, Int.mul_assoc]
      have hc : (day ≤ b * l + b * s * x) ↔ (q ≤ l + s * x) := by
        rw [e1]
        constructor
        · intro z
          have : b * q < b * (l + s * x + 1) := by rw [Int.mul_add]; omega
          have := Int.lt_of_mul_lt_mul_left this (by omega)
          omega
        · intro z
          have : b * q ≤ b * (l + s * x) := Int.mul_le_mul_of_nonneg_left z (by omega)
          omega
      by_cases c : q ≤ l + s * x
      · rw [if_pos c, if_pos (hc.mpr c)]
        have e2 : (day - b * l - 1) / (b * s) = (q - l - 1) / s := by
          have e3 : day - b * l - 1 = (day - 1) - b * l := by omega
          rw [e3, ediv_shift hb0 hs]
          congr 1
          have : day - 1 = (r - (0 : Int)) + b * (q - 1) := by rw [Int.mul_sub]; omega
          rw [this, Int.add_mul_ediv_left _ _ (by omega : b ≠ 0), Int.sub_zero, Int.ediv_eq_zero_of_lt f2 f3]
          omega
        rw [e2]
        have : (((k + 1 : Nat)) : Int) = (k : Int) + 1 := by omega
        rw [this]
      · rw [if_neg c, if_neg (fun z => c (hc.mp z)), e1]
theorem valid_le {p : Pr} (g : Good p) {ds : List Int} (v : Valid p ds) : ∀ x ∈ ds, 0 ≤ x ∧ x ≤ 12 := by
  intro x hx
  obtain ⟨i, hi, e⟩ := List.mem_iff_getElem.mp hx
  have q := valid_get ds p i x v (by rw [List.getElem?_eq_getElem hi, e])
  have h1 := g.lo i
  have h2 := g.le i
  have h3 := g.hi i
  refine ⟨?_, by omega⟩
  have := q.2
  split at this <;> omega
theorem digits_len {p : Pr} (g : Good p) : ∀ (n : Nat) (d : Int), 0 ≤ d → d < ((2 ^ n : Nat) : Int) → (digits p d).length ≤ n
  | 0, d, h0, h => by
    have : d = 0 := by simp at h; omega
    subst this
    rw [digits_zero p (by omega)]
    exact Nat.le_refl _
  | n + 1, d, h0, h => by
    by_cases c : d ≤ 0
    · rw [digits_zero p c]; exact Nat.zero_le _
    · rw [digits_pos g (by omega), List.length_cons]
      have l0 := late_nn p d
      have l2 : late p d * 2 ≤ d := by
        have h1 := g.lo 0
        have h2 := g.le 0
        unfold late
        by_cases q : 0 ≤ (d - (p 0).1 + (p 0).2) / (p 0).2
        · have e : max 0 ((d - (p 0).1 + (p 0).2) / (p 0).2) = (d - (p 0).1 + (p 0).2) / (p 0).2 := by omega
          rw [e]
          have e3 := Int.ediv_mul_le (d - (p 0).1 + (p 0).2) (by omega : (p 0).2 ≠ 0)
          have e4 : (d - (p 0).1 + (p 0).2) / (p 0).2 * 2 ≤ (d - (p 0).1 + (p 0).2) / (p 0).2 * (p 0).2 := Int.mul_le_mul_of_nonneg_left h1 q
          omega
        · have e : max 0 ((d - (p 0).1 + (p 0).2) / (p 0).2) = 0 := by omega
          rw [e]; omega
      have e : ((2 ^ (n + 1) : Nat) : Int) = ((2 ^ n : Nat) : Int) * 2 := by rw [Nat.pow_succ]; omega
      rw [e] at h
      have := digits_len (g.tl 1) n (late p d) l0 (by omega)
      omega
end Silt
set_option linter.all false
namespace Silt
/-- the item of a grade, told by a front and a period -/
def atO {α : Type} (f q : List α) (g : Nat) : Option α := if g < f.length then f[g]? else q[(g - f.length) % q.length]?
theorem atO_some {α : Type} {f q : List α} (hq : q ≠ []) (g : Nat) : ∃ x, atO f q g = some x ∧ (x ∈ f ∨ x ∈ q) := by
  unfold atO
  by_cases c : g < f.length
  · rw [if_pos c, List.getElem?_eq_getElem c]
    exact ⟨_, rfl, .inl (List.getElem_mem c)⟩
  · rw [if_neg c]
    have h0 : 0 < q.length := List.length_pos_iff.mpr hq
    have h1 : (g - f.length) % q.length < q.length := Nat.mod_lt _ h0
    rw [List.getElem?_eq_getElem h1]
    exact ⟨_, rfl, .inr (List.getElem_mem h1)⟩
/-- the last of the front goes ahead of the period -/
theorem atO_turn {α : Type} (f q : List α) (x : α) (g : Nat) : atO f (x :: q) g = atO (f ++ [x]) (q ++ [x]) g := by
  unfold atO
  rw [List.length_append, List.length_singleton, List.length_append, List.length_singleton, List.length_cons]
  by_cases c : g < f.length
  · rw [if_pos c, if_pos (by omega), List.getElem?_append_left c]
  · rw [if_neg c]
    by_cases c2 : g = f.length
    · subst c2
      rw [if_pos (by omega), Nat.sub_self, Nat.zero_mod, List.getElem?_append_right (Nat.le_refl _), Nat.sub_self]
      rfl
    · rw [if_neg (by omega)]
      obtain ⟨j, hj⟩ : ∃ j, g - f.length = j + 1 := ⟨g - f.length - 1, by omega⟩
      have hj2 : g - (f.length + 1) = j := by omega
      rw [hj, hj2]
      have hn : 0 < q.length + 1 := Nat.succ_pos _
      have hlt := Nat.mod_lt j hn
      by_cases c3 : j % (q.length + 1) = q.length
      · have e : (j + 1) % (q.length + 1) = 0 := by
          rw [Nat.add_mod, c3]
          by_cases z : q.length = 0
          · rw [z]
          · rw [Nat.mod_eq_of_lt (by omega : 1 < q.length + 1), Nat.mod_self]
        rw [e, c3, List.getElem?_append_right (Nat.le_refl _), Nat.sub_self]
        rfl
      · have e : (j + 1) % (q.length + 1) = j % (q.length + 1) + 1 := by
          rw [Nat.add_mod]
          by_cases z : q.length = 0
          · rw [z] at hlt c3; omega
          · rw [Nat.mod_eq_of_lt (by omega : 1 < q.length + 1), Nat.mod_eq_of_lt (by omega)]
        rw [e, List.getElem?_cons_succ, List.getElem?_append_left (by omega)]
theorem flat_get {α : Type} (r : List α) (h : r ≠ []) : ∀ (k i : Nat), i < k * r.length → (List.replicate k r).flatten[i]? = r[i % r.length]?
  | 0, i, hi => by simp at hi
  | k + 1, i, hi => by
    have h0 : 0 < r.length := List.length_pos_iff.mpr h
    rw [List.replicate_succ, List.flatten_cons]
    by_cases c : i < r.length
    · rw [List.getElem?_append_left c, Nat.mod_eq_of_lt c]
    · rw [List.getElem?_append_right (by omega), flat_get r h k (i - r.length) (by rw [Nat.succ_mul] at hi; omega)]
      congr 1
      rw [Nat.mod_eq_sub_mod (by omega : i ≥ r.length)]
theorem flat_len {α : Type} (r : List α) (k : Nat) : (List.replicate k r).flatten.length = k * r.length := by
  induction k with
  | zero => simp
  | succ k ih => rw [List.replicate_succ, List.flatten_cons, List.length_append, ih, Nat.succ_mul]; omega
/-- a period told several times over -/
theorem atO_rep {α : Type} (f r : List α) (h : r ≠ []) {k : Nat} (hk : 0 < k) (g : Nat) : atO f r g = atO f (List.replicate k r).flatten g := by
  unfold atO
  by_cases c : g < f.length
  · rw [if_pos c, if_pos c]
  · rw [if_neg c, if_neg c, flat_len]
    have h0 : 0 < r.length := List.length_pos_iff.mpr h
    have h1 : (g - f.length) % (k * r.length) < k * r.length := Nat.mod_lt _ (Nat.mul_pos hk h0)
    rw [flat_get r h k _ h1, Nat.mod_mul_left_mod]
end Silt
set_option linter.all false
namespace Silt
theorem late_zero {p : Pr} (g : Good p) : late p 0 = 0 := by
  have h1 := g.lo 0
  have h2 := g.le 0
  have := neg_ediv_le (a := 0 - (p 0).1 + (p 0).2) (s := (p 0).2) (by omega) (by omega)
  unfold late; omega
theorem late_le {p : Pr} (g : Good p) {d : Int} (h : 0 ≤ d) : late p d ≤ d := by
  by_cases c : d = 0
  · rw [c, late_zero g]; exact Int.le_refl _
  · have := late_lt g (d := d) (by omega); omega
theorem digits_drop {p : Pr} (g : Good p) {d : Int} (h : 0 ≤ d) : (digits p d).drop 1 = digits (tl p 1) (late p d) := by
  by_cases c : d = 0
  · rw [c, late_zero g, digits_zero p (by omega), digits_zero (tl p 1) (by omega)]; rfl
  · rw [digits_pos g (by omega)]; rfl
def head0 (p : Pr) (d : Int) : Int := if d ≤ 0 then 0 else d - (p 0).2 * late p d
theorem head_get {p : Pr} (g : Good p) (d : Int) : (digits p d ++ [0])[0]? = some (head0 p d) := by
  unfold head0
  by_cases c : d ≤ 0
  · rw [digits_zero p c, if_pos c]; rfl
  · rw [digits_pos g (by omega), if_neg c]; rfl
theorem head_sum {p : Pr} (g : Good p) {d : Int} (h : 0 ≤ d) : (digits p d).sum - head0 p d = (digits (tl p 1) (late p d)).sum := by
  unfold head0
  by_cases c : d ≤ 0
  · have e : d = 0 := by omega
    subst e
    rw [if_pos c, late_zero g, digits_zero p (by omega), digits_zero (tl p 1) (by omega)]; rfl
  · rw [digits_pos g (by omega), if_neg c, List.sum_cons]; omega
theorem head_bound {p : Pr} (g : Good p) {d : Int} (h : 0 ≤ d) : 0 ≤ head0 p d ∧ head0 p d ≤ 12 := by
  unfold head0
  by_cases c : d ≤ 0
  · rw [if_pos c]; omega
  · rw [if_neg c]
    have := digit_lt g (d := d) (by omega)
    have := g.hi 0
    omega
theorem nextBaked_lo {p : Pr} (g : Good p) (k : Nat) (d : Int) : 1 ≤ nextBaked p k d := by
  have h1 := size_pos g (k + 1)
  have h2 := owed_nn g (k + 1)
  unfold nextBaked
  have : size p (k + 1) * 1 ≤ size p (k + 1) * max 1 ((d - owed p (k + 1)) / size p (k + 1) + 1) := Int.mul_le_mul_of_nonneg_left (by omega) (by omega)
  omega
theorem nextBaked_hi {p : Pr} (g : Good p) (k : Nat) {d : Int} (hd : 0 ≤ d) : nextBaked p k d ≤ owed p (k + 1) + size p (k + 1) * (d + 1) := by
  have h1 := size_pos g (k + 1)
  have h3 := made_le g (k + 1) hd
  unfold made at h3
  unfold nextBaked
  have : size p (k + 1) * max 1 ((d - owed p (k + 1)) / size p (k + 1) + 1) ≤ size p (k + 1) * (d + 1) := Int.mul_le_mul_of_nonneg_left (by omega) (by omega)
  omega
theorem nextBaked_tl {p : Pr} (g : Good p) (k : Nat) (d : Int) : nextBaked p 0 (nextBaked p (k + 1) d - 1) = nextBaked p (k + 1) d := by
  have hb := g.lo 0
  have e1 : owed p (0 + 1) = (p 0).1 - (p 0).2 := by simp [owed, size]
  have e2 : size p (0 + 1) = (p 0).2 := by simp [size]
  have hs := size_pos (g.tl 1) (k + 1)
  have ho := owed_nn (g.tl 1) (k + 1)
  have key : nextBaked p (k + 1) d = ((p 0).1 - (p 0).2) + (p 0).2 * (owed (tl p 1) (k + 1) + size (tl p 1) (k + 1) * max 1 ((d - owed p (k + 1 + 1)) / size p (k + 1 + 1) + 1)) := by
    show owed p (k + 1 + 1) + size p (k + 1 + 1) * _ = _
    rw [Int.mul_add, ← Int.mul_assoc, ← size_tl p (k + 1), owed_tl p (k + 1)]
    omega
  generalize hM : max 1 ((d - owed p (k + 1 + 1)) / size p (k + 1 + 1) + 1) = M at key
  have hM1 : 1 ≤ M := by omega
  have hq : 1 ≤ owed (tl p 1) (k + 1) + size (tl p 1) (k + 1) * M := by
    have : size (tl p 1) (k + 1) * 1 ≤ size (tl p 1) (k + 1) * M := Int.mul_le_mul_of_nonneg_left hM1 (by omega)
    omega
  generalize owed (tl p 1) (k + 1) + size (tl p 1) (k + 1) * M = q at key hq
  rw [key]
  unfold nextBaked
  rw [e1, e2]
  generalize (p 0).2 = b at *
  generalize (p 0).1 = w at *
  have : (w - b + b * q - 1 - (w - b)) / b = q - 1 := by
    have : w - b + b * q - 1 - (w - b) = (b - 1) + b * (q - 1) := by rw [Int.mul_sub]; omega
    rw [this, Int.add_mul_ediv_left _ _ (by omega : b ≠ 0), Int.ediv_eq_zero_of_lt (by omega) (by omega)]
    omega
  rw [this]
  have : max 1 (q - 1 + 1) = q := by omega
  rw [this]
/-- a day that lies in a grade above 0 lies in the rest -/
theorem PL_rest {p : Pr} (g : Good p) {one d : Int} {r : Int × Int} (hd : 0 < d) (h : PL p one 0 (digits p d) = .inl r) (hr : 0 < r.1) :
    PL (tl p 1) ((one + (p 0).2 - 1) / (p 0).2) 0 (digits (tl p 1) (late p d)) = .inl (r.1 - 1, r.2) ∧ (one + (p 0).2 - 1) / (p 0).2 ≤ late p d := by
  rw [digits_pos g hd] at h
  have t := PL_tl g one 0 (digits (tl p 1) (late p d))
  cases e : PL (tl p 1) ((one + (p 0).2 - 1) / (p 0).2) 0 (digits (tl p 1) (late p d)) with
  | inl r1 =>
    obtain ⟨gr, n⟩ := r1
    rw [e] at t
    have h2 := PL_keep (k := 0) (x := d - (p 0).2 * late p d) t
    rw [h2] at h
    have h3 := Sum.inl.inj h
    rw [← h3]
    refine ⟨by congr 2; show gr = gr + 1 - 1; omega, ?_⟩
    have l0 := late_nn p d
    have q := PL_inl_le (g.tl 1) 0 _ _ (fun y hy => (valid_le (g.tl 1) (valid_digits (g.tl 1) l0) y hy).1) e
    rw [← value_sv, value_digits (g.tl 1) l0] at q
    exact q.1
  | inr r1 =>
    obtain ⟨l, n⟩ := r1
    rw [e] at t
    rw [PL_step t] at h
    by_cases c : one ≤ (p 0).2 * l + size p 0 * (d - (p 0).2 * late p d)
    · rw [if_pos c] at h
      have h3 := Sum.inl.inj h
      rw [← h3] at hr
      simp at hr
    · rw [if_neg c] at h; cases h
end Silt
set_option linter.all false
namespace Silt
abbrev Rw := Int × Int × Int
/-- digits with one more -/
def bump : List Int → List Int
  | [] => [1]
  | x :: xs => (x + 1) :: xs
def inc : Pr → List Int → List Int
  | _, [] => [1]
  | p, x :: xs => if x + 1 < (p 0).1 then (x + 1) :: xs else (x + 1 - (p 0).2) :: inc (tl p 1) xs
def carry : Pr → List Int → List Int
  | _, [] => []
  | p, x :: xs => if x + 1 < (p 0).1 then [] else 0 :: (carry (tl p 1) xs).map (· + 1)
theorem late_succ {p : Pr} (g : Good p) {d : Int} (hd : 0 ≤ d) :
    (d - (p 0).2 * late p d + 1 < (p 0).1 ∧ late p (d + 1) = late p d) ∨ (d - (p 0).2 * late p d + 1 = (p 0).1 ∧ late p (d + 1) = late p d + 1) := by
  have h1 := g.lo 0
  have h2 := g.le 0
  have hx : d - (p 0).2 * late p d < (p 0).1 := by
    by_cases c : d = 0
    · rw [c, late_zero g]; omega
    · exact (digit_lt g (d := d) (by omega)).1
  have hL := late_nn p d
  have hpos : 0 < late p d → (p 0).1 - (p 0).2 ≤ d - (p 0).2 * late p d := by
    intro q
    by_cases c : d = 0
    · rw [c, late_zero g] at q; omega
    · exact (digit_lt g (d := d) (by omega)).2.2.1 q
  have key : ∀ L : Int, 0 ≤ L → (p 0).2 * L ≤ d + 1 - (p 0).1 + (p 0).2 → d + 1 - (p 0).1 + (p 0).2 < (p 0).2 * L + (p 0).2 → late p (d + 1) = L := by
    intro L hL a b
    have : (d + 1 - (p 0).1 + (p 0).2) / (p 0).2 = L := by
      have e := Int.mul_comm L (p 0).2
      rw [Int.ediv_eq_iff_of_pos (by omega)]
      omega
    unfold late
    rw [this]; omega
  by_cases c : d - (p 0).2 * late p d + 1 < (p 0).1
  · refine .inl ⟨c, ?_⟩
    by_cases z : late p d = 0
    · rw [z]
      rw [z] at c
      unfold late
      have := neg_ediv_le (a := d + 1 - (p 0).1 + (p 0).2 - (p 0).2 * 1) (s := (p 0).2) (by omega) (by omega)
      have e : d + 1 - (p 0).1 + (p 0).2 - (p 0).2 * 1 = (d + 1 - (p 0).1 + (p 0).2) + (-1) * (p 0).2 := by omega
      have lt : (d + 1 - (p 0).1 + (p 0).2) / (p 0).2 < 1 := by
        rw [Int.ediv_lt_iff_lt_mul (by omega)]
        omega
      omega
    · have := hpos (by omega)
      exact key _ hL (by omega) (by omega)
  · refine .inr ⟨by omega, ?_⟩
    refine key (late p d + 1) (by omega) ?_ ?_
    · rw [Int.mul_add]; omega
    · rw [Int.mul_add]; omega
theorem late_one {p : Pr} (g : Good p) : late p 1 = 0 := by
  have h1 := g.lo 0
  have h2 := g.le 0
  rcases late_succ g (Int.le_refl 0) with ⟨_, e⟩ | ⟨e, _⟩
  · rw [late_zero g] at e; exact e
  · rw [late_zero g] at e; omega
theorem digits_succF : ∀ (n : Nat) (p : Pr) (d : Int), Good p → 0 ≤ d → d ≤ n → digits p (d + 1) = inc p (digits p d) ∧ bakedL p (d + 1) = carry p (digits p d)
  | n, p, d, g, h0, hn => by
    have hb := bakedL_tl g (d := d + 1) (by omega)
    rw [made_one, show max 0 (d + 1 - 1) = d by omega] at hb
    rw [hb]
    by_cases c : d = 0
    · subst c
      rw [digits_pos g (by omega), digits_zero p (Int.le_refl 0), show (0 : Int) + 1 = 1 from rfl, late_one g, late_zero g, digits_zero _ (Int.le_refl 0)]
      refine ⟨by simp [inc], by simp [carry]⟩
    · obtain ⟨m, rfl⟩ : ∃ m, n = m + 1 := ⟨n - 1, by omega⟩
      rw [digits_pos g (by omega), digits_pos g (d := d) (by omega)]
      have hlt := late_lt g (d := d) (by omega)
      obtain ⟨i1, i2⟩ := digits_succF m (tl p 1) (late p d) (g.tl 1) (late_nn p d) (by omega)
      rcases late_succ g h0 with ⟨q, e⟩ | ⟨q, e⟩
      · rw [e]
        refine ⟨?_, ?_⟩
        · show _ = if _ then _ else _
          rw [if_pos q]
          congr 1; omega
        · rw [if_neg (by omega)]
          show _ = if _ then _ else _
          rw [if_pos q]
      · rw [e]
        refine ⟨?_, ?_⟩
        · show _ = if _ then _ else _
          rw [if_neg (by omega), i1]
          congr 1
          rw [Int.mul_add]; omega
        · rw [if_pos (by omega), i2]
          show _ = if _ then _ else _
          rw [if_neg (by omega)]
theorem digits_succ {p : Pr} (g : Good p) {d : Int} (h : 0 ≤ d) : digits p (d + 1) = inc p (digits p d) := (digits_succF d.toNat p d g h (by omega)).1
theorem bakedL_succ {p : Pr} (g : Good p) {d : Int} (h : 0 ≤ d) : bakedL p (d + 1) = carry p (digits p d) := (digits_succF d.toNat p d g h (by omega)).2
/-! ### the rows -/
theorem LY_snd (p : Pr) : ∀ (k : Nat) (xs : List Int), (∀ x ∈ xs, 0 ≤ x) → (LY p k xs).2 = sv p k xs
  | _, [], _ => rfl
  | k, x :: xs, h => by
    show (LY p (k + 1) xs).2 + (x.toNat : Int) * size p k = size p k * x + sv p (k + 1) xs
    rw [LY_snd p (k + 1) xs fun y hy => h y (List.mem_cons_of_mem _ hy)]
    have := h x List.mem_cons_self
    have e : (x.toNat : Int) = x := by omega
    rw [e, Int.mul_comm]; omega
theorem LY_bump (p : Pr) (k : Nat) (xs : List Int) (h : ∀ x ∈ xs, 0 ≤ x) : LY p k (bump xs) = ((LY p k xs).1 ++ [((LY p k xs).2 + 1, (LY p k xs).2 + size p k, (k : Int))], (LY p k xs).2 + size p k) := by
  cases xs with
  | nil =>
    show (([] : List Rw) ++ lyN 0 (size p k) k 1, (0 : Int) + ((1 : Nat) : Int) * size p k) = _
    simp [lyN, LY]
  | cons x xs =>
    have h0 := h x List.mem_cons_self
    show ((LY p (k + 1) xs).1 ++ lyN (LY p (k + 1) xs).2 (size p k) k (x + 1).toNat, (LY p (k + 1) xs).2 + ((x + 1).toNat : Int) * size p k) = (((LY p (k + 1) xs).1 ++ lyN (LY p (k + 1) xs).2 (size p k) k x.toNat) ++ [((LY p (k + 1) xs).2 + (x.toNat : Int) * size p k + 1, (LY p (k + 1) xs).2 + (x.toNat : Int) * size p k + size p k, (k : Int))], (LY p (k + 1) xs).2 + (x.toNat : Int) * size p k + size p k)
    have e : (x + 1).toNat = x.toNat + 1 := by omega
    rw [e, lyN_succ, List.append_assoc]
    congr 1
    have : ((x.toNat + 1 : Nat) : Int) = (x.toNat : Int) + 1 := by omega
    rw [this, Int.add_mul]; omega
/-- the rows of the lower grades -/
def lowP (p : Pr) : Nat → List Int → Int → List Rw × Int
  | _, [], last => ([], last)
  | j, x :: xs, last => ((lowP p (j + 1) xs last).1 ++ lyN (lowP p (j + 1) xs last).2 (size p j) j x.toNat, (lowP p (j + 1) xs last).2 + (x.toNat : Int) * size p j)
theorem LY_low (p : Pr) (ys : List Int) : ∀ (lo : List Int) (j : Nat), LY p j (lo ++ ys) = ((LY p (j + lo.length) ys).1 ++ (lowP p j lo (LY p (j + lo.length) ys).2).1, (lowP p j lo (LY p (j + lo.length) ys).2).2)
  | [], j => by simp [lowP]
  | x :: lo, j => by
    have ih := LY_low p ys lo (j + 1)
    have e : j + (x :: lo).length = j + 1 + lo.length := by simp; omega
    rw [e]
    show ((LY p (j + 1) (lo ++ ys)).1 ++ lyN (LY p (j + 1) (lo ++ ys)).2 (size p j) j x.toNat, (LY p (j + 1) (lo ++ ys)).2 + (x.toNat : Int) * size p j) = _
    rw [ih]
    show (((LY p (j + 1 + lo.length) ys).1 ++ _) ++ _, _) = ((LY p (j + 1 + lo.length) ys).1 ++ (_ ++ _), _)
    rw [List.append_assoc]
    rfl
theorem lyN_grade {last s : Int} {k n : Nat} : ∀ r ∈ lyN last s k n, r.2.2 = (k : Int) := by
  intro r h
  unfold lyN at h
  obtain ⟨i, _, rfl⟩ := List.mem_map.mp h
  rfl
theorem lowP_grade (p : Pr) : ∀ (lo : List Int) (j : Nat) (last : Int), ∀ r ∈ (lowP p j lo last).1, r.2.2 < ((j + lo.length : Nat) : Int)
  | [], _, _ => by intro r h; cases h
  | x :: lo, j, last => by
    intro r h
    rcases List.mem_append.mp h with q | q
    · have := lowP_grade p lo (j + 1) last r q
      simp only [List.length_cons]; omega
    · have := lyN_grade r q
      simp only [List.length_cons]; omega
theorem LY_grade (p : Pr) : ∀ (ys : List Int) (k : Nat), ∀ r ∈ (LY p k ys).1, (k : Int) ≤ r.2.2
  | [], _ => by intro r h; cases h
  | y :: ys, k => by
    intro r h
    rcases List.mem_append.mp h with q | q
    · have := LY_grade p ys (k + 1) r q
      omega
    · have := lyN_grade r q
      omega
/-! ### places of a grade -/
def pos (g : Int) : Nat → List Rw → List Int
  | _, [] => []
  | i, r :: rs => if r.2.2 = g then (i : Int) :: pos g (i + 1) rs else pos g (i + 1) rs
theorem pos_app (g : Int) : ∀ (a b : List Rw) (i : Nat), pos g i (a ++ b) = pos g i a ++ pos g (i + a.length) b
  | [], b, i => by simp [pos]
  | r :: a, b, i => by
    show (if r.2.2 = g then (i : Int) :: pos g (i + 1) (a ++ b) else pos g (i + 1) (a ++ b)) = (if r.2.2 = g then (i : Int) :: pos g (i + 1) a else pos g (i + 1) a) ++ _
    rw [pos_app g a b (i + 1), List.length_cons, show i + 1 + a.length = i + (a.length + 1) by omega]
    by_cases c : r.2.2 = g
    · rw [if_pos c, if_pos c]; rfl
    · rw [if_neg c, if_neg c]
theorem pos_none (g : Int) : ∀ (a : List Rw) (i : Nat), (∀ r ∈ a, r.2.2 ≠ g) → pos g i a = []
  | [], _, _ => rfl
  | r :: a, i, h => by
    show (if r.2.2 = g then _ else _) = _
    rw [if_neg (h r List.mem_cons_self)]
    exact pos_none g a (i + 1) fun y hy => h y (List.mem_cons_of_mem _ hy)
theorem pos_all (g : Int) : ∀ (a : List Rw) (i : Nat), (∀ r ∈ a, r.2.2 = g) → pos g i a = (List.range a.length).map fun (j : Nat) => ((i + j : Nat) : Int)
  | [], _, _ => rfl
  | r :: a, i, h => by
    show (if r.2.2 = g then _ else _) = _
    rw [if_pos (h r List.mem_cons_self), pos_all g a (i + 1) fun y hy => h y (List.mem_cons_of_mem _ hy), List.length_cons, List.range_succ_eq_map, List.map_cons, List.map_map]
    congr 1
    refine List.map_congr_left fun j _ => ?_
    show (((i + 1 + j : Nat)) : Int) = ((i + (j + 1) : Nat) : Int)
    omega
theorem pos_take (g : Int) (rows : List Rw) (i : Nat) (r : Rw) (h : rows[i]? = some r) : pos g 0 (rows.take (i + 1)) = pos g 0 (rows.take i) ++ if r.2.2 = g then [(i : Int)] else [] := by
  have hl : i < rows.length := (List.getElem?_eq_some_iff.mp h).1
  have e : rows.take (i + 1) = rows.take i ++ [r] := by
    rw [List.take_succ, h]; rfl
  rw [e, pos_app, List.length_take, Nat.zero_add, Nat.min_eq_left (by omega)]
  rfl
theorem pos_len (g : Int) : ∀ (a : List Rw) (i : Nat), (pos g i a).length ≤ a.length
  | [], _ => Nat.le_refl _
  | r :: a, i => by
    show (if r.2.2 = g then _ else _ : List Int).length ≤ _
    by_cases c : r.2.2 = g
    · rw [if_pos c]; have := pos_len g a (i + 1); simp; omega
    · rw [if_neg c]; have := pos_len g a (i + 1); simp; omega
/-- the rows at grade k: the greater ones, the n of grade k, the lesser ones -/
theorem rows_at (p : Pr) (lo : List Int) (y : Int) (ys : List Int) : (LY p 0 (lo ++ y :: ys)).1 =
    (LY p (lo.length + 1) ys).1 ++ (lyN (LY p (lo.length + 1) ys).2 (size p lo.length) lo.length y.toNat ++ (lowP p 0 lo ((LY p (lo.length + 1) ys).2 + (y.toNat : Int) * size p lo.length)).1) := by
  rw [LY_low, Nat.zero_add]
  show ((LY p (lo.length + 1) ys).1 ++ lyN _ _ _ _) ++ _ = _
  rw [List.append_assoc]
  rfl
theorem rows_pos (p : Pr) (lo : List Int) (y : Int) (ys : List Int) : pos (lo.length : Nat) 0 (LY p 0 (lo ++ y :: ys)).1 = (List.range y.toNat).map fun (j : Nat) => (((LY p (lo.length + 1) ys).1.length + j : Nat) : Int) := by
  rw [rows_at, pos_app, pos_app, pos_none _ _ _ (fun r h => ?_), pos_none _ (lowP _ _ _ _).1 _ (fun r h => ?_), pos_all _ _ _ lyN_grade]
  · simp [lyN]
  · have := lowP_grade p _ _ _ r h; omega
  · have := LY_grade p _ _ r h; omega
theorem lyN_drop (last s : Int) (k n b : Nat) : (lyN last s k n).drop b = lyN (last + (b : Int) * s) s k (n - b) := by
  apply List.ext_getElem
  · simp [lyN]
  · intro i h1 h2
    simp only [lyN, List.getElem_drop, List.getElem_map, List.getElem_range]
    have : ((b + i : Nat) : Int) * s = (b : Int) * s + (i : Int) * s := by rw [← Int.add_mul]; congr 1
    rw [this]
    congr 1
    · omega
    · congr 1; omega
/-- one bake -/
theorem rows_bake {p : Pr} (g : Good p) (lo : List Int) (y : Int) (ys : List Int) (hy : (p lo.length).2 ≤ y) (h : ∀ x ∈ ys, 0 ≤ x) : ∃ (f l : Rw),
    (LY p 0 (lo ++ y :: ys)).1[(LY p (lo.length + 1) ys).1.length]? = some f ∧ (LY p 0 (lo ++ y :: ys)).1[(LY p (lo.length + 1) ys).1.length + ((p lo.length).2.toNat - 1)]? = some l ∧
    (LY p 0 (lo ++ y :: ys)).1.take (LY p (lo.length + 1) ys).1.length ++ [(f.1, l.2.1, (lo.length : Int) + 1)] ++ (LY p 0 (lo ++ y :: ys)).1.drop ((LY p (lo.length + 1) ys).1.length + ((p lo.length).2.toNat - 1) + 1) = (LY p 0 ((lo ++ [y - (p lo.length).2]) ++ bump ys)).1 := by
  have hb := g.lo lo.length
  generalize hk : lo.length = k at *
  have e := rows_at p lo y ys
  rw [hk] at e
  rw [e]
  generalize hA : (LY p (k + 1) ys).1 = A
  generalize hL : (LY p (k + 1) ys).2 = L
  generalize hs : size p k = s
  generalize hb2 : (p k).2 = b at *
  have gl : ∀ i, i < y.toNat → (lyN L s k y.toNat)[i]? = some (L + (i : Int) * s + 1, L + (i : Int) * s + s, (k : Int)) := by
    intro i hi
    unfold lyN
    rw [List.getElem?_map, List.getElem?_range hi]; rfl
  have hl : (lyN L s k y.toNat).length = y.toNat := by simp [lyN]
  refine ⟨(L + ((0 : Nat) : Int) * s + 1, L + ((0 : Nat) : Int) * s + s, (k : Int)), (L + ((b.toNat - 1 : Nat) : Int) * s + 1, L + ((b.toNat - 1 : Nat) : Int) * s + s, (k : Int)), ?_, ?_, ?_⟩
  · rw [List.getElem?_append_right (Nat.le_refl _), Nat.sub_self, List.getElem?_append_left (by omega)]
    exact gl 0 (by omega)
  · rw [List.getElem?_append_right (by omega), show A.length + (b.toNat - 1) - A.length = b.toNat - 1 by omega, List.getElem?_append_left (by omega)]
    exact gl _ (by omega)
  · rw [List.take_left, show A.length + (b.toNat - 1) + 1 = A.length + b.toNat by omega, ← List.drop_drop, List.drop_left, List.drop_append_of_le_length (by omega), lyN_drop]
    rw [List.append_assoc lo, List.singleton_append, rows_at, hk, LY_bump p (k + 1) ys h, hA, hL, hs]
    show _ = (A ++ [(L + 1, L + size p k * (p k).2, ((k + 1 : Nat) : Int))]) ++ (lyN (L + size p k * (p k).2) s k (y - b).toNat ++ (lowP p 0 lo (L + size p k * (p k).2 + ((y - b).toNat : Int) * s)).1)
    rw [hb2, hs]
    have e1 : (b.toNat : Int) = b := by omega
    have e2 : (y - b).toNat = y.toNat - b.toNat := by omega
    have e3 : s * b = b * s := Int.mul_comm _ _
    have e4 : ((b.toNat - 1 : Nat) : Int) * s + s = b * s := by
      have : ((b.toNat - 1 : Nat) : Int) = b - 1 := by omega
      rw [this, Int.sub_mul]; omega
    have e5 : b * s + ((y.toNat - b.toNat : Nat) : Int) * s = (y.toNat : Int) * s := by
      rw [← Int.add_mul]; congr 1; omega
    rw [e1, e2, e3, Int.add_assoc L (b * s), e5]
    have e6 : L + ((b.toNat - 1 : Nat) : Int) * s + s = L + b * s := by omega
    rw [e6]
    simp
/-- a step of the loop: what is left of the digits -/
theorem inc_turn {p : Pr} {lo : List Int} {x : Int} {xs : List Int} (c : (p lo.length).1 = x + 1) : lo ++ inc (tl p lo.length) (x :: xs) = (lo ++ [x + 1 - (p lo.length).2]) ++ inc (tl p (lo.length + 1)) xs := by
  show lo ++ (if x + 1 < (tl p lo.length 0).1 then _ else _) = _
  have e : tl p lo.length 0 = p lo.length := by unfold tl; rw [Nat.zero_add]
  rw [e, if_neg (by omega), tl_tl, List.append_assoc]
  rfl
theorem inc_stop {p : Pr} {lo : List Int} {xs : List Int} (c : ∀ x ∈ (bump xs).head?, x < (p lo.length).1) (hw : 1 < (p lo.length).1) : inc (tl p lo.length) xs = bump xs ∧ carry (tl p lo.length) xs = [] := by
  have e : tl p lo.length 0 = p lo.length := by unfold tl; rw [Nat.zero_add]
  cases xs with
  | nil => exact ⟨rfl, rfl⟩
  | cons x xs =>
    have := c (x + 1) rfl
    refine ⟨?_, ?_⟩
    · show (if x + 1 < (tl p lo.length 0).1 then _ else _) = _
      rw [e, if_pos this]; rfl
    · show (if x + 1 < (tl p lo.length 0).1 then _ else _) = _
      rw [e, if_pos this]
theorem carry_turn {p : Pr} {k : Nat} {x : Int} {xs : List Int} (c : (p k).1 = x + 1) : (carry (tl p k) (x :: xs)).map (· + (k : Int)) = (k : Int) :: (carry (tl p (k + 1)) xs).map (· + ((k + 1 : Nat) : Int)) := by
  show List.map _ (if x + 1 < (tl p k 0).1 then _ else _) = _
  have e : tl p k 0 = p k := by unfold tl; rw [Nat.zero_add]
  rw [e, if_neg (by omega), tl_tl, List.map_cons, List.map_map]
  refine congr (congrArg List.cons (by omega)) (List.map_congr_left fun j _ => ?_)
  show j + 1 + (k : Int) = j + ((k + 1 : Nat) : Int)
  omega
/-- the first rows of a day -/
theorem rows_first {p : Pr} (g : Good p) {d : Int} (h : 0 ≤ d) : layersL p d ++ [(d + 1, d + 1, 0)] = (LY p 0 (bump (digits p d))).1 := by
  have hv := valid_le g (valid_digits g h)
  rw [LY_bump p 0 _ fun x hx => (hv x hx).1]
  show _ = (LY p 0 (digits p d)).1 ++ [((LY p 0 (digits p d)).2 + 1, (LY p 0 (digits p d)).2 + 1, ((0 : Nat) : Int))]
  rw [LY_snd p 0 _ fun x hx => (hv x hx).1, ← value_sv, value_digits g h]
  rfl
end Silt
set_option linter.all false
namespace Silt
def dayMade (p : Pr) (g : Nat) (m : Int) : Int := if 0 < m then m * size p g + owed p g else 0
def dayIn (p : Pr) (d : Int) (g : Nat) : Int := dayMade p g ((d + size p g - 1) / size p g)
/-- the hardest day up to d: the first one on which the greatest grade comes in -/
def HardR (p : Pr) (d : Int) (r : Option Int) : Prop := ∃ g : Nat, (∀ k, k < g → dayMade p (k + 1) 1 ≤ d) ∧ d < dayMade p (g + 1) 1 ∧ r = if g = 0 then none else some (dayMade p g 1)
def TogR (p : Pr) (d e r : Int) : Prop := ∃ g : Nat, (∀ k, k < g → (d - 1) / size p k ≠ (e - 1) / size p k) ∧ (d - 1) / size p g = (e - 1) / size p g ∧ r = dayIn p (max d e) g
theorem dayMade_one (p : Pr) (g : Nat) : dayMade p g 1 = size p g + owed p g := by simp [dayMade]
def whereF : Nat → List Rw → Int → Option (Int × Int)
  | _, [], _ => none
  | i, r :: rs, d => if r.1 ≤ d ∧ d ≤ r.2.1 then some (r.2.2, (i : Int)) else whereF (i + 1) rs d
def whereL (rows : List Rw) (d : Int) : Option (Int × Int) := whereF 0 rows d
def load (p : Pr) (d : Int) : Int := ((bakedL p d).map fun g => size p (g + 1).toNat).sum
end Silt
set_option linter.all false
namespace Silt
/-! ### where a day lies -/
theorem whereF_app (d : Int) : ∀ (a b : List Rw) (i : Nat), whereF i (a ++ b) d = match whereF i a d with
    | some r => some r
    | none => whereF (i + a.length) b d
  | [], b, i => rfl
  | r :: a, b, i => by
    show (if _ then _ else _) = match (if r.1 ≤ d ∧ d ≤ r.2.1 then some (r.2.2, (i : Int)) else whereF (i + 1) a d) with
      | some r => some r
      | none => _
    by_cases c : r.1 ≤ d ∧ d ≤ r.2.1
    · rw [if_pos c, if_pos c]
    · rw [if_neg c, if_neg c, List.length_cons, show i + (a.length + 1) = i + 1 + a.length by omega]
      exact whereF_app d a b (i + 1)
theorem whereF_lyN_no {s : Int} (hs : 0 < s) (k : Nat) (d : Int) : ∀ (n : Nat) (last : Int) (i : Nat), (d ≤ last ∨ last + (n : Int) * s < d) → whereF i (lyN last s k n) d = none
  | 0, _, _, _ => rfl
  | n + 1, last, i, h => by
    rw [lyN_succ, whereF_app]
    have e : ((n + 1 : Nat) : Int) * s = (n : Int) * s + s := by
      have : ((n + 1 : Nat) : Int) = (n : Int) + 1 := by omega
      rw [this, Int.add_mul]; omega
    rw [e] at h
    have hn : 0 ≤ (n : Int) * s := Int.mul_nonneg (by omega) (by omega)
    rw [whereF_lyN_no hs k d n last i (by omega)]
    show (if last + (n : Int) * s + 1 ≤ d ∧ d ≤ last + (n : Int) * s + s then _ else none) = none
    rw [if_neg (by omega)]
theorem whereF_lyN {s : Int} (hs : 0 < s) (k : Nat) (d : Int) : ∀ (n : Nat) (last : Int) (i : Nat), last < d → d ≤ last + (n : Int) * s → whereF i (lyN last s k n) d = some ((k : Int), (i : Int) + (d - last - 1) / s)
  | 0, last, i, h1, h2 => by simp at h2; omega
  | n + 1, last, i, h1, h2 => by
    rw [lyN_succ, whereF_app]
    have e : ((n + 1 : Nat) : Int) * s = (n : Int) * s + s := by
      have : ((n + 1 : Nat) : Int) = (n : Int) + 1 := by omega
      rw [this, Int.add_mul]; omega
    rw [e] at h2
    by_cases c : d ≤ last + (n : Int) * s
    · rw [whereF_lyN hs k d n last i h1 c]
    · rw [whereF_lyN_no hs k d n last i (by omega)]
      show (if last + (n : Int) * s + 1 ≤ d ∧ d ≤ last + (n : Int) * s + s then some ((k : Int), ((i + (lyN last s k n).length : Nat) : Int)) else none) = _
      rw [if_pos (by omega)]
      have hl : (lyN last s k n).length = n := by simp [lyN]
      have : (d - last - 1) / s = (n : Int) := by
        rw [Int.ediv_eq_iff_of_pos hs]
        omega
      rw [hl, this]
      congr 2
theorem PL_where {p : Pr} (g : Good p) {d : Int} (h1 : 1 ≤ d) : ∀ (k : Nat) (xs : List Int), (∀ x ∈ xs, 0 ≤ x) → match PL p d k xs with
    | .inl r => whereF 0 (LY p k xs).1 d = some r
    | .inr (l, n) => whereF 0 (LY p k xs).1 d = none ∧ n = (LY p k xs).1.length ∧ l = (LY p k xs).2 ∧ l < d
  | k, [], _ => ⟨rfl, rfl, rfl, by show (0 : Int) < d; omega⟩
  | k, x :: xs, hx => by
    have ih := PL_where g h1 (k + 1) xs fun y hy => hx y (List.mem_cons_of_mem _ hy)
    have x0 := hx x List.mem_cons_self
    have hs := size_pos g k
    have eLY : LY p k (x :: xs) = ((LY p (k + 1) xs).1 ++ lyN (LY p (k + 1) xs).2 (size p k) k x.toNat, (LY p (k + 1) xs).2 + (x.toNat : Int) * size p k) := rfl
    cases e : PL p d (k + 1) xs with
    | inl r =>
      rw [e] at ih
      have ih' : whereF 0 (LY p (k + 1) xs).1 d = some r := ih
      rw [PL_keep e]
      show whereF 0 (LY p k (x :: xs)).1 d = some r
      rw [eLY]
      show whereF 0 ((LY p (k + 1) xs).1 ++ _) d = _
      rw [whereF_app, ih']
    | inr r =>
      obtain ⟨l, n⟩ := r
      rw [e] at ih
      obtain ⟨i1, i2, i3, i4⟩ : whereF 0 (LY p (k + 1) xs).1 d = none ∧ n = (LY p (k + 1) xs).1.length ∧ l = (LY p (k + 1) xs).2 ∧ l < d := ih
      rw [PL_step e]
      have ex : (x.toNat : Int) = x := by omega
      have em : size p k * x = (x.toNat : Int) * size p k := by rw [ex, Int.mul_comm]
      by_cases c : d ≤ l + size p k * x
      · rw [if_pos c]
        show whereF 0 (LY p k (x :: xs)).1 d = some _
        rw [eLY]
        show whereF 0 ((LY p (k + 1) xs).1 ++ _) d = _
        rw [whereF_app, i1, ← i3]
        show whereF (0 + (LY p (k + 1) xs).1.length) _ d = _
        rw [whereF_lyN hs k d x.toNat l _ i4 (by omega)]
        congr 2
        rw [i2]
        omega
      · rw [if_neg c]
        refine ⟨?_, ?_, ?_, by show l + size p k * x < d; omega⟩
        · rw [eLY]
          show whereF 0 ((LY p (k + 1) xs).1 ++ _) d = _
          rw [whereF_app, i1, ← i3]
          exact whereF_lyN_no hs k d x.toNat l _ (.inr (by omega))
        · rw [eLY, List.length_append]
          have hl : (lyN (LY p (k + 1) xs).2 (size p k) k x.toNat).length = x.toNat := by simp [lyN]
          rw [hl]
          show n + x = _
          rw [i2]
          omega
        · rw [eLY]
          show l + size p k * x = _
          rw [i3, em]
theorem PL_whereL {p : Pr} (g : Good p) {d n : Int} (h1 : 1 ≤ d) (h2 : d ≤ n) : ∃ r, PL p d 0 (digits p n) = .inl r ∧ whereL (layersL p n) d = some r := by
  have hv := valid_le g (valid_digits g (by omega : 0 ≤ n))
  have q := PL_where g h1 0 (digits p n) fun x hx => (hv x hx).1
  cases e : PL p d 0 (digits p n) with
  | inl r => rw [e] at q; exact ⟨r, rfl, q⟩
  | inr r =>
    exfalso
    obtain ⟨l, m⟩ := r
    rw [e] at q
    obtain ⟨_, _, q3, q4⟩ : _ ∧ _ ∧ l = (LY p 0 (digits p n)).2 ∧ l < d := q
    rw [LY_snd p 0 _ fun x hx => (hv x hx).1, ← value_sv, value_digits g (by omega)] at q3
    omega
/-! ### the grade of a day -/
theorem sv_step_le {p : Pr} (g : Good p) {xs : List Int} (h : ∀ x ∈ xs, 0 ≤ x) (k j : Nat) : sv p (k + (j + 1)) (xs.drop (j + 1)) ≤ sv p (k + j) (xs.drop j) := by
  rcases Nat.lt_or_ge j xs.length with c | c
  · rw [List.drop_eq_getElem_cons c]
    show _ ≤ size p (k + j) * xs[j] + sv p (k + j + 1) (xs.drop (j + 1))
    have : 0 ≤ size p (k + j) * xs[j] := Int.mul_nonneg (by have := size_pos g (k + j); omega) (h _ (List.getElem_mem c))
    rw [show k + (j + 1) = k + j + 1 by omega]
    omega
  · rw [List.drop_of_length_le c, List.drop_of_length_le (by omega)]
    exact Int.le_refl _
theorem sv_anti {p : Pr} (g : Good p) {xs : List Int} (h : ∀ x ∈ xs, 0 ≤ x) (i : Nat) : ∀ (m : Nat), sv p (i + m) (xs.drop (i + m)) ≤ sv p i (xs.drop i)
  | 0 => Int.le_refl _
  | m + 1 => by
    have h1 := sv_anti g h i m
    have h2 := sv_step_le g h 0 (i + m)
    rw [Nat.zero_add, Nat.zero_add] at h2
    rw [show i + (m + 1) = i + m + 1 by omega]
    exact Int.le_trans h2 h1
theorem PL_grade {p : Pr} (g : Good p) {d : Int} (h1 : 1 ≤ d) : ∀ (k : Nat) (xs : List Int) (r : Int × Int), PL p d k xs = .inl r → ∃ m : Nat, r.1 = ((k + m : Nat) : Int) ∧ d ≤ sv p (k + m) (xs.drop m) ∧ sv p (k + m + 1) (xs.drop (m + 1)) < d
  | _, [], _, h => by cases h
  | k, x :: xs, r, h => by
    cases e : PL p d (k + 1) xs with
    | inl r1 =>
      rw [PL_keep e] at h
      cases h
      obtain ⟨m, e1, e2, e3⟩ := PL_grade g h1 (k + 1) xs r e
      refine ⟨m + 1, by rw [e1]; congr 1; omega, ?_, ?_⟩
      · rw [show k + (m + 1) = k + 1 + m by omega]; exact e2
      · rw [show k + (m + 1) + 1 = k + 1 + m + 1 by omega]; exact e3
    | inr r1 =>
      obtain ⟨l, n⟩ := r1
      rw [PL_step e] at h
      have q := PL_sv (k + 1) xs l n e
      by_cases c : d ≤ l + size p k * x
      · rw [if_pos c] at h
        cases h
        refine ⟨0, rfl, ?_, ?_⟩
        · show d ≤ size p k * x + sv p (k + 1) xs
          rw [← q.1]; omega
        · show sv p (k + 1) xs < d
          rcases q.2 with z | z
          · rw [z]; show (0 : Int) < d; omega
          · rw [← q.1]; exact z
      · rw [if_neg c] at h; cases h
theorem digits_dropN {p : Pr} (g : Good p) {n : Int} (h : 0 ≤ n) : ∀ k : Nat, (digits p n).drop k = digits (tl p k) (made p k n)
  | 0 => by rw [made_zero p h, tl_zero]; rfl
  | k + 1 => by
    rw [← List.drop_drop, digits_dropN g h k, digits_drop (g.tl k) (made_nn p k n), tl_tl, made_next g k n h]
theorem sv_at {p : Pr} : ∀ (k : Nat) (xs : List Int), sv p k xs = size p k * value (tl p k) xs
  | 0, xs => by rw [tl_zero, value_sv]; show _ = 1 * _; omega
  | k + 1, xs => by
    rw [sv_tl, sv_at k xs, tl_tl, size_tl, Int.mul_assoc, show 1 + k = k + 1 by omega]
theorem sv_made {p : Pr} (g : Good p) {n : Int} (h : 0 ≤ n) (k : Nat) : sv p k ((digits p n).drop k) = size p k * made p k n := by
  rw [digits_dropN g h k, sv_at, value_digits (g.tl k) (made_nn p k n)]
theorem made_ge {p : Pr} (g : Good p) {k : Nat} {m n : Int} (hm : 1 ≤ m) : m ≤ made p k n ↔ dayMade p k m ≤ n := by
  have hs := size_pos g k
  unfold made dayMade
  rw [if_pos (by omega)]
  have : m ≤ (n - owed p k) / size p k ↔ m * size p k ≤ n - owed p k := Int.le_ediv_iff_mul_le hs
  omega
theorem ceil_le {d s m : Int} (hs : 0 < s) : (d + s - 1) / s ≤ m ↔ d ≤ s * m := by
  have := Int.ediv_lt_iff_lt_mul (a := d + s - 1) (b := m + 1) hs
  rw [Int.add_mul, Int.mul_comm m s] at this
  omega
/-- the grade of the day d on the day n -/
theorem grade_ge {p : Pr} (g : Good p) {d n : Int} (h1 : 1 ≤ d) (h2 : d ≤ n) {r : Int × Int} (h : whereL (layersL p n) d = some r) (k : Nat) : (k : Int) ≤ r.1 ↔ dayIn p d k ≤ n := by
  obtain ⟨r', e1, e2⟩ := PL_whereL g h1 h2
  rw [h] at e2
  cases e2
  have hv := valid_le g (valid_digits g (by omega : 0 ≤ n))
  have hx : ∀ x ∈ digits p n, 0 ≤ x := fun x hx => (hv x hx).1
  obtain ⟨m, em, q1, q2⟩ := PL_grade g h1 0 _ r e1
  rw [Nat.zero_add] at em q1 q2
  have hs := size_pos g k
  have hc : 1 ≤ (d + size p k - 1) / size p k := by
    have := (Int.le_ediv_iff_mul_le hs (a := 1) (b := d + size p k - 1)).mpr (by omega)
    exact this
  have e3 : dayIn p d k ≤ n ↔ d ≤ sv p k ((digits p n).drop k) := by
    unfold dayIn
    rw [← made_ge g hc, sv_made g (by omega), ceil_le hs]
  rw [e3, em]
  constructor
  · intro hk
    have := sv_anti g hx k (m - k)
    rw [show k + (m - k) = m by omega] at this
    omega
  · intro hd
    rcases Nat.lt_or_ge m k with c | c
    · exfalso
      have := sv_anti g hx (m + 1) (k - (m + 1))
      rw [show m + 1 + (k - (m + 1)) = k by omega] at this
      omega
    · omega
theorem dayIn_ge {p : Pr} (g : Good p) {d : Int} (h1 : 1 ≤ d) (k : Nat) : d ≤ dayIn p d k := by
  have hs := size_pos g k
  have ho := owed_nn g k
  have hc : 1 ≤ (d + size p k - 1) / size p k := (Int.le_ediv_iff_mul_le hs (a := 1) (b := d + size p k - 1)).mpr (by omega)
  have := (ceil_le (d := d) (m := (d + size p k - 1) / size p k) hs).mp (Int.le_refl _)
  unfold dayIn dayMade
  rw [if_pos (by omega), Int.mul_comm]
  omega
/-! ### days that lie together -/
theorem size_dvd (p : Pr) (k : Nat) : ∀ m : Nat, size p k ∣ size p (k + m)
  | 0 => Int.dvd_refl _
  | m + 1 => by
    obtain ⟨c, e⟩ := size_dvd p k m
    refine ⟨c * (p (k + m)).2, ?_⟩
    show size p (k + m) * (p (k + m)).2 = _
    rw [e, Int.mul_assoc]
theorem sv_dvd (p : Pr) (k : Nat) : ∀ (xs : List Int) (m : Nat), size p k ∣ sv p (k + m) xs
  | [], _ => ⟨0, by simp [sv]⟩
  | x :: xs, m => by
    have h1 : size p k ∣ size p (k + m) * x := Int.dvd_trans (size_dvd p k m) ⟨x, rfl⟩
    have h2 := sv_dvd p k xs (m + 1)
    exact Int.dvd_add h1 h2
theorem div_off {s l d : Int} (hs : 0 < s) (h : s ∣ l) : (d - l - 1) / s = (d - 1) / s - l / s := by
  obtain ⟨c, rfl⟩ := h
  have e : d - s * c - 1 = d - 1 + s * (-c) := by rw [Int.mul_neg]; omega
  rw [e, Int.add_mul_ediv_left _ _ (by omega), Int.mul_ediv_cancel_left _ (by omega)]
  omega
theorem div_lo {s l d : Int} (hs : 0 < s) (h : s ∣ l) : l < d ↔ l / s ≤ (d - 1) / s := by
  obtain ⟨c, rfl⟩ := h
  rw [Int.mul_ediv_cancel_left _ (by omega), Int.le_ediv_iff_mul_le hs, Int.mul_comm c s]
  omega
theorem PL_same {p : Pr} (g : Good p) {d e : Int} : ∀ (k : Nat) (xs : List Int) (r : Int × Int) (G : Nat), (∀ x ∈ xs, 0 ≤ x) → PL p d k xs = .inl r → r.1 = (G : Nat) → 1 ≤ d → 1 ≤ e → (d - 1) / size p G = (e - 1) / size p G → PL p e k xs = .inl r
  | _, [], _, _, _, h, _, _, _, _ => by cases h
  | k, x :: xs, r, G, hx, h, hG, hd, he, hde => by
    have hx' : ∀ x ∈ xs, 0 ≤ x := fun y hy => hx y (List.mem_cons_of_mem _ hy)
    have hs := size_pos g k
    cases q : PL p d (k + 1) xs with
    | inl r1 =>
      rw [PL_keep q] at h
      cases h
      exact PL_keep (PL_same g (k + 1) xs r G hx' q hG hd he hde)
    | inr r1 =>
      obtain ⟨l, n⟩ := r1
      rw [PL_step q] at h
      have ql := PL_sv (k + 1) xs l n q
      by_cases c : d ≤ l + size p k * x
      · rw [if_pos c] at h
        cases h
        have ek : G = k := by
          have : ((k : Nat) : Int) = (G : Nat) := hG
          omega
        subst ek
        have hdv : size p G ∣ l := by rw [ql.1]; exact sv_dvd p G xs 1
        have hdv2 : size p G ∣ l + size p G * x := Int.dvd_add hdv ⟨x, rfl⟩
        have hld : l < d := by
          rcases ql.2 with z | z
          · rw [ql.1, z]; show (0 : Int) < d; omega
          · exact z
        have hle : l < e := (div_lo hs hdv).mpr (by rw [← hde]; exact (div_lo hs hdv).mp hld)
        -- e is not found above
        have q2 : PL p e (G + 1) xs = .inr (l, n) := by
          have w1 := PL_where g hd (G + 1) xs hx'
          have w2 := PL_where g he (G + 1) xs hx'
          rw [q] at w1
          obtain ⟨_, n1, l1, _⟩ : _ ∧ n = (LY p (G + 1) xs).1.length ∧ l = (LY p (G + 1) xs).2 ∧ l < d := w1
          cases z : PL p e (G + 1) xs with
          | inl r2 =>
            exfalso
            have := (PL_inl_le g (G + 1) xs r2 hx' z).1
            rw [← ql.1] at this
            omega
          | inr r2 =>
            obtain ⟨l2, n2⟩ := r2
            rw [z] at w2
            obtain ⟨_, n3, l3, _⟩ : _ ∧ n2 = (LY p (G + 1) xs).1.length ∧ l2 = (LY p (G + 1) xs).2 ∧ l2 < e := w2
            rw [n3, l3, n1, l1]
        rw [PL_step q2]
        have hee : e ≤ l + size p G * x := by
          rcases Int.lt_or_le (l + size p G * x) e with z | z
          · have := (div_lo hs hdv2).mp z
            rw [← hde] at this
            have := (div_lo hs hdv2).mpr this
            omega
          · exact z
        rw [if_pos hee, div_off hs hdv, div_off hs hdv, hde]
      · rw [if_neg c] at h; cases h
/-- the place tells the layer -/
theorem PL_tells {p : Pr} (g : Good p) {d e : Int} : ∀ (k : Nat) (xs : List Int) (r : Int × Int), (∀ x ∈ xs, 0 ≤ x) → 1 ≤ d → 1 ≤ e → PL p d k xs = .inl r → PL p e k xs = .inl r → ∃ G : Nat, r.1 = (G : Nat) ∧ (d - 1) / size p G = (e - 1) / size p G
  | _, [], _, _, _, _, h, _ => by cases h
  | k, x :: xs, r, hx, hd, he, h1, h2 => by
    have hx' : ∀ x ∈ xs, 0 ≤ x := fun y hy => hx y (List.mem_cons_of_mem _ hy)
    have hs := size_pos g k
    cases q1 : PL p d (k + 1) xs with
    | inl r1 =>
      rw [PL_keep q1] at h1
      cases h1
      cases q2 : PL p e (k + 1) xs with
      | inl r2 =>
        rw [PL_keep q2] at h2
        cases h2
        exact PL_tells g (k + 1) xs r hx' hd he q1 q2
      | inr r2 =>
        exfalso
        obtain ⟨l, n⟩ := r2
        rw [PL_step q2] at h2
        have := (PL_inl_le g (k + 1) xs r hx' q1).2
        by_cases c : e ≤ l + size p k * x
        · rw [if_pos c] at h2; cases h2; have : ((k + 1 : Nat) : Int) ≤ (k : Int) := this; omega
        · rw [if_neg c] at h2; cases h2
    | inr r1 =>
      obtain ⟨l, n⟩ := r1
      rw [PL_step q1] at h1
      by_cases c : d ≤ l + size p k * x
      · rw [if_pos c] at h1
        cases h1
        cases q2 : PL p e (k + 1) xs with
        | inl r2 =>
          exfalso
          rw [PL_keep q2] at h2
          cases h2
          have := (PL_inl_le g (k + 1) xs _ hx' q2).2
          have : ((k + 1 : Nat) : Int) ≤ (k : Int) := this
          omega
        | inr r2 =>
          obtain ⟨l2, n2⟩ := r2
          have w1 := PL_where g hd (k + 1) xs hx'
          have w2 := PL_where g he (k + 1) xs hx'
          rw [q1] at w1
          rw [q2] at w2
          obtain ⟨_, n3, l3, _⟩ : _ ∧ n = (LY p (k + 1) xs).1.length ∧ l = (LY p (k + 1) xs).2 ∧ l < d := w1
          obtain ⟨_, n4, l4, _⟩ : _ ∧ n2 = (LY p (k + 1) xs).1.length ∧ l2 = (LY p (k + 1) xs).2 ∧ l2 < e := w2
          obtain rfl : l2 = l := by rw [l3, l4]
          obtain rfl : n2 = n := by rw [n3, n4]
          rw [PL_step q2] at h2
          by_cases c2 : e ≤ l2 + size p k * x
          · rw [if_pos c2] at h2
            have h3 := (Prod.mk.inj (Sum.inl.inj h2)).2
            have hdv : size p k ∣ l2 := by
              have := (PL_sv (k + 1) xs l2 n2 q1).1
              rw [this]; exact sv_dvd p k xs 1
            rw [div_off hs hdv, div_off hs hdv] at h3
            exact ⟨k, rfl, by omega⟩
          · rw [if_neg c2] at h2; cases h2
      · rw [if_neg c] at h1; cases h1
theorem div_up {p : Pr} (g : Good p) {d e : Int} {k m : Nat} (h : (d - 1) / size p k = (e - 1) / size p k) : (d - 1) / size p (k + m) = (e - 1) / size p (k + m) := by
  have hs := size_pos g k
  obtain ⟨c, ec⟩ := size_dvd p k m
  have hs2 := size_pos g (k + m)
  rw [ec]
  rw [← Int.ediv_ediv_of_nonneg (by omega), ← Int.ediv_ediv_of_nonneg (by omega), h]
/-- two days lie in one layer from the day on that TogR tells -/
theorem tog_iff {p : Pr} (g : Good p) {d e n r : Int} (hd : 1 ≤ d) (he : 1 ≤ e) (h1 : d ≤ n) (h2 : e ≤ n) (t : TogR p d e r) : whereL (layersL p n) d = whereL (layersL p n) e ↔ r ≤ n := by
  obtain ⟨G, hk, hG, rfl⟩ := t
  have hv := valid_le g (valid_digits g (by omega : 0 ≤ n))
  have hx : ∀ x ∈ digits p n, 0 ≤ x := fun x hx => (hv x hx).1
  have hmax : 1 ≤ max d e ∧ max d e ≤ n := by omega
  obtain ⟨rd, ed1, ed2⟩ := PL_whereL g hd h1
  obtain ⟨re, ee1, ee2⟩ := PL_whereL g he h2
  obtain ⟨rm, em1, em2⟩ := PL_whereL g hmax.1 hmax.2
  have hge := grade_ge g hmax.1 hmax.2 em2 G
  rw [ed2, ee2, ← hge]
  constructor
  · intro h
    cases h
    obtain ⟨G2, e1, e2⟩ := PL_tells g 0 _ rd hx hd he ed1 ee1
    have erm : rm = rd := by
      rcases Int.le_total d e with z | z
      · rw [Int.max_eq_right z, ee1] at em1; cases em1; rfl
      · rw [Int.max_eq_left z, ed1] at em1; cases em1; rfl
    rw [erm, e1]
    rcases Nat.lt_or_ge G2 G with z | z
    · exact absurd e2 (hk G2 z)
    · omega
  · intro h
    obtain ⟨m, q, _, _⟩ := PL_grade g hmax.1 0 _ rm em1
    rw [Nat.zero_add] at q
    have hup := div_up g (m := m - G) hG
    rw [show G + (m - G) = m by omega] at hup
    rcases Int.le_total d e with z | z
    · rw [Int.max_eq_right z, ee1] at em1
      cases em1
      have := PL_same g 0 _ re m hx ee1 q he hd hup.symm
      rw [ed1] at this
      cases this; rfl
    · rw [Int.max_eq_left z, ed1] at em1
      cases em1
      have := PL_same g 0 _ rd m hx ed1 q hd he hup
      rw [ee1] at this
      cases this; rfl
theorem tog_sym {p : Pr} {d e r s : Int} (h : TogR p d e r) (h' : TogR p e d s) : r = s := by
  obtain ⟨G, hk, hG, rfl⟩ := h
  obtain ⟨G', hk', hG', rfl⟩ := h'
  obtain rfl : G = G' := by
    rcases Nat.lt_trichotomy G G' with z | z | z
    · exact absurd hG.symm (hk' G z)
    · exact z
    · exact absurd hG'.symm (hk G' z)
  rw [Int.max_comm]
theorem tog_ge {p : Pr} (g : Good p) {d e r : Int} (hd : 1 ≤ d) (h : TogR p d e r) : max d e ≤ r := by
  obtain ⟨G, _, _, rfl⟩ := h
  exact dayIn_ge g (by omega) G
end Silt
set_option linter.all false
namespace Silt
/-! ### the work of a day -/
theorem work_zero (p : Pr) : work p 0 = 0 := by simp [work, workF]
theorem load_succ {p : Pr} (g : Good p) {d : Int} (h : 0 ≤ d) : load p (d + 1) = if late p (d + 1) = late p d then 0 else (p 0).2 + (p 0).2 * load (tl p 1) (late p d + 1) := by
  have hb := bakedL_tl g (d := d + 1) (by omega)
  rw [made_one, show max 0 (d + 1 - 1) = d by omega] at hb
  unfold load
  rw [hb]
  rcases late_succ g h with ⟨_, e⟩ | ⟨_, e⟩
  · rw [if_neg (by omega), if_pos e]; rfl
  · rw [if_pos (by omega), if_neg (by omega), e, List.map_cons, List.sum_cons, List.map_map]
    have e1 : size p ((0 : Int) + 1).toNat = (p 0).2 := by simp [size]
    rw [e1]
    congr 1
    have hpos : ∀ x ∈ bakedL (tl p 1) (late p d + 1), 0 ≤ x := by
      intro x hx
      have : ∀ (n k : Nat) (x : Int), x ∈ bkF n (tl p 1) (late p d + 1) k → 0 ≤ x := by
        intro n
        induction n with
        | zero => intro k x h; cases h
        | succ n ih =>
          intro k x h
          have h' : x ∈ (if isBaked (tl p 1) k (late p d + 1) then (k : Int) :: bkF n (tl p 1) (late p d + 1) (k + 1) else []) := h
          by_cases c : isBaked (tl p 1) k (late p d + 1) = true
          · rw [if_pos c] at h'
            rcases List.mem_cons.mp h' with q | q
            · omega
            · exact ih (k + 1) x q
          · rw [if_neg c] at h'; cases h'
      exact this _ _ x hx
    generalize bakedL (tl p 1) (late p d + 1) = l at hpos
    induction l with
    | nil => simp
    | cons x l ih =>
      rw [List.map_cons, List.sum_cons, List.map_cons, List.sum_cons, Int.mul_add, ih fun y hy => hpos y (List.mem_cons_of_mem _ hy)]
      have := hpos x List.mem_cons_self
      have e2 : (x + 1 + 1).toNat = (x + 1).toNat + 1 := by omega
      show size p (x + 1 + 1).toNat + _ = _
      rw [e2, size_tl]
theorem load_nn {p : Pr} (g : Good p) (d : Int) : 0 ≤ load p d := by
  unfold load
  generalize bakedL p d = l
  induction l with
  | nil => exact Int.le_refl _
  | cons x l ih =>
    rw [List.map_cons, List.sum_cons]
    have := size_pos g (x + 1).toNat
    omega
theorem work_succF : ∀ (n : Nat) (p : Pr) (d : Int), Good p → 0 ≤ d → d ≤ n → work p (d + 1) = work p d + load p (d + 1)
  | n, p, d, g, h0, hn => by
    rw [load_succ g h0, work_eq g (d := d + 1) (by omega), work_eq g h0]
    rcases late_succ g h0 with ⟨_, e⟩ | ⟨_, e⟩
    · rw [if_pos e, e]; omega
    · rw [if_neg (by omega), e]
      have hlt : late p d < d ∨ d = 0 := by
        by_cases c : d = 0
        · exact .inr c
        · exact .inl (late_lt g (by omega))
      rcases hlt with hlt | rfl
      · have hl0 := late_nn p d
        obtain ⟨m, rfl⟩ : ∃ m, n = m + 1 := ⟨n - 1, by omega⟩
        rw [work_succF m (tl p 1) (late p d) (g.tl 1) (late_nn p d) (by omega), Int.mul_add, Int.mul_add]
        omega
      · exfalso
        rw [show (0 : Int) + 1 = 1 from rfl, late_one g, late_zero g] at e
        omega
theorem work_succ {p : Pr} (g : Good p) {d : Int} (h : 0 ≤ d) : work p (d + 1) = work p d + load p (d + 1) := work_succF d.toNat p d g h (by omega)
theorem load_zero {p : Pr} : load p 0 = 0 := by simp [load, bakedL, bkF]
theorem work_sum {p : Pr} (g : Good p) : ∀ n : Nat, ((List.range (n + 1)).map fun (i : Nat) => load p i).sum = work p n
  | 0 => by
    have e : load p ((0 : Nat) : Int) = 0 := load_zero
    have e2 : work p ((0 : Nat) : Int) = 0 := work_zero p
    rw [e2]
    simp
    exact load_zero
  | n + 1 => by
    rw [List.range_succ, List.map_append, List.sum_append, work_sum g n]
    have := work_succ g (d := (n : Int)) (by omega)
    have e : ((n + 1 : Nat) : Int) = (n : Int) + 1 := by omega
    rw [e, this]
    simp
/-! ### resting days -/
theorem rest_count {p : Pr} (g : Good p) : ∀ n : Nat, (((List.range n).map fun (i : Nat) => load p ((i : Int) + 1)).filter fun x => decide (x = 0)).length = (n : Int) - made p 1 n
  | 0 => by
    have := made_nn p 1 ((0 : Nat) : Int)
    have : made p 1 ((0 : Nat) : Int) = 0 := by rw [made_one]; exact late_zero g
    rw [this]; rfl
  | n + 1 => by
    rw [List.range_succ, List.map_append, List.filter_append, List.length_append]
    have ih := rest_count g n
    have e : ((n + 1 : Nat) : Int) = (n : Int) + 1 := by omega
    rw [made_one] at ih
    rw [e, made_one]
    have hl := load_succ g (d := (n : Int)) (by omega)
    have h1 := g.lo 0
    have h2 := load_nn (g.tl 1) (late p n + 1)
    have h3 : 0 ≤ (p 0).2 * load (tl p 1) (late p n + 1) := Int.mul_nonneg (by omega) h2
    rcases late_succ g (d := (n : Int)) (by omega) with ⟨_, q⟩ | ⟨_, q⟩
    · rw [if_pos q] at hl
      rw [q]
      have : (List.filter (fun x => decide (x = 0)) (List.map (fun (i : Nat) => load p ((i : Int) + 1)) [n])).length = 1 := by
        simp [hl]
      omega
    · rw [if_neg (by omega)] at hl
      rw [q]
      have : (List.filter (fun x => decide (x = 0)) (List.map (fun (i : Nat) => load p ((i : Int) + 1)) [n])).length = 0 := by
        have : ¬ load p ((n : Int) + 1) = 0 := by omega
        simp [this]
      omega
/-! ### the hardest day -/
theorem owed_dvd (p : Pr) (k : Nat) : ∀ m : Nat, size p k ∣ owed p (k + m) - owed p k
  | 0 => ⟨0, by simp⟩
  | m + 1 => by
    obtain ⟨c, e⟩ := owed_dvd p k m
    obtain ⟨c2, e2⟩ := size_dvd p k m
    refine ⟨c + c2 * ((p (k + m)).1 - (p (k + m)).2), ?_⟩
    show owed p (k + m) + size p (k + m) * ((p (k + m)).1 - (p (k + m)).2) - owed p k = _
    rw [e2, Int.mul_add, ← e, Int.mul_assoc]
    omega
/-- the first day of the grade g: so many grades are baked -/
theorem first_baked {p : Pr} (g : Good p) {k m : Nat} : isBaked p k (dayMade p (k + 1 + m) 1) = true := by
  rw [isBaked_iff, dayMade_one]
  obtain ⟨c, e⟩ := owed_dvd p (k + 1) m
  obtain ⟨c2, e2⟩ := size_dvd p (k + 1) m
  have hs := size_pos g (k + 1)
  have hs2 := size_pos g (k + 1 + m)
  have hc2 : 1 ≤ c2 := by
    rcases Int.lt_or_le c2 1 with z | z
    · exfalso
      have : size p (k + 1) * c2 ≤ size p (k + 1) * 0 := Int.mul_le_mul_of_nonneg_left (by omega) (by omega)
      omega
    · exact z
  have ho : owed p (k + 1) ≤ owed p (k + 1 + m) := by
    clear e c e2 c2 hs2 hc2
    induction m with
    | zero => exact Int.le_refl _
    | succ m ih =>
      have h1 := size_pos g (k + 1 + m)
      have h2 := g.le (k + 1 + m)
      have : 0 ≤ size p (k + 1 + m) * ((p (k + 1 + m)).1 - (p (k + 1 + m)).2) := Int.mul_nonneg (by omega) (by omega)
      show owed p (k + 1) ≤ owed p (k + 1 + m) + size p (k + 1 + m) * ((p (k + 1 + m)).1 - (p (k + 1 + m)).2)
      omega
  have hle : size p (k + 1) ≤ size p (k + 1 + m) := by
    rw [e2]
    have : size p (k + 1) * 1 ≤ size p (k + 1) * c2 := Int.mul_le_mul_of_nonneg_left (by omega) (by omega)
    omega
  refine ⟨by omega, ?_⟩
  have : size p (k + 1 + m) + owed p (k + 1 + m) - owed p (k + 1) = size p (k + 1) * (c2 + c) := by
    rw [Int.mul_add, ← e2, ← e]; omega
  rw [this]
  exact Int.mul_emod_right _ _
/-- the work of the first k grades -/
def topS (p : Pr) (k : Nat) : Int := ((List.range k).map fun (j : Nat) => size p (j + 1)).sum
theorem topS_succ (p : Pr) (k : Nat) : topS p (k + 1) = topS p k + size p (k + 1) := by
  unfold topS
  rw [List.range_succ, List.map_append, List.sum_append]
  simp
theorem topS_mono {p : Pr} (g : Good p) (k : Nat) : ∀ m : Nat, topS p k + m ≤ topS p (k + m)
  | 0 => by simp
  | m + 1 => by
    have := topS_mono g k m
    have h := size_pos g (k + m + 1)
    rw [show k + (m + 1) = k + m + 1 by omega, topS_succ]
    omega
/-- what is baked are the first grades -/
theorem bkF_range {p : Pr} (g : Good p) {d : Int} : ∀ (n k : Nat), d ≤ n + k → ∃ m : Nat, bkF n p d k = (List.range m).map (fun (j : Nat) => ((k + j : Nat) : Int)) ∧ (∀ j, j < m → isBaked p (k + j) d = true) ∧ isBaked p (k + m) d = false
  | 0, k, h => ⟨0, rfl, fun j hj => absurd hj (Nat.not_lt_zero _), by
      cases c : isBaked p (k + 0) d with
      | false => rfl
      | true => have := isBaked_lt g c; omega⟩
  | n + 1, k, h => by
    cases c : isBaked p k d with
    | false =>
      refine ⟨0, ?_, fun j hj => absurd hj (Nat.not_lt_zero _), c⟩
      show (if isBaked p k d then _ else _) = _
      rw [c]; rfl
    | true =>
      obtain ⟨m, e1, e2, e3⟩ := bkF_range g (d := d) n (k + 1) (by omega)
      refine ⟨m + 1, ?_, ?_, ?_⟩
      · show (if isBaked p k d then (k : Int) :: bkF n p d (k + 1) else _) = _
        rw [c, if_pos rfl, e1, List.range_succ_eq_map, List.map_cons, List.map_map]
        refine congr (congrArg List.cons (by simp)) (List.map_congr_left fun j _ => ?_)
        show ((k + 1 + j : Nat) : Int) = ((k + (j + 1) : Nat) : Int)
        omega
      · intro j hj
        match j with
        | 0 => exact c
        | j + 1 => rw [show k + (j + 1) = k + 1 + j by omega]; exact e2 j (by omega)
      · rw [show k + (m + 1) = k + 1 + m by omega]; exact e3
theorem load_top {p : Pr} (g : Good p) (d : Int) : ∃ m : Nat, load p d = topS p m ∧ (∀ j, j < m → isBaked p j d = true) ∧ isBaked p m d = false := by
  obtain ⟨m, e1, e2, e3⟩ := bkF_range g (d := d) d.toNat 0 (by omega)
  refine ⟨m, ?_, fun j hj => by have := e2 j hj; rwa [Nat.zero_add] at this, by rwa [Nat.zero_add] at e3⟩
  unfold load bakedL topS
  rw [e1, List.map_map]
  congr 1
  refine List.map_congr_left fun j _ => ?_
  show size p (((0 + j : Nat) : Int) + 1).toNat = _
  congr 1
  omega
theorem baked_first {p : Pr} {k : Nat} {d : Int} (h : isBaked p k d = true) : dayMade p (k + 1) 1 ≤ d := by
  rw [dayMade_one]
  have := (isBaked_iff.mp h).1
  omega
/-- the greatest load up to n, and its first day -/
theorem hard_top {p : Pr} (g : Good p) {n : Int} {r : Option Int} (h : HardR p n r) : ∃ k : Nat, (∀ d, 0 ≤ d → d ≤ n → load p d ≤ topS p k) ∧ ((k = 0 ∧ r = none) ∨ (0 < k ∧ r = some (dayMade p k 1) ∧ dayMade p k 1 ≤ n ∧ load p (dayMade p k 1) = topS p k ∧ ∀ d, 0 ≤ d → d < dayMade p k 1 → load p d < topS p k)) := by
  obtain ⟨k, hk, hn, rfl⟩ := h
  have up : ∀ (m : Nat) (d : Int), (∀ j, j < m → isBaked p j d = true) → d ≤ n → m ≤ k := by
    intro m d hb hd
    rcases Nat.lt_or_ge k m with z | z
    · have := baked_first (hb k z)
      omega
    · exact z
  have dmono : ∀ m : Nat, dayMade p (k) 1 ≤ dayMade p (k + m) 1 := by
    intro m
    induction m with
    | zero => exact Int.le_refl _
    | succ m ih =>
      rw [dayMade_one, dayMade_one] at *
      have h1 := size_pos g (k + m)
      have h2 := g.le (k + m)
      have h3 := g.lo (k + m)
      have : 0 ≤ size p (k + m) * ((p (k + m)).1 - (p (k + m)).2) := Int.mul_nonneg (by omega) (by omega)
      have h4 : size p (k + m) * 1 ≤ size p (k + m) * (p (k + m)).2 := Int.mul_le_mul_of_nonneg_left (by omega) (by omega)
      show _ ≤ size p (k + m) * (p (k + m)).2 + (owed p (k + m) + size p (k + m) * ((p (k + m)).1 - (p (k + m)).2))
      omega
  refine ⟨k, fun d d0 hd => ?_, ?_⟩
  · obtain ⟨m, e, hb, _⟩ := load_top g d
    have := topS_mono g m (k - m)
    have h2 := up m d hb hd
    rw [show m + (k - m) = k by omega] at this
    rw [e]; omega
  · by_cases z : k = 0
    · exact .inl ⟨z, by rw [if_pos z]⟩
    · refine .inr ⟨by omega, by rw [if_neg z], ?_, ?_, ?_⟩
      · have := hk (k - 1) (by omega)
        rw [show k - 1 + 1 = k by omega] at this
        exact this
      · obtain ⟨m, e, hb, hnb⟩ := load_top g (dayMade p k 1)
        have hle := up m _ hb (by have := hk (k - 1) (by omega); rw [show k - 1 + 1 = k by omega] at this; exact this)
        rcases Nat.lt_or_ge m k with q | q
        · exfalso
          have := first_baked g (k := m) (m := k - (m + 1))
          rw [show m + 1 + (k - (m + 1)) = k by omega] at this
          rw [this] at hnb; cases hnb
        · rw [e]; congr 1; omega
      · intro d d0 hd
        obtain ⟨m, e, hb, _⟩ := load_top g d
        have hlt : m < k := by
          rcases Nat.lt_or_ge m k with q | q
          · exact q
          · exfalso
            have := baked_first (hb (k - 1) (by omega))
            rw [show k - 1 + 1 = k by omega] at this
            omega
        have := topS_mono g m (k - m)
        rw [show m + (k - m) = k by omega] at this
        rw [e]; omega
theorem topS_zero (p : Pr) : topS p 0 = 0 := rfl
/-! ### far days -/
/-- the sum of what has come into the grades from k on -/
theorem work_at {p : Pr} (g : Good p) {d : Int} (h : 0 ≤ d) : ∀ k : Nat, size p k * work (tl p k) (made p k d) = size p (k + 1) * made p (k + 1) d + size p (k + 1) * work (tl p (k + 1)) (made p (k + 1) d) := by
  intro k
  have hw := work_eq (g.tl k) (made_nn p k d)
  rw [← made_next g k d h, tl_tl] at hw
  have e : tl p k 0 = p k := by unfold tl; rw [Nat.zero_add]
  rw [e] at hw
  rw [hw]
  show _ = size p k * (p k).2 * _ + size p k * (p k).2 * _
  rw [Int.mul_add, Int.mul_assoc, Int.mul_assoc]
theorem dayIn_hi {p : Pr} (g : Good p) {d : Int} (h1 : 1 ≤ d) (k : Nat) : dayIn p d k ≤ d + size p k + owed p k := by
  have hs := size_pos g k
  have hc : 1 ≤ (d + size p k - 1) / size p k := (Int.le_ediv_iff_mul_le hs (a := 1) (b := d + size p k - 1)).mpr (by omega)
  have := Int.ediv_mul_le (d + size p k - 1) (b := size p k) (by omega)
  unfold dayIn dayMade
  rw [if_pos (by omega)]
  omega
theorem made_size {p : Pr} (g : Good p) {k : Nat} {d : Int} (h : 1 ≤ made p k d) : size p k + owed p k ≤ d := by
  have := (made_ge g (m := 1) (by omega)).mp h
  rw [dayMade_one] at this
  exact this
end Silt
set_option linter.all false
namespace Silt
/-- the numbers from lo on that a test selects -/
def sel (b : Nat → Bool) (lo : Int) (m : Nat) : List Int := ((List.range m).filter b).map fun (i : Nat) => lo + (i : Int)
theorem sel_succ (b : Nat → Bool) (lo : Int) (m : Nat) : sel b lo (m + 1) = sel b lo m ++ if b m = true then [lo + (m : Int)] else [] := by
  unfold sel
  rw [List.range_succ, List.filter_append, List.map_append]
  congr 1
  by_cases c : b m = true
  · rw [if_pos c]; simp [c]
  · rw [if_neg c]; simp [c]
theorem sel_len (b : Nat → Bool) (lo : Int) (m : Nat) : (sel b lo m).length ≤ m := by
  unfold sel
  rw [List.length_map]
  have := List.length_filter_le b (List.range m)
  rw [List.length_range] at this
  exact this
theorem sel_mem {b : Nat → Bool} {lo : Int} {m i : Nat} (hi : i < m) (h : b i = true) : lo + (i : Int) ∈ sel b lo m := by
  unfold sel
  exact List.mem_map.mpr ⟨i, List.mem_filter.mpr ⟨List.mem_range.mpr hi, h⟩, rfl⟩
theorem sel_none {b : Nat → Bool} {lo : Int} : ∀ {m : Nat}, (∀ i, i < m → b i = false) → sel b lo m = []
  | 0, _ => rfl
  | m + 1, h => by rw [sel_succ, sel_none fun i hi => h i (by omega), if_neg (by rw [h m (by omega)]; decide)]; rfl
theorem sel_first {b : Nat → Bool} {lo : Int} {i0 : Nat} (h0 : b i0 = true) (hl : ∀ i, i < i0 → b i = false) : ∀ {m : Nat}, i0 < m → ∃ r, sel b lo m = (lo + (i0 : Int)) :: r
  | 0, h => absurd h (Nat.not_lt_zero _)
  | m + 1, h => by
    rw [sel_succ]
    by_cases c : i0 = m
    · subst c
      rw [sel_none hl, if_pos h0]
      exact ⟨[], rfl⟩
    · obtain ⟨r, e⟩ := sel_first h0 hl (m := m) (by omega)
      rw [e]
      exact ⟨_, rfl⟩
theorem sel_last {b : Nat → Bool} {lo : Int} {i1 : Nat} (h1 : b i1 = true) : ∀ {m : Nat}, i1 < m → (∀ i, i1 < i → i < m → b i = false) → ∃ r, sel b lo m = r ++ [lo + (i1 : Int)]
  | 0, h, _ => absurd h (Nat.not_lt_zero _)
  | m + 1, h, hl => by
    rw [sel_succ]
    by_cases c : i1 = m
    · subst c
      rw [if_pos h1]
      exact ⟨_, rfl⟩
    · obtain ⟨r, e⟩ := sel_last h1 (m := m) (by omega) fun i a d => hl i a (by omega)
      rw [e, if_neg (by rw [hl m (by omega) (by omega)]; decide), List.append_nil]
      exact ⟨r, rfl⟩
/-- from c on -/
theorem sel_from {b : Nat → Bool} {lo c : Int} {m : Nat} (hb : ∀ i, i < m → b i = decide (c ≤ lo + (i : Int))) (hc : lo ≤ c) : (sel b lo m = [] ∧ lo + (m : Int) ≤ c) ∨ (∃ r, sel b lo m = c :: r) := by
  by_cases z : c < lo + (m : Int)
  · right
    have e : lo + (((c - lo).toNat : Nat) : Int) = c := by omega
    have := sel_first (b := fun i => decide (c ≤ lo + (i : Int))) (lo := lo) (i0 := (c - lo).toNat) (m := m) (by simp; omega) (fun i hi => by simp; omega) (by omega)
    obtain ⟨r, h⟩ := this
    rw [e] at h
    refine ⟨r, ?_⟩
    rw [← h]
    unfold sel
    congr 1
    refine List.filter_congr fun i hi => hb i (List.mem_range.mp hi)
  · left
    exact ⟨sel_none fun i hi => by rw [hb i hi]; simp; omega, by omega⟩
theorem sel_between {b : Nat → Bool} {lo c e : Int} {m : Nat} (hb : ∀ i, i < m → b i = (decide (c ≤ lo + (i : Int)) && decide (lo + (i : Int) < e))) (hc : lo ≤ c) :
    (sel b lo m = [] ∧ (e ≤ c ∨ lo + (m : Int) ≤ c)) ∨ (c < e ∧ c < lo + (m : Int) ∧ (∃ r, sel b lo m = c :: r) ∧ ∃ r, sel b lo m = r ++ [min (lo + (m : Int) - 1) (e - 1)]) := by
  have hsel : sel b lo m = sel (fun i => decide (c ≤ lo + (i : Int)) && decide (lo + (i : Int) < e)) lo m := by
    unfold sel
    congr 1
    exact List.filter_congr fun i hi => hb i (List.mem_range.mp hi)
  rw [hsel]
  by_cases z : c < e ∧ c < lo + (m : Int)
  · right
    refine ⟨z.1, z.2, ?_, ?_⟩
    · have := sel_first (b := fun i => decide (c ≤ lo + (i : Int)) && decide (lo + (i : Int) < e)) (lo := lo) (i0 := (c - lo).toNat) (m := m) (by simp; omega) (fun i hi => by simp; omega) (by omega)
      have e1 : lo + (((c - lo).toNat : Nat) : Int) = c := by omega
      rw [e1] at this
      exact this
    · have := sel_last (b := fun i => decide (c ≤ lo + (i : Int)) && decide (lo + (i : Int) < e)) (lo := lo) (i1 := (min (lo + (m : Int) - 1) (e - 1) - lo).toNat) (m := m) (by simp; omega) (by omega) (fun i h1 h2 => by simp; omega)
      have e1 : lo + (((min (lo + (m : Int) - 1) (e - 1) - lo).toNat : Nat) : Int) = min (lo + (m : Int) - 1) (e - 1) := by omega
      rw [e1] at this
      exact this
  · left
    refine ⟨sel_none fun i hi => ?_, by omega⟩
    rw [Bool.and_eq_false_iff, decide_eq_false_iff_not, decide_eq_false_iff_not]
    omega
end Silt
set_option linter.all false
namespace Silt
/-! ### digits are told by their value -/
theorem value_nn {p : Pr} (g : Good p) : ∀ (ds : List Int), Valid p ds → 0 ≤ value p ds ∧ (ds ≠ [] → 1 ≤ value p ds)
  | [], _ => ⟨Int.le_refl _, fun h => absurd rfl h⟩
  | [x], v => by
    have h1 := v.1
    have e : value p [x] = x := by show x + (p 0).2 * 0 = x; omega
    rw [e]
    exact ⟨by omega, fun _ => h1⟩
  | x :: y :: ys, v => by
    obtain ⟨h1, h2, h3⟩ := v
    have g0 := g.lo 0
    have g1 := g.le 0
    have ih := (value_nn (g.tl 1) (y :: ys) h3).2 (by simp)
    have e : value p (x :: y :: ys) = x + (p 0).2 * value (tl p 1) (y :: ys) := rfl
    have : (p 0).2 * 1 ≤ (p 0).2 * value (tl p 1) (y :: ys) := Int.mul_le_mul_of_nonneg_left ih (by omega)
    rw [e]
    exact ⟨by omega, fun _ => by omega⟩
theorem Valid.rest {p : Pr} {x : Int} {xs : List Int} (v : Valid p (x :: xs)) : Valid (tl p 1) xs := by
  cases xs with
  | nil => trivial
  | cons y ys => exact v.2.2
theorem Valid.head {p : Pr} (g : Good p) {x : Int} {xs : List Int} (v : Valid p (x :: xs)) : 0 ≤ x ∧ x < (p 0).1 ∧ (xs ≠ [] → (p 0).1 - (p 0).2 ≤ x) ∧ (xs = [] → 1 ≤ x) := by
  have g1 := g.le 0
  cases xs with
  | nil => exact ⟨by have := v.1; omega, v.2, fun h => absurd rfl h, fun _ => v.1⟩
  | cons y ys => exact ⟨by have := v.1; omega, v.2.1, fun _ => v.1, fun h => by cases h⟩
theorem late_value {p : Pr} (g : Good p) {x : Int} {xs : List Int} (v : Valid p (x :: xs)) : late p (value p (x :: xs)) = value (tl p 1) xs := by
  obtain ⟨h0, h1, h2, h3⟩ := v.head g
  have b := g.lo 0
  have v2 := value_nn (g.tl 1) xs v.rest
  have e : value p (x :: xs) = x + (p 0).2 * value (tl p 1) xs := rfl
  rw [e]
  unfold late
  have e2 : x + (p 0).2 * value (tl p 1) xs - (p 0).1 + (p 0).2 = (x - (p 0).1 + (p 0).2) + (p 0).2 * value (tl p 1) xs := by omega
  rw [e2, Int.add_mul_ediv_left _ _ (by omega)]
  by_cases c : xs = []
  · subst c
    have e3 : value (tl p 1) [] = 0 := rfl
    rw [e3]
    have : (x - (p 0).1 + (p 0).2) / (p 0).2 ≤ 0 := by
      have : (x - (p 0).1 + (p 0).2) / (p 0).2 < 1 := (Int.ediv_lt_iff_lt_mul (by omega)).mpr (by omega)
      omega
    omega
  · have h4 := h2 c
    have h5 := v2.2 c
    rw [Int.ediv_eq_zero_of_lt (by omega) (by omega)]
    omega
theorem digits_value {p : Pr} (g : Good p) : ∀ (ds : List Int), Valid p ds → digits p (value p ds) = ds
  | [], _ => digits_zero p (Int.le_refl _)
  | x :: xs, v => by
    have h := (value_nn g (x :: xs) v).2 (by simp)
    rw [digits_pos g (by omega), late_value g v, digits_value (g.tl 1) xs v.rest]
    have e : value p (x :: xs) = x + (p 0).2 * value (tl p 1) xs := rfl
    rw [e]
    congr 1
    omega
theorem value_inj {p : Pr} (g : Good p) {as bs : List Int} (va : Valid p as) (vb : Valid p bs) (e : value p as = value p bs) : as = bs := by
  rw [← digits_value g as va, e, digits_value g bs vb]
/-! ### sums of digits -/
theorem sum_valid {p : Pr} (g : Good p) : ∀ (ds : List Int), Valid p ds → 0 ≤ ds.sum ∧ (ds ≠ [] → 1 ≤ ds.sum) ∧ ds.sum ≤ value p ds ∧ ds.sum ≤ 12 * (ds.length : Int)
  | [], _ => ⟨Int.le_refl _, fun h => absurd rfl h, Int.le_refl _, Int.le_refl _⟩
  | x :: xs, v => by
    obtain ⟨h0, h1, h2, h3⟩ := v.head g
    obtain ⟨i1, i2, i3, i4⟩ := sum_valid (g.tl 1) xs v.rest
    have b := g.lo 0
    have hi := g.hi 0
    have e : value p (x :: xs) = x + (p 0).2 * value (tl p 1) xs := rfl
    have v2 := (value_nn (g.tl 1) xs v.rest).1
    have : 1 * value (tl p 1) xs ≤ (p 0).2 * value (tl p 1) xs := Int.mul_le_mul_of_nonneg_right (by omega) v2
    rw [List.sum_cons, e, List.length_cons]
    refine ⟨by omega, fun _ => ?_, by omega, by omega⟩
    by_cases c : xs = []
    · have := h3 c; omega
    · have := i2 c; omega
/-! ### first days with so many layers -/
theorem firstWith_zero (p : Pr) {m : Int} (h : m ≤ 0) : firstWith p m = 0 := by
  unfold firstWith
  rw [fwL_zero p h]; rfl
theorem firstWith_low {p : Pr} (g : Good p) {m : Int} (h0 : 0 ≤ m) (h : m ≤ (p 0).1 - 1) : firstWith p m = m := by
  rcases Int.lt_or_eq_of_le h0 with z | z
  · unfold firstWith
    rw [fwL_pos g z]
    have e : min m ((p 0).1 - 1) = m := by omega
    rw [e, fwL_zero _ (by omega)]
    show m + (p 0).2 * 0 = m
    omega
  · rw [← z]; exact firstWith_zero p (Int.le_refl _)
theorem firstWith_up {p : Pr} (g : Good p) {m : Int} (h : (p 0).1 - 1 ≤ m) : firstWith p m = ((p 0).1 - 1) + (p 0).2 * firstWith (tl p 1) (m - ((p 0).1 - 1)) := by
  have b := g.lo 0
  have b2 := g.le 0
  rcases Int.lt_or_eq_of_le h with z | z
  · exact firstWith_tl g z
  · rw [← z, firstWith_low g (by omega) (Int.le_refl _), firstWith_zero (tl p 1) (by omega)]
    omega
theorem fwL_sumF {p : Pr} (g : Good p) : ∀ (n : Nat) (p : Pr) (m : Int), Good p → 0 ≤ m → m ≤ n → (fwL p m).sum = m
  | 0, p, m, g, h0, h => by
    rw [fwL_zero p (by omega)]
    show (0 : Int) = m
    omega
  | n + 1, p, m, g, h0, h => by
    have b := g.lo 0
    have b2 := g.le 0
    rcases Int.lt_or_eq_of_le h0 with z | z
    · rw [fwL_pos g z, List.sum_cons, fwL_sumF g n (tl p 1) _ (g.tl 1) (by omega) (by omega)]
      omega
    · rw [← z, fwL_zero p (Int.le_refl _)]; rfl
theorem firstWith_digits {p : Pr} (g : Good p) (m : Int) : digits p (firstWith p m) = fwL p m := digits_value g _ (fwL_valid g m)
/-- on the first day with so many there are just so many -/
theorem firstWith_sum {p : Pr} (g : Good p) {m : Int} (h : 0 ≤ m) : (digits p (firstWith p m)).sum = m := by
  rw [firstWith_digits g]
  exact fwL_sumF g m.toNat p m g h (by omega)
theorem firstWith_nn {p : Pr} (g : Good p) (m : Int) : 0 ≤ firstWith p m := (value_nn g _ (fwL_valid g m)).1
theorem firstWith_next : ∀ (n : Nat) (p : Pr) (m : Int), Good p → 0 ≤ m → m ≤ n → firstWith p m + 1 ≤ firstWith p (m + 1)
  | 0, p, m, g, h0, h => by
    have b := g.lo 0
    have b2 := g.le 0
    rw [firstWith_zero p (by omega : m ≤ 0), firstWith_low g (m := m + 1) (by omega) (by omega)]
    omega
  | n + 1, p, m, g, h0, h => by
    have b := g.lo 0
    have b2 := g.le 0
    by_cases c : m + 1 ≤ (p 0).1 - 1
    · rw [firstWith_low g h0 (by omega), firstWith_low g (by omega) c]
      omega
    · rw [firstWith_up g (m := m) (by omega), firstWith_up g (m := m + 1) (by omega)]
      have ih := firstWith_next n (tl p 1) (m - ((p 0).1 - 1)) (g.tl 1) (by omega) (by omega)
      have e : m + 1 - ((p 0).1 - 1) = m - ((p 0).1 - 1) + 1 := by omega
      rw [e]
      have : (p 0).2 * (firstWith (tl p 1) (m - ((p 0).1 - 1)) + 1) ≤ (p 0).2 * firstWith (tl p 1) (m - ((p 0).1 - 1) + 1) := Int.mul_le_mul_of_nonneg_left ih (by omega)
      rw [Int.mul_add] at this
      omega
theorem firstWith_add {p : Pr} (g : Good p) {m : Int} (h : 0 ≤ m) : ∀ k : Nat, firstWith p m + k ≤ firstWith p (m + k)
  | 0 => by
    have e : m + ((0 : Nat) : Int) = m := by omega
    rw [e]; omega
  | k + 1 => by
    have ih := firstWith_add g h k
    have := firstWith_next (m + k).toNat p (m + k) g (by omega) (by omega)
    have e : m + ((k + 1 : Nat) : Int) = m + k + 1 := by omega
    rw [e]
    omega
theorem firstWith_mono {p : Pr} (g : Good p) {m k : Int} (h : 0 ≤ m) (hk : m ≤ k) : firstWith p m + (k - m) ≤ firstWith p k := by
  have := firstWith_add g h (k - m).toNat
  have e : m + ((k - m).toNat : Int) = k := by omega
  rw [e] at this
  omega
/-- no day ahead of it has so many -/
theorem firstWith_leastF : ∀ (n : Nat) (p : Pr) (d m : Int), Good p → 0 ≤ d → d ≤ n → m ≤ (digits p d).sum → firstWith p m ≤ d
  | 0, p, d, m, g, h0, h, hm => by
    rw [digits_zero p (by omega)] at hm
    have : m ≤ 0 := hm
    rw [firstWith_zero p this]
    omega
  | n + 1, p, d, m, g, h0, h, hm => by
    by_cases c : d ≤ 0
    · rw [digits_zero p c] at hm
      have : m ≤ 0 := hm
      rw [firstWith_zero p this]
      omega
    · have b := g.lo 0
      have b2 := g.le 0
      have l := late_lt g (d := d) (by omega)
      have l0 := late_nn p d
      obtain ⟨d1, d2, _, _⟩ := digit_lt g (d := d) (by omega)
      rw [digits_pos g (by omega), List.sum_cons] at hm
      have sl := (sum_valid (g.tl 1) _ (valid_digits (g.tl 1) l0)).2.2.1
      rw [value_digits (g.tl 1) l0] at sl
      have bl : 1 * late p d ≤ (p 0).2 * late p d := Int.mul_le_mul_of_nonneg_right (by omega) l0
      by_cases z : m ≤ (p 0).1 - 1
      · by_cases y : 0 ≤ m
        · rw [firstWith_low g y z]
          omega
        · rw [firstWith_zero p (by omega)]
          omega
      · rw [firstWith_up g (m := m) (by omega)]
        have ih := firstWith_leastF n (tl p 1) (late p d) (m - (d - (p 0).2 * late p d)) (g.tl 1) l0 (by omega) (by omega)
        have mo := firstWith_mono (g.tl 1) (m := m - ((p 0).1 - 1)) (k := m - (d - (p 0).2 * late p d)) (by omega) (by omega)
        have h1 : firstWith (tl p 1) (m - ((p 0).1 - 1)) + ((p 0).1 - 1 - (d - (p 0).2 * late p d)) ≤ late p d := by omega
        have h2 : (p 0).2 * (firstWith (tl p 1) (m - ((p 0).1 - 1)) + ((p 0).1 - 1 - (d - (p 0).2 * late p d))) ≤ (p 0).2 * late p d := Int.mul_le_mul_of_nonneg_left h1 (by omega)
        rw [Int.mul_add] at h2
        have h3 : 1 * ((p 0).1 - 1 - (d - (p 0).2 * late p d)) ≤ (p 0).2 * ((p 0).1 - 1 - (d - (p 0).2 * late p d)) := Int.mul_le_mul_of_nonneg_right (by omega) (by omega)
        omega
theorem firstWith_least {p : Pr} (g : Good p) {d m : Int} (h : 0 ≤ d) (hm : m ≤ (digits p d).sum) : firstWith p m ≤ d := firstWith_leastF d.toNat p d m g h (by omega) hm
theorem firstWith_bound {p : Pr} (g : Good p) {m d : Int} (h : 0 ≤ m) (hd : firstWith p m ≤ d) {n : Nat} (hn : d < ((2 ^ n : Nat) : Int)) : m ≤ 12 * (n : Int) := by
  have h1 := firstWith_sum g h
  have h2 := (sum_valid g _ (valid_digits g (firstWith_nn g m))).2.2.2
  have h3 := digits_len g n (firstWith p m) (firstWith_nn g m) (by omega)
  omega
/-! ### the fewest layers from a day on -/
/-- the digits with one digit raised and the lower ones least, or one grade more -/
def RT : Pr → List Int → List (List Int)
  | _, [] => [[1]]
  | p, x :: xs => (if x + 1 < (p 0).1 then [(x + 1) :: xs] else []) ++ (RT (tl p 1) xs).map (((p 0).1 - (p 0).2) :: ·)
theorem RT_valid {p : Pr} (g : Good p) : ∀ (ds : List Int), Valid p ds → ∀ r ∈ RT p ds, r ≠ [] ∧ Valid p r ∧ value p ds < value p r
  | [], _, r, hr => by
    have hr : r ∈ [[(1 : Int)]] := hr
    rw [List.mem_singleton] at hr
    subst hr
    have b := g.lo 0
    have b2 := g.le 0
    exact ⟨by simp, ⟨Int.le_refl _, by omega⟩, by show (0 : Int) < 1 + (p 0).2 * 0; omega⟩
  | x :: xs, v, r, hr => by
    have b := g.lo 0
    have b2 := g.le 0
    obtain ⟨h0, h1, h2, h3⟩ := v.head g
    have hr : r ∈ (if x + 1 < (p 0).1 then [(x + 1) :: xs] else []) ++ (RT (tl p 1) xs).map (((p 0).1 - (p 0).2) :: ·) := hr
    rcases List.mem_append.mp hr with z | z
    · by_cases c : x + 1 < (p 0).1
      · rw [if_pos c, List.mem_singleton] at z
        subst z
        refine ⟨by simp, ?_, ?_⟩
        · cases xs with
          | nil => exact ⟨by omega, c⟩
          | cons y ys => exact ⟨by have := h2 (by simp); omega, c, v.2.2⟩
        · show x + (p 0).2 * value (tl p 1) xs < x + 1 + (p 0).2 * value (tl p 1) xs
          omega
      · rw [if_neg c] at z; cases z
    · obtain ⟨r', hr', rfl⟩ := List.mem_map.mp z
      obtain ⟨n1, n2, n3⟩ := RT_valid (g.tl 1) xs v.rest r' hr'
      refine ⟨by simp, ?_, ?_⟩
      · cases r' with
        | nil => exact absurd rfl n1
        | cons y ys => exact ⟨Int.le_refl _, by omega, n2⟩
      · show x + (p 0).2 * value (tl p 1) xs < (p 0).1 - (p 0).2 + (p 0).2 * value (tl p 1) r'
        have : (p 0).2 * (value (tl p 1) xs + 1) ≤ (p 0).2 * value (tl p 1) r' := Int.mul_le_mul_of_nonneg_left (by omega) (by omega)
        rw [Int.mul_add] at this
        omega
theorem RT_low {p : Pr} (g : Good p) : ∀ (ds es : List Int), Valid p ds → Valid p es → value p ds < value p es → ∃ r ∈ RT p ds, r.sum ≤ es.sum
  | [], es, _, ve, h => by
    refine ⟨[1], List.mem_singleton.mpr rfl, ?_⟩
    have : es ≠ [] := by
      intro z
      rw [z] at h
      exact absurd h (Int.lt_irrefl _)
    exact (sum_valid g es ve).2.1 this
  | x :: xs, [], vd, _, h => by
    have := (value_nn g _ vd).1
    have e : value p [] = 0 := rfl
    omega
  | x :: xs, y :: ys, vd, ve, h => by
    have b := g.lo 0
    obtain ⟨h0, h1, h2, h3⟩ := vd.head g
    obtain ⟨k0, k1, k2, k3⟩ := ve.head g
    have h : x + (p 0).2 * value (tl p 1) xs < y + (p 0).2 * value (tl p 1) ys := h
    have vx := value_nn (g.tl 1) xs vd.rest
    have vy := value_nn (g.tl 1) ys ve.rest
    rcases Int.lt_or_le (value (tl p 1) xs) (value (tl p 1) ys) with z | z
    · obtain ⟨r, hr, hs⟩ := RT_low (g.tl 1) xs ys vd.rest ve.rest z
      have : ys ≠ [] := by
        intro q
        rw [q] at z
        have e : value (tl p 1) [] = 0 := rfl
        omega
      have := k2 this
      refine ⟨((p 0).1 - (p 0).2) :: r, List.mem_append_right _ (List.mem_map.mpr ⟨r, hr, rfl⟩), ?_⟩
      rw [List.sum_cons, List.sum_cons]
      omega
    · rcases Int.lt_or_eq_of_le z with q | q
      · exfalso
        have : xs ≠ [] := by
          intro c
          rw [c] at q
          have e : value (tl p 1) [] = 0 := rfl
          omega
        have := h2 this
        have : (p 0).2 * (value (tl p 1) ys + 1) ≤ (p 0).2 * value (tl p 1) xs := Int.mul_le_mul_of_nonneg_left (by omega) (by omega)
        rw [Int.mul_add] at this
        omega
      · have e := value_inj (g.tl 1) ve.rest vd.rest q
        subst e
        refine ⟨(x + 1) :: ys, List.mem_append_left _ ?_, ?_⟩
        · rw [if_pos (by omega)]
          exact List.mem_singleton.mpr rfl
        · rw [List.sum_cons, List.sum_cons]
          omega
/-- numbers and days of what is looked at -/
def fewPs (p : Pr) (d : Int) : List (Int × Int) := (digits p d :: RT p (digits p d)).map fun r => (r.sum, value p r)
/-- k is the least of them, by the number, then by the day -/
def LeastP (p : Pr) (d : Int) (k : Int × Int) : Prop := k ∈ fewPs p d ∧ ∀ y ∈ fewPs p d, ¬ (y.1 < k.1 ∨ y.1 = k.1 ∧ y.2 < k.2)
theorem LeastP.uniq {p : Pr} {d : Int} {k j : Int × Int} (h : LeastP p d k) (h' : LeastP p d j) : k = j := by
  have a := h.2 j h'.1
  have b := h'.2 k h.1
  exact Prod.ext (by omega) (by omega)
theorem few_mem {p : Pr} (g : Good p) {d : Int} (h : 0 ≤ d) {k : Int × Int} (hk : k ∈ fewPs p d) : (digits p k.2).sum = k.1 ∧ d ≤ k.2 ∧ Valid p (digits p k.2) := by
  obtain ⟨r, hr, rfl⟩ := List.mem_map.mp hk
  have vd := valid_digits g h
  have ev := value_digits g h
  rcases List.mem_cons.mp hr with z | z
  · subst z
    show (digits p (value p (digits p d))).sum = _ ∧ d ≤ value p (digits p d) ∧ Valid p (digits p (value p (digits p d)))
    rw [ev]
    exact ⟨rfl, Int.le_refl _, vd⟩
  · obtain ⟨n1, n2, n3⟩ := RT_valid g _ vd r z
    show (digits p (value p r)).sum = r.sum ∧ d ≤ value p r ∧ Valid p (digits p (value p r))
    rw [digits_value g r n2]
    exact ⟨rfl, by omega, n2⟩
theorem LeastP.low {p : Pr} (g : Good p) {d : Int} (h : 0 ≤ d) {k : Int × Int} (hk : LeastP p d k) {e : Int} (he : d ≤ e) : k.1 ≤ (digits p e).sum := by
  have vd := valid_digits g h
  have ev := value_digits g h
  have ve := valid_digits g (d := e) (by omega)
  have : ∃ y ∈ fewPs p d, y.1 ≤ (digits p e).sum := by
    rcases Int.lt_or_eq_of_le he with z | z
    · obtain ⟨r, hr, hs⟩ := RT_low g _ _ vd ve (by rw [ev, value_digits g (by omega)]; exact z)
      exact ⟨_, List.mem_map.mpr ⟨r, List.mem_cons_of_mem _ hr, rfl⟩, hs⟩
    · rw [← z]
      exact ⟨_, List.mem_map.mpr ⟨_, List.mem_cons_self, rfl⟩, Int.le_refl _⟩
  obtain ⟨y, hy, hs⟩ := this
  have := hk.2 y hy
  omega
/-! ### the same list as it is made, grade by grade -/
def leastD (p : Pr) (k : Nat) : List Int := (List.range k).map fun (i : Nat) => (p i).1 - (p i).2
theorem leastD_succ (p : Pr) (k : Nat) : leastD p (k + 1) = ((p 0).1 - (p 0).2) :: leastD (tl p 1) k := by
  unfold leastD
  rw [List.range_succ_eq_map, List.map_cons, List.map_map]
  rfl
def upD (p : Pr) (ds : List Int) (i : Nat) : List (List Int) := ((List.range i).filter fun g => decide (ds.getD g 0 + 1 < (p g).1)).map fun g => leastD p g ++ (ds.getD g 0 + 1) :: ds.drop (g + 1)
theorem upD_succ (p : Pr) (ds : List Int) (i : Nat) : upD p ds (i + 1) = upD p ds i ++ if ds.getD i 0 + 1 < (p i).1 then [leastD p i ++ (ds.getD i 0 + 1) :: ds.drop (i + 1)] else [] := by
  unfold upD
  rw [List.range_succ, List.filter_append, List.map_append]
  congr 1
  by_cases c : ds.getD i 0 + 1 < (p i).1
  · rw [if_pos c, List.filter_cons_of_pos (by simpa using c)]
    rfl
  · rw [if_neg c, List.filter_cons_of_neg (by simpa using c)]
    rfl
theorem upD_cons (p : Pr) (x : Int) (xs : List Int) : ∀ i : Nat, upD p (x :: xs) (i + 1) = (if x + 1 < (p 0).1 then [(x + 1) :: xs] else []) ++ (upD (tl p 1) xs i).map (((p 0).1 - (p 0).2) :: ·)
  | 0 => by
    rw [upD_succ]
    show [] ++ (if x + 1 < (p 0).1 then [(x + 1) :: xs] else []) = _ ++ []
    rw [List.nil_append, List.append_nil]
  | i + 1 => by
    rw [upD_succ, upD_cons p x xs i, upD_succ, List.map_append, List.append_assoc]
    congr 2
    have e : (x :: xs).getD (i + 1) 0 = xs.getD i 0 := rfl
    have e2 : p (i + 1) = tl p 1 i := rfl
    rw [e, e2]
    by_cases c : xs.getD i 0 + 1 < (tl p 1 i).1
    · rw [if_pos c, if_pos c, leastD_succ]
      rfl
    · rw [if_neg c, if_neg c]
      rfl
theorem RT_eq (p : Pr) (ds : List Int) : RT p ds = upD p ds ds.length ++ [leastD p ds.length ++ [1]] := by
  induction ds generalizing p with
  | nil => rfl
  | cons x xs ih =>
    show (if x + 1 < (p 0).1 then [(x + 1) :: xs] else []) ++ (RT (tl p 1) xs).map (((p 0).1 - (p 0).2) :: ·) = upD p (x :: xs) (xs.length + 1) ++ [leastD p (xs.length + 1) ++ [1]]
    rw [upD_cons, ih (tl p 1), List.map_append, leastD_succ, List.append_assoc]
    rfl
end Silt
set_option linter.all false
namespace Silt
/-! ### the greatest number of layers up to a day -/
def TopR (p : Pr) (d N : Int) : Prop := 0 ≤ N ∧ firstWith p N ≤ d ∧ d < firstWith p (N + 1)
theorem TopR.le {p : Pr} (g : Good p) {d N m : Int} (h : TopR p d N) (hm : 0 ≤ m) : firstWith p m ≤ d ↔ m ≤ N := by
  obtain ⟨h0, h1, h2⟩ := h
  constructor
  · intro z
    rcases Int.lt_or_le N m with q | q
    · have := firstWith_mono g (m := N + 1) (k := m) (by omega) (by omega)
      omega
    · exact q
  · intro z
    have := firstWith_mono g (m := m) (k := N) hm z
    omega
theorem TopR.uniq {p : Pr} (g : Good p) {d N M : Int} (h : TopR p d N) (h' : TopR p d M) : N = M := by
  have a := (h.le g h'.1).mp h'.2.1
  have b := (h'.le g h.1).mp h.2.1
  omega
/-! ### the least day with so many, from the top -/
def roomS (p : Pr) : Nat → Int
  | 0 => 0
  | k + 1 => roomS p k + ((p k).1 - 1)
def lowS (p : Pr) : Nat → Int
  | 0 => 0
  | k + 1 => lowS p k + ((p k).1 - 1) * size p k
theorem roomS_tl (p : Pr) : ∀ k : Nat, roomS p (k + 1) = ((p 0).1 - 1) + roomS (tl p 1) k
  | 0 => by
    show (0 : Int) + ((p 0).1 - 1) = ((p 0).1 - 1) + 0
    rw [Int.zero_add, Int.add_zero]
  | k + 1 => by
    have e : tl p 1 k = p (k + 1) := rfl
    have h1 : roomS p (k + 1 + 1) = roomS p (k + 1) + ((p (k + 1)).1 - 1) := rfl
    have h2 : roomS (tl p 1) (k + 1) = roomS (tl p 1) k + ((tl p 1 k).1 - 1) := rfl
    rw [h1, h2, roomS_tl p k, e, Int.add_assoc]
theorem lowS_tl (p : Pr) : ∀ k : Nat, lowS p (k + 1) = ((p 0).1 - 1) + (p 0).2 * lowS (tl p 1) k
  | 0 => by
    show (0 : Int) + ((p 0).1 - 1) * 1 = ((p 0).1 - 1) + (p 0).2 * 0
    rw [Int.mul_one, Int.mul_zero, Int.zero_add, Int.add_zero]
  | k + 1 => by
    show lowS p (k + 1) + ((p (k + 1)).1 - 1) * size p (k + 1) = _ + (p 0).2 * (lowS (tl p 1) k + ((tl p 1 k).1 - 1) * size (tl p 1) k)
    rw [lowS_tl p k, size_tl]
    have e : tl p 1 k = p (k + 1) := rfl
    rw [e, Int.mul_add, ← Int.mul_assoc, ← Int.mul_assoc, Int.mul_comm (p 0).2 ((p (k + 1)).1 - 1)]
    omega
theorem roomS_ge {p : Pr} (g : Good p) : ∀ k : Nat, (k : Int) ≤ roomS p k
  | 0 => Int.le_refl _
  | k + 1 => by
    have := roomS_ge g k
    have := g.lo k
    have := g.le k
    show ((k + 1 : Nat) : Int) ≤ roomS p k + ((p k).1 - 1)
    omega
theorem roomS_le {p : Pr} (g : Good p) : ∀ k : Nat, roomS p k ≤ 11 * (k : Int)
  | 0 => Int.le_refl _
  | k + 1 => by
    have := roomS_le g k
    have := g.hi k
    show roomS p k + ((p k).1 - 1) ≤ 11 * ((k + 1 : Nat) : Int)
    omega
theorem firstWith_room : ∀ (k : Nat) (p : Pr) (m : Int), Good p → roomS p k < m → m ≤ roomS p (k + 1) → firstWith p m = lowS p k + (m - roomS p k) * size p k
  | 0, p, m, g, h1, h2 => by
    have h1 : (0 : Int) < m := h1
    have h2 : m ≤ 0 + ((p 0).1 - 1) := h2
    rw [firstWith_low g (by omega) (by omega)]
    show m = 0 + (m - 0) * 1
    omega
  | k + 1, p, m, g, h1, h2 => by
    rw [roomS_tl] at h1 h2
    have hr : 0 ≤ roomS (tl p 1) k := by have := roomS_ge (g.tl 1) k; omega
    rw [firstWith_up g (by omega), firstWith_room k (tl p 1) (m - ((p 0).1 - 1)) (g.tl 1) (by omega) (by omega), lowS_tl, roomS_tl, size_tl]
    rw [Int.mul_add]
    have e : (p 0).2 * ((m - ((p 0).1 - 1) - roomS (tl p 1) k) * size (tl p 1) k) = (m - ((p 0).1 - 1 + roomS (tl p 1) k)) * ((p 0).2 * size (tl p 1) k) := by
      rw [← Int.mul_assoc, ← Int.mul_assoc, Int.mul_comm (p 0).2, show m - ((p 0).1 - 1) - roomS (tl p 1) k = m - ((p 0).1 - 1 + roomS (tl p 1) k) by omega]
    rw [e]
    omega
/-! ### choices -/
section
variable (W F N : Nat → Int) (d : Int) (m : Nat)
/-- those that cost less than k, or as much and stand ahead -/
def aheadL (k : Nat) : List Nat := (List.range m).filter fun l => decide (W l < W k ∨ W l = W k ∧ l < k)
def fitsL : List Nat := (List.range m).filter fun i => decide (d < F i)
/-- k is the cheapest one that fits -/
def CheapK (k : Nat) : Prop := k < m ∧ d < F k ∧ ∀ j, j < m → d < F j → ¬ (W j < W k ∨ W j = W k ∧ j < k)
/-- the better ones among the first i -/
def betL (k i : Nat) : List Nat := (List.range i).filter fun l => decide (W l < W k ∧ N l ≤ N k)
def outL (i : Nat) : List (Nat × Nat) := (List.range i).filterMap fun k => (betL W N k m).head?.map fun l => (k, l)
end
theorem cheap_uniq {W F : Nat → Int} {d : Int} {m k j : Nat} (h : CheapK W F d m k) (h' : CheapK W F d m j) : k = j := by
  have a := h.2.2 j h'.1 h'.2.1
  have b := h'.2.2 k h.1 h.2.1
  omega
theorem ahead_first {W F : Nat → Int} {d : Int} {m k l : Nat} (h : CheapK W F d m k) (hl : l ∈ aheadL W m k) : F l ≤ d := by
  obtain ⟨h1, h2⟩ := List.mem_filter.mp hl
  have h2 := of_decide_eq_true h2
  rcases Int.lt_or_le d (F l) with z | z
  · exact absurd h2 (h.2.2 l (List.mem_range.mp h1) z)
  · exact z
theorem filter_lt {m : Nat} {b : Nat → Bool} : ∀ l ∈ (List.range m).filter b, l < m := fun l h => List.mem_range.mp (List.mem_filter.mp h).1
theorem filter_asc {m : Nat} {b : Nat → Bool} : ((List.range m).filter b).Pairwise (· < ·) := List.Pairwise.filter _ List.pairwise_lt_range
theorem filter_succ (b : Nat → Bool) (i : Nat) : (List.range (i + 1)).filter b = (List.range i).filter b ++ if b i = true then [i] else [] := by
  rw [List.range_succ, List.filter_append]
  congr 1
  by_cases c : b i = true
  · rw [if_pos c, List.filter_cons_of_pos c]; rfl
  · rw [if_neg c, List.filter_cons_of_neg c]; rfl
theorem betL_succ (W N : Nat → Int) (k i : Nat) : betL W N k (i + 1) = betL W N k i ++ if W i < W k ∧ N i ≤ N k then [i] else [] := by
  unfold betL
  rw [filter_succ]
  simp only [decide_eq_true_iff]
theorem outL_succ (W N : Nat → Int) (m i : Nat) : outL W N m (i + 1) = outL W N m i ++ match (betL W N i m).head? with | none => [] | some l => [(i, l)] := by
  unfold outL
  rw [List.range_succ, List.filterMap_append]
  congr 1
  cases e : (betL W N i m).head? with
  | none => simp [e]
  | some l => simp [e]
theorem outL_lt {W N : Nat → Int} {m i : Nat} : ∀ q ∈ outL W N m i, q.1 < i := by
  intro q h
  obtain ⟨k, hk, e⟩ := List.mem_filterMap.mp h
  cases e2 : (betL W N k m).head? with
  | none => rw [e2] at e; cases e
  | some l => rw [e2] at e; cases e; exact List.mem_range.mp hk
theorem outL_asc (W N : Nat → Int) (m : Nat) : ∀ i, ((outL W N m i).map (·.1)).Pairwise (· < ·)
  | 0 => List.Pairwise.nil
  | i + 1 => by
    rw [outL_succ, List.map_append, List.pairwise_append]
    refine ⟨outL_asc W N m i, ?_, ?_⟩
    · cases (betL W N i m).head? with
      | none => exact List.Pairwise.nil
      | some l => exact List.pairwise_singleton ..
    · intro a ha b hb
      obtain ⟨q, hq, rfl⟩ := List.mem_map.mp ha
      have := outL_lt q hq
      cases e : (betL W N i m).head? with
      | none => rw [e] at hb; cases hb
      | some l =>
        rw [e] at hb
        have : b = i := by simpa using hb
        omega
end Silt
set_option linter.all false
namespace Silt
/-! ### baking that is spread: what is left of each grade -/
def preS (A : Nat → Int) : Nat → Int
  | 0 => 0
  | k + 1 => preS A k + A k
def restA (A : Nat → Int) (b : Int) (k : Nat) : Int := max 0 (b - preS A k)
def spendA (A : Nat → Int) (b : Int) (g : Nat) : Int := A g - min (restA A b g) (A g)
theorem restA_succ {A : Nat → Int} (h : ∀ g, 0 ≤ A g) (b : Int) (k : Nat) : restA A b (k + 1) = restA A b k - min (restA A b k) (A k) := by
  have := h k
  unfold restA
  show max 0 (b - (preS A k + A k)) = _
  omega
theorem spendA_bd {A : Nat → Int} (h : ∀ g, 0 ≤ A g) (b : Int) (g : Nat) : 0 ≤ spendA A b g ∧ spendA A b g ≤ A g := by
  have := h g
  have h0 : 0 ≤ restA A b g := by unfold restA; omega
  unfold spendA
  omega
theorem spend_sum {A : Nat → Int} (h : ∀ g, 0 ≤ A g) {b : Int} (hb : 0 ≤ b) : ∀ k : Nat, preS (spendA A b) k = preS A k - b + restA A b k
  | 0 => by
    show (0 : Int) = 0 - b + max 0 (b - 0)
    omega
  | k + 1 => by
    show preS (spendA A b) k + spendA A b k = preS A k + A k - b + restA A b (k + 1)
    rw [spend_sum h hb k, restA_succ h]
    unfold spendA
    omega
theorem spend_total {A : Nat → Int} (h : ∀ g, 0 ≤ A g) {b : Int} (hb : 0 ≤ b) (k : Nat) : preS (spendA A b) k = max 0 (preS A k - b) := by
  rw [spend_sum h hb k]
  unfold restA
  omega
theorem preS_mono {A : Nat → Int} (h : ∀ g, 0 ≤ A g) (k : Nat) : ∀ j : Nat, preS A k ≤ preS A (k + j)
  | 0 => Int.le_refl _
  | j + 1 => by
    have := preS_mono h k j
    have := h (k + j)
    show preS A k ≤ preS A (k + j) + A (k + j)
    omega
/-- where something is left of a grade, nothing was done for the greater ones -/
theorem spend_lesser {A : Nat → Int} (h : ∀ g, 0 ≤ A g) {b : Int} {g j : Nat} (hg : 0 < spendA A b g) (hj : g < j) : spendA A b j = A j := by
  have h1 : restA A b (g + 1) = 0 := by
    rw [restA_succ h]
    have h0 : 0 ≤ restA A b g := by unfold restA; omega
    unfold spendA at hg
    omega
  have h2 : restA A b j = 0 := by
    have := preS_mono h (g + 1) (j - (g + 1))
    rw [show g + 1 + (j - (g + 1)) = j by omega] at this
    unfold restA at h1 ⊢
    omega
  have := h j
  unfold spendA
  rw [h2]
  omega
/-- what comes up on a day -/
def addA (p : Pr) (d : Int) (g : Nat) : Int := if g < (bakedL p d).length then size p (g + 1) else 0
def leftA (p : Pr) (b : Int) : Nat → Nat → Int
  | 0 => fun _ => 0
  | n + 1 => spendA (fun g => leftA p b n g + addA p ((n : Int) + 1) g) b
theorem addA_nn {p : Pr} (g : Good p) (d : Int) (k : Nat) : 0 ≤ addA p d k := by
  unfold addA
  by_cases c : k < (bakedL p d).length
  · rw [if_pos c]; exact Int.le_of_lt (size_pos g _)
  · rw [if_neg c]; exact Int.le_refl _
theorem leftA_nn {p : Pr} (g : Good p) (b : Int) : ∀ (n k : Nat), 0 ≤ leftA p b n k
  | 0, _ => Int.le_refl _
  | n + 1, k => (spendA_bd (fun j => by have := leftA_nn g b n j; have := addA_nn g ((n : Int) + 1) j; show 0 ≤ leftA p b n j + addA p ((n : Int) + 1) j; omega) b k).1
/-- how many grades have come up -/
def kmax (p : Pr) : Nat → Nat
  | 0 => 0
  | n + 1 => max (kmax p n) (bakedL p ((n : Int) + 1)).length
theorem leftA_off {p : Pr} (g : Good p) (b : Int) : ∀ (n k : Nat), kmax p n ≤ k → leftA p b n k = 0
  | 0, _, _ => rfl
  | n + 1, k, h => by
    have h : max (kmax p n) (bakedL p ((n : Int) + 1)).length ≤ k := h
    have ih := leftA_off g b n k (by omega)
    have nn : ∀ j, 0 ≤ leftA p b n j + addA p ((n : Int) + 1) j := fun j => by have := leftA_nn g b n j; have := addA_nn g ((n : Int) + 1) j; omega
    have bd := spendA_bd nn b k
    have e : leftA p b n k + addA p ((n : Int) + 1) k = 0 := by
      rw [ih]
      unfold addA
      rw [if_neg (by omega)]
      rfl
    have e2 : leftA p b (n + 1) k = spendA (fun g => leftA p b n g + addA p ((n : Int) + 1) g) b k := rfl
    have bd2 : spendA (fun g => leftA p b n g + addA p ((n : Int) + 1) g) b k ≤ leftA p b n k + addA p ((n : Int) + 1) k := bd.2
    have := bd.1
    omega
theorem bakedL_range {p : Pr} (g : Good p) {d : Int} : bakedL p d = (List.range (bakedL p d).length).map fun (j : Nat) => (j : Int) := by
  obtain ⟨m, e, _, _⟩ := bkF_range g (d := d) d.toNat 0 (by omega)
  have e' : bakedL p d = (List.range m).map fun (j : Nat) => ((0 + j : Nat) : Int) := e
  have l : (bakedL p d).length = m := by rw [e', List.length_map, List.length_range]
  rw [l, e']
  refine List.map_congr_left fun j _ => ?_
  rw [Nat.zero_add]
theorem baked_few {p : Pr} (g : Good p) {d : Int} {n : Nat} (h : d < ((2 ^ n : Nat) : Int)) : (bakedL p d).length ≤ n := by
  obtain ⟨m, e, hb, _⟩ := bkF_range g (d := d) d.toNat 0 (by omega)
  have e' : bakedL p d = (List.range m).map fun (j : Nat) => ((0 + j : Nat) : Int) := e
  have l : (bakedL p d).length = m := by rw [e', List.length_map, List.length_range]
  rw [l]
  rcases Nat.lt_or_ge n m with z | z
  · exfalso
    have hb := hb n z
    rw [Nat.zero_add] at hb
    have h1 := isBaked_size g hb
    have h2 := size_ge g (n + 1)
    have h3 : 2 ^ n ≤ 2 ^ (n + 1) := Nat.pow_le_pow_right (by decide) (by omega)
    omega
  · exact z
theorem kmax_few {p : Pr} (g : Good p) {m : Nat} : ∀ n : Nat, (n : Int) < ((2 ^ m : Nat) : Int) → kmax p n ≤ m
  | 0, _ => Nat.zero_le _
  | n + 1, h => by
    have := kmax_few g (m := m) n (by omega)
    have := baked_few g (d := (n : Int) + 1) (n := m) (by omega)
    show max (kmax p n) (bakedL p ((n : Int) + 1)).length ≤ m
    omega
/-! ### sums over keys -/
theorem preS_add (A B : Nat → Int) : ∀ k : Nat, preS (fun g => A g + B g) k = preS A k + preS B k
  | 0 => rfl
  | k + 1 => by
    show preS (fun g => A g + B g) k + (A k + B k) = preS A k + A k + (preS B k + B k)
    rw [preS_add A B k]
    omega
theorem sum_pos (A : Nat → Int) (h : ∀ g, 0 ≤ A g) : ∀ k : Nat, (((List.range k).filter fun g => decide (0 < A g)).map A).sum = preS A k
  | 0 => rfl
  | k + 1 => by
    have := h k
    rw [filter_succ, List.map_append, List.sum_append, sum_pos A h k]
    show preS A k + ((if decide (0 < A k) = true then [k] else []).map A).sum = preS A k + A k
    by_cases c : 0 < A k
    · rw [if_pos (decide_eq_true c)]
      simp
    · rw [if_neg (by rw [decide_eq_true_iff]; exact c)]
      simp
      omega
theorem sum_upd : ∀ {ks : List Nat} (A : Nat → Int) {x : Nat} (w : Int), ks.Nodup → x ∈ ks → (ks.map fun i => if i = x then w else A i).sum = (ks.map A).sum - A x + w
  | [], _, _, _, _, h => by cases h
  | k :: ks, A, x, w, nd, h => by
    rw [List.nodup_cons] at nd
    rw [List.map_cons, List.map_cons, List.sum_cons, List.sum_cons]
    by_cases c : k = x
    · subst c
      have e : (ks.map fun i => if i = k then w else A i) = ks.map A := List.map_congr_left fun i hi => if_neg (fun (z : i = k) => nd.1 (z ▸ hi))
      rw [if_pos rfl, e]
      omega
    · rw [if_neg c]
      rcases List.mem_cons.mp h with z | z
      · exact absurd z.symm c
      · rw [sum_upd A w nd.2 z]
        omega
theorem sum_congr {ks : List Nat} {A B : Nat → Int} (h : ∀ i ∈ ks, A i = B i) : (ks.map A).sum = (ks.map B).sum := by rw [List.map_congr_left h]
end Silt
set_option linter.all false
namespace Silt
/-! ### choices more, turned, twice -/
theorem top_ex {p : Pr} (g : Good p) {d : Int} (h : 0 ≤ d) : ∃ N, TopR p d N := by
  have key : ∀ (k : Nat) (n : Int), 0 ≤ n → firstWith p n ≤ d → d - n < k → ∃ N, TopR p d N := by
    intro k
    induction k with
    | zero =>
      intro n h0 h1 h2
      have := firstWith_mono g (m := 0) (k := n) (by omega) h0
      have := firstWith_nn g 0
      omega
    | succ k ih =>
      intro n h0 h1 h2
      rcases Int.lt_or_le d (firstWith p (n + 1)) with z | z
      · exact ⟨n, h0, h1, z⟩
      · exact ih (n + 1) (by omega) z (by omega)
  exact key (d.toNat + 1) 0 (by omega) (by rw [firstWith_zero p (Int.le_refl 0)]; exact h) (by omega)
theorem CheapK.le {W F : Nat → Int} {d : Int} {m k j : Nat} (h : CheapK W F d m k) (hj : j < m) (hf : d < F j) : W k ≤ W j := by
  have := h.2.2 j hj hf
  omega
theorem fits_in {F : Nat → Int} {d : Int} {m j : Nat} (hj : j < m) (hf : d < F j) : j ∈ fitsL F d m := List.mem_filter.mpr ⟨List.mem_range.mpr hj, decide_eq_true hf⟩
theorem fits_ne {F : Nat → Int} {d : Int} {m j : Nat} (hj : j < m) (hf : d < F j) : fitsL F d m ≠ [] := fun z => by
  have := fits_in hj hf
  rw [z] at this
  cases this
def dbF (W : Nat → Int) (m : Nat) : Nat → Int := fun i => if i < m then W i else W (i - m)
theorem dbF_lo {W : Nat → Int} {m i : Nat} (h : i < m) : dbF W m i = W i := if_pos h
theorem dbF_hi {W : Nat → Int} {m i : Nat} (h : ¬ i < m) : dbF W m i = W (i - m) := if_neg h
theorem CheapK.db {W F : Nat → Int} {d : Int} {m k : Nat} (h : CheapK W F d m k) : CheapK (dbF W m) (dbF F m) d (m + m) k := by
  obtain ⟨h1, h2, h3⟩ := h
  refine ⟨by omega, by rw [dbF_lo h1]; exact h2, fun j hj hf => ?_⟩
  rw [dbF_lo h1]
  by_cases c : j < m
  · rw [dbF_lo c] at hf ⊢
    exact h3 j c hf
  · rw [dbF_hi c] at hf ⊢
    have := h3 (j - m) (by omega) hf
    omega
def rvF (W : Nat → Int) (m : Nat) : Nat → Int := fun i => W (m - 1 - i)
theorem CheapK.rev {W F : Nat → Int} {d : Int} {m k j : Nat} (h : CheapK W F d m k) (h' : CheapK (rvF W m) (rvF F m) d m j) : rvF W m j = W k := by
  have hk := h.1
  have hj := h'.1
  have a : W k ≤ W (m - 1 - j) := h.le (by omega) h'.2.1
  have e : m - 1 - (m - 1 - k) = k := by omega
  have f : d < rvF F m (m - 1 - k) := by
    show d < F (m - 1 - (m - 1 - k))
    rw [e]
    exact h.2.1
  have b : W (m - 1 - j) ≤ W (m - 1 - (m - 1 - k)) := h'.le (by omega) f
  rw [e] at b
  show W (m - 1 - j) = W k
  omega
theorem betE {W N : Nat → Int} {k m : Nat} : (betL W N k m).isEmpty = true ↔ ∀ l, l < m → ¬ (W l < W k ∧ N l ≤ N k) := by
  unfold betL
  rw [List.isEmpty_iff, List.filter_eq_nil_iff]
  constructor
  · intro h l hl z
    exact h l (List.mem_range.mpr hl) (decide_eq_true z)
  · intro h l hl z
    exact h l (List.mem_range.mp hl) (of_decide_eq_true z)
theorem outL_keys (W N : Nat → Int) (m : Nat) : ∀ i, (outL W N m i).map (·.1) = (List.range i).filter fun k => !(betL W N k m).isEmpty
  | 0 => rfl
  | i + 1 => by
    rw [outL_succ, List.map_append, outL_keys W N m i, filter_succ]
    cases betL W N i m with
    | nil => rfl
    | cons y ys => rfl
theorem betD {W N : Nat → Int} {k m : Nat} (hk : k < m + m) : (betL (dbF W m) (dbF N m) k (m + m)).isEmpty = (betL W N (if k < m then k else k - m) m).isEmpty := by
  have e : ∀ A : Nat → Int, dbF A m k = A (if k < m then k else k - m) := fun A => by
    by_cases c : k < m
    · rw [dbF_lo c, if_pos c]
    · rw [dbF_hi c, if_neg c]
  rw [Bool.eq_iff_iff, betE, betE, e W, e N]
  constructor
  · intro h l hl
    have := h l (by omega)
    rw [dbF_lo hl, dbF_lo hl] at this
    exact this
  · intro h l hl
    by_cases c : l < m
    · rw [dbF_lo c, dbF_lo c]
      exact h l c
    · rw [dbF_hi c, dbF_hi c]
      exact h (l - m) (by omega)
theorem dbl_keys (W N : Nat → Int) (m : Nat) : (outL (dbF W m) (dbF N m) (m + m) (m + m)).map (·.1) = (outL W N m m).map (·.1) ++ ((outL W N m m).map (·.1)).map (fun x => m + x) := by
  rw [outL_keys, outL_keys, List.range_add, List.filter_append, List.filter_map]
  congr 1
  · refine List.filter_congr fun k hk => ?_
    have hk := List.mem_range.mp hk
    rw [betD (by omega), if_pos hk]
  · congr 1
    refine List.filter_congr fun k hk => ?_
    have hk := List.mem_range.mp hk
    show (!(betL (dbF W m) (dbF N m) (m + k) (m + m)).isEmpty) = _
    rw [betD (by omega), if_neg (by omega), show m + k - m = k by omega]
theorem outL_mem {W N : Nat → Int} {m i : Nat} {q : Nat × Nat} (h : q ∈ outL W N m i) : q.1 < i ∧ q.2 < m ∧ W q.2 < W q.1 ∧ N q.2 ≤ N q.1 := by
  obtain ⟨k, hk, e⟩ := List.mem_filterMap.mp h
  cases e2 : (betL W N k m).head? with
  | none => rw [e2] at e; cases e
  | some l =>
    rw [e2] at e
    cases e
    have hl : l ∈ betL W N k m := List.mem_of_head? e2
    obtain ⟨h1, h2⟩ := List.mem_filter.mp hl
    exact ⟨List.mem_range.mp hk, List.mem_range.mp h1, of_decide_eq_true h2⟩
end Silt
set_option linter.all false
namespace Silt
/-! ### bakes that are worked on: which one is late first -/
theorem owed_up {p : Pr} (g : Good p) (k : Nat) : ∀ i : Nat, owed p k ≤ owed p (k + i)
  | 0 => Int.le_refl _
  | i + 1 => by
    have ih := owed_up g k i
    have h1 := size_pos g (k + i)
    have h2 := g.le (k + i)
    have h3 : 0 ≤ size p (k + i) * ((p (k + i)).1 - (p (k + i)).2) := Int.mul_nonneg (by omega) (by omega)
    have e : owed p (k + (i + 1)) = owed p (k + i) + size p (k + i) * ((p (k + i)).1 - (p (k + i)).2) := rfl
    omega
theorem size_up {p : Pr} (g : Good p) (k i : Nat) : size p k ≤ size p (k + i) := Int.le_of_dvd (size_pos g _) (size_dvd p k i)
/-- a baked grade: the day by layers -/
theorem isBaked_ex {p : Pr} (g : Good p) {k : Nat} {d : Int} : isBaked p k d = true ↔ ∃ q : Int, 1 ≤ q ∧ d = owed p (k + 1) + q * size p (k + 1) := by
  have hs := size_pos g (k + 1)
  rw [isBaked_iff]
  constructor
  · rintro ⟨h1, h2⟩
    have e := Int.mul_ediv_add_emod (d - owed p (k + 1)) (size p (k + 1))
    rw [h2, Int.add_zero] at e
    refine ⟨(d - owed p (k + 1)) / size p (k + 1), ?_, ?_⟩
    · exact (Int.le_ediv_iff_mul_le hs).mpr (by omega)
    · rw [Int.mul_comm] at e
      omega
  · rintro ⟨q, hq, rfl⟩
    have h1 : 1 * size p (k + 1) ≤ q * size p (k + 1) := Int.mul_le_mul_of_nonneg_right hq (by omega)
    refine ⟨by omega, ?_⟩
    rw [show owed p (k + 1) + q * size p (k + 1) - owed p (k + 1) = q * size p (k + 1) by omega]
    exact Int.mul_emod_left _ _
theorem isBaked_down {p : Pr} (g : Good p) {k i : Nat} {d : Int} (h : isBaked p (k + i) d = true) : isBaked p k d = true := by
  obtain ⟨q, hq, e⟩ := (isBaked_ex g).mp h
  obtain ⟨u, hu⟩ := owed_dvd p (k + 1) i
  obtain ⟨v, hv⟩ := size_dvd p (k + 1) i
  have hs := size_pos g (k + 1)
  have ho := owed_up g (k + 1) i
  have hz := size_pos g (k + 1 + i)
  rw [show k + i + 1 = k + 1 + i by omega] at e
  have hu0 : 0 ≤ u := by
    rcases Int.lt_or_le u 0 with z | z
    · have : size p (k + 1) * u < 0 := Int.mul_neg_of_pos_of_neg hs z
      omega
    · exact z
  have hv1 : 1 ≤ v := by
    rcases Int.lt_or_le v 1 with z | z
    · have : size p (k + 1) * v ≤ 0 := Int.mul_nonpos_of_nonneg_of_nonpos (by omega) (by omega)
      omega
    · exact z
  refine (isBaked_ex g).mpr ⟨u + q * v, ?_, ?_⟩
  · have : 1 * 1 ≤ q * v := Int.mul_le_mul hq hv1 (by omega) (by omega)
    omega
  · rw [e, hv, Int.add_mul]
    have e1 : q * (size p (k + 1) * v) = q * v * size p (k + 1) := by rw [Int.mul_comm (size p (k + 1)) v, Int.mul_assoc]
    have e2 : u * size p (k + 1) = size p (k + 1) * u := Int.mul_comm _ _
    omega
theorem baked_iff {p : Pr} (g : Good p) {d : Int} (k : Nat) : k < (bakedL p d).length ↔ isBaked p k d = true := by
  obtain ⟨m, e, hb, hn⟩ := bkF_range g (d := d) d.toNat 0 (by omega)
  have e' : bakedL p d = (List.range m).map fun (j : Nat) => ((0 + j : Nat) : Int) := e
  have l : (bakedL p d).length = m := by rw [e', List.length_map, List.length_range]
  rw [l]
  constructor
  · intro h
    have := hb k h
    rw [Nat.zero_add] at this
    exact this
  · intro h
    rcases Nat.lt_or_ge k m with z | z
    · exact z
    · exfalso
      rw [Nat.zero_add] at hn
      have := isBaked_down g (k := m) (i := k - m) (d := d) (by rw [show m + (k - m) = k by omega]; exact h)
      rw [this] at hn
      cases hn
/-- a bake more -/
theorem made_up {p : Pr} (g : Good p) (k : Nat) (n : Nat) : made p (k + 1) ((n : Int) + 1) = made p (k + 1) n + if isBaked p k ((n : Int) + 1) = true then 1 else 0 := by
  have hs := size_pos g (k + 1)
  by_cases c : isBaked p k ((n : Int) + 1) = true
  · rw [if_pos c]
    obtain ⟨q, hq, e⟩ := (isBaked_ex g).mp c
    unfold made
    rw [show (n : Int) + 1 - owed p (k + 1) = q * size p (k + 1) by omega, show (n : Int) - owed p (k + 1) = (size p (k + 1) - 1) + (q - 1) * size p (k + 1) by rw [Int.sub_mul]; omega]
    rw [Int.mul_ediv_cancel _ (by omega), Int.add_mul_ediv_right _ _ (by omega), Int.ediv_eq_zero_of_lt (by omega) (by omega)]
    omega
  · rw [if_neg c]
    unfold made
    have e1 := Int.mul_ediv_add_emod ((n : Int) - owed p (k + 1)) (size p (k + 1))
    have r0 := Int.emod_nonneg ((n : Int) - owed p (k + 1)) (show size p (k + 1) ≠ 0 by omega)
    have r1 := Int.emod_lt_of_pos ((n : Int) - owed p (k + 1)) hs
    generalize hq : ((n : Int) - owed p (k + 1)) / size p (k + 1) = q at *
    generalize hr : ((n : Int) - owed p (k + 1)) % size p (k + 1) = r at *
    rw [Int.mul_comm] at e1
    by_cases z : r + 1 = size p (k + 1)
    · have e2 : (n : Int) + 1 - owed p (k + 1) = (q + 1) * size p (k + 1) := by rw [Int.add_mul]; omega
      rw [e2, Int.mul_ediv_cancel _ (by omega)]
      rcases Int.lt_or_le q 0 with y | y
      · omega
      · exact absurd ((isBaked_ex g).mpr ⟨q + 1, by omega, by omega⟩) c
    · have e2 : (n : Int) + 1 - owed p (k + 1) = (r + 1) + q * size p (k + 1) := by omega
      rw [e2, Int.add_mul_ediv_right _ _ (by omega), Int.ediv_eq_zero_of_lt (by omega) (by omega)]
      omega
theorem addA_made {p : Pr} (g : Good p) (k n : Nat) : addA p ((n : Int) + 1) k = size p (k + 1) * made p (k + 1) ((n : Int) + 1) - size p (k + 1) * made p (k + 1) n := by
  rw [made_up g k n, Int.mul_add]
  unfold addA
  by_cases c : isBaked p k ((n : Int) + 1) = true
  · rw [if_pos ((baked_iff g k).mpr c), if_pos c]
    omega
  · rw [if_neg (fun z => c ((baked_iff g k).mp z)), if_neg c]
    omega
/-- all that has come up of the grades below k -/
def cumL (p : Pr) (k : Nat) (n : Nat) : Int := preS (fun j => size p (j + 1) * made p (j + 1) n) k
def wL (p : Pr) (b : Int) (k n : Nat) : Int := preS (leftA p b n) k
theorem preS_zero : ∀ k : Nat, preS (fun _ => 0) k = 0
  | 0 => rfl
  | k + 1 => by
    show preS (fun _ => 0) k + 0 = 0
    rw [preS_zero k]
    rfl
theorem preS_sub (A B : Nat → Int) : ∀ k : Nat, preS (fun g => A g - B g) k = preS A k - preS B k
  | 0 => rfl
  | k + 1 => by
    show preS (fun g => A g - B g) k + (A k - B k) = preS A k + A k - (preS B k + B k)
    rw [preS_sub A B k]
    omega
theorem preS_cong {A B : Nat → Int} : ∀ {k : Nat}, (∀ j, j < k → A j = B j) → preS A k = preS B k
  | 0, _ => rfl
  | k + 1, h => by
    show preS A k + A k = preS B k + B k
    rw [preS_cong (fun j hj => h j (by omega)), h k (by omega)]
theorem wL_succ {p : Pr} (g : Good p) {b : Int} (hb : 0 ≤ b) (k n : Nat) : wL p b k (n + 1) = max 0 (wL p b k n + (cumL p k (n + 1) - cumL p k n) - b) := by
  have nn : ∀ j, 0 ≤ leftA p b n j + addA p ((n : Int) + 1) j := fun j => by have := leftA_nn g b n j; have := addA_nn g ((n : Int) + 1) j; omega
  have e : wL p b k (n + 1) = preS (spendA (fun j => leftA p b n j + addA p ((n : Int) + 1) j) b) k := rfl
  rw [e, spend_total nn hb, preS_add]
  have e2 : preS (addA p ((n : Int) + 1)) k = cumL p k (n + 1) - cumL p k n := by
    unfold cumL
    rw [← preS_sub]
    exact preS_cong fun j _ => by rw [addA_made g]; rfl
  rw [e2]
  rfl
theorem wL_nn {p : Pr} (g : Good p) (b : Int) (k n : Nat) : 0 ≤ wL p b k n := by
  have := preS_mono (leftA_nn g b n) 0 k
  rw [Nat.zero_add] at this
  exact this
theorem wL_ge {p : Pr} (g : Good p) {b : Int} (hb : 0 ≤ b) (k n : Nat) : ∀ m : Nat, wL p b k n + (cumL p k (n + m) - cumL p k n) - b * m ≤ wL p b k (n + m)
  | 0 => by simp
  | m + 1 => by
    have ih := wL_ge g hb k n m
    have e := wL_succ g hb k (n + m)
    have e2 : b * ((m + 1 : Nat) : Int) = b * m + b := by rw [show ((m + 1 : Nat) : Int) = (m : Int) + 1 from rfl, Int.mul_add]; omega
    rw [show n + (m + 1) = n + m + 1 by omega, e, e2]
    omega
theorem wL_win {p : Pr} (g : Good p) {b : Int} (hb : 0 ≤ b) {k n S : Nat} (h0 : wL p b k n = 0) (h : ∀ z, z ≤ S → cumL p k (n + S) - cumL p k (n + z) ≤ b * ((S : Int) - z)) : ∀ y : Nat, y ≤ S → wL p b k (n + y) ≤ b * ((S : Int) - y) - (cumL p k (n + S) - cumL p k (n + y))
  | 0, _ => by
    have := h 0 (by omega)
    rw [Nat.add_zero] at this ⊢
    omega
  | y + 1, hy => by
    have ih := wL_win g hb h0 h y (by omega)
    have h1 := h (y + 1) hy
    have e := wL_succ g hb k (n + y)
    have e2 : b * ((S : Int) - ((y + 1 : Nat) : Int)) = b * ((S : Int) - y) - b := by
      rw [show (S : Int) - ((y + 1 : Nat) : Int) = ((S : Int) - y) - 1 by omega, Int.mul_sub]
      omega
    rw [show n + (y + 1) = n + y + 1 by omega] at h1 ⊢
    rw [e2] at h1 ⊢
    rw [e]
    omega
/-- in a window of a grade each lesser one comes up to as much -/
theorem one_win {p : Pr} (g : Good p) {k j t S : Nat} (hj : j ≤ k) (hb : isBaked p k ((t : Int) + 1) = true) (hS : (S : Int) = size p (k + 1)) (z : Nat) (hz : z ≤ S) :
    size p (j + 1) * made p (j + 1) ((t + S : Nat) : Int) - size p (j + 1) * made p (j + 1) ((t + z : Nat) : Int) ≤ (S : Int) - z ∧ (z = 0 → size p (j + 1) * made p (j + 1) ((t + S : Nat) : Int) - size p (j + 1) * made p (j + 1) ((t + z : Nat) : Int) = (S : Int)) := by
  have hbj := isBaked_down g (k := j) (i := k - j) (d := (t : Int) + 1) (by rw [show j + (k - j) = k by omega]; exact hb)
  obtain ⟨q, hq, e⟩ := (isBaked_ex g).mp hbj
  obtain ⟨r, hr⟩ := size_dvd p (j + 1) (k - j)
  rw [show j + 1 + (k - j) = k + 1 by omega] at hr
  have hs := size_pos g (j + 1)
  have hs2 := size_pos g (k + 1)
  unfold made
  generalize size p (j + 1) = s at *
  have hr1 : 1 ≤ r := by
    rcases Int.lt_or_le r 1 with y | y
    · have : s * r ≤ 0 := Int.mul_nonpos_of_nonneg_of_nonpos (by omega) (by omega)
      omega
    · exact y
  have eS : (S : Int) = s * r := by omega
  have a1 : ((t + S : Nat) : Int) - owed p (j + 1) = (s - 1) + (q + r - 1) * s := by
    have : (q + r - 1) * s = q * s + s * r - s := by rw [Int.sub_mul, Int.add_mul, Int.mul_comm r s]; omega
    rw [this]
    omega
  have a2 : ((t + z : Nat) : Int) - owed p (j + 1) = ((z : Int) - 1) + q * s := by omega
  have m1 : max 0 ((((t + S : Nat) : Int) - owed p (j + 1)) / s) = q + r - 1 := by
    rw [a1, Int.add_mul_ediv_right _ _ (by omega), Int.ediv_eq_zero_of_lt (by omega) (by omega)]
    omega
  have m2 : (((t + z : Nat) : Int) - owed p (j + 1)) / s = ((z : Int) - 1) / s + q := by rw [a2, Int.add_mul_ediv_right _ _ (by omega)]
  have b1 := Int.mul_ediv_add_emod ((z : Int) - 1) s
  have b2 := Int.emod_lt_of_pos ((z : Int) - 1) hs
  have b3 : -1 ≤ ((z : Int) - 1) / s := by
    rw [Int.le_ediv_iff_mul_le hs]
    omega
  rw [m1, m2]
  generalize hw : ((z : Int) - 1) / s = w at *
  rw [show max 0 (w + q) = w + q by omega]
  have f1 : s * (q + r - 1) - s * (w + q) = s * r - s - s * w := by rw [Int.mul_sub, Int.mul_add, Int.mul_add]; omega
  rw [f1]
  refine ⟨by omega, fun h0 => ?_⟩
  subst h0
  have : w = -1 := by
    have h1 : w < 0 := by
      rcases Int.lt_or_le w 0 with y | y
      · exact y
      · have : 0 ≤ s * w := Int.mul_nonneg (by omega) y
        have := Int.emod_nonneg (((0 : Nat) : Int) - 1) (show s ≠ 0 by omega)
        omega
    omega
  rw [this]
  omega
theorem cum_win {p : Pr} (g : Good p) {k t S : Nat} (hb : isBaked p k ((t : Int) + 1) = true) (hS : (S : Int) = size p (k + 1)) (z : Nat) (hz : z ≤ S) : ∀ j : Nat, j ≤ k + 1 →
    cumL p j (t + S) - cumL p j (t + z) ≤ (j : Int) * ((S : Int) - z) ∧ (z = 0 → cumL p j (t + S) - cumL p j (t + z) = (j : Int) * (S : Int))
  | 0, _ => by
    have e : ∀ n, cumL p 0 n = 0 := fun _ => rfl
    rw [e, e]
    simp
  | j + 1, hj => by
    obtain ⟨h1, h2⟩ := cum_win g hb hS z hz j (by omega)
    obtain ⟨h3, h4⟩ := one_win g (j := j) (by omega) hb hS z hz
    have e : ∀ n, cumL p (j + 1) n = cumL p j n + size p (j + 1) * made p (j + 1) n := fun _ => rfl
    rw [e, e]
    have e2 : ((j + 1 : Nat) : Int) * ((S : Int) - z) = (j : Int) * ((S : Int) - z) + ((S : Int) - z) := by rw [show ((j + 1 : Nat) : Int) = (j : Int) + 1 from rfl, Int.add_mul]; omega
    have e3 : ((j + 1 : Nat) : Int) * (S : Int) = (j : Int) * (S : Int) + (S : Int) := by rw [show ((j + 1 : Nat) : Int) = (j : Int) + 1 from rfl, Int.add_mul]; omega
    rw [e2, e3]
    exact ⟨by omega, fun z0 => by have := h2 z0; have := h4 z0; omega⟩
/-- a grade that has not come up yet -/
theorem left_off {p : Pr} (g : Good p) (b : Int) {k : Nat} : ∀ n : Nat, (n : Int) < owed p (k + 1) + size p (k + 1) → leftA p b n k = 0
  | 0, _ => rfl
  | n + 1, h => by
    have ih := left_off g b (k := k) n (by omega)
    have nn : ∀ j, 0 ≤ leftA p b n j + addA p ((n : Int) + 1) j := fun j => by have := leftA_nn g b n j; have := addA_nn g ((n : Int) + 1) j; omega
    have bd := spendA_bd nn b k
    have e : addA p ((n : Int) + 1) k = 0 := by
      unfold addA
      rw [if_neg]
      intro z
      have := (isBaked_iff.mp ((baked_iff g k).mp z)).1
      omega
    have e2 : leftA p b (n + 1) k = spendA (fun g => leftA p b n g + addA p ((n : Int) + 1) g) b k := rfl
    have bd2 : spendA (fun g => leftA p b n g + addA p ((n : Int) + 1) g) b k ≤ leftA p b n k + addA p ((n : Int) + 1) k := bd.2
    have := bd.1
    omega
/-- no bake of a grade below the budget is late -/
theorem in_time {p : Pr} (g : Good p) {b : Nat} : ∀ (k : Nat), k < b → ∀ (t : Nat), isBaked p k ((t : Int) + 1) = true → wL p b (k + 1) t = 0
  | k, hk, t, hb => by
    have hs := size_pos g (k + 1)
    obtain ⟨q, hq, e⟩ := (isBaked_ex g).mp hb
    have split : wL p b (k + 1) t = wL p b k t + leftA p b t k := rfl
    by_cases c : q = 1
    · have l0 := left_off g (b : Int) (k := k) t (by rw [c, Int.one_mul] at e; omega)
      rw [split, l0]
      cases k with
      | zero => rfl
      | succ k' =>
        have := in_time g (b := b) k' (by omega) t (isBaked_down g (k := k') (i := 1) hb)
        omega
    · obtain ⟨S, hS⟩ : ∃ S : Nat, (S : Int) = size p (k + 1) := ⟨(size p (k + 1)).toNat, by omega⟩
      have h1 : 1 * size p (k + 1) ≤ (q - 1) * size p (k + 1) := Int.mul_le_mul_of_nonneg_right (by omega) (by omega)
      have ho := owed_nn g (k + 1)
      have e3 : (q - 1) * size p (k + 1) = q * size p (k + 1) - size p (k + 1) := by rw [Int.sub_mul]; omega
      obtain ⟨t', ht'⟩ : ∃ t' : Nat, t = t' + S := ⟨t - S, by omega⟩
      have hb' : isBaked p k ((t' : Int) + 1) = true := (isBaked_ex g).mpr ⟨q - 1, by omega, by omega⟩
      have w0 := in_time g (b := b) k hk t' hb'
      have bnd : ∀ z, z ≤ S → cumL p (k + 1) (t' + S) - cumL p (k + 1) (t' + z) ≤ (b : Int) * ((S : Int) - z) := fun z hz => by
        have h2 := (cum_win g hb' hS z hz (k + 1) (Nat.le_refl _)).1
        have h3 : ((k + 1 : Nat) : Int) * ((S : Int) - z) ≤ (b : Int) * ((S : Int) - z) := Int.mul_le_mul_of_nonneg_right (by omega) (by omega)
        omega
      have h4 := wL_win g (b := (b : Int)) (by omega) w0 bnd S (Nat.le_refl _)
      have h5 := wL_nn g (b : Int) (k + 1) (t' + S)
      rw [Int.sub_self, Int.mul_zero, Int.sub_self] at h4
      rw [ht']
      omega
  termination_by k _ t => (k, t)
theorem in_time_left {p : Pr} (g : Good p) {b k t : Nat} (hk : k < b) (hb : isBaked p k ((t : Int) + 1) = true) : leftA p b t k = 0 := by
  have h := in_time g k hk t hb
  have split : wL p b (k + 1) t = wL p b k t + leftA p b t k := rfl
  have h1 := wL_nn g (b : Int) k t
  have h2 := leftA_nn g (b : Int) t k
  omega
/-- the first bake of the grade that is the budget is late -/
theorem late_left {p : Pr} (g : Good p) {b t : Nat} (hb : 1 ≤ b) (ht : (t : Int) + 1 = owed p (b + 1) + 2 * size p (b + 1)) : 0 < leftA p b t b := by
  have hs := size_pos g (b + 1)
  have ho := owed_nn g (b + 1)
  obtain ⟨S, hS⟩ : ∃ S : Nat, (S : Int) = size p (b + 1) := ⟨(size p (b + 1)).toNat, by omega⟩
  obtain ⟨t', ht'⟩ : ∃ t' : Nat, t = t' + S := ⟨t - S, by omega⟩
  have hb' : isBaked p b ((t' : Int) + 1) = true := (isBaked_ex g).mpr ⟨1, by omega, by omega⟩
  have hb2 : isBaked p b ((t : Int) + 1) = true := (isBaked_ex g).mpr ⟨2, by omega, by omega⟩
  have h1 : cumL p (b + 1) (t' + S) - cumL p (b + 1) t' = ((b + 1 : Nat) : Int) * (S : Int) := (cum_win g hb' hS 0 (by omega) (b + 1) (Nat.le_refl _)).2 rfl
  have h2 := wL_ge g (b := (b : Int)) (by omega) (b + 1) t' S
  have h3 := wL_nn g (b : Int) (b + 1) t'
  have e2 : ((b + 1 : Nat) : Int) * (S : Int) = (b : Int) * (S : Int) + (S : Int) := by rw [show ((b + 1 : Nat) : Int) = (b : Int) + 1 from rfl, Int.add_mul]; omega
  have h4 : wL p b b t = 0 := by
    cases b with
    | zero => omega
    | succ b' => exact in_time g b' (by omega) t (isBaked_down g (k := b') (i := 1) hb2)
  have split : wL p b (b + 1) t = wL p b b t + leftA p b t b := rfl
  rw [ht'] at h4 split ⊢
  omega
/-! ### tasks -/
abbrev Tk := Int × Int × Int
def spendT : Int → List Tk → List Tk
  | _, [] => []
  | r, x :: L => (x.1, x.2.1, x.2.2 - min r x.2.2) :: spendT (r - min r x.2.2) L
def sumG (g : Int) (L : List Tk) : Int := (L.map fun x => if x.1 = g then x.2.2 else 0).sum
def lowG (g : Int) (L : List Tk) : Int := (L.map fun x => if x.1 < g then x.2.2 else 0).sum
theorem sumG_cons (g : Int) (x : Tk) (L : List Tk) : sumG g (x :: L) = (if x.1 = g then x.2.2 else 0) + sumG g L := by simp [sumG]
theorem lowG_cons (g : Int) (x : Tk) (L : List Tk) : lowG g (x :: L) = (if x.1 < g then x.2.2 else 0) + lowG g L := by simp [lowG]
theorem sumG_nn {g : Int} : ∀ {L : List Tk}, (∀ x ∈ L, 0 ≤ x.2.2) → 0 ≤ sumG g L
  | [], _ => Int.le_refl _
  | x :: L, h => by
    rw [sumG_cons]
    have h1 := h x List.mem_cons_self
    have h2 := sumG_nn (g := g) (L := L) fun y hy => h y (List.mem_cons_of_mem _ hy)
    split <;> omega
theorem lowG_nn {g : Int} : ∀ {L : List Tk}, (∀ x ∈ L, 0 ≤ x.2.2) → 0 ≤ lowG g L
  | [], _ => Int.le_refl _
  | x :: L, h => by
    rw [lowG_cons]
    have h1 := h x List.mem_cons_self
    have h2 := lowG_nn (g := g) (L := L) fun y hy => h y (List.mem_cons_of_mem _ hy)
    split <;> omega
theorem lowG_off {g : Int} : ∀ {L : List Tk}, (∀ x ∈ L, g ≤ x.1) → lowG g L = 0
  | [], _ => rfl
  | x :: L, h => by
    rw [lowG_cons, if_neg (by have := h x List.mem_cons_self; omega), lowG_off fun y hy => h y (List.mem_cons_of_mem _ hy)]
    rfl
theorem sumG_off {g : Int} : ∀ {L : List Tk}, (∀ x ∈ L, x.1 ≠ g) → sumG g L = 0
  | [], _ => rfl
  | x :: L, h => by
    rw [sumG_cons, if_neg (h x List.mem_cons_self), sumG_off fun y hy => h y (List.mem_cons_of_mem _ hy)]
    rfl
theorem spendT_sum (g : Int) : ∀ (L : List Tk) (r : Int), 0 ≤ r → (∀ x ∈ L, 0 ≤ x.2.2) → L.Pairwise (fun x y => x.1 ≤ y.1) → sumG g (spendT r L) = max 0 (sumG g L - max 0 (r - lowG g L))
  | [], r, hr, _, _ => by
    show (0 : Int) = max 0 (0 - max 0 (r - 0))
    omega
  | x :: L, r, hr, hn, hp => by
    have hx := hn x List.mem_cons_self
    have hn' : ∀ y ∈ L, 0 ≤ y.2.2 := fun y hy => hn y (List.mem_cons_of_mem _ hy)
    obtain ⟨p1, p2⟩ := List.pairwise_cons.mp hp
    have ih := spendT_sum g L (r - min r x.2.2) (by omega) hn' p2
    have s0 := sumG_nn (g := g) hn'
    have l0 := lowG_nn (g := g) hn'
    show sumG g ((x.1, x.2.1, x.2.2 - min r x.2.2) :: spendT (r - min r x.2.2) L) = _
    rw [sumG_cons, sumG_cons, lowG_cons, ih]
    show (if x.1 = g then x.2.2 - min r x.2.2 else 0) + _ = _
    rcases Int.lt_trichotomy x.1 g with c | c | c
    · rw [if_neg (by omega), if_neg (by omega), if_pos c]
      omega
    · rw [if_pos c, if_pos c, if_neg (by omega), lowG_off fun y hy => by have := p1 y hy; omega]
      omega
    · rw [if_neg (by omega), if_neg (by omega), if_neg (by omega), sumG_off fun y hy => by have := p1 y hy; omega]
      omega
theorem lowG_pre {L : List Tk} (h : ∀ x ∈ L, 0 ≤ x.1) : ∀ g : Nat, lowG (g : Int) L = preS (fun j => sumG (j : Int) L) g
  | 0 => lowG_off h
  | g + 1 => by
    show lowG (g + 1 : Nat) L = preS (fun j => sumG (j : Int) L) g + sumG (g : Int) L
    rw [← lowG_pre h g]
    clear h
    induction L with
    | nil => rfl
    | cons x L ih =>
      rw [lowG_cons, lowG_cons, sumG_cons, ih]
      by_cases c1 : x.1 < (g : Int)
      · rw [if_pos c1, if_pos (by omega), if_neg (by omega)]; omega
      · by_cases c2 : x.1 = (g : Int)
        · rw [if_neg c1, if_pos (by omega), if_pos c2]; omega
        · rw [if_neg c1, if_neg (by omega), if_neg c2]; omega
theorem spendT_spendA {L : List Tk} (h : ∀ x ∈ L, 0 ≤ x.1) (hn : ∀ x ∈ L, 0 ≤ x.2.2) (hp : L.Pairwise (fun x y => x.1 ≤ y.1)) {r : Int} (hr : 0 ≤ r) (g : Nat) : sumG (g : Int) (spendT r L) = spendA (fun j => sumG (j : Int) L) r g := by
  rw [spendT_sum (g : Int) L r hr hn hp, lowG_pre h]
  have := sumG_nn (g := (g : Int)) hn
  show _ = sumG (g : Int) L - min (max 0 (r - preS (fun j => sumG (j : Int) L) g)) (sumG (g : Int) L)
  omega
theorem sumG_perm {g : Int} {L L' : List Tk} (h : L.Perm L') : sumG g L = sumG g L' := by
  induction h with
  | nil => rfl
  | cons x _ ih => rw [sumG_cons, sumG_cons, ih]
  | swap x y l => rw [sumG_cons, sumG_cons, sumG_cons, sumG_cons]; omega
  | trans _ _ h1 h2 => rw [h1, h2]
theorem sumG_app (g : Int) (L M : List Tk) : sumG g (L ++ M) = sumG g L + sumG g M := by
  unfold sumG
  rw [List.map_append, List.sum_append]
theorem sumG_keep (g : Int) : ∀ {L : List Tk}, (∀ x ∈ L, 0 ≤ x.2.2) → sumG g (L.filter fun x => decide (0 < x.2.2)) = sumG g L
  | [], _ => rfl
  | x :: L, h => by
    have hx := h x List.mem_cons_self
    have ih := sumG_keep g (L := L) fun y hy => h y (List.mem_cons_of_mem _ hy)
    by_cases c : 0 < x.2.2
    · rw [List.filter_cons, if_pos (decide_eq_true c), sumG_cons, sumG_cons, ih]
    · rw [List.filter_cons, if_neg (by rw [decide_eq_true_iff]; exact c), sumG_cons, ih]
      split <;> omega
def restT : Int → List Tk → Nat → Int
  | r, _, 0 => r
  | r, [], _ + 1 => r
  | r, x :: L, j + 1 => restT (r - min r x.2.2) L j
theorem spendT_len : ∀ (L : List Tk) (r : Int), (spendT r L).length = L.length
  | [], _ => rfl
  | x :: L, r => by
    show (spendT (r - min r x.2.2) L).length + 1 = L.length + 1
    rw [spendT_len L]
theorem spendT_get : ∀ (L : List Tk) (r : Int) (j : Nat) (x : Tk), L[j]? = some x → (spendT r L)[j]? = some (x.1, x.2.1, x.2.2 - min (restT r L j) x.2.2) ∧ restT r L (j + 1) = restT r L j - min (restT r L j) x.2.2
  | [], _, _, _, h => by simp at h
  | y :: L, r, 0, x, h => by
    simp at h
    subst h
    refine ⟨rfl, ?_⟩
    cases L <;> rfl
  | y :: L, r, j + 1, x, h => by
    have h' : L[j]? = some x := by simpa using h
    obtain ⟨h1, h2⟩ := spendT_get L (r - min r y.2.2) j x h'
    exact ⟨h1, h2⟩
theorem spendT_nn : ∀ (L : List Tk) (r : Int), (∀ x ∈ L, 0 ≤ x.2.2) → ∀ x ∈ spendT r L, 0 ≤ x.2.2
  | [], _, _, x, hx => by cases hx
  | y :: L, r, h, x, hx => by
    rcases List.mem_cons.mp hx with z | z
    · subst z
      show 0 ≤ y.2.2 - min r y.2.2
      omega
    · exact spendT_nn L _ (fun u hu => h u (List.mem_cons_of_mem _ hu)) x z
theorem sumG_take (g : Int) {L : List Tk} {j : Nat} {x : Tk} (h : L[j]? = some x) : sumG g (L.take (j + 1)) = sumG g (L.take j) + if x.1 = g then x.2.2 else 0 := by
  rw [List.take_add_one, h, sumG_app]
  congr 1
  show sumG g [x] = _
  rw [sumG_cons]
  show _ + 0 = _
  omega
theorem sumG_mem {g : Int} : ∀ {L : List Tk} {x : Tk}, (∀ x ∈ L, 0 ≤ x.2.2) → x ∈ L → x.1 = g → x.2.2 ≤ sumG g L
  | [], _, _, h, _ => by cases h
  | y :: L, x, hn, h, e => by
    rw [sumG_cons]
    have hy := hn y List.mem_cons_self
    have hs := sumG_nn (g := g) (L := L) fun u hu => hn u (List.mem_cons_of_mem _ hu)
    rcases List.mem_cons.mp h with z | z
    · subst z
      rw [if_pos e]
      omega
    · have := sumG_mem (fun u hu => hn u (List.mem_cons_of_mem _ hu)) z e
      split <;> omega
theorem sumG_ex {g : Int} : ∀ {L : List Tk}, 0 < sumG g L → ∃ x ∈ L, x.1 = g
  | [], h => absurd h (Int.lt_irrefl 0)
  | y :: L, h => by
    rw [sumG_cons] at h
    by_cases c : y.1 = g
    · exact ⟨y, List.mem_cons_self, c⟩
    · rw [if_neg c] at h
      obtain ⟨x, hx, e⟩ := sumG_ex (g := g) (L := L) (by omega)
      exact ⟨x, List.mem_cons_of_mem _ hx, e⟩
end Silt
set_option Elab.async false
set_option linter.all false
set_option maxRecDepth 100000
set_option maxHeartbeats 4000000
namespace L2
open PySem PySem.Spec PyProof.Rows
section
variable {X : Cx} {CX : CXT} {k j : Nat} {f C : Addr} {fd : FuncData} {ps : List Str} {sp : Sp} {dvs : List V} {ds : List Value} {E : XK} {pos : Pos} {a b : Expr} {ta tb : TE}
/-- the callee runs one level within a built-in's body -/
theorem run_fn1 {pins : List (Addr × Obj)} {σ : St} {H : Hp} {s : Shared} {Q : VK} {us : List Value} {vs : List V} (F : FnOk X.prog X.w X.K X.mg X.base CX k f fd ps sp) (hr : Room (k + 1) X.A) (hb : Binds X.K fd ps ds) (hd : Vals dvs ds) (hx : Passes CX X E)
    (I : Inv X pins σ H s) (r : Vals vs us) (h : sp (vs ++ dvs) H Q E) : wpAny (model X.prog X.w) X.A.in1 (call (.ref f) us) (EP X pins σ Q) X.xe s := by
  have r2 : Vals (vs ++ dvs) (us ++ ds) := r.append hd
  have hl : (us ++ ds).length = ps.length := by rw [← r2.length]; exact F.len _ _ _ _ h
  refine wpAny_call (codeAny_mono (F.run X.A.in1 X.stack s H ⟨us, []⟩ (us ++ ds) (vs ++ dvs) Q E hr.in1 I.env0.in1 (hb s us I.kIn hl) r2 h) fun r s' hq => ?_)
  cases r with
  | error e => exact hx pins σ H s e s' I hq
  | ok fl =>
    cases fl with
    | ret u => exact I.after hq
    | next => exact False.elim hq
    | brk => exact False.elim hq
    | cont => exact False.elim hq
/-- o[i] of an own class with its own __getitem__ -/
def rOwnI (C : Addr) (sp : Sp) (dvs : List V) : R2 := fun x y H Q => ∃ a dx fs, x = .ref a ∧ H a = some (.ins C dx fs) ∧ sp (x :: ([y] ++ dvs)) H Q C8.E0
theorem pe_ixO (c : C8.Met X.prog X.w X.K X.mg X.base k C "__getitem__" sp dvs) (hr : Room j X.A) (hk : k + 1 ≤ j) (ha : PE X a ta) (hb : PE X b tb) (hfn : ∀ f, PySem.W.findIn X.K (.ref C) "__getitem__" = some (some (.ref f)) → PySem.W.fnIn X.K f = true)
    (hs : ∀ o i, subscripted b true o i = runValue (.builtin "lifetime.subscript" ⟨[o, i], []⟩) := by intro _ _; first | rfl | with_unfolding_all rfl) :
    PE X (.Subscript a b pos) (tOp (rOwnI C sp dvs) ta tb) := by
  obtain ⟨f, fd, ps, ds, cl, hm, F, bd, d⟩ := c.ex
  refine ⟨fun pins s σ H Q I h => ?_⟩
  refine Subscript_ (binT ha hb I h fun v u s2 x y H2 I2 rx ry q => ?_)
  obtain ⟨p, dx, fs, rfl, e, q⟩ := q
  obtain rfl : v = Value.ref p := rx
  obtain ⟨mA, O, _, _, _, _⟩ := ins_get I2.hok e
  obtain ⟨od, J, _⟩ := O.look
  obtain ⟨m, F0⟩ := I2.fr
  refine PySem.W.sub_K F0 I2.ok.mod.kin J hm.at_ (hfn _ hm.at_) hm.fn ?_ (hs _ _)
  exact run_fn1 (us := [.ref p, u]) (vs := [.ref p, y]) F (hr.mono hk) bd d C8.pass0 I2 (.cons rfl (.cons ry .nil)) q

/-! ### names as slots -/
theorem pg_n (i : Nat) {x : Str} {pos : Pos} (hN : X.N.Nodup) (hi : X.N[i]? = some x := by rfl) (hx : Loc X.env.scope x := by first | exact .inl rfl | exact .inr rfl) (hf : X.fn x = true ∨ X.env.scope.names.lookup x = some .local := by first | exact .inl rfl | exact .inr rfl) : PG X (.Name x pos) (gName i) := pg_name hN hi hx hf
theorem ps_s (i : Nat) {x : Str} {e : Expr} {te : TE} {pos' : Pos} (hN : X.N.Nodup) (he : PE X e te) (hi : X.N[i]? = some x := by rfl) (hx : Loc X.env.scope x := by first | exact .inl rfl | exact .inr rfl) (hs : swapsWith e (some (.Name x pos')) pos.line X.env = pure false := by rfl) (hf : X.fn x = true ∨ X.env.scope.names.lookup x = some .local := by first | exact .inl rfl | exact .inr rfl) :
    PS X (.Assign [.Name x pos'] e pos) (tAsg te (gName i)) := ps_set hN hi hx he hs hf
theorem ps_au (i : Nat) {x : Str} {e : Expr} {te : TE} {op : Operator} {ti : TIp} {pos' : Pos} (hN : X.N.Nodup) (he : PE X e te) (ho : PIp X op ti) (hi : X.N[i]? = some x := by rfl) (hx : Loc X.env.scope x := by first | exact .inl rfl | exact .inr rfl) (hf : X.fn x = true ∨ X.env.scope.names.lookup x = some .local := by first | exact .inl rfl | exact .inr rfl) :
    PS X (.AugAssign (.Name x pos') op e pos) (tAug i te ti) := ps_aug hN hi hx he ho hf
/-! ### a drawing list: item 0 is the script, item 1 some int (which one is not told) -/
def DrawO (a sc : Addr) : HO := .ext fun h => ∃ (i : Int) (t : Tok) (n : Nat), h.get? a = some { cls := .type "list", data := .seq #[.ref sc, .int i t] n }
theorem drawO_new {P : Program} {w : World} {H : Hp} {h : Heap} {a sc : Addr} {i : Int} {t : Tok} {n : Nat} (e : h.get? a = some { cls := .type "list", data := .seq #[.ref sc, .int i t] n }) : ObjOk P w H h a (DrawO a sc) :=
  ⟨⟨i, t, n, e⟩, ⟨_, e⟩, fun h1 h2 ⟨i, t, n, e⟩ k => ⟨i, t, n, k _ e⟩⟩
/-- [script, 0] -/
def tDraw (t : TA) : TE := fun σ H Q => t σ H fun xs H1 => ∃ sc i, xs = [.ref sc, .int i] ∧ ∀ p, H1 p = none → Q (.ref p) (upd H1 p (DrawO p sc))
theorem pe_draw {es : List Expr} {t : TA} (h : PA X es t) : PE X (.List es pos) (tDraw t) := by
  refine ⟨fun pins s σ H Q I hq => ?_⟩
  refine wpAny_List_spliced (thn (h.run pos pins s σ H _ I hq) fun us s1 ⟨xs, H1, I1, r, sc, i, e, q⟩ => ?_)
  subst e
  obtain ⟨u1, u2, rfl, r1, r2⟩ := vals2 r
  obtain rfl : u1 = Value.ref sc := r1
  obtain ⟨t, rfl⟩ := r2
  refine ⟨by show 2 ≤ sizeLine; decide, ?_⟩
  have hf : H1 s1.heap.objs.size = none := I1.hok.fresh (Nat.le_refl _)
  refine ⟨.ref s1.heap.objs.size, upd H1 s1.heap.objs.size (DrawO s1.heap.objs.size sc), I1.laid (t' := s1.toks) (fun b u e => Heap.get?_push_of_some _ e) (Nat.le_refl _) ?_, rfl, q _ hf⟩
  exact drawO_new (i := i) (t := t) (n := 0) (Heap.get?_push_size _ rfl)
theorem draw_get {pins : List (Addr × Obj)} {σ : St} {H : Hp} {s : Shared} {a sc : Addr} (I : Inv X pins σ H s) (e : H a = some (DrawO a sc)) : ∃ (i : Int) (t : Tok) (n : Nat), s.heap.get? a = some { cls := .type "list", data := .seq #[.ref sc, .int i t] n } := (I.hok a _ e).1
def rDraw0 : R2 := fun x y H Q => ∃ a sc, x = .ref a ∧ y = .int 0 ∧ H a = some (DrawO a sc) ∧ Q (.ref sc) H
def rDraw1 : R2 := fun x y H Q => ∃ a sc, x = .ref a ∧ y = .int 1 ∧ H a = some (DrawO a sc) ∧ ∀ i : Int, Q (.int i) H
theorem ix_draw0 : IxR X rDraw0 := by
  intro value slice pins s σ H x y v u Q I rx ry h hs
  obtain ⟨a, sc, rfl, rfl, e, q⟩ := h
  cases rx
  obtain ⟨t, rfl⟩ := ry
  obtain ⟨i, ti, n, ho⟩ := draw_get I e
  exact item_listR (items := #[.ref sc, .int i ti]) (x := .ref sc) ⟨_, ho, rfl, n, rfl⟩ (by decide) (by decide) (by rfl) ⟨.ref sc, H, I, rfl, q⟩ hs
theorem ix_draw1 : IxR X rDraw1 := by
  intro value slice pins s σ H x y v u Q I rx ry h hs
  obtain ⟨a, sc, rfl, rfl, e, q⟩ := h
  cases rx
  obtain ⟨t, rfl⟩ := ry
  obtain ⟨i, ti, n, ho⟩ := draw_get I e
  exact item_listR (items := #[.ref sc, .int i ti]) (x := .int i ti) ⟨_, ho, rfl, n, rfl⟩ (by decide) (by decide) (by rfl) ⟨.int i, H, I, ⟨ti, rfl⟩, q i⟩ hs
theorem get_draw1 : PGet X rDraw1 := by
  intro pins s σ H x y v u Q I rx ry h
  obtain ⟨a, sc, rfl, rfl, e, q⟩ := h
  cases rx
  obtain ⟨t, rfl⟩ := ry
  obtain ⟨i, ti, n, ho⟩ := draw_get I e
  exact wpAny_getItem_list (items := #[.ref sc, .int i ti]) (x := .int i ti) ⟨_, ho, rfl, n, rfl⟩ (by decide) (by decide) (by rfl) ⟨.int i, H, I, ⟨ti, rfl⟩, q i⟩
def sDraw1 : TSet := fun o i v H Q => ∃ (a sc : Addr) (j : Int), o = .ref a ∧ i = .int 1 ∧ v = .int j ∧ H a = some (DrawO a sc) ∧ Q H
theorem upd_self {H : Hp} {a : Addr} {o : HO} (e : H a = some o) : upd H a o = H := by
  funext b
  unfold upd
  by_cases h : b = a
  · rw [if_pos h, h, e]
  · rw [if_neg h]
theorem set_draw1 : PSet X sDraw1 := by
  intro pins s σ H o i v ov iv u Q I ro ri rv h
  obtain ⟨a, sc, j, rfl, rfl, rfl, e, q⟩ := h
  cases ro
  obtain ⟨t, rfl⟩ := ri
  obtain ⟨t2, rfl⟩ := rv
  obtain ⟨i0, ti, n, ho⟩ := draw_get I e
  have hm : Obj.mapSeq (·.setIfInBounds 1 (.int j t2)) { cls := .type "list", data := .seq #[.ref sc, .int i0 ti] n } = { cls := .type "list", data := .seq #[.ref sc, .int j t2] n } := by rfl
  have g1 : (s.heap.update a (Obj.mapSeq (·.setIfInBounds 1 (.int j t2)))).get? a = some { cls := .type "list", data := .seq #[.ref sc, .int j t2] n } := by
    rw [Heap.get?_update_self _ ho (by rw [hm]; rfl), hm]
  have I' := I.write (x := a) (e := a) (o := DrawO a sc) (h' := s.heap.update a (Obj.mapSeq (·.setIfInBounds 1 (.int j t2)))) (t' := s.toks) (by rw [e]; exact True.intro) (.inl rfl)
    (fun b u hb z => by rw [Heap.get?_update_ne _ _ _ _ hb]; exact z) ⟨_, g1⟩ (drawO_new g1)
  rw [upd_self e] at I'
  exact PySem.W.ki_setAt (items := #[.ref sc, .int i0 ti]) ho (by decide) (by decide) (by show (1 : Int) < 2; decide) ⟨H, I', q⟩
end
end L2
set_option Elab.async false
set_option linter.all false
set_option maxRecDepth 100000
set_option maxHeartbeats 4000000
namespace L2
open PySem PySem.Spec PyProof.Rows
section
variable {X : Cx} {a b c d : Expr} {ta tb tc td : TE} {pos : Pos}
/-- a op1 b op2 c op3 d -/
def tChain3 (r r' r'' : R2) (ta tb tc td : TE) : TE := fun σ H Q => ta σ H fun x H1 => tb σ H1 fun y H2 => r x y H2 fun z H3 => ∃ k, z = .bl k ∧
  (if k = true then tc σ H3 fun w' H4 => r' y w' H4 fun z' H5 => ∃ k', z' = .bl k' ∧ (if k' = true then td σ H5 fun v' H6 => r'' w' v' H6 Q else Q (.bl false) H5) else Q (.bl false) H3)
theorem pe_chain3 {op op' op'' : CmpOp} {r r' r'' : R2} (ho : OpR X (compareOp op) r) (ho' : OpR X (compareOp op') r') (ho'' : OpR X (compareOp op'') r'') (ha : PE X a ta) (hb : PE X b tb) (hc : PE X c tc) (hd : PE X d td)
    (hm : lastMarks [op, op', op''] [b, c, d] = false := by with_unfolding_all rfl) : PE X (.Compare a [op, op', op''] [b, c, d] pos) (tChain3 r r' r'' ta tb tc td) := by
  refine ⟨fun pins s σ H Q I h => ?_⟩
  refine Compare_chain (thn (ha.run pins s σ H _ I h) fun v s1 ⟨x, H1, I1, r1, q1⟩ => chain_link (thn (hb.run pins s1 σ H1 _ I1 q1) fun u s2 ⟨y, H2, I2, r2, q2⟩ =>
    thn (ho pins s2 σ H2 x y v u _ I2 r1 r2 q2) fun d s3 ⟨z, H3, I3, r3, k, e, q3⟩ => ?_)) hm
  subst e
  cases r3
  refine wpAny_truthy_bool ?_
  cases k with
  | false => exact ite_ff ⟨.bl false, H3, I3, rfl, q3⟩
  | true =>
    refine ite_tt (chain_link (thn (hc.run pins s3 σ H3 _ I3 q3) fun w' s4 ⟨z', H4, I4, r4, q4⟩ => thn (ho' pins s4 σ H4 y z' u w' _ I4 r2 r4 q4) fun d s5 ⟨z5, H5, I5, r5, k5, e5, q5⟩ => ?_))
    subst e5
    cases r5
    refine wpAny_truthy_bool ?_
    cases k5 with
    | false => exact ite_ff ⟨.bl false, H5, I5, rfl, q5⟩
    | true => exact ite_tt (chain_last (thn (hd.run pins s5 σ H5 _ I5 q5) fun w6 s6 ⟨z6, H6, I6, r6, q6⟩ => ho'' pins s6 σ H6 z' z6 w' w6 Q I6 r4 r6 q6))
/-- o.f as a target -/
def gFld (K : PySem.W.Frag) (to : TE) (f : Str) : TG := fun v σ H Q => to σ H fun x H1 => ∃ a C dx fs, x = .ref a ∧ H1 a = some (.ins C dx fs) ∧ Cls K C ∧ NoAttr K C f ∧ fs.length < 1000 ∧ Q σ (upd H1 a (.ins C dx (putF f v fs)))
theorem pg_attr {o : Expr} {f : Str} {to : TE} (ho : PE X o to)
    (ha : ∀ v, assign (.Attribute o f pos) X.env v = (do
      let ov ← holding [v] (eval o X.env)
      standAt pos.atName
      holding [v, ov] (setAttr ov f v)
      release [v, ov] []) := by intro _; rfl) : PG X (.Attribute o f pos) (gFld X.K to f) := by
  refine ⟨fun pins s σ H v u Q I r h => ?_⟩
  rw [ha]
  refine wpAny_bind (wpAny_holding (thn (ho.run pins s σ H _ I h) fun ov s1 ⟨x, H1, I1, r1, p, C, dx, fs, ex, e, c, n, hl, q1⟩ => ?_))
  subst ex
  obtain rfl : ov = Value.ref p := r1
  refine wpAny_bind (wpAny_standAt (wpAny_bind (wpAny_holding (setattr_ok I1 e c n hl r fun s2 I2 => ?_))))
  exact wpAny_release ⟨σ, _, I2, q1⟩
/-! ### tuple * 1 is the tuple itself -/
theorem tuple_mul1 (l : Addr) (items : Array Value) (n : Nat) (dd : Option Addr) (sl : Array (Option Value)) (u : Tok) :
    Meets (Builtin.«tuple.__mul__» ⟨[.ref l, .int 1 u], []⟩) (fun _ R s => s.heap.get? l = some { cls := .type "tuple", dict := dd, data := .seq items n, slots := sl } ∧
      R (.ok (.ret (Value.ref l))) s) :=
  .of_wp fun prog w A R s h => by
    obtain ⟨hp, g, d, tk, os⟩ := s
    obtain ⟨hl, h⟩ := h
    have f1 := AutoSeq1.idx_int
    have c1 : (items.isEmpty || (1 : Int) == 1) = true := by simp
    wp_walk using wpAny_loadPart' hl
    exact ⟨_, rfl, h⟩
def rRepT1 (K : PySem.W.Frag) : R2 := fun x y H Q => ∃ l xs, x = .ref l ∧ y = .int 1 ∧ SqT K H l xs ∧ Q (.ref l) H
theorem op_repT1 : OpR X (binaryOp .Mult) (rRepT1 X.K) := by
  intro pins s σ H x y v u Q I rx ry h
  obtain ⟨l, xs, rfl, rfl, hT, q⟩ := h
  cases rx
  obtain ⟨t, rfl⟩ := ry
  obtain ⟨its, r, ⟨⟨cls, dd, data, sl⟩, ho, hc, n, hd⟩, hs⟩ := I.tuple hT
  simp only at hc hd
  subst hc hd
  exact wpAny_binaryOp_repeat_ref (T := "tuple") (U := "int") (by decide) ⟨_, ho, rfl⟩ (fun s' => typeIs_int s' 1 t) noFill_tuple_mul F.fills_int_mul F.slot_int_rmul repeat_tuple F.slot_int_index.lookup
    (call_meets F.slot_int_rmul (typeIs_int s 1 t) F.entry_int_rmul (F.args_int_rmul_2 _ _) (int_rmul_tuple 1 t l its.toArray n dd sl)
      ⟨ho, rfl, ⟨_, ho, rfl⟩, call_meets F.slot_tuple_mul ⟨_, ho, rfl⟩ F.entry_tuple_mul (F.args_tuple_mul_2 _ _) (tuple_mul1 l its.toArray n dd sl t) ⟨ho, ⟨.ref l, H, I, rfl, q⟩⟩⟩)
def rOr (r r' : R2) : R2 := fun x y H Q => r x y H Q ∨ r' x y H Q
theorem opR_or {f : Value → Value → Sem Value} {r r' : R2} (h : OpR X f r) (h' : OpR X f r') : OpR X f (rOr r r') := by
  intro pins s σ H x y v u Q I rx ry q
  rcases q with q | q
  · exact h pins s σ H x y v u Q I rx ry q
  · exact h' pins s σ H x y v u Q I rx ry q
theorem op_repTA : OpR X (binaryOp .Mult) (rOr (rRepT1 X.K) (rRepT X.K)) := opR_or op_repT1 op_repT
/-- x is None, x is not None -/
def rIsNn : R2 := fun x y H Q => y = .non ∧ Q (.bl (decide (x = .non))) H
def rNotNn : R2 := fun x y H Q => y = .non ∧ Q (.bl (!decide (x = .non))) H
theorem op_isNn : OpR X (compareOp .Is) rIsNn := op_isN
theorem op_notNn : OpR X (compareOp .IsNot) rNotNn := op_notN
/-! ### within a comprehension the frag must be told by its name -/
theorem ixK (R : PySem.W.Frag → R2) (K : PySem.W.Frag) (h : IxR X (R X.K)) (e : X.K = K := by rfl) : IxR X (R K) := e ▸ h
theorem opK {f : Value → Value → Sem Value} (R : PySem.W.Frag → R2) (K : PySem.W.Frag) (h : OpR X f (R X.K)) (e : X.K = K := by rfl) : OpR X f (R K) := e ▸ h
theorem callK {f : Value} (R : PySem.W.Frag → List V → Hp → VK → Prop) (K : PySem.W.Frag) (h : CallR X f (R X.K)) (e : X.K = K := by rfl) : CallR X f (R K) := e ▸ h
theorem pe_fldK {f : Str} (K : PySem.W.Frag) (h : PE X (.Attribute a f pos) (tFld X.K ta f)) (e : X.K = K := by rfl) : PE X (.Attribute a f pos) (tFld K ta f) := e ▸ h
end
end L2
set_option Elab.async false
set_option linter.all false
set_option maxRecDepth 100000
set_option maxHeartbeats 4000000
set_option exponentiation.threshold 9000
namespace Sl
open PySem L2 C8 StX
/-! ### great numbers -/
def BBn : Nat := 2 ^ 8900
theorem bbn_pos : 1000000 ≤ BBn := by
  unfold BBn
  have e : (2 : Nat) ^ 8900 = 2 ^ 20 * 2 ^ 8880 := (Nat.pow_add 2 20 8880)
  have : (1 : Nat) ≤ 2 ^ 8880 := Nat.pow_pos (by decide)
  rw [e]
  omega
theorem bbn_lt : BBn < 2 ^ 8901 := by
  unfold BBn
  exact Nat.pow_lt_pow_right (by decide) (by decide)
def BB : Int := (BBn : Nat)
theorem bb_nat {i : Int} (h0 : -BB ≤ i) (h : i ≤ BB) : i.natAbs < 2 ^ 8901 := by
  have := bbn_lt
  unfold BB at h0 h
  generalize (2 : Nat) ^ 8001 = b at *
  omega
theorem bb_pos : 1000000 ≤ BB := by have := bbn_pos; unfold BB; omega
def DDn : Nat := 2 ^ 2000
/-- days are below this -/
def DD : Int := (DDn : Nat)
theorem dd_pos : 1000000 ≤ DD := by
  have : 1000000 ≤ DDn := by
    unfold DDn
    have e : (2 : Nat) ^ 2000 = 2 ^ 20 * 2 ^ 1980 := (Nat.pow_add 2 20 1980)
    have : (1 : Nat) ≤ 2 ^ 1980 := Nat.pow_pos (by decide)
    rw [e]
    omega
  unfold DD; omega
theorem dd_bb : DD * 1000 ≤ BB := by
  have h : DDn * 1000 ≤ BBn := by
    unfold DDn BBn
    have e : (2 : Nat) ^ 8900 = 2 ^ 2000 * 2 ^ 6900 := (Nat.pow_add 2 2000 6900)
    have e2 : (2 : Nat) ^ 6900 = 2 ^ 10 * 2 ^ 6890 := (Nat.pow_add 2 10 6890)
    have : (1 : Nat) ≤ 2 ^ 6890 := Nat.pow_pos (by decide)
    rw [e]
    exact Nat.mul_le_mul_left _ (by omega)
  unfold DD BB
  omega
theorem cmulw {i j : Int} (h0 : -BB ≤ i) (h : i ≤ BB) (g0 : -BB ≤ j) (g : j ≤ BB) : CMulW i j := wide_mul (bb_nat h0 h) (bb_nat g0 g) (by decide) (by decide) (by decide)
theorem cdivw {i j : Int} (h0 : 0 < j) (h : j ≤ BB) : CDivW i j := wide_div h0 (bb_nat (by have := bb_pos; omega) h) (by decide) (by decide)
/-! ### heaps -/
theorem Same.new {H H' : Hp} {p : Addr} {o : HO} (e : Same H H') (h : H' p = none) : Same H (upd H' p o) := fun a u ha => by
  rw [upd_ne (ne_of_none (e a u ha) h)]
  exact e a u ha
theorem Same.mut {H H' : Hp} {p : Addr} {o : HO} (e : Same H H') (h : H p = none) : Same H (upd H' p o) := fun a u ha => by
  rw [upd_ne (ne_of_none ha h)]
  exact e a u ha
mutual
/-- a value that holds data, all of it tracked -/
inductive Dt (H : Hp) : V → PyData → Prop
  | non : Dt H .non .none
  | bl (b : Bool) : Dt H (.bl b) (.bool b)
  | int (i : Int) : Dt H (.int i) (.int i)
  | str (x : Str) : Dt H (.str x) (.str x)
  | lst {a : Addr} {xs : List V} {ds : List PyData} : H a = some (.lst xs) → DtAll H xs ds → Dt H (.ref a) (.list ds)
  | tup {a : Addr} {xs : List V} {ds : List PyData} : H a = some (.tup xs) → DtAll H xs ds → Dt H (.ref a) (.tuple ds)
inductive DtAll (H : Hp) : List V → List PyData → Prop
  | nil : DtAll H [] []
  | cons {v : V} {vs : List V} {d : PyData} {ds : List PyData} : Dt H v d → DtAll H vs ds → DtAll H (v :: vs) (d :: ds)
end
mutual
theorem Dt.mono {H H' : Hp} (s : Same H H') : ∀ {v : V} {d : PyData}, Dt H v d → Dt H' v d
  | _, _, .non => .non
  | _, _, .bl b => .bl b
  | _, _, .int i => .int i
  | _, _, .str x => .str x
  | _, _, .lst e h => .lst (s _ _ e) (DtAll.mono s h)
  | _, _, .tup e h => .tup (s _ _ e) (DtAll.mono s h)
theorem DtAll.mono {H H' : Hp} (s : Same H H') : ∀ {vs : List V} {ds : List PyData}, DtAll H vs ds → DtAll H' vs ds
  | _, _, .nil => .nil
  | _, _, .cons h t => .cons (Dt.mono s h) (DtAll.mono s t)
end
mutual
theorem Dt.dp {K : PySem.W.Frag} {H : Hp} : ∀ {v : V} {d : PyData}, Dt H v d → Dp K H v d
  | _, _, .non => .non
  | _, _, .bl b => .bl b
  | _, _, .int i => .int i
  | _, _, .str x => .str x
  | _, _, .lst e h => .lst (SqL.of e) (DtAll.dp h)
  | _, _, .tup e h => .tup (SqT.of e) (DtAll.dp h)
theorem DtAll.dp {K : PySem.W.Frag} {H : Hp} : ∀ {vs : List V} {ds : List PyData}, DtAll H vs ds → DpAll K H vs ds
  | _, _, .nil => .nil
  | _, _, .cons h t => .cons (Dt.dp h) (DtAll.dp t)
end
theorem DtAll.length {H : Hp} : ∀ {vs : List V} {ds : List PyData}, DtAll H vs ds → vs.length = ds.length
  | _, _, .nil => rfl
  | _, _, .cons _ t => by rw [List.length_cons, List.length_cons, DtAll.length t]
theorem DtAll.get {H : Hp} : ∀ {vs : List V} {ds : List PyData} {i : Nat} {d : PyData}, DtAll H vs ds → ds[i]? = some d → ∃ v, vs[i]? = some v ∧ Dt H v d
  | _, _, _, _, .nil, h => by simp at h
  | _, _, 0, _, .cons h _, e => by simp at e; subst e; exact ⟨_, rfl, h⟩
  | _, _, i + 1, _, .cons _ t, e => by
    obtain ⟨v, h1, h2⟩ := DtAll.get (i := i) t (by simpa using e)
    exact ⟨v, by simpa using h1, h2⟩
theorem DtAll.getV {H : Hp} : ∀ {vs : List V} {ds : List PyData} {i : Nat} {v : V}, DtAll H vs ds → vs[i]? = some v → ∃ d, ds[i]? = some d ∧ Dt H v d
  | _, _, _, _, .nil, h => by simp at h
  | _, _, 0, _, .cons h _, e => by simp at e; subst e; exact ⟨_, rfl, h⟩
  | _, _, i + 1, _, .cons _ t, e => by
    obtain ⟨v, h1, h2⟩ := DtAll.getV (i := i) t (by simpa using e)
    exact ⟨v, by simpa using h1, h2⟩
theorem DtAll.append {H : Hp} : ∀ {vs ws : List V} {ds es : List PyData}, DtAll H vs ds → DtAll H ws es → DtAll H (vs ++ ws) (ds ++ es)
  | _, _, _, _, .nil, s => s
  | _, _, _, _, .cons h t, s => .cons h (DtAll.append t s)
theorem DtAll.take {H : Hp} : ∀ {vs : List V} {ds : List PyData} (n : Nat), DtAll H vs ds → DtAll H (vs.take n) (ds.take n)
  | _, _, 0, _ => .nil
  | _, _, _ + 1, .nil => .nil
  | _, _, n + 1, .cons h t => .cons h (DtAll.take n t)
theorem DtAll.drop {H : Hp} : ∀ {vs : List V} {ds : List PyData} (n : Nat), DtAll H vs ds → DtAll H (vs.drop n) (ds.drop n)
  | _, _, 0, r => r
  | _, _, _ + 1, .nil => .nil
  | _, _, n + 1, .cons _ t => DtAll.drop n t
/-- ints -/
def intsD (ns : List Int) : List PyData := ns.map PyData.int
theorem DtAll.intsD {H : Hp} : ∀ (ns : List Int), DtAll H (ns.map V.int) (intsD ns)
  | [] => .nil
  | n :: ns => .cons (.int n) (DtAll.intsD ns)
theorem DtAll.intsD_inv {H : Hp} : ∀ {ns : List Int} {vs : List V}, DtAll H vs (Sl.intsD ns) → vs = ns.map V.int
  | [], _, .nil => rfl
  | n :: ns, _, .cons (.int _) t => by rw [DtAll.intsD_inv t]; rfl
/-! ### readings by names -/
def rNewL (Q : VK) (xs : List V) (H1 : Hp) : Prop := xs.length ≤ sizeLine ∧ ∀ p, H1 p = none → Q (.ref p) (upd H1 p (.lst xs))
def rNewT (Q : VK) (xs : List V) (H1 : Hp) : Prop := xs.length ≤ sizeLine ∧ ∀ p, H1 p = none → Q (.ref p) (upd H1 p (.tup xs))
def rMax2 : List V → Hp → VK → Prop := fun xs H Q => ∃ i j, xs = [.int i, .int j] ∧ Q (.int (if j > i then j else i)) H
def rMin2 : List V → Hp → VK → Prop := fun xs H Q => ∃ i j, xs = [.int i, .int j] ∧ Q (.int (if j < i then j else i)) H
def rAbs : List V → Hp → VK → Prop := fun xs H Q => ∃ i, xs = [.int i] ∧ Q (.int (if i < 0 then -i else i)) H
def rInt1 : List V → Hp → VK → Prop := fun xs H Q => (∃ i, xs = [.int i] ∧ Q (.int i) H) ∨ ∃ k, xs = [.bl k] ∧ Q (.int (if k then 1 else 0)) H
def rLenS (K : PySem.W.Frag) : List V → Hp → VK → Prop := fun xs H Q => ∃ p ys, xs = [.ref p] ∧ (SqL K H p ys ∨ SqT K H p ys) ∧ Q (.int ys.length) H
def rIsC (C : Addr) : List V → Hp → VK → Prop := fun xs H Q => ∃ a dx fs, xs = [.ref a, .ref C] ∧ H a = some (.ins C dx fs) ∧ Q (.bl true) H
def rTupOf (K : PySem.W.Frag) : List V → Hp → VK → Prop := fun xs H Q => ∃ p ys, xs = [.ref p] ∧ ((SqL K H p ys ∧ ∀ l, H l = none → Q (.ref l) (upd H l (.tup ys))) ∨ (SqT K H p ys ∧ Q (.ref p) H))
def rLstOf (K : PySem.W.Frag) : List V → Hp → VK → Prop := fun xs H Q => ∃ p ys, xs = [.ref p] ∧ (SqL K H p ys ∨ SqT K H p ys) ∧ ∀ l, H l = none → Q (.ref l) (upd H l (.lst ys))
def rFld (K : PySem.W.Frag) (f : Str) : V → Hp → VK → Prop := fun x H1 Q => ∃ a C dx fs v, x = .ref a ∧ H1 a = some (.ins C dx fs) ∧ Cls K C ∧ NoAttr K C f ∧ fs.lookup f = some v ∧ Q v H1
section
variable {X : Cx}
theorem cr_max2 (hc : X.calm = true) : CallR X (.builtin "max") rMax2 := call_max2 hc
theorem cr_min2 (hc : X.calm = true) : CallR X (.builtin "min") rMin2 := call_min2 hc
theorem cr_abs : CallR X (.builtin "abs") rAbs := call_abs
theorem cr_int1 : CallR X (.type "int") rInt1 := call_int1
theorem cr_lenS : CallR X (.builtin "len") (rLenS X.K) := call_len_seq
theorem cr_isC {C : Addr} (c : InsC X.K C) : CallR X (.builtin "isinstance") (rIsC C) := call_isC c
theorem cr_tupOf : CallR X (.type "tuple") (rTupOf X.K) := call_tuple_of
theorem cr_lstOf : CallR X (.type "list") (rLstOf X.K) := call_list_of
end
/-! ### readings, backwards -/
section
variable {σ : L2.St} {H H' : Hp} {Q : VK} {E : XK} {te ta tb tc : TE} {t u : TS} {g : TG} {i : Nat} {v x y : V} {K : PySem.W.Frag} {nx bk ct : L2.St → Hp → Prop} {rt : VK} {QB : Bool → Hp → Prop} {QL : List V → Hp → Prop} {QS : L2.St → Hp → Prop}
theorem rd_seq (h : t ⟨u ⟨nx, rt, bk, ct⟩, rt, bk, ct⟩ σ H) : tSeq t u ⟨nx, rt, bk, ct⟩ σ H := h
theorem rd_asg (h : te σ H fun x H1 => nx (σ.set i (some x)) H1) : tAsg te (gName i) ⟨nx, rt, bk, ct⟩ σ H := h
theorem rd_asgG (h : te σ H fun x H1 => g x σ H1 nx) : tAsg te g ⟨nx, rt, bk, ct⟩ σ H := h
theorem rd_drop (h : te σ H fun _ H1 => nx σ H1) : tDrop te ⟨nx, rt, bk, ct⟩ σ H := h
theorem rd_ret (h : te σ H rt) : tRet te ⟨nx, rt, bk, ct⟩ σ H := h
theorem rd_retN (h : rt .non H) : tRetN ⟨nx, rt, bk, ct⟩ σ H := h
theorem rd_next (h : nx σ H) : tNext ⟨nx, rt, bk, ct⟩ σ H := h
theorem rd_break (h : bk σ H) : tBreak ⟨nx, rt, bk, ct⟩ σ H := h
theorem rd_cont (h : ct σ H) : tCont ⟨nx, rt, bk, ct⟩ σ H := h
theorem rd_ifS {c : TT} (h : c σ H fun b H1 => if b = true then t ⟨nx, rt, bk, ct⟩ σ H1 else u ⟨nx, rt, bk, ct⟩ σ H1) : tIfS c t u ⟨nx, rt, bk, ct⟩ σ H := h
theorem rd_par {j : Nat} {ta : TA} (h : ta σ H fun vs H1 => ∃ v w, vs = [v, w] ∧ nx ((σ.set i (some v)).set j (some w)) H1) : tPar i j ta ⟨nx, rt, bk, ct⟩ σ H := h
theorem rd_par2 {w : V} {R : V → V → Prop} (h : R v w) : ∃ v' w', [v, w] = [v', w'] ∧ R v' w' := ⟨v, w, rfl, h⟩
theorem rd_par3 {j l : Nat} {ta : TA} (h : ta σ H fun vs H1 => ∃ u v w, vs = [u, v, w] ∧ nx (((σ.set i (some u)).set j (some v)).set l (some w)) H1) : tPar3 i j l ta ⟨nx, rt, bk, ct⟩ σ H := h
theorem rd_par4 {u v w : V} {R : V → V → V → Prop} (h : R u v w) : ∃ u' v' w', [u, v, w] = [u', v', w'] ∧ R u' v' w' := ⟨u, v, w, rfl, h⟩
theorem rd_aug {ti : TIp} (e : σ[i]? = some (some x)) (h : te σ H fun y H1 => ti x y H1 fun z H2 => nx (σ.set i (some z)) H2) : tAug i te ti ⟨nx, rt, bk, ct⟩ σ H := ⟨x, e, h⟩
theorem rd_var (e : σ[i]? = some (some v)) (h : Q v H) : tVar i σ H Q := ⟨v, e, h⟩
theorem rd_var0 (h : ∃ v, σ[i]? = some (some v) ∧ Q v H) : tVar i σ H Q := h
theorem rd_aug0 {ti : TIp} (h : ∃ x, σ[i]? = some (some x) ∧ te σ H fun y H1 => ti x y H1 fun z H2 => nx (σ.set i (some z)) H2) : tAug i te ti ⟨nx, rt, bk, ct⟩ σ H := h
theorem rd_c (h : Q v H) : tC v σ H Q := h
theorem rd_op {r : R2} (h : ta σ H fun x H1 => tb σ H1 fun y H2 => r x y H2 Q) : tOp r ta tb σ H Q := h
theorem rd_un {r : V → Hp → VK → Prop} (h : ta σ H fun x H1 => r x H1 Q) : tUn r ta σ H Q := h
theorem rd_I0 {f : Int → Int → V} {a b : Int} (h : Q (f a b) H) : rI0 f (.int a) (.int b) H Q := ⟨a, b, rfl, rfl, h⟩
theorem rd_I {C : Int → Int → Prop} {f : Int → Int → V} {a b : Int} (c : C a b) (h : Q (f a b) H) : rI C f (.int a) (.int b) H Q := ⟨a, b, rfl, rfl, c, h⟩
theorem rd_U {f : Int → V} {a : Int} (h : Q (f a) H) : rU f (.int a) H Q := ⟨a, rfl, h⟩
theorem rd_ipI {f : Int → Int → Int} {a b : Int} (h : Q (.int (f a b)) H) : ipI f (.int a) (.int b) H Q := ⟨a, b, rfl, rfl, h⟩
theorem rd_eq (s : scal x y = true) (h : Q (.bl (decide (x = y))) H) : rEq x y H Q := ⟨s, h⟩
theorem rd_ne (s : scal x y = true) (h : Q (.bl (!decide (x = y))) H) : rNe x y H Q := ⟨s, h⟩
theorem rd_eqI {a b : Int} (h : Q (.bl (decide (a = b))) H) : rEq (.int a) (.int b) H Q := ⟨rfl, by
  have e : decide (V.int a = V.int b) = decide (a = b) := by
    by_cases c : a = b
    · rw [decide_eq_true c, decide_eq_true (by rw [c])]
    · rw [decide_eq_false c, decide_eq_false (by intro z; exact c (V.int.inj z))]
  rw [e]; exact h⟩
theorem rd_neI {a b : Int} (h : Q (.bl (!decide (a = b))) H) : rNe (.int a) (.int b) H Q := ⟨rfl, by
  have e : decide (V.int a = V.int b) = decide (a = b) := by
    by_cases c : a = b
    · rw [decide_eq_true c, decide_eq_true (by rw [c])]
    · rw [decide_eq_false c, decide_eq_false (by intro z; exact c (V.int.inj z))]
  rw [e]; exact h⟩
theorem rd_test (h : te σ H fun x H' => ∃ k, x = .bl k ∧ QB k H') : tTest te σ H QB := h
theorem rd_tB (h : te σ H fun x H' => ∃ k, x = .bl k ∧ QB k H') : tB te σ H QB := h
theorem rd_bl {b : Bool} {R : Bool → Prop} (h : R b) : ∃ k, V.bl b = .bl k ∧ R k := ⟨b, rfl, h⟩
theorem rd_not {c : TT} (h : c σ H fun b H1 => QB (!b) H1) : tNot c σ H QB := h
theorem rd_and {c d : TT} (h : c σ H fun b H1 => if b = true then d σ H1 QB else QB false H1) : tAnd c d σ H QB := h
theorem rd_or {c d : TT} (h : c σ H fun b H1 => if b = true then QB true H1 else d σ H1 QB) : tOr c d σ H QB := h
theorem rd_andV (h : ta σ H fun x H1 => ∃ c, x = .bl c ∧ if c = true then tb σ H1 Q else Q (.bl false) H1) : tAndV ta tb σ H Q := h
theorem rd_orV (h : ta σ H fun x H1 => ∃ c, x = .bl c ∧ if c = true then Q (.bl true) H1 else tb σ H1 Q) : tOrV ta tb σ H Q := h
theorem rd_notV (h : ta σ H fun x H1 => ∃ c, x = .bl c ∧ Q (.bl (!c)) H1) : tNotV ta σ H Q := h
theorem rd_ifE {c : TT} (h : c σ H fun b H1 => if b = true then ta σ H1 Q else tb σ H1 Q) : tIf c ta tb σ H Q := h
theorem rd_chain {r r' : R2} (h : ta σ H fun x H1 => tb σ H1 fun y H2 => r x y H2 fun z H3 => ∃ k, z = .bl k ∧ (if k = true then tc σ H3 fun w' H4 => r' y w' H4 Q else Q (.bl false) H3)) : tChain r r' ta tb tc σ H Q := h
theorem rd_chain3 {r r' r'' : R2} {td : TE} (h : ta σ H fun x H1 => tb σ H1 fun y H2 => r x y H2 fun z H3 => ∃ k, z = .bl k ∧
  (if k = true then tc σ H3 fun w' H4 => r' y w' H4 fun z' H5 => ∃ k', z' = .bl k' ∧ (if k' = true then td σ H5 fun v' H6 => r'' w' v' H6 Q else Q (.bl false) H5) else Q (.bl false) H3)) : tChain3 r r' r'' ta tb tc td σ H Q := h
theorem rd_nil (h : QL [] H) : tNil σ H QL := h
theorem rd_cons {tr : TA} (h : ta σ H fun x H1 => tr σ H1 fun xs H2 => QL (x :: xs) H2) : tCons ta tr σ H QL := h
theorem rd_call {sp : Sp} {dvs : List V} {t : TA} (h : t σ H fun vs H1 => sp (vs ++ dvs) H1 Q E) : tCall sp dvs E t σ H Q := h
theorem rd_CB {r : List V → Hp → VK → Prop} {t : TA} (h : t σ H fun vs H1 => r vs H1 Q) : tCB r t σ H Q := h
theorem rd_gname {j : Nat} (h : QS (σ.set j (some v)) H) : gName j v σ H QS := h
theorem rd_gcons {tg : TG} {ug : TGs} {r : List V} (h : tg v σ H fun σ' H' => ug r σ' H' QS) : gCons tg ug (v :: r) σ H QS := ⟨v, r, rfl, h⟩
theorem rd_gnil (h : QS σ H) : gNil [] σ H QS := ⟨rfl, h⟩
theorem rd_gtup {n : Nat} {tg : TGs} {a : Addr} {xs : List V} (e : H a = some (.tup xs)) (l : xs.length = n) (h : tg xs σ H QS) : gTup K n tg (.ref a) σ H QS := ⟨a, xs, rfl, SqT.of e, l, h⟩
theorem rd_max {a b : Int} (h : Q (.int (max a b)) H) : rMax2 [.int a, .int b] H Q := ⟨a, b, rfl, by
  have e : (if b > a then b else a) = max a b := by split <;> omega
  rw [e]; exact h⟩
theorem rd_min {a b : Int} (h : Q (.int (min a b)) H) : rMin2 [.int a, .int b] H Q := ⟨a, b, rfl, by
  have e : (if b < a then b else a) = min a b := by split <;> omega
  rw [e]; exact h⟩
theorem rd_lenL {a : Addr} {xs : List V} (e : H a = some (.lst xs)) (h : Q (.int xs.length) H) : rLenS K [.ref a] H Q := ⟨a, xs, rfl, .inl (SqL.of e), h⟩
theorem rd_lenT {a : Addr} {xs : List V} (e : H a = some (.tup xs)) (h : Q (.int xs.length) H) : rLenS K [.ref a] H Q := ⟨a, xs, rfl, .inr (SqT.of e), h⟩
theorem rd_lenSq {a : Addr} {xs : List V} (e : SqL K H a xs) (h : Q (.int xs.length) H) : rLenS K [.ref a] H Q := ⟨a, xs, rfl, .inl e, h⟩
theorem rd_int1 {a : Int} (h : Q (.int a) H) : rInt1 [.int a] H Q := .inl ⟨a, rfl, h⟩
theorem rd_abs {a : Int} (h : Q (.int a.natAbs) H) : rAbs [.int a] H Q := ⟨a, rfl, by
  have e : (if a < 0 then -a else a) = (a.natAbs : Int) := by split <;> omega
  rw [e]; exact h⟩
theorem rd_isC {C a dx : Addr} {fs : List (Str × V)} (e : H a = some (.ins C dx fs)) (h : Q (.bl true) H) : rIsC C [.ref a, .ref C] H Q := ⟨a, dx, fs, rfl, e, h⟩
theorem rd_tupOfL {a : Addr} {xs : List V} (e : H a = some (.lst xs)) (h : ∀ p H', H p = none → Same H H' → H' p = some (.tup xs) → H' = upd H p (.tup xs) → Q (.ref p) H') : rTupOf K [.ref a] H Q :=
  ⟨a, xs, rfl, .inl ⟨SqL.of e, fun p hp => h p _ hp (Same.new (Same.refl H) hp) upd_same rfl⟩⟩
theorem rd_tupOfT {a : Addr} {xs : List V} (e : H a = some (.tup xs)) (h : Q (.ref a) H) : rTupOf K [.ref a] H Q := ⟨a, xs, rfl, .inr ⟨SqT.of e, h⟩⟩
theorem rd_fld0 {f : Str} (h : te σ H fun x H1 => rFld K f x H1 Q) : tFld K te f σ H Q := h
theorem rd_fld {a C dx : Addr} {fs : List (Str × V)} {f : Str} (e : H a = some (.ins C dx fs)) (c : Cls K C) (n : NoAttr K C f) (l : fs.lookup f = some v) (h : Q v H) : rFld K f (.ref a) H Q :=
  ⟨a, C, dx, fs, v, rfl, e, c, n, l, h⟩
theorem rd_sum {a : Addr} {ns : List Int} (e : SqL K H a (ns.map V.int)) (h : Q (.int ns.sum) H) : rSum K [.ref a] H Q := ⟨a, ns, rfl, e, h⟩
theorem rd_sl0 {r : V → Option Int → Option Int → Hp → VK → Prop} {tl th : TO} (h : te σ H fun x H1 => tl σ H1 fun l H2 => th σ H2 fun u H3 => r x l u H3 Q) : tSl r te tl th σ H Q := h
theorem rd_noP {QO : Option Int → Hp → Prop} (h : QO none H) : tNoPart σ H QO := h
theorem rd_part {QO : Option Int → Hp → Prop} (h : te σ H fun x H1 => ∃ i, x = .int i ∧ QO (some i) H1) : tPart te σ H QO := h
theorem rd_part2 {R : Int → Prop} {j : Int} (h : R j) : ∃ i, V.int j = .int i ∧ R i := ⟨j, rfl, h⟩
theorem rd_slL {a : Addr} {xs : List V} {lo hi : Option Int} (e : SqL K H a xs) (h : ∀ p H', H p = none → Same H H' → H' p = some (.lst (cutV xs lo hi)) → H' = upd H p (.lst (cutV xs lo hi)) → Q (.ref p) H') : rSlL K (.ref a) lo hi H Q :=
  ⟨a, xs, rfl, e, fun p hp => h p _ hp (Same.new (Same.refl H) hp) upd_same rfl⟩
theorem cut_whole {xs : List V} {lo hi : Option Int} (h : HT.sIx xs.length 0 lo = 0 ∧ HT.sIx xs.length xs.length hi = xs.length) : cutV xs lo hi = xs := by
  unfold cutV
  rw [h.1, h.2]
  simp
theorem rd_slA {a : Addr} {xs : List V} {lo hi : Option Int} (e : H a = some (.tup xs)) (h : ∀ p H', Same H H' → H' p = some (.tup (cutV xs lo hi)) → Q (.ref p) H') : rSlA K (.ref a) lo hi H Q :=
  ⟨a, xs, rfl, SqT.of e, fun c => h a H (Same.refl H) (by rw [cut_whole c]; exact e), fun _ p hp => h p _ (Same.new (Same.refl H) hp) upd_same⟩
theorem rd_cat {a b : Addr} {xs ys : List V} (e1 : H a = some (.lst xs)) (e2 : H b = some (.lst ys)) (l : xs.length + ys.length ≤ 100000) (h : ∀ p H', H p = none → Same H H' → H' p = some (.lst (xs ++ ys)) → H' = upd H p (.lst (xs ++ ys)) → Q (.ref p) H') : rCat (.ref a) (.ref b) H Q :=
  ⟨a, b, xs, ys, rfl, rfl, e1, e2, Nat.le_trans l (by decide), fun p hp => h p _ hp (Same.new (Same.refl H) hp) upd_same rfl⟩
theorem rd_eqD {d e : PyData} (h1 : Dt H x d) (h2 : Dt H y e) (s1 : SeqAt.shaped d = true) (s2 : SeqAt.shaped e = true) (h : Q (.bl (PyData.eqv d e)) H) : rEqD K x y H Q := ⟨d, e, h1.dp, h2.dp, s1, s2, h⟩
theorem rd_neD {d e : PyData} (h1 : Dt H x d) (h2 : Dt H y e) (s1 : SeqAt.shaped d = true) (s2 : SeqAt.shaped e = true) (h : Q (.bl (!PyData.eqv d e)) H) : rNeD K x y H Q := ⟨d, e, h1.dp, h2.dp, s1, s2, h⟩
theorem rd_ownI {C a dx : Addr} {fs : List (Str × V)} {sp : Sp} {dvs : List V} (e : H a = some (.ins C dx fs)) (h : sp (.ref a :: ([y] ++ dvs)) H Q C8.E0) : rOwnI C sp dvs (.ref a) y H Q := ⟨a, dx, fs, rfl, e, h⟩
theorem rd_meth0 {C : Addr} {m : Str} {sp : Sp} {dvs : List V} {t : TA} (h : ta σ H fun x H1 => ∃ a dx fs, x = .ref a ∧ H1 a = some (.ins C dx fs) ∧ fs.lookup m = none ∧ t σ H1 fun vs H2 => sp (x :: (vs ++ dvs)) H2 Q E) : tMeth C m sp dvs E ta t σ H Q := h
theorem rd_star {t : TA} (h : te σ H fun x H1 => ∃ p xs, x = V.ref p ∧ (SqT K H1 p xs ∨ SqL K H1 p xs) ∧ t σ H1 fun ys H2 => QL (xs ++ ys) H2) : tStar K te t σ H QL := h
theorem rd_ixL {a : Addr} {xs : List V} {j : Int} (e : H a = some (.lst xs)) (n : atI xs j = some v) (h : Q v H) : rIxL K (.ref a) (.int j) H Q := ⟨a, xs, j, v, rfl, rfl, SqL.of e, n, h⟩
theorem rd_ixT {a : Addr} {xs : List V} {j : Int} (e : H a = some (.tup xs)) (n : atI xs j = some v) (h : Q v H) : rIxT K (.ref a) (.int j) H Q := ⟨a, xs, j, v, rfl, rfl, SqT.of e, n, h⟩
theorem rd_lst {t : TA} (h : t σ H fun xs H1 => rNewL Q xs H1) : tLst t σ H Q := h
theorem rd_tup {t : TA} (h : t σ H fun xs H1 => rNewT Q xs H1) : tTup t σ H Q := h
/-- a new object: its heap by a name -/
theorem rd_newL {xs : List V} (l : xs.length ≤ 100000) (h : ∀ p H', H p = none → Same H H' → H' p = some (.lst xs) → H' = upd H p (.lst xs) → Q (.ref p) H') : rNewL Q xs H :=
  ⟨Nat.le_trans l (by decide), fun p hp => h p _ hp (Same.new (Same.refl H) hp) upd_same rfl⟩
theorem rd_newT {xs : List V} (l : xs.length ≤ 100000) (h : ∀ p H', H p = none → Same H H' → H' p = some (.tup xs) → H' = upd H p (.tup xs) → Q (.ref p) H') : rNewT Q xs H :=
  ⟨Nat.le_trans l (by decide), fun p hp => h p _ hp (Same.new (Same.refl H) hp) upd_same rfl⟩
theorem rd_app {a : Addr} {xs : List V} (e : H a = some (.lst xs)) (l : xs.length < 100000) (h : ∀ H', H' = upd H a (.lst (xs ++ [y])) → H' a = some (.lst (xs ++ [y])) → Q .non H') : rAppend (.ref a) [y] H Q :=
  ⟨a, xs, y, rfl, rfl, e, Nat.lt_trans l (by decide), h _ rfl upd_same⟩
theorem rd_bm {r : V → List V → Hp → VK → Prop} {t : TA} (h : ta σ H fun x H1 => tyV K "list" x H1 ∧ t σ H1 fun xs H2 => r x xs H2 Q) : tBM K "list" r ta t σ H Q := h
theorem rd_tyL {a : Addr} {xs : List V} {R : Prop} (e : H a = some (.lst xs)) (h : R) : tyV K "list" (.ref a) H ∧ R := ⟨.inl ⟨rfl, xs, SqL.of e⟩, h⟩
theorem rd_ite {p : Prop} [Decidable p] {A B : Prop} (h1 : p → A) (h2 : ¬ p → B) : if decide p = true then A else B := by
  by_cases c : p
  · rw [if_pos (decide_eq_true c)]; exact h1 c
  · rw [if_neg (by rw [decide_eq_false c]; exact Bool.false_ne_true)]; exact h2 c
theorem rd_iteT {p : Prop} [Decidable p] {A B : Prop} (c : p) (h1 : A) : if decide p = true then A else B := by rw [if_pos (decide_eq_true c)]; exact h1
theorem rd_iteF {p : Prop} [Decidable p] {A B : Prop} (c : ¬ p) (h1 : B) : if decide p = true then A else B := by rw [if_neg (by rw [decide_eq_false c]; exact Bool.false_ne_true)]; exact h1
theorem rd_iteN {p : Prop} [Decidable p] {A B : Prop} (h1 : ¬ p → A) (h2 : p → B) : if (!decide p) = true then A else B := by
  by_cases c : p
  · rw [if_neg (by rw [decide_eq_true c]; decide)]; exact h2 c
  · rw [if_pos (by rw [decide_eq_false c]; rfl)]; exact h1 c
theorem rd_iteNT {p : Prop} [Decidable p] {A B : Prop} (c : ¬ p) (h1 : A) : if (!decide p) = true then A else B := by rw [if_pos (by rw [decide_eq_false c]; rfl)]; exact h1
theorem rd_iteNF {p : Prop} [Decidable p] {A B : Prop} (c : p) (h1 : B) : if (!decide p) = true then A else B := by rw [if_neg (by rw [decide_eq_true c]; decide)]; exact h1
theorem rd_iteTT {A B : Prop} (h : A) : if true = true then A else B := by rw [if_pos rfl]; exact h
theorem rd_iteFF {A B : Prop} (h : B) : if false = true then A else B := by rw [if_neg Bool.false_ne_true]; exact h
theorem rd_iteNTT {A B : Prop} (h : B) : if (!true) = true then A else B := h
theorem rd_iteNFF {A B : Prop} (h : A) : if (!false) = true then A else B := h
end
end Sl
set_option Elab.async false
set_option linter.all false
set_option maxRecDepth 100000
set_option maxHeartbeats 4000000
namespace Sl
open PySem L2 C8 StX
def rMake (C : Addr) (sp : Sp) (dvs : List V) (E : XK) (Q : VK) (vs : List V) (H1 : Hp) : Prop := ∀ x dx, H1 x = none → H1 dx = none → dx ≠ x →
  sp (.ref x :: (vs ++ dvs)) (upd (upd H1 dx (.own x)) x (.ins C dx [])) (fun v H2 => v = .non ∧ Q (.ref x) H2) E
def rDrawN (Q : VK) (xs : List V) (H1 : Hp) : Prop := ∃ sc i, xs = [.ref sc, .int i] ∧ ∀ p, H1 p = none → Q (.ref p) (upd H1 p (DrawO p sc))
section
variable {σ : L2.St} {H H1 : Hp} {wi : TI} {g : TG} {tb : TS} {ta : TA} {te : TE} {tt : TT} {c : TT} {nx bk ct : L2.St → Hp → Prop} {rt : VK} {R : It → Hp → Prop} {K : PySem.W.Frag} {Q : VK} {vs : List Nat} {D : Ends}
def ForR (J : It) (g : TG) (tb : TS) (D : Ends) (σ : L2.St) (H1 : Hp) : Prop := ∃ W : Nat → Nat → L2.St → Hp → Prop, (∃ m, W 0 m σ H1) ∧ ∀ i m σ H, W i m σ H →
  (J.stop i H ∧ D.nx σ H) ∨ (J.go i H ∧ ∃ N : L2.St → Hp → Prop, (∀ σ' H', N σ' H' → ∃ m', m' < m ∧ W (i + 1) m' σ' H') ∧ ∀ x H', J.yld i H x H' → g x σ H' fun σ2 H2 => tb { D with nx := N, ct := N, bk := D.nx } σ2 H2)
theorem rd_for (h : wi σ H fun J H1 => ForR J g tb D σ H1) : tFor wi g tb D σ H := h
/-- n turns -/
theorem forR_gen (J : It) (n : Nat) (Pv : Nat → L2.St → Hp → Prop) (h0 : Pv 0 σ H) (hg : ∀ i σ H, i < n → Pv i σ H → J.go i H) (he : ∀ σ H, Pv n σ H → J.stop n H)
    (hs : ∀ i σ H x H', i < n → Pv i σ H → J.yld i H x H' → g x σ H' fun σ2 H2 => tb ⟨Pv (i + 1), rt, nx, Pv (i + 1)⟩ σ2 H2) (hd : ∀ σ H, Pv n σ H → nx σ H) : ForR J g tb ⟨nx, rt, bk, ct⟩ σ H := by
  refine ⟨fun i m σ H => m = n - i ∧ i ≤ n ∧ Pv i σ H, ⟨n, by simp, Nat.zero_le _, h0⟩, ?_⟩
  rintro i m σ H ⟨rfl, hi, p⟩
  by_cases hlt : i < n
  · exact .inr ⟨hg i σ H hlt p, Pv (i + 1), fun σ' H' p' => ⟨n - (i + 1), by omega, rfl, hlt, p'⟩, fun x H' y => hs i σ H x H' hlt p y⟩
  · obtain rfl : i = n := by omega
    exact .inl ⟨he σ H p, hd σ H p⟩
theorem forR_rng {lo : Int} {n : Nat} (Pv : Nat → L2.St → Hp → Prop) (h0 : Pv 0 σ H) (hs : ∀ i σ H, i < n → Pv i σ H → g (.int (lo + i)) σ H fun σ2 H2 => tb ⟨Pv (i + 1), rt, nx, Pv (i + 1)⟩ σ2 H2) (hd : ∀ σ H, Pv n σ H → nx σ H) :
    ForR (Itr lo n) g tb ⟨nx, rt, bk, ct⟩ σ H := forR_gen _ n Pv h0 (fun i _ _ h _ => h) (fun _ _ _ => Nat.le_refl _) (fun i σ H x H' hi p ⟨e1, e2⟩ => by subst e1; subst e2; exact hs i σ _ hi p) hd
theorem forR_rngC {lo c : Int} {n : Nat} (Pv : Nat → L2.St → Hp → Prop) (h0 : Pv 0 σ H) (hs : ∀ (i : Nat) σ H, i < n → Pv i σ H → g (.int (lo + (i : Nat) * c)) σ H fun σ2 H2 => tb ⟨Pv (i + 1), rt, nx, Pv (i + 1)⟩ σ2 H2) (hd : ∀ σ H, Pv n σ H → nx σ H) :
    ForR (Itc lo c n) g tb ⟨nx, rt, bk, ct⟩ σ H := forR_gen _ n Pv h0 (fun i _ _ h _ => h) (fun _ _ _ => Nat.le_refl _) (fun i σ H x H' hi p ⟨e1, e2⟩ => by subst e1; subst e2; exact hs i σ _ hi p) hd
theorem forR_lst {a : Addr} {xs : List V} (Pv : Nat → L2.St → Hp → Prop) (hl : ∀ i σ H, Pv i σ H → SqL K H a xs) (h0 : Pv 0 σ H) (hs : ∀ i x σ H, xs[i]? = some x → Pv i σ H → g x σ H fun σ2 H2 => tb ⟨Pv (i + 1), rt, nx, Pv (i + 1)⟩ σ2 H2) (hd : ∀ σ H, Pv xs.length σ H → nx σ H) :
    ForR (Itl K a) g tb ⟨nx, rt, bk, ct⟩ σ H := forR_gen _ xs.length Pv h0 (fun i σ H h p => ⟨xs, xs[i], hl i σ H p, by simp [h]⟩) (fun σ H p => ⟨xs, hl _ σ H p, Nat.le_refl _⟩)
      (fun i σ H x H' hi p ⟨e1, e2⟩ => by subst e1; exact hs i x σ _ (e2 xs (hl i σ _ p)) p) hd
theorem forR_tup {a : Addr} {xs : List V} (Pv : Nat → L2.St → Hp → Prop) (hl : ∀ i σ H, Pv i σ H → SqT K H a xs) (h0 : Pv 0 σ H) (hs : ∀ i x σ H, xs[i]? = some x → Pv i σ H → g x σ H fun σ2 H2 => tb ⟨Pv (i + 1), rt, nx, Pv (i + 1)⟩ σ2 H2) (hd : ∀ σ H, Pv xs.length σ H → nx σ H) :
    ForR (Itt K a) g tb ⟨nx, rt, bk, ct⟩ σ H := forR_gen _ xs.length Pv h0 (fun i σ H h p => ⟨xs, xs[i], hl i σ H p, by simp [h]⟩) (fun σ H p => ⟨xs, hl _ σ H p, Nat.le_refl _⟩)
      (fun i σ H x H' hi p ⟨e1, e2⟩ => by subst e1; exact hs i x σ _ (e2 xs (hl i σ _ p)) p) hd
/-- the pair is a new tuple at t -/
theorem forR_enum {a : Addr} {xs : List V} (Pv : Nat → L2.St → Hp → Prop) (hl : ∀ i σ H, Pv i σ H → SqL K H a xs) (h0 : Pv 0 σ H)
    (hs : ∀ (i : Nat) x σ H t H', xs[i]? = some x → Pv i σ H → H t = none → Same H H' → H' t = some (.tup [.int (i : Nat), x]) → H' = upd H t (.tup [.int (i : Nat), x]) → g (.ref t) σ H' fun σ2 H2 => tb ⟨Pv (i + 1), rt, nx, Pv (i + 1)⟩ σ2 H2) (hd : ∀ σ H, Pv xs.length σ H → nx σ H) :
    ForR (Ite K a) g tb ⟨nx, rt, bk, ct⟩ σ H := forR_gen _ xs.length Pv h0 (fun i σ H h p => ⟨xs, xs[i], hl i σ H p, by simp [h]⟩) (fun σ H p => ⟨xs, hl _ σ H p, Nat.le_refl _⟩)
      (fun i σ H x H' hi p ⟨t, y, e1, e2, e3, e4⟩ => by subst e1; subst e3; exact hs i y σ H t _ (e4 xs (hl i σ _ p)) p e2 (Same.new (Same.refl H) e2) upd_same rfl) hd
/-! ### what is walked -/
def rgR1 (R : It → Hp → Prop) (vs : List V) (H : Hp) : Prop := ∃ j : Int, vs = [.int j] ∧ -(2 ^ 62) ≤ j ∧ j < 2 ^ 62 ∧ R (Itr 0 j.toNat) H
theorem rd_rng1 (h : ta σ H fun vs H1 => rgR1 R vs H1) : iRng1 ta σ H R := h
theorem rd_rgR1 {j : Int} (h0 : -(2 ^ 62) ≤ j) (h1 : j < 2 ^ 62) (h : R (Itr 0 j.toNat) H) : rgR1 R [.int j] H := ⟨j, rfl, h0, h1, h⟩
def rgR2 (R : It → Hp → Prop) (vs : List V) (H : Hp) : Prop := ∃ i j : Int, vs = [.int i, .int j] ∧ (-(2 ^ 62) ≤ i ∧ i < 2 ^ 62 ∧ -(2 ^ 62) ≤ j ∧ j < 2 ^ 62) ∧ R (Itr i (j - i).toNat) H
theorem rd_rng2 (h : ta σ H fun vs H1 => rgR2 R vs H1) : iRng2 ta σ H R := h
theorem rd_rgR2 {i j : Int} (h0 : -(2 ^ 62) ≤ i ∧ i < 2 ^ 62 ∧ -(2 ^ 62) ≤ j ∧ j < 2 ^ 62) (h : R (Itr i (j - i).toNat) H) : rgR2 R [.int i, .int j] H := ⟨i, j, rfl, h0, h⟩
def rgR3 (R : It → Hp → Prop) (vs : List V) (H : Hp) : Prop := ∃ (i j c : Int) (n : Nat), vs = [.int i, .int j, .int c] ∧ RgC i j c n ∧ R (Itc i c n) H
theorem rd_rng3 (h : ta σ H fun vs H1 => rgR3 R vs H1) : iRng3 ta σ H R := h
theorem rd_rgDn {i j : Int} (h0 : -(2 ^ 62) ≤ i ∧ i < 2 ^ 62 ∧ -(2 ^ 62) ≤ j ∧ j < 2 ^ 62) (h : R (Itc i (-1) (i - j).toNat) H) : rgR3 R [.int i, .int j, .int (-1)] H := ⟨i, j, -1, _, rfl, RgC.neg h0.1 h0.2.1 h0.2.2.1 h0.2.2.2, h⟩
def lsR (K : PySem.W.Frag) (R : It → Hp → Prop) (x : V) (H : Hp) : Prop := ∃ a, x = .ref a ∧ (∃ xs, SqL K H a xs) ∧ R (Itl K a) H
theorem rd_iList (h : te σ H fun x H1 => lsR K R x H1) : iList K te σ H R := h
theorem rd_lsR {a : Addr} {xs : List V} (e : SqL K H a xs) (h : R (Itl K a) H) : lsR K R (.ref a) H := ⟨a, rfl, ⟨xs, e⟩, h⟩
def tpR (K : PySem.W.Frag) (R : It → Hp → Prop) (x : V) (H : Hp) : Prop := ∃ a, x = .ref a ∧ (∃ xs, SqT K H a xs) ∧ R (Itt K a) H
theorem rd_iTup (h : te σ H fun x H1 => tpR K R x H1) : iTup K te σ H R := h
theorem rd_tpR {a : Addr} {xs : List V} (e : SqT K H a xs) (h : R (Itt K a) H) : tpR K R (.ref a) H := ⟨a, rfl, ⟨xs, e⟩, h⟩
def enR (K : PySem.W.Frag) (R : It → Hp → Prop) (vs : List V) (H : Hp) : Prop := ∃ a xs, vs = [.ref a] ∧ SqL K H a xs ∧ R (Ite K a) H
theorem rd_iEnum (h : ta σ H fun vs H1 => enR K R vs H1) : iEnum K ta σ H R := h
theorem rd_enR {a : Addr} {xs : List V} (e : SqL K H a xs) (h : R (Ite K a) H) : enR K R [.ref a] H := ⟨a, xs, rfl, e, h⟩
/-! ### while -/
def WhN (m : Nat) (W : Nat → L2.St → Hp → Prop) (tb : TS) (rt : VK) (nx : L2.St → Hp → Prop) (σ : L2.St) (H1 : Hp) : Prop := ∃ N : L2.St → Hp → Prop, (∀ σ' H', N σ' H' → ∃ m', m' < m ∧ W m' σ' H') ∧ tb ⟨N, rt, nx, N⟩ σ H1
theorem rd_whN {m : Nat} {W : Nat → L2.St → Hp → Prop} (h : tb ⟨fun σ' H' => ∃ m', m' < m ∧ W m' σ' H', rt, nx, fun σ' H' => ∃ m', m' < m ∧ W m' σ' H'⟩ σ H) : WhN m W tb rt nx σ H := ⟨_, fun _ _ q => q, h⟩
theorem rd_while (W : Nat → L2.St → Hp → Prop) (m0 : Nat) (h0 : W m0 σ H) (hs : ∀ m σ H, W m σ H → c σ H fun b H1 => if b = true then WhN m W tb rt nx σ H1 else nx σ H1) :
    tWhile c tb ⟨nx, rt, bk, ct⟩ σ H := ⟨W, ⟨m0, h0⟩, hs⟩
/-! ### a new instance -/
theorem rd_make0 {C : Addr} {sp : Sp} {dvs : List V} {E : XK} {t : TA} (h : t σ H fun vs H1 => rMake C sp dvs E Q vs H1) : tMake C sp dvs E t σ H Q := h
theorem rd_make {C : Addr} {sp : Sp} {dvs : List V} {E : XK} {ws : List V} (h : ∀ x dx H2, Same H H2 → H x = none → H2 x = some (.ins C dx []) → sp (.ref x :: (ws ++ dvs)) H2 (fun v H3 => v = .non ∧ Q (.ref x) H3) E) : rMake C sp dvs E Q ws H :=
  fun x dx hx hdx hne => h x dx _ (fun b o e => by rw [upd_ne (ne_of_none e hx), upd_ne (ne_of_none e hdx)]; exact e) hx upd_same
/-! ### draws -/
theorem rd_augS {to ti te : TE} {tget : V → V → Hp → VK → Prop} {tip : TIp} {tset : TSet} (h : to σ H fun o H1 => ti σ H1 fun i H2 => tget o i H2 fun x H3 => te σ H3 fun y H4 => tip x y H4 fun z H5 => tset o i z H5 fun H6 => nx σ H6) : tAugS to ti te tget tip tset ⟨nx, rt, bk, ct⟩ σ H := h
theorem rd_draw0 {a sc : Addr} (e : H a = some (DrawO a sc)) (h : Q (.ref sc) H) : rDraw0 (.ref a) (.int 0) H Q := ⟨a, sc, rfl, rfl, e, h⟩
theorem rd_draw1 {a sc : Addr} (e : H a = some (DrawO a sc)) (h : ∀ i : Int, Q (.int i) H) : rDraw1 (.ref a) (.int 1) H Q := ⟨a, sc, rfl, rfl, e, h⟩
theorem rd_setDraw1 {a sc : Addr} {j : Int} {QH : Hp → Prop} (e : H a = some (DrawO a sc)) (h : QH H) : sDraw1 (.ref a) (.int 1) (.int j) H QH := ⟨a, sc, j, rfl, rfl, rfl, e, h⟩
theorem rd_drawNew {t : TA} (h : t σ H fun xs H1 => rDrawN Q xs H1) : tDraw t σ H Q := h
theorem rd_drawN {sc : Addr} {j : Int} (h : ∀ p H', H p = none → Same H H' → H' p = some (DrawO p sc) → Q (.ref p) H') : rDrawN Q [.ref sc, .int j] H := ⟨sc, j, rfl, fun p hp => h p _ hp (Same.new (Same.refl H) hp) upd_same⟩
/-! ### comprehensions -/
theorem rd_yes {QB : Bool → Hp → Prop} (h : QB true H) : tYes σ H QB := h
def LcR (J : It) (g : TG) (tt : TT) (te : TE) (vs : List Nat) (σ : L2.St) (H1 : Hp) (Q : VK) : Prop := ∀ D, H1 D = none → ∃ W : Nat → Nat → Hp → Prop, (∃ m, W 0 m (upd H1 D (.lst []))) ∧ ∀ i m H, W i m H →
  (J.stop i H ∧ Q (.ref D) H) ∨ (J.go i H ∧ ∃ Nx : Hp → Prop, (∀ H', Nx H' → ∃ m', m' < m ∧ W (i + 1) m' H') ∧ ∀ x H', J.yld i H x H' → g x (wipe σ vs) H' fun σ2 H2 => wipe σ2 vs = wipe σ vs ∧ tt σ2 H2 fun b H3 =>
    if b = true then te σ2 H3 fun y H4 => ∃ acc, H4 D = some (.lst acc) ∧ acc.length < sizeLine ∧ Nx (upd H4 D (.lst (acc ++ [y]))) else Nx H3)
theorem rd_lc (h : wi σ H fun J H1 => LcR J g tt te vs σ H1 Q) : tLc wi g tt te vs σ H Q := h
/-- what a comprehension does with an element -/
def LcE (D : Addr) (Nx : Hp → Prop) (y : V) (H4 : Hp) : Prop := ∃ acc, H4 D = some (.lst acc) ∧ acc.length < sizeLine ∧ Nx (upd H4 D (.lst (acc ++ [y])))
theorem rd_lcE {D : Addr} {Nx : Hp → Prop} {y : V} {acc : List V} (e : H D = some (.lst acc)) (l : acc.length < 100000) (h : ∀ H', H' = upd H D (.lst (acc ++ [y])) → H' D = some (.lst (acc ++ [y])) → Nx H') : LcE D Nx y H := ⟨acc, e, Nat.lt_trans l (by decide), h _ rfl upd_same⟩
theorem lcR_gen (J : It) (n : Nat) (Pv : Addr → Nat → Hp → Prop) (h0 : ∀ D H', H D = none → Same H H' → H' D = some (.lst []) → H' = upd H D (.lst []) → Pv D 0 H') (hg : ∀ D i H', H D = none → i < n → Pv D i H' → J.go i H') (he : ∀ D H', H D = none → Pv D n H' → J.stop n H')
    (hs : ∀ D i H' x H2, H D = none → i < n → Pv D i H' → J.yld i H' x H2 → g x (wipe σ vs) H2 fun σ2 H2 => wipe σ2 vs = wipe σ vs ∧ tt σ2 H2 fun b H3 => if b = true then te σ2 H3 fun y H4 => LcE D (Pv D (i + 1)) y H4 else Pv D (i + 1) H3)
    (hd : ∀ D H', H D = none → Pv D n H' → Q (.ref D) H') : LcR J g tt te vs σ H Q := by
  intro D hD
  refine ⟨fun i m H => m = n - i ∧ i ≤ n ∧ Pv D i H, ⟨n, by simp, Nat.zero_le _, h0 D _ hD (Same.new (Same.refl H) hD) upd_same rfl⟩, ?_⟩
  rintro i m H' ⟨rfl, hi, p⟩
  by_cases hlt : i < n
  · exact .inr ⟨hg D i H' hD hlt p, Pv D (i + 1), fun H2 p' => ⟨n - (i + 1), by omega, rfl, hlt, p'⟩, fun x H2 y => hs D i H' x H2 hD hlt p y⟩
  · obtain rfl : i = n := by omega
    exact .inl ⟨he D H' hD p, hd D H' hD p⟩
theorem lcR_rng {lo : Int} {n : Nat} (Pv : Addr → Nat → Hp → Prop) (h0 : ∀ D H', H D = none → Same H H' → H' D = some (.lst []) → H' = upd H D (.lst []) → Pv D 0 H')
    (hs : ∀ D i H', H D = none → i < n → Pv D i H' → g (.int (lo + i)) (wipe σ vs) H' fun σ2 H2 => wipe σ2 vs = wipe σ vs ∧ tt σ2 H2 fun b H3 => if b = true then te σ2 H3 fun y H4 => LcE D (Pv D (i + 1)) y H4 else Pv D (i + 1) H3)
    (hd : ∀ D H', H D = none → Pv D n H' → Q (.ref D) H') : LcR (Itr lo n) g tt te vs σ H Q :=
  lcR_gen _ n Pv h0 (fun _ i _ _ h _ => h) (fun _ _ _ _ => Nat.le_refl _) (fun D i H x H' hD hi p ⟨e1, e2⟩ => by subst e1; subst e2; exact hs D i _ hD hi p) hd
theorem lcR_lst {a : Addr} {xs : List V} (Pv : Addr → Nat → Hp → Prop) (hl : ∀ D i H', H D = none → Pv D i H' → SqL K H' a xs) (h0 : ∀ D H', H D = none → Same H H' → H' D = some (.lst []) → H' = upd H D (.lst []) → Pv D 0 H')
    (hs : ∀ D i x H', H D = none → xs[i]? = some x → Pv D i H' → g x (wipe σ vs) H' fun σ2 H2 => wipe σ2 vs = wipe σ vs ∧ tt σ2 H2 fun b H3 => if b = true then te σ2 H3 fun y H4 => LcE D (Pv D (i + 1)) y H4 else Pv D (i + 1) H3)
    (hd : ∀ D H', H D = none → Pv D xs.length H' → Q (.ref D) H') : LcR (Itl K a) g tt te vs σ H Q :=
  lcR_gen _ xs.length Pv h0 (fun D i H' hD h p => ⟨xs, xs[i], hl D i H' hD p, by simp [h]⟩) (fun D H' hD p => ⟨xs, hl D _ H' hD p, Nat.le_refl _⟩)
    (fun D i H' x H2 hD hi p ⟨e1, e2⟩ => by subst e1; exact hs D i x _ hD (e2 xs (hl D i _ hD p)) p) hd
theorem lcR_enum {a : Addr} {xs : List V} (Pv : Addr → Nat → Hp → Prop) (hl : ∀ D i H', H D = none → Pv D i H' → SqL K H' a xs) (h0 : ∀ D H', H D = none → Same H H' → H' D = some (.lst []) → H' = upd H D (.lst []) → Pv D 0 H')
    (hs : ∀ D (i : Nat) x H' t H2, H D = none → xs[i]? = some x → Pv D i H' → H' t = none → Same H' H2 → H2 t = some (.tup [.int (i : Nat), x]) → H2 = upd H' t (.tup [.int (i : Nat), x]) → g (.ref t) (wipe σ vs) H2 fun σ2 H2 => wipe σ2 vs = wipe σ vs ∧ tt σ2 H2 fun b H3 => if b = true then te σ2 H3 fun y H4 => LcE D (Pv D (i + 1)) y H4 else Pv D (i + 1) H3)
    (hd : ∀ D H', H D = none → Pv D xs.length H' → Q (.ref D) H') : LcR (Ite K a) g tt te vs σ H Q :=
  lcR_gen _ xs.length Pv h0 (fun D i H' hD h p => ⟨xs, xs[i], hl D i H' hD p, by simp [h]⟩) (fun D H' hD p => ⟨xs, hl D _ H' hD p, Nat.le_refl _⟩)
    (fun D i H' x H2 hD hi p ⟨t, y, e1, e2, e3, e4⟩ => by subst e1; subst e3; exact hs D i y H' t _ hD (e4 xs (hl D i _ hD p)) p e2 (Same.new (Same.refl H') e2) upd_same rfl) hd
end
end Sl
set_option Elab.async false
set_option linter.all false
set_option maxRecDepth 100000
set_option maxHeartbeats 4000000
namespace L2
open PySem PySem.Spec PyProof.Rows
/-! ### defs that raise: a promise for the refused arguments -/
section
variable {X : Cx} {CX : CXT} {k j : Nat} {f C : Addr} {fd : FuncData} {ps : List Str} {ds : List Value} {dvs : List V} {sp : Sp} {E : St → XK} {x m : Str} {p pos apos : Pos} {e o : Expr} {es : List Expr} {ta : TE} {t : TA}
theorem run_fnSd {pins : List (Addr × Obj)} {σ : St} {H : Hp} {s : Shared} {Q : VK} {us : List Value} {vs : List V} (F : FnOk X.prog X.w X.K X.mg X.base CX k f fd ps sp) (hr : Room k X.A) (hb : Binds X.K fd ps ds) (hd : Vals dvs ds) (hx : PassesAt CX X σ (E σ))
    (I : Inv X pins σ H s) (r : Vals vs us) (h : sp (vs ++ dvs) H Q (E σ)) : wpAny (model X.prog X.w) X.A (call (.ref f) us) (EP X pins σ Q) X.xe s := by
  have r2 : Vals (vs ++ dvs) (us ++ ds) := r.append hd
  have hl : (us ++ ds).length = ps.length := by rw [← r2.length]; exact F.len _ _ _ _ h
  refine wpAny_call (codeAny_mono (F.run X.A X.stack s H ⟨us, []⟩ (us ++ ds) (vs ++ dvs) Q (E σ) hr I.env0 (hb s us I.kIn hl) r2 h) fun r s' hq => ?_)
  cases r with
  | error e => exact hx pins H s e s' I hq
  | ok fl =>
    cases fl with
    | ret u => exact I.after hq
    | next => exact False.elim hq
    | brk => exact False.elim hq
    | cont => exact False.elim hq
def tCallSd (sp : Sp) (dvs : List V) (E : St → XK) (t : TA) : TE := fun σ H Q => t σ H fun vs H1 => sp (vs ++ dvs) H1 Q (E σ)
/-- a def called by its name that may raise -/
structure CalX (P : Program) (w : World) (K : PySem.W.Frag) (mg : Str → Option Value) (base : Heap) (k : Nat) (x : Str) (sp : Sp) (dvs : List V) : Prop where
  ex : ∃ (f : Addr) (fd : FuncData) (ps : List Str) (ds : List Value), FnOk P w K mg base (L2.CX P w) k f fd ps sp ∧ mg x = some (.ref f) ∧ PySem.W.keepIn K (.ref f) = true ∧ Binds K fd ps ds ∧ Vals dvs ds
theorem pe_cX (c : CalX X.prog X.w X.K X.mg X.base k x sp dvs) (hr : Room j X.A) (hk : k ≤ j) (hg : Gl X x) (hx : ∀ σ, PassesAt (L2.CX X.prog X.w) X σ (E σ)) (ha : PA X (e :: es) t)
    (hdb : (x == ("__debug__" : Str)) = false := by decide) (he : starEach (e :: es) X.env = (false, eval e X.env) :: starEach es X.env := by rfl) (hpl : (backTo pos (starEach es X.env)).any (·.1) = false := by rfl) :
    PE X (.Call (.Name x p) (e :: es) [] pos) (tCallSd sp dvs E t) := by
  obtain ⟨f, fd, ps, ds, F, hm, kp, b, d⟩ := c.ex
  refine ⟨fun pins s σ H Q I h => ?_⟩
  refine wpAny_Call_Name_kw (ld_glob I hg hm ?_ hdb)
  refine PySem.W.callWith_K (h₀ := X.base) I.ok.mod.kin kp (thn (ha.run pos pins s σ H _ I h) fun us s1 ⟨vs, H1, I1, r, q⟩ => ⟨I1.kIn, ?_⟩) he hpl
  exact run_fnSd F (hr.mono hk) b d (hx σ) I1 r q
/-- around a body nothing is let out -/
theorem takesN {X : Cx} : Takes X (fun _ _ _ _ => False) := fun _ _ x => by
  obtain ⟨_, _, _, _, _, _, _, _, _, _, _, _, _, _, _, _, z⟩ := x
  exact z.elim
/-- a try by its name -/
def tTry (K : PySem.W.Frag) (c : Value) (tb : WX → TS) (ts : Addr → Value → Option Addr → TS) (Wout : WX) : TS := fun D σ H => tb (wOnly K c ts Wout D) D σ H
theorem ps_tryO {x : Str} {c : Value} {body suite : List Stmt} {b₀ : Stmt} {np pos pos' : Pos} {tb : WX → TS} {ts : Addr → Value → Option Addr → TS} {Wout : WX} (hs : X.stack = X.env :: X.outer) (hf : X.env.frame = some X.env.locals) (hc : Names X x c) (tk : Takes X Wout)
    (hb : ∀ (W : WX) (pn : List (Addr × Obj)) (xe : Value → Shared → Prop), Takes (X.tr pn xe) W → PSs (X.tr pn xe) body (tb W))
    (hsu : ∀ (a : Addr) (oe : Obj) (cls : Value) (d : Option Addr) (pn : List (Addr × Obj)), PSs (X.suite a ((a, oe) :: pn)) (b₀ :: suite) (ts a cls d)) :
    PS X (.Try body [.ExceptHandler (some (.Name x np)) none (b₀ :: suite) pos'] [] [] pos) (tTry X.K c tb ts Wout) :=
  ps_try_only hs hf hc tk (fun W pn xe tk _ => hb W pn xe tk) (fun a oe cls d pn _ _ => hsu a oe cls d pn)
end
end L2
namespace C8
open PySem PySem.Spec PyProof.Rows L2
section
variable {P : Program} {w : World} {K : PySem.W.Frag} {mg : Str → Option Value} {base : Heap}
theorem fnX {x qual : Str} {st : Stmt} {f : Addr} {fd : FuncData} {N ps : List Str} {k : Nat} {sp : Sp} (F : Fun K x qual st f fd) (S : FnScope N ps (fnScope st)) (len : ∀ vs H Q E, sp vs H Q E → vs.length = ps.length)
    (hbody : ∀ (cdv : Value) (A : Around) (outer : List Env) (s : Shared) (H : Hp) (vs : List V) (Q : VK) (E : XK), Room k (A.deeper (envOfC qual (fnScope st) s.heap.objs.size f cdv)) → sp vs H Q E →
      ∃ t, PSs (cxOf (L2.CX P w) P w K mg base N qual (fnScope st) f cdv A outer s H E) (fnBody st) t ∧ t { nx := fun _ H' => Q .non H', rt := Q } (start N vs) H) : FnOk P w K mg base (L2.CX P w) (k + 1) f fd ps sp := by
  obtain ⟨oc, od, dV, kV, doc, pm, an, cdv, ct, osl, rfl, lk, hcd⟩ := F.ex
  exact fn_of lk hcd S len fun A outer s H vs Q E hr hsp => hbody cdv A outer s H vs Q E hr hsp
theorem calX0 {x : Str} {st : Stmt} {f : Addr} {fd : FuncData} {N ps : List Str} {ds : List Value} {dvs : List V} {k : Nat} {sp : Sp} (F : Def K mg x st f fd) (b : Binds K fd ps ds) (d : Vals dvs ds) (S : FnScope N ps (fnScope st)) (len : ∀ vs H Q E, sp vs H Q E → vs.length = ps.length)
    (hbody : ∀ (cdv : Value) (A : Around) (outer : List Env) (s : Shared) (H : Hp) (vs : List V) (Q : VK) (E : XK), Room k (A.deeper (envOfC x (fnScope st) s.heap.objs.size f cdv)) → sp vs H Q E →
      ∃ t, PSs (cxOf (L2.CX P w) P w K mg base N x (fnScope st) f cdv A outer s H E) (fnBody st) t ∧ t { nx := fun _ H' => Q .non H', rt := Q } (start N vs) H) : CalX P w K mg base (k + 1) x sp dvs :=
  ⟨f, fd, ps, ds, fnX F.fn S len hbody, F.mgf, F.kp, b, d⟩
end
end C8
namespace Sl
open PySem L2 C8 StX
/-- an error of the class at S is what «except S» names -/
theorem exm_own {K : PySem.W.Frag} {S : Addr} (h1 : PySem.W.subIn K (.ref S) (.type "BaseException") = some true) (h2 : PySem.W.isClsIn K S = true) (h3 : PySem.W.typeIn K (.ref S) = some (.type "type")) (h4 : PySem.W.subIn K (.ref S) (.ref S) = some true) :
    PySem.W.exmOne K (.ref S) (.ref S) = some true := by
  have e1 : (PySem.W.subIn K (.ref S) (.type "BaseException") == some true) = true := by rw [h1] <;> rfl
  have e2 : ((PySem.W.clsIn K S).isSome && PySem.W.typeIn K (.ref S) == some (.type "type")) = true := by
    have h2' : (PySem.W.clsIn K S).isSome = true := h2
    rw [h2', h3] <;> rfl
  show (if (PySem.W.subIn K (.ref S) (.type "BaseException") == some true) = true then (if ((PySem.W.clsIn K S).isSome && PySem.W.typeIn K (.ref S) == some (.type "type")) = true then PySem.W.subIn K (.ref S) (.ref S) else none) else none) = some true
  rw [if_pos e1, if_pos e2]
  exact h4
/-- what is known of an own class of errors without its own __init__ -/
structure XOwn (K : PySem.W.Frag) (C : Addr) : Prop where
  x : PySem.W.excIn K C [.type "ValueError", .type "Exception", .type "BaseException", .type "object"] "ValueError.__new__" = true
  k : PySem.W.keepIn K (.ref C) = true
  b : PySem.W.subIn K (.ref C) (.type "BaseException") = some true
  t : PySem.W.typeIn K (.ref C) = some (.type "type")
  i : PySem.W.isClsIn K C = true
  s : PySem.W.subIn K (.ref C) (.ref C) = some true
theorem XOwn.e {K : PySem.W.Frag} {C : Addr} (T : XOwn K C) : PySem.W.exmOne K (.ref C) (.ref C) = some true := exm_own T.b T.i T.t T.s
section
variable {X : Cx} {x : Str} {np pos : Pos} {C : Addr} {W : WX}
/-- X('m') -/
theorem pmk_x {m : Str} {j : Nat} {p p2 pos : Pos} (T : XOwn X.K C) (gC : X.mg x = some (.ref C)) (hg : Gl X x) (hdb : (x == ("__debug__" : Str)) = false := by decide) : PMk X (.Call (.Name x p) [.Constant (.str m) j p2] [] pos) (fun _ H Q => Q (.ref C) none H) :=
  pmk_own PySem.F.excBase_ValueError T.x gC T.k (raises_own T.b T.t) hg hdb
/-- raise X('m') -/
def tRaise (C : Addr) (W : WX) : TS := fun _ σ H => W (.ref C) none σ H
theorem ps_raiseO {m : Str} {j : Nat} {p p2 pos pos2 : Pos} (hc : X.calm = true) (tk : Takes X W) (T : XOwn X.K C) (gC : X.mg x = some (.ref C)) (hg : Gl X x) (hdb : (x == ("__debug__" : Str)) = false := by decide) :
    PS X (.Raise (some (.Call (.Name x p) [.Constant (.str m) j p2] [] pos)) none pos2) (tRaise C W) := ps_raise hc tk (pmk_x T gC hg hdb)
end
section
variable {σ : L2.St} {H : Hp} {Q : VK} {K : PySem.W.Frag} {C : Addr} {W Wout : WX} {nx bk ct : L2.St → Hp → Prop} {rt : VK} {sp : Sp} {dvs : List V} {E : L2.St → XK} {t : TA} {tb : WX → TS} {ts : Addr → Value → Option Addr → TS} {c cls : Value} {d : Option Addr} {D : Ends} {vs : List V}
theorem rd_raise {E : XK} (h : E (.ref C) none H) : tRaise C (fun cls d _ H => E cls d H) ⟨nx, rt, bk, ct⟩ σ H := h
def rCallSd (sp : Sp) (dvs : List V) (E : XK) (Q : VK) (vs : List V) (H : Hp) : Prop := sp (vs ++ dvs) H Q E
theorem rd_callSd (h : t σ H fun vs H1 => rCallSd sp dvs (E σ) Q vs H1) : tCallSd sp dvs E t σ H Q := h
theorem rd_callSd2 {E : XK} {ws : List V} (h : sp (ws ++ dvs) H Q E) : rCallSd sp dvs E Q ws H := h
theorem rd_try (h : tb (wOnly K c ts Wout D) D σ H) : tTry K c tb ts Wout D σ H := h
theorem rd_caught (he : PySem.W.exmOne K cls c = some true) (h : ∀ a, H a = none → ts a cls d D σ H) : WE (wOnly K c ts Wout D) σ cls d H := ⟨true, he, fun _ => h, fun q => nomatch q⟩
theorem rd_isN0 {x : V} (h : Q (.bl (decide (x = .non))) H) : rIsNn x .non H Q := ⟨rfl, h⟩
theorem rd_notN0 {x : V} (h : Q (.bl (!decide (x = .non))) H) : rNotNn x .non H Q := ⟨rfl, h⟩
theorem rd_maxL {a : Addr} {ns : List Int} {m : Int} (e : SqL K H a (ns.map V.int)) (l : 0 < ns.length) (h : ∀ m, m ∈ ns → (∀ y, y ∈ ns → y ≤ m) → Q (.int m) H) : rMax K [.ref a] H Q := ⟨a, ns, rfl, e, l, h⟩
theorem rd_indexI {a : Addr} {ns : List Int} {y : Int} {j : Nat} (e : SqL K H a (ns.map V.int)) (hj : ns[j]? = some y) (hn : ∀ m z, m < j → ns[m]? = some z → z ≠ y) (h : Q (.int (j : Nat)) H) : rIndex K (.ref a) [.int y] H Q := by
  refine ⟨a, ns.map V.int, .int y, j, .int y, rfl, rfl, e, rfl, ?_, by rw [List.getElem?_map, hj]; rfl, by simp [eqV], ?_, h⟩
  · rw [List.all_eq_true]
    intro x hx
    obtain ⟨n, _, rfl⟩ := List.mem_map.mp hx
    rfl
  · intro m z' hm hz
    rw [List.getElem?_map] at hz
    cases q : ns[m]? with
    | none => rw [q] at hz; cases hz
    | some z =>
      rw [q] at hz
      cases hz
      have := hn m z hm q
      simp [eqV, this]
theorem rd_tyLq {a : Addr} {xs : List V} {R : Prop} (e : SqL K H a xs) (h : R) : tyV K "list" (.ref a) H ∧ R := ⟨.inl ⟨rfl, xs, e⟩, h⟩
end
end Sl
set_option Elab.async false
set_option linter.all false
set_option maxRecDepth 100000
set_option maxHeartbeats 4000000
namespace L2
open PySem PySem.Spec PyProof.Rows
/-! ### min of a list of pairs of ints: the loop of the built-in, the order told by what the heap keeps -/
section
variable {prog : Program} {w : World} {A : Around} {R : Result → Shared → Prop} {J l : Addr} {its : Array Value} {bt : Nat → Nat → Bool} {Kp : Heap → Prop}
/-- what is told of the order: while Kp stands -/
def Ord (prog : Program) (w : World) (A : Around) (its : Array Value) (Kp : Heap → Prop) (bt : Nat → Nat → Bool) : Prop :=
  ∀ i j x y (t : Shared) (Q : Value → Shared → Prop) (E : Value → Shared → Prop), Kp t.heap → its[i]? = some x → its[j]? = some y → Q (.bool (bt i j)) t → wpAny (model prog w) A (richCompare .Lt x y) Q E t
/-- Kp stands while nothing changes but the iterator and the box -/
def Kpt (Kp : Heap → Prop) (J S : Addr) : Prop := ∀ h h' : Heap, Kp h → (∀ b o, b ≠ J → b ≠ S → h.get? b = some o → h'.get? b = some o) → Kp h'
theorem min_turns (hh : A.in1.handled = none) (hlJ : l ≠ J) (O : Ord prog w A.in1 its Kp bt) {S : Addr} (hSJ : S ≠ J) (hSl : S ≠ l) (Z : Kpt Kp J S) :
    ∀ (k j : Nat) (t : Shared) (best : Value) (c : Nat), its.size - (j + 1) = k → j + 1 ≤ its.size → (t.heap.IsListIter J l (j + 1) ∧ t.heap.IsList l its) → Kp t.heap → its[argBest bt j]? = some best →
    t.heap.get? S = some { cls := .type "list", dict := none, data := .seq #[best, best] c, slots := #[] } →
    (∀ v h' tk, its[argBest bt (its.size - 1)]? = some v → (∀ b o, b ≠ J → b ≠ S → t.heap.get? b = some o → h'.get? b = some o) → R (.ok (.ret v)) { t with heap := h', toks := tk }) →
    codeAny (model prog w) A (.builtin "min.loop" ⟨[.ref J, .none, .ref S], []⟩) R t := by
  have Wl := Walks.list (prog := prog) (w := w) (A := A.in1) hh J l hlJ its
  have nm : (toString "min" ++ toString ".loop" : String) = "min.loop" := by decide
  intro k
  induction k with
  | zero =>
    intro j t best c ek ej st kp eb eS back
    refine codeAny_builtin F.entry_min_loop (by
      rw [Around.under_plainId F.plain_min_loop _]
      refine (show wpAny _ A.in1 (seqItems? (.ref S) >>= _) _ _ t from wpAny_bind (wpAny_seqItems eS rfl ?_))
      refine (show wpAny _ A.in1 (tryCatch (pyNext (.ref J)) _ >>= _) _ _ t from wpAny_bind (wpAny_tryCatch (Wl.done t _ _ ((by omega : j + 1 = its.size) ▸ st) fun h2 tk kept => ?_)))
      have eS2 := kept S _ (by simpa using hSJ) eS
      refine (show wpAny _ A.in1 (updateSeq S (fun _ => #[]) >>= _) _ _ _ from wpAny_bind (wpAny_updateSeq eS2 rfl (wpAny_bind (wpAny_letGo (wpAny_pure (back best _ tk ?_ fun b o n1 n2 e => ?_))))))
      · rw [← (by omega : j + 1 = its.size)]; exact eb
      · exact (Heap.get?_update_other _ _ (Ne.symm n2)).trans (kept b o (by simpa using n1) e))
  | succ k ih =>
    intro j t best c ek ej st kp eb eS back
    refine codeAny_builtin F.entry_min_loop (by
      rw [Around.under_plainId F.plain_min_loop _]
      refine (show wpAny _ A.in1 (seqItems? (.ref S) >>= _) _ _ t from wpAny_bind (wpAny_seqItems eS rfl ?_))
      refine (show wpAny _ A.in1 (tryCatch (pyNext (.ref J)) _ >>= _) _ _ t from wpAny_bind (wpAny_tryCatch (Wl.item (j + 1) t _ _ (by omega) st fun v h2 tk ev st2 kept => ?_)))
      have eS2 := kept S _ (by simpa using hSJ) eS
      have kp2 : Kp h2 := Z _ _ kp fun b o n1 _ e => kept b o (by simpa using n1) e
      refine (show wpAny _ A.in1 (tryCatch (holding [v, v] (richCompare .Lt v best >>= _)) _ >>= _) _ _ _ from wpAny_bind (wpAny_tryCatch (wpAny_holding (wpAny_bind (O (j + 1) (argBest bt j) v best _ _ _ kp2 ev eb ?_)))))
      refine wpAny_bind (wpAny_holding (wpAny_truthy_bool (wpAny_bind (wpAny_letGo (wpAny_pure ?_)))))
      cases hb : bt (j + 1) (argBest bt j) with
      | true =>
        simp only [if_true]
        refine wpAny_bind (wpAny_updateSeq eS2 rfl (wpAny_bind (wpAny_letGo ?_)))
        rw [nm]
        have kp3 : ∀ (g : Obj → Obj) b o, b ≠ S → h2.get? b = some o → (h2.update S g).get? b = some o := fun g b o n e => (Heap.get?_update_other _ _ (Ne.symm n)).trans e
        refine wpAny_pure ⟨plainId_quiet F.plain_min_loop _, ih (j + 1) _ v _ (by omega) (by omega) (Wl.frame _ _ _ st2 fun b hb2 o e => ?_) (Z _ _ kp2 fun b o _ n e => kp3 _ b o n e) (by simp only [argBest, hb, if_true]; exact ev) (Heap.get?_update_self _ eS2 rfl)
          fun v' h3 tk3 e3 kept3 => back v' h3 tk3 e3 fun b o n1 n2 e => kept3 b o n1 n2 (kp3 _ b o n2 (kept b o (by simpa using n1) e))⟩
        refine kp3 _ b o (fun z => ?_) e
        rcases List.mem_cons.mp hb2 with q | q
        · exact hSJ (z.symm.trans q)
        · exact hSl (z.symm.trans (by simpa using q))
      | false =>
        simp only [Bool.false_eq_true, if_false]
        refine wpAny_bind (wpAny_letGo ?_)
        rw [nm]
        exact wpAny_pure ⟨plainId_quiet F.plain_min_loop _, ih (j + 1) _ best c (by omega) (by omega) st2 kp2 (by simp only [argBest, hb, Bool.false_eq_true, if_false]; exact eb) eS2
          fun v' h3 tk3 e3 kept3 => back v' h3 tk3 e3 fun b o n1 n2 e => kept3 b o n1 n2 (kept b o (by simpa using n1) e)⟩)
theorem min_start (hh : A.in1.handled = none) (hlJ : l ≠ J) (O : Ord prog w A.in1 its Kp bt) {S : Addr} (hSJ : S ≠ J) (hSl : S ≠ l) (Z : Kpt Kp J S) (n0 : 0 < its.size) {t : Shared} {c : Nat} (st : t.heap.IsListIter J l 0 ∧ t.heap.IsList l its) (kp : Kp t.heap)
    (eS : t.heap.get? S = some { cls := .type "list", dict := none, data := .seq #[] c, slots := #[] })
    (back : ∀ v h' tk, its[argBest bt (its.size - 1)]? = some v → (∀ b o, b ≠ J → b ≠ S → t.heap.get? b = some o → h'.get? b = some o) → R (.ok (.ret v)) { t with heap := h', toks := tk }) :
    codeAny (model prog w) A (.builtin "min.loop" ⟨[.ref J, .none, .ref S], []⟩) R t := by
  have Wl := Walks.list (prog := prog) (w := w) (A := A.in1) hh J l hlJ its
  have nm : (toString "min" ++ toString ".loop" : String) = "min.loop" := by decide
  refine codeAny_builtin F.entry_min_loop (by
    rw [Around.under_plainId F.plain_min_loop _]
    refine (show wpAny _ A.in1 (seqItems? (.ref S) >>= _) _ _ t from wpAny_bind (wpAny_seqItems eS rfl ?_))
    refine (show wpAny _ A.in1 (tryCatch (pyNext (.ref J)) _ >>= _) _ _ t from wpAny_bind (wpAny_tryCatch (Wl.item 0 t _ _ n0 st fun v h2 tk ev st2 kept => ?_)))
    have eS2 := kept S _ (by simpa using hSJ) eS
    have kp2 : Kp h2 := Z _ _ kp fun b o n1 _ e => kept b o (by simpa using n1) e
    refine (show wpAny _ A.in1 (updateSeq S (fun _ => #[v, v]) >>= _) _ _ _ from wpAny_bind (wpAny_updateSeq eS2 rfl ?_))
    rw [nm]
    have kp3 : ∀ (g : Obj → Obj) b o, b ≠ S → h2.get? b = some o → (h2.update S g).get? b = some o := fun g b o n e => (Heap.get?_update_other _ _ (Ne.symm n)).trans e
    refine wpAny_pure ⟨plainId_quiet F.plain_min_loop _, min_turns hh hlJ O hSJ hSl Z _ 0 _ v _ rfl n0 (Wl.frame _ _ _ st2 fun b hb2 o e => ?_) (Z _ _ kp2 fun b o _ n e => kp3 _ b o n e) ev (Heap.get?_update_self _ eS2 rfl)
      fun v' h3 tk3 e3 kept3 => back v' h3 tk3 e3 fun b o n1 n2 e => kept3 b o n1 n2 (kp3 _ b o n2 (kept b o (by simpa using n1) e))⟩
    refine kp3 _ b o (fun z => ?_) e
    rcases List.mem_cons.mp hb2 with q | q
    · exact hSJ (z.symm.trans q)
    · exact hSl (z.symm.trans (by simpa using q)))
end
/-- the least of pairs: an order that is transitive has no better one -/
theorem argBest_least {bt : Nat → Nat → Bool} (tr : ∀ a b c, bt a b = true → bt b c = true → bt a c = true) (ir : ∀ a, bt a a = false) : ∀ k, argBest bt k ≤ k ∧ ∀ j, j ≤ k → bt j (argBest bt k) = false
  | 0 => ⟨Nat.le_refl _, fun j hj => by
    rw [show j = 0 by omega]
    exact ir 0⟩
  | k + 1 => by
    obtain ⟨h1, h2⟩ := argBest_least tr ir k
    show (if bt (k + 1) (argBest bt k) then k + 1 else argBest bt k) ≤ k + 1 ∧ ∀ j, j ≤ k + 1 → bt j (if bt (k + 1) (argBest bt k) then k + 1 else argBest bt k) = false
    by_cases c : bt (k + 1) (argBest bt k) = true
    · rw [if_pos c]
      refine ⟨Nat.le_refl _, fun j hj => ?_⟩
      rcases Nat.lt_or_ge k j with z | z
      · rw [show j = k + 1 by omega]
        exact ir _
      · cases e : bt j (k + 1) with
        | false => rfl
        | true =>
          have := tr _ _ _ e c
          rw [h2 j z] at this
          cases this
    · rw [if_neg c]
      refine ⟨by omega, fun j hj => ?_⟩
      rcases Nat.lt_or_ge k j with z | z
      · rw [show j = k + 1 by omega]
        simpa using c
      · exact h2 j z
section
variable {prog : Program} {w : World} {A : Around} {E : Value → Shared → Prop} {l : Addr} {its : Array Value} {bt : Nat → Nat → Bool}
/-- the call: Kp is that all that was there stands -/
theorem min_callP {s : Shared} {Q : Value → Shared → Prop} (hh : A.in1.handled = none) (hl : s.heap.IsList l its) (n0 : 0 < its.size) (O : Ord prog w A.in1 its (fun h => ∀ b o, s.heap.get? b = some o → h.get? b = some o) bt)
    (back : ∀ v h' tk, its[argBest bt (its.size - 1)]? = some v → (∀ b o, s.heap.get? b = some o → h'.get? b = some o) → Q v { s with heap := h', toks := tk }) : wpAny (model prog w) A (call (.builtin "min") [.ref l]) Q E s := by
  have nm : (toString "min" ++ toString ".loop" : String) = "min.loop" := by decide
  refine call_function_tree F.kind_min F.plain_min F.entry_min (F.args_min1 _) (wpAny_bind (m := Builtin.Builtins.bindParams "min" ["key", "default"] 0 ⟨[], []⟩) (wpAny_of_eq (show Builtin.Builtins.bindParams "min" ["key", "default"] 0 ⟨[], []⟩ = pure [none, none] from rfl) (wpAny_bind (wpAny_pure ?_))))
  refine wpAny_bind (wpAny_pyIter_list hl (wpAny_bind (wpAny_newObj_type ?_)))
  rw [nm]
  have hlt : l < s.heap.objs.size := by
    obtain ⟨_, e, _⟩ := id hl
    exact Heap.lt_size e
  have z1 : (s.heap.push { cls := .type "list_iterator", data := .fields #[.ref l, .int 0 0] }).objs.size = s.heap.objs.size + 1 := Heap.size_push ..
  have old : ∀ b o, s.heap.get? b = some o → b < s.heap.objs.size := fun b o e => Heap.lt_size e
  refine wpAny_pure ⟨plainId_quiet F.plain_min_loop _, min_start (l := l) (its := its) hh (Nat.ne_of_lt hlt) O (S := (s.heap.push { cls := .type "list_iterator", data := .fields #[.ref l, .int 0 0] }).objs.size) (by rw [z1]; exact Nat.succ_ne_self _) (by rw [z1]; exact (Nat.ne_of_lt (Nat.lt_succ_of_lt hlt)).symm) (fun h h' k f b o e => f b o (Nat.ne_of_lt (old b o e)) (by rw [z1]; exact Nat.ne_of_lt (Nat.lt_succ_of_lt (old b o e))) (k b o e)) n0 ⟨⟨_, Heap.get?_push_of_some _ (Heap.get?_push_size _ rfl), rfl, rfl⟩, (hl.push _).push _⟩ (fun b o e => Heap.get?_push_of_some _ (Heap.get?_push_of_some _ e)) (Heap.get?_push_size _ rfl) fun v h' tk ev f => ?_⟩
  exact back v h' tk ev fun b o e => f b o (Nat.ne_of_lt (old b o e)) (by rw [z1]; exact Nat.ne_of_lt (Nat.lt_succ_of_lt (old b o e))) (Heap.get?_push_of_some _ (Heap.get?_push_of_some _ e))
end
/-- x is before y: by the first, then by the second -/
def ltPr (x y : Int × Int) : Bool := decide (x.1 < y.1 ∨ x.1 = y.1 ∧ x.2 < y.2)
/-- min(xs), xs a list of pairs of ints: one of the least -/
def rMinP (K : PySem.W.Frag) : List V → Hp → VK → Prop := fun vs H Q => ∃ (a : Addr) (xs : List V) (ks : List (Int × Int)), vs = [V.ref a] ∧ SqL K H a xs ∧ 0 < xs.length ∧ ks.length = xs.length ∧ (∀ (i : Nat) x k, xs[i]? = some x → ks[i]? = some k → ∃ t, x = V.ref t ∧ H t = some (.tup [.int k.1, .int k.2])) ∧
  ∀ (i : Nat) x k, xs[i]? = some x → ks[i]? = some k → (∀ y ∈ ks, ltPr y k = false) → Q x H
theorem lex_pair (a b : Int × Int) : HT.lexLt [a.1, a.2] [b.1, b.2] = ltPr a b := by
  rw [HT.lexLt_cons, HT.lexLt_cons, HT.lexLt_nil_nil]
  unfold ltPr
  by_cases c : a.1 = b.1
  · rw [if_pos c]
    by_cases d : a.2 = b.2
    · rw [if_pos d]
      symm
      rw [decide_eq_false_iff_not]
      omega
    · rw [if_neg d]
      rw [decide_eq_decide]
      omega
  · rw [if_neg c]
    rw [decide_eq_decide]
    omega
section
variable {X : Cx} {j : Nat}
theorem cr_minP (hc : X.calm = true) (hr : Room (j + 1) X.A) : CallR X (.builtin "min") (rMinP X.K) := by
  intro pins s σ H vs us Q I r h
  obtain ⟨a, xs, ks, rfl, hs, hne, hk, hx, q⟩ := h
  obtain ⟨its, rv, hl, _⟩ := I.list hs
  rw [Vals.ref1 r]
  have hlen : its.length = xs.length := rv.length.symm
  refine min_callP (bt := fun i j => ltPr (ks.getD i (0, 0)) (ks.getD j (0, 0))) (I.ok.hd hc) hl.isList (by simpa using (by omega : 0 < its.length)) ?_ fun v h' tk ev kept => ?_
  · intro i1 i2 x y t Q' E' kp e1 e2 q'
    have g1 : its[i1]? = some x := by simpa using e1
    have g2 : its[i2]? = some y := by simpa using e2
    have b1 : i1 < its.length := (List.getElem?_eq_some_iff.mp g1).1
    have b2 : i2 < its.length := (List.getElem?_eq_some_iff.mp g2).1
    obtain ⟨u1, hu1, r1⟩ := rv.get (List.getElem?_eq_getElem (by omega : i1 < xs.length))
    obtain ⟨u2, hu2, r2⟩ := rv.get (List.getElem?_eq_getElem (by omega : i2 < xs.length))
    rw [g1] at hu1
    rw [g2] at hu2
    cases hu1
    cases hu2
    obtain ⟨t1, z1, o1⟩ := hx i1 _ _ (List.getElem?_eq_getElem (by omega)) (List.getElem?_eq_getElem (by omega : i1 < ks.length))
    obtain ⟨t2, z2, o2⟩ := hx i2 _ _ (List.getElem?_eq_getElem (by omega)) (List.getElem?_eq_getElem (by omega : i2 < ks.length))
    rw [z1] at r1
    rw [z2] at r2
    obtain rfl : x = Value.ref t1 := r1
    obtain rfl : y = Value.ref t2 := r2
    obtain ⟨l1, w1, ⟨ob1, p1, rest1⟩, _⟩ := I.tuple (SqT.of o1)
    obtain ⟨l2, w2, ⟨ob2, p2, rest2⟩, _⟩ := I.tuple (SqT.of o2)
    refine HT.lt_tupInts (l := t1) (b := t2) (items := l1.toArray) (items2 := l2.toArray) (ns := [ks[i1].1, ks[i1].2]) (ms := [ks[i2].1, ks[i2].2]) ⟨ob1, kp _ _ p1, rest1⟩ ⟨ob2, kp _ _ p2, rest2⟩ (Vals.ints w1) (Vals.ints w2) hr.in1.units0 ?_
    rw [lex_pair]
    simp only [List.getD_eq_getElem?_getD, List.getElem?_eq_getElem (by omega : i1 < ks.length), List.getElem?_eq_getElem (by omega : i2 < ks.length), Option.getD_some] at q'
    exact q'
  · obtain ⟨m1, m2⟩ := argBest_least (bt := fun i j => ltPr (ks.getD i (0, 0)) (ks.getD j (0, 0))) (fun a b c => by unfold ltPr; simp only [decide_eq_true_iff]; omega) (fun a => by unfold ltPr; simp) (its.toArray.size - 1)
    generalize hB : argBest (fun i j => ltPr (ks.getD i (0, 0)) (ks.getD j (0, 0))) (its.toArray.size - 1) = B at *
    have zs : its.toArray.size = its.length := by simp
    rw [zs] at m1 m2
    have bB : B < xs.length := by omega
    have g : its[B]? = some v := by simpa using ev
    obtain ⟨u, hu, ru⟩ := rv.get (List.getElem?_eq_getElem bB)
    rw [g] at hu
    cases hu
    refine ⟨xs[B], H, I.kept kept, ru, q B _ ks[B] (List.getElem?_eq_getElem bB) (List.getElem?_eq_getElem (by omega)) fun y hy => ?_⟩
    obtain ⟨i, hi, rfl⟩ := List.getElem_of_mem hy
    have := m2 i (by omega)
    simpa only [List.getD_eq_getElem?_getD, List.getElem?_eq_getElem hi, List.getElem?_eq_getElem (by omega : B < ks.length), Option.getD_some] using this
end
end L2
set_option Elab.async false
set_option linter.all false
set_option maxRecDepth 100000
set_option maxHeartbeats 4000000
namespace L2
open PySem PySem.Spec PyProof.Rows
/-! ### evidence: own __bool__, own __eq__, isinstance of a class above -/
section
variable {X : Cx} {k j : Nat} {C D : Addr} {sp : Sp} {dvs : List V} {a : Expr} {ta : TE}
/-- an instance as a test, by its own __bool__ -/
def tTruO (C : Addr) (sp : Sp) (dvs : List V) (ta : TE) : TT := fun σ H Q => ta σ H fun x H1 => ∃ a dx fs, x = .ref a ∧ H1 a = some (.ins C dx fs) ∧ sp ([.ref a] ++ dvs) H1 (fun v H2 => ∃ b, v = .bl b ∧ Q b H2) C8.E0
theorem pt_own (c : C8.Met X.prog X.w X.K X.mg X.base k C "__bool__" sp dvs) (hr : Room j X.A) (hk : k ≤ j) (ha : PE X a ta) (he : ∀ whole, isTrue a X.env whole = (do let v ← whole; standAt a.pos; holding [v] (truthy v)) := by intro _; rfl) : PT X a (tTruO C sp dvs ta) := by
  obtain ⟨f, fd, ps, ds, cl, hm, F, bd, d⟩ := c.ex
  refine ⟨fun pins s σ H Q I h => isTrue_plain (thn (ha.run pins s σ H _ I h) fun v s1 z => ?_) (he _)⟩
  obtain ⟨x, H1, I1, rx, o, dx, fs, rfl, e, q⟩ := z
  obtain rfl : v = Value.ref o := rx
  obtain ⟨mA, O, _, _, _, _⟩ := ins_get I1.hok e
  obtain ⟨od, J, _⟩ := O.look
  obtain ⟨m, F0⟩ := I1.fr
  refine PySem.W.truthy_K F0 I1.ok.mod.kin J hm.at_ hm.fn (wpAny_mono (run_fn (us := [.ref o]) (vs := [.ref o]) F (hr.mono hk) bd d C8.pass0 I1 (.cons rfl .nil) q) (fun v s2 y => ?_) fun _ _ y => y)
  obtain ⟨x2, H2, I2, rx2, b, rfl, q2⟩ := y
  obtain rfl : v = Value.bool b := rx2
  exact ⟨H2, I2, q2⟩
/-- x == y by the own __eq__ of the class of both -/
def rEqO (C : Addr) (sp : Sp) (dvs : List V) : R2 := fun x y H Q => ∃ a b dx dy fs gs, x = .ref a ∧ y = .ref b ∧ H a = some (.ins C dx fs) ∧ H b = some (.ins C dy gs) ∧ sp ([.ref a, .ref b] ++ dvs) H (fun v H' => ∃ k, v = .bl k ∧ Q v H') C8.E0
theorem op_eqO (c : C8.Met X.prog X.w X.K X.mg X.base k C "__eq__" sp dvs) (hr : Room j X.A) (hk : k ≤ j) : OpR X (compareOp .Eq) (rEqO C sp dvs) := by
  obtain ⟨f, fd, ps, ds, cl, hm, F, bd, d⟩ := c.ex
  intro pins s σ H x y v u Q I rx ry h
  obtain ⟨o, o2, dx, dy, fs, gs, rfl, rfl, e, e2, q⟩ := h
  obtain rfl : v = Value.ref o := rx
  obtain rfl : u = Value.ref o2 := ry
  obtain ⟨mA, O, _, _, _, _⟩ := ins_get I.hok e
  obtain ⟨mB, O2, _, _, _, _⟩ := ins_get I.hok e2
  obtain ⟨od, J, _⟩ := O.look
  obtain ⟨od2, J2, _⟩ := O2.look
  obtain ⟨m, F0⟩ := I.fr
  refine PySem.W.cmp_K (op := .Eq) (tb := .ref C) hr.units0 F0 I.ok.mod.kin J J2.type (by simp [PySem.W.notFirst]) hm.at_ hm.fn (wpAny_mono (run_fn (us := [.ref o, .ref o2]) (vs := [.ref o, .ref o2]) F (hr.mono hk) bd d C8.pass0 I (.cons rfl (.cons rfl .nil)) q) (fun v s2 y => ?_) fun _ _ y => y)
  obtain ⟨x2, H2, I2, rx2, b, rfl, q2⟩ := y
  obtain rfl : v = Value.bool b := rx2
  exact ⟨.bl b, H2, I2, rfl, q2⟩
/-- an instance of C is one of D, a class above -/
structure InsB (K : PySem.W.Frag) (C D : Addr) : Prop where
  cl : Cls K C
  ha : PySem.W.findIn K (.ref C) "__class__" = some (some (.builtin "object.__class__"))
  hn : PySem.W.specialIn K (.builtin "object.__class__") "__get__" = some (some (.builtin "getset_descriptor.__get__"))
  htk : PySem.W.takesIn K (.builtin "object.__class__") = some true
  hm : PySem.W.mroIn K C (.type "object") = some true
  me : PySem.W.kitOne K (.ref C) (.ref D) = some true
def rIsUp (C D : Addr) : List V → Hp → VK → Prop := fun xs H Q => ∃ a dx fs, xs = [.ref a, .ref D] ∧ H a = some (.ins C dx fs) ∧ Q (.bl true) H
theorem cr_isUp (c : InsB X.K C D) : CallR X (.builtin "isinstance") (rIsUp C D) := by
  intro pins s σ H xs us Q I r h
  obtain ⟨o, dx, fs, rfl, e, q⟩ := h
  obtain ⟨u, u2, rfl, r1, r2⟩ := vals2 r
  obtain rfl : u2 = Value.ref D := r2
  exact isinst_ok I r1 (TyOf.ins e c.cl c.ha c.hn c.htk c.hm) c.me fun tk => ⟨.bl true, H, I.tok _, rfl, q⟩
end
end L2
namespace Sl
open PySem L2 C8 StX
section
variable {σ : L2.St} {H : Hp} {Q : VK} {QB : Bool → Hp → Prop} {K : PySem.W.Frag} {C D : Addr} {sp : Sp} {dvs : List V} {ta : TE} {v : V} {f : Str} {u : Value}
def rTruO (C : Addr) (sp : Sp) (dvs : List V) (x : V) (H1 : Hp) (Q : Bool → Hp → Prop) : Prop := ∃ a dx fs, x = .ref a ∧ H1 a = some (.ins C dx fs) ∧ sp ([.ref a] ++ dvs) H1 (fun v H2 => ∃ b, v = .bl b ∧ Q b H2) C8.E0
theorem rd_truO0 (h : ta σ H fun x H1 => rTruO C sp dvs x H1 QB) : tTruO C sp dvs ta σ H QB := h
theorem rd_truO {a dx : Addr} {fs : List (Str × V)} (e : H a = some (.ins C dx fs)) (h : sp ([.ref a] ++ dvs) H (fun v H2 => ∃ b, v = .bl b ∧ QB b H2) C8.E0) : rTruO C sp dvs (.ref a) H QB := ⟨a, dx, fs, rfl, e, h⟩
theorem rd_eqO {a b dx dy : Addr} {fs gs : List (Str × V)} (e : H a = some (.ins C dx fs)) (e2 : H b = some (.ins C dy gs)) (h : sp ([.ref a, .ref b] ++ dvs) H (fun v H' => ∃ k, v = .bl k ∧ Q v H') C8.E0) : rEqO C sp dvs (.ref a) (.ref b) H Q := ⟨a, b, dx, dy, fs, gs, rfl, rfl, e, e2, h⟩
theorem rd_isUp {a dx : Addr} {fs : List (Str × V)} (e : H a = some (.ins C dx fs)) (h : Q (.bl true) H) : rIsUp C D [.ref a, .ref D] H Q := ⟨a, dx, fs, rfl, e, h⟩
def rCon (K : PySem.W.Frag) (f : Str) (x : V) (H : Hp) (Q : VK) : Prop := ∃ a C dx fs v u, x = .ref a ∧ H a = some (.ins C dx fs) ∧ Cls K C ∧ Con K C f v u ∧ fs.lookup f = none ∧ Q v H
theorem rd_con0 (h : ta σ H fun x H1 => rCon K f x H1 Q) : tCon K ta f σ H Q := h
theorem rd_con {a dx : Addr} {fs : List (Str × V)} (e : H a = some (.ins C dx fs)) (c : Cls K C) (k : ∃ u, Con K C f v u) (l : fs.lookup f = none) (h : Q v H) : rCon K f (.ref a) H Q := by
  obtain ⟨u, k⟩ := k
  exact ⟨a, C, dx, fs, v, u, rfl, e, c, k, l, h⟩
theorem rd_minP {a : Addr} {xs : List V} {ks : List (Int × Int)} (e : SqL K H a xs) (n : 0 < xs.length) (l : ks.length = xs.length) (hx : ∀ (i : Nat) x k, xs[i]? = some x → ks[i]? = some k → ∃ t, x = V.ref t ∧ H t = some (.tup [.int k.1, .int k.2]))
    (h : ∀ (i : Nat) t k, xs[i]? = some (.ref t) → ks[i]? = some k → H t = some (.tup [.int k.1, .int k.2]) → (∀ y ∈ ks, ltPr y k = false) → Q (.ref t) H) : rMinP K [.ref a] H Q :=
  ⟨a, xs, ks, rfl, e, n, l, hx, fun i x k h1 h2 h3 => by
    obtain ⟨t, rfl, e⟩ := hx i x k h1 h2
    exact h i t k h1 h2 e h3⟩
end
end Sl
set_option Elab.async false
set_option linter.all false
set_option maxRecDepth 100000
set_option maxHeartbeats 4000000
namespace L2
open PySem PySem.Spec PyProof.Rows
/-- a dict from ints to ints -/
def dI (ls : List (Int × Int)) : List (Key × V) := ls.map fun q => (Sum.inl q.1, V.int q.2)
theorem dI_len (ls : List (Int × Int)) : (dI ls).length = ls.length := by unfold dI; rw [List.length_map]
theorem dI_keys (ls : List (Int × Int)) : (dI ls).map (·.1) = (ls.map (·.1)).map Sum.inl := by unfold dI; rw [List.map_map, List.map_map]; rfl
theorem dI_nodup {ls : List (Int × Int)} (h : (ls.map (·.1)).Nodup) : ((dI ls).map (·.1)).Nodup := by
  rw [dI_keys]
  exact List.Pairwise.map Sum.inl (fun a b n e => n (Sum.inl.inj e)) h
theorem dI_val {ls : List (Int × Int)} (h : (ls.map (·.1)).Nodup) : ∀ p ∈ dI ls, valV (dI ls) p.1 = some p.2 ∧ flatB p.2 = true := by
  intro p hp
  refine ⟨val_nodup (dI_nodup h) p hp, ?_⟩
  obtain ⟨q, _, rfl⟩ := List.mem_map.mp hp
  rfl
theorem dI_at {ls : List (Int × Int)} (h : (ls.map (·.1)).Nodup) {k v : Int} (m : (k, v) ∈ ls) : valV (dI ls) (Sum.inl k) = some (.int v) := val_nodup (dI_nodup h) (Sum.inl k, V.int v) (List.mem_map.mpr ⟨(k, v), m, rfl⟩)
theorem dI_no {ls : List (Int × Int)} {k : Int} (h : ∀ q ∈ ls, q.1 ≠ k) : valV (dI ls) (Sum.inl k) = none := by
  induction ls with
  | nil => rfl
  | cons q r ih =>
    show valV ((Sum.inl q.1, V.int q.2) :: dI r) (Sum.inl k) = none
    rw [valV_neg (fun z => h q List.mem_cons_self (Sum.inl.inj z))]
    exact ih fun q' m => h q' (List.mem_cons_of_mem _ m)
theorem dI_putNew {ls : List (Int × Int)} {k v : Int} (h : ∀ q ∈ ls, q.1 ≠ k) : putK (dI ls) (Sum.inl k) (.int v) = dI (ls ++ [(k, v)]) := by
  rw [putK_new _ (dI_no h)]
  unfold dI
  rw [List.map_append]
  rfl
/-! ### == of such dicts, both answers where the lengths differ -/
section
variable {X : Cx}
def rEqDI : R2 := fun x y H Q => ∃ a b ls ms, x = .ref a ∧ y = .ref b ∧ H a = some (.dK (dI ls)) ∧ H b = some (.dK (dI ms)) ∧ (ls.map (·.1)).Nodup ∧ (ls = ms ∨ ls.length ≠ ms.length) ∧ Q (.bl (decide (ls = ms))) H
def rNeDI : R2 := fun x y H Q => ∃ a b ls ms, x = .ref a ∧ y = .ref b ∧ H a = some (.dK (dI ls)) ∧ H b = some (.dK (dI ms)) ∧ (ls.map (·.1)).Nodup ∧ (ls = ms ∨ ls.length ≠ ms.length) ∧ Q (.bl (!decide (ls = ms))) H
theorem dI_hits {A : Around} {s : Shared} {ls ms : List (Int × Int)} {va vb : List (Key × Value)} (nd : (ls.map (·.1)).Nodup) (h : ls = ms ∨ ls.length ≠ ms.length) (ra : KV (dI ls) va) (rb : KV (dI ms) vb) (e : va.length = vb.length) : ls = ms ∧ PySem.W.KeqHits A s vb va true := by
  rcases h with h | h
  · subst h
    exact ⟨rfl, hits_all rb ra (dI_val nd)⟩
  · exfalso
    have h1 := ra.length
    have h2 := rb.length
    rw [dI_len] at h1 h2
    omega
theorem dI_ans {ls ms : List (Int × Int)} {va vb : List (Key × Value)} (h : ls = ms ∨ ls.length ≠ ms.length) (ra : KV (dI ls) va) (rb : KV (dI ms) vb) : (va.length == vb.length && true) = decide (ls = ms) := by
  have h1 := ra.length
  have h2 := rb.length
  rw [dI_len] at h1 h2
  rw [Bool.and_true]
  rcases h with h | h
  · subst h
    rw [decide_eq_true rfl, ← h1, ← h2]
    simp
  · rw [decide_eq_false (fun z => h (by rw [z])), ← h1, ← h2]
    simpa using h
theorem op_eqDI (hu : X.A.units < cLine) : OpR X (compareOp .Eq) rEqDI := by
  intro pins s σ H x y v u Q I rx ry h
  obtain ⟨a, b, ls, ms, rfl, rfl, ea, eb, nd, hh, q⟩ := h
  obtain rfl : v = Value.ref a := rx
  obtain rfl : u = Value.ref b := ry
  obtain ⟨_, ya, va, ra, da⟩ := (show ObjOk X.prog X.w H s.heap a (.dK (dI ls)) from I.hok a _ ea)
  obtain ⟨_, yb, vb, rb, db⟩ := (show ObjOk X.prog X.w H s.heap b (.dK (dI ms)) from I.hok b _ eb)
  refine PySem.W.keq_eq (knd := mixKind X.prog X.w) (r := true) ya yb da db hu (fun e => (dI_hits nd hh ra rb e).2) ?_
  rw [dI_ans hh ra rb]
  exact ⟨.bl _, H, I, rfl, q⟩
theorem op_neDI (hu : X.A.units < cLine) : OpR X (compareOp .NotEq) rNeDI := by
  intro pins s σ H x y v u Q I rx ry h
  obtain ⟨a, b, ls, ms, rfl, rfl, ea, eb, nd, hh, q⟩ := h
  obtain rfl : v = Value.ref a := rx
  obtain rfl : u = Value.ref b := ry
  obtain ⟨_, ya, va, ra, da⟩ := (show ObjOk X.prog X.w H s.heap a (.dK (dI ls)) from I.hok a _ ea)
  obtain ⟨_, yb, vb, rb, db⟩ := (show ObjOk X.prog X.w H s.heap b (.dK (dI ms)) from I.hok b _ eb)
  refine PySem.W.keq_ne (knd := mixKind X.prog X.w) (r := true) ya yb da db hu (fun e => (dI_hits nd hh ra rb e).2) ?_
  rw [dI_ans hh ra rb]
  exact ⟨.bl _, H, I, rfl, q⟩
end
end L2
namespace Sl
open PySem L2 C8 StX
section
variable {σ : L2.St} {H H1 : Hp} {wi : TI} {g : TG} {tb : TS} {ta : TA} {td te ty tk tv : TE} {tt : TT} {nx bk ct : L2.St → Hp → Prop} {rt : VK} {K : PySem.W.Frag} {Q : VK} {QB : Bool → Hp → Prop} {vs : List Nat} {x y v : V}
theorem rd_dnew (h : ∀ p H', H p = none → Same H H' → H' p = some (.dK (dI [])) → H' = upd H p (.dK (dI [])) → Q (.ref p) H') : tDNewK σ H Q := fun p hp => h p _ hp (Same.new (Same.refl H) hp) upd_same rfl
def rDIn (y x : V) (H : Hp) (Q : VK) : Prop := ∃ a o, x = .ref a ∧ DGet H a y o ∧ Q (.bl o.isSome) H
def rDNot (y x : V) (H : Hp) (Q : VK) : Prop := ∃ a o, x = .ref a ∧ DGet H a y o ∧ Q (.bl (!o.isSome)) H
theorem rd_din0 (h : ty σ H fun y H1 => td σ H1 fun x H2 => rDIn y x H2 Q) : tDIn ty td σ H Q := h
theorem rd_dnot0 (h : ty σ H fun y H1 => td σ H1 fun x H2 => rDNot y x H2 Q) : tDNotIn ty td σ H Q := h
theorem rd_dnot {a : Addr} {ls : List (Int × Int)} {k : Int} (e : H a = some (.dK (dI ls))) (h : Q (.bl (!(valV (dI ls) (Sum.inl k)).isSome)) H) : rDNot (.int k) (.ref a) H Q := ⟨a, _, rfl, DGet.k (k := Sum.inl k) e, h⟩
def rDGet (x y : V) (H : Hp) (Q : VK) : Prop := ∃ a v, x = .ref a ∧ DGet H a y (some v) ∧ Q v H
theorem rd_dget0 (h : td σ H fun x H1 => ty σ H1 fun y H2 => rDGet x y H2 Q) : tDGet td ty σ H Q := h
theorem rd_dget {a : Addr} {ls : List (Int × Int)} {k w : Int} (e : Rd H a (.dK (dI ls))) (l : valV (dI ls) (Sum.inl k) = some (.int w)) (h : Q (.int w) H) : rDGet (.ref a) (.int k) H Q := ⟨a, .int w, rfl, .inl ⟨_, Sum.inl k, e, rfl, l.symm⟩, h⟩
def rDPut (nx : L2.St → Hp → Prop) (σ : L2.St) (v x y : V) (H : Hp) : Prop := ∃ a H4, x = .ref a ∧ DPut H a y v H4 ∧ nx σ H4
theorem rd_dput0 (h : tv σ H fun v H1 => td σ H1 fun x H2 => ty σ H2 fun y H3 => rDPut nx σ v x y H3) : sDPut td ty tv ⟨nx, rt, bk, ct⟩ σ H := h
theorem rd_dput {a : Addr} {ls : List (Int × Int)} {k w : Int} (e : H a = some (.dK (dI ls))) (l : ls.length < 100000) (h : ∀ H', H' = upd H a (.dK (putK (dI ls) (Sum.inl k) (.int w))) → H' a = some (.dK (putK (dI ls) (Sum.inl k) (.int w))) → nx σ H') : rDPut nx σ (.int w) (.ref a) (.int k) H :=
  ⟨a, _, rfl, DPut.k (k := Sum.inl k) e (by rw [dI_len]; exact Nat.lt_trans l (by decide)), h _ rfl upd_same⟩
def rDictD : List V → Hp → VK → Prop := fun xs H Q => ∃ (a : Addr) (kvs : List (Key × V)), xs = [.ref a] ∧ Rd H a (.dK kvs) ∧ ∀ p, H p = none → Q (.ref p) (upd H p (.dK kvs))
theorem cr_dictD {X : Cx} : CallR X (.type "dict") rDictD := call_dictD
theorem rd_dictD {a : Addr} {kvs : List (Key × V)} (e : H a = some (.dK kvs)) (h : ∀ p H', H p = none → Same H H' → H' p = some (.dK kvs) → H' = upd H p (.dK kvs) → Q (.ref p) H') : rDictD [.ref a] H Q := ⟨a, kvs, rfl, .inl e, fun p hp => h p _ hp (Same.new (Same.refl H) hp) upd_same rfl⟩
def rSortDI : List V → Hp → VK → Prop := fun xs H Q => ∃ (a : Addr) (kvs : List (Key × V)) (ks : List Int), xs = [.ref a] ∧ Rd H a (.dK kvs) ∧ kvs.map (·.1) = ks.map Sum.inl ∧ ks.length < 64 ∧ ∀ (ys : List Int) (p : Addr), ys.Perm ks → ys.Pairwise (· ≤ ·) → H p = none → Q (.ref p) (upd H p (.lst (ys.map V.int)))
theorem cr_sortDI {X : Cx} (hc : X.calm = true) : CallR X (.builtin "sorted") rSortDI := call_sortedDI hc
theorem perm_sorted : ∀ {ys ks : List Int}, ys.Perm ks → ys.Pairwise (· ≤ ·) → ks.Pairwise (· < ·) → ys = ks
  | [], ks, p, _, _ => (List.nil_perm.mp p).symm
  | y :: ys, [], p, _, _ => by have := p.length_eq; simp at this
  | y :: ys, k :: ks, p, s1, s2 => by
    have h1 := List.pairwise_cons.mp s1
    have h2 := List.pairwise_cons.mp s2
    have e : y = k := by
      have a : y ∈ k :: ks := p.mem_iff.mp List.mem_cons_self
      have b : k ∈ y :: ys := p.mem_iff.mpr List.mem_cons_self
      rcases List.mem_cons.mp a with z | z
      · exact z
      · rcases List.mem_cons.mp b with w | w
        · exact w.symm
        · have q1 := h2.1 y z
          have q2 := h1.1 k w
          omega
    subst e
    rw [perm_sorted p.cons_inv h1.2 h2.2]
theorem rd_sortDI {a : Addr} {ls : List (Int × Int)} (e : H a = some (.dK (dI ls))) (s : (ls.map (·.1)).Pairwise (· < ·)) (l : ls.length < 64) (h : ∀ p H', H p = none → Same H H' → H' p = some (.lst ((ls.map (·.1)).map V.int)) → Q (.ref p) H') : rSortDI [.ref a] H Q :=
  ⟨a, _, ls.map (·.1), rfl, .inl e, dI_keys ls, by rw [List.length_map]; exact l, fun ys p pm sr hp => by
    rw [perm_sorted pm sr s]
    exact h p _ hp (Same.new (Same.refl H) hp) upd_same⟩
theorem rd_sortL {a : Addr} {ks : List Int} (e : SqL K H a (ks.map V.int)) (s : ks.Pairwise (· < ·)) (l : ks.length < 64) (h : ∀ p H', H p = none → Same H H' → H' p = some (.lst (ks.map V.int)) → Q (.ref p) H') : rSorted K [.ref a] H Q :=
  ⟨a, ks, rfl, e, l, fun ys p pm sr hp => by
    rw [perm_sorted pm sr s]
    exact h p _ hp (Same.new (Same.refl H) hp) upd_same⟩
theorem rd_listD {a : Addr} {ls : List (Int × Int)} (e : H a = some (.dK (dI ls))) (h : ∀ p H', H p = none → Same H H' → H' p = some (.lst ((ls.map (·.1)).map V.int)) → Q (.ref p) H') : rListD [.ref a] H Q :=
  ⟨a, _, rfl, e, fun p hp => h p _ hp (Same.new (Same.refl H) hp) (by rw [upd_same]; unfold dI; rw [List.map_map, List.map_map]; rfl)⟩
theorem rd_eqDI {a b : Addr} {ls ms : List (Int × Int)} (ea : H a = some (.dK (dI ls))) (eb : H b = some (.dK (dI ms))) (nd : (ls.map (·.1)).Nodup) (hh : ls = ms ∨ ls.length ≠ ms.length) (q : Q (.bl (decide (ls = ms))) H) : rEqDI (.ref a) (.ref b) H Q := ⟨a, b, ls, ms, rfl, rfl, ea, eb, nd, hh, q⟩
theorem rd_neDI {a b : Addr} {ls ms : List (Int × Int)} (ea : H a = some (.dK (dI ls))) (eb : H b = some (.dK (dI ms))) (nd : (ls.map (·.1)).Nodup) (hh : ls = ms ∨ ls.length ≠ ms.length) (q : Q (.bl (!decide (ls = ms))) H) : rNeDI (.ref a) (.ref b) H Q := ⟨a, b, ls, ms, rfl, rfl, ea, eb, nd, hh, q⟩
/-! ### dict comprehensions -/
def DcE (D : Addr) (Nx : Hp → Prop) (y z : V) (H5 : Hp) : Prop := ∃ kvs k, y = kV k ∧ H5 D = some (.dK kvs) ∧ kvs.length < sizeLine ∧ Nx (upd H5 D (.dK (putK kvs k z)))
def DcR (J : It) (g : TG) (tt : TT) (tk tv : TE) (vs : List Nat) (σ : L2.St) (H1 : Hp) (Q : VK) : Prop := ∀ D, H1 D = none → ∃ W : Nat → Nat → Hp → Prop, (∃ m, W 0 m (upd H1 D (.dK []))) ∧ ∀ i m H, W i m H →
  (J.stop i H ∧ Q (.ref D) H) ∨ (J.go i H ∧ ∃ Nx : Hp → Prop, (∀ H', Nx H' → ∃ m', m' < m ∧ W (i + 1) m' H') ∧ ∀ x H', J.yld i H x H' → g x (wipe σ vs) H' fun σ2 H2 => wipe σ2 vs = wipe σ vs ∧ tt σ2 H2 fun b H3 =>
    if b = true then tk σ2 H3 fun y H4 => tv σ2 H4 fun z H5 => DcE D Nx y z H5 else Nx H3)
theorem rd_dc (h : wi σ H fun J H1 => DcR J g tt tk tv vs σ H1 Q) : tDc wi g tt tk tv vs σ H Q := h
theorem rd_dcE {D : Addr} {Nx : Hp → Prop} {ls : List (Int × Int)} {k w : Int} (e : H D = some (.dK (dI ls))) (l : ls.length < 100000) (n : ∀ q ∈ ls, q.1 ≠ k) (h : ∀ H', H' = upd H D (.dK (dI (ls ++ [(k, w)]))) → H' D = some (.dK (dI (ls ++ [(k, w)]))) → Nx H') : DcE D Nx (.int k) (.int w) H :=
  ⟨_, Sum.inl k, rfl, e, by rw [dI_len]; exact Nat.lt_trans l (by decide), by rw [dI_putNew n]; exact h _ rfl upd_same⟩
theorem dcR_gen (J : It) (n : Nat) (Pv : Addr → Nat → Hp → Prop) (h0 : ∀ D H', H D = none → Same H H' → H' D = some (.dK (dI [])) → H' = upd H D (.dK (dI [])) → Pv D 0 H') (hg : ∀ D i H', H D = none → i < n → Pv D i H' → J.go i H') (he : ∀ D H', H D = none → Pv D n H' → J.stop n H')
    (hs : ∀ D i H' x H2, H D = none → i < n → Pv D i H' → J.yld i H' x H2 → g x (wipe σ vs) H2 fun σ2 H2 => wipe σ2 vs = wipe σ vs ∧ tt σ2 H2 fun b H3 => if b = true then tk σ2 H3 fun y H4 => tv σ2 H4 fun z H5 => DcE D (Pv D (i + 1)) y z H5 else Pv D (i + 1) H3)
    (hd : ∀ D H', H D = none → Pv D n H' → Q (.ref D) H') : DcR J g tt tk tv vs σ H Q := by
  intro D hD
  refine ⟨fun i m H => m = n - i ∧ i ≤ n ∧ Pv D i H, ⟨n, by simp, Nat.zero_le _, h0 D _ hD (Same.new (Same.refl H) hD) upd_same rfl⟩, ?_⟩
  rintro i m H' ⟨rfl, hi, p⟩
  by_cases hlt : i < n
  · exact .inr ⟨hg D i H' hD hlt p, Pv D (i + 1), fun H2 p' => ⟨n - (i + 1), by omega, rfl, hlt, p'⟩, fun x H2 y => hs D i H' x H2 hD hlt p y⟩
  · obtain rfl : i = n := by omega
    exact .inl ⟨he D H' hD p, hd D H' hD p⟩
theorem dcR_lst {a : Addr} {xs : List V} (Pv : Addr → Nat → Hp → Prop) (hl : ∀ D i H', H D = none → Pv D i H' → SqL K H' a xs) (h0 : ∀ D H', H D = none → Same H H' → H' D = some (.dK (dI [])) → H' = upd H D (.dK (dI [])) → Pv D 0 H')
    (hs : ∀ D i x H', H D = none → xs[i]? = some x → Pv D i H' → g x (wipe σ vs) H' fun σ2 H2 => wipe σ2 vs = wipe σ vs ∧ tt σ2 H2 fun b H3 => if b = true then tk σ2 H3 fun y H4 => tv σ2 H4 fun z H5 => DcE D (Pv D (i + 1)) y z H5 else Pv D (i + 1) H3)
    (hd : ∀ D H', H D = none → Pv D xs.length H' → Q (.ref D) H') : DcR (Itl K a) g tt tk tv vs σ H Q :=
  dcR_gen _ xs.length Pv h0 (fun D i H' hD h p => ⟨xs, xs[i], hl D i H' hD p, by simp [h]⟩) (fun D H' hD p => ⟨xs, hl D _ H' hD p, Nat.le_refl _⟩)
    (fun D i H' x H2 hD hi p ⟨e1, e2⟩ => by subst e1; exact hs D i x _ hD (e2 xs (hl D i _ hD p)) p) hd
/-! ### the keys of a dict that is walked -/
def KeysR (R : It → Hp → Prop) (x : V) (H : Hp) : Prop := ∃ d o, x = .ref d ∧ ((∃ kvs, H d = some (.frz o (.dK kvs)) ∧ R (Itk d o kvs) H) ∨ ∃ kvs, H d = some (.frz o (.dT kvs)) ∧ R (Itkt d o kvs) H)
theorem rd_iKeys {R : It → Hp → Prop} (h : td σ H fun x H1 => KeysR R x H1) : iKeys td σ H R := h
theorem rd_keysR {R : It → Hp → Prop} {d : Addr} {o : Obj} {kvs : List (Key × V)} (e : H d = some (.frz o (.dK kvs))) (h : R (Itk d o kvs) H) : KeysR R (.ref d) H := ⟨d, o, rfl, .inl ⟨kvs, e, h⟩⟩
theorem rd_lock {d : Addr} {u : HO} (e : H d = some u) (m : Mut (some u)) (h : ∀ od, te σ (upd H d (.frz od u)) fun v H' => H' d = some (.frz od u) ∧ Q v (upd H' d u)) : tLockE te σ H Q := ⟨d, u, e, m, h⟩
theorem dcR_keys {d : Addr} {o : Obj} {kvs : List (Key × V)} (Pv : Addr → Nat → Hp → Prop) (hl : ∀ D i H', H D = none → Pv D i H' → H' d = some (.frz o (.dK kvs))) (h0 : ∀ D H', H D = none → Same H H' → H' D = some (.dK (dI [])) → H' = upd H D (.dK (dI [])) → Pv D 0 H')
    (hs : ∀ D i k z H', H D = none → kvs[i]? = some (k, z) → Pv D i H' → g (kV k) (wipe σ vs) H' fun σ2 H2 => wipe σ2 vs = wipe σ vs ∧ tt σ2 H2 fun b H3 => if b = true then tk σ2 H3 fun y H4 => tv σ2 H4 fun z H5 => DcE D (Pv D (i + 1)) y z H5 else Pv D (i + 1) H3)
    (hd : ∀ D H', H D = none → Pv D kvs.length H' → Q (.ref D) H') : DcR (Itk d o kvs) g tt tk tv vs σ H Q :=
  dcR_gen _ kvs.length Pv h0 (fun D i H' hD h p => ⟨hl D i H' hD p, h⟩) (fun D H' hD p => ⟨hl D _ H' hD p, Nat.le_refl _⟩)
    (fun D i H' x H2 hD hi p ⟨e1, k, v, e2, e3⟩ => by subst e1; subst e3; exact hs D i k v _ hD e2 p) hd
theorem lcR_keys {d : Addr} {o : Obj} {kvs : List (Key × V)} (Pv : Addr → Nat → Hp → Prop) (hl : ∀ D i H', H D = none → Pv D i H' → H' d = some (.frz o (.dK kvs))) (h0 : ∀ D H', H D = none → Same H H' → H' D = some (.lst []) → H' = upd H D (.lst []) → Pv D 0 H')
    (hs : ∀ D i k z H', H D = none → kvs[i]? = some (k, z) → Pv D i H' → g (kV k) (wipe σ vs) H' fun σ2 H2 => wipe σ2 vs = wipe σ vs ∧ tt σ2 H2 fun b H3 => if b = true then te σ2 H3 fun y H4 => LcE D (Pv D (i + 1)) y H4 else Pv D (i + 1) H3)
    (hd : ∀ D H', H D = none → Pv D kvs.length H' → Q (.ref D) H') : LcR (Itk d o kvs) g tt te vs σ H Q :=
  lcR_gen _ kvs.length Pv h0 (fun D i H' hD h p => ⟨hl D i H' hD p, h⟩) (fun D H' hD p => ⟨hl D _ H' hD p, Nat.le_refl _⟩)
    (fun D i H' x H2 hD hi p ⟨e1, k, v, e2, e3⟩ => by subst e1; subst e3; exact hs D i k v _ hD e2 p) hd
end
end Sl
set_option Elab.async false
set_option linter.all false
set_option maxRecDepth 100000
set_option maxHeartbeats 4000000
/-! ### t != u of tuples whose items are all equal, one of them a dict -/
namespace GQ
open PySem PySem.SeqAt
open AutoSeq1 (wpAny_loadPart')
open MeetsSeq MeetsSeq2 MeetsSeq3 SeqRoads2
section
variable {prog : Program} {w : World} {A : Around} {R : Result → Shared → Prop} {E : Value → Shared → Prop}
theorem tup_neT (t u : Addr) (xs ys : Array Value) (n m : Nat) (d1 d2 : Option Addr) (l1 l2 : Array (Option Value)) (len : xs.size = ys.size) {s : Shared}
    (each : ∀ i (h1 : i < xs.size) (h2 : i < ys.size) (E' : Value → Shared → Prop) (Q : Bool → Shared → Prop), Q true s → wpAny (model prog w) A.in1 (eqBool xs[i] ys[i]) Q E' s)
    (e1 : s.heap.get? t = some { cls := .type "tuple", dict := d1, data := .seq xs n, slots := l1 }) (e2 : s.heap.get? u = some { cls := .type "tuple", dict := d2, data := .seq ys m, slots := l2 }) (fin : R (.ok (.ret (.bool false))) s) :
    wpAny (model prog w) A.in1 (Builtin.«tuple.__ne__» ⟨[.ref t, .ref u], []⟩) (FinOf prog w A R) (fun e s' => R (.error e) s') s := by
  have f2 := AutoSeq1.sub_tuple_tuple
  have hz : (xs.toList.zip ys.toList).length = xs.size := by simp [len]
  obtain ⟨hp, gn, dr, tk, os⟩ := s
  wp_walk using wpAny_loadPart' e1, wpAny_loadPart' e2, wpAny_forIn_list _ (fun rest b s' => b.1 = none ∧ s' = (⟨hp, gn, dr, tk, os⟩ : Shared) ∧ ∃ i, rest = (xs.toList.zip ys.toList).drop i ∧ i ≤ xs.size) _
  case turn =>
    rintro ⟨y, x⟩ rest b s' ⟨hb, rfl, i, hr, hi⟩
    have lt : i < (xs.toList.zip ys.toList).length := by
      rcases Nat.lt_or_ge i (xs.toList.zip ys.toList).length with z | z
      · exact z
      · rw [List.drop_of_length_le z] at hr
        cases hr
    have h1 : i < xs.size := hz ▸ lt
    have h2 : i < ys.size := len ▸ h1
    rw [List.drop_eq_getElem_cons lt] at hr
    injection hr with q1 q2
    obtain rfl : y = xs[i] := by simpa using congrArg Prod.fst q1
    obtain rfl : x = ys[i] := by simpa using congrArg Prod.snd q1
    refine wpAny_bind (each i h1 h2 _ _ ?_)
    wp_walk
    exact ⟨rfl, rfl, i + 1, q2, h1⟩
  case fin =>
    rintro ⟨b1, b2⟩ s' ⟨hb, rfl, i, hr, hi⟩
    simp only at hb
    subst hb
    wp_walk
    simpa [Builtin.Tuple.tupleCompareSizes, len] using fin
  case h =>
    exact ⟨rfl, rfl, 0, rfl, Nat.zero_le _⟩
theorem rcne_tup {t u : Addr} {xs ys : Array Value} {Q : Value → Shared → Prop} {s : Shared} (len : xs.size = ys.size) (hu : A.units < cLine) (h1 : s.heap.IsTuple t xs) (h2 : s.heap.IsTuple u ys)
    (each : ∀ i (h1 : i < xs.size) (h2 : i < ys.size) (E' : Value → Shared → Prop) (Q : Bool → Shared → Prop), Q true s → wpAny (model prog w) A.in1 (eqBool xs[i] ys[i]) Q E' s) (fin : Q (.bool false) s) : wpAny (model prog w) A (richCompare .NotEq (.ref t) (.ref u)) Q E s := by
  obtain ⟨⟨c1, d1, k1, l1⟩, o1, z1, n, y1⟩ := id h1
  obtain ⟨⟨c2, d2, k2, l2⟩, o2, z2, m, y2⟩ := id h2
  simp only at z1 y1 z2 y2
  subst z1 y1 z2 y2
  refine wpAny_richCompare_same_room (op := .NotEq) ⟨_, o1, rfl⟩ ⟨_, o2, rfl⟩ F.slot_tuple_ne (call_here F.slot_tuple_ne ⟨_, o1, rfl⟩ F.entry_tuple_ne (F.args_tuple_ne_2 _ _) ?_) hu
  exact tup_neT (R := wants (fun v s' => v ≠ .notImplemented ∧ Q v s') E) t u xs ys n m d1 d2 l1 l2 len each o1 o2 ⟨(fun x => nomatch x), fin⟩
end
end GQ
namespace L2
open PySem PySem.Spec PyProof.Rows
section
variable {X : Cx}
/-- (i, d) != (i, e), d and e equal dicts -/
def rNePD (K : PySem.W.Frag) : R2 := fun x y H Q => ∃ t u i a b ls, x = .ref t ∧ y = .ref u ∧ H t = some (.tup [.int i, .ref a]) ∧ H u = some (.tup [.int i, .ref b]) ∧ H a = some (.dK (dI ls)) ∧ H b = some (.dK (dI ls)) ∧ (ls.map (·.1)).Nodup ∧ Q (.bl false) H
theorem op_nePD (hu : X.A.units + 64 < cLine) : OpR X (compareOp .NotEq) (rNePD X.K) := by
  intro pins s σ H x y v u' Q I rx ry h
  obtain ⟨t, u, i, a, b, ls, rfl, rfl, et, eu, ea, eb, nd, q⟩ := h
  obtain rfl : v = Value.ref t := rx
  obtain rfl : u' = Value.ref u := ry
  obtain ⟨xs, r1, p1, _⟩ := I.tuple (SqT.of et)
  obtain ⟨ys, r2, p2, _⟩ := I.tuple (SqT.of eu)
  obtain ⟨x1, x2, rfl, ⟨tx, rfl⟩, w2⟩ := vals2 r1
  obtain ⟨y1, y2, rfl, ⟨ty, rfl⟩, z2⟩ := vals2 r2
  obtain rfl : x2 = Value.ref a := w2
  obtain rfl : y2 = Value.ref b := z2
  obtain ⟨_, ya, va, ra, da⟩ := (show ObjOk X.prog X.w H s.heap a (.dK (dI ls)) from I.hok a _ ea)
  obtain ⟨_, yb, vb, rb, db⟩ := (show ObjOk X.prog X.w H s.heap b (.dK (dI ls)) from I.hok b _ eb)
  show wpAny (model X.prog X.w) X.A (richCompare .NotEq (.ref t) (.ref u)) (EP X pins σ Q) X.xe s
  refine GQ.rcne_tup (by simp) (by omega) p1 p2 (fun j h1 h2 E' Q' q' => ?_) ⟨.bl false, H, I, rfl, q⟩
  match j, h1, h2 with
  | 0, _, _ => exact (eqAt_same (A := X.A.in1) (s := s) (show RelV (V.int i) (Value.int i tx) from ⟨tx, rfl⟩) (show RelV (V.int i) (Value.int i ty) from ⟨ty, rfl⟩) rfl) X.prog X.w E' Q' q'
  | 1, _, _ =>
    show wpAny (model X.prog X.w) X.A.in1 (eqBool (Value.ref a) (Value.ref b)) Q' E' s
    by_cases c : a = b
    · subst c
      exact SeqAt.EqAt.same (A := X.A.in1) (s := s) (.ref a) X.prog X.w E' Q' q'
    · refine GQ.eqBool_refG c ?_
      show wpAny (model X.prog X.w) X.A.in1 (compareOp .Eq (.ref a) (.ref b)) _ E' s
      refine PySem.W.keq_eq (knd := mixKind X.prog X.w) (r := true) ya yb da db (by show X.A.units + 1 < cLine; omega) (fun e => (dI_hits nd (.inl rfl) ra rb e).2) ?_
      rw [dI_ans (.inl rfl) ra rb, decide_eq_true rfl]
      exact ⟨true, rfl, q'⟩
  | j + 2, h1, _ => exact absurd h1 (by simp)
end
end L2
namespace Sl
open PySem L2 C8 StX
theorem rd_nePD {K : PySem.W.Frag} {H : Hp} {Q : VK} {t u a b : Addr} {i : Int} {ls : List (Int × Int)} (et : H t = some (.tup [.int i, .ref a])) (eu : H u = some (.tup [.int i, .ref b])) (ea : H a = some (.dK (dI ls))) (eb : H b = some (.dK (dI ls))) (nd : (ls.map (·.1)).Nodup) (q : Q (.bl false) H) : rNePD K (.ref t) (.ref u) H Q :=
  ⟨t, u, i, a, b, ls, rfl, rfl, et, eu, ea, eb, nd, q⟩
end Sl
set_option Elab.async false
set_option linter.all false
set_option maxRecDepth 100000
set_option maxHeartbeats 4000000
namespace L2
open PySem PySem.Spec PyProof.Rows
/-! ### sum(d.values()) of a dict from ints to ints -/
def rSumV (x : V) (H : Hp) (Q : VK) : Prop := ∃ a ls, x = V.ref a ∧ H a = some (.dK (dI ls)) ∧ Q (.int ((ls.map (·.2)).sum)) H
def tSumV (td : TE) : TE := fun σ H Q => td σ H fun x H1 => rSumV x H1 Q
theorem dI_vals (ls : List (Int × Int)) : (dI ls).map (·.2) = (ls.map (·.2)).map V.int := by unfold dI; rw [List.map_map, List.map_map]; rfl
theorem preSum_list (l : List Int) : ∀ n : Nat, preSum (fun i => l.getD i 0) n = (l.take n).sum
  | 0 => by simp [preSum]
  | n + 1 => by
    rw [preSum, preSum_list l n, List.take_succ, List.sum_append]
    cases e : l[n]? with
    | none => simp [List.getD_eq_getElem?_getD, e]
    | some x => simp [List.getD_eq_getElem?_getD, e]
section
variable {X : Cx} {o : Expr} {p pos apos mpos : Pos} {td : TE}
theorem pe_sumVals (hc : X.calm = true) (hg : Gl X "sum") (hm : X.mg "sum" = none) (hd : PE X o td) (base : attributeBase o "values" X.env (eval o X.env) = eval o X.env := by rfl) (line : (apos.endLine == mpos.line) = true := by rfl)
    (each : starEach [Expr.Call (.Attribute o "values" apos) [] [] mpos] X.env = [(false, eval (Expr.Call (.Attribute o "values" apos) [] [] mpos) X.env)] := by rfl) : PE X (.Call (.Name "sum" p) [.Call (.Attribute o "values" apos) [] [] mpos] [] pos) (tSumV td) := by
  refine ⟨fun pins s σ H Q I h => wpAny_Call_Name_kw (ld_blt I hg hm (u := .builtin "sum") (by first | rfl | decide +kernel) ?_ (by first | decide +kernel | decide) (by first | decide +kernel | decide))⟩
  rw [each]
  refine PySem.callWith_builtin1 (wpAny_Call_method0_late base line (thn (hd.run pins s σ H _ I h) fun v s1 z => ?_))
  obtain ⟨x, H1, I1, rx, a, ls, rfl, ea, q⟩ := z
  obtain rfl : v = Value.ref a := rx
  obtain ⟨_, low, vs, rel, dof⟩ := dk_of I1.hok ea
  obtain ⟨ep, dat⟩ := dof.dictAt
  obtain ⟨ob, es, ho, ex, _⟩ := id dat
  refine ⟨"dict", "dict.values", F.plainAttrs_dict, F.slot_dict_values, F.type_dict_values, ⟨ob, ho, ex.1⟩, fun b e => (by cases e; exact ⟨ob, ho, ex.2.1⟩), Calls.callWith_builtin rfl (PySem.evalArgs_none (call_meetsIn F.slot_dict_values ⟨ob, ho, ex.1⟩ F.entry_dict_values (F.args_dict_values_1 _) (meets_dict_values (mixKind X.prog X.w) a low) ⟨⟨vs, dof⟩, ?_⟩))⟩
  have kept1 : ∀ b u, s1.heap.get? b = some u → (s1.heap.push { cls := .type "dict_values", data := .fields #[.ref a] }).get? b = some u := fun _ _ e => Heap.get?_push_of_some _ e
  have dat1 := dat.keep kept1
  have lt : a < s1.heap.objs.size := Heap.lt_size ho
  have sz : (s1.heap.push { cls := .type "dict_values", data := .fields #[.ref a] }).objs.size = s1.heap.objs.size + 1 := Heap.size_push _ _
  have lv : vs.length = ls.length := by rw [← rel.length, dI_len]
  have val : ∀ (i : Nat) (v : Value), (∃ k, vs[i]? = some (k, v)) → ∃ t, v = Value.int ((ls.map (·.2)).getD i 0) t := by
    rintro i v ⟨k, hk⟩
    obtain ⟨x, h1, h2⟩ := KV.at' rel hk
    have e : ((dI ls).map (·.2))[i]? = some x := by rw [List.getElem?_map, h1]; rfl
    rw [dI_vals, List.getElem?_map] at e
    cases w : (ls.map (·.2))[i]? with
    | none => rw [w] at e; cases e
    | some j =>
      rw [w] at e
      cases e
      obtain ⟨t, rfl⟩ := h2
      refine ⟨t, ?_⟩
      rw [List.getD_eq_getElem?_getD, w]; rfl
  refine call_sum_walkG (wpAny_pyIter_values (v := s1.heap.objs.size) (d := a) ⟨_, Heap.get?_push_size _ rfl, rfl, rfl⟩ dat1 ⟨_, _, _, _, _, _, fun i => (ls.map (·.2)).getD i 0, rfl,
    Walks.dictValues (knd := mixKind X.prog X.w) (A := X.A.in1) (I.ok.hd hc) _ a (by rw [sz]; exact Nat.ne_of_lt (Nat.lt_succ_of_lt lt)) vs ep, ⟨⟨_, Heap.get?_push_size _ rfl, rfl, rfl⟩, dat1.keep fun _ _ e => Heap.get?_push_of_some _ e⟩, fun b hb => ?_, val, fun h' tk t' kp => ?_⟩)
  · show b < ((s1.heap.push _).push _).objs.size
    rw [Heap.size_push, sz]
    rcases List.mem_cons.mp hb with e | hb
    · rw [e, sz]; exact Nat.lt_succ_self _
    · rw [List.mem_singleton.mp hb]; exact Nat.lt_succ_of_lt (Nat.lt_succ_of_lt lt)
  · have es : preSum (fun i => (ls.map (·.2)).getD i 0) vs.length = (ls.map (·.2)).sum := by
      rw [preSum_list, List.take_of_length_le (by rw [List.length_map, lv]; exact Nat.le_refl _)]
    rw [es]
    refine ⟨.int _, H1, I1.kept (t' := tk) fun b u e => kp b u (fun mem => ?_) (Heap.get?_push_of_some _ (kept1 b u e)), ⟨t', rfl⟩, q⟩
    have e2 := Heap.lt_size e
    rw [List.mem_singleton.mp mem, sz] at e2
    exact Nat.lt_irrefl _ (Nat.lt_of_succ_lt e2)
end
end L2
namespace Sl
open PySem L2 C8 StX
section
variable {σ : L2.St} {H : Hp} {Q : VK} {td ty tx : TE}
theorem rd_sumV0 (h : td σ H fun x H1 => rSumV x H1 Q) : tSumV td σ H Q := h
theorem rd_sumV {a : Addr} {ls : List (Int × Int)} (e : H a = some (.dK (dI ls))) (h : Q (.int ((ls.map (·.2)).sum)) H) : rSumV (.ref a) H Q := ⟨a, ls, rfl, e, h⟩
/-- d.get(k, z) -/
def rGetD (x : V) (ty tx : TE) (σ : L2.St) (H1 : Hp) (Q : VK) : Prop := ∃ a, x = .ref a ∧ IsD H1 a ∧ ty σ H1 fun y H2 => tx σ H2 fun z H3 => ∃ o, DGet H3 a y o ∧ Q (o.getD z) H3
theorem rd_getD0 (h : td σ H fun x H1 => rGetD x ty tx σ H1 Q) : tDGet2 td ty tx σ H Q := h
def rGetD2 (a : Addr) (y z : V) (H3 : Hp) (Q : VK) : Prop := ∃ o, DGet H3 a y o ∧ Q (o.getD z) H3
theorem rd_getD {a : Addr} {kvs : List (Key × V)} (e : Rd H a (.dK kvs)) (h : ty σ H fun y H2 => tx σ H2 fun z H3 => rGetD2 a y z H3 Q) : rGetD (.ref a) ty tx σ H Q := ⟨a, rfl, .inl ⟨kvs, e⟩, h⟩
theorem rd_getD2 {a : Addr} {ls : List (Int × Int)} {k w z : Int} (e : Rd H a (.dK (dI ls))) (l : (valV (dI ls) (Sum.inl k)).getD (.int z) = .int w) (h : Q (.int w) H) : rGetD2 a (.int k) (.int z) H Q := ⟨_, .inl ⟨_, Sum.inl k, e, rfl, rfl⟩, by rw [l]; exact h⟩
theorem rd_dinI {a : Addr} {ls : List (Int × Int)} {k : Int} (e : H a = some (.dK (dI ls))) (h : Q (.bl (valV (dI ls) (Sum.inl k)).isSome) H) : rDIn (.int k) (.ref a) H Q := ⟨a, _, rfl, DGet.k (k := Sum.inl k) e, h⟩
end
/-! ### truth of one of two classes of evidence -/
end Sl
namespace L2
open PySem PySem.Spec PyProof.Rows
section
variable {X : Cx} {k k2 j : Nat} {C D : Addr} {sp sp2 : Sp} {dvs dvs2 : List V} {a : Expr} {ta : TE}
def tTruO2 (C D : Addr) (sp sp2 : Sp) (dvs dvs2 : List V) (ta : TE) : TT := fun σ H Q => ta σ H fun x H1 => ∃ a dx fs, x = .ref a ∧ ((H1 a = some (.ins C dx fs) ∧ sp ([.ref a] ++ dvs) H1 (fun v H2 => ∃ b, v = .bl b ∧ Q b H2) C8.E0) ∨ (H1 a = some (.ins D dx fs) ∧ sp2 ([.ref a] ++ dvs2) H1 (fun v H2 => ∃ b, v = .bl b ∧ Q b H2) C8.E0))
theorem pt_own2 (c : C8.Met X.prog X.w X.K X.mg X.base k C "__bool__" sp dvs) (c2 : C8.Met X.prog X.w X.K X.mg X.base k2 D "__bool__" sp2 dvs2) (hr : Room j X.A) (hk : k ≤ j) (hk2 : k2 ≤ j) (ha : PE X a ta) (he : ∀ whole, isTrue a X.env whole = (do let v ← whole; standAt a.pos; holding [v] (truthy v)) := by intro _; rfl) : PT X a (tTruO2 C D sp sp2 dvs dvs2 ta) := by
  refine ⟨fun pins s σ H Q I h => isTrue_plain (thn (ha.run pins s σ H _ I h) fun v s1 z => ?_) (he _)⟩
  obtain ⟨x, H1, I1, rx, o, dx, fs, rfl, z⟩ := z
  obtain rfl : v = Value.ref o := rx
  obtain ⟨m, F0⟩ := I1.fr
  rcases z with ⟨e, q⟩ | ⟨e, q⟩
  · obtain ⟨f, fd, ps, ds, cl, hm, F, bd, d⟩ := c.ex
    obtain ⟨mA, O, _, _, _, _⟩ := ins_get I1.hok e
    obtain ⟨od, J, _⟩ := O.look
    refine PySem.W.truthy_K F0 I1.ok.mod.kin J hm.at_ hm.fn (wpAny_mono (run_fn (us := [.ref o]) (vs := [.ref o]) F (hr.mono hk) bd d C8.pass0 I1 (.cons rfl .nil) q) (fun v s2 y => ?_) fun _ _ y => y)
    obtain ⟨x2, H2, I2, rx2, b, rfl, q2⟩ := y
    obtain rfl : v = Value.bool b := rx2
    exact ⟨H2, I2, q2⟩
  · obtain ⟨f, fd, ps, ds, cl, hm, F, bd, d⟩ := c2.ex
    obtain ⟨mA, O, _, _, _, _⟩ := ins_get I1.hok e
    obtain ⟨od, J, _⟩ := O.look
    refine PySem.W.truthy_K F0 I1.ok.mod.kin J hm.at_ hm.fn (wpAny_mono (run_fn (us := [.ref o]) (vs := [.ref o]) F (hr.mono hk2) bd d C8.pass0 I1 (.cons rfl .nil) q) (fun v s2 y => ?_) fun _ _ y => y)
    obtain ⟨x2, H2, I2, rx2, b, rfl, q2⟩ := y
    obtain rfl : v = Value.bool b := rx2
    exact ⟨H2, I2, q2⟩
end
end L2
namespace Sl
open PySem L2 C8 StX
section
variable {σ : L2.St} {H : Hp} {QB : Bool → Hp → Prop} {C D : Addr} {sp sp2 : Sp} {dvs dvs2 : List V} {ta : TE}
def rTruO2 (C D : Addr) (sp sp2 : Sp) (dvs dvs2 : List V) (x : V) (H1 : Hp) (Q : Bool → Hp → Prop) : Prop := ∃ a dx fs, x = .ref a ∧ ((H1 a = some (.ins C dx fs) ∧ sp ([.ref a] ++ dvs) H1 (fun v H2 => ∃ b, v = .bl b ∧ Q b H2) C8.E0) ∨ (H1 a = some (.ins D dx fs) ∧ sp2 ([.ref a] ++ dvs2) H1 (fun v H2 => ∃ b, v = .bl b ∧ Q b H2) C8.E0))
theorem rd_truO20 (h : ta σ H fun x H1 => rTruO2 C D sp sp2 dvs dvs2 x H1 QB) : tTruO2 C D sp sp2 dvs dvs2 ta σ H QB := h
theorem rd_truO2a {a dx : Addr} {fs : List (Str × V)} (e : H a = some (.ins C dx fs)) (h : sp ([.ref a] ++ dvs) H (fun v H2 => ∃ b, v = .bl b ∧ QB b H2) C8.E0) : rTruO2 C D sp sp2 dvs dvs2 (.ref a) H QB := ⟨a, dx, fs, rfl, .inl ⟨e, h⟩⟩
theorem rd_truO2b {a dx : Addr} {fs : List (Str × V)} (e : H a = some (.ins D dx fs)) (h : sp2 ([.ref a] ++ dvs2) H (fun v H2 => ∃ b, v = .bl b ∧ QB b H2) C8.E0) : rTruO2 C D sp sp2 dvs dvs2 (.ref a) H QB := ⟨a, dx, fs, rfl, .inr ⟨e, h⟩⟩
end
end Sl
/-! ### walks over the keys of a dict as a statement; a list turned round -/
namespace Sl
open PySem L2 C8 StX
section
variable {σ : L2.St} {H : Hp} {g : TG} {tb : TS} {te : TE} {nx bk ct : L2.St → Hp → Prop} {rt : VK} {K : PySem.W.Frag} {Q : VK} {D : Ends} {t : TS}
theorem forR_keys {d : Addr} {o : Obj} {kvs : List (Key × V)} (Pv : Nat → L2.St → Hp → Prop) (hl : ∀ i σ H, Pv i σ H → H d = some (.frz o (.dK kvs))) (h0 : Pv 0 σ H) (hs : ∀ i k z σ H, kvs[i]? = some (k, z) → Pv i σ H → g (kV k) σ H fun σ2 H2 => tb ⟨Pv (i + 1), rt, nx, Pv (i + 1)⟩ σ2 H2) (hd : ∀ σ H, Pv kvs.length σ H → nx σ H) :
    ForR (Itk d o kvs) g tb ⟨nx, rt, bk, ct⟩ σ H := forR_gen _ kvs.length Pv h0 (fun i σ H hi p => ⟨hl i σ H p, hi⟩) (fun σ H p => ⟨hl _ σ H p, Nat.le_refl _⟩)
      (fun i σ H x H' hi p ⟨e1, k, v, e2, e3⟩ => by subst e1; subst e3; exact hs i k v σ _ e2 p) hd
theorem rd_lockS {d : Addr} {u : HO} (e : H d = some u) (m : Mut (some u)) (h : ∀ od HL, HL = upd H d (.frz od u) → HL d = some (.frz od u) → t ⟨fun σ' H' => H' d = some (.frz od u) ∧ nx σ' (upd H' d u), fun v H' => H' d = some (.frz od u) ∧ rt v (upd H' d u), fun σ' H' => H' d = some (.frz od u) ∧ bk σ' (upd H' d u), fun σ' H' => H' d = some (.frz od u) ∧ ct σ' (upd H' d u)⟩ σ HL) : tLock t ⟨nx, rt, bk, ct⟩ σ H :=
  ⟨d, u, e, m, fun od => h od _ rfl upd_same⟩
def rRevL (K : PySem.W.Frag) (x : V) (H : Hp) (Q : VK) : Prop := ∃ a xs, x = .ref a ∧ SqL K H a xs ∧ ∀ p, H p = none → Q (.ref p) (upd H p (.lst xs.reverse))
theorem rd_revL0 (h : te σ H fun x H1 => rRevL K x H1 Q) : tRevL K te σ H Q := h
theorem rd_revL {a : Addr} {xs : List V} (e : SqL K H a xs) (h : ∀ p H', H p = none → Same H H' → H' p = some (.lst xs.reverse) → Q (.ref p) H') : rRevL K (.ref a) H Q :=
  ⟨a, xs, rfl, e, fun p hp => h p _ hp (Same.new (Same.refl H) hp) upd_same⟩
end
end Sl
set_option Elab.async false
set_option linter.all false
set_option maxRecDepth 100000
set_option maxHeartbeats 4000000
set_option exponentiation.threshold 9000
namespace LamK
open PySem PySem.Spec PyProof.Rows L2 NdefX LamX
/-- a lambda: its words, the cells that it captured, its code object -/
structure LF where
  qual : Str
  params : Arguments
  body : Expr
  scope : Scope
  cl : List (Str × Addr)
  c : Addr
abbrev LF.obj (F : LF) (pm ctv : Value) : Obj := PySem.W.kla_obj "<lambda>" F.qual F.params F.body F.scope F.cl pm F.c ctv
/-- the object at f is the lambda F -/
def FnL (f : Addr) (F : LF) : HO := .ext fun h => ∃ (sl : Array (Option Value)) (pm ctv : Value), h.get? f = some ({ F.obj pm ctv with slots := sl } : Obj)
theorem fnL_ne {f : Addr} {F : LF} (ps : Array Value) : FnL f F ≠ .tbl ps := fun z => by
  unfold FnL at z
  cases z
theorem fnL_at {P : Program} {w : World} {H : Hp} {h : Heap} {f : Addr} {F : LF} (hok : HOk P w H h) (e : H f = some (FnL f F)) : ∃ (sl : Array (Option Value)) (pm ctv : Value), h.get? f = some ({ F.obj pm ctv with slots := sl } : Obj) := by
  obtain ⟨z, _, _⟩ := hok f _ e
  exact z
section
variable {X : Cx} {pins : List (Addr × Obj)} {σ : L2.St} {H : Hp} {s : Shared}
theorem inv_fnL {F : LF} {o : Obj} {t' : Nat} {pm ctv : Value} (I : Inv X pins σ H s) (ho : o = F.obj pm ctv) :
    Inv X pins σ (upd H s.heap.objs.size (FnL s.heap.objs.size F)) { s with heap := s.heap.push o, toks := t' } := by
  subst ho
  refine I.laid (a := s.heap.objs.size) (fun b u e => Heap.get?_push_of_some _ e) (Nat.le_refl _) ?_
  have e : (s.heap.push (F.obj pm ctv)).get? s.heap.objs.size = some (F.obj pm ctv) := Heap.get?_push_size _ rfl
  exact ⟨⟨_, pm, ctv, e⟩, ⟨_, e⟩, fun h1 h2 ⟨sl, p, t, z⟩ st => ⟨sl, p, t, st _ z⟩⟩
/-- the lambda's object is made: its code object is new, or found in the table -/
theorem lamL_make {T : List (Addr × Str)} {c P : Addr} {params : Arguments} {body : Expr} {scope : Scope} {pos : Pos} {E : Value → Shared → Prop} {Q : Value → Shared → Prop} (I : Inv X pins σ H s) (TB : TabB X.base X.mg c P) (hcode : X.env.code = .ref c)
    (hm : (P, X.env.qual ++ "<lambda>") ∈ T) (hu : ∀ p ∈ T, p.1 = P → p.2 = X.env.qual ++ "<lambda>") (hT : Tabs T H) (hdef : defaultsOf params X.env = ([], [])) (hfree : ∀ y ∈ scope.names, y.2 = .free → ∃ c, X.env.cells.lookup y.1 = some c)
    (h : ∀ (f c' : Addr) (H1 : Hp) (s' : Shared), Inv X pins σ H1 s' → ExtN H H1 → (∀ b, H1 b = Option.none → H b = Option.none) → Tabs T H1 → H f = none → H1 f = some (FnL f ⟨X.env.qual ++ "<lambda>", params, body, scope, cloFrom X.env.cells scope.names [], c'⟩) → H1 c' = some (CodeO c' (X.env.qual ++ "<lambda>")) → Q (.ref f) s') :
    wpAny (model X.prog X.w) X.A (eval (.Lambda params body scope pos) X.env) Q E s := by
  obtain ⟨ps, hP, ht, ha⟩ := hT _ hm
  refine PySem.W.kla_eval hdef ?_
  have bP : s.heap.BuiltinsAt X.mg P := TB.bm.keeps I.bk
  have hP' : s.heap.get? P = some { cls := .none, data := .fields ps } := I.hok P _ hP
  cases hc : codeAmong pos ps.toList with
  | none =>
    refine PySem.W.kla_makeFunction (mg := X.mg) (c := c) (P := P) (ps := ps) (closure_ok hfree) I.ok.glob (I.mod.glob.keeps I.bk) hcode (TB.code.keeps I.bk) hP' ht hc TB.gP bP fun c' ctv h' tk hx hge hlt hrec htb => ?_
    obtain ⟨c2, oc, vs, t, e2, hoc, hd, hv⟩ := hrec
    cases e2
    have nC : H c' = none := I.hok.fresh hge
    have I1 := inv_table (t' := tk) (more := #[rawInt pos.line, rawInt pos.col, .ref c']) (h' := h') I hP (fun b o hb e => hx b o hb e) htb hge ⟨oc, vs, t, hoc, hd, hv⟩
    have hE : ExtN H (upd (upd H P (.tbl (ps ++ #[rawInt pos.line, rawInt pos.col, .ref c']))) c' (CodeO c' (X.env.qual ++ "<lambda>"))) := fun b o e n => by
      rw [upd_ne (ne_of_none e nC), upd_ne (fun z => n ps (Option.some.inj (e.symm.trans (by rw [z]; exact hP))))]
      exact e
    have eL : (ps ++ #[rawInt pos.line, rawInt pos.col, .ref c']).toList = ps.toList ++ [rawInt pos.line, rawInt pos.col, .ref c'] := by simp
    have T1 : Tabs T (upd (upd H P (.tbl (ps ++ #[rawInt pos.line, rawInt pos.col, .ref c']))) c' (CodeO c' (X.env.qual ++ "<lambda>"))) := fun p hp => by
      by_cases hb : p.1 = P
      · rw [hu p hp hb, hb]
        refine ⟨_, by rw [upd_ne (ne_of_none hP nC), upd_same], by rw [eL]; exact PySem.TriplesOk_snoc _ _ _ _ ht, fun p' cv hcv => ?_⟩
        rw [eL] at hcv
        rcases among_app _ ht hcv with z | z
        · obtain ⟨c0, e1, e2⟩ := ha p' cv z
          exact ⟨c0, e1, hE _ _ e2 codeO_ne⟩
        · exact ⟨c', z, upd_same⟩
      · obtain ⟨ps', a1, a2, a3⟩ := hT p hp
        refine ⟨ps', by rw [upd_ne (ne_of_none a1 nC), upd_ne hb]; exact a1, a2, fun p' cv hcv => ?_⟩
        obtain ⟨c0, e1, e2⟩ := a3 p' cv hcv
        exact ⟨c0, e1, hE _ _ e2 codeO_ne⟩
    have nF := I1.hok.fresh (Nat.le_refl _)
    have I2 := inv_fnL (F := ⟨X.env.qual ++ "<lambda>", params, body, scope, cloFrom X.env.cells scope.names [], c'⟩) (t' := tk) (pm := (X.mg "__name__").getD .none) (ctv := ctv) I1 rfl
    refine h h'.objs.size c' _ _ I2 (fun b o e n => ?_) (fun b e => upd_none (upd_none (upd_none e))) (T1.ext fun b o e => ?_) (I.hok.fresh (Nat.le_trans hge (Nat.le_of_lt hlt))) upd_same ?_
    · have e1 := hE b o e n
      exact (upd_ne (ne_of_none e1 nF)).trans e1
    · exact (upd_ne (ne_of_none e nF)).trans e
    · exact (upd_ne (Nat.ne_of_lt hlt)).trans upd_same
  | some cv =>
    obtain ⟨c', e, hco⟩ := ha pos cv hc
    subst e
    refine PySem.W.kla_makeFunctionHit (mg := X.mg) (c := c) (P := P) (ps := ps) (closure_ok hfree) I.ok.glob (I.mod.glob.keeps I.bk) hcode (TB.code.keeps I.bk) hP' ht hc bP fun ctv h' tk hx hsz => ?_
    have I1 : Inv X pins σ H { s with heap := h', toks := tk } := I.kept hx
    have nF : H h'.objs.size = none := I1.hok.fresh (Nat.le_refl _)
    have I2 := inv_fnL (F := ⟨X.env.qual ++ "<lambda>", params, body, scope, cloFrom X.env.cells scope.names [], c'⟩) (t' := tk) (pm := (X.mg "__name__").getD .none) (ctv := ctv) I1 rfl
    refine h h'.objs.size c' _ _ I2 (fun b o e n => ?_) (fun b e => upd_none e) (hT.ext fun b o e => ?_) nF upd_same ?_
    · exact (upd_ne (ne_of_none e nF)).trans e
    · exact (upd_ne (ne_of_none e nF)).trans e
    · exact (upd_ne (ne_of_none hco nF)).trans hco
end
/-- the reading of a lambda: a new function -/
def tLamV (T : List (Addr × Str)) (mk : Addr → LF) : TE := fun σ H Q => Tabs T H ∧ ∀ (f c' : Addr) (H1 : Hp), ExtN H H1 → (∀ b, H1 b = Option.none → H b = Option.none) → Tabs T H1 → H f = none → H1 f = some (FnL f (mk c')) → H1 c' = some (CodeO c' (mk c').qual) → Q (.ref f) H1
theorem pe_lamV {X : Cx} {T : List (Addr × Str)} {c P : Addr} {params : Arguments} {body : Expr} {scope : Scope} {pos : Pos} (TB : TabB X.base X.mg c P) (hcode : X.env.code = .ref c) (hm : (P, X.env.qual ++ "<lambda>") ∈ T) (hu : ∀ p ∈ T, p.1 = P → p.2 = X.env.qual ++ "<lambda>")
    (hdef : defaultsOf params X.env = ([], [])) (hfree : ∀ y ∈ scope.names, y.2 = .free → X.env.scope.names.lookup y.1 = some .cell ∨ X.env.scope.names.lookup y.1 = some .free) :
    PE X (.Lambda params body scope pos) (tLamV T fun c' => ⟨X.env.qual ++ "<lambda>", params, body, scope, cloFrom X.env.cells scope.names [], c'⟩) := by
  refine ⟨fun pins s σ H Q I h => ?_⟩
  obtain ⟨hT, h⟩ := h
  have hfr : ∀ y ∈ scope.names, y.2 = .free → ∃ c, X.env.cells.lookup y.1 = some c := fun y hy e => (hfree y hy e).elim (fun z => I.ok.has _ (.inl z)) fun z => I.ok.has _ (.inr z)
  exact lamL_make I TB hcode hm hu hT hdef hfr fun f c' H1 s' I1 eN nn T1 f0 f1 c1 => ⟨.ref f, H1, I1, rfl, h f c' H1 eN nn T1 f0 f1 c1⟩
/-! ### sorted(xs, key=lambda x: (x[0], x[1])), the items lists of three ints -/
/-- what must be seen of the lambda -/
structure KeyF (F : LF) (x : Str) : Prop where
  body : ∃ p1 p2 p3 p4 p5 j1 j2 j3 p6 p7, F.body = .Tuple [.Subscript (.Name x p1) (.Constant (.int 0) j1 p2) p3, .Subscript (.Name x p4) (.Constant (.int 1) j2 p5) p6] j3 p7
  kind : F.scope.kind = .function
  co : F.scope.isCoroutine = false
  gen : F.scope.isGenerator = false
  loc : F.scope.names.lookup x = some .local
  nocell : ∀ y ∈ F.scope.names, y.2 ≠ .cell
  bind : ∀ (pm ctv u : Value), bindArgs (PySem.W.kla_fn "<lambda>" F.qual F.params F.body F.scope F.cl pm (.ref F.c) ctv) ⟨[u], []⟩ = pure [(x, u)]
  dbg : (x == ("__debug__" : Str)) = false
section
variable {prog : Program} {w : World} {A : Around} {s : Shared}
theorem key_call {F : LF} {x : Str} {f r : Addr} {sl : Array (Option Value)} {pm ctv : Value} {i j k : Int} {t1 t2 t3 : Tok} {n : Nat} {E : Value → Shared → Prop} (KF : KeyF F x) (hroom : A.depth < recursionLimit) (lim : s.heap.NoLimit)
    (ho : s.heap.get? f = some ({ F.obj pm ctv with slots := sl } : Obj)) (hcd : s.heap.CodeRec (.ref F.c) F.qual)
    (hr : s.heap.get? r = some { cls := .type "list", data := .seq #[.int i t1, .int j t2, .int k t3] n }) :
    wpAny (model prog w) A (call (.ref f) [.ref r]) (PySem.W.KeyPure (.tuple [.int i, .int j]) s) E s := by
  refine wpAny_call ?_
  refine PySem.W.kla_callFunE hroom ho rfl KF.co KF.gen rfl hcd ?_
  rw [KF.bind pm ctv (.ref r)]
  refine wpAny_pure (wpAny_newFunctionEnv KF.nocell (fun y hy => by rw [List.mem_singleton.mp hy]; exact KF.loc) (fun h₁ hns hsb => ⟨lim.fresh _ hsb, ?_⟩) KF.kind)
  have kp : ∀ b o, s.heap.get? b = some o → h₁.get? b = some o := fun b o e => hsb.extBut b o (Nat.ne_of_lt (Heap.lt_size e)) (Heap.get?_push_of_some _ e)
  have hr1 := kp _ _ hr
  refine PySem.W.kla_codeExpr ?_
  obtain ⟨p1, p2, p3, p4, p5, j1, j2, j3, p6, p7, eb⟩ := KF.body
  have eb : F.body = _ := eb
  show wpAny _ _ (eval F.body _) _ _ _
  rw [eb]
  refine wpAny_Tuple_spliced ?_
  have name : ∀ {A' : Around} {E' : Value → Shared → Prop} {Q' : Value → Shared → Prop} {tk : Nat} {pp : Pos}, Q' (.ref r) { s with heap := h₁, toks := tk } →
      wpAny (model prog w) A' (eval (.Name x pp) (PySem.W.envX F.qual F.scope s.heap.objs.size f (.ref F.c) F.cl)) Q' E' { s with heap := h₁, toks := tk } := fun hq =>
    wpAny_Name (wpAny_loadName_local KF.kind KF.loc hns (by simp) hq) KF.dbg
  have item : ∀ {A' : Around} {E' : Value → Shared → Prop} {Q' : Value → Shared → Prop} {tk : Nat} {pp pq pr : Pos} {jj : Nat} {m : Int} {v : Value}, 0 ≤ m → m < 2 ^ 63 → (#[.int i t1, .int j t2, .int k t3] : Array Value)[m.toNat]? = some v →
      (∀ tk', Q' v { s with heap := h₁, toks := tk' }) → wpAny (model prog w) A' (eval (.Subscript (.Name x pp) (.Constant (.int m) jj pq) pr) (PySem.W.envX F.qual F.scope s.heap.objs.size f (.ref F.c) F.cl)) Q' E' { s with heap := h₁, toks := tk } := fun h0 h1 hx hq =>
    Subscript_ (name (wpAny_Constant_int (item_listR (items := #[.int i t1, .int j t2, .int k t3]) ⟨_, hr1, rfl, n, rfl⟩ h0 h1 hx (hq _))))
  refine Calls.spliced_cons (item (by decide) (by decide) rfl fun tk1 => ?_)
  refine Calls.spliced_cons (item (by decide) (by decide) rfl fun tk2 => ?_)
  refine Calls.spliced_nil ⟨by show 2 ≤ sizeLine; decide, ?_⟩
  refine ⟨_, _, rfl, fun b o e => Heap.get?_push_of_some _ (kp b o e), ?_⟩
  refine .tuple (Heap.get?_push_size _ rfl) rfl rfl ?_
  exact .cons (.int _ _) (.cons (.int _ _) .nil)
end
/-- the order of the keys -/
abbrev leK (x y : Int × Int × Int) : Prop := x.1 < y.1 ∨ (x.1 = y.1 ∧ x.2.1 ≤ y.2.1)
def rSortL : List V → List V → Hp → VK → Prop := fun vs zs H Q => ∃ (a f : Addr) (F : LF) (x : Str) (rs : List Addr) (G : Addr → Int × Int × Int), vs = [.ref a] ∧ zs = [.ref f] ∧ KeyF F x ∧ H f = some (FnL f F) ∧ H F.c = some (CodeO F.c F.qual) ∧
  H a = some (.lst (rs.map V.ref)) ∧ (∀ r ∈ rs, H r = some (.lst [.int (G r).1, .int (G r).2.1, .int (G r).2.2])) ∧ rs.length ≤ 100000 ∧
  ∀ (p : Addr) (rs' : List Addr), rs'.Perm rs → rs'.Pairwise (fun x y => leK (G x) (G y)) → H p = none → Q (.ref p) (upd H p (.lst (rs'.map V.ref)))
theorem vals_refsB : ∀ {rs : List Addr} {us : List Value}, Vals (rs.map V.ref) us → us = rs.map Value.ref
  | [], _, .nil => rfl
  | _ :: rs, _, .cons h t => by
    have h : _ = Value.ref _ := h
    rw [h, vals_refsB t]
    rfl
theorem vals_refsF : ∀ bs : List Addr, Vals (bs.map V.ref) (bs.map Value.ref)
  | [] => .nil
  | _ :: r => .cons rfl (vals_refsF r)
theorem each_refs (rs : List Addr) : PySem.W.EachIs (fun (v : Value) (r : Addr) => v = .ref r) (rs.map Value.ref) rs := by
  induction rs with
  | nil => exact .nil
  | cons r rs ih => exact .cons rfl ih
theorem each_refs_eq : ∀ {vs : List Value} {rs : List Addr}, PySem.W.EachIs (fun (v : Value) (r : Addr) => v = .ref r) vs rs → vs = rs.map Value.ref
  | _, _, .nil => rfl
  | _, _, .cons h t => by rw [h, each_refs_eq t]; rfl
theorem cr_sortL {X : Cx} {k : Nat} (hr : Room (k + 1) X.A) : CallRK X (.builtin "sorted") [Str.ofString "key"] rSortL := by
  intro pins s σ H vs zs us ws Q I r rz h
  obtain ⟨a, f, F, x, rs, G, rfl, rfl, KF, hf, hc, ha, hrs, hlen, q⟩ := h
  obtain rfl := Vals.ref1 r
  obtain rfl := Vals.ref1 rz
  obtain ⟨hz, its, n, rv, hob⟩ := I.hok a _ ha
  have eits := vals_refsB rv
  subst eits
  obtain ⟨sl, pm, ctv, hfo⟩ := fnL_at I.hok hf
  have hcr := codeO_at I.hok hc
  have lim := I.nolimit
  have un := hr.units0
  have hl : s.heap.IsList a (rs.map Value.ref).toArray := ⟨_, hob, rfl, n, rfl⟩
  refine PySem.W.sorted_key_data (b := false) (β := Addr) (R := fun (v : Value) (r : Addr) => v = .ref r) (f := .ref f) (fun r => .tuple [.int (G r).1, .int (G r).2.1]) hl (each_refs rs) (PySem.W.AllAlike.of fun _ _ => by simp [PySem.W.alike, PySem.W.alikeAll]) (PySem.W.Sortable.tuples fun _ => ⟨_, _, rfl⟩)
    (by rw [sizeLine_eq]; omega) (fun r _ => ?_) (ksk_s1 _ _) (fun _ => ksk_l1 _ _) (fun _ => ksk_t1 _ _) (fun v r hv hm h tk kp => ?_) fun out c h' tk kp fr hD ho eo => ?_
  · have hd : (PyData.tuple [.int (G r).1, .int (G r).2.1]).depth = 1 := by simp [PyData.depth, PyData.depthAll]
    have := hr.units
    omega
  · subst hv
    obtain ⟨_, its2, n2, rv2, hr2⟩ := I.hok r _ (hrs r hm)
    cases rv2 with
    | cons h1 t1 =>
      cases t1 with
      | cons h2 t2 =>
        cases t2 with
        | cons h3 t3 =>
          cases t3
          obtain ⟨k1, rfl⟩ := h1
          obtain ⟨k2, rfl⟩ := h2
          obtain ⟨k3, rfl⟩ := h3
          obtain ⟨c2, oc, vs2, tq, g1, g2, g3, g4⟩ := hcr
          exact key_call (s := { s with heap := h, toks := tk }) KF hr.depth (lim.keeps kp) (kp _ _ hfo) ⟨c2, oc, vs2, tq, g1, kp _ _ g2, g3, g4⟩ (kp _ _ hr2)
  · rw [PySem.W.dataLe_ii (β := Addr) (fun r => (G r).1) (fun r => (G r).2.1)] at eo
    have e2 := each_refs_eq eo
    subst e2
    have hp : H (s.heap.objs.size + 1) = none := I.hok.fresh (Nat.le_succ _)
    generalize hrs' : rs.mergeSort (fun p q => decide ((G p).1 < (G q).1 ∨ (G p).1 = (G q).1 ∧ (G p).2.1 ≤ (G q).2.1)) = rs' at *
    have pm2 : rs'.Perm rs := by rw [← hrs']; exact List.mergeSort_perm _ _
    have pw : rs'.Pairwise (fun x y => leK (G x) (G y)) := by
      rw [← hrs']
      refine (List.pairwise_mergeSort (fun a b c h1 h2 => ?_) (fun a b => ?_) rs).imp fun h => of_decide_eq_true h
      · rw [decide_eq_true_iff] at h1 h2 ⊢
        omega
      · rw [Bool.or_eq_true, decide_eq_true_iff, decide_eq_true_iff]
        omega
    refine ⟨.ref (s.heap.objs.size + 1), upd H (s.heap.objs.size + 1) (.lst (rs'.map V.ref)), I.laid (t' := tk) (h' := h') kp (Nat.le_succ _) ⟨?_, rs'.map Value.ref, c, ?_, hD⟩, rfl, q _ rs' pm2 pw hp⟩
    · rw [List.length_map, pm2.length_eq, sizeLine_eq]
      omega
    · exact vals_refsF rs'
end LamK
set_option Elab.async false
set_option linter.all false
set_option maxRecDepth 100000
set_option maxHeartbeats 4000000
set_option exponentiation.threshold 9000
namespace BoolX
open PySem
open PySem.Sem (wp)
theorem bool_new_own {prog : Program} {w : World} (v : Value) : MeetsIn prog w (Builtin.«bool.__new__» ⟨[.type "bool", v], []⟩) (fun A R s => ∀ tk, wpAny (model prog w) A.in1 (truthy v) (fun b s1 => R (.ok (.ret (.bool b))) s1) (fun e s' => R (.error e) s') { s with toks := tk }) :=
  MeetsIn.of_wp fun A R s hs => by
    obtain ⟨hp, g, d, tk, os⟩ := s
    have f1 := F.conv_sub_bool
    repeat (any_goals (first | assumption | (with_reducible refine wpAny_bind (wpAny_mono (hs _) (fun b s1 hb => ?_) fun _ _ e => e)) | wp_step))
    all_goals first | exact ⟨_, rfl, hb⟩ | skip
end BoolX
namespace L2
open PySem PySem.Spec PyProof.Rows LamX
section
variable {X : Cx} {CX : CXT} {k j : Nat} {f C : Addr} {fd : FuncData} {ps : List Str} {sp : Sp} {dvs : List V} {ds : List Value} {E : XK}
theorem run_fn2 {pins : List (Addr × Obj)} {σ : St} {H : Hp} {s : Shared} {Q : VK} {us : List Value} {vs : List V} (F : FnOk X.prog X.w X.K X.mg X.base CX k f fd ps sp) (hr : Room (k + 2) X.A) (hb : Binds X.K fd ps ds) (hd : Vals dvs ds) (hx : Passes CX X E)
    (I : Inv X pins σ H s) (r : Vals vs us) (h : sp (vs ++ dvs) H Q E) : wpAny (model X.prog X.w) X.A.in1.in1 (call (.ref f) us) (EP X pins σ Q) X.xe s := by
  have r2 : Vals (vs ++ dvs) (us ++ ds) := r.append hd
  have hl : (us ++ ds).length = ps.length := by rw [← r2.length]; exact F.len _ _ _ _ h
  refine wpAny_call (codeAny_mono (F.run X.A.in1.in1 X.stack s H ⟨us, []⟩ (us ++ ds) (vs ++ dvs) Q E hr.in1.in1 I.env0.in1.in1 (hb s us I.kIn hl) r2 h) fun r s' hq => ?_)
  cases r with
  | error e => exact hx pins σ H s e s' I hq
  | ok fl =>
    cases fl with
    | ret u => exact I.after hq
    | next => exact False.elim hq
    | brk => exact False.elim hq
    | cont => exact False.elim hq
/-- bool(o), o of an own class with its own __bool__ -/
def rBoolO (C : Addr) (sp : Sp) (dvs : List V) : List V → Hp → VK → Prop := fun vs H Q => ∃ o dx fs, vs = [.ref o] ∧ H o = some (.ins C dx fs) ∧ sp ([.ref o] ++ dvs) H (fun v H' => ∃ b, v = .bl b ∧ Q (.bl b) H') C8.E0
theorem cr_boolO (c : C8.Met X.prog X.w X.K X.mg X.base k C "__bool__" sp dvs) (hr : Room j X.A) (hk : k + 2 ≤ j) : CallR X (.type "bool") (rBoolO C sp dvs) := by
  obtain ⟨f, fd, ps, ds, cl, hm, Fo, bd, d⟩ := c.ex
  intro pins s σ H vs us Q I r h
  obtain ⟨o, dx, fs, rfl, e, q⟩ := h
  obtain rfl := Vals.ref1 r
  obtain ⟨mA, O, _, _, _, _⟩ := ins_get I.hok e
  obtain ⟨od, J, _⟩ := O.look
  refine callType_newIn F.called_bool F.newNe_bool (F.typeCall_bool_1 _) (F.newCall_bool_1 _) (fun obj => F.args_object_init_2 obj _) F.entry_bool_new (BoolX.bool_new_own (.ref o)) fun tk => ?_
  have I1 : Inv X pins σ H { s with toks := tk } := I.tok _
  obtain ⟨m, F0⟩ := I1.fr
  refine PySem.W.truthy_K F0 I1.ok.mod.kin J hm.at_ hm.fn (wpAny_mono (run_fn2 (us := [.ref o]) (vs := [.ref o]) Fo (hr.mono hk) bd d C8.pass0 I1 (.cons rfl .nil) q) (fun v s2 y => ?_) fun _ _ y => y)
  obtain ⟨x2, H2, I2, rx2, b, rfl, q2⟩ := y
  obtain rfl : v = Value.bool b := rx2
  exact ⟨by first | rfl | trivial | (unfold Shared.TypeIs; rfl) | simp [Shared.TypeIs], ⟨.bl b, H2, I2, rfl, q2⟩⟩
/-- xs[i] of a list, for xs[i] op= e -/
def rGetL : V → V → Hp → VK → Prop := fun x y H Q => ∃ (p : Addr) (xs : List V) (i : Nat) (v : V), x = .ref p ∧ y = .int (i : Int) ∧ H p = some (.lst xs) ∧ i < 1000000 ∧ xs[i]? = some v ∧ Q v H
theorem get_listL : PGet X rGetL := by
  intro pins s σ H x y v u Q I rx ry h
  obtain ⟨p, xs, i, z, rfl, rfl, hp, hi, he, q⟩ := h
  cases rx
  obtain ⟨t, rfl⟩ := ry
  obtain ⟨its, n, r, ho, hz⟩ := I.lst hp
  obtain ⟨w, ew, rw'⟩ := r.get he
  exact wpAny_getItem_list (items := its.toArray) (x := w) ⟨_, ho, rfl, n, rfl⟩ (by omega) (by omega) (by simpa using ew) ⟨z, H, I, rw', q⟩
/-- one of two readings -/
theorem pe_alt {e : Expr} {t u : TE} (h1 : PE X e t) (h2 : PE X e u) : PE X e (fun σ H Q => t σ H Q ∨ u σ H Q) := ⟨fun pins s σ H Q I h => h.elim (h1.run pins s σ H Q I) (h2.run pins s σ H Q I)⟩
theorem cr_alt {f : Value} {r q : List V → Hp → VK → Prop} (h1 : CallR X f r) (h2 : CallR X f q) : CallR X f (fun vs H Q => r vs H Q ∨ q vs H Q) := fun pins s σ H vs us Q I rv h => h.elim (h1 pins s σ H vs us Q I rv) (h2 pins s σ H vs us Q I rv)
end
/-- a lambda's name -/
abbrev qL (x : Str) : Str := x ++ ".<locals>." ++ "<lambda>"
section
variable {P : Program} {w : World} {K : PySem.W.Frag} {mg : Str → Option Value} {base : Heap}
open C8
/-- a def that makes lambdas: its code object is known -/
theorem fnL0 {x qual : Str} {st : Stmt} {f c : Addr} {fd : FuncData} {N ps : List Str} {k : Nat} {sp : Sp} (F : C8.Fun K x qual st f fd) (hc : fd.code = .ref c) (S : FnScope N ps (C8.fnScope st)) (len : ∀ vs H Q E, sp vs H Q E → vs.length = ps.length)
    (hbody : ∀ (A : Around) (outer : List Env) (s : Shared) (H : Hp) (vs : List V) (Q : VK) (E : XK), Room k (A.deeper (envOfC qual (C8.fnScope st) s.heap.objs.size f (.ref c))) → sp vs H Q E →
      ∃ t, PSs (cxOf CX0 P w K mg base N qual (C8.fnScope st) f (.ref c) A outer s H E).nox (C8.fnBody st) t ∧ t { nx := fun _ H' => Q .non H', rt := Q } (start N vs) H) : FnOk P w K mg base CX0 (k + 1) f fd ps sp := by
  obtain ⟨oc, od, dV, kV, doc, pm, an, cdv, ct, osl, rfl, lk, hcd⟩ := F.ex
  have e : cdv = .ref c := hc
  subst e
  refine fn_of lk hcd S len fun A outer s H vs Q E hr hsp => ?_
  obtain ⟨t, h, q⟩ := hbody A outer s H vs Q E hr hsp
  exact ⟨t, h.nox, q⟩
theorem calL0 {x : Str} {st : Stmt} {f c : Addr} {fd : FuncData} {N ps : List Str} {ds : List Value} {dvs : List V} {k : Nat} {sp : Sp} (F : C8.Def K mg x st f fd) (hc : fd.code = .ref c) (b : Binds K fd ps ds) (d : Vals dvs ds) (S : FnScope N ps (C8.fnScope st)) (len : ∀ vs H Q E, sp vs H Q E → vs.length = ps.length)
    (hbody : ∀ (A : Around) (outer : List Env) (s : Shared) (H : Hp) (vs : List V) (Q : VK) (E : XK), Room k (A.deeper (envOfC x (C8.fnScope st) s.heap.objs.size f (.ref c))) → sp vs H Q E →
      ∃ t, PSs (cxOf CX0 P w K mg base N x (C8.fnScope st) f (.ref c) A outer s H E).nox (C8.fnBody st) t ∧ t { nx := fun _ H' => Q .non H', rt := Q } (start N vs) H) : Cal P w K mg base (k + 1) x sp dvs :=
  ⟨f, fd, ps, ds, fnL0 F.fn hc S len hbody, F.mgf, F.kp, b, d⟩
end
end L2
namespace Sl
open PySem L2 C8 LamX
/-- the facts of a def that makes lambdas -/
structure TabK (K : PySem.W.Frag) (x : Str) (Lc Lp : Addr) : Prop where
  tab : PySem.W.tabIn K x = some (Lc, Lp)
  nT : K.lookup Lp = none
theorem tabk {K : PySem.W.Frag} {x : Str} {Lc Lp : Addr} (h1 : PySem.W.tabIn K x = some (Lc, Lp)) (h2 : (K.lookup Lp).isNone = true) : TabK K x Lc Lp := ⟨h1, Option.isNone_iff_eq_none.mp h2⟩
theorem tab_get {o : Option (Addr × Addr)} (h : o.isSome = true) : o = some ((o.get h).1, (o.get h).2) := (Option.some_get h).symm
theorem tcmk {K : PySem.W.Frag} {h : Heap} {mg : Str → Option Value} {x : Str} {st : Stmt} {Lc Lp : Addr} (X : K.In h) (G : h.Ns mainGlobals mg) (t : TabK K x Lc Lp) : ∀ f fd, C8.Def K mg x st f fd → fd.code = .ref Lc := fun f fd D => by
  obtain ⟨oc, od, dV, kV, doc, pm, an, cdv, ct, osl, e, lk, hcd⟩ := D.fn.ex
  exact PySem.W.law_code X G t.tab D.mgf (X _ _ lk) rfl
end Sl
namespace LamX
open PySem PySem.Spec PyProof.Rows L2
/-- walk_ofTs, the top's facts handed on -/
theorem walk_ofTT {l : PySem.W.OpenLaw} {n k : Nat} {q : Program} {loose : List Str} {XP : (Str → Option Value) → Heap → Prop} {YP : World → Heap → Prop} {d : DefRec} {K : Params → PySem.W.Frag} {CX : World → CXT} {x : Str}
    (hn : l.most = some n) (hn2 : n ≤ sizeLine) (hdf : d.params.defaults = []) (hr : Room k callerA) (hY : ∀ (w : World) (h : Heap), YP w h → (K w.params).In h)
    (F : ∀ (w : World) (mg : Str → Option Value) (fa : Addr) (h : Heap) (tb : ∀ (x : Str) (c P : Addr), ((recsOf q).find? (fun e => e.name == x)).isSome = true → PySem.W.tabIn (K w.params) x = some (c, P) → PySem.W.CodeHd h c P ∧ h.get? P = some (PySem.W.tabObj #[])), (K w.params).In h → h.Ns mainGlobals mg → mg d.name = some (.ref fa) → LawAtS l w (K w.params) (CX w) k n x mg fa h)
    (hCX : ∀ (w : World) (H : Hp) (s : Shared) (e : Value) (s' : Shared), CX w [] H s (fun _ _ _ => False) e s' → False) :
    PySem.W.WalkO q loose XP YP l.row.toRowW d [] (fun f vs => PySem.call f vs) := by
  refine Att.attach_callB hn hdf fun w s₀ s₁ mg mb fa o pm cd doc a vs ns G Y ho hd hcd hmg hobj hints hlen hbits hg => ?_
  have KX := hY w _ Y
  obtain ⟨fd, cs, sp, hT, nT, C, hb, hsp, hF⟩ := F w mg fa _ (fun x c P hs ht => by
    obtain ⟨d', hd'⟩ := Option.isSome_iff_exists.mp hs
    exact PySem.W.tab_of G.T KX hd' ht) KX G.T.g hmg
  exact law_callTs KX G.T.g G.T.b G.T.builtins G.T.nolimit hg hT nT C G.T.bmain hobj hints (Nat.le_trans hlen hn2) hr hF hb (fun H hH hS => hsp H a ns hlen hbits hH hS) fun H e s' => hCX w H s₁ e s'
end LamX
namespace Sl
open PySem L2 C8 StX LamX LamK
section
variable {σ : L2.St} {H H' : Hp} {Q : VK} {te ta tb : TE} {t tk : TA} {K : PySem.W.Frag} {QS : L2.St → Hp → Prop} {x y v : V}
theorem rd_cKw {r : List V → List V → Hp → VK → Prop} (h : t σ H fun vs H1 => tk σ H1 fun zs H2 => r vs zs H2 Q) : tCKw r t tk σ H Q := h
theorem rd_lamV {T : List (Addr × Str)} {mk : Addr → LF} (hT : Tabs T H) (h : ∀ (f c' : Addr) (H1 : Hp), ExtN H H1 → (∀ b, H1 b = Option.none → H b = Option.none) → Tabs T H1 → H f = none → H1 f = some (FnL f (mk c')) → H1 c' = some (CodeO c' (mk c').qual) → Q (.ref f) H1) : tLamV T mk σ H Q := ⟨hT, h⟩
theorem rd_gunl {n : Nat} {tg : TGs} {a : Addr} {xs : List V} (e : H a = some (.lst xs)) (l : xs.length = n) (h : tg xs σ H QS) : gUnl K n tg (.ref a) σ H QS := ⟨a, xs, rfl, SqL.of e, l, h⟩
theorem rd_getL {p : Addr} {xs : List V} {i : Nat} (e : H p = some (.lst xs)) (hi : i < 1000000) (n : xs[i]? = some v) (h : Q v H) : rGetL (.ref p) (.int (i : Int)) H Q := ⟨p, xs, i, v, rfl, rfl, e, hi, n, h⟩
theorem rd_setL {p : Addr} {xs : List V} {i : Int} {j : Nat} {QH : Hp → Prop} (e : H p = some (.lst xs)) (hj : ixN xs.length i = some j) (h : ∀ H', H' = upd H p (.lst (xs.set j v)) → H' p = some (.lst (xs.set j v)) → QH H') : rSetL (.ref p) (.int i) v H QH := ⟨p, xs, i, j, rfl, rfl, e, hj, h _ rfl upd_same⟩
theorem rd_boolO {C o dx : Addr} {fs : List (Str × V)} {sp : Sp} {dvs : List V} (e : H o = some (.ins C dx fs)) (h : sp ([.ref o] ++ dvs) H (fun v H' => ∃ b, v = .bl b ∧ Q (.bl b) H') C8.E0) : rBoolO C sp dvs [.ref o] H Q := ⟨o, dx, fs, rfl, e, h⟩
theorem rd_sortLK {a f : Addr} {F : LF} {x : Str} {rs : List Addr} {G : Addr → Int × Int × Int} (KF : KeyF F x) (hf : H f = some (FnL f F)) (hc : H F.c = some (CodeO F.c F.qual)) (ha : H a = some (.lst (rs.map V.ref))) (hr : ∀ r ∈ rs, H r = some (.lst [.int (G r).1, .int (G r).2.1, .int (G r).2.2])) (hl : rs.length ≤ 100000)
    (h : ∀ (p : Addr) (rs' : List Addr) H', rs'.Perm rs → rs'.Pairwise (fun x y => leK (G x) (G y)) → H p = none → Same H H' → H' p = some (.lst (rs'.map V.ref)) → Q (.ref p) H') : rSortL [.ref a] [.ref f] H Q :=
  ⟨a, f, F, x, rs, G, rfl, rfl, KF, hf, hc, ha, hr, hl, fun p rs' p1 p2 hp => h p rs' _ p1 p2 hp (Same.new (Same.refl H) hp) upd_same⟩
end
/-! ### heaps without their tables -/
def nT (H : Hp) : Hp := fun a => match H a with
  | some (.tbl _) => none
  | o => o
theorem nT_of {H : Hp} {a : Addr} {o : HO} (e : H a = some o) (n : ∀ ps, o ≠ .tbl ps) : nT H a = some o := by
  unfold nT
  rw [e]
  cases o <;> first | rfl | exact absurd rfl (n _)
theorem nT_in {H : Hp} {a : Addr} {o : HO} (e : nT H a = some o) : H a = some o ∧ ∀ ps, o ≠ .tbl ps := by
  unfold nT at e
  cases q : H a with
  | none => rw [q] at e; cases e
  | some u =>
    rw [q] at e
    cases u <;> first | (cases e; exact ⟨rfl, fun ps z => by cases z⟩) | cases e
theorem nT_none {H : Hp} {a : Addr} (e : H a = none) : nT H a = none := by
  unfold nT
  rw [e]
theorem extN_same {H H' : Hp} (e : ExtN H H') : Same (nT H) H' := fun a o h => e a o (nT_in h).1 (nT_in h).2
theorem same_extN {H H' : Hp} (s : Same (nT H) H') : ExtN H H' := fun a o h n => s a o (nT_of h n)
mutual
theorem Dt.nT {H : Hp} : ∀ {v : V} {d : PyData}, Dt H v d → Dt (nT H) v d
  | _, _, .non => .non
  | _, _, .bl b => .bl b
  | _, _, .int i => .int i
  | _, _, .str x => .str x
  | _, _, .lst e h => .lst (nT_of e (fun _ z => by cases z)) (DtAll.nT h)
  | _, _, .tup e h => .tup (nT_of e (fun _ z => by cases z)) (DtAll.nT h)
theorem DtAll.nT {H : Hp} : ∀ {vs : List V} {ds : List PyData}, DtAll H vs ds → DtAll (nT H) vs ds
  | _, _, .nil => .nil
  | _, _, .cons h t => .cons (Dt.nT h) (DtAll.nT t)
end
theorem SqL.nT {K : PySem.W.Frag} {H : Hp} {a : Addr} {xs : List V} (h : SqL K H a xs) : SqL K (nT H) a xs := by
  rcases h with h | h
  · left
    rcases h with h | ⟨o, h⟩
    · exact .inl (nT_of h (fun _ z => by cases z))
    · exact .inr ⟨o, nT_of h (fun _ z => by cases z)⟩
  · exact .inr h
end Sl
set_option Elab.async false
set_option linter.all false
set_option maxRecDepth 100000
set_option maxHeartbeats 4000000
namespace Sl
open PySem L2 C8 StX
def topS (i : Nat) : Stmt := PySem.Challenge.pw_siltstore_k47_whole_spreading.main.body.getD i (.Pass ⟨0, 0, 0, 0⟩)
abbrev s_is_whole : Stmt := topS 7
abbrev N_is_whole : List Str := ["thing"]
abbrev P_is_whole : List Str := ["thing"]
theorem sc_is_whole : FnScope N_is_whole P_is_whole (fnScope s_is_whole) := fnScope_by (by decide +kernel)
abbrev s_is_pair : Stmt := topS 8
abbrev N_is_pair : List Str := ["thing"]
abbrev P_is_pair : List Str := ["thing"]
theorem sc_is_pair : FnScope N_is_pair P_is_pair (fnScope s_is_pair) := fnScope_by (by decide +kernel)
abbrev s_shortest : Stmt := topS 9
abbrev N_shortest : List Str := ["front", "period", "many"]
abbrev P_shortest : List Str := ["front", "period"]
theorem sc_shortest : FnScope N_shortest P_shortest (fnScope s_shortest) := fnScope_by (by decide +kernel)
abbrev s_Rule_init : Stmt := inClass (topS 10) 0
abbrev N_Rule_init : List Str := ["self", "front", "period", "told", "place", "pair"]
abbrev P_Rule_init : List Str := ["self", "front", "period"]
theorem sc_Rule_init : FnScope N_Rule_init P_Rule_init (fnScope s_Rule_init) := fnScope_by (by decide +kernel)
abbrev s_Rule_eq : Stmt := inClass (topS 10) 1
abbrev N_Rule_eq : List Str := ["self", "other"]
abbrev P_Rule_eq : List Str := ["self", "other"]
theorem sc_Rule_eq : FnScope N_Rule_eq P_Rule_eq (fnScope s_Rule_eq) := fnScope_by (by decide +kernel)
abbrev s_Rule_getitem : Stmt := inClass (topS 10) 2
abbrev N_Rule_getitem : List Str := ["self", "grade"]
abbrev P_Rule_getitem : List Str := ["self", "grade"]
theorem sc_Rule_getitem : FnScope N_Rule_getitem P_Rule_getitem (fnScope s_Rule_getitem) := fnScope_by (by decide +kernel)
abbrev s_Rule_iter : Stmt := inClass (topS 10) 3
abbrev N_Rule_iter : List Str := ["self"]
abbrev P_Rule_iter : List Str := ["self"]
theorem sc_Rule_iter : FnScope N_Rule_iter P_Rule_iter (fnScope s_Rule_iter) := fnScope_by (by decide +kernel)
abbrev s_Rule_size : Stmt := inClass (topS 10) 4
abbrev N_Rule_size : List Str := ["self", "grade", "found", "one"]
abbrev P_Rule_size : List Str := ["self", "grade"]
theorem sc_Rule_size : FnScope N_Rule_size P_Rule_size (fnScope s_Rule_size) := fnScope_by (by decide +kernel)
abbrev s_Rule_owed : Stmt := inClass (topS 10) 5
abbrev N_Rule_owed : List Str := ["self", "grade", "found", "size", "one"]
abbrev P_Rule_owed : List Str := ["self", "grade"]
theorem sc_Rule_owed : FnScope N_Rule_owed P_Rule_owed (fnScope s_Rule_owed) := fnScope_by (by decide +kernel)
abbrev s_check_rule : Stmt := topS 11
abbrev N_check_rule : List Str := ["thing"]
abbrev P_check_rule : List Str := ["thing"]
theorem sc_check_rule : FnScope N_check_rule P_check_rule (fnScope s_check_rule) := fnScope_by (by decide +kernel)
abbrev s_check_number : Stmt := topS 12
abbrev N_check_number : List Str := ["thing", "least"]
abbrev P_check_number : List Str := ["thing", "least"]
theorem sc_check_number : FnScope N_check_number P_check_number (fnScope s_check_number) := fnScope_by (by decide +kernel)
abbrev s_baked : Stmt := topS 14
abbrev N_baked : List Str := ["rule", "day", "found", "grade"]
abbrev P_baked : List Str := ["rule", "day"]
theorem sc_baked : FnScope N_baked P_baked (fnScope s_baked) := fnScope_by (by decide +kernel)
abbrev s_is_baked : Stmt := topS 15
abbrev N_is_baked : List Str := ["rule", "grade", "day", "size", "owed"]
abbrev P_is_baked : List Str := ["rule", "grade", "day"]
theorem sc_is_baked : FnScope N_is_baked P_is_baked (fnScope s_is_baked) := fnScope_by (by decide +kernel)
abbrev s_Evidence_pieces : Stmt := inClass (topS 17) 1
abbrev N_Evidence_pieces : List Str := ["self"]
abbrev P_Evidence_pieces : List Str := ["self"]
theorem sc_Evidence_pieces : FnScope N_Evidence_pieces P_Evidence_pieces (fnScope s_Evidence_pieces) := fnScope_by (by decide +kernel)
abbrev s_Evidence_eq : Stmt := inClass (topS 17) 2
abbrev N_Evidence_eq : List Str := ["self", "other"]
abbrev P_Evidence_eq : List Str := ["self", "other"]
theorem sc_Evidence_eq : FnScope N_Evidence_eq P_Evidence_eq (fnScope s_Evidence_eq) := fnScope_by (by decide +kernel)
abbrev s_Good_bool : Stmt := inClass (topS 18) 0
abbrev N_Good_bool : List Str := ["self"]
abbrev P_Good_bool : List Str := ["self"]
theorem sc_Good_bool : FnScope N_Good_bool P_Good_bool (fnScope s_Good_bool) := fnScope_by (by decide +kernel)
abbrev s_Bad_bool : Stmt := inClass (topS 19) 0
abbrev N_Bad_bool : List Str := ["self"]
abbrev P_Bad_bool : List Str := ["self"]
theorem sc_Bad_bool : FnScope N_Bad_bool P_Bad_bool (fnScope s_Bad_bool) := fnScope_by (by decide +kernel)
abbrev s_InTime_init : Stmt := inClass (topS 22) 1
abbrev N_InTime_init : List Str := ["self", "grades"]
abbrev P_InTime_init : List Str := ["self", "grades"]
theorem sc_InTime_init : FnScope N_InTime_init P_InTime_init (fnScope s_InTime_init) := fnScope_by (by decide +kernel)
abbrev s_InTime_pieces : Stmt := inClass (topS 22) 2
abbrev N_InTime_pieces : List Str := ["self"]
abbrev P_InTime_pieces : List Str := ["self"]
theorem sc_InTime_pieces : FnScope N_InTime_pieces P_InTime_pieces (fnScope s_InTime_pieces) := fnScope_by (by decide +kernel)
abbrev s_InTime_shows : Stmt := inClass (topS 22) 3
abbrev N_InTime_shows : List Str := ["self", "rule", "budget", "days"]
abbrev P_InTime_shows : List Str := ["self", "rule", "budget", "days"]
theorem sc_InTime_shows : FnScope N_InTime_shows P_InTime_shows (fnScope s_InTime_shows) := fnScope_by (by decide +kernel)
abbrev s_Late_init : Stmt := inClass (topS 23) 1
abbrev N_Late_init : List Str := ["self", "grade", "day"]
abbrev P_Late_init : List Str := ["self", "grade", "day"]
theorem sc_Late_init : FnScope N_Late_init P_Late_init (fnScope s_Late_init) := fnScope_by (by decide +kernel)
abbrev s_Late_pieces : Stmt := inClass (topS 23) 2
abbrev N_Late_pieces : List Str := ["self"]
abbrev P_Late_pieces : List Str := ["self"]
theorem sc_Late_pieces : FnScope N_Late_pieces P_Late_pieces (fnScope s_Late_pieces) := fnScope_by (by decide +kernel)
abbrev s_Late_shows : Stmt := inClass (topS 23) 3
abbrev N_Late_shows : List Str := ["self", "rule", "budget", "days"]
abbrev P_Late_shows : List Str := ["self", "rule", "budget", "days"]
theorem sc_Late_shows : FnScope N_Late_shows P_Late_shows (fnScope s_Late_shows) := fnScope_by (by decide +kernel)
abbrev s_check_spread : Stmt := topS 24
abbrev N_check_spread : List Str := ["rule", "budget", "days"]
abbrev P_check_spread : List Str := ["rule", "budget", "days"]
theorem sc_check_spread : FnScope N_check_spread P_check_spread (fnScope s_check_spread) := fnScope_by (by decide +kernel)
abbrev s_due_day : Stmt := topS 25
abbrev N_due_day : List Str := ["rule", "grade"]
abbrev P_due_day : List Str := ["rule", "grade"]
theorem sc_due_day : FnScope N_due_day P_due_day (fnScope s_due_day) := fnScope_by (by decide +kernel)
abbrev s_due_grades : Stmt := topS 26
abbrev N_due_grades : List Str := ["rule", "days", "found"]
abbrev P_due_grades : List Str := ["rule", "days"]
theorem sc_due_grades : FnScope N_due_grades P_due_grades (fnScope s_due_grades) := fnScope_by (by decide +kernel)
abbrev s_judge_spread : Stmt := topS 27
abbrev N_judge_spread : List Str := ["rule", "budget", "days", "grades"]
abbrev P_judge_spread : List Str := ["rule", "budget", "days"]
theorem sc_judge_spread : FnScope N_judge_spread P_judge_spread (fnScope s_judge_spread) := fnScope_by (by decide +kernel)
abbrev s_least_budget : Stmt := topS 28
abbrev N_least_budget : List Str := ["rule", "days"]
abbrev P_least_budget : List Str := ["rule", "days"]
theorem sc_least_budget : FnScope N_least_budget P_least_budget (fnScope s_least_budget) := fnScope_by (by decide +kernel)
abbrev s_left_over : Stmt := topS 29
abbrev N_left_over : List Str := ["rule", "budget", "day", "left", "now", "grade", "rest", "done"]
abbrev P_left_over : List Str := ["rule", "budget", "day"]
theorem sc_left_over : FnScope N_left_over P_left_over (fnScope s_left_over) := fnScope_by (by decide +kernel)
abbrev s__law_number : Stmt := topS 31
abbrev N__law_number : List Str := ["_law_script", "_law_index", "_law_cell", "_law_blend"]
abbrev P__law_number : List Str := ["_law_script", "_law_index"]
theorem sc__law_number : FnScope N__law_number P__law_number (fnScope s__law_number) := fnScope_by (by decide +kernel)
abbrev s__law_take : Stmt := topS 32
abbrev N__law_take : List Str := ["_law_draw", "_law_many"]
abbrev P__law_take : List Str := ["_law_draw", "_law_many"]
theorem sc__law_take : FnScope N__law_take P__law_take (fnScope s__law_take) := fnScope_by (by decide +kernel)
abbrev s__law_pick : Stmt := topS 33
abbrev N__law_pick : List Str := ["_law_draw", "_law_items"]
abbrev P__law_pick : List Str := ["_law_draw", "_law_items"]
theorem sc__law_pick : FnScope N__law_pick P__law_pick (fnScope s__law_pick) := fnScope_by (by decide +kernel)
abbrev s__law_pair : Stmt := topS 34
abbrev N__law_pair : List Str := ["_law_draw", "_law_bake"]
abbrev P__law_pair : List Str := ["_law_draw"]
theorem sc__law_pair : FnScope N__law_pair P__law_pair (fnScope s__law_pair) := fnScope_by (by decide +kernel)
abbrev s__law_rule : Stmt := topS 35
abbrev N__law_rule : List Str := ["_law_draw", "_law_front", "_law_turn"]
abbrev P__law_rule : List Str := ["_law_draw"]
theorem sc__law_rule : FnScope N__law_rule P__law_rule (fnScope s__law_rule) := fnScope_by (by decide +kernel)
abbrev s__law_at : Stmt := topS 36
abbrev N__law_at : List Str := ["_law_told", "_law_grade", "_law_front", "_law_period"]
abbrev P__law_at : List Str := ["_law_told", "_law_grade"]
theorem sc__law_at : FnScope N__law_at P__law_at (fnScope s__law_at) := fnScope_by (by decide +kernel)
abbrev s__law_size : Stmt := topS 37
abbrev N__law_size : List Str := ["_law_told", "_law_grade", "_law_found", "_law_one"]
abbrev P__law_size : List Str := ["_law_told", "_law_grade"]
theorem sc__law_size : FnScope N__law_size P__law_size (fnScope s__law_size) := fnScope_by (by decide +kernel)
abbrev s__law_fallen : Stmt := topS 38
abbrev N__law_fallen : List Str := ["_law_told", "_law_rows", "_law_day", "_law_grades", "_law_grade", "_law_wait", "_law_bake", "_law_some", "_law_at_here", "_law_row", "_law_first", "_law_last"]
abbrev P__law_fallen : List Str := ["_law_told", "_law_rows", "_law_day"]
theorem sc__law_fallen : FnScope N__law_fallen P__law_fallen (fnScope s__law_fallen) := fnScope_by (by decide +kernel)
abbrev s__law_played : Stmt := topS 39
abbrev N__law_played : List Str := ["_law_told", "_law_days", "_law_found", "_law_day"]
abbrev P__law_played : List Str := ["_law_told", "_law_days"]
theorem sc__law_played : FnScope N__law_played P__law_played (fnScope s__law_played) := fnScope_by (by decide +kernel)
abbrev s__law_far : Stmt := topS 40
abbrev N__law_far : List Str := ["_law_draw"]
abbrev P__law_far : List Str := ["_law_draw"]
theorem sc__law_far : FnScope N__law_far P__law_far (fnScope s__law_far) := fnScope_by (by decide +kernel)
abbrev s__law_worked : Stmt := topS 41
abbrev N__law_worked : List Str := ["_law_told", "_law_budget", "_law_days", "_law_left", "_law_tasks", "_law_rows", "_law_late", "_law_day", "_law_task", "_law_grade", "_law_due", "_law_rest", "_law_done", "_law_now", "_law_more"]
abbrev P__law_worked : List Str := ["_law_told", "_law_budget", "_law_days"]
theorem sc__law_worked : FnScope N__law_worked P__law_worked (fnScope s__law_worked) := fnScope_by (by decide +kernel)
abbrev s__law_second : Stmt := topS 42
abbrev N__law_second : List Str := ["_law_told", "_law_grade", "_law_found", "_law_size_here", "_law_one", "_law_wait", "_law_bake"]
abbrev P__law_second : List Str := ["_law_told", "_law_grade"]
theorem sc__law_second : FnScope N__law_second P__law_second (fnScope s__law_second) := fnScope_by (by decide +kernel)
abbrev s_law : Stmt := topS 43
abbrev N_law : List Str := ["_law_script", "_law_draw", "_law_told", "_law_rule_here", "_law_days", "_law_budget", "_law_left", "_law_late", "_law_found", "_law_spoilt", "_law_one", "_law_day", "_law_least", "_law_far_here", "_law_grades", "_law_grade", "_law_wrong"]
abbrev P_law : List Str := ["_law_script"]
theorem sc_law : FnScope N_law P_law (fnScope s_law) := fnScope_by (by decide +kernel)
/-- what isinstance asks of an own class, without the class itself -/
structure InsF (K : PySem.W.Frag) (C : Addr) : Prop where
  ha : PySem.W.findIn K (.ref C) "__class__" = some (some (.builtin "object.__class__"))
  hn : PySem.W.specialIn K (.builtin "object.__class__") "__get__" = some (some (.builtin "getset_descriptor.__get__"))
  htk : PySem.W.takesIn K (.builtin "object.__class__") = some true
  hm : PySem.W.mroIn K C (.type "object") = some true
theorem kit_self {K : PySem.W.Frag} {C : Addr} : PySem.W.kitOne K (.ref C) (.ref C) = some true := by
  unfold PySem.W.kitOne
  rw [if_pos (by simp)]
structure TX (K : PySem.W.Frag) (mg : Str → Option Value) (C_Rule C_Evidence C_Good C_Bad C_InTime C_Late C_BadDay Lc__law_worked Lp__law_worked : Addr) : Prop where
  mg_Rule : mg "Rule" = some (.ref C_Rule)
  mg_Evidence : mg "Evidence" = some (.ref C_Evidence)
  mg_Good : mg "Good" = some (.ref C_Good)
  mg_Bad : mg "Bad" = some (.ref C_Bad)
  mg_InTime : mg "InTime" = some (.ref C_InTime)
  mg_Late : mg "Late" = some (.ref C_Late)
  mg_BadDay : mg "BadDay" = some (.ref C_BadDay)
  d_is_whole : ∃ f fd, C8.Def K mg "is_whole" s_is_whole f fd ∧ fd.defaults = .none
  d_is_pair : ∃ f fd, C8.Def K mg "is_pair" s_is_pair f fd ∧ fd.defaults = .none
  d_shortest : ∃ f fd, C8.Def K mg "shortest" s_shortest f fd ∧ fd.defaults = .none
  m_Rule_init : ∃ f fd, C8.Fun K "__init__" "Rule.__init__" s_Rule_init f fd ∧ fd.defaults = .none ∧ Mk K C_Rule f
  m_Rule_eq : ∃ f fd, C8.Fun K "__eq__" "Rule.__eq__" s_Rule_eq f fd ∧ fd.defaults = .none ∧ Meth K C_Rule "__eq__" f ∧ PySem.W.fnIn K f = true
  m_Rule_getitem : ∃ f fd, C8.Fun K "__getitem__" "Rule.__getitem__" s_Rule_getitem f fd ∧ fd.defaults = .none ∧ Meth K C_Rule "__getitem__" f ∧ PySem.W.fnIn K f = true
  m_Rule_iter : ∃ f fd, C8.Fun K "__iter__" "Rule.__iter__" s_Rule_iter f fd ∧ fd.defaults = .none ∧ Meth K C_Rule "__iter__" f ∧ PySem.W.fnIn K f = true
  m_Rule_size : ∃ f fd, C8.Fun K "size" "Rule.size" s_Rule_size f fd ∧ fd.defaults = .none ∧ Meth K C_Rule "size" f ∧ PySem.W.fnIn K f = true
  m_Rule_owed : ∃ f fd, C8.Fun K "owed" "Rule.owed" s_Rule_owed f fd ∧ fd.defaults = .none ∧ Meth K C_Rule "owed" f ∧ PySem.W.fnIn K f = true
  d_check_rule : ∃ f fd, C8.Def K mg "check_rule" s_check_rule f fd ∧ fd.defaults = .none
  d_check_number : ∃ f fd, C8.Def K mg "check_number" s_check_number f fd ∧ (∃ ds, Vals [] ds ∧ Binds K fd P_check_number ds) ∧ (∃ ds, Vals [.int 0] ds ∧ Binds K fd P_check_number ds)
  d_baked : ∃ f fd, C8.Def K mg "baked" s_baked f fd ∧ fd.defaults = .none
  d_is_baked : ∃ f fd, C8.Def K mg "is_baked" s_is_baked f fd ∧ fd.defaults = .none
  m_InTime_init : ∃ f fd, C8.Fun K "__init__" "InTime.__init__" s_InTime_init f fd ∧ fd.defaults = .none ∧ Mk K C_InTime f
  m_InTime_pieces : ∃ f fd, C8.Fun K "pieces" "InTime.pieces" s_InTime_pieces f fd ∧ fd.defaults = .none ∧ Meth K C_InTime "pieces" f ∧ PySem.W.fnIn K f = true
  m_InTime_shows : ∃ f fd, C8.Fun K "shows" "InTime.shows" s_InTime_shows f fd ∧ fd.defaults = .none ∧ Meth K C_InTime "shows" f ∧ PySem.W.fnIn K f = true
  m_Late_init : ∃ f fd, C8.Fun K "__init__" "Late.__init__" s_Late_init f fd ∧ fd.defaults = .none ∧ Mk K C_Late f
  m_Late_pieces : ∃ f fd, C8.Fun K "pieces" "Late.pieces" s_Late_pieces f fd ∧ fd.defaults = .none ∧ Meth K C_Late "pieces" f ∧ PySem.W.fnIn K f = true
  m_Late_shows : ∃ f fd, C8.Fun K "shows" "Late.shows" s_Late_shows f fd ∧ fd.defaults = .none ∧ Meth K C_Late "shows" f ∧ PySem.W.fnIn K f = true
  d_check_spread : ∃ f fd, C8.Def K mg "check_spread" s_check_spread f fd ∧ fd.defaults = .none
  d_due_day : ∃ f fd, C8.Def K mg "due_day" s_due_day f fd ∧ fd.defaults = .none
  d_due_grades : ∃ f fd, C8.Def K mg "due_grades" s_due_grades f fd ∧ fd.defaults = .none
  d_judge_spread : ∃ f fd, C8.Def K mg "judge_spread" s_judge_spread f fd ∧ fd.defaults = .none
  d_least_budget : ∃ f fd, C8.Def K mg "least_budget" s_least_budget f fd ∧ fd.defaults = .none
  d_left_over : ∃ f fd, C8.Def K mg "left_over" s_left_over f fd ∧ fd.defaults = .none
  d__law_number : ∃ f fd, C8.Def K mg "_law_number" s__law_number f fd ∧ fd.defaults = .none
  d__law_take : ∃ f fd, C8.Def K mg "_law_take" s__law_take f fd ∧ fd.defaults = .none
  d__law_pick : ∃ f fd, C8.Def K mg "_law_pick" s__law_pick f fd ∧ fd.defaults = .none
  d__law_pair : ∃ f fd, C8.Def K mg "_law_pair" s__law_pair f fd ∧ fd.defaults = .none
  d__law_rule : ∃ f fd, C8.Def K mg "_law_rule" s__law_rule f fd ∧ fd.defaults = .none
  d__law_at : ∃ f fd, C8.Def K mg "_law_at" s__law_at f fd ∧ fd.defaults = .none
  d__law_size : ∃ f fd, C8.Def K mg "_law_size" s__law_size f fd ∧ fd.defaults = .none
  d__law_fallen : ∃ f fd, C8.Def K mg "_law_fallen" s__law_fallen f fd ∧ fd.defaults = .none
  d__law_played : ∃ f fd, C8.Def K mg "_law_played" s__law_played f fd ∧ fd.defaults = .none
  d__law_far : ∃ f fd, C8.Def K mg "_law_far" s__law_far f fd ∧ fd.defaults = .none
  d__law_worked : ∃ f fd, C8.Def K mg "_law_worked" s__law_worked f fd ∧ fd.defaults = .none
  d__law_second : ∃ f fd, C8.Def K mg "_law_second" s__law_second f fd ∧ fd.defaults = .none
  d_law : ∃ f fd, C8.Def K mg "law" s_law f fd ∧ fd.defaults = .none
  m_InTime_bool : ∃ f fd, C8.Fun K "__bool__" "Good.__bool__" s_Good_bool f fd ∧ fd.defaults = .none ∧ Meth K C_InTime "__bool__" f ∧ PySem.W.fnIn K f = true
  m_InTime_eq : ∃ f fd, C8.Fun K "__eq__" "Evidence.__eq__" s_Evidence_eq f fd ∧ fd.defaults = .none ∧ Meth K C_InTime "__eq__" f ∧ PySem.W.fnIn K f = true
  ux_InTime_Evidence : PySem.W.kitOne K (.ref C_InTime) (.ref C_Evidence) = some true
  k_InTime_WORD : ∃ u, Con K C_InTime "WORD" (.str "in time") u
  m_Late_bool : ∃ f fd, C8.Fun K "__bool__" "Bad.__bool__" s_Bad_bool f fd ∧ fd.defaults = .none ∧ Meth K C_Late "__bool__" f ∧ PySem.W.fnIn K f = true
  m_Late_eq : ∃ f fd, C8.Fun K "__eq__" "Evidence.__eq__" s_Evidence_eq f fd ∧ fd.defaults = .none ∧ Meth K C_Late "__eq__" f ∧ PySem.W.fnIn K f = true
  ux_Late_Evidence : PySem.W.kitOne K (.ref C_Late) (.ref C_Evidence) = some true
  k_Late_WORD : ∃ u, Con K C_Late "WORD" (.str "late") u
  cl_Rule : Cls K C_Rule
  ic_Rule : InsF K C_Rule
  na_Rule_front : NoAttr K C_Rule "front"
  na_Rule_period : NoAttr K C_Rule "period"
  cl_InTime : Cls K C_InTime
  ic_InTime : InsF K C_InTime
  na_InTime_grades : NoAttr K C_InTime "grades"
  cl_Late : Cls K C_Late
  ic_Late : InsF K C_Late
  na_Late_grade : NoAttr K C_Late "grade"
  na_Late_day : NoAttr K C_Late "day"
  tk__law_worked : TabK K "_law_worked" Lc__law_worked Lp__law_worked
  tc__law_worked : ∀ f fd, C8.Def K mg "_law_worked" s__law_worked f fd → fd.code = .ref Lc__law_worked
  x_BadDay : XOwn K C_BadDay
  g_MOST_LAYERS : ∃ u, mg "MOST_LAYERS" = some u ∧ RelV (.int 12) u
  g_MOST_PAIRS : ∃ u, mg "MOST_PAIRS" = some u ∧ RelV (.int 6) u
  g_MOST_DAYS : ∃ u, mg "MOST_DAYS" = some u ∧ RelV (.int 3000) u
  b_max : mg "max" = none
  b_min : mg "min" = none
  b_len : mg "len" = none
  b_sum : mg "sum" = none
  b_abs : mg "abs" = none
  b_int : mg "int" = none
  b_bool : mg "bool" = none
  b_isinstance : mg "isinstance" = none
  b_range : mg "range" = none
  b_enumerate : mg "enumerate" = none
  b_list : mg "list" = none
  b_tuple : mg "tuple" = none
  b_sorted : mg "sorted" = none
  b_all : mg "all" = none
  b_any : mg "any" = none
  b_dict : mg "dict" = none
  b_str : mg "str" = none
  b_zip : mg "zip" = none
  b_reversed : mg "reversed" = none
  b_set : mg "set" = none
theorem TX.g_Rule {K : PySem.W.Frag} {mg : Str → Option Value} {C_Rule C_Evidence C_Good C_Bad C_InTime C_Late C_BadDay Lc__law_worked Lp__law_worked : Addr} (T : TX K mg C_Rule C_Evidence C_Good C_Bad C_InTime C_Late C_BadDay Lc__law_worked Lp__law_worked) : ∃ u, mg "Rule" = some u ∧ RelV (.ref C_Rule) u := ⟨_, T.mg_Rule, rfl⟩
theorem TX.i_Rule {K : PySem.W.Frag} {mg : Str → Option Value} {C_Rule C_Evidence C_Good C_Bad C_InTime C_Late C_BadDay Lc__law_worked Lp__law_worked : Addr} (T : TX K mg C_Rule C_Evidence C_Good C_Bad C_InTime C_Late C_BadDay Lc__law_worked Lp__law_worked) : InsC K C_Rule := ⟨T.cl_Rule, T.ic_Rule.ha, T.ic_Rule.hn, T.ic_Rule.htk, T.ic_Rule.hm, kit_self⟩
theorem TX.fi_Rule {K : PySem.W.Frag} {mg : Str → Option Value} {C_Rule C_Evidence C_Good C_Bad C_InTime C_Late C_BadDay Lc__law_worked Lp__law_worked : Addr} (T : TX K mg C_Rule C_Evidence C_Good C_Bad C_InTime C_Late C_BadDay Lc__law_worked Lp__law_worked) : ∀ f, PySem.W.findIn K (.ref C_Rule) "__getitem__" = some (some (.ref f)) → PySem.W.fnIn K f = true := by
  intro f h
  obtain ⟨f1, fd, _, _, m, k⟩ := T.m_Rule_getitem
  have := m.at_.symm.trans h
  cases this
  exact k
theorem TX.g_Evidence {K : PySem.W.Frag} {mg : Str → Option Value} {C_Rule C_Evidence C_Good C_Bad C_InTime C_Late C_BadDay Lc__law_worked Lp__law_worked : Addr} (T : TX K mg C_Rule C_Evidence C_Good C_Bad C_InTime C_Late C_BadDay Lc__law_worked Lp__law_worked) : ∃ u, mg "Evidence" = some u ∧ RelV (.ref C_Evidence) u := ⟨_, T.mg_Evidence, rfl⟩
theorem TX.g_Good {K : PySem.W.Frag} {mg : Str → Option Value} {C_Rule C_Evidence C_Good C_Bad C_InTime C_Late C_BadDay Lc__law_worked Lp__law_worked : Addr} (T : TX K mg C_Rule C_Evidence C_Good C_Bad C_InTime C_Late C_BadDay Lc__law_worked Lp__law_worked) : ∃ u, mg "Good" = some u ∧ RelV (.ref C_Good) u := ⟨_, T.mg_Good, rfl⟩
theorem TX.g_Bad {K : PySem.W.Frag} {mg : Str → Option Value} {C_Rule C_Evidence C_Good C_Bad C_InTime C_Late C_BadDay Lc__law_worked Lp__law_worked : Addr} (T : TX K mg C_Rule C_Evidence C_Good C_Bad C_InTime C_Late C_BadDay Lc__law_worked Lp__law_worked) : ∃ u, mg "Bad" = some u ∧ RelV (.ref C_Bad) u := ⟨_, T.mg_Bad, rfl⟩
theorem TX.g_InTime {K : PySem.W.Frag} {mg : Str → Option Value} {C_Rule C_Evidence C_Good C_Bad C_InTime C_Late C_BadDay Lc__law_worked Lp__law_worked : Addr} (T : TX K mg C_Rule C_Evidence C_Good C_Bad C_InTime C_Late C_BadDay Lc__law_worked Lp__law_worked) : ∃ u, mg "InTime" = some u ∧ RelV (.ref C_InTime) u := ⟨_, T.mg_InTime, rfl⟩
theorem TX.up_InTime_Evidence {K : PySem.W.Frag} {mg : Str → Option Value} {C_Rule C_Evidence C_Good C_Bad C_InTime C_Late C_BadDay Lc__law_worked Lp__law_worked : Addr} (T : TX K mg C_Rule C_Evidence C_Good C_Bad C_InTime C_Late C_BadDay Lc__law_worked Lp__law_worked) : InsB K C_InTime C_Evidence := ⟨T.cl_InTime, T.ic_InTime.ha, T.ic_InTime.hn, T.ic_InTime.htk, T.ic_InTime.hm, T.ux_InTime_Evidence⟩
theorem TX.i_InTime {K : PySem.W.Frag} {mg : Str → Option Value} {C_Rule C_Evidence C_Good C_Bad C_InTime C_Late C_BadDay Lc__law_worked Lp__law_worked : Addr} (T : TX K mg C_Rule C_Evidence C_Good C_Bad C_InTime C_Late C_BadDay Lc__law_worked Lp__law_worked) : InsC K C_InTime := ⟨T.cl_InTime, T.ic_InTime.ha, T.ic_InTime.hn, T.ic_InTime.htk, T.ic_InTime.hm, kit_self⟩
theorem TX.g_Late {K : PySem.W.Frag} {mg : Str → Option Value} {C_Rule C_Evidence C_Good C_Bad C_InTime C_Late C_BadDay Lc__law_worked Lp__law_worked : Addr} (T : TX K mg C_Rule C_Evidence C_Good C_Bad C_InTime C_Late C_BadDay Lc__law_worked Lp__law_worked) : ∃ u, mg "Late" = some u ∧ RelV (.ref C_Late) u := ⟨_, T.mg_Late, rfl⟩
theorem TX.up_Late_Evidence {K : PySem.W.Frag} {mg : Str → Option Value} {C_Rule C_Evidence C_Good C_Bad C_InTime C_Late C_BadDay Lc__law_worked Lp__law_worked : Addr} (T : TX K mg C_Rule C_Evidence C_Good C_Bad C_InTime C_Late C_BadDay Lc__law_worked Lp__law_worked) : InsB K C_Late C_Evidence := ⟨T.cl_Late, T.ic_Late.ha, T.ic_Late.hn, T.ic_Late.htk, T.ic_Late.hm, T.ux_Late_Evidence⟩
theorem TX.i_Late {K : PySem.W.Frag} {mg : Str → Option Value} {C_Rule C_Evidence C_Good C_Bad C_InTime C_Late C_BadDay Lc__law_worked Lp__law_worked : Addr} (T : TX K mg C_Rule C_Evidence C_Good C_Bad C_InTime C_Late C_BadDay Lc__law_worked Lp__law_worked) : InsC K C_Late := ⟨T.cl_Late, T.ic_Late.ha, T.ic_Late.hn, T.ic_Late.htk, T.ic_Late.hm, kit_self⟩
end Sl
set_option Elab.async false
set_option linter.all false
set_option maxRecDepth 100000
set_option maxHeartbeats 4000000
namespace Sl
open PySem L2 C8 StX
/-! ### data without lists stands when a list changes -/
mutual
inductive Dn (H : Hp) : V → PyData → Prop
  | non : Dn H .non .none
  | bl (b : Bool) : Dn H (.bl b) (.bool b)
  | int (i : Int) : Dn H (.int i) (.int i)
  | str (x : Str) : Dn H (.str x) (.str x)
  | tup {a : Addr} {xs : List V} {ds : List PyData} : H a = some (.tup xs) → DnAll H xs ds → Dn H (.ref a) (.tuple ds)
inductive DnAll (H : Hp) : List V → List PyData → Prop
  | nil : DnAll H [] []
  | cons {v : V} {vs : List V} {d : PyData} {ds : List PyData} : Dn H v d → DnAll H vs ds → DnAll H (v :: vs) (d :: ds)
end
mutual
/-- it stands where all tuples stand -/
theorem Dn.keep {H H' : Hp} (s : ∀ a xs, H a = some (.tup xs) → H' a = some (.tup xs)) : ∀ {v : V} {d : PyData}, Dn H v d → Dn H' v d
  | _, _, .non => .non
  | _, _, .bl b => .bl b
  | _, _, .int i => .int i
  | _, _, .str x => .str x
  | _, _, .tup e h => .tup (s _ _ e) (DnAll.keep s h)
theorem DnAll.keep {H H' : Hp} (s : ∀ a xs, H a = some (.tup xs) → H' a = some (.tup xs)) : ∀ {vs : List V} {ds : List PyData}, DnAll H vs ds → DnAll H' vs ds
  | _, _, .nil => .nil
  | _, _, .cons h t => .cons (Dn.keep s h) (DnAll.keep s t)
end
mutual
theorem Dn.dt {H : Hp} : ∀ {v : V} {d : PyData}, Dn H v d → Dt H v d
  | _, _, .non => .non
  | _, _, .bl b => .bl b
  | _, _, .int i => .int i
  | _, _, .str x => .str x
  | _, _, .tup e h => .tup e (DnAll.dt h)
theorem DnAll.dt {H : Hp} : ∀ {vs : List V} {ds : List PyData}, DnAll H vs ds → DtAll H vs ds
  | _, _, .nil => .nil
  | _, _, .cons h t => .cons (Dn.dt h) (DnAll.dt t)
end
theorem Dn.mono {H H' : Hp} (s : Same H H') {v : V} {d : PyData} (h : Dn H v d) : Dn H' v d := h.keep fun a xs e => s a _ e
theorem DnAll.mono {H H' : Hp} (s : Same H H') {v : List V} {d : List PyData} (h : DnAll H v d) : DnAll H' v d := h.keep fun a xs e => s a _ e
theorem keep_lst {H : Hp} {t : Addr} {xs ys : List V} (e : H t = some (.lst xs)) : ∀ a zs, H a = some (.tup zs) → upd H t (.lst ys) a = some (.tup zs) := fun a zs ea => by
  rw [upd_ne (fun q => by rw [q, e] at ea; cases ea)]
  exact ea
theorem DnAll.updL {H : Hp} {t : Addr} {xs ys : List V} (e : H t = some (.lst xs)) {vs : List V} {ds : List PyData} (h : DnAll H vs ds) : DnAll (upd H t (.lst ys)) vs ds := h.keep (keep_lst e)
theorem Dn.updL {H : Hp} {t : Addr} {xs ys : List V} (e : H t = some (.lst xs)) {v : V} {d : PyData} (h : Dn H v d) : Dn (upd H t (.lst ys)) v d := h.keep (keep_lst e)
theorem DnAll.append {H : Hp} : ∀ {vs ws : List V} {ds es : List PyData}, DnAll H vs ds → DnAll H ws es → DnAll H (vs ++ ws) (ds ++ es)
  | _, _, _, _, .nil, s => s
  | _, _, _, _, .cons h t, s => .cons h (DnAll.append t s)
theorem DnAll.length {H : Hp} : ∀ {vs : List V} {ds : List PyData}, DnAll H vs ds → vs.length = ds.length
  | _, _, .nil => rfl
  | _, _, .cons _ t => by rw [List.length_cons, List.length_cons, DnAll.length t]
theorem DnAll.intsD {H : Hp} : ∀ (ns : List Int), DnAll H (ns.map V.int) (Sl.intsD ns)
  | [] => .nil
  | n :: ns => .cons (.int n) (DnAll.intsD ns)
def triD (q : Int × Int × Int) : PyData := .tuple [.int q.1, .int q.2.1, .int q.2.2]
def pairD (q : Int × Int) : PyData := .tuple [.int q.1, .int q.2]
theorem Dn.tri {H : Hp} {t : Addr} {a b c : Int} (e : H t = some (.tup [.int a, .int b, .int c])) : Dn H (.ref t) (triD (a, b, c)) := .tup e (.cons (.int _) (.cons (.int _) (.cons (.int _) .nil)))
theorem Dn.pair {H : Hp} {t : Addr} {q : Int × Int} (e : H t = some (.tup [.int q.1, .int q.2])) : Dn H (.ref t) (pairD q) := .tup e (.cons (.int _) (.cons (.int _) .nil))
theorem Dt.tri_inv {H : Hp} {v : V} {q : Int × Int × Int} (h : Dt H v (triD q)) : ∃ t, v = .ref t ∧ H t = some (.tup [.int q.1, .int q.2.1, .int q.2.2]) := by
  unfold triD at h
  cases h with
  | tup e h =>
    cases h with
    | cons h1 h2 =>
      cases h1
      cases h2 with
      | cons h1 h2 =>
        cases h1
        cases h2 with
        | cons h1 h2 =>
          cases h1
          cases h2
          exact ⟨_, rfl, e⟩
/-! ### shapes, equality -/
theorem lay_map {α : Type} {f : α → PyData} (h : ∀ x, (f x).canLay0 = true) : ∀ l : List α, PyData.canLayAll0 (l.map f) = true
  | [] => by simp [PyData.canLayAll0]
  | x :: l => by simp [PyData.canLayAll0, h x, lay_map h l]
theorem depth_map {α : Type} {f : α → PyData} {n : Nat} (h : ∀ x, (f x).depth ≤ n) : ∀ l : List α, PyData.depthAll (l.map f) ≤ n
  | [] => by simp [PyData.depthAll]
  | x :: l => by simp only [List.map_cons, PyData.depthAll]; have := h x; have := depth_map h l; omega
theorem shaped_listMap {α : Type} {f : α → PyData} (h : ∀ x, (f x).canLay0 = true) (hd : ∀ x, (f x).depth ≤ 60) (l : List α) : SeqAt.shaped (.list (l.map f)) = true := by
  have := depth_map hd l
  refine Bool.and_eq_true_iff.mpr ⟨by simp only [PyData.canLay0]; exact lay_map h l, decide_eq_true ?_⟩
  simp only [PyData.depth]
  omega
theorem shaped_tupMap {α : Type} {f : α → PyData} (h : ∀ x, (f x).canLay0 = true) (hd : ∀ x, (f x).depth ≤ 60) (l : List α) : SeqAt.shaped (.tuple (l.map f)) = true := by
  have := depth_map hd l
  refine Bool.and_eq_true_iff.mpr ⟨by simp only [PyData.canLay0]; exact lay_map h l, decide_eq_true ?_⟩
  simp only [PyData.depth]
  omega
theorem shaped_ints (ns : List Int) : SeqAt.shaped (.list (intsD ns)) = true := shaped_listMap (fun _ => by simp [PyData.canLay0]) (fun _ => by simp [PyData.depth]) ns
theorem shaped_tris (l : List (Int × Int × Int)) : SeqAt.shaped (.list (l.map triD)) = true := shaped_listMap (fun _ => by simp [triD, PyData.canLay0, PyData.canLayAll0]) (fun _ => by simp [triD, PyData.depth, PyData.depthAll]) l
theorem shaped_pair (q : Int × Int) : SeqAt.shaped (pairD q) = true := by simp [SeqAt.shaped, pairD, PyData.canLay0, PyData.canLayAll0, PyData.depth, PyData.depthAll]
theorem shaped_pairsT (l : List (Int × Int)) : SeqAt.shaped (.tuple (l.map pairD)) = true := shaped_tupMap (fun _ => by simp [pairD, PyData.canLay0, PyData.canLayAll0]) (fun _ => by simp [pairD, PyData.depth, PyData.depthAll]) l
theorem eqv_self {d : PyData} (h : SeqAt.shaped d = true) : PyData.eqv d d = true := SeqAt.eqv_refl d (SeqAt.canLay_of_shaped h)
theorem eqv_nil (l : List PyData) : PyData.eqv (.list l) (.list []) = decide (l = []) := by
  cases l with
  | nil => simp [PyData.eqv, PyData.eqvAll]
  | cons x l => simp [PyData.eqv, PyData.eqvAll]
/-! ### isinstance against (list, tuple) -/
section
variable {H : Hp} {Q : VK} {K : PySem.W.Frag}
theorem kit_ll : PySem.W.kitAny K (.type "list") [.type "list", .type "tuple"] = some true := kitAny_cons (b := true) (kit_ty (by decide +kernel)) (fun h => nomatch h) (fun _ => rfl)
theorem kit_tt : PySem.W.kitAny K (.type "tuple") [.type "list", .type "tuple"] = some true := kitAny_cons (b := false) (kit_ty (by decide +kernel)) (fun _ => kitAny_cons (b := true) (kit_ty (by decide +kernel)) (fun h => nomatch h) (fun _ => rfl)) (fun h => nomatch h)
theorem rd_isiTL {a u : Addr} {xs : List V} (e : H a = some (.lst xs)) (eu : H u = some (.tup [.ty "list", .ty "tuple"])) (h : Q (.bl true) H) : rIsiT K [.ref a, .ref u] H Q :=
  ⟨_, u, _, _, [.type "list", .type "tuple"], true, rfl, eu, .cons (.ty _) (.cons (.ty _) .nil), .base (.lst e), kit_ll, h⟩
theorem rd_isiTT {a u : Addr} {xs : List V} (e : H a = some (.tup xs)) (eu : H u = some (.tup [.ty "list", .ty "tuple"])) (h : Q (.bl true) H) : rIsiT K [.ref a, .ref u] H Q :=
  ⟨_, u, _, _, [.type "list", .type "tuple"], true, rfl, eu, .cons (.ty _) (.cons (.ty _) .nil), .base (.tup e), kit_tt, h⟩
/-- a conditional expression of two plain values -/
theorem rd_iteV {p : Prop} [Decidable p] {σ : L2.St} {ta tb : TE} {v : V} (h1 : p → ∀ Q' : VK, Q' v H → ta σ H Q') (h2 : ¬ p → ∀ Q' : VK, Q' v H → tb σ H Q') (h : Q v H) : if decide p = true then ta σ H Q else tb σ H Q := by
  by_cases c : p
  · rw [if_pos (decide_eq_true c)]; exact h1 c Q h
  · rw [if_neg (by rw [decide_eq_false c]; exact Bool.false_ne_true)]; exact h2 c Q h
end
end Sl
set_option Elab.async false
set_option linter.all false
set_option maxRecDepth 100000
set_option maxHeartbeats 4000000
namespace Sl
open PySem L2 C8 StX Silt
local macro_rules | `(tactic| walk_at "side") => `(tactic| first
  | exact cdivw (by omega) (by omega)
  | exact cmulw (by omega) (by omega) (by omega) (by omega)
  | exact Or.inr ⟨by omega, by omega⟩
  | exact Or.inl ⟨by omega, by omega⟩
  | omega
  | exact ⟨by omega, by omega, by decide⟩
  | decide)
local macro_rules | `(tactic| walk_at "rd1") => `(tactic| first
  | with_reducible refine rd_seq ?_
  | with_reducible refine rd_asg ?_
  | with_reducible refine rd_drop ?_
  | with_reducible refine rd_ret ?_
  | with_reducible refine rd_retN ?_
  | with_reducible refine rd_ifS ?_
  | ((with_reducible refine rd_var0 ?_); refine ⟨_, rfl, ?_⟩)
  | with_reducible refine rd_c ?_
  | with_reducible refine rd_op ?_
  | with_reducible refine rd_un ?_
  | with_reducible refine rd_I0 ?_
  | with_reducible refine rd_U ?_
  | ((with_reducible refine rd_I ?c ?_); (case c => walk_at "side"))
  | with_reducible refine rd_ipI ?_
  | with_reducible refine rd_eqI ?_
  | with_reducible refine rd_neI ?_
  | with_reducible refine rd_test ?_
  | with_reducible refine rd_tB ?_
  | with_reducible refine rd_bl ?_
  | with_reducible refine rd_not ?_
  | with_reducible refine rd_and ?_
  | with_reducible refine rd_or ?_
  | with_reducible refine rd_andV ?_
  | with_reducible refine rd_orV ?_
  | with_reducible refine rd_notV ?_
  | with_reducible refine rd_ifE ?_
  | with_reducible refine rd_chain ?_
  | with_reducible refine rd_chain3 ?_
  | with_reducible refine rd_nil ?_
  | with_reducible refine rd_cons ?_
  | with_reducible refine rd_call ?_
  | with_reducible refine rd_CB ?_
  | with_reducible refine rd_par ?_
  | with_reducible refine rd_par2 ?_
  | with_reducible refine rd_par3 ?_
  | with_reducible refine rd_par4 ?_
  | ((with_reducible refine rd_aug0 ?_); refine ⟨_, rfl, ?_⟩)
  | with_reducible refine rd_gname ?_
  | with_reducible refine rd_gcons ?_
  | with_reducible refine rd_gnil ?_
  | with_reducible refine rd_max ?_
  | with_reducible refine rd_min ?_
  | with_reducible refine rd_int1 ?_
  | with_reducible refine rd_abs ?_
  | with_reducible refine rd_lst ?_
  | with_reducible refine rd_tup ?_
  | with_reducible refine rd_bm ?_
  | with_reducible refine rd_fld0 ?_
  | with_reducible refine rd_sl0 ?_
  | with_reducible refine rd_noP ?_
  | with_reducible refine rd_part ?_
  | with_reducible refine rd_part2 ?_
  | with_reducible refine rd_meth0 ?_
  | with_reducible refine rd_star ?_
  | with_reducible refine rd_for ?_
  | with_reducible refine rd_rng1 ?_
  | with_reducible refine rd_rng2 ?_
  | with_reducible refine rd_rng3 ?_
  | with_reducible refine rd_iList ?_
  | with_reducible refine rd_iTup ?_
  | with_reducible refine rd_iEnum ?_
  | with_reducible refine rd_lc ?_
  | with_reducible refine rd_yes ?_
  | with_reducible refine rd_augS ?_
  | with_reducible refine rd_drawNew ?_
  | with_reducible refine rd_make0 ?_
  | with_reducible refine rd_next ?_
  | with_reducible refine rd_break ?_
  | with_reducible refine rd_cont ?_
  | with_reducible refine rd_iteTT ?_
  | with_reducible refine rd_iteFF ?_
  | with_reducible refine rd_iteNTT ?_
  | with_reducible refine rd_iteNFF ?_
  | with_reducible refine rd_con0 ?_
  | with_reducible refine rd_truO0 ?_
  | with_reducible refine rd_gfld0 ?_
  | with_reducible refine rd_dc ?_
  | with_reducible refine rd_iKeys ?_
  | with_reducible refine rd_dget0 ?_
  | with_reducible refine rd_dput0 ?_
  | with_reducible refine rd_dnot0 ?_
  | with_reducible refine rd_iEnumT ?_
  | with_reducible refine rd_raP0 ?_
  | with_reducible refine rd_xf0 ?_
  | with_reducible refine rd_cKw ?_
  | with_reducible refine rd_asgG ?_)
local macro_rules | `(tactic| walk_at "rd") => `(tactic| repeat walk_at "rd1")
local macro_rules | `(tactic| walk_at "len") => `(tactic| first
  | (intro vs H Q E h; obtain ⟨h2, _⟩ := h; rw [h2]; rfl)
  | (intro vs H Q E h; obtain ⟨_, h2, _⟩ := h; rw [h2]; rfl)
  | (intro vs H Q E h; obtain ⟨_, _, h2, _⟩ := h; rw [h2]; rfl)
  | (intro vs H Q E h; obtain ⟨_, _, _, h2, _⟩ := h; rw [h2]; rfl)
  | (intro vs H Q E h; obtain ⟨_, _, _, _, h2, _⟩ := h; rw [h2]; rfl)
  | (intro vs H Q E h; obtain ⟨_, _, _, _, _, h2, _⟩ := h; rw [h2]; rfl)
  | (intro vs H Q E h; obtain ⟨_, _, _, _, _, _, h2, _⟩ := h; rw [h2]; rfl)
  | (intro vs H Q E h; obtain ⟨_, _, _, _, _, _, _, h2, _⟩ := h; rw [h2]; rfl)
  | (intro vs H Q E h; obtain ⟨_, _, _, _, _, _, _, _, h2, _⟩ := h; rw [h2]; rfl)
  | (intro vs H Q E h; obtain ⟨_, _, _, _, _, _, _, _, _, h2, _⟩ := h; rw [h2]; rfl)
  | (intro vs H Q E h; obtain ⟨_, _, _, _, _, _, _, _, _, _, h2, _⟩ := h; rw [h2]; rfl)
  | (intro vs H Q E h; obtain ⟨_, _, _, _, _, _, _, _, _, _, _, h2, _⟩ := h; rw [h2]; rfl)
  | (intro vs H Q E h; obtain ⟨_, _, _, _, _, _, _, _, _, _, _, _, h2, _⟩ := h; rw [h2]; rfl))
section
variable {σ : L2.St} {H H' : Hp} {Q : VK} {K : PySem.W.Frag} {te : TE} {v : V} {f : Str}
theorem rd_isiI {i : Int} (h : Q (.bl true) H) : rIsi K [.int i, .ty "int"] H Q := ⟨_, _, _, _, true, rfl, .ty _, .base (.int i), kit_ty (by decide +kernel), h⟩
theorem rd_isiIB {i : Int} (h : Q (.bl false) H) : rIsi K [.int i, .ty "bool"] H Q := ⟨_, _, _, _, false, rfl, .ty _, .base (.int i), kit_ty (by decide +kernel), h⟩
theorem rd_isiT {a : Addr} {xs : List V} (e : H a = some (.tup xs)) (h : Q (.bl true) H) : rIsi K [.ref a, .ty "tuple"] H Q := ⟨_, _, _, _, true, rfl, .ty _, .base (.tup e), kit_ty (by decide +kernel), h⟩
end
/-! ### the data -/
def pairsD (l : List (Int × Int)) : List PyData := l.map pairD
def atp (f q : List (Int × Int)) : Pr := fun g => if g < f.length then f.getD g (0, 0) else q.getD ((g - f.length) % q.length) (0, 0)
def rf (t1 t2 : Addr) : List (Str × V) := [("front", .ref t1), ("period", .ref t2)]
theorem rf_front (t1 t2 : Addr) : (rf t1 t2).lookup ("front" : Str) = some (.ref t1) := by rfl
theorem rf_period (t1 t2 : Addr) : (rf t1 t2).lookup ("period" : Str) = some (.ref t2) := by rfl
/-- an instance at a whose front and period are the tuples of f and q -/
def RuleAt (C : Addr) (H : Hp) (a : Addr) (f q : List PyData) : Prop := ∃ dx t1 t2, H a = some (.ins C dx (rf t1 t2)) ∧ Dt H (.ref t1) (.tuple f) ∧ Dt H (.ref t2) (.tuple q)
theorem RuleAt.mono {C : Addr} {H H' : Hp} {a : Addr} {f q : List PyData} (s : Same H H') (h : RuleAt C H a f q) : RuleAt C H' a f q := by
  obtain ⟨dx, t1, t2, e, h1, h2⟩ := h
  exact ⟨dx, t1, t2, s _ _ e, h1.mono s, h2.mono s⟩
/-- a rule -/
def RuleP (C : Addr) (H : Hp) (a : Addr) (p : Pr) : Prop := ∃ f q, RuleAt C H a (pairsD f) (pairsD q) ∧ q ≠ [] ∧ p = atp f q ∧ Good p
theorem RuleP.mono {C : Addr} {H H' : Hp} {a : Addr} {p : Pr} (s : Same H H') (h : RuleP C H a p) : RuleP C H' a p := by
  obtain ⟨f, q, h1, h2, h3, h4⟩ := h
  exact ⟨f, q, h1.mono s, h2, h3, h4⟩
theorem RuleP.good {C : Addr} {H : Hp} {a : Addr} {p : Pr} (h : RuleP C H a p) : Good p := by obtain ⟨_, _, _, _, _, g⟩ := h; exact g
theorem RuleP.ins {C : Addr} {H : Hp} {a : Addr} {p : Pr} (h : RuleP C H a p) : ∃ dx t1 t2, H a = some (.ins C dx (rf t1 t2)) := by
  obtain ⟨_, _, ⟨dx, t1, t2, e, _, _⟩, _⟩ := h
  exact ⟨dx, t1, t2, e⟩
theorem Dt.tup_inv {H : Hp} {t : Addr} {ds : List PyData} (h : Dt H (.ref t) (.tuple ds)) : ∃ xs, H t = some (.tup xs) ∧ DtAll H xs ds := by
  cases h with
  | tup e h => exact ⟨_, e, h⟩
theorem Dt.lst_inv {H : Hp} {t : Addr} {ds : List PyData} (h : Dt H (.ref t) (.list ds)) : ∃ xs, H t = some (.lst xs) ∧ DtAll H xs ds := by
  cases h with
  | lst e h => exact ⟨_, e, h⟩
theorem Dt.pair_inv {H : Hp} {v : V} {q : Int × Int} (h : Dt H v (pairD q)) : ∃ t, v = .ref t ∧ H t = some (.tup [.int q.1, .int q.2]) := by
  unfold pairD at h
  cases h with
  | tup e h =>
    cases h with
    | cons h1 h2 =>
      cases h1
      cases h2 with
      | cons h1 h2 =>
        cases h1
        cases h2
        exact ⟨_, rfl, e⟩
theorem atI_nat' {α : Type} {xs : List α} {i : Nat} {x : α} (h : xs[i]? = some x) : atI xs (i : Int) = some x := by
  exact atI_nat h
/-! ### promises -/
def spWhole : Sp := fun vs H Q _ => ∃ i : Int, vs = [.int i] ∧ Q (.bl true) H
def spChkR (C : Addr) : Sp := fun vs H Q _ => ∃ a p, vs = [.ref a] ∧ RuleP C H a p ∧ Q .non H
def spChkN : Sp := fun vs H Q _ => ∃ i j : Int, vs = [.int i, .int j] ∧ j ≤ i ∧ Q .non H
def spGet (C : Addr) : Sp := fun vs H Q _ => ∃ (a : Addr) (p : Pr) (g : Int), vs = [.ref a, .int g] ∧ RuleP C H a p ∧ 0 ≤ g ∧ ∀ t, H t = some (.tup [.int (p g.toNat).1, .int (p g.toNat).2]) → Q (.ref t) H
section
variable {P : Program} {w : World} {K : PySem.W.Frag} {mg : Str → Option Value} {base : Heap} {C_Rule C_Evidence C_Good C_Bad C_InTime C_Late C_BadDay Lc__law_worked Lp__law_worked : Addr}
theorem cal_is_whole (T : TX K mg C_Rule C_Evidence C_Good C_Bad C_InTime C_Late C_BadDay Lc__law_worked Lp__law_worked) : Cal P w K mg base 1 "is_whole" spWhole [] := by
  obtain ⟨f0, fd, D, dn⟩ := T.d_is_whole
  refine cal0 D (D.fn.binds dn fun _ _ _ _ _ _ us hl => match us, hl with | [_], _ => rfl) .nil sc_is_whole (by walk_at "len") (fun cdv A outer s H vs Q E hr h => ?_)
  obtain ⟨i, rfl, k⟩ := h
  refine ⟨_, (pss_one (ps_ret (pe_and (pe_callB call_isi (by rfl) T.b_isinstance (by decide +kernel) (pa_cons (pv 0) (pa_cons (pe_bltn (v := .ty "int") (u := .type "int") rfl T.b_int (by decide +kernel) rfl) pa_nil))) (pe_one (pe_not (pe_callB call_isi (by rfl) T.b_isinstance (by decide +kernel) (pa_cons (pv 0) (pa_cons (pe_bltn (v := .ty "bool") (u := .type "bool") rfl T.b_bool (by decide +kernel) rfl) pa_nil)))))))), ?_⟩
  walk_at "rd"
  refine rd_isiI ?_
  walk_at "rd"
  refine rd_isiIB ?_
  walk_at "rd"
  exact k
theorem cal_check_rule (T : TX K mg C_Rule C_Evidence C_Good C_Bad C_InTime C_Late C_BadDay Lc__law_worked Lp__law_worked) : Cal P w K mg base 1 "check_rule" (spChkR C_Rule) [] := by
  obtain ⟨f0, fd, D, dn⟩ := T.d_check_rule
  refine cal0 D (D.fn.binds dn fun _ _ _ _ _ _ us hl => match us, hl with | [_], _ => rfl) .nil sc_check_rule (by walk_at "len") (fun cdv A outer s H vs Q E hr h => ?_)
  obtain ⟨a, p, rfl, hp, k⟩ := h
  obtain ⟨dx, t1, t2, e⟩ := hp.ins
  refine ⟨_, (pss_one (ps_if (pt_not (pt_val (pe_callB (cr_isC T.i_Rule) (by rfl) T.b_isinstance (by decide +kernel) (pa_cons (pv 0) (pa_cons (pe_gc rfl T.g_Rule) pa_nil))))) (pss_one ps_never) pss_nil)), ?_⟩
  walk_at "rd"
  refine rd_isC e ?_
  walk_at "rd"
  exact k
theorem cal2_check_number (T : TX K mg C_Rule C_Evidence C_Good C_Bad C_InTime C_Late C_BadDay Lc__law_worked Lp__law_worked) : ∃ f fd, C8.Def K mg "check_number" s_check_number f fd ∧ (∃ ds, Vals [] ds ∧ Binds K fd P_check_number ds) ∧ (∃ ds, Vals [.int 0] ds ∧ Binds K fd P_check_number ds) ∧ FnOk P w K mg base C8.CX0 2 f fd P_check_number spChkN := by
  obtain ⟨f0, fd, D, b0, b1⟩ := T.d_check_number
  have G_is_whole := cal_is_whole (P := P) (w := w) (base := base) T
  refine ⟨f0, fd, D, b0, b1, fn0 D.fn sc_check_number (by walk_at "len") (fun cdv A outer s H vs Q E hr h => ?_)⟩
  obtain ⟨i, j, rfl, hij, k⟩ := h
  refine ⟨_, (pss_one (ps_if (PW.pt (pw_or (pt_not (pt_val (pe_c G_is_whole hr (by decide) rfl (pa_cons (pv 0) pa_nil)))) (pw_or1 (pt_cmpR op_lt (pv 0) (pv 1) (nomark _))))) (pss_one ps_never) pss_nil)), ?_⟩
  walk_at "rd"
  refine ⟨_, rfl, ?_⟩
  walk_at "rd"
  refine rd_iteF (by omega) ?_
  walk_at "rd"
  exact k
end
section
variable {P : Program} {w : World} {K : PySem.W.Frag} {mg : Str → Option Value} {base : Heap} {C_Rule C_Evidence C_Good C_Bad C_InTime C_Late C_BadDay Lc__law_worked Lp__law_worked : Addr}
/-- check_number(thing) -/
theorem cal_check_number (T : TX K mg C_Rule C_Evidence C_Good C_Bad C_InTime C_Late C_BadDay Lc__law_worked Lp__law_worked) : Cal P w K mg base 2 "check_number" spChkN [.int 0] := by
  obtain ⟨f, fd, D, _, ⟨ds, v, b⟩, F⟩ := cal2_check_number (P := P) (w := w) (base := base) T
  exact ⟨f, fd, _, ds, F, D.mgf, D.kp, b, v⟩
/-- check_number(thing, least) -/
theorem cal_check_number_2 (T : TX K mg C_Rule C_Evidence C_Good C_Bad C_InTime C_Late C_BadDay Lc__law_worked Lp__law_worked) : Cal P w K mg base 2 "check_number" spChkN [] := by
  obtain ⟨f, fd, D, ⟨ds, v, b⟩, _, F⟩ := cal2_check_number (P := P) (w := w) (base := base) T
  exact ⟨f, fd, _, ds, F, D.mgf, D.kp, b, v⟩
theorem met_Rule_getitem (T : TX K mg C_Rule C_Evidence C_Good C_Bad C_InTime C_Late C_BadDay Lc__law_worked Lp__law_worked) : Met P w K mg base 1 C_Rule "__getitem__" (spGet C_Rule) [] := by
  obtain ⟨f0, fd, D, dn, me, _⟩ := T.m_Rule_getitem
  refine met0 T.cl_Rule me D (D.binds dn fun _ _ _ _ _ _ us hl => match us, hl with | [_, _], _ => rfl) sc_Rule_getitem (by walk_at "len") (fun cdv A outer s H vs Q E hr h => ?_)
  obtain ⟨a, p, g, rfl, ⟨f, q, ⟨dx, t1, t2, e, h1, h2⟩, hq, rfl, gd⟩, hg, k⟩ := h
  obtain ⟨xs1, e1, d1⟩ := h1.tup_inv
  obtain ⟨xs2, e2, d2⟩ := h2.tup_inv
  have l1 : xs1.length = f.length := by rw [d1.length]; simp [pairsD]
  have l2 : xs2.length = q.length := by rw [d2.length]; simp [pairsD]
  have q0 : 0 < q.length := by cases q with | nil => exact absurd rfl hq | cons _ _ => exact Nat.succ_pos _
  obtain ⟨n, rfl⟩ : ∃ n : Nat, g = n := ⟨g.toNat, by omega⟩
  simp only [Int.toNat_natCast] at k
  refine ⟨_, (pss_cons (ps_if (pt_cmpR op_lt (pv 1) (pe_callB cr_lenS (by rfl) T.b_len (by decide +kernel) (pa_cons (pe_fld (pv 0) rfl) pa_nil)) (nomark _)) (pss_one (ps_ret (pe_ix ix_tup (pe_fld (pv 0) rfl) (pv 1) (fun _ _ => rfl)))) pss_nil)
      (pss_one (ps_ret (pe_ix ix_tup (pe_fld (pv 0) rfl) (pe_op op_modN (pe_op op_sub (pv 1) (pe_callB cr_lenS (by rfl) T.b_len (by decide +kernel) (pa_cons (pe_fld (pv 0) rfl) pa_nil))) (pe_callB cr_lenS (by rfl) T.b_len (by decide +kernel) (pa_cons (pe_fld (pv 0) rfl) pa_nil))) (fun _ _ => rfl))))), ?_⟩
  walk_at "rd"
  refine rd_fld e T.cl_Rule T.na_Rule_front (rf_front _ _) ?_
  walk_at "rd"
  refine rd_lenT e1 ?_
  walk_at "rd"
  refine rd_ite (fun c => ?_) (fun c => ?_)
  · walk_at "rd"
    refine rd_fld e T.cl_Rule T.na_Rule_front (rf_front _ _) ?_
    walk_at "rd"
    have hn : n < f.length := by omega
    obtain ⟨v, hv, dv⟩ := d1.get (i := n) (d := pairD (f[n])) (by simp [pairsD, hn])
    obtain ⟨t, rfl, et⟩ := dv.pair_inv
    refine rd_ixT e1 (atI_nat' hv) (k t ?_)
    rw [et]
    simp [atp, hn, List.getD_eq_getElem?_getD]
  · walk_at "rd"
    refine rd_fld e T.cl_Rule T.na_Rule_period (rf_period _ _) ?_
    walk_at "rd"
    refine rd_fld e T.cl_Rule T.na_Rule_front (rf_front _ _) ?_
    walk_at "rd"
    refine rd_lenT e1 ?_
    walk_at "rd"
    refine rd_fld e T.cl_Rule T.na_Rule_period (rf_period _ _) ?_
    walk_at "rd"
    refine rd_lenT e2 ?_
    walk_at "rd"
    have hn : ¬ n < f.length := by omega
    have hm : ((n : Int) - (xs1.length : Int)).fmod (xs2.length : Int) = (((n - f.length) % q.length : Nat) : Int) := by
      rw [l1, l2, Int.fmod_eq_emod_of_nonneg _ (by omega)]
      rw [show (n : Int) - (f.length : Int) = ((n - f.length : Nat) : Int) by omega]
      exact (Int.natCast_emod _ _).symm
    rw [hm]
    have hlt : (n - f.length) % q.length < q.length := Nat.mod_lt _ q0
    obtain ⟨v, hv, dv⟩ := d2.get (i := (n - f.length) % q.length) (d := pairD (q[(n - f.length) % q.length])) (by simp [pairsD, hlt])
    obtain ⟨t, rfl, et⟩ := dv.pair_inv
    refine rd_ixT e2 (atI_nat' hv) (k t ?_)
    rw [et]
    simp [atp, hn, hlt, List.getD_eq_getElem?_getD]
end
end Sl

set_option Elab.async false
set_option linter.all false
set_option maxRecDepth 100000
set_option maxHeartbeats 4000000
set_option exponentiation.threshold 9000
namespace Sl
open PySem L2 C8 StX Silt
local macro_rules | `(tactic| walk_at "side") => `(tactic| first
  | exact cdivw (by omega) (by omega)
  | exact cmulw (by omega) (by omega) (by omega) (by omega)
  | exact Or.inr ⟨by omega, by omega⟩
  | exact Or.inl ⟨by omega, by omega⟩
  | omega
  | exact ⟨by omega, by omega, by decide⟩
  | decide)
local macro_rules | `(tactic| walk_at "rd1") => `(tactic| first
  | with_reducible refine rd_seq ?_
  | with_reducible refine rd_asg ?_
  | with_reducible refine rd_drop ?_
  | with_reducible refine rd_ret ?_
  | with_reducible refine rd_retN ?_
  | with_reducible refine rd_ifS ?_
  | ((with_reducible refine rd_var0 ?_); refine ⟨_, rfl, ?_⟩)
  | with_reducible refine rd_c ?_
  | with_reducible refine rd_op ?_
  | with_reducible refine rd_un ?_
  | with_reducible refine rd_I0 ?_
  | with_reducible refine rd_U ?_
  | ((with_reducible refine rd_I ?c ?_); (case c => walk_at "side"))
  | with_reducible refine rd_ipI ?_
  | with_reducible refine rd_eqI ?_
  | with_reducible refine rd_neI ?_
  | with_reducible refine rd_test ?_
  | with_reducible refine rd_tB ?_
  | with_reducible refine rd_bl ?_
  | with_reducible refine rd_not ?_
  | with_reducible refine rd_and ?_
  | with_reducible refine rd_or ?_
  | with_reducible refine rd_andV ?_
  | with_reducible refine rd_orV ?_
  | with_reducible refine rd_notV ?_
  | with_reducible refine rd_ifE ?_
  | with_reducible refine rd_chain ?_
  | with_reducible refine rd_chain3 ?_
  | with_reducible refine rd_nil ?_
  | with_reducible refine rd_cons ?_
  | with_reducible refine rd_call ?_
  | with_reducible refine rd_CB ?_
  | with_reducible refine rd_par ?_
  | with_reducible refine rd_par2 ?_
  | with_reducible refine rd_par3 ?_
  | with_reducible refine rd_par4 ?_
  | ((with_reducible refine rd_aug0 ?_); refine ⟨_, rfl, ?_⟩)
  | with_reducible refine rd_gname ?_
  | with_reducible refine rd_gcons ?_
  | with_reducible refine rd_gnil ?_
  | with_reducible refine rd_max ?_
  | with_reducible refine rd_min ?_
  | with_reducible refine rd_int1 ?_
  | with_reducible refine rd_abs ?_
  | with_reducible refine rd_lst ?_
  | with_reducible refine rd_tup ?_
  | with_reducible refine rd_bm ?_
  | with_reducible refine rd_fld0 ?_
  | with_reducible refine rd_sl0 ?_
  | with_reducible refine rd_noP ?_
  | with_reducible refine rd_part ?_
  | with_reducible refine rd_part2 ?_
  | with_reducible refine rd_meth0 ?_
  | with_reducible refine rd_star ?_
  | with_reducible refine rd_for ?_
  | with_reducible refine rd_rng1 ?_
  | with_reducible refine rd_rng2 ?_
  | with_reducible refine rd_rng3 ?_
  | with_reducible refine rd_iList ?_
  | with_reducible refine rd_iTup ?_
  | with_reducible refine rd_iEnum ?_
  | with_reducible refine rd_lc ?_
  | with_reducible refine rd_yes ?_
  | with_reducible refine rd_augS ?_
  | with_reducible refine rd_drawNew ?_
  | with_reducible refine rd_make0 ?_
  | with_reducible refine rd_next ?_
  | with_reducible refine rd_break ?_
  | with_reducible refine rd_cont ?_
  | with_reducible refine rd_iteTT ?_
  | with_reducible refine rd_iteFF ?_
  | with_reducible refine rd_iteNTT ?_
  | with_reducible refine rd_iteNFF ?_
  | with_reducible refine rd_con0 ?_
  | with_reducible refine rd_truO0 ?_
  | with_reducible refine rd_gfld0 ?_
  | with_reducible refine rd_dc ?_
  | with_reducible refine rd_iKeys ?_
  | with_reducible refine rd_dget0 ?_
  | with_reducible refine rd_dput0 ?_
  | with_reducible refine rd_dnot0 ?_
  | with_reducible refine rd_iEnumT ?_
  | with_reducible refine rd_raP0 ?_
  | with_reducible refine rd_xf0 ?_
  | with_reducible refine rd_cKw ?_
  | with_reducible refine rd_asgG ?_)
local macro_rules | `(tactic| walk_at "rd") => `(tactic| repeat walk_at "rd1")
local macro_rules | `(tactic| walk_at "len") => `(tactic| first
  | (intro vs H Q E h; obtain ⟨h2, _⟩ := h; rw [h2]; rfl)
  | (intro vs H Q E h; obtain ⟨_, h2, _⟩ := h; rw [h2]; rfl)
  | (intro vs H Q E h; obtain ⟨_, _, h2, _⟩ := h; rw [h2]; rfl)
  | (intro vs H Q E h; obtain ⟨_, _, _, h2, _⟩ := h; rw [h2]; rfl)
  | (intro vs H Q E h; obtain ⟨_, _, _, _, h2, _⟩ := h; rw [h2]; rfl)
  | (intro vs H Q E h; obtain ⟨_, _, _, _, _, h2, _⟩ := h; rw [h2]; rfl)
  | (intro vs H Q E h; obtain ⟨_, _, _, _, _, _, h2, _⟩ := h; rw [h2]; rfl)
  | (intro vs H Q E h; obtain ⟨_, _, _, _, _, _, _, h2, _⟩ := h; rw [h2]; rfl)
  | (intro vs H Q E h; obtain ⟨_, _, _, _, _, _, _, _, h2, _⟩ := h; rw [h2]; rfl)
  | (intro vs H Q E h; obtain ⟨_, _, _, _, _, _, _, _, _, h2, _⟩ := h; rw [h2]; rfl)
  | (intro vs H Q E h; obtain ⟨_, _, _, _, _, _, _, _, _, _, h2, _⟩ := h; rw [h2]; rfl)
  | (intro vs H Q E h; obtain ⟨_, _, _, _, _, _, _, _, _, _, _, h2, _⟩ := h; rw [h2]; rfl)
  | (intro vs H Q E h; obtain ⟨_, _, _, _, _, _, _, _, _, _, _, _, h2, _⟩ := h; rw [h2]; rfl))
/-- a grade -/
abbrev Gr (g : Int) : Prop := 0 ≤ g ∧ g ≤ 2100
/-- a day, a number -/
abbrev Dy (d : Int) : Prop := 0 ≤ d ∧ d ≤ DD
theorem size_le {p : Pr} (h : Good p) : ∀ g : Nat, size p g ≤ ((12 ^ g : Nat) : Int)
  | 0 => by simp [size]
  | g + 1 => by
    have h1 := size_le h g
    have h2 := size_pos h g
    have h3 : (p g).2 ≤ 12 := by have := h.le g; have := h.hi g; omega
    have h4 := h.lo g
    show size p g * (p g).2 ≤ _
    have e : ((12 ^ (g + 1) : Nat) : Int) = ((12 ^ g : Nat) : Int) * 12 := by rw [Nat.pow_succ]; omega
    rw [e]
    exact Int.mul_le_mul h1 h3 (by omega) (by omega)
theorem owed_le {p : Pr} (h : Good p) : ∀ g : Nat, owed p g ≤ ((12 ^ (g + 1) : Nat) : Int) - 12
  | 0 => by simp [owed]
  | g + 1 => by
    have h1 := owed_le h g
    have h2 := size_le h g
    have h2' := size_pos h g
    have h3 : (p g).1 - (p g).2 ≤ 10 := by have := h.lo g; have := h.hi g; omega
    have h4 : 0 ≤ (p g).1 - (p g).2 := by have := h.le g; omega
    show owed p g + size p g * ((p g).1 - (p g).2) ≤ _
    have h5 : size p g * ((p g).1 - (p g).2) ≤ ((12 ^ g : Nat) : Int) * 10 := Int.mul_le_mul h2 h3 h4 (by omega)
    have e : ((12 ^ (g + 1 + 1) : Nat) : Int) = ((12 ^ g : Nat) : Int) * 144 := by rw [Nat.pow_succ, Nat.pow_succ]; omega
    have e1 : ((12 ^ (g + 1) : Nat) : Int) = ((12 ^ g : Nat) : Int) * 12 := by rw [Nat.pow_succ]; omega
    rw [e]
    rw [e1] at h1
    omega
theorem pow12 {g : Nat} (h : g ≤ 2200) : 12 ^ g ≤ BBn := by
  unfold BBn
  have h1 : (12 : Nat) ^ g ≤ 12 ^ 2200 := Nat.pow_le_pow_right (by decide) h
  have h2 : (12 : Nat) ^ 2200 ≤ 16 ^ 2200 := Nat.pow_le_pow_left (by decide) _
  have h3 : (16 : Nat) ^ 2200 = 2 ^ 8800 := (Nat.pow_mul 2 4 2200).symm
  have h4 : (2 : Nat) ^ 8800 ≤ 2 ^ 8900 := Nat.pow_le_pow_right (by decide) (by decide)
  exact Nat.le_trans h1 (Nat.le_trans h2 (h3 ▸ h4))
theorem size_bb {p : Pr} (h : Good p) {g : Nat} (hg : g ≤ 2200) : size p g ≤ BB := by
  have h1 := size_le h g
  have h2 := pow12 hg
  unfold BB
  omega
theorem owed_bb {p : Pr} (h : Good p) {g : Nat} (hg : g ≤ 2199) : owed p g ≤ BB := by
  have h1 := owed_le h g
  have h2 := pow12 (g := g + 1) (by omega)
  unfold BB
  omega
def spSize (C : Addr) : Sp := fun vs H Q _ => ∃ (a : Addr) (p : Pr) (g : Int), vs = [.ref a, .int g] ∧ RuleP C H a p ∧ (0 ≤ g ∧ g ≤ 2101) ∧ Q (.int (size p g.toNat)) H
def spOwed (C : Addr) : Sp := fun vs H Q _ => ∃ (a : Addr) (p : Pr) (g : Int), vs = [.ref a, .int g] ∧ RuleP C H a p ∧ (0 ≤ g ∧ g ≤ 2101) ∧ ∀ H', Same H H' → Q (.int (owed p g.toNat)) H'
def spMade (C : Addr) : Sp := fun vs H Q _ => ∃ (a : Addr) (p : Pr) (g d : Int), vs = [.ref a, .int g, .int d] ∧ RuleP C H a p ∧ Gr g ∧ Dy d ∧ ∀ H', Same H H' → Q (.int (made p g.toNat d)) H'
section
variable {P : Program} {w : World} {K : PySem.W.Frag} {mg : Str → Option Value} {base : Heap} {C_Rule C_Evidence C_Good C_Bad C_InTime C_Late C_BadDay Lc__law_worked Lp__law_worked : Addr}
theorem met_Rule_size (T : TX K mg C_Rule C_Evidence C_Good C_Bad C_InTime C_Late C_BadDay Lc__law_worked Lp__law_worked) : Met P w K mg base 3 C_Rule "size" (spSize C_Rule) [] := by
  obtain ⟨f0, fd, D, dn, me, _⟩ := T.m_Rule_size
  have G_Rule_getitem := met_Rule_getitem (P := P) (w := w) (base := base) T
  refine met0 T.cl_Rule me D (D.binds dn fun _ _ _ _ _ _ us hl => match us, hl with | [_, _], _ => rfl) sc_Rule_size (by walk_at "len") (fun cdv A outer s H vs Q E hr h => ?_)
  obtain ⟨a, p, g, rfl, hp, ⟨g0, g1⟩, k⟩ := h
  obtain ⟨dx, t1, t2, e⟩ := hp.ins
  have gd := hp.good
  refine ⟨_, (pss_cons (ps_s 2 sc_Rule_size.nd pe_int)
      (pss_cons (ps_for PassesOwn.never rfl (pi_range1 rfl T.b_range (pa_cons (pv 1) pa_nil)) (pg_n 3 sc_Rule_size.nd) (pss_one (ps_au 2 sc_Rule_size.nd (pe_ix ix_tup (pe_ixO G_Rule_getitem hr (by decide) (pv 0) (pv 3) T.fi_Rule) pe_int (fun _ _ => rfl)) iop_mul)))
      (pss_one (ps_ret (pv 2))))), ?_⟩
  walk_at "rd"
  refine rd_rgR1 (by omega) (by omega) ?_
  refine forR_rng (fun i σ H' => ∃ v, H' = H ∧ σ = [some (.ref a), some (.int g), some (.int (size p i)), v]) ⟨none, rfl, rfl⟩ ?_ ?_
  · rintro i σ H' hi ⟨v, rfl, rfl⟩
    walk_at "rd"
    refine rd_ownI e ⟨a, p, _, rfl, hp, by omega, fun t et => ?_⟩
    walk_at "rd"
    have ei : (0 + (i : Int)).toNat = i := by omega
    rw [ei] at et
    have b1 := gd.lo i
    have b2 := gd.le i
    have b3 := gd.hi i
    refine rd_ixT et (by rfl) ?_
    walk_at "rd"
    exact ⟨_, rfl, rfl⟩
  · rintro σ H' ⟨v, rfl, rfl⟩
    walk_at "rd"
    exact k
theorem met_Rule_owed (T : TX K mg C_Rule C_Evidence C_Good C_Bad C_InTime C_Late C_BadDay Lc__law_worked Lp__law_worked) : Met P w K mg base 3 C_Rule "owed" (spOwed C_Rule) [] := by
  obtain ⟨f0, fd, D, dn, me, _⟩ := T.m_Rule_owed
  have G_Rule_getitem := met_Rule_getitem (P := P) (w := w) (base := base) T
  refine met0 T.cl_Rule me D (D.binds dn fun _ _ _ _ _ _ us hl => match us, hl with | [_, _], _ => rfl) sc_Rule_owed (by walk_at "len") (fun cdv A outer s H vs Q E hr h => ?_)
  obtain ⟨a, p, g, rfl, hp, ⟨g0, g1⟩, k⟩ := h
  obtain ⟨dx, t1, t2, e⟩ := hp.ins
  have gd := hp.good
  refine ⟨_, (pss_cons (ps_asg (pe_tup (pa_cons pe_int (pa_cons pe_int pa_nil))) (pg_tup rfl (pgs_cons (pg_n 2 sc_Rule_owed.nd) (pgs_cons (pg_n 3 sc_Rule_owed.nd) pgs_nil))))
      (pss_cons (ps_for PassesOwn.never rfl (pi_range1 rfl T.b_range (pa_cons (pv 1) pa_nil)) (pg_n 4 sc_Rule_owed.nd) (pss_cons (ps_au 2 sc_Rule_owed.nd (pe_op op_mulW (pv 3) (pe_op op_sub (pe_ix ix_tup (pe_ixO G_Rule_getitem hr (by decide) (pv 0) (pv 4) T.fi_Rule) pe_int (fun _ _ => rfl)) (pe_ix ix_tup (pe_ixO G_Rule_getitem hr (by decide) (pv 0) (pv 4) T.fi_Rule) pe_int (fun _ _ => rfl)))) ip_add)
      (pss_one (ps_au 3 sc_Rule_owed.nd (pe_ix ix_tup (pe_ixO G_Rule_getitem hr (by decide) (pv 0) (pv 4) T.fi_Rule) pe_int (fun _ _ => rfl)) iop_mul))))
      (pss_one (ps_ret (pv 2))))), ?_⟩
  walk_at "rd"
  refine rd_newT (by decide) fun t0 H0 _ s0 et0 _ => ?_
  walk_at "rd"
  refine rd_gtup et0 rfl ?_
  walk_at "rd"
  have hp := hp.mono s0
  have e := s0 _ _ e
  refine rd_rgR1 (by omega) (by omega) ?_
  refine forR_rng (fun i σ H' => ∃ v, H' = H0 ∧ σ = [some (.ref a), some (.int g), some (.int (owed p i)), some (.int (size p i)), v]) ⟨none, rfl, rfl⟩ ?_ ?_
  · rintro i σ H' hi ⟨v, rfl, rfl⟩
    have b1 := gd.lo i
    have b2 := gd.le i
    have b3 := gd.hi i
    have b4 := size_pos gd i
    have b5 := size_bb gd (g := i) (by omega)
    have b6 := bb_pos
    have ei : (0 + (i : Int)).toNat = i := by omega
    walk_at "rd"
    refine rd_ownI e ⟨a, p, _, rfl, hp, by omega, fun t et => ?_⟩
    walk_at "rd"
    rw [ei] at et
    refine rd_ixT et (by rfl) ?_
    walk_at "rd"
    refine rd_ownI e ⟨a, p, _, rfl, hp, by omega, fun t et => ?_⟩
    walk_at "rd"
    rw [ei] at et
    refine rd_ixT et (by rfl) ?_
    walk_at "rd"
    refine rd_ownI e ⟨a, p, _, rfl, hp, by omega, fun t et => ?_⟩
    walk_at "rd"
    rw [ei] at et
    refine rd_ixT et (by rfl) ?_
    walk_at "rd"
    exact ⟨_, rfl, rfl⟩
  · rintro σ H' ⟨v, rfl, rfl⟩
    walk_at "rd"
    exact k _ s0
end
end Sl

set_option Elab.async false
set_option linter.all false
set_option maxRecDepth 100000
set_option maxHeartbeats 4000000
set_option exponentiation.threshold 9000
namespace Sl
open PySem L2 C8 StX Silt
local macro_rules | `(tactic| walk_at "side") => `(tactic| first
  | exact cdivw (by omega) (by omega)
  | exact cmulw (by omega) (by omega) (by omega) (by omega)
  | exact Or.inr ⟨by omega, by omega⟩
  | exact Or.inl ⟨by omega, by omega⟩
  | omega
  | exact ⟨by omega, by omega, by decide⟩
  | decide)
local macro_rules | `(tactic| walk_at "rd1") => `(tactic| first
  | with_reducible refine rd_seq ?_
  | with_reducible refine rd_asg ?_
  | with_reducible refine rd_drop ?_
  | with_reducible refine rd_ret ?_
  | with_reducible refine rd_retN ?_
  | with_reducible refine rd_ifS ?_
  | ((with_reducible refine rd_var0 ?_); refine ⟨_, rfl, ?_⟩)
  | with_reducible refine rd_c ?_
  | with_reducible refine rd_op ?_
  | with_reducible refine rd_un ?_
  | with_reducible refine rd_I0 ?_
  | with_reducible refine rd_U ?_
  | ((with_reducible refine rd_I ?c ?_); (case c => walk_at "side"))
  | with_reducible refine rd_ipI ?_
  | with_reducible refine rd_eqI ?_
  | with_reducible refine rd_neI ?_
  | with_reducible refine rd_test ?_
  | with_reducible refine rd_tB ?_
  | with_reducible refine rd_bl ?_
  | with_reducible refine rd_not ?_
  | with_reducible refine rd_and ?_
  | with_reducible refine rd_or ?_
  | with_reducible refine rd_andV ?_
  | with_reducible refine rd_orV ?_
  | with_reducible refine rd_notV ?_
  | with_reducible refine rd_ifE ?_
  | with_reducible refine rd_chain ?_
  | with_reducible refine rd_chain3 ?_
  | with_reducible refine rd_nil ?_
  | with_reducible refine rd_cons ?_
  | with_reducible refine rd_call ?_
  | with_reducible refine rd_CB ?_
  | with_reducible refine rd_par ?_
  | with_reducible refine rd_par2 ?_
  | with_reducible refine rd_par3 ?_
  | with_reducible refine rd_par4 ?_
  | ((with_reducible refine rd_aug0 ?_); refine ⟨_, rfl, ?_⟩)
  | with_reducible refine rd_gname ?_
  | with_reducible refine rd_gcons ?_
  | with_reducible refine rd_gnil ?_
  | with_reducible refine rd_max ?_
  | with_reducible refine rd_min ?_
  | with_reducible refine rd_int1 ?_
  | with_reducible refine rd_abs ?_
  | with_reducible refine rd_lst ?_
  | with_reducible refine rd_tup ?_
  | with_reducible refine rd_bm ?_
  | with_reducible refine rd_fld0 ?_
  | with_reducible refine rd_sl0 ?_
  | with_reducible refine rd_noP ?_
  | with_reducible refine rd_part ?_
  | with_reducible refine rd_part2 ?_
  | with_reducible refine rd_meth0 ?_
  | with_reducible refine rd_star ?_
  | with_reducible refine rd_for ?_
  | with_reducible refine rd_rng1 ?_
  | with_reducible refine rd_rng2 ?_
  | with_reducible refine rd_rng3 ?_
  | with_reducible refine rd_iList ?_
  | with_reducible refine rd_iTup ?_
  | with_reducible refine rd_iEnum ?_
  | with_reducible refine rd_lc ?_
  | with_reducible refine rd_yes ?_
  | with_reducible refine rd_augS ?_
  | with_reducible refine rd_drawNew ?_
  | with_reducible refine rd_make0 ?_
  | with_reducible refine rd_next ?_
  | with_reducible refine rd_break ?_
  | with_reducible refine rd_cont ?_
  | with_reducible refine rd_iteTT ?_
  | with_reducible refine rd_iteFF ?_
  | with_reducible refine rd_iteNTT ?_
  | with_reducible refine rd_iteNFF ?_
  | with_reducible refine rd_con0 ?_
  | with_reducible refine rd_truO0 ?_
  | with_reducible refine rd_gfld0 ?_
  | with_reducible refine rd_dc ?_
  | with_reducible refine rd_iKeys ?_
  | with_reducible refine rd_dget0 ?_
  | with_reducible refine rd_dput0 ?_
  | with_reducible refine rd_dnot0 ?_
  | with_reducible refine rd_iEnumT ?_
  | with_reducible refine rd_raP0 ?_
  | with_reducible refine rd_xf0 ?_
  | with_reducible refine rd_cKw ?_
  | with_reducible refine rd_asgG ?_)
local macro_rules | `(tactic| walk_at "rd") => `(tactic| repeat walk_at "rd1")
local macro_rules | `(tactic| walk_at "len") => `(tactic| first
  | (intro vs H Q E h; obtain ⟨h2, _⟩ := h; rw [h2]; rfl)
  | (intro vs H Q E h; obtain ⟨_, h2, _⟩ := h; rw [h2]; rfl)
  | (intro vs H Q E h; obtain ⟨_, _, h2, _⟩ := h; rw [h2]; rfl)
  | (intro vs H Q E h; obtain ⟨_, _, _, h2, _⟩ := h; rw [h2]; rfl)
  | (intro vs H Q E h; obtain ⟨_, _, _, _, h2, _⟩ := h; rw [h2]; rfl)
  | (intro vs H Q E h; obtain ⟨_, _, _, _, _, h2, _⟩ := h; rw [h2]; rfl)
  | (intro vs H Q E h; obtain ⟨_, _, _, _, _, _, h2, _⟩ := h; rw [h2]; rfl)
  | (intro vs H Q E h; obtain ⟨_, _, _, _, _, _, _, h2, _⟩ := h; rw [h2]; rfl)
  | (intro vs H Q E h; obtain ⟨_, _, _, _, _, _, _, _, h2, _⟩ := h; rw [h2]; rfl)
  | (intro vs H Q E h; obtain ⟨_, _, _, _, _, _, _, _, _, h2, _⟩ := h; rw [h2]; rfl)
  | (intro vs H Q E h; obtain ⟨_, _, _, _, _, _, _, _, _, _, h2, _⟩ := h; rw [h2]; rfl)
  | (intro vs H Q E h; obtain ⟨_, _, _, _, _, _, _, _, _, _, _, h2, _⟩ := h; rw [h2]; rfl)
  | (intro vs H Q E h; obtain ⟨_, _, _, _, _, _, _, _, _, _, _, _, h2, _⟩ := h; rw [h2]; rfl))
theorem len_bound {n : Nat} {c : Int} (h0 : 1 ≤ c) (h : c * ((2 ^ n : Nat) : Int) ≤ DD) : n ≤ 2000 := by
  have h1 : ((2 ^ n : Nat) : Int) ≤ DD := by
    have : 1 * ((2 ^ n : Nat) : Int) ≤ c * ((2 ^ n : Nat) : Int) := Int.mul_le_mul_of_nonneg_right h0 (Int.natCast_nonneg _)
    omega
  unfold DD DDn at h1
  have h2 : (2 : Nat) ^ n ≤ 2 ^ 2000 := by
    generalize (2 : Nat) ^ 2000 = b at *
    omega
  exact (Nat.pow_le_pow_iff_right (by decide)).mp h2
theorem late_half {p : Pr} (h : Good p) {d : Int} (hd : 0 ≤ d) : late p d * 2 ≤ d := by
  have h1 := h.lo 0
  have h2 := h.le 0
  unfold late
  by_cases q : 0 ≤ (d - (p 0).1 + (p 0).2) / (p 0).2
  · have e : max 0 ((d - (p 0).1 + (p 0).2) / (p 0).2) = (d - (p 0).1 + (p 0).2) / (p 0).2 := by omega
    rw [e]
    have e3 := Int.ediv_mul_le (d - (p 0).1 + (p 0).2) (by omega : (p 0).2 ≠ 0)
    have e4 : (d - (p 0).1 + (p 0).2) / (p 0).2 * 2 ≤ (d - (p 0).1 + (p 0).2) / (p 0).2 * (p 0).2 := Int.mul_le_mul_of_nonneg_left h1 q
    omega
  · have e : max 0 ((d - (p 0).1 + (p 0).2) / (p 0).2) = 0 := by omega
    rw [e]; omega
theorem late_tl (p : Pr) (g : Nat) (d : Int) : late (tl p g) d = max 0 ((d - (p g).1 + (p g).2) / (p g).2) := by
  unfold late tl; simp only [Nat.zero_add]
theorem tl_at (p : Pr) (g : Nat) : tl p g 0 = p g := by unfold tl; simp only [Nat.zero_add]
def spDigits (C : Addr) : Sp := fun vs H Q _ => ∃ (a : Addr) (p : Pr) (d : Int), vs = [.ref a, .int d] ∧ RuleP C H a p ∧ Dy d ∧ ∀ H' t, Same H H' → H t = none → H' t = some (.lst ((digits p d).map V.int)) → Q (.ref t) H'
section
variable {P : Program} {w : World} {K : PySem.W.Frag} {mg : Str → Option Value} {base : Heap} {C_Rule C_Evidence C_Good C_Bad C_InTime C_Late C_BadDay Lc__law_worked Lp__law_worked : Addr}
end
end Sl

set_option Elab.async false
set_option linter.all false
set_option maxRecDepth 100000
set_option maxHeartbeats 4000000
set_option exponentiation.threshold 9000
namespace Sl
open PySem L2 C8 StX Silt
local macro_rules | `(tactic| walk_at "side") => `(tactic| first
  | exact cdivw (by omega) (by omega)
  | exact cmulw (by omega) (by omega) (by omega) (by omega)
  | exact Or.inr ⟨by omega, by omega⟩
  | exact Or.inl ⟨by omega, by omega⟩
  | omega
  | exact ⟨by omega, by omega, by decide⟩
  | decide)
local macro_rules | `(tactic| walk_at "rd1") => `(tactic| first
  | with_reducible refine rd_seq ?_
  | with_reducible refine rd_asg ?_
  | with_reducible refine rd_drop ?_
  | with_reducible refine rd_ret ?_
  | with_reducible refine rd_retN ?_
  | with_reducible refine rd_ifS ?_
  | ((with_reducible refine rd_var0 ?_); refine ⟨_, rfl, ?_⟩)
  | with_reducible refine rd_c ?_
  | with_reducible refine rd_op ?_
  | with_reducible refine rd_un ?_
  | with_reducible refine rd_I0 ?_
  | with_reducible refine rd_U ?_
  | ((with_reducible refine rd_I ?c ?_); (case c => walk_at "side"))
  | with_reducible refine rd_ipI ?_
  | with_reducible refine rd_eqI ?_
  | with_reducible refine rd_neI ?_
  | with_reducible refine rd_test ?_
  | with_reducible refine rd_tB ?_
  | with_reducible refine rd_bl ?_
  | with_reducible refine rd_not ?_
  | with_reducible refine rd_and ?_
  | with_reducible refine rd_or ?_
  | with_reducible refine rd_andV ?_
  | with_reducible refine rd_orV ?_
  | with_reducible refine rd_notV ?_
  | with_reducible refine rd_ifE ?_
  | with_reducible refine rd_chain ?_
  | with_reducible refine rd_chain3 ?_
  | with_reducible refine rd_nil ?_
  | with_reducible refine rd_cons ?_
  | with_reducible refine rd_call ?_
  | with_reducible refine rd_CB ?_
  | with_reducible refine rd_par ?_
  | with_reducible refine rd_par2 ?_
  | with_reducible refine rd_par3 ?_
  | with_reducible refine rd_par4 ?_
  | ((with_reducible refine rd_aug0 ?_); refine ⟨_, rfl, ?_⟩)
  | with_reducible refine rd_gname ?_
  | with_reducible refine rd_gcons ?_
  | with_reducible refine rd_gnil ?_
  | with_reducible refine rd_max ?_
  | with_reducible refine rd_min ?_
  | with_reducible refine rd_int1 ?_
  | with_reducible refine rd_abs ?_
  | with_reducible refine rd_lst ?_
  | with_reducible refine rd_tup ?_
  | with_reducible refine rd_bm ?_
  | with_reducible refine rd_fld0 ?_
  | with_reducible refine rd_sl0 ?_
  | with_reducible refine rd_noP ?_
  | with_reducible refine rd_part ?_
  | with_reducible refine rd_part2 ?_
  | with_reducible refine rd_meth0 ?_
  | with_reducible refine rd_star ?_
  | with_reducible refine rd_for ?_
  | with_reducible refine rd_rng1 ?_
  | with_reducible refine rd_rng2 ?_
  | with_reducible refine rd_rng3 ?_
  | with_reducible refine rd_iList ?_
  | with_reducible refine rd_iTup ?_
  | with_reducible refine rd_iEnum ?_
  | with_reducible refine rd_lc ?_
  | with_reducible refine rd_yes ?_
  | with_reducible refine rd_augS ?_
  | with_reducible refine rd_drawNew ?_
  | with_reducible refine rd_make0 ?_
  | with_reducible refine rd_next ?_
  | with_reducible refine rd_break ?_
  | with_reducible refine rd_cont ?_
  | with_reducible refine rd_iteTT ?_
  | with_reducible refine rd_iteFF ?_
  | with_reducible refine rd_iteNTT ?_
  | with_reducible refine rd_iteNFF ?_
  | with_reducible refine rd_con0 ?_
  | with_reducible refine rd_truO0 ?_
  | with_reducible refine rd_gfld0 ?_
  | with_reducible refine rd_dc ?_
  | with_reducible refine rd_iKeys ?_
  | with_reducible refine rd_dget0 ?_
  | with_reducible refine rd_dput0 ?_
  | with_reducible refine rd_dnot0 ?_
  | with_reducible refine rd_iEnumT ?_
  | with_reducible refine rd_raP0 ?_
  | with_reducible refine rd_xf0 ?_
  | with_reducible refine rd_cKw ?_
  | with_reducible refine rd_asgG ?_)
local macro_rules | `(tactic| walk_at "rd") => `(tactic| repeat walk_at "rd1")
local macro_rules | `(tactic| walk_at "len") => `(tactic| first
  | (intro vs H Q E h; obtain ⟨h2, _⟩ := h; rw [h2]; rfl)
  | (intro vs H Q E h; obtain ⟨_, h2, _⟩ := h; rw [h2]; rfl)
  | (intro vs H Q E h; obtain ⟨_, _, h2, _⟩ := h; rw [h2]; rfl)
  | (intro vs H Q E h; obtain ⟨_, _, _, h2, _⟩ := h; rw [h2]; rfl)
  | (intro vs H Q E h; obtain ⟨_, _, _, _, h2, _⟩ := h; rw [h2]; rfl)
  | (intro vs H Q E h; obtain ⟨_, _, _, _, _, h2, _⟩ := h; rw [h2]; rfl)
  | (intro vs H Q E h; obtain ⟨_, _, _, _, _, _, h2, _⟩ := h; rw [h2]; rfl)
  | (intro vs H Q E h; obtain ⟨_, _, _, _, _, _, _, h2, _⟩ := h; rw [h2]; rfl)
  | (intro vs H Q E h; obtain ⟨_, _, _, _, _, _, _, _, h2, _⟩ := h; rw [h2]; rfl)
  | (intro vs H Q E h; obtain ⟨_, _, _, _, _, _, _, _, _, h2, _⟩ := h; rw [h2]; rfl)
  | (intro vs H Q E h; obtain ⟨_, _, _, _, _, _, _, _, _, _, h2, _⟩ := h; rw [h2]; rfl)
  | (intro vs H Q E h; obtain ⟨_, _, _, _, _, _, _, _, _, _, _, h2, _⟩ := h; rw [h2]; rfl)
  | (intro vs H Q E h; obtain ⟨_, _, _, _, _, _, _, _, _, _, _, _, h2, _⟩ := h; rw [h2]; rfl))
theorem two_le_dd {n : Nat} (h : ((2 ^ n : Nat) : Int) ≤ DD) : n ≤ 2000 := len_bound (c := 1) (by decide) (by omega)
theorem grade_le {p : Pr} (h : Good p) {g : Nat} {d : Int} (hs : size p g ≤ d) (hd : d ≤ DD) : g ≤ 2000 := two_le_dd (Int.le_trans (size_ge h g) (Int.le_trans hs hd))
def spIsBaked (C : Addr) : Sp := fun vs H Q _ => ∃ (a : Addr) (p : Pr) (g d : Int), vs = [.ref a, .int g, .int d] ∧ RuleP C H a p ∧ Gr g ∧ Dy d ∧ ∀ H', Same H H' → Q (.bl (isBaked p g.toNat d)) H'
def spBaked (C : Addr) : Sp := fun vs H Q _ => ∃ (a : Addr) (p : Pr) (d : Int), vs = [.ref a, .int d] ∧ RuleP C H a p ∧ Dy d ∧ ∀ H' t, Same H H' → H t = none → H' t = some (.lst ((bakedL p d).map V.int)) → Q (.ref t) H'
def spNextBaked (C : Addr) : Sp := fun vs H Q _ => ∃ (a : Addr) (p : Pr) (g d : Int), vs = [.ref a, .int g, .int d] ∧ RuleP C H a p ∧ Gr g ∧ Dy d ∧ ∀ H', Same H H' → Q (.int (nextBaked p g.toNat d)) H'
def spCount (C : Addr) : Sp := fun vs H Q _ => ∃ (a : Addr) (p : Pr) (d : Int), vs = [.ref a, .int d] ∧ RuleP C H a p ∧ Dy d ∧ ∀ H', Same H H' → Q (.int (digits p d).sum) H'
def spWork (C : Addr) : Sp := fun vs H Q _ => ∃ (a : Addr) (p : Pr) (d : Int), vs = [.ref a, .int d] ∧ RuleP C H a p ∧ Dy d ∧ ∀ H', Same H H' → Q (.int (work p d)) H'
section
variable {P : Program} {w : World} {K : PySem.W.Frag} {mg : Str → Option Value} {base : Heap} {C_Rule C_Evidence C_Good C_Bad C_InTime C_Late C_BadDay Lc__law_worked Lp__law_worked : Addr}
theorem cal_is_baked (T : TX K mg C_Rule C_Evidence C_Good C_Bad C_InTime C_Late C_BadDay Lc__law_worked Lp__law_worked) : Cal P w K mg base 4 "is_baked" (spIsBaked C_Rule) [] := by
  obtain ⟨f0, fd, D, dn⟩ := T.d_is_baked
  have G_Rule_size := met_Rule_size (P := P) (w := w) (base := base) T
  have G_Rule_owed := met_Rule_owed (P := P) (w := w) (base := base) T
  refine cal0 D (D.fn.binds dn fun _ _ _ _ _ _ us hl => match us, hl with | [_, _, _], _ => rfl) .nil sc_is_baked (by walk_at "len") (fun cdv A outer s H vs Q E hr h => ?_)
  obtain ⟨a, p, g, d, rfl, hp, ⟨g0, g1⟩, ⟨d0, d1⟩, k⟩ := h
  obtain ⟨dx, t1, t2, e⟩ := hp.ins
  have gd := hp.good
  have eg : (g + 1).toNat = g.toNat + 1 := by omega
  have b4 := size_pos gd (g.toNat + 1)
  refine ⟨_, (pss_cons (ps_par (i := 3) (j := 4) rfl sc_is_baked.nd rfl rfl (by decide) rfl rfl (pa_cons (pe_mt G_Rule_size hr (by decide) (pv 0) (pa_cons (pe_op op_add (pv 1) pe_int) pa_nil)) (pa_cons (pe_mt G_Rule_owed hr (by decide) (pv 0) (pa_cons (pe_op op_add (pv 1) pe_int) pa_nil)) pa_nil)) (by rfl))
      (pss_one (ps_ret (pe_and (pe_cmpR op_ge (pv 2) (pe_op op_add (pv 4) (pv 3)) (nomark _)) (pe_one (pe_cmpR op_eq (pe_op op_modN (pe_op op_sub (pv 2) (pv 4)) (pv 3)) pe_int (nomark _))))))), ?_⟩
  walk_at "rd"
  refine ⟨_, _, _, rfl, e, rfl, ?_⟩
  walk_at "rd"
  refine ⟨a, p, _, rfl, hp, by omega, ?_⟩
  walk_at "rd"
  refine ⟨_, _, _, rfl, e, rfl, ?_⟩
  walk_at "rd"
  refine ⟨a, p, _, rfl, hp, by omega, fun H1 s1 => ?_⟩
  rw [eg]
  walk_at "rd"
  by_cases c : owed p (g.toNat + 1) + size p (g.toNat + 1) ≤ d
  · refine rd_iteT c ?_
    walk_at "rd"
    have q := k H1 s1
    unfold isBaked at q
    rw [decide_eq_true c, Bool.true_and] at q
    rw [Int.fmod_eq_emod_of_nonneg _ (by omega)]
    exact q
  · refine rd_iteF c ?_
    have q := k H1 s1
    unfold isBaked at q
    rw [decide_eq_false c, Bool.false_and] at q
    exact q
theorem cal_baked (T : TX K mg C_Rule C_Evidence C_Good C_Bad C_InTime C_Late C_BadDay Lc__law_worked Lp__law_worked) : Cal P w K mg base 5 "baked" (spBaked C_Rule) [] := by
  obtain ⟨f0, fd, D, dn⟩ := T.d_baked
  have G_check_rule := cal_check_rule (P := P) (w := w) (base := base) T
  have G_check_number := cal_check_number (P := P) (w := w) (base := base) T
  have G_is_baked := cal_is_baked (P := P) (w := w) (base := base) T
  refine cal0 D (D.fn.binds dn fun _ _ _ _ _ _ us hl => match us, hl with | [_, _], _ => rfl) .nil sc_baked (by walk_at "len") (fun cdv A outer s H vs Q E hr h => ?_)
  obtain ⟨a, p, d, rfl, hp, ⟨d0, d1⟩, k⟩ := h
  have gd := hp.good
  refine ⟨_, (pss_cons (ps_expr (pe_c G_check_rule hr (by decide) rfl (pa_cons (pv 0) pa_nil)))
      (pss_cons (ps_expr (pe_c G_check_number hr (by decide) rfl (pa_cons (pv 1) pa_nil)))
      (pss_cons (ps_par (i := 2) (j := 3) rfl sc_baked.nd rfl rfl (by decide) rfl rfl (pa_cons (pe_lst pa_nil) (pa_cons pe_int pa_nil)) (by rfl))
      (pss_cons (ps_while PassesOwn.never (pt_val (pe_c G_is_baked hr (by decide) rfl (pa_cons (pv 0) (pa_cons (pv 3) (pa_cons (pv 1) pa_nil))))) (pss_cons (ps_expr (pe_bm PySem.F.plainAttrs_list PySem.F.slot_list_append PySem.F.type_list_append mt_append (pv 2) (pa_cons (pv 3) pa_nil)))
      (pss_one (ps_au 3 sc_baked.nd pe_int ip_add))))
      (pss_one (ps_ret (pv 2))))))), ?_⟩
  walk_at "rd"
  refine ⟨a, p, rfl, hp, ?_⟩
  walk_at "rd"
  refine ⟨_, _, rfl, d0, ?_⟩
  walk_at "rd"
  refine rd_newL (by decide) fun t H1 ht s1 et _ => ?_
  walk_at "rd"
  refine rd_while (fun m σ H' => ∃ (g : Nat) (ds : List Int), m = d.toNat - g ∧ g ≤ 2000 ∧ ds.length = g ∧ Same H H' ∧ H' t = some (.lst (ds.map V.int)) ∧ bakedL p d = ds ++ bkF (d.toNat - g) p d g ∧
    σ = [some (.ref a), some (.int d), some (.ref t), some (.int g)]) d.toNat ⟨0, [], by omega, by omega, rfl, s1, et, by rfl, rfl⟩ ?_
  rintro m σ H' ⟨g, ds, rfl, hg, hl, s2, et, ed, rfl⟩
  walk_at "rd"
  refine ⟨a, p, g, d, rfl, hp.mono s2, ⟨by omega, by omega⟩, ⟨d0, d1⟩, fun H2 s3 => ?_⟩
  rw [Int.toNat_natCast]
  walk_at "rd"
  rw [bkF_step gd rfl] at ed
  by_cases c : isBaked p g d = true
  · rw [c]
    rw [if_pos c] at ed
    have b1 := isBaked_lt gd c
    have b2 := grade_le gd (isBaked_size gd c) d1
    walk_at "rd"
    refine rd_whN ?_
    walk_at "rd"
    refine rd_tyL (s3 _ _ et) ?_
    walk_at "rd"
    refine rd_app (s3 _ _ et) (by simp; omega) fun H3 eH et2 => ?_
    walk_at "rd"
    have s4 : Same H H3 := by rw [eH]; exact Same.mut (s2.trans s3) ht
    refine ⟨d.toNat - (g + 1), by omega, g + 1, ds ++ [(g : Int)], rfl, b2, by simp [hl], s4, ?_, ?_, rfl⟩
    · rw [et2, List.map_append]; rfl
    · rw [ed, List.append_assoc]; rfl
  · have c' : isBaked p g d = false := by cases q : isBaked p g d with | true => exact absurd q c | false => rfl
    rw [c']
    rw [if_neg c, List.append_nil] at ed
    walk_at "rd"
    refine k H2 t (s2.trans s3) ht ?_
    rw [ed]
    exact s3 _ _ et
end
end Sl

set_option Elab.async false
set_option linter.all false
set_option maxRecDepth 100000
set_option maxHeartbeats 4000000
set_option exponentiation.threshold 9000
namespace Sl
open PySem L2 C8 StX Silt
local macro_rules | `(tactic| walk_at "side") => `(tactic| first
  | exact cdivw (by omega) (by omega)
  | exact cmulw (by omega) (by omega) (by omega) (by omega)
  | exact Or.inr ⟨by omega, by omega⟩
  | exact Or.inl ⟨by omega, by omega⟩
  | omega
  | exact ⟨by omega, by omega, by decide⟩
  | decide)
local macro_rules | `(tactic| walk_at "rd1") => `(tactic| first
  | with_reducible refine rd_seq ?_
  | with_reducible refine rd_asg ?_
  | with_reducible refine rd_drop ?_
  | with_reducible refine rd_ret ?_
  | with_reducible refine rd_retN ?_
  | with_reducible refine rd_ifS ?_
  | ((with_reducible refine rd_var0 ?_); refine ⟨_, rfl, ?_⟩)
  | with_reducible refine rd_c ?_
  | with_reducible refine rd_op ?_
  | with_reducible refine rd_un ?_
  | with_reducible refine rd_I0 ?_
  | with_reducible refine rd_U ?_
  | ((with_reducible refine rd_I ?c ?_); (case c => walk_at "side"))
  | with_reducible refine rd_ipI ?_
  | with_reducible refine rd_eqI ?_
  | with_reducible refine rd_neI ?_
  | with_reducible refine rd_test ?_
  | with_reducible refine rd_tB ?_
  | with_reducible refine rd_bl ?_
  | with_reducible refine rd_not ?_
  | with_reducible refine rd_and ?_
  | with_reducible refine rd_or ?_
  | with_reducible refine rd_andV ?_
  | with_reducible refine rd_orV ?_
  | with_reducible refine rd_notV ?_
  | with_reducible refine rd_ifE ?_
  | with_reducible refine rd_chain ?_
  | with_reducible refine rd_chain3 ?_
  | with_reducible refine rd_nil ?_
  | with_reducible refine rd_cons ?_
  | with_reducible refine rd_call ?_
  | with_reducible refine rd_CB ?_
  | with_reducible refine rd_par ?_
  | with_reducible refine rd_par2 ?_
  | with_reducible refine rd_par3 ?_
  | with_reducible refine rd_par4 ?_
  | ((with_reducible refine rd_aug0 ?_); refine ⟨_, rfl, ?_⟩)
  | with_reducible refine rd_gname ?_
  | with_reducible refine rd_gcons ?_
  | with_reducible refine rd_gnil ?_
  | with_reducible refine rd_max ?_
  | with_reducible refine rd_min ?_
  | with_reducible refine rd_int1 ?_
  | with_reducible refine rd_abs ?_
  | with_reducible refine rd_lst ?_
  | with_reducible refine rd_tup ?_
  | with_reducible refine rd_bm ?_
  | with_reducible refine rd_fld0 ?_
  | with_reducible refine rd_sl0 ?_
  | with_reducible refine rd_noP ?_
  | with_reducible refine rd_part ?_
  | with_reducible refine rd_part2 ?_
  | with_reducible refine rd_meth0 ?_
  | with_reducible refine rd_star ?_
  | with_reducible refine rd_for ?_
  | with_reducible refine rd_rng1 ?_
  | with_reducible refine rd_rng2 ?_
  | with_reducible refine rd_rng3 ?_
  | with_reducible refine rd_iList ?_
  | with_reducible refine rd_iTup ?_
  | with_reducible refine rd_iEnum ?_
  | with_reducible refine rd_lc ?_
  | with_reducible refine rd_yes ?_
  | with_reducible refine rd_augS ?_
  | with_reducible refine rd_drawNew ?_
  | with_reducible refine rd_make0 ?_
  | with_reducible refine rd_next ?_
  | with_reducible refine rd_break ?_
  | with_reducible refine rd_cont ?_
  | with_reducible refine rd_iteTT ?_
  | with_reducible refine rd_iteFF ?_
  | with_reducible refine rd_iteNTT ?_
  | with_reducible refine rd_iteNFF ?_
  | with_reducible refine rd_con0 ?_
  | with_reducible refine rd_truO0 ?_
  | with_reducible refine rd_gfld0 ?_
  | with_reducible refine rd_dc ?_
  | with_reducible refine rd_iKeys ?_
  | with_reducible refine rd_dget0 ?_
  | with_reducible refine rd_dput0 ?_
  | with_reducible refine rd_dnot0 ?_
  | with_reducible refine rd_iEnumT ?_
  | with_reducible refine rd_raP0 ?_
  | with_reducible refine rd_xf0 ?_
  | with_reducible refine rd_cKw ?_
  | with_reducible refine rd_asgG ?_)
local macro_rules | `(tactic| walk_at "rd") => `(tactic| repeat walk_at "rd1")
local macro_rules | `(tactic| walk_at "len") => `(tactic| first
  | (intro vs H Q E h; obtain ⟨h2, _⟩ := h; rw [h2]; rfl)
  | (intro vs H Q E h; obtain ⟨_, h2, _⟩ := h; rw [h2]; rfl)
  | (intro vs H Q E h; obtain ⟨_, _, h2, _⟩ := h; rw [h2]; rfl)
  | (intro vs H Q E h; obtain ⟨_, _, _, h2, _⟩ := h; rw [h2]; rfl)
  | (intro vs H Q E h; obtain ⟨_, _, _, _, h2, _⟩ := h; rw [h2]; rfl)
  | (intro vs H Q E h; obtain ⟨_, _, _, _, _, h2, _⟩ := h; rw [h2]; rfl)
  | (intro vs H Q E h; obtain ⟨_, _, _, _, _, _, h2, _⟩ := h; rw [h2]; rfl)
  | (intro vs H Q E h; obtain ⟨_, _, _, _, _, _, _, h2, _⟩ := h; rw [h2]; rfl)
  | (intro vs H Q E h; obtain ⟨_, _, _, _, _, _, _, _, h2, _⟩ := h; rw [h2]; rfl)
  | (intro vs H Q E h; obtain ⟨_, _, _, _, _, _, _, _, _, h2, _⟩ := h; rw [h2]; rfl)
  | (intro vs H Q E h; obtain ⟨_, _, _, _, _, _, _, _, _, _, h2, _⟩ := h; rw [h2]; rfl)
  | (intro vs H Q E h; obtain ⟨_, _, _, _, _, _, _, _, _, _, _, h2, _⟩ := h; rw [h2]; rfl)
  | (intro vs H Q E h; obtain ⟨_, _, _, _, _, _, _, _, _, _, _, _, h2, _⟩ := h; rw [h2]; rfl))
def spDayOf (C : Addr) : Sp := fun vs H Q _ => ∃ (a t : Addr) (p : Pr) (ds : List Int), vs = [.ref a, .ref t] ∧ RuleP C H a p ∧ H t = some (.lst (ds.map V.int)) ∧ Valid p ds ∧ ds.length ≤ 2100 ∧ ∀ H', Same H H' → Q (.int (value p ds)) H'
def spFirstWith (C : Addr) : Sp := fun vs H Q _ => ∃ (a : Addr) (p : Pr) (m : Int), vs = [.ref a, .int m] ∧ RuleP C H a p ∧ (0 ≤ m ∧ m ≤ 2000) ∧ ∀ H', Same H H' → Q (.int (firstWith p m)) H'
def spLayers (C : Addr) : Sp := fun vs H Q _ => ∃ (a : Addr) (p : Pr) (d : Int), vs = [.ref a, .int d] ∧ RuleP C H a p ∧ Dy d ∧ ∀ H' t, Same H H' → H t = none → Dt H' (.ref t) (.list ((layersL p d).map triD)) → Q (.ref t) H'
def spPlace (C : Addr) : Sp := fun vs H Q _ => ∃ (a : Addr) (p : Pr) (day now : Int), vs = [.ref a, .int day, .int now] ∧ RuleP C H a p ∧ 1 ≤ day ∧ day ≤ now ∧ now ≤ DD ∧
  ∀ H' t r, Same H H' → PL p day 0 (digits p now) = .inl r → H' t = some (.tup [.int r.1, .int r.2]) → Q (.ref t) H'
theorem dd_len {p : Pr} (g : Good p) {d : Int} (h0 : 0 ≤ d) (h : d ≤ DD) : (digits p d).length ≤ 2001 := by
  refine digits_len g 2001 d h0 ?_
  unfold DD DDn at h
  have e : (2 : Nat) ^ 2001 = 2 ^ 2000 + 2 ^ 2000 := by rw [Nat.pow_succ, Nat.mul_two]
  have : (0 : Nat) < 2 ^ 2000 := Nat.pow_pos (by decide)
  rw [e]
  generalize (2 : Nat) ^ 2000 = b at *
  omega
section
variable {P : Program} {w : World} {K : PySem.W.Frag} {mg : Str → Option Value} {base : Heap} {C_Rule C_Evidence C_Good C_Bad C_InTime C_Late C_BadDay Lc__law_worked Lp__law_worked : Addr}
end
end Sl

set_option Elab.async false
set_option linter.all false
set_option maxRecDepth 100000
set_option maxHeartbeats 4000000
namespace Sl
open PySem L2 C8 StX Silt
local macro_rules | `(tactic| walk_at "side") => `(tactic| first
  | exact cdivw (by omega) (by omega)
  | exact cmulw (by omega) (by omega) (by omega) (by omega)
  | exact Or.inr ⟨by omega, by omega⟩
  | exact Or.inl ⟨by omega, by omega⟩
  | omega
  | exact ⟨by omega, by omega, by decide⟩
  | decide)
local macro_rules | `(tactic| walk_at "rd1") => `(tactic| first
  | with_reducible refine rd_seq ?_
  | with_reducible refine rd_asg ?_
  | with_reducible refine rd_drop ?_
  | with_reducible refine rd_ret ?_
  | with_reducible refine rd_retN ?_
  | with_reducible refine rd_ifS ?_
  | ((with_reducible refine rd_var0 ?_); refine ⟨_, rfl, ?_⟩)
  | with_reducible refine rd_c ?_
  | with_reducible refine rd_op ?_
  | with_reducible refine rd_un ?_
  | with_reducible refine rd_I0 ?_
  | with_reducible refine rd_U ?_
  | ((with_reducible refine rd_I ?c ?_); (case c => walk_at "side"))
  | with_reducible refine rd_ipI ?_
  | with_reducible refine rd_eqI ?_
  | with_reducible refine rd_neI ?_
  | with_reducible refine rd_test ?_
  | with_reducible refine rd_tB ?_
  | with_reducible refine rd_bl ?_
  | with_reducible refine rd_not ?_
  | with_reducible refine rd_and ?_
  | with_reducible refine rd_or ?_
  | with_reducible refine rd_andV ?_
  | with_reducible refine rd_orV ?_
  | with_reducible refine rd_notV ?_
  | with_reducible refine rd_ifE ?_
  | with_reducible refine rd_chain ?_
  | with_reducible refine rd_chain3 ?_
  | with_reducible refine rd_nil ?_
  | with_reducible refine rd_cons ?_
  | with_reducible refine rd_call ?_
  | with_reducible refine rd_CB ?_
  | with_reducible refine rd_par ?_
  | with_reducible refine rd_par2 ?_
  | with_reducible refine rd_par3 ?_
  | with_reducible refine rd_par4 ?_
  | ((with_reducible refine rd_aug0 ?_); refine ⟨_, rfl, ?_⟩)
  | with_reducible refine rd_gname ?_
  | with_reducible refine rd_gcons ?_
  | with_reducible refine rd_gnil ?_
  | with_reducible refine rd_max ?_
  | with_reducible refine rd_min ?_
  | with_reducible refine rd_int1 ?_
  | with_reducible refine rd_abs ?_
  | with_reducible refine rd_lst ?_
  | with_reducible refine rd_tup ?_
  | with_reducible refine rd_bm ?_
  | with_reducible refine rd_fld0 ?_
  | with_reducible refine rd_sl0 ?_
  | with_reducible refine rd_noP ?_
  | with_reducible refine rd_part ?_
  | with_reducible refine rd_part2 ?_
  | with_reducible refine rd_meth0 ?_
  | with_reducible refine rd_star ?_
  | with_reducible refine rd_for ?_
  | with_reducible refine rd_rng1 ?_
  | with_reducible refine rd_rng2 ?_
  | with_reducible refine rd_rng3 ?_
  | with_reducible refine rd_iList ?_
  | with_reducible refine rd_iTup ?_
  | with_reducible refine rd_iEnum ?_
  | with_reducible refine rd_lc ?_
  | with_reducible refine rd_yes ?_
  | with_reducible refine rd_augS ?_
  | with_reducible refine rd_drawNew ?_
  | with_reducible refine rd_make0 ?_
  | with_reducible refine rd_next ?_
  | with_reducible refine rd_break ?_
  | with_reducible refine rd_cont ?_
  | with_reducible refine rd_iteTT ?_
  | with_reducible refine rd_iteFF ?_
  | with_reducible refine rd_iteNTT ?_
  | with_reducible refine rd_iteNFF ?_
  | with_reducible refine rd_con0 ?_
  | with_reducible refine rd_truO0 ?_
  | with_reducible refine rd_gfld0 ?_
  | with_reducible refine rd_dc ?_
  | with_reducible refine rd_iKeys ?_
  | with_reducible refine rd_dget0 ?_
  | with_reducible refine rd_dput0 ?_
  | with_reducible refine rd_dnot0 ?_
  | with_reducible refine rd_iEnumT ?_
  | with_reducible refine rd_raP0 ?_
  | with_reducible refine rd_xf0 ?_
  | with_reducible refine rd_cKw ?_
  | with_reducible refine rd_asgG ?_)
local macro_rules | `(tactic| walk_at "rd") => `(tactic| repeat walk_at "rd1")
local macro_rules | `(tactic| walk_at "len") => `(tactic| first
  | (intro vs H Q E h; obtain ⟨h2, _⟩ := h; rw [h2]; rfl)
  | (intro vs H Q E h; obtain ⟨_, h2, _⟩ := h; rw [h2]; rfl)
  | (intro vs H Q E h; obtain ⟨_, _, h2, _⟩ := h; rw [h2]; rfl)
  | (intro vs H Q E h; obtain ⟨_, _, _, h2, _⟩ := h; rw [h2]; rfl)
  | (intro vs H Q E h; obtain ⟨_, _, _, _, h2, _⟩ := h; rw [h2]; rfl)
  | (intro vs H Q E h; obtain ⟨_, _, _, _, _, h2, _⟩ := h; rw [h2]; rfl)
  | (intro vs H Q E h; obtain ⟨_, _, _, _, _, _, h2, _⟩ := h; rw [h2]; rfl)
  | (intro vs H Q E h; obtain ⟨_, _, _, _, _, _, _, h2, _⟩ := h; rw [h2]; rfl)
  | (intro vs H Q E h; obtain ⟨_, _, _, _, _, _, _, _, h2, _⟩ := h; rw [h2]; rfl)
  | (intro vs H Q E h; obtain ⟨_, _, _, _, _, _, _, _, _, h2, _⟩ := h; rw [h2]; rfl)
  | (intro vs H Q E h; obtain ⟨_, _, _, _, _, _, _, _, _, _, h2, _⟩ := h; rw [h2]; rfl)
  | (intro vs H Q E h; obtain ⟨_, _, _, _, _, _, _, _, _, _, _, h2, _⟩ := h; rw [h2]; rfl)
  | (intro vs H Q E h; obtain ⟨_, _, _, _, _, _, _, _, _, _, _, _, h2, _⟩ := h; rw [h2]; rfl))
/-- things told as data: equal just if they are the same -/
structure EncOk {α : Type} [DecidableEq α] (enc : α → PyData) : Prop where
  eq : ∀ x y, PyData.eqv (enc x) (enc y) = decide (x = y)
  lay : ∀ x, (enc x).canLay0 = true
  dep : ∀ x, (enc x).depth ≤ 60
theorem EncOk.all {α : Type} [DecidableEq α] {enc : α → PyData} (E : EncOk enc) : ∀ l m : List α, PyData.eqvAll (l.map enc) (m.map enc) = decide (l = m)
  | [], [] => by simp [PyData.eqvAll]
  | [], _ :: _ => by simp [PyData.eqvAll]
  | _ :: _, [] => by simp [PyData.eqvAll]
  | x :: l, y :: m => by
    simp only [List.map_cons, PyData.eqvAll, E.eq, E.all l m, List.cons.injEq]
    rw [← Bool.decide_and]
theorem EncOk.tup {α : Type} [DecidableEq α] {enc : α → PyData} (E : EncOk enc) (l m : List α) : PyData.eqv (.tuple (l.map enc)) (.tuple (m.map enc)) = decide (l = m) := by
  simp only [PyData.eqv]; exact E.all l m
theorem EncOk.shT {α : Type} [DecidableEq α] {enc : α → PyData} (E : EncOk enc) (l : List α) : SeqAt.shaped (.tuple (l.map enc)) = true := shaped_tupMap E.lay E.dep l
theorem EncOk.sh {α : Type} [DecidableEq α] {enc : α → PyData} (E : EncOk enc) (x : α) : SeqAt.shaped (enc x) = true := by
  have := E.dep x
  exact Bool.and_eq_true_iff.mpr ⟨E.lay x, decide_eq_true (by omega)⟩
theorem enc_pair : EncOk pairD := ⟨fun x y => by
  obtain ⟨a, b⟩ := x
  obtain ⟨c, d⟩ := y
  simp only [pairD, PyData.eqv, PyData.eqvAll, Bool.and_true, Prod.mk.injEq]
  rw [Bool.beq_eq_decide_eq, Bool.beq_eq_decide_eq, ← Bool.decide_and], fun _ => by simp [pairD, PyData.canLay0, PyData.canLayAll0], fun _ => by simp [pairD, PyData.depth, PyData.depthAll]⟩
theorem enc_int : EncOk PyData.int := ⟨fun x y => by simp only [PyData.eqv]; exact Bool.beq_eq_decide_eq x y, fun _ => by simp [PyData.canLay0], fun _ => by simp [PyData.depth]⟩
theorem DnAll.take {H : Hp} : ∀ {vs : List V} {ds : List PyData} (n : Nat), DnAll H vs ds → DnAll H (vs.take n) (ds.take n)
  | _, _, 0, _ => .nil
  | _, _, _ + 1, .nil => .nil
  | _, _, n + 1, .cons h t => .cons h (DnAll.take n t)
theorem DnAll.rep {H : Hp} {vs : List V} {ds : List PyData} (h : DnAll H vs ds) : ∀ k : Nat, DnAll H (List.replicate k vs).flatten (List.replicate k ds).flatten
  | 0 => .nil
  | k + 1 => by rw [List.replicate_succ, List.replicate_succ, List.flatten_cons, List.flatten_cons]; exact h.append (h.rep k)
theorem DnAll.get {H : Hp} : ∀ {vs : List V} {ds : List PyData} {i : Nat} {d : PyData}, DnAll H vs ds → ds[i]? = some d → ∃ v, vs[i]? = some v ∧ Dn H v d
  | _, _, _, _, .nil, h => by simp at h
  | _, _, 0, _, .cons h _, e => by simp at e; subst e; exact ⟨_, rfl, h⟩
  | _, _, i + 1, _, .cons _ t, e => by
    obtain ⟨v, h1, h2⟩ := DnAll.get (i := i) t (by simpa using e)
    exact ⟨v, by simpa using h1, h2⟩
theorem Dn.tup_inv {H : Hp} {t : Addr} {ds : List PyData} (h : Dn H (.ref t) (.tuple ds)) : ∃ xs, H t = some (.tup xs) ∧ DnAll H xs ds := by
  cases h with
  | tup e h => exact ⟨_, e, h⟩
theorem cut_take {xs : List V} {m : Nat} : cutV xs none (some (m : Int)) = xs.take m := by
  unfold cutV
  rw [HT.sIx_none, HT.sIx_nat, List.drop_zero, Nat.sub_zero]
  by_cases c : m ≤ xs.length
  · rw [Nat.min_eq_left c]
  · rw [Nat.min_eq_right (by omega), List.take_of_length_le (Nat.le_refl _), List.take_of_length_le (by omega)]
theorem cut_front {xs : List V} {x : V} : cutV (xs ++ [x]) none (some (-1)) = xs := by
  unfold cutV
  have e : HT.sIx (xs ++ [x]).length (xs ++ [x]).length (some (-1)) = xs.length := by
    show (if (-1 : Int) < 0 then ((-1 : Int) + ((xs ++ [x]).length : Int)).toNat else min (-1 : Int).toNat (xs ++ [x]).length) = _
    rw [if_pos (by decide), List.length_append, List.length_singleton]
    omega
  rw [e, HT.sIx_none, List.drop_zero, Nat.sub_zero]
  simp
theorem rd_repTA {K : PySem.W.Frag} {H : Hp} {Q : VK} {p : Addr} {xs : List V} {k : Nat} (e : H p = some (.tup xs)) (hne : xs ≠ []) (hk : 0 < k) (h1 : k ≤ 1000) (h2 : xs.length ≤ 1000)
    (h : ∀ r H', Same H H' → H' r = some (.tup (List.replicate k xs).flatten) → Q (.ref r) H') : rOr (rRepT1 K) (rRepT K) (.ref p) (.int k) H Q := by
  by_cases c : k = 1
  · subst c
    exact .inl ⟨p, xs, rfl, rfl, SqT.of e, h p H (Same.refl H) (by simpa using e)⟩
  · refine .inr ⟨p, k, xs, rfl, rfl, SqT.of e, hne, by omega, by omega, h2, fun r hr => h r _ (Same.new (Same.refl H) hr) ?_⟩
    rw [Int.toNat_natCast]
    exact upd_same
/-- front and period as short as may be; what is told stays -/
def spShortest : Sp := fun vs H Q _ => ∃ (t1 t2 : Addr) (α : Type) (_ : DecidableEq α) (enc : α → PyData) (f q : List α), vs = [.ref t1, .ref t2] ∧ EncOk enc ∧ Dn H (.ref t1) (.tuple (f.map enc)) ∧ Dn H (.ref t2) (.tuple (q.map enc)) ∧ q ≠ [] ∧ f.length ≤ 6 ∧ q.length ≤ 6 ∧
  ∀ H' t s1 s2 (f' q' : List α), Same H H' → H' t = some (.tup [.ref s1, .ref s2]) → Dn H' (.ref s1) (.tuple (f'.map enc)) → Dn H' (.ref s2) (.tuple (q'.map enc)) → q' ≠ [] → (∀ g, atO f' q' g = atO f q g) → Q (.ref t) H'
section
variable {P : Program} {w : World} {K : PySem.W.Frag} {mg : Str → Option Value} {base : Heap} {C_Rule C_Evidence C_Good C_Bad C_InTime C_Late C_BadDay Lc__law_worked Lp__law_worked : Addr}
theorem cal_shortest (T : TX K mg C_Rule C_Evidence C_Good C_Bad C_InTime C_Late C_BadDay Lc__law_worked Lp__law_worked) : Cal P w K mg base 1 "shortest" spShortest [] := by
  obtain ⟨f0, fd, D, dn⟩ := T.d_shortest
  refine cal0 D (D.fn.binds dn fun _ _ _ _ _ _ us hl => match us, hl with | [_, _], _ => rfl) .nil sc_shortest (by walk_at "len") (fun cdv A outer s H vs Q E hr h => ?_)
  obtain ⟨t1, t2, α, _, enc, f, q, rfl, E, h1, h2, hq, hf6, hq6, k⟩ := h
  obtain ⟨xs2, e2, d2⟩ := h2.tup_inv
  have l2 : xs2.length = q.length := by rw [d2.length, List.length_map]
  have q0 : 0 < q.length := List.length_pos_iff.mpr hq
  refine ⟨_, (pss_cut (ps_for PassesOwn.never rfl (pi_range2 rfl T.b_range (pa_cons pe_int (pa_cons (pe_op op_add (pe_callB cr_lenS (by rfl) T.b_len (by decide +kernel) (pa_cons (pv 1) pa_nil)) pe_int) pa_nil))) (pg_n 2 sc_shortest.nd) (pss_one (ps_if (PW.pt (pw_and (pt_cmpR op_eq (pe_op op_modN (pe_callB cr_lenS (by rfl) T.b_len (by decide +kernel) (pa_cons (pv 1) pa_nil)) (pv 2)) pe_int (nomark _)) (pw_and1 (pt_cmpR (op_eqD hr.units) (pv 1) (pe_op op_repTA (pe_slice sl_tupA (pv 1) po_none (po_some (pv 2))) (pe_op op_fdivW (pe_callB cr_lenS (by rfl) T.b_len (by decide +kernel) (pa_cons (pv 1) pa_nil)) (pv 2))) (nomark _))))) (pss_cons (ps_s 1 sc_shortest.nd (pe_slice sl_tupA (pv 1) po_none (po_some (pv 2))))
      (pss_one ps_break)) pss_nil)))
      (pss_cons (ps_while PassesOwn.never (PW.pt (pw_and (pt_cmpR (op_neD hr.units) (pv 0) (pe_tup pa_nil) (nomark _)) (pw_and1 (pt_cmpR (op_eqD hr.units) (pe_ix ix_tup (pv 0) (pe_un un_neg pe_int) (fun _ _ => rfl)) (pe_ix ix_tup (pv 1) (pe_un un_neg pe_int) (fun _ _ => rfl)) (nomark _))))) (pss_one (ps_par (i := 0) (j := 1) rfl sc_shortest.nd rfl rfl (by decide) rfl rfl (pa_cons (pe_slice sl_tupA (pv 0) po_none (po_some (pe_un un_neg pe_int))) (pa_cons (pe_tup (pa_cons (pe_ix ix_tup (pv 1) (pe_un un_neg pe_int) (fun _ _ => rfl)) (pa_star (pe_slice sl_tupA (pv 1) po_none (po_some (pe_un un_neg pe_int))) pa_nil))) pa_nil)) (by rfl))))
      (pss_one (ps_ret (pe_tup (pa_cons (pv 0) (pa_cons (pv 1) pa_nil))))))), ?_⟩
  refine ⟨fun σ' H' => ∃ (t2' : Addr) (q' : List α) (v : Option V), Same H H' ∧ Dn H' (.ref t2') (.tuple (q'.map enc)) ∧ q' ≠ [] ∧ (∀ g, atO f q' g = atO f q g) ∧ q'.length ≤ 6 ∧ σ' = [some (.ref t1), some (.ref t2'), v], ?_, ?_⟩
  · walk_at "rd"
    refine rd_lenT e2 ?_
    walk_at "rd"
    refine rd_rgR2 (by omega) ?_
    refine forR_rng (fun i σ H' => ∃ v, Same H H' ∧ σ = [some (.ref t1), some (.ref t2), v]) ⟨none, Same.refl _, rfl⟩ ?_ ?_
    · rintro i σ H' hi ⟨v, s1, rfl⟩
      walk_at "rd"
      refine rd_lenT (s1 _ _ e2) ?_
      walk_at "rd"
      refine rd_ite (fun c1 => ?_) (fun c1 => ?_)
      · walk_at "rd"
        refine rd_slA (s1 _ _ e2) fun p2 H2 s2 ep2 => ?_
        have em : (1 : Int) + (i : Int) = ((i + 1 : Nat) : Int) := by omega
        rw [em, cut_take] at ep2
        have s12 := s1.trans s2
        have hile : i + 1 ≤ q.length := by omega
        walk_at "rd"
        refine rd_lenT (s12 _ _ e2) ?_
        walk_at "rd"
        rw [em, l2] at c1 ⊢
        rw [Int.fmod_eq_emod_of_nonneg _ (by omega), ← Int.natCast_emod] at c1
        have c1' : q.length % (i + 1) = 0 := by omega
        obtain ⟨kk, hkk⟩ := Nat.dvd_of_mod_eq_zero c1'
        have hkd : ((q.length : Int)) / ((i + 1 : Nat) : Int) = (kk : Int) := by
          rw [← Int.natCast_ediv, hkk, Nat.mul_div_cancel_left _ (Nat.succ_pos _)]
        have b7 := bb_pos
        walk_at "rd"
        rw [hkd]
        have hk0 : 0 < kk := by
          rcases Nat.eq_zero_or_pos kk with z | z
          · rw [z] at hkk; omega
          · exact z
        have dtk := (d2.take (i + 1)).mono s12
        rw [← List.map_take] at dtk
        have eqf : (List.replicate kk ((q.take (i + 1)).map enc)).flatten = (List.replicate kk (q.take (i + 1))).flatten.map enc := by rw [List.map_flatten, List.map_replicate]
        have hr : q.take (i + 1) ≠ [] := by
          intro z
          have := congrArg List.length z
          rw [List.length_take, List.length_nil] at this
          omega
        refine rd_repTA ep2 (by intro z; have := congrArg List.length z; rw [List.length_take, List.length_nil] at this; omega) hk0 (by rw [hkk] at hq6; have : 1 * kk ≤ (i + 1) * kk := Nat.mul_le_mul_right _ (by omega); omega) (by rw [List.length_take]; omega) fun r H3 s3 er => ?_
        refine rd_eqD ((h2.mono (s12.trans s3)).dt) (Dn.dt (.tup er ((dtk.rep kk).mono s3))) (E.shT q) (by rw [eqf]; exact E.shT _) ?_
        rw [eqf, E.tup]
        walk_at "rd"
        refine rd_ite (fun c2 => ?_) (fun c2 => ?_)
        · walk_at "rd"
          refine rd_slA ((s12.trans s3) _ _ e2) fun p4 H4 s4 ep4 => ?_
          rw [cut_take] at ep4
          walk_at "rd"
          refine ⟨p4, q.take (i + 1), _, (s12.trans s3).trans s4, .tup ep4 (by rw [List.map_take]; exact (d2.take (i + 1)).mono ((s12.trans s3).trans s4)), hr, fun g => ?_, by rw [List.length_take]; omega, rfl⟩
          rw [atO_rep f _ hr hk0, ← c2]
        · walk_at "rd"
          exact ⟨_, s12.trans s3, rfl⟩
      · exact ⟨_, s1, rfl⟩
    · rintro σ H' ⟨v, s1, rfl⟩
      exact ⟨t2, q, v, s1, h2.mono s1, hq, fun _ => rfl, hq6, rfl⟩
  · rintro σ0 H0 ⟨t2', q', v0, s0, dq0, hq0, hat0, hl0, rfl⟩
    walk_at "rd"
    refine rd_while (fun n σ H' => ∃ (u1 u2 : Addr) (f1 q1 : List α) (v : Option V), n = f1.length ∧ Same H H' ∧ Dn H' (.ref u1) (.tuple (f1.map enc)) ∧ Dn H' (.ref u2) (.tuple (q1.map enc)) ∧ q1 ≠ [] ∧ (∀ g, atO f1 q1 g = atO f q g) ∧ q1.length ≤ 6 ∧
      σ = [some (.ref u1), some (.ref u2), v]) _ ⟨t1, t2', f, q', v0, rfl, s0, h1.mono s0, dq0, hq0, hat0, hl0, rfl⟩ ?_
    rintro n σ H' ⟨u1, u2, f1, q1, v, rfl, s1, du1, du2, hq1, hat1, hl1, rfl⟩
    walk_at "rd"
    refine rd_newT (by simp) fun w H2 _ s2 ew _ => ?_
    refine rd_neD (d := .tuple (f1.map enc)) (e := .tuple ([].map enc)) ((du1.mono s2).dt) (.tup ew .nil) (E.shT f1) (E.shT []) ?_
    rw [E.tup]
    walk_at "rd"
    have out : ∀ H3, Same H2 H3 → (tRet (tTup (tCons (tVar 0) (tCons (tVar 1) tNil)))) { nx := fun x H' => Q .non H', rt := Q } [some (.ref u1), some (.ref u2), v] H3 := by
      intro H3 s3
      walk_at "rd"
      refine rd_newT (by simp) fun w4 H4 _ s4 ew4 _ => ?_
      have s := (s2.trans s3).trans s4
      exact k H4 w4 u1 u2 f1 q1 (s1.trans s) ew4 (du1.mono s) (du2.mono s) hq1 hat1
    refine rd_iteN (fun c1 => ?_) (fun c1 => ?_)
    · -- the front is not empty
      obtain ⟨f2, x, rfl⟩ : ∃ f2 x, f1 = f2 ++ [x] := ⟨f1.dropLast, f1.getLast c1, (List.dropLast_concat_getLast c1).symm⟩
      obtain ⟨q2, y, rfl⟩ : ∃ q2 y, q1 = q2 ++ [y] := ⟨q1.dropLast, q1.getLast hq1, (List.dropLast_concat_getLast hq1).symm⟩
      obtain ⟨xs1, e1, d1⟩ := du1.tup_inv
      obtain ⟨ys1, e3, d3⟩ := du2.tup_inv
      rw [List.map_append] at d1 d3
      have split : ∀ {H0 : Hp} {vs : List V} {ds : List PyData} {d : PyData}, DnAll H0 vs (ds ++ [d]) → ∃ vs' v, vs = vs' ++ [v] ∧ DnAll H0 vs' ds ∧ Dn H0 v d := by
        intro H0 vs ds
        induction ds generalizing vs with
        | nil =>
          intro d h
          cases h with
          | cons h t => cases t; exact ⟨[], _, rfl, .nil, h⟩
        | cons a ds ih =>
          intro d h
          cases h with
          | cons h t =>
            obtain ⟨vs', v, rfl, h2, h3⟩ := ih t
            exact ⟨_ :: vs', v, rfl, .cons h h2, h3⟩
      obtain ⟨vs1, v1, rfl, da1, db1⟩ := split d1
      obtain ⟨vs3, v3, rfl, da3, db3⟩ := split d3
      walk_at "rd"
      refine rd_ixT (s2 _ _ e1) (atI_last _ _) ?_
      walk_at "rd"
      refine rd_ixT (s2 _ _ e3) (atI_last _ _) ?_
      refine rd_eqD ((db1.mono s2).dt) ((db3.mono s2).dt) (E.sh x) (E.sh y) ?_
      rw [E.eq]
      walk_at "rd"
      refine rd_ite (fun c2 => ?_) (fun c2 => ?_)
      · subst c2
        refine rd_whN ?_
        walk_at "rd"
        refine rd_slA (s2 _ _ e1) fun p3 H3 s3 ep3 => ?_
        rw [cut_front] at ep3
        walk_at "rd"
        refine rd_ixT ((s2.trans s3) _ _ e3) (atI_last _ _) ?_
        walk_at "rd"
        refine rd_slA ((s2.trans s3) _ _ e3) fun p4 H4 s4 ep4 => ?_
        rw [cut_front] at ep4
        refine ⟨p4, _, rfl, .inl (SqT.of ep4), ?_⟩
        walk_at "rd"
        have l3 := da3.length
        rw [List.length_map] at l3
        rw [List.length_append, List.length_singleton] at hl1
        refine rd_newT (by simp; omega) fun w5 H5 _ s5 ew5 _ => ?_
        walk_at "rd"
        have s25 := ((s2.trans s3).trans s4).trans s5
        refine ⟨f2.length, by rw [List.length_append, List.length_singleton]; omega, p3, w5, f2, x :: q2, v, rfl, s1.trans s25, .tup ((s4.trans s5) _ _ ep3) (da1.mono s25), .tup ew5 ?_, by simp, fun g => ?_, by rw [List.length_cons]; omega, rfl⟩
        · rw [List.append_nil]
          exact .cons (db3.mono s25) (da3.mono s25)
        · rw [atO_turn]; exact hat1 g
      · exact out H2 (Same.refl _)
    · refine rd_iteFF ?_
      exact out H2 (Same.refl _)
end
end Sl

set_option Elab.async false
set_option linter.all false
set_option maxRecDepth 100000
set_option maxHeartbeats 4000000
namespace Sl
open PySem L2 C8 StX Silt
local macro_rules | `(tactic| walk_at "side") => `(tactic| first
  | exact cdivw (by omega) (by omega)
  | exact cmulw (by omega) (by omega) (by omega) (by omega)
  | exact Or.inr ⟨by omega, by omega⟩
  | exact Or.inl ⟨by omega, by omega⟩
  | omega
  | exact ⟨by omega, by omega, by decide⟩
  | decide)
local macro_rules | `(tactic| walk_at "rd1") => `(tactic| first
  | with_reducible refine rd_seq ?_
  | with_reducible refine rd_asg ?_
  | with_reducible refine rd_drop ?_
  | with_reducible refine rd_ret ?_
  | with_reducible refine rd_retN ?_
  | with_reducible refine rd_ifS ?_
  | ((with_reducible refine rd_var0 ?_); refine ⟨_, rfl, ?_⟩)
  | with_reducible refine rd_c ?_
  | with_reducible refine rd_op ?_
  | with_reducible refine rd_un ?_
  | with_reducible refine rd_I0 ?_
  | with_reducible refine rd_U ?_
  | ((with_reducible refine rd_I ?c ?_); (case c => walk_at "side"))
  | with_reducible refine rd_ipI ?_
  | with_reducible refine rd_eqI ?_
  | with_reducible refine rd_neI ?_
  | with_reducible refine rd_test ?_
  | with_reducible refine rd_tB ?_
  | with_reducible refine rd_bl ?_
  | with_reducible refine rd_not ?_
  | with_reducible refine rd_and ?_
  | with_reducible refine rd_or ?_
  | with_reducible refine rd_andV ?_
  | with_reducible refine rd_orV ?_
  | with_reducible refine rd_notV ?_
  | with_reducible refine rd_ifE ?_
  | with_reducible refine rd_chain ?_
  | with_reducible refine rd_chain3 ?_
  | with_reducible refine rd_nil ?_
  | with_reducible refine rd_cons ?_
  | with_reducible refine rd_call ?_
  | with_reducible refine rd_CB ?_
  | with_reducible refine rd_par ?_
  | with_reducible refine rd_par2 ?_
  | with_reducible refine rd_par3 ?_
  | with_reducible refine rd_par4 ?_
  | ((with_reducible refine rd_aug0 ?_); refine ⟨_, rfl, ?_⟩)
  | with_reducible refine rd_gname ?_
  | with_reducible refine rd_gcons ?_
  | with_reducible refine rd_gnil ?_
  | with_reducible refine rd_max ?_
  | with_reducible refine rd_min ?_
  | with_reducible refine rd_int1 ?_
  | with_reducible refine rd_abs ?_
  | with_reducible refine rd_lst ?_
  | with_reducible refine rd_tup ?_
  | with_reducible refine rd_bm ?_
  | with_reducible refine rd_fld0 ?_
  | with_reducible refine rd_sl0 ?_
  | with_reducible refine rd_noP ?_
  | with_reducible refine rd_part ?_
  | with_reducible refine rd_part2 ?_
  | with_reducible refine rd_meth0 ?_
  | with_reducible refine rd_star ?_
  | with_reducible refine rd_for ?_
  | with_reducible refine rd_rng1 ?_
  | with_reducible refine rd_rng2 ?_
  | with_reducible refine rd_rng3 ?_
  | with_reducible refine rd_iList ?_
  | with_reducible refine rd_iTup ?_
  | with_reducible refine rd_iEnum ?_
  | with_reducible refine rd_lc ?_
  | with_reducible refine rd_yes ?_
  | with_reducible refine rd_augS ?_
  | with_reducible refine rd_drawNew ?_
  | with_reducible refine rd_make0 ?_
  | with_reducible refine rd_next ?_
  | with_reducible refine rd_break ?_
  | with_reducible refine rd_cont ?_
  | with_reducible refine rd_iteTT ?_
  | with_reducible refine rd_iteFF ?_
  | with_reducible refine rd_iteNTT ?_
  | with_reducible refine rd_iteNFF ?_
  | with_reducible refine rd_con0 ?_
  | with_reducible refine rd_truO0 ?_
  | with_reducible refine rd_gfld0 ?_
  | with_reducible refine rd_dc ?_
  | with_reducible refine rd_iKeys ?_
  | with_reducible refine rd_dget0 ?_
  | with_reducible refine rd_dput0 ?_
  | with_reducible refine rd_dnot0 ?_
  | with_reducible refine rd_iEnumT ?_
  | with_reducible refine rd_raP0 ?_
  | with_reducible refine rd_xf0 ?_
  | with_reducible refine rd_cKw ?_
  | with_reducible refine rd_asgG ?_)
local macro_rules | `(tactic| walk_at "rd") => `(tactic| repeat walk_at "rd1")
local macro_rules | `(tactic| walk_at "len") => `(tactic| first
  | (intro vs H Q E h; obtain ⟨h2, _⟩ := h; rw [h2]; rfl)
  | (intro vs H Q E h; obtain ⟨_, h2, _⟩ := h; rw [h2]; rfl)
  | (intro vs H Q E h; obtain ⟨_, _, h2, _⟩ := h; rw [h2]; rfl)
  | (intro vs H Q E h; obtain ⟨_, _, _, h2, _⟩ := h; rw [h2]; rfl)
  | (intro vs H Q E h; obtain ⟨_, _, _, _, h2, _⟩ := h; rw [h2]; rfl)
  | (intro vs H Q E h; obtain ⟨_, _, _, _, _, h2, _⟩ := h; rw [h2]; rfl)
  | (intro vs H Q E h; obtain ⟨_, _, _, _, _, _, h2, _⟩ := h; rw [h2]; rfl)
  | (intro vs H Q E h; obtain ⟨_, _, _, _, _, _, _, h2, _⟩ := h; rw [h2]; rfl)
  | (intro vs H Q E h; obtain ⟨_, _, _, _, _, _, _, _, h2, _⟩ := h; rw [h2]; rfl)
  | (intro vs H Q E h; obtain ⟨_, _, _, _, _, _, _, _, _, h2, _⟩ := h; rw [h2]; rfl)
  | (intro vs H Q E h; obtain ⟨_, _, _, _, _, _, _, _, _, _, h2, _⟩ := h; rw [h2]; rfl)
  | (intro vs H Q E h; obtain ⟨_, _, _, _, _, _, _, _, _, _, _, h2, _⟩ := h; rw [h2]; rfl)
  | (intro vs H Q E h; obtain ⟨_, _, _, _, _, _, _, _, _, _, _, _, h2, _⟩ := h; rw [h2]; rfl))
/-- a list or a tuple -/
def Seq (H : Hp) (a : Addr) (xs : List V) : Prop := H a = some (.lst xs) ∨ H a = some (.tup xs)
theorem Seq.mono {H H' : Hp} {a : Addr} {xs : List V} (s : Same H H') (h : Seq H a xs) : Seq H' a xs := h.elim (fun e => .inl (s _ _ e)) fun e => .inr (s _ _ e)
section
variable {σ : L2.St} {H : Hp} {Q : VK} {K : PySem.W.Frag} {QS : L2.St → Hp → Prop} {v : V}
theorem Seq.star {a : Addr} {xs : List V} (h : Seq H a xs) : SqT K H a xs ∨ SqL K H a xs := h.elim (fun e => .inr (SqL.of e)) fun e => .inl (SqT.of e)
theorem rd_isiTS {a u : Addr} {xs : List V} (e : Seq H a xs) (eu : H u = some (.tup [.ty "list", .ty "tuple"])) (h : Q (.bl true) H) : rIsiT K [.ref a, .ref u] H Q :=
  e.elim (fun e => rd_isiTL e eu h) fun e => rd_isiTT e eu h
theorem rd_lenQ {a : Addr} {xs : List V} (e : Seq H a xs) (h : Q (.int xs.length) H) : rLenS K [.ref a] H Q := e.elim (fun e => rd_lenL e h) fun e => rd_lenT e h
theorem rd_tupOfS {a : Addr} {xs : List V} (e : Seq H a xs) (h : ∀ p H', Same H H' → H' p = some (.tup xs) → Q (.ref p) H') : rTupOf K [.ref a] H Q :=
  e.elim (fun e => rd_tupOfL e fun p H' _ s ep _ => h p H' s ep) fun e => rd_tupOfT e (h a H (Same.refl H) e)
def rGFld (K : PySem.W.Frag) (f : Str) (v : V) (QS : L2.St → Hp → Prop) (σ : L2.St) (x : V) (H1 : Hp) : Prop := ∃ a C dx fs, x = .ref a ∧ H1 a = some (.ins C dx fs) ∧ Cls K C ∧ NoAttr K C f ∧ fs.length < 1000 ∧ QS σ (upd H1 a (.ins C dx (putF f v fs)))
theorem rd_gfld0 {to : TE} {f : Str} (h : to σ H fun x H1 => rGFld K f v QS σ x H1) : gFld K to f v σ H QS := h
theorem rd_gfld {f : Str} {a C dx : Addr} {fs : List (Str × V)} (e : H a = some (.ins C dx fs)) (c : Cls K C) (n : NoAttr K C f) (l : fs.length < 1000) (h : ∀ H', H' = upd H a (.ins C dx (putF f v fs)) → H' a = some (.ins C dx (putF f v fs)) → QS σ H') : rGFld K f v QS σ (.ref a) H :=
  ⟨a, C, dx, fs, rfl, e, c, n, l, h _ rfl upd_same⟩
end
theorem put_rf (t1 t2 : Addr) : putF "period" (.ref t2) (putF "front" (.ref t1) []) = rf t1 t2 := by
  have h : ¬ (("front" : Str) = "period") := by decide +kernel
  show (if ("front" : Str) = "period" then [(("front" : Str), V.ref t2)] else (("front" : Str), V.ref t1) :: putF "period" (V.ref t2) []) = rf t1 t2
  rw [if_neg h]
  rfl
/-- behind the two stores of __init__ -/
theorem ruleAt_made {H H1 H2 : Hp} {C dx self t1 t2 : Addr} {f q : List PyData} {fs : List (Str × V)} (e : H self = some (.ins C dx [])) (e1 : H1 = upd H self (.ins C dx (putF "front" (.ref t1) []))) (e2 : H2 = upd H1 self (.ins C dx (putF "period" (.ref t2) (putF "front" (.ref t1) []))))
    (d1 : Dn H (.ref t1) (.tuple f)) (d2 : Dn H (.ref t2) (.tuple q)) : RuleAt C H2 self f q := by
  have k : ∀ a xs, H a = some (.tup xs) → H2 a = some (.tup xs) := fun a xs ea => by
    have hne : a ≠ self := fun z => by rw [z, e] at ea; cases ea
    rw [e2, upd_ne hne, e1, upd_ne hne]
    exact ea
  exact ⟨dx, t1, t2, by rw [e2, put_rf]; exact upd_same, (d1.keep k).dt, (d2.keep k).dt⟩
theorem same_made {H0 H H1 H2 : Hp} {self : Addr} {o1 o2 : HO} (s : Same H0 H) (h0 : H0 self = none) (e1 : H1 = upd H self o1) (e2 : H2 = upd H1 self o2) : Same H0 H2 := by
  rw [e2, e1]
  exact Same.mut (Same.mut s h0) h0
/-- pairs that may be told -/
def OkP (q : Int × Int) : Prop := 2 ≤ q.2 ∧ q.2 ≤ q.1 ∧ q.1 ≤ 6
theorem atp_atO (f q : List (Int × Int)) (g : Nat) : atp f q g = (atO f q g).getD (0, 0) := by
  unfold atp atO
  by_cases c : g < f.length
  · rw [if_pos c, if_pos c, List.getD_eq_getElem?_getD]
  · rw [if_neg c, if_neg c, List.getD_eq_getElem?_getD]
theorem good_of {f q : List (Int × Int)} (hq : q ≠ []) (hf : ∀ x ∈ f, OkP x) (hp : ∀ x ∈ q, OkP x) : Good (atp f q) := by
  have h : ∀ g, OkP (atp f q g) := fun g => by
    obtain ⟨x, e, hx⟩ := atO_some (f := f) hq g
    rw [atp_atO, e]
    exact hx.elim (hf x) (hp x)
  exact ⟨fun g => (h g).1, fun g => (h g).2.1, fun g => Int.le_trans (h g).2.2 (by decide)⟩
theorem atp_six {f q : List (Int × Int)} (hq : q ≠ []) (hf : ∀ x ∈ f, OkP x) (hp : ∀ x ∈ q, OkP x) (g : Nat) : (atp f q g).1 ≤ 6 := by
  obtain ⟨x, e, hx⟩ := atO_some (f := f) hq g
  rw [atp_atO, e]
  exact (hx.elim (hf x) (hp x)).2.2
def spPair : Sp := fun vs H Q _ => ∃ (t : Addr) (q : Int × Int), vs = [.ref t] ∧ H t = some (.tup [.int q.1, .int q.2]) ∧ OkP q ∧ Q (.bl true) H
def spRule (C : Addr) : Sp := fun vs H Q _ => ∃ (self dx fl pl : Addr) (H0 : Hp) (xs1 xs2 : List V) (f q : List (Int × Int)), vs = [.ref self, .ref fl, .ref pl] ∧ Same H0 H ∧ H0 self = none ∧ H self = some (.ins C dx []) ∧
  Seq H fl xs1 ∧ Seq H pl xs2 ∧ DnAll H xs1 (pairsD f) ∧ DnAll H xs2 (pairsD q) ∧ f.length ≤ 6 ∧ q.length ≤ 6 ∧ q ≠ [] ∧ (∀ x ∈ f, OkP x) ∧ (∀ x ∈ q, OkP x) ∧
  ∀ H', Same H0 H' → RuleP C H' self (atp f q) → Q .non H'
section
variable {P : Program} {w : World} {K : PySem.W.Frag} {mg : Str → Option Value} {base : Heap} {C_Rule C_Evidence C_Good C_Bad C_InTime C_Late C_BadDay Lc__law_worked Lp__law_worked : Addr}
theorem cal_is_pair (T : TX K mg C_Rule C_Evidence C_Good C_Bad C_InTime C_Late C_BadDay Lc__law_worked Lp__law_worked) : Cal P w K mg base 2 "is_pair" spPair [] := by
  obtain ⟨f0, fd, D, dn⟩ := T.d_is_pair
  have G_is_whole := cal_is_whole (P := P) (w := w) (base := base) T
  refine cal0 D (D.fn.binds dn fun _ _ _ _ _ _ us hl => match us, hl with | [_], _ => rfl) .nil sc_is_pair (by walk_at "len") (fun cdv A outer s H vs Q E hr h => ?_)
  obtain ⟨t, q, rfl, e, ⟨o1, o2, o3⟩, k⟩ := h
  refine ⟨_, (pss_cons (ps_if (PW.pt (pw_or (pt_not (pt_val (pe_callB call_isi (by rfl) T.b_isinstance (by decide +kernel) (pa_cons (pv 0) (pa_cons (pe_bltn (v := .ty "tuple") (u := .type "tuple") rfl T.b_tuple (by decide +kernel) rfl) pa_nil))))) (pw_or (pt_cmpR op_ne (pe_callB cr_lenS (by rfl) T.b_len (by decide +kernel) (pa_cons (pv 0) pa_nil)) pe_int (nomark _)) (pw_or (pt_not (pt_val (pe_c G_is_whole hr (by decide) rfl (pa_cons (pe_ix ix_tup (pv 0) pe_int (fun _ _ => rfl)) pa_nil)))) (pw_or1 (pt_not (pt_val (pe_c G_is_whole hr (by decide) rfl (pa_cons (pe_ix ix_tup (pv 0) pe_int (fun _ _ => rfl)) pa_nil))))))))) (pss_one (ps_ret pe_bl)) pss_nil)
      (pss_one (ps_ret (pe_chain3 op_le op_le op_le pe_int (pe_ix ix_tup (pv 0) pe_int (fun _ _ => rfl)) (pe_ix ix_tup (pv 0) pe_int (fun _ _ => rfl)) (pe_gc rfl T.g_MOST_LAYERS))))), ?_⟩
  walk_at "rd"
  refine rd_isiT e ?_
  walk_at "rd"
  refine rd_lenT e ?_
  walk_at "rd"
  refine rd_iteNF (by simp) ?_
  walk_at "rd"
  refine rd_ixT e (by rfl) ?_
  walk_at "rd"
  refine ⟨_, rfl, ?_⟩
  walk_at "rd"
  refine rd_ixT e (by rfl) ?_
  walk_at "rd"
  refine ⟨_, rfl, ?_⟩
  walk_at "rd"
  refine rd_ixT e (by rfl) ?_
  walk_at "rd"
  refine rd_iteT o1 ?_
  walk_at "rd"
  refine rd_ixT e (by rfl) ?_
  walk_at "rd"
  refine rd_iteT o2 ?_
  walk_at "rd"
  rw [decide_eq_true (Int.le_trans o3 (by decide) : q.1 ≤ 12)]
  exact k
theorem mak_Rule_init (T : TX K mg C_Rule C_Evidence C_Good C_Bad C_InTime C_Late C_BadDay Lc__law_worked Lp__law_worked) : Mak P w K mg base 3 "Rule" C_Rule (spRule C_Rule) [] := by
  obtain ⟨f0, fd, D, dn, mk⟩ := T.m_Rule_init
  have G_is_pair := cal_is_pair (P := P) (w := w) (base := base) T
  have G_shortest := cal_shortest (P := P) (w := w) (base := base) T
  refine mak0 mk T.mg_Rule D (D.binds dn fun _ _ _ _ _ _ us hl => match us, hl with | [_, _, _], _ => rfl) .nil sc_Rule_init (by walk_at "len") (fun cdv A outer s H vs Q E hr h => ?_)
  obtain ⟨self, dx, fl, pl, H0, xs1, xs2, f, q, rfl, s0, h0, eS, sf, sp, df, dq, lf, lq, hq, okf, okq, k⟩ := h
  have l1 : xs1.length = f.length := by rw [df.length]; simp [pairsD]
  have l2 : xs2.length = q.length := by rw [dq.length]; simp [pairsD]
  have q0 : 0 < q.length := List.length_pos_iff.mpr hq
  refine ⟨_, (pss_cons (ps_for PassesOwn.never rfl (pi_tup (pe_tup (pa_cons (pv 1) (pa_cons (pv 2) pa_nil)))) (pg_n 3 sc_Rule_init.nd) (pss_one (ps_if (PW.pt (pw_or (pt_not (pt_val (pe_callB call_isiT (by rfl) T.b_isinstance (by decide +kernel) (pa_cons (pv 3) (pa_cons (pe_tup (pa_cons (pe_bltn (v := .ty "list") (u := .type "list") rfl T.b_list (by decide +kernel) rfl) (pa_cons (pe_bltn (v := .ty "tuple") (u := .type "tuple") rfl T.b_tuple (by decide +kernel) rfl) pa_nil))) pa_nil))))) (pw_or1 (pt_cmpR op_gt (pe_callB cr_lenS (by rfl) T.b_len (by decide +kernel) (pa_cons (pv 3) pa_nil)) (pe_gc rfl T.g_MOST_PAIRS) (nomark _))))) (pss_one ps_never) pss_nil)))
      (pss_cons (ps_if (pt_cmpR op_eq (pe_callB cr_lenS (by rfl) T.b_len (by decide +kernel) (pa_cons (pv 2) pa_nil)) pe_int (nomark _)) (pss_one ps_never) pss_nil)
      (pss_cons (ps_for PassesOwn.never rfl (pi_enum (by rfl) T.b_enumerate (pa_cons (pe_lst (pa_star (pv 1) (pa_star (pv 2) pa_nil))) pa_nil)) (pg_tup rfl (pgs_cons (pg_n 4 sc_Rule_init.nd) (pgs_cons (pg_n 5 sc_Rule_init.nd) pgs_nil))) (pss_one (ps_if (pt_not (pt_val (pe_c G_is_pair hr (by decide) rfl (pa_cons (pv 5) pa_nil)))) (pss_one ps_never) pss_nil)))
      (pss_one (ps_asg (pe_c G_shortest hr (by decide) rfl (pa_cons (pe_callTy cr_tupOf (by rfl) T.b_tuple (by decide +kernel) (pa_cons (pv 1) pa_nil)) (pa_cons (pe_callTy cr_tupOf (by rfl) T.b_tuple (by decide +kernel) (pa_cons (pv 2) pa_nil)) pa_nil))) (pg_tup rfl (pgs_cons (pg_attr (pv 0)) (pgs_cons (pg_attr (pv 0)) pgs_nil)))))))), ?_⟩
  walk_at "rd"
  refine rd_newT (by simp) fun u H1 _ s1 eu _ => ?_
  refine rd_tpR (SqT.of eu) ?_
  refine forR_tup (xs := [.ref fl, .ref pl]) (fun i σ H' => ∃ v, Same H1 H' ∧ σ = [some (.ref self), some (.ref fl), some (.ref pl), v, none, none]) (fun i σ H' ⟨v, s, _⟩ => SqT.of (s _ _ eu)) ⟨none, Same.refl _, rfl⟩ ?_ ?_
  · rintro i x σ H' hi ⟨v, s2, rfl⟩
    obtain ⟨b, ys, rfl, hb, hlb⟩ : ∃ b ys, x = V.ref b ∧ Seq H b ys ∧ ys.length ≤ 6 := by
      match i, hi with
      | 0, hi => cases hi; exact ⟨fl, xs1, rfl, sf, by omega⟩
      | 1, hi => cases hi; exact ⟨pl, xs2, rfl, sp, by omega⟩
      | i + 2, hi => simp at hi
    walk_at "rd"
    refine rd_newT (by simp) fun u2 H3 _ s3 eu2 _ => ?_
    walk_at "rd"
    refine rd_isiTS (hb.mono ((s1.trans s2).trans s3)) eu2 ?_
    walk_at "rd"
    refine rd_lenQ (hb.mono ((s1.trans s2).trans s3)) ?_
    walk_at "rd"
    refine rd_iteF (by omega) ?_
    walk_at "rd"
    exact ⟨_, s2.trans s3, rfl⟩
  · rintro σ H' ⟨v, s2, rfl⟩
    have s12 := s1.trans s2
    walk_at "rd"
    refine rd_lenQ (sp.mono s12) ?_
    walk_at "rd"
    refine rd_iteF (by omega) ?_
    walk_at "rd"
    refine ⟨_, _, rfl, (sf.mono s12).star, ?_⟩
    walk_at "rd"
    refine ⟨_, _, rfl, (sp.mono s12).star, ?_⟩
    walk_at "rd"
    rw [List.append_nil]
    refine rd_newL (by rw [List.length_append]; omega) fun L H3 _ s3 eL _ => ?_
    walk_at "rd"
    refine rd_enR (SqL.of eL) ?_
    refine forR_enum (xs := xs1 ++ xs2) (fun i σ H' => ∃ v4 v5, Same H3 H' ∧ σ = [some (.ref self), some (.ref fl), some (.ref pl), v, v4, v5]) (fun i σ H' ⟨_, _, s, _⟩ => SqL.of (s _ _ eL)) ⟨none, none, Same.refl _, rfl⟩ ?_ ?_
    · rintro i x σ H' t H4 hi ⟨v4, v5, s4, rfl⟩ _ s5 et _
      have dall : DnAll H4 (xs1 ++ xs2) ((f ++ q).map pairD) := by
        rw [List.map_append]
        exact (df.append dq).mono (((s12.trans s3).trans s4).trans s5)
      have hil : i < (xs1 ++ xs2).length := (List.getElem?_eq_some_iff.mp hi).1
      have hif : i < (f ++ q).length := by rw [List.length_append] at hil ⊢; omega
      obtain ⟨y, hy, dy⟩ := dall.get (i := i) (d := pairD (f ++ q)[i]) (by rw [List.getElem?_map, List.getElem?_eq_getElem hif]; rfl)
      rw [hi] at hy
      cases hy
      obtain ⟨tp, rfl, etp⟩ := dy.dt.pair_inv
      have ok : OkP (f ++ q)[i] := by
        have := List.getElem_mem hif
        rcases List.mem_append.mp this with z | z
        · exact okf _ z
        · exact okq _ z
      refine rd_gtup et rfl ?_
      walk_at "rd"
      refine ⟨tp, _, rfl, etp, ok, ?_⟩
      walk_at "rd"
      exact ⟨_, _, s4.trans s5, rfl⟩
    · rintro σ H' ⟨v4, v5, s4, rfl⟩
      have s14 := (s12.trans s3).trans s4
      walk_at "rd"
      refine rd_tupOfS (sf.mono s14) fun p1 H5 s5 ep1 => ?_
      walk_at "rd"
      refine rd_tupOfS (sp.mono (s14.trans s5)) fun p2 H6 s6 ep2 => ?_
      walk_at "rd"
      have s16 := (s14.trans s5).trans s6
      refine ⟨p1, p2, Int × Int, inferInstance, pairD, f, q, rfl, enc_pair, .tup (s6 _ _ ep1) (df.mono s16), .tup ep2 (dq.mono s16), hq, lf, lq, fun H7 t r1 r2 f' q' s7 et d1 d2 hq' hat => ?_⟩
      have s17 := s16.trans s7
      refine rd_gtup et rfl ?_
      refine rd_gcons ?_
      refine rd_gfld0 ?_
      walk_at "rd"
      refine rd_gfld (s17 _ _ eS) T.cl_Rule T.na_Rule_front (by decide) fun H8 e8 e8' => ?_
      refine rd_gcons ?_
      refine rd_gfld0 ?_
      walk_at "rd"
      refine rd_gfld e8' T.cl_Rule T.na_Rule_period (by show 1 < 1000; decide) fun H9 e9 e9' => ?_
      walk_at "rd"
      have hr := ruleAt_made (fs := []) (s17 _ _ eS) e8 e9 d1 d2
      have heq : atp f q = atp f' q' := by
        funext g
        rw [atp_atO, atp_atO, hat]
      exact k H9 (same_made (s0.trans s17) h0 e8 e9) ⟨f', q', hr, hq', heq, good_of hq okf okq⟩
end
end Sl

set_option Elab.async false
set_option linter.all false
set_option maxRecDepth 100000
set_option maxHeartbeats 4000000
namespace Sl
open PySem L2 C8 StX Silt
local macro_rules | `(tactic| walk_at "side") => `(tactic| first
  | exact cdivw (by omega) (by omega)
  | exact cmulw (by omega) (by omega) (by omega) (by omega)
  | exact Or.inr ⟨by omega, by omega⟩
  | exact Or.inl ⟨by omega, by omega⟩
  | omega
  | exact ⟨by omega, by omega, by decide⟩
  | decide)
local macro_rules | `(tactic| walk_at "rd1") => `(tactic| first
  | with_reducible refine rd_seq ?_
  | with_reducible refine rd_asg ?_
  | with_reducible refine rd_drop ?_
  | with_reducible refine rd_ret ?_
  | with_reducible refine rd_retN ?_
  | with_reducible refine rd_ifS ?_
  | ((with_reducible refine rd_var0 ?_); refine ⟨_, rfl, ?_⟩)
  | with_reducible refine rd_c ?_
  | with_reducible refine rd_op ?_
  | with_reducible refine rd_un ?_
  | with_reducible refine rd_I0 ?_
  | with_reducible refine rd_U ?_
  | ((with_reducible refine rd_I ?c ?_); (case c => walk_at "side"))
  | with_reducible refine rd_ipI ?_
  | with_reducible refine rd_eqI ?_
  | with_reducible refine rd_neI ?_
  | with_reducible refine rd_test ?_
  | with_reducible refine rd_tB ?_
  | with_reducible refine rd_bl ?_
  | with_reducible refine rd_not ?_
  | with_reducible refine rd_and ?_
  | with_reducible refine rd_or ?_
  | with_reducible refine rd_andV ?_
  | with_reducible refine rd_orV ?_
  | with_reducible refine rd_notV ?_
  | with_reducible refine rd_ifE ?_
  | with_reducible refine rd_chain ?_
  | with_reducible refine rd_chain3 ?_
  | with_reducible refine rd_nil ?_
  | with_reducible refine rd_cons ?_
  | with_reducible refine rd_call ?_
  | with_reducible refine rd_CB ?_
  | with_reducible refine rd_par ?_
  | with_reducible refine rd_par2 ?_
  | with_reducible refine rd_par3 ?_
  | with_reducible refine rd_par4 ?_
  | ((with_reducible refine rd_aug0 ?_); refine ⟨_, rfl, ?_⟩)
  | with_reducible refine rd_gname ?_
  | with_reducible refine rd_gcons ?_
  | with_reducible refine rd_gnil ?_
  | with_reducible refine rd_max ?_
  | with_reducible refine rd_min ?_
  | with_reducible refine rd_int1 ?_
  | with_reducible refine rd_abs ?_
  | with_reducible refine rd_lst ?_
  | with_reducible refine rd_tup ?_
  | with_reducible refine rd_bm ?_
  | with_reducible refine rd_fld0 ?_
  | with_reducible refine rd_sl0 ?_
  | with_reducible refine rd_noP ?_
  | with_reducible refine rd_part ?_
  | with_reducible refine rd_part2 ?_
  | with_reducible refine rd_meth0 ?_
  | with_reducible refine rd_star ?_
  | with_reducible refine rd_for ?_
  | with_reducible refine rd_rng1 ?_
  | with_reducible refine rd_rng2 ?_
  | with_reducible refine rd_rng3 ?_
  | with_reducible refine rd_iList ?_
  | with_reducible refine rd_iTup ?_
  | with_reducible refine rd_iEnum ?_
  | with_reducible refine rd_lc ?_
  | with_reducible refine rd_yes ?_
  | with_reducible refine rd_augS ?_
  | with_reducible refine rd_drawNew ?_
  | with_reducible refine rd_make0 ?_
  | with_reducible refine rd_next ?_
  | with_reducible refine rd_break ?_
  | with_reducible refine rd_cont ?_
  | with_reducible refine rd_iteTT ?_
  | with_reducible refine rd_iteFF ?_
  | with_reducible refine rd_iteNTT ?_
  | with_reducible refine rd_iteNFF ?_
  | with_reducible refine rd_con0 ?_
  | with_reducible refine rd_truO0 ?_
  | with_reducible refine rd_gfld0 ?_
  | with_reducible refine rd_dc ?_
  | with_reducible refine rd_iKeys ?_
  | with_reducible refine rd_dget0 ?_
  | with_reducible refine rd_dput0 ?_
  | with_reducible refine rd_dnot0 ?_
  | with_reducible refine rd_iEnumT ?_
  | with_reducible refine rd_raP0 ?_
  | with_reducible refine rd_xf0 ?_
  | with_reducible refine rd_cKw ?_
  | with_reducible refine rd_asgG ?_)
local macro_rules | `(tactic| walk_at "rd") => `(tactic| repeat walk_at "rd1")
local macro_rules | `(tactic| walk_at "len") => `(tactic| first
  | (intro vs H Q E h; obtain ⟨h2, _⟩ := h; rw [h2]; rfl)
  | (intro vs H Q E h; obtain ⟨_, h2, _⟩ := h; rw [h2]; rfl)
  | (intro vs H Q E h; obtain ⟨_, _, h2, _⟩ := h; rw [h2]; rfl)
  | (intro vs H Q E h; obtain ⟨_, _, _, h2, _⟩ := h; rw [h2]; rfl)
  | (intro vs H Q E h; obtain ⟨_, _, _, _, h2, _⟩ := h; rw [h2]; rfl)
  | (intro vs H Q E h; obtain ⟨_, _, _, _, _, h2, _⟩ := h; rw [h2]; rfl)
  | (intro vs H Q E h; obtain ⟨_, _, _, _, _, _, h2, _⟩ := h; rw [h2]; rfl)
  | (intro vs H Q E h; obtain ⟨_, _, _, _, _, _, _, h2, _⟩ := h; rw [h2]; rfl)
  | (intro vs H Q E h; obtain ⟨_, _, _, _, _, _, _, _, h2, _⟩ := h; rw [h2]; rfl)
  | (intro vs H Q E h; obtain ⟨_, _, _, _, _, _, _, _, _, h2, _⟩ := h; rw [h2]; rfl)
  | (intro vs H Q E h; obtain ⟨_, _, _, _, _, _, _, _, _, _, h2, _⟩ := h; rw [h2]; rfl)
  | (intro vs H Q E h; obtain ⟨_, _, _, _, _, _, _, _, _, _, _, h2, _⟩ := h; rw [h2]; rfl)
  | (intro vs H Q E h; obtain ⟨_, _, _, _, _, _, _, _, _, _, _, _, h2, _⟩ := h; rw [h2]; rfl))
/-- the weight of a grade -/
def wat (f q : List Int) : Nat → Int := fun g => (atO f q g).getD 0
def wsum (w : Nat → Int) : Nat → List Int → Int
  | _, [] => 0
  | k, x :: xs => w k * x + wsum w (k + 1) xs
def wl (w : Nat → Int) : Nat → List Int → List Int
  | _, [] => []
  | k, x :: xs => w k * x :: wl w (k + 1) xs
theorem wl_sum (w : Nat → Int) : ∀ (k : Nat) (xs : List Int), (wl w k xs).sum = wsum w k xs
  | _, [] => rfl
  | k, x :: xs => by simp only [wl, wsum, List.sum_cons, wl_sum w (k + 1) xs]
theorem wl_len (w : Nat → Int) : ∀ (k : Nat) (xs : List Int), (wl w k xs).length = xs.length
  | _, [] => rfl
  | k, x :: xs => by simp only [wl, List.length_cons, wl_len w (k + 1) xs]
theorem wl_take (w : Nat → Int) : ∀ (xs : List Int) (k i : Nat) (x : Int), xs[i]? = some x → wl w k (xs.take (i + 1)) = wl w k (xs.take i) ++ [w (k + i) * x]
  | [], _, _, _, h => by simp at h
  | y :: ys, k, 0, x, h => by simp at h; subst h; simp [wl]
  | y :: ys, k, i + 1, x, h => by
    have h' : ys[i]? = some x := by simpa using h
    show w k * y :: wl w (k + 1) (ys.take (i + 1)) = w k * y :: wl w (k + 1) (ys.take i) ++ [w (k + (i + 1)) * x]
    rw [wl_take w ys (k + 1) i x h', show k + 1 + i = k + (i + 1) by omega]
    rfl
theorem wsum_tl (w : Nat → Int) : ∀ (k : Nat) (xs : List Int), wsum w (k + 1) xs = wsum (fun g => w (g + 1)) k xs
  | _, [] => rfl
  | k, x :: xs => by simp only [wsum, wsum_tl w (k + 1) xs]
/-- weights -/
def WeiP (C : Addr) (H : Hp) (a : Addr) (w : Nat → Int) : Prop := ∃ f q, RuleAt C H a (intsD f) (intsD q) ∧ q ≠ [] ∧ w = wat f q ∧ ∀ g, -100 ≤ w g ∧ w g ≤ 100
theorem WeiP.mono {C : Addr} {H H' : Hp} {a : Addr} {w : Nat → Int} (s : Same H H') (h : WeiP C H a w) : WeiP C H' a w := by
  obtain ⟨f, q, h1, h2, h3, h4⟩ := h
  exact ⟨f, q, h1.mono s, h2, h3, h4⟩
theorem WeiP.ins {C : Addr} {H : Hp} {a : Addr} {w : Nat → Int} (h : WeiP C H a w) : ∃ dx t1 t2, H a = some (.ins C dx (rf t1 t2)) := by
  obtain ⟨_, _, ⟨dx, t1, t2, e, _, _⟩, _⟩ := h
  exact ⟨dx, t1, t2, e⟩
theorem Dt.int_inv {H : Hp} {v : V} {i : Int} (h : Dt H v (.int i)) : v = .int i := by cases h; rfl
theorem wat_bound {f q : List Int} (hq : q ≠ []) (hf : ∀ x ∈ f, -100 ≤ x ∧ x ≤ 100) (hp : ∀ x ∈ q, -100 ≤ x ∧ x ≤ 100) (g : Nat) : -100 ≤ wat f q g ∧ wat f q g ≤ 100 := by
  obtain ⟨x, e, hx⟩ := atO_some (f := f) hq g
  unfold wat
  rw [e]
  exact hx.elim (hf x) (hp x)
def spWGet (C : Addr) : Sp := fun vs H Q _ => ∃ (a : Addr) (w : Nat → Int) (g : Int), vs = [.ref a, .int g] ∧ WeiP C H a w ∧ 0 ≤ g ∧ Q (.int (w g.toNat)) H
def spChkW (C : Addr) : Sp := fun vs H Q _ => ∃ a w, vs = [.ref a] ∧ WeiP C H a w ∧ Q .non H
def spTotal (C : Addr) : Sp := fun vs H Q _ => ∃ (a t : Addr) (w : Nat → Int) (ds : List Int), vs = [.ref a, .ref t] ∧ WeiP C H a w ∧ H t = some (.lst (ds.map V.int)) ∧ (∀ x ∈ ds, 0 ≤ x ∧ x ≤ 12) ∧ ds.length ≤ 3000 ∧ ∀ H', Same H H' → Q (.int (wsum w 0 ds)) H'
def spWeighed (C D : Addr) : Sp := fun vs H Q _ => ∃ (a b : Addr) (p : Pr) (w : Nat → Int) (d : Int), vs = [.ref a, .ref b, .int d] ∧ RuleP C H a p ∧ WeiP D H b w ∧ Dy d ∧ ∀ H', Same H H' → Q (.int (wsum w 0 (digits p d))) H'
def spWei (C : Addr) : Sp := fun vs H Q _ => ∃ (self dx fl pl : Addr) (H0 : Hp) (f q : List Int), vs = [.ref self, .ref fl, .ref pl] ∧ Same H0 H ∧ H0 self = none ∧ H self = some (.ins C dx []) ∧
  H fl = some (.lst (f.map V.int)) ∧ H pl = some (.lst (q.map V.int)) ∧ f.length ≤ 6 ∧ q.length ≤ 6 ∧ q ≠ [] ∧ (∀ x ∈ f, -100 ≤ x ∧ x ≤ 100) ∧ (∀ x ∈ q, -100 ≤ x ∧ x ≤ 100) ∧
  ∀ H', Same H0 H' → WeiP C H' self (wat f q) → Q .non H'
section
variable {P : Program} {w : World} {K : PySem.W.Frag} {mg : Str → Option Value} {base : Heap} {C_Rule C_Evidence C_Good C_Bad C_InTime C_Late C_BadDay Lc__law_worked Lp__law_worked : Addr}
end
end Sl

set_option Elab.async false
set_option linter.all false
set_option maxRecDepth 100000
set_option maxHeartbeats 4000000
set_option exponentiation.threshold 9000
namespace Sl
open PySem L2 C8 StX Silt
local macro_rules | `(tactic| walk_at "side") => `(tactic| first
  | exact cdivw (by omega) (by omega)
  | exact cmulw (by omega) (by omega) (by omega) (by omega)
  | exact Or.inr ⟨by omega, by omega⟩
  | exact Or.inl ⟨by omega, by omega⟩
  | omega
  | exact ⟨by omega, by omega, by decide⟩
  | decide)
local macro_rules | `(tactic| walk_at "rd1") => `(tactic| first
  | with_reducible refine rd_seq ?_
  | with_reducible refine rd_asg ?_
  | with_reducible refine rd_drop ?_
  | with_reducible refine rd_ret ?_
  | with_reducible refine rd_retN ?_
  | with_reducible refine rd_ifS ?_
  | ((with_reducible refine rd_var0 ?_); refine ⟨_, rfl, ?_⟩)
  | with_reducible refine rd_c ?_
  | with_reducible refine rd_op ?_
  | with_reducible refine rd_un ?_
  | with_reducible refine rd_I0 ?_
  | with_reducible refine rd_U ?_
  | ((with_reducible refine rd_I ?c ?_); (case c => walk_at "side"))
  | with_reducible refine rd_ipI ?_
  | with_reducible refine rd_eqI ?_
  | with_reducible refine rd_neI ?_
  | with_reducible refine rd_test ?_
  | with_reducible refine rd_tB ?_
  | with_reducible refine rd_bl ?_
  | with_reducible refine rd_not ?_
  | with_reducible refine rd_and ?_
  | with_reducible refine rd_or ?_
  | with_reducible refine rd_andV ?_
  | with_reducible refine rd_orV ?_
  | with_reducible refine rd_notV ?_
  | with_reducible refine rd_ifE ?_
  | with_reducible refine rd_chain ?_
  | with_reducible refine rd_chain3 ?_
  | with_reducible refine rd_nil ?_
  | with_reducible refine rd_cons ?_
  | with_reducible refine rd_call ?_
  | with_reducible refine rd_CB ?_
  | with_reducible refine rd_par ?_
  | with_reducible refine rd_par2 ?_
  | with_reducible refine rd_par3 ?_
  | with_reducible refine rd_par4 ?_
  | ((with_reducible refine rd_aug0 ?_); refine ⟨_, rfl, ?_⟩)
  | with_reducible refine rd_gname ?_
  | with_reducible refine rd_gcons ?_
  | with_reducible refine rd_gnil ?_
  | with_reducible refine rd_max ?_
  | with_reducible refine rd_min ?_
  | with_reducible refine rd_int1 ?_
  | with_reducible refine rd_abs ?_
  | with_reducible refine rd_lst ?_
  | with_reducible refine rd_tup ?_
  | with_reducible refine rd_bm ?_
  | with_reducible refine rd_fld0 ?_
  | with_reducible refine rd_sl0 ?_
  | with_reducible refine rd_noP ?_
  | with_reducible refine rd_part ?_
  | with_reducible refine rd_part2 ?_
  | with_reducible refine rd_meth0 ?_
  | with_reducible refine rd_star ?_
  | with_reducible refine rd_for ?_
  | with_reducible refine rd_rng1 ?_
  | with_reducible refine rd_rng2 ?_
  | with_reducible refine rd_rng3 ?_
  | with_reducible refine rd_iList ?_
  | with_reducible refine rd_iTup ?_
  | with_reducible refine rd_iEnum ?_
  | with_reducible refine rd_lc ?_
  | with_reducible refine rd_yes ?_
  | with_reducible refine rd_augS ?_
  | with_reducible refine rd_drawNew ?_
  | with_reducible refine rd_make0 ?_
  | with_reducible refine rd_next ?_
  | with_reducible refine rd_break ?_
  | with_reducible refine rd_cont ?_
  | with_reducible refine rd_iteTT ?_
  | with_reducible refine rd_iteFF ?_
  | with_reducible refine rd_iteNTT ?_
  | with_reducible refine rd_iteNFF ?_
  | with_reducible refine rd_con0 ?_
  | with_reducible refine rd_truO0 ?_
  | with_reducible refine rd_gfld0 ?_
  | with_reducible refine rd_dc ?_
  | with_reducible refine rd_iKeys ?_
  | with_reducible refine rd_dget0 ?_
  | with_reducible refine rd_dput0 ?_
  | with_reducible refine rd_dnot0 ?_
  | with_reducible refine rd_iEnumT ?_
  | with_reducible refine rd_raP0 ?_
  | with_reducible refine rd_xf0 ?_
  | with_reducible refine rd_cKw ?_
  | with_reducible refine rd_asgG ?_)
local macro_rules | `(tactic| walk_at "rd") => `(tactic| repeat walk_at "rd1")
local macro_rules | `(tactic| walk_at "len") => `(tactic| first
  | (intro vs H Q E h; obtain ⟨h2, _⟩ := h; rw [h2]; rfl)
  | (intro vs H Q E h; obtain ⟨_, h2, _⟩ := h; rw [h2]; rfl)
  | (intro vs H Q E h; obtain ⟨_, _, h2, _⟩ := h; rw [h2]; rfl)
  | (intro vs H Q E h; obtain ⟨_, _, _, h2, _⟩ := h; rw [h2]; rfl)
  | (intro vs H Q E h; obtain ⟨_, _, _, _, h2, _⟩ := h; rw [h2]; rfl)
  | (intro vs H Q E h; obtain ⟨_, _, _, _, _, h2, _⟩ := h; rw [h2]; rfl)
  | (intro vs H Q E h; obtain ⟨_, _, _, _, _, _, h2, _⟩ := h; rw [h2]; rfl)
  | (intro vs H Q E h; obtain ⟨_, _, _, _, _, _, _, h2, _⟩ := h; rw [h2]; rfl)
  | (intro vs H Q E h; obtain ⟨_, _, _, _, _, _, _, _, h2, _⟩ := h; rw [h2]; rfl)
  | (intro vs H Q E h; obtain ⟨_, _, _, _, _, _, _, _, _, h2, _⟩ := h; rw [h2]; rfl)
  | (intro vs H Q E h; obtain ⟨_, _, _, _, _, _, _, _, _, _, h2, _⟩ := h; rw [h2]; rfl)
  | (intro vs H Q E h; obtain ⟨_, _, _, _, _, _, _, _, _, _, _, h2, _⟩ := h; rw [h2]; rfl)
  | (intro vs H Q E h; obtain ⟨_, _, _, _, _, _, _, _, _, _, _, _, h2, _⟩ := h; rw [h2]; rfl))
theorem dd_far : (10 : Int) ^ 30 ≤ DD := by
  have h : (10 : Nat) ^ 30 ≤ DDn := by
    unfold DDn
    have e : (2 : Nat) ^ 2000 = 2 ^ 100 * 2 ^ 1900 := Nat.pow_add 2 100 1900
    have h1 : (1 : Nat) ≤ 2 ^ 1900 := Nat.pow_pos (by decide)
    have h2 : (10 : Nat) ^ 30 ≤ 2 ^ 100 := by decide
    rw [e]
    exact Nat.le_trans h2 (Nat.le_mul_of_pos_right _ h1)
  unfold DD
  exact Int.ofNat_le.mpr h
/-- a list to draw from stands at a -/
def DrawP (K : PySem.W.Frag) (H : Hp) (a : Addr) : Prop := ∃ (sc : Addr) (ns : List Int), H a = some (DrawO a sc) ∧ SqL K H sc (ns.map V.int)
theorem DrawP.mono {K : PySem.W.Frag} {H H' : Hp} {a : Addr} (s : Same H H') (h : DrawP K H a) : DrawP K H' a := by
  obtain ⟨sc, ns, e, q⟩ := h
  exact ⟨sc, ns, s _ _ e, L2.Same.seq s q⟩
theorem rd_ixSq {K : PySem.W.Frag} {H : Hp} {Q : VK} {a : Addr} {xs : List V} {j : Int} {v : V} (e : SqL K H a xs) (n : atI xs j = some v) (h : Q v H) : rIxL K (.ref a) (.int j) H Q := ⟨a, xs, j, v, rfl, rfl, e, n, h⟩
theorem fmod_pos {i j : Int} (h : 0 < j) : 0 ≤ i.fmod j ∧ i.fmod j < j := by
  rw [Int.fmod_eq_emod_of_nonneg _ (by omega)]
  exact ⟨Int.emod_nonneg _ (by omega), Int.emod_lt_of_pos _ h⟩
def spNumber (K : PySem.W.Frag) : Sp := fun vs H Q _ => ∃ (sc : Addr) (ns : List Int) (i : Int), vs = [.ref sc, .int i] ∧ SqL K H sc (ns.map V.int) ∧ ∀ H' n, Same H H' → Q (.int n) H'
def spTake (K : PySem.W.Frag) : Sp := fun vs H Q _ => ∃ (a : Addr) (m : Int), vs = [.ref a, .int m] ∧ DrawP K H a ∧ 0 < m ∧ ∀ H' n, Same H H' → 0 ≤ n → n < m → Q (.int n) H'
def spPick (K : PySem.W.Frag) : Sp := fun vs H Q _ => ∃ (a t : Addr) (xs : List V), vs = [.ref a, .ref t] ∧ DrawP K H a ∧ H t = some (.lst xs) ∧ xs ≠ [] ∧ ∀ H' (i : Nat) x, Same H H' → xs[i]? = some x → Q x H'
def spDPair (K : PySem.W.Frag) : Sp := fun vs H Q _ => ∃ (a : Addr), vs = [.ref a] ∧ DrawP K H a ∧ ∀ H' t q, Same H H' → OkP q → H' t = some (.tup [.int q.1, .int q.2]) → Q (.ref t) H'
/-- a told rule: a tuple of two lists of pairs -/
def ToldP (H : Hp) (t : Addr) (f q : List (Int × Int)) : Prop := ∃ l1 l2 xs1 xs2, H t = some (.tup [.ref l1, .ref l2]) ∧ H l1 = some (.lst xs1) ∧ H l2 = some (.lst xs2) ∧ DnAll H xs1 (pairsD f) ∧ DnAll H xs2 (pairsD q)
theorem ToldP.mono {H H' : Hp} {t : Addr} {f q : List (Int × Int)} (s : Same H H') (h : ToldP H t f q) : ToldP H' t f q := by
  obtain ⟨l1, l2, xs1, xs2, h1, h2, h3, h4, h5⟩ := h
  exact ⟨l1, l2, xs1, xs2, s _ _ h1, s _ _ h2, s _ _ h3, h4.mono s, h5.mono s⟩
/-- what is drawn may be told -/
structure OkT (f q : List (Int × Int)) : Prop where
  f2 : f.length ≤ 2
  q2 : q.length ≤ 2
  ne : q ≠ []
  okf : ∀ x ∈ f, OkP x
  okq : ∀ x ∈ q, OkP x
def spDRule (K : PySem.W.Frag) : Sp := fun vs H Q _ => ∃ (a : Addr), vs = [.ref a] ∧ DrawP K H a ∧ ∀ H' t f q, Same H H' → OkT f q → ToldP H' t f q → Q (.ref t) H'
def spFar (K : PySem.W.Frag) : Sp := fun vs H Q _ => ∃ (a : Addr), vs = [.ref a] ∧ DrawP K H a ∧ ∀ H' n, Same H H' → 0 ≤ n → n ≤ 10 ^ 21 → Q (.int n) H'
def spAt : Sp := fun vs H Q _ => ∃ (a : Addr) (f q : List (Int × Int)) (g : Int), vs = [.ref a, .int g] ∧ ToldP H a f q ∧ q ≠ [] ∧ 0 ≤ g ∧ ∀ t, H t = some (.tup [.int (atp f q g.toNat).1, .int (atp f q g.toNat).2]) → Q (.ref t) H
def spTail : Sp := fun vs H Q _ => ∃ (a : Addr) (f q : List (Int × Int)), vs = [.ref a] ∧ ToldP H a f q ∧ OkT f q ∧ ∀ H' t f' q', Same H H' → OkT f' q' → (∀ g, atp f' q' g = atp f q (g + 1)) → ToldP H' t f' q' → Q (.ref t) H'
theorem cut_drop1 {xs : List V} : cutV xs (some 1) none = xs.drop 1 := by
  unfold cutV
  rw [HT.sIx_none, show (1 : Int) = ((1 : Nat) : Int) from rfl, HT.sIx_nat]
  by_cases c : 1 ≤ xs.length
  · rw [Nat.min_eq_left c, List.take_of_length_le (by rw [List.length_drop]; omega)]
  · rw [Nat.min_eq_right (by omega), List.drop_of_length_le (Nat.le_refl _), List.drop_of_length_le (by omega)]
    simp
theorem DnAll.drop {H : Hp} : ∀ {vs : List V} {ds : List PyData} (n : Nat), DnAll H vs ds → DnAll H (vs.drop n) (ds.drop n)
  | _, _, 0, r => r
  | _, _, _ + 1, .nil => .nil
  | _, _, n + 1, .cons _ t => DnAll.drop n t
theorem atO_rot (q : List (Int × Int)) (g : Nat) : atO [] (q.drop 1 ++ q.take 1) g = atO [] q (g + 1) := by
  cases q with
  | nil => rfl
  | cons x r =>
    rw [atO_turn [] r x (g + 1)]
    show atO [] (r ++ [x]) g = atO [x] (r ++ [x]) (g + 1)
    unfold atO
    rw [if_neg (by simp), if_neg (by simp)]
    rfl
theorem atp_rot (q : List (Int × Int)) (g : Nat) : atp [] (q.drop 1 ++ q.take 1) g = atp [] q (g + 1) := by rw [atp_atO, atp_atO, atO_rot]
theorem atp_drop {f q : List (Int × Int)} (hf : f ≠ []) (g : Nat) : atp (f.drop 1) q g = atp f q (g + 1) := by
  rw [atp_atO, atp_atO]
  congr 1
  cases f with
  | nil => exact absurd rfl hf
  | cons x r =>
    show atO r q g = atO (x :: r) q (g + 1)
    unfold atO
    rw [List.length_cons]
    by_cases c : g < r.length
    · rw [if_pos c, if_pos (by omega), List.getElem?_cons_succ]
    · rw [if_neg c, if_neg (by omega)]
      congr 2
      omega
section
variable {P : Program} {w : World} {K : PySem.W.Frag} {mg : Str → Option Value} {base : Heap} {C_Rule C_Evidence C_Good C_Bad C_InTime C_Late C_BadDay Lc__law_worked Lp__law_worked : Addr}
theorem cal__law_number (T : TX K mg C_Rule C_Evidence C_Good C_Bad C_InTime C_Late C_BadDay Lc__law_worked Lp__law_worked) : Cal P w K mg base 1 "_law_number" (spNumber K) [] := by
  obtain ⟨f0, fd, D, dn⟩ := T.d__law_number
  refine cal0 D (D.fn.binds dn fun _ _ _ _ _ _ us hl => match us, hl with | [_, _], _ => rfl) .nil sc__law_number (by walk_at "len") (fun cdv A outer s H vs Q E hr h => ?_)
  obtain ⟨sc, ns, i, rfl, hS, k⟩ := h
  refine ⟨_, (pss_cons (ps_if (pt_cmpR (op_eqD hr.units) (pv 0) (pe_lst pa_nil) (nomark _)) (pss_one (ps_ret (pe_callTy cr_int1 (by rfl) T.b_int (by decide +kernel) (pa_cons (pe_op op_modN (pe_op op_add (pe_op op_mul (pv 1) pe_int) pe_int) pe_int) pa_nil)))) pss_nil)
      (pss_cons (ps_s 2 sc__law_number.nd (pe_ix ix_list (pv 0) (pe_op op_modN (pv 1) (pe_callB cr_lenS (by rfl) T.b_len (by decide +kernel) (pa_cons (pv 0) pa_nil))) (fun _ _ => rfl)))
      (pss_cut (ps_if (pt_cmpR op_ge (pe_callB cr_abs (by rfl) T.b_abs (by decide +kernel) (pa_cons (pv 2) pa_nil)) (pe_op op_pow pe_int pe_int) (nomark _)) (pss_one (ps_s 2 sc__law_number.nd (pe_op op_modN (pv 2) (pe_op op_pow pe_int pe_int)))) pss_nil)
      (pss_cons (ps_s 3 sc__law_number.nd (pe_op op_modN (pe_op op_add (pe_op op_mul (pe_op op_add (pv 2) (pe_op op_mul pe_int (pv 1))) pe_int) (pe_op op_mul pe_int (pe_callB cr_lenS (by rfl) T.b_len (by decide +kernel) (pa_cons (pv 0) pa_nil)))) pe_int))
      (pss_one (ps_ret (pe_callTy cr_int1 (by rfl) T.b_int (by decide +kernel) (pa_cons (pe_op op_modN (pe_op op_add (pe_op op_mul (pe_op op_modN (pe_op op_mul (pv 3) pe_int) pe_int) pe_int) (pv 1)) pe_int) pa_nil)))))))), ?_⟩
  walk_at "rd"
  refine rd_newL (by decide) fun u H1 _ s1 eu _ => ?_
  refine ⟨.list (intsD ns), .list [], .lst (L2.Same.seq s1 hS) (DtAll.intsD ns).dp, .lst (SqL.of eu) .nil, shaped_ints ns, by decide, ?_⟩
  rw [eqv_nil]
  walk_at "rd"
  refine rd_ite (fun c => ?_) (fun c => ?_)
  · walk_at "rd"
    exact k _ _ s1
  · have hns : ns ≠ [] := fun z => c (by rw [z]; rfl)
    have hl : 0 < ns.length := List.length_pos_iff.mpr hns
    walk_at "rd"
    refine rd_lenSq (L2.Same.seq s1 hS) ?_
    rw [List.length_map]
    walk_at "rd"
    have fm := fmod_pos (i := i) (j := (ns.length : Int)) (by omega)
    obtain ⟨n, hn⟩ : ∃ n : Nat, i.fmod (ns.length : Int) = n := ⟨(i.fmod (ns.length : Int)).toNat, by omega⟩
    rw [hn]
    refine rd_ixSq (L2.Same.seq s1 hS) (v := .int (ns[n]'(by omega))) (atI_nat' (by rw [List.getElem?_map, List.getElem?_eq_getElem (by omega : n < ns.length)]; rfl)) ?_
    generalize ns[n]'(by omega) = c0
    refine ⟨fun σ' H' => ∃ c : Int, Same H H' ∧ σ' = [some (.ref sc), some (.int i), some (.int c), none], ?_, ?_⟩
    · walk_at "rd"
      refine rd_ite (fun c => ?_) (fun c => ?_)
      · walk_at "rd"
        exact ⟨_, s1, rfl⟩
      · walk_at "rd"
        exact ⟨_, s1, rfl⟩
    · rintro σ' H2 ⟨c, s2, rfl⟩
      walk_at "rd"
      refine rd_lenSq (L2.Same.seq s2 hS) ?_
      walk_at "rd"
      exact k _ _ s2
theorem cal__law_take (T : TX K mg C_Rule C_Evidence C_Good C_Bad C_InTime C_Late C_BadDay Lc__law_worked Lp__law_worked) : Cal P w K mg base 2 "_law_take" (spTake K) [] := by
  obtain ⟨f0, fd, D, dn⟩ := T.d__law_take
  have G__law_number := cal__law_number (P := P) (w := w) (base := base) T
  refine cal0 D (D.fn.binds dn fun _ _ _ _ _ _ us hl => match us, hl with | [_, _], _ => rfl) .nil sc__law_take (by walk_at "len") (fun cdv A outer s H vs Q E hr h => ?_)
  obtain ⟨a, m, rfl, ⟨sc, ns, e, hS⟩, hm, k⟩ := h
  refine ⟨_, (pss_cons (ps_augS (pv 0) pe_int get_draw1 pe_int ip_add set_draw1)
      (pss_one (ps_ret (pe_op op_modN (pe_callTy cr_int1 (by rfl) T.b_int (by decide +kernel) (pa_cons (pe_c G__law_number hr (by decide) rfl (pa_cons (pe_ix ix_draw0 (pv 0) pe_int (fun _ _ => rfl)) (pa_cons (pe_callTy cr_int1 (by rfl) T.b_int (by decide +kernel) (pa_cons (pe_ix ix_draw1 (pv 0) pe_int (fun _ _ => rfl)) pa_nil)) pa_nil))) pa_nil)) (pv 1))))), ?_⟩
  walk_at "rd"
  refine rd_draw1 e fun i => ?_
  walk_at "rd"
  refine rd_setDraw1 e ?_
  walk_at "rd"
  refine rd_draw0 e ?_
  walk_at "rd"
  refine rd_draw1 e fun i => ?_
  walk_at "rd"
  refine ⟨sc, ns, _, rfl, hS, fun H' n s => ?_⟩
  walk_at "rd"
  have fm := fmod_pos (i := n) hm
  exact k H' _ s fm.1 fm.2
theorem cal__law_pick (T : TX K mg C_Rule C_Evidence C_Good C_Bad C_InTime C_Late C_BadDay Lc__law_worked Lp__law_worked) : Cal P w K mg base 3 "_law_pick" (spPick K) [] := by
  obtain ⟨f0, fd, D, dn⟩ := T.d__law_pick
  have G__law_take := cal__law_take (P := P) (w := w) (base := base) T
  refine cal0 D (D.fn.binds dn fun _ _ _ _ _ _ us hl => match us, hl with | [_, _], _ => rfl) .nil sc__law_pick (by walk_at "len") (fun cdv A outer s H vs Q E hr h => ?_)
  obtain ⟨a, t, xs, rfl, hd, et, hne, k⟩ := h
  have hl : 0 < xs.length := List.length_pos_iff.mpr hne
  refine ⟨_, (pss_one (ps_ret (pe_ix ix_list (pv 1) (pe_c G__law_take hr (by decide) rfl (pa_cons (pv 0) (pa_cons (pe_callB cr_lenS (by rfl) T.b_len (by decide +kernel) (pa_cons (pv 1) pa_nil)) pa_nil))) (fun _ _ => rfl)))), ?_⟩
  walk_at "rd"
  refine rd_lenL et ?_
  walk_at "rd"
  refine ⟨a, _, rfl, hd, by omega, fun H' n s n0 n1 => ?_⟩
  obtain ⟨j, rfl⟩ : ∃ j : Nat, n = j := ⟨n.toNat, by omega⟩
  have hj : j < xs.length := by omega
  refine rd_ixL (s _ _ et) (atI_nat' (List.getElem?_eq_getElem hj)) ?_
  exact k H' j _ s (List.getElem?_eq_getElem hj)
theorem cal__law_pair (T : TX K mg C_Rule C_Evidence C_Good C_Bad C_InTime C_Late C_BadDay Lc__law_worked Lp__law_worked) : Cal P w K mg base 4 "_law_pair" (spDPair K) [] := by
  obtain ⟨f0, fd, D, dn⟩ := T.d__law_pair
  have G__law_take := cal__law_take (P := P) (w := w) (base := base) T
  have G__law_pick := cal__law_pick (P := P) (w := w) (base := base) T
  refine cal0 D (D.fn.binds dn fun _ _ _ _ _ _ us hl => match us, hl with | [_], _ => rfl) .nil sc__law_pair (by walk_at "len") (fun cdv A outer s H vs Q E hr h => ?_)
  obtain ⟨a, rfl, hd, k⟩ := h
  refine ⟨_, (pss_cons (ps_s 1 sc__law_pair.nd (pe_op op_add pe_int (pe_c G__law_take hr (by decide) rfl (pa_cons (pv 0) (pa_cons pe_int pa_nil)))))
      (pss_one (ps_ret (pe_tup (pa_cons (pe_op op_add (pv 1) (pe_c G__law_pick hr (by decide) rfl (pa_cons (pv 0) (pa_cons (pe_lst (pa_cons pe_int (pa_cons pe_int (pa_cons pe_int (pa_cons pe_int pa_nil))))) pa_nil)))) (pa_cons (pv 1) pa_nil)))))), ?_⟩
  walk_at "rd"
  refine ⟨a, 3, rfl, hd, by decide, fun H1 n s1 n0 n1 => ?_⟩
  walk_at "rd"
  refine rd_newL (by simp) fun u H2 _ s2 eu _ => ?_
  walk_at "rd"
  refine ⟨a, u, _, rfl, hd.mono (s1.trans s2), eu, by simp, fun H3 i x s3 hx => ?_⟩
  obtain ⟨z, rfl, z0, z1⟩ : ∃ z : Int, x = .int z ∧ 0 ≤ z ∧ z ≤ 2 := by
    match i, hx with
    | 0, hx => cases hx; exact ⟨0, rfl, by decide, by decide⟩
    | 1, hx => cases hx; exact ⟨0, rfl, by decide, by decide⟩
    | 2, hx => cases hx; exact ⟨1, rfl, by decide, by decide⟩
    | 3, hx => cases hx; exact ⟨2, rfl, by decide, by decide⟩
    | i + 4, hx => simp at hx
  walk_at "rd"
  refine rd_newT (by simp) fun t H4 _ s4 et _ => ?_
  exact k H4 t (2 + n + z, 2 + n) (((s1.trans s2).trans s3).trans s4) ⟨by omega, by omega, by omega⟩ et
theorem cal__law_rule (T : TX K mg C_Rule C_Evidence C_Good C_Bad C_InTime C_Late C_BadDay Lc__law_worked Lp__law_worked) : Cal P w K mg base 5 "_law_rule" (spDRule K) [] := by
  obtain ⟨f0, fd, D, dn⟩ := T.d__law_rule
  have G__law_pick := cal__law_pick (P := P) (w := w) (base := base) T
  have G__law_pair := cal__law_pair (P := P) (w := w) (base := base) T
  refine cal0 D (D.fn.binds dn fun _ _ _ _ _ _ us hl => match us, hl with | [_], _ => rfl) .nil sc__law_rule (by walk_at "len") (fun cdv A outer s H vs Q E hr h => ?_)
  obtain ⟨a, rfl, hd, k⟩ := h
  refine ⟨_, (pss_cons (ps_setLc (i := 1) (own := [("_law_turn", 2)]) (g := gName 2) (tt := tYes) rfl sc__law_rule.nd rfl rfl (sw_true rfl rfl rfl (by decide +kernel)) (pi_range1 rfl T.b_range (pa_cons (pe_c G__law_pick hr (by decide) rfl (pa_cons (pv 0) (pa_cons (pe_lst (pa_cons pe_int (pa_cons pe_int (pa_cons pe_int (pa_cons pe_int pa_nil))))) pa_nil))) pa_nil)) (blkOk_by (own := [("_law_turn", 2)]) (N := N__law_rule) (sc := fnScope s__law_rule) (by decide +kernel)) (fun _ _ _ _ _ => (pg_n 2 sc__law_rule.nd)) (fun _ _ _ _ _ => pts_nil) (fun _ _ _ _ _ => (pe_c G__law_pair hr (by decide) rfl (pa_cons (pv 0) pa_nil))))
      (pss_one (ps_ret (pe_tup (pa_cons (pv 1) (pa_cons (pe_lc (own := [("_law_turn", 2)]) (g := gName 2) (tt := tYes) rfl sc__law_rule.nd (pi_range1 rfl T.b_range (pa_cons (pe_op op_add pe_int (pe_c G__law_pick hr (by decide) rfl (pa_cons (pv 0) (pa_cons (pe_lst (pa_cons pe_int (pa_cons pe_int (pa_cons pe_int pa_nil)))) pa_nil)))) pa_nil)) (blkOk_by (own := [("_law_turn", 2)]) (N := N__law_rule) (sc := fnScope s__law_rule) (by decide +kernel)) (fun _ _ _ _ _ => (pg_n 2 sc__law_rule.nd)) (fun _ _ _ _ _ => pts_nil) (fun _ _ _ _ _ => (pe_c G__law_pair hr (by decide) rfl (pa_cons (pv 0) pa_nil)))) pa_nil)))))), ?_⟩
  walk_at "rd"
  refine rd_newL (by simp) fun u H1 _ s1 eu _ => ?_
  walk_at "rd"
  refine ⟨a, u, _, rfl, hd.mono s1, eu, by simp, fun H2 i x s2 hx => ?_⟩
  obtain ⟨z, rfl, z1⟩ : ∃ z : Nat, x = .int z ∧ z ≤ 2 := by
    match i, hx with
    | 0, hx => cases hx; exact ⟨0, rfl, by decide⟩
    | 1, hx => cases hx; exact ⟨0, rfl, by decide⟩
    | 2, hx => cases hx; exact ⟨1, rfl, by decide⟩
    | 3, hx => cases hx; exact ⟨2, rfl, by decide⟩
    | i + 4, hx => simp at hx
  walk_at "rd"
  have s12 := s1.trans s2
  refine rd_rgR1 (by omega) (by omega) ?_
  rw [Int.toNat_natCast]
  refine lcR_rng (fun D i H' => ∃ (l : List V) (f : List (Int × Int)), Same H2 H' ∧ H' D = some (.lst l) ∧ f.length = i ∧ (∀ x ∈ f, OkP x) ∧ DnAll H' l (pairsD f)) (fun D H' _ s e _ => ⟨[], [], s, e, rfl, by simp, .nil⟩) ?_ ?_
  · rintro D i H' hD hi ⟨l, f, s3, eD, hl, okf, df⟩
    walk_at "rd"
    refine ⟨rfl, ?_⟩
    walk_at "rd"
    refine ⟨a, rfl, hd.mono (s12.trans s3), fun H4 t q s4 okq et => ?_⟩
    refine rd_lcE (s4 _ _ eD) (by rw [df.length]; simp [pairsD]; omega) fun H5 eH e5 => ?_
    refine ⟨_, f ++ [q], by rw [eH]; exact Same.mut (s3.trans s4) hD, e5, by simp [hl], ?_, ?_⟩
    · intro x hx
      rcases List.mem_append.mp hx with h | h
      · exact okf x h
      · rw [List.mem_singleton.mp h]; exact okq
    · rw [eH]
      unfold pairsD
      rw [List.map_append]
      exact DnAll.updL (s4 _ _ eD) ((df.mono s4).append (.cons (.pair et) .nil))
  · rintro D H3 hD ⟨l, f, s3, eD, hl, okf, df⟩
    have s13 := s12.trans s3
    walk_at "rd"
    refine rd_newL (by simp) fun u2 H4 _ s4 eu2 _ => ?_
    walk_at "rd"
    have s14 := s13.trans s4
    refine ⟨a, u2, _, rfl, hd.mono s14, eu2, by simp, fun H5 i2 x2 s5 hx2 => ?_⟩
    obtain ⟨z2, rfl, z21⟩ : ∃ z : Nat, x2 = .int z ∧ z ≤ 1 := by
      match i2, hx2 with
      | 0, hx => cases hx; exact ⟨0, rfl, by decide⟩
      | 1, hx => cases hx; exact ⟨0, rfl, by decide⟩
      | 2, hx => cases hx; exact ⟨1, rfl, by decide⟩
      | i + 3, hx => simp at hx
    walk_at "rd"
    have s15 := s14.trans s5
    refine rd_rgR1 (by omega) (by omega) ?_
    have e1z : ((1 : Int) + (z2 : Int)).toNat = 1 + z2 := by omega
    rw [e1z]
    refine lcR_rng (fun D2 i H' => ∃ (l2 : List V) (q : List (Int × Int)), Same H5 H' ∧ H' D2 = some (.lst l2) ∧ q.length = i ∧ (∀ x ∈ q, OkP x) ∧ DnAll H' l2 (pairsD q)) (fun D2 H' _ s e _ => ⟨[], [], s, e, rfl, by simp, .nil⟩) ?_ ?_
    · rintro D2 i H' hD2 hi ⟨l2, q, s6, eD2, hl2, okq, dq⟩
      walk_at "rd"
      refine ⟨rfl, ?_⟩
      walk_at "rd"
      refine ⟨a, rfl, hd.mono (s15.trans s6), fun H7 t q2 s7 okq2 et => ?_⟩
      refine rd_lcE (s7 _ _ eD2) (by rw [dq.length]; simp [pairsD]; omega) fun H8 eH e8 => ?_
      refine ⟨_, q ++ [q2], by rw [eH]; exact Same.mut (s6.trans s7) hD2, e8, by simp [hl2], ?_, ?_⟩
      · intro x hx
        rcases List.mem_append.mp hx with h | h
        · exact okq x h
        · rw [List.mem_singleton.mp h]; exact okq2
      · rw [eH]
        unfold pairsD
        rw [List.map_append]
        exact DnAll.updL (s7 _ _ eD2) ((dq.mono s7).append (.cons (.pair et) .nil))
    · rintro D2 H6 hD2 ⟨l2, q, s6, eD2, hl2, okq, dq⟩
      walk_at "rd"
      refine rd_newT (by simp) fun t H7 _ s7 et _ => ?_
      have s37 := ((s4.trans s5).trans s6).trans s7
      refine k H7 t f q ((s15.trans s6).trans s7) ⟨by omega, by omega, fun z => by rw [z] at hl2; simp at hl2; omega, okf, okq⟩ ⟨D, D2, l, l2, et, s37 _ _ eD, s7 _ _ eD2, df.mono s37, dq.mono s7⟩
theorem cal__law_far (T : TX K mg C_Rule C_Evidence C_Good C_Bad C_InTime C_Late C_BadDay Lc__law_worked Lp__law_worked) : Cal P w K mg base 4 "_law_far" (spFar K) [] := by
  obtain ⟨f0, fd, D, dn⟩ := T.d__law_far
  have G__law_take := cal__law_take (P := P) (w := w) (base := base) T
  have G__law_pick := cal__law_pick (P := P) (w := w) (base := base) T
  refine cal0 D (D.fn.binds dn fun _ _ _ _ _ _ us hl => match us, hl with | [_], _ => rfl) .nil sc__law_far (by walk_at "len") (fun cdv A outer s H vs Q E hr h => ?_)
  obtain ⟨a, rfl, hd, k⟩ := h
  have b7 := bb_pos
  refine ⟨_, (pss_one (ps_ret (pe_op op_add (pe_c G__law_take hr (by decide) rfl (pa_cons (pv 0) (pa_cons pe_int pa_nil))) (pe_op op_mulW (pe_c G__law_pick hr (by decide) rfl (pa_cons (pv 0) (pa_cons (pe_lst (pa_cons (pe_op op_pow pe_int pe_int) (pa_cons (pe_op op_pow pe_int pe_int) (pa_cons (pe_op op_pow pe_int pe_int) (pa_cons (pe_op op_pow pe_int pe_int) pa_nil))))) pa_nil))) (pe_op op_add pe_int (pe_c G__law_take hr (by decide) rfl (pa_cons (pv 0) (pa_cons pe_int pa_nil)))))))), ?_⟩
  walk_at "rd"
  refine ⟨a, _, rfl, hd, by decide, fun H1 n s1 n0 n1 => ?_⟩
  walk_at "rd"
  refine rd_newL (by simp) fun u H2 _ s2 eu _ => ?_
  walk_at "rd"
  refine ⟨a, u, _, rfl, hd.mono (s1.trans s2), eu, by simp, fun H3 i x s3 hx => ?_⟩
  obtain ⟨z, rfl, z0, z1⟩ : ∃ z : Int, x = .int z ∧ 0 ≤ z ∧ z ≤ 10 ^ 18 := by
    match i, hx with
    | 0, hx => cases hx; exact ⟨_, rfl, by decide, by decide⟩
    | 1, hx => cases hx; exact ⟨_, rfl, by decide, by decide⟩
    | 2, hx => cases hx; exact ⟨_, rfl, by decide, by decide⟩
    | 3, hx => cases hx; exact ⟨_, rfl, by decide, by decide⟩
    | i + 4, hx => simp at hx
  walk_at "rd"
  refine ⟨a, _, rfl, hd.mono ((s1.trans s2).trans s3), by decide, fun H4 n2 s4 n20 n21 => ?_⟩
  walk_at "rd"
  have hz : z * (1 + n2) ≤ 10 ^ 18 * 100 := Int.mul_le_mul z1 (by omega) (by omega) (by decide)
  have hz0 : 0 ≤ z * (1 + n2) := Int.mul_nonneg z0 (by omega)
  have b8 := dd_far
  have b9 := dd_bb
  refine rd_I (cmulw (by omega) (by omega) (by omega) (by omega)) ?_
  walk_at "rd"
  exact k H4 _ (((s1.trans s2).trans s3).trans s4) (by omega) (by omega)
theorem cal__law_at (T : TX K mg C_Rule C_Evidence C_Good C_Bad C_InTime C_Late C_BadDay Lc__law_worked Lp__law_worked) : Cal P w K mg base 1 "_law_at" spAt [] := by
  obtain ⟨f0, fd, D, dn⟩ := T.d__law_at
  refine cal0 D (D.fn.binds dn fun _ _ _ _ _ _ us hl => match us, hl with | [_, _], _ => rfl) .nil sc__law_at (by walk_at "len") (fun cdv A outer s H vs Q E hr h => ?_)
  obtain ⟨a, f, q, g, rfl, ⟨l1, l2, xs1, xs2, ea, e1, e2, d1, d2⟩, hq, hg, k⟩ := h
  have q0 : 0 < q.length := List.length_pos_iff.mpr hq
  have n1 : xs1.length = f.length := by rw [d1.length]; simp [pairsD]
  have n2 : xs2.length = q.length := by rw [d2.length]; simp [pairsD]
  obtain ⟨n, rfl⟩ : ∃ n : Nat, g = n := ⟨g.toNat, by omega⟩
  rw [Int.toNat_natCast] at k
  refine ⟨_, (pss_cons (ps_asg (pv 0) (pg_tup rfl (pgs_cons (pg_n 2 sc__law_at.nd) (pgs_cons (pg_n 3 sc__law_at.nd) pgs_nil))))
      (pss_one (ps_ret (pe_ifExp (pt_cmpR op_lt (pv 1) (pe_callB cr_lenS (by rfl) T.b_len (by decide +kernel) (pa_cons (pv 2) pa_nil)) (nomark _)) (pe_ix ix_list (pv 2) (pv 1) (fun _ _ => rfl)) (pe_ix ix_list (pv 3) (pe_op op_modN (pe_callTy cr_int1 (by rfl) T.b_int (by decide +kernel) (pa_cons (pe_op op_sub (pv 1) (pe_callB cr_lenS (by rfl) T.b_len (by decide +kernel) (pa_cons (pv 2) pa_nil))) pa_nil)) (pe_callB cr_lenS (by rfl) T.b_len (by decide +kernel) (pa_cons (pv 3) pa_nil))) (fun _ _ => rfl)))))), ?_⟩
  walk_at "rd"
  refine rd_gtup ea rfl ?_
  walk_at "rd"
  refine rd_lenL e1 ?_
  walk_at "rd"
  refine rd_ite (fun c => ?_) (fun c => ?_)
  · walk_at "rd"
    have hn : n < f.length := by omega
    obtain ⟨v, hv, dv⟩ := d1.get (i := n) (d := pairD (f[n])) (by simp [pairsD, hn])
    obtain ⟨t, rfl, et⟩ := dv.dt.pair_inv
    refine rd_ixL e1 (atI_nat' hv) (k t ?_)
    rw [et]
    simp [atp, hn, List.getD_eq_getElem?_getD]
  · walk_at "rd"
    refine rd_lenL e1 ?_
    walk_at "rd"
    refine rd_lenL e2 ?_
    walk_at "rd"
    have hn : ¬ n < f.length := by omega
    have hm : ((n : Int) - (xs1.length : Int)).fmod (xs2.length : Int) = (((n - f.length) % q.length : Nat) : Int) := by
      rw [n1, n2, Int.fmod_eq_emod_of_nonneg _ (by omega)]
      rw [show (n : Int) - (f.length : Int) = ((n - f.length : Nat) : Int) by omega]
      exact (Int.natCast_emod _ _).symm
    rw [hm]
    have hlt : (n - f.length) % q.length < q.length := Nat.mod_lt _ q0
    obtain ⟨v, hv, dv⟩ := d2.get (i := (n - f.length) % q.length) (d := pairD (q[(n - f.length) % q.length])) (by simp [pairsD, hlt])
    obtain ⟨t, rfl, et⟩ := dv.dt.pair_inv
    refine rd_ixL e2 (atI_nat' hv) (k t ?_)
    rw [et]
    simp [atp, hn, hlt, List.getD_eq_getElem?_getD]
end
end Sl

set_option Elab.async false
set_option linter.all false
set_option maxRecDepth 100000
set_option maxHeartbeats 4000000
set_option exponentiation.threshold 9000
namespace Sl
open PySem L2 C8 StX Silt
local macro_rules | `(tactic| walk_at "side") => `(tactic| first
  | exact cdivw (by omega) (by omega)
  | exact cmulw (by omega) (by omega) (by omega) (by omega)
  | exact Or.inr ⟨by omega, by omega⟩
  | exact Or.inl ⟨by omega, by omega⟩
  | omega
  | exact ⟨by omega, by omega, by decide⟩
  | decide)
local macro_rules | `(tactic| walk_at "rd1") => `(tactic| first
  | with_reducible refine rd_seq ?_
  | with_reducible refine rd_asg ?_
  | with_reducible refine rd_drop ?_
  | with_reducible refine rd_ret ?_
  | with_reducible refine rd_retN ?_
  | with_reducible refine rd_ifS ?_
  | ((with_reducible refine rd_var0 ?_); refine ⟨_, rfl, ?_⟩)
  | with_reducible refine rd_c ?_
  | with_reducible refine rd_op ?_
  | with_reducible refine rd_un ?_
  | with_reducible refine rd_I0 ?_
  | with_reducible refine rd_U ?_
  | ((with_reducible refine rd_I ?c ?_); (case c => walk_at "side"))
  | with_reducible refine rd_ipI ?_
  | with_reducible refine rd_eqI ?_
  | with_reducible refine rd_neI ?_
  | with_reducible refine rd_test ?_
  | with_reducible refine rd_tB ?_
  | with_reducible refine rd_bl ?_
  | with_reducible refine rd_not ?_
  | with_reducible refine rd_and ?_
  | with_reducible refine rd_or ?_
  | with_reducible refine rd_andV ?_
  | with_reducible refine rd_orV ?_
  | with_reducible refine rd_notV ?_
  | with_reducible refine rd_ifE ?_
  | with_reducible refine rd_chain ?_
  | with_reducible refine rd_chain3 ?_
  | with_reducible refine rd_nil ?_
  | with_reducible refine rd_cons ?_
  | with_reducible refine rd_call ?_
  | with_reducible refine rd_CB ?_
  | with_reducible refine rd_par ?_
  | with_reducible refine rd_par2 ?_
  | with_reducible refine rd_par3 ?_
  | with_reducible refine rd_par4 ?_
  | ((with_reducible refine rd_aug0 ?_); refine ⟨_, rfl, ?_⟩)
  | with_reducible refine rd_gname ?_
  | with_reducible refine rd_gcons ?_
  | with_reducible refine rd_gnil ?_
  | with_reducible refine rd_max ?_
  | with_reducible refine rd_min ?_
  | with_reducible refine rd_int1 ?_
  | with_reducible refine rd_abs ?_
  | with_reducible refine rd_lst ?_
  | with_reducible refine rd_tup ?_
  | with_reducible refine rd_bm ?_
  | with_reducible refine rd_fld0 ?_
  | with_reducible refine rd_sl0 ?_
  | with_reducible refine rd_noP ?_
  | with_reducible refine rd_part ?_
  | with_reducible refine rd_part2 ?_
  | with_reducible refine rd_meth0 ?_
  | with_reducible refine rd_star ?_
  | with_reducible refine rd_for ?_
  | with_reducible refine rd_rng1 ?_
  | with_reducible refine rd_rng2 ?_
  | with_reducible refine rd_rng3 ?_
  | with_reducible refine rd_iList ?_
  | with_reducible refine rd_iTup ?_
  | with_reducible refine rd_iEnum ?_
  | with_reducible refine rd_lc ?_
  | with_reducible refine rd_yes ?_
  | with_reducible refine rd_augS ?_
  | with_reducible refine rd_drawNew ?_
  | with_reducible refine rd_make0 ?_
  | with_reducible refine rd_next ?_
  | with_reducible refine rd_break ?_
  | with_reducible refine rd_cont ?_
  | with_reducible refine rd_iteTT ?_
  | with_reducible refine rd_iteFF ?_
  | with_reducible refine rd_iteNTT ?_
  | with_reducible refine rd_iteNFF ?_
  | with_reducible refine rd_con0 ?_
  | with_reducible refine rd_truO0 ?_
  | with_reducible refine rd_gfld0 ?_
  | with_reducible refine rd_dc ?_
  | with_reducible refine rd_iKeys ?_
  | with_reducible refine rd_dget0 ?_
  | with_reducible refine rd_dput0 ?_
  | with_reducible refine rd_dnot0 ?_
  | with_reducible refine rd_iEnumT ?_
  | with_reducible refine rd_raP0 ?_
  | with_reducible refine rd_xf0 ?_
  | with_reducible refine rd_cKw ?_
  | with_reducible refine rd_asgG ?_)
local macro_rules | `(tactic| walk_at "rd") => `(tactic| repeat walk_at "rd1")
local macro_rules | `(tactic| walk_at "len") => `(tactic| first
  | (intro vs H Q E h; obtain ⟨h2, _⟩ := h; rw [h2]; rfl)
  | (intro vs H Q E h; obtain ⟨_, h2, _⟩ := h; rw [h2]; rfl)
  | (intro vs H Q E h; obtain ⟨_, _, h2, _⟩ := h; rw [h2]; rfl)
  | (intro vs H Q E h; obtain ⟨_, _, _, h2, _⟩ := h; rw [h2]; rfl)
  | (intro vs H Q E h; obtain ⟨_, _, _, _, h2, _⟩ := h; rw [h2]; rfl)
  | (intro vs H Q E h; obtain ⟨_, _, _, _, _, h2, _⟩ := h; rw [h2]; rfl)
  | (intro vs H Q E h; obtain ⟨_, _, _, _, _, _, h2, _⟩ := h; rw [h2]; rfl)
  | (intro vs H Q E h; obtain ⟨_, _, _, _, _, _, _, h2, _⟩ := h; rw [h2]; rfl)
  | (intro vs H Q E h; obtain ⟨_, _, _, _, _, _, _, _, h2, _⟩ := h; rw [h2]; rfl)
  | (intro vs H Q E h; obtain ⟨_, _, _, _, _, _, _, _, _, h2, _⟩ := h; rw [h2]; rfl)
  | (intro vs H Q E h; obtain ⟨_, _, _, _, _, _, _, _, _, _, h2, _⟩ := h; rw [h2]; rfl)
  | (intro vs H Q E h; obtain ⟨_, _, _, _, _, _, _, _, _, _, _, h2, _⟩ := h; rw [h2]; rfl)
  | (intro vs H Q E h; obtain ⟨_, _, _, _, _, _, _, _, _, _, _, _, h2, _⟩ := h; rw [h2]; rfl))
def optV (r : Option Int) : V := match r with | some i => .int i | none => .non
def spDayMade (C : Addr) : Sp := fun vs H Q _ => ∃ (a : Addr) (p : Pr) (g m : Int), vs = [.ref a, .int g, .int m] ∧ RuleP C H a p ∧ Gr g ∧ (0 ≤ m ∧ m ≤ BB) ∧ ∀ H', Same H H' → Q (.int (dayMade p g.toNat m)) H'
def spDayIn (C : Addr) : Sp := fun vs H Q _ => ∃ (a : Addr) (p : Pr) (d g : Int), vs = [.ref a, .int d, .int g] ∧ RuleP C H a p ∧ (1 ≤ d ∧ d ≤ DD) ∧ Gr g ∧ ∀ H', Same H H' → Q (.int (dayIn p d g.toNat)) H'
def spStay (C : Addr) : Sp := fun vs H Q _ => ∃ (a : Addr) (p : Pr) (d g : Int), vs = [.ref a, .int d, .int g] ∧ RuleP C H a p ∧ (1 ≤ d ∧ d ≤ DD) ∧ (0 ≤ g ∧ g ≤ 2050) ∧
  ∀ H', Same H H' → (dayIn p d g.toNat < dayIn p d (g.toNat + 1) → ∀ t, H' t = some (.tup [.int (dayIn p d g.toNat), .int (dayIn p d (g.toNat + 1) - 1)]) → Q (.ref t) H') ∧ (¬ dayIn p d g.toNat < dayIn p d (g.toNat + 1) → Q .non H')
def spWorkOn (C : Addr) : Sp := fun vs H Q _ => ∃ (a : Addr) (p : Pr) (d : Int), vs = [.ref a, .int d] ∧ RuleP C H a p ∧ Dy d ∧ ∀ H', Same H H' → Q (.int (((bakedL p d).map fun g => size p (g + 1).toNat).sum)) H'
def spHardest (C : Addr) : Sp := fun vs H Q _ => ∃ (a : Addr) (p : Pr) (d : Int), vs = [.ref a, .int d] ∧ RuleP C H a p ∧ Dy d ∧ ∀ H' r, Same H H' → HardR p d r → Q (optV r) H'
def spResting (C : Addr) : Sp := fun vs H Q _ => ∃ (a : Addr) (p : Pr) (d : Int), vs = [.ref a, .int d] ∧ RuleP C H a p ∧ Dy d ∧ ∀ H', Same H H' → Q (.int (d - made p 1 d)) H'
def spTogether (C : Addr) : Sp := fun vs H Q _ => ∃ (a : Addr) (p : Pr) (d e : Int), vs = [.ref a, .int d, .int e] ∧ RuleP C H a p ∧ (1 ≤ d ∧ d ≤ DD) ∧ (1 ≤ e ∧ e ≤ DD) ∧ ∀ H' r, Same H H' → TogR p d e r → Q (.int r) H'
theorem bkF_mem {p : Pr} {d : Int} : ∀ (n g : Nat) (x : Int), x ∈ bkF n p d g → ∃ k : Nat, x = k ∧ isBaked p k d = true
  | 0, _, _, h => by cases h
  | n + 1, g, x, h => by
    have h' : x ∈ (if isBaked p g d then (g : Int) :: bkF n p d (g + 1) else []) := h
    by_cases c : isBaked p g d = true
    · rw [if_pos c] at h'
      rcases List.mem_cons.mp h' with q | q
      · exact ⟨g, q, c⟩
      · exact bkF_mem n (g + 1) x q
    · rw [if_neg c] at h'; cases h'
theorem baked_all {p : Pr} (g : Good p) {d : Int} (h : d ≤ DD) : ∀ x ∈ bakedL p d, 0 ≤ x ∧ x ≤ 2000 := by
  intro x hx
  obtain ⟨k, rfl, b⟩ := bkF_mem _ _ _ hx
  have := grade_le g (isBaked_size g b) h
  omega
theorem bkF_lenB {p : Pr} (g : Good p) {d : Int} (h : d ≤ DD) : ∀ (n k : Nat), k ≤ 2001 → (bkF n p d k).length + k ≤ 2001
  | 0, k, hk => by show 0 + k ≤ 2001; omega
  | n + 1, k, hk => by
    show (if isBaked p k d then (k : Int) :: bkF n p d (k + 1) else []).length + k ≤ 2001
    by_cases c : isBaked p k d = true
    · rw [if_pos c, List.length_cons]
      have := grade_le g (isBaked_size g c) h
      have := bkF_lenB g h n (k + 1) (by omega)
      omega
    · rw [if_neg c]; show 0 + k ≤ 2001; omega
theorem baked_len2 {p : Pr} (g : Good p) {d : Int} (h : d ≤ DD) : (bakedL p d).length ≤ 2001 := bkF_lenB g h _ 0 (by omega)
section
variable {P : Program} {w : World} {K : PySem.W.Frag} {mg : Str → Option Value} {base : Heap} {C_Rule C_Evidence C_Good C_Bad C_InTime C_Late C_BadDay Lc__law_worked Lp__law_worked : Addr}
end
end Sl

set_option Elab.async false
set_option linter.all false
set_option maxRecDepth 100000
set_option maxHeartbeats 4000000
set_option exponentiation.threshold 9000
namespace Sl
open PySem L2 C8 StX Silt
local macro_rules | `(tactic| walk_at "side") => `(tactic| first
  | exact cdivw (by omega) (by omega)
  | exact cmulw (by omega) (by omega) (by omega) (by omega)
  | exact Or.inr ⟨by omega, by omega⟩
  | exact Or.inl ⟨by omega, by omega⟩
  | omega
  | exact ⟨by omega, by omega, by decide⟩
  | decide)
local macro_rules | `(tactic| walk_at "rd1") => `(tactic| first
  | with_reducible refine rd_seq ?_
  | with_reducible refine rd_asg ?_
  | with_reducible refine rd_drop ?_
  | with_reducible refine rd_ret ?_
  | with_reducible refine rd_retN ?_
  | with_reducible refine rd_ifS ?_
  | ((with_reducible refine rd_var0 ?_); refine ⟨_, rfl, ?_⟩)
  | with_reducible refine rd_c ?_
  | with_reducible refine rd_op ?_
  | with_reducible refine rd_un ?_
  | with_reducible refine rd_I0 ?_
  | with_reducible refine rd_U ?_
  | ((with_reducible refine rd_I ?c ?_); (case c => walk_at "side"))
  | with_reducible refine rd_ipI ?_
  | with_reducible refine rd_eqI ?_
  | with_reducible refine rd_neI ?_
  | with_reducible refine rd_test ?_
  | with_reducible refine rd_tB ?_
  | with_reducible refine rd_bl ?_
  | with_reducible refine rd_not ?_
  | with_reducible refine rd_and ?_
  | with_reducible refine rd_or ?_
  | with_reducible refine rd_andV ?_
  | with_reducible refine rd_orV ?_
  | with_reducible refine rd_notV ?_
  | with_reducible refine rd_ifE ?_
  | with_reducible refine rd_chain ?_
  | with_reducible refine rd_chain3 ?_
  | with_reducible refine rd_nil ?_
  | with_reducible refine rd_cons ?_
  | with_reducible refine rd_call ?_
  | with_reducible refine rd_CB ?_
  | with_reducible refine rd_par ?_
  | with_reducible refine rd_par2 ?_
  | with_reducible refine rd_par3 ?_
  | with_reducible refine rd_par4 ?_
  | ((with_reducible refine rd_aug0 ?_); refine ⟨_, rfl, ?_⟩)
  | with_reducible refine rd_gname ?_
  | with_reducible refine rd_gcons ?_
  | with_reducible refine rd_gnil ?_
  | with_reducible refine rd_max ?_
  | with_reducible refine rd_min ?_
  | with_reducible refine rd_int1 ?_
  | with_reducible refine rd_abs ?_
  | with_reducible refine rd_lst ?_
  | with_reducible refine rd_tup ?_
  | with_reducible refine rd_bm ?_
  | with_reducible refine rd_fld0 ?_
  | with_reducible refine rd_sl0 ?_
  | with_reducible refine rd_noP ?_
  | with_reducible refine rd_part ?_
  | with_reducible refine rd_part2 ?_
  | with_reducible refine rd_meth0 ?_
  | with_reducible refine rd_star ?_
  | with_reducible refine rd_for ?_
  | with_reducible refine rd_rng1 ?_
  | with_reducible refine rd_rng2 ?_
  | with_reducible refine rd_rng3 ?_
  | with_reducible refine rd_iList ?_
  | with_reducible refine rd_iTup ?_
  | with_reducible refine rd_iEnum ?_
  | with_reducible refine rd_lc ?_
  | with_reducible refine rd_yes ?_
  | with_reducible refine rd_augS ?_
  | with_reducible refine rd_drawNew ?_
  | with_reducible refine rd_make0 ?_
  | with_reducible refine rd_next ?_
  | with_reducible refine rd_break ?_
  | with_reducible refine rd_cont ?_
  | with_reducible refine rd_iteTT ?_
  | with_reducible refine rd_iteFF ?_
  | with_reducible refine rd_iteNTT ?_
  | with_reducible refine rd_iteNFF ?_
  | with_reducible refine rd_con0 ?_
  | with_reducible refine rd_truO0 ?_
  | with_reducible refine rd_gfld0 ?_
  | with_reducible refine rd_dc ?_
  | with_reducible refine rd_iKeys ?_
  | with_reducible refine rd_dget0 ?_
  | with_reducible refine rd_dput0 ?_
  | with_reducible refine rd_dnot0 ?_
  | with_reducible refine rd_iEnumT ?_
  | with_reducible refine rd_raP0 ?_
  | with_reducible refine rd_xf0 ?_
  | with_reducible refine rd_cKw ?_
  | with_reducible refine rd_asgG ?_)
local macro_rules | `(tactic| walk_at "rd") => `(tactic| repeat walk_at "rd1")
local macro_rules | `(tactic| walk_at "len") => `(tactic| first
  | (intro vs H Q E h; obtain ⟨h2, _⟩ := h; rw [h2]; rfl)
  | (intro vs H Q E h; obtain ⟨_, h2, _⟩ := h; rw [h2]; rfl)
  | (intro vs H Q E h; obtain ⟨_, _, h2, _⟩ := h; rw [h2]; rfl)
  | (intro vs H Q E h; obtain ⟨_, _, _, h2, _⟩ := h; rw [h2]; rfl)
  | (intro vs H Q E h; obtain ⟨_, _, _, _, h2, _⟩ := h; rw [h2]; rfl)
  | (intro vs H Q E h; obtain ⟨_, _, _, _, _, h2, _⟩ := h; rw [h2]; rfl)
  | (intro vs H Q E h; obtain ⟨_, _, _, _, _, _, h2, _⟩ := h; rw [h2]; rfl)
  | (intro vs H Q E h; obtain ⟨_, _, _, _, _, _, _, h2, _⟩ := h; rw [h2]; rfl)
  | (intro vs H Q E h; obtain ⟨_, _, _, _, _, _, _, _, h2, _⟩ := h; rw [h2]; rfl)
  | (intro vs H Q E h; obtain ⟨_, _, _, _, _, _, _, _, _, h2, _⟩ := h; rw [h2]; rfl)
  | (intro vs H Q E h; obtain ⟨_, _, _, _, _, _, _, _, _, _, h2, _⟩ := h; rw [h2]; rfl)
  | (intro vs H Q E h; obtain ⟨_, _, _, _, _, _, _, _, _, _, _, h2, _⟩ := h; rw [h2]; rfl)
  | (intro vs H Q E h; obtain ⟨_, _, _, _, _, _, _, _, _, _, _, _, h2, _⟩ := h; rw [h2]; rfl))
/-- a value that is no whole number -/
def NoInt (v : V) : Prop := (∃ b, v = .bl b) ∨ v = .non
section
variable {H : Hp} {Q : VK} {K : PySem.W.Frag}
theorem rd_isiBi {b : Bool} (h : Q (.bl true) H) : rIsi K [.bl b, .ty "int"] H Q := ⟨_, _, _, _, true, rfl, .ty _, .base (.bl b), kit_ty (by decide +kernel), h⟩
theorem rd_isiBb {b : Bool} (h : Q (.bl true) H) : rIsi K [.bl b, .ty "bool"] H Q := ⟨_, _, _, _, true, rfl, .ty _, .base (.bl b), kit_ty (by decide +kernel), h⟩
theorem rd_isiNi (h : Q (.bl false) H) : rIsi K [.non, .ty "int"] H Q := ⟨_, _, _, _, false, rfl, .ty _, .base .non, kit_ty (by decide +kernel), h⟩
end
def spNotWhole : Sp := fun vs H Q _ => ∃ v, vs = [v] ∧ NoInt v ∧ Q (.bl false) H
def spAnyWhole : Sp := fun vs H Q _ => ∃ v, vs = [v] ∧ ((∃ i, v = .int i) ∧ Q (.bl true) H ∨ NoInt v ∧ Q (.bl false) H)
def BadN (v : V) (j : Int) : Prop := NoInt v ∨ ∃ i, v = .int i ∧ i < j
def spChkNX (C : Addr) : Sp := fun vs H Q E => ∃ v j, vs = [v, .int j] ∧ ((∃ i, v = .int i ∧ j ≤ i ∧ Q .non H) ∨ (BadN v j ∧ E (.ref C) none H))
/-- a call of place that is refused -/
def spPlaceX (CR C : Addr) : Sp := fun vs H _ E => ∃ (a : Addr) (p : Pr) (v1 v2 : V), vs = [.ref a, v1, v2] ∧ RuleP CR H a p ∧ E (.ref C) none H ∧ (BadN v1 1 ∨ ∃ i, v1 = .int i ∧ 1 ≤ i ∧ (BadN v2 0 ∨ ∃ j, v2 = .int j ∧ 0 ≤ j ∧ j < i))
section
variable {P : Program} {w : World} {K : PySem.W.Frag} {mg : Str → Option Value} {base : Heap} {C_Rule C_Evidence C_Good C_Bad C_InTime C_Late C_BadDay Lc__law_worked Lp__law_worked : Addr}
theorem cal_is_whole_any (T : TX K mg C_Rule C_Evidence C_Good C_Bad C_InTime C_Late C_BadDay Lc__law_worked Lp__law_worked) : Cal P w K mg base 1 "is_whole" spAnyWhole [] := by
  obtain ⟨f0, fd, D, dn⟩ := T.d_is_whole
  refine cal0 D (D.fn.binds dn fun _ _ _ _ _ _ us hl => match us, hl with | [_], _ => rfl) .nil sc_is_whole (by walk_at "len") (fun cdv A outer s H vs Q E hr h => ?_)
  obtain ⟨v, rfl, h⟩ := h
  rcases h with ⟨⟨i, rfl⟩, k⟩ | ⟨⟨b, rfl⟩ | rfl, k⟩
  · refine ⟨_, (pss_one (ps_ret (pe_and (pe_callB call_isi (by rfl) T.b_isinstance (by decide +kernel) (pa_cons (pv 0) (pa_cons (pe_bltn (v := .ty "int") (u := .type "int") rfl T.b_int (by decide +kernel) rfl) pa_nil))) (pe_one (pe_not (pe_callB call_isi (by rfl) T.b_isinstance (by decide +kernel) (pa_cons (pv 0) (pa_cons (pe_bltn (v := .ty "bool") (u := .type "bool") rfl T.b_bool (by decide +kernel) rfl) pa_nil)))))))), ?_⟩
    walk_at "rd"
    refine rd_isiI ?_
    walk_at "rd"
    refine rd_isiIB ?_
    walk_at "rd"
    exact k
  · refine ⟨_, (pss_one (ps_ret (pe_and (pe_callB call_isi (by rfl) T.b_isinstance (by decide +kernel) (pa_cons (pv 0) (pa_cons (pe_bltn (v := .ty "int") (u := .type "int") rfl T.b_int (by decide +kernel) rfl) pa_nil))) (pe_one (pe_not (pe_callB call_isi (by rfl) T.b_isinstance (by decide +kernel) (pa_cons (pv 0) (pa_cons (pe_bltn (v := .ty "bool") (u := .type "bool") rfl T.b_bool (by decide +kernel) rfl) pa_nil)))))))), ?_⟩
    walk_at "rd"
    refine rd_isiBi ?_
    walk_at "rd"
    refine rd_isiBb ?_
    walk_at "rd"
    exact k
  · refine ⟨_, (pss_one (ps_ret (pe_and (pe_callB call_isi (by rfl) T.b_isinstance (by decide +kernel) (pa_cons (pv 0) (pa_cons (pe_bltn (v := .ty "int") (u := .type "int") rfl T.b_int (by decide +kernel) rfl) pa_nil))) (pe_one (pe_not (pe_callB call_isi (by rfl) T.b_isinstance (by decide +kernel) (pa_cons (pv 0) (pa_cons (pe_bltn (v := .ty "bool") (u := .type "bool") rfl T.b_bool (by decide +kernel) rfl) pa_nil)))))))), ?_⟩
    walk_at "rd"
    refine rd_isiNi ?_
    walk_at "rd"
    exact k
theorem xal2_check_number (T : TX K mg C_Rule C_Evidence C_Good C_Bad C_InTime C_Late C_BadDay Lc__law_worked Lp__law_worked) : ∃ f fd, C8.Def K mg "check_number" s_check_number f fd ∧ (∃ ds, Vals [] ds ∧ Binds K fd P_check_number ds) ∧ (∃ ds, Vals [.int 0] ds ∧ Binds K fd P_check_number ds) ∧ FnOk P w K mg base (L2.CX P w) 2 f fd P_check_number (spChkNX C_BadDay) := by
  obtain ⟨f0, fd, D, b0, b1⟩ := T.d_check_number
  have G_is_whole := cal_is_whole_any (P := P) (w := w) (base := base) T
  refine ⟨f0, fd, D, b0, b1, fnX D.fn sc_check_number (by walk_at "len") (fun cdv A outer s H vs Q E hr h => ?_)⟩
  obtain ⟨v, j, rfl, h⟩ := h
  refine ⟨_, (pss_one (ps_if (PW.pt (pw_or (pt_not (pt_val (pe_c G_is_whole hr (by decide) rfl (pa_cons (pv 0) pa_nil)))) (pw_or1 (pt_cmpR op_lt (pv 0) (pv 1) (nomark _))))) (pss_one (ps_raiseO rfl (takes_of rfl rfl rfl rfl) T.x_BadDay T.mg_BadDay rfl)) pss_nil)), ?_⟩
  walk_at "rd"
  rcases h with ⟨i, rfl, hi, k⟩ | ⟨hb | ⟨i, rfl, hi⟩, k⟩
  · refine ⟨_, rfl, .inl ⟨⟨i, rfl⟩, ?_⟩⟩
    walk_at "rd"
    refine rd_iteF (by omega) ?_
    walk_at "rd"
    exact k
  · refine ⟨_, rfl, .inr ⟨hb, ?_⟩⟩
    walk_at "rd"
    exact rd_raise k
  · refine ⟨_, rfl, .inl ⟨⟨i, rfl⟩, ?_⟩⟩
    walk_at "rd"
    refine rd_iteT (by omega) ?_
    exact rd_raise k
end
section
variable {P : Program} {w : World} {K : PySem.W.Frag} {mg : Str → Option Value} {base : Heap} {C_Rule C_Evidence C_Good C_Bad C_InTime C_Late C_BadDay Lc__law_worked Lp__law_worked : Addr}
theorem xal_check_number (T : TX K mg C_Rule C_Evidence C_Good C_Bad C_InTime C_Late C_BadDay Lc__law_worked Lp__law_worked) : CalX P w K mg base 2 "check_number" (spChkNX C_BadDay) [.int 0] := by
  obtain ⟨f, fd, D, _, ⟨ds, v, b⟩, F⟩ := xal2_check_number (P := P) (w := w) (base := base) T
  exact ⟨f, fd, _, ds, F, D.mgf, D.kp, b, v⟩
theorem xal_check_number_2 (T : TX K mg C_Rule C_Evidence C_Good C_Bad C_InTime C_Late C_BadDay Lc__law_worked Lp__law_worked) : CalX P w K mg base 2 "check_number" (spChkNX C_BadDay) [] := by
  obtain ⟨f, fd, D, ⟨ds, v, b⟩, _, F⟩ := xal2_check_number (P := P) (w := w) (base := base) T
  exact ⟨f, fd, _, ds, F, D.mgf, D.kp, b, v⟩
end
end Sl

set_option Elab.async false
set_option linter.all false
set_option maxRecDepth 100000
set_option maxHeartbeats 8000000
set_option exponentiation.threshold 9000
namespace Sl
open PySem L2 C8 StX Silt
local macro_rules | `(tactic| walk_at "side") => `(tactic| first
  | exact cdivw (by omega) (by omega)
  | exact cmulw (by omega) (by omega) (by omega) (by omega)
  | exact Or.inr ⟨by omega, by omega⟩
  | exact Or.inl ⟨by omega, by omega⟩
  | omega
  | exact ⟨by omega, by omega, by decide⟩
  | decide)
local macro_rules | `(tactic| walk_at "rd1") => `(tactic| first
  | with_reducible refine rd_seq ?_
  | with_reducible refine rd_asg ?_
  | with_reducible refine rd_drop ?_
  | with_reducible refine rd_ret ?_
  | with_reducible refine rd_retN ?_
  | with_reducible refine rd_ifS ?_
  | ((with_reducible refine rd_var0 ?_); refine ⟨_, rfl, ?_⟩)
  | with_reducible refine rd_c ?_
  | with_reducible refine rd_op ?_
  | with_reducible refine rd_un ?_
  | with_reducible refine rd_I0 ?_
  | with_reducible refine rd_U ?_
  | ((with_reducible refine rd_I ?c ?_); (case c => walk_at "side"))
  | with_reducible refine rd_ipI ?_
  | with_reducible refine rd_eqI ?_
  | with_reducible refine rd_neI ?_
  | with_reducible refine rd_test ?_
  | with_reducible refine rd_tB ?_
  | with_reducible refine rd_bl ?_
  | with_reducible refine rd_not ?_
  | with_reducible refine rd_and ?_
  | with_reducible refine rd_or ?_
  | with_reducible refine rd_andV ?_
  | with_reducible refine rd_orV ?_
  | with_reducible refine rd_notV ?_
  | with_reducible refine rd_ifE ?_
  | with_reducible refine rd_chain ?_
  | with_reducible refine rd_chain3 ?_
  | with_reducible refine rd_nil ?_
  | with_reducible refine rd_cons ?_
  | with_reducible refine rd_call ?_
  | with_reducible refine rd_CB ?_
  | with_reducible refine rd_par ?_
  | with_reducible refine rd_par2 ?_
  | with_reducible refine rd_par3 ?_
  | with_reducible refine rd_par4 ?_
  | ((with_reducible refine rd_aug0 ?_); refine ⟨_, rfl, ?_⟩)
  | with_reducible refine rd_gname ?_
  | with_reducible refine rd_gcons ?_
  | with_reducible refine rd_gnil ?_
  | with_reducible refine rd_max ?_
  | with_reducible refine rd_min ?_
  | with_reducible refine rd_int1 ?_
  | with_reducible refine rd_abs ?_
  | with_reducible refine rd_lst ?_
  | with_reducible refine rd_tup ?_
  | with_reducible refine rd_bm ?_
  | with_reducible refine rd_fld0 ?_
  | with_reducible refine rd_sl0 ?_
  | with_reducible refine rd_noP ?_
  | with_reducible refine rd_part ?_
  | with_reducible refine rd_part2 ?_
  | with_reducible refine rd_meth0 ?_
  | with_reducible refine rd_star ?_
  | with_reducible refine rd_for ?_
  | with_reducible refine rd_rng1 ?_
  | with_reducible refine rd_rng2 ?_
  | with_reducible refine rd_rng3 ?_
  | with_reducible refine rd_iList ?_
  | with_reducible refine rd_iTup ?_
  | with_reducible refine rd_iEnum ?_
  | with_reducible refine rd_lc ?_
  | with_reducible refine rd_yes ?_
  | with_reducible refine rd_augS ?_
  | with_reducible refine rd_drawNew ?_
  | with_reducible refine rd_make0 ?_
  | with_reducible refine rd_next ?_
  | with_reducible refine rd_break ?_
  | with_reducible refine rd_cont ?_
  | with_reducible refine rd_iteTT ?_
  | with_reducible refine rd_iteFF ?_
  | with_reducible refine rd_iteNTT ?_
  | with_reducible refine rd_iteNFF ?_
  | with_reducible refine rd_con0 ?_
  | with_reducible refine rd_truO0 ?_
  | with_reducible refine rd_gfld0 ?_
  | with_reducible refine rd_dc ?_
  | with_reducible refine rd_iKeys ?_
  | with_reducible refine rd_dget0 ?_
  | with_reducible refine rd_dput0 ?_
  | with_reducible refine rd_dnot0 ?_
  | with_reducible refine rd_iEnumT ?_
  | with_reducible refine rd_raP0 ?_
  | with_reducible refine rd_xf0 ?_
  | with_reducible refine rd_cKw ?_
  | with_reducible refine rd_asgG ?_)
local macro_rules | `(tactic| walk_at "rd") => `(tactic| repeat walk_at "rd1")
local macro_rules | `(tactic| walk_at "len") => `(tactic| first
  | (intro vs H Q E h; obtain ⟨h2, _⟩ := h; rw [h2]; rfl)
  | (intro vs H Q E h; obtain ⟨_, h2, _⟩ := h; rw [h2]; rfl)
  | (intro vs H Q E h; obtain ⟨_, _, h2, _⟩ := h; rw [h2]; rfl)
  | (intro vs H Q E h; obtain ⟨_, _, _, h2, _⟩ := h; rw [h2]; rfl)
  | (intro vs H Q E h; obtain ⟨_, _, _, _, h2, _⟩ := h; rw [h2]; rfl)
  | (intro vs H Q E h; obtain ⟨_, _, _, _, _, h2, _⟩ := h; rw [h2]; rfl)
  | (intro vs H Q E h; obtain ⟨_, _, _, _, _, _, h2, _⟩ := h; rw [h2]; rfl)
  | (intro vs H Q E h; obtain ⟨_, _, _, _, _, _, _, h2, _⟩ := h; rw [h2]; rfl)
  | (intro vs H Q E h; obtain ⟨_, _, _, _, _, _, _, _, h2, _⟩ := h; rw [h2]; rfl)
  | (intro vs H Q E h; obtain ⟨_, _, _, _, _, _, _, _, _, h2, _⟩ := h; rw [h2]; rfl)
  | (intro vs H Q E h; obtain ⟨_, _, _, _, _, _, _, _, _, _, h2, _⟩ := h; rw [h2]; rfl)
  | (intro vs H Q E h; obtain ⟨_, _, _, _, _, _, _, _, _, _, _, h2, _⟩ := h; rw [h2]; rfl)
  | (intro vs H Q E h; obtain ⟨_, _, _, _, _, _, _, _, _, _, _, _, h2, _⟩ := h; rw [h2]; rfl))
theorem cut_drop {xs : List V} {m : Nat} : cutV xs (some (m : Int)) none = xs.drop m := by
  unfold cutV
  rw [HT.sIx_none, HT.sIx_nat]
  by_cases c : m ≤ xs.length
  · rw [Nat.min_eq_left c, List.take_of_length_le (by rw [List.length_drop]; omega)]
  · rw [Nat.min_eq_right (by omega), List.drop_of_length_le (Nat.le_refl _), List.drop_of_length_le (by omega)]
    simp
theorem Dn.tri_inv {H : Hp} {v : V} {q : Int × Int × Int} (h : Dn H v (triD q)) : ∃ t, v = .ref t ∧ H t = some (.tup [.int q.1, .int q.2.1, .int q.2.2]) := Dt.tri_inv h.dt
theorem DnAll.getV {H : Hp} : ∀ {vs : List V} {ds : List PyData} {i : Nat} {v : V}, DnAll H vs ds → vs[i]? = some v → ∃ d, ds[i]? = some d ∧ Dn H v d
  | _, _, _, _, .nil, h => by simp at h
  | _, _, 0, _, .cons h _, e => by simp at e; subst e; exact ⟨_, rfl, h⟩
  | _, _, i + 1, _, .cons _ t, e => by
    obtain ⟨v, h1, h2⟩ := DnAll.getV (i := i) t (by simpa using e)
    exact ⟨v, by simpa using h1, h2⟩
/-- a list of rows -/
def RowsP (H : Hp) (r : Addr) (rows : List Rw) : Prop := ∃ ys, H r = some (.lst ys) ∧ DnAll H ys (rows.map triD)
theorem RowsP.mono {H H' : Hp} {r : Addr} {rows : List Rw} (s : Same H H') (h : RowsP H r rows) : RowsP H' r rows := by
  obtain ⟨ys, e, d⟩ := h
  exact ⟨ys, s _ _ e, d.mono s⟩
theorem RowsP.upd {H : Hp} {r F : Addr} {rows : List Rw} {xs ys : List V} (h : RowsP H r rows) (e : H F = some (.lst xs)) (n : r ≠ F) : RowsP (upd H F (.lst ys)) r rows := by
  obtain ⟨zs, e1, d⟩ := h
  exact ⟨zs, by rw [upd_ne n]; exact e1, d.updL e⟩
/-- what a day of the play is -/
def TurnP (H : Hp) (v : V) (p : Pr) (d : Int) (F : Addr) : Prop := ∃ t r g, v = .ref t ∧ H t = some (.tup [.ref r, .ref g]) ∧ RowsP H r (layersL p d) ∧ H g = some (.lst ((bakedL p d).map V.int)) ∧ r ≠ F ∧ g ≠ F
theorem TurnP.mono {H H' : Hp} {v : V} {p : Pr} {d : Int} {F : Addr} (s : Same H H') (h : TurnP H v p d F) : TurnP H' v p d F := by
  obtain ⟨t, r, g, e, h1, h2, h3, h4⟩ := h
  exact ⟨t, r, g, e, s _ _ h1, h2.mono s, s _ _ h3, h4⟩
theorem TurnP.upd {H : Hp} {v : V} {p : Pr} {d : Int} {F : Addr} {xs ys : List V} (h : TurnP H v p d F) (e : H F = some (.lst xs)) : TurnP (upd H F (.lst ys)) v p d F := by
  obtain ⟨t, r, g, ev, h1, h2, h3, h4, h5⟩ := h
  refine ⟨t, r, g, ev, ?_, h2.upd e h4, ?_, h4, h5⟩
  · rw [upd_ne (fun z => by rw [z, e] at h1; cases h1)]; exact h1
  · rw [upd_ne h5]; exact h3
/-- the play of the days 0 .. n-1 -/
def PlayP (H : Hp) (F : Addr) (p : Pr) (n : Nat) : Prop := ∃ vs, H F = some (.lst vs) ∧ vs.length = n ∧ ∀ (i : Nat) v, vs[i]? = some v → TurnP H v p i F
theorem PlayP.mono {H H' : Hp} {F : Addr} {p : Pr} {n : Nat} (s : Same H H') (h : PlayP H F p n) : PlayP H' F p n := by
  obtain ⟨vs, e, l, k⟩ := h
  exact ⟨vs, s _ _ e, l, fun i v hv => (k i v hv).mono s⟩
def spLSize : Sp := fun vs H Q _ => ∃ (a : Addr) (f q : List (Int × Int)) (g : Int), vs = [.ref a, .int g] ∧ ToldP H a f q ∧ OkT f q ∧ Gr g ∧ Q (.int (size (atp f q) g.toNat)) H
def spFallen : Sp := fun vs H Q _ => ∃ (a r : Addr) (f q : List (Int × Int)) (d : Int), vs = [.ref a, .ref r, .int (d + 1)] ∧ ToldP H a f q ∧ OkT f q ∧ RowsP H r (layersL (atp f q) d) ∧ 0 ≤ d ∧ d ≤ 1000 ∧
  ∀ H' t r' g', Same H H' → H r' = none → H g' = none → H' t = some (.tup [.ref r', .ref g']) → RowsP H' r' (layersL (atp f q) (d + 1)) → H' g' = some (.lst ((bakedL (atp f q) (d + 1)).map V.int)) → Q (.ref t) H'
def spPlayed : Sp := fun vs H Q _ => ∃ (a : Addr) (f q : List (Int × Int)) (n : Int), vs = [.ref a, .int n] ∧ ToldP H a f q ∧ OkT f q ∧ 0 ≤ n ∧ n ≤ 1000 ∧ ∀ H' F, Same H H' → H F = none → PlayP H' F (atp f q) (n + 1).toNat → Q (.ref F) H'
def spWhere : Sp := fun vs H Q _ => ∃ (r : Addr) (rows : List Rw) (d : Int), vs = [.ref r, .int d] ∧ RowsP H r rows ∧ ∀ H', Same H H' → (whereL rows d = none → Q .non H') ∧ ∀ t g i, whereL rows d = some (g, i) → H' t = some (.tup [.int g, .int i]) → Q (.ref t) H'
def spLoads : Sp := fun vs H Q _ => ∃ (a F : Addr) (f q : List (Int × Int)) (n : Nat), vs = [.ref a, .ref F] ∧ ToldP H a f q ∧ OkT f q ∧ PlayP H F (atp f q) n ∧ n ≤ 1001 ∧ ∀ H' L, Same H H' → H' L = some (.lst ((List.range n).map fun (i : Nat) => V.int (load (atp f q) i))) → Q (.ref L) H'
theorem OkT.good {f q : List (Int × Int)} (h : OkT f q) : Good (atp f q) := good_of h.ne h.okf h.okq
theorem atI_0 {α : Type} {x : α} {xs : List α} : atI (x :: xs) 0 = some x := atI_nat' (i := 0) rfl
section
variable {P : Program} {w : World} {K : PySem.W.Frag} {mg : Str → Option Value} {base : Heap} {C_Rule C_Evidence C_Good C_Bad C_InTime C_Late C_BadDay Lc__law_worked Lp__law_worked : Addr}
theorem cal__law_size (T : TX K mg C_Rule C_Evidence C_Good C_Bad C_InTime C_Late C_BadDay Lc__law_worked Lp__law_worked) : Cal P w K mg base 2 "_law_size" spLSize [] := by
  obtain ⟨f0, fd, D, dn⟩ := T.d__law_size
  have G__law_at := cal__law_at (P := P) (w := w) (base := base) T
  refine cal0 D (D.fn.binds dn fun _ _ _ _ _ _ us hl => match us, hl with | [_, _], _ => rfl) .nil sc__law_size (by walk_at "len") (fun cdv A outer s H vs Q E hr h => ?_)
  obtain ⟨a, f, q, g, rfl, tp, ok, ⟨g0, g1⟩, k⟩ := h
  have gd := ok.good
  refine ⟨_, (pss_cons (ps_s 2 sc__law_size.nd pe_int)
      (pss_cons (ps_for PassesOwn.never rfl (pi_range1 rfl T.b_range (pa_cons (pv 1) pa_nil)) (pg_n 3 sc__law_size.nd) (pss_one (ps_au 2 sc__law_size.nd (pe_ix ix_tup (pe_c G__law_at hr (by decide) rfl (pa_cons (pv 0) (pa_cons (pv 3) pa_nil))) pe_int (fun _ _ => rfl)) iop_mul)))
      (pss_one (ps_ret (pv 2))))), ?_⟩
  walk_at "rd"
  refine rd_rgR1 (by omega) (by omega) ?_
  refine forR_rng (fun i σ H' => ∃ v, H' = H ∧ σ = [some (.ref a), some (.int g), some (.int (size (atp f q) i)), v]) ⟨none, rfl, rfl⟩ ?_ ?_
  · rintro i σ H' hi ⟨v, rfl, rfl⟩
    walk_at "rd"
    have ei : (0 + (i : Int)).toNat = i := by omega
    refine ⟨a, f, q, _, rfl, tp, ok.ne, by omega, fun t et => ?_⟩
    rw [ei] at et
    have b1 := gd.lo i
    have b2 := gd.le i
    have b3 := gd.hi i
    walk_at "rd"
    refine rd_ixT et (by rfl) ?_
    walk_at "rd"
    exact ⟨_, rfl, rfl⟩
  · rintro σ H' ⟨v, rfl, rfl⟩
    walk_at "rd"
    exact k
theorem cal__law_fallen (T : TX K mg C_Rule C_Evidence C_Good C_Bad C_InTime C_Late C_BadDay Lc__law_worked Lp__law_worked) : Cal P w K mg base 2 "_law_fallen" spFallen [] := by
  obtain ⟨f0, fd, D, dn⟩ := T.d__law_fallen
  have G__law_at := cal__law_at (P := P) (w := w) (base := base) T
  refine cal0 D (D.fn.binds dn fun _ _ _ _ _ _ us hl => match us, hl with | [_, _, _], _ => rfl) .nil sc__law_fallen (by walk_at "len") (fun cdv A outer s H vs Q E hr h => ?_)
  obtain ⟨a, r, f, q, d, rfl, tp, ok, ⟨ys0, er, dr⟩, d0, d1, k⟩ := h
  have gd := ok.good
  generalize hp : atp f q = p at *
  have b7 := bb_pos
  have hv := valid_digits gd d0
  have hdl := digits_len gd 10 d d0 (by omega)
  have hl0 : ys0.length ≤ 1300 := by
    rw [dr.length, List.length_map]
    have := LY_len p 0 (digits p d) fun x hx => (valid_le gd hv x hx).2
    unfold layersL
    omega
  refine ⟨_, (pss_cut (ps_par (i := 1) (j := 3) rfl sc__law_fallen.nd rfl rfl (by decide) rfl rfl (pa_cons (pe_op op_cat (pv 1) (pe_lst (pa_cons (pe_tup (pa_cons (pv 2) (pa_cons (pv 2) (pa_cons pe_int pa_nil)))) pa_nil))) (pa_cons (pe_lst pa_nil) pa_nil)) (by rfl))
      (pss_cons (ps_for PassesOwn.never rfl (pi_range1 rfl T.b_range (pa_cons pe_int pa_nil)) (pg_n 4 sc__law_fallen.nd) (pss_cons (ps_asg (pe_c G__law_at hr (by decide) rfl (pa_cons (pv 0) (pa_cons (pv 4) pa_nil))) (pg_tup rfl (pgs_cons (pg_n 5 sc__law_fallen.nd) (pgs_cons (pg_n 6 sc__law_fallen.nd) pgs_nil))))
      (pss_cons (ps_setLc (i := 7) (own := [("_law_at_here", 8), ("_law_row", 9)]) (g := gTup _ 2 (gCons (gName 8) (gCons (gName 9) gNil))) (tt := _) rfl sc__law_fallen.nd rfl rfl (sw_true rfl rfl rfl (by decide +kernel)) (pi_enum (by rfl) T.b_enumerate (pa_cons (pv 1) pa_nil)) (blkOk_by (own := [("_law_at_here", 8), ("_law_row", 9)]) (N := N__law_fallen) (sc := fnScope s__law_fallen) (by decide +kernel)) (fun _ _ _ _ _ => (pg_tup rfl (pgs_cons (pg_n 8 sc__law_fallen.nd) (pgs_cons (pg_n 9 sc__law_fallen.nd) pgs_nil)))) (fun _ _ _ _ _ => (pts_one (pt_cmpR op_eq (pe_ix (ixK rIxT K ix_tup) (pv 9) pe_int (fun _ _ => rfl)) (pv 4) (nomark _)))) (fun _ _ _ _ _ => (pv 8)))
      (pss_cons (ps_if (pt_cmpR op_lt (pe_callB cr_lenS (by rfl) T.b_len (by decide +kernel) (pa_cons (pv 7) pa_nil)) (pv 5) (nomark _)) (pss_one (ps_ret (pe_tup (pa_cons (pv 1) (pa_cons (pv 3) pa_nil))))) pss_nil)
      (pss_cons (ps_par (i := 10) (j := 11) rfl sc__law_fallen.nd rfl rfl (by decide) rfl rfl (pa_cons (pe_ix ix_list (pv 7) pe_int (fun _ _ => rfl)) (pa_cons (pe_ix ix_list (pv 7) (pe_op op_sub (pv 6) pe_int) (fun _ _ => rfl)) pa_nil)) (by rfl))
      (pss_cons (ps_s 1 sc__law_fallen.nd (pe_op op_cat (pe_op op_cat (pe_slice sl_list (pv 1) po_none (po_some (pv 10))) (pe_lst (pa_cons (pe_tup (pa_cons (pe_ix ix_tup (pe_ix ix_list (pv 1) (pv 10) (fun _ _ => rfl)) pe_int (fun _ _ => rfl)) (pa_cons (pe_ix ix_tup (pe_ix ix_list (pv 1) (pv 11) (fun _ _ => rfl)) pe_int (fun _ _ => rfl)) (pa_cons (pe_op op_add (pv 4) pe_int) pa_nil)))) pa_nil))) (pe_slice sl_list (pv 1) (po_some (pe_op op_add (pv 11) pe_int)) po_none)))
      (pss_one (ps_expr (pe_bm PySem.F.plainAttrs_list PySem.F.slot_list_append PySem.F.type_list_append mt_append (pv 3) (pa_cons (pv 4) pa_nil))))))))))
      (pss_one (ps_ret (pe_tup (pa_cons (pv 1) (pa_cons (pv 3) pa_nil))))))), ?_⟩
  refine ⟨fun σ H' => ∃ (R G : Addr) (ys : List V) (v4 v5 v6 v7 v8 v9 v10 v11 : Option V), Same H H' ∧ H R = none ∧ H G = none ∧ R ≠ G ∧ H' R = some (.lst ys) ∧ ys.length ≤ 1301 ∧ DnAll H' ys ((LY p 0 (bump (digits p d))).1.map triD) ∧ H' G = some (.lst []) ∧
    σ = [some (.ref a), some (.ref R), some (.int (d + 1)), some (.ref G), v4, v5, v6, v7, v8, v9, v10, v11], ?_, ?_⟩
  · walk_at "rd"
    refine rd_newT (by simp) fun t1 H1 _ s1 et1 _ => ?_
    walk_at "rd"
    refine rd_newL (by simp) fun t2 H2 _ s2 et2 _ => ?_
    walk_at "rd"
    have s12 := s1.trans s2
    refine rd_cat (s12 _ _ er) et2 (by simp; omega) fun R H3 hR s3 eR _ => ?_
    walk_at "rd"
    refine rd_newL (by simp) fun G H4 hG s4 eG _ => ?_
    walk_at "rd"
    have s14 := (s12.trans s3).trans s4
    have hRG : R ≠ G := fun z => by rw [z] at eR; rw [eR] at hG; cases hG
    have hR0 : H R = none := by
      cases z : H R with
      | none => rfl
      | some o => rw [s12 _ _ z] at hR; cases hR
    have hG0 : H G = none := by
      cases z : H G with
      | none => rfl
      | some o => rw [(s12.trans s3) _ _ z] at hG; cases hG
    refine ⟨R, G, _, none, none, none, none, none, none, none, none, s14, hR0, hG0, hRG, s4 _ _ eR, by simp; omega, ?_, eG, rfl⟩
    rw [← rows_first gd d0, List.map_append]
    exact (dr.mono s14).append (.cons (.tri (((s2.trans s3).trans s4) _ _ et1)) .nil)
  · rintro σ H5 ⟨R, G, ys, v4, v5, v6, v7, v8, v9, v10, v11, s5, hR0, hG0, hRG, eR, hys, dR, eG, rfl⟩
    walk_at "rd"
    refine rd_rgR1 (by omega) (by omega) ?_
    refine forR_rng (fun i σ H' => ∃ (lo : List Int) (R : Addr) (ys : List V) (v4 v5 v6 v7 v8 v9 v10 v11 : Option V), Same H H' ∧ lo.length = i ∧ i ≤ (digits p d).length ∧ H R = none ∧ R ≠ G ∧ H' R = some (.lst ys) ∧ ys.length ≤ 1301 ∧
      DnAll H' ys ((LY p 0 (lo ++ bump ((digits p d).drop i))).1.map triD) ∧ H' G = some (.lst ((List.range i).map fun (j : Nat) => V.int j)) ∧ inc p (digits p d) = lo ++ inc (tl p i) ((digits p d).drop i) ∧
      carry p (digits p d) = (List.range i).map (fun (j : Nat) => (j : Int)) ++ (carry (tl p i) ((digits p d).drop i)).map (· + (i : Int)) ∧
      σ = [some (.ref a), some (.ref R), some (.int (d + 1)), some (.ref G), v4, v5, v6, v7, v8, v9, v10, v11]) ?_ ?_ ?_
    · refine ⟨[], R, ys, v4, v5, v6, v7, v8, v9, v10, v11, s5, rfl, by omega, hR0, hRG, eR, hys, dR, eG, by rw [tl_zero]; rfl, ?_, rfl⟩
      rw [tl_zero]
      simp
    · rintro i σ H6 hi ⟨lo, R, ys, v4, v5, v6, v7, v8, v9, v10, v11, s6, rfl, hil, hR0, hRG, eR, hys, dR, eG, ei, ec, rfl⟩
      have b1 := gd.lo lo.length
      have b2 := gd.le lo.length
      have b3 := gd.hi lo.length
      walk_at "rd"
      have ei0 : (0 + (lo.length : Int)).toNat = lo.length := by omega
      have ei1 : (0 + (lo.length : Int)) = (lo.length : Int) := by omega
      refine ⟨a, f, q, _, rfl, tp.mono s6, ok.ne, by omega, fun u eu => ?_⟩
      rw [ei0, hp] at eu
      rw [ei1]
      refine rd_gtup eu rfl ?_
      walk_at "rd"
      refine rd_enR (SqL.of eR) ?_
      have drx : ∀ (j : Nat) v, ys[j]? = some v → ∃ rw, (LY p 0 (lo ++ bump ((digits p d).drop lo.length))).1[j]? = some rw ∧ ∃ t, v = .ref t ∧ H6 t = some (.tup [.int rw.1, .int rw.2.1, .int rw.2.2]) := by
        intro j v hv
        obtain ⟨x, hx, dx⟩ := dR.getV hv
        rw [List.getElem?_map] at hx
        cases z : (LY p 0 (lo ++ bump ((digits p d).drop lo.length))).1[j]? with
        | none => rw [z] at hx; cases hx
        | some rw =>
          rw [z] at hx
          cases hx
          exact ⟨rw, rfl, dx.tri_inv⟩
      generalize hrows : (LY p 0 (lo ++ bump ((digits p d).drop lo.length))).1 = rows at *
      refine lcR_enum (xs := ys) (fun D j H' => Same H6 H' ∧ H' D = some (.lst ((pos (lo.length : Nat) 0 (rows.take j)).map V.int))) (fun D j H' _ ⟨s, _⟩ => SqL.of (s _ _ eR)) (fun D H' _ s e _ => ⟨s, e⟩) ?_ ?_
      · rintro D j v H7 t H8 hD hv ⟨s7, eD⟩ ht s8 et _
        obtain ⟨rw, hrw, t2, rfl, et2⟩ := drx j v hv
        refine rd_gtup et rfl ?_
        walk_at "rd"
        refine ⟨rfl, ?_⟩
        walk_at "rd"
        refine rd_ixT ((s7.trans s8) _ _ et2) (by rfl) ?_
        walk_at "rd"
        have hpt := pos_take (lo.length : Nat) rows j rw hrw
        have hjl : j < ys.length := (List.getElem?_eq_some_iff.mp hv).1
        refine rd_ite (fun c => ?_) (fun c => ?_)
        · walk_at "rd"
          refine rd_lcE (s8 _ _ eD) ?_ fun H9 eH9 eD9 => ?_
          · have := pos_len (lo.length : Nat) (rows.take j) 0
            rw [List.length_map]
            rw [List.length_take] at this
            omega
          · refine ⟨by rw [eH9]; exact Same.mut (s7.trans s8) hD, ?_⟩
            rw [eD9, hpt, if_pos c, List.map_append]
            rfl
        · refine ⟨s7.trans s8, ?_⟩
          rw [hpt, if_neg c, List.append_nil]
          exact s8 _ _ eD
      · rintro D H7 hD ⟨s7, eD⟩
        have hyl : ys.length = rows.length := by rw [dR.length, List.length_map]
        rw [hyl, List.take_length] at eD
        walk_at "rd"
        refine rd_lenL eD ?_
        rw [List.length_map]
        walk_at "rd"
        have s67 := s6.trans s7
        obtain ⟨y, ys0, hb, hy1⟩ : ∃ y ys0, bump ((digits p d).drop lo.length) = y :: ys0 ∧ 1 ≤ y := by
          cases z : (digits p d).drop lo.length with
          | nil => exact ⟨1, [], rfl, by omega⟩
          | cons x xs => exact ⟨x + 1, xs, rfl, by have := (valid_le gd hv x (List.mem_of_mem_drop (by rw [z]; exact List.mem_cons_self))).1; omega⟩
        have hpos := rows_pos p lo y ys0
        rw [← hb, hrows] at hpos
        rw [hpos]
        rw [hpos] at eD
        rw [List.length_map, List.length_range]
        refine rd_ite (fun c => ?_) (fun c => ?_)
        · -- no more bakes
          walk_at "rd"
          refine rd_newT (by simp) fun t H8 _ s8 et _ => ?_
          obtain ⟨q1, q2⟩ := inc_stop (p := p) (lo := lo) (xs := (digits p d).drop lo.length) (by rw [hb]; intro x hx; cases hx; omega) (by omega)
          rw [q1] at ei
          rw [q2, List.map_nil, List.append_nil] at ec
          refine k H8 t R G ((s6.trans s7).trans s8) hR0 hG0 et ?_ ?_
          · refine ⟨ys, (s7.trans s8) _ _ eR, ?_⟩
            unfold layersL
            rw [digits_succ gd d0, ei, hrows]
            exact dR.mono (s7.trans s8)
          · rw [bakedL_succ gd d0, ec, List.map_map]
            exact (s7.trans s8) _ _ eG
        · -- a bake
          obtain ⟨x, xs, hx⟩ : ∃ x xs, (digits p d).drop lo.length = x :: xs := by
            cases z : (digits p d).drop lo.length with
            | nil => rw [z] at hb; cases hb; omega
            | cons x xs => exact ⟨x, xs, rfl⟩
          have hlt : lo.length < (digits p d).length := by
            rcases Nat.lt_or_ge lo.length (digits p d).length with z | z
            · exact z
            · rw [List.drop_of_length_le z] at hx; cases hx
          have hxs : (digits p d).drop (lo.length + 1) = xs := by rw [← List.drop_drop, hx]; rfl
          have hg : (digits p d)[lo.length]? = some x := by
            have := congrArg (fun l => l[0]?) hx
            simpa using this
          have hxv := valid_get (digits p d) p lo.length x hv hg
          rw [hx] at hb
          have hb' : x + 1 = y ∧ xs = ys0 := by cases hb; exact ⟨rfl, rfl⟩
          obtain ⟨rfl, rfl⟩ := hb'
          have hw : (p lo.length).1 = x + 1 := by omega
          rw [hx] at ei ec hrows
          rw [inc_turn hw] at ei
          rw [carry_turn hw] at ec
          have hxs0 : ∀ z ∈ xs, 0 ≤ z := fun z hz => (valid_le gd hv z (List.mem_of_mem_drop (by rw [hx]; exact List.mem_cons_of_mem _ hz))).1
          obtain ⟨f1, l1, hf1, hl1, hbake⟩ := rows_bake gd lo (x + 1) xs (by omega) hxs0
          have hrows' : (LY p 0 (lo ++ (x + 1) :: xs)).1 = rows := hrows
          rw [hrows'] at hf1 hl1 hbake
          generalize hA : (LY p (lo.length + 1) xs).1.length = A at *
          walk_at "rd"
          refine rd_ixL eD (v := .int (A : Nat)) (atI_nat' (i := 0) (by rw [List.getElem?_map, List.getElem?_map, List.getElem?_range (by omega)]; rfl)) ?_
          walk_at "rd"
          have eb : (p lo.length).2 - 1 = (((p lo.length).2.toNat - 1 : Nat) : Int) := by omega
          rw [eb]
          refine rd_ixL eD (v := .int ((A + ((p lo.length).2.toNat - 1) : Nat) : Int)) (atI_nat' (by rw [List.getElem?_map, List.getElem?_map, List.getElem?_range (by omega)]; rfl)) ?_
          walk_at "rd"
          refine rd_slL (SqL.of (s7 _ _ eR)) fun p1 H8 _ s8 ep1 _ => ?_
          rw [cut_take] at ep1
          walk_at "rd"
          have eR8 := (s7.trans s8) _ _ eR
          have gv : ∀ (j : Nat) rw, rows[j]? = some rw → ∃ t, ys[j]? = some (.ref t) ∧ H6 t = some (.tup [.int rw.1, .int rw.2.1, .int rw.2.2]) := by
            intro j rw h
            have hj : j < ys.length := by rw [hyl]; exact (List.getElem?_eq_some_iff.mp h).1
            obtain ⟨rw2, h2, t, et, e2⟩ := drx j ys[j] (List.getElem?_eq_getElem hj)
            rw [h] at h2
            cases h2
            exact ⟨t, by rw [List.getElem?_eq_getElem hj, et], e2⟩
          obtain ⟨tf, htf, etf⟩ := gv _ _ hf1
          obtain ⟨tl1, htl, etl⟩ := gv _ _ hl1
          refine rd_ixL eR8 (atI_nat' htf) ?_
          walk_at "rd"
          refine rd_ixT ((s7.trans s8) _ _ etf) (by rfl) ?_
          walk_at "rd"
          refine rd_ixL eR8 (atI_nat' htl) ?_
          walk_at "rd"
          refine rd_ixT ((s7.trans s8) _ _ etl) (by rfl) ?_
          walk_at "rd"
          refine rd_newT (by simp) fun t9 H9 _ s9 et9 _ => ?_
          walk_at "rd"
          refine rd_newL (by simp) fun p2 H10 _ s10 ep2 _ => ?_
          walk_at "rd"
          refine rd_cat ((s9.trans s10) _ _ ep1) ep2 (by rw [List.length_take, List.length_singleton]; omega) fun p3 H11 _ s11 ep3 _ => ?_
          walk_at "rd"
          have s8_11 := (s9.trans s10).trans s11
          refine rd_slL (SqL.of (s8_11 _ _ eR8)) fun p4 H12 _ s12 ep4 _ => ?_
          have el : ((A + ((p lo.length).2.toNat - 1) : Nat) : Int) + 1 = ((A + ((p lo.length).2.toNat - 1) + 1 : Nat) : Int) := by omega
          rw [el, cut_drop] at ep4
          walk_at "rd"
          have hA1 : A + ((p lo.length).2.toNat - 1) < rows.length := (List.getElem?_eq_some_iff.mp hl1).1
          refine rd_cat (s12 _ _ ep3) ep4 (by rw [List.length_append, List.length_take, List.length_drop, List.length_singleton]; omega) fun R2 H13 hR2 s13 eR2 _ => ?_
          walk_at "rd"
          have sall := (((s7.trans s8).trans s8_11).trans s12)
          have eG13 := (sall.trans s13) _ _ eG
          refine rd_tyL eG13 ?_
          walk_at "rd"
          refine rd_app eG13 (by simp; omega) fun H14 eH14 eG14 => ?_
          walk_at "rd"
          have hR2G : R2 ≠ G := fun z => by rw [z] at hR2; rw [sall _ _ eG] at hR2; cases hR2
          have hR20 : H R2 = none := by
            cases z : H R2 with
            | none => rfl
            | some o => rw [(s6.trans sall) _ _ z] at hR2; cases hR2
          refine ⟨lo ++ [x + 1 - (p lo.length).2], R2, _, some (.int lo.length), some (.int (p lo.length).1), some (.int (p lo.length).2), some (.ref D), v8, v9, _, _, by rw [eH14]; exact Same.mut (s6.trans (sall.trans s13)) hG0, by simp, hlt, hR20, hR2G, by rw [eH14, upd_ne hR2G]; exact eR2, ?_, ?_, ?_, ?_, ?_, rfl⟩
          · rw [List.length_append, List.length_append, List.length_take, List.length_drop, List.length_singleton]; omega
          · rw [hxs, ← hbake, List.map_append, List.map_append, List.map_take, List.map_drop, eH14]
            have s9_13 := ((s10.trans s11).trans s12).trans s13
            exact DnAll.updL eG13 ((((dR.take A).mono (sall.trans s13)).append (.cons (.tri (s9_13 _ _ et9)) .nil)).append ((dR.drop _).mono (sall.trans s13)))
          · rw [eG14, List.range_succ, List.map_append]; rfl
          · rw [ei, hxs]
          · rw [ec, hxs, List.range_succ, List.map_append, List.append_assoc]; rfl
    · rintro σ H6 ⟨lo, R, ys, v4, v5, v6, v7, v8, v9, v10, v11, s6, hlo, hil, _⟩
      exfalso
      have : ((60 : Int) - 0).toNat = 60 := by decide
      omega
theorem cal__law_played (T : TX K mg C_Rule C_Evidence C_Good C_Bad C_InTime C_Late C_BadDay Lc__law_worked Lp__law_worked) : Cal P w K mg base 3 "_law_played" spPlayed [] := by
  obtain ⟨f0, fd, D, dn⟩ := T.d__law_played
  have G__law_fallen := cal__law_fallen (P := P) (w := w) (base := base) T
  refine cal0 D (D.fn.binds dn fun _ _ _ _ _ _ us hl => match us, hl with | [_, _], _ => rfl) .nil sc__law_played (by walk_at "len") (fun cdv A outer s H vs Q E hr h => ?_)
  obtain ⟨a, f, q, n, rfl, tp, ok, n0, n1, k⟩ := h
  have gd := ok.good
  generalize hp : atp f q = p at *
  refine ⟨_, (pss_cons (ps_s 2 sc__law_played.nd (pe_lst (pa_cons (pe_tup (pa_cons (pe_lst pa_nil) (pa_cons (pe_lst pa_nil) pa_nil))) pa_nil)))
      (pss_cons (ps_for PassesOwn.never rfl (pi_range2 rfl T.b_range (pa_cons pe_int (pa_cons (pe_op op_add (pv 1) pe_int) pa_nil))) (pg_n 3 sc__law_played.nd) (pss_one (ps_expr (pe_bm PySem.F.plainAttrs_list PySem.F.slot_list_append PySem.F.type_list_append mt_append (pv 2) (pa_cons (pe_c G__law_fallen hr (by decide) rfl (pa_cons (pv 0) (pa_cons (pe_ix ix_tup (pe_ix ix_list (pv 2) (pe_un un_neg pe_int) (fun _ _ => rfl)) pe_int (fun _ _ => rfl)) (pa_cons (pv 3) pa_nil)))) pa_nil)))))
      (pss_one (ps_ret (pv 2))))), ?_⟩
  walk_at "rd"
  refine rd_newL (by simp) fun l1 H1 hl1 s1 e1 _ => ?_
  walk_at "rd"
  refine rd_newL (by simp) fun l2 H2 hl2 s2 e2 _ => ?_
  walk_at "rd"
  refine rd_newT (by simp) fun t H3 ht s3 et _ => ?_
  walk_at "rd"
  refine rd_newL (by simp) fun F H4 hF s4 eF _ => ?_
  walk_at "rd"
  have s14 := ((s1.trans s2).trans s3).trans s4
  have hF0 : H F = none := by
    cases z : H F with
    | none => rfl
    | some o => rw [((s1.trans s2).trans s3) _ _ z] at hF; cases hF
  have eN : ((n : Int) + 1 - 1).toNat = n.toNat := by omega
  refine rd_rgR2 (by omega) ?_
  rw [eN]
  refine forR_rng (fun i σ H' => ∃ v3, Same H H' ∧ PlayP H' F p (i + 1) ∧ σ = [some (.ref a), some (.int n), some (.ref F), v3]) ?_ ?_ ?_
  · refine ⟨none, s14, ⟨[.ref t], eF, rfl, fun i v hv => ?_⟩, rfl⟩
    match i, hv with
    | 0, hv =>
      cases hv
      refine ⟨t, l1, l2, rfl, s4 _ _ et, ⟨[], ((s2.trans s3).trans s4) _ _ e1, ?_⟩, ?_, ?_, ?_⟩
      · have : layersL p ((0 : Nat) : Int) = [] := by unfold layersL; rw [digits_zero p (by omega)]; rfl
        rw [this]; exact .nil
      · have : bakedL p ((0 : Nat) : Int) = [] := by unfold bakedL; rfl
        rw [this]; exact (s3.trans s4) _ _ e2
      · exact fun z => by rw [← z, (s2.trans s3) _ _ e1] at hF; cases hF
      · exact fun z => by rw [← z, s3 _ _ e2] at hF; cases hF
    | i + 1, hv => simp at hv
  · rintro i σ H5 hi ⟨v3, s5, ⟨vs, eF5, hl, hk⟩, rfl⟩
    walk_at "rd"
    refine rd_tyL eF5 ?_
    walk_at "rd"
    obtain ⟨xs, x, rfl⟩ : ∃ xs x, vs = xs ++ [x] := by
      rcases List.eq_nil_or_concat vs with z | ⟨xs, x, z⟩
      · rw [z] at hl; simp at hl
      · exact ⟨xs, x, by rw [z]; simp⟩
    refine rd_ixL eF5 (atI_last _ _) ?_
    walk_at "rd"
    have hxl : xs.length = i := by simpa using hl
    obtain ⟨t5, r5, g5, rfl, et5, er5, eg5, n5, m5⟩ := hk i x (by rw [List.getElem?_append_right (by omega), hxl, Nat.sub_self]; rfl)
    refine rd_ixT et5 (by rfl) ?_
    walk_at "rd"
    have eD : ((1 : Int) + (i : Int)) = (i : Int) + 1 := by omega
    rw [eD]
    refine ⟨a, r5, f, q, (i : Int), rfl, tp.mono s5, ok, by rw [hp]; exact er5, by omega, by omega, fun H6 t6 r6 g6 s6 hr6 hg6 et6 er6 eg6 => ?_⟩
    rw [hp] at er6 eg6
    walk_at "rd"
    refine rd_app (s6 _ _ eF5) (by simp; omega) fun H7 eH7 eF7 => ?_
    walk_at "rd"
    refine ⟨_, by rw [eH7]; exact Same.mut (s5.trans s6) hF0, ⟨_, eF7, by simp [hxl], fun j v hv => ?_⟩, rfl⟩
    rw [eH7]
    rcases Nat.lt_or_ge j (i + 1) with hj | hj
    · rw [List.getElem?_append_left (by simp; omega)] at hv
      exact ((hk j v hv).mono s6).upd (s6 _ _ eF5)
    · obtain rfl : j = i + 1 := by
        have := (List.getElem?_eq_some_iff.mp hv).1
        simp at this
        omega
      rw [List.getElem?_append_right (by simp; omega)] at hv
      have hv' : V.ref t6 = v := by simpa [hxl] using hv
      subst hv'
      refine TurnP.upd ?_ (s6 _ _ eF5)
      have ec : ((i + 1 : Nat) : Int) = (i : Int) + 1 := by omega
      rw [ec]
      exact ⟨t6, r6, g6, rfl, et6, er6, eg6, fun z => (by rw [z, eF5] at hr6; cases hr6), fun z => (by rw [z, eF5] at hg6; cases hg6)⟩
  · rintro σ H5 ⟨v3, s5, pl, rfl⟩
    walk_at "rd"
    have : (n + 1).toNat = n.toNat + 1 := by omega
    rw [this] at k
    exact k H5 F s5 hF0 pl
end
end Sl

set_option Elab.async false
set_option linter.all false
set_option maxRecDepth 100000
set_option maxHeartbeats 8000000
set_option exponentiation.threshold 9000
namespace Sl
open PySem L2 C8 StX Silt
local macro_rules | `(tactic| walk_at "side") => `(tactic| first
  | exact cdivw (by omega) (by omega)
  | exact cmulw (by omega) (by omega) (by omega) (by omega)
  | exact Or.inr ⟨by omega, by omega⟩
  | exact Or.inl ⟨by omega, by omega⟩
  | omega
  | exact ⟨by omega, by omega, by decide⟩
  | decide)
local macro_rules | `(tactic| walk_at "rd1") => `(tactic| first
  | with_reducible refine rd_seq ?_
  | with_reducible refine rd_asg ?_
  | with_reducible refine rd_drop ?_
  | with_reducible refine rd_ret ?_
  | with_reducible refine rd_retN ?_
  | with_reducible refine rd_ifS ?_
  | ((with_reducible refine rd_var0 ?_); refine ⟨_, rfl, ?_⟩)
  | with_reducible refine rd_c ?_
  | with_reducible refine rd_op ?_
  | with_reducible refine rd_un ?_
  | with_reducible refine rd_I0 ?_
  | with_reducible refine rd_U ?_
  | ((with_reducible refine rd_I ?c ?_); (case c => walk_at "side"))
  | with_reducible refine rd_ipI ?_
  | with_reducible refine rd_eqI ?_
  | with_reducible refine rd_neI ?_
  | with_reducible refine rd_test ?_
  | with_reducible refine rd_tB ?_
  | with_reducible refine rd_bl ?_
  | with_reducible refine rd_not ?_
  | with_reducible refine rd_and ?_
  | with_reducible refine rd_or ?_
  | with_reducible refine rd_andV ?_
  | with_reducible refine rd_orV ?_
  | with_reducible refine rd_notV ?_
  | with_reducible refine rd_ifE ?_
  | with_reducible refine rd_chain ?_
  | with_reducible refine rd_chain3 ?_
  | with_reducible refine rd_nil ?_
  | with_reducible refine rd_cons ?_
  | with_reducible refine rd_call ?_
  | with_reducible refine rd_CB ?_
  | with_reducible refine rd_par ?_
  | with_reducible refine rd_par2 ?_
  | with_reducible refine rd_par3 ?_
  | with_reducible refine rd_par4 ?_
  | ((with_reducible refine rd_aug0 ?_); refine ⟨_, rfl, ?_⟩)
  | with_reducible refine rd_gname ?_
  | with_reducible refine rd_gcons ?_
  | with_reducible refine rd_gnil ?_
  | with_reducible refine rd_max ?_
  | with_reducible refine rd_min ?_
  | with_reducible refine rd_int1 ?_
  | with_reducible refine rd_abs ?_
  | with_reducible refine rd_lst ?_
  | with_reducible refine rd_tup ?_
  | with_reducible refine rd_bm ?_
  | with_reducible refine rd_fld0 ?_
  | with_reducible refine rd_sl0 ?_
  | with_reducible refine rd_noP ?_
  | with_reducible refine rd_part ?_
  | with_reducible refine rd_part2 ?_
  | with_reducible refine rd_meth0 ?_
  | with_reducible refine rd_star ?_
  | with_reducible refine rd_for ?_
  | with_reducible refine rd_rng1 ?_
  | with_reducible refine rd_rng2 ?_
  | with_reducible refine rd_rng3 ?_
  | with_reducible refine rd_iList ?_
  | with_reducible refine rd_iTup ?_
  | with_reducible refine rd_iEnum ?_
  | with_reducible refine rd_lc ?_
  | with_reducible refine rd_yes ?_
  | with_reducible refine rd_augS ?_
  | with_reducible refine rd_drawNew ?_
  | with_reducible refine rd_make0 ?_
  | with_reducible refine rd_next ?_
  | with_reducible refine rd_break ?_
  | with_reducible refine rd_cont ?_
  | with_reducible refine rd_iteTT ?_
  | with_reducible refine rd_iteFF ?_
  | with_reducible refine rd_iteNTT ?_
  | with_reducible refine rd_iteNFF ?_
  | with_reducible refine rd_con0 ?_
  | with_reducible refine rd_truO0 ?_
  | with_reducible refine rd_gfld0 ?_
  | with_reducible refine rd_dc ?_
  | with_reducible refine rd_iKeys ?_
  | with_reducible refine rd_dget0 ?_
  | with_reducible refine rd_dput0 ?_
  | with_reducible refine rd_dnot0 ?_
  | with_reducible refine rd_iEnumT ?_
  | with_reducible refine rd_raP0 ?_
  | with_reducible refine rd_xf0 ?_
  | with_reducible refine rd_cKw ?_
  | with_reducible refine rd_asgG ?_)
local macro_rules | `(tactic| walk_at "rd") => `(tactic| repeat walk_at "rd1")
local macro_rules | `(tactic| walk_at "len") => `(tactic| first
  | (intro vs H Q E h; obtain ⟨h2, _⟩ := h; rw [h2]; rfl)
  | (intro vs H Q E h; obtain ⟨_, h2, _⟩ := h; rw [h2]; rfl)
  | (intro vs H Q E h; obtain ⟨_, _, h2, _⟩ := h; rw [h2]; rfl)
  | (intro vs H Q E h; obtain ⟨_, _, _, h2, _⟩ := h; rw [h2]; rfl)
  | (intro vs H Q E h; obtain ⟨_, _, _, _, h2, _⟩ := h; rw [h2]; rfl)
  | (intro vs H Q E h; obtain ⟨_, _, _, _, _, h2, _⟩ := h; rw [h2]; rfl)
  | (intro vs H Q E h; obtain ⟨_, _, _, _, _, _, h2, _⟩ := h; rw [h2]; rfl)
  | (intro vs H Q E h; obtain ⟨_, _, _, _, _, _, _, h2, _⟩ := h; rw [h2]; rfl)
  | (intro vs H Q E h; obtain ⟨_, _, _, _, _, _, _, _, h2, _⟩ := h; rw [h2]; rfl)
  | (intro vs H Q E h; obtain ⟨_, _, _, _, _, _, _, _, _, h2, _⟩ := h; rw [h2]; rfl)
  | (intro vs H Q E h; obtain ⟨_, _, _, _, _, _, _, _, _, _, h2, _⟩ := h; rw [h2]; rfl)
  | (intro vs H Q E h; obtain ⟨_, _, _, _, _, _, _, _, _, _, _, h2, _⟩ := h; rw [h2]; rfl)
  | (intro vs H Q E h; obtain ⟨_, _, _, _, _, _, _, _, _, _, _, _, h2, _⟩ := h; rw [h2]; rfl))
/-! ### evidence with a number and a day -/
def evF (n d : Int) : List (Str × V) := [("number", .int n), ("day", .int d)]
def EvP (C : Addr) (H : Hp) (a : Addr) (n d : Int) : Prop := ∃ dx, H a = some (.ins C dx (evF n d))
theorem EvP.mono {C : Addr} {H H' : Hp} {a : Addr} {n d : Int} (s : Same H H') (h : EvP C H a n d) : EvP C H' a n d := by
  obtain ⟨dx, e⟩ := h
  exact ⟨dx, s _ _ e⟩
theorem ev_number (n d : Int) : (evF n d).lookup ("number" : Str) = some (.int n) := by rfl
theorem ev_day (n d : Int) : (evF n d).lookup ("day" : Str) = some (.int d) := by
  have h : (("day" : Str) == "number") = false := by decide +kernel
  show (match (("day" : Str) == "number") with | true => some (V.int n) | false => _) = _
  rw [h]
  rfl
theorem ev_word (n d : Int) : (evF n d).lookup ("WORD" : Str) = none := by
  have h : (("WORD" : Str) == "number") = false := by decide +kernel
  have h2 : (("WORD" : Str) == "day") = false := by decide +kernel
  show (match (("WORD" : Str) == "number") with | true => some (V.int n) | false => (match (("WORD" : Str) == "day") with | true => some (V.int d) | false => none)) = _
  rw [h, h2]
theorem put_ev (n d : Int) : putF "day" (.int d) (putF "number" (.int n) []) = evF n d := by
  have h : ¬ (("number" : Str) = "day") := by decide +kernel
  show (if ("number" : Str) = "day" then [(("number" : Str), V.int d)] else (("number" : Str), V.int n) :: putF "day" (V.int d) []) = evF n d
  rw [if_neg h]
  rfl
theorem ev_meth (n d : Int) {m : Str} (h : (m == ("number" : Str)) = false) (h2 : (m == ("day" : Str)) = false) : (evF n d).lookup m = none := by
  show (match (m == ("number" : Str)) with | true => some (V.int n) | false => (match (m == ("day" : Str)) with | true => some (V.int d) | false => none)) = _
  rw [h, h2]
def spEv (C : Addr) : Sp := fun vs H Q _ => ∃ (self dx : Addr) (H0 : Hp) (n d : Int), vs = [.ref self, .int n, .int d] ∧ Same H0 H ∧ H0 self = none ∧ H self = some (.ins C dx []) ∧ ∀ H', Same H0 H' → EvP C H' self n d → Q .non H'
def spTrue : Sp := fun vs H Q _ => ∃ (a : Addr), vs = [.ref a] ∧ Q (.bl true) H
def spPieces (C : Addr) : Sp := fun vs H Q _ => ∃ (a : Addr) (n d : Int), vs = [.ref a] ∧ EvP C H a n d ∧ ∀ H' t, Same H H' → H' t = some (.tup [.int n, .int d]) → Q (.ref t) H'
def spEvEq (C : Addr) : Sp := fun vs H Q _ => ∃ (a b : Addr) (n d m e : Int), vs = [.ref a, .ref b] ∧ EvP C H a n d ∧ EvP C H b m e ∧ ∀ H', Same H H' → Q (.bl (decide (n = m ∧ d = e))) H'
def spMost (CR C : Addr) : Sp := fun vs H Q _ => ∃ (a : Addr) (p : Pr) (l : Int), vs = [.ref a, .int l] ∧ RuleP CR H a p ∧ (0 ≤ l ∧ l ≤ 10 ^ 21) ∧
  ∀ H' x (N : Int), Same H H' → 0 ≤ N → firstWith p N ≤ l → l < firstWith p (N + 1) → EvP C H' x N (firstWith p N) → Q (.ref x) H'
def ShowsM (p : Pr) (n d l : Int) : Prop := 0 ≤ d ∧ d ≤ l ∧ 0 ≤ n ∧ (digits p d).sum = n ∧ firstWith p n = d ∧ l < firstWith p (n + 1)
def spMostS (CR C : Addr) : Sp := fun vs H Q _ => ∃ (a r : Addr) (p : Pr) (n d l : Int), vs = [.ref a, .ref r, .int l] ∧ EvP C H a n d ∧ RuleP CR H r p ∧ (0 ≤ l ∧ l ≤ DD) ∧ n ≤ 1900 ∧ ∀ H' b, Same H H' → (b = true ↔ ShowsM p n d l) → Q (.bl b) H'
def spLeastD (CR : Addr) : Sp := fun vs H Q _ => ∃ (r : Addr) (p : Pr) (k : Nat), vs = [.ref r, .int k] ∧ RuleP CR H r p ∧ k ≤ 2100 ∧ ∀ H' t, Same H H' → H t = none → H' t = some (.lst ((leastD p k).map V.int)) → Q (.ref t) H'
/-- a list (at D) of lists of ints -/
def LsP (H : Hp) (D : Addr) (us : List V) (rs : List (List Int)) : Prop := us.length = rs.length ∧ ∀ (i : Nat) r, rs[i]? = some r → ∃ t, us[i]? = some (.ref t) ∧ t ≠ D ∧ H t = some (.lst (r.map V.int))
theorem LsP.mono {H H' : Hp} {D : Addr} {us : List V} {rs : List (List Int)} (s : Same H H') (h : LsP H D us rs) : LsP H' D us rs :=
  ⟨h.1, fun i r hr => by obtain ⟨t, h1, h2, h3⟩ := h.2 i r hr; exact ⟨t, h1, h2, s _ _ h3⟩⟩
theorem LsP.upd {H : Hp} {D : Addr} {us : List V} {rs : List (List Int)} {o : HO} (h : LsP H D us rs) : LsP (upd H D o) D us rs :=
  ⟨h.1, fun i r hr => by obtain ⟨t, h1, h2, h3⟩ := h.2 i r hr; exact ⟨t, h1, h2, by rw [upd_ne h2]; exact h3⟩⟩
theorem LsP.app {H : Hp} {D t : Addr} {us : List V} {rs : List (List Int)} {r : List Int} (h : LsP H D us rs) (n : t ≠ D) (e : H t = some (.lst (r.map V.int))) : LsP H D (us ++ [.ref t]) (rs ++ [r]) := by
  refine ⟨by simp [h.1], fun i r' hr => ?_⟩
  rcases Nat.lt_or_ge i rs.length with z | z
  · rw [List.getElem?_append_left z] at hr
    obtain ⟨t', h1, h2, h3⟩ := h.2 i r' hr
    exact ⟨t', by rw [List.getElem?_append_left (by rw [h.1]; exact z)]; exact h1, h2, h3⟩
  · rw [List.getElem?_append_right z] at hr
    have hi : i = rs.length := by
      have := (List.getElem?_eq_some_iff.mp hr).1
      simp at this
      omega
    subst hi
    simp at hr
    subst hr
    exact ⟨t, by rw [List.getElem?_append_right (by rw [h.1]; exact Nat.le_refl _), h.1]; simp, n, e⟩
theorem LsP.nil {H : Hp} {D : Addr} : LsP H D [] [] := ⟨rfl, fun i r hr => by simp at hr⟩
def spRaised (CR : Addr) : Sp := fun vs H Q _ => ∃ (r t : Addr) (p : Pr) (ds : List Int), vs = [.ref r, .ref t] ∧ RuleP CR H r p ∧ H t = some (.lst (ds.map V.int)) ∧ ds.length ≤ 2000 ∧ ∀ H' D us, Same H H' → H' D = some (.lst us) → LsP H' D us (ds :: RT p ds) → Q (.ref D) H'
def spFewest (CR C : Addr) : Sp := fun vs H Q _ => ∃ (r : Addr) (p : Pr) (d : Int), vs = [.ref r, .int d] ∧ RuleP CR H r p ∧ (0 ≤ d ∧ d ≤ 10 ^ 21) ∧ ∀ H' x k, Same H H' → LeastP p d k → EvP C H' x k.1 k.2 → Q (.ref x) H'
def spFewS (CR C : Addr) : Sp := fun vs H Q _ => ∃ (a r : Addr) (p : Pr) (n e d : Int), vs = [.ref a, .ref r, .int d] ∧ EvP C H a n e ∧ RuleP CR H r p ∧ (0 ≤ d ∧ d ≤ 10 ^ 21) ∧ ∀ H' k, Same H H' → LeastP p d k → Q (.bl (decide (n = k.1 ∧ e = k.2))) H'
/-- a call of first_with that is refused -/
def spFirstX (CR C : Addr) : Sp := fun vs H _ E => ∃ (a : Addr) (p : Pr) (v : V), vs = [.ref a, v] ∧ RuleP CR H a p ∧ BadN v 0 ∧ E (.ref C) none H
theorem far_dd : (10 : Int) ^ 21 ≤ DD := by have := dd_far; omega
theorem far_bits : (10 : Int) ^ 21 < ((2 ^ 70 : Nat) : Int) := by decide
theorem few_len {p : Pr} (g : Good p) {d : Int} (h : 0 ≤ d) (h2 : d ≤ 10 ^ 21) : (digits p d).length ≤ 70 := digits_len g 70 d h (by have := far_bits; omega)
section
variable {P : Program} {w : World} {K : PySem.W.Frag} {mg : Str → Option Value} {base : Heap} {C_Rule C_Evidence C_Good C_Bad C_InTime C_Late C_BadDay Lc__law_worked Lp__law_worked : Addr}
end
end Sl

set_option Elab.async false
set_option linter.all false
set_option maxRecDepth 100000
set_option maxHeartbeats 8000000
set_option exponentiation.threshold 9000
namespace Sl
open PySem L2 C8 StX Silt
local macro_rules | `(tactic| walk_at "side") => `(tactic| first
  | exact cdivw (by omega) (by omega)
  | exact cmulw (by omega) (by omega) (by omega) (by omega)
  | exact Or.inr ⟨by omega, by omega⟩
  | exact Or.inl ⟨by omega, by omega⟩
  | omega
  | exact ⟨by omega, by omega, by decide⟩
  | decide)
local macro_rules | `(tactic| walk_at "rd1") => `(tactic| first
  | with_reducible refine rd_seq ?_
  | with_reducible refine rd_asg ?_
  | with_reducible refine rd_drop ?_
  | with_reducible refine rd_ret ?_
  | with_reducible refine rd_retN ?_
  | with_reducible refine rd_ifS ?_
  | ((with_reducible refine rd_var0 ?_); refine ⟨_, rfl, ?_⟩)
  | with_reducible refine rd_c ?_
  | with_reducible refine rd_op ?_
  | with_reducible refine rd_un ?_
  | with_reducible refine rd_I0 ?_
  | with_reducible refine rd_U ?_
  | ((with_reducible refine rd_I ?c ?_); (case c => walk_at "side"))
  | with_reducible refine rd_ipI ?_
  | with_reducible refine rd_eqI ?_
  | with_reducible refine rd_neI ?_
  | with_reducible refine rd_test ?_
  | with_reducible refine rd_tB ?_
  | with_reducible refine rd_bl ?_
  | with_reducible refine rd_not ?_
  | with_reducible refine rd_and ?_
  | with_reducible refine rd_or ?_
  | with_reducible refine rd_andV ?_
  | with_reducible refine rd_orV ?_
  | with_reducible refine rd_notV ?_
  | with_reducible refine rd_ifE ?_
  | with_reducible refine rd_chain ?_
  | with_reducible refine rd_chain3 ?_
  | with_reducible refine rd_nil ?_
  | with_reducible refine rd_cons ?_
  | with_reducible refine rd_call ?_
  | with_reducible refine rd_CB ?_
  | with_reducible refine rd_par ?_
  | with_reducible refine rd_par2 ?_
  | with_reducible refine rd_par3 ?_
  | with_reducible refine rd_par4 ?_
  | ((with_reducible refine rd_aug0 ?_); refine ⟨_, rfl, ?_⟩)
  | with_reducible refine rd_gname ?_
  | with_reducible refine rd_gcons ?_
  | with_reducible refine rd_gnil ?_
  | with_reducible refine rd_max ?_
  | with_reducible refine rd_min ?_
  | with_reducible refine rd_int1 ?_
  | with_reducible refine rd_abs ?_
  | with_reducible refine rd_lst ?_
  | with_reducible refine rd_tup ?_
  | with_reducible refine rd_bm ?_
  | with_reducible refine rd_fld0 ?_
  | with_reducible refine rd_sl0 ?_
  | with_reducible refine rd_noP ?_
  | with_reducible refine rd_part ?_
  | with_reducible refine rd_part2 ?_
  | with_reducible refine rd_meth0 ?_
  | with_reducible refine rd_star ?_
  | with_reducible refine rd_for ?_
  | with_reducible refine rd_rng1 ?_
  | with_reducible refine rd_rng2 ?_
  | with_reducible refine rd_rng3 ?_
  | with_reducible refine rd_iList ?_
  | with_reducible refine rd_iTup ?_
  | with_reducible refine rd_iEnum ?_
  | with_reducible refine rd_lc ?_
  | with_reducible refine rd_yes ?_
  | with_reducible refine rd_augS ?_
  | with_reducible refine rd_drawNew ?_
  | with_reducible refine rd_make0 ?_
  | with_reducible refine rd_next ?_
  | with_reducible refine rd_break ?_
  | with_reducible refine rd_cont ?_
  | with_reducible refine rd_iteTT ?_
  | with_reducible refine rd_iteFF ?_
  | with_reducible refine rd_iteNTT ?_
  | with_reducible refine rd_iteNFF ?_
  | with_reducible refine rd_con0 ?_
  | with_reducible refine rd_truO0 ?_
  | with_reducible refine rd_gfld0 ?_
  | with_reducible refine rd_dc ?_
  | with_reducible refine rd_iKeys ?_
  | with_reducible refine rd_dget0 ?_
  | with_reducible refine rd_dput0 ?_
  | with_reducible refine rd_dnot0 ?_
  | with_reducible refine rd_iEnumT ?_
  | with_reducible refine rd_raP0 ?_
  | with_reducible refine rd_xf0 ?_
  | with_reducible refine rd_cKw ?_
  | with_reducible refine rd_asgG ?_)
local macro_rules | `(tactic| walk_at "rd") => `(tactic| repeat walk_at "rd1")
local macro_rules | `(tactic| walk_at "len") => `(tactic| first
  | (intro vs H Q E h; obtain ⟨h2, _⟩ := h; rw [h2]; rfl)
  | (intro vs H Q E h; obtain ⟨_, h2, _⟩ := h; rw [h2]; rfl)
  | (intro vs H Q E h; obtain ⟨_, _, h2, _⟩ := h; rw [h2]; rfl)
  | (intro vs H Q E h; obtain ⟨_, _, _, h2, _⟩ := h; rw [h2]; rfl)
  | (intro vs H Q E h; obtain ⟨_, _, _, _, h2, _⟩ := h; rw [h2]; rfl)
  | (intro vs H Q E h; obtain ⟨_, _, _, _, _, h2, _⟩ := h; rw [h2]; rfl)
  | (intro vs H Q E h; obtain ⟨_, _, _, _, _, _, h2, _⟩ := h; rw [h2]; rfl)
  | (intro vs H Q E h; obtain ⟨_, _, _, _, _, _, _, h2, _⟩ := h; rw [h2]; rfl)
  | (intro vs H Q E h; obtain ⟨_, _, _, _, _, _, _, _, h2, _⟩ := h; rw [h2]; rfl)
  | (intro vs H Q E h; obtain ⟨_, _, _, _, _, _, _, _, _, h2, _⟩ := h; rw [h2]; rfl)
  | (intro vs H Q E h; obtain ⟨_, _, _, _, _, _, _, _, _, _, h2, _⟩ := h; rw [h2]; rfl)
  | (intro vs H Q E h; obtain ⟨_, _, _, _, _, _, _, _, _, _, _, h2, _⟩ := h; rw [h2]; rfl)
  | (intro vs H Q E h; obtain ⟨_, _, _, _, _, _, _, _, _, _, _, _, h2, _⟩ := h; rw [h2]; rfl))
theorem dt_ints {H : Hp} {u : Addr} {ns : List Int} (e : H u = some (.lst (ns.map V.int))) : Dt H (.ref u) (.list (intsD ns)) := .lst e (DtAll.intsD ns)
theorem dt_tup2 {H : Hp} {u : Addr} {a b : Int} (e : H u = some (.tup [.int a, .int b])) : Dt H (.ref u) (pairD (a, b)) := .tup e (.cons (.int _) (.cons (.int _) .nil))
theorem fewPs_len (p : Pr) (d : Int) : (fewPs p d).length = (digits p d :: RT p (digits p d)).length := by unfold fewPs; rw [List.length_map]
theorem upD_len (p : Pr) (ds : List Int) (i : Nat) : (upD p ds i).length ≤ i := by
  unfold upD
  rw [List.length_map]
  have := List.length_filter_le (fun g => decide (ds.getD g 0 + 1 < (p g).1)) (List.range i)
  rw [List.length_range] at this
  exact this
theorem RT_len (p : Pr) (ds : List Int) : (RT p ds).length ≤ ds.length + 1 := by
  rw [RT_eq, List.length_append, List.length_singleton]
  have := upD_len p ds ds.length
  omega
theorem RT_lens : ∀ (p : Pr) (ds : List Int), ∀ r ∈ RT p ds, r.length ≤ ds.length + 1
  | p, [], r, h => by
    have h : r ∈ [[(1 : Int)]] := h
    rw [List.mem_singleton] at h
    subst h
    simp
  | p, x :: xs, r, h => by
    have h : r ∈ (if x + 1 < (p 0).1 then [(x + 1) :: xs] else []) ++ (RT (tl p 1) xs).map (((p 0).1 - (p 0).2) :: ·) := h
    rcases List.mem_append.mp h with z | z
    · by_cases c : x + 1 < (p 0).1
      · rw [if_pos c, List.mem_singleton] at z
        subst z
        simp
      · rw [if_neg c] at z; cases z
    · obtain ⟨r', hr', rfl⟩ := List.mem_map.mp z
      have := RT_lens (tl p 1) xs r' hr'
      rw [List.length_cons, List.length_cons]
      omega
theorem leastD_len (p : Pr) (k : Nat) : (leastD p k).length = k := by unfold leastD; rw [List.length_map, List.length_range]
theorem getD_of {ds : List Int} {i : Nat} {x : Int} (h : ds[i]? = some x) : ds.getD i 0 = x := by
  rw [List.getD_eq_getElem?_getD, h]; rfl
theorem ltPr_iff {x y : Int × Int} : L2.ltPr x y = false ↔ ¬ (x.1 < y.1 ∨ x.1 = y.1 ∧ x.2 < y.2) := by
  unfold L2.ltPr
  rw [decide_eq_false_iff_not]
section
variable {P : Program} {w : World} {K : PySem.W.Frag} {mg : Str → Option Value} {base : Heap} {C_Rule C_Evidence C_Good C_Bad C_InTime C_Late C_BadDay Lc__law_worked Lp__law_worked : Addr}
end
end Sl

set_option Elab.async false
set_option linter.all false
set_option maxRecDepth 100000
set_option maxHeartbeats 8000000
set_option exponentiation.threshold 9000
namespace Sl
open PySem L2 C8 StX Silt
local macro_rules | `(tactic| walk_at "side") => `(tactic| first
  | exact cdivw (by omega) (by omega)
  | exact cmulw (by omega) (by omega) (by omega) (by omega)
  | exact Or.inr ⟨by omega, by omega⟩
  | exact Or.inl ⟨by omega, by omega⟩
  | omega
  | exact ⟨by omega, by omega, by decide⟩
  | decide)
local macro_rules | `(tactic| walk_at "rd1") => `(tactic| first
  | with_reducible refine rd_seq ?_
  | with_reducible refine rd_asg ?_
  | with_reducible refine rd_drop ?_
  | with_reducible refine rd_ret ?_
  | with_reducible refine rd_retN ?_
  | with_reducible refine rd_ifS ?_
  | ((with_reducible refine rd_var0 ?_); refine ⟨_, rfl, ?_⟩)
  | with_reducible refine rd_c ?_
  | with_reducible refine rd_op ?_
  | with_reducible refine rd_un ?_
  | with_reducible refine rd_I0 ?_
  | with_reducible refine rd_U ?_
  | ((with_reducible refine rd_I ?c ?_); (case c => walk_at "side"))
  | with_reducible refine rd_ipI ?_
  | with_reducible refine rd_eqI ?_
  | with_reducible refine rd_neI ?_
  | with_reducible refine rd_test ?_
  | with_reducible refine rd_tB ?_
  | with_reducible refine rd_bl ?_
  | with_reducible refine rd_not ?_
  | with_reducible refine rd_and ?_
  | with_reducible refine rd_or ?_
  | with_reducible refine rd_andV ?_
  | with_reducible refine rd_orV ?_
  | with_reducible refine rd_notV ?_
  | with_reducible refine rd_ifE ?_
  | with_reducible refine rd_chain ?_
  | with_reducible refine rd_chain3 ?_
  | with_reducible refine rd_nil ?_
  | with_reducible refine rd_cons ?_
  | with_reducible refine rd_call ?_
  | with_reducible refine rd_CB ?_
  | with_reducible refine rd_par ?_
  | with_reducible refine rd_par2 ?_
  | with_reducible refine rd_par3 ?_
  | with_reducible refine rd_par4 ?_
  | ((with_reducible refine rd_aug0 ?_); refine ⟨_, rfl, ?_⟩)
  | with_reducible refine rd_gname ?_
  | with_reducible refine rd_gcons ?_
  | with_reducible refine rd_gnil ?_
  | with_reducible refine rd_max ?_
  | with_reducible refine rd_min ?_
  | with_reducible refine rd_int1 ?_
  | with_reducible refine rd_abs ?_
  | with_reducible refine rd_lst ?_
  | with_reducible refine rd_tup ?_
  | with_reducible refine rd_bm ?_
  | with_reducible refine rd_fld0 ?_
  | with_reducible refine rd_sl0 ?_
  | with_reducible refine rd_noP ?_
  | with_reducible refine rd_part ?_
  | with_reducible refine rd_part2 ?_
  | with_reducible refine rd_meth0 ?_
  | with_reducible refine rd_star ?_
  | with_reducible refine rd_for ?_
  | with_reducible refine rd_rng1 ?_
  | with_reducible refine rd_rng2 ?_
  | with_reducible refine rd_rng3 ?_
  | with_reducible refine rd_iList ?_
  | with_reducible refine rd_iTup ?_
  | with_reducible refine rd_iEnum ?_
  | with_reducible refine rd_lc ?_
  | with_reducible refine rd_yes ?_
  | with_reducible refine rd_augS ?_
  | with_reducible refine rd_drawNew ?_
  | with_reducible refine rd_make0 ?_
  | with_reducible refine rd_next ?_
  | with_reducible refine rd_break ?_
  | with_reducible refine rd_cont ?_
  | with_reducible refine rd_iteTT ?_
  | with_reducible refine rd_iteFF ?_
  | with_reducible refine rd_iteNTT ?_
  | with_reducible refine rd_iteNFF ?_
  | with_reducible refine rd_con0 ?_
  | with_reducible refine rd_truO0 ?_
  | with_reducible refine rd_gfld0 ?_
  | with_reducible refine rd_dc ?_
  | with_reducible refine rd_iKeys ?_
  | with_reducible refine rd_dget0 ?_
  | with_reducible refine rd_dput0 ?_
  | with_reducible refine rd_dnot0 ?_
  | with_reducible refine rd_iEnumT ?_
  | with_reducible refine rd_raP0 ?_
  | with_reducible refine rd_xf0 ?_
  | with_reducible refine rd_cKw ?_
  | with_reducible refine rd_asgG ?_)
local macro_rules | `(tactic| walk_at "rd") => `(tactic| repeat walk_at "rd1")
local macro_rules | `(tactic| walk_at "len") => `(tactic| first
  | (intro vs H Q E h; obtain ⟨h2, _⟩ := h; rw [h2]; rfl)
  | (intro vs H Q E h; obtain ⟨_, h2, _⟩ := h; rw [h2]; rfl)
  | (intro vs H Q E h; obtain ⟨_, _, h2, _⟩ := h; rw [h2]; rfl)
  | (intro vs H Q E h; obtain ⟨_, _, _, h2, _⟩ := h; rw [h2]; rfl)
  | (intro vs H Q E h; obtain ⟨_, _, _, _, h2, _⟩ := h; rw [h2]; rfl)
  | (intro vs H Q E h; obtain ⟨_, _, _, _, _, h2, _⟩ := h; rw [h2]; rfl)
  | (intro vs H Q E h; obtain ⟨_, _, _, _, _, _, h2, _⟩ := h; rw [h2]; rfl)
  | (intro vs H Q E h; obtain ⟨_, _, _, _, _, _, _, h2, _⟩ := h; rw [h2]; rfl)
  | (intro vs H Q E h; obtain ⟨_, _, _, _, _, _, _, _, h2, _⟩ := h; rw [h2]; rfl)
  | (intro vs H Q E h; obtain ⟨_, _, _, _, _, _, _, _, _, h2, _⟩ := h; rw [h2]; rfl)
  | (intro vs H Q E h; obtain ⟨_, _, _, _, _, _, _, _, _, _, h2, _⟩ := h; rw [h2]; rfl)
  | (intro vs H Q E h; obtain ⟨_, _, _, _, _, _, _, _, _, _, _, h2, _⟩ := h; rw [h2]; rfl)
  | (intro vs H Q E h; obtain ⟨_, _, _, _, _, _, _, _, _, _, _, _, h2, _⟩ := h; rw [h2]; rfl))
/-! ### what stands while a dict is walked -/
mutual
theorem Dt.lock {H : Hp} {d : Addr} {kvs : List (Key × V)} {o : HO} (e : H d = some (.dK kvs)) : ∀ {v : V} {x : PyData}, Dt H v x → Dt (upd H d o) v x
  | _, _, .non => .non
  | _, _, .bl b => .bl b
  | _, _, .int i => .int i
  | _, _, .str x => .str x
  | _, _, .lst (a := a) e2 h => .lst (by rw [upd_ne (fun z => by rw [z, e] at e2; cases e2)]; exact e2) (DtAll.lock e h)
  | _, _, .tup (a := a) e2 h => .tup (by rw [upd_ne (fun z => by rw [z, e] at e2; cases e2)]; exact e2) (DtAll.lock e h)
theorem DtAll.lock {H : Hp} {d : Addr} {kvs : List (Key × V)} {o : HO} (e : H d = some (.dK kvs)) : ∀ {vs : List V} {ds : List PyData}, DtAll H vs ds → DtAll (upd H d o) vs ds
  | _, _, .nil => .nil
  | _, _, .cons h t => .cons (Dt.lock e h) (DtAll.lock e t)
end
theorem RuleP.lock {C : Addr} {H : Hp} {a d : Addr} {p : Pr} {kvs : List (Key × V)} {o : HO} (e : H d = some (.dK kvs)) (h : RuleP C H a p) : RuleP C (upd H d o) a p := by
  obtain ⟨f, q, ⟨dx, t1, t2, e1, h1, h2⟩, hq, hp, g⟩ := h
  exact ⟨f, q, ⟨dx, t1, t2, by rw [upd_ne (fun z => by rw [z, e] at e1; cases e1)]; exact e1, h1.lock e, h2.lock e⟩, hq, hp, g⟩
theorem Same.unlock {H H' : Hp} {d : Addr} {u o : HO} (e : H d = some u) (s : Same (upd H d o) H') : Same H (upd H' d u) := fun a w ha => by
  by_cases z : a = d
  · subst z
    rw [e] at ha
    cases ha
    exact upd_same
  · rw [upd_ne z]
    refine s _ _ ?_
    rw [upd_ne z]
    exact ha
theorem Same.at {H H' : Hp} {d : Addr} {o : HO} (s : Same (upd H d o) H') : H' d = some o := s _ _ upd_same
/-! ### choices -/
def ChP (C : Addr) (H : Hp) (a : Addr) (ps : Nat → Pr) (m : Nat) : Prop := ∃ vs, H a = some (.lst vs) ∧ vs.length = m ∧ ∀ i : Nat, i < m → ∃ r, vs[i]? = some (.ref r) ∧ RuleP C H r (ps i)
theorem ChP.mono {C : Addr} {H H' : Hp} {a : Addr} {ps : Nat → Pr} {m : Nat} (s : Same H H') (h : ChP C H a ps m) : ChP C H' a ps m := by
  obtain ⟨vs, e, l, k⟩ := h
  refine ⟨vs, s _ _ e, l, fun i hi => ?_⟩
  obtain ⟨r, h1, h2⟩ := k i hi
  exact ⟨r, h1, h2.mono s⟩
theorem ChP.lock {C : Addr} {H : Hp} {a d : Addr} {ps : Nat → Pr} {m : Nat} {kvs : List (Key × V)} {o : HO} (e : H d = some (.dK kvs)) (h : ChP C H a ps m) : ChP C (upd H d o) a ps m := by
  obtain ⟨vs, e1, l, k⟩ := h
  refine ⟨vs, by rw [upd_ne (fun z => by rw [z, e] at e1; cases e1)]; exact e1, l, fun i hi => ?_⟩
  obtain ⟨r, h1, h2⟩ := k i hi
  exact ⟨r, h1, h2.lock e⟩
theorem ChP.good {C : Addr} {H : Hp} {a : Addr} {ps : Nat → Pr} {m i : Nat} (h : ChP C H a ps m) (hi : i < m) : Good (ps i) := by
  obtain ⟨vs, e1, l, k⟩ := h
  obtain ⟨r, h1, h2⟩ := k i hi
  exact h2.good
def natI (l : List Nat) : List Int := l.map fun (i : Nat) => (i : Int)
theorem natI_inj : ∀ {a b : List Nat}, natI a = natI b → a = b
  | [], [], _ => rfl
  | [], _ :: _, h => by cases h
  | _ :: _, [], h => by cases h
  | x :: xs, y :: ys, h => by
    have h : (x : Int) :: natI xs = (y : Int) :: natI ys := h
    injection h with h1 h2
    rw [natI_inj h2, show x = y by omega]
theorem natI_asc {l : List Nat} (h : l.Pairwise (· < ·)) : (natI l).Pairwise (· < ·) := List.Pairwise.map _ (fun a b z => by omega) h
theorem asc_nodup {l : List Int} (h : l.Pairwise (· < ·)) : l.Nodup := h.imp fun z => by omega
def dN (l : List Nat) (g : Nat → Int) : List (Int × Int) := l.map fun (i : Nat) => ((i : Int), g i)
theorem dN_keys (l : List Nat) (g : Nat → Int) : (dN l g).map (·.1) = natI l := by unfold dN natI; rw [List.map_map]; rfl
def cheF (k : Int) (D : Addr) : List (Str × V) := [("place", .int k), ("against", .ref D)]
theorem che_place (k : Int) (D : Addr) : (cheF k D).lookup ("place" : Str) = some (.int k) := by rfl
theorem che_against (k : Int) (D : Addr) : (cheF k D).lookup ("against" : Str) = some (.ref D) := by
  have h : (("against" : Str) == "place") = false := by decide +kernel
  show (match (("against" : Str) == "place") with | true => some (V.int k) | false => _) = _
  rw [h]
  rfl
theorem che_meth (k : Int) (D : Addr) {m : Str} (h : (m == ("place" : Str)) = false) (h2 : (m == ("against" : Str)) = false) : (cheF k D).lookup m = none := by
  show (match (m == ("place" : Str)) with | true => some (V.int k) | false => (match (m == ("against" : Str)) with | true => some (V.ref D) | false => none)) = _
  rw [h, h2]
theorem put_che (k : Int) (D : Addr) : putF "against" (.ref D) (putF "place" (.int k) []) = cheF k D := by
  have h : ¬ (("place" : Str) = "against") := by decide +kernel
  show (if ("place" : Str) = "against" then [(("place" : Str), V.ref D)] else (("place" : Str), V.int k) :: putF "against" (V.ref D) []) = cheF k D
  rw [if_neg h]
  rfl
def CheP (C : Addr) (H : Hp) (x : Addr) (k : Int) (D : Addr) (ls : List (Int × Int)) : Prop := (∃ dx, H x = some (.ins C dx (cheF k D))) ∧ H D = some (.dK (dI ls))
theorem CheP.mono {C : Addr} {H H' : Hp} {x D : Addr} {k : Int} {ls : List (Int × Int)} (s : Same H H') (h : CheP C H x k D ls) : CheP C H' x k D ls := by
  obtain ⟨⟨dx, e⟩, e2⟩ := h
  exact ⟨⟨dx, s _ _ e⟩, s _ _ e2⟩
abbrev wkF (ps : Nat → Pr) (d : Int) : Nat → Int := fun i => work (ps i) d
abbrev fsF (ps : Nat → Pr) (n : Int) : Nat → Int := fun i => firstWith (ps i) (n + 1)
def spChkC (C : Addr) : Sp := fun vs H Q _ => ∃ (a : Addr) (ps : Nat → Pr) (m : Nat), vs = [.ref a] ∧ ChP C H a ps m ∧ (1 ≤ m ∧ m ≤ 40) ∧ ∀ H', Same H H' → Q .non H'
def spChkA (C : Addr) : Sp := fun vs H Q _ => ∃ (a : Addr) (ps : Nat → Pr) (m : Nat) (n d : Int), vs = [.ref a, .int n, .int d] ∧ ChP C H a ps m ∧ (1 ≤ m ∧ m ≤ 40) ∧ 0 ≤ n ∧ 0 ≤ d ∧ ∀ H', Same H H' → Q .non H'
def spAhead (C : Addr) : Sp := fun vs H Q _ => ∃ (a : Addr) (ps : Nat → Pr) (m k : Nat) (d : Int), vs = [.ref a, .int (k : Nat), .int d] ∧ ChP C H a ps m ∧ m ≤ 40 ∧ k < m ∧ (0 ≤ d ∧ d ≤ 10 ^ 21) ∧ ∀ H' t, Same H H' → H' t = some (.lst ((natI (aheadL (wkF ps d) m k)).map V.int)) → Q (.ref t) H'
def spIsOut (C : Addr) : Sp := fun vs H Q _ => ∃ (a b : Addr) (p q : Pr) (d N M : Int), vs = [.ref a, .ref b, .int d] ∧ RuleP C H a p ∧ RuleP C H b q ∧ (0 ≤ d ∧ d ≤ 10 ^ 21) ∧ TopR p d N ∧ TopR q d M ∧ ∀ H', Same H H' → Q (.bl (decide (work q d < work p d ∧ M ≤ N))) H'
def spCheI (C : Addr) : Sp := fun vs H Q _ => ∃ (self dx A : Addr) (H0 : Hp) (k : Int) (ls : List (Int × Int)), vs = [.ref self, .int k, .ref A] ∧ Same H0 H ∧ H0 self = none ∧ H self = some (.ins C dx []) ∧ H A = some (.dK (dI ls)) ∧ ∀ H' D, Same H0 H' → CheP C H' self k D ls → Q .non H'
def spCheap (CR C : Addr) : Sp := fun vs H Q _ => ∃ (a : Addr) (ps : Nat → Pr) (m : Nat) (n d : Int), vs = [.ref a, .int n, .int d] ∧ ChP CR H a ps m ∧ (1 ≤ m ∧ m ≤ 40) ∧ (0 ≤ n ∧ n ≤ 1900) ∧ (0 ≤ d ∧ d ≤ 10 ^ 21) ∧
  ∀ H', Same H H' → (fitsL (fsF ps n) d m = [] → Q .non H') ∧ (∀ x D k, CheapK (wkF ps d) (fsF ps n) d m k → CheP C H' x (k : Nat) D (dN (aheadL (wkF ps d) m k) (fsF ps n)) → Q (.ref x) H')
def spCheS (CR C : Addr) : Sp := fun vs H Q _ => ∃ (x a D : Addr) (ps : Nat → Pr) (m k : Nat) (n d : Int) (ks : List Nat) (g : Nat → Int), vs = [.ref x, .ref a, .int n, .int d] ∧ CheP C H x (k : Nat) D (dN ks g) ∧ ks.Pairwise (· < ·) ∧ (∀ l ∈ ks, l < m) ∧ ks.length ≤ 40 ∧ ChP CR H a ps m ∧ (1 ≤ m ∧ m ≤ 40) ∧ k < m ∧ (0 ≤ n ∧ n ≤ 1900) ∧ (0 ≤ d ∧ d ≤ 10 ^ 21) ∧
  ∀ H' b, Same H H' → (b = true ↔ d < fsF ps n k ∧ ks = aheadL (wkF ps d) m k ∧ ∀ l ∈ ks, g l = fsF ps n l ∧ fsF ps n l ≤ d) → Q (.bl b) H'
def spOutd (C : Addr) : Sp := fun vs H Q _ => ∃ (a : Addr) (ps : Nat → Pr) (m : Nat) (d : Int) (N : Nat → Int), vs = [.ref a, .int d] ∧ ChP C H a ps m ∧ (1 ≤ m ∧ m ≤ 40) ∧ (0 ≤ d ∧ d ≤ 10 ^ 21) ∧ (∀ i, i < m → TopR (ps i) d (N i)) ∧
  ∀ H' D, Same H H' → H' D = some (.dK (dI ((outL (wkF ps d) N m m).map fun q => ((q.1 : Int), (q.2 : Int))))) → Q (.ref D) H'
section
variable {P : Program} {w : World} {K : PySem.W.Frag} {mg : Str → Option Value} {base : Heap} {C_Rule C_Evidence C_Good C_Bad C_InTime C_Late C_BadDay Lc__law_worked Lp__law_worked : Addr}
end
end Sl

set_option Elab.async false
set_option linter.all false
set_option maxRecDepth 100000
set_option maxHeartbeats 8000000
set_option exponentiation.threshold 9000
namespace Sl
open PySem L2 C8 StX Silt
local macro_rules | `(tactic| walk_at "side") => `(tactic| first
  | exact cdivw (by omega) (by omega)
  | exact cmulw (by omega) (by omega) (by omega) (by omega)
  | exact Or.inr ⟨by omega, by omega⟩
  | exact Or.inl ⟨by omega, by omega⟩
  | omega
  | exact ⟨by omega, by omega, by decide⟩
  | decide)
local macro_rules | `(tactic| walk_at "rd1") => `(tactic| first
  | with_reducible refine rd_seq ?_
  | with_reducible refine rd_asg ?_
  | with_reducible refine rd_drop ?_
  | with_reducible refine rd_ret ?_
  | with_reducible refine rd_retN ?_
  | with_reducible refine rd_ifS ?_
  | ((with_reducible refine rd_var0 ?_); refine ⟨_, rfl, ?_⟩)
  | with_reducible refine rd_c ?_
  | with_reducible refine rd_op ?_
  | with_reducible refine rd_un ?_
  | with_reducible refine rd_I0 ?_
  | with_reducible refine rd_U ?_
  | ((with_reducible refine rd_I ?c ?_); (case c => walk_at "side"))
  | with_reducible refine rd_ipI ?_
  | with_reducible refine rd_eqI ?_
  | with_reducible refine rd_neI ?_
  | with_reducible refine rd_test ?_
  | with_reducible refine rd_tB ?_
  | with_reducible refine rd_bl ?_
  | with_reducible refine rd_not ?_
  | with_reducible refine rd_and ?_
  | with_reducible refine rd_or ?_
  | with_reducible refine rd_andV ?_
  | with_reducible refine rd_orV ?_
  | with_reducible refine rd_notV ?_
  | with_reducible refine rd_ifE ?_
  | with_reducible refine rd_chain ?_
  | with_reducible refine rd_chain3 ?_
  | with_reducible refine rd_nil ?_
  | with_reducible refine rd_cons ?_
  | with_reducible refine rd_call ?_
  | with_reducible refine rd_CB ?_
  | with_reducible refine rd_par ?_
  | with_reducible refine rd_par2 ?_
  | with_reducible refine rd_par3 ?_
  | with_reducible refine rd_par4 ?_
  | ((with_reducible refine rd_aug0 ?_); refine ⟨_, rfl, ?_⟩)
  | with_reducible refine rd_gname ?_
  | with_reducible refine rd_gcons ?_
  | with_reducible refine rd_gnil ?_
  | with_reducible refine rd_max ?_
  | with_reducible refine rd_min ?_
  | with_reducible refine rd_int1 ?_
  | with_reducible refine rd_abs ?_
  | with_reducible refine rd_lst ?_
  | with_reducible refine rd_tup ?_
  | with_reducible refine rd_bm ?_
  | with_reducible refine rd_fld0 ?_
  | with_reducible refine rd_sl0 ?_
  | with_reducible refine rd_noP ?_
  | with_reducible refine rd_part ?_
  | with_reducible refine rd_part2 ?_
  | with_reducible refine rd_meth0 ?_
  | with_reducible refine rd_star ?_
  | with_reducible refine rd_for ?_
  | with_reducible refine rd_rng1 ?_
  | with_reducible refine rd_rng2 ?_
  | with_reducible refine rd_rng3 ?_
  | with_reducible refine rd_iList ?_
  | with_reducible refine rd_iTup ?_
  | with_reducible refine rd_iEnum ?_
  | with_reducible refine rd_lc ?_
  | with_reducible refine rd_yes ?_
  | with_reducible refine rd_augS ?_
  | with_reducible refine rd_drawNew ?_
  | with_reducible refine rd_make0 ?_
  | with_reducible refine rd_next ?_
  | with_reducible refine rd_break ?_
  | with_reducible refine rd_cont ?_
  | with_reducible refine rd_iteTT ?_
  | with_reducible refine rd_iteFF ?_
  | with_reducible refine rd_iteNTT ?_
  | with_reducible refine rd_iteNFF ?_
  | with_reducible refine rd_con0 ?_
  | with_reducible refine rd_truO0 ?_
  | with_reducible refine rd_gfld0 ?_
  | with_reducible refine rd_dc ?_
  | with_reducible refine rd_iKeys ?_
  | with_reducible refine rd_dget0 ?_
  | with_reducible refine rd_dput0 ?_
  | with_reducible refine rd_dnot0 ?_
  | with_reducible refine rd_iEnumT ?_
  | with_reducible refine rd_raP0 ?_
  | with_reducible refine rd_xf0 ?_
  | with_reducible refine rd_cKw ?_
  | with_reducible refine rd_asgG ?_)
local macro_rules | `(tactic| walk_at "rd") => `(tactic| repeat walk_at "rd1")
local macro_rules | `(tactic| walk_at "len") => `(tactic| first
  | (intro vs H Q E h; obtain ⟨h2, _⟩ := h; rw [h2]; rfl)
  | (intro vs H Q E h; obtain ⟨_, h2, _⟩ := h; rw [h2]; rfl)
  | (intro vs H Q E h; obtain ⟨_, _, h2, _⟩ := h; rw [h2]; rfl)
  | (intro vs H Q E h; obtain ⟨_, _, _, h2, _⟩ := h; rw [h2]; rfl)
  | (intro vs H Q E h; obtain ⟨_, _, _, _, h2, _⟩ := h; rw [h2]; rfl)
  | (intro vs H Q E h; obtain ⟨_, _, _, _, _, h2, _⟩ := h; rw [h2]; rfl)
  | (intro vs H Q E h; obtain ⟨_, _, _, _, _, _, h2, _⟩ := h; rw [h2]; rfl)
  | (intro vs H Q E h; obtain ⟨_, _, _, _, _, _, _, h2, _⟩ := h; rw [h2]; rfl)
  | (intro vs H Q E h; obtain ⟨_, _, _, _, _, _, _, _, h2, _⟩ := h; rw [h2]; rfl)
  | (intro vs H Q E h; obtain ⟨_, _, _, _, _, _, _, _, _, h2, _⟩ := h; rw [h2]; rfl)
  | (intro vs H Q E h; obtain ⟨_, _, _, _, _, _, _, _, _, _, h2, _⟩ := h; rw [h2]; rfl)
  | (intro vs H Q E h; obtain ⟨_, _, _, _, _, _, _, _, _, _, _, h2, _⟩ := h; rw [h2]; rfl)
  | (intro vs H Q E h; obtain ⟨_, _, _, _, _, _, _, _, _, _, _, _, h2, _⟩ := h; rw [h2]; rfl))
theorem natI_len (l : List Nat) : (natI l).length = l.length := by unfold natI; rw [List.length_map]
theorem natI_get {l : List Nat} {j : Nat} {x : Nat} (h : l[j]? = some x) : (natI l)[j]? = some (x : Int) := by unfold natI; rw [List.getElem?_map, h]; rfl
theorem filt_len (b : Nat → Bool) (m : Nat) : ((List.range m).filter b).length ≤ m := by
  have := List.length_filter_le b (List.range m)
  rw [List.length_range] at this
  exact this
theorem top_bound {p : Pr} (g : Good p) {d N : Int} (h : TopR p d N) (hd : d ≤ 10 ^ 21) : N ≤ 840 := by
  have := firstWith_bound g h.1 h.2.1 (n := 70) (by have := far_bits; omega)
  omega
theorem dN_take (l : List Nat) (g : Nat → Int) {j x : Nat} (h : l[j]? = some x) : dN (l.take (j + 1)) g = dN (l.take j) g ++ [((x : Int), g x)] := by
  unfold dN
  rw [List.take_succ, h, List.map_append]
  rfl
theorem nodup_take {l : List Nat} (h : l.Pairwise (· < ·)) {j x : Nat} (e : l[j]? = some x) : ∀ y ∈ l.take j, y < x := by
  intro y hy
  obtain ⟨i, hi⟩ := List.mem_iff_getElem?.mp hy
  have hil : i < j := by
    have := (List.getElem?_eq_some_iff.mp hi).1
    rw [List.length_take] at this
    omega
  rw [List.getElem?_take_of_lt hil] at hi
  obtain ⟨h1, e1⟩ := List.getElem?_eq_some_iff.mp hi
  obtain ⟨h2, e2⟩ := List.getElem?_eq_some_iff.mp e
  have := List.pairwise_iff_getElem.mp h i j h1 h2 hil
  omega
theorem dN_new {l : List Nat} (h : l.Pairwise (· < ·)) (g : Nat → Int) {j x : Nat} (e : l[j]? = some x) : ∀ q ∈ dN (l.take j) g, q.1 ≠ (x : Int) := by
  intro q hq
  obtain ⟨y, hy, rfl⟩ := List.mem_map.mp hq
  have := nodup_take h e y hy
  show (y : Int) ≠ (x : Int)
  omega
section
variable {P : Program} {w : World} {K : PySem.W.Frag} {mg : Str → Option Value} {base : Heap} {C_Rule C_Evidence C_Good C_Bad C_InTime C_Late C_BadDay Lc__law_worked Lp__law_worked : Addr}
end
end Sl

set_option Elab.async false
set_option linter.all false
set_option maxRecDepth 100000
set_option maxHeartbeats 8000000
set_option exponentiation.threshold 9000
namespace Sl
open PySem L2 C8 StX Silt
local macro_rules | `(tactic| walk_at "side") => `(tactic| first
  | exact cdivw (by omega) (by omega)
  | exact cmulw (by omega) (by omega) (by omega) (by omega)
  | exact Or.inr ⟨by omega, by omega⟩
  | exact Or.inl ⟨by omega, by omega⟩
  | omega
  | exact ⟨by omega, by omega, by decide⟩
  | decide)
local macro_rules | `(tactic| walk_at "rd1") => `(tactic| first
  | with_reducible refine rd_seq ?_
  | with_reducible refine rd_asg ?_
  | with_reducible refine rd_drop ?_
  | with_reducible refine rd_ret ?_
  | with_reducible refine rd_retN ?_
  | with_reducible refine rd_ifS ?_
  | ((with_reducible refine rd_var0 ?_); refine ⟨_, rfl, ?_⟩)
  | with_reducible refine rd_c ?_
  | with_reducible refine rd_op ?_
  | with_reducible refine rd_un ?_
  | with_reducible refine rd_I0 ?_
  | with_reducible refine rd_U ?_
  | ((with_reducible refine rd_I ?c ?_); (case c => walk_at "side"))
  | with_reducible refine rd_ipI ?_
  | with_reducible refine rd_eqI ?_
  | with_reducible refine rd_neI ?_
  | with_reducible refine rd_test ?_
  | with_reducible refine rd_tB ?_
  | with_reducible refine rd_bl ?_
  | with_reducible refine rd_not ?_
  | with_reducible refine rd_and ?_
  | with_reducible refine rd_or ?_
  | with_reducible refine rd_andV ?_
  | with_reducible refine rd_orV ?_
  | with_reducible refine rd_notV ?_
  | with_reducible refine rd_ifE ?_
  | with_reducible refine rd_chain ?_
  | with_reducible refine rd_chain3 ?_
  | with_reducible refine rd_nil ?_
  | with_reducible refine rd_cons ?_
  | with_reducible refine rd_call ?_
  | with_reducible refine rd_CB ?_
  | with_reducible refine rd_par ?_
  | with_reducible refine rd_par2 ?_
  | with_reducible refine rd_par3 ?_
  | with_reducible refine rd_par4 ?_
  | ((with_reducible refine rd_aug0 ?_); refine ⟨_, rfl, ?_⟩)
  | with_reducible refine rd_gname ?_
  | with_reducible refine rd_gcons ?_
  | with_reducible refine rd_gnil ?_
  | with_reducible refine rd_max ?_
  | with_reducible refine rd_min ?_
  | with_reducible refine rd_int1 ?_
  | with_reducible refine rd_abs ?_
  | with_reducible refine rd_lst ?_
  | with_reducible refine rd_tup ?_
  | with_reducible refine rd_bm ?_
  | with_reducible refine rd_fld0 ?_
  | with_reducible refine rd_sl0 ?_
  | with_reducible refine rd_noP ?_
  | with_reducible refine rd_part ?_
  | with_reducible refine rd_part2 ?_
  | with_reducible refine rd_meth0 ?_
  | with_reducible refine rd_star ?_
  | with_reducible refine rd_for ?_
  | with_reducible refine rd_rng1 ?_
  | with_reducible refine rd_rng2 ?_
  | with_reducible refine rd_rng3 ?_
  | with_reducible refine rd_iList ?_
  | with_reducible refine rd_iTup ?_
  | with_reducible refine rd_iEnum ?_
  | with_reducible refine rd_lc ?_
  | with_reducible refine rd_yes ?_
  | with_reducible refine rd_augS ?_
  | with_reducible refine rd_drawNew ?_
  | with_reducible refine rd_make0 ?_
  | with_reducible refine rd_next ?_
  | with_reducible refine rd_break ?_
  | with_reducible refine rd_cont ?_
  | with_reducible refine rd_iteTT ?_
  | with_reducible refine rd_iteFF ?_
  | with_reducible refine rd_iteNTT ?_
  | with_reducible refine rd_iteNFF ?_
  | with_reducible refine rd_con0 ?_
  | with_reducible refine rd_truO0 ?_
  | with_reducible refine rd_gfld0 ?_
  | with_reducible refine rd_dc ?_
  | with_reducible refine rd_iKeys ?_
  | with_reducible refine rd_dget0 ?_
  | with_reducible refine rd_dput0 ?_
  | with_reducible refine rd_dnot0 ?_
  | with_reducible refine rd_iEnumT ?_
  | with_reducible refine rd_raP0 ?_
  | with_reducible refine rd_xf0 ?_
  | with_reducible refine rd_cKw ?_
  | with_reducible refine rd_asgG ?_)
local macro_rules | `(tactic| walk_at "rd") => `(tactic| repeat walk_at "rd1")
local macro_rules | `(tactic| walk_at "len") => `(tactic| first
  | (intro vs H Q E h; obtain ⟨h2, _⟩ := h; rw [h2]; rfl)
  | (intro vs H Q E h; obtain ⟨_, h2, _⟩ := h; rw [h2]; rfl)
  | (intro vs H Q E h; obtain ⟨_, _, h2, _⟩ := h; rw [h2]; rfl)
  | (intro vs H Q E h; obtain ⟨_, _, _, h2, _⟩ := h; rw [h2]; rfl)
  | (intro vs H Q E h; obtain ⟨_, _, _, _, h2, _⟩ := h; rw [h2]; rfl)
  | (intro vs H Q E h; obtain ⟨_, _, _, _, _, h2, _⟩ := h; rw [h2]; rfl)
  | (intro vs H Q E h; obtain ⟨_, _, _, _, _, _, h2, _⟩ := h; rw [h2]; rfl)
  | (intro vs H Q E h; obtain ⟨_, _, _, _, _, _, _, h2, _⟩ := h; rw [h2]; rfl)
  | (intro vs H Q E h; obtain ⟨_, _, _, _, _, _, _, _, h2, _⟩ := h; rw [h2]; rfl)
  | (intro vs H Q E h; obtain ⟨_, _, _, _, _, _, _, _, _, h2, _⟩ := h; rw [h2]; rfl)
  | (intro vs H Q E h; obtain ⟨_, _, _, _, _, _, _, _, _, _, h2, _⟩ := h; rw [h2]; rfl)
  | (intro vs H Q E h; obtain ⟨_, _, _, _, _, _, _, _, _, _, _, h2, _⟩ := h; rw [h2]; rfl)
  | (intro vs H Q E h; obtain ⟨_, _, _, _, _, _, _, _, _, _, _, _, h2, _⟩ := h; rw [h2]; rfl))
def outD (W N : Nat → Int) (m i : Nat) : List (Int × Int) := (outL W N m i).map fun q => ((q.1 : Int), (q.2 : Int))
theorem outD_succ (W N : Nat → Int) (m i : Nat) : outD W N m (i + 1) = outD W N m i ++ match (betL W N i m).head? with | none => [] | some l => [((i : Int), (l : Int))] := by
  unfold outD
  rw [outL_succ, List.map_append]
  cases (betL W N i m).head? with
  | none => rfl
  | some l => rfl
theorem outD_no (W N : Nat → Int) (m i : Nat) : ∀ q ∈ outD W N m i, q.1 ≠ (i : Int) := by
  intro q hq
  obtain ⟨r, hr, rfl⟩ := List.mem_map.mp hq
  have := outL_lt r hr
  show (r.1 : Int) ≠ (i : Int)
  omega
theorem outD_len (W N : Nat → Int) (m : Nat) : ∀ i, (outD W N m i).length ≤ i
  | 0 => Nat.zero_le _
  | i + 1 => by
    rw [outD_succ, List.length_append]
    have := outD_len W N m i
    cases (betL W N i m).head? with
    | none => show _ + 0 ≤ i + 1; omega
    | some l => show _ + 1 ≤ i + 1; omega
theorem outD_asc (W N : Nat → Int) (m i : Nat) : ((outD W N m i).map (·.1)).Pairwise (· < ·) := by
  have h := outL_asc W N m i
  unfold outD
  rw [List.map_map]
  have e : ((fun x : Int × Int => x.1) ∘ fun q : Nat × Nat => ((q.1 : Int), (q.2 : Int))) = (fun z : Nat => (z : Int)) ∘ (fun q : Nat × Nat => q.1) := rfl
  rw [e, ← List.map_map]
  exact List.Pairwise.map _ (fun a b z => by omega) h
/-- the inner walk: what stands in the dict behind i others -/
def inD (W N : Nat → Int) (m k i : Nat) : List (Int × Int) := outD W N m k ++ match (betL W N k i).head? with | none => [] | some l => [((k : Int), (l : Int))]
section
variable {P : Program} {w : World} {K : PySem.W.Frag} {mg : Str → Option Value} {base : Heap} {C_Rule C_Evidence C_Good C_Bad C_InTime C_Late C_BadDay Lc__law_worked Lp__law_worked : Addr}
end
end Sl

set_option Elab.async false
set_option linter.all false
set_option maxRecDepth 100000
set_option maxHeartbeats 8000000
set_option exponentiation.threshold 9000
namespace Sl
open PySem L2 C8 StX Silt
local macro_rules | `(tactic| walk_at "side") => `(tactic| first
  | exact cdivw (by omega) (by omega)
  | exact cmulw (by omega) (by omega) (by omega) (by omega)
  | exact Or.inr ⟨by omega, by omega⟩
  | exact Or.inl ⟨by omega, by omega⟩
  | omega
  | exact ⟨by omega, by omega, by decide⟩
  | decide)
local macro_rules | `(tactic| walk_at "rd1") => `(tactic| first
  | with_reducible refine rd_seq ?_
  | with_reducible refine rd_asg ?_
  | with_reducible refine rd_drop ?_
  | with_reducible refine rd_ret ?_
  | with_reducible refine rd_retN ?_
  | with_reducible refine rd_ifS ?_
  | ((with_reducible refine rd_var0 ?_); refine ⟨_, rfl, ?_⟩)
  | with_reducible refine rd_c ?_
  | with_reducible refine rd_op ?_
  | with_reducible refine rd_un ?_
  | with_reducible refine rd_I0 ?_
  | with_reducible refine rd_U ?_
  | ((with_reducible refine rd_I ?c ?_); (case c => walk_at "side"))
  | with_reducible refine rd_ipI ?_
  | with_reducible refine rd_eqI ?_
  | with_reducible refine rd_neI ?_
  | with_reducible refine rd_test ?_
  | with_reducible refine rd_tB ?_
  | with_reducible refine rd_bl ?_
  | with_reducible refine rd_not ?_
  | with_reducible refine rd_and ?_
  | with_reducible refine rd_or ?_
  | with_reducible refine rd_andV ?_
  | with_reducible refine rd_orV ?_
  | with_reducible refine rd_notV ?_
  | with_reducible refine rd_ifE ?_
  | with_reducible refine rd_chain ?_
  | with_reducible refine rd_chain3 ?_
  | with_reducible refine rd_nil ?_
  | with_reducible refine rd_cons ?_
  | with_reducible refine rd_call ?_
  | with_reducible refine rd_CB ?_
  | with_reducible refine rd_par ?_
  | with_reducible refine rd_par2 ?_
  | with_reducible refine rd_par3 ?_
  | with_reducible refine rd_par4 ?_
  | ((with_reducible refine rd_aug0 ?_); refine ⟨_, rfl, ?_⟩)
  | with_reducible refine rd_gname ?_
  | with_reducible refine rd_gcons ?_
  | with_reducible refine rd_gnil ?_
  | with_reducible refine rd_max ?_
  | with_reducible refine rd_min ?_
  | with_reducible refine rd_int1 ?_
  | with_reducible refine rd_abs ?_
  | with_reducible refine rd_lst ?_
  | with_reducible refine rd_tup ?_
  | with_reducible refine rd_bm ?_
  | with_reducible refine rd_fld0 ?_
  | with_reducible refine rd_sl0 ?_
  | with_reducible refine rd_noP ?_
  | with_reducible refine rd_part ?_
  | with_reducible refine rd_part2 ?_
  | with_reducible refine rd_meth0 ?_
  | with_reducible refine rd_star ?_
  | with_reducible refine rd_for ?_
  | with_reducible refine rd_rng1 ?_
  | with_reducible refine rd_rng2 ?_
  | with_reducible refine rd_rng3 ?_
  | with_reducible refine rd_iList ?_
  | with_reducible refine rd_iTup ?_
  | with_reducible refine rd_iEnum ?_
  | with_reducible refine rd_lc ?_
  | with_reducible refine rd_yes ?_
  | with_reducible refine rd_augS ?_
  | with_reducible refine rd_drawNew ?_
  | with_reducible refine rd_make0 ?_
  | with_reducible refine rd_next ?_
  | with_reducible refine rd_break ?_
  | with_reducible refine rd_cont ?_
  | with_reducible refine rd_iteTT ?_
  | with_reducible refine rd_iteFF ?_
  | with_reducible refine rd_iteNTT ?_
  | with_reducible refine rd_iteNFF ?_
  | with_reducible refine rd_con0 ?_
  | with_reducible refine rd_truO0 ?_
  | with_reducible refine rd_gfld0 ?_
  | with_reducible refine rd_dc ?_
  | with_reducible refine rd_iKeys ?_
  | with_reducible refine rd_dget0 ?_
  | with_reducible refine rd_dput0 ?_
  | with_reducible refine rd_dnot0 ?_
  | with_reducible refine rd_iEnumT ?_
  | with_reducible refine rd_raP0 ?_
  | with_reducible refine rd_xf0 ?_
  | with_reducible refine rd_cKw ?_
  | with_reducible refine rd_asgG ?_)
local macro_rules | `(tactic| walk_at "rd") => `(tactic| repeat walk_at "rd1")
local macro_rules | `(tactic| walk_at "len") => `(tactic| first
  | (intro vs H Q E h; obtain ⟨h2, _⟩ := h; rw [h2]; rfl)
  | (intro vs H Q E h; obtain ⟨_, h2, _⟩ := h; rw [h2]; rfl)
  | (intro vs H Q E h; obtain ⟨_, _, h2, _⟩ := h; rw [h2]; rfl)
  | (intro vs H Q E h; obtain ⟨_, _, _, h2, _⟩ := h; rw [h2]; rfl)
  | (intro vs H Q E h; obtain ⟨_, _, _, _, h2, _⟩ := h; rw [h2]; rfl)
  | (intro vs H Q E h; obtain ⟨_, _, _, _, _, h2, _⟩ := h; rw [h2]; rfl)
  | (intro vs H Q E h; obtain ⟨_, _, _, _, _, _, h2, _⟩ := h; rw [h2]; rfl)
  | (intro vs H Q E h; obtain ⟨_, _, _, _, _, _, _, h2, _⟩ := h; rw [h2]; rfl)
  | (intro vs H Q E h; obtain ⟨_, _, _, _, _, _, _, _, h2, _⟩ := h; rw [h2]; rfl)
  | (intro vs H Q E h; obtain ⟨_, _, _, _, _, _, _, _, _, h2, _⟩ := h; rw [h2]; rfl)
  | (intro vs H Q E h; obtain ⟨_, _, _, _, _, _, _, _, _, _, h2, _⟩ := h; rw [h2]; rfl)
  | (intro vs H Q E h; obtain ⟨_, _, _, _, _, _, _, _, _, _, _, h2, _⟩ := h; rw [h2]; rfl)
  | (intro vs H Q E h; obtain ⟨_, _, _, _, _, _, _, _, _, _, _, _, h2, _⟩ := h; rw [h2]; rfl))
theorem eqv_ints (a b : List Int) : PyData.eqv (.list (intsD a)) (.list (intsD b)) = decide (a = b) := by
  simp only [PyData.eqv]
  exact enc_int.all a b
theorem dIN_get {ks : List Nat} {g : Nat → Int} {j : Nat} {k : Key} {z : V} (h : (dI (dN ks g))[j]? = some (k, z)) : ∃ i : Nat, ks[j]? = some i ∧ k = Sum.inl (i : Int) ∧ z = V.int (g i) := by
  unfold dI dN at h
  rw [List.map_map, List.getElem?_map] at h
  cases q : ks[j]? with
  | none => rw [q] at h; cases h
  | some i => rw [q] at h; cases h; exact ⟨i, rfl, rfl, rfl⟩
theorem dN_at {ks : List Nat} (h : ks.Pairwise (· < ·)) (g : Nat → Int) {i : Nat} (m : i ∈ ks) : valV (dI (dN ks g)) (Sum.inl (i : Int)) = some (.int (g i)) := by
  refine dI_at ?_ (List.mem_map.mpr ⟨i, m, rfl⟩)
  rw [dN_keys]
  exact asc_nodup (natI_asc h)
theorem dN_len (ks : List Nat) (g : Nat → Int) : (dN ks g).length = ks.length := by unfold dN; rw [List.length_map]
section
variable {P : Program} {w : World} {K : PySem.W.Frag} {mg : Str → Option Value} {base : Heap} {C_Rule C_Evidence C_Good C_Bad C_InTime C_Late C_BadDay Lc__law_worked Lp__law_worked : Addr}
end
end Sl


set_option Elab.async false
set_option linter.all false
set_option maxRecDepth 100000
set_option maxHeartbeats 8000000
set_option exponentiation.threshold 9000
namespace Sl
open PySem L2 C8 StX Silt
local macro_rules | `(tactic| walk_at "side") => `(tactic| first
  | exact cdivw (by omega) (by omega)
  | exact cmulw (by omega) (by omega) (by omega) (by omega)
  | exact Or.inr ⟨by omega, by omega⟩
  | exact Or.inl ⟨by omega, by omega⟩
  | omega
  | exact ⟨by omega, by omega, by decide⟩
  | decide)
local macro_rules | `(tactic| walk_at "rd1") => `(tactic| first
  | with_reducible refine rd_seq ?_
  | with_reducible refine rd_asg ?_
  | with_reducible refine rd_drop ?_
  | with_reducible refine rd_ret ?_
  | with_reducible refine rd_retN ?_
  | with_reducible refine rd_ifS ?_
  | ((with_reducible refine rd_var0 ?_); refine ⟨_, rfl, ?_⟩)
  | with_reducible refine rd_c ?_
  | with_reducible refine rd_op ?_
  | with_reducible refine rd_un ?_
  | with_reducible refine rd_I0 ?_
  | with_reducible refine rd_U ?_
  | ((with_reducible refine rd_I ?c ?_); (case c => walk_at "side"))
  | with_reducible refine rd_ipI ?_
  | with_reducible refine rd_eqI ?_
  | with_reducible refine rd_neI ?_
  | with_reducible refine rd_test ?_
  | with_reducible refine rd_tB ?_
  | with_reducible refine rd_bl ?_
  | with_reducible refine rd_not ?_
  | with_reducible refine rd_and ?_
  | with_reducible refine rd_or ?_
  | with_reducible refine rd_andV ?_
  | with_reducible refine rd_orV ?_
  | with_reducible refine rd_notV ?_
  | with_reducible refine rd_ifE ?_
  | with_reducible refine rd_chain ?_
  | with_reducible refine rd_chain3 ?_
  | with_reducible refine rd_nil ?_
  | with_reducible refine rd_cons ?_
  | with_reducible refine rd_call ?_
  | with_reducible refine rd_CB ?_
  | with_reducible refine rd_par ?_
  | with_reducible refine rd_par2 ?_
  | with_reducible refine rd_par3 ?_
  | with_reducible refine rd_par4 ?_
  | ((with_reducible refine rd_aug0 ?_); refine ⟨_, rfl, ?_⟩)
  | with_reducible refine rd_gname ?_
  | with_reducible refine rd_gcons ?_
  | with_reducible refine rd_gnil ?_
  | with_reducible refine rd_max ?_
  | with_reducible refine rd_min ?_
  | with_reducible refine rd_int1 ?_
  | with_reducible refine rd_abs ?_
  | with_reducible refine rd_lst ?_
  | with_reducible refine rd_tup ?_
  | with_reducible refine rd_bm ?_
  | with_reducible refine rd_fld0 ?_
  | with_reducible refine rd_sl0 ?_
  | with_reducible refine rd_noP ?_
  | with_reducible refine rd_part ?_
  | with_reducible refine rd_part2 ?_
  | with_reducible refine rd_meth0 ?_
  | with_reducible refine rd_star ?_
  | with_reducible refine rd_for ?_
  | with_reducible refine rd_rng1 ?_
  | with_reducible refine rd_rng2 ?_
  | with_reducible refine rd_rng3 ?_
  | with_reducible refine rd_iList ?_
  | with_reducible refine rd_iTup ?_
  | with_reducible refine rd_iEnum ?_
  | with_reducible refine rd_lc ?_
  | with_reducible refine rd_yes ?_
  | with_reducible refine rd_augS ?_
  | with_reducible refine rd_drawNew ?_
  | with_reducible refine rd_make0 ?_
  | with_reducible refine rd_next ?_
  | with_reducible refine rd_break ?_
  | with_reducible refine rd_cont ?_
  | with_reducible refine rd_iteTT ?_
  | with_reducible refine rd_iteFF ?_
  | with_reducible refine rd_iteNTT ?_
  | with_reducible refine rd_iteNFF ?_
  | with_reducible refine rd_con0 ?_
  | with_reducible refine rd_truO0 ?_
  | with_reducible refine rd_gfld0 ?_
  | with_reducible refine rd_dc ?_
  | with_reducible refine rd_iKeys ?_
  | with_reducible refine rd_dget0 ?_
  | with_reducible refine rd_dput0 ?_
  | with_reducible refine rd_dnot0 ?_
  | with_reducible refine rd_iEnumT ?_
  | with_reducible refine rd_raP0 ?_
  | with_reducible refine rd_xf0 ?_
  | with_reducible refine rd_cKw ?_
  | with_reducible refine rd_asgG ?_)
local macro_rules | `(tactic| walk_at "rd") => `(tactic| repeat walk_at "rd1")
local macro_rules | `(tactic| walk_at "len") => `(tactic| first
  | (intro vs H Q E h; obtain ⟨h2, _⟩ := h; rw [h2]; rfl)
  | (intro vs H Q E h; obtain ⟨_, h2, _⟩ := h; rw [h2]; rfl)
  | (intro vs H Q E h; obtain ⟨_, _, h2, _⟩ := h; rw [h2]; rfl)
  | (intro vs H Q E h; obtain ⟨_, _, _, h2, _⟩ := h; rw [h2]; rfl)
  | (intro vs H Q E h; obtain ⟨_, _, _, _, h2, _⟩ := h; rw [h2]; rfl)
  | (intro vs H Q E h; obtain ⟨_, _, _, _, _, h2, _⟩ := h; rw [h2]; rfl)
  | (intro vs H Q E h; obtain ⟨_, _, _, _, _, _, h2, _⟩ := h; rw [h2]; rfl)
  | (intro vs H Q E h; obtain ⟨_, _, _, _, _, _, _, h2, _⟩ := h; rw [h2]; rfl)
  | (intro vs H Q E h; obtain ⟨_, _, _, _, _, _, _, _, h2, _⟩ := h; rw [h2]; rfl)
  | (intro vs H Q E h; obtain ⟨_, _, _, _, _, _, _, _, _, h2, _⟩ := h; rw [h2]; rfl)
  | (intro vs H Q E h; obtain ⟨_, _, _, _, _, _, _, _, _, _, h2, _⟩ := h; rw [h2]; rfl)
  | (intro vs H Q E h; obtain ⟨_, _, _, _, _, _, _, _, _, _, _, h2, _⟩ := h; rw [h2]; rfl)
  | (intro vs H Q E h; obtain ⟨_, _, _, _, _, _, _, _, _, _, _, _, h2, _⟩ := h; rw [h2]; rfl))
theorem none_back {H H' : Hp} {a : Addr} (s : Same H H') (h : H' a = none) : H a = none := by
  cases z : H a with
  | none => rfl
  | some o => rw [s _ _ z] at h; cases h
/-- what is told, its lists not at D -/
def ToldQ (H : Hp) (D t : Addr) (f q : List (Int × Int)) : Prop := ∃ l1 l2 xs1 xs2, H t = some (.tup [.ref l1, .ref l2]) ∧ H l1 = some (.lst xs1) ∧ H l2 = some (.lst xs2) ∧ DnAll H xs1 (pairsD f) ∧ DnAll H xs2 (pairsD q) ∧ l1 ≠ D ∧ l2 ≠ D
theorem ToldQ.p {H : Hp} {D t : Addr} {f q : List (Int × Int)} (h : ToldQ H D t f q) : ToldP H t f q := by
  obtain ⟨l1, l2, xs1, xs2, h1, h2, h3, h4, h5, _, _⟩ := h
  exact ⟨l1, l2, xs1, xs2, h1, h2, h3, h4, h5⟩
theorem ToldQ.mono {H H' : Hp} {D t : Addr} {f q : List (Int × Int)} (s : Same H H') (h : ToldQ H D t f q) : ToldQ H' D t f q := by
  obtain ⟨l1, l2, xs1, xs2, h1, h2, h3, h4, h5, h6, h7⟩ := h
  exact ⟨l1, l2, xs1, xs2, s _ _ h1, s _ _ h2, s _ _ h3, h4.mono s, h5.mono s, h6, h7⟩
theorem ToldQ.upd {H : Hp} {D t : Addr} {f q : List (Int × Int)} {xs ys : List V} (e : H D = some (.lst xs)) (h : ToldQ H D t f q) : ToldQ (upd H D (.lst ys)) D t f q := by
  obtain ⟨l1, l2, xs1, xs2, h1, h2, h3, h4, h5, h6, h7⟩ := h
  refine ⟨l1, l2, xs1, xs2, ?_, ?_, ?_, h4.updL e, h5.updL e, h6, h7⟩
  · rw [upd_ne (fun z => by rw [z, e] at h1; cases h1)]; exact h1
  · rw [upd_ne h6]; exact h2
  · rw [upd_ne h7]; exact h3
def spDRuleN (K : PySem.W.Frag) : Sp := fun vs H Q _ => ∃ (a : Addr), vs = [.ref a] ∧ DrawP K H a ∧ ∀ H' t f q, Same H H' → OkT f q →
  (∃ l1 l2 xs1 xs2, H' t = some (.tup [.ref l1, .ref l2]) ∧ H' l1 = some (.lst xs1) ∧ H' l2 = some (.lst xs2) ∧ DnAll H' xs1 (pairsD f) ∧ DnAll H' xs2 (pairsD q) ∧ H l1 = none ∧ H l2 = none) → Q (.ref t) H'
abbrev FQ := List (Int × Int) × List (Int × Int)
/-- a list of what is told -/
def TsP (H : Hp) (D : Addr) (L : List FQ) : Prop := ∃ vs, H D = some (.lst vs) ∧ vs.length = L.length ∧ ∀ (i : Nat) x, L[i]? = some x → ∃ t, vs[i]? = some (.ref t) ∧ ToldQ H D t x.1 x.2 ∧ OkT x.1 x.2
theorem TsP.mono {H H' : Hp} {D : Addr} {L : List FQ} (s : Same H H') (h : TsP H D L) : TsP H' D L := by
  obtain ⟨vs, e, l, k⟩ := h
  refine ⟨vs, s _ _ e, l, fun i x hx => ?_⟩
  obtain ⟨t, h1, h2, h3⟩ := k i x hx
  exact ⟨t, h1, h2.mono s, h3⟩
theorem TsP.app {H : Hp} {D t : Addr} {L : List FQ} {vs : List V} {x : FQ} (e : H D = some (.lst vs)) (h : TsP H D L) (ht : ToldQ H D t x.1 x.2) (ok : OkT x.1 x.2) : TsP (upd H D (.lst (vs ++ [.ref t]))) D (L ++ [x]) := by
  obtain ⟨vs', e', l, k⟩ := h
  rw [e] at e'
  cases e'
  refine ⟨_, upd_same, by simp [l], fun i y hy => ?_⟩
  rcases Nat.lt_or_ge i L.length with z | z
  · rw [List.getElem?_append_left z] at hy
    obtain ⟨t', h1, h2, h3⟩ := k i y hy
    exact ⟨t', by rw [List.getElem?_append_left (by omega)]; exact h1, h2.upd e, h3⟩
  · rw [List.getElem?_append_right z] at hy
    have hi : i = L.length := by
      have := (List.getElem?_eq_some_iff.mp hy).1
      simp at this
      omega
    subst hi
    simp at hy
    subst hy
    exact ⟨t, by rw [List.getElem?_append_right (by omega), l]; simp, ht.upd e, ok⟩
def psL (L : List FQ) : Nat → Pr := fun i => atp (L.getD i ([], [])).1 (L.getD i ([], [])).2
theorem psL_at {L : List FQ} {i : Nat} {x : FQ} (h : L[i]? = some x) : psL L i = atp x.1 x.2 := by
  unfold psL
  rw [List.getD_eq_getElem?_getD, h]; rfl
/-- a rule stands when a list changes -/
theorem pairs_upd {H : Hp} {E : Addr} {ys : List V} {o : HO} (e : H E = some (.lst ys)) : ∀ {vs : List V} {f : List (Int × Int)}, DtAll H vs (pairsD f) → DtAll (upd H E o) vs (pairsD f)
  | [], [], _ => .nil
  | [], _ :: _, h => nomatch h
  | _ :: _, [], h => nomatch h
  | v :: vs, x :: f, .cons h t => by
    obtain ⟨t', rfl, et⟩ := Dt.pair_inv h
    refine .cons ?_ (pairs_upd e t)
    exact .tup (by rw [upd_ne (fun z => by rw [z, e] at et; cases et)]; exact et) (.cons (.int _) (.cons (.int _) .nil))
theorem RuleP.updL {C : Addr} {H : Hp} {a E : Addr} {p : Pr} {ys : List V} {o : HO} (e : H E = some (.lst ys)) (h : RuleP C H a p) : RuleP C (upd H E o) a p := by
  obtain ⟨f, q, ⟨dx, t1, t2, e1, h1, h2⟩, hq, hp, g⟩ := h
  obtain ⟨xs1, e2, d1⟩ := h1.tup_inv
  obtain ⟨xs2, e3, d2⟩ := h2.tup_inv
  refine ⟨f, q, ⟨dx, t1, t2, ?_, .tup ?_ (pairs_upd e d1), .tup ?_ (pairs_upd e d2)⟩, hq, hp, g⟩
  · rw [upd_ne (fun z => by rw [z, e] at e1; cases e1)]; exact e1
  · rw [upd_ne (fun z => by rw [z, e] at e2; cases e2)]; exact e2
  · rw [upd_ne (fun z => by rw [z, e] at e3; cases e3)]; exact e3
section
variable {P : Program} {w : World} {K : PySem.W.Frag} {mg : Str → Option Value} {base : Heap} {C_Rule C_Evidence C_Good C_Bad C_InTime C_Late C_BadDay Lc__law_worked Lp__law_worked : Addr}
theorem cal__law_rule_new (T : TX K mg C_Rule C_Evidence C_Good C_Bad C_InTime C_Late C_BadDay Lc__law_worked Lp__law_worked) : Cal P w K mg base 5 "_law_rule" (spDRuleN K) [] := by
  obtain ⟨f0, fd, D, dn⟩ := T.d__law_rule
  have G__law_pick := cal__law_pick (P := P) (w := w) (base := base) T
  have G__law_pair := cal__law_pair (P := P) (w := w) (base := base) T
  refine cal0 D (D.fn.binds dn fun _ _ _ _ _ _ us hl => match us, hl with | [_], _ => rfl) .nil sc__law_rule (by walk_at "len") (fun cdv A outer s H vs Q E hr h => ?_)
  obtain ⟨a, rfl, hd, k⟩ := h
  refine ⟨_, (pss_cons (ps_setLc (i := 1) (own := [("_law_turn", 2)]) (g := gName 2) (tt := tYes) rfl sc__law_rule.nd rfl rfl (sw_true rfl rfl rfl (by decide +kernel)) (pi_range1 rfl T.b_range (pa_cons (pe_c G__law_pick hr (by decide) rfl (pa_cons (pv 0) (pa_cons (pe_lst (pa_cons pe_int (pa_cons pe_int (pa_cons pe_int (pa_cons pe_int pa_nil))))) pa_nil))) pa_nil)) (blkOk_by (own := [("_law_turn", 2)]) (N := N__law_rule) (sc := fnScope s__law_rule) (by decide +kernel)) (fun _ _ _ _ _ => (pg_n 2 sc__law_rule.nd)) (fun _ _ _ _ _ => pts_nil) (fun _ _ _ _ _ => (pe_c G__law_pair hr (by decide) rfl (pa_cons (pv 0) pa_nil))))
      (pss_one (ps_ret (pe_tup (pa_cons (pv 1) (pa_cons (pe_lc (own := [("_law_turn", 2)]) (g := gName 2) (tt := tYes) rfl sc__law_rule.nd (pi_range1 rfl T.b_range (pa_cons (pe_op op_add pe_int (pe_c G__law_pick hr (by decide) rfl (pa_cons (pv 0) (pa_cons (pe_lst (pa_cons pe_int (pa_cons pe_int (pa_cons pe_int pa_nil)))) pa_nil)))) pa_nil)) (blkOk_by (own := [("_law_turn", 2)]) (N := N__law_rule) (sc := fnScope s__law_rule) (by decide +kernel)) (fun _ _ _ _ _ => (pg_n 2 sc__law_rule.nd)) (fun _ _ _ _ _ => pts_nil) (fun _ _ _ _ _ => (pe_c G__law_pair hr (by decide) rfl (pa_cons (pv 0) pa_nil)))) pa_nil)))))), ?_⟩
  walk_at "rd"
  refine rd_newL (by simp) fun u H1 _ s1 eu _ => ?_
  walk_at "rd"
  refine ⟨a, u, _, rfl, hd.mono s1, eu, by simp, fun H2 i x s2 hx => ?_⟩
  obtain ⟨z, rfl, z1⟩ : ∃ z : Nat, x = .int z ∧ z ≤ 2 := by
    match i, hx with
    | 0, hx => cases hx; exact ⟨0, rfl, by decide⟩
    | 1, hx => cases hx; exact ⟨0, rfl, by decide⟩
    | 2, hx => cases hx; exact ⟨1, rfl, by decide⟩
    | 3, hx => cases hx; exact ⟨2, rfl, by decide⟩
    | i + 4, hx => simp at hx
  walk_at "rd"
  have s12 := s1.trans s2
  refine rd_rgR1 (by omega) (by omega) ?_
  rw [Int.toNat_natCast]
  refine lcR_rng (fun D i H' => ∃ (l : List V) (f : List (Int × Int)), Same H2 H' ∧ H' D = some (.lst l) ∧ f.length = i ∧ (∀ x ∈ f, OkP x) ∧ DnAll H' l (pairsD f)) (fun D H' _ s e _ => ⟨[], [], s, e, rfl, by simp, .nil⟩) ?_ ?_
  · rintro D i H' hD hi ⟨l, f, s3, eD, hl, okf, df⟩
    walk_at "rd"
    refine ⟨rfl, ?_⟩
    walk_at "rd"
    refine ⟨a, rfl, hd.mono (s12.trans s3), fun H4 t q s4 okq et => ?_⟩
    refine rd_lcE (s4 _ _ eD) (by rw [df.length]; simp [pairsD]; omega) fun H5 eH e5 => ?_
    refine ⟨_, f ++ [q], by rw [eH]; exact Same.mut (s3.trans s4) hD, e5, by simp [hl], ?_, ?_⟩
    · intro x hx
      rcases List.mem_append.mp hx with h | h
      · exact okf x h
      · rw [List.mem_singleton.mp h]; exact okq
    · rw [eH]
      unfold pairsD
      rw [List.map_append]
      exact DnAll.updL (s4 _ _ eD) ((df.mono s4).append (.cons (.pair et) .nil))
  · rintro D H3 hD ⟨l, f, s3, eD, hl, okf, df⟩
    have s13 := s12.trans s3
    walk_at "rd"
    refine rd_newL (by simp) fun u2 H4 _ s4 eu2 _ => ?_
    walk_at "rd"
    have s14 := s13.trans s4
    refine ⟨a, u2, _, rfl, hd.mono s14, eu2, by simp, fun H5 i2 x2 s5 hx2 => ?_⟩
    obtain ⟨z2, rfl, z21⟩ : ∃ z : Nat, x2 = .int z ∧ z ≤ 1 := by
      match i2, hx2 with
      | 0, hx => cases hx; exact ⟨0, rfl, by decide⟩
      | 1, hx => cases hx; exact ⟨0, rfl, by decide⟩
      | 2, hx => cases hx; exact ⟨1, rfl, by decide⟩
      | i + 3, hx => simp at hx
    walk_at "rd"
    have s15 := s14.trans s5
    refine rd_rgR1 (by omega) (by omega) ?_
    have e1z : ((1 : Int) + (z2 : Int)).toNat = 1 + z2 := by omega
    rw [e1z]
    refine lcR_rng (fun D2 i H' => ∃ (l2 : List V) (q : List (Int × Int)), Same H5 H' ∧ H' D2 = some (.lst l2) ∧ q.length = i ∧ (∀ x ∈ q, OkP x) ∧ DnAll H' l2 (pairsD q)) (fun D2 H' _ s e _ => ⟨[], [], s, e, rfl, by simp, .nil⟩) ?_ ?_
    · rintro D2 i H' hD2 hi ⟨l2, q, s6, eD2, hl2, okq, dq⟩
      walk_at "rd"
      refine ⟨rfl, ?_⟩
      walk_at "rd"
      refine ⟨a, rfl, hd.mono (s15.trans s6), fun H7 t q2 s7 okq2 et => ?_⟩
      refine rd_lcE (s7 _ _ eD2) (by rw [dq.length]; simp [pairsD]; omega) fun H8 eH e8 => ?_
      refine ⟨_, q ++ [q2], by rw [eH]; exact Same.mut (s6.trans s7) hD2, e8, by simp [hl2], ?_, ?_⟩
      · intro x hx
        rcases List.mem_append.mp hx with h | h
        · exact okq x h
        · rw [List.mem_singleton.mp h]; exact okq2
      · rw [eH]
        unfold pairsD
        rw [List.map_append]
        exact DnAll.updL (s7 _ _ eD2) ((dq.mono s7).append (.cons (.pair et) .nil))
    · rintro D2 H6 hD2 ⟨l2, q, s6, eD2, hl2, okq, dq⟩
      walk_at "rd"
      refine rd_newT (by simp) fun t H7 _ s7 et _ => ?_
      have s37 := ((s4.trans s5).trans s6).trans s7
      refine k H7 t f q ((s15.trans s6).trans s7) ⟨by omega, by omega, fun z => by rw [z] at hl2; simp at hl2; omega, okf, okq⟩ ⟨D, D2, l, l2, et, s37 _ _ eD, s7 _ _ eD2, df.mono s37, dq.mono s7, none_back s12 hD, none_back s15 hD2⟩
end
end Sl

set_option Elab.async false
set_option linter.all false
set_option maxRecDepth 100000
set_option maxHeartbeats 8000000
set_option exponentiation.threshold 9000
namespace Sl
open PySem L2 C8 StX Silt
local macro_rules | `(tactic| walk_at "side") => `(tactic| first
  | exact cdivw (by omega) (by omega)
  | exact cmulw (by omega) (by omega) (by omega) (by omega)
  | exact Or.inr ⟨by omega, by omega⟩
  | exact Or.inl ⟨by omega, by omega⟩
  | omega
  | exact ⟨by omega, by omega, by decide⟩
  | decide)
local macro_rules | `(tactic| walk_at "rd1") => `(tactic| first
  | with_reducible refine rd_seq ?_
  | with_reducible refine rd_asg ?_
  | with_reducible refine rd_drop ?_
  | with_reducible refine rd_ret ?_
  | with_reducible refine rd_retN ?_
  | with_reducible refine rd_ifS ?_
  | ((with_reducible refine rd_var0 ?_); refine ⟨_, rfl, ?_⟩)
  | with_reducible refine rd_c ?_
  | with_reducible refine rd_op ?_
  | with_reducible refine rd_un ?_
  | with_reducible refine rd_I0 ?_
  | with_reducible refine rd_U ?_
  | ((with_reducible refine rd_I ?c ?_); (case c => walk_at "side"))
  | with_reducible refine rd_ipI ?_
  | with_reducible refine rd_eqI ?_
  | with_reducible refine rd_neI ?_
  | with_reducible refine rd_test ?_
  | with_reducible refine rd_tB ?_
  | with_reducible refine rd_bl ?_
  | with_reducible refine rd_not ?_
  | with_reducible refine rd_and ?_
  | with_reducible refine rd_or ?_
  | with_reducible refine rd_andV ?_
  | with_reducible refine rd_orV ?_
  | with_reducible refine rd_notV ?_
  | with_reducible refine rd_ifE ?_
  | with_reducible refine rd_chain ?_
  | with_reducible refine rd_chain3 ?_
  | with_reducible refine rd_nil ?_
  | with_reducible refine rd_cons ?_
  | with_reducible refine rd_call ?_
  | with_reducible refine rd_CB ?_
  | with_reducible refine rd_par ?_
  | with_reducible refine rd_par2 ?_
  | with_reducible refine rd_par3 ?_
  | with_reducible refine rd_par4 ?_
  | ((with_reducible refine rd_aug0 ?_); refine ⟨_, rfl, ?_⟩)
  | with_reducible refine rd_gname ?_
  | with_reducible refine rd_gcons ?_
  | with_reducible refine rd_gnil ?_
  | with_reducible refine rd_max ?_
  | with_reducible refine rd_min ?_
  | with_reducible refine rd_int1 ?_
  | with_reducible refine rd_abs ?_
  | with_reducible refine rd_lst ?_
  | with_reducible refine rd_tup ?_
  | with_reducible refine rd_bm ?_
  | with_reducible refine rd_fld0 ?_
  | with_reducible refine rd_sl0 ?_
  | with_reducible refine rd_noP ?_
  | with_reducible refine rd_part ?_
  | with_reducible refine rd_part2 ?_
  | with_reducible refine rd_meth0 ?_
  | with_reducible refine rd_star ?_
  | with_reducible refine rd_for ?_
  | with_reducible refine rd_rng1 ?_
  | with_reducible refine rd_rng2 ?_
  | with_reducible refine rd_rng3 ?_
  | with_reducible refine rd_iList ?_
  | with_reducible refine rd_iTup ?_
  | with_reducible refine rd_iEnum ?_
  | with_reducible refine rd_lc ?_
  | with_reducible refine rd_yes ?_
  | with_reducible refine rd_augS ?_
  | with_reducible refine rd_drawNew ?_
  | with_reducible refine rd_make0 ?_
  | with_reducible refine rd_next ?_
  | with_reducible refine rd_break ?_
  | with_reducible refine rd_cont ?_
  | with_reducible refine rd_iteTT ?_
  | with_reducible refine rd_iteFF ?_
  | with_reducible refine rd_iteNTT ?_
  | with_reducible refine rd_iteNFF ?_
  | with_reducible refine rd_con0 ?_
  | with_reducible refine rd_truO0 ?_
  | with_reducible refine rd_gfld0 ?_
  | with_reducible refine rd_dc ?_
  | with_reducible refine rd_iKeys ?_
  | with_reducible refine rd_dget0 ?_
  | with_reducible refine rd_dput0 ?_
  | with_reducible refine rd_dnot0 ?_
  | with_reducible refine rd_iEnumT ?_
  | with_reducible refine rd_raP0 ?_
  | with_reducible refine rd_xf0 ?_
  | with_reducible refine rd_cKw ?_
  | with_reducible refine rd_asgG ?_)
local macro_rules | `(tactic| walk_at "rd") => `(tactic| repeat walk_at "rd1")
local macro_rules | `(tactic| walk_at "len") => `(tactic| first
  | (intro vs H Q E h; obtain ⟨h2, _⟩ := h; rw [h2]; rfl)
  | (intro vs H Q E h; obtain ⟨_, h2, _⟩ := h; rw [h2]; rfl)
  | (intro vs H Q E h; obtain ⟨_, _, h2, _⟩ := h; rw [h2]; rfl)
  | (intro vs H Q E h; obtain ⟨_, _, _, h2, _⟩ := h; rw [h2]; rfl)
  | (intro vs H Q E h; obtain ⟨_, _, _, _, h2, _⟩ := h; rw [h2]; rfl)
  | (intro vs H Q E h; obtain ⟨_, _, _, _, _, h2, _⟩ := h; rw [h2]; rfl)
  | (intro vs H Q E h; obtain ⟨_, _, _, _, _, _, h2, _⟩ := h; rw [h2]; rfl)
  | (intro vs H Q E h; obtain ⟨_, _, _, _, _, _, _, h2, _⟩ := h; rw [h2]; rfl)
  | (intro vs H Q E h; obtain ⟨_, _, _, _, _, _, _, _, h2, _⟩ := h; rw [h2]; rfl)
  | (intro vs H Q E h; obtain ⟨_, _, _, _, _, _, _, _, _, h2, _⟩ := h; rw [h2]; rfl)
  | (intro vs H Q E h; obtain ⟨_, _, _, _, _, _, _, _, _, _, h2, _⟩ := h; rw [h2]; rfl)
  | (intro vs H Q E h; obtain ⟨_, _, _, _, _, _, _, _, _, _, _, h2, _⟩ := h; rw [h2]; rfl)
  | (intro vs H Q E h; obtain ⟨_, _, _, _, _, _, _, _, _, _, _, _, h2, _⟩ := h; rw [h2]; rfl))
def dueD (p : Pr) (g : Nat) : Int := owed p (g + 1) + 2 * size p (g + 1)
/-- N first bakes are due up to d -/
def DueR (p : Pr) (d : Int) (N : Nat) : Prop := (∀ k, k < N → dueD p k ≤ d) ∧ d < dueD p N
theorem dueD_mono {p : Pr} (g : Good p) (k : Nat) : ∀ j : Nat, dueD p k ≤ dueD p (k + j)
  | 0 => Int.le_refl _
  | j + 1 => by
    have ih := dueD_mono g k j
    have h1 := size_pos g (k + j + 1)
    have h2 := g.lo (k + j + 1)
    have h3 := g.le (k + j + 1)
    have e1 : owed p (k + (j + 1) + 1) = owed p (k + j + 1) + size p (k + j + 1) * ((p (k + j + 1)).1 - (p (k + j + 1)).2) := rfl
    have e2 : size p (k + (j + 1) + 1) = size p (k + j + 1) * (p (k + j + 1)).2 := rfl
    have h4 : 0 ≤ size p (k + j + 1) * ((p (k + j + 1)).1 - (p (k + j + 1)).2) := Int.mul_nonneg (by omega) (by omega)
    have h5 : size p (k + j + 1) * 1 ≤ size p (k + j + 1) * (p (k + j + 1)).2 := Int.mul_le_mul_of_nonneg_left (by omega) (by omega)
    unfold dueD at *
    rw [e1, e2]
    omega
theorem DueR.le {p : Pr} (g : Good p) {d : Int} {N : Nat} (h : DueR p d N) (k : Nat) : dueD p k ≤ d ↔ k < N := by
  constructor
  · intro z
    rcases Nat.lt_or_ge k N with y | y
    · exact y
    · have := dueD_mono g N (k - N)
      rw [show N + (k - N) = k by omega] at this
      have := h.2
      omega
  · exact h.1 k
theorem DueR.uniq {p : Pr} (g : Good p) {d : Int} {N M : Nat} (h : DueR p d N) (h' : DueR p d M) : N = M := by
  have a := h.le g M
  have b := h'.le g N
  have c := h.le g N
  have e := h'.le g M
  omega
def itF (n : Int) : List (Str × V) := [("grades", .int n)]
def ltF (n d : Int) : List (Str × V) := [("grade", .int n), ("day", .int d)]
theorem put_lt (n d : Int) : putF "day" (.int d) (putF "grade" (.int n) []) = ltF n d := by
  have h : ¬ (("grade" : Str) = "day") := by decide +kernel
  show (if ("grade" : Str) = "day" then [(("grade" : Str), V.int d)] else (("grade" : Str), V.int n) :: putF "day" (V.int d) []) = ltF n d
  rw [if_neg h]
  rfl
def InTP (C : Addr) (H : Hp) (x : Addr) (n : Int) : Prop := ∃ dx, H x = some (.ins C dx (itF n))
def LatP (C : Addr) (H : Hp) (x : Addr) (n d : Int) : Prop := ∃ dx, H x = some (.ins C dx (ltF n d))
def spChkS (C : Addr) : Sp := fun vs H Q _ => ∃ (r : Addr) (p : Pr) (b d : Int), vs = [.ref r, .int b, .int d] ∧ RuleP C H r p ∧ 1 ≤ b ∧ 0 ≤ d ∧ Q .non H
def spDueD (C : Addr) : Sp := fun vs H Q _ => ∃ (r : Addr) (p : Pr) (g : Nat), vs = [.ref r, .int g] ∧ RuleP C H r p ∧ g ≤ 2050 ∧ ∀ H', Same H H' → Q (.int (dueD p g)) H'
def spDueG (C : Addr) : Sp := fun vs H Q _ => ∃ (r : Addr) (p : Pr) (d : Int), vs = [.ref r, .int d] ∧ RuleP C H r p ∧ Dy d ∧ ∀ H' (N : Nat), Same H H' → N ≤ 2001 → DueR p d N → Q (.int N) H'
def spInT (C : Addr) : Sp := fun vs H Q _ => ∃ (self dx : Addr) (H0 : Hp) (n : Int), vs = [.ref self, .int n] ∧ Same H0 H ∧ H0 self = none ∧ H self = some (.ins C dx []) ∧ ∀ H', Same H0 H' → InTP C H' self n → Q .non H'
def spLat (C : Addr) : Sp := fun vs H Q _ => ∃ (self dx : Addr) (H0 : Hp) (n d : Int), vs = [.ref self, .int n, .int d] ∧ Same H0 H ∧ H0 self = none ∧ H self = some (.ins C dx []) ∧ ∀ H', Same H0 H' → LatP C H' self n d → Q .non H'
def spFalse : Sp := fun vs H Q _ => ∃ (a : Addr), vs = [.ref a] ∧ Q (.bl false) H
def spJudge (CR CI CL : Addr) : Sp := fun vs H Q _ => ∃ (r : Addr) (p : Pr) (b : Nat) (d : Int), vs = [.ref r, .int b, .int d] ∧ RuleP CR H r p ∧ (1 ≤ b ∧ b ≤ 2050) ∧ Dy d ∧
  ∀ H' (N : Nat), Same H H' → DueR p d N → (N ≤ b → ∀ x, InTP CI H' x N → Q (.ref x) H') ∧ (b < N → ∀ x, LatP CL H' x b (dueD p b) → Q (.ref x) H')
def spLeastB (C : Addr) : Sp := fun vs H Q _ => ∃ (r : Addr) (p : Pr) (d : Int), vs = [.ref r, .int d] ∧ RuleP C H r p ∧ Dy d ∧ ∀ H' (N : Nat), Same H H' → N ≤ 2001 → DueR p d N → Q (.int (max 1 (N : Int))) H'
def posK (S : Nat → Int) (k : Nat) : List Nat := (List.range k).filter fun g => decide (0 < S g)
def spLeftO (C : Addr) : Sp := fun vs H Q _ => ∃ (r : Addr) (p : Pr) (b : Int) (n : Nat), vs = [.ref r, .int b, .int n] ∧ RuleP C H r p ∧ (1 ≤ b ∧ b ≤ 1000000) ∧ n ≤ 3000 ∧ ∀ H' D, Same H H' → H D = none → H' D = some (.dK (dI (dN (posK (leftA p b n) (kmax p n)) (leftA p b n)))) → Q (.ref D) H'
section
variable {P : Program} {w : World} {K : PySem.W.Frag} {mg : Str → Option Value} {base : Heap} {C_Rule C_Evidence C_Good C_Bad C_InTime C_Late C_BadDay Lc__law_worked Lp__law_worked : Addr}
theorem cal_check_spread (T : TX K mg C_Rule C_Evidence C_Good C_Bad C_InTime C_Late C_BadDay Lc__law_worked Lp__law_worked) : Cal P w K mg base 3 "check_spread" (spChkS C_Rule) [] := by
  obtain ⟨f0, fd, D, dn⟩ := T.d_check_spread
  have G_check_rule := cal_check_rule (P := P) (w := w) (base := base) T
  have G_check_number_2 := cal_check_number_2 (P := P) (w := w) (base := base) T
  have G_check_number := cal_check_number (P := P) (w := w) (base := base) T
  refine cal0 D (D.fn.binds dn fun _ _ _ _ _ _ us hl => match us, hl with | [_, _, _], _ => rfl) .nil sc_check_spread (by walk_at "len") (fun cdv A outer s H vs Q E hr h => ?_)
  obtain ⟨r, p, b, d, rfl, hp, b0, d0, k⟩ := h
  refine ⟨_, (pss_cons (ps_expr (pe_c G_check_rule hr (by decide) rfl (pa_cons (pv 0) pa_nil)))
      (pss_cons (ps_expr (pe_c G_check_number_2 hr (by decide) rfl (pa_cons (pv 1) (pa_cons pe_int pa_nil))))
      (pss_one (ps_expr (pe_c G_check_number hr (by decide) rfl (pa_cons (pv 2) pa_nil)))))), ?_⟩
  walk_at "rd"
  refine ⟨r, p, rfl, hp, ?_⟩
  walk_at "rd"
  refine ⟨_, _, rfl, b0, ?_⟩
  walk_at "rd"
  refine ⟨_, _, rfl, d0, ?_⟩
  walk_at "rd"
  exact k
theorem cal_due_day (T : TX K mg C_Rule C_Evidence C_Good C_Bad C_InTime C_Late C_BadDay Lc__law_worked Lp__law_worked) : Cal P w K mg base 4 "due_day" (spDueD C_Rule) [] := by
  obtain ⟨f0, fd, D, dn⟩ := T.d_due_day
  have G_Rule_owed := met_Rule_owed (P := P) (w := w) (base := base) T
  have G_Rule_size := met_Rule_size (P := P) (w := w) (base := base) T
  refine cal0 D (D.fn.binds dn fun _ _ _ _ _ _ us hl => match us, hl with | [_, _], _ => rfl) .nil sc_due_day (by walk_at "len") (fun cdv A outer s H vs Q E hr h => ?_)
  obtain ⟨r, p, g, rfl, hp, hg, k⟩ := h
  obtain ⟨dx, t1, t2, e⟩ := hp.ins
  have gd := hp.good
  have b7 := bb_pos
  have sp := size_pos gd (g + 1)
  have sb := size_bb gd (g := g + 1) (by omega)
  have eg : ((g : Int) + 1).toNat = g + 1 := by omega
  refine ⟨_, (pss_one (ps_ret (pe_op op_add (pe_mt G_Rule_owed hr (by decide) (pv 0) (pa_cons (pe_op op_add (pv 1) pe_int) pa_nil)) (pe_op op_mul pe_int (pe_mt G_Rule_size hr (by decide) (pv 0) (pa_cons (pe_op op_add (pv 1) pe_int) pa_nil)))))), ?_⟩
  walk_at "rd"
  refine ⟨_, _, _, rfl, e, rfl, ?_⟩
  walk_at "rd"
  refine ⟨r, p, _, rfl, hp, by omega, fun H1 s1 => ?_⟩
  rw [eg]
  walk_at "rd"
  refine ⟨_, _, _, rfl, s1 _ _ e, rfl, ?_⟩
  walk_at "rd"
  refine ⟨r, p, _, rfl, hp.mono s1, by omega, ?_⟩
  rw [eg]
  walk_at "rd"
  exact k H1 s1
theorem cal_due_grades (T : TX K mg C_Rule C_Evidence C_Good C_Bad C_InTime C_Late C_BadDay Lc__law_worked Lp__law_worked) : Cal P w K mg base 5 "due_grades" (spDueG C_Rule) [] := by
  obtain ⟨f0, fd, D, dn⟩ := T.d_due_grades
  have G_due_day := cal_due_day (P := P) (w := w) (base := base) T
  refine cal0 D (D.fn.binds dn fun _ _ _ _ _ _ us hl => match us, hl with | [_, _], _ => rfl) .nil sc_due_grades (by walk_at "len") (fun cdv A outer s H vs Q E hr h => ?_)
  obtain ⟨r, p, d, rfl, hp, dy, k⟩ := h
  have gd := hp.good
  refine ⟨_, (pss_cons (ps_s 2 sc_due_grades.nd pe_int)
      (pss_cons (ps_while PassesOwn.never (pt_cmpR op_le (pe_c G_due_day hr (by decide) rfl (pa_cons (pv 0) (pa_cons (pv 2) pa_nil))) (pv 1) (nomark _)) (pss_one (ps_au 2 sc_due_grades.nd pe_int ip_add)))
      (pss_one (ps_ret (pv 2))))), ?_⟩
  walk_at "rd"
  refine rd_while (fun m σ H' => ∃ (N : Nat), m = 2002 - N ∧ Same H H' ∧ N ≤ 2001 ∧ (∀ k, k < N → dueD p k ≤ d) ∧ σ = [some (.ref r), some (.int d), some (.int (N : Nat))]) _ ⟨0, rfl, Same.refl _, by omega, (fun k hk => absurd hk (Nat.not_lt_zero _)), rfl⟩ ?_
  rintro m σ H1 ⟨N, rfl, s1, hN, hk, rfl⟩
  walk_at "rd"
  refine ⟨r, p, N, rfl, hp.mono s1, by omega, fun H2 s2 => ?_⟩
  walk_at "rd"
  refine rd_ite (fun c => ?_) (fun c => ?_)
  · refine rd_whN ?_
    have hN2 : N + 1 ≤ 2000 := by
      have ho := owed_nn gd (N + 1)
      have hs := size_pos gd (N + 1)
      unfold dueD at c
      exact grade_le gd (g := N + 1) (d := d) (by omega) dy.2
    walk_at "rd"
    refine ⟨2002 - (N + 1), by omega, N + 1, rfl, s1.trans s2, by omega, fun k hk2 => ?_, rfl⟩
    by_cases z : k = N
    · rw [z]; exact c
    · exact hk k (by omega)
  · walk_at "rd"
    exact k H2 N (s1.trans s2) hN ⟨hk, by omega⟩
theorem mak_InTime_init (T : TX K mg C_Rule C_Evidence C_Good C_Bad C_InTime C_Late C_BadDay Lc__law_worked Lp__law_worked) : Mak P w K mg base 1 "InTime" C_InTime (spInT C_InTime) [] := by
  obtain ⟨f0, fd, D, dn, mk⟩ := T.m_InTime_init
  refine mak0 mk T.mg_InTime D (D.binds dn fun _ _ _ _ _ _ us hl => match us, hl with | [_, _], _ => rfl) .nil sc_InTime_init (by walk_at "len") (fun cdv A outer s H vs Q E hr h => ?_)
  obtain ⟨self, dx, H0, n, rfl, s0, h0, eS, k⟩ := h
  refine ⟨_, (pss_one (ps_asg (pv 1) (pg_attr (pv 0)))), ?_⟩
  walk_at "rd"
  refine rd_gfld eS T.cl_InTime T.na_InTime_grades (by decide) fun H1 e1 e1' => ?_
  walk_at "rd"
  refine k H1 ?_ ⟨dx, e1'⟩
  rw [e1]
  exact Same.mut s0 h0
theorem mak_Late_init (T : TX K mg C_Rule C_Evidence C_Good C_Bad C_InTime C_Late C_BadDay Lc__law_worked Lp__law_worked) : Mak P w K mg base 1 "Late" C_Late (spLat C_Late) [] := by
  obtain ⟨f0, fd, D, dn, mk⟩ := T.m_Late_init
  refine mak0 mk T.mg_Late D (D.binds dn fun _ _ _ _ _ _ us hl => match us, hl with | [_, _, _], _ => rfl) .nil sc_Late_init (by walk_at "len") (fun cdv A outer s H vs Q E hr h => ?_)
  obtain ⟨self, dx, H0, n, d, rfl, s0, h0, eS, k⟩ := h
  refine ⟨_, (pss_cons (ps_asg (pv 1) (pg_attr (pv 0)))
      (pss_one (ps_asg (pv 2) (pg_attr (pv 0))))), ?_⟩
  walk_at "rd"
  refine rd_gfld eS T.cl_Late T.na_Late_grade (by decide) fun H1 e1 e1' => ?_
  walk_at "rd"
  refine rd_gfld e1' T.cl_Late T.na_Late_day (by show 1 < 1000; decide) fun H2 e2 e2' => ?_
  walk_at "rd"
  rw [put_lt] at e2'
  refine k H2 ?_ ⟨dx, e2'⟩
  rw [e2, e1]
  exact Same.mut (Same.mut s0 h0) h0
theorem met_InTime_bool (T : TX K mg C_Rule C_Evidence C_Good C_Bad C_InTime C_Late C_BadDay Lc__law_worked Lp__law_worked) : Met P w K mg base 1 C_InTime "__bool__" spTrue [] := by
  obtain ⟨f0, fd, D, dn, me, _⟩ := T.m_InTime_bool
  refine met0 T.cl_InTime me D (D.binds dn fun _ _ _ _ _ _ us hl => match us, hl with | [_], _ => rfl) sc_Good_bool (by walk_at "len") (fun cdv A outer s H vs Q E hr h => ?_)
  obtain ⟨a, rfl, k⟩ := h
  refine ⟨_, (pss_one (ps_ret pe_bl)), ?_⟩
  walk_at "rd"
  exact k
theorem met_Late_bool (T : TX K mg C_Rule C_Evidence C_Good C_Bad C_InTime C_Late C_BadDay Lc__law_worked Lp__law_worked) : Met P w K mg base 1 C_Late "__bool__" spFalse [] := by
  obtain ⟨f0, fd, D, dn, me, _⟩ := T.m_Late_bool
  refine met0 T.cl_Late me D (D.binds dn fun _ _ _ _ _ _ us hl => match us, hl with | [_], _ => rfl) sc_Bad_bool (by walk_at "len") (fun cdv A outer s H vs Q E hr h => ?_)
  obtain ⟨a, rfl, k⟩ := h
  refine ⟨_, (pss_one (ps_ret pe_bl)), ?_⟩
  walk_at "rd"
  exact k
theorem cal_judge_spread (T : TX K mg C_Rule C_Evidence C_Good C_Bad C_InTime C_Late C_BadDay Lc__law_worked Lp__law_worked) : Cal P w K mg base 6 "judge_spread" (spJudge C_Rule C_InTime C_Late) [] := by
  obtain ⟨f0, fd, D, dn⟩ := T.d_judge_spread
  have G_check_spread := cal_check_spread (P := P) (w := w) (base := base) T
  have G_due_grades := cal_due_grades (P := P) (w := w) (base := base) T
  have G_InTime_init := mak_InTime_init (P := P) (w := w) (base := base) T
  have G_Late_init := mak_Late_init (P := P) (w := w) (base := base) T
  have G_due_day := cal_due_day (P := P) (w := w) (base := base) T
  refine cal0 D (D.fn.binds dn fun _ _ _ _ _ _ us hl => match us, hl with | [_, _, _], _ => rfl) .nil sc_judge_spread (by walk_at "len") (fun cdv A outer s H vs Q E hr h => ?_)
  obtain ⟨r, p, b, d, rfl, hp, ⟨b0, b1⟩, dy, k⟩ := h
  have gd := hp.good
  refine ⟨_, (pss_cons (ps_expr (pe_c G_check_spread hr (by decide) rfl (pa_cons (pv 0) (pa_cons (pv 1) (pa_cons (pv 2) pa_nil)))))
      (pss_cons (ps_s 3 sc_judge_spread.nd (pe_c G_due_grades hr (by decide) rfl (pa_cons (pv 0) (pa_cons (pv 2) pa_nil))))
      (pss_cons (ps_if (pt_cmpR op_le (pv 3) (pv 1) (nomark _)) (pss_one (ps_ret (pe_mk G_InTime_init hr (by decide) rfl (pa_cons (pv 3) pa_nil)))) pss_nil)
      (pss_one (ps_ret (pe_mk G_Late_init hr (by decide) rfl (pa_cons (pv 1) (pa_cons (pe_c G_due_day hr (by decide) rfl (pa_cons (pv 0) (pa_cons (pv 1) pa_nil))) pa_nil)))))))), ?_⟩
  walk_at "rd"
  refine ⟨r, p, _, _, rfl, hp, by omega, dy.1, ?_⟩
  walk_at "rd"
  refine ⟨r, p, d, rfl, hp, dy, fun H1 N s1 hN hD => ?_⟩
  walk_at "rd"
  refine rd_ite (fun c => ?_) (fun c => ?_)
  · walk_at "rd"
    refine rd_make fun x dx H2 s2 hx e2 => ?_
    refine ⟨x, dx, H1, _, rfl, s2, hx, e2, fun H3 s3 ip => ⟨rfl, ?_⟩⟩
    exact (k H3 N (s1.trans s3) hD).1 (by omega) x ip
  · walk_at "rd"
    refine ⟨r, p, b, rfl, hp.mono s1, b1, fun H2 s2 => ?_⟩
    walk_at "rd"
    refine rd_make fun x dx H3 s3 hx e3 => ?_
    refine ⟨x, dx, H2, _, _, rfl, s3, hx, e3, fun H4 s4 ip => ⟨rfl, ?_⟩⟩
    exact (k H4 N ((s1.trans s2).trans s4) hD).2 (by omega) x ip
theorem cal_least_budget (T : TX K mg C_Rule C_Evidence C_Good C_Bad C_InTime C_Late C_BadDay Lc__law_worked Lp__law_worked) : Cal P w K mg base 6 "least_budget" (spLeastB C_Rule) [] := by
  obtain ⟨f0, fd, D, dn⟩ := T.d_least_budget
  have G_check_rule := cal_check_rule (P := P) (w := w) (base := base) T
  have G_check_number := cal_check_number (P := P) (w := w) (base := base) T
  have G_due_grades := cal_due_grades (P := P) (w := w) (base := base) T
  refine cal0 D (D.fn.binds dn fun _ _ _ _ _ _ us hl => match us, hl with | [_, _], _ => rfl) .nil sc_least_budget (by walk_at "len") (fun cdv A outer s H vs Q E hr h => ?_)
  obtain ⟨r, p, d, rfl, hp, dy, k⟩ := h
  refine ⟨_, (pss_cons (ps_expr (pe_c G_check_rule hr (by decide) rfl (pa_cons (pv 0) pa_nil)))
      (pss_cons (ps_expr (pe_c G_check_number hr (by decide) rfl (pa_cons (pv 1) pa_nil)))
      (pss_one (ps_ret (pe_callB (cr_max2 rfl) (by rfl) T.b_max (by decide +kernel) (pa_cons pe_int (pa_cons (pe_c G_due_grades hr (by decide) rfl (pa_cons (pv 0) (pa_cons (pv 1) pa_nil))) pa_nil))))))), ?_⟩
  walk_at "rd"
  refine ⟨r, p, rfl, hp, ?_⟩
  walk_at "rd"
  refine ⟨_, _, rfl, dy.1, ?_⟩
  walk_at "rd"
  refine ⟨r, p, d, rfl, hp, dy, fun H1 N s1 hN hD => ?_⟩
  walk_at "rd"
  exact k H1 N s1 hN hD
end
end Sl

set_option Elab.async false
set_option linter.all false
set_option maxRecDepth 100000
set_option maxHeartbeats 16000000
set_option exponentiation.threshold 9000
namespace Sl
open PySem L2 C8 StX Silt
local macro_rules | `(tactic| walk_at "side") => `(tactic| first
  | exact cdivw (by omega) (by omega)
  | exact cmulw (by omega) (by omega) (by omega) (by omega)
  | exact Or.inr ⟨by omega, by omega⟩
  | exact Or.inl ⟨by omega, by omega⟩
  | omega
  | exact ⟨by omega, by omega, by decide⟩
  | decide)
local macro_rules | `(tactic| walk_at "rd1") => `(tactic| first
  | with_reducible refine rd_seq ?_
  | with_reducible refine rd_asg ?_
  | with_reducible refine rd_drop ?_
  | with_reducible refine rd_ret ?_
  | with_reducible refine rd_retN ?_
  | with_reducible refine rd_ifS ?_
  | ((with_reducible refine rd_var0 ?_); refine ⟨_, rfl, ?_⟩)
  | with_reducible refine rd_c ?_
  | with_reducible refine rd_op ?_
  | with_reducible refine rd_un ?_
  | with_reducible refine rd_I0 ?_
  | with_reducible refine rd_U ?_
  | ((with_reducible refine rd_I ?c ?_); (case c => walk_at "side"))
  | with_reducible refine rd_ipI ?_
  | with_reducible refine rd_eqI ?_
  | with_reducible refine rd_neI ?_
  | with_reducible refine rd_test ?_
  | with_reducible refine rd_tB ?_
  | with_reducible refine rd_bl ?_
  | with_reducible refine rd_not ?_
  | with_reducible refine rd_and ?_
  | with_reducible refine rd_or ?_
  | with_reducible refine rd_andV ?_
  | with_reducible refine rd_orV ?_
  | with_reducible refine rd_notV ?_
  | with_reducible refine rd_ifE ?_
  | with_reducible refine rd_chain ?_
  | with_reducible refine rd_chain3 ?_
  | with_reducible refine rd_nil ?_
  | with_reducible refine rd_cons ?_
  | with_reducible refine rd_call ?_
  | with_reducible refine rd_CB ?_
  | with_reducible refine rd_par ?_
  | with_reducible refine rd_par2 ?_
  | with_reducible refine rd_par3 ?_
  | with_reducible refine rd_par4 ?_
  | ((with_reducible refine rd_aug0 ?_); refine ⟨_, rfl, ?_⟩)
  | with_reducible refine rd_gname ?_
  | with_reducible refine rd_gcons ?_
  | with_reducible refine rd_gnil ?_
  | with_reducible refine rd_max ?_
  | with_reducible refine rd_min ?_
  | with_reducible refine rd_int1 ?_
  | with_reducible refine rd_abs ?_
  | with_reducible refine rd_lst ?_
  | with_reducible refine rd_tup ?_
  | with_reducible refine rd_bm ?_
  | with_reducible refine rd_fld0 ?_
  | with_reducible refine rd_sl0 ?_
  | with_reducible refine rd_noP ?_
  | with_reducible refine rd_part ?_
  | with_reducible refine rd_part2 ?_
  | with_reducible refine rd_meth0 ?_
  | with_reducible refine rd_star ?_
  | with_reducible refine rd_for ?_
  | with_reducible refine rd_rng1 ?_
  | with_reducible refine rd_rng2 ?_
  | with_reducible refine rd_rng3 ?_
  | with_reducible refine rd_iList ?_
  | with_reducible refine rd_iTup ?_
  | with_reducible refine rd_iEnum ?_
  | with_reducible refine rd_lc ?_
  | with_reducible refine rd_yes ?_
  | with_reducible refine rd_augS ?_
  | with_reducible refine rd_drawNew ?_
  | with_reducible refine rd_make0 ?_
  | with_reducible refine rd_next ?_
  | with_reducible refine rd_break ?_
  | with_reducible refine rd_cont ?_
  | with_reducible refine rd_iteTT ?_
  | with_reducible refine rd_iteFF ?_
  | with_reducible refine rd_iteNTT ?_
  | with_reducible refine rd_iteNFF ?_
  | with_reducible refine rd_con0 ?_
  | with_reducible refine rd_truO0 ?_
  | with_reducible refine rd_gfld0 ?_
  | with_reducible refine rd_dc ?_
  | with_reducible refine rd_iKeys ?_
  | with_reducible refine rd_dget0 ?_
  | with_reducible refine rd_dput0 ?_
  | with_reducible refine rd_dnot0 ?_
  | with_reducible refine rd_iEnumT ?_
  | with_reducible refine rd_raP0 ?_
  | with_reducible refine rd_xf0 ?_
  | with_reducible refine rd_cKw ?_
  | with_reducible refine rd_asgG ?_)
local macro_rules | `(tactic| walk_at "rd") => `(tactic| repeat walk_at "rd1")
local macro_rules | `(tactic| walk_at "len") => `(tactic| first
  | (intro vs H Q E h; obtain ⟨h2, _⟩ := h; rw [h2]; rfl)
  | (intro vs H Q E h; obtain ⟨_, h2, _⟩ := h; rw [h2]; rfl)
  | (intro vs H Q E h; obtain ⟨_, _, h2, _⟩ := h; rw [h2]; rfl)
  | (intro vs H Q E h; obtain ⟨_, _, _, h2, _⟩ := h; rw [h2]; rfl)
  | (intro vs H Q E h; obtain ⟨_, _, _, _, h2, _⟩ := h; rw [h2]; rfl)
  | (intro vs H Q E h; obtain ⟨_, _, _, _, _, h2, _⟩ := h; rw [h2]; rfl)
  | (intro vs H Q E h; obtain ⟨_, _, _, _, _, _, h2, _⟩ := h; rw [h2]; rfl)
  | (intro vs H Q E h; obtain ⟨_, _, _, _, _, _, _, h2, _⟩ := h; rw [h2]; rfl)
  | (intro vs H Q E h; obtain ⟨_, _, _, _, _, _, _, _, h2, _⟩ := h; rw [h2]; rfl)
  | (intro vs H Q E h; obtain ⟨_, _, _, _, _, _, _, _, _, h2, _⟩ := h; rw [h2]; rfl)
  | (intro vs H Q E h; obtain ⟨_, _, _, _, _, _, _, _, _, _, h2, _⟩ := h; rw [h2]; rfl)
  | (intro vs H Q E h; obtain ⟨_, _, _, _, _, _, _, _, _, _, _, h2, _⟩ := h; rw [h2]; rfl)
  | (intro vs H Q E h; obtain ⟨_, _, _, _, _, _, _, _, _, _, _, _, h2, _⟩ := h; rw [h2]; rfl))
def rDAug (tv : TE) (rd : V → V → Hp → VK → Prop) (nx : L2.St → Hp → Prop) (σ : L2.St) (x y : V) (H2 : Hp) : Prop := ∃ a v, x = .ref a ∧ DGet H2 a y (some v) ∧ tv σ H2 fun y2 H3 => rd v y2 H3 fun z H4 => ∃ H5, DPut H4 a y z H5 ∧ nx σ H5
theorem rd_daug0 {σ : L2.St} {H : Hp} {td ty tv : TE} {rd : V → V → Hp → VK → Prop} {nx bk ct : L2.St → Hp → Prop} {rt : VK} (h : td σ H fun x H1 => ty σ H1 fun y H2 => rDAug tv rd nx σ x y H2) : sDAug td ty tv rd ⟨nx, rt, bk, ct⟩ σ H := h
def rDAugB (rd : V → V → Hp → VK → Prop) (nx : L2.St → Hp → Prop) (σ : L2.St) (a : Addr) (y v y2 : V) (H3 : Hp) : Prop := rd v y2 H3 fun z H4 => ∃ H5, DPut H4 a y z H5 ∧ nx σ H5
theorem rd_daugA {σ : L2.St} {H : Hp} {tv : TE} {rd : V → V → Hp → VK → Prop} {nx : L2.St → Hp → Prop} {a : Addr} {ls : List (Int × Int)} {k w : Int} (e : H a = some (.dK (dI ls))) (l : valV (dI ls) (Sum.inl k) = some (.int w)) (h : tv σ H fun y2 H3 => rDAugB rd nx σ a (.int k) (.int w) y2 H3) : rDAug tv rd nx σ (.ref a) (.int k) H :=
  ⟨a, .int w, rfl, .inl ⟨_, Sum.inl k, .inl e, rfl, l.symm⟩, h⟩
theorem rd_daugSub {σ : L2.St} {H : Hp} {nx : L2.St → Hp → Prop} {a : Addr} {ls : List (Int × Int)} {k w c : Int} (e : H a = some (.dK (dI ls))) (z : ls.length < 100000) (h : ∀ H', H' = upd H a (.dK (putK (dI ls) (Sum.inl k) (.int (w - c)))) → H' a = some (.dK (putK (dI ls) (Sum.inl k) (.int (w - c)))) → nx σ H') : rDAugB rSub nx σ a (.int k) (.int w) (.int c) H :=
  ⟨w, c, rfl, rfl, _, DPut.k (k := Sum.inl k) e (by rw [dI_len]; exact Nat.lt_trans z (by decide)), h _ rfl upd_same⟩
theorem dI_dN (ks : List Nat) (G : Nat → Int) : dI (dN ks G) = ks.map fun (i : Nat) => ((Sum.inl (i : Int) : Key), V.int (G i)) := by unfold dI dN; rw [List.map_map]; rfl
theorem dN_congr {ks : List Nat} {F G : Nat → Int} (h : ∀ i ∈ ks, F i = G i) : dN ks F = dN ks G := List.map_congr_left fun i hi => by rw [h i hi]
theorem dN_put {al : List Nat} {x0 : Nat} (h : x0 ∈ al) (F : Nat → Int) (w : Int) : putK (dI (dN al F)) (Sum.inl (x0 : Int)) (.int w) = dI (dN al fun i => if i = x0 then w else F i) := by
  rw [dI_dN, dI_dN]
  unfold putK
  rw [if_pos (by
    rw [List.any_eq_true]
    exact ⟨_, List.mem_map.mpr ⟨x0, h, rfl⟩, decide_eq_true rfl⟩), List.map_map]
  refine List.map_congr_left fun i _ => ?_
  show (if (Sum.inl (i : Int) : Key) = Sum.inl (x0 : Int) then ((Sum.inl (i : Int) : Key), V.int w) else (Sum.inl (i : Int), V.int (F i))) = _
  by_cases c : i = x0
  · rw [if_pos (by rw [c]), if_pos c]
  · rw [if_neg (fun z => c (by have := Sum.inl.inj z; omega)), if_neg c]
theorem dN_putN {al : List Nat} {x0 : Nat} (h : x0 ∉ al) (F : Nat → Int) (w : Int) : putK (dI (dN al F)) (Sum.inl (x0 : Int)) (.int w) = dI (dN (al ++ [x0]) fun i => if i = x0 then w else F i) := by
  rw [dI_putNew (fun q hq => by
    obtain ⟨y, hy, rfl⟩ := List.mem_map.mp hq
    show (y : Int) ≠ (x0 : Int)
    intro z
    exact h ((by omega : y = x0) ▸ hy))]
  congr 1
  unfold dN
  rw [List.map_append]
  congr 1
  · refine List.map_congr_left fun i hi => ?_
    exact congrArg _ (if_neg (fun (z : i = x0) => h (z ▸ hi))).symm
  · simp
theorem dN_val {ks : List Nat} (nd : ks.Nodup) (A : Nat → Int) {k : Nat} (m : k ∈ ks) : valV (dI (dN ks A)) (Sum.inl (k : Int)) = some (.int (A k)) := by
  refine dI_at ?_ (List.mem_map.mpr ⟨k, m, rfl⟩)
  rw [dN_keys]
  unfold natI
  exact List.Pairwise.map _ (fun a b z => by omega) nd
theorem dN_none {ks : List Nat} {A : Nat → Int} {k : Nat} (m : k ∉ ks) : valV (dI (dN ks A)) (Sum.inl (k : Int)) = none := by
  refine dI_no fun q hq => ?_
  obtain ⟨y, hy, rfl⟩ := List.mem_map.mp hq
  show (y : Int) ≠ (k : Int)
  intro z
  exact m ((by omega : y = k) ▸ hy)
/-- d.get(k, 0), the rest being 0 -/
theorem fd_get {ks : List Nat} {A : Nat → Int} (nd : ks.Nodup) (off : ∀ g, g ∉ ks → A g = 0) (k : Nat) : (valV (dI (dN ks A)) (Sum.inl (k : Int))).getD (.int 0) = .int (A k) := by
  by_cases m : k ∈ ks
  · rw [dN_val nd A m]; rfl
  · rw [dN_none m, off k m]; rfl
theorem range_nodup (k : Nat) : (List.range k).Nodup := List.nodup_range
theorem range_asc (k : Nat) : (List.range k).Pairwise (· < ·) := List.pairwise_lt_range
section
variable {P : Program} {w : World} {K : PySem.W.Frag} {mg : Str → Option Value} {base : Heap} {C_Rule C_Evidence C_Good C_Bad C_InTime C_Late C_BadDay Lc__law_worked Lp__law_worked : Addr}
theorem cal_left_over (T : TX K mg C_Rule C_Evidence C_Good C_Bad C_InTime C_Late C_BadDay Lc__law_worked Lp__law_worked) : Cal P w K mg base 6 "left_over" (spLeftO C_Rule) [] := by
  obtain ⟨f0, fd, D, dn⟩ := T.d_left_over
  have G_check_spread := cal_check_spread (P := P) (w := w) (base := base) T
  have G_baked := cal_baked (P := P) (w := w) (base := base) T
  have G_Rule_size := met_Rule_size (P := P) (w := w) (base := base) T
  refine cal0 D (D.fn.binds dn fun _ _ _ _ _ _ us hl => match us, hl with | [_, _, _], _ => rfl) .nil sc_left_over (by walk_at "len") (fun cdv A outer s H vs Q E hr h => ?_)
  obtain ⟨r, p, b, n, rfl, hp, ⟨b0, b1⟩, hn, k⟩ := h
  obtain ⟨dx, t1, t2, e⟩ := hp.ins
  have gd := hp.good
  have b8 := dd_bb
  have b9 := dd_pos
  have few : ∀ i : Nat, i ≤ 3000 → kmax p i ≤ 12 := fun i hi => kmax_few gd i (by rw [show ((2 ^ 12 : Nat) : Int) = 4096 from by decide]; omega)
  refine ⟨_, (pss_cons (ps_expr (pe_c G_check_spread hr (by decide) rfl (pa_cons (pv 0) (pa_cons (pv 1) (pa_cons (pv 2) pa_nil)))))
      (pss_cons (ps_if (pt_cmpR op_gt (pv 2) (pe_gc rfl T.g_MOST_DAYS) (nomark _)) (pss_one ps_never) pss_nil)
      (pss_cons (ps_s 3 sc_left_over.nd pe_dnewK)
      (pss_cons (ps_for PassesOwn.never rfl (pi_range2 rfl T.b_range (pa_cons pe_int (pa_cons (pe_op op_add (pv 2) pe_int) pa_nil))) (pg_n 4 sc_left_over.nd) (pss_cut (ps_for PassesOwn.never rfl (pi_list (pe_c G_baked hr (by decide) rfl (pa_cons (pv 0) (pa_cons (pv 4) pa_nil)))) (pg_n 5 sc_left_over.nd) (pss_one (ps_dput (hu_of hr) (pv 3) (pv 5) (pe_op op_add (pe_dget2 (hu_of hr) (pv 3) (pv 5) pe_int ⟨rfl, rfl, rfl, rfl⟩) (pe_mt G_Rule_size hr (by decide) (pv 0) (pa_cons (pe_op op_add (pv 5) pe_int) pa_nil))) rfl)))
      (pss_cons (ps_s 6 sc_left_over.nd (pv 1))
      (pss_one (ps_for PassesOwn.never rfl (pi_list (pe_callB (cr_sortDI rfl) (by rfl) T.b_sorted (by decide +kernel) (pa_cons (pv 3) pa_nil))) (pg_n 5 sc_left_over.nd) (pss_cons (ps_s 7 sc_left_over.nd (pe_callB (cr_min2 rfl) (by rfl) T.b_min (by decide +kernel) (pa_cons (pv 6) (pa_cons (pe_dget (hu_of hr) (pv 3) (pv 5) (fun _ _ => rfl)) pa_nil))))
      (pss_cons (ps_daug (hu_of hr) (pv 3) (pv 5) (pv 7) in_sub (fun _ _ _ => rfl))
      (pss_one (ps_au 6 sc_left_over.nd (pv 7) ip_sub)))))))))
      (pss_one (ps_ret (pe_dc (own := [("grade", 5)]) (g := gName 5) (tt := _) rfl sc_left_over.nd (pi_list (pe_callB (cr_sortDI rfl) (by rfl) T.b_sorted (by decide +kernel) (pa_cons (pv 3) pa_nil))) (blkOk_by (own := [("grade", 5)]) (N := N_left_over) (sc := fnScope s_left_over) (by decide +kernel)) (fun _ _ _ _ _ => (pg_n 5 sc_left_over.nd)) (fun _ _ _ _ _ => (pts_one (pt_cmpR op_gt (pe_dget (hu_of hr) (pv 3) (pv 5) (fun _ _ => rfl)) pe_int (nomark _)))) (fun _ _ _ _ _ => (pv 5)) (fun _ _ _ _ _ => (pe_dget (hu_of hr) (pv 3) (pv 5) (fun _ _ => rfl)))))))))), ?_⟩
  walk_at "rd"
  refine ⟨r, p, _, _, rfl, hp, b0, by omega, ?_⟩
  walk_at "rd"
  refine rd_iteF (by omega) ?_
  walk_at "rd"
  refine rd_dnew fun D H1 hD s1 eD _ => ?_
  walk_at "rd"
  refine rd_rgR2 (by omega) ?_
  have en : ((n : Int) + 1 - 1).toNat = n := by omega
  rw [en]
  refine forR_rng (fun i σ H' => ∃ v4 v5 v6 v7, Same H H' ∧ H' D = some (.dK (dI (dN (List.range (kmax p i)) (leftA p b i)))) ∧ σ = [some (.ref r), some (.int b), some (.int n), some (.ref D), v4, v5, v6, v7]) ⟨none, none, none, none, s1, eD, rfl⟩ ?_ ?_
  · rintro i σ H2 hi ⟨v4, v5, v6, v7, s2, eD2, rfl⟩
    obtain ⟨A, eA⟩ : ∃ A : Nat → Int, A = fun g => leftA p b i g + addA p ((i : Int) + 1) g := ⟨_, rfl⟩
    obtain ⟨B, eB⟩ : ∃ B, B = (bakedL p ((i : Int) + 1)).length := ⟨_, rfl⟩
    have hK := few i (by omega)
    have hK' := few (i + 1) (by omega)
    have ekm : kmax p (i + 1) = max (kmax p i) B := by rw [eB]; rfl
    have nnA : ∀ g, 0 ≤ A g := fun g => by rw [eA]; have := leftA_nn gd b i g; have := addA_nn gd ((i : Int) + 1) g; show 0 ≤ leftA p b i g + addA p ((i : Int) + 1) g; omega
    have offA : ∀ g, kmax p (i + 1) ≤ g → A g = 0 := by
      intro g hg
      rw [eA]
      show leftA p b i g + addA p ((i : Int) + 1) g = 0
      rw [leftA_off gd b i g (by omega)]
      unfold addA
      rw [if_neg (by omega)]
      rfl
    have eleft : leftA p b (i + 1) = spendA A b := by rw [eA]; rfl
    rw [show (1 : Int) + (i : Int) = (i : Int) + 1 by omega]
    walk_at "rd"
    refine ⟨fun σ' H' => ∃ v5, Same H H' ∧ H' D = some (.dK (dI (dN (List.range (kmax p (i + 1))) A))) ∧ σ' = [some (.ref r), some (.int b), some (.int n), some (.ref D), some (.int ((i : Int) + 1)), v5, v6, v7], ?_, ?_⟩
    · walk_at "rd"
      refine ⟨r, p, _, rfl, hp.mono s2, ⟨by omega, by omega⟩, fun H3 t s3 ht et => ?_⟩
      rw [bakedL_range gd, ← eB] at et
      have htD : t ≠ D := fun z => by rw [z, eD2] at ht; cases ht
      refine rd_lsR (SqL.of et) ?_
      refine forR_lst (xs := ((List.range B).map fun (j : Nat) => (j : Int)).map V.int) (fun j σ H' => ∃ v5, Same H H' ∧ H' t = some (.lst (((List.range B).map fun (j : Nat) => (j : Int)).map V.int)) ∧ H' D = some (.dK (dI (dN (List.range (max (kmax p i) j)) fun g => leftA p b i g + if g < j then size p (g + 1) else 0))) ∧ σ = [some (.ref r), some (.int b), some (.int n), some (.ref D), some (.int ((i : Int) + 1)), v5, v6, v7]) (fun j σ H' ⟨_, _, q, _⟩ => SqL.of q) ⟨v5, s2.trans s3, et, ?_, rfl⟩ ?_ ?_
      · rw [s3 _ _ eD2, Nat.max_zero]
        congr 4
        funext g
        rw [if_neg (by omega), Int.add_zero]
      · rintro j x σ H4 hx ⟨w5, s4, et4, eD4, rfl⟩
        have hj : j < B := by have := (List.getElem?_eq_some_iff.mp hx).1; simpa using this
        have hxj : x = V.int (j : Int) := by
          rw [List.getElem?_map, List.getElem?_map, List.getElem?_range hj] at hx
          exact (Option.some.inj hx).symm
        subst hxj
        walk_at "rd"
        refine rd_getD0 ?_
        walk_at "rd"
        refine rd_getD (.inl eD4) ?_
        walk_at "rd"
        refine rd_getD2 (w := leftA p b i j + if j < j then size p (j + 1) else 0) (.inl eD4) (fd_get (range_nodup _) (fun g hg => ?_) j) ?_
        · have hg : ¬ g < max (kmax p i) j := fun z => hg (List.mem_range.mpr z)
          show (leftA p b i g + if g < j then size p (g + 1) else 0) = 0
          rw [leftA_off gd b i g (by omega), if_neg (by omega)]
          rfl
        rw [if_neg (Nat.lt_irrefl j), Int.add_zero]
        walk_at "rd"
        refine ⟨_, _, _, rfl, s4 _ _ e, rfl, ?_⟩
        walk_at "rd"
        refine ⟨r, p, _, rfl, hp.mono s4, by omega, ?_⟩
        rw [show ((j : Int) + 1).toNat = j + 1 by omega]
        walk_at "rd"
        refine rd_dput eD4 (by rw [dN_len, List.length_range]; omega) fun H5 eH5 eD5 => ?_
        have hput : putK (dI (dN (List.range (max (kmax p i) j)) fun g => leftA p b i g + if g < j then size p (g + 1) else 0)) (Sum.inl (j : Int)) (.int (leftA p b i j + size p (j + 1))) = dI (dN (List.range (max (kmax p i) (j + 1))) fun g => leftA p b i g + if g < j + 1 then size p (g + 1) else 0) := by
          have hf : (fun g => if g = j then leftA p b i j + size p (j + 1) else leftA p b i g + if g < j then size p (g + 1) else 0) = fun g => leftA p b i g + if g < j + 1 then size p (g + 1) else 0 := by
            funext g
            by_cases c : g = j
            · subst c
              rw [if_pos rfl, if_pos (by omega)]
            · rw [if_neg c]
              by_cases c2 : g < j
              · rw [if_pos c2, if_pos (by omega)]
              · rw [if_neg c2, if_neg (by omega)]
          by_cases c : j < max (kmax p i) j
          · rw [dN_put (List.mem_range.mpr c), hf, show max (kmax p i) (j + 1) = max (kmax p i) j by omega]
          · rw [dN_putN (fun z => c (List.mem_range.mp z)), hf, show max (kmax p i) (j + 1) = max (kmax p i) j + 1 by omega, List.range_succ, show max (kmax p i) j = j by omega]
        rw [hput] at eH5 eD5
        refine ⟨_, by rw [eH5]; exact Same.mut s4 hD, by rw [eH5, upd_ne htD]; exact et4, eD5, rfl⟩
      · rintro σ H4 ⟨w5, s4, et4, eD4, rfl⟩
        rw [List.length_map, List.length_map, List.length_range, ← ekm] at eD4
        walk_at "rd"
        refine ⟨_, s4, ?_, rfl⟩
        rw [eD4]
        congr 4
        rw [eA]
        funext g
        show _ = leftA p b i g + addA p ((i : Int) + 1) g
        unfold addA
        rw [eB]
    rintro σ H3 ⟨w5, s3, eD3, rfl⟩
    walk_at "rd"
    refine rd_sortDI eD3 (by rw [dN_keys]; exact natI_asc (range_asc _)) (by rw [dN_len, List.length_range]; omega) fun t H4 ht s4 et => ?_
    rw [dN_keys] at et
    have htD : t ≠ D := fun z => by rw [z, eD3] at ht; cases ht
    refine rd_lsR (SqL.of et) ?_
    refine forR_lst (xs := (natI (List.range (kmax p (i + 1)))).map V.int) (fun j σ H' => ∃ v5 v7, Same H H' ∧ H' t = some (.lst ((natI (List.range (kmax p (i + 1)))).map V.int)) ∧ H' D = some (.dK (dI (dN (List.range (kmax p (i + 1))) fun g => if g < j then spendA A b g else A g))) ∧ σ = [some (.ref r), some (.int b), some (.int n), some (.ref D), some (.int ((i : Int) + 1)), v5, some (.int (restA A b j)), v7]) (fun j σ H' ⟨_, _, _, q, _⟩ => SqL.of q) ⟨w5, v7, s3.trans s4, et, ?_, ?_⟩ ?_ ?_
    · rw [s4 _ _ eD3]
      congr 4
    · have : restA A b 0 = b := by unfold restA preS; omega
      rw [this]
      rfl
    · rintro j x σ H5 hx ⟨y5, y7, s5, et5, eD5, rfl⟩
      have hj : j < kmax p (i + 1) := by have := (List.getElem?_eq_some_iff.mp hx).1; simpa [natI] using this
      have hxj : x = V.int (j : Int) := by
        rw [List.getElem?_map, natI_get (List.getElem?_range hj)] at hx
        exact (Option.some.inj hx).symm
      subst hxj
      have hv : valV (dI (dN (List.range (kmax p (i + 1))) fun g => if g < j then spendA A b g else A g)) (Sum.inl (j : Int)) = some (.int (A j)) := by
        rw [dN_val (range_nodup _) _ (List.mem_range.mpr hj), if_neg (Nat.lt_irrefl j)]
      walk_at "rd"
      refine rd_dget (.inl eD5) hv ?_
      walk_at "rd"
      refine rd_daug0 ?_
      walk_at "rd"
      refine rd_daugA eD5 hv ?_
      walk_at "rd"
      refine rd_daugSub eD5 (by rw [dN_len, List.length_range]; omega) fun H6 eH6 eD6 => ?_
      rw [dN_put (List.mem_range.mpr hj)] at eH6 eD6
      walk_at "rd"
      have er : restA A b (j + 1) = restA A b j - min (restA A b j) (A j) := restA_succ nnA b j
      rw [er]
      refine ⟨_, _, by rw [eH6]; exact Same.mut s5 hD, by rw [eH6, upd_ne htD]; exact et5, ?_, rfl⟩
      rw [eD6]
      congr 4
      funext g
      by_cases c : g = j
      · subst c
        rw [if_pos rfl, if_pos (by omega)]
        rfl
      · rw [if_neg c]
        by_cases c2 : g < j
        · rw [if_pos c2, if_pos (by omega)]
        · rw [if_neg c2, if_neg (by omega)]
    · rintro σ H5 ⟨y5, y7, s5, et5, eD5, rfl⟩
      rw [List.length_map, natI_len, List.length_range] at eD5
      walk_at "rd"
      refine ⟨_, _, _, _, s5, ?_, rfl⟩
      rw [eD5, eleft]
      congr 3
      exact dN_congr fun g hg => if_pos (List.mem_range.mp hg)
  · rintro σ H2 ⟨v4, v5, v6, v7, s2, eD2, rfl⟩
    have hK := few n hn
    walk_at "rd"
    refine rd_sortDI eD2 (by rw [dN_keys]; exact natI_asc (range_asc _)) (by rw [dN_len, List.length_range]; omega) fun t H3 ht s3 et => ?_
    rw [dN_keys] at et
    refine rd_lsR (SqL.of et) ?_
    have eD3 := s3 _ _ eD2
    refine dcR_lst (xs := (natI (List.range (kmax p n))).map V.int) (fun D2 j H' => Same H3 H' ∧ H' D2 = some (.dK (dI (dN (posK (leftA p b n) j) (leftA p b n))))) (fun D2 j H' _ ⟨s, _⟩ => SqL.of (s _ _ et)) (fun D2 H' _ s e _ => ⟨s, e⟩) ?_ ?_
    · rintro D2 j x H4 hD2 hx ⟨s4, eE⟩
      have hj : j < kmax p n := by have := (List.getElem?_eq_some_iff.mp hx).1; simpa [natI] using this
      have hxj : x = V.int (j : Int) := by
        rw [List.getElem?_map, natI_get (List.getElem?_range hj)] at hx
        exact (Option.some.inj hx).symm
      subst hxj
      have hv : valV (dI (dN (List.range (kmax p n)) (leftA p b n))) (Sum.inl (j : Int)) = some (.int (leftA p b n j)) := dN_val (range_nodup _) _ (List.mem_range.mpr hj)
      walk_at "rd"
      refine ⟨rfl, ?_⟩
      walk_at "rd"
      refine rd_dget (.inl (s4 _ _ eD3)) hv ?_
      walk_at "rd"
      have fl := filt_len (fun g => decide (0 < leftA p b n g)) j
      refine rd_ite (fun c => ?_) (fun c => ?_)
      · walk_at "rd"
        refine rd_dget (.inl (s4 _ _ eD3)) hv ?_
        refine rd_dcE eE (by rw [dN_len]; unfold posK; omega) (fun q hq => ?_) fun H5 eH5 eE5 => ?_
        · obtain ⟨y, hy, rfl⟩ := List.mem_map.mp hq
          have := filter_lt y hy
          show (y : Int) ≠ (j : Int)
          omega
        · refine ⟨by rw [eH5]; exact Same.mut s4 hD2, ?_⟩
          rw [eE5]
          unfold posK
          rw [filter_succ, if_pos (decide_eq_true c)]
          unfold dN
          rw [List.map_append]
          rfl
      · refine ⟨s4, ?_⟩
        unfold posK
        rw [filter_succ, if_neg (by rw [decide_eq_true_iff]; exact c), List.append_nil]
        exact eE
    · rintro D2 H4 hD2 ⟨s4, eE⟩
      rw [List.length_map, natI_len, List.length_range] at eE
      walk_at "rd"
      exact k H4 D2 ((s2.trans s3).trans s4) (none_back (s2.trans s3) hD2) eE
end
end Sl

set_option Elab.async false
set_option linter.all false
set_option maxRecDepth 100000
set_option maxHeartbeats 16000000
set_option exponentiation.threshold 9000
namespace Sl
open PySem L2 C8 StX Silt LamX LamK
local macro_rules | `(tactic| walk_at "side") => `(tactic| first
  | exact cdivw (by omega) (by omega)
  | exact cmulw (by omega) (by omega) (by omega) (by omega)
  | exact Or.inr ⟨by omega, by omega⟩
  | exact Or.inl ⟨by omega, by omega⟩
  | omega
  | exact ⟨by omega, by omega, by decide⟩
  | decide)
local macro_rules | `(tactic| walk_at "rd1") => `(tactic| first
  | with_reducible refine rd_seq ?_
  | with_reducible refine rd_asg ?_
  | with_reducible refine rd_drop ?_
  | with_reducible refine rd_ret ?_
  | with_reducible refine rd_retN ?_
  | with_reducible refine rd_ifS ?_
  | ((with_reducible refine rd_var0 ?_); refine ⟨_, rfl, ?_⟩)
  | with_reducible refine rd_c ?_
  | with_reducible refine rd_op ?_
  | with_reducible refine rd_un ?_
  | with_reducible refine rd_I0 ?_
  | with_reducible refine rd_U ?_
  | ((with_reducible refine rd_I ?c ?_); (case c => walk_at "side"))
  | with_reducible refine rd_ipI ?_
  | with_reducible refine rd_eqI ?_
  | with_reducible refine rd_neI ?_
  | with_reducible refine rd_test ?_
  | with_reducible refine rd_tB ?_
  | with_reducible refine rd_bl ?_
  | with_reducible refine rd_not ?_
  | with_reducible refine rd_and ?_
  | with_reducible refine rd_or ?_
  | with_reducible refine rd_andV ?_
  | with_reducible refine rd_orV ?_
  | with_reducible refine rd_notV ?_
  | with_reducible refine rd_ifE ?_
  | with_reducible refine rd_chain ?_
  | with_reducible refine rd_chain3 ?_
  | with_reducible refine rd_nil ?_
  | with_reducible refine rd_cons ?_
  | with_reducible refine rd_call ?_
  | with_reducible refine rd_CB ?_
  | with_reducible refine rd_par ?_
  | with_reducible refine rd_par2 ?_
  | with_reducible refine rd_par3 ?_
  | with_reducible refine rd_par4 ?_
  | ((with_reducible refine rd_aug0 ?_); refine ⟨_, rfl, ?_⟩)
  | with_reducible refine rd_gname ?_
  | with_reducible refine rd_gcons ?_
  | with_reducible refine rd_gnil ?_
  | with_reducible refine rd_max ?_
  | with_reducible refine rd_min ?_
  | with_reducible refine rd_int1 ?_
  | with_reducible refine rd_abs ?_
  | with_reducible refine rd_lst ?_
  | with_reducible refine rd_tup ?_
  | with_reducible refine rd_bm ?_
  | with_reducible refine rd_fld0 ?_
  | with_reducible refine rd_sl0 ?_
  | with_reducible refine rd_noP ?_
  | with_reducible refine rd_part ?_
  | with_reducible refine rd_part2 ?_
  | with_reducible refine rd_meth0 ?_
  | with_reducible refine rd_star ?_
  | with_reducible refine rd_for ?_
  | with_reducible refine rd_rng1 ?_
  | with_reducible refine rd_rng2 ?_
  | with_reducible refine rd_rng3 ?_
  | with_reducible refine rd_iList ?_
  | with_reducible refine rd_iTup ?_
  | with_reducible refine rd_iEnum ?_
  | with_reducible refine rd_lc ?_
  | with_reducible refine rd_yes ?_
  | with_reducible refine rd_augS ?_
  | with_reducible refine rd_drawNew ?_
  | with_reducible refine rd_make0 ?_
  | with_reducible refine rd_next ?_
  | with_reducible refine rd_break ?_
  | with_reducible refine rd_cont ?_
  | with_reducible refine rd_iteTT ?_
  | with_reducible refine rd_iteFF ?_
  | with_reducible refine rd_iteNTT ?_
  | with_reducible refine rd_iteNFF ?_
  | with_reducible refine rd_con0 ?_
  | with_reducible refine rd_truO0 ?_
  | with_reducible refine rd_gfld0 ?_
  | with_reducible refine rd_dc ?_
  | with_reducible refine rd_iKeys ?_
  | with_reducible refine rd_dget0 ?_
  | with_reducible refine rd_dput0 ?_
  | with_reducible refine rd_dnot0 ?_
  | with_reducible refine rd_iEnumT ?_
  | with_reducible refine rd_raP0 ?_
  | with_reducible refine rd_xf0 ?_
  | with_reducible refine rd_cKw ?_
  | with_reducible refine rd_asgG ?_)
local macro_rules | `(tactic| walk_at "rd") => `(tactic| repeat walk_at "rd1")
local macro_rules | `(tactic| walk_at "len") => `(tactic| first
  | (intro vs H Q E h; obtain ⟨h2, _⟩ := h; rw [h2]; rfl)
  | (intro vs H Q E h; obtain ⟨_, h2, _⟩ := h; rw [h2]; rfl)
  | (intro vs H Q E h; obtain ⟨_, _, h2, _⟩ := h; rw [h2]; rfl)
  | (intro vs H Q E h; obtain ⟨_, _, _, h2, _⟩ := h; rw [h2]; rfl)
  | (intro vs H Q E h; obtain ⟨_, _, _, _, h2, _⟩ := h; rw [h2]; rfl)
  | (intro vs H Q E h; obtain ⟨_, _, _, _, _, h2, _⟩ := h; rw [h2]; rfl)
  | (intro vs H Q E h; obtain ⟨_, _, _, _, _, _, h2, _⟩ := h; rw [h2]; rfl)
  | (intro vs H Q E h; obtain ⟨_, _, _, _, _, _, _, h2, _⟩ := h; rw [h2]; rfl)
  | (intro vs H Q E h; obtain ⟨_, _, _, _, _, _, _, _, h2, _⟩ := h; rw [h2]; rfl)
  | (intro vs H Q E h; obtain ⟨_, _, _, _, _, _, _, _, _, h2, _⟩ := h; rw [h2]; rfl)
  | (intro vs H Q E h; obtain ⟨_, _, _, _, _, _, _, _, _, _, h2, _⟩ := h; rw [h2]; rfl)
  | (intro vs H Q E h; obtain ⟨_, _, _, _, _, _, _, _, _, _, _, h2, _⟩ := h; rw [h2]; rfl)
  | (intro vs H Q E h; obtain ⟨_, _, _, _, _, _, _, _, _, _, _, _, h2, _⟩ := h; rw [h2]; rfl))
mutual
theorem Dn.nT {H : Hp} : ∀ {v : V} {d : PyData}, Dn H v d → Dn (nT H) v d
  | _, _, .non => .non
  | _, _, .bl b => .bl b
  | _, _, .int i => .int i
  | _, _, .str x => .str x
  | _, _, .tup e h => .tup (nT_of e (fun _ z => by cases z)) (DnAll.nT h)
theorem DnAll.nT {H : Hp} : ∀ {vs : List V} {ds : List PyData}, DnAll H vs ds → DnAll (nT H) vs ds
  | _, _, .nil => .nil
  | _, _, .cons h t => .cons (Dn.nT h) (DnAll.nT t)
end
theorem ToldP.nT {H : Hp} {t : Addr} {f q : List (Int × Int)} (h : ToldP H t f q) : ToldP (nT H) t f q := by
  obtain ⟨l1, l2, xs1, xs2, h1, h2, h3, h4, h5⟩ := h
  exact ⟨l1, l2, xs1, xs2, nT_of h1 (fun _ z => by cases z), nT_of h2 (fun _ z => by cases z), nT_of h3 (fun _ z => by cases z), h4.nT, h5.nT⟩
theorem RuleP.nT {C : Addr} {H : Hp} {a : Addr} {p : Pr} (h : RuleP C H a p) : RuleP C (nT H) a p := by
  obtain ⟨f, q, ⟨dx, t1, t2, e1, h1, h2⟩, hq, hp, g⟩ := h
  exact ⟨f, q, ⟨dx, t1, t2, nT_of e1 (fun _ z => by cases z), h1.nT, h2.nT⟩, hq, hp, g⟩
theorem DrawP.nT {K : PySem.W.Frag} {H : Hp} {a : Addr} (h : DrawP K H a) : DrawP K (nT H) a := by
  obtain ⟨sc, ns, h1, h2⟩ := h
  exact ⟨sc, ns, nT_of h1 (fun _ z => by cases z), SqL.nT h2⟩
/-- rows and grades of the play, at a day -/
def GradesP (H : Hp) (F : Addr) (p : Pr) (n : Nat) : Prop := ∃ vs, H F = some (.lst vs) ∧ vs.length = n ∧ ∀ i : Nat, i < n → ∃ t r g, vs[i]? = some (.ref t) ∧ H t = some (.tup [.ref r, .ref g]) ∧ H g = some (.lst ((bakedL p i).map V.int))
theorem GradesP.mono {H H' : Hp} {F : Addr} {p : Pr} {n : Nat} (s : Same H H') (h : GradesP H F p n) : GradesP H' F p n := by
  obtain ⟨vs, e, l, k⟩ := h
  refine ⟨vs, s _ _ e, l, fun i hi => ?_⟩
  obtain ⟨t, r, g, h1, h2, h3⟩ := k i hi
  exact ⟨t, r, g, h1, s _ _ h2, s _ _ h3⟩
/-! ### tasks in the heap -/
def tkV (x : Tk) : List V := [.int x.1, .int x.2.1, .int x.2.2]
def tkOf (H : Hp) (r : Addr) : Tk := match H r with
  | some (.lst [.int a, .int b, .int c]) => (a, b, c)
  | _ => (0, 0, 0)
theorem tkOf_of {H : Hp} {r : Addr} {x : Tk} (e : H r = some (.lst (tkV x))) : tkOf H r = x := by
  unfold tkOf
  rw [e]
  rfl
/-- the lists of what is left, each a dict -/
def LeftP (H : Hp) (LF : Addr) (p : Pr) (b : Int) (m : Nat) : Prop := ∃ vs, H LF = some (.lst vs) ∧ vs.length = m ∧ ∀ i : Nat, i < m → ∃ (D : Addr) (ks : List Nat), vs[i]? = some (.ref D) ∧ H D = some (.dK (dI (dN ks (leftA p b i)))) ∧ ks.Nodup ∧ ∀ k : Nat, k ∈ ks ↔ 0 < leftA p b i k
theorem LeftP.mono {H H' : Hp} {LF : Addr} {p : Pr} {b : Int} {m : Nat} (s : Same H H') (h : LeftP H LF p b m) : LeftP H' LF p b m := by
  obtain ⟨vs, e, l, k⟩ := h
  refine ⟨vs, s _ _ e, l, fun i hi => ?_⟩
  obtain ⟨D, ks, h1, h2, h3⟩ := k i hi
  exact ⟨D, ks, h1, s _ _ h2, h3⟩
theorem LeftP.updL {H : Hp} {LF a : Addr} {p : Pr} {b : Int} {m : Nat} {xs : List V} {o : HO} (e : H a = some (.lst xs)) (n : LF ≠ a) (h : LeftP H LF p b m) : LeftP (upd H a o) LF p b m := by
  obtain ⟨vs, e1, l, k⟩ := h
  refine ⟨vs, by rw [upd_ne n]; exact e1, l, fun i hi => ?_⟩
  obtain ⟨D, ks, h1, h2, h3⟩ := k i hi
  exact ⟨D, ks, h1, by rw [upd_ne (fun z => by rw [z, e] at h2; cases h2)]; exact h2, h3⟩
theorem Tabs.updL {T : List (Addr × Str)} {H : Hp} {a : Addr} {xs : List V} {o : HO} (e : H a = some (.lst xs)) (h : Tabs T H) : Tabs T (upd H a o) := fun p hp => by
  obtain ⟨ps, h1, h2, h3⟩ := h p hp
  refine ⟨ps, by rw [upd_ne (fun z => by rw [z, e] at h1; cases h1)]; exact h1, h2, fun pos cv hc => ?_⟩
  obtain ⟨c, e1, e2⟩ := h3 pos cv hc
  exact ⟨c, e1, by rw [upd_ne (fun z => by rw [z, e] at e2; cases e2)]; exact e2⟩
theorem Tabs.same {T : List (Addr × Str)} {H H' : Hp} (s : Same H H') (h : Tabs T H) : Tabs T H' := h.ext s
/-- what the loop keeps -/
structure WB (R : Hp) (T : List (Addr × Str)) (p : Pr) (b : Int) (LF TL : Addr) (m : Nat) (rs : List Addr) (H : Hp) : Prop where
  sr : Same R H
  nr : ∀ a u, R a = some u → ∀ ps, u ≠ .tbl ps
  tb : Tabs T H
  lf : LeftP H LF p b m
  tl : H TL = some (.lst (rs.map V.ref))
  ne : LF ≠ TL
  rl : R LF = none
  rt : R TL = none
  nd : rs.Nodup
  rr : ∀ r ∈ rs, R r = none
  tk : ∀ r ∈ rs, H r = some (.lst (tkV (tkOf H r)))
section
variable {R : Hp} {T : List (Addr × Str)} {p : Pr} {b : Int} {LF TL : Addr} {m : Nat} {rs : List Addr} {H H' : Hp}
theorem WB.neT (h : WB R T p b LF TL m rs H) {r : Addr} (hr : r ∈ rs) : r ≠ TL := fun z => by
  have e := h.tk r hr
  rw [z, h.tl] at e
  cases rs with
  | nil => cases hr
  | cons x xs => cases e
theorem WB.neL (h : WB R T p b LF TL m rs H) (hm : 0 < m) {r : Addr} (hr : r ∈ rs) : LF ≠ r := fun z => by
  obtain ⟨vs, e, l, k⟩ := h.lf
  obtain ⟨D, ks, h1, _⟩ := k 0 hm
  have e2 := h.tk r hr
  rw [← z, e] at e2
  cases e2
  cases h1
theorem WB.ext (h : WB R T p b LF TL m rs H) (e : ExtN H H') (t : Tabs T H') : WB R T p b LF TL m rs H' ∧ ∀ r ∈ rs, tkOf H' r = tkOf H r := by
  have s := extN_same e
  have q : ∀ r ∈ rs, tkOf H' r = tkOf H r := fun r hr => tkOf_of (e _ _ (h.tk r hr) (fun _ z => by cases z))
  refine ⟨⟨fun a u hu => e a u (h.sr a u hu) (h.nr a u hu), h.nr, t, ?_, e _ _ h.tl (fun _ z => by cases z), h.ne, h.rl, h.rt, h.nd, h.rr, fun r hr => by rw [q r hr]; exact e _ _ (h.tk r hr) (fun _ z => by cases z)⟩, q⟩
  · obtain ⟨vs, e1, l, k⟩ := h.lf
    refine ⟨vs, e _ _ e1 (fun _ z => by cases z), l, fun i hi => ?_⟩
    obtain ⟨D, ks, h1, h2, h3⟩ := k i hi
    exact ⟨D, ks, h1, e _ _ h2 (fun _ z => by cases z), h3⟩
theorem WB.mono (h : WB R T p b LF TL m rs H) (s : Same H H') : WB R T p b LF TL m rs H' ∧ ∀ r ∈ rs, tkOf H' r = tkOf H r := by
  have q : ∀ r ∈ rs, tkOf H' r = tkOf H r := fun r hr => tkOf_of (s _ _ (h.tk r hr))
  exact ⟨⟨h.sr.trans s, h.nr, Tabs.same s h.tb, h.lf.mono s, s _ _ h.tl, h.ne, h.rl, h.rt, h.nd, h.rr, fun r hr => by rw [q r hr]; exact s _ _ (h.tk r hr)⟩, q⟩
theorem WB.app (h : WB R T p b LF TL m rs H) (hm : 0 < m) {r : Addr} {x : Tk} (hr : R r = none) (hn : r ∉ rs) (e : H r = some (.lst (tkV x))) : WB R T p b LF TL m (rs ++ [r]) (upd H TL (.lst ((rs ++ [r]).map V.ref))) ∧ (rs ++ [r]).map (tkOf (upd H TL (.lst ((rs ++ [r]).map V.ref)))) = rs.map (tkOf H) ++ [x] := by
  have hrt : r ≠ TL := fun z => by
    rw [z, h.tl] at e
    cases rs with
    | nil => cases e
    | cons y ys => cases e
  have q : ∀ y, y ≠ TL → tkOf (upd H TL (.lst ((rs ++ [r]).map V.ref))) y = tkOf H y := fun y hy => by
    unfold tkOf
    rw [upd_ne hy]
  refine ⟨⟨Same.mut h.sr h.rt, h.nr, Tabs.updL h.tl h.tb, h.lf.updL h.tl h.ne, upd_same, h.ne, h.rl, h.rt, ?_, fun y hy => ?_, fun y hy => ?_⟩, ?_⟩
  · rw [List.nodup_append]
    refine ⟨h.nd, by simp, fun y hy z hz => ?_⟩
    rw [List.mem_singleton.mp hz]
    exact fun w => hn (w ▸ hy)
  · rcases List.mem_append.mp hy with z | z
    · exact h.rr y z
    · rw [List.mem_singleton.mp z]; exact hr
  · rcases List.mem_append.mp hy with z | z
    · rw [q y (h.neT z), upd_ne (h.neT z)]
      exact h.tk y z
    · rw [List.mem_singleton.mp z, q r hrt, upd_ne hrt, tkOf_of e]
      exact e
  · rw [List.map_append]
    congr 1
    · exact List.map_congr_left fun y hy => q y (h.neT hy)
    · show [tkOf _ r] = [x]
      rw [q r hrt, tkOf_of e]
theorem WB.set (h : WB R T p b LF TL m rs H) (hm : 0 < m) {r : Addr} (hr : r ∈ rs) (x : Tk) : WB R T p b LF TL m rs (upd H r (.lst (tkV x))) ∧ (tkOf (upd H r (.lst (tkV x))) r = x) ∧ ∀ y, y ≠ r → tkOf (upd H r (.lst (tkV x))) y = tkOf H y := by
  have q : ∀ y, y ≠ r → tkOf (upd H r (.lst (tkV x))) y = tkOf H y := fun y hy => by
    unfold tkOf
    rw [upd_ne hy]
  have q0 : tkOf (upd H r (.lst (tkV x))) r = x := tkOf_of upd_same
  have e := h.tk r hr
  refine ⟨⟨Same.mut h.sr (h.rr r hr), h.nr, Tabs.updL e h.tb, h.lf.updL e (h.neL hm hr), by rw [upd_ne (h.neT hr).symm]; exact h.tl, h.ne, h.rl, h.rt, h.nd, h.rr, fun y hy => ?_⟩, q0, q⟩
  by_cases c : y = r
  · rw [c, q0]
    exact upd_same
  · rw [q y c, upd_ne c]
    exact h.tk y hy
end

/-! ### which is late -/
theorem due_strict {p : Pr} (g : Good p) {k j : Nat} (h : k < j) : dueD p k < dueD p j := by
  have h0 := dueD_mono g (k + 1) (j - (k + 1))
  rw [show k + 1 + (j - (k + 1)) = j by omega] at h0
  have h1 := size_pos g (k + 1)
  have h2 := g.lo (k + 1)
  have h3 := g.le (k + 1)
  have e1 : owed p (k + 1 + 1) = owed p (k + 1) + size p (k + 1) * ((p (k + 1)).1 - (p (k + 1)).2) := rfl
  have e2 : size p (k + 1 + 1) = size p (k + 1) * (p (k + 1)).2 := rfl
  have h4 : 0 ≤ size p (k + 1) * ((p (k + 1)).1 - (p (k + 1)).2) := Int.mul_nonneg (by omega) (by omega)
  have h5 : size p (k + 1) * 2 ≤ size p (k + 1) * (p (k + 1)).2 := Int.mul_le_mul_of_nonneg_left (by omega) (by omega)
  have : dueD p k < dueD p (k + 1) := by
    unfold dueD
    rw [e1, e2]
    omega
  omega
/-- a task of the grade k that came up on a day up to i -/
def TaskOk (p : Pr) (i : Nat) (x : Tk) : Prop := ∃ k d : Nat, x.1 = (k : Int) ∧ d ≤ i ∧ isBaked p k d = true ∧ x.2.1 = (d : Int) + size p (k + 1) ∧ 0 < x.2.2
theorem TaskOk.up {p : Pr} {i j : Nat} {x : Tk} (h : TaskOk p i x) (l : i ≤ j) : TaskOk p j x := by
  obtain ⟨k, d, h1, h2, h3⟩ := h
  exact ⟨k, d, h1, by omega, h3⟩
theorem late_bad {p : Pr} (g : Good p) {b i : Nat} {L : List Tk} (hn : ∀ x ∈ L, TaskOk p i x) (hs : ∀ k : Nat, sumG (k : Int) L = leftA p b i k) {x : Tk} (hx : x ∈ L) (hd : x.2.1 = (i : Int) + 1) : dueD p b ≤ (i : Int) + 1 ∧ (dueD p b = (i : Int) + 1 → x.1 = (b : Int)) := by
  obtain ⟨k, d, e1, h2, h3, e2, h5⟩ := hn x hx
  obtain ⟨q, hq, e3⟩ := (isBaked_ex g).mp h3
  have hs0 := size_pos g (k + 1)
  have hb' : isBaked p k ((i : Int) + 1) = true := (isBaked_ex g).mpr ⟨q + 1, by omega, by rw [Int.add_mul]; omega⟩
  have nn : ∀ y ∈ L, 0 ≤ y.2.2 := fun y hy => by obtain ⟨_, _, _, _, _, _, z⟩ := hn y hy; omega
  have hle := sumG_mem nn hx e1
  have h1 : 1 * size p (k + 1) ≤ q * size p (k + 1) := Int.mul_le_mul_of_nonneg_right hq (by omega)
  have hdu : dueD p k ≤ (i : Int) + 1 := by
    unfold dueD
    omega
  rcases Nat.lt_or_ge k b with z | z
  · have := in_time_left g z hb'
    rw [hs k, this] at hle
    omega
  · have hm := dueD_mono g b (k - b)
    rw [show b + (k - b) = k by omega] at hm
    refine ⟨by omega, fun e => ?_⟩
    rcases Nat.lt_or_ge b k with y | y
    · have := due_strict g y
      omega
    · have : k = b := by omega
      rw [e1, this]
theorem late_ex {p : Pr} (g : Good p) {b i : Nat} (hb : 1 ≤ b) {L : List Tk} (hn : ∀ x ∈ L, TaskOk p i x) (hs : ∀ k : Nat, sumG (k : Int) L = leftA p b i k) (hd : dueD p b = (i : Int) + 1) : ∃ x ∈ L, x.2.1 = (i : Int) + 1 := by
  have hl := late_left g (b := b) (t := i) hb (by unfold dueD at hd; omega)
  rw [← hs b] at hl
  obtain ⟨x, hx, e⟩ := sumG_ex hl
  refine ⟨x, hx, ?_⟩
  obtain ⟨k, d, e1, h2, h3, e2, h5⟩ := hn x hx
  have hk : k = b := by omega
  subst hk
  obtain ⟨q, hq, e3⟩ := (isBaked_ex g).mp h3
  have hs0 := size_pos g (k + 1)
  unfold dueD at hd
  have hq1 : q = 1 := by
    rcases Int.lt_or_le 1 q with z | z
    · have : 2 * size p (k + 1) ≤ q * size p (k + 1) := Int.mul_le_mul_of_nonneg_right (by omega) (by omega)
      omega
    · omega
  rw [hq1] at e3
  omega
def LateV (H : Hp) (p : Pr) (b i : Nat) (v : V) : Prop := ((i : Int) < dueD p b ∧ v = .non) ∨ (dueD p b ≤ (i : Int) ∧ ∃ t, v = .ref t ∧ H t = some (.tup [.int (dueD p b), .int (b : Int)]))
theorem LateV.keep {H H' : Hp} {p : Pr} {b i : Nat} {v : V} (s : ∀ a xs, H a = some (.tup xs) → H' a = some (.tup xs)) (h : LateV H p b i v) : LateV H' p b i v := by
  rcases h with h | ⟨h, t, e, h2⟩
  · exact .inl h
  · exact .inr ⟨h, t, e, s _ _ h2⟩
def spInS (CR C : Addr) : Sp := fun vs H Q _ => ∃ (x r : Addr) (p : Pr) (n : Int) (b : Nat) (d : Int), vs = [.ref x, .ref r, .int b, .int d] ∧ InTP C H x n ∧ RuleP CR H r p ∧ (1 ≤ b ∧ b ≤ 2050) ∧ Dy d ∧ ∀ H' (N : Nat), Same H H' → DueR p d N → Q (.bl (decide (n = (N : Int)) && decide ((N : Int) ≤ (b : Int)))) H'
def spLaS (CR C : Addr) : Sp := fun vs H Q _ => ∃ (x r : Addr) (p : Pr) (n e : Int) (b : Nat) (d : Int), vs = [.ref x, .ref r, .int b, .int d] ∧ LatP C H x n e ∧ RuleP CR H r p ∧ (1 ≤ b ∧ b ≤ 2050) ∧ Dy d ∧ ∀ H', Same H H' → Q (.bl (decide (n = (b : Int) ∧ e = dueD p b) && decide (e ≤ d))) H'
def spSecond : Sp := fun vs H Q _ => ∃ (t : Addr) (f q : List (Int × Int)) (g : Nat), vs = [.ref t, .int g] ∧ ToldP H t f q ∧ OkT f q ∧ g ≤ 100 ∧ ∀ H', Same H H' → Q (.int (dueD (atp f q) g)) H'
def spChkSX (CR C : Addr) : Sp := fun vs H _ E => ∃ (r : Addr) (p : Pr) (v1 v2 : V), vs = [.ref r, v1, v2] ∧ RuleP CR H r p ∧ E (.ref C) none H ∧ (BadN v1 1 ∨ ∃ i, v1 = .int i ∧ 1 ≤ i ∧ BadN v2 0)
def spLeftX (CR C : Addr) : Sp := fun vs H _ E => ∃ (r : Addr) (p : Pr) (b d : Int), vs = [.ref r, .int b, .int d] ∧ RuleP CR H r p ∧ E (.ref C) none H ∧ 1 ≤ b ∧ 3000 < d
def spWorked (Lp : Addr) : Sp := fun vs H Q _ => ∃ (t : Addr) (f q : List (Int × Int)) (b n : Nat), vs = [.ref t, .int b, .int n] ∧ ToldP H t f q ∧ OkT f q ∧ (1 ≤ b ∧ b ≤ 100000) ∧ n ≤ 1000 ∧ Tabs [(Lp, qL "_law_worked")] H ∧
  ∀ H' r LF v, ExtN H H' → Tabs [(Lp, qL "_law_worked")] H' → H' r = some (.tup [.ref LF, v]) → LeftP H' LF (atp f q) b (n + 1) → LateV H' (atp f q) b n v → Q (.ref r) H'
section
variable {P : Program} {w : World} {K : PySem.W.Frag} {mg : Str → Option Value} {base : Heap} {C_Rule C_Evidence C_Good C_Bad C_InTime C_Late C_BadDay Lc__law_worked Lp__law_worked : Addr}
theorem met_InTime_shows (T : TX K mg C_Rule C_Evidence C_Good C_Bad C_InTime C_Late C_BadDay Lc__law_worked Lp__law_worked) : Met P w K mg base 6 C_InTime "shows" (spInS C_Rule C_InTime) [] := by
  obtain ⟨f0, fd, D, dn, me, _⟩ := T.m_InTime_shows
  have G_check_spread := cal_check_spread (P := P) (w := w) (base := base) T
  have G_due_grades := cal_due_grades (P := P) (w := w) (base := base) T
  have G_is_whole := cal_is_whole (P := P) (w := w) (base := base) T
  refine met0 T.cl_InTime me D (D.binds dn fun _ _ _ _ _ _ us hl => match us, hl with | [_, _, _, _], _ => rfl) sc_InTime_shows (by walk_at "len") (fun cdv A outer s H vs Q E hr h => ?_)
  obtain ⟨x, r, p, n, b, d, rfl, ⟨dx, ex⟩, hp, ⟨b0, b1⟩, dy, k⟩ := h
  refine ⟨_, (pss_cons (ps_expr (pe_c G_check_spread hr (by decide) rfl (pa_cons (pv 1) (pa_cons (pv 2) (pa_cons (pv 3) pa_nil)))))
      (pss_one (ps_ret (pe_and (pe_c G_is_whole hr (by decide) rfl (pa_cons (pe_fld (pv 0) rfl) pa_nil)) (pe_one (pe_chain op_eq op_le (pe_fld (pv 0) rfl) (pe_c G_due_grades hr (by decide) rfl (pa_cons (pv 1) (pa_cons (pv 3) pa_nil))) (pv 2))))))), ?_⟩
  walk_at "rd"
  refine ⟨r, p, _, _, rfl, hp, by omega, dy.1, ?_⟩
  walk_at "rd"
  refine rd_fld ex T.cl_InTime T.na_InTime_grades rfl ?_
  refine ⟨_, rfl, ?_⟩
  walk_at "rd"
  refine rd_fld ex T.cl_InTime T.na_InTime_grades rfl ?_
  walk_at "rd"
  refine ⟨r, p, d, rfl, hp, dy, fun H1 N s1 hN hD => ?_⟩
  have k := k H1 N s1 hD
  walk_at "rd"
  refine rd_ite (fun c => ?_) (fun c => ?_)
  · rw [decide_eq_true c, Bool.true_and] at k
    walk_at "rd"
    exact k
  · rw [decide_eq_false c, Bool.false_and] at k
    walk_at "rd"
    exact k
theorem met_Late_shows (T : TX K mg C_Rule C_Evidence C_Good C_Bad C_InTime C_Late C_BadDay Lc__law_worked Lp__law_worked) : Met P w K mg base 5 C_Late "shows" (spLaS C_Rule C_Late) [] := by
  obtain ⟨f0, fd, D, dn, me, _⟩ := T.m_Late_shows
  have G_check_spread := cal_check_spread (P := P) (w := w) (base := base) T
  have G_is_whole := cal_is_whole (P := P) (w := w) (base := base) T
  have G_due_day := cal_due_day (P := P) (w := w) (base := base) T
  refine met0 T.cl_Late me D (D.binds dn fun _ _ _ _ _ _ us hl => match us, hl with | [_, _, _, _], _ => rfl) sc_Late_shows (by walk_at "len") (fun cdv A outer s H vs Q E hr h => ?_)
  obtain ⟨x, r, p, n, e, b, d, rfl, ⟨dx, ex⟩, hp, ⟨b0, b1⟩, dy, k⟩ := h
  refine ⟨_, (pss_cons (ps_expr (pe_c G_check_spread hr (by decide) rfl (pa_cons (pv 1) (pa_cons (pv 2) (pa_cons (pv 3) pa_nil)))))
      (pss_cons (ps_if (PW.pt (pw_or (pt_not (pt_val (pe_c G_is_whole hr (by decide) rfl (pa_cons (pe_fld (pv 0) rfl) pa_nil)))) (pw_or1 (pt_not (pt_val (pe_c G_is_whole hr (by decide) rfl (pa_cons (pe_fld (pv 0) rfl) pa_nil))))))) (pss_one (ps_ret pe_bl)) pss_nil)
      (pss_one (ps_ret (pe_and (pe_cmpR (op_eqD hr.units) (pe_tup (pa_cons (pe_fld (pv 0) rfl) (pa_cons (pe_fld (pv 0) rfl) pa_nil))) (pe_tup (pa_cons (pv 2) (pa_cons (pe_c G_due_day hr (by decide) rfl (pa_cons (pv 1) (pa_cons (pv 2) pa_nil))) pa_nil))) (nomark _)) (pe_one (pe_cmpR op_le (pe_fld (pv 0) rfl) (pv 3) (nomark _)))))))), ?_⟩
  walk_at "rd"
  refine ⟨r, p, _, _, rfl, hp, by omega, dy.1, ?_⟩
  walk_at "rd"
  refine rd_fld ex T.cl_Late T.na_Late_grade rfl ?_
  refine ⟨_, rfl, ?_⟩
  walk_at "rd"
  refine rd_fld ex T.cl_Late T.na_Late_day (by rfl) ?_
  refine ⟨_, rfl, ?_⟩
  walk_at "rd"
  refine rd_fld ex T.cl_Late T.na_Late_grade rfl ?_
  walk_at "rd"
  refine rd_fld ex T.cl_Late T.na_Late_day (by rfl) ?_
  walk_at "rd"
  refine rd_newT (by simp) fun u H1 _ s1 eu _ => ?_
  walk_at "rd"
  refine ⟨r, p, b, rfl, hp.mono s1, b1, fun H2 s2 => ?_⟩
  walk_at "rd"
  refine rd_newT (by simp) fun w H3 _ s3 ew _ => ?_
  have s23 := s2.trans s3
  have k := k H3 (s1.trans s23)
  refine rd_eqD (d := .tuple [.int n, .int e]) (e := .tuple [.int b, .int (dueD p b)]) (.tup (s23 _ _ eu) (.cons (.int _) (.cons (.int _) .nil))) (.tup ew (.cons (.int _) (.cons (.int _) .nil))) (by rfl) (by rfl) ?_
  have ee : PyData.eqv (.tuple [.int n, .int e]) (.tuple [.int b, .int (dueD p b)]) = decide (n = (b : Int) ∧ e = dueD p b) := by
    simp only [PyData.eqv, PyData.eqvAll, Bool.and_true]
    rw [Bool.eq_iff_iff]
    simp
  rw [ee]
  walk_at "rd"
  refine rd_ite (fun c => ?_) (fun c => ?_)
  · rw [decide_eq_true c, Bool.true_and] at k
    walk_at "rd"
    refine rd_fld ((s1.trans s23) _ _ ex) T.cl_Late T.na_Late_day (by rfl) ?_
    walk_at "rd"
    exact k
  · rw [decide_eq_false c, Bool.false_and] at k
    walk_at "rd"
    exact k
theorem cal__law_second (T : TX K mg C_Rule C_Evidence C_Good C_Bad C_InTime C_Late C_BadDay Lc__law_worked Lp__law_worked) : Cal P w K mg base 2 "_law_second" spSecond [] := by
  obtain ⟨f0, fd, D, dn⟩ := T.d__law_second
  have G__law_at := cal__law_at (P := P) (w := w) (base := base) T
  refine cal0 D (D.fn.binds dn fun _ _ _ _ _ _ us hl => match us, hl with | [_, _], _ => rfl) .nil sc__law_second (by walk_at "len") (fun cdv A outer s H vs Q E hr h => ?_)
  obtain ⟨t, f, q, g, rfl, tp, ok, hg, k⟩ := h
  have gd := ok.good
  have b7 := bb_pos
  generalize hp : atp f q = p at *
  refine ⟨_, (pss_cons (ps_asg (pe_tup (pa_cons pe_int (pa_cons pe_int pa_nil))) (pg_tup rfl (pgs_cons (pg_n 2 sc__law_second.nd) (pgs_cons (pg_n 3 sc__law_second.nd) pgs_nil))))
      (pss_cons (ps_for PassesOwn.never rfl (pi_range1 rfl T.b_range (pa_cons (pe_op op_add (pv 1) pe_int) pa_nil)) (pg_n 4 sc__law_second.nd) (pss_cons (ps_asg (pe_c G__law_at hr (by decide) rfl (pa_cons (pv 0) (pa_cons (pv 4) pa_nil))) (pg_tup rfl (pgs_cons (pg_n 5 sc__law_second.nd) (pgs_cons (pg_n 6 sc__law_second.nd) pgs_nil))))
      (pss_cons (ps_au 2 sc__law_second.nd (pe_op op_mulW (pv 3) (pe_op op_sub (pv 5) (pv 6))) ip_add)
      (pss_one (ps_au 3 sc__law_second.nd (pv 6) iop_mul)))))
      (pss_one (ps_ret (pe_op op_add (pv 2) (pe_op op_mul pe_int (pv 3))))))), ?_⟩
  walk_at "rd"
  refine rd_newT (by decide) fun t0 H0 _ s0 et0 _ => ?_
  walk_at "rd"
  refine rd_gtup et0 rfl ?_
  walk_at "rd"
  refine rd_rgR1 (by omega) (by omega) ?_
  have eg : ((g : Int) + 1).toNat = g + 1 := by omega
  rw [eg]
  refine forR_rng (fun i σ H' => ∃ v4 v5 v6, H' = H0 ∧ σ = [some (.ref t), some (.int g), some (.int (owed p i)), some (.int (size p i)), v4, v5, v6]) ⟨none, none, none, rfl, rfl⟩ ?_ ?_
  · rintro i σ H1 hi ⟨v4, v5, v6, rfl, rfl⟩
    have sb := size_bb gd (g := i) (by omega)
    have sp := size_pos gd i
    have l1 := gd.lo i
    have l2 := gd.le i
    have l3 := gd.hi i
    walk_at "rd"
    refine ⟨t, f, q, _, rfl, tp.mono s0, ok.ne, by omega, fun w ew => ?_⟩
    rw [hp, show (0 + (i : Int)).toNat = i by omega] at ew
    refine rd_gtup ew rfl ?_
    walk_at "rd"
    exact ⟨_, _, _, rfl, rfl⟩
  · rintro σ H1 ⟨v4, v5, v6, rfl, rfl⟩
    have sp := size_pos gd (g + 1)
    walk_at "rd"
    have e : owed p (g + 1) + 2 * size p (g + 1) = dueD p g := rfl
    rw [e]
    exact k H1 s0
theorem xal_check_spread (T : TX K mg C_Rule C_Evidence C_Good C_Bad C_InTime C_Late C_BadDay Lc__law_worked Lp__law_worked) : CalX P w K mg base 3 "check_spread" (spChkSX C_Rule C_BadDay) [] := by
  obtain ⟨f0, fd, D, dn⟩ := T.d_check_spread
  have G_check_rule := cal_check_rule (P := P) (w := w) (base := base) T
  have X_check_number_2 := xal_check_number_2 (P := P) (w := w) (base := base) T
  have X_check_number := xal_check_number (P := P) (w := w) (base := base) T
  refine calX0 D (D.fn.binds dn fun _ _ _ _ _ _ us hl => match us, hl with | [_, _, _], _ => rfl) .nil sc_check_spread (by walk_at "len") (fun cdv A outer s H vs Q E hr h => ?_)
  obtain ⟨r, p, v1, v2, rfl, hp, k, hb⟩ := h
  refine ⟨_, (pss_cons (ps_expr (pe_c G_check_rule hr (by decide) rfl (pa_cons (pv 0) pa_nil)))
      (pss_cons (ps_expr (pe_cX X_check_number_2 hr (by decide) rfl (fun σ => passAt (takes_of rfl rfl rfl rfl) σ) (pa_cons (pv 1) (pa_cons pe_int pa_nil))))
      (pss_one (ps_expr (pe_cX X_check_number hr (by decide) rfl (fun σ => passAt (takes_of rfl rfl rfl rfl) σ) (pa_cons (pv 2) pa_nil)))))), ?_⟩
  walk_at "rd"
  refine ⟨r, p, rfl, hp, ?_⟩
  walk_at "rd"
  refine rd_callSd ?_
  walk_at "rd"
  refine rd_callSd2 ⟨v1, 1, rfl, ?_⟩
  rcases hb with hb | ⟨i, rfl, hi, hb⟩
  · exact .inr ⟨hb, k⟩
  · refine .inl ⟨i, rfl, hi, ?_⟩
    walk_at "rd"
    refine rd_callSd ?_
    walk_at "rd"
    refine rd_callSd2 ⟨v2, 0, rfl, ?_⟩
    exact .inr ⟨hb, k⟩
theorem xal_judge_spread (T : TX K mg C_Rule C_Evidence C_Good C_Bad C_InTime C_Late C_BadDay Lc__law_worked Lp__law_worked) : CalX P w K mg base 6 "judge_spread" (spChkSX C_Rule C_BadDay) [] := by
  obtain ⟨f0, fd, D, dn⟩ := T.d_judge_spread
  have X_check_spread := xal_check_spread (P := P) (w := w) (base := base) T
  refine calX0 D (D.fn.binds dn fun _ _ _ _ _ _ us hl => match us, hl with | [_, _, _], _ => rfl) .nil sc_judge_spread (by walk_at "len") (fun cdv A outer s H vs Q E hr h => ?_)
  obtain ⟨r, p, v1, v2, rfl, hp, k, hb⟩ := h
  refine ⟨_, (pss_cons (ps_expr (pe_cX X_check_spread hr (by decide) rfl (fun σ => passAt (takes_of rfl rfl rfl rfl) σ) (pa_cons (pv 0) (pa_cons (pv 1) (pa_cons (pv 2) pa_nil)))))
      (pss_cons ps_never
      (pss_cons ps_never
      (pss_one ps_never)))), ?_⟩
  walk_at "rd"
  refine rd_callSd ?_
  walk_at "rd"
  refine rd_callSd2 ⟨r, p, v1, v2, rfl, hp, k, hb⟩
theorem xal_left_over (T : TX K mg C_Rule C_Evidence C_Good C_Bad C_InTime C_Late C_BadDay Lc__law_worked Lp__law_worked) : CalX P w K mg base 6 "left_over" (spLeftX C_Rule C_BadDay) [] := by
  obtain ⟨f0, fd, D, dn⟩ := T.d_left_over
  have G_check_spread := cal_check_spread (P := P) (w := w) (base := base) T
  refine calX0 D (D.fn.binds dn fun _ _ _ _ _ _ us hl => match us, hl with | [_, _, _], _ => rfl) .nil sc_left_over (by walk_at "len") (fun cdv A outer s H vs Q E hr h => ?_)
  obtain ⟨r, p, b, d, rfl, hp, k, hb, hd⟩ := h
  refine ⟨_, (pss_cons (ps_expr (pe_c G_check_spread hr (by decide) rfl (pa_cons (pv 0) (pa_cons (pv 1) (pa_cons (pv 2) pa_nil)))))
      (pss_cons (ps_if (pt_cmpR op_gt (pv 2) (pe_gc rfl T.g_MOST_DAYS) (nomark _)) (pss_one (ps_raiseO rfl (takes_of rfl rfl rfl rfl) T.x_BadDay T.mg_BadDay rfl)) pss_nil)
      (pss_cons (ps_s 3 sc_left_over.nd pe_dnewK)
      (pss_cons ps_never
      (pss_one ps_never))))), ?_⟩
  walk_at "rd"
  refine ⟨r, p, _, _, rfl, hp, hb, by omega, ?_⟩
  walk_at "rd"
  refine rd_iteT (by omega) ?_
  exact rd_raise k
end
/-- the play, its lists new -/
def PlayN (H0 H : Hp) (F : Addr) (p : Pr) (n : Nat) : Prop := ∃ vs, H F = some (.lst vs) ∧ vs.length = n ∧ ∀ (i : Nat) v, vs[i]? = some v → TurnP H v p i F ∧ ∃ t r g, v = .ref t ∧ H t = some (.tup [.ref r, .ref g]) ∧ H0 g = none
/-- rows and grades of the play, the lists of grades new -/
def GradesN (H0 H : Hp) (F : Addr) (p : Pr) (n : Nat) : Prop := ∃ vs, H F = some (.lst vs) ∧ vs.length = n ∧ ∀ i : Nat, i < n → ∃ t r g, vs[i]? = some (.ref t) ∧ H t = some (.tup [.ref r, .ref g]) ∧ H g = some (.lst ((bakedL p i).map V.int)) ∧ H0 g = none
theorem PlayN.grades {H0 H : Hp} {F : Addr} {p : Pr} {n : Nat} (h : PlayN H0 H F p n) : GradesN H0 H F p n := by
  obtain ⟨vs, e, l, k⟩ := h
  refine ⟨vs, e, l, fun i hi => ?_⟩
  obtain ⟨⟨t, r, g, ev, h1, h2, h3, _⟩, t', r', g', ev', h1', h5⟩ := k i vs[i] (List.getElem?_eq_getElem (by omega))
  rw [ev] at ev'
  cases ev'
  rw [h1] at h1'
  cases h1'
  exact ⟨t, r, g, by rw [List.getElem?_eq_getElem (by omega : i < vs.length), ev], h1, h3, h5⟩
theorem GradesN.mono {H0 H H' : Hp} {F : Addr} {p : Pr} {n : Nat} (s : Same H H') (h : GradesN H0 H F p n) : GradesN H0 H' F p n := by
  obtain ⟨vs, e, l, k⟩ := h
  refine ⟨vs, s _ _ e, l, fun i hi => ?_⟩
  obtain ⟨t, r, g, h1, h2, h3, h4⟩ := k i hi
  exact ⟨t, r, g, h1, s _ _ h2, s _ _ h3, h4⟩
def spPlayedN : Sp := fun vs H Q _ => ∃ (a : Addr) (f q : List (Int × Int)) (n : Int), vs = [.ref a, .int n] ∧ ToldP H a f q ∧ OkT f q ∧ 0 ≤ n ∧ n ≤ 1000 ∧ ∀ H' F, Same H H' → H F = none → PlayN H H' F (atp f q) (n + 1).toNat → Q (.ref F) H'
section
variable {P : Program} {w : World} {K : PySem.W.Frag} {mg : Str → Option Value} {base : Heap} {C_Rule C_Evidence C_Good C_Bad C_InTime C_Late C_BadDay Lc__law_worked Lp__law_worked : Addr}
theorem cal__law_played_new (T : TX K mg C_Rule C_Evidence C_Good C_Bad C_InTime C_Late C_BadDay Lc__law_worked Lp__law_worked) : Cal P w K mg base 3 "_law_played" (spPlayedN) [] := by
  obtain ⟨f0, fd, D, dn⟩ := T.d__law_played
  have G__law_fallen := cal__law_fallen (P := P) (w := w) (base := base) T
  refine cal0 D (D.fn.binds dn fun _ _ _ _ _ _ us hl => match us, hl with | [_, _], _ => rfl) .nil sc__law_played (by walk_at "len") (fun cdv A outer s H vs Q E hr h => ?_)
  obtain ⟨a, f, q, n, rfl, tp, ok, n0, n1, k⟩ := h
  have gd := ok.good
  generalize hp : atp f q = p at *
  refine ⟨_, (pss_cons (ps_s 2 sc__law_played.nd (pe_lst (pa_cons (pe_tup (pa_cons (pe_lst pa_nil) (pa_cons (pe_lst pa_nil) pa_nil))) pa_nil)))
      (pss_cons (ps_for PassesOwn.never rfl (pi_range2 rfl T.b_range (pa_cons pe_int (pa_cons (pe_op op_add (pv 1) pe_int) pa_nil))) (pg_n 3 sc__law_played.nd) (pss_one (ps_expr (pe_bm PySem.F.plainAttrs_list PySem.F.slot_list_append PySem.F.type_list_append mt_append (pv 2) (pa_cons (pe_c G__law_fallen hr (by decide) rfl (pa_cons (pv 0) (pa_cons (pe_ix ix_tup (pe_ix ix_list (pv 2) (pe_un un_neg pe_int) (fun _ _ => rfl)) pe_int (fun _ _ => rfl)) (pa_cons (pv 3) pa_nil)))) pa_nil)))))
      (pss_one (ps_ret (pv 2))))), ?_⟩
  walk_at "rd"
  refine rd_newL (by simp) fun l1 H1 hl1 s1 e1 _ => ?_
  walk_at "rd"
  refine rd_newL (by simp) fun l2 H2 hl2 s2 e2 _ => ?_
  walk_at "rd"
  refine rd_newT (by simp) fun t H3 ht s3 et _ => ?_
  walk_at "rd"
  refine rd_newL (by simp) fun F H4 hF s4 eF _ => ?_
  walk_at "rd"
  have s14 := ((s1.trans s2).trans s3).trans s4
  have hF0 : H F = none := by
    cases z : H F with
    | none => rfl
    | some o => rw [((s1.trans s2).trans s3) _ _ z] at hF; cases hF
  have eN : ((n : Int) + 1 - 1).toNat = n.toNat := by omega
  refine rd_rgR2 (by omega) ?_
  rw [eN]
  refine forR_rng (fun i σ H' => ∃ v3, Same H H' ∧ PlayN H H' F p (i + 1) ∧ σ = [some (.ref a), some (.int n), some (.ref F), v3]) ?_ ?_ ?_
  · refine ⟨none, s14, ⟨[.ref t], eF, rfl, fun i v hv => ?_⟩, rfl⟩
    match i, hv with
    | 0, hv =>
      cases hv
      refine ⟨?_, t, l1, l2, rfl, s4 _ _ et, none_back s1 hl2⟩
      refine ⟨t, l1, l2, rfl, s4 _ _ et, ⟨[], ((s2.trans s3).trans s4) _ _ e1, ?_⟩, ?_, ?_, ?_⟩
      · have : layersL p ((0 : Nat) : Int) = [] := by unfold layersL; rw [digits_zero p (by omega)]; rfl
        rw [this]; exact .nil
      · have : bakedL p ((0 : Nat) : Int) = [] := by unfold bakedL; rfl
        rw [this]; exact (s3.trans s4) _ _ e2
      · exact fun z => by rw [← z, (s2.trans s3) _ _ e1] at hF; cases hF
      · exact fun z => by rw [← z, s3 _ _ e2] at hF; cases hF
    | i + 1, hv => simp at hv
  · rintro i σ H5 hi ⟨v3, s5, ⟨vs, eF5, hl, hk⟩, rfl⟩
    walk_at "rd"
    refine rd_tyL eF5 ?_
    walk_at "rd"
    obtain ⟨xs, x, rfl⟩ : ∃ xs x, vs = xs ++ [x] := by
      rcases List.eq_nil_or_concat vs with z | ⟨xs, x, z⟩
      · rw [z] at hl; simp at hl
      · exact ⟨xs, x, by rw [z]; simp⟩
    refine rd_ixL eF5 (atI_last _ _) ?_
    walk_at "rd"
    have hxl : xs.length = i := by simpa using hl
    obtain ⟨t5, r5, g5, rfl, et5, er5, eg5, n5, m5⟩ := (hk i x (by rw [List.getElem?_append_right (by omega), hxl, Nat.sub_self]; rfl)).1
    refine rd_ixT et5 (by rfl) ?_
    walk_at "rd"
    have eD : ((1 : Int) + (i : Int)) = (i : Int) + 1 := by omega
    rw [eD]
    refine ⟨a, r5, f, q, (i : Int), rfl, tp.mono s5, ok, by rw [hp]; exact er5, by omega, by omega, fun H6 t6 r6 g6 s6 hr6 hg6 et6 er6 eg6 => ?_⟩
    rw [hp] at er6 eg6
    walk_at "rd"
    refine rd_app (s6 _ _ eF5) (by simp; omega) fun H7 eH7 eF7 => ?_
    walk_at "rd"
    refine ⟨_, by rw [eH7]; exact Same.mut (s5.trans s6) hF0, ⟨_, eF7, by simp [hxl], fun j v hv => ?_⟩, rfl⟩
    rw [eH7]
    rcases Nat.lt_or_ge j (i + 1) with hj | hj
    · rw [List.getElem?_append_left (by simp; omega)] at hv
      obtain ⟨ht1, tt, rr, gg, ev, e1, e2⟩ := hk j v hv
      refine ⟨(ht1.mono s6).upd (s6 _ _ eF5), tt, rr, gg, ev, ?_, e2⟩
      rw [upd_ne (fun z => by rw [z, eF5] at e1; cases e1)]
      exact s6 _ _ e1
    · obtain rfl : j = i + 1 := by
        have := (List.getElem?_eq_some_iff.mp hv).1
        simp at this
        omega
      rw [List.getElem?_append_right (by simp; omega)] at hv
      have hv' : V.ref t6 = v := by simpa [hxl] using hv
      subst hv'
      refine ⟨TurnP.upd ?_ (s6 _ _ eF5), t6, r6, g6, rfl, by rw [upd_ne (fun z => by rw [z, s6 _ _ eF5] at et6; cases et6)]; exact et6, none_back s5 hg6⟩
      have ec : ((i + 1 : Nat) : Int) = (i : Int) + 1 := by omega
      rw [ec]
      exact ⟨t6, r6, g6, rfl, et6, er6, eg6, fun z => (by rw [z, eF5] at hr6; cases hr6), fun z => (by rw [z, eF5] at hg6; cases hg6)⟩
  · rintro σ H5 ⟨v3, s5, pl, rfl⟩
    walk_at "rd"
    have : (n + 1).toNat = n.toNat + 1 := by omega
    rw [this] at k
    exact k H5 F s5 hF0 pl
end
end Sl

set_option Elab.async false
set_option linter.all false
set_option maxRecDepth 100000
set_option maxHeartbeats 16000000
set_option exponentiation.threshold 9000
namespace Sl
open PySem L2 C8 StX Silt LamX LamK
local macro_rules | `(tactic| walk_at "side") => `(tactic| first
  | exact cdivw (by omega) (by omega)
  | exact cmulw (by omega) (by omega) (by omega) (by omega)
  | exact Or.inr ⟨by omega, by omega⟩
  | exact Or.inl ⟨by omega, by omega⟩
  | omega
  | exact ⟨by omega, by omega, by decide⟩
  | decide)
local macro_rules | `(tactic| walk_at "rd1") => `(tactic| first
  | with_reducible refine rd_seq ?_
  | with_reducible refine rd_asg ?_
  | with_reducible refine rd_drop ?_
  | with_reducible refine rd_ret ?_
  | with_reducible refine rd_retN ?_
  | with_reducible refine rd_ifS ?_
  | ((with_reducible refine rd_var0 ?_); refine ⟨_, rfl, ?_⟩)
  | with_reducible refine rd_c ?_
  | with_reducible refine rd_op ?_
  | with_reducible refine rd_un ?_
  | with_reducible refine rd_I0 ?_
  | with_reducible refine rd_U ?_
  | ((with_reducible refine rd_I ?c ?_); (case c => walk_at "side"))
  | with_reducible refine rd_ipI ?_
  | with_reducible refine rd_eqI ?_
  | with_reducible refine rd_neI ?_
  | with_reducible refine rd_test ?_
  | with_reducible refine rd_tB ?_
  | with_reducible refine rd_bl ?_
  | with_reducible refine rd_not ?_
  | with_reducible refine rd_and ?_
  | with_reducible refine rd_or ?_
  | with_reducible refine rd_andV ?_
  | with_reducible refine rd_orV ?_
  | with_reducible refine rd_notV ?_
  | with_reducible refine rd_ifE ?_
  | with_reducible refine rd_chain ?_
  | with_reducible refine rd_chain3 ?_
  | with_reducible refine rd_nil ?_
  | with_reducible refine rd_cons ?_
  | with_reducible refine rd_call ?_
  | with_reducible refine rd_CB ?_
  | with_reducible refine rd_par ?_
  | with_reducible refine rd_par2 ?_
  | with_reducible refine rd_par3 ?_
  | with_reducible refine rd_par4 ?_
  | ((with_reducible refine rd_aug0 ?_); refine ⟨_, rfl, ?_⟩)
  | with_reducible refine rd_gname ?_
  | with_reducible refine rd_gcons ?_
  | with_reducible refine rd_gnil ?_
  | with_reducible refine rd_max ?_
  | with_reducible refine rd_min ?_
  | with_reducible refine rd_int1 ?_
  | with_reducible refine rd_abs ?_
  | with_reducible refine rd_lst ?_
  | with_reducible refine rd_tup ?_
  | with_reducible refine rd_bm ?_
  | with_reducible refine rd_fld0 ?_
  | with_reducible refine rd_sl0 ?_
  | with_reducible refine rd_noP ?_
  | with_reducible refine rd_part ?_
  | with_reducible refine rd_part2 ?_
  | with_reducible refine rd_meth0 ?_
  | with_reducible refine rd_star ?_
  | with_reducible refine rd_for ?_
  | with_reducible refine rd_rng1 ?_
  | with_reducible refine rd_rng2 ?_
  | with_reducible refine rd_rng3 ?_
  | with_reducible refine rd_iList ?_
  | with_reducible refine rd_iTup ?_
  | with_reducible refine rd_iEnum ?_
  | with_reducible refine rd_lc ?_
  | with_reducible refine rd_yes ?_
  | with_reducible refine rd_augS ?_
  | with_reducible refine rd_drawNew ?_
  | with_reducible refine rd_make0 ?_
  | with_reducible refine rd_next ?_
  | with_reducible refine rd_break ?_
  | with_reducible refine rd_cont ?_
  | with_reducible refine rd_iteTT ?_
  | with_reducible refine rd_iteFF ?_
  | with_reducible refine rd_iteNTT ?_
  | with_reducible refine rd_iteNFF ?_
  | with_reducible refine rd_con0 ?_
  | with_reducible refine rd_truO0 ?_
  | with_reducible refine rd_gfld0 ?_
  | with_reducible refine rd_dc ?_
  | with_reducible refine rd_iKeys ?_
  | with_reducible refine rd_dget0 ?_
  | with_reducible refine rd_dput0 ?_
  | with_reducible refine rd_dnot0 ?_
  | with_reducible refine rd_iEnumT ?_
  | with_reducible refine rd_raP0 ?_
  | with_reducible refine rd_xf0 ?_
  | with_reducible refine rd_cKw ?_
  | with_reducible refine rd_asgG ?_)
local macro_rules | `(tactic| walk_at "rd") => `(tactic| repeat walk_at "rd1")
local macro_rules | `(tactic| walk_at "len") => `(tactic| first
  | (intro vs H Q E h; obtain ⟨h2, _⟩ := h; rw [h2]; rfl)
  | (intro vs H Q E h; obtain ⟨_, h2, _⟩ := h; rw [h2]; rfl)
  | (intro vs H Q E h; obtain ⟨_, _, h2, _⟩ := h; rw [h2]; rfl)
  | (intro vs H Q E h; obtain ⟨_, _, _, h2, _⟩ := h; rw [h2]; rfl)
  | (intro vs H Q E h; obtain ⟨_, _, _, _, h2, _⟩ := h; rw [h2]; rfl)
  | (intro vs H Q E h; obtain ⟨_, _, _, _, _, h2, _⟩ := h; rw [h2]; rfl)
  | (intro vs H Q E h; obtain ⟨_, _, _, _, _, _, h2, _⟩ := h; rw [h2]; rfl)
  | (intro vs H Q E h; obtain ⟨_, _, _, _, _, _, _, h2, _⟩ := h; rw [h2]; rfl)
  | (intro vs H Q E h; obtain ⟨_, _, _, _, _, _, _, _, h2, _⟩ := h; rw [h2]; rfl)
  | (intro vs H Q E h; obtain ⟨_, _, _, _, _, _, _, _, _, h2, _⟩ := h; rw [h2]; rfl)
  | (intro vs H Q E h; obtain ⟨_, _, _, _, _, _, _, _, _, _, h2, _⟩ := h; rw [h2]; rfl)
  | (intro vs H Q E h; obtain ⟨_, _, _, _, _, _, _, _, _, _, _, h2, _⟩ := h; rw [h2]; rfl)
  | (intro vs H Q E h; obtain ⟨_, _, _, _, _, _, _, _, _, _, _, _, h2, _⟩ := h; rw [h2]; rfl))
/-- a task, perhaps done -/
def TaskOk0 (p : Pr) (i : Nat) (x : Tk) : Prop := ∃ k d : Nat, x.1 = (k : Int) ∧ d ≤ i ∧ isBaked p k d = true ∧ x.2.1 = (d : Int) + size p (k + 1) ∧ 0 ≤ x.2.2
theorem TaskOk.zero {p : Pr} {i : Nat} {x : Tk} (h : TaskOk p i x) : TaskOk0 p i x := by
  obtain ⟨k, d, h1, h2, h3, h4, h5⟩ := h
  exact ⟨k, d, h1, h2, h3, h4, by omega⟩
def LateA (H : Hp) (p : Pr) (b i : Nat) (L : List Tk) (j : Nat) (v : V) : Prop := ((i : Int) < dueD p b ∧ v = .non ∧ ∀ x ∈ L.take j, x.2.1 ≠ (i : Int) + 1) ∨ (dueD p b ≤ (i : Int) + 1 ∧ ∃ t, v = .ref t ∧ H t = some (.tup [.int (dueD p b), .int (b : Int)]))
theorem sumG_range (p : Pr) (z : Int) (k : Nat) : ∀ B : Nat, sumG (k : Int) ((List.range B).map fun (j : Nat) => ((j : Int), (z + size p (j + 1), size p (j + 1)))) = if k < B then size p (k + 1) else 0
  | 0 => rfl
  | B + 1 => by
    rw [List.range_succ, List.map_append, sumG_app, sumG_range p z k B]
    show _ + sumG (k : Int) [((B : Int), (z + size p (B + 1), size p (B + 1)))] = _
    rw [sumG_cons]
    show _ + ((if (B : Int) = (k : Int) then size p (B + 1) else 0) + 0) = _
    by_cases c : k < B
    · rw [if_pos c, if_pos (show k < B + 1 by omega), if_neg (show ¬ (B : Int) = (k : Int) by omega)]
      omega
    · rw [if_neg c]
      by_cases c2 : k = B
      · subst c2
        rw [if_pos rfl, if_pos (show k < k + 1 by omega)]
        omega
      · rw [if_neg (show ¬ (B : Int) = (k : Int) by omega), if_neg (show ¬ k < B + 1 by omega)]
        rfl
/-- the names' values -/
abbrev wg (t LF TL F : Addr) (b n : Nat) (v6 : V) (r : List (Option V)) : L2.St := some (.ref t) :: some (.int b) :: some (.int n) :: some (.ref LF) :: some (.ref TL) :: some (.ref F) :: some v6 :: r
section
variable {P : Program} {w : World} {K : PySem.W.Frag} {mg : Str → Option Value} {base : Heap} {C_Rule C_Evidence C_Good C_Bad C_InTime C_Late C_BadDay Lc__law_worked Lp__law_worked : Addr}
theorem cal__law_worked (T : TX K mg C_Rule C_Evidence C_Good C_Bad C_InTime C_Late C_BadDay Lc__law_worked Lp__law_worked) (B__law_worked : LamX.TabB base mg Lc__law_worked Lp__law_worked) : Cal P w K mg base 4 "_law_worked" (spWorked Lp__law_worked) [] := by
  obtain ⟨f0, fd, D, dn⟩ := T.d__law_worked
  have G__law_played := cal__law_played_new (P := P) (w := w) (base := base) T
  have G__law_size := cal__law_size (P := P) (w := w) (base := base) T
  refine calL0 D (T.tc__law_worked _ _ D) (D.fn.binds dn fun _ _ _ _ _ _ us hl => match us, hl with | [_, _, _], _ => rfl) .nil sc__law_worked (by walk_at "len") (fun A outer s H vs Q E hr h => ?_)
  obtain ⟨t, f, q, b, n, rfl, tp, ok, ⟨hb0, hb1⟩, hn, hT, k⟩ := h
  have gd := ok.good
  have b8 := dd_bb
  have b9 := dd_pos
  generalize hp : atp f q = p at *
  have few : ∀ i : Nat, i ≤ 3000 → kmax p i ≤ 12 := fun i hi => kmax_few gd i (by rw [show ((2 ^ 12 : Nat) : Int) = 4096 from by decide]; omega)
  refine ⟨_, (pss_cons (ps_asg (pe_tup (pa_cons (pe_lst (pa_cons pe_dnewK pa_nil)) (pa_cons (pe_lst pa_nil) (pa_cons (pe_c G__law_played hr (by decide) rfl (pa_cons (pv 0) (pa_cons (pv 2) pa_nil))) (pa_cons pe_non pa_nil))))) (pg_tup rfl (pgs_cons (pg_n 3 sc__law_worked.nd) (pgs_cons (pg_n 4 sc__law_worked.nd) (pgs_cons (pg_n 5 sc__law_worked.nd) (pgs_cons (pg_n 6 sc__law_worked.nd) pgs_nil))))))
      (pss_cons (ps_for PassesOwn.never rfl (pi_range2 rfl T.b_range (pa_cons pe_int (pa_cons (pe_op op_add (pv 2) pe_int) pa_nil))) (pg_n 7 sc__law_worked.nd) (pss_cut (ps_for PassesOwn.never rfl (pi_list (pv 4)) (pg_n 8 sc__law_worked.nd) (pss_one (ps_if (PW.pt (pw_and (pt_cmpR op_isNn (pv 6) pe_non (nomark _)) (pw_and (pt_cmpR op_eq (pe_ix ix_list (pv 8) pe_int (fun _ _ => rfl)) (pv 7) (nomark _)) (pw_and1 (pt_cmpR op_gt (pe_ix ix_list (pv 8) pe_int (fun _ _ => rfl)) pe_int (nomark _)))))) (pss_one (ps_s 6 sc__law_worked.nd (pe_tup (pa_cons (pv 7) (pa_cons (pe_ix ix_list (pv 8) pe_int (fun _ _ => rfl)) pa_nil))))) pss_nil)))
      (pss_cut (ps_for PassesOwn.never rfl (pi_list (pe_ix ix_tup (pe_ix ix_list (pv 5) (pv 7) (fun _ _ => rfl)) pe_int (fun _ _ => rfl))) (pg_n 9 sc__law_worked.nd) (pss_cons (ps_s 10 sc__law_worked.nd (pe_op op_add (pv 7) (pe_c G__law_size hr (by decide) rfl (pa_cons (pv 0) (pa_cons (pe_op op_add (pv 9) pe_int) pa_nil)))))
      (pss_one (ps_expr (pe_bm PySem.F.plainAttrs_list PySem.F.slot_list_append PySem.F.type_list_append mt_append (pv 4) (pa_cons (pe_lst (pa_cons (pv 9) (pa_cons (pv 10) (pa_cons (pe_c G__law_size hr (by decide) rfl (pa_cons (pv 0) (pa_cons (pe_op op_add (pv 9) pe_int) pa_nil))) pa_nil)))) pa_nil))))))
      (pss_cons (ps_s 11 sc__law_worked.nd (pv 1))
      (pss_cut (ps_for PassesOwn.never rfl (pi_list (pe_callBK (cr_sortL (k := 0) (hr.mono (by decide))) (by rfl) T.b_sorted (by decide +kernel) (pa_cons (pv 4) pa_nil) (pk_cons (pe_lamV (T := [(Lp__law_worked, qL "_law_worked")]) B__law_worked rfl (List.mem_singleton.mpr rfl) (fun p hp _ => by cases List.mem_singleton.mp hp; rfl) rfl (fun y hy z => by cases List.mem_singleton.mp hy; cases z)) pk_nil))) (pg_n 8 sc__law_worked.nd) (pss_cons (ps_s 12 sc__law_worked.nd (pe_callB (cr_min2 rfl) (by rfl) T.b_min (by decide +kernel) (pa_cons (pv 11) (pa_cons (pe_ix ix_list (pv 8) pe_int (fun _ _ => rfl)) pa_nil))))
      (pss_cons (ps_augS (pv 8) pe_int get_listL (pv 12) ip_sub set_list)
      (pss_one (ps_au 11 sc__law_worked.nd (pv 12) ip_sub)))))
      (pss_cons (ps_s 13 sc__law_worked.nd pe_dnewK)
      (pss_cut (ps_for PassesOwn.never rfl (pi_list (pv 4)) (pg_unl rfl (pgs_cons (pg_n 9 sc__law_worked.nd) (pgs_cons (pg_n 10 sc__law_worked.nd) (pgs_cons (pg_n 14 sc__law_worked.nd) pgs_nil)))) (pss_one (ps_if (pt_cmpR op_gt (pv 14) pe_int (nomark _)) (pss_one (ps_dput (hu_of hr) (pv 13) (pv 9) (pe_op op_add (pe_dget2 (hu_of hr) (pv 13) (pv 9) pe_int ⟨rfl, rfl, rfl, rfl⟩) (pv 14)) rfl)) pss_nil)))
      (pss_cons (ps_expr (pe_bm PySem.F.plainAttrs_list PySem.F.slot_list_append PySem.F.type_list_append mt_append (pv 3) (pa_cons (pv 13) pa_nil)))
      (pss_one (ps_setLc (i := 4) (own := [("_law_task", 8)]) (g := gName 8) (tt := _) rfl sc__law_worked.nd rfl rfl (sw_true rfl rfl rfl (by decide +kernel)) (pi_list (pv 4)) (blkOk_by (own := [("_law_task", 8)]) (N := N__law_worked) (sc := fnScope s__law_worked) (by decide +kernel)) (fun _ _ _ _ _ => (pg_n 8 sc__law_worked.nd)) (fun _ _ _ _ _ => (pts_one (pt_cmpR op_gt (pe_ix (ixK rIxL K ix_list) (pv 8) pe_int (fun _ _ => rfl)) pe_int (nomark _)))) (fun _ _ _ _ _ => (pv 8))))))))))))
      (pss_one (ps_ret (pe_tup (pa_cons (pv 3) (pa_cons (pv 6) pa_nil))))))), ?_⟩
  walk_at "rd"
  refine rd_dnew fun D0 H1 hD0 s1 eD0 _ => ?_
  walk_at "rd"
  refine rd_newL (by simp) fun LF H2 hLF s2 eLF _ => ?_
  walk_at "rd"
  refine rd_newL (by simp) fun TL H3 hTL s3 eTL _ => ?_
  walk_at "rd"
  have s13 := s1.trans (s2.trans s3)
  refine ⟨t, f, q, _, rfl, tp.mono s13, ok, by omega, by omega, fun H4 F s4 hF pp => ?_⟩
  rw [hp] at pp
  walk_at "rd"
  refine rd_newT (by simp) fun u H5 _ s5 eu _ => ?_
  refine rd_gtup eu rfl ?_
  walk_at "rd"
  have s15 := s13.trans (s4.trans s5)
  have s25 := s3.trans (s4.trans s5)
  have hLF0 : H LF = none := none_back s1 hLF
  have hTL0 : H TL = none := none_back (s1.trans s2) hTL
  have hLT : LF ≠ TL := fun z => by rw [z] at eLF; rw [hTL] at eLF; cases eLF
  obtain ⟨R, eR⟩ : ∃ R : Hp, R = fun a => if a = LF ∨ a = TL then none else nT H5 a := ⟨_, rfl⟩
  have Rof : ∀ {a u}, H5 a = some u → a ≠ LF → a ≠ TL → (∀ ps, u ≠ .tbl ps) → R a = some u := fun {a u} e n1 n2 n3 => by
    rw [eR]
    show (if a = LF ∨ a = TL then none else nT H5 a) = some u
    rw [if_neg (fun z => z.elim n1 n2)]
    exact nT_of e n3
  have RLF : R LF = none := by rw [eR]; exact if_pos (.inl rfl)
  have RTL : R TL = none := by rw [eR]; exact if_pos (.inr rfl)
  have Rin : ∀ a u, R a = some u → H5 a = some u ∧ ∀ ps, u ≠ .tbl ps := fun a u e => by
    rw [eR] at e
    have e : (if a = LF ∨ a = TL then none else nT H5 a) = some u := e
    by_cases c : a = LF ∨ a = TL
    · rw [if_pos c] at e; cases e
    · rw [if_neg c] at e
      exact nT_in e
  have RH : ∀ a u, H a = some u → (∀ ps, u ≠ .tbl ps) → R a = some u := fun a u e n => Rof (s15 a u e) (fun z => by rw [z, hLF0] at e; cases e) (fun z => by rw [z, hTL0] at e; cases e) n
  have SR : Same (nT H) R := fun a u e => RH a u (nT_in e).1 (nT_in e).2
  have tpR : ToldP R t f q := (ToldP.nT tp).mono SR
  have hG : GradesP R F p (n + 1) := by
    have pp5 := GradesN.mono s5 pp.grades
    rw [show ((n : Int) + 1).toNat = n + 1 by omega] at pp5
    obtain ⟨vs, eF, l, kk⟩ := pp5
    have h3F : H3 F = none := hF
    have hFL : F ≠ LF := fun z => by rw [z, s3 _ _ eLF] at h3F; cases h3F
    have hFT : F ≠ TL := fun z => by rw [z, eTL] at h3F; cases h3F
    refine ⟨vs, Rof eF hFL hFT (fun _ z => by cases z), l, fun i hi => ?_⟩
    obtain ⟨tt, r, g, e1, e2, e3, e4⟩ := kk i hi
    have eL5 := s25 _ _ eLF
    have eT5 := (s4.trans s5) _ _ eTL
    have eg : g ≠ TL := fun z => by rw [z, eTL] at e4; cases e4
    have eg2 : g ≠ LF := fun z => by rw [z, s3 _ _ eLF] at e4; cases e4
    exact ⟨tt, r, g, e1, Rof e2 (fun z => by rw [z, eL5] at e2; cases e2) (fun z => by rw [z, eT5] at e2; cases e2) (fun _ z => by cases z), Rof e3 eg2 eg (fun _ z => by cases z)⟩
  refine rd_rgR2 (by omega) ?_
  rw [show ((n : Int) + 1 - 1).toNat = n by omega]
  refine forR_rng (fun i σ H' => ∃ TL rs v6 v7 v8 v9 v10 v11 v12 v13 v14, WB R [(Lp__law_worked, qL "_law_worked")] p b LF TL (i + 1) rs H' ∧ (∀ x ∈ rs.map (tkOf H'), TaskOk p i x) ∧ (∀ k : Nat, sumG (k : Int) (rs.map (tkOf H')) = leftA p b i k) ∧ rs.length ≤ 12 * i ∧ LateV H' p b i v6 ∧ σ = wg t LF TL F b n v6 [v7, v8, v9, v10, v11, v12, v13, v14]) ?_ ?_ ?_
  · refine ⟨TL, [], .non, none, none, none, none, none, none, none, none, ⟨fun a u e => (Rin a u e).1, fun a u e => (Rin a u e).2, Tabs.same s15 hT, ⟨[.ref D0], s25 _ _ eLF, rfl, fun i hi => ?_⟩, (s4.trans s5) _ _ eTL, hLT, RLF, RTL, List.nodup_nil, (fun r hr => by cases hr), fun r hr => by cases hr⟩, (fun x hx => by cases hx), fun k => rfl, Nat.le_refl _, .inl ⟨by have := size_pos gd (b + 1); have := owed_nn gd (b + 1); show ((0 : Nat) : Int) < dueD p b; unfold dueD; omega, rfl⟩, rfl⟩
    have : i = 0 := by omega
    subst this
    exact ⟨D0, [], rfl, (s2.trans s25) _ _ eD0, List.nodup_nil, fun k => ⟨(fun z => by cases z), fun z => absurd z (Int.lt_irrefl 0)⟩⟩
  · rintro i σ H1 hi ⟨TL, rs, v6, v7, v8, v9, v10, v11, v12, v13, v14, wb, tok, sm, ln, lv, rfl⟩
    rw [show (1 : Int) + (i : Int) = ((i + 1 : Nat) : Int) by omega]
    walk_at "rd"
    have hday : ((i + 1 : Nat) : Int) = (i : Int) + 1 := by omega
    refine ⟨fun σ' H' => ∃ v6 v8, WB R [(Lp__law_worked, qL "_law_worked")] p b LF TL (i + 1) rs H' ∧ (∀ r ∈ rs, tkOf H' r = tkOf H1 r) ∧ LateV H' p b (i + 1) v6 ∧ σ' = wg t LF TL F b n v6 [some (.int ((i + 1 : Nat) : Int)), v8, v9, v10, v11, v12, v13, v14], ?_, ?_⟩
    · walk_at "rd"
      refine rd_lsR (SqL.of wb.tl) ?_
      refine forR_lst (xs := rs.map V.ref) (fun j σ H' => ∃ v6 v8, WB R [(Lp__law_worked, qL "_law_worked")] p b LF TL (i + 1) rs H' ∧ (∀ r ∈ rs, tkOf H' r = tkOf H1 r) ∧ LateA H' p b i (rs.map (tkOf H1)) j v6 ∧ σ = wg t LF TL F b n v6 [some (.int ((i + 1 : Nat) : Int)), v8, v9, v10, v11, v12, v13, v14]) (fun j σ H' ⟨_, _, w, _⟩ => SqL.of w.tl) ⟨v6, v8, wb, (fun _ _ => rfl), ?_, rfl⟩ ?_ ?_
      · rcases lv with ⟨h1, h2⟩ | ⟨h1, h2⟩
        · exact .inl ⟨h1, h2, fun x hx => by cases hx⟩
        · exact .inr ⟨by omega, h2⟩
      · rintro j x σ H2 hx ⟨v6, v8, wb2, e2, la, rfl⟩
        obtain ⟨r, hr, rfl⟩ : ∃ r, rs[j]? = some r ∧ V.ref r = x := by
          rw [List.getElem?_map] at hx
          cases z : rs[j]? with
          | none => rw [z] at hx; cases hx
          | some r => rw [z] at hx; exact ⟨r, rfl, Option.some.inj hx⟩
        have hrm : r ∈ rs := List.mem_of_getElem? hr
        have htk := wb2.tk r hrm
        rw [e2 r hrm] at htk
        have htL : (rs.map (tkOf H1)).take (j + 1) = (rs.map (tkOf H1)).take j ++ [tkOf H1 r] := by rw [List.take_add_one, List.getElem?_map, hr]; rfl
        have hxL : tkOf H1 r ∈ rs.map (tkOf H1) := List.mem_map.mpr ⟨r, hrm, rfl⟩
        obtain ⟨k0, d0, k1, k2, k3, k4, k5⟩ := tok _ hxL
        walk_at "rd"
        refine rd_isN0 ?_
        refine ⟨_, rfl, ?_⟩
        refine rd_ite (fun c => ?_) (fun c => ?_)
        · walk_at "rd"
          refine rd_ixL htk (atI_nat' (i := 1) rfl) ?_
          walk_at "rd"
          refine rd_ite (fun c2 => ?_) (fun c2 => ?_)
          · walk_at "rd"
            refine rd_ixL htk (atI_nat' (i := 2) rfl) ?_
            walk_at "rd"
            refine rd_iteT k5 ?_
            walk_at "rd"
            refine rd_ixL htk (atI_nat' (i := 0) rfl) ?_
            walk_at "rd"
            refine rd_newT (by simp) fun w3 H3 _ s3 e3 _ => ?_
            obtain ⟨wb3, q3⟩ := wb2.mono s3
            refine ⟨.ref w3, _, wb3, fun y hy => (q3 y hy).trans (e2 y hy), ?_, rfl⟩
            obtain ⟨hd, hg⟩ := late_bad gd tok sm hxL (by omega)
            rcases la with ⟨h1, h2, h3⟩ | ⟨h1, tt, h2, h3⟩
            · refine .inr ⟨hd, w3, rfl, ?_⟩
              rw [e3, hg (by omega), show dueD p b = ((i + 1 : Nat) : Int) by omega]
            · rw [h2] at c
              cases c
          · walk_at "rd"
            refine ⟨v6, _, wb2, e2, ?_, rfl⟩
            rcases la with ⟨h1, h2, h3⟩ | ⟨h1, tt, h2, h3⟩
            · refine .inl ⟨h1, h2, fun x hx => ?_⟩
              rw [htL] at hx
              rcases List.mem_append.mp hx with z | z
              · exact h3 x z
              · rw [List.mem_singleton.mp z]
                exact fun z => c2 (by omega)
            · exact .inr ⟨h1, tt, h2, h3⟩
        · walk_at "rd"
          refine ⟨v6, _, wb2, e2, ?_, rfl⟩
          rcases la with ⟨h1, h2, h3⟩ | h1
          · exact absurd h2 c
          · exact .inr h1
      · rintro σ H2 ⟨v6, v8, wb2, e2, la, rfl⟩
        refine ⟨v6, v8, wb2, e2, ?_, rfl⟩
        rcases la with ⟨h1, h2, h3⟩ | ⟨h1, h2⟩
        · refine .inl ⟨?_, h2⟩
          rcases Int.lt_or_le (((i + 1 : Nat) : Int)) (dueD p b) with z | z
          · exact z
          · obtain ⟨x, hx, ex⟩ := late_ex gd hb0 tok sm (by omega)
            exact absurd ex (h3 x (by rw [List.take_of_length_le (by simp)]; exact hx))
        · exact .inr ⟨by omega, h2⟩
    rintro σ H2 ⟨v6, v8, wb2, e2, lv2, rfl⟩
    clear lv
    walk_at "rd"
    obtain ⟨B, eB⟩ : ∃ B : Nat, B = (bakedL p ((i : Int) + 1)).length := ⟨_, rfl⟩
    have eBk : kmax p (i + 1) = max (kmax p i) B := by rw [eB]; rfl
    have hB : B ≤ 12 := by have := few (i + 1) (by omega); omega
    have eL : rs.map (tkOf H2) = rs.map (tkOf H1) := List.map_congr_left e2
    refine ⟨fun σ' H' => ∃ rs v8 v9 v10, WB R [(Lp__law_worked, qL "_law_worked")] p b LF TL (i + 1) rs H' ∧ (∀ x ∈ rs.map (tkOf H'), TaskOk p (i + 1) x) ∧ (∀ k : Nat, sumG (k : Int) (rs.map (tkOf H')) = leftA p b i k + addA p ((i : Int) + 1) k) ∧ rs.length ≤ 12 * (i + 1) ∧ LateV H' p b (i + 1) v6 ∧ σ' = wg t LF TL F b n v6 [some (.int ((i + 1 : Nat) : Int)), v8, v9, v10, v11, v12, v13, v14], ?_, ?_⟩
    · walk_at "rd"
      obtain ⟨vs, eF, lF, kF⟩ := GradesP.mono wb2.sr hG
      obtain ⟨t4, r4, g4, hv4, et4, eg4⟩ := kF (i + 1) (by omega)
      refine rd_ixL eF (atI_nat' hv4) ?_
      walk_at "rd"
      refine rd_ixT et4 (by rfl) ?_
      have eg0 : R g4 = some (.lst (((List.range B).map fun (j : Nat) => (j : Int)).map V.int)) := by
        obtain ⟨vs', eF', lF', kF'⟩ := hG
        have := (wb2.sr _ _ eF').symm.trans eF
        cases this
        obtain ⟨t5, r5, g5, hv5, et5, eg5⟩ := kF' (i + 1) (by omega)
        rw [hv4] at hv5
        cases hv5
        have := (wb2.sr _ _ et5).symm.trans et4
        cases this
        rw [eg5, show ((i + 1 : Nat) : Int) = (i : Int) + 1 by omega, bakedL_range gd, ← eB]
      refine rd_lsR (SqL.of (wb2.sr _ _ eg0)) ?_
      refine forR_lst (xs := ((List.range B).map fun (j : Nat) => (j : Int)).map V.int) (fun j σ H' => ∃ rs' v9 v10, WB R [(Lp__law_worked, qL "_law_worked")] p b LF TL (i + 1) rs' H' ∧ rs'.map (tkOf H') = rs.map (tkOf H1) ++ (List.range j).map (fun (k : Nat) => ((k : Int), ((i : Int) + 1 + size p (k + 1), size p (k + 1)))) ∧ LateV H' p b (i + 1) v6 ∧ σ = wg t LF TL F b n v6 [some (.int ((i + 1 : Nat) : Int)), v8, v9, v10, v11, v12, v13, v14]) (fun j σ H' ⟨_, _, _, w, _⟩ => SqL.of (w.sr _ _ eg0)) ⟨rs, v9, v10, wb2, by rw [eL, List.range_zero, List.map_nil, List.append_nil], lv2, rfl⟩ ?_ ?_
      · rintro j x σ H3 hx ⟨rs3, v9, v10, wb3, e3, lv3, rfl⟩
        have hj : j < B := by have := (List.getElem?_eq_some_iff.mp hx).1; simpa using this
        have hxj : x = V.int (j : Int) := by
          rw [List.getElem?_map, List.getElem?_map, List.getElem?_range hj] at hx
          exact (Option.some.inj hx).symm
        subst hxj
        walk_at "rd"
        refine ⟨t, f, q, _, rfl, tpR.mono wb3.sr, ok, ⟨by omega, by omega⟩, ?_⟩
        rw [hp, show ((j : Int) + 1).toNat = j + 1 by omega]
        walk_at "rd"
        refine rd_tyL wb3.tl ?_
        walk_at "rd"
        refine ⟨t, f, q, _, rfl, tpR.mono wb3.sr, ok, ⟨by omega, by omega⟩, ?_⟩
        rw [hp, show ((j : Int) + 1).toNat = j + 1 by omega]
        walk_at "rd"
        refine rd_newL (by simp) fun r H4 hr s4 er _ => ?_
        walk_at "rd"
        obtain ⟨wb4, q4⟩ := wb3.mono s4
        have hl3 : rs3.length = rs.length + j := by
          have := congrArg List.length e3
          simpa using this
        refine rd_app wb4.tl (by rw [List.length_map]; omega) fun H5 eH5 eL5 => ?_
        have hrn : r ∉ rs3 := fun z => by have := wb3.tk r z; rw [hr] at this; cases this
        obtain ⟨wb5, q5⟩ := wb4.app (x := ((j : Int), ((i : Int) + 1 + size p (j + 1), size p (j + 1)))) (by omega) (none_back wb3.sr hr) hrn (by rw [er, hday]; rfl)
        have eH5 : H5 = upd H4 TL (.lst ((rs3 ++ [r]).map V.ref)) := by rw [eH5, List.map_append]; rfl
        refine ⟨rs3 ++ [r], _, _, by rw [eH5]; exact wb5, ?_, ?_, rfl⟩
        · rw [eH5, q5, List.map_congr_left q4, e3, List.range_succ, List.map_append, List.append_assoc]
          rfl
        · refine lv3.keep fun a xs e => ?_
          have e4 := s4 _ _ e
          rw [eH5, upd_ne (fun z => by rw [z, wb4.tl] at e4; cases e4)]
          exact e4
      · rintro σ H3 ⟨rs3, v9, v10, wb3, e3, lv3, rfl⟩
        have hl3 : rs3.length = rs.length + B := by
          have := congrArg List.length e3
          simpa using this
        refine ⟨rs3, v8, v9, v10, wb3, ?_, ?_, by omega, lv3, rfl⟩
        · intro x hx
          rw [e3] at hx
          rcases List.mem_append.mp hx with z | z
          · exact (tok x z).up (by omega)
          · obtain ⟨k, hk, rfl⟩ := List.mem_map.mp z
            rw [show (((List.range B).map fun (j : Nat) => (j : Int)).map V.int).length = B by simp] at hk
            have hk := List.mem_range.mp hk
            exact ⟨k, i + 1, rfl, Nat.le_refl _, by rw [hday]; exact (baked_iff gd k).mp (by omega), by rw [hday], size_pos gd _⟩
        · intro k
          rw [e3, sumG_app, sm k]
          congr 1
          rw [show (((List.range B).map fun (j : Nat) => (j : Int)).map V.int).length = B by simp, sumG_range]
          unfold addA
          rw [← eB]
    rintro σ H3 ⟨rs3, v8, v9, v10, wb3, tok3, sm3, ln3, lv3, rfl⟩
    clear lv2
    walk_at "rd"
    refine ⟨fun σ' H' => ∃ v8 v11 v12, WB R [(Lp__law_worked, qL "_law_worked")] p b LF TL (i + 1) rs3 H' ∧ (∀ x ∈ rs3.map (tkOf H'), TaskOk0 p (i + 1) x) ∧ (∀ k : Nat, sumG (k : Int) (rs3.map (tkOf H')) = leftA p b (i + 1) k) ∧ LateV H' p b (i + 1) v6 ∧ σ' = wg t LF TL F b n v6 [some (.int ((i + 1 : Nat) : Int)), v8, v9, v10, v11, v12, v13, v14], ?_, ?_⟩
    · walk_at "rd"
      refine rd_lamV wb3.tb fun fL cL H4 x4 _ T4 _ eF4 eC4 => ?_
      walk_at "rd"
      obtain ⟨wb4, q4⟩ := wb3.ext x4 T4
      refine rd_sortLK (G := fun r => tkOf H4 r) (F := _) (x := "_law_one") ⟨⟨_, _, _, _, _, _, _, _, _, _, rfl⟩, rfl, rfl, rfl, rfl, (fun y hy z => by cases List.mem_singleton.mp hy; cases z), fun _ _ _ => rfl, rfl⟩ eF4 eC4 wb4.tl (fun r hr => wb4.tk r hr) (by omega) fun pp rs2 H5 pm pw hpp s5 ep => ?_
      walk_at "rd"
      obtain ⟨wb5, q5⟩ := wb4.mono s5
      have nd2 : rs2.Nodup := pm.nodup_iff.mpr wb3.nd
      obtain ⟨L, eLL⟩ : ∃ L, L = rs2.map (tkOf H4) := ⟨_, rfl⟩
      have lenL : L.length = rs2.length := by rw [eLL, List.length_map]
      have tokL : ∀ x ∈ L, TaskOk p (i + 1) x := fun x hx => by
        rw [eLL] at hx
        obtain ⟨r, hr, rfl⟩ := List.mem_map.mp hx
        have hr3 := pm.mem_iff.mp hr
        rw [q4 r hr3]
        exact tok3 _ (List.mem_map.mpr ⟨r, hr3, rfl⟩)
      refine rd_lsR (SqL.of ep) ?_
      refine forR_lst (xs := rs2.map V.ref) (fun j σ H' => ∃ v8 v12, WB R [(Lp__law_worked, qL "_law_worked")] p b LF TL (i + 1) rs3 H' ∧ H' pp = some (.lst (rs2.map V.ref)) ∧ (∀ (m : Nat) r, rs2[m]? = some r → (m < j → (spendT b L)[m]? = some (tkOf H' r)) ∧ (j ≤ m → L[m]? = some (tkOf H' r))) ∧ LateV H' p b (i + 1) v6 ∧ σ = wg t LF TL F b n v6 [some (.int ((i + 1 : Nat) : Int)), v8, v9, v10, some (.int (restT b L j)), v12, v13, v14]) (fun j σ H' ⟨_, _, _, e, _⟩ => SqL.of e) ⟨v8, v12, wb5, ep, (fun m r hm => ⟨fun z => absurd z (Nat.not_lt_zero _), fun _ => ?_⟩), lv3.keep fun a xs e => s5 _ _ (x4 _ _ e (fun _ z => by cases z)), ?_⟩ ?_ ?_
      · rw [q5 r (pm.mem_iff.mp (List.mem_of_getElem? hm)), eLL, List.getElem?_map, hm]
        rfl
      · have : restT b L 0 = b := by cases L <;> rfl
        rw [this]
        rfl
      · rintro j x σ H6 hx ⟨v8, v12, wb6, ep6, iv, lv6, rfl⟩
        obtain ⟨r, hr, rfl⟩ : ∃ r, rs2[j]? = some r ∧ V.ref r = x := by
          rw [List.getElem?_map] at hx
          cases z : rs2[j]? with
          | none => rw [z] at hx; cases hx
          | some r => rw [z] at hx; exact ⟨r, rfl, Option.some.inj hx⟩
        have hr3 : r ∈ rs3 := pm.mem_iff.mp (List.mem_of_getElem? hr)
        have htk := wb6.tk r hr3
        have hLj : L[j]? = some (tkOf H6 r) := (iv j r hr).2 (Nat.le_refl _)
        obtain ⟨sp1, sp2⟩ := spendT_get L b j _ hLj
        walk_at "rd"
        refine rd_ixL htk (atI_nat' (i := 2) rfl) ?_
        walk_at "rd"
        refine rd_getL (i := 2) htk (by omega) rfl ?_
        walk_at "rd"
        refine rd_setL (j := 2) htk rfl fun H7 eH7 er7 => ?_
        walk_at "rd"
        obtain ⟨wb7, q7, q8⟩ := wb6.set (by omega) hr3 ((tkOf H6 r).1, (tkOf H6 r).2.1, (tkOf H6 r).2.2 - min (restT b L j) (tkOf H6 r).2.2)
        have eH7 : H7 = upd H6 r (.lst (tkV ((tkOf H6 r).1, (tkOf H6 r).2.1, (tkOf H6 r).2.2 - min (restT b L j) (tkOf H6 r).2.2))) := eH7
        have hpr : pp ≠ r := fun z => by
          rw [z, htk] at ep6
          cases rs2 with
          | nil => simp at hr
          | cons a l => cases ep6
        refine ⟨_, _, by rw [eH7]; exact wb7, by rw [eH7, upd_ne hpr]; exact ep6, fun m r' hm => ?_, lv6.keep fun a xs e => ?_, by rw [sp2]; rfl⟩
        · by_cases c : m = j
          · subst c
            rw [hr] at hm
            cases hm
            refine ⟨fun _ => ?_, fun z => by omega⟩
            rw [sp1, eH7, q7]
          · have hne : r' ≠ r := fun z => by
              rw [z] at hm
              exact c ((List.getElem?_inj (List.getElem?_eq_some_iff.mp hm).1 nd2).mp (hm.trans hr.symm))
            rw [eH7, q8 r' hne]
            exact ⟨fun z => (iv m r' hm).1 (by omega), fun z => (iv m r' hm).2 (by omega)⟩
        · rw [eH7, upd_ne (fun z => by rw [z, htk] at e; cases e)]
          exact e
      · rintro σ H6 ⟨v8, v12, wb6, ep6, iv, lv6, rfl⟩
        have eS : rs2.map (tkOf H6) = spendT b L := by
          refine List.ext_getElem? fun m => ?_
          rw [List.getElem?_map]
          cases z : rs2[m]? with
          | none =>
            have := List.getElem?_eq_none_iff.mp z
            exact (List.getElem?_eq_none_iff.mpr (by rw [spendT_len, lenL]; exact this)).symm
          | some r => exact ((iv m r z).1 (by rw [List.length_map]; exact (List.getElem?_eq_some_iff.mp z).1)).symm
        have pmS : (rs3.map (tkOf H6)).Perm (spendT b L) := by rw [← eS]; exact (pm.map _).symm
        refine ⟨v8, _, v12, wb6, fun x hx => ?_, fun k => ?_, lv6, rfl⟩
        · obtain ⟨m, hm⟩ := List.getElem?_of_mem (pmS.mem_iff.mp hx)
          have hlt : m < L.length := by rw [← spendT_len L b]; exact (List.getElem?_eq_some_iff.mp hm).1
          obtain ⟨e1, _⟩ := spendT_get L b m _ (List.getElem?_eq_getElem hlt)
          rw [e1] at hm
          cases hm
          obtain ⟨k, d, k1, k2, k3, k4, k5⟩ := tokL _ (List.getElem_mem hlt)
          exact ⟨k, d, k1, k2, k3, k4, by show 0 ≤ L[m].2.2 - min _ L[m].2.2; omega⟩
        · rw [sumG_perm pmS, spendT_spendA (fun x hx => by obtain ⟨k, _, e, _⟩ := tokL x hx; omega) (fun x hx => by obtain ⟨_, _, _, _, _, _, e⟩ := tokL x hx; omega) (by rw [eLL]; exact List.pairwise_map.mpr (pw.imp fun h => by rcases h with h | h <;> omega)) (by omega)]
          have : (fun (j : Nat) => sumG (j : Int) L) = fun g => leftA p b i g + addA p ((i : Int) + 1) g := by
            funext g
            rw [← sm3 g, eLL, sumG_perm (pm.map (tkOf H4)), List.map_congr_left q4]
          rw [this]
          rfl
    rintro σ H4 ⟨v8, v11, v12, wb4, tok4, sm4, lv4, rfl⟩
    clear lv3
    walk_at "rd"
    refine rd_dnew fun D1 H5 hD1 s5 eD1 eH5 => ?_
    walk_at "rd"
    refine ⟨fun σ' H' => ∃ ks v9 v10 v14, Same H4 H' ∧ H' = upd H4 D1 (.dK (dI (dN ks (leftA p b (i + 1))))) ∧ ks.Nodup ∧ (∀ k : Nat, k ∈ ks ↔ 0 < leftA p b (i + 1) k) ∧ σ' = wg t LF TL F b n v6 [some (.int ((i + 1 : Nat) : Int)), v8, v9, v10, v11, v12, some (.ref D1), v14], ?_, ?_⟩
    · walk_at "rd"
      obtain ⟨L, eLL⟩ : ∃ L, L = rs3.map (tkOf H4) := ⟨_, rfl⟩
      have nnL : ∀ x ∈ L, 0 ≤ x.2.2 := fun x hx => by rw [eLL] at hx; obtain ⟨_, _, _, _, _, _, z⟩ := tok4 x hx; exact z
      refine rd_lsR (SqL.of (s5 _ _ wb4.tl)) ?_
      refine forR_lst (xs := rs3.map V.ref) (fun j σ H' => ∃ ks v9 v10 v14, Same H4 H' ∧ H' = upd H4 D1 (.dK (dI (dN ks fun k => sumG (k : Int) (L.take j)))) ∧ ks.Nodup ∧ (∀ k : Nat, k ∈ ks ↔ 0 < sumG (k : Int) (L.take j)) ∧ ks.length ≤ j ∧ σ = wg t LF TL F b n v6 [some (.int ((i + 1 : Nat) : Int)), v8, v9, v10, v11, v12, some (.ref D1), v14]) (fun j σ H' ⟨_, _, _, _, s, _⟩ => SqL.of (s _ _ wb4.tl)) ⟨[], v9, v10, v14, s5, by rw [eH5]; rfl, List.nodup_nil, (fun k => ⟨(fun z => by cases z), fun z => absurd z (Int.lt_irrefl 0)⟩), Nat.le_refl _, rfl⟩ ?_ ?_
      · rintro j x σ H6 hx ⟨ks, v9, v10, v14, s6, eH6, nd, hk, kl, rfl⟩
        obtain ⟨r, hr, rfl⟩ : ∃ r, rs3[j]? = some r ∧ V.ref r = x := by
          rw [List.getElem?_map] at hx
          cases z : rs3[j]? with
          | none => rw [z] at hx; cases hx
          | some r => rw [z] at hx; exact ⟨r, rfl, Option.some.inj hx⟩
        have hjl := (List.getElem?_eq_some_iff.mp hr).1
        have hr3 := List.mem_of_getElem? hr
        have hLj : L[j]? = some (tkOf H4 r) := by rw [eLL, List.getElem?_map, hr]; rfl
        obtain ⟨k0, d0, k1, k2, k3, k4, k5⟩ := tok4 _ (List.mem_map.mpr ⟨r, hr3, rfl⟩)
        have htk : H6 r = some (.lst [.int (k0 : Int), .int (tkOf H4 r).2.1, .int (tkOf H4 r).2.2]) := by
          have := s6 _ _ (wb4.tk r hr3)
          unfold tkV at this
          rw [k1] at this
          exact this
        have eD6 : H6 D1 = some (.dK (dI (dN ks fun k => sumG (k : Int) (L.take j)))) := by rw [eH6]; exact upd_same
        have tk : ∀ k : Nat, sumG (k : Int) (L.take (j + 1)) = sumG (k : Int) (L.take j) + if k0 = k then (tkOf H4 r).2.2 else 0 := fun k => by
          rw [sumG_take (k : Int) hLj, k1]
          by_cases c : k0 = k
          · rw [if_pos (by omega), if_pos c]
          · rw [if_neg (by omega), if_neg c]
        have off : ∀ k : Nat, k ∉ ks → sumG (k : Int) (L.take j) = 0 := fun k hn => by
          have h1 := sumG_nn (g := (k : Int)) (L := L.take j) fun x hx => nnL x (List.mem_of_mem_take hx)
          have h2 : ¬ 0 < sumG (k : Int) (L.take j) := fun z => hn ((hk k).mpr z)
          omega
        refine rd_gunl htk rfl ?_
        walk_at "rd"
        refine rd_ite (fun c => ?_) (fun c => ?_)
        · walk_at "rd"
          refine rd_getD0 ?_
          walk_at "rd"
          refine rd_getD (.inl eD6) ?_
          walk_at "rd"
          refine rd_getD2 (w := sumG (k0 : Int) (L.take j)) (.inl eD6) (fd_get nd off k0) ?_
          walk_at "rd"
          refine rd_dput eD6 (by rw [dN_len]; omega) fun H7 eH7 eD7 => ?_
          have s7 : Same H4 H7 := by rw [eH7]; exact Same.mut s6 hD1
          have hf : (fun (k : Nat) => if k = k0 then sumG (k0 : Int) (L.take j) + (tkOf H4 r).2.2 else sumG (k : Int) (L.take j)) = fun (k : Nat) => sumG (k : Int) (L.take (j + 1)) := by
            funext k
            rw [tk k]
            by_cases z : k = k0
            · rw [if_pos z, if_pos z.symm, z]
            · rw [if_neg z, if_neg (fun y => z y.symm)]
              omega
          have eH7' : ∀ o, upd H6 D1 o = upd H4 D1 o := fun o => by
            rw [eH6]
            funext a
            by_cases z : a = D1
            · rw [z, upd_same, upd_same]
            · rw [upd_ne z, upd_ne z, upd_ne z]
          by_cases m : k0 ∈ ks
          · rw [dN_put m, hf, eH7'] at eH7
            refine ⟨ks, _, _, _, s7, eH7, nd, fun k => ?_, by omega, rfl⟩
            rw [tk k]
            by_cases z : k0 = k
            · rw [if_pos z, ← z]
              have := (hk k0).mp m
              exact ⟨fun _ => by omega, fun _ => m⟩
            · rw [if_neg z, hk k]
              omega
          · rw [dN_putN m, hf, eH7'] at eH7
            refine ⟨ks ++ [k0], _, _, _, s7, eH7, ?_, fun k => ?_, by simp; omega, rfl⟩
            · rw [List.nodup_append]
              refine ⟨nd, by simp, fun x1 hx1 y1 hy1 => ?_⟩
              have e1 : y1 = k0 := by simpa using hy1
              exact fun z => m (by rw [← e1, ← z]; exact hx1)
            · rw [tk k, List.mem_append, hk k]
              by_cases z : k0 = k
              · rw [if_pos z, ← z, off k0 m]
                exact ⟨fun _ => by omega, fun _ => .inr (List.mem_singleton.mpr rfl)⟩
              · rw [if_neg z]
                exact ⟨fun y => y.elim (fun y => by omega) fun y => absurd (List.mem_singleton.mp y).symm z, fun y => .inl (by omega)⟩
        · walk_at "rd"
          have h0 : (tkOf H4 r).2.2 = 0 := by omega
          have same : ∀ k : Nat, sumG (k : Int) (L.take (j + 1)) = sumG (k : Int) (L.take j) := fun k => by rw [tk k, h0, ite_self, Int.add_zero]
          refine ⟨ks, _, _, _, s6, ?_, nd, fun k => by rw [same k]; exact hk k, by omega, rfl⟩
          rw [eH6]
          congr 4
          funext k
          exact (same k).symm
      · rintro σ H6 ⟨ks, v9, v10, v14, s6, eH6, nd, hk, kl, rfl⟩
        have hL : L.take (rs3.map V.ref).length = L := List.take_of_length_le (by rw [eLL]; simp)
        rw [hL] at hk eH6
        have hs : (fun (k : Nat) => sumG (k : Int) L) = leftA p b (i + 1) := by
          funext k
          rw [eLL, sm4 k]
        rw [hs] at eH6
        refine ⟨ks, v9, v10, v14, s6, eH6, nd, fun k => ?_, rfl⟩
        rw [hk k, ← hs]
    rintro σ H6 ⟨ks, v9, v10, v14, s6, eH6, nd, hk, rfl⟩
    walk_at "rd"
    obtain ⟨wb6, q6⟩ := wb4.mono s6
    have eD6 : H6 D1 = some (.dK (dI (dN ks (leftA p b (i + 1))))) := by rw [eH6]; exact upd_same
    obtain ⟨vs, eL6, lvs, kvs⟩ := wb6.lf
    refine rd_tyL eL6 ?_
    walk_at "rd"
    refine rd_app eL6 (by omega) fun H7 eH7 eL7 => ?_
    walk_at "rd"
    have q7 : ∀ r ∈ rs3, tkOf H7 r = tkOf H4 r := fun r hr => by
      have := wb6.tk r hr
      rw [q6 r hr] at this
      refine tkOf_of ?_
      rw [eH7, upd_ne (wb6.neL (by omega) hr).symm]
      exact this
    have wb7 : WB R [(Lp__law_worked, qL "_law_worked")] p b LF TL (i + 1 + 1) rs3 H7 := by
      refine ⟨by rw [eH7]; exact Same.mut wb6.sr wb6.rl, wb6.nr, by rw [eH7]; exact Tabs.updL eL6 wb6.tb, ⟨vs ++ [.ref D1], eL7, by simp [lvs], fun m hm => ?_⟩, by rw [eH7, upd_ne wb6.ne.symm]; exact wb6.tl, wb6.ne, wb6.rl, wb6.rt, wb6.nd, wb6.rr, fun r hr => ?_⟩
      · rcases Nat.lt_or_ge m (i + 1) with z | z
        · obtain ⟨D, ks', h1, h2, h3⟩ := kvs m z
          exact ⟨D, ks', by rw [List.getElem?_append_left (by omega)]; exact h1, by rw [eH7, upd_ne (fun y => by rw [y, eL6] at h2; cases h2)]; exact h2, h3⟩
        · have : m = i + 1 := by omega
          subst this
          exact ⟨D1, ks, by rw [List.getElem?_append_right (by omega), lvs, Nat.sub_self]; rfl, by rw [eH7, upd_ne (fun y => by rw [y, eL6] at eD6; cases eD6)]; exact eD6, nd, hk⟩
      · rw [q7 r hr, ← q6 r hr, eH7, upd_ne (wb6.neL (by omega) hr).symm]
        exact wb6.tk r hr
    refine rd_lsR (SqL.of wb7.tl) ?_
    refine lcR_lst (xs := rs3.map V.ref) (fun D j H' => Same H7 H' ∧ H' D = some (.lst (((rs3.take j).filter fun r => decide (0 < (tkOf H4 r).2.2)).map V.ref))) (fun D j H' _ ⟨s, _⟩ => SqL.of (s _ _ wb7.tl)) (fun D H' _ s e _ => ⟨s, e⟩) ?_ ?_
    · rintro D j x H8 hD hx ⟨s8, eD8⟩
      obtain ⟨r, hr, rfl⟩ : ∃ r, rs3[j]? = some r ∧ V.ref r = x := by
        rw [List.getElem?_map] at hx
        cases z : rs3[j]? with
        | none => rw [z] at hx; cases hx
        | some r => rw [z] at hx; exact ⟨r, rfl, Option.some.inj hx⟩
      have hjl := (List.getElem?_eq_some_iff.mp hr).1
      have hr3 := List.mem_of_getElem? hr
      have htk := s8 _ _ (wb7.tk r hr3)
      rw [q7 r hr3] at htk
      have htT : rs3.take (j + 1) = rs3.take j ++ [r] := by rw [List.take_add_one, hr]; rfl
      walk_at "rd"
      refine ⟨rfl, ?_⟩
      walk_at "rd"
      refine rd_ixL htk (atI_nat' (i := 2) rfl) ?_
      walk_at "rd"
      refine rd_ite (fun c => ?_) (fun c => ?_)
      · walk_at "rd"
        refine rd_lcE eD8 ?_ fun H9 eH9 eD9 => ?_
        · rw [List.length_map]
          have := List.length_filter_le (fun r => decide (0 < (tkOf H4 r).2.2)) (rs3.take j)
          have := List.length_take_le j rs3
          omega
        · refine ⟨by rw [eH9]; exact Same.mut s8 hD, ?_⟩
          rw [eD9, htT, List.filter_append, List.map_append]
          simp [c]
      · refine ⟨s8, ?_⟩
        rw [eD8, htT, List.filter_append, List.map_append]
        simp [c]
    · rintro D H8 hD ⟨s8, eD8⟩
      rw [List.length_map, List.take_length] at eD8
      obtain ⟨wb8, q8⟩ := wb7.mono s8
      walk_at "rd"
      have sub : ∀ r, r ∈ (rs3.filter fun r => decide (0 < (tkOf H4 r).2.2)) → r ∈ rs3 := fun r hr => (List.mem_filter.mp hr).1
      have q9 : ∀ r ∈ rs3, tkOf H8 r = tkOf H4 r := fun r hr => (q8 r hr).trans (q7 r hr)
      have eM : (rs3.filter fun r => decide (0 < (tkOf H4 r).2.2)).map (tkOf H8) = (rs3.map (tkOf H4)).filter fun x => decide (0 < x.2.2) := by
        rw [List.filter_map, List.map_congr_left fun r hr => q9 r (sub r hr)]
        rfl
      refine ⟨D, _, v6, _, _, _, _, _, _, _, _, ⟨wb8.sr, wb8.nr, wb8.tb, wb8.lf, eD8, (fun z => by rw [← z, eL7] at hD; cases hD), wb8.rl, none_back wb7.sr hD, wb8.nd.filter _, (fun r hr => wb8.rr r (sub r hr)), fun r hr => wb8.tk r (sub r hr)⟩, fun x hx => ?_, fun k => ?_, ?_, lv4.keep fun a xs e => ?_, rfl⟩
      · rw [eM] at hx
        obtain ⟨h1, h2⟩ := List.mem_filter.mp hx
        obtain ⟨k, d, k1, k2, k3, k4, k5⟩ := tok4 x h1
        exact ⟨k, d, k1, k2, k3, k4, of_decide_eq_true h2⟩
      · rw [eM, sumG_keep _ (fun x hx => by obtain ⟨_, _, _, _, _, _, z⟩ := tok4 x hx; exact z)]
        exact sm4 k
      · have := List.length_filter_le (fun r => decide (0 < (tkOf H4 r).2.2)) rs3
        omega
      · have e6 := s6 _ _ e
        refine s8 _ _ ?_
        rw [eH7, upd_ne (fun z => by rw [z, eL6] at e6; cases e6)]
        exact e6
  · rintro σ H1 ⟨TL, rs, v6, v7, v8, v9, v10, v11, v12, v13, v14, wb, tok, sm, ln, lv, rfl⟩
    walk_at "rd"
    refine rd_newT (by simp) fun r H6 _ s6 er _ => ?_
    refine k H6 r LF v6 (fun a u e nn => s6 _ _ (wb.sr a u (RH a u e nn))) (Tabs.same s6 wb.tb) er (wb.lf.mono s6) (lv.keep fun a xs e => s6 _ _ e)
end
end Sl

set_option Elab.async false
set_option linter.all false
set_option maxRecDepth 100000
set_option maxHeartbeats 16000000
set_option exponentiation.threshold 9000
namespace Sl
open PySem L2 C8 StX Silt LamX LamK
local macro_rules | `(tactic| walk_at "side") => `(tactic| first
  | exact cdivw (by omega) (by omega)
  | exact cmulw (by omega) (by omega) (by omega) (by omega)
  | exact Or.inr ⟨by omega, by omega⟩
  | exact Or.inl ⟨by omega, by omega⟩
  | omega
  | exact ⟨by omega, by omega, by decide⟩
  | decide)
local macro_rules | `(tactic| walk_at "rd1") => `(tactic| first
  | with_reducible refine rd_seq ?_
  | with_reducible refine rd_asg ?_
  | with_reducible refine rd_drop ?_
  | with_reducible refine rd_ret ?_
  | with_reducible refine rd_retN ?_
  | with_reducible refine rd_ifS ?_
  | ((with_reducible refine rd_var0 ?_); refine ⟨_, rfl, ?_⟩)
  | with_reducible refine rd_c ?_
  | with_reducible refine rd_op ?_
  | with_reducible refine rd_un ?_
  | with_reducible refine rd_I0 ?_
  | with_reducible refine rd_U ?_
  | ((with_reducible refine rd_I ?c ?_); (case c => walk_at "side"))
  | with_reducible refine rd_ipI ?_
  | with_reducible refine rd_eqI ?_
  | with_reducible refine rd_neI ?_
  | with_reducible refine rd_test ?_
  | with_reducible refine rd_tB ?_
  | with_reducible refine rd_bl ?_
  | with_reducible refine rd_not ?_
  | with_reducible refine rd_and ?_
  | with_reducible refine rd_or ?_
  | with_reducible refine rd_andV ?_
  | with_reducible refine rd_orV ?_
  | with_reducible refine rd_notV ?_
  | with_reducible refine rd_ifE ?_
  | with_reducible refine rd_chain ?_
  | with_reducible refine rd_chain3 ?_
  | with_reducible refine rd_nil ?_
  | with_reducible refine rd_cons ?_
  | with_reducible refine rd_call ?_
  | with_reducible refine rd_CB ?_
  | with_reducible refine rd_par ?_
  | with_reducible refine rd_par2 ?_
  | with_reducible refine rd_par3 ?_
  | with_reducible refine rd_par4 ?_
  | ((with_reducible refine rd_aug0 ?_); refine ⟨_, rfl, ?_⟩)
  | with_reducible refine rd_gname ?_
  | with_reducible refine rd_gcons ?_
  | with_reducible refine rd_gnil ?_
  | with_reducible refine rd_max ?_
  | with_reducible refine rd_min ?_
  | with_reducible refine rd_int1 ?_
  | with_reducible refine rd_abs ?_
  | with_reducible refine rd_lst ?_
  | with_reducible refine rd_tup ?_
  | with_reducible refine rd_bm ?_
  | with_reducible refine rd_fld0 ?_
  | with_reducible refine rd_sl0 ?_
  | with_reducible refine rd_noP ?_
  | with_reducible refine rd_part ?_
  | with_reducible refine rd_part2 ?_
  | with_reducible refine rd_meth0 ?_
  | with_reducible refine rd_star ?_
  | with_reducible refine rd_for ?_
  | with_reducible refine rd_rng1 ?_
  | with_reducible refine rd_rng2 ?_
  | with_reducible refine rd_rng3 ?_
  | with_reducible refine rd_iList ?_
  | with_reducible refine rd_iTup ?_
  | with_reducible refine rd_iEnum ?_
  | with_reducible refine rd_lc ?_
  | with_reducible refine rd_yes ?_
  | with_reducible refine rd_augS ?_
  | with_reducible refine rd_drawNew ?_
  | with_reducible refine rd_make0 ?_
  | with_reducible refine rd_next ?_
  | with_reducible refine rd_break ?_
  | with_reducible refine rd_cont ?_
  | with_reducible refine rd_iteTT ?_
  | with_reducible refine rd_iteFF ?_
  | with_reducible refine rd_iteNTT ?_
  | with_reducible refine rd_iteNFF ?_
  | with_reducible refine rd_con0 ?_
  | with_reducible refine rd_truO0 ?_
  | with_reducible refine rd_gfld0 ?_
  | with_reducible refine rd_dc ?_
  | with_reducible refine rd_iKeys ?_
  | with_reducible refine rd_dget0 ?_
  | with_reducible refine rd_dput0 ?_
  | with_reducible refine rd_dnot0 ?_
  | with_reducible refine rd_iEnumT ?_
  | with_reducible refine rd_raP0 ?_
  | with_reducible refine rd_xf0 ?_
  | with_reducible refine rd_cKw ?_
  | with_reducible refine rd_asgG ?_)
local macro_rules | `(tactic| walk_at "rd") => `(tactic| repeat walk_at "rd1")
local macro_rules | `(tactic| walk_at "len") => `(tactic| first
  | (intro vs H Q E h; obtain ⟨h2, _⟩ := h; rw [h2]; rfl)
  | (intro vs H Q E h; obtain ⟨_, h2, _⟩ := h; rw [h2]; rfl)
  | (intro vs H Q E h; obtain ⟨_, _, h2, _⟩ := h; rw [h2]; rfl)
  | (intro vs H Q E h; obtain ⟨_, _, _, h2, _⟩ := h; rw [h2]; rfl)
  | (intro vs H Q E h; obtain ⟨_, _, _, _, h2, _⟩ := h; rw [h2]; rfl)
  | (intro vs H Q E h; obtain ⟨_, _, _, _, _, h2, _⟩ := h; rw [h2]; rfl)
  | (intro vs H Q E h; obtain ⟨_, _, _, _, _, _, h2, _⟩ := h; rw [h2]; rfl)
  | (intro vs H Q E h; obtain ⟨_, _, _, _, _, _, _, h2, _⟩ := h; rw [h2]; rfl)
  | (intro vs H Q E h; obtain ⟨_, _, _, _, _, _, _, _, h2, _⟩ := h; rw [h2]; rfl)
  | (intro vs H Q E h; obtain ⟨_, _, _, _, _, _, _, _, _, h2, _⟩ := h; rw [h2]; rfl)
  | (intro vs H Q E h; obtain ⟨_, _, _, _, _, _, _, _, _, _, h2, _⟩ := h; rw [h2]; rfl)
  | (intro vs H Q E h; obtain ⟨_, _, _, _, _, _, _, _, _, _, _, h2, _⟩ := h; rw [h2]; rfl)
  | (intro vs H Q E h; obtain ⟨_, _, _, _, _, _, _, _, _, _, _, _, h2, _⟩ := h; rw [h2]; rfl))
def spLaw (K : PySem.W.Frag) (Lp : Addr) : Sp := fun vs H Q _ => ∃ (a : Addr) (ns : List Int), vs = [.ref a] ∧ SqL K H a (ns.map V.int) ∧ ns.length ≤ 63 ∧ Tabs [(Lp, qL "_law_worked")] H ∧ ∀ H', Q (.bl true) H'
def FJ (CI CL : Addr) (H : Hp) (x : Addr) (p : Pr) (b N : Nat) : Prop := (N ≤ b ∧ InTP CI H x N) ∨ (b < N ∧ LatP CL H x b (dueD p b))
theorem FJ.mono {CI CL : Addr} {H H' : Hp} {x : Addr} {p : Pr} {b N : Nat} (s : Same H H') (h : FJ CI CL H x p b N) : FJ CI CL H' x p b N := by
  rcases h with ⟨h1, dx, h2⟩ | ⟨h1, dx, h2⟩
  · exact .inl ⟨h1, dx, s _ _ h2⟩
  · exact .inr ⟨h1, dx, s _ _ h2⟩
theorem judge_call {CR CI CL r : Addr} {H : Hp} {p : Pr} {b : Nat} {d : Int} {Q : VK} {E : XK} (hr : RuleP CR H r p) (hb : 1 ≤ b ∧ b ≤ 2050) (dy : Dy d) (h : ∀ H' x (N : Nat), Same H H' → DueR p d N → FJ CI CL H' x p b N → Q (.ref x) H') : spJudge CR CI CL [.ref r, .int b, .int d] H Q E :=
  ⟨r, p, b, d, rfl, hr, hb, dy, fun H' N s hD => ⟨fun h1 x h2 => h H' x N s hD (.inl ⟨h1, h2⟩), fun h1 x h2 => h H' x N s hD (.inr ⟨h1, h2⟩)⟩⟩
structure S47 (K : PySem.W.Frag) (CR CI CL : Addr) (T : List (Addr × Str)) (H : Hp) (a t r LF x : Addr) (f q : List (Int × Int)) (p : Pr) (b n N : Nat) : Prop where
  dr : DrawP K H a
  tp : ToldP H t f q
  hr : RuleP CR H r p
  tb : Tabs T H
  lp : LeftP H LF p b (n + 1)
  fj : FJ CI CL H x p b N
theorem S47.mono {K : PySem.W.Frag} {CR CI CL : Addr} {T : List (Addr × Str)} {H H' : Hp} {a t r LF x : Addr} {f q : List (Int × Int)} {p : Pr} {b n N : Nat} (s : Same H H') (h : S47 K CR CI CL T H a t r LF x f q p b n N) : S47 K CR CI CL T H' a t r LF x f q p b n N :=
  ⟨h.dr.mono s, h.tp.mono s, h.hr.mono s, Tabs.same s h.tb, h.lp.mono s, h.fj.mono s⟩
abbrev s47 (sc a t r : Addr) (n b : Nat) (LF : Addr) (v : V) (x : Addr) (rest : List (Option V)) : L2.St := some (.ref sc) :: some (.ref a) :: some (.ref t) :: some (.ref r) :: some (.int n) :: some (.int b) :: some (.ref LF) :: some v :: some (.ref x) :: rest
theorem rd_sortDP {a : Addr} {ls : List (Int × Int)} {zs : List Int} {H : Hp} {Q : VK} (e : H a = some (.dK (dI ls))) (pm : zs.Perm (ls.map (·.1))) (s : zs.Pairwise (· < ·)) (l : ls.length < 64) (h : ∀ p H', H p = none → Same H H' → H' p = some (.lst (zs.map V.int)) → Q (.ref p) H') : rSortDI [.ref a] H Q :=
  ⟨a, _, ls.map (·.1), rfl, .inl e, dI_keys ls, by rw [List.length_map]; exact l, fun ys p pm2 sr hp => by
    rw [perm_sorted (pm2.trans pm.symm) sr s]
    exact h p _ hp (Same.new (Same.refl H) hp) upd_same⟩
theorem due_ex {p : Pr} (g : Good p) {d : Int} : ∀ K : Nat, d < dueD p K → ∃ N, N ≤ K ∧ DueR p d N
  | 0, h => ⟨0, Nat.le_refl _, fun k hk => absurd hk (Nat.not_lt_zero _), h⟩
  | K + 1, h => by
    by_cases c : d < dueD p K
    · obtain ⟨N, h1, h2⟩ := due_ex g K c
      exact ⟨N, by omega, h2⟩
    · refine ⟨K + 1, Nat.le_refl _, fun k hk => ?_, h⟩
      have := dueD_mono g k (K - k)
      rw [show k + (K - k) = K by omega] at this
      omega
section
variable {P : Program} {w : World} {K : PySem.W.Frag} {mg : Str → Option Value} {base : Heap} {C_Rule C_Evidence C_Good C_Bad C_InTime C_Late C_BadDay Lc__law_worked Lp__law_worked : Addr}
theorem fn_law (T : TX K mg C_Rule C_Evidence C_Good C_Bad C_InTime C_Late C_BadDay Lc__law_worked Lp__law_worked) (B__law_worked : LamX.TabB base mg Lc__law_worked Lp__law_worked) {f0 : Addr} {fd : FuncData} (D : C8.Def K mg "law" s_law f0 fd) : FnOk P w K mg base C8.CX0 7 f0 fd P_law (spLaw K Lp__law_worked) := by
  have G__law_rule := cal__law_rule (P := P) (w := w) (base := base) T
  have G_Rule_init := mak_Rule_init (P := P) (w := w) (base := base) T
  have G__law_take := cal__law_take (P := P) (w := w) (base := base) T
  have G__law_worked := cal__law_worked (P := P) (w := w) (base := base) T B__law_worked
  have G_judge_spread := cal_judge_spread (P := P) (w := w) (base := base) T
  have G_InTime_shows := met_InTime_shows (P := P) (w := w) (base := base) T
  have G_Late_shows := met_Late_shows (P := P) (w := w) (base := base) T
  have G_InTime_bool := met_InTime_bool (P := P) (w := w) (base := base) T
  have G_Late_bool := met_Late_bool (P := P) (w := w) (base := base) T
  have G_Late_init := mak_Late_init (P := P) (w := w) (base := base) T
  have G_InTime_init := mak_InTime_init (P := P) (w := w) (base := base) T
  have G_left_over := cal_left_over (P := P) (w := w) (base := base) T
  have G_least_budget := cal_least_budget (P := P) (w := w) (base := base) T
  have G__law_far := cal__law_far (P := P) (w := w) (base := base) T
  have G__law_second := cal__law_second (P := P) (w := w) (base := base) T
  have X_judge_spread := xal_judge_spread (P := P) (w := w) (base := base) T
  have X_left_over := xal_left_over (P := P) (w := w) (base := base) T
  refine fn0 D.fn sc_law (by walk_at "len") (fun cdv A outer s H vs Q E hr h => ?_)
  obtain ⟨sc, ns, rfl, hS, _, hT, k⟩ := h
  have b7 := bb_pos
  have b8 := dd_bb
  have b9 := dd_far
  refine ⟨_, (pss_cons (ps_s 1 sc_law.nd (pe_draw (pa_cons (pv 0) (pa_cons pe_int pa_nil))))
      (pss_cons (ps_s 2 sc_law.nd (pe_c G__law_rule hr (by decide) rfl (pa_cons (pv 1) pa_nil)))
      (pss_cons (ps_asg (pe_tup (pa_cons (pe_mk G_Rule_init hr (by decide) rfl (pa_cons (pe_ix ix_tup (pv 2) pe_int (fun _ _ => rfl)) (pa_cons (pe_ix ix_tup (pv 2) pe_int (fun _ _ => rfl)) pa_nil))) (pa_cons (pe_op op_add pe_int (pe_c G__law_take hr (by decide) rfl (pa_cons (pv 1) (pa_cons pe_int pa_nil)))) (pa_cons (pe_op op_add pe_int (pe_c G__law_take hr (by decide) rfl (pa_cons (pv 1) (pa_cons pe_int pa_nil)))) pa_nil)))) (pg_tup rfl (pgs_cons (pg_n 3 sc_law.nd) (pgs_cons (pg_n 4 sc_law.nd) (pgs_cons (pg_n 5 sc_law.nd) pgs_nil)))))
      (pss_cons (ps_asg (pe_c G__law_worked hr (by decide) rfl (pa_cons (pv 2) (pa_cons (pv 5) (pa_cons (pv 4) pa_nil)))) (pg_tup rfl (pgs_cons (pg_n 6 sc_law.nd) (pgs_cons (pg_n 7 sc_law.nd) pgs_nil))))
      (pss_cons (ps_s 8 sc_law.nd (pe_c G_judge_spread hr (by decide) rfl (pa_cons (pv 3) (pa_cons (pv 5) (pa_cons (pv 4) pa_nil)))))
      (pss_cut (ps_if (PW.pt (pw_or (pt_cmpR op_ne (pe_callTy (cr_alt (cr_boolO G_InTime_bool hr (by decide)) (cr_boolO G_Late_bool hr (by decide))) (by rfl) T.b_bool (by decide +kernel) (pa_cons (pv 8) pa_nil)) (pe_cmpR op_isNn (pv 7) pe_non (nomark _)) (nomark _)) (pw_or1 (pt_not (pt_val (pe_alt (pe_mt G_InTime_shows hr (by decide) (pv 8) (pa_cons (pv 3) (pa_cons (pv 5) (pa_cons (pv 4) pa_nil)))) (pe_mt G_Late_shows hr (by decide) (pv 8) (pa_cons (pv 3) (pa_cons (pv 5) (pa_cons (pv 4) pa_nil)))))))))) (pss_one (ps_ret pe_bl)) pss_nil)
      (pss_cut (ps_if (pt_cmpR op_notNn (pv 7) pe_non (nomark _)) (pss_cons (ps_s 9 sc_law.nd (pe_lst (pa_cons (pe_mk G_Late_init hr (by decide) rfl (pa_cons (pe_op op_add (pe_fld (pv 8) rfl) pe_int) (pa_cons (pe_fld (pv 8) rfl) pa_nil))) (pa_cons (pe_mk G_Late_init hr (by decide) rfl (pa_cons (pe_fld (pv 8) rfl) (pa_cons (pe_op op_add (pe_fld (pv 8) rfl) pe_int) pa_nil))) pa_nil))))
      (pss_one (ps_if (PW.pt (pw_or (pt_cmpR (op_neD hr.units) (pe_tup (pa_cons (pe_fld (pv 8) rfl) (pa_cons (pe_fld (pv 8) rfl) pa_nil))) (pv 7) (nomark _)) (pw_or1 (pt_val (pe_callB (cr_any rfl) (by rfl) T.b_any (by decide +kernel) (pa_cons (pe_lc (own := [("_law_one", 10)]) (g := gName 10) (tt := tYes) rfl sc_law.nd (pi_list (pv 9)) (blkOk_by (own := [("_law_one", 10)]) (N := N_law) (sc := fnScope s_law) (by decide +kernel)) (fun _ _ _ _ _ => (pg_n 10 sc_law.nd)) (fun _ _ _ _ _ => pts_nil) (fun _ _ _ _ _ => (pe_mt G_Late_shows hr (by decide) (pv 10) (pa_cons (pv 3) (pa_cons (pv 5) (pa_cons (pv 4) pa_nil)))))) pa_nil)))))) (pss_one (ps_ret pe_bl)) pss_nil))) (pss_cons (ps_s 9 sc_law.nd (pe_lst (pa_cons (pe_mk G_InTime_init hr (by decide) rfl (pa_cons (pe_op op_add (pe_fld (pv 8) rfl) pe_int) pa_nil)) (pa_cons (pe_mk G_InTime_init hr (by decide) rfl (pa_cons (pe_op op_sub (pe_fld (pv 8) rfl) pe_int) pa_nil)) pa_nil))))
      (pss_one (ps_if (PW.pt (pw_or (pt_cmpR op_gt (pe_fld (pv 8) rfl) (pv 5) (nomark _)) (pw_or1 (pt_val (pe_callB (cr_any rfl) (by rfl) T.b_any (by decide +kernel) (pa_cons (pe_lc (own := [("_law_one", 10)]) (g := gName 10) (tt := tYes) rfl sc_law.nd (pi_list (pv 9)) (blkOk_by (own := [("_law_one", 10)]) (N := N_law) (sc := fnScope s_law) (by decide +kernel)) (fun _ _ _ _ _ => (pg_n 10 sc_law.nd)) (fun _ _ _ _ _ => pts_nil) (fun _ _ _ _ _ => (pe_mt G_InTime_shows hr (by decide) (pv 10) (pa_cons (pv 3) (pa_cons (pv 5) (pa_cons (pv 4) pa_nil)))))) pa_nil)))))) (pss_one (ps_ret pe_bl)) pss_nil))))
      (pss_cons (ps_s 11 sc_law.nd (pe_c G__law_take hr (by decide) rfl (pa_cons (pv 1) (pa_cons (pe_op op_add (pv 4) pe_int) pa_nil))))
      (pss_cut (ps_if (PW.pt (pw_or (pt_cmpR (op_ne_dictA hr.units0) (pe_c G_left_over hr (by decide) rfl (pa_cons (pv 3) (pa_cons (pv 5) (pa_cons (pv 11) pa_nil)))) (pe_ix ix_list (pv 6) (pv 11) (fun _ _ => rfl)) (nomark _)) (pw_or1 (pt_cmpR (op_neD hr.units) (pe_callTy (call_list_dK rfl) (by rfl) T.b_list (by decide +kernel) (pa_cons (pe_c G_left_over hr (by decide) rfl (pa_cons (pv 3) (pa_cons (pv 5) (pa_cons (pv 11) pa_nil)))) pa_nil)) (pe_callB (cr_sortDI rfl) (by rfl) T.b_sorted (by decide +kernel) (pa_cons (pe_ix ix_list (pv 6) (pv 11) (fun _ _ => rfl)) pa_nil)) (nomark _))))) (pss_one (ps_ret pe_bl)) pss_nil)
      (pss_cons (ps_s 12 sc_law.nd (pe_c G_least_budget hr (by decide) rfl (pa_cons (pv 3) (pa_cons (pv 4) pa_nil))))
      (pss_cut (ps_if (PW.pt (pw_or (pt_not (pt_own2 G_InTime_bool G_Late_bool hr (by decide) (by decide) (pe_c G_judge_spread hr (by decide) rfl (pa_cons (pv 3) (pa_cons (pv 12) (pa_cons (pv 4) pa_nil)))))) (pw_or (PW.pt (pw_and (pt_cmpR op_gt (pv 12) pe_int (nomark _)) (pw_and1 (pt_own2 G_InTime_bool G_Late_bool hr (by decide) (by decide) (pe_c G_judge_spread hr (by decide) rfl (pa_cons (pv 3) (pa_cons (pe_op op_sub (pv 12) pe_int) (pa_cons (pv 4) pa_nil)))))))) (pw_or1 (pt_cmpR op_notNn (pe_ix ix_tup (pe_c G__law_worked hr (by decide) rfl (pa_cons (pv 2) (pa_cons (pv 12) (pa_cons (pv 4) pa_nil)))) pe_int (fun _ _ => rfl)) pe_non (nomark _)))))) (pss_one (ps_ret pe_bl)) pss_nil)
      (pss_cons (ps_s 13 sc_law.nd (pe_c G__law_far hr (by decide) rfl (pa_cons (pv 1) pa_nil)))
      (pss_cons (ps_setLc (i := 14) (own := [("_law_grade", 15)]) (g := gName 15) (tt := _) rfl sc_law.nd rfl rfl (sw_true rfl rfl rfl (by decide +kernel)) (pi_range1 rfl T.b_range (pa_cons pe_int pa_nil)) (blkOk_by (own := [("_law_grade", 15)]) (N := N_law) (sc := fnScope s_law) (by decide +kernel)) (fun _ _ _ _ _ => (pg_n 15 sc_law.nd)) (fun _ _ _ _ _ => (pts_one (pt_cmpR op_le (pe_c G__law_second hr (by decide) rfl (pa_cons (pv 2) (pa_cons (pv 15) pa_nil))) (pv 13) (nomark _)))) (fun _ _ _ _ _ => (pv 15)))
      (pss_cut (ps_if (PW.pt (pw_or (pt_cmpR op_ne (pe_c G_least_budget hr (by decide) rfl (pa_cons (pv 3) (pa_cons (pv 13) pa_nil))) (pe_callB (cr_max2 rfl) (by rfl) T.b_max (by decide +kernel) (pa_cons pe_int (pa_cons (pe_callB cr_lenS (by rfl) T.b_len (by decide +kernel) (pa_cons (pv 14) pa_nil)) pa_nil))) (nomark _)) (pw_or1 (pt_cmpR op_ne (pe_fld (pe_c G_judge_spread hr (by decide) rfl (pa_cons (pv 3) (pa_cons (pe_op op_add (pe_callB cr_lenS (by rfl) T.b_len (by decide +kernel) (pa_cons (pv 14) pa_nil)) pe_int) (pa_cons (pv 13) pa_nil)))) rfl) (pe_callB cr_lenS (by rfl) T.b_len (by decide +kernel) (pa_cons (pv 14) pa_nil)) (nomark _))))) (pss_one (ps_ret pe_bl)) pss_nil)
      (pss_cut (ps_if (PW.pt (pw_and (pt_cmpR op_gt (pe_callB cr_lenS (by rfl) T.b_len (by decide +kernel) (pa_cons (pv 14) pa_nil)) pe_int (nomark _)) (pw_and1 (pt_cmpR op_ne (pe_fld (pe_c G_judge_spread hr (by decide) rfl (pa_cons (pv 3) (pa_cons (pe_op op_sub (pe_callB cr_lenS (by rfl) T.b_len (by decide +kernel) (pa_cons (pv 14) pa_nil)) pe_int) (pa_cons (pv 13) pa_nil)))) rfl) (pe_c G__law_second hr (by decide) rfl (pa_cons (pv 2) (pa_cons (pe_op op_sub (pe_callB cr_lenS (by rfl) T.b_len (by decide +kernel) (pa_cons (pv 14) pa_nil)) pe_int) pa_nil))) (nomark _))))) (pss_one (ps_ret pe_bl)) pss_nil)
      (pss_cut (ps_for PassesOwn.never rfl (pi_tup (pe_tup (pa_cons (pe_tup (pa_cons pe_int (pa_cons pe_int pa_nil))) (pa_cons (pe_tup (pa_cons pe_int (pa_cons (pe_un un_neg pe_int) pa_nil))) (pa_cons (pe_tup (pa_cons pe_non (pa_cons pe_int pa_nil))) pa_nil))))) (pg_n 16 sc_law.nd) (pss_one (ps_tryO rfl rfl ⟨rfl, by decide, .inl T.mg_BadDay⟩ takesN (fun W pn xe tk => (pss_cons (ps_expr (pe_cX X_judge_spread hr (by decide) rfl (fun σ => passAt tk σ) (pa_cons (pv 3) (pa_cons (pe_ix (ixK rIxT K ix_tup) (pv 16) pe_int (fun _ _ => rfl)) (pa_cons (pe_ix (ixK rIxT K ix_tup) (pv 16) pe_int (fun _ _ => rfl)) pa_nil)))))
      (pss_one (ps_ret pe_bl)))) (fun a oe cls d pn => (pss_one ps_pass)))))
      (pss_one (ps_tryO rfl rfl ⟨rfl, by decide, .inl T.mg_BadDay⟩ takesN (fun W pn xe tk => (pss_cons (ps_expr (pe_cX X_left_over hr (by decide) rfl (fun σ => passAt tk σ) (pa_cons (pv 3) (pa_cons pe_int (pa_cons pe_int pa_nil)))))
      (pss_one (ps_ret pe_bl)))) (fun a oe cls d pn => (pss_one (ps_ret pe_bl))))))))))))))))))))), ?_⟩
  walk_at "rd"
  refine rd_drawN fun a H1 _ s1 ea => ?_
  walk_at "rd"
  refine ⟨a, rfl, ⟨sc, ns, ea, L2.Same.seq s1 hS⟩, fun H2 t f q s2 ok tp => ?_⟩
  have dr2 : DrawP K H2 a := ⟨sc, ns, s2 _ _ ea, L2.Same.seq (s1.trans s2) hS⟩
  walk_at "rd"
  obtain ⟨l1, l2, xs1, xs2, et, el1, el2, dl1, dl2⟩ := id tp
  refine rd_ixT et (by rfl) ?_
  walk_at "rd"
  refine rd_ixT et (by rfl) ?_
  walk_at "rd"
  refine rd_make fun r dx H3 s3 hx e3 => ?_
  have o1 := ok.f2
  have o2 := ok.q2
  refine ⟨r, dx, l1, l2, H2, xs1, xs2, f, q, rfl, s3, hx, e3, .inl (s3 _ _ el1), .inl (s3 _ _ el2), dl1.mono s3, dl2.mono s3, by omega, by omega, ok.ne, ok.okf, ok.okq, fun H4 s4 hr => ⟨rfl, ?_⟩⟩
  have gd := ok.good
  walk_at "rd"
  refine ⟨a, _, rfl, dr2.mono s4, by decide, fun H5 m s5 m0 m1 => ?_⟩
  walk_at "rd"
  refine ⟨a, _, rfl, (dr2.mono s4).mono s5, by decide, fun H6 z s6 z0 z1 => ?_⟩
  walk_at "rd"
  obtain ⟨n, en⟩ : ∃ n : Nat, 10 + m = (n : Int) := ⟨(10 + m).toNat, by omega⟩
  obtain ⟨b, eb⟩ : ∃ b : Nat, 1 + z = (b : Int) := ⟨(1 + z).toNat, by omega⟩
  rw [en, eb]
  refine rd_newT (by simp) fun u H7 _ s7 eu _ => ?_
  refine rd_gtup eu rfl ?_
  walk_at "rd"
  have s47 := (s5.trans s6).trans s7
  have s27 := s4.trans s47
  have tp7 := tp.mono s27
  have dr7 := dr2.mono s27
  have hr7 := hr.mono s47
  refine ⟨t, f, q, b, n, rfl, tp7, ok, ⟨by omega, by omega⟩, by omega, Tabs.same ((s1.trans s2).trans s27) hT, fun H8 u2 LF v xN T8 eu2 lp lv => ?_⟩
  generalize hp : atp f q = p at *
  have sN := extN_same xN
  have tp8 := (ToldP.nT tp7).mono sN
  have dr8 := (DrawP.nT dr7).mono sN
  have hr8 := (RuleP.nT hr7).mono sN
  refine rd_gtup eu2 rfl ?_
  walk_at "rd"
  refine judge_call hr8 ⟨by omega, by omega⟩ ⟨by omega, by omega⟩ fun H9 x N s9 hD fj => ?_
  have St : S47 K C_Rule C_InTime C_Late [(Lp__law_worked, qL "_law_worked")] H9 a t r LF x f q p b n N := ⟨dr8.mono s9, tp8.mono s9, hr8.mono s9, Tabs.same s9 T8, lp.mono s9, fj⟩
  have lv := lv.keep (H' := H9) fun a xs e => s9 _ _ e
  clear lp T8 hr8 tp8 dr8 tp7 dr7 hr7 hr tp dr2 fj
  have hbN := hD.le gd b
  walk_at "rd"
  refine ⟨fun σ H' => Same H9 H' ∧ σ = Sl.s47 sc a t r n b LF v x [none, none, none, none, none, none, none, none], ?_, ?_⟩
  · rcases St.fj with ⟨h1, dx1, ex1⟩ | ⟨h1, dx1, ex1⟩
    · rcases lv with ⟨h2, rfl⟩ | ⟨h2, _⟩
      · walk_at "rd"
        refine .inl (rd_boolO ex1 ⟨x, rfl, true, rfl, ?_⟩)
        walk_at "rd"
        refine rd_isN0 ?_
        refine ⟨rfl, _, rfl, rd_iteNF (by simp) ?_⟩
        walk_at "rd"
        refine .inl ?_
        walk_at "rd"
        refine ⟨x, dx1, _, rfl, ex1, rfl, ?_⟩
        walk_at "rd"
        refine ⟨x, r, p, N, b, n, rfl, ⟨dx1, ex1⟩, St.hr, ⟨by omega, by omega⟩, ⟨by omega, by omega⟩, fun H10 N' s10 hD' => ?_⟩
        obtain rfl := hD.uniq gd hD'
        refine ⟨true, by rw [decide_eq_true rfl, decide_eq_true (show (N : Int) ≤ (b : Int) by omega)]; rfl, rd_iteNTT ?_⟩
        walk_at "rd"
        exact ⟨s10, rfl⟩
      · exact absurd (hbN.mp h2) (by omega)
    · rcases lv with ⟨h2, _⟩ | ⟨h2, w, rfl, ew⟩
      · exact absurd (hbN.mpr h1) (by omega)
      · walk_at "rd"
        refine .inr (rd_boolO ex1 ⟨x, rfl, false, rfl, ?_⟩)
        walk_at "rd"
        refine rd_isN0 ?_
        refine ⟨rfl, _, rfl, rd_iteNF (by simp) ?_⟩
        walk_at "rd"
        refine .inr ?_
        walk_at "rd"
        refine ⟨x, dx1, _, rfl, ex1, rfl, ?_⟩
        walk_at "rd"
        refine ⟨x, r, p, b, dueD p b, b, n, rfl, ⟨dx1, ex1⟩, St.hr, ⟨by omega, by omega⟩, ⟨by omega, by omega⟩, fun H10 s10 => ?_⟩
        refine ⟨true, by rw [decide_eq_true ⟨rfl, rfl⟩, decide_eq_true h2]; rfl, rd_iteNTT ?_⟩
        walk_at "rd"
        exact ⟨s10, rfl⟩
  rintro σ H10 ⟨s10, rfl⟩
  replace St := St.mono s10
  replace lv := lv.keep (H' := H10) fun a xs e => s10 _ _ e
  walk_at "rd"
  refine ⟨fun σ H' => ∃ v9, Same H10 H' ∧ σ = Sl.s47 sc a t r n b LF v x [v9, none, none, none, none, none, none, none], ?_, ?_⟩
  · walk_at "rd"
    refine rd_notN0 ?_
    refine ⟨_, rfl, ?_⟩
    rcases St.fj with ⟨h1, dx1, ex1⟩ | ⟨h1, dx1, ex1⟩
    · rcases lv with ⟨h2, rfl⟩ | ⟨h2, _⟩
      · refine rd_iteNF rfl ?_
        walk_at "rd"
        refine rd_fld ex1 T.cl_InTime T.na_InTime_grades rfl ?_
        walk_at "rd"
        refine rd_make fun y1 dy1 H11 s11 hy1 ey1 => ?_
        refine ⟨y1, dy1, H10, _, rfl, s11, hy1, ey1, fun H12 s12 ip1 => ⟨rfl, ?_⟩⟩
        walk_at "rd"
        refine rd_fld (s12 _ _ ex1) T.cl_InTime T.na_InTime_grades rfl ?_
        walk_at "rd"
        refine rd_make fun y2 dy2 H13 s13 hy2 ey2 => ?_
        refine ⟨y2, dy2, H12, _, rfl, s13, hy2, ey2, fun H14 s14 ip2 => ⟨rfl, ?_⟩⟩
        walk_at "rd"
        refine rd_newL (by simp) fun L9 H15 _ s15 e15 _ => ?_
        walk_at "rd"
        have s1015 := (s12.trans s14).trans s15
        refine rd_fld (s1015 _ _ ex1) T.cl_InTime T.na_InTime_grades rfl ?_
        walk_at "rd"
        refine rd_iteF (by omega) ?_
        walk_at "rd"
        refine rd_lsR (SqL.of e15) ?_
        have hw : ∀ y ∈ [V.ref y1, V.ref y2], ∃ z g, y = V.ref z ∧ InTP C_InTime H15 z g ∧ g ≠ (N : Int) := by
          intro y hy
          simp only [List.mem_cons, List.not_mem_nil, or_false] at hy
          rcases hy with rfl | rfl
          · obtain ⟨dz, ez⟩ := ip1
            exact ⟨y1, _, rfl, ⟨dz, (s14.trans s15) _ _ ez⟩, by omega⟩
          · obtain ⟨dz, ez⟩ := ip2
            exact ⟨y2, _, rfl, ⟨dz, s15 _ _ ez⟩, by omega⟩
        have hr15 := St.hr.mono s1015
        refine lcR_lst (xs := [V.ref y1, V.ref y2]) (fun D j H' => Same H15 H' ∧ H' D = some (.lst ((List.replicate j false).map V.bl))) (fun D j H' _ ⟨s, _⟩ => SqL.of (s _ _ e15)) (fun D H' _ s e _ => ⟨s, e⟩) ?_ ?_
        · rintro D j y H16 hD2 hy ⟨s16, eD⟩
          have hj : j < 2 := (List.getElem?_eq_some_iff.mp hy).1
          obtain ⟨z, g, rfl, ⟨dz, ez⟩, hg⟩ := hw y (List.mem_of_getElem? hy)
          have ez := s16 _ _ ez
          walk_at "rd"
          refine ⟨rfl, ?_⟩
          walk_at "rd"
          refine ⟨z, dz, _, rfl, ez, rfl, ?_⟩
          walk_at "rd"
          refine ⟨z, r, p, g, b, n, rfl, ⟨dz, ez⟩, hr15.mono s16, ⟨by omega, by omega⟩, ⟨by omega, by omega⟩, fun H17 N' s17 hD' => ?_⟩
          obtain rfl := hD.uniq gd hD'
          rw [decide_eq_false hg, Bool.false_and]
          refine rd_lcE (s17 _ _ eD) (by simp; omega) fun H18 eH18 eD18 => ?_
          refine ⟨by rw [eH18]; exact Same.mut (s16.trans s17) hD2, ?_⟩
          rw [eD18, List.replicate_succ', List.map_append]
          rfl
        · rintro D H16 hD2 ⟨s16, eD⟩
          walk_at "rd"
          refine ⟨D, _, rfl, SqL.of eD, ?_⟩
          refine ⟨false, rfl, rd_iteFF ?_⟩
          walk_at "rd"
          exact ⟨_, s1015.trans s16, rfl⟩
      · exact absurd (hbN.mp h2) (by omega)
    · rcases lv with ⟨h2, _⟩ | ⟨h2, w, rfl, ew⟩
      · exact absurd (hbN.mpr h1) (by omega)
      · refine rd_iteNT (fun z => nomatch z) ?_
        walk_at "rd"
        refine rd_fld ex1 T.cl_Late T.na_Late_grade rfl ?_
        walk_at "rd"
        refine rd_fld ex1 T.cl_Late T.na_Late_day (by rfl) ?_
        walk_at "rd"
        refine rd_make fun y1 dy1 H11 s11 hy1 ey1 => ?_
        refine ⟨y1, dy1, H10, _, _, rfl, s11, hy1, ey1, fun H12 s12 ip1 => ⟨rfl, ?_⟩⟩
        walk_at "rd"
        refine rd_fld (s12 _ _ ex1) T.cl_Late T.na_Late_grade rfl ?_
        walk_at "rd"
        refine rd_fld (s12 _ _ ex1) T.cl_Late T.na_Late_day (by rfl) ?_
        walk_at "rd"
        refine rd_make fun y2 dy2 H13 s13 hy2 ey2 => ?_
        refine ⟨y2, dy2, H12, _, _, rfl, s13, hy2, ey2, fun H14 s14 ip2 => ⟨rfl, ?_⟩⟩
        walk_at "rd"
        refine rd_newL (by simp) fun L9 H15 _ s15 e15 _ => ?_
        walk_at "rd"
        have s1015 := (s12.trans s14).trans s15
        refine rd_fld (s1015 _ _ ex1) T.cl_Late T.na_Late_day (by rfl) ?_
        walk_at "rd"
        refine rd_fld (s1015 _ _ ex1) T.cl_Late T.na_Late_grade rfl ?_
        walk_at "rd"
        refine rd_newT (by simp) fun u1 H16 _ s16 e16 _ => ?_
        walk_at "rd"
        have s1016 := s1015.trans s16
        refine rd_neD (d := .tuple [.int (dueD p b), .int b]) (e := .tuple [.int (dueD p b), .int b]) (.tup e16 (.cons (.int _) (.cons (.int _) .nil))) (.tup (s1016 _ _ ew) (.cons (.int _) (.cons (.int _) .nil))) (by rfl) (by rfl) ?_
        rw [eqv_self (by rfl)]
        refine ⟨_, rfl, rd_iteFF ?_⟩
        walk_at "rd"
        refine rd_lsR (SqL.of (s16 _ _ e15)) ?_
        have hw : ∀ y ∈ [V.ref y1, V.ref y2], ∃ z g e, y = V.ref z ∧ LatP C_Late H16 z g e ∧ ¬ (g = (b : Int) ∧ e = dueD p b) := by
          intro y hy
          simp only [List.mem_cons, List.not_mem_nil, or_false] at hy
          rcases hy with rfl | rfl
          · obtain ⟨dz, ez⟩ := ip1
            exact ⟨y1, _, _, rfl, ⟨dz, ((s14.trans s15).trans s16) _ _ ez⟩, by omega⟩
          · obtain ⟨dz, ez⟩ := ip2
            exact ⟨y2, _, _, rfl, ⟨dz, (s15.trans s16) _ _ ez⟩, by omega⟩
        have hr16 := St.hr.mono s1016
        refine lcR_lst (xs := [V.ref y1, V.ref y2]) (fun D j H' => Same H16 H' ∧ H' D = some (.lst ((List.replicate j false).map V.bl))) (fun D j H' _ ⟨s, _⟩ => SqL.of (s _ _ (s16 _ _ e15))) (fun D H' _ s e _ => ⟨s, e⟩) ?_ ?_
        · rintro D j y H17 hD2 hy ⟨s17, eD⟩
          have hj : j < 2 := (List.getElem?_eq_some_iff.mp hy).1
          obtain ⟨z, g, e, rfl, ⟨dz, ez⟩, hg⟩ := hw y (List.mem_of_getElem? hy)
          have ez := s17 _ _ ez
          walk_at "rd"
          refine ⟨rfl, ?_⟩
          walk_at "rd"
          refine ⟨z, dz, _, rfl, ez, rfl, ?_⟩
          walk_at "rd"
          refine ⟨z, r, p, g, e, b, n, rfl, ⟨dz, ez⟩, hr16.mono s17, ⟨by omega, by omega⟩, ⟨by omega, by omega⟩, fun H18 s18 => ?_⟩
          rw [decide_eq_false hg, Bool.false_and]
          refine rd_lcE (s18 _ _ eD) (by simp; omega) fun H19 eH19 eD19 => ?_
          refine ⟨by rw [eH19]; exact Same.mut (s17.trans s18) hD2, ?_⟩
          rw [eD19, List.replicate_succ', List.map_append]
          rfl
        · rintro D H17 hD2 ⟨s17, eD⟩
          walk_at "rd"
          refine ⟨D, _, rfl, SqL.of eD, ?_⟩
          refine ⟨false, rfl, rd_iteFF ?_⟩
          walk_at "rd"
          exact ⟨_, s1016.trans s17, rfl⟩
  clear lv
  rintro σ H11 ⟨v9, s11, rfl⟩
  replace St := St.mono s11
  walk_at "rd"
  refine ⟨a, _, rfl, St.dr, by omega, fun H12 dz s12 d0 d1 => ?_⟩
  obtain ⟨dn, rfl⟩ : ∃ dn : Nat, dz = (dn : Int) := ⟨dz.toNat, by omega⟩
  replace St := St.mono s12
  walk_at "rd"
  refine ⟨fun σ H' => Same H12 H' ∧ σ = Sl.s47 sc a t r n b LF v x [v9, none, some (.int (dn : Int)), none, none, none, none, none], ?_, ?_⟩
  · walk_at "rd"
    refine ⟨r, p, b, dn, rfl, St.hr, ⟨by omega, by omega⟩, by omega, fun H13 D1 s13 hD1 eD1 => ?_⟩
    walk_at "rd"
    obtain ⟨vs, eLF, lvs, kvs⟩ := St.lp.mono s13
    obtain ⟨D2, ks, hv2, eD2, nd2, mem2⟩ := kvs dn (by omega)
    obtain ⟨A, hA⟩ : ∃ A, A = leftA p b dn := ⟨_, rfl⟩
    rw [← hA] at eD1 eD2 mem2
    have km : kmax p dn ≤ 12 := kmax_few gd dn (by rw [show ((2 ^ 12 : Nat) : Int) = 4096 from by decide]; omega)
    have ndP : (posK A (kmax p dn)).Nodup := List.nodup_range.filter _
    have memP : ∀ k : Nat, k ∈ posK A (kmax p dn) ↔ 0 < A k := fun k => by
      unfold posK
      rw [List.mem_filter, List.mem_range, decide_eq_true_iff]
      refine ⟨fun h => h.2, fun h => ⟨?_, h⟩⟩
      rcases Nat.lt_or_ge k (kmax p dn) with z | z
      · exact z
      · have := leftA_off gd b dn k z
        rw [hA] at h
        omega
    have pmP : (posK A (kmax p dn)).Perm ks := (List.perm_ext_iff_of_nodup ndP nd2).mpr fun k => (memP k).trans (mem2 k).symm
    have lenP : (posK A (kmax p dn)).length ≤ 12 := Nat.le_trans (Nat.le_trans (List.length_filter_le _ _) (by rw [List.length_range]; exact Nat.le_refl _)) km
    have ascP : (natI (posK A (kmax p dn))).Pairwise (· < ·) := by
      unfold natI
      refine List.pairwise_map.mpr ((List.pairwise_lt_range.filter _).imp fun h => ?_)
      omega
    refine rd_ixL eLF (atI_nat' hv2) ?_
    refine ⟨D1, D2, _, _, rfl, rfl, eD1, eD2, by rw [dI_len, dI_len, dN_len, dN_len]; exact pmP.length_eq, fun z hz => ?_, ?_⟩
    · rw [dI_dN] at hz
      obtain ⟨k, hk, rfl⟩ := List.mem_map.mp hz
      exact ⟨dN_val nd2 A (pmP.mem_iff.mp hk), rfl⟩
    refine ⟨_, rfl, rd_iteFF ?_⟩
    walk_at "rd"
    refine ⟨r, p, b, dn, rfl, St.hr.mono s13, ⟨by omega, by omega⟩, by omega, fun H14 D3 s14 hD3 eD3 => ?_⟩
    rw [← hA] at eD3
    walk_at "rd"
    refine rd_listD eD3 fun u5 H15 _ s15 e15 => ?_
    walk_at "rd"
    have s1315 := s14.trans s15
    refine rd_ixL (s1315 _ _ eLF) (atI_nat' hv2) ?_
    walk_at "rd"
    refine rd_sortDP (zs := natI (posK A (kmax p dn))) (s1315 _ _ eD2) ?_ ascP (by rw [dN_len, ← pmP.length_eq]; omega) fun u6 H16 _ s16 e16 => ?_
    · rw [dN_keys]
      exact pmP.map _
    rw [dN_keys] at e15
    refine rd_neD (dt_ints (s16 _ _ e15)) (dt_ints e16) (shaped_ints _) (shaped_ints _) ?_
    rw [eqv_self (shaped_ints _)]
    refine ⟨_, rfl, rd_iteFF ?_⟩
    walk_at "rd"
    exact ⟨(s13.trans s1315).trans s16, rfl⟩
  rintro σ H13 ⟨s13, rfl⟩
  replace St := St.mono s13
  walk_at "rd"
  refine ⟨r, p, n, rfl, St.hr, ⟨by omega, by omega⟩, fun H14 N' s14 hN' hD' => ?_⟩
  obtain rfl := hD.uniq gd hD'
  obtain ⟨B, hB⟩ : ∃ B : Nat, max 1 (N : Int) = B := ⟨max 1 N, by omega⟩
  rw [hB]
  replace St := St.mono s14
  walk_at "rd"
  refine ⟨fun σ H' => DrawP K H' a ∧ ToldP H' t f q ∧ RuleP C_Rule H' r p ∧ σ = Sl.s47 sc a t r n b LF v x [v9, none, some (.int (dn : Int)), some (.int (B : Int)), none, none, none, none], ?_, ?_⟩
  · walk_at "rd"
    refine rd_truO20 ?_
    walk_at "rd"
    refine judge_call St.hr ⟨by omega, by omega⟩ ⟨by omega, by omega⟩ fun H15 x2 M s15 hDM fj2 => ?_
    obtain rfl := hD.uniq gd hDM
    rcases fj2 with ⟨_, dx2, ex2⟩ | ⟨hlt, _⟩
    rotate_left
    · exact absurd hlt (by omega)
    refine rd_truO2a ex2 ⟨x2, rfl, true, rfl, ?_⟩
    walk_at "rd"
    refine rd_ite (fun c => ?_) (fun c => ?_)
    · walk_at "rd"
      refine rd_truO20 ?_
      walk_at "rd"
      rw [show (B : Int) - 1 = ((B - 1 : Nat) : Int) by omega]
      refine judge_call (St.hr.mono s15) ⟨by omega, by omega⟩ ⟨by omega, by omega⟩ fun Hc x3 M2 sC hDM2 fj3 => ?_
      obtain rfl := hD.uniq gd hDM2
      rcases fj3 with ⟨hlt, _⟩ | ⟨_, dx3, ex3⟩
      · exact absurd hlt (by omega)
      refine rd_truO2b ex3 ⟨x3, rfl, false, rfl, ?_⟩
      replace sC := s15.trans sC
      walk_at "rd"
      refine ⟨t, f, q, B, n, rfl, St.tp.mono sC, ok, ⟨by omega, by omega⟩, by omega, Tabs.same sC St.tb, fun H17 u3 LF3 v3 xN3 T17 eu3 _ lv3 => ?_⟩
      rw [hp] at lv3
      walk_at "rd"
      refine rd_ixT eu3 (by rfl) ?_
      obtain rfl : v3 = .non := by
        rcases lv3 with ⟨_, h⟩ | ⟨h, _⟩
        · exact h
        · exact absurd ((hD.le gd B).mp h) (by omega)
      walk_at "rd"
      refine rd_notN0 ?_
      refine ⟨_, rfl, rd_iteNF rfl ?_⟩
      walk_at "rd"
      have sN3 := extN_same xN3
      exact ⟨(DrawP.nT (St.dr.mono sC)).mono sN3, (ToldP.nT (St.tp.mono sC)).mono sN3, (RuleP.nT (St.hr.mono sC)).mono sN3, rfl⟩
    · obtain ⟨Hc, eHc⟩ : ∃ Hc, Hc = H15 := ⟨_, rfl⟩
      rw [← eHc]
      have sC : Same H14 Hc := by rw [eHc]; exact s15
      walk_at "rd"
      refine ⟨t, f, q, B, n, rfl, St.tp.mono sC, ok, ⟨by omega, by omega⟩, by omega, Tabs.same sC St.tb, fun H17 u3 LF3 v3 xN3 T17 eu3 _ lv3 => ?_⟩
      rw [hp] at lv3
      walk_at "rd"
      refine rd_ixT eu3 (by rfl) ?_
      obtain rfl : v3 = .non := by
        rcases lv3 with ⟨_, h⟩ | ⟨h, _⟩
        · exact h
        · exact absurd ((hD.le gd B).mp h) (by omega)
      walk_at "rd"
      refine rd_notN0 ?_
      refine ⟨_, rfl, rd_iteNF rfl ?_⟩
      walk_at "rd"
      have sN3 := extN_same xN3
      exact ⟨(DrawP.nT (St.dr.mono sC)).mono sN3, (ToldP.nT (St.tp.mono sC)).mono sN3, (RuleP.nT (St.hr.mono sC)).mono sN3, rfl⟩
  rintro σ H15 ⟨dr, tp, hr, rfl⟩
  clear St
  walk_at "rd"
  refine ⟨a, rfl, dr, fun H16 fd s16 f0 f1 => ?_⟩
  walk_at "rd"
  obtain ⟨N2, hN2b, hN2⟩ := due_ex gd (d := fd) 80 (by
    have h1 := size_ge gd 81
    have h2 := owed_nn gd 81
    have h3 : (10 : Int) ^ 21 ≤ ((2 ^ 81 : Nat) : Int) := by decide
    have h4 : fd ≤ size p 81 := Int.le_trans f1 (Int.le_trans h3 h1)
    have h5 := size_pos gd 81
    show fd < owed p 81 + 2 * size p 81
    clear h1 h3
    omega)
  refine rd_rgR1 (by decide) (by decide) ?_
  rw [show ((90 : Int)).toNat = 90 from rfl]
  refine lcR_rng (fun D j H' => Same H16 H' ∧ H' D = some (.lst ((natI (List.range (min j N2))).map V.int))) (fun D H' _ s e _ => ⟨s, by rw [e, Nat.zero_min]; rfl⟩) ?_ ?_
  · rintro D j H17 hD2 hj ⟨s17, eD⟩
    walk_at "rd"
    refine ⟨rfl, ?_⟩
    walk_at "rd"
    refine ⟨t, f, q, j, by rw [Int.zero_add]; rfl, (tp.mono s16).mono s17, ok, by omega, fun H18 s18 => ?_⟩
    rw [hp]
    walk_at "rd"
    refine rd_ite (fun c => ?_) (fun c => ?_)
    · walk_at "rd"
      have hj2 := (hN2.le gd j).mp c
      refine rd_lcE (s18 _ _ eD) (by rw [List.length_map, natI_len, List.length_range]; omega) fun H19 eH19 eD19 => ?_
      refine ⟨by rw [eH19]; exact Same.mut (s17.trans s18) hD2, ?_⟩
      rw [eD19, show min (j + 1) N2 = j + 1 by omega, show min j N2 = j by omega, List.range_succ, Int.zero_add]
      unfold natI
      rw [List.map_append, List.map_append]
      rfl
    · have hj2 : ¬ j < N2 := fun z => c ((hN2.le gd j).mpr z)
      exact ⟨s17.trans s18, by rw [s18 _ _ eD, show min (j + 1) N2 = min j N2 by omega]⟩
  rintro G H17 hG0 ⟨s17, eG⟩
  rw [show min 90 N2 = N2 by omega] at eG
  have lG : ((natI (List.range N2)).map V.int).length = N2 := by rw [List.length_map, natI_len, List.length_range]
  replace tp := (tp.mono s16).mono s17
  replace hr := (hr.mono s16).mono s17
  clear dr s16 s17
  have dy : Dy fd := ⟨f0, by omega⟩
  walk_at "rd"
  refine ⟨fun σ H' => ∃ v15, Same H17 H' ∧ σ = Sl.s47 sc a t r n b LF v x [v9, none, some (.int (dn : Int)), some (.int (B : Int)), some (.int fd), some (.ref G), v15, none], ?_, ?_⟩
  · walk_at "rd"
    refine ⟨r, p, fd, rfl, hr, dy, fun H18 M s18 hM hDM => ?_⟩
    obtain rfl := hN2.uniq gd hDM
    walk_at "rd"
    refine rd_lenL (s18 _ _ eG) ?_
    rw [lG]
    walk_at "rd"
    refine rd_iteNF rfl ?_
    walk_at "rd"
    refine rd_lenL (s18 _ _ eG) ?_
    rw [lG]
    walk_at "rd"
    rw [show (N2 : Int) + 1 = ((N2 + 1 : Nat) : Int) by omega]
    refine judge_call (hr.mono s18) ⟨by omega, by omega⟩ dy fun H19 x3 M s19 hDM fj3 => ?_
    obtain rfl := hN2.uniq gd hDM
    rcases fj3 with ⟨_, dx3, ex3⟩ | ⟨hlt, _⟩
    rotate_left
    · exact absurd hlt (by omega)
    refine rd_fld ex3 T.cl_InTime T.na_InTime_grades rfl ?_
    walk_at "rd"
    refine rd_lenL ((s18.trans s19) _ _ eG) ?_
    rw [lG]
    walk_at "rd"
    refine rd_iteNF rfl ?_
    walk_at "rd"
    exact ⟨_, s18.trans s19, rfl⟩
  rintro σ H18 ⟨v15, s18, rfl⟩
  replace tp := tp.mono s18
  replace hr := hr.mono s18
  replace eG := s18 _ _ eG
  walk_at "rd"
  refine ⟨fun σ H' => Same H18 H' ∧ σ = Sl.s47 sc a t r n b LF v x [v9, none, some (.int (dn : Int)), some (.int (B : Int)), some (.int fd), some (.ref G), v15, none], ?_, ?_⟩
  · walk_at "rd"
    refine rd_lenL eG ?_
    rw [lG]
    walk_at "rd"
    refine rd_ite (fun c => ?_) (fun c => ?_)
    · walk_at "rd"
      refine rd_lenL eG ?_
      rw [lG]
      walk_at "rd"
      rw [show (N2 : Int) - 1 = ((N2 - 1 : Nat) : Int) by omega]
      refine judge_call hr ⟨by omega, by omega⟩ dy fun H19 x3 M s19 hDM fj3 => ?_
      obtain rfl := hN2.uniq gd hDM
      rcases fj3 with ⟨hlt, _⟩ | ⟨_, dx3, ex3⟩
      · exact absurd hlt (by omega)
      refine rd_fld ex3 T.cl_Late T.na_Late_day (by rfl) ?_
      walk_at "rd"
      refine rd_lenL (s19 _ _ eG) ?_
      rw [lG]
      walk_at "rd"
      rw [show (N2 : Int) - 1 = ((N2 - 1 : Nat) : Int) by omega]
      refine ⟨t, f, q, N2 - 1, rfl, tp.mono s19, ok, by omega, fun H20 s20 => ?_⟩
      rw [hp]
      walk_at "rd"
      refine rd_iteNF rfl ?_
      walk_at "rd"
      exact ⟨s19.trans s20, rfl⟩
    · walk_at "rd"
      exact ⟨Same.refl _, rfl⟩
  rintro σ H19 ⟨s19, rfl⟩
  replace hr := hr.mono s19
  clear tp eG
  walk_at "rd"
  refine ⟨fun σ H' => ∃ v16, Same H19 H' ∧ σ = Sl.s47 sc a t r n b LF v x [v9, none, some (.int (dn : Int)), some (.int (B : Int)), some (.int fd), some (.ref G), v15, v16], ?_, ?_⟩
  · walk_at "rd"
    refine rd_newT (by simp) fun u1 H20 _ s20 e1 _ => ?_
    walk_at "rd"
    refine rd_newT (by simp) fun u2 H21 _ s21 e2 _ => ?_
    walk_at "rd"
    refine rd_newT (by simp) fun u3 H22 _ s22 e3 _ => ?_
    walk_at "rd"
    refine rd_newT (by simp) fun u4 H23 _ s23 e4 _ => ?_
    walk_at "rd"
    refine rd_tpR (SqT.of e4) ?_
    have hr23 := hr.mono (((s20.trans s21).trans s22).trans s23)
    have hw : ∀ y, y ∈ [V.ref u1, V.ref u2, V.ref u3] → ∃ u w1 w2, y = V.ref u ∧ H23 u = some (.tup [w1, w2]) ∧ (BadN w1 1 ∨ ∃ i, w1 = V.int i ∧ 1 ≤ i ∧ BadN w2 0) := by
      intro y hy
      simp only [List.mem_cons, List.not_mem_nil, or_false] at hy
      rcases hy with rfl | rfl | rfl
      · exact ⟨u1, _, _, rfl, ((s21.trans s22).trans s23) _ _ e1, .inl (.inr ⟨0, rfl, by decide⟩)⟩
      · exact ⟨u2, _, _, rfl, (s22.trans s23) _ _ e2, .inr ⟨1, rfl, by decide, .inr ⟨-1, rfl, by decide⟩⟩⟩
      · exact ⟨u3, _, _, rfl, s23 _ _ e3, .inl (.inl (.inr rfl))⟩
    refine forR_tup (xs := [V.ref u1, V.ref u2, V.ref u3]) (fun _ σ' H' => Same H23 H' ∧ ∃ v16, σ' = Sl.s47 sc a t r n b LF v x [v9, none, some (.int (dn : Int)), some (.int (B : Int)), some (.int fd), some (.ref G), v15, v16]) (fun i σ H' ⟨s, _⟩ => SqT.of (s _ _ e4)) ⟨Same.refl _, none, rfl⟩ ?_ ?_
    · rintro i y σ H24 hy ⟨s24, v16, rfl⟩
      obtain ⟨u, w1, w2, rfl, eu, hb⟩ := hw y (List.mem_of_getElem? hy)
      walk_at "rd"
      refine rd_try ?_
      walk_at "rd"
      refine rd_callSd ?_
      walk_at "rd"
      refine rd_ixT (s24 _ _ eu) (by rfl) ?_
      walk_at "rd"
      refine rd_ixT (s24 _ _ eu) (by rfl) ?_
      walk_at "rd"
      refine rd_callSd2 ⟨r, p, w1, w2, rfl, hr23.mono s24, ?_, hb⟩
      refine rd_caught T.x_BadDay.e fun z hz => ?_
      walk_at "rd"
      exact ⟨s24, _, rfl⟩
    · rintro σ H24 ⟨s24, v16, rfl⟩
      exact ⟨_, (((s20.trans s21).trans s22).trans s23).trans s24, rfl⟩
  rintro σ H20 ⟨v16, s20, rfl⟩
  walk_at "rd"
  refine rd_try ?_
  walk_at "rd"
  refine rd_callSd ?_
  walk_at "rd"
  refine rd_callSd2 ⟨r, p, _, _, rfl, hr.mono s20, ?_, by decide, by decide⟩
  refine rd_caught T.x_BadDay.e fun z hz => ?_
  walk_at "rd"
  exact k _
end
end Sl
namespace Sl
open PySem L2 C8 StX
section
variable {K : PySem.W.Frag} {h : Heap} {mg : Str → Option Value} {x qual : Str} {st : Stmt} {f C : Addr} {oc dV kV doc pm cdv ct : Value} {od an : Option Addr} {osl : Array (Option Value)}
theorem dmk (X : K.In h) (G : h.Ns mainGlobals mg) (a : PySem.W.nsIn K mainGlobals x = some (some (.ref f))) (l : K.lookup f = some ⟨oc, od, .func (PySem.W.fnOf x x (fnArgs st) (fnBody st) (fnScope st) .none kV doc pm an cdv ct), osl⟩)
    (c : PySem.W.codeIn K cdv x = true) (k : PySem.W.keepIn K (.ref f) = true) : ∃ f fd, C8.Def K mg x st f fd ∧ fd.defaults = .none :=
  ⟨f, _, ⟨⟨_, _, _, _, _, _, _, _, _, _, rfl, l, c⟩, PySem.W.mg_of X G a, k⟩, rfl⟩
theorem mmk (a : PySem.W.findIn K (.ref C) x = some (some (.ref f))) (i : PySem.W.isFn K (.ref f) = true) (l : K.lookup f = some ⟨oc, od, .func (PySem.W.fnOf x qual (fnArgs st) (fnBody st) (fnScope st) .none kV doc pm an cdv ct), osl⟩)
    (c : PySem.W.codeIn K cdv qual = true) (k : PySem.W.keepIn K (.ref f) = true) (n : PySem.W.fnIn K f = true) : ∃ f fd, C8.Fun K x qual st f fd ∧ fd.defaults = .none ∧ Meth K C x f ∧ PySem.W.fnIn K f = true :=
  ⟨f, _, ⟨_, _, _, _, _, _, _, _, _, _, rfl, l, c⟩, rfl, ⟨a, i, k⟩, n⟩
theorem mkmk (m : PySem.W.makesIn K C = true) (a : PySem.W.findIn K (.ref C) "__init__" = some (some (.ref f))) (i : PySem.W.isFn K (.ref f) = true) (l : K.lookup f = some ⟨oc, od, .func (PySem.W.fnOf "__init__" qual (fnArgs st) (fnBody st) (fnScope st) .none kV doc pm an cdv ct), osl⟩)
    (c : PySem.W.codeIn K cdv qual = true) (k : PySem.W.keepIn K (.ref C) = true) : ∃ f fd, C8.Fun K "__init__" qual st f fd ∧ fd.defaults = .none ∧ Mk K C f :=
  ⟨f, _, ⟨_, _, _, _, _, _, _, _, _, _, rfl, l, c⟩, rfl, ⟨m, a, i, k⟩⟩
theorem kit_up {D : Addr} (h1 : PySem.W.isClsIn K D = true) (h2 : PySem.W.typeIn K (.ref D) = some (.type "type")) (h3 : PySem.W.subIn K (.ref C) (.ref D) = some true) : PySem.W.kitOne K (.ref C) (.ref D) = some true := by
  have e2 : ((PySem.W.clsIn K D).isSome && PySem.W.typeIn K (.ref D) == some (.type "type")) = true := by
    have h1' : (PySem.W.clsIn K D).isSome = true := h1
    rw [h1', h2] <;> rfl
  unfold PySem.W.kitOne
  by_cases c : ((Value.ref C) == (Value.ref D)) = true
  · rw [if_pos c]
  · rw [if_neg c]
    show (if ((PySem.W.clsIn K D).isSome && PySem.W.typeIn K (.ref D) == some (.type "type")) = true then PySem.W.subIn K (.ref C) (.ref D) else none) = some true
    rw [if_pos e2]
    exact h3
theorem conk {z : Str} {t : Tok} (a : PySem.W.findIn K (.ref C) x = some (some (.str z t))) (g : PySem.W.specialIn K (.str z t) "__get__" = some none) (c : PySem.W.copiedNames.contains x = false) : ∃ u, Con K C x (.str z) u := ⟨_, a, ⟨t, rfl⟩, g, c⟩
theorem nak (a : PySem.W.findIn K (.ref C) x = some none) : NoAttr K C x := a
theorem gmk {n : Int} {t : Tok} (X : K.In h) (G : h.Ns mainGlobals mg) (a : PySem.W.nsIn K mainGlobals x = some (some (.int n t))) : ∃ u, mg x = some u ∧ RelV (.int n) u := ⟨_, PySem.W.mg_of X G a, t, rfl⟩
end
theorem dmk_check_number {K : PySem.W.Frag} {h : Heap} {mg : Str → Option Value} {f T : Addr} {oc kV doc pm cdv ct tc : Value} {od an td : Option Addr} {osl tsl : Array (Option Value)} {n : Nat} {t : Tok} (X : K.In h) (G : h.Ns mainGlobals mg)
    (a : PySem.W.nsIn K mainGlobals "check_number" = some (some (.ref f))) (l : K.lookup f = some ⟨oc, od, .func (PySem.W.fnOf "check_number" "check_number" (fnArgs s_check_number) (fnBody s_check_number) (fnScope s_check_number) (.ref T) kV doc pm an cdv ct), osl⟩)
    (c : PySem.W.codeIn K cdv "check_number" = true) (k : PySem.W.keepIn K (.ref f) = true) (lT : K.lookup T = some ⟨tc, td, .seq #[.int 0 t] n, tsl⟩) :
    ∃ f fd, C8.Def K mg "check_number" s_check_number f fd ∧ (∃ ds, Vals [] ds ∧ Binds K fd P_check_number ds) ∧ (∃ ds, Vals [.int 0] ds ∧ Binds K fd P_check_number ds) := by
  have F : FunD K "check_number" "check_number" (fnArgs s_check_number) (fnBody s_check_number) (fnScope s_check_number) [.int 0] [] f (PySem.W.fnOf "check_number" "check_number" (fnArgs s_check_number) (fnBody s_check_number) (fnScope s_check_number) (.ref T) kV doc pm an cdv ct) :=
    ⟨⟨oc, od, .ref T, kV, doc, pm, an, cdv, ct, osl, rfl, l, c, .inr ⟨by simp, T, _, [.int 0 t], n, rfl, lT, rfl, .cons ⟨t, rfl⟩ .nil⟩, .inl rfl⟩, k⟩
  refine ⟨f, _, ⟨⟨_, _, _, _, _, _, _, _, _, _, rfl, l, c⟩, PySem.W.mg_of X G a, k⟩, ?_, ?_⟩
  · exact F.binds1 2 1 (by simp) rfl fun T kV doc pm an cdv ct us its h1 h2 => match us, its, h1, h2 with | [_, _], [_], _, _ => ⟨_, rfl, rfl⟩
  · exact F.binds1 1 0 (by simp) rfl fun T kV doc pm an cdv ct us its h1 h2 => match us, its, h1, h2 with | [_], [_], _, _ => ⟨_, rfl, rfl⟩
end Sl
namespace Sl
open PySem L2 C8 StX LamX
theorem fin {l : PySem.W.OpenLaw} {w : World} {K : PySem.W.Frag} {h : Heap} {mg : Str → Option Value} {fa C_Rule C_Evidence C_Good C_Bad C_InTime C_Late C_BadDay Lc__law_worked Lp__law_worked : Addr} (T : TX K mg C_Rule C_Evidence C_Good C_Bad C_InTime C_Late C_BadDay Lc__law_worked Lp__law_worked) (X : K.In h) (G : h.Ns mainGlobals mg) (hfa : mg "law" = some (.ref fa)) (tb : ∀ (c P : Addr), PySem.W.tabIn K "_law_worked" = some (c, P) → PySem.W.CodeHd h c P ∧ h.get? P = some (PySem.W.tabObj #[])) :
    LawAtS l w K C8.CX0 7 63 "_law_script" mg fa h := by
  obtain ⟨f, fd, D, dn⟩ := T.d_law
  have e := hfa.symm.trans D.mgf
  cases e
  obtain ⟨hC, hT⟩ := tb Lc__law_worked Lp__law_worked T.tk__law_worked.tab
  refine ⟨fd, [(Lc__law_worked, Lp__law_worked)], spLaw K Lp__law_worked, fun p hp => ?_, fun p hp => ?_, fun p hp => ?_, fun s v => ?_, fun H a ns hl _ hH hS => ⟨a, ns, rfl, hS, hl, fun p hp => ?_, fun _ => rfl⟩, fun base _ _ hB => fn_law T (hB _ (List.mem_singleton.mpr rfl)) D⟩
  · rw [List.mem_singleton.mp hp]
    exact hT
  · rw [List.mem_singleton.mp hp]
    exact T.tk__law_worked.nT
  · rw [List.mem_singleton.mp hp]
    exact hC
  · obtain ⟨oc, od, dV, kV, doc, pm, an, cdv, ct, osl, rfl, lk, hcd⟩ := D.fn.ex
    have e : dV = .none := dn
    subst e
    exact .of_eq rfl
  · rw [List.mem_singleton.mp hp]
    exact ⟨#[], hH _ (List.mem_singleton.mpr rfl), trivial, fun pos cv z => by cases z⟩
end Sl
open PySem PySem.W PyProof.Rows
set_option maxRecDepth 100000 in
set_option maxHeartbeats 0 in
theorem PySem.Challenge.cw_siltstore_k47_whole_spreading_holds : PySem.Challenge.rw_siltstore_k47_whole_spreading.Holds := by
  refine headQ ?_
  k_fill
  refine LamX.walk_ofTT (CX := fun _ => C8.CX0) (n := 63) (k := 7) (x := "_law_script") rfl (by decide) rfl ⟨rfl, by decide, by decide⟩ (fun w h Y => PySem.W.km_in_of Y) ?F fun _ _ _ _ _ z => z
  case F =>
    intro w mg fa h tb KX G hmg
    refine' Sl.fin ?T KX G hmg (fun c P e => tb "_law_worked" c P (by kernel_rfl) e)
    case T =>
      refine' Sl.TX.mk (PySem.W.mg_of KX G ?q1) (PySem.W.mg_of KX G ?q2) (PySem.W.mg_of KX G ?q3) (PySem.W.mg_of KX G ?q4) (PySem.W.mg_of KX G ?q5) (PySem.W.mg_of KX G ?q6) (PySem.W.mg_of KX G ?q7) (Sl.dmk KX G ?q8 ?q9 ?q10 ?q11) (Sl.dmk KX G ?q12 ?q13 ?q14 ?q15) (Sl.dmk KX G ?q16 ?q17 ?q18 ?q19) (Sl.mkmk ?q20 ?q21 ?q22 ?q23 ?q24 ?q25) (Sl.mmk ?q26 ?q27 ?q28 ?q29 ?q30 ?q31) (Sl.mmk ?q32 ?q33 ?q34 ?q35 ?q36 ?q37) (Sl.mmk ?q38 ?q39 ?q40 ?q41 ?q42 ?q43) (Sl.mmk ?q44 ?q45 ?q46 ?q47 ?q48 ?q49) (Sl.mmk ?q50 ?q51 ?q52 ?q53 ?q54 ?q55) (Sl.dmk KX G ?q56 ?q57 ?q58 ?q59) (Sl.dmk_check_number KX G ?q60 ?q61 ?q62 ?q63 ?q64) (Sl.dmk KX G ?q65 ?q66 ?q67 ?q68) (Sl.dmk KX G ?q69 ?q70 ?q71 ?q72) (Sl.mkmk ?q73 ?q74 ?q75 ?q76 ?q77 ?q78) (Sl.mmk ?q79 ?q80 ?q81 ?q82 ?q83 ?q84) (Sl.mmk ?q85 ?q86 ?q87 ?q88 ?q89 ?q90) (Sl.mkmk ?q91 ?q92 ?q93 ?q94 ?q95 ?q96) (Sl.mmk ?q97 ?q98 ?q99 ?q100 ?q101 ?q102) (Sl.mmk ?q103 ?q104 ?q105 ?q106 ?q107 ?q108) (Sl.dmk KX G ?q109 ?q110 ?q111 ?q112) (Sl.dmk KX G ?q113 ?q114 ?q115 ?q116) (Sl.dmk KX G ?q117 ?q118 ?q119 ?q120) (Sl.dmk KX G ?q121 ?q122 ?q123 ?q124) (Sl.dmk KX G ?q125 ?q126 ?q127 ?q128) (Sl.dmk KX G ?q129 ?q130 ?q131 ?q132) (Sl.dmk KX G ?q133 ?q134 ?q135 ?q136) (Sl.dmk KX G ?q137 ?q138 ?q139 ?q140) (Sl.dmk KX G ?q141 ?q142 ?q143 ?q144) (Sl.dmk KX G ?q145 ?q146 ?q147 ?q148) (Sl.dmk KX G ?q149 ?q150 ?q151 ?q152) (Sl.dmk KX G ?q153 ?q154 ?q155 ?q156) (Sl.dmk KX G ?q157 ?q158 ?q159 ?q160) (Sl.dmk KX G ?q161 ?q162 ?q163 ?q164) (Sl.dmk KX G ?q165 ?q166 ?q167 ?q168) (Sl.dmk KX G ?q169 ?q170 ?q171 ?q172) (Sl.dmk KX G ?q173 ?q174 ?q175 ?q176) (Sl.dmk KX G ?q177 ?q178 ?q179 ?q180) (Sl.dmk KX G ?q181 ?q182 ?q183 ?q184) (Sl.mmk ?q185 ?q186 ?q187 ?q188 ?q189 ?q190) (Sl.mmk ?q191 ?q192 ?q193 ?q194 ?q195 ?q196) (Sl.kit_up ?q197 ?q198 ?q199) (Sl.conk ?q200 ?q201 (by decide)) (Sl.mmk ?q202 ?q203 ?q204 ?q205 ?q206 ?q207) (Sl.mmk ?q208 ?q209 ?q210 ?q211 ?q212 ?q213) (Sl.kit_up ?q214 ?q215 ?q216) (Sl.conk ?q217 ?q218 (by decide)) (⟨?q219, ?q220, ?q221, ?q222⟩) (⟨?q223, ?q224, ?q225, ?q226⟩) (Sl.nak ?q227) (Sl.nak ?q228) (⟨?q229, ?q230, ?q231, ?q232⟩) (⟨?q233, ?q234, ?q235, ?q236⟩) (Sl.nak ?q237) (⟨?q238, ?q239, ?q240, ?q241⟩) (⟨?q242, ?q243, ?q244, ?q245⟩) (Sl.nak ?q246) (Sl.nak ?q247) (Sl.tabk ?q248 ?q249) (Sl.tcmk KX G (Sl.tabk ?q250 ?q251)) (⟨?q252, ?q253, ?q254, ?q255, ?q256, ?q257⟩) (Sl.gmk KX G ?q258) (Sl.gmk KX G ?q259) (Sl.gmk KX G ?q260) (PySem.W.mg_none_of KX G ?q261) (PySem.W.mg_none_of KX G ?q262) (PySem.W.mg_none_of KX G ?q263) (PySem.W.mg_none_of KX G ?q264) (PySem.W.mg_none_of KX G ?q265) (PySem.W.mg_none_of KX G ?q266) (PySem.W.mg_none_of KX G ?q267) (PySem.W.mg_none_of KX G ?q268) (PySem.W.mg_none_of KX G ?q269) (PySem.W.mg_none_of KX G ?q270) (PySem.W.mg_none_of KX G ?q271) (PySem.W.mg_none_of KX G ?q272) (PySem.W.mg_none_of KX G ?q273) (PySem.W.mg_none_of KX G ?q274) (PySem.W.mg_none_of KX G ?q275) (PySem.W.mg_none_of KX G ?q276) (PySem.W.mg_none_of KX G ?q277) (PySem.W.mg_none_of KX G ?q278) (PySem.W.mg_none_of KX G ?q279) (PySem.W.mg_none_of KX G ?q280)
      (case q1 => k_is)
      (case q2 => k_is)
      (case q3 => k_is)
      (case q4 => k_is)
      (case q5 => k_is)
      (case q6 => k_is)
      (case q7 => k_is)
      (case q8 => k_is)
      (case q9 => k_is)
      (case q10 => k_is)
      (case q11 => k_is)
      (case q12 => k_is)
      (case q13 => k_is)
      (case q14 => k_is)
      (case q15 => k_is)
      (case q16 => k_is)
      (case q17 => k_is)
      (case q18 => k_is)
      (case q19 => k_is)
      (case q20 => k_is)
      (case q21 => k_is)
      (case q22 => k_is)
      (case q23 => k_is)
      (case q24 => k_is)
      (case q25 => k_is)
      (case q26 => k_is)
      (case q27 => k_is)
      (case q28 => k_is)
      (case q29 => k_is)
      (case q30 => k_is)
      (case q31 => k_is)
      (case q32 => k_is)
      (case q33 => k_is)
      (case q34 => k_is)
      (case q35 => k_is)
      (case q36 => k_is)
      (case q37 => k_is)
      (case q38 => k_is)
      (case q39 => k_is)
      (case q40 => k_is)
      (case q41 => k_is)
      (case q42 => k_is)
      (case q43 => k_is)
      (case q44 => k_is)
      (case q45 => k_is)
      (case q46 => k_is)
      (case q47 => k_is)
      (case q48 => k_is)
      (case q49 => k_is)
      (case q50 => k_is)
      (case q51 => k_is)
      (case q52 => k_is)
      (case q53 => k_is)
      (case q54 => k_is)
      (case q55 => k_is)
      (case q56 => k_is)
      (case q57 => k_is)
      (case q58 => k_is)
      (case q59 => k_is)
      (case q60 => k_is)
      (case q61 => k_is)
      (case q62 => k_is)
      (case q63 => k_is)
      (case q64 => k_is)
      (case q65 => k_is)
      (case q66 => k_is)
      (case q67 => k_is)
      (case q68 => k_is)
      (case q69 => k_is)
      (case q70 => k_is)
      (case q71 => k_is)
      (case q72 => k_is)
      (case q73 => k_is)
      (case q74 => k_is)
      (case q75 => k_is)
      (case q76 => k_is)
      (case q77 => k_is)
      (case q78 => k_is)
      (case q79 => k_is)
      (case q80 => k_is)
      (case q81 => k_is)
      (case q82 => k_is)
      (case q83 => k_is)
      (case q84 => k_is)
      (case q85 => k_is)
      (case q86 => k_is)
      (case q87 => k_is)
      (case q88 => k_is)
      (case q89 => k_is)
      (case q90 => k_is)
      (case q91 => k_is)
      (case q92 => k_is)
      (case q93 => k_is)
      (case q94 => k_is)
      (case q95 => k_is)
      (case q96 => k_is)
      (case q97 => k_is)
      (case q98 => k_is)
      (case q99 => k_is)
      (case q100 => k_is)
      (case q101 => k_is)
      (case q102 => k_is)
      (case q103 => k_is)
      (case q104 => k_is)
      (case q105 => k_is)
      (case q106 => k_is)
      (case q107 => k_is)
      (case q108 => k_is)
      (case q109 => k_is)
      (case q110 => k_is)
      (case q111 => k_is)
      (case q112 => k_is)
      (case q113 => k_is)
      (case q114 => k_is)
      (case q115 => k_is)
      (case q116 => k_is)
      (case q117 => k_is)
      (case q118 => k_is)
      (case q119 => k_is)
      (case q120 => k_is)
      (case q121 => k_is)
      (case q122 => k_is)
      (case q123 => k_is)
      (case q124 => k_is)
      (case q125 => k_is)
      (case q126 => k_is)
      (case q127 => k_is)
      (case q128 => k_is)
      (case q129 => k_is)
      (case q130 => k_is)
      (case q131 => k_is)
      (case q132 => k_is)
      (case q133 => k_is)
      (case q134 => k_is)
      (case q135 => k_is)
      (case q136 => k_is)
      (case q137 => k_is)
      (case q138 => k_is)
      (case q139 => k_is)
      (case q140 => k_is)
      (case q141 => k_is)
      (case q142 => k_is)
      (case q143 => k_is)
      (case q144 => k_is)
      (case q145 => k_is)
      (case q146 => k_is)
      (case q147 => k_is)
      (case q148 => k_is)
      (case q149 => k_is)
      (case q150 => k_is)
      (case q151 => k_is)
      (case q152 => k_is)
      (case q153 => k_is)
      (case q154 => k_is)
      (case q155 => k_is)
      (case q156 => k_is)
      (case q157 => k_is)
      (case q158 => k_is)
      (case q159 => k_is)
      (case q160 => k_is)
      (case q161 => k_is)
      (case q162 => k_is)
      (case q163 => k_is)
      (case q164 => k_is)
      (case q165 => k_is)
      (case q166 => k_is)
      (case q167 => k_is)
      (case q168 => k_is)
      (case q169 => k_is)
      (case q170 => k_is)
      (case q171 => k_is)
      (case q172 => k_is)
      (case q173 => k_is)
      (case q174 => k_is)
      (case q175 => k_is)
      (case q176 => k_is)
      (case q177 => k_is)
      (case q178 => k_is)
      (case q179 => k_is)
      (case q180 => k_is)
      (case q181 => k_is)
      (case q182 => k_is)
      (case q183 => k_is)
      (case q184 => k_is)
      (case q185 => k_is)
      (case q186 => k_is)
      (case q187 => k_is)
      (case q188 => k_is)
      (case q189 => k_is)
      (case q190 => k_is)
      (case q191 => k_is)
      (case q192 => k_is)
      (case q193 => k_is)
      (case q194 => k_is)
      (case q195 => k_is)
      (case q196 => k_is)
      (case q197 => k_is)
      (case q198 => k_is)
      (case q199 => k_is)
      (case q200 => k_is)
      (case q201 => k_is)
      (case q202 => k_is)
      (case q203 => k_is)
      (case q204 => k_is)
      (case q205 => k_is)
      (case q206 => k_is)
      (case q207 => k_is)
      (case q208 => k_is)
      (case q209 => k_is)
      (case q210 => k_is)
      (case q211 => k_is)
      (case q212 => k_is)
      (case q213 => k_is)
      (case q214 => k_is)
      (case q215 => k_is)
      (case q216 => k_is)
      (case q217 => k_is)
      (case q218 => k_is)
      (case q219 => k_is)
      (case q220 => k_is)
      (case q221 => k_is)
      (case q222 => k_is)
      (case q223 => k_is)
      (case q224 => k_is)
      (case q225 => k_is)
      (case q226 => k_is)
      (case q227 => k_is)
      (case q228 => k_is)
      (case q229 => k_is)
      (case q230 => k_is)
      (case q231 => k_is)
      (case q232 => k_is)
      (case q233 => k_is)
      (case q234 => k_is)
      (case q235 => k_is)
      (case q236 => k_is)
      (case q237 => k_is)
      (case q238 => k_is)
      (case q239 => k_is)
      (case q240 => k_is)
      (case q241 => k_is)
      (case q242 => k_is)
      (case q243 => k_is)
      (case q244 => k_is)
      (case q245 => k_is)
      (case q246 => k_is)
      (case q247 => k_is)
      (case q248 => exact Sl.tab_get (by kernel_rfl))
      (case q249 => kernel_rfl)
      (case q250 => exact Sl.tab_get (by kernel_rfl))
      (case q251 => kernel_rfl)
      (case q252 => k_exc)
      (case q253 => k_is)
      (case q254 => k_is)
      (case q255 => k_is)
      (case q256 => k_is)
      (case q257 => first | rfl | k_is)
      (case q258 => k_is)
      (case q259 => k_is)
      (case q260 => k_is)
      (case q261 => k_is)
      (case q262 => k_is)
      (case q263 => k_is)
      (case q264 => k_is)
      (case q265 => k_is)
      (case q266 => k_is)
      (case q267 => k_is)
      (case q268 => k_is)
      (case q269 => k_is)
      (case q270 => k_is)
      (case q271 => k_is)
      (case q272 => k_is)
      (case q273 => k_is)
      (case q274 => k_is)
      (case q275 => k_is)
      (case q276 => k_is)
      (case q277 => k_is)
      (case q278 => k_is)
      (case q279 => k_is)
      (case q280 => k_is)
#print axioms PySem.Challenge.cw_siltstore_k47_whole_spreading_holds
