import PyProof.Rows.All
import Wide.All
import OpenK.AllK
import Wide.FinOn
import PyProof.Rows.BitMore
import KE.BitLaws
import KE.KFmtOwn
import KE.KOpsOwn
import PyProof.InstNe
import HandS.ForMost
import HandS.Property
import HandS.ClsMeth
import HandS.CallLocal
import HandS.Star
import HandS.Wide
import HandS.NoneIn
import HandS.Style
import HandS.IsInst
import HandS.SortInts
import HandS.Zip
import HandS.Conv
import HandS.Walk
import HandS.Flow
import KE.KStateDown
import HandS.Head0
import HandS.Head1
import HandS.Head2
import HandS.HeadEnd
import HandS.HeadNt
import PySem.Challenge.RW_wordsalike_k74_whole_masks_go_together
set_option Elab.async false
set_option maxRecDepth 100000
/-! K1Bits: bits of ints of either sign, words of a width by their bits. Plain Lean. -/
namespace WA
open PySem PyProof.Rows

/-- the i-th bit of an int (two's complement without end) -/
def ib (x : Int) (i : Nat) : Bool := decide (x / 2 ^ i % 2 = 1)

theorem pow_pos' (i : Nat) : (0 : Int) < 2 ^ i := Int.pow_pos (by decide)
theorem ib_nat (n i : Nat) : ib (n : Int) i = n.testBit i := by
  unfold ib
  rw [Nat.testBit_eq_decide_div_mod_eq]
  have e : ((n : Int) / 2 ^ i % 2) = ((n / 2 ^ i % 2 : Nat) : Int) := by
    rw [Int.natCast_emod, Int.natCast_ediv, Int.natCast_pow]; rfl
  rw [e]
  by_cases h : n / 2 ^ i % 2 = 1
  · rw [decide_eq_true h, decide_eq_true (by omega)]
  · rw [decide_eq_false h, decide_eq_false (by omega)]
theorem div_not (x : Int) (i : Nat) : (-x - 1) / 2 ^ i = -(x / 2 ^ i) - 1 := by
  have hp := pow_pos' i
  have h1 := Int.mul_ediv_add_emod x (2 ^ i)
  have h2 := Int.emod_nonneg x (Int.ne_of_gt hp)
  have h3 := Int.emod_lt_of_pos x hp
  have e : -x - 1 = (2 ^ i - 1 - x % 2 ^ i) + 2 ^ i * (-(x / 2 ^ i) - 1) := by
    rw [Int.mul_sub, Int.mul_neg, Int.mul_one]
    omega
  rw [e, Int.add_mul_ediv_left _ _ (Int.ne_of_gt hp), Int.ediv_eq_zero_of_lt (by omega) (by omega)]
  omega
theorem ib_not (x : Int) (i : Nat) : ib (Builtin.bitNot x) i = !ib x i := by
  unfold ib Builtin.bitNot
  rw [div_not]
  by_cases h : x / 2 ^ i % 2 = 1
  · rw [decide_eq_true h, decide_eq_false (by omega)]; rfl
  · rw [decide_eq_false h, decide_eq_true (by omega)]; rfl
theorem not_not (x : Int) : Builtin.bitNot (Builtin.bitNot x) = x := by
  unfold Builtin.bitNot; omega
theorem nat_diff (n m : Nat) : (((n - (n &&& m) : Nat)) : Int) = (n : Int) - ((n &&& m : Nat) : Int) := by
  have : n &&& m ≤ n := Nat.and_le_left
  omega
theorem nat_diff_eq (n m : Nat) : n - (n &&& m) = n ^^^ (n &&& m) := by
  have h0 : (n ^^^ (n &&& m)) &&& (n &&& m) = 0 := by
    apply Nat.eq_of_testBit_eq; intro i
    simp only [Nat.testBit_and, Nat.testBit_xor, Nat.zero_testBit]
    cases n.testBit i <;> cases m.testBit i <;> rfl
  have h1 : (n ^^^ (n &&& m)) ||| (n &&& m) = n := by
    apply Nat.eq_of_testBit_eq; intro i
    simp only [Nat.testBit_or, Nat.testBit_and, Nat.testBit_xor]
    cases n.testBit i <;> cases m.testBit i <;> rfl
  have h2 := bitOr_and ((n ^^^ (n &&& m) : Nat) : Int) ((n &&& m : Nat) : Int)
  have hor : Builtin.bitOr ((n ^^^ (n &&& m) : Nat) : Int) ((n &&& m : Nat) : Int) = ((n ^^^ (n &&& m)) ||| (n &&& m) : Nat) := by
    unfold Builtin.bitOr
    rw [bitAnd_nn (by unfold Builtin.bitNot; omega) (by unfold Builtin.bitNot; omega), not_not, not_not, not_not, Int.toNat_natCast, Int.toNat_natCast]
  rw [bitAnd_pp (by omega) (by omega), Int.toNat_natCast, Int.toNat_natCast, h0, hor, h1] at h2
  omega
theorem ib_and (x y : Int) (i : Nat) : ib (Builtin.bitAnd x y) i = (ib x i && ib y i) := by
  have cast : ∀ z : Int, 0 ≤ z → z = (z.toNat : Int) := fun z h => by omega
  have nn : ∀ z : Int, ¬ 0 ≤ z → ib z i = !(Builtin.bitNot z).toNat.testBit i := fun z h => by
    have e : ib (Builtin.bitNot z) i = (Builtin.bitNot z).toNat.testBit i := by
      conv => lhs; rw [cast (Builtin.bitNot z) (by unfold Builtin.bitNot; omega)]
      exact ib_nat _ _
    rw [← e, ib_not, Bool.not_not]
  have pp : ∀ z : Int, 0 ≤ z → ib z i = z.toNat.testBit i := fun z h => by
    conv => lhs; rw [cast z h]
    exact ib_nat _ _
  by_cases hx : 0 ≤ x <;> by_cases hy : 0 ≤ y
  · rw [bitAnd_pp hx hy, ib_nat, pp x hx, pp y hy, Nat.testBit_and]
  · rw [bitAnd_pn hx hy, pp x hx, nn y hy]
    conv => lhs; rw [cast x hx, Int.toNat_natCast, ← nat_diff]
    rw [ib_nat, nat_diff_eq, Nat.testBit_xor, Nat.testBit_and]
    cases x.toNat.testBit i <;> cases (Builtin.bitNot y).toNat.testBit i <;> rfl
  · rw [bitAnd_np hx hy, pp y hy, nn x hx]
    conv => lhs; rw [cast y hy, Int.toNat_natCast, ← nat_diff]
    rw [ib_nat, nat_diff_eq, Nat.testBit_xor, Nat.testBit_and]
    cases y.toNat.testBit i <;> cases (Builtin.bitNot x).toNat.testBit i <;> rfl
  · rw [bitAnd_nn hx hy, ib_not, ib_nat, nn x hx, nn y hy, Nat.testBit_or, Bool.not_or]
theorem ib_or (x y : Int) (i : Nat) : ib (Builtin.bitOr x y) i = (ib x i || ib y i) := by
  unfold Builtin.bitOr
  rw [ib_not, ib_and, ib_not, ib_not]
  cases ib x i <;> cases ib y i <;> rfl

/-! ### the bits tell the int -/
theorem ib_big {x : Int} {i : Nat} (h0 : 0 ≤ x) (h : x < 2 ^ i) : ib x i = false := by
  unfold ib
  rw [Int.ediv_eq_zero_of_lt h0 h]; rfl
theorem lt_pow (n : Nat) : (n : Int) < 2 ^ n := by
  have : n < 2 ^ n := Nat.lt_two_pow_self
  have e : ((2 ^ n : Nat) : Int) = 2 ^ n := by rw [Int.natCast_pow]; rfl
  omega
theorem ib_neg {x : Int} {i : Nat} (h : x < 0) (hi : x.natAbs ≤ i) : ib x i = true := by
  have q : ib (Builtin.bitNot x) i = false := by
    apply ib_big
    · unfold Builtin.bitNot; omega
    · have a := lt_pow i
      unfold Builtin.bitNot; omega
  rw [ib_not] at q
  cases e : ib x i with
  | true => rfl
  | false => rw [e] at q; cases q
theorem ib_ext_nn {x y : Int} (hx : 0 ≤ x) (hy : 0 ≤ y) (h : ∀ i, ib x i = ib y i) : x = y := by
  have e1 : x = (x.toNat : Int) := by omega
  have e2 : y = (y.toNat : Int) := by omega
  rw [e1, e2]
  congr 1
  apply Nat.eq_of_testBit_eq
  intro i
  rw [← ib_nat, ← ib_nat, ← e1, ← e2]
  exact h i
theorem ib_nonneg {x : Int} {w : Nat} (h : ∀ i, w ≤ i → ib x i = false) : 0 ≤ x := by
  by_cases hx : 0 ≤ x
  · exact hx
  · have a := ib_neg (x := x) (i := w + x.natAbs) (by omega) (by omega)
    rw [h _ (by omega)] at a
    cases a
theorem ib_ext {x y : Int} (h : ∀ i, ib x i = ib y i) : x = y := by
  by_cases hx : 0 ≤ x
  · have hy : 0 ≤ y := ib_nonneg (w := x.natAbs) fun i hi => by
      rw [← h i]
      have a := lt_pow i
      exact ib_big hx (by omega)
    exact ib_ext_nn hx hy h
  · have hnx : 0 ≤ Builtin.bitNot x := by unfold Builtin.bitNot; omega
    have hny : 0 ≤ Builtin.bitNot y := ib_nonneg (w := (Builtin.bitNot x).natAbs) fun i hi => by
      rw [ib_not, ← h i, ← ib_not]
      have a := lt_pow i
      exact ib_big hnx (by omega)
    have e := ib_ext_nn hnx hny fun i => by rw [ib_not, ib_not, h i]
    rw [← not_not x, e, not_not]

/-- a word of w bits -/
def InW (w : Nat) (x : Int) : Prop := 0 ≤ x ∧ x < 2 ^ w
theorem inW_bits {w : Nat} {x : Int} (h : InW w x) {i : Nat} (hi : w ≤ i) : ib x i = false := by
  refine ib_big h.1 (Int.lt_of_lt_of_le h.2 ?_)
  have : (2 ^ w : Nat) ≤ 2 ^ i := Nat.pow_le_pow_right (by decide) hi
  have e1 : ((2 ^ w : Nat) : Int) = 2 ^ w := by rw [Int.natCast_pow]; rfl
  have e2 : ((2 ^ i : Nat) : Int) = 2 ^ i := by rw [Int.natCast_pow]; rfl
  omega
theorem inW_of {w : Nat} {x : Int} (h : ∀ i, w ≤ i → ib x i = false) : InW w x := by
  have h0 := ib_nonneg h
  refine ⟨h0, ?_⟩
  have e : x = (x.toNat : Int) := by omega
  have hl : x.toNat < 2 ^ w := by
    apply Nat.lt_pow_two_of_testBit
    intro i hi
    rw [← ib_nat, ← e]
    exact h i hi
  have e1 : ((2 ^ w : Nat) : Int) = 2 ^ w := by rw [Int.natCast_pow]; rfl
  omega
theorem inW_ext {w : Nat} {x y : Int} (hx : InW w x) (hy : InW w y) (h : ∀ i, i < w → ib x i = ib y i) : x = y := by
  apply ib_ext
  intro i
  by_cases hi : i < w
  · exact h i hi
  · rw [inW_bits hx (by omega), inW_bits hy (by omega)]

theorem ib_pow (k i : Nat) : ib (2 ^ k) i = decide (k = i) := by
  have e : ((2 : Int) ^ k) = ((2 ^ k : Nat) : Int) := by rw [Int.natCast_pow]; rfl
  rw [e, ib_nat, Nat.testBit_two_pow]
theorem ib_zero (i : Nat) : ib 0 i = false := ib_big (Int.le_refl _) (pow_pos' i)
theorem ib_last (w i : Nat) : ib (2 ^ w - 1) i = decide (i < w) := by
  have hp : 0 < 2 ^ w := Nat.pow_pos (by decide)
  have e : ((2 : Int) ^ w - 1) = ((2 ^ w - 1 : Nat) : Int) := by
    rw [Int.natCast_sub hp, Int.natCast_pow]; rfl
  rw [e, ib_nat, Nat.testBit_two_pow_sub_one]
theorem ib_mod (x : Int) (w i : Nat) : ib (x % 2 ^ w) i = (decide (i < w) && ib x i) := by
  have h : Builtin.bitAnd x (2 ^ w - 1) = x % 2 ^ w := by
    have hp := pow_pos' w
    by_cases hx : 0 ≤ x
    · rw [bitAnd_pp hx (by omega)]
      have e : (2 ^ w - 1 : Int).toNat = 2 ^ w - 1 := by
        have e1 : ((2 ^ w : Nat) : Int) = 2 ^ w := by rw [Int.natCast_pow]; rfl
        omega
      rw [e, Nat.and_two_pow_sub_one_eq_mod, Int.natCast_emod, Int.natCast_pow, Int.toNat_of_nonneg hx]; rfl
    · rw [bitAnd_np hx (by omega)]
      have e1 : ((2 ^ w : Nat) : Int) = 2 ^ w := by rw [Int.natCast_pow]; rfl
      have e : (2 ^ w - 1 : Int).toNat = 2 ^ w - 1 := by omega
      rw [e, Nat.and_comm, Nat.and_two_pow_sub_one_eq_mod, Int.natCast_emod, Int.natCast_pow, Int.toNat_of_nonneg (by unfold Builtin.bitNot; omega)]
      unfold Builtin.bitNot
      show (2 : Int) ^ w - 1 - (-x - 1) % 2 ^ w = x % 2 ^ w
      have d := div_not x w
      have m1 := Int.mul_ediv_add_emod x (2 ^ w)
      have m2 := Int.mul_ediv_add_emod (-x - 1) (2 ^ w)
      rw [d, Int.mul_sub, Int.mul_neg, Int.mul_one] at m2
      omega
  rw [← h, ib_and, ib_last, Bool.and_comm]
theorem mod_inW (x : Int) (w : Nat) : InW w (x % 2 ^ w) := ⟨Int.emod_nonneg _ (Int.ne_of_gt (pow_pos' w)), Int.emod_lt_of_pos _ (pow_pos' w)⟩

theorem ib_xor (x y : Int) (i : Nat) : ib (Builtin.bitXor x y) i = (ib x i ^^ ib y i) := by
  -- x ^ y = (x | y) - (x & y) = (x | y) & ~(x & y), as x & y is within x | y
  have e : Builtin.bitXor x y = Builtin.bitAnd (Builtin.bitOr x y) (Builtin.bitNot (Builtin.bitAnd x y)) := by
    have h := bitOr_and (Builtin.bitAnd (Builtin.bitOr x y) (Builtin.bitNot (Builtin.bitAnd x y))) (Builtin.bitAnd x y)
    have h0 : Builtin.bitAnd (Builtin.bitAnd (Builtin.bitOr x y) (Builtin.bitNot (Builtin.bitAnd x y))) (Builtin.bitAnd x y) = 0 := by
      apply ib_ext; intro i
      simp only [ib_and, ib_or, ib_not, ib_zero]
      cases ib x i <;> cases ib y i <;> rfl
    have h1 : Builtin.bitOr (Builtin.bitAnd (Builtin.bitOr x y) (Builtin.bitNot (Builtin.bitAnd x y))) (Builtin.bitAnd x y) = Builtin.bitOr x y := by
      apply ib_ext; intro i
      simp only [ib_and, ib_or, ib_not]
      cases ib x i <;> cases ib y i <;> rfl
    rw [h0, h1] at h
    unfold Builtin.bitXor
    omega
  rw [e]
  simp only [ib_and, ib_or, ib_not]
  cases ib x i <;> cases ib y i <;> rfl
theorem or_eq_add {x y : Int} (h : ∀ i, (ib x i && ib y i) = false) : Builtin.bitOr x y = x + y := by
  have e := bitOr_and x y
  have h0 : Builtin.bitAnd x y = 0 := by
    apply ib_ext; intro i
    rw [ib_and, h i, ib_zero]
  omega
/-- a shift to the left -/
theorem ib_shl (x : Int) (k i : Nat) : ib (x * 2 ^ k) i = (decide (k ≤ i) && ib x (i - k)) := by
  unfold ib
  by_cases h : k ≤ i
  · have e : (2 : Int) ^ i = 2 ^ k * 2 ^ (i - k) := by rw [← Int.pow_add]; congr 1; omega
    rw [e, ← Int.ediv_ediv_of_nonneg (Int.le_of_lt (pow_pos' k)), Int.mul_ediv_cancel _ (Int.ne_of_gt (pow_pos' k)), decide_eq_true h, Bool.true_and]
  · have e : (2 : Int) ^ k = 2 ^ i * (2 * 2 ^ (k - i - 1)) := by
      have : k = i + (1 + (k - i - 1)) := by omega
      conv => lhs; rw [this, Int.pow_add, Int.pow_add]
      simp
    rw [decide_eq_false h, Bool.false_and]
    apply decide_eq_false
    have e2 : x * 2 ^ k = 2 ^ i * (2 * (x * 2 ^ (k - i - 1))) := by
      rw [e]
      simp only [Int.mul_comm, Int.mul_left_comm]
    rw [e2, Int.mul_ediv_cancel_left _ (Int.ne_of_gt (pow_pos' i))]
    omega
/-- x by its bits below i, the bit at i, those above -/
theorem mod_succ (x : Int) (i : Nat) : x % 2 ^ (i + 1) = x % 2 ^ i + 2 ^ i * (x / 2 ^ i % 2) := by
  rw [Int.pow_succ]
  have h := Int.emod_emod_of_dvd x (⟨2, rfl⟩ : (2 ^ i : Int) ∣ 2 ^ i * 2)
  have hp := pow_pos' i
  have a := Int.mul_ediv_add_emod x (2 ^ i)
  have b := Int.mul_ediv_add_emod (x / 2 ^ i) 2
  have c : x = (x % 2 ^ i + 2 ^ i * (x / 2 ^ i % 2)) + (2 ^ i * 2) * (x / 2 ^ i / 2) := by
    have : 2 ^ i * (x / 2 ^ i) = 2 ^ i * (x / 2 ^ i % 2) + (2 ^ i * 2) * (x / 2 ^ i / 2) := by
      rw [Int.mul_assoc, ← Int.mul_add]
      congr 1
      omega
    omega
  conv => lhs; rw [c]
  rw [Int.add_mul_emod_self_left]
  apply Int.emod_eq_of_lt
  · have := Int.emod_nonneg x (Int.ne_of_gt hp)
    have h2 : 0 ≤ x / 2 ^ i % 2 := by omega
    have := Int.mul_nonneg (Int.le_of_lt hp) h2
    omega
  · have l1 := Int.emod_lt_of_pos x hp
    have h2 : x / 2 ^ i % 2 ≤ 1 := by omega
    have := Int.mul_le_mul_of_nonneg_left h2 (Int.le_of_lt hp)
    omega
theorem ib_eq (x : Int) (i : Nat) : x / 2 ^ i % 2 = if ib x i then 1 else 0 := by
  unfold ib
  by_cases h : x / 2 ^ i % 2 = 1
  · rw [decide_eq_true h, h]; rfl
  · rw [decide_eq_false h]
    have : x / 2 ^ i % 2 = 0 := by omega
    rw [this]; rfl
theorem ib_shr (x : Int) (k i : Nat) : ib (x / 2 ^ k) i = ib x (k + i) := by
  unfold ib
  rw [Int.ediv_ediv_of_nonneg (Int.le_of_lt (pow_pos' k)), ← Int.pow_add]
end WA


set_option Elab.async false
set_option maxRecDepth 100000
/-! K2Mask: masks by their least and greatest members, the narrowest mask of a set of ints (mod 2^w). Plain Lean. -/
namespace WA
open PySem PyProof.Rows

/-- lo, hi are the ends of a mask of w bits -/
structure Msk (w : Nat) (lo hi : Int) : Prop where
  ilo : InW w lo
  ihi : InW w hi
  le : ∀ i, ib lo i = true → ib hi i = true
/-- x is one of its members -/
structure Mem (w : Nat) (lo hi x : Int) : Prop where
  w : InW w x
  lo : ∀ i, ib lo i = true → ib x i = true
  hi : ∀ i, ib x i = true → ib hi i = true
/-- x and y have the same lowest w bits -/
def Agr (w : Nat) (x y : Int) : Prop := ∀ i, i < w → ib x i = ib y i
/-- lo, hi are the ends of the narrowest mask of the lowest w bits of S -/
structure Nar (w : Nat) (S : Int → Prop) (lo hi : Int) : Prop where
  ne : ∃ z, S z
  ilo : InW w lo
  ihi : InW w hi
  lo : ∀ i, i < w → (ib lo i = true ↔ ∀ z, S z → ib z i = true)
  hi : ∀ i, i < w → (ib hi i = true ↔ ∃ z, S z ∧ ib z i = true)
/-- whether the mask lo, hi is within the mask lo', hi' -/
def Wtn (lo hi lo' hi' : Int) : Prop := Builtin.bitAnd lo lo' = lo' ∧ Builtin.bitAnd hi (Builtin.bitNot hi') = 0

theorem Msk.mlo {w : Nat} {lo hi : Int} (m : Msk w lo hi) : Mem w lo hi lo := ⟨m.ilo, fun _ h => h, m.le⟩
theorem Msk.mhi {w : Nat} {lo hi : Int} (m : Msk w lo hi) : Mem w lo hi hi := ⟨m.ihi, m.le, fun _ h => h⟩
theorem Nar.msk {w : Nat} {S : Int → Prop} {lo hi : Int} (n : Nar w S lo hi) : Msk w lo hi := by
  refine ⟨n.ilo, n.ihi, fun i h => ?_⟩
  by_cases hi' : i < w
  · obtain ⟨z, hz⟩ := n.ne
    exact (n.hi i hi').mpr ⟨z, hz, (n.lo i hi').mp h z hz⟩
  · rw [inW_bits n.ilo (by omega)] at h
    cases h
theorem Msk.nar {w : Nat} {lo hi : Int} (m : Msk w lo hi) : Nar w (Mem w lo hi) lo hi :=
  ⟨⟨lo, m.mlo⟩, m.ilo, m.ihi, fun i _ => ⟨fun h z hz => hz.lo i h, fun h => h lo m.mlo⟩, fun i _ => ⟨fun h => ⟨hi, m.mhi, h⟩, fun ⟨_, hz, h⟩ => hz.hi i h⟩⟩
theorem Agr.mod (w : Nat) (x : Int) : Agr w x (x % 2 ^ w) := fun i h => by rw [ib_mod, decide_eq_true h, Bool.true_and]
theorem Agr.symm {w : Nat} {x y : Int} (h : Agr w x y) : Agr w y x := fun i hi => (h i hi).symm
theorem Agr.of_mod {w : Nat} {x y : Int} (h : x % 2 ^ w = y % 2 ^ w) : Agr w x y := fun i hi => by
  rw [Agr.mod w x i hi, h, ← Agr.mod w y i hi]
/-- S within S', by the lowest w bits -/
def Sub (w : Nat) (S S' : Int → Prop) : Prop := ∀ z, S z → ∃ z', S' z' ∧ Agr w z z'
theorem Nar.le {w : Nat} {S S' : Int → Prop} {lo hi lo' hi' : Int} (n : Nar w S lo hi) (n' : Nar w S' lo' hi') (h : Sub w S S') :
    (∀ i, ib lo' i = true → ib lo i = true) ∧ ∀ i, ib hi i = true → ib hi' i = true := by
  refine ⟨fun i e => ?_, fun i e => ?_⟩
  · by_cases hi : i < w
    · refine (n.lo i hi).mpr fun z hz => ?_
      obtain ⟨z', hz', a⟩ := h z hz
      rw [a i hi]
      exact (n'.lo i hi).mp e z' hz'
    · rw [inW_bits n'.ilo (by omega)] at e
      cases e
  · by_cases hi : i < w
    · obtain ⟨z, hz, b⟩ := (n.hi i hi).mp e
      obtain ⟨z', hz', a⟩ := h z hz
      exact (n'.hi i hi).mpr ⟨z', hz', by rw [← a i hi]; exact b⟩
    · rw [inW_bits n.ihi (by omega)] at e
      cases e
theorem Nar.uniq {w : Nat} {S S' : Int → Prop} {lo hi lo' hi' : Int} (n : Nar w S lo hi) (n' : Nar w S' lo' hi') (h : Sub w S S') (h' : Sub w S' S) : lo = lo' ∧ hi = hi' := by
  obtain ⟨a, b⟩ := n.le n' h
  obtain ⟨c, d⟩ := n'.le n h'
  refine ⟨ib_ext fun i => ?_, ib_ext fun i => ?_⟩
  · have e1 := a i; have e2 := c i
    cases q : ib lo i <;> cases q' : ib lo' i <;> simp_all
  · have e1 := b i; have e2 := d i
    cases q : ib hi i <;> cases q' : ib hi' i <;> simp_all
theorem wtn_of {lo hi lo' hi' : Int} (a : ∀ i, ib lo' i = true → ib lo i = true) (b : ∀ i, ib hi i = true → ib hi' i = true) : Wtn lo hi lo' hi' := by
  refine ⟨ib_ext fun i => ?_, ib_ext fun i => ?_⟩
  · rw [ib_and]
    have := a i
    cases q : ib lo i <;> cases q' : ib lo' i <;> simp_all
  · rw [ib_and, ib_not, ib_zero]
    have := b i
    cases q : ib hi i <;> cases q' : ib hi' i <;> simp_all
theorem Nar.wtn {w : Nat} {S S' : Int → Prop} {lo hi lo' hi' : Int} (n : Nar w S lo hi) (n' : Nar w S' lo' hi') (h : Sub w S S') : Wtn lo hi lo' hi' :=
  wtn_of (n.le n' h).1 (n.le n' h).2
theorem wtn_iff {lo hi lo' hi' : Int} : Wtn lo hi lo' hi' ↔ (∀ i, ib lo' i = true → ib lo i = true) ∧ ∀ i, ib hi i = true → ib hi' i = true := by
  refine ⟨fun ⟨a, b⟩ => ⟨fun i h => ?_, fun i h => ?_⟩, fun ⟨a, b⟩ => wtn_of a b⟩
  · rw [← a, ib_and] at h
    exact (Bool.and_eq_true_iff.mp h).1
  · have e : ib (Builtin.bitAnd hi (Builtin.bitNot hi')) i = false := by rw [b, ib_zero]
    rw [ib_and, ib_not, h] at e
    cases q : ib hi' i with
    | true => rfl
    | false => rw [q] at e; cases e
/-- a result of a narrowest mask's set is a member, by the lowest bits -/
theorem Nar.mem {w : Nat} {S : Int → Prop} {lo hi : Int} (n : Nar w S lo hi) {z : Int} (hz : S z) : Mem w lo hi (z % 2 ^ w) := by
  refine ⟨mod_inW z w, fun i h => ?_, fun i h => ?_⟩
  · by_cases hi' : i < w
    · rw [ib_mod, decide_eq_true hi', Bool.true_and]
      exact (n.lo i hi').mp h z hz
    · rw [inW_bits n.ilo (by omega)] at h
      cases h
  · rw [ib_mod] at h
    obtain ⟨a, b⟩ := Bool.and_eq_true_iff.mp h
    exact (n.hi i (of_decide_eq_true a)).mpr ⟨z, hz, b⟩
theorem sub_mem {w : Nat} {S S' : Int → Prop} {lo' hi' : Int} (n' : Nar w S' lo' hi') (h : ∀ z, S z → S' z) : Sub w S (Mem w lo' hi') := fun z hz => ⟨z % 2 ^ w, n'.mem (h z hz), Agr.mod w z⟩

/-! ### parts of members -/
theorem low_le {a b : Int} (i : Nat) (h : ∀ j, j < i → ib a j = true → ib b j = true) : a % 2 ^ i ≤ b % 2 ^ i := by
  have a1 := mod_inW a i
  have b1 := mod_inW b i
  have e : Builtin.bitAnd (a % 2 ^ i) (b % 2 ^ i) = a % 2 ^ i := by
    apply ib_ext; intro j
    rw [ib_and, ib_mod, ib_mod]
    by_cases hj : j < i
    · rw [decide_eq_true hj, Bool.true_and, Bool.true_and]
      have := h j hj
      cases q : ib a j <;> cases q' : ib b j <;> simp_all
    · rw [decide_eq_false hj]; rfl
  rw [bitAnd_pp a1.1 b1.1] at e
  have : (a % 2 ^ i).toNat &&& (b % 2 ^ i).toNat ≤ (b % 2 ^ i).toNat := Nat.and_le_right
  omega
theorem Mem.low {w : Nat} {lo hi x : Int} (m : Mem w lo hi x) (i : Nat) : lo % 2 ^ i ≤ x % 2 ^ i ∧ x % 2 ^ i ≤ hi % 2 ^ i :=
  ⟨low_le i fun j _ => m.lo j, low_le i fun j _ => m.hi j⟩
/-- a bit that is not open -/
theorem Mem.fixed {w : Nat} {lo hi x : Int} (m : Mem w lo hi x) {i : Nat} (h : ib lo i = ib hi i) : ib x i = ib lo i := by
  have a := m.lo i
  have b := m.hi i
  cases q : ib x i <;> cases q' : ib lo i <;> simp_all
/-- a bit set, a bit taken away -/
theorem ib_add_pow {x : Int} {i : Nat} (h : ib x i = false) (j : Nat) : ib (x + 2 ^ i) j = (ib x j || decide (i = j)) := by
  have e : Builtin.bitOr x (2 ^ i) = x + 2 ^ i := or_eq_add fun j => by
    rw [ib_pow]
    by_cases q : i = j
    · subst q; rw [h]; rfl
    · rw [decide_eq_false q, Bool.and_false]
  rw [← e, ib_or, ib_pow]
theorem ib_sub_pow {x : Int} {i : Nat} (h : ib x i = true) (j : Nat) : ib (x - 2 ^ i) j = (ib x j && !decide (i = j)) := by
  have h0 : ib (Builtin.bitAnd x (Builtin.bitNot (2 ^ i))) i = false := by
    rw [ib_and, ib_not, ib_pow]; simp
  have e : Builtin.bitAnd x (Builtin.bitNot (2 ^ i)) + 2 ^ i = x := by
    apply ib_ext; intro j
    rw [ib_add_pow h0, ib_and, ib_not, ib_pow]
    by_cases q : i = j
    · subst q; rw [h]; simp
    · rw [decide_eq_false q]; simp
  have e2 : x - 2 ^ i = Builtin.bitAnd x (Builtin.bitNot (2 ^ i)) := by omega
  rw [e2, ib_and, ib_not, ib_pow]
/-- an open bit of a member turned -/
theorem Mem.flip {w : Nat} {lo hi x : Int} (m : Mem w lo hi x) {i : Nat} (hi' : i < w) (h : ib lo i ≠ ib hi i) (ml : ib lo i = true → ib hi i = true) : ∃ y, Mem w lo hi y ∧ (y = x + 2 ^ i ∨ y = x - 2 ^ i) ∧ ib y i = !ib x i := by
  have hlo : ib lo i = false := by
    cases q : ib lo i with
    | false => rfl
    | true => exact absurd (q.trans (ml q).symm) h
  have hhi : ib hi i = true := by
    cases q : ib hi i with
    | true => rfl
    | false => exact absurd (hlo.trans q.symm) h
  cases q : ib x i with
  | false =>
    refine ⟨x + 2 ^ i, ⟨inW_of fun j hj => ?_, fun j a => ?_, fun j a => ?_⟩, .inl rfl, ?_⟩
    · rw [ib_add_pow q, inW_bits m.w hj, decide_eq_false (by omega)]; rfl
    · rw [ib_add_pow q, m.lo j a]; rfl
    · rw [ib_add_pow q] at a
      by_cases e : i = j
      · subst e; exact hhi
      · rw [decide_eq_false e, Bool.or_false] at a; exact m.hi j a
    · rw [ib_add_pow q, q]; simp
  | true =>
    refine ⟨x - 2 ^ i, ⟨inW_of fun j hj => ?_, fun j a => ?_, fun j a => ?_⟩, .inr rfl, ?_⟩
    · rw [ib_sub_pow q, inW_bits m.w hj]; rfl
    · rw [ib_sub_pow q, m.lo j a]
      by_cases e : i = j
      · subst e; rw [hlo] at a; cases a
      · rw [decide_eq_false e]; rfl
    · rw [ib_sub_pow q] at a
      exact m.hi j (Bool.and_eq_true_iff.mp a).1
    · rw [ib_sub_pow q, q]; simp
/-- adding 2^i turns the i-th bit -/
theorem ib_plus_pow (z : Int) (i : Nat) : ib (z + 2 ^ i) i = !ib z i := by
  have hp := pow_pos' i
  unfold ib
  have e : (z + 2 ^ i) / 2 ^ i = z / 2 ^ i + 1 := by
    rw [Int.add_ediv_of_dvd_right (Int.dvd_refl _), Int.ediv_self (Int.ne_of_gt hp)]
  rw [e]
  by_cases h : z / 2 ^ i % 2 = 1
  · rw [decide_eq_true h, decide_eq_false (by omega)]; rfl
  · rw [decide_eq_false h, decide_eq_true (by omega)]; rfl
theorem ib_minus_pow (z : Int) (i : Nat) : ib (z - 2 ^ i) i = !ib z i := by
  have h := ib_plus_pow (z - 2 ^ i) i
  have e : z - 2 ^ i + 2 ^ i = z := by omega
  rw [e] at h
  rw [h, Bool.not_not]

/-! ### with_open, sum_between -/
def woLo (least opn : Int) : Int := Builtin.bitAnd least (Builtin.bitNot opn)
def woHi (least opn : Int) : Int := Builtin.bitOr (woLo least opn) opn
def sbL (w : Nat) (lows : Int) : Int := Builtin.bitAnd lows (2 ^ w - 1)
def sbO (w : Nat) (lows highs opn : Int) : Int := Builtin.bitAnd (Builtin.bitOr opn (Builtin.bitXor lows highs)) (2 ^ w - 1)
def sbLo (w : Nat) (lows highs opn : Int) : Int := woLo (sbL w lows) (sbO w lows highs opn)
def sbHi (w : Nat) (lows highs opn : Int) : Int := woHi (sbL w lows) (sbO w lows highs opn)
theorem sbLo_bit (w : Nat) (lows highs opn : Int) (i : Nat) : ib (sbLo w lows highs opn) i = (decide (i < w) && ib lows i && !ib opn i && (ib lows i == ib highs i)) := by
  unfold sbLo sbL sbO woLo
  simp only [ib_and, ib_not, ib_or, ib_xor, ib_last]
  cases decide (i < w) <;> cases ib lows i <;> cases ib highs i <;> cases ib opn i <;> rfl
theorem sbHi_bit (w : Nat) (lows highs opn : Int) (i : Nat) : ib (sbHi w lows highs opn) i = (decide (i < w) && (ib lows i || ib highs i || ib opn i)) := by
  unfold sbHi woHi sbL sbO woLo
  simp only [ib_and, ib_not, ib_or, ib_xor, ib_last]
  cases decide (i < w) <;> cases ib lows i <;> cases ib highs i <;> cases ib opn i <;> rfl
theorem sb_nar {w : Nat} {lows highs opn : Int} {S : Int → Prop} (hl : S lows) (hh : S highs)
    (ho : ∀ i, i < w → ib opn i = true → ∀ z, S z → ∃ z', S z' ∧ ib z' i = !ib z i)
    (hf : ∀ i, i < w → ib opn i = false → ib lows i = ib highs i → ∀ z, S z → ib z i = ib lows i) : Nar w S (sbLo w lows highs opn) (sbHi w lows highs opn) := by
  refine ⟨⟨_, hl⟩, inW_of fun i hi => ?_, inW_of fun i hi => ?_, fun i hi => ?_, fun i hi => ?_⟩
  · rw [sbLo_bit, decide_eq_false (by omega)]; rfl
  · rw [sbHi_bit, decide_eq_false (by omega)]; rfl
  · rw [sbLo_bit, decide_eq_true hi]
    constructor
    · intro e z hz
      cases q1 : ib opn i with
      | true => rw [q1] at e; simp at e
      | false =>
        rw [q1] at e
        simp at e
        rw [hf i hi q1 e.2 z hz, e.1]
    · intro h
      have h1 := h _ hl
      have h2 := h _ hh
      cases q1 : ib opn i with
      | true =>
        obtain ⟨z', hz', e⟩ := ho i hi q1 _ hl
        rw [h _ hz', h1] at e
        cases e
      | false => rw [h1, h2]; rfl
  · rw [sbHi_bit, decide_eq_true hi]
    constructor
    · intro e
      cases q1 : ib opn i with
      | true =>
        cases q2 : ib lows i with
        | true => exact ⟨_, hl, q2⟩
        | false =>
          obtain ⟨z', hz', e'⟩ := ho i hi q1 _ hl
          exact ⟨z', hz', by rw [e', q2]; rfl⟩
      | false =>
        cases q2 : ib lows i with
        | true => exact ⟨_, hl, q2⟩
        | false =>
          rw [q1, q2] at e
          exact ⟨_, hh, by simpa using e⟩
    · intro ⟨z, hz, e⟩
      cases q1 : ib opn i with
      | true => simp
      | false =>
        by_cases q : ib lows i = ib highs i
        · rw [hf i hi q1 q z hz] at e
          rw [e]; rfl
        · cases q2 : ib lows i with
          | true => rfl
          | false =>
            cases q3 : ib highs i with
            | true => rfl
            | false => exact absurd (q2.trans q3.symm) q
/-- the bit of a sum of an outer part (of fixed parity) and an inner carry of one of two neighbouring values -/
theorem ib_div {z q r : Int} {i : Nat} (h : z = q * 2 ^ i + r) : z / 2 ^ i = q + r / 2 ^ i := by
  rw [h, Int.add_comm, Int.add_mul_ediv_right _ _ (Int.ne_of_gt (pow_pos' i)), Int.add_comm]
theorem ib_same {z z' c c' p p' : Int} {i : Nat} (h : z / 2 ^ i = p + c) (h' : z' / 2 ^ i = p' + c') (hp : p % 2 = p' % 2) : (ib z i = ib z' i) ↔ c % 2 = c' % 2 := by
  have a := ib_eq z i
  have b := ib_eq z' i
  rw [h] at a
  rw [h'] at b
  constructor
  · intro e
    rw [e, ← b] at a
    omega
  · intro e
    have : (p + c) % 2 = (p' + c') % 2 := by omega
    rw [a, b] at this
    cases q : ib z i <;> cases q' : ib z' i <;> simp_all
theorem between {cl ch c : Int} (h1 : cl ≤ c) (h2 : c ≤ ch) (h3 : ch ≤ cl + 1) (e : cl % 2 = ch % 2) : c % 2 = cl % 2 := by omega

theorem parts (x : Int) (i : Nat) : x = (x / 2 ^ i) * 2 ^ i + x % 2 ^ i := by
  have := Int.mul_ediv_add_emod x (2 ^ i)
  rw [Int.mul_comm] at this
  exact this.symm
theorem ib_par {x y : Int} {i : Nat} (h : ib x i = ib y i) : (x / 2 ^ i) % 2 = (y / 2 ^ i) % 2 := by rw [ib_eq, ib_eq, h]

/-- the sums of members -/
def SAdd (w : Nat) (l1 h1 l2 h2 : Int) (z : Int) : Prop := ∃ x y, Mem w l1 h1 x ∧ Mem w l2 h2 y ∧ z = x + y
def SSub (w : Nat) (l1 h1 l2 h2 : Int) (z : Int) : Prop := ∃ x y, Mem w l1 h1 x ∧ Mem w l2 h2 y ∧ z = x - y
def SNeg (w : Nat) (l1 h1 : Int) (z : Int) : Prop := ∃ x, Mem w l1 h1 x ∧ z = 0 - x
def opn2 (l1 h1 l2 h2 : Int) : Int := Builtin.bitOr (Builtin.bitXor l1 h1) (Builtin.bitXor l2 h2)
theorem opn2_bit (l1 h1 l2 h2 : Int) (i : Nat) : ib (opn2 l1 h1 l2 h2) i = ((ib l1 i ^^ ib h1 i) || (ib l2 i ^^ ib h2 i)) := by
  unfold opn2; rw [ib_or, ib_xor, ib_xor]
theorem xor_ne {a b : Bool} (h : (a ^^ b) = true) : a ≠ b := by cases a <;> cases b <;> simp_all
theorem xor_eq {a b : Bool} (h : (a ^^ b) = false) : a = b := by cases a <;> cases b <;> simp_all

theorem nar_add {w : Nat} {l1 h1 l2 h2 : Int} (a : Msk w l1 h1) (b : Msk w l2 h2) :
    Nar w (SAdd w l1 h1 l2 h2) (sbLo w (l1 + l2) (h1 + h2) (opn2 l1 h1 l2 h2)) (sbHi w (l1 + l2) (h1 + h2) (opn2 l1 h1 l2 h2)) := by
  refine sb_nar ⟨l1, l2, a.mlo, b.mlo, rfl⟩ ⟨h1, h2, a.mhi, b.mhi, rfl⟩ (fun i hi e z hz => ?_) (fun i hi e q z hz => ?_)
  · obtain ⟨x, y, mx, my, rfl⟩ := hz
    rw [opn2_bit] at e
    rcases Bool.or_eq_true_iff.mp e with e | e
    · obtain ⟨x', mx', ex, _⟩ := mx.flip hi (xor_ne e) (a.le i)
      refine ⟨x' + y, ⟨x', y, mx', my, rfl⟩, ?_⟩
      rcases ex with rfl | rfl
      · rw [← ib_plus_pow]; congr 1; omega
      · rw [← ib_minus_pow]; congr 1; omega
    · obtain ⟨y', my', ey, _⟩ := my.flip hi (xor_ne e) (b.le i)
      refine ⟨x + y', ⟨x, y', mx, my', rfl⟩, ?_⟩
      rcases ey with rfl | rfl
      · rw [← ib_plus_pow]; congr 1; omega
      · rw [← ib_minus_pow]; congr 1; omega
  · obtain ⟨x, y, mx, my, rfl⟩ := hz
    rw [opn2_bit] at e
    obtain ⟨e1, e2⟩ := Bool.or_eq_false_iff.mp e
    have f1 := xor_eq e1
    have f2 := xor_eq e2
    have hp := pow_pos' i
    have D : ∀ u v : Int, (u + v) / 2 ^ i = (u / 2 ^ i + v / 2 ^ i) + (u % 2 ^ i + v % 2 ^ i) / 2 ^ i := fun u v =>
      ib_div (by conv => lhs; rw [parts u i, parts v i]
                 rw [Int.add_mul]; omega)
    have par : ∀ u v u' v' : Int, ib u i = ib u' i → ib v i = ib v' i → (u / 2 ^ i + v / 2 ^ i) % 2 = (u' / 2 ^ i + v' / 2 ^ i) % 2 := fun u v u' v' p1 p2 => by
      have := ib_par p1; have := ib_par p2; omega
    have q' := (ib_same (D l1 l2) (D h1 h2) (par _ _ _ _ f1 f2)).mp q
    refine (ib_same (D x y) (D l1 l2) (par _ _ _ _ (mx.fixed f1) (my.fixed f2))).mpr ?_
    obtain ⟨lx, hx⟩ := mx.low i
    obtain ⟨ly, hy⟩ := my.low i
    have b1 := Int.emod_nonneg l1 (Int.ne_of_gt hp)
    have b2 := Int.emod_nonneg l2 (Int.ne_of_gt hp)
    have b3 := Int.emod_lt_of_pos h1 hp
    have b4 := Int.emod_lt_of_pos h2 hp
    refine between (Int.ediv_le_ediv hp (by omega)) (Int.ediv_le_ediv hp (show x % 2 ^ i + y % 2 ^ i ≤ h1 % 2 ^ i + h2 % 2 ^ i by omega)) ?_ q'
    have t1 : 0 ≤ (l1 % 2 ^ i + l2 % 2 ^ i) / 2 ^ i := Int.ediv_nonneg (by omega) (Int.le_of_lt hp)
    have t2 : (h1 % 2 ^ i + h2 % 2 ^ i) / 2 ^ i < 2 := Int.ediv_lt_of_lt_mul hp (by omega)
    omega
theorem nar_sub {w : Nat} {l1 h1 l2 h2 : Int} (a : Msk w l1 h1) (b : Msk w l2 h2) :
    Nar w (SSub w l1 h1 l2 h2) (sbLo w (l1 - h2) (h1 - l2) (opn2 l1 h1 l2 h2)) (sbHi w (l1 - h2) (h1 - l2) (opn2 l1 h1 l2 h2)) := by
  refine sb_nar ⟨l1, h2, a.mlo, b.mhi, rfl⟩ ⟨h1, l2, a.mhi, b.mlo, rfl⟩ (fun i hi e z hz => ?_) (fun i hi e q z hz => ?_)
  · obtain ⟨x, y, mx, my, rfl⟩ := hz
    rw [opn2_bit] at e
    rcases Bool.or_eq_true_iff.mp e with e | e
    · obtain ⟨x', mx', ex, _⟩ := mx.flip hi (xor_ne e) (a.le i)
      refine ⟨x' - y, ⟨x', y, mx', my, rfl⟩, ?_⟩
      rcases ex with rfl | rfl
      · rw [← ib_plus_pow]; congr 1; omega
      · rw [← ib_minus_pow]; congr 1; omega
    · obtain ⟨y', my', ey, _⟩ := my.flip hi (xor_ne e) (b.le i)
      refine ⟨x - y', ⟨x, y', mx, my', rfl⟩, ?_⟩
      rcases ey with rfl | rfl
      · rw [← ib_minus_pow]; congr 1; omega
      · rw [← ib_plus_pow]; congr 1; omega
  · obtain ⟨x, y, mx, my, rfl⟩ := hz
    rw [opn2_bit] at e
    obtain ⟨e1, e2⟩ := Bool.or_eq_false_iff.mp e
    have f1 := xor_eq e1
    have f2 := xor_eq e2
    have hp := pow_pos' i
    have D : ∀ u v : Int, (u - v) / 2 ^ i = (u / 2 ^ i - v / 2 ^ i) + (u % 2 ^ i - v % 2 ^ i) / 2 ^ i := fun u v =>
      ib_div (by conv => lhs; rw [parts u i, parts v i]
                 rw [Int.sub_mul]; omega)
    have par : ∀ u v u' v' : Int, ib u i = ib u' i → ib v i = ib v' i → (u / 2 ^ i - v / 2 ^ i) % 2 = (u' / 2 ^ i - v' / 2 ^ i) % 2 := fun u v u' v' p1 p2 => by
      have := ib_par p1; have := ib_par p2; omega
    have q' := (ib_same (D l1 h2) (D h1 l2) (par _ _ _ _ f1 f2.symm)).mp q
    refine (ib_same (D x y) (D l1 h2) (par _ _ _ _ (mx.fixed f1) ((my.fixed f2).trans f2))).mpr ?_
    obtain ⟨lx, hx⟩ := mx.low i
    obtain ⟨ly, hy⟩ := my.low i
    have b1 := Int.emod_nonneg l1 (Int.ne_of_gt hp)
    have b2 := Int.emod_nonneg l2 (Int.ne_of_gt hp)
    have b3 := Int.emod_lt_of_pos h1 hp
    have b4 := Int.emod_lt_of_pos h2 hp
    refine between (Int.ediv_le_ediv hp (by omega)) (Int.ediv_le_ediv hp (show x % 2 ^ i - y % 2 ^ i ≤ h1 % 2 ^ i - l2 % 2 ^ i by omega)) ?_ q'
    have t1 : -1 ≤ (l1 % 2 ^ i - h2 % 2 ^ i) / 2 ^ i := Int.le_ediv_of_mul_le hp (by omega)
    have t2 : (h1 % 2 ^ i - l2 % 2 ^ i) / 2 ^ i < 1 := Int.ediv_lt_of_lt_mul hp (by omega)
    omega
theorem nar_neg {w : Nat} {l1 h1 : Int} (a : Msk w l1 h1) :
    Nar w (SNeg w l1 h1) (sbLo w (0 - h1) (0 - l1) (Builtin.bitXor l1 h1)) (sbHi w (0 - h1) (0 - l1) (Builtin.bitXor l1 h1)) := by
  refine sb_nar ⟨h1, a.mhi, rfl⟩ ⟨l1, a.mlo, rfl⟩ (fun i hi e z hz => ?_) (fun i hi e q z hz => ?_)
  · obtain ⟨x, mx, rfl⟩ := hz
    rw [ib_xor] at e
    obtain ⟨x', mx', ex, _⟩ := mx.flip hi (xor_ne e) (a.le i)
    refine ⟨0 - x', ⟨x', mx', rfl⟩, ?_⟩
    rcases ex with rfl | rfl
    · rw [← ib_minus_pow]; congr 1; omega
    · rw [← ib_plus_pow]; congr 1; omega
  · obtain ⟨x, mx, rfl⟩ := hz
    rw [ib_xor] at e
    have f1 := xor_eq e
    have hp := pow_pos' i
    have D : ∀ u : Int, (0 - u) / 2 ^ i = (-(u / 2 ^ i)) + (0 - u % 2 ^ i) / 2 ^ i := fun u =>
      ib_div (by conv => lhs; rw [parts u i]
                 rw [Int.neg_mul]; omega)
    have par : ∀ u u' : Int, ib u i = ib u' i → (-(u / 2 ^ i)) % 2 = (-(u' / 2 ^ i)) % 2 := fun u u' p1 => by
      have := ib_par p1; omega
    have q' := (ib_same (D h1) (D l1) (par _ _ f1.symm)).mp q
    refine (ib_same (D x) (D h1) (par _ _ ((mx.fixed f1).trans f1))).mpr ?_
    obtain ⟨lx, hx⟩ := mx.low i
    have b1 := Int.emod_nonneg l1 (Int.ne_of_gt hp)
    have b3 := Int.emod_lt_of_pos h1 hp
    refine between (Int.ediv_le_ediv hp (by omega)) (Int.ediv_le_ediv hp (show 0 - x % 2 ^ i ≤ 0 - l1 % 2 ^ i by omega)) ?_ q'
    have t1 : -1 ≤ (0 - h1 % 2 ^ i) / 2 ^ i := Int.le_ediv_of_mul_le hp (by omega)
    have t2 : (0 - l1 % 2 ^ i) / 2 ^ i < 1 := Int.ediv_lt_of_lt_mul hp (by omega)
    omega
end WA


set_option Elab.async false
set_option maxRecDepth 100000
/-! K3Sum: the carries of a sum of multiples tell the narrowest mask of its results. Plain Lean. -/
namespace WA
open PySem PyProof.Rows

/-- factor, least, greatest -/
abbrev Trm := Int × Int × Int
def dotf : List Trm → List Int → Int
  | t :: ts, x :: xs => t.1 * x + dotf ts xs
  | _, _ => 0
def Mems (w : Nat) : List Trm → List Int → Prop
  | [], [] => True
  | t :: ts, x :: xs => Mem w t.2.1 t.2.2 x ∧ Mems w ts xs
  | _, _ => False
def SSum (w : Nat) (ts : List Trm) (n z : Int) : Prop := ∃ xs, Mems w ts xs ∧ z = n + dotf ts xs
/-- the masks of all terms are masks -/
def Msks (w : Nat) (ts : List Trm) : Prop := ∀ t ∈ ts, Msk w t.2.1 t.2.2

theorem mems_lo {w : Nat} : ∀ {ts : List Trm}, Msks w ts → Mems w ts (ts.map (·.2.1))
  | [], _ => trivial
  | t :: ts, h => ⟨(h t List.mem_cons_self).mlo, mems_lo fun u hu => h u (List.mem_cons_of_mem _ hu)⟩
theorem dotf_lin {f g h : Int → Int} {k : Int} (e : ∀ x, f x = g x + k * h x) : ∀ (ts : List Trm) (xs : List Int), dotf ts (xs.map f) = dotf ts (xs.map g) + k * dotf ts (xs.map h)
  | [], _ => by simp [dotf]
  | _ :: _, [] => by simp [dotf]
  | t :: ts, x :: xs => by
    simp only [List.map_cons, dotf]
    rw [dotf_lin e ts xs, e x, Int.mul_add, Int.mul_add, Int.mul_left_comm]
    omega
theorem dotf_id (ts : List Trm) (xs : List Int) : dotf ts (xs.map fun x => x) = dotf ts xs := by rw [List.map_id']

/-! ### choices -/
def ch1 (i : Nat) (lo hi : Int) : List Int := [0, 1].filter fun one => decide (lo / 2 ^ i % 2 ≤ one) && decide (one ≤ hi / 2 ^ i % 2)
def chsF (i : Nat) : List Trm → List (List Int) → List (List Int)
  | [], acc => acc
  | t :: ts, acc => chsF i ts (acc.flatMap fun s => (ch1 i t.2.1 t.2.2).map fun o => s ++ [o])
def chs (ts : List Trm) (i : Nat) : List (List Int) := chsF i ts [[]]
def Chs (i : Nat) : List Trm → List Int → Prop
  | [], [] => True
  | t :: ts, b :: bs => b ∈ ch1 i t.2.1 t.2.2 ∧ Chs i ts bs
  | _, _ => False
theorem mem_chsF {i : Nat} {bs : List Int} : ∀ {ts : List Trm} {acc : List (List Int)}, bs ∈ chsF i ts acc ↔ ∃ s ∈ acc, ∃ r, Chs i ts r ∧ bs = s ++ r
  | [], acc => by
    unfold chsF
    constructor
    · intro h; exact ⟨bs, h, [], trivial, by simp⟩
    · rintro ⟨s, hs, r, hr, e⟩
      cases r with
      | nil => rw [e, List.append_nil]; exact hs
      | cons a r => exact hr.elim
  | t :: ts, acc => by
    unfold chsF
    rw [mem_chsF]
    constructor
    · rintro ⟨s, hs, r, hr, e⟩
      obtain ⟨s', hs', h2⟩ := List.mem_flatMap.mp hs
      obtain ⟨o, ho, e2⟩ := List.mem_map.mp h2
      exact ⟨s', hs', o :: r, ⟨ho, hr⟩, by rw [e, ← e2]; simp⟩
    · rintro ⟨s, hs, r, hr, e⟩
      cases r with
      | nil => exact hr.elim
      | cons o r => exact ⟨s ++ [o], List.mem_flatMap.mpr ⟨s, hs, List.mem_map.mpr ⟨o, hr.1, rfl⟩⟩, r, hr.2, by rw [e]; simp⟩
theorem mem_chs {i : Nat} {ts : List Trm} {bs : List Int} : bs ∈ chs ts i ↔ Chs i ts bs := by
  unfold chs
  rw [mem_chsF]
  constructor
  · rintro ⟨s, hs, r, hr, e⟩
    rw [List.mem_singleton.mp hs] at e
    rw [e]; exact hr
  · intro h
    exact ⟨[], List.mem_singleton.mpr rfl, bs, h, rfl⟩
theorem mem_ch1 {i : Nat} {lo hi b : Int} : b ∈ ch1 i lo hi ↔ (b = 0 ∨ b = 1) ∧ lo / 2 ^ i % 2 ≤ b ∧ b ≤ hi / 2 ^ i % 2 := by
  unfold ch1
  rw [List.mem_filter]
  simp

/-! ### carries -/
def tot (ts : List Trm) (n : Int) (i : Nat) (c : Int) (bs : List Int) : Int := c + n % 2 ^ (i + 1) / 2 ^ i + dotf ts bs
def cry (ts : List Trm) (n : Int) (i : Nat) (xs : List Int) : Int := (n % 2 ^ i + dotf ts (xs.map (· % 2 ^ i))) / 2 ^ i
def Car (w : Nat) (ts : List Trm) (n : Int) (i : Nat) (c : Int) : Prop := ∃ xs, Mems w ts xs ∧ c = cry ts n i xs
theorem num_bit (n : Int) (i : Nat) : n % 2 ^ (i + 1) / 2 ^ i = n / 2 ^ i % 2 := by
  have hp := pow_pos' i
  rw [mod_succ, Int.add_mul_ediv_left _ _ (Int.ne_of_gt hp), Int.ediv_eq_zero_of_lt (Int.emod_nonneg _ (Int.ne_of_gt hp)) (Int.emod_lt_of_pos _ hp)]
  omega
def bitsAt (i : Nat) (xs : List Int) : List Int := xs.map fun x => x / 2 ^ i % 2
theorem cry_succ (ts : List Trm) (n : Int) (i : Nat) (xs : List Int) : cry ts n (i + 1) xs = tot ts n i (cry ts n i xs) (bitsAt i xs) / 2 := by
  unfold cry tot bitsAt
  have hp := pow_pos' i
  rw [num_bit, dotf_lin (f := (· % 2 ^ (i + 1))) (g := (· % 2 ^ i)) (h := fun x => x / 2 ^ i % 2) (k := 2 ^ i) (fun x => mod_succ x i) ts xs, mod_succ n i]
  have e : ((2 : Int) ^ (i + 1)) = 2 ^ i * 2 := Int.pow_succ ..
  rw [e, ← Int.ediv_ediv_of_nonneg (Int.le_of_lt hp)]
  congr 1
  have e2 : n % 2 ^ i + 2 ^ i * (n / 2 ^ i % 2) + (dotf ts (xs.map (· % 2 ^ i)) + 2 ^ i * dotf ts (xs.map fun x => x / 2 ^ i % 2))
      = (n % 2 ^ i + dotf ts (xs.map (· % 2 ^ i))) + 2 ^ i * (n / 2 ^ i % 2 + dotf ts (xs.map fun x => x / 2 ^ i % 2)) := by
    rw [Int.mul_add]; omega
  rw [e2, Int.add_mul_ediv_left _ _ (Int.ne_of_gt hp)]
  omega
theorem sum_bit (ts : List Trm) (n : Int) (i : Nat) (xs : List Int) : (n + dotf ts xs) / 2 ^ i % 2 = tot ts n i (cry ts n i xs) (bitsAt i xs) % 2 := by
  unfold cry tot bitsAt
  have hp := pow_pos' i
  have d1 : dotf ts xs = dotf ts (xs.map (· % 2 ^ i)) + 2 ^ i * dotf ts (xs.map (· / 2 ^ i)) := by
    have := dotf_lin (f := fun x => x) (g := (· % 2 ^ i)) (h := (· / 2 ^ i)) (k := 2 ^ i) (fun x => by have := Int.mul_ediv_add_emod x (2 ^ i); omega) ts xs
    rw [dotf_id] at this
    exact this
  have d2 : dotf ts (xs.map (· / 2 ^ i)) = dotf ts (xs.map fun x => x / 2 ^ i % 2) + 2 * dotf ts (xs.map fun x => x / 2 ^ i / 2) :=
    dotf_lin (f := (· / 2 ^ i)) (g := fun x => x / 2 ^ i % 2) (h := fun x => x / 2 ^ i / 2) (k := 2) (fun x => by omega) ts xs
  have e : n + dotf ts xs = (n % 2 ^ i + dotf ts (xs.map (· % 2 ^ i))) + 2 ^ i * (n / 2 ^ i + dotf ts (xs.map (· / 2 ^ i))) := by
    have := Int.mul_ediv_add_emod n (2 ^ i)
    rw [d1, Int.mul_add]; omega
  rw [e, Int.add_mul_ediv_left _ _ (Int.ne_of_gt hp), num_bit, d2]
  omega
theorem bits_chs {w i : Nat} : ∀ {ts : List Trm} {xs : List Int}, Mems w ts xs → Chs i ts (bitsAt i xs)
  | [], [], _ => trivial
  | [], _ :: _, h => h.elim
  | _ :: _, [], h => h.elim
  | t :: ts, x :: xs, h => by
    refine ⟨mem_ch1.mpr ?_, bits_chs h.2⟩
    have a := h.1.lo i
    have b := h.1.hi i
    dsimp only
    rw [ib_eq, ib_eq, ib_eq]
    cases q : ib x i <;> cases q1 : ib t.2.1 i <;> cases q2 : ib t.2.2 i <;> simp_all
/-- a member with given low bits, a given bit, and the rest of the least one -/
theorem splice {w i : Nat} {lo hi x b : Int} (m : Msk w lo hi) (hx : Mem w lo hi x) (hi' : i < w) (hb : b ∈ ch1 i lo hi) : ∃ y, Mem w lo hi y ∧ y % 2 ^ i = x % 2 ^ i ∧ y / 2 ^ i % 2 = b := by
  obtain ⟨h01, hl, hh⟩ := mem_ch1.mp hb
  have kb : ∀ k, ib b k = (decide (b = 1) && decide (k = 0)) := fun k => by
    rcases h01 with rfl | rfl
    · rw [ib_zero]; rfl
    · have := ib_pow 0 k
      rw [Int.pow_zero] at this
      rw [this]
      simp only [decide_true, Bool.true_and]
      by_cases e : k = 0
      · subst e; rfl
      · rw [decide_eq_false e, decide_eq_false (fun q => e q.symm)]
  let y := Builtin.bitOr (Builtin.bitOr (x % 2 ^ i) (b * 2 ^ i)) (lo / 2 ^ (i + 1) * 2 ^ (i + 1))
  have hy : ∀ j, ib y j = if j < i then ib x j else if j = i then decide (b = 1) else ib lo j := fun j => by
    show ib (Builtin.bitOr _ _) j = _
    rw [ib_or, ib_or, ib_mod, ib_shl, ib_shl, ib_shr, kb]
    by_cases h1 : j < i
    · rw [if_pos h1, decide_eq_true h1, decide_eq_false (show ¬ i ≤ j by omega), decide_eq_false (show ¬ i + 1 ≤ j by omega)]
      simp
    · rw [if_neg h1, decide_eq_false h1, decide_eq_true (show i ≤ j by omega)]
      by_cases h2 : j = i
      · subst h2
        rw [if_pos rfl, decide_eq_false (show ¬ j + 1 ≤ j by omega)]
        simp
      · rw [if_neg h2, decide_eq_true (show i + 1 ≤ j by omega), decide_eq_false (show ¬ j - i = 0 by omega)]
        have : i + 1 + (j - (i + 1)) = j := by omega
        rw [this]
        simp
  have lb : ib lo i = true → b = 1 := fun h => by rw [ib_eq, h] at hl; rcases h01 with rfl | rfl <;> simp_all
  have hb' : b = 1 → ib hi i = true := fun h => by
    rw [ib_eq] at hh
    cases q : ib hi i with
    | true => rfl
    | false => rw [q, h] at hh; simp at hh
  refine ⟨y, ⟨inW_of fun j hj => ?_, fun j a => ?_, fun j a => ?_⟩, ib_ext fun j => ?_, ?_⟩
  · rw [hy, if_neg (by omega), if_neg (by omega)]
    exact inW_bits m.ilo hj
  · rw [hy]
    by_cases h1 : j < i
    · rw [if_pos h1]; exact hx.lo j a
    · rw [if_neg h1]
      by_cases h2 : j = i
      · subst h2
        rw [if_pos rfl, decide_eq_true (lb a)]
      · rw [if_neg h2]; exact a
  · rw [hy] at a
    by_cases h1 : j < i
    · rw [if_pos h1] at a; exact hx.hi j a
    · rw [if_neg h1] at a
      by_cases h2 : j = i
      · subst h2
        rw [if_pos rfl] at a
        exact hb' (of_decide_eq_true a)
      · rw [if_neg h2] at a; exact m.le j a
  · rw [ib_mod, ib_mod, hy]
    by_cases h1 : j < i
    · rw [if_pos h1]
    · rw [decide_eq_false h1]; rfl
  · have e := hy i
    rw [if_neg (Nat.lt_irrefl i), if_pos rfl] at e
    rw [ib_eq y i, e]
    rcases h01 with q | q <;> rw [q] <;> rfl
theorem splices {w i : Nat} (hi' : i < w) : ∀ {ts : List Trm} {xs bs : List Int}, Msks w ts → Mems w ts xs → Chs i ts bs → ∃ ys, Mems w ts ys ∧ ys.map (· % 2 ^ i) = xs.map (· % 2 ^ i) ∧ bitsAt i ys = bs
  | [], [], [], _, _, _ => ⟨[], trivial, rfl, rfl⟩
  | [], _ :: _, _, _, h, _ => h.elim
  | [], [], _ :: _, _, _, h => h.elim
  | _ :: _, [], _, _, h, _ => h.elim
  | _ :: _, _ :: _, [], _, _, h => h.elim
  | t :: ts, x :: xs, b :: bs, hm, hx, hb => by
    obtain ⟨y, my, e1, e2⟩ := splice (hm t List.mem_cons_self) hx.1 hi' hb.1
    obtain ⟨ys, mys, e3, e4⟩ := splices hi' (fun u hu => hm u (List.mem_cons_of_mem _ hu)) hx.2 hb.2
    refine ⟨y :: ys, ⟨my, mys⟩, ?_, ?_⟩
    · simp only [List.map_cons, e1, e3]
    · unfold bitsAt at e4 ⊢
      simp only [List.map_cons, e2, e4]
theorem car_zero {w : Nat} {ts : List Trm} {n c : Int} (hm : Msks w ts) : Car w ts n 0 c ↔ c = 0 := by
  have z : ∀ xs : List Int, cry ts n 0 xs = 0 := fun xs => by
    unfold cry
    have : ∀ (us : List Trm) (ys : List Int), dotf us (ys.map (· % 2 ^ 0)) = 0 := by
      intro us
      induction us with
      | nil => intro ys; rfl
      | cons u us ih =>
        intro ys
        cases ys with
        | nil => rfl
        | cons y ys =>
          simp only [List.map_cons, dotf]
          rw [ih ys]
          simp [Int.emod_one]
    rw [this]
    simp [Int.emod_one]
  constructor
  · rintro ⟨xs, _, e⟩; rw [e, z]
  · intro e; exact ⟨_, mems_lo hm, by rw [e, z]⟩
theorem car_succ {w i : Nat} {ts : List Trm} {n c' : Int} (hm : Msks w ts) (hi : i < w) : Car w ts n (i + 1) c' ↔ ∃ c bs, Car w ts n i c ∧ Chs i ts bs ∧ c' = tot ts n i c bs / 2 := by
  constructor
  · rintro ⟨xs, hx, e⟩
    exact ⟨_, _, ⟨xs, hx, rfl⟩, bits_chs hx, by rw [e, cry_succ]⟩
  · rintro ⟨c, bs, ⟨xs, hx, e⟩, hb, e'⟩
    obtain ⟨ys, hy, e1, e2⟩ := splices hi hm hx hb
    refine ⟨ys, hy, ?_⟩
    rw [cry_succ, e2, e', e]
    congr 2
    unfold cry
    rw [e1]
theorem car_bit {w i : Nat} {ts : List Trm} {n : Int} {v : Bool} (hm : Msks w ts) (hi : i < w) : (∃ z, SSum w ts n z ∧ ib z i = v) ↔ ∃ c bs, Car w ts n i c ∧ Chs i ts bs ∧ tot ts n i c bs % 2 = if v then 1 else 0 := by
  constructor
  · rintro ⟨z, ⟨xs, hx, rfl⟩, e⟩
    refine ⟨_, _, ⟨xs, hx, rfl⟩, bits_chs hx, ?_⟩
    rw [← sum_bit, ib_eq, e]
  · rintro ⟨c, bs, ⟨xs, hx, e⟩, hb, e'⟩
    obtain ⟨ys, hy, e1, e2⟩ := splices hi hm hx hb
    refine ⟨_, ⟨ys, hy, rfl⟩, ?_⟩
    have h := sum_bit ts n i ys
    have ec : cry ts n i ys = c := by rw [e]; unfold cry; rw [e1]
    rw [e2, ec, e', ib_eq] at h
    cases q : ib (n + dotf ts ys) i <;> cases v <;> simp_all

/-! ### how great the carries are -/
def fpos : List Trm → Int
  | [] => 0
  | t :: ts => (if 0 ≤ t.1 then t.1 else 0) + fpos ts
def fneg : List Trm → Int
  | [] => 0
  | t :: ts => (if 0 ≤ t.1 then 0 else -t.1) + fneg ts
theorem fpos_nn : ∀ ts : List Trm, 0 ≤ fpos ts
  | [] => Int.le_refl _
  | t :: ts => by
    have := fpos_nn ts
    unfold fpos
    split <;> omega
theorem fneg_nn : ∀ ts : List Trm, 0 ≤ fneg ts
  | [] => Int.le_refl _
  | t :: ts => by
    have := fneg_nn ts
    unfold fneg
    split <;> omega
theorem dotf_le {B : Int} (hB : 0 ≤ B) : ∀ (ts : List Trm) (xs : List Int), (∀ x ∈ xs, 0 ≤ x ∧ x ≤ B) → dotf ts xs ≤ fpos ts * B ∧ -(fneg ts * B) ≤ dotf ts xs
  | [], xs, _ => by simp [dotf, fpos, fneg]
  | t :: ts, [], _ => by
    have h1 := Int.mul_nonneg (fpos_nn (t :: ts)) hB
    have h2 := Int.mul_nonneg (fneg_nn (t :: ts)) hB
    simp only [dotf]
    omega
  | t :: ts, x :: xs, h => by
    obtain ⟨h1, h2⟩ := dotf_le hB ts xs fun y hy => h y (List.mem_cons_of_mem _ hy)
    obtain ⟨x0, x1⟩ := h x List.mem_cons_self
    simp only [dotf, fpos, fneg]
    by_cases q : 0 ≤ t.1
    · rw [if_pos q, if_pos q, Int.add_mul, Int.add_mul]
      have a := Int.mul_le_mul_of_nonneg_left x1 q
      have b := Int.mul_nonneg q x0
      omega
    · rw [if_neg q, if_neg q, Int.add_mul, Int.add_mul]
      have q' : 0 ≤ -t.1 := by omega
      have a := Int.mul_le_mul_of_nonneg_left x1 q'
      have b := Int.mul_nonneg q' x0
      rw [Int.neg_mul] at a b
      rw [Int.neg_mul] at a
      rw [Int.neg_mul]
      omega
theorem car_range {w i : Nat} {ts : List Trm} {n c : Int} (h : Car w ts n i c) : -(fneg ts) ≤ c ∧ c ≤ fpos ts := by
  obtain ⟨xs, _, e⟩ := h
  have hp := pow_pos' i
  obtain ⟨h1, h2⟩ := dotf_le (B := 2 ^ i - 1) (by omega) ts (xs.map (· % 2 ^ i)) fun y hy => by
    obtain ⟨x, _, e⟩ := List.mem_map.mp hy
    have a := mod_inW x i
    subst e
    exact ⟨a.1, by have := a.2; omega⟩
  have n0 := mod_inW n i
  have n1 := n0.1
  have n2 := n0.2
  have p1 := fpos_nn ts
  have p2 := fneg_nn ts
  unfold cry at e
  constructor
  · rw [e]
    refine Int.le_ediv_of_mul_le hp ?_
    rw [Int.neg_mul]
    rw [Int.mul_sub, Int.mul_one] at h2
    omega
  · have : c < fpos ts + 1 := by
      rw [e]
      refine Int.ediv_lt_of_lt_mul hp ?_
      rw [Int.add_mul]
      rw [Int.mul_sub, Int.mul_one] at h1
      omega
    omega
/-- different ints within a range are at most so many -/
theorem nodup_range : ∀ (n : Nat) (l : List Int) (a : Int), l.Nodup → (∀ x ∈ l, a ≤ x ∧ x < a + n) → l.length ≤ n
  | 0, l, a, _, h => by
    cases l with
    | nil => exact Nat.le_refl _
    | cons x l =>
      have := h x List.mem_cons_self
      omega
  | n + 1, l, a, hn, h => by
    have h2 := nodup_range n (l.erase (a + n)) a (hn.erase _) fun x hx => by
      have m := List.mem_of_mem_erase hx
      have r := h x m
      have ne : x ≠ a + n := fun q => by
        rw [q] at hx
        exact (List.Nodup.not_mem_erase hn) hx
      omega
    have := List.length_erase (a := a + n) (l := l)
    split at this <;> omega

/-! ### the accumulated words -/
def Acc (i : Nat) (f : Nat → Bool) (x : Int) : Prop := InW i x ∧ ∀ j, j < i → ib x j = f j
theorem acc_zero (f : Nat → Bool) : Acc 0 f 0 := ⟨⟨Int.le_refl _, by decide⟩, fun j h => absurd h (Nat.not_lt_zero _)⟩
theorem acc_step {i : Nat} {f : Nat → Bool} {x : Int} (h : Acc i f x) {b : Int} (hb : b = if f i then 1 else 0) : Acc (i + 1) f (x + 2 ^ i * b) := by
  have hx : ib x i = false := inW_bits h.1 (Nat.le_refl _)
  have key : ∀ j, ib (x + 2 ^ i * b) j = (ib x j || (f i && decide (i = j))) := fun j => by
    cases q : f i with
    | true =>
      rw [q] at hb
      have : b = 1 := hb
      rw [this, Int.mul_one, ib_add_pow hx]; simp
    | false =>
      rw [q] at hb
      have : b = 0 := hb
      rw [this, Int.mul_zero, Int.add_zero]; simp
  refine ⟨inW_of fun j hj => ?_, fun j hj => ?_⟩
  · rw [key, inW_bits h.1 (by omega), decide_eq_false (show ¬ i = j by omega)]; simp
  · rw [key]
    by_cases e : j = i
    · subst e; rw [hx]; simp
    · rw [h.2 j (by omega), decide_eq_false (fun q => e q.symm)]; simp
/-- the end: low and high by whether a result has 0 or 1 at a place -/
theorem sum_nar {w : Nat} {ts : List Trm} {n low high : Int} {f0 f1 : Nat → Bool} (hm : Msks w ts) (hl : Acc w f0 low) (hh : Acc w f1 high)
    (h0 : ∀ i, i < w → (f0 i = true ↔ ¬ ∃ c bs, Car w ts n i c ∧ Chs i ts bs ∧ tot ts n i c bs % 2 = 0))
    (h1 : ∀ i, i < w → (f1 i = true ↔ ∃ c bs, Car w ts n i c ∧ Chs i ts bs ∧ tot ts n i c bs % 2 = 1)) : Nar w (SSum w ts n) low high := by
  refine ⟨⟨_, _, mems_lo hm, rfl⟩, hl.1, hh.1, fun i hi => ?_, fun i hi => ?_⟩
  · rw [hl.2 i hi, h0 i hi]
    have := car_bit (v := false) (n := n) hm hi
    constructor
    · intro h z hz
      cases q : ib z i with
      | true => rfl
      | false => exact (h (this.mp ⟨z, hz, q⟩)).elim
    · intro h q
      obtain ⟨z, hz, e⟩ := this.mpr q
      rw [h z hz] at e
      cases e
  · rw [hh.2 i hi, h1 i hi]
    exact (car_bit (v := true) (n := n) hm hi).symm
end WA


set_option Elab.async false
set_option linter.all false
set_option maxRecDepth 100000
set_option maxHeartbeats 4000000
/-! K4Rules: short bundles for defs and methods; operators of an own class; != by object.__ne__ over an own __eq__; cls(..) of a local name. -/
namespace WR
open PySem PySem.Spec PyProof.Rows L2

section
variable (P : Program) (w : World) (K : PySem.W.Frag) (mg : Str → Option Value) (base : Heap)
/-- the module's name x is a def that keeps sp at level k -/
def Cl (k : Nat) (x : Str) (sp : Sp) : Prop := ∃ f fd ps, FnOk P w K mg base CX0 k f fd ps sp ∧ mg x = some (.ref f) ∧ PySem.W.keepIn K (.ref f) = true ∧ Binds K fd ps []
/-- the class at C has a method m that keeps sp at level k -/
def Mt (C : Addr) (k : Nat) (m : Str) (sp : Sp) : Prop := ∃ f fd ps, FnOk P w K mg base CX0 k f fd ps sp ∧ Meth K C m f ∧ Binds K fd ps []
/-- the class at C is made by an __init__ that keeps sp -/
def Mkr (C : Addr) (k : Nat) (sp : Sp) : Prop := ∃ f fd ps, FnOk P w K mg base CX0 k f fd ps sp ∧ Mk K C f ∧ Binds K fd ps []
/-- the class at C has a property m whose getter keeps sp -/
def Prp (C : Addr) (k : Nat) (m : Str) (sp : Sp) : Prop := ∃ p g fd ps, FnOk P w K mg base CX0 k g fd ps sp ∧ PropOf K C m p g ∧ Binds K fd ps []
end
section
variable {P : Program} {w : World} {K : PySem.W.Frag} {mg : Str → Option Value} {base : Heap}
theorem Cl.mono {j k : Nat} {x : Str} {sp : Sp} (h : Cl P w K mg base j x sp) (l : j ≤ k) : Cl P w K mg base k x sp :=
  let ⟨f, fd, ps, F, a, b, c⟩ := h; ⟨f, fd, ps, F.mono l, a, b, c⟩
end

def tCl (sp : Sp) (t : TA) : TE := fun σ H Q => t σ H fun vs H1 => sp vs H1 Q E0
def tMt (C : Addr) (m : Str) (sp : Sp) (ta : TE) (t : TA) : TE := fun σ H Q => ta σ H fun x H1 => ∃ a dx fs, x = .ref a ∧ H1 a = some (.ins C dx fs) ∧ fs.lookup m = none ∧ t σ H1 fun vs H2 => sp (x :: vs) H2 Q E0
def tPr (C : Addr) (sp : Sp) (ta : TE) : TE := fun σ H Q => ta σ H fun x H1 => ∃ a dx fs, x = .ref a ∧ H1 a = some (.ins C dx fs) ∧ sp [x] H1 Q E0
def tMkr (C : Addr) (sp : Sp) (t : TA) : TE := fun σ H Q => t σ H fun vs H1 => ∀ x dx, H1 x = none → H1 dx = none → dx ≠ x →
  sp (.ref x :: vs) (upd (upd H1 dx (.own x)) x (.ins C dx [])) (fun v H2 => v = .non ∧ Q (.ref x) H2) E0
/-- a op b, both instances of the class at C whose method for op keeps sp -/
def rOwn (C : Addr) (sp : Sp) : R2 := fun x y H Q => ∃ a b dx dy fs gs, x = .ref a ∧ y = .ref b ∧ H a = some (.ins C dx fs) ∧ H b = some (.ins C dy gs) ∧ sp [x, y] H Q E0
/-- a op n, n an int -/
def rOwnI (C : Addr) (sp : Sp) : R2 := fun x y H Q => ∃ a n dx fs, x = .ref a ∧ y = .int n ∧ H a = some (.ins C dx fs) ∧ sp [x, y] H Q E0
def rOwn1 (C : Addr) (sp : Sp) : V → Hp → VK → Prop := fun x H Q => ∃ a dx fs, x = .ref a ∧ H a = some (.ins C dx fs) ∧ sp [x] H Q E0
/-- a != b by the own == -/
def rOwnNe (C : Addr) (sp : Sp) : R2 := fun x y H Q => ∃ a b dx dy fs gs, x = .ref a ∧ y = .ref b ∧ H a = some (.ins C dx fs) ∧ H b = some (.ins C dy gs) ∧ sp [x, y] H (fun v H' => ∃ k, v = .bl k ∧ Q (.bl (!k)) H') E0

section
variable {X : Cx} {k j : Nat} {C : Addr} {sp : Sp} {x m : Str} {e o : Expr} {es : List Expr} {te ta : TE} {t : TA} {p pos apos : Pos}

theorem pe_cl (c : Cl X.prog X.w X.K X.mg X.base k x sp) (hr : Room j X.A) (hk : k ≤ j) (hg : Gl X x) (ha : PA X (e :: es) t) (hdb : (x == ("__debug__" : Str)) = false := by decide)
    (he : starEach (e :: es) X.env = (false, eval e X.env) :: starEach es X.env := by rfl) (hpl : (backTo pos (starEach es X.env)).any (·.1) = false := by rfl) :
    PE X (.Call (.Name x p) (e :: es) [] pos) (tCl sp t) := by
  obtain ⟨f, fd, ps, F, hm, kp, hb⟩ := c
  have h := pe_call (p := p) (pos := pos) (dvs := []) (ds := []) (E := E0) (CX := CX0) F (hr.mono hk) hg hm kp hb .nil pass0 ha hdb he hpl
  refine ⟨fun pins s σ H Q I q => h.run pins s σ H Q I ?_⟩
  have e0 : (fun (vs : List V) (H1 : Hp) => sp (vs ++ []) H1 Q E0) = fun vs H1 => sp vs H1 Q E0 := by
    funext vs H1
    rw [List.append_nil]
  show t σ H (fun vs H1 => sp (vs ++ []) H1 Q E0)
  rw [e0]
  exact q
theorem pe_mt {pl : Sem Bool} (he : PE X o ta) (c : Cls X.K C) (mt : Mt X.prog X.w X.K X.mg X.base C k m sp) (hr : Room j X.A) (hk : k ≤ j) (ha : PA X (e :: es) t)
    (hst : starEach (e :: es) X.env = (false, eval e X.env) :: starEach es X.env := by rfl) (hpl : (backTo pos (starEach es X.env)).any (·.1) = false := by rfl)
    (ht : eval (.Call (.Attribute o m apos) (e :: es) [] pos) X.env = (do
      let ov ← eval o X.env
      standAt apos.atName
      let (f, first) ← holding [ov] (getMethod ov m pl)
      callWith pos f first (backTo pos (starEach (e :: es) X.env)) (backToKw pos (keywordEach [] X.env))) := by rfl) :
    PE X (.Call (.Attribute o m apos) (e :: es) [] pos) (tMt C m sp ta t) := by
  obtain ⟨f, fd, ps, F, hm, hb⟩ := mt
  have h := pe_meth (pl := pl) (dvs := []) (ds := []) (E := E0) (CX := CX0) he c hm F (hr.mono hk) hb .nil pass0 ha hst hpl ht
  refine ⟨fun pins s σ H Q I q => h.run pins s σ H Q I ?_⟩
  have e0 : ∀ x : V, (fun (vs : List V) (H1 : Hp) => sp (x :: (vs ++ [])) H1 Q E0) = fun vs H1 => sp (x :: vs) H1 Q E0 := fun x => by
    funext vs H1
    rw [List.append_nil]
  have e1 : (fun (x : V) (H1 : Hp) => ∃ a dx fs, x = .ref a ∧ H1 a = some (.ins C dx fs) ∧ fs.lookup m = none ∧ t σ H1 fun vs H2 => sp (x :: (vs ++ [])) H2 Q E0)
      = fun x H1 => ∃ a dx fs, x = .ref a ∧ H1 a = some (.ins C dx fs) ∧ fs.lookup m = none ∧ t σ H1 fun vs H2 => sp (x :: vs) H2 Q E0 := by
    funext x H1
    rw [e0]
  show ta σ H (fun x H1 => ∃ a dx fs, x = .ref a ∧ H1 a = some (.ins C dx fs) ∧ fs.lookup m = none ∧ t σ H1 fun vs H2 => sp (x :: (vs ++ [])) H2 Q E0)
  rw [e1]
  exact q
theorem pe_mt0 {pl : Sem Bool} (he : PE X o ta) (c : Cls X.K C) (mt : Mt X.prog X.w X.K X.mg X.base C k m sp) (hr : Room j X.A) (hk : k ≤ j)
    (ht : eval (.Call (.Attribute o m apos) [] [] pos) X.env = (do
      let ov ← eval o X.env
      standAt apos.atName
      let (f, first) ← holding [ov] (getMethod ov m pl)
      callWith pos f first (backTo pos (starEach [] X.env)) (backToKw pos (keywordEach [] X.env))) := by rfl) :
    PE X (.Call (.Attribute o m apos) [] [] pos) (tMt C m sp ta tNil) := by
  obtain ⟨f, fd, ps, F, hm, hb⟩ := mt
  have h := pe_meth0 (pl := pl) (dvs := []) (ds := []) (E := E0) (CX := CX0) he c hm F (hr.mono hk) hb .nil pass0 ht
  exact ⟨fun pins s σ H Q I q => h.run pins s σ H Q I q⟩
theorem pe_pr (he : PE X e te) (c : Cls X.K C) (pr : Prp X.prog X.w X.K X.mg X.base C k m sp) (hr : Room j X.A) (hk : k + 1 ≤ j) (hab : attributeBase e m X.env (eval e X.env) = eval e X.env) :
    PE X (.Attribute e m pos) (tPr C sp te) := by
  obtain ⟨p, g, fd, ps, F, hp, hb⟩ := pr
  have h := pe_prop (pos := pos) (dvs := []) (ds := []) (E := E0) (CX := CX0) he c hp F (hr.mono hk) hb .nil pass0 hab
  refine ⟨fun pins s σ H Q I q => h.run pins s σ H Q I ?_⟩
  have e1 : (fun (x : V) (H1 : Hp) => ∃ a dx fs, x = .ref a ∧ H1 a = some (.ins C dx fs) ∧ sp (.ref a :: []) H1 Q E0) = fun x H1 => ∃ a dx fs, x = .ref a ∧ H1 a = some (.ins C dx fs) ∧ sp [x] H1 Q E0 := by
    funext x H1
    apply propext
    constructor
    · rintro ⟨a, dx, fs, rfl, r⟩; exact ⟨a, dx, fs, rfl, r⟩
    · rintro ⟨a, dx, fs, rfl, r⟩; exact ⟨a, dx, fs, rfl, r⟩
  show te σ H (fun x H1 => ∃ a dx fs, x = .ref a ∧ H1 a = some (.ins C dx fs) ∧ sp (.ref a :: []) H1 Q E0)
  rw [e1]
  exact q
theorem pe_mkr (M : Mkr X.prog X.w X.K X.mg X.base C k sp) (hr : Room j X.A) (hk : k + 1 ≤ j) (hg : Gl X x) (hm : X.mg x = some (.ref C)) (ha : PA X (e :: es) t) (hdb : (x == ("__debug__" : Str)) = false := by decide)
    (he : starEach (e :: es) X.env = (false, eval e X.env) :: starEach es X.env := by rfl) (hpl : (backTo pos (starEach es X.env)).any (·.1) = false := by rfl) :
    PE X (.Call (.Name x p) (e :: es) [] pos) (tMkr C sp t) := by
  obtain ⟨f, fd, ps, F, hM, hb⟩ := M
  have h := pe_make (p := p) (pos := pos) (dvs := []) (ds := []) (E := E0) (CX := CX0) hM F (hr.mono hk) hg hm hb .nil pass0 ha hdb he hpl
  refine ⟨fun pins s σ H Q I q => h.run pins s σ H Q I ?_⟩
  have e0 : (fun (vs : List V) (H1 : Hp) => ∀ x dx, H1 x = none → H1 dx = none → dx ≠ x → sp (.ref x :: (vs ++ [])) (upd (upd H1 dx (.own x)) x (.ins C dx [])) (fun v H2 => v = .non ∧ Q (.ref x) H2) E0)
      = fun vs H1 => ∀ x dx, H1 x = none → H1 dx = none → dx ≠ x → sp (.ref x :: vs) (upd (upd H1 dx (.own x)) x (.ins C dx [])) (fun v H2 => v = .non ∧ Q (.ref x) H2) E0 := by
    funext vs H1
    rw [List.append_nil]
  show t σ H (fun vs H1 => ∀ x dx, H1 x = none → H1 dx = none → dx ≠ x → sp (.ref x :: (vs ++ [])) (upd (upd H1 dx (.own x)) x (.ins C dx [])) (fun v H2 => v = .non ∧ Q (.ref x) H2) E0)
  rw [e0]
  exact q
/-- C(..) where a local name holds the class -/
theorem pe_mkrL {i : Nat} (M : Mkr X.prog X.w X.K X.mg X.base C k sp) (hr : Room j X.A) (hk : k + 1 ≤ j) (ha : PA X (e :: es) t) (hN : X.N[i]? = some x) (hv : Vis X.env.scope x)
    (hdb : (x == ("__debug__" : Str)) = false := by decide) (hcd : (x == ("__classdict__" : Str)) = false := by decide)
    (he : starEach (e :: es) X.env = (false, eval e X.env) :: starEach es X.env := by rfl) (hpl : (backTo pos (starEach es X.env)).any (·.1) = false := by rfl) :
    PE X (.Call (.Name x p) (e :: es) [] pos) (fun σ H Q => σ[i]? = some (some (.ref C)) ∧ tMkr C sp t σ H Q) := by
  obtain ⟨f, fd, ps, F, hM, hb⟩ := M
  refine ⟨fun pins s σ H Q I h => ?_⟩
  obtain ⟨hs, ht⟩ := h
  refine wpAny_Call_Name_kw (thn ((pe_var (pos := p) hN hv hdb hcd).run pins s σ H (fun v H1 => v = .ref C ∧ H1 = H) I ⟨.ref C, hs, rfl, rfl⟩) fun u s1 ⟨v, H1, I1, r1, q1⟩ => ?_)
  obtain ⟨rfl, rfl⟩ := q1
  cases r1
  refine PySem.W.callWith_K (h₀ := X.base) I.ok.mod.kin hM.kp (thn (ha.run pos pins s1 σ _ _ I1 ht) fun us s2 ⟨vs, H2, I2, r, q⟩ => ⟨I2.kIn, ?_⟩) he hpl
  exact run_make hM F (hr.mono hk) hb .nil pass0 I2 r fun x dx h1 h2 h3 => by
    rw [List.append_nil]
    exact q x dx h1 h2 h3

/-! ### operators of an own class -/
theorem run_own (mt : Mt X.prog X.w X.K X.mg X.base C k m sp) (hr : Room j X.A) (hk : k ≤ j) {pins : List (Addr × Obj)} {s : Shared} {σ : L2.St} {H : Hp} {Q : VK} {vs : List V} {us : List Value} {f : Addr}
    (hf : PySem.W.findIn X.K (.ref C) m = some (some (.ref f))) (I : Inv X pins σ H s) (r : Vals vs us) (h : sp vs H Q E0) : wpAny (model X.prog X.w) X.A (call (.ref f) us) (EP X pins σ Q) X.xe s := by
  obtain ⟨g, fd, ps, F, hm, hb⟩ := mt
  have e := hm.at_
  rw [hf] at e
  cases e
  exact run_fn (dvs := []) (ds := []) (E := E0) (CX := CX0) F (hr.mono hk) hb .nil pass0 I r (by rw [List.append_nil]; exact h)
theorem back_of {Q : Value → Shared → Prop} {v : V} {u : Value} {s : Shared} (r : RelV v u) (q : Q u s) : PySem.W.CmpBack Q u s := by
  cases v with
  | non => cases r; exact q
  | bl b => cases r; exact q
  | int i => obtain ⟨t, rfl⟩ := r; exact q
  | str z => obtain ⟨t, rfl⟩ := r; exact q
  | byt z => obtain ⟨t, rfl⟩ := r; exact q
  | flt z => obtain ⟨t, rfl⟩ := r; exact q
  | ref a => cases r; exact q
  | ty n => cases r; exact q
theorem op_own {op : Operator} (mt : Mt X.prog X.w X.K X.mg X.base C k (PySem.dunder op.info.2) sp) (hr : Room j X.A) (hk : k ≤ j) (hc : PySem.W.selfFirst X.K C = true) : OpR X (binaryOp op) (rOwn C sp) := by
  intro pins s σ H x y u v Q I rx ry hq
  obtain ⟨a, b, dx, dy, fs, gs, rfl, rfl, ha, hb, hs⟩ := hq
  cases rx
  cases ry
  obtain ⟨mA, J, _⟩ := ins_get I.hok ha
  obtain ⟨mB, J', _⟩ := ins_get I.hok hb
  obtain ⟨od, J, _⟩ := J.look
  obtain ⟨od', J', _⟩ := J'.look
  obtain ⟨m, hF⟩ := I.fr
  obtain ⟨f, fd, ps, F, hm, hbb⟩ := id mt
  refine PySem.W.binop_K hF I.ok.mod.kin J J'.type hc hm.at_ hm.fn ?_
  refine thn (run_own (vs := [.ref a, .ref b]) mt hr hk hm.at_ I (.cons rfl (.cons rfl .nil)) hs) fun u s' ⟨z, H', I', rz, q⟩ => back_of rz ⟨z, H', I', rz, q⟩
theorem op_ownI {op : Operator} {fo ro : Option Value} (mt : Mt X.prog X.w X.K X.mg X.base C k (PySem.dunder op.info.2) sp) (hr : Room j X.A) (hk : k ≤ j) (hc : PySem.W.selfFirst X.K C = true)
    (hR : PySem.W.findIn X.K (.ref C) (dunderR op.info.2) = some none) (h1 : PySem.W.findIn X.K (.type "int") (PySem.dunder op.info.2) = some fo) (h2 : PySem.W.findIn X.K (.type "int") (dunderR op.info.2) = some ro)
    (hsub : PySem.W.subIn X.K (.type "int") (.ref C) = some false) : OpR X (binaryOp op) (rOwnI C sp) := by
  intro pins s σ H x y u v Q I rx ry hq
  obtain ⟨a, n, dx, fs, rfl, rfl, ha, hs⟩ := hq
  cases rx
  obtain ⟨t, rfl⟩ := ry
  obtain ⟨mA, J, _⟩ := ins_get I.hok ha
  obtain ⟨od, J, _⟩ := J.look
  obtain ⟨m, hF⟩ := I.fr
  obtain ⟨f, fd, ps, F, hm, hbb⟩ := id mt
  refine PySem.W.ksp_binT (T := "int") hF I.ok.mod.kin J rfl hc hm.at_ hm.fn hR (.inl rfl) h1 h2 hsub ?_
  refine thn (run_own (vs := [.ref a, .int n]) mt hr hk hm.at_ I (.cons rfl (.cons ⟨t, rfl⟩ .nil)) hs) fun u s' ⟨z, H', I', rz, q⟩ => back_of rz ⟨z, H', I', rz, q⟩
theorem un_ownNeg (mt : Mt X.prog X.w X.K X.mg X.base C k "__neg__" sp) (hr : Room j X.A) (hk : k ≤ j) : UnR X (unaryOp .USub) (rOwn1 C sp) := by
  intro pins s σ H x u Q I rx hq
  obtain ⟨a, dx, fs, rfl, ha, hs⟩ := hq
  cases rx
  obtain ⟨mA, J, _⟩ := ins_get I.hok ha
  obtain ⟨od, J, _⟩ := J.look
  obtain ⟨m, hF⟩ := I.fr
  obtain ⟨f, fd, ps, F, hm, hbb⟩ := id mt
  exact PySem.W.ksp_neg hF I.ok.mod.kin J hm.at_ hm.fn (run_own (vs := [.ref a]) mt hr hk hm.at_ I (.cons rfl .nil) hs)
theorem un_ownInv (mt : Mt X.prog X.w X.K X.mg X.base C k "__invert__" sp) (hr : Room j X.A) (hk : k ≤ j) : UnR X (unaryOp .Invert) (rOwn1 C sp) := by
  intro pins s σ H x u Q I rx hq
  obtain ⟨a, dx, fs, rfl, ha, hs⟩ := hq
  cases rx
  obtain ⟨mA, J, _⟩ := ins_get I.hok ha
  obtain ⟨od, J, _⟩ := J.look
  obtain ⟨m, hF⟩ := I.fr
  obtain ⟨f, fd, ps, F, hm, hbb⟩ := id mt
  exact PySem.W.ksp_inv hF I.ok.mod.kin J hm.at_ hm.fn (run_own (vs := [.ref a]) mt hr hk hm.at_ I (.cons rfl .nil) hs)
end
end WR

/-! ### != by object.__ne__ over an own == -/
namespace WR
open PySem PySem.W PySem.Calls PyProof.Rows Builtin
section
variable {prog : Program} {w : World} {A : Around} {E : Value → Shared → Prop} {s : Shared} {K : Frag} {x C L f : Addr} {h₀ : Heap} {m : Str → Option Value} {ox : Obj} {od : Option Obj} {b : Value}
theorem ifBound_B {M : Model} {name : Str} {id : String} {args : List Value} {Q : Option Value → Shared → Prop} (X : K.In s.heap) (I : InstAt s.heap x ox C od) (hs : findIn K (.ref C) name = some (some (.builtin id)))
    (hb : ∀ self, bindSpecial (.builtin id) self = pure (.builtin id, [self]))
    (h : wpAny M A (call (.builtin id) (.ref x :: args)) (fun v => Q (some v)) E s) : wpAny M A (callSpecialIfBound? (.ref x) name args) Q E s := by
  simp only [callSpecialIfBound?, bindSpecialIfBound?]
  refine wpAny_holding (wpAny_bind (wpAny_bind (wpAny_bind (I.type.here ((looks_findIn X hs).here ?_)))))
  refine wpAny_bind (wpAny_askSetting (wpAny_ite ?_))
  have fin : wpAny M A (call (.builtin id) ([.ref x] ++ args) >>= fun v => pure (some v)) Q E s := wpAny_bind (wpAny_mono h (fun v s' h' => wpAny_pure h') fun _ _ h' => h')
  split
  · exact wpAny_bind ((Looks.of_pure (hb _)).here (wpAny_pure (by exact fin)))
  · exact wpAny_tryCatch (wpAny_bind ((Looks.of_pure (hb _)).here (wpAny_pure (by exact fin))))
theorem ne_call {Q : Value → Shared → Prop} (hu : A.in1.units < cLine) (X : K.In s.heap) (I : InstAt s.heap x ox C od) (hm : mroIn K C (.type "object") = some true)
    (hs : findIn K (.ref C) "__eq__" = some (some (.ref f))) (hf : isFn K (.ref f) = true)
    (h : wpAny (model prog w) A.in1 (call (.ref f) [.ref x, b]) (fun v s' => ∃ k, v = .bool k ∧ Q (.bool (!k)) s') E s) : wpAny (model prog w) A (call (.builtin "object.__ne__") [.ref x, b]) Q E s := by
  refine wpAny_call (codeAny_call_builtin F.cmp_object.ne.plain F.cmpEntry_ne (check_slot (i := "object.__ne__") (owner := "object") (n := "__ne__") F.cmpKind_ne F.cmpSplit_ne (I.type.andThen (looks_mroIn X hm)) (F.cmpArgs_ne _ _) ?_))
  unfold Builtin.«object.__ne__»
  refine wpAny_bind (m := slotArgs "__ne__" 1 _) (wpAny_pure ?_)
  refine wpAny_bind (m := cRoomFor _ _) (wpAny_cRoomFor hu ?_)
  refine wpAny_bind (m := callSpecialIfBound? (.ref x) (Str.ofString "__eq__") [b]) (ifBound_K X I hs hf (wpAny_mono h (fun r s' hq => ?_) fun _ _ y => y))
  obtain ⟨k, rfl, q⟩ := hq
  exact wpAny_bind (m := truthy (.bool k)) (wpAny_truthy_bool (wpAny_pure q))
theorem ne_own {Q : Value → Shared → Prop} (hu : A.units < cLine) (hu1 : A.in1.units < cLine) (X : K.In s.heap) (I : InstAt s.heap x ox C od) (hb : Looks (model prog w) s.heap (typeOf b) (.ref C)) (hm : mroIn K C (.type "object") = some true)
    (hn : findIn K (.ref C) "__ne__" = some (some (.builtin "object.__ne__"))) (hs : findIn K (.ref C) "__eq__" = some (some (.ref f))) (hf : isFn K (.ref f) = true)
    (h : wpAny (model prog w) A.in1 (call (.ref f) [.ref x, b]) (fun v s' => ∃ k, v = .bool k ∧ Q (.bool (!k)) s') E s) : wpAny (model prog w) A (richCompare .NotEq (.ref x) b) Q E s := by
  have one : wpAny (model prog w) A (tryCompare (.ref x) (cmpInfo .NotEq).2.1 b) (fun r s' => ∃ v, r = some v ∧ Q v s') E s := by
    unfold tryCompare
    refine wpAny_bind (ifBound_B X I hn F.cmp_object.ne.bind (ne_call hu1 X I hm hs hf (wpAny_mono h (fun v s' hv => ?_) fun _ _ e => e)))
    obtain ⟨k, e, q⟩ := hv
    exact ⟨k, e, wpAny_pure ⟨_, rfl, q⟩⟩
  unfold richCompare
  simp only [oneThing_ref]
  refine wpAny_holding (wpAny_bind (wpAny_cRoomFor hu ?_))
  refine wpAny_bind (I.type.here (wpAny_bind (hb.here ?_)))
  rw [show (Value.ref C != Value.ref C) = false from by simp]
  simp only [Bool.false_eq_true, if_false]
  refine wpAny_bind (wpAny_pure ?_)
  simp only [Bool.false_eq_true, if_false]
  refine wpAny_bind (wpAny_mono one (fun r s' z => ?_) fun _ _ e => e)
  obtain ⟨v, rfl, hq⟩ := z
  exact wpAny_pure hq
end
end WR
namespace WR
open PySem PySem.Spec PyProof.Rows L2
section
variable {X : Cx} {k j : Nat} {C : Addr} {sp : Sp}
theorem op_ownNe (mt : Mt X.prog X.w X.K X.mg X.base C k "__eq__" sp) (hr : Room j X.A) (hk : k + 1 ≤ j) (hm : PySem.W.mroIn X.K C (.type "object") = some true)
    (hn : PySem.W.findIn X.K (.ref C) "__ne__" = some (some (.builtin "object.__ne__"))) : OpR X (compareOp .NotEq) (rOwnNe C sp) := by
  intro pins s σ H x y u v Q I rx ry hq
  obtain ⟨a, b, dx, dy, fs, gs, rfl, rfl, ha, hb, hs⟩ := hq
  cases rx
  cases ry
  obtain ⟨mA, J, _⟩ := ins_get I.hok ha
  obtain ⟨mB, J', _⟩ := ins_get I.hok hb
  obtain ⟨od, J, _⟩ := J.look
  obtain ⟨od', J', _⟩ := J'.look
  obtain ⟨f, fd, ps, F, hme, hbb⟩ := id mt
  have hr1 : Room k X.A.in1 := (hr.mono hk).in1
  show wpAny (model X.prog X.w) X.A (richCompare .NotEq (.ref a) (.ref b)) (EP X pins σ Q) X.xe s
  refine ne_own hr.units0 hr1.units0 I.kIn J J'.type hm hn hme.at_ hme.fn ?_
  have hl : ([Value.ref a, Value.ref b] : List Value).length = ps.length := by
    rw [← F.len _ _ _ _ hs]; rfl
  refine wpAny_call (codeAny_mono (F.run X.A.in1 X.stack s H ⟨[.ref a, .ref b], []⟩ [.ref a, .ref b] [.ref a, .ref b] _ E0 hr1 I.env0.in1 (by
    have := hbb s [.ref a, .ref b] I.kIn (by simpa using hl)
    simpa using this) (.cons rfl (.cons rfl .nil)) hs) fun r s' hq => ?_)
  cases r with
  | error e => exact False.elim hq
  | ok fl =>
    cases fl with
    | ret w =>
      obtain ⟨z, H', I', rz, kk, ez, q⟩ := I.after hq
      subst ez
      cases rz
      exact ⟨kk, rfl, .bl (!kk), H', I', rfl, q⟩
    | next => exact False.elim hq
    | brk => exact False.elim hq
    | cont => exact False.elim hq
end
end WR


set_option Elab.async false
set_option linter.all false
set_option maxRecDepth 100000
set_option maxHeartbeats 4000000
/-! K5Prog: the text by places; masks in the abstract heap; what the law's own operators read. -/
namespace WP
open PySem PySem.Spec PyProof.Rows L2 WA WR

/-! ### the text by places -/
def top (i : Nat) : Stmt := PySem.Challenge.pw_wordsalike_k74_whole_masks_go_together.main.body.getD i (.Pass ⟨0, 0, 0, 0⟩)
abbrev inMask (j : Nat) : Stmt := inClass (top 25) j

/-! ### heaps grow -/
abbrev G := @Same
theorem G.upd {H : Hp} {p : Addr} {o : HO} (h : H p = none) : Same H (upd H p o) := fun b u e => by rw [upd_ne (ne_of_none e h)]; exact e
theorem G.sqT {K : PySem.W.Frag} {H H' : Hp} {a : Addr} {xs : List V} (e : Same H H') (h : SqT K H a xs) : SqT K H' a xs :=
  h.elim (fun h => .inl (h.elim (fun h => .inl (e _ _ h)) fun ⟨o, h⟩ => .inr ⟨o, e _ _ h⟩)) fun h => .inr h

/-! ### masks in the heap -/
def mf (w : Nat) (lo hi : Int) : List (Str × V) := putF "high_member" (.int hi) (putF "low_member" (.int lo) (putF "own_width" (.int w) []))
theorem n1 : ¬ (("low_member" : Str) = "own_width") := by decide +kernel
theorem n2 : ¬ (("high_member" : Str) = "own_width") := by decide +kernel
theorem n3 : ¬ (("high_member" : Str) = "low_member") := by decide +kernel
theorem mf_w (w : Nat) (lo hi : Int) : (mf w lo hi).lookup ("own_width" : Str) = some (.int w) := by
  unfold mf
  rw [lookup_putF, if_neg (fun e => n2 e.symm), lookup_putF, if_neg (fun e => n1 e.symm), lookup_putF, if_pos rfl]
theorem mf_l (w : Nat) (lo hi : Int) : (mf w lo hi).lookup ("low_member" : Str) = some (.int lo) := by
  unfold mf
  rw [lookup_putF, if_neg (fun e => n3 e.symm), lookup_putF, if_pos rfl]
theorem mf_h (w : Nat) (lo hi : Int) : (mf w lo hi).lookup ("high_member" : Str) = some (.int hi) := by
  unfold mf
  rw [lookup_putF, if_pos rfl]
theorem mf_no {w : Nat} {lo hi : Int} {m : Str} (h1 : m ≠ "own_width") (h2 : m ≠ "low_member") (h3 : m ≠ "high_member") : (mf w lo hi).lookup m = none := by
  unfold mf
  rw [lookup_putF, if_neg h3, lookup_putF, if_neg h2, lookup_putF, if_neg h1]
  rfl

structure IsM (C : Addr) (H : Hp) (p : Addr) (w : Nat) (lo hi : Int) : Prop where
  wd : 1 ≤ w ∧ w ≤ 64
  msk : Msk w lo hi
  at_ : ∃ dx, H p = some (.ins C dx (mf w lo hi))
theorem IsM.mono {C : Addr} {H H' : Hp} {p : Addr} {w : Nat} {lo hi : Int} (m : IsM C H p w lo hi) (s : Same H H') : IsM C H' p w lo hi :=
  ⟨m.wd, m.msk, let ⟨dx, e⟩ := m.at_; ⟨dx, s _ _ e⟩⟩

/-! ### what of the text is asked -/
structure Txt (K : PySem.W.Frag) (mg : Str → Option Value) (C : Addr) : Prop where
  cl : Cls K C
  nW : NoAttr K C "own_width"
  nL : NoAttr K C "low_member"
  nH : NoAttr K C "high_member"
  sf : PySem.W.selfFirst K C = true
  mro : PySem.W.mroIn K C (.type "object") = some true
  ne : PySem.W.findIn K (.ref C) "__ne__" = some (some (.builtin "object.__ne__"))
  shR : PySem.W.findIn K (.ref C) "__rlshift__" = some none
  sh1 : ∃ fo, PySem.W.findIn K (.type "int") "__lshift__" = some fo
  sh2 : ∃ ro, PySem.W.findIn K (.type "int") "__rlshift__" = some ro
  shS : PySem.W.subIn K (.type "int") (.ref C) = some false
  cA : PySem.W.findIn K (.ref C) "__class__" = some (some (.builtin "object.__class__"))
  cN : PySem.W.specialIn K (.builtin "object.__class__") "__get__" = some (some (.builtin "getset_descriptor.__get__"))
  cT : PySem.W.takesIn K (.builtin "object.__class__") = some true
  mgC : mg "Mask" = some (.ref C)
  kC : PySem.W.keepIn K (.ref C) = true
  wid : ∃ t, mg "WIDTH" = some (.int 64 t)
  isi : mg "isinstance" = none
  int : mg "int" = none
  bool : mg "bool" = none
  len : mg "len" = none
  list : mg "list" = none
  sum : mg "sum" = none
  zip : mg "zip" = none
  sorted : mg "sorted" = none
  enum : mg "enumerate" = none
  range : mg "range" = none
  min : mg "min" = none
theorem Txt.ty {K : PySem.W.Frag} {mg : Str → Option Value} {C : Addr} (T : Txt K mg C) {H : Hp} {a dx : Addr} {fs : List (Str × V)} (e : H a = some (.ins C dx fs)) : TyX K H (.ref a) (.ref C) :=
  .base (.ins e T.cl T.cA T.cN T.cT T.mro)

/-! ### promises by what an operator reads -/
abbrev R1 := V → Hp → VK → Prop
def sp2 (r : R2) : Sp := fun vs H Q _ => ∃ x y, vs = [x, y] ∧ r x y H Q
def sp1 (r : R1) : Sp := fun vs H Q _ => ∃ x, vs = [x] ∧ r x H Q
/-- a field, a property -/
def rI1 (C : Addr) (f : Nat → Int → Int → Int) : R1 := fun x H Q => ∃ a w lo hi, x = .ref a ∧ IsM C H a w lo hi ∧ Q (.int (f w lo hi)) H
def tI (C : Addr) (f : Nat → Int → Int → Int) (ta : TE) : TE := fun σ H Q => ta σ H fun x H1 => rI1 C f x H1 Q
abbrev fW : Nat → Int → Int → Int := fun w _ _ => w
abbrev fL : Nat → Int → Int → Int := fun _ lo _ => lo
abbrev fH : Nat → Int → Int → Int := fun _ _ hi => hi
/-- a new mask of exactly these ends -/
def NewM (C : Addr) (w : Nat) (lo hi : Int) (H : Hp) (Q : VK) : Prop := ∀ p H', Same H H' → IsM C H' p w lo hi → Q (.ref p) H'
/-- a new mask, the narrowest one of S -/
def NewN (C : Addr) (w : Nat) (S : Int → Prop) (H : Hp) (Q : VK) : Prop := ∀ p H' lo hi, Same H H' → IsM C H' p w lo hi → Nar w S lo hi → Q (.ref p) H'
def rNN (C : Addr) (S : Nat → Int → Int → Int → Int → Int → Prop) : R2 := fun x y H Q => ∃ a b w l1 h1 l2 h2, x = .ref a ∧ y = .ref b ∧ IsM C H a w l1 h1 ∧ IsM C H b w l2 h2 ∧ NewN C w (S w l1 h1 l2 h2) H Q
def rMM (C : Addr) (fl fh : Int → Int → Int → Int → Int) : R2 := fun x y H Q => ∃ a b w l1 h1 l2 h2, x = .ref a ∧ y = .ref b ∧ IsM C H a w l1 h1 ∧ IsM C H b w l2 h2 ∧ NewM C w (fl l1 h1 l2 h2) (fh l1 h1 l2 h2) H Q
def rNeg (C : Addr) : R1 := fun x H Q => ∃ a w l1 h1, x = .ref a ∧ IsM C H a w l1 h1 ∧ NewN C w (SNeg w l1 h1) H Q
def iv (w : Nat) (x : Int) : Int := Builtin.bitXor (2 ^ w - 1) x
def rInv (C : Addr) : R1 := fun x H Q => ∃ a w l1 h1, x = .ref a ∧ IsM C H a w l1 h1 ∧ NewM C w (iv w h1) (iv w l1) H Q
def shl (w : Nat) (x : Int) (s : Nat) : Int := Builtin.bitAnd (x * 2 ^ s) (2 ^ w - 1)
def rShl (C : Addr) : R2 := fun x y H Q => ∃ a w l1 h1, ∃ s : Nat, x = .ref a ∧ y = .int s ∧ s < w ∧ IsM C H a w l1 h1 ∧ NewM C w (shl w l1 s) (shl w h1 s) H Q
abbrev fAnd : Int → Int → Int → Int → Int := fun l1 h1 l2 h2 => Builtin.bitAnd l1 l2
abbrev gAnd : Int → Int → Int → Int → Int := fun l1 h1 l2 h2 => Builtin.bitAnd h1 h2
abbrev fOr : Int → Int → Int → Int → Int := fun l1 h1 l2 h2 => Builtin.bitOr l1 l2
abbrev gOr : Int → Int → Int → Int → Int := fun l1 h1 l2 h2 => Builtin.bitOr h1 h2
abbrev fXor : Int → Int → Int → Int → Int := fun l1 h1 l2 h2 => woLo (Builtin.bitXor l1 l2) (opn2 l1 h1 l2 h2)
abbrev gXor : Int → Int → Int → Int → Int := fun l1 h1 l2 h2 => woHi (Builtin.bitXor l1 l2) (opn2 l1 h1 l2 h2)
/-- == -/
def rEqM (C : Addr) : R2 := fun x y H Q => ∃ a b w l1 h1 w' l2 h2, x = .ref a ∧ y = .ref b ∧ IsM C H a w l1 h1 ∧ IsM C H b w' l2 h2 ∧ ∀ k, (k = true ↔ w = w' ∧ l1 = l2 ∧ h1 = h2) → Q (.bl k) H
/-- != of two equal masks -/
def rNeM (C : Addr) : R2 := fun x y H Q => ∃ a b w lo hi, x = .ref a ∧ y = .ref b ∧ IsM C H a w lo hi ∧ IsM C H b w lo hi ∧ Q (.bl false) H
/-- the methods -/
def rWtn (C : Addr) : R2 := fun x y H Q => ∃ a b w l1 h1 l2 h2, x = .ref a ∧ y = .ref b ∧ IsM C H a w l1 h1 ∧ IsM C H b w l2 h2 ∧ ∀ k, (k = true ↔ Wtn l1 h1 l2 h2) → Q (.bl k) H
abbrev gUni : Int → Int → Int → Int → Int := fun l1 h1 l2 h2 => Builtin.bitOr h1 h2
def apart (l1 h1 l2 h2 : Int) : Prop := Builtin.bitAnd (Builtin.bitOr l1 l2) (Builtin.bitNot (Builtin.bitAnd h1 h2)) ≠ 0
def rCom (C : Addr) : R2 := fun x y H Q => ∃ a b w l1 h1 l2 h2, x = .ref a ∧ y = .ref b ∧ IsM C H a w l1 h1 ∧ IsM C H b w l2 h2 ∧
  (apart l1 h1 l2 h2 → Q .non H) ∧ (¬ apart l1 h1 l2 h2 → NewM C w (Builtin.bitOr l1 l2) (Builtin.bitAnd h1 h2) H Q)
def rOpn (C : Addr) : R1 := fun x H Q => ∃ a w lo hi, x = .ref a ∧ IsM C H a w lo hi ∧ Q (.int (Builtin.bitXor lo hi)) H
def rNeedS (C : Addr) : R2 := fun x y H Q => ∃ a w lo hi, ∃ s : Nat, x = .ref a ∧ y = .int s ∧ s < w ∧ IsM C H a w lo hi ∧ Q .non H

/-! ### terms of a sum in the heap -/
def TmV (K : PySem.W.Frag) (C : Addr) (H : Hp) (w : Nat) : List V → List Trm → Prop
  | [], [] => True
  | v :: vs, t :: ts => (∃ p m, v = .ref p ∧ SqT K H p [.int t.1, .ref m] ∧ IsM C H m w t.2.1 t.2.2) ∧ TmV K C H w vs ts
  | _, _ => False
def TmA (K : PySem.W.Frag) (C : Addr) (H : Hp) (t : Addr) (w : Nat) (ts : List Trm) : Prop := ∃ vs, SqT K H t vs ∧ TmV K C H w vs ts
theorem TmV.mono {K : PySem.W.Frag} {C : Addr} {H H' : Hp} {w : Nat} (s : Same H H') : ∀ {vs : List V} {ts : List Trm}, TmV K C H w vs ts → TmV K C H' w vs ts
  | [], [], _ => trivial
  | [], _ :: _, h => h.elim
  | _ :: _, [], h => h.elim
  | _ :: _, _ :: _, ⟨⟨p, m, e, q, i⟩, h⟩ => ⟨⟨p, m, e, G.sqT s q, i.mono s⟩, TmV.mono s h⟩
theorem TmV.len {K : PySem.W.Frag} {C : Addr} {H : Hp} {w : Nat} : ∀ {vs : List V} {ts : List Trm}, TmV K C H w vs ts → vs.length = ts.length
  | [], [], _ => rfl
  | [], _ :: _, h => h.elim
  | _ :: _, [], h => h.elim
  | _ :: vs, _ :: ts, h => by rw [List.length_cons, List.length_cons, TmV.len h.2]
theorem TmV.get {K : PySem.W.Frag} {C : Addr} {H : Hp} {w : Nat} : ∀ {vs : List V} {ts : List Trm} {i : Nat} {v : V}, TmV K C H w vs ts → vs[i]? = some v →
    ∃ t, ts[i]? = some t ∧ ∃ p m, v = .ref p ∧ SqT K H p [.int t.1, .ref m] ∧ IsM C H m w t.2.1 t.2.2
  | [], _, i, v, _, e => by simp at e
  | _ :: _, [], _, _, h, _ => h.elim
  | x :: vs, t :: ts, 0, v, h, e => by
    simp at e
    subst e
    exact ⟨t, rfl, h.1⟩
  | x :: vs, t :: ts, i + 1, v, h, e => by
    obtain ⟨u, hu, r⟩ := TmV.get (i := i) h.2 (by simpa using e)
    exact ⟨u, by simpa using hu, r⟩
theorem TmV.msks {K : PySem.W.Frag} {C : Addr} {H : Hp} {w : Nat} : ∀ {vs : List V} {ts : List Trm}, TmV K C H w vs ts → Msks w ts
  | [], [], _ => fun t ht => by simp at ht
  | [], _ :: _, h => h.elim
  | _ :: _, [], h => h.elim
  | _ :: vs, t :: ts, ⟨⟨p, m, e, q, i⟩, h⟩ => fun u hu => by
    rcases List.mem_cons.mp hu with rfl | hu
    · exact i.msk
    · exact TmV.msks h u hu
theorem TmA.mono {K : PySem.W.Frag} {C : Addr} {H H' : Hp} {t : Addr} {w : Nat} {ts : List Trm} (h : TmA K C H t w ts) (s : Same H H') : TmA K C H' t w ts :=
  let ⟨vs, a, b⟩ := h; ⟨vs, G.sqT s a, b.mono s⟩

/-! ### the promises of the program's defs -/
def spWithin : Sp := fun vs H Q _ => ∃ v lo hi : Int, vs = [.int v, .int lo, .int hi] ∧ Q (.bl (decide (lo ≤ v) && decide (v ≤ hi))) H
def spWidth : Sp := fun vs H Q _ => ∃ v : Int, vs = [.int v] ∧ Q (.bl (decide (1 ≤ v) && decide (v ≤ 64))) H
def spSize : Sp := fun vs H Q _ => ∃ w : Nat, vs = [.int w] ∧ w ≤ 1000 ∧ Q (.int (2 ^ w)) H
def spWord : Sp := fun vs H Q _ => ∃ v : Int, ∃ w : Nat, vs = [.int v, .int w] ∧ w ≤ 1000 ∧ Q (.bl (decide (0 ≤ v) && decide (v ≤ 2 ^ w - 1))) H
def spNeed : Sp := fun vs H Q _ => ∃ a : Int, vs = [.int a, .int a] ∧ Q .non H
def spInit (C : Addr) : Sp := fun vs H Q _ => ∃ (p dx : Addr) (w : Nat) (lo hi : Int), vs = [.ref p, .int w, .int lo, .int hi] ∧ (1 ≤ w ∧ w ≤ 64) ∧ Msk w lo hi ∧ H p = some (.ins C dx []) ∧
  ∀ H', (∀ b o, b ≠ p → H b = some o → H' b = some o) → H' p = some (.ins C dx (mf w lo hi)) → Q .non H'
/-- with_open(width, least, open_ones) -/
def spOpen (C : Addr) : Sp := fun vs H Q _ => ∃ (w : Nat) (least opn : Int), vs = [.int w, .int least, .int opn] ∧ (1 ≤ w ∧ w ≤ 64) ∧ Msk w (woLo least opn) (woHi least opn) ∧ NewM C w (woLo least opn) (woHi least opn) H Q
def spBetw (C : Addr) : Sp := fun vs H Q _ => ∃ (w : Nat) (lows highs opn : Int), vs = [.int w, .int lows, .int highs, .int opn] ∧ (1 ≤ w ∧ w ≤ 64) ∧ Msk w (sbLo w lows highs opn) (sbHi w lows highs opn) ∧
  NewM C w (sbLo w lows highs opn) (sbHi w lows highs opn) H Q
/-- Mask.narrowest(width, (word,)) -/
def spNarr (K : PySem.W.Frag) (C : Addr) : Sp := fun vs H Q _ => ∃ (w : Nat) (t : Addr) (x : Int), vs = [.ref C, .int w, .ref t] ∧ (1 ≤ w ∧ w ≤ 64) ∧ InW w x ∧ SqT K H t [.int x] ∧ NewM C w x x H Q
/-- a list of ints, a list of tuples of ints, in the heap -/
def LstI (H : Hp) (p : Addr) (ns : List Int) : Prop := H p = some (.lst (ns.map V.int))
def TupsV (K : PySem.W.Frag) (H : Hp) : List V → List (List Int) → Prop
  | [], [] => True
  | v :: vs, b :: bs => (∃ p, v = .ref p ∧ SqT K H p (b.map V.int)) ∧ TupsV K H vs bs
  | _, _ => False
def spBitC (C : Addr) : Sp := fun vs H Q _ => ∃ (m : Addr) (i w : Nat) (lo hi : Int), vs = [.ref m, .int i] ∧ IsM C H m w lo hi ∧ ∀ p H', Same H H' → H p = none → LstI H' p (ch1 i lo hi) → Q (.ref p) H'
def spAllC (K : PySem.W.Frag) (C : Addr) : Sp := fun vs H Q _ => ∃ (t : Addr) (i w : Nat) (ts : List Trm), vs = [.ref t, .int i] ∧ TmA K C H t w ts ∧ ts.length ≤ 4 ∧
  ∀ p H' us, Same H H' → H p = none → H' p = some (.lst us) → TupsV K H' us (chs ts i) → Q (.ref p) H'
def spCarr (K : PySem.W.Frag) (C : Addr) : Sp := fun vs H Q _ => ∃ (t b : Addr) (n c : Int) (i w : Nat) (ts : List Trm) (bs : List Int), vs = [.ref t, .int n, .int i, .int c, .ref b] ∧ TmA K C H t w ts ∧ ts.length ≤ 4 ∧
  (∀ u ∈ ts, -1000 ≤ u.1 ∧ u.1 ≤ 1000) ∧ i ≤ 64 ∧ SqT K H b (bs.map V.int) ∧ bs.length = ts.length ∧ ∀ H', Same H H' → Q (.int (tot ts n i c bs)) H'
/-- a dict of carries: its keys are all that come there -/
def RowA (H : Hp) (d : Addr) (ks : List Int) : Prop := ∃ kvs : List (Key × V), H d = some (.dK kvs) ∧ kvs.map (·.1) = ks.map Sum.inl ∧ ks.Nodup
def RowsV (H : Hp) (w : Nat) (ts : List Trm) (n : Int) : Nat → List V → Prop
  | _, [] => True
  | i, v :: vs => (∃ d ks, v = .ref d ∧ RowA H d ks ∧ ∀ c, c ∈ ks ↔ Car w ts n i c) ∧ RowsV H w ts n (i + 1) vs
def Small (ts : List Trm) : Prop := ts ≠ [] ∧ ts.length ≤ 4 ∧ fpos ts + fneg ts ≤ 1000
def spRows (K : PySem.W.Frag) (C : Addr) : Sp := fun vs H Q _ => ∃ (t : Addr) (n : Int) (w : Nat) (ts : List Trm), vs = [.ref t, .int n] ∧ TmA K C H t w ts ∧ Small ts ∧
  ∀ p H' us, Same H H' → H p = none → H' p = some (.lst us) → us.length = w → RowsV H' w ts n 0 us → Q (.ref p) H'
def spWays (K : PySem.W.Frag) (C : Addr) : Sp := fun vs H Q _ => ∃ (t d : Addr) (n : Int) (i w : Nat) (ts : List Trm) (ks : List Int), vs = [.ref t, .int n, .int i, .ref d] ∧ TmA K C H t w ts ∧ Small ts ∧ i < w ∧ RowA H d ks ∧
  ∀ p H' ws, Same H H' → H p = none → RowA H' p ws → (∀ v, v ∈ ws ↔ ∃ c bs, c ∈ ks ∧ Chs i ts bs ∧ v = tot ts n i c bs % 2) → Q (.ref p) H'
def spSum (K : PySem.W.Frag) (C : Addr) : Sp := fun vs H Q _ => ∃ (t : Addr) (n : Int) (w : Nat) (ts : List Trm), vs = [.ref t, .int n] ∧ TmA K C H t w ts ∧ Small ts ∧ NewN C w (SSum w ts n) H Q

/-! ### rules -/
section
variable {X : Cx} {k j : Nat} {C : Addr} {e o : Expr} {es : List Expr} {te ta : TE} {t : TA} {x m : Str} {p pos apos : Pos} {r : R2} {r1 : R1}
theorem pe_fI {f : Nat → Int → Int → Int} {x : Str} (hl : ∀ w lo hi, (mf w lo hi).lookup x = some (.int (f w lo hi))) (he : PE X e ta) (cl : Cls X.K C) (n : NoAttr X.K C x) (hb : attributeBase e x X.env (eval e X.env) = eval e X.env) :
    PE X (.Attribute e x pos) (tI C f ta) := by
  refine ⟨fun pins s σ H Q I h => ?_⟩
  refine attr_of hb (thn (he.run pins s σ H _ I h) fun u s1 ⟨x, H1, I1, rx, a, w, lo, hi, ex, hm, q⟩ => ?_)
  subst ex
  obtain rfl : u = Value.ref a := rx
  obtain ⟨dx, ea⟩ := hm.at_
  exact getattr_ok I1 ea cl n (hl w lo hi) fun u' s2 I2 ru => ⟨_, H1, I2, ru, q⟩
theorem pe_fW (he : PE X e ta) (T : Txt X.K X.mg C) (hb : attributeBase e "own_width" X.env (eval e X.env) = eval e X.env := by rfl) : PE X (.Attribute e "own_width" pos) (tI C fW ta) := pe_fI mf_w he T.cl T.nW hb
theorem pe_fL (he : PE X e ta) (T : Txt X.K X.mg C) (hb : attributeBase e "low_member" X.env (eval e X.env) = eval e X.env := by rfl) : PE X (.Attribute e "low_member" pos) (tI C fL ta) := pe_fI mf_l he T.cl T.nL hb
theorem pe_fH (he : PE X e ta) (T : Txt X.K X.mg C) (hb : attributeBase e "high_member" X.env (eval e X.env) = eval e X.env := by rfl) : PE X (.Attribute e "high_member" pos) (tI C fH ta) := pe_fI mf_h he T.cl T.nH hb
/-- a property of a mask -/
theorem pe_pI {f : Nat → Int → Int → Int} (he : PE X e ta) (T : Txt X.K X.mg C) (pr : Prp X.prog X.w X.K X.mg X.base C k m (sp1 (rI1 C f))) (hr : Room j X.A) (hk : k + 1 ≤ j) (hb : attributeBase e m X.env (eval e X.env) = eval e X.env := by rfl) :
    PE X (.Attribute e m pos) (tI C f ta) := by
  obtain ⟨p, g, fd, ps, F, hp, hbb⟩ := pr
  refine ⟨fun pins s σ H Q I h => ?_⟩
  refine attr_of hb (thn (he.run pins s σ H _ I h) fun u s1 ⟨x, H1, I1, rx, q⟩ => ?_)
  obtain ⟨a, w, lo, hi, ex, hm, _⟩ := id q
  subst ex
  obtain rfl : u = Value.ref a := rx
  obtain ⟨dx, ea⟩ := hm.at_
  exact getprop_ok (dvs := []) (ds := []) (E := E0) (CX := CX0) I1 ea T.cl hp F (hr.mono hk) hbb .nil pass0 ⟨.ref a, rfl, q⟩
/-- a op b of masks -/
theorem op_M {op : Operator} (mt : Mt X.prog X.w X.K X.mg X.base C k (PySem.dunder op.info.2) (sp2 r)) (T : Txt X.K X.mg C) (hr : Room j X.A) (hk : k ≤ j)
    (hI : ∀ x y H Q, r x y H Q → ∃ a b w l1 h1 w' l2 h2, x = .ref a ∧ y = .ref b ∧ IsM C H a w l1 h1 ∧ IsM C H b w' l2 h2) : OpR X (binaryOp op) r := by
  intro pins s σ H x y u v Q I rx ry h
  obtain ⟨a, b, w, l1, h1, w', l2, h2, e1, e2, m1, m2⟩ := hI x y H Q h
  obtain ⟨dx, ea⟩ := m1.at_
  obtain ⟨dy, eb⟩ := m2.at_
  exact op_own mt hr hk T.sf pins s σ H x y u v Q I rx ry ⟨a, b, dx, dy, _, _, e1, e2, ea, eb, x, y, rfl, h⟩
theorem op_add' {S : Nat → Int → Int → Int → Int → Int → Prop} (mt : Mt X.prog X.w X.K X.mg X.base C k "__add__" (sp2 (rNN C S))) (T : Txt X.K X.mg C) (hr : Room j X.A) (hk : k ≤ j) : OpR X (binaryOp .Add) (rNN C S) :=
  op_M (op := .Add) mt T hr hk fun x y H Q h => let ⟨a, b, w, l1, h1, l2, h2, e1, e2, m1, m2, _⟩ := h; ⟨a, b, w, l1, h1, w, l2, h2, e1, e2, m1, m2⟩
theorem op_sub' {S : Nat → Int → Int → Int → Int → Int → Prop} (mt : Mt X.prog X.w X.K X.mg X.base C k "__sub__" (sp2 (rNN C S))) (T : Txt X.K X.mg C) (hr : Room j X.A) (hk : k ≤ j) : OpR X (binaryOp .Sub) (rNN C S) :=
  op_M (op := .Sub) mt T hr hk fun x y H Q h => let ⟨a, b, w, l1, h1, l2, h2, e1, e2, m1, m2, _⟩ := h; ⟨a, b, w, l1, h1, w, l2, h2, e1, e2, m1, m2⟩
theorem op_and' {f g : Int → Int → Int → Int → Int} (mt : Mt X.prog X.w X.K X.mg X.base C k "__and__" (sp2 (rMM C f g))) (T : Txt X.K X.mg C) (hr : Room j X.A) (hk : k ≤ j) : OpR X (binaryOp .BitAnd) (rMM C f g) :=
  op_M (op := .BitAnd) mt T hr hk fun x y H Q h => let ⟨a, b, w, l1, h1, l2, h2, e1, e2, m1, m2, _⟩ := h; ⟨a, b, w, l1, h1, w, l2, h2, e1, e2, m1, m2⟩
theorem op_or' {f g : Int → Int → Int → Int → Int} (mt : Mt X.prog X.w X.K X.mg X.base C k "__or__" (sp2 (rMM C f g))) (T : Txt X.K X.mg C) (hr : Room j X.A) (hk : k ≤ j) : OpR X (binaryOp .BitOr) (rMM C f g) :=
  op_M (op := .BitOr) mt T hr hk fun x y H Q h => let ⟨a, b, w, l1, h1, l2, h2, e1, e2, m1, m2, _⟩ := h; ⟨a, b, w, l1, h1, w, l2, h2, e1, e2, m1, m2⟩
theorem op_xor' {f g : Int → Int → Int → Int → Int} (mt : Mt X.prog X.w X.K X.mg X.base C k "__xor__" (sp2 (rMM C f g))) (T : Txt X.K X.mg C) (hr : Room j X.A) (hk : k ≤ j) : OpR X (binaryOp .BitXor) (rMM C f g) :=
  op_M (op := .BitXor) mt T hr hk fun x y H Q h => let ⟨a, b, w, l1, h1, l2, h2, e1, e2, m1, m2, _⟩ := h; ⟨a, b, w, l1, h1, w, l2, h2, e1, e2, m1, m2⟩
theorem op_shl' (mt : Mt X.prog X.w X.K X.mg X.base C k "__lshift__" (sp2 (rShl C))) (T : Txt X.K X.mg C) (hr : Room j X.A) (hk : k ≤ j) : OpR X (binaryOp .LShift) (rShl C) := by
  intro pins s σ H x y u v Q I rx ry h
  obtain ⟨a, w, l1, h1, sh, e1, e2, hs, m1, _⟩ := id h
  obtain ⟨dx, ea⟩ := m1.at_
  obtain ⟨fo, h3⟩ := T.sh1
  obtain ⟨ro, h4⟩ := T.sh2
  exact op_ownI (op := .LShift) mt hr hk T.sf T.shR h3 h4 T.shS pins s σ H x y u v Q I rx ry ⟨a, sh, dx, _, e1, e2, ea, x, y, rfl, h⟩
theorem un_neg' (mt : Mt X.prog X.w X.K X.mg X.base C k "__neg__" (sp1 (rNeg C))) (hr : Room j X.A) (hk : k ≤ j) : UnR X (unaryOp .USub) (rNeg C) := by
  intro pins s σ H x u Q I rx h
  obtain ⟨a, w, l1, h1, e1, m1, _⟩ := id h
  obtain ⟨dx, ea⟩ := m1.at_
  exact un_ownNeg mt hr hk pins s σ H x u Q I rx ⟨a, dx, _, e1, ea, x, rfl, h⟩
theorem un_inv' (mt : Mt X.prog X.w X.K X.mg X.base C k "__invert__" (sp1 (rInv C))) (hr : Room j X.A) (hk : k ≤ j) : UnR X (unaryOp .Invert) (rInv C) := by
  intro pins s σ H x u Q I rx h
  obtain ⟨a, w, l1, h1, e1, m1, _⟩ := id h
  obtain ⟨dx, ea⟩ := m1.at_
  exact un_ownInv mt hr hk pins s σ H x u Q I rx ⟨a, dx, _, e1, ea, x, rfl, h⟩
theorem op_ne' (mt : Mt X.prog X.w X.K X.mg X.base C k "__eq__" (sp2 (rEqM C))) (T : Txt X.K X.mg C) (hr : Room j X.A) (hk : k + 1 ≤ j) : OpR X (compareOp .NotEq) (rNeM C) := by
  intro pins s σ H x y u v Q I rx ry h
  obtain ⟨a, b, w, lo, hi, e1, e2, m1, m2, q⟩ := h
  obtain ⟨dx, ea⟩ := m1.at_
  obtain ⟨dy, eb⟩ := m2.at_
  refine op_ownNe mt hr hk T.mro T.ne pins s σ H x y u v Q I rx ry ⟨a, b, dx, dy, _, _, e1, e2, ea, eb, x, y, rfl, a, b, w, lo, hi, w, lo, hi, e1, e2, m1, m2, fun k hk => ⟨k, rfl, ?_⟩⟩
  rw [hk.mpr ⟨rfl, rfl, rfl⟩]
  exact q
/-- o.m(e) of a mask -/
def tM2 (C : Addr) (r : R2) (ta : TE) (t : TA) : TE := fun σ H Q => ta σ H fun x H1 => (∃ a w lo hi, x = .ref a ∧ IsM C H1 a w lo hi) ∧ t σ H1 fun vs H2 => ∃ y, vs = [y] ∧ r x y H2 Q
theorem pe_m2 {pl : Sem Bool} (he : PE X o ta) (T : Txt X.K X.mg C) (mt : Mt X.prog X.w X.K X.mg X.base C k m (sp2 r)) (hr : Room j X.A) (hk : k ≤ j) (ha : PA X (e :: es) t)
    (hno : m ≠ "own_width" ∧ m ≠ "low_member" ∧ m ≠ "high_member" := by decide +kernel)
    (hst : starEach (e :: es) X.env = (false, eval e X.env) :: starEach es X.env := by rfl) (hpl : (backTo pos (starEach es X.env)).any (·.1) = false := by rfl)
    (ht : eval (.Call (.Attribute o m apos) (e :: es) [] pos) X.env = (do
      let ov ← eval o X.env
      standAt apos.atName
      let (f, first) ← holding [ov] (getMethod ov m pl)
      callWith pos f first (backTo pos (starEach (e :: es) X.env)) (backToKw pos (keywordEach [] X.env))) := by rfl) :
    PE X (.Call (.Attribute o m apos) (e :: es) [] pos) (tM2 C r ta t) := by
  obtain ⟨f, fd, ps, F, hm, hb⟩ := mt
  refine ⟨fun pins s σ H Q I h => ?_⟩
  refine PySem.W.methodCall_KW (pl := pl) (thn (he.run pins s σ H _ I h) fun u s1 ⟨x, H1, I1, rx, ⟨a, w, lo, hi, ex, hM⟩, q⟩ => ?_) ht
  subst ex
  obtain rfl : u = Value.ref a := rx
  obtain ⟨dx, ea⟩ := hM.at_
  refine getmeth_ok I1 ea T.cl hm (mf_no hno.1 hno.2.1 hno.2.2) ?_
  refine PySem.W.callWith_K (first := [.ref a]) (h₀ := X.base) I.ok.mod.kin hm.kp (thn (ha.run pos pins s1 σ H1 _ I1 q) fun us s2 ⟨vs, H2, I2, rv, y, ey, q2⟩ => ⟨I2.kIn, ?_⟩) hst hpl
  subst ey
  exact run_fn (us := .ref a :: us) (vs := [.ref a, y]) (dvs := []) (ds := []) (E := E0) (CX := CX0) F (hr.mono hk) hb .nil pass0 I2 (.cons rfl rv) ⟨.ref a, y, rfl, q2⟩
def tM1 (C : Addr) (r : R1) (ta : TE) : TE := fun σ H Q => ta σ H fun x H1 => (∃ a w lo hi, x = .ref a ∧ IsM C H1 a w lo hi) ∧ r x H1 Q
theorem pe_m1' {pl : Sem Bool} (he : PE X o ta) (T : Txt X.K X.mg C) (mt : Mt X.prog X.w X.K X.mg X.base C k m (sp1 r1)) (hr : Room j X.A) (hk : k ≤ j)
    (hno : m ≠ "own_width" ∧ m ≠ "low_member" ∧ m ≠ "high_member" := by decide +kernel)
    (ht : eval (.Call (.Attribute o m apos) [] [] pos) X.env = (do
      let ov ← eval o X.env
      standAt apos.atName
      let (f, first) ← holding [ov] (getMethod ov m pl)
      callWith pos f first (backTo pos (starEach [] X.env)) (backToKw pos (keywordEach [] X.env))) := by rfl) :
    PE X (.Call (.Attribute o m apos) [] [] pos) (tM1 C r1 ta) := by
  obtain ⟨f, fd, ps, F, hm, hb⟩ := mt
  refine ⟨fun pins s σ H Q I h => ?_⟩
  refine PySem.W.methodCall_KW (pl := pl) (thn (he.run pins s σ H _ I h) fun u s1 ⟨x, H1, I1, rx, ⟨a, w, lo, hi, ex, hM⟩, q⟩ => ?_) ht
  subst ex
  obtain rfl : u = Value.ref a := rx
  obtain ⟨dx, ea⟩ := hM.at_
  refine getmeth_ok I1 ea T.cl hm (mf_no hno.1 hno.2.1 hno.2.2) ?_
  exact PySem.W.callWith_K0 (first := [.ref a]) I1.kIn hm.kp (run_fn (us := [.ref a]) (vs := [.ref a]) (dvs := []) (ds := []) (E := E0) (CX := CX0) F (hr.mono hk) hb .nil pass0 I1 (.cons rfl .nil) ⟨.ref a, rfl, q⟩)
/-- Mask(w, lo, hi) -/
def tNewM (C : Addr) (t : TA) : TE := fun σ H Q => t σ H fun vs H1 => ∃ (w : Nat) (lo hi : Int), vs = [.int w, .int lo, .int hi] ∧ (1 ≤ w ∧ w ≤ 64) ∧ Msk w lo hi ∧ NewM C w lo hi H1 Q
theorem newM_ok {w : Nat} {lo hi : Int} {H : Hp} {Q : VK} (hw : 1 ≤ w ∧ w ≤ 64) (hm : Msk w lo hi) (q : NewM C w lo hi H Q) : ∀ x dx, H x = none → H dx = none → dx ≠ x →
    spInit C (.ref x :: ([.int w, .int lo, .int hi] ++ [])) (upd (upd H dx (.own x)) x (.ins C dx [])) (fun v H2 => v = .non ∧ Q (.ref x) H2) E0 := fun x dx h1 h2 h3 => by
  refine ⟨x, dx, w, lo, hi, rfl, hw, hm, upd_same, fun H' k e => ⟨rfl, q x H' (fun b u eb => ?_) ⟨hw, hm, dx, e⟩⟩⟩
  have nx := ne_of_none eb h1
  exact k b u nx (by rw [upd_ne nx, upd_ne (ne_of_none eb h2)]; exact eb)
theorem pe_M (M : Mkr X.prog X.w X.K X.mg X.base C k (spInit C)) (T : Txt X.K X.mg C) (hr : Room j X.A) (hk : k + 1 ≤ j) (hg : Gl X "Mask") (ha : PA X (e :: es) t)
    (he : starEach (e :: es) X.env = (false, eval e X.env) :: starEach es X.env := by rfl) (hpl : (backTo pos (starEach es X.env)).any (·.1) = false := by rfl) :
    PE X (.Call (.Name "Mask" p) (e :: es) [] pos) (tNewM C t) := by
  obtain ⟨f, fd, ps, F, hM, hb⟩ := M
  refine ⟨fun pins s σ H Q I h => ?_⟩
  refine wpAny_Call_Name_kw (ld_glob I hg T.mgC ?_)
  refine PySem.W.callWith_K (h₀ := X.base) I.ok.mod.kin hM.kp (thn (ha.run pos pins s σ H _ I h) fun us s1 ⟨vs, H1, I1, r, w, lo, hi, ev, hw, hm, q⟩ => ⟨I1.kIn, ?_⟩) he hpl
  subst ev
  exact run_make hM F (hr.mono hk) hb .nil pass0 I1 r (newM_ok hw hm q)
theorem pe_ML {i : Nat} (M : Mkr X.prog X.w X.K X.mg X.base C k (spInit C)) (hr : Room j X.A) (hk : k + 1 ≤ j) (ha : PA X (e :: es) t) (hN : X.N[i]? = some x) (hv : Vis X.env.scope x)
    (hdb : (x == ("__debug__" : Str)) = false := by decide) (hcd : (x == ("__classdict__" : Str)) = false := by decide)
    (he : starEach (e :: es) X.env = (false, eval e X.env) :: starEach es X.env := by rfl) (hpl : (backTo pos (starEach es X.env)).any (·.1) = false := by rfl) :
    PE X (.Call (.Name x p) (e :: es) [] pos) (fun σ H Q => σ[i]? = some (some (.ref C)) ∧ tNewM C t σ H Q) := by
  obtain ⟨f, fd, ps, F, hM, hb⟩ := M
  refine ⟨fun pins s σ H Q I h => ?_⟩
  obtain ⟨hs, ht⟩ := h
  refine wpAny_Call_Name_kw (thn ((pe_var (pos := p) hN hv hdb hcd).run pins s σ H (fun v H1 => v = .ref C ∧ H1 = H) I ⟨.ref C, hs, rfl, rfl⟩) fun u s1 ⟨v, H1, I1, r1, q1⟩ => ?_)
  obtain ⟨rfl, rfl⟩ := q1
  cases r1
  refine PySem.W.callWith_K (h₀ := X.base) I.ok.mod.kin hM.kp (thn (ha.run pos pins s1 σ _ _ I1 ht) fun us s2 ⟨vs, H2, I2, r, w, lo, hi, ev, hw, hm, q⟩ => ⟨I2.kIn, ?_⟩) he hpl
  subst ev
  exact run_make hM F (hr.mono hk) hb .nil pass0 I2 r (newM_ok hw hm q)
/-- zip of two tuples -/
theorem walk_zipT {K : PySem.W.Frag} {a b : Addr} {xs ys : List V} {n : Nat} (hn : n = min xs.length ys.length) : Walk (RZ.ItzT K a b) n (fun H => SqT K H a xs ∧ SqT K H b ys) (YPair (fun i => xs[i]?) (fun i => ys[i]?)) := by
  subst hn
  refine ⟨fun i _ hi q => ?_, fun _ q => ⟨xs, ys, q.1, q.2, by omega⟩, fun i H v H' _ q y => ?_⟩
  · have h1 : i < xs.length := by omega
    have h2 : i < ys.length := by omega
    exact ⟨xs, ys, xs[i], ys[i], q.1, q.2, by simp [h1], by simp [h2]⟩
  · obtain ⟨T, x, z, h1, h2, h3, h4, h5⟩ := y
    exact ⟨T, x, z, h1, h2, h3, h4 xs q.1, h5 ys q.2⟩
/-- isinstance(x, int) of an int; of bool: not -/
theorem isi_int {K : PySem.W.Frag} {n : Int} {Q : VK} {H : Hp} (q : Q (.bl true) H) : rIsi K [.int n, .ty "int"] H Q :=
  ⟨_, _, _, _, _, rfl, .ty "int", .base (.int n), kit_ty (r := true) (by decide +kernel), q⟩
theorem isi_bool {K : PySem.W.Frag} {n : Int} {Q : VK} {H : Hp} (q : Q (.bl false) H) : rIsi K [.int n, .ty "bool"] H Q :=
  ⟨_, _, _, _, _, rfl, .ty "bool", .base (.int n), kit_ty (r := false) (by decide +kernel), q⟩
end
end WP


set_option Elab.async false
set_option linter.all false
set_option maxRecDepth 100000
set_option maxHeartbeats 8000000
/-! K6Base: is_within .. sum_between, the class Mask. -/
namespace WP
open PySem PySem.Spec PyProof.Rows L2 WA WR
section
variable {P : Program} {w : World} {K : PySem.W.Frag} {mg : Str → Option Value} {base : Heap} {C f : Addr} {fd : FuncData}

theorem ok_is_within (F : Fun K "is_within" "is_within" (top 12) f fd) (T : Txt K mg C) : FnOk P w K mg base CX0 1 f fd ["value", "low", "high"] spWithin := by
  have sc : FnScope ["value", "low", "high"] ["value", "low", "high"] (defScope (top 12)) := ⟨rfl, rfl, rfl, by decide +kernel, rfl, by decide +kernel, by decide +kernel⟩
  refine F.ok sc (fun vs H Q E h => ?_) (fun cdv A outer s H vs Q E hr h => ?_)
  · obtain ⟨v, lo, hi, rfl, _⟩ := h
    rfl
  · obtain ⟨v, lo, hi, rfl, k⟩ := h
    refine ⟨_, (pss_one (ps_ret (pe_and (pe_callB call_isi (by rfl) T.isi (by decide +kernel) (pa_cons (pv 0) (pa_cons (pe_bltn (v := .ty "int") rfl T.int (by decide +kernel) rfl) pa_nil))) (pe_and (pe_not (pe_callB call_isi (by rfl) T.isi (by decide +kernel) (pa_cons (pv 0) (pa_cons (pe_bltn (v := .ty "bool") rfl T.bool (by decide +kernel) rfl) pa_nil)))) (pe_one (pe_chain op_le op_le (pv 1) (pv 0) (pv 2))))))), ?_⟩
    refine ⟨_, rfl, _, _, _, _, true, rfl, .ty "int", .base (.int v), kit_ty (by decide +kernel), ?_⟩
    refine ⟨true, rfl, iteT ?_⟩
    refine ⟨_, rfl, _, _, _, _, false, rfl, .ty "bool", .base (.int v), kit_ty (by decide +kernel), ?_⟩
    refine ⟨false, rfl, true, rfl, iteT ?_⟩
    refine ⟨_, rfl, _, rfl, _, _, rfl, rfl, _, rfl, ?_⟩
    cases e : decide (lo ≤ v) with
    | true =>
      rw [e] at k
      exact iteT ⟨_, rfl, _, _, rfl, rfl, k⟩
    | false =>
      rw [e] at k
      exact iteF k
theorem ok_is_width (F : Fun K "is_width" "is_width" (top 14) f fd) (T : Txt K mg C) (g_is_within_words : Cl P w K mg base 1 "is_within_words" spWithin) : FnOk P w K mg base CX0 2 f fd ["value"] spWidth := by
  have sc : FnScope ["value"] ["value"] (defScope (top 14)) := ⟨rfl, rfl, rfl, by decide +kernel, rfl, by decide +kernel, by decide +kernel⟩
  obtain ⟨tk, hwid⟩ := T.wid
  refine F.ok sc (fun vs H Q E h => ?_) (fun cdv A outer s H vs Q E hr h => ?_)
  · obtain ⟨v, rfl, _⟩ := h
    rfl
  · obtain ⟨v, rfl, k⟩ := h
    refine ⟨_, (pss_one (ps_ret (pe_cl g_is_within_words hr (by decide) rfl (pa_cons (pv 0) (pa_cons pe_int (pa_cons (pe_glob (v := .int 64) rfl hwid ⟨_, rfl⟩) pa_nil)))))), ?_⟩
    exact ⟨_, rfl, v, 1, 64, rfl, k⟩
theorem ok_size_of (F : Fun K "size_of" "size_of" (top 15) f fd) : FnOk P w K mg base CX0 1 f fd ["width"] spSize := by
  have sc : FnScope ["width"] ["width"] (defScope (top 15)) := ⟨rfl, rfl, rfl, by decide +kernel, rfl, by decide +kernel, by decide +kernel⟩
  refine F.ok sc (fun vs H Q E h => ?_) (fun cdv A outer s H vs Q E hr h => ?_)
  · obtain ⟨v, rfl, _⟩ := h
    rfl
  · obtain ⟨v, rfl, hv, k⟩ := h
    refine ⟨_, (pss_one (ps_ret (pe_op op_shl pe_int (pv 0)))), ?_⟩
    refine ⟨_, rfl, 1, _, rfl, rfl, ⟨by omega, by omega, by decide⟩, ?_⟩
    show Q (.int (1 * 2 ^ (v : Int).toNat)) H
    rw [Int.one_mul, Int.toNat_natCast]
    exact k
theorem ok_is_word (F : Fun K "is_word" "is_word" (top 16) f fd) (g_is_within_words : Cl P w K mg base 1 "is_within_words" spWithin) (g_size_of : Cl P w K mg base 1 "size_of" spSize) : FnOk P w K mg base CX0 2 f fd ["value", "width"] spWord := by
  have sc : FnScope ["value", "width"] ["value", "width"] (defScope (top 16)) := ⟨rfl, rfl, rfl, by decide +kernel, rfl, by decide +kernel, by decide +kernel⟩
  refine F.ok sc (fun vs H Q E h => ?_) (fun cdv A outer s H vs Q E hr h => ?_)
  · obtain ⟨v, n, rfl, _⟩ := h
    rfl
  · obtain ⟨v, n, rfl, hn, k⟩ := h
    refine ⟨_, (pss_one (ps_ret (pe_cl g_is_within_words hr (by decide) rfl (pa_cons (pv 0) (pa_cons pe_int (pa_cons (pe_op op_sub (pe_cl g_size_of hr (by decide) rfl (pa_cons (pv 1) pa_nil)) pe_int) pa_nil)))))), ?_⟩
    exact ⟨_, rfl, _, rfl, n, rfl, hn, _, _, rfl, rfl, v, 0, _, rfl, k⟩
theorem ok_need_widths (F : Fun K "need_widths" "need_widths" (top 19) f fd) : FnOk P w K mg base CX0 1 f fd ["one", "other"] spNeed := by
  have sc : FnScope ["one", "other"] ["one", "other"] (defScope (top 19)) := ⟨rfl, rfl, rfl, by decide +kernel, rfl, by decide +kernel, by decide +kernel⟩
  refine F.ok sc (fun vs H Q E h => ?_) (fun cdv A outer s H vs Q E hr h => ?_)
  · obtain ⟨v, rfl, _⟩ := h
    rfl
  · obtain ⟨v, rfl, k⟩ := h
    refine ⟨_, (pss_one (ps_if (pt_cmpR op_ne (pv 0) (pv 1) (nomark _)) (pss_one ps_never) pss_nil)), ?_⟩
    exact ⟨_, rfl, _, rfl, rfl, _, rfl, iteNS rfl k⟩
theorem ok_with_open (F : Fun K "with_open" "with_open" (top 22) f fd) (T : Txt K mg C) (gM : Mkr P w K mg base C 3 (spInit C)) : FnOk P w K mg base CX0 5 f fd ["width", "least", "open_ones"] (spOpen C) := by
  have sc : FnScope ["width", "least", "open_ones", "low"] ["width", "least", "open_ones"] (defScope (top 22)) := ⟨rfl, rfl, rfl, by decide +kernel, rfl, by decide +kernel, by decide +kernel⟩
  refine F.ok sc (fun vs H Q E h => ?_) (fun cdv A outer s H vs Q E hr h => ?_)
  · obtain ⟨n, least, opn, rfl, _⟩ := h
    rfl
  · obtain ⟨n, least, opn, rfl, hn, hm, k⟩ := h
    refine ⟨_, (pss_cons (ps_set (i := 3) sc.nd rfl (Or.inl rfl) (pe_op op_and (pv 1) (pe_un un_inv (pv 2))))
      (pss_one (ps_ret (pe_M gM T hr (by decide) rfl (pa_cons (pv 0) (pa_cons (pv 3) (pa_cons (pe_op op_or (pv 3) (pv 2)) pa_nil))))))), ?_⟩
    refine ⟨_, rfl, _, rfl, _, rfl, _, _, rfl, rfl, ?_⟩
    exact ⟨_, rfl, _, rfl, _, rfl, _, rfl, _, _, rfl, rfl, n, _, _, rfl, hn, hm, k⟩
theorem ok_sum_between (F : Fun K "sum_between" "sum_between" (top 24) f fd) (T : Txt K mg C) (g_size_of : Cl P w K mg base 1 "size_of" spSize) (g_with_open : Cl P w K mg base 5 "with_open" (spOpen C)) :
    FnOk P w K mg base CX0 6 f fd ["width", "lows", "highs", "open_ones"] (spBetw C) := by
  have sc : FnScope ["width", "lows", "highs", "open_ones", "last"] ["width", "lows", "highs", "open_ones"] (defScope (top 24)) := ⟨rfl, rfl, rfl, by decide +kernel, rfl, by decide +kernel, by decide +kernel⟩
  refine F.ok sc (fun vs H Q E h => ?_) (fun cdv A outer s H vs Q E hr h => ?_)
  · obtain ⟨n, lows, highs, opn, rfl, _⟩ := h
    rfl
  · obtain ⟨n, lows, highs, opn, rfl, hn, hm, k⟩ := h
    refine ⟨_, (pss_cons (ps_set (i := 4) sc.nd rfl (Or.inl rfl) (pe_op op_sub (pe_cl g_size_of hr (by decide) rfl (pa_cons (pv 0) pa_nil)) pe_int))
      (pss_one (ps_ret (pe_cl g_with_open hr (by decide) rfl (pa_cons (pv 0) (pa_cons (pe_op op_and (pv 1) (pv 4)) (pa_cons (pe_op op_and (pe_op op_or (pv 3) (pe_op op_xor (pv 1) (pv 2))) (pv 4)) pa_nil))))))), ?_⟩
    refine ⟨_, rfl, n, rfl, by omega, _, _, rfl, rfl, ?_⟩
    refine ⟨_, rfl, _, rfl, _, rfl, _, _, rfl, rfl, _, rfl, _, rfl, _, rfl, _, _, rfl, rfl, _, _, rfl, rfl, _, rfl, _, _, rfl, rfl, ?_⟩
    exact ⟨n, _, _, rfl, hn, hm, k⟩
theorem ok_init (F : Fun K "__init__" "Mask.__init__" (inMask 0) f fd) (T : Txt K mg C) (g_is_width : Cl P w K mg base 2 "is_width" spWidth) (g_is_word : Cl P w K mg base 2 "is_word" spWord) :
    FnOk P w K mg base CX0 3 f fd ["self", "width", "least", "greatest"] (spInit C) := by
  have sc : FnScope ["self", "width", "least", "greatest"] ["self", "width", "least", "greatest"] (defScope (inMask 0)) := ⟨rfl, rfl, rfl, by decide +kernel, rfl, by decide +kernel, by decide +kernel⟩
  refine F.ok sc (fun vs H Q E h => ?_) (fun cdv A outer s H vs Q E hr h => ?_)
  · obtain ⟨p, dx, n, lo, hi, rfl, _⟩ := h
    rfl
  · obtain ⟨p, dx, n, lo, hi, rfl, hn, hm, hp, k⟩ := h
    have e1 : (decide ((1 : Int) ≤ (n : Int)) && decide ((n : Int) ≤ 64)) = true := by
      rw [decide_eq_true (by omega), decide_eq_true (by omega)]; rfl
    have lt : ∀ x : Int, InW n x → (decide ((0 : Int) ≤ x) && decide (x ≤ 2 ^ n - 1)) = true := fun x hx => by
      have a := hx.1
      have b := hx.2
      rw [decide_eq_true a, decide_eq_true (by omega)]; rfl
    have z : Builtin.bitAnd lo (Builtin.bitNot hi) = 0 := by
      apply ib_ext; intro i
      rw [ib_and, ib_not, ib_zero]
      cases q : ib lo i with
      | false => rfl
      | true => rw [hm.le i q]; rfl
    refine ⟨_, (pss_cons (ps_if (pt_not (pt_val (pe_cl g_is_width hr (by decide) rfl (pa_cons (pv 1) pa_nil)))) (pss_one ps_never) pss_nil)
      (pss_cons (ps_if (pt_not (pt_val (pe_cl g_is_word hr (by decide) rfl (pa_cons (pv 2) (pa_cons (pv 1) pa_nil))))) (pss_one ps_never) pss_nil)
      (pss_cons (ps_if (pt_not (pt_val (pe_cl g_is_word hr (by decide) rfl (pa_cons (pv 3) (pa_cons (pv 1) pa_nil))))) (pss_one ps_never) pss_nil)
      (pss_cons (ps_if (pt_cmpR op_ne (pe_op op_and (pv 2) (pe_un un_inv (pv 3))) pe_int (nomark _)) (pss_one ps_never) pss_nil)
      (pss_cons (ps_fld (pv 0) (pv 1) rfl)
      (pss_cons (ps_fld (pv 0) (pv 2) rfl)
      (pss_one (ps_fld (pv 0) (pv 3) rfl)))))))), ?_⟩
    refine ⟨_, rfl, _, rfl, _, rfl, ?_⟩
    rw [e1]
    refine iteF ?_
    refine ⟨_, rfl, _, rfl, lo, n, rfl, by omega, _, rfl, ?_⟩
    rw [lt lo hm.ilo]
    refine iteF ?_
    refine ⟨_, rfl, _, rfl, hi, n, rfl, by omega, _, rfl, ?_⟩
    rw [lt hi hm.ihi]
    refine iteF ?_
    refine ⟨_, rfl, _, rfl, _, rfl, _, _, rfl, rfl, ?_⟩
    refine ⟨rfl, _, rfl, iteNS (congrArg V.int z) ?_⟩
    refine ⟨_, rfl, _, rfl, p, C, dx, _, rfl, hp, T.cl, T.nW, by decide, ?_⟩
    refine ⟨_, rfl, _, rfl, p, C, dx, _, rfl, upd_same, T.cl, T.nL, (by show 1 < 1000; decide), ?_⟩
    refine ⟨_, rfl, _, rfl, p, C, dx, _, rfl, upd_same, T.cl, T.nH, Nat.lt_of_le_of_lt (length_putF _ _ _) (by show 1 + 1 < 1000; decide), ?_⟩
    refine k _ (fun b o hb e => ?_) ?_
    · rw [upd_ne hb, upd_ne hb, upd_ne hb]
      exact e
    · rw [upd_same]
      rfl
end
end WP


set_option Elab.async false
set_option linter.all false
set_option maxRecDepth 100000
set_option maxHeartbeats 8000000
/-! K7Mask: the properties, methods and operators of Mask. -/
namespace WP
open PySem PySem.Spec PyProof.Rows L2 WA WR

theorem msk_of {w : Nat} {lo hi : Int} (b : ∀ i, w ≤ i → ib hi i = false) (c : ∀ i, ib lo i = true → ib hi i = true) : Msk w lo hi := by
  refine ⟨inW_of fun i h => ?_, inW_of b, c⟩
  cases q : ib lo i with
  | false => rfl
  | true =>
    have e := c i q
    rw [b i h] at e
    cases e
theorem msk_and {w : Nat} {l1 h1 l2 h2 : Int} (a : Msk w l1 h1) (b : Msk w l2 h2) : Msk w (Builtin.bitAnd l1 l2) (Builtin.bitAnd h1 h2) := by
  refine msk_of (fun i h => ?_) fun i => ?_
  · rw [ib_and, inW_bits a.ihi h]; rfl
  · rw [ib_and, ib_and]
    have p := a.le i
    have q := b.le i
    cases e1 : ib l1 i <;> cases e2 : ib l2 i <;> simp_all
theorem msk_or {w : Nat} {l1 h1 l2 h2 : Int} (a : Msk w l1 h1) (b : Msk w l2 h2) : Msk w (Builtin.bitOr l1 l2) (Builtin.bitOr h1 h2) := by
  refine msk_of (fun i h => ?_) fun i => ?_
  · rw [ib_or, inW_bits a.ihi h, inW_bits b.ihi h]; rfl
  · rw [ib_or, ib_or]
    have p := a.le i
    have q := b.le i
    cases e1 : ib l1 i <;> cases e2 : ib l2 i <;> simp_all
theorem msk_uni {w : Nat} {l1 h1 l2 h2 : Int} (a : Msk w l1 h1) (b : Msk w l2 h2) : Msk w (Builtin.bitAnd l1 l2) (Builtin.bitOr h1 h2) := by
  refine msk_of (fun i h => ?_) fun i => ?_
  · rw [ib_or, inW_bits a.ihi h, inW_bits b.ihi h]; rfl
  · rw [ib_and, ib_or]
    have p := a.le i
    have q := b.le i
    cases e1 : ib l1 i <;> cases e2 : ib l2 i <;> simp_all
theorem msk_com {w : Nat} {l1 h1 l2 h2 : Int} (a : Msk w l1 h1) (b : Msk w l2 h2) (n : ¬ apart l1 h1 l2 h2) : Msk w (Builtin.bitOr l1 l2) (Builtin.bitAnd h1 h2) := by
  refine msk_of (fun i h => ?_) fun i e => ?_
  · rw [ib_and, inW_bits a.ihi h]; rfl
  · have z : Builtin.bitAnd (Builtin.bitOr l1 l2) (Builtin.bitNot (Builtin.bitAnd h1 h2)) = 0 := Classical.not_not.mp n
    have q : ib (Builtin.bitAnd (Builtin.bitOr l1 l2) (Builtin.bitNot (Builtin.bitAnd h1 h2))) i = false := by rw [z, ib_zero]
    rw [ib_and, e, ib_not] at q
    cases r : ib (Builtin.bitAnd h1 h2) i with
    | true => rfl
    | false => rw [r] at q; cases q
theorem woLo_bit (a o : Int) (i : Nat) : ib (woLo a o) i = (ib a i && !ib o i) := by unfold woLo; rw [ib_and, ib_not]
theorem woHi_bit (a o : Int) (i : Nat) : ib (woHi a o) i = (ib a i || ib o i) := by
  unfold woHi
  rw [ib_or, woLo_bit]
  cases ib a i <;> cases ib o i <;> rfl
theorem msk_xor {w : Nat} {l1 h1 l2 h2 : Int} (a : Msk w l1 h1) (b : Msk w l2 h2) : Msk w (woLo (Builtin.bitXor l1 l2) (opn2 l1 h1 l2 h2)) (woHi (Builtin.bitXor l1 l2) (opn2 l1 h1 l2 h2)) := by
  refine msk_of (fun i h => ?_) fun i => ?_
  · rw [woHi_bit, ib_xor, opn2_bit, inW_bits a.ilo h, inW_bits b.ilo h, inW_bits a.ihi h, inW_bits b.ihi h]; rfl
  · rw [woLo_bit, woHi_bit]
    cases ib (Builtin.bitXor l1 l2) i <;> simp
theorem iv_bit (w : Nat) (x : Int) (i : Nat) : ib (iv w x) i = (decide (i < w) ^^ ib x i) := by unfold iv; rw [ib_xor, ib_last]
theorem msk_inv {w : Nat} {l h : Int} (a : Msk w l h) : Msk w (iv w h) (iv w l) := by
  refine msk_of (fun i hi => ?_) fun i => ?_
  · rw [iv_bit, inW_bits a.ilo hi, decide_eq_false (by omega)]; rfl
  · rw [iv_bit, iv_bit]
    have p := a.le i
    by_cases hi : i < w
    · rw [decide_eq_true hi]
      cases e1 : ib l i <;> cases e2 : ib h i <;> simp_all
    · rw [decide_eq_false hi, inW_bits a.ilo (by omega), inW_bits a.ihi (by omega)]; simp
theorem shl_bit (w : Nat) (x : Int) (s i : Nat) : ib (shl w x s) i = (decide (i < w) && (decide (s ≤ i) && ib x (i - s))) := by
  unfold shl; rw [ib_and, ib_shl, ib_last, Bool.and_comm]
theorem msk_shl {w : Nat} {l h : Int} (a : Msk w l h) (s : Nat) : Msk w (shl w l s) (shl w h s) := by
  refine msk_of (fun i hi => ?_) fun i => ?_
  · rw [shl_bit, decide_eq_false (by omega)]; rfl
  · rw [shl_bit, shl_bit]
    have p := a.le (i - s)
    cases decide (i < w) <;> cases decide (s ≤ i) <;> cases e1 : ib l (i - s) <;> cases e2 : ib h (i - s) <;> simp_all
theorem msk_sb (w : Nat) (lows highs opn : Int) : Msk w (sbLo w lows highs opn) (sbHi w lows highs opn) := by
  refine msk_of (fun i hi => ?_) fun i => ?_
  · rw [sbHi_bit, decide_eq_false (by omega)]; rfl
  · rw [sbLo_bit, sbHi_bit]
    cases decide (i < w) <;> cases ib lows i <;> simp_all
theorem one_msk {w : Nat} {x : Int} (h : InW w x) : Msk w x x := ⟨h, h, fun _ e => e⟩

section
variable {P : Program} {w : World} {K : PySem.W.Frag} {mg : Str → Option Value} {base : Heap} {C f : Addr} {fd : FuncData}
theorem ok_width (F : Fun K "width" "Mask.width" (inMask 3) f fd) (T : Txt K mg C) : FnOk P w K mg base CX0 1 f fd ["self"] (sp1 (rI1 C fW)) := by
  have sc : FnScope ["self"] ["self"] (defScope (inMask 3)) := ⟨rfl, rfl, rfl, by decide +kernel, rfl, by decide +kernel, by decide +kernel⟩
  refine F.ok sc (fun vs H Q E h => ?_) (fun cdv A outer s H vs Q E hr h => ?_)
  · obtain ⟨x, rfl, _⟩ := h
    rfl
  · obtain ⟨x, rfl, k⟩ := h
    exact ⟨_, (pss_one (ps_ret (pe_fW (pv 0) T))), _, rfl, k⟩
theorem ok_least (F : Fun K "least" "Mask.least" (inMask 4) f fd) (T : Txt K mg C) : FnOk P w K mg base CX0 1 f fd ["self"] (sp1 (rI1 C fL)) := by
  have sc : FnScope ["self"] ["self"] (defScope (inMask 4)) := ⟨rfl, rfl, rfl, by decide +kernel, rfl, by decide +kernel, by decide +kernel⟩
  refine F.ok sc (fun vs H Q E h => ?_) (fun cdv A outer s H vs Q E hr h => ?_)
  · obtain ⟨x, rfl, _⟩ := h
    rfl
  · obtain ⟨x, rfl, k⟩ := h
    exact ⟨_, (pss_one (ps_ret (pe_fL (pv 0) T))), _, rfl, k⟩
theorem ok_greatest (F : Fun K "greatest" "Mask.greatest" (inMask 5) f fd) (T : Txt K mg C) : FnOk P w K mg base CX0 1 f fd ["self"] (sp1 (rI1 C fH)) := by
  have sc : FnScope ["self"] ["self"] (defScope (inMask 5)) := ⟨rfl, rfl, rfl, by decide +kernel, rfl, by decide +kernel, by decide +kernel⟩
  refine F.ok sc (fun vs H Q E h => ?_) (fun cdv A outer s H vs Q E hr h => ?_)
  · obtain ⟨x, rfl, _⟩ := h
    rfl
  · obtain ⟨x, rfl, k⟩ := h
    exact ⟨_, (pss_one (ps_ret (pe_fH (pv 0) T))), _, rfl, k⟩
theorem ok_open_ones (F : Fun K "open_ones" "Mask.open_ones" (inMask 7) f fd) (T : Txt K mg C) : FnOk P w K mg base CX0 1 f fd ["self"] (sp1 (rOpn C)) := by
  have sc : FnScope ["self"] ["self"] (defScope (inMask 7)) := ⟨rfl, rfl, rfl, by decide +kernel, rfl, by decide +kernel, by decide +kernel⟩
  refine F.ok sc (fun vs H Q E h => ?_) (fun cdv A outer s H vs Q E hr h => ?_)
  · obtain ⟨x, rfl, _⟩ := h
    rfl
  · obtain ⟨x, rfl, a, n, lo, hi, rfl, hm, k⟩ := h
    refine ⟨_, (pss_one (ps_ret (pe_op op_xor (pe_fL (pv 0) T) (pe_fH (pv 0) T)))), ?_⟩
    exact ⟨_, rfl, a, n, lo, hi, rfl, hm, _, rfl, a, n, lo, hi, rfl, hm, _, _, rfl, rfl, k⟩
theorem ok_need_shift (F : Fun K "need_shift" "Mask.need_shift" (inMask 11) f fd) (T : Txt K mg C) (g_is_within_words : Cl P w K mg base 1 "is_within_words" spWithin) : FnOk P w K mg base CX0 2 f fd ["self", "shift"] (sp2 (rNeedS C)) := by
  have sc : FnScope ["self", "shift"] ["self", "shift"] (defScope (inMask 11)) := ⟨rfl, rfl, rfl, by decide +kernel, rfl, by decide +kernel, by decide +kernel⟩
  refine F.ok sc (fun vs H Q E h => ?_) (fun cdv A outer s H vs Q E hr h => ?_)
  · obtain ⟨x, y, rfl, _⟩ := h
    rfl
  · obtain ⟨x, y, rfl, a, n, lo, hi, sh, rfl, rfl, hs, hm, k⟩ := h
    refine ⟨_, (pss_one (ps_if (pt_not (pt_val (pe_cl g_is_within_words hr (by decide) rfl (pa_cons (pv 1) (pa_cons pe_int (pa_cons (pe_op op_sub (pe_fW (pv 0) T) pe_int) pa_nil)))))) (pss_one ps_never) pss_nil)), ?_⟩
    refine ⟨_, rfl, _, rfl, a, n, lo, hi, rfl, hm, _, _, rfl, rfl, _, _, _, rfl, _, rfl, ?_⟩
    rw [show (decide ((0 : Int) ≤ (sh : Int)) && decide ((sh : Int) ≤ (n : Int) - 1)) = true by rw [decide_eq_true (by omega), decide_eq_true (by omega)]; rfl]
    exact iteF k
theorem ok_common (F : Fun K "common_with" "Mask.common_with" (inMask 12) f fd) (T : Txt K mg C) (gM : Mkr P w K mg base C 3 (spInit C)) (g_need_widths : Cl P w K mg base 1 "need_widths" spNeed) :
    FnOk P w K mg base CX0 5 f fd ["self", "other"] (sp2 (rCom C)) := by
  have sc : FnScope ["self", "other", "low", "high"] ["self", "other"] (defScope (inMask 12)) := ⟨rfl, rfl, rfl, by decide +kernel, rfl, by decide +kernel, by decide +kernel⟩
  refine F.ok sc (fun vs H Q E h => ?_) (fun cdv A outer s H vs Q E hr h => ?_)
  · obtain ⟨x, y, rfl, _⟩ := h
    rfl
  · obtain ⟨x, y, rfl, a, b, n, l1, h1, l2, h2, rfl, rfl, ma, mb, k1, k2⟩ := h
    refine ⟨_, (pss_cons (ps_expr (pe_cl g_need_widths hr (by decide) rfl (pa_cons (pe_fW (pv 0) T) (pa_cons (pe_fW (pv 1) T) pa_nil))))
      (pss_cons (ps_par (i := 2) (j := 3) (by rfl) sc.nd rfl rfl (by decide) rfl rfl (pa_cons (pe_op op_or (pe_fL (pv 0) T) (pe_fL (pv 1) T)) (pa_cons (pe_op op_and (pe_fH (pv 0) T) (pe_fH (pv 1) T)) pa_nil)) (by rfl))
      (pss_one (ps_ret (pe_ifExp (pt_cmpR op_ne (pe_op op_and (pv 2) (pe_un un_inv (pv 3))) pe_int (nomark _)) pe_non (pe_M gM T hr (by decide) rfl (pa_cons (pe_fW (pv 0) T) (pa_cons (pv 2) (pa_cons (pv 3) pa_nil))))))))), ?_⟩
    refine ⟨_, rfl, a, n, l1, h1, rfl, ma, _, rfl, b, n, l2, h2, rfl, mb, _, rfl, ?_⟩
    refine ⟨_, rfl, a, n, l1, h1, rfl, ma, _, rfl, b, n, l2, h2, rfl, mb, _, _, rfl, rfl, ?_⟩
    refine ⟨_, rfl, a, n, l1, h1, rfl, ma, _, rfl, b, n, l2, h2, rfl, mb, _, _, rfl, rfl, _, _, rfl, ?_⟩
    refine ⟨_, rfl, _, rfl, _, rfl, _, _, rfl, rfl, rfl, _, rfl, ?_⟩
    by_cases z : apart l1 h1 l2 h2
    · rw [decide_eq_false (fun e => z (V.int.inj e))]
      exact iteT (k1 z)
    · rw [decide_eq_true (congrArg V.int (Classical.not_not.mp z))]
      refine iteF ?_
      exact ⟨_, rfl, a, n, l1, h1, rfl, ma, _, rfl, _, rfl, n, _, _, rfl, ma.wd, msk_com ma.msk mb.msk z, k2 z⟩
theorem ok_union (F : Fun K "union_with" "Mask.union_with" (inMask 13) f fd) (T : Txt K mg C) (gM : Mkr P w K mg base C 3 (spInit C)) (g_need_widths : Cl P w K mg base 1 "need_widths" spNeed) :
    FnOk P w K mg base CX0 5 f fd ["self", "other"] (sp2 (rMM C fAnd gUni)) := by
  have sc : FnScope ["self", "other"] ["self", "other"] (defScope (inMask 13)) := ⟨rfl, rfl, rfl, by decide +kernel, rfl, by decide +kernel, by decide +kernel⟩
  refine F.ok sc (fun vs H Q E h => ?_) (fun cdv A outer s H vs Q E hr h => ?_)
  · obtain ⟨x, y, rfl, _⟩ := h
    rfl
  · obtain ⟨x, y, rfl, a, b, n, l1, h1, l2, h2, rfl, rfl, ma, mb, k⟩ := h
    refine ⟨_, (pss_cons (ps_expr (pe_cl g_need_widths hr (by decide) rfl (pa_cons (pe_fW (pv 0) T) (pa_cons (pe_fW (pv 1) T) pa_nil))))
      (pss_one (ps_ret (pe_M gM T hr (by decide) rfl (pa_cons (pe_fW (pv 0) T) (pa_cons (pe_op op_and (pe_fL (pv 0) T) (pe_fL (pv 1) T)) (pa_cons (pe_op op_or (pe_fH (pv 0) T) (pe_fH (pv 1) T)) pa_nil))))))), ?_⟩
    refine ⟨_, rfl, a, n, l1, h1, rfl, ma, _, rfl, b, n, l2, h2, rfl, mb, _, rfl, ?_⟩
    refine ⟨_, rfl, a, n, l1, h1, rfl, ma, ?_⟩
    refine ⟨_, rfl, a, n, l1, h1, rfl, ma, _, rfl, b, n, l2, h2, rfl, mb, _, _, rfl, rfl, ?_⟩
    refine ⟨_, rfl, a, n, l1, h1, rfl, ma, _, rfl, b, n, l2, h2, rfl, mb, _, _, rfl, rfl, ?_⟩
    exact ⟨n, _, _, rfl, ma.wd, msk_uni ma.msk mb.msk, k⟩
theorem ok_and (F : Fun K "__and__" "Mask.__and__" (inMask 18) f fd) (T : Txt K mg C) (gM : Mkr P w K mg base C 3 (spInit C)) (g_need_widths : Cl P w K mg base 1 "need_widths" spNeed) :
    FnOk P w K mg base CX0 5 f fd ["self", "other"] (sp2 (rMM C fAnd gAnd)) := by
  have sc : FnScope ["self", "other"] ["self", "other"] (defScope (inMask 18)) := ⟨rfl, rfl, rfl, by decide +kernel, rfl, by decide +kernel, by decide +kernel⟩
  refine F.ok sc (fun vs H Q E h => ?_) (fun cdv A outer s H vs Q E hr h => ?_)
  · obtain ⟨x, y, rfl, _⟩ := h
    rfl
  · obtain ⟨x, y, rfl, a, b, n, l1, h1, l2, h2, rfl, rfl, ma, mb, k⟩ := h
    refine ⟨_, (pss_cons (ps_expr (pe_cl g_need_widths hr (by decide) rfl (pa_cons (pe_fW (pv 0) T) (pa_cons (pe_fW (pv 1) T) pa_nil))))
      (pss_one (ps_ret (pe_M gM T hr (by decide) rfl (pa_cons (pe_fW (pv 0) T) (pa_cons (pe_op op_and (pe_fL (pv 0) T) (pe_fL (pv 1) T)) (pa_cons (pe_op op_and (pe_fH (pv 0) T) (pe_fH (pv 1) T)) pa_nil))))))), ?_⟩
    refine ⟨_, rfl, a, n, l1, h1, rfl, ma, _, rfl, b, n, l2, h2, rfl, mb, _, rfl, ?_⟩
    refine ⟨_, rfl, a, n, l1, h1, rfl, ma, ?_⟩
    refine ⟨_, rfl, a, n, l1, h1, rfl, ma, _, rfl, b, n, l2, h2, rfl, mb, _, _, rfl, rfl, ?_⟩
    refine ⟨_, rfl, a, n, l1, h1, rfl, ma, _, rfl, b, n, l2, h2, rfl, mb, _, _, rfl, rfl, ?_⟩
    exact ⟨n, _, _, rfl, ma.wd, msk_and ma.msk mb.msk, k⟩
theorem ok_or (F : Fun K "__or__" "Mask.__or__" (inMask 19) f fd) (T : Txt K mg C) (gM : Mkr P w K mg base C 3 (spInit C)) (g_need_widths : Cl P w K mg base 1 "need_widths" spNeed) :
    FnOk P w K mg base CX0 5 f fd ["self", "other"] (sp2 (rMM C fOr gOr)) := by
  have sc : FnScope ["self", "other"] ["self", "other"] (defScope (inMask 19)) := ⟨rfl, rfl, rfl, by decide +kernel, rfl, by decide +kernel, by decide +kernel⟩
  refine F.ok sc (fun vs H Q E h => ?_) (fun cdv A outer s H vs Q E hr h => ?_)
  · obtain ⟨x, y, rfl, _⟩ := h
    rfl
  · obtain ⟨x, y, rfl, a, b, n, l1, h1, l2, h2, rfl, rfl, ma, mb, k⟩ := h
    refine ⟨_, (pss_cons (ps_expr (pe_cl g_need_widths hr (by decide) rfl (pa_cons (pe_fW (pv 0) T) (pa_cons (pe_fW (pv 1) T) pa_nil))))
      (pss_one (ps_ret (pe_M gM T hr (by decide) rfl (pa_cons (pe_fW (pv 0) T) (pa_cons (pe_op op_or (pe_fL (pv 0) T) (pe_fL (pv 1) T)) (pa_cons (pe_op op_or (pe_fH (pv 0) T) (pe_fH (pv 1) T)) pa_nil))))))), ?_⟩
    refine ⟨_, rfl, a, n, l1, h1, rfl, ma, _, rfl, b, n, l2, h2, rfl, mb, _, rfl, ?_⟩
    refine ⟨_, rfl, a, n, l1, h1, rfl, ma, ?_⟩
    refine ⟨_, rfl, a, n, l1, h1, rfl, ma, _, rfl, b, n, l2, h2, rfl, mb, _, _, rfl, rfl, ?_⟩
    refine ⟨_, rfl, a, n, l1, h1, rfl, ma, _, rfl, b, n, l2, h2, rfl, mb, _, _, rfl, rfl, ?_⟩
    exact ⟨n, _, _, rfl, ma.wd, msk_or ma.msk mb.msk, k⟩
theorem ok_xor (F : Fun K "__xor__" "Mask.__xor__" (inMask 20) f fd) (T : Txt K mg C) (g_need_widths : Cl P w K mg base 1 "need_widths" spNeed) (g_with_open : Cl P w K mg base 5 "with_open" (spOpen C))
    (m_open_ones : Mt P w K mg base C 1 "open_ones" (sp1 (rOpn C))) : FnOk P w K mg base CX0 6 f fd ["self", "other"] (sp2 (rMM C fXor gXor)) := by
  have sc : FnScope ["self", "other", "marks"] ["self", "other"] (defScope (inMask 20)) := ⟨rfl, rfl, rfl, by decide +kernel, rfl, by decide +kernel, by decide +kernel⟩
  refine F.ok sc (fun vs H Q E h => ?_) (fun cdv A outer s H vs Q E hr h => ?_)
  · obtain ⟨x, y, rfl, _⟩ := h
    rfl
  · obtain ⟨x, y, rfl, a, b, n, l1, h1, l2, h2, rfl, rfl, ma, mb, k⟩ := h
    refine ⟨_, (pss_cons (ps_expr (pe_cl g_need_widths hr (by decide) rfl (pa_cons (pe_fW (pv 0) T) (pa_cons (pe_fW (pv 1) T) pa_nil))))
      (pss_cons (ps_set (i := 2) sc.nd rfl (Or.inl rfl) (pe_op op_or (pe_m1' (pv 0) T m_open_ones hr (by decide)) (pe_m1' (pv 1) T m_open_ones hr (by decide))))
      (pss_one (ps_ret (pe_cl g_with_open hr (by decide) rfl (pa_cons (pe_fW (pv 0) T) (pa_cons (pe_op op_xor (pe_fL (pv 0) T) (pe_fL (pv 1) T)) (pa_cons (pv 2) pa_nil)))))))), ?_⟩
    refine ⟨_, rfl, a, n, l1, h1, rfl, ma, _, rfl, b, n, l2, h2, rfl, mb, _, rfl, ?_⟩
    refine ⟨_, rfl, ⟨a, n, l1, h1, rfl, ma⟩, a, n, l1, h1, rfl, ma, _, rfl, ⟨b, n, l2, h2, rfl, mb⟩, b, n, l2, h2, rfl, mb, _, _, rfl, rfl, ?_⟩
    refine ⟨_, rfl, a, n, l1, h1, rfl, ma, _, rfl, a, n, l1, h1, rfl, ma, _, rfl, b, n, l2, h2, rfl, mb, _, _, rfl, rfl, _, rfl, ?_⟩
    exact ⟨n, _, _, rfl, ma.wd, msk_xor ma.msk mb.msk, k⟩
theorem ok_is_within_m (F : Fun K "is_within" "Mask.is_within" (inMask 14) f fd) (T : Txt K mg C) (g_need_widths : Cl P w K mg base 1 "need_widths" spNeed) : FnOk P w K mg base CX0 2 f fd ["self", "other"] (sp2 (rWtn C)) := by
  have sc : FnScope ["self", "other"] ["self", "other"] (defScope (inMask 14)) := ⟨rfl, rfl, rfl, by decide +kernel, rfl, by decide +kernel, by decide +kernel⟩
  refine F.ok sc (fun vs H Q E h => ?_) (fun cdv A outer s H vs Q E hr h => ?_)
  · obtain ⟨x, y, rfl, _⟩ := h
    rfl
  · obtain ⟨x, y, rfl, a, b, n, l1, h1, l2, h2, rfl, rfl, ma, mb, k⟩ := h
    refine ⟨_, (pss_cons (ps_expr (pe_cl g_need_widths hr (by decide) rfl (pa_cons (pe_fW (pv 0) T) (pa_cons (pe_fW (pv 1) T) pa_nil))))
      (pss_one (ps_ret (pe_and (pe_cmpR op_eq (pe_op op_and (pe_fL (pv 0) T) (pe_fL (pv 1) T)) (pe_fL (pv 1) T) (nomark _)) (pe_one (pe_cmpR op_eq (pe_op op_and (pe_fH (pv 0) T) (pe_un un_inv (pe_fH (pv 1) T))) pe_int (nomark _))))))), ?_⟩
    refine ⟨_, rfl, a, n, l1, h1, rfl, ma, _, rfl, b, n, l2, h2, rfl, mb, _, rfl, ?_⟩
    refine ⟨_, rfl, a, n, l1, h1, rfl, ma, _, rfl, b, n, l2, h2, rfl, mb, _, _, rfl, rfl, _, rfl, b, n, l2, h2, rfl, mb, rfl, _, rfl, ?_⟩
    by_cases z1 : Builtin.bitAnd l1 l2 = l2
    · rw [decide_eq_true (congrArg V.int z1)]
      refine iteT ?_
      refine ⟨_, rfl, a, n, l1, h1, rfl, ma, _, rfl, b, n, l2, h2, rfl, mb, _, rfl, _, _, rfl, rfl, rfl, ?_⟩
      exact k _ ⟨fun e => ⟨z1, V.int.inj (of_decide_eq_true e)⟩, fun e => decide_eq_true (congrArg V.int e.2)⟩
    · rw [decide_eq_false (fun e => z1 (V.int.inj e))]
      exact iteF (k _ ⟨fun e => (Bool.noConfusion e), fun e => (z1 e.1).elim⟩)
theorem ok_invert (F : Fun K "__invert__" "Mask.__invert__" (inMask 21) f fd) (T : Txt K mg C) (gM : Mkr P w K mg base C 3 (spInit C)) (g_size_of : Cl P w K mg base 1 "size_of" spSize) :
    FnOk P w K mg base CX0 5 f fd ["self"] (sp1 (rInv C)) := by
  have sc : FnScope ["self", "last"] ["self"] (defScope (inMask 21)) := ⟨rfl, rfl, rfl, by decide +kernel, rfl, by decide +kernel, by decide +kernel⟩
  refine F.ok sc (fun vs H Q E h => ?_) (fun cdv A outer s H vs Q E hr h => ?_)
  · obtain ⟨x, rfl, _⟩ := h
    rfl
  · obtain ⟨x, rfl, a, n, l1, h1, rfl, ma, k⟩ := h
    have hn := ma.wd
    refine ⟨_, (pss_cons (ps_set (i := 1) sc.nd rfl (Or.inl rfl) (pe_op op_sub (pe_cl g_size_of hr (by decide) rfl (pa_cons (pe_fW (pv 0) T) pa_nil)) pe_int))
      (pss_one (ps_ret (pe_M gM T hr (by decide) rfl (pa_cons (pe_fW (pv 0) T) (pa_cons (pe_op op_xor (pv 1) (pe_fH (pv 0) T)) (pa_cons (pe_op op_xor (pv 1) (pe_fL (pv 0) T)) pa_nil))))))), ?_⟩
    refine ⟨_, rfl, a, n, l1, h1, rfl, ma, n, rfl, by omega, _, _, rfl, rfl, ?_⟩
    refine ⟨_, rfl, a, n, l1, h1, rfl, ma, ?_⟩
    refine ⟨_, rfl, _, rfl, a, n, l1, h1, rfl, ma, _, _, rfl, rfl, ?_⟩
    refine ⟨_, rfl, _, rfl, a, n, l1, h1, rfl, ma, _, _, rfl, rfl, ?_⟩
    exact ⟨n, _, _, rfl, ma.wd, msk_inv ma.msk, k⟩
theorem ok_add (F : Fun K "__add__" "Mask.__add__" (inMask 22) f fd) (T : Txt K mg C) (g_need_widths : Cl P w K mg base 1 "need_widths" spNeed) (g_sum_between : Cl P w K mg base 6 "sum_between" (spBetw C))
    (m_open_ones : Mt P w K mg base C 1 "open_ones" (sp1 (rOpn C))) : FnOk P w K mg base CX0 7 f fd ["self", "other"] (sp2 (rNN C SAdd)) := by
  have sc : FnScope ["self", "other", "lows", "highs"] ["self", "other"] (defScope (inMask 22)) := ⟨rfl, rfl, rfl, by decide +kernel, rfl, by decide +kernel, by decide +kernel⟩
  refine F.ok sc (fun vs H Q E h => ?_) (fun cdv A outer s H vs Q E hr h => ?_)
  · obtain ⟨x, y, rfl, _⟩ := h
    rfl
  · obtain ⟨x, y, rfl, a, b, n, l1, h1, l2, h2, rfl, rfl, ma, mb, k⟩ := h
    refine ⟨_, (pss_cons (ps_expr (pe_cl g_need_widths hr (by decide) rfl (pa_cons (pe_fW (pv 0) T) (pa_cons (pe_fW (pv 1) T) pa_nil))))
      (pss_cons (ps_par (i := 2) (j := 3) (by rfl) sc.nd rfl rfl (by decide) rfl rfl (pa_cons (pe_op op_add (pe_fL (pv 0) T) (pe_fL (pv 1) T)) (pa_cons (pe_op op_add (pe_fH (pv 0) T) (pe_fH (pv 1) T)) pa_nil)) (by rfl))
      (pss_one (ps_ret (pe_cl g_sum_between hr (by decide) rfl (pa_cons (pe_fW (pv 0) T) (pa_cons (pv 2) (pa_cons (pv 3) (pa_cons (pe_op op_or (pe_m1' (pv 0) T m_open_ones hr (by decide)) (pe_m1' (pv 1) T m_open_ones hr (by decide))) pa_nil))))))))), ?_⟩
    refine ⟨_, rfl, a, n, l1, h1, rfl, ma, _, rfl, b, n, l2, h2, rfl, mb, _, rfl, ?_⟩
    refine ⟨_, rfl, a, n, l1, h1, rfl, ma, _, rfl, b, n, l2, h2, rfl, mb, _, _, rfl, rfl, ?_⟩
    refine ⟨_, rfl, a, n, l1, h1, rfl, ma, _, rfl, b, n, l2, h2, rfl, mb, _, _, rfl, rfl, _, _, rfl, ?_⟩
    refine ⟨_, rfl, a, n, l1, h1, rfl, ma, _, rfl, _, rfl, ?_⟩
    refine ⟨_, rfl, ⟨a, n, l1, h1, rfl, ma⟩, a, n, l1, h1, rfl, ma, _, rfl, ⟨b, n, l2, h2, rfl, mb⟩, b, n, l2, h2, rfl, mb, _, _, rfl, rfl, ?_⟩
    exact ⟨n, _, _, _, rfl, ma.wd, msk_sb _ _ _ _, fun p H' s m => k p H' _ _ s m (nar_add ma.msk mb.msk)⟩
theorem ok_sub (F : Fun K "__sub__" "Mask.__sub__" (inMask 23) f fd) (T : Txt K mg C) (g_need_widths : Cl P w K mg base 1 "need_widths" spNeed) (g_sum_between : Cl P w K mg base 6 "sum_between" (spBetw C))
    (m_open_ones : Mt P w K mg base C 1 "open_ones" (sp1 (rOpn C))) : FnOk P w K mg base CX0 7 f fd ["self", "other"] (sp2 (rNN C SSub)) := by
  have sc : FnScope ["self", "other", "lows", "highs"] ["self", "other"] (defScope (inMask 23)) := ⟨rfl, rfl, rfl, by decide +kernel, rfl, by decide +kernel, by decide +kernel⟩
  refine F.ok sc (fun vs H Q E h => ?_) (fun cdv A outer s H vs Q E hr h => ?_)
  · obtain ⟨x, y, rfl, _⟩ := h
    rfl
  · obtain ⟨x, y, rfl, a, b, n, l1, h1, l2, h2, rfl, rfl, ma, mb, k⟩ := h
    refine ⟨_, (pss_cons (ps_expr (pe_cl g_need_widths hr (by decide) rfl (pa_cons (pe_fW (pv 0) T) (pa_cons (pe_fW (pv 1) T) pa_nil))))
      (pss_cons (ps_par (i := 2) (j := 3) (by rfl) sc.nd rfl rfl (by decide) rfl rfl (pa_cons (pe_op op_sub (pe_fL (pv 0) T) (pe_fH (pv 1) T)) (pa_cons (pe_op op_sub (pe_fH (pv 0) T) (pe_fL (pv 1) T)) pa_nil)) (by rfl))
      (pss_one (ps_ret (pe_cl g_sum_between hr (by decide) rfl (pa_cons (pe_fW (pv 0) T) (pa_cons (pv 2) (pa_cons (pv 3) (pa_cons (pe_op op_or (pe_m1' (pv 0) T m_open_ones hr (by decide)) (pe_m1' (pv 1) T m_open_ones hr (by decide))) pa_nil))))))))), ?_⟩
    refine ⟨_, rfl, a, n, l1, h1, rfl, ma, _, rfl, b, n, l2, h2, rfl, mb, _, rfl, ?_⟩
    refine ⟨_, rfl, a, n, l1, h1, rfl, ma, _, rfl, b, n, l2, h2, rfl, mb, _, _, rfl, rfl, ?_⟩
    refine ⟨_, rfl, a, n, l1, h1, rfl, ma, _, rfl, b, n, l2, h2, rfl, mb, _, _, rfl, rfl, _, _, rfl, ?_⟩
    refine ⟨_, rfl, a, n, l1, h1, rfl, ma, _, rfl, _, rfl, ?_⟩
    refine ⟨_, rfl, ⟨a, n, l1, h1, rfl, ma⟩, a, n, l1, h1, rfl, ma, _, rfl, ⟨b, n, l2, h2, rfl, mb⟩, b, n, l2, h2, rfl, mb, _, _, rfl, rfl, ?_⟩
    exact ⟨n, _, _, _, rfl, ma.wd, msk_sb _ _ _ _, fun p H' s m => k p H' _ _ s m (nar_sub ma.msk mb.msk)⟩
theorem ok_neg (F : Fun K "__neg__" "Mask.__neg__" (inMask 24) f fd) (T : Txt K mg C) (g_sum_between : Cl P w K mg base 6 "sum_between" (spBetw C))
    (m_open_ones : Mt P w K mg base C 1 "open_ones" (sp1 (rOpn C))) : FnOk P w K mg base CX0 7 f fd ["self"] (sp1 (rNeg C)) := by
  have sc : FnScope ["self"] ["self"] (defScope (inMask 24)) := ⟨rfl, rfl, rfl, by decide +kernel, rfl, by decide +kernel, by decide +kernel⟩
  refine F.ok sc (fun vs H Q E h => ?_) (fun cdv A outer s H vs Q E hr h => ?_)
  · obtain ⟨x, rfl, _⟩ := h
    rfl
  · obtain ⟨x, rfl, a, n, l1, h1, rfl, ma, k⟩ := h
    refine ⟨_, (pss_one (ps_ret (pe_cl g_sum_between hr (by decide) rfl (pa_cons (pe_fW (pv 0) T) (pa_cons (pe_op op_sub pe_int (pe_fH (pv 0) T)) (pa_cons (pe_op op_sub pe_int (pe_fL (pv 0) T)) (pa_cons (pe_m1' (pv 0) T m_open_ones hr (by decide)) pa_nil))))))), ?_⟩
    refine ⟨_, rfl, a, n, l1, h1, rfl, ma, ?_⟩
    refine ⟨_, rfl, a, n, l1, h1, rfl, ma, _, _, rfl, rfl, ?_⟩
    refine ⟨_, rfl, a, n, l1, h1, rfl, ma, _, _, rfl, rfl, ?_⟩
    refine ⟨_, rfl, ⟨a, n, l1, h1, rfl, ma⟩, a, n, l1, h1, rfl, ma, ?_⟩
    exact ⟨n, _, _, _, rfl, ma.wd, msk_sb _ _ _ _, fun p H' s m => k p H' _ _ s m (nar_neg ma.msk)⟩
theorem ok_lshift (F : Fun K "__lshift__" "Mask.__lshift__" (inMask 25) f fd) (T : Txt K mg C) (gM : Mkr P w K mg base C 3 (spInit C)) (g_size_of : Cl P w K mg base 1 "size_of" spSize)
    (m_need_shift : Mt P w K mg base C 2 "need_shift" (sp2 (rNeedS C))) : FnOk P w K mg base CX0 5 f fd ["self", "other"] (sp2 (rShl C)) := by
  have sc : FnScope ["self", "other", "last"] ["self", "other"] (defScope (inMask 25)) := ⟨rfl, rfl, rfl, by decide +kernel, rfl, by decide +kernel, by decide +kernel⟩
  refine F.ok sc (fun vs H Q E h => ?_) (fun cdv A outer s H vs Q E hr h => ?_)
  · obtain ⟨x, y, rfl, _⟩ := h
    rfl
  · obtain ⟨x, y, rfl, a, n, l1, h1, sh, rfl, rfl, hs, ma, k⟩ := h
    have hn := ma.wd
    have lt64 : ∀ x : Int, InW n x → x.natAbs < 2 ^ 64 := fun x hx => by
      have a1 := hx.1
      have a2 := hx.2
      have e1 : ((2 ^ n : Nat) : Int) = 2 ^ n := by rw [Int.natCast_pow]; rfl
      have e2 : (2 : Nat) ^ n ≤ 2 ^ 64 := Nat.pow_le_pow_right (by decide) hn.2
      omega
    refine ⟨_, (pss_cons (ps_expr (pe_m2 (pv 0) T m_need_shift hr (by decide) (pa_cons (pv 1) pa_nil)))
      (pss_cons (ps_set (i := 2) sc.nd rfl (Or.inl rfl) (pe_op op_sub (pe_cl g_size_of hr (by decide) rfl (pa_cons (pe_fW (pv 0) T) pa_nil)) pe_int))
      (pss_one (ps_ret (pe_M gM T hr (by decide) rfl (pa_cons (pe_fW (pv 0) T) (pa_cons (pe_op op_and (pe_op op_shl (pe_fL (pv 0) T) (pv 1)) (pv 2)) (pa_cons (pe_op op_and (pe_op op_shl (pe_fH (pv 0) T) (pv 1)) (pv 2)) pa_nil)))))))), ?_⟩
    refine ⟨_, rfl, ⟨a, n, l1, h1, rfl, ma⟩, _, rfl, _, rfl, a, n, l1, h1, sh, rfl, rfl, hs, ma, ?_⟩
    refine ⟨_, rfl, a, n, l1, h1, rfl, ma, n, rfl, by omega, _, _, rfl, rfl, ?_⟩
    refine ⟨_, rfl, a, n, l1, h1, rfl, ma, ?_⟩
    refine ⟨_, rfl, a, n, l1, h1, rfl, ma, _, rfl, _, _, rfl, rfl, ⟨by omega, by omega, lt64 _ ma.msk.ilo⟩, _, rfl, _, _, rfl, rfl, ?_⟩
    refine ⟨_, rfl, a, n, l1, h1, rfl, ma, _, rfl, _, _, rfl, rfl, ⟨by omega, by omega, lt64 _ ma.msk.ihi⟩, _, rfl, _, _, rfl, rfl, ?_⟩
    exact ⟨n, _, _, rfl, ma.wd, msk_shl ma.msk sh, k⟩
theorem ok_eq (F : Fun K "__eq__" "Mask.__eq__" (inMask 27) f fd) (T : Txt K mg C) : FnOk P w K mg base CX0 1 f fd ["self", "other"] (sp2 (rEqM C)) := by
  have sc : FnScope ["self", "other"] ["self", "other"] (defScope (inMask 27)) := ⟨rfl, rfl, rfl, by decide +kernel, rfl, by decide +kernel, by decide +kernel⟩
  refine F.ok sc (fun vs H Q E h => ?_) (fun cdv A outer s H vs Q E hr h => ?_)
  · obtain ⟨x, y, rfl, _⟩ := h
    rfl
  · obtain ⟨x, y, rfl, a, b, n, l1, h1, n', l2, h2, rfl, rfl, ma, mb, k⟩ := h
    obtain ⟨dy, eb⟩ := mb.at_
    refine ⟨_, (pss_cons (ps_if (PW.pt (pw_or (pt_not (pt_val (pe_callB call_isi (by rfl) T.isi (by decide +kernel) (pa_cons (pv 1) (pa_cons (pe_glob (v := .ref C) rfl T.mgC rfl) pa_nil))))) (pw_or1 (pt_cmpR op_ne (pe_fW (pv 0) T) (pe_fW (pv 1) T) (nomark _))))) (pss_one (ps_ret pe_bl)) pss_nil)
      (pss_one (ps_ret (pe_and (pe_cmpR op_eq (pe_fL (pv 0) T) (pe_fL (pv 1) T) (nomark _)) (pe_one (pe_cmpR op_eq (pe_fH (pv 0) T) (pe_fH (pv 1) T) (nomark _))))))), ?_⟩
    refine ⟨_, rfl, _, _, _, _, true, rfl, .own C, T.ty eb, by unfold PySem.W.kitOne; rw [if_pos (by simp)], _, rfl, iteF ?_⟩
    refine ⟨_, rfl, a, n, l1, h1, rfl, ma, _, rfl, b, n', l2, h2, rfl, mb, rfl, _, rfl, ?_⟩
    by_cases z0 : n = n'
    · rw [decide_eq_true (show V.int (n : Int) = V.int (n' : Int) by rw [z0])]
      refine iteF ?_
      refine ⟨_, rfl, a, n, l1, h1, rfl, ma, _, rfl, b, n', l2, h2, rfl, mb, rfl, _, rfl, ?_⟩
      by_cases z1 : l1 = l2
      · rw [decide_eq_true (congrArg V.int z1)]
        refine iteT ?_
        refine ⟨_, rfl, a, n, l1, h1, rfl, ma, _, rfl, b, n', l2, h2, rfl, mb, rfl, ?_⟩
        exact k _ ⟨fun e => ⟨z0, z1, V.int.inj (of_decide_eq_true e)⟩, fun e => decide_eq_true (congrArg V.int e.2.2)⟩
      · rw [decide_eq_false (fun e => z1 (V.int.inj e))]
        exact iteF (k _ ⟨fun e => Bool.noConfusion e, fun e => (z1 e.2.1).elim⟩)
    · rw [decide_eq_false (fun e => z0 (by have q : (n : Int) = (n' : Int) := V.int.inj e; omega))]
      exact iteT (k _ ⟨fun e => Bool.noConfusion e, fun e => (z0 e.1).elim⟩)
theorem ok_narrowest (F : Fun K "narrowest" "Mask.narrowest" (inMask 2) f fd) (gM : Mkr P w K mg base C 3 (spInit C)) : FnOk P w K mg base CX0 5 f fd ["cls", "width", "words"] (spNarr K C) := by
  have sc : FnScope ["cls", "width", "words", "low", "high", "word"] ["cls", "width", "words"] (defScope (inMask 2)) := ⟨rfl, rfl, rfl, by decide +kernel, rfl, by decide +kernel, by decide +kernel⟩
  refine F.ok sc (fun vs H Q E h => ?_) (fun cdv A outer s H vs Q E hr h => ?_)
  · obtain ⟨n, t, x, rfl, _⟩ := h
    rfl
  · obtain ⟨n, t, x, rfl, hn, hx, ht, k⟩ := h
    have and_self : Builtin.bitAnd x x = x := by apply ib_ext; intro i; rw [ib_and, Bool.and_self]
    have or_self : Builtin.bitOr x x = x := by apply ib_ext; intro i; rw [ib_or, Bool.or_self]
    refine ⟨_, (pss_cons (ps_par (i := 3) (j := 4) (by rfl) sc.nd rfl rfl (by decide) rfl rfl (pa_cons (pe_ix ix_tup (pv 2) pe_int (fun _ _ => rfl)) (pa_cons (pe_ix ix_tup (pv 2) pe_int (fun _ _ => rfl)) pa_nil)) (by rfl))
      (pss_cons (ps_for PassesOwn.never rfl (pi_tup (pv 2)) (pg_name (i := 5) sc.nd rfl (Or.inl rfl))
      (pss_one (ps_par (i := 3) (j := 4) (by rfl) sc.nd rfl rfl (by decide) rfl rfl (pa_cons (pe_op op_and (pv 3) (pv 5)) (pa_cons (pe_op op_or (pv 4) (pv 5)) pa_nil)) (by rfl))))
      (pss_one (ps_ret (pe_ML (i := 0) gM hr (by decide) (pa_cons (pv 1) (pa_cons (pv 3) (pa_cons (pv 4) pa_nil))) rfl (Or.inl rfl)))))), ?_⟩
    refine ⟨_, rfl, t, _, 0, _, rfl, rfl, ht, rfl, _, rfl, t, _, 0, _, rfl, rfl, ht, rfl, _, _, rfl, ?_⟩
    refine ⟨_, rfl, t, rfl, ⟨_, ht⟩, for_tup (K := K) (a := t) (xs := [.int x]) (fun i σ H' => H' = H ∧ ∃ v, σ = [some (.ref C), some (.int n), some (.ref t), some (.int x), some (.int x), v]) ⟨rfl, none, rfl⟩ (fun i σ H' _ h => by rw [h.1]; exact ht) ?_ ?_⟩
    · rintro i y σ H' hi ⟨rfl, v, rfl⟩
      have ey : y = .int x := by
        cases i with
        | zero => exact (Option.some.inj hi).symm
        | succ i => simp at hi
      subst ey
      refine ⟨_, rfl, _, rfl, _, _, rfl, rfl, _, rfl, _, rfl, _, _, rfl, rfl, _, _, rfl, rfl, ?_⟩
      show ∃ u, [some (V.ref C), some (V.int n), some (V.ref t), some (V.int (Builtin.bitAnd x x)), some (V.int (Builtin.bitOr x x)), some (V.int x)] = [some (V.ref C), some (V.int n), some (V.ref t), some (V.int x), some (V.int x), u]
      rw [and_self, or_self]
      exact ⟨_, rfl⟩
    · rintro σ H' ⟨rfl, v, rfl⟩
      exact ⟨rfl, _, rfl, _, rfl, _, rfl, n, _, _, rfl, hn, one_msk hx, k⟩
end
end WP


set_option Elab.async false
set_option linter.all false
set_option maxRecDepth 100000
set_option maxHeartbeats 8000000
/-! K8Sums: bit_choices, all_choices, carried. -/
namespace WP
open PySem PySem.Spec PyProof.Rows L2 WA WR

/-! ### all but lists and dicts is kept -/
def fixd : HO → Bool
  | .lst _ => false
  | .dK _ => false
  | _ => true
def Ti (H H' : Hp) : Prop := ∀ b o, fixd o = true → H b = some o → H' b = some o
theorem Ti.refl (H : Hp) : Ti H H := fun _ _ _ h => h
theorem Ti.trans {H H1 H2 : Hp} (a : Ti H H1) (b : Ti H1 H2) : Ti H H2 := fun c o f h => b c o f (a c o f h)
theorem Ti.same {H H' : Hp} (s : Same H H') : Ti H H' := fun b o _ h => s b o h
theorem Ti.lst {H : Hp} {D : Addr} {xs : List V} {o : HO} (h : H D = some (.lst xs)) : Ti H (upd H D o) := fun b u f e => by
  rw [upd_ne (ne_of e h fun q => by rw [q] at f; cases f)]; exact e
theorem Ti.dK {H : Hp} {D : Addr} {kvs : List (Key × V)} {o : HO} (h : H D = some (.dK kvs)) : Ti H (upd H D o) := fun b u f e => by
  rw [upd_ne (ne_of e h fun q => by rw [q] at f; cases f)]; exact e
theorem IsM.ti {C : Addr} {H H' : Hp} {p : Addr} {w : Nat} {lo hi : Int} (m : IsM C H p w lo hi) (s : Ti H H') : IsM C H' p w lo hi :=
  ⟨m.wd, m.msk, let ⟨dx, e⟩ := m.at_; ⟨dx, s _ _ rfl e⟩⟩
theorem Ti.sqT {K : PySem.W.Frag} {H H' : Hp} {a : Addr} {xs : List V} (e : Ti H H') (h : SqT K H a xs) : SqT K H' a xs :=
  h.elim (fun h => .inl (h.elim (fun h => .inl (e _ _ rfl h)) fun ⟨o, h⟩ => .inr ⟨o, e _ _ rfl h⟩)) fun h => .inr h
theorem TmV.ti {K : PySem.W.Frag} {C : Addr} {H H' : Hp} {w : Nat} (s : Ti H H') : ∀ {vs : List V} {ts : List Trm}, TmV K C H w vs ts → TmV K C H' w vs ts
  | [], [], _ => trivial
  | [], _ :: _, h => h.elim
  | _ :: _, [], h => h.elim
  | _ :: _, _ :: _, ⟨⟨p, m, e, q, i⟩, h⟩ => ⟨⟨p, m, e, s.sqT q, i.ti s⟩, TmV.ti s h⟩
theorem TmA.ti {K : PySem.W.Frag} {C : Addr} {H H' : Hp} {t : Addr} {w : Nat} {ts : List Trm} (h : TmA K C H t w ts) (s : Ti H H') : TmA K C H' t w ts :=
  let ⟨vs, a, b⟩ := h; ⟨vs, s.sqT a, b.ti s⟩
theorem TupsV.ti {K : PySem.W.Frag} {H H' : Hp} (s : Ti H H') : ∀ {vs : List V} {bs : List (List Int)}, TupsV K H vs bs → TupsV K H' vs bs
  | [], [], _ => trivial
  | [], _ :: _, h => h.elim
  | _ :: _, [], h => h.elim
  | _ :: _, _ :: _, ⟨⟨p, e, q⟩, h⟩ => ⟨⟨p, e, s.sqT q⟩, TupsV.ti s h⟩
theorem TupsV.get {K : PySem.W.Frag} {H : Hp} : ∀ {vs : List V} {bs : List (List Int)} {i : Nat} {v : V}, TupsV K H vs bs → vs[i]? = some v → ∃ b, bs[i]? = some b ∧ ∃ p, v = .ref p ∧ SqT K H p (b.map V.int)
  | [], _, i, v, _, e => by simp at e
  | _ :: _, [], _, _, h, _ => h.elim
  | x :: vs, b :: bs, 0, v, h, e => by
    simp at e
    subst e
    exact ⟨b, rfl, h.1⟩
  | x :: vs, b :: bs, i + 1, v, h, e => by
    obtain ⟨u, hu, r⟩ := TupsV.get (i := i) h.2 (by simpa using e)
    exact ⟨u, by simpa using hu, r⟩
theorem TupsV.len {K : PySem.W.Frag} {H : Hp} : ∀ {vs : List V} {bs : List (List Int)}, TupsV K H vs bs → vs.length = bs.length
  | [], [], _ => rfl
  | [], _ :: _, h => h.elim
  | _ :: _, [], h => h.elim
  | _ :: vs, _ :: bs, h => by rw [List.length_cons, List.length_cons, TupsV.len h.2]
theorem TupsV.snoc {K : PySem.W.Frag} {H : Hp} {v : V} {b : List Int} (r : ∃ p, v = .ref p ∧ SqT K H p (b.map V.int)) : ∀ {vs : List V} {bs : List (List Int)}, TupsV K H vs bs → TupsV K H (vs ++ [v]) (bs ++ [b])
  | [], [], _ => ⟨r, trivial⟩
  | [], _ :: _, h => h.elim
  | _ :: _, [], h => h.elim
  | _ :: vs, _ :: bs, h => ⟨h.1, TupsV.snoc r h.2⟩

/-! ### choices by turns -/
theorem chsF_snoc (i : Nat) (t : Trm) : ∀ (ts : List Trm) (acc : List (List Int)), chsF i (ts ++ [t]) acc = (chsF i ts acc).flatMap fun s => (ch1 i t.2.1 t.2.2).map fun o => s ++ [o]
  | [], acc => rfl
  | u :: ts, acc => by
    show chsF i (ts ++ [t]) _ = _
    rw [chsF_snoc i t ts]
    rfl
theorem ch1_len (i : Nat) (lo hi : Int) : (ch1 i lo hi).length ≤ 2 := by
  unfold ch1
  exact Nat.le_trans (List.length_filter_le _ _) (Nat.le_refl _)
theorem flat_len {α β : Type} (n : Nat) (f : α → List β) (h : ∀ a, (f a).length ≤ n) : ∀ l : List α, (l.flatMap f).length ≤ l.length * n
  | [] => Nat.zero_le _
  | a :: l => by
    rw [List.flatMap_cons, List.length_append, List.length_cons, Nat.succ_mul]
    have := flat_len n f h l
    have := h a
    omega
theorem chsF_len (i : Nat) : ∀ (ts : List Trm) (acc : List (List Int)), (chsF i ts acc).length ≤ acc.length * 2 ^ ts.length
  | [], acc => by simp [chsF]
  | t :: ts, acc => by
    have h := chsF_len i ts (acc.flatMap fun s => (ch1 i t.2.1 t.2.2).map fun o => s ++ [o])
    have h2 := flat_len 2 (fun s : List Int => (ch1 i t.2.1 t.2.2).map fun o => s ++ [o]) (fun a => by rw [List.length_map]; exact ch1_len _ _ _) acc
    show (chsF i ts _).length ≤ _
    rw [List.length_cons, Nat.pow_succ]
    refine Nat.le_trans h ?_
    rw [Nat.mul_comm (2 ^ ts.length) 2, ← Nat.mul_assoc]
    exact Nat.mul_le_mul_right _ h2
theorem chs_len {i : Nat} : ∀ {ts : List Trm} {bs : List Int}, Chs i ts bs → bs.length = ts.length
  | [], [], _ => rfl
  | [], _ :: _, h => h.elim
  | _ :: _, [], h => h.elim
  | _ :: ts, _ :: bs, h => by rw [List.length_cons, List.length_cons, chs_len h.2]

/-! ### comprehensions of two clauses -/
section
variable {J J1 : It} {n n1 : Nat} {G' G1 : Hp → Prop} {Y Y1 : Nat → Hp → V → Hp → Prop}
theorem lc2_it (w : Walk J n G' Y) {g g1 : TG} {tt tt1 : TT} {wi1 : TI} {te : TE} {vs vs1 : List Nat} {σ : L2.St} {H1 : Hp} {D : Addr} {Qd : Hp → Prop} (Pv : Nat → Hp → Prop) (h0 : Pv 0 (upd H1 D (.lst []))) (hG : ∀ i H, i ≤ n → Pv i H → G' H)
    (hs : ∀ i x H H', i < n → Pv i H → Y i H x H' → g x (wipe σ vs) H' fun σ2 H2 => wipe σ2 vs = wipe σ vs ∧ tt σ2 H2 fun b H3 =>
      if b = true then wi1 σ2 H3 fun J1 H4 => ∃ W1 : Nat → Nat → Hp → Prop, (∃ m, W1 0 m H4) ∧ ∀ j k H, W1 j k H → (J1.stop j H ∧ Pv (i + 1) H) ∨ (J1.go j H ∧ ∃ Nx1 : Hp → Prop, (∀ H', Nx1 H' → ∃ k', k' < k ∧ W1 (j + 1) k' H') ∧
        ∀ x H', J1.yld j H x H' → g1 x (wipe σ2 vs1) H' fun σ3 H5 => wipe σ3 vs1 = wipe σ2 vs1 ∧ tt1 σ3 H5 fun b H6 => if b = true then te σ3 H6 fun y H7 => ∃ acc, H7 D = some (.lst acc) ∧ acc.length < sizeLine ∧ Nx1 (upd H7 D (.lst (acc ++ [y]))) else Nx1 H6)
      else Pv (i + 1) H3) (hd : ∀ H, Pv n H → Qd H) :
    ∃ W : Nat → Nat → Hp → Prop, (∃ m, W 0 m (upd H1 D (.lst []))) ∧ ∀ i m H, W i m H →
      (J.stop i H ∧ Qd H) ∨ (J.go i H ∧ ∃ Nx : Hp → Prop, (∀ H', Nx H' → ∃ m', m' < m ∧ W (i + 1) m' H') ∧ ∀ x H', J.yld i H x H' → g x (wipe σ vs) H' fun σ2 H2 => wipe σ2 vs = wipe σ vs ∧ tt σ2 H2 fun b H3 =>
        if b = true then wi1 σ2 H3 fun J1 H4 => ∃ W1 : Nat → Nat → Hp → Prop, (∃ m, W1 0 m H4) ∧ ∀ j k H, W1 j k H → (J1.stop j H ∧ Nx H) ∨ (J1.go j H ∧ ∃ Nx1 : Hp → Prop, (∀ H', Nx1 H' → ∃ k', k' < k ∧ W1 (j + 1) k' H') ∧
          ∀ x H', J1.yld j H x H' → g1 x (wipe σ2 vs1) H' fun σ3 H5 => wipe σ3 vs1 = wipe σ2 vs1 ∧ tt1 σ3 H5 fun b H6 => if b = true then te σ3 H6 fun y H7 => ∃ acc, H7 D = some (.lst acc) ∧ acc.length < sizeLine ∧ Nx1 (upd H7 D (.lst (acc ++ [y]))) else Nx1 H6)
        else Nx H3) := by
  refine ⟨fun i m H => m = n - i ∧ i ≤ n ∧ Pv i H, ⟨n, by simp, Nat.zero_le _, h0⟩, ?_⟩
  rintro i m H ⟨rfl, hi, p⟩
  have q := hG i H hi p
  by_cases hlt : i < n
  · exact .inr ⟨w.goes i H hlt q, Pv (i + 1), fun H' p' => ⟨n - (i + 1), by omega, rfl, hlt, p'⟩, fun x H' y => hs i x H H' hlt p (w.yields i H x H' hlt q y)⟩
  · have e : i = n := by omega
    subst e
    exact .inl ⟨w.stops H q, hd H p⟩
theorem in_it (w : Walk J1 n1 G1 Y1) {g1 : TG} {tt1 : TT} {te : TE} {vs1 : List Nat} {σ2 : L2.St} {H4 : Hp} {D : Addr} {Nx : Hp → Prop} (Pv : Nat → Hp → Prop) (h0 : Pv 0 H4) (hG : ∀ i H, i ≤ n1 → Pv i H → G1 H)
    (hs : ∀ i x H H', i < n1 → Pv i H → Y1 i H x H' → g1 x (wipe σ2 vs1) H' fun σ3 H5 => wipe σ3 vs1 = wipe σ2 vs1 ∧ tt1 σ3 H5 fun b H6 =>
      if b = true then te σ3 H6 fun y H7 => ∃ acc, H7 D = some (.lst acc) ∧ acc.length < sizeLine ∧ Pv (i + 1) (upd H7 D (.lst (acc ++ [y]))) else Pv (i + 1) H6) (hd : ∀ H, Pv n1 H → Nx H) :
    ∃ W1 : Nat → Nat → Hp → Prop, (∃ m, W1 0 m H4) ∧ ∀ j k H, W1 j k H → (J1.stop j H ∧ Nx H) ∨ (J1.go j H ∧ ∃ Nx1 : Hp → Prop, (∀ H', Nx1 H' → ∃ k', k' < k ∧ W1 (j + 1) k' H') ∧
      ∀ x H', J1.yld j H x H' → g1 x (wipe σ2 vs1) H' fun σ3 H5 => wipe σ3 vs1 = wipe σ2 vs1 ∧ tt1 σ3 H5 fun b H6 => if b = true then te σ3 H6 fun y H7 => ∃ acc, H7 D = some (.lst acc) ∧ acc.length < sizeLine ∧ Nx1 (upd H7 D (.lst (acc ++ [y]))) else Nx1 H6) := by
  refine ⟨fun i m H => m = n1 - i ∧ i ≤ n1 ∧ Pv i H, ⟨n1, by simp, Nat.zero_le _, h0⟩, ?_⟩
  rintro i m H ⟨rfl, hi, p⟩
  have q := hG i H hi p
  by_cases hlt : i < n1
  · exact .inr ⟨w.goes i H hlt q, Pv (i + 1), fun H' p' => ⟨n1 - (i + 1), by omega, rfl, hlt, p'⟩, fun x H' y => hs i x H H' hlt p (w.yields i H x H' hlt q y)⟩
  · have e : i = n1 := by omega
    subst e
    exact .inl ⟨w.stops H q, hd H p⟩
end

section
variable {P : Program} {w : World} {K : PySem.W.Frag} {mg : Str → Option Value} {base : Heap} {C f : Addr} {fd : FuncData}
theorem ite_dec {c A B : Prop} [Decidable c] (h1 : c → A) (h2 : ¬ c → B) : if decide c = true then A else B := by
  by_cases h : c
  · rw [decide_eq_true h]; exact iteT (h1 h)
  · rw [decide_eq_false h]; exact iteF (h2 h)
theorem bit_val (x : Int) (i : Nat) : Builtin.bitAnd (x / 2 ^ ((i : Int)).toNat) 1 = x / 2 ^ i % 2 := by rw [bitAnd_m1, Int.toNat_natCast]
theorem ok_bit_choices (F : Fun K "bit_choices" "bit_choices" (top 27) f fd) (T : Txt K mg C) (p_least : Prp P w K mg base C 1 "least" (sp1 (rI1 C fL))) (p_greatest : Prp P w K mg base C 1 "greatest" (sp1 (rI1 C fH))) :
    FnOk P w K mg base CX0 3 f fd ["mask", "bit"] (spBitC C) := by
  have sc : FnScope ["mask", "bit", "one"] ["mask", "bit"] (defScope (top 27)) := ⟨rfl, rfl, rfl, by decide +kernel, rfl, by decide +kernel, by decide +kernel⟩
  refine F.ok sc (fun vs H Q E h => ?_) (fun cdv A outer s H vs Q E hr h => ?_)
  · obtain ⟨m, i, n, lo, hi, rfl, _⟩ := h
    rfl
  · obtain ⟨m, i, n, lo, hi, rfl, hm, k⟩ := h
    refine ⟨_, (pss_one (ps_ret (pe_lc (own := [("one", 2)]) (g := (gName 2)) rfl sc.nd (pi_tup (pe_tup (pa_cons pe_int (pa_cons pe_int pa_nil)))) (blkOk_by (own := [("one", 2)]) (N := ["mask", "bit", "one"]) (sc := defScope (top 27)) (by decide +kernel)) (fun _ _ _ _ _ => (pg_name (i := 2) sc.nd rfl (Or.inl rfl))) (fun _ _ _ _ _ => (pts_one (pt_chain op_le op_le (pe_op op_and (pe_op op_shr (pe_pI (pv 0) T p_least hr (by decide)) (pv 1)) pe_int) (pv 2) (pe_op op_and (pe_op op_shr (pe_pI (pv 0) T p_greatest hr (by decide)) (pv 1)) pe_int)))) (fun _ _ _ _ _ => (pv 2))))), ?_⟩
    refine ⟨(by show 2 ≤ sizeLine; decide), fun t ht => ⟨t, rfl, ⟨_, SqT.of upd_same⟩, fun D hD => ?_⟩⟩
    let pp : Int → Bool := fun one => decide (lo / 2 ^ i % 2 ≤ one) && decide (one ≤ hi / 2 ^ i % 2)
    have hD0 : H D = none := Same.free (G.upd ht) hD
    refine lc_tup (K := K) (a := t) (xs := [.int 0, .int 1]) (fun j H' => Same (upd H t (.tup [.int 0, .int 1])) H' ∧ H' D = some (.lst (((([0, 1] : List Int).take j).filter pp).map V.int))) ⟨G.upd hD, upd_same⟩ (fun j H' _ h => G.sqT h.1 (SqT.of upd_same)) ?_ ?_
    · rintro j x H' hj ⟨hs, hl⟩
      obtain ⟨o, ho, rfl⟩ : ∃ o : Int, (([0, 1] : List Int).take (j + 1)) = (([0, 1] : List Int).take j) ++ [o] ∧ x = .int o := by
        match j, hj with
        | 0, hj => exact ⟨0, rfl, (Option.some.inj hj).symm⟩
        | 1, hj => exact ⟨1, rfl, (Option.some.inj hj).symm⟩
        | j + 2, hj => simp at hj
      have hm' := hm.mono (Same.trans (G.upd ht) hs)
      refine ⟨rfl, ?_⟩
      refine ⟨_, rfl, m, n, lo, hi, rfl, hm', _, rfl, _, _, rfl, rfl, by omega, _, _, rfl, rfl, ?_⟩
      refine ⟨_, rfl, _, _, rfl, rfl, ?_⟩
      have hno : ∀ H1 : Hp, ¬ (pp o = true) → Same (upd H t (.tup [.int 0, .int 1])) H1 → H1 D = some (.lst (((([0, 1] : List Int).take j).filter pp).map V.int)) → Same (upd H t (.tup [.int 0, .int 1])) H1 ∧ H1 D = some (.lst (((([0, 1] : List Int).take (j + 1)).filter pp).map V.int)) := fun H1 np s e => by
        refine ⟨s, ?_⟩
        rw [ho, List.filter_append, e]
        have : List.filter pp [o] = [] := by rw [List.filter_cons, if_neg np]; rfl
        rw [this, List.append_nil]
      refine ⟨_, rfl, ite_dec (fun c1 => ?_) (fun c1 => ?_)⟩
      · refine ⟨_, rfl, m, n, lo, hi, rfl, hm', _, rfl, _, _, rfl, rfl, by omega, _, _, rfl, rfl, ?_⟩
        have c1' : lo / 2 ^ i % 2 ≤ o := by rw [← bit_val]; exact c1
        refine ⟨_, _, rfl, rfl, _, rfl, ite_dec (fun c2 => ?_) (fun c2 => ?_)⟩
        · have c2' : o ≤ hi / 2 ^ i % 2 := by rw [← bit_val]; exact c2
          have hpp : pp o = true := by
            show (decide (lo / 2 ^ i % 2 ≤ o) && decide (o ≤ hi / 2 ^ i % 2)) = true
            rw [decide_eq_true c1', decide_eq_true c2']; rfl
          refine ⟨_, rfl, _, hl, ?_, fun b u e => ?_, ?_⟩
          · rw [List.length_map]
            refine Nat.lt_of_le_of_lt (List.length_filter_le _ _) (Nat.lt_of_le_of_lt (List.length_take_le' _ _) (by show 2 < sizeLine; decide))
          · have nbD : b ≠ D := fun q => by rw [q, hD] at e; cases e
            rw [upd_ne nbD]
            exact hs _ _ e
          · rw [upd_same, ho, List.filter_append, List.map_append]
            have : List.filter pp [o] = [o] := by rw [List.filter_cons, if_pos hpp]; rfl
            rw [this]
            rfl
        · refine hno H' (fun q => c2 ?_) hs hl
          have q2 := (Bool.and_eq_true_iff.mp q).2
          have q3 : o ≤ hi / 2 ^ i % 2 := of_decide_eq_true q2
          rw [← bit_val] at q3
          exact q3
      · refine ⟨false, rfl, iteF (hno H' (fun q => c1 ?_) hs hl)⟩
        have q2 := (Bool.and_eq_true_iff.mp q).1
        have q3 : lo / 2 ^ i % 2 ≤ o := of_decide_eq_true q2
        rw [← bit_val] at q3
        exact q3
    · rintro H' ⟨hs, hl⟩
      exact k D H' (Same.trans (G.upd ht) hs) hD0 hl
theorem take_succ' {α : Type} {l : List α} {j : Nat} {x : α} (h : l[j]? = some x) : l.take (j + 1) = l.take j ++ [x] := by
  rw [List.take_succ, h]; rfl
theorem lt_sz {n : Nat} (h : n ≤ 1000) : n < sizeLine := small1000 h
theorem ok_all_choices (F : Fun K "all_choices" "all_choices" (top 28) f fd) (T : Txt K mg C) (g_bit_choices : Cl P w K mg base 3 "bit_choices" (spBitC C)) :
    FnOk P w K mg base CX0 4 f fd ["terms", "bit"] (spAllC K C) := by
  have sc : FnScope ["terms", "bit", "found", "factor", "mask", "some", "one"] ["terms", "bit"] (defScope (top 28)) := ⟨rfl, rfl, rfl, by decide +kernel, rfl, by decide +kernel, by decide +kernel⟩
  refine F.ok sc (fun vs H Q E h => ?_) (fun cdv A outer s H vs Q E hr h => ?_)
  · obtain ⟨t, i, n, ts, rfl, _⟩ := h
    rfl
  · obtain ⟨t, i, n, ts, rfl, ⟨vs, hvs, hT⟩, h4, k⟩ := h
    have hlen := hT.len
    refine ⟨_, (pss_cons (ps_set (i := 2) sc.nd rfl (Or.inl rfl) (pe_lst (pa_cons (pe_tup pa_nil) pa_nil)))
      (pss_cons (ps_for PassesOwn.never rfl (pi_tup (pv 0)) (pg_tup rfl (pgs_cons (pg_name (i := 3) sc.nd rfl (Or.inl rfl)) (pgs_cons (pg_name (i := 4) sc.nd rfl (Or.inr rfl)) pgs_nil)))
      (pss_one (ps_setLc2 (i := 2) (own := [("some", 5), ("one", 6)]) (vs1 := [6]) (g := (gName 5)) (tt := tYes) (g1 := (gName 6)) (tt1 := tYes) (wi1 := iList K (tCl (spBitC C) (tCons (tVar 4) (tCons (tVar 1) tNil)))) (te := tTup (StX.tStar K (tVar 5) (tCons (tVar 6) tNil))) rfl sc.nd rfl rfl (sw_true rfl rfl rfl (by decide +kernel)) (pi_list (pv 2)) (blkOk_by (own := [("some", 5), ("one", 6)]) (N := ["terms", "bit", "found", "factor", "mask", "some", "one"]) (sc := defScope (top 28)) (by decide +kernel)) (by decide) (fun _ _ _ _ _ => (pg_name (i := 5) sc.nd rfl (Or.inl rfl))) (fun _ _ _ _ _ => pts_nil) (fun _ _ _ _ _ => (pi_list (pe_cl g_bit_choices hr (by decide) rfl (pa_cons (pv 4) (pa_cons (pv 1) pa_nil))))) (fun _ _ _ _ _ => (pg_name (i := 6) sc.nd rfl (Or.inl rfl))) (fun _ _ _ _ _ => pts_nil) (fun _ _ _ _ _ => (pe_tup (StX.pa_star (pv 5) (pa_cons (pv 6) pa_nil)))))))
      (pss_one (ps_ret (pv 2))))), ?_⟩
    refine ⟨Nat.zero_le _, fun e0 he0 => ⟨(by show 1 ≤ sizeLine; decide), fun l0 hl0 => ?_⟩⟩
    have s0 : Same H (upd (upd H e0 (.tup [])) l0 (.lst [.ref e0])) := Same.trans (G.upd he0) (G.upd hl0)
    have hl00 : H l0 = none := Same.free (G.upd he0) hl0
    refine ⟨_, rfl, t, rfl, ⟨_, G.sqT s0 hvs⟩, for_tup (K := K) (a := t) (xs := vs) (fun j σ H' => ∃ (l : Addr) (us : List V) (v3 v4 : Option V), σ = [some (.ref t), some (.int i), some (.ref l), v3, v4, none, none] ∧ Same H H' ∧ H l = none ∧
      H' l = some (.lst us) ∧ TupsV K H' us (chsF i (ts.take j) [[]]))
      ⟨l0, [.ref e0], none, none, rfl, s0, hl00, upd_same, ⟨e0, rfl, SqT.of (by rw [upd_ne (ne_of_none upd_same hl0), upd_same]; rfl)⟩, trivial⟩ (fun j σ H' _ h => by obtain ⟨_, _, _, _, _, s, _⟩ := h; exact G.sqT s hvs) ?_ ?_⟩
    · rintro j y σ H1 hj ⟨l, us, v3, v4, rfl, s1, l0', hl, hU⟩
      obtain ⟨tm, htm, p, m, rfl, hp, hm⟩ := hT.get hj
      have hjl : j < ts.length := (List.getElem?_eq_some_iff.mp htm).1
      refine ⟨p, _, rfl, G.sqT s1 hp, rfl, _, _, rfl, _, _, rfl, rfl, ?_⟩
      refine ⟨_, rfl, l, rfl, ⟨_, SqL.of hl⟩, fun D hD => ?_⟩
      have hD0 : H D = none := Same.free s1 hD
      have nlD : l ≠ D := ne_of_none hl hD
      have sD : Same H (upd H1 D (.lst [])) := Same.trans s1 (G.upd hD)
      have hacc : (chsF i (ts.take j) [[]]).length ≤ 16 := by
        refine Nat.le_trans (chsF_len i _ _) ?_
        have e1 : ([[]] : List (List Int)).length = 1 := rfl
        have e2 : (ts.take j).length ≤ 4 := Nat.le_trans (List.length_take_le' _ _) h4
        rw [e1, Nat.one_mul]
        exact Nat.pow_le_pow_right (by decide) e2
      refine lc2_it (walk_list (K := K) (a := l) (xs := us)) (fun a H2 => Same H H2 ∧ H2 l = some (.lst us) ∧ ∃ ws, H2 D = some (.lst ws) ∧ TupsV K H2 us (chsF i (ts.take j) [[]]) ∧
        TupsV K H2 ws (((chsF i (ts.take j) [[]]).take a).flatMap fun s => (ch1 i tm.2.1 tm.2.2).map fun o => s ++ [o]))
        ⟨sD, by rw [upd_ne nlD]; exact hl, [], upd_same, hU.ti (Ti.same (G.upd hD)), trivial⟩ (fun a H2 _ h => SqL.of h.2.1) ?_ ?_
      · rintro a x H3 H2 ha ⟨s2, hl2, ws, hD2, hU2, hW2⟩ ⟨rfl, hx⟩
        obtain ⟨sq, hsq, q, rfl, hq⟩ := hU2.get hx
        have hsl : sq.length ≤ 4 := by
          have mm := List.mem_of_getElem? hsq
          obtain ⟨s', hs', r, hr', e⟩ := mem_chsF.mp mm
          rw [List.mem_singleton.mp hs'] at e
          rw [e, List.nil_append, chs_len hr']
          exact Nat.le_trans (List.length_take_le' _ _) h4
        refine ⟨rfl, ?_⟩
        refine ⟨_, rfl, _, rfl, m, i, n, tm.2.1, tm.2.2, rfl, hm.mono s2, fun b H3 s3 hb hL => ?_⟩
        have nbD : b ≠ D := fun e => by rw [e, hD2] at hb; cases hb
        refine ⟨b, rfl, ⟨_, SqL.of hL⟩, in_it (walk_list (K := K) (a := b) (xs := (ch1 i tm.2.1 tm.2.2).map V.int)) (fun c H4 => Same H H4 ∧ H4 l = some (.lst us) ∧ H4 b = some (.lst ((ch1 i tm.2.1 tm.2.2).map V.int)) ∧ SqT K H4 q (sq.map V.int) ∧
          ∃ ws, H4 D = some (.lst ws) ∧ TupsV K H4 us (chsF i (ts.take j) [[]]) ∧
          TupsV K H4 ws ((((chsF i (ts.take j) [[]]).take a).flatMap fun s => (ch1 i tm.2.1 tm.2.2).map fun o => s ++ [o]) ++ ((ch1 i tm.2.1 tm.2.2).take c).map fun o => sq ++ [o]))
          ⟨Same.trans s2 s3, s3 _ _ hl2, hL, G.sqT s3 hq, ws, s3 _ _ hD2, hU2.ti (Ti.same s3), by rw [List.take_zero, List.map_nil, List.append_nil]; exact hW2.ti (Ti.same s3)⟩ (fun c H4 _ h => SqL.of h.2.2.1) ?_ ?_⟩
        · rintro c y H5 H4 hc ⟨s4, hl4, hb4, hq4, ws4, hD4, hU4, hW4⟩ ⟨rfl, hy⟩
          rw [List.getElem?_map] at hy
          obtain ⟨o, ho, rfl⟩ : ∃ o, (ch1 i tm.2.1 tm.2.2)[c]? = some o ∧ y = V.int o := by
            cases e : (ch1 i tm.2.1 tm.2.2)[c]? with
            | none => rw [e] at hy; cases hy
            | some o => rw [e] at hy; exact ⟨o, rfl, (Option.some.inj hy).symm⟩
          refine ⟨rfl, ?_⟩
          refine ⟨_, rfl, q, _, rfl, .inl hq4, _, rfl, ?_, fun p' hp' => ?_⟩
          · rw [List.length_append, List.length_map]
            exact Nat.le_of_lt (lt_sz (by show sq.length + 1 ≤ 1000; omega))
          have npD : p' ≠ D := fun e => by rw [e, hD4] at hp'; cases hp'
          have npl : p' ≠ l := fun e => by rw [e, hl4] at hp'; cases hp'
          have npb : p' ≠ b := fun e => by rw [e, hb4] at hp'; cases hp'
          have g1 : Same H4 (upd H4 p' (.tup (sq.map V.int ++ [.int o]))) := G.upd hp'
          have hD5 : (upd H4 p' (.tup (sq.map V.int ++ [.int o]))) D = some (.lst ws4) := by rw [upd_ne npD.symm]; exact hD4
          have t1 : Ti H4 (upd (upd H4 p' (.tup (sq.map V.int ++ [.int o]))) D (.lst (ws4 ++ [.ref p']))) := Ti.trans (Ti.same g1) (Ti.lst hD5)
          refine ⟨ws4, hD5, ?_, fun b' u e => ?_, ?_, ?_, t1.sqT hq4, ws4 ++ [.ref p'], upd_same, hU4.ti t1, ?_⟩
          · rw [hW4.len, List.length_append, List.length_map]
            have f1 := flat_len 2 (fun s : List Int => (ch1 i tm.2.1 tm.2.2).map fun o => s ++ [o]) (fun a => by rw [List.length_map]; exact ch1_len _ _ _) ((chsF i (ts.take j) [[]]).take a)
            have f2 : ((chsF i (ts.take j) [[]]).take a).length ≤ (chsF i (ts.take j) [[]]).length := List.length_take_le' _ _
            have f3 : ((ch1 i tm.2.1 tm.2.2).take c).length ≤ 2 := Nat.le_trans (List.length_take_le' _ _) (ch1_len _ _ _)
            exact lt_sz (by omega)
          · have nb : b' ≠ D := fun q => by rw [q, hD0] at e; cases e
            rw [upd_ne nb]
            exact g1 _ _ (s4 _ _ e)
          · rw [upd_ne nlD, upd_ne npl.symm]; exact hl4
          · rw [upd_ne nbD, upd_ne npb.symm]; exact hb4
          · rw [take_succ' ho, List.map_append, ← List.append_assoc]
            exact TupsV.snoc ⟨p', rfl, SqT.of (by rw [upd_ne npD, upd_same, List.map_append]; rfl)⟩ (hW4.ti t1)
        · rintro H4 ⟨s4, hl4, hb4, hq4, ws4, hD4, hU4, hW4⟩
          refine ⟨s4, hl4, ws4, hD4, hU4, ?_⟩
          rw [take_succ' hsq, List.flatMap_append]
          rw [List.length_map, List.take_of_length_le (Nat.le_refl _)] at hW4
          simpa using hW4
      · rintro H2 ⟨s2, hl2, ws, hD2, hU2, hW2⟩
        refine ⟨D, ws, _, _, rfl, s2, hD0, hD2, ?_⟩
        rw [take_succ' htm, chsF_snoc]
        rw [hU2.len, List.take_of_length_le (Nat.le_refl _)] at hW2
        exact hW2
    · rintro σ H1 ⟨l, us, v3, v4, rfl, s1, l0', hl, hU⟩
      rw [hlen, List.take_of_length_le (Nat.le_refl _)] at hU
      exact ⟨_, rfl, k l H1 us s1 l0' hl hU⟩
theorem dotf_zip : ∀ (ts : List Trm) (bs : List Int), (List.zipWith (fun (t : Trm) b => t.1 * b) ts bs).sum = dotf ts bs
  | [], _ => rfl
  | _ :: _, [] => rfl
  | t :: ts, b :: bs => by
    rw [List.zipWith_cons_cons, List.sum_cons, dotf_zip ts bs]
    rfl
theorem ok_carried (F : Fun K "carried" "carried" (top 29) f fd) (T : Txt K mg C) (g_size_of : Cl P w K mg base 1 "size_of" spSize) : FnOk P w K mg base CX0 2 f fd ["terms", "number", "bit", "carry", "bits"] (spCarr K C) := by
  have sc : FnScope ["terms", "number", "bit", "carry", "bits", "own", "one", "factor", "mask"] ["terms", "number", "bit", "carry", "bits"] (defScope (top 29)) := ⟨rfl, rfl, rfl, by decide +kernel, rfl, by decide +kernel, by decide +kernel⟩
  refine F.ok sc (fun vs H Q E h => ?_) (fun cdv A outer s H vs Q E hr h => ?_)
  · obtain ⟨t, b, n, c, i, n', ts, bs, rfl, _⟩ := h
    rfl
  · obtain ⟨t, b, n, c, i, n', ts, bs, rfl, ⟨vs, hvs, hT⟩, h4, hf, hi, hb, hbl, k⟩ := h
    have hlen := hT.len
    refine ⟨_, (pss_cons (ps_set (i := 5) sc.nd rfl (Or.inl rfl) (pe_op op_shr (pe_op op_mod (pv 1) (pe_cl g_size_of hr (by decide) rfl (pa_cons (pe_op op_add (pv 2) pe_int) pa_nil))) (pv 2)))
      (pss_one (ps_ret (pe_op op_add (pe_op op_add (pv 3) (pv 5)) (pe_callB (cr_sum rfl) (by rfl) T.sum (by decide +kernel) (pa_cons (pe_lc (own := [("one", 6), ("factor", 7), ("mask", 8)]) (g := (gTup K 2 (gCons (gTup K 2 (gCons (gName 7) (gCons (gName 8) gNil))) (gCons (gName 6) gNil)))) (tt := tYes) rfl sc.nd (RZ.pi_zipA (by rfl) T.zip (pa_cons (pv 0) (pa_cons (pv 4) pa_nil))) (blkOk_by (own := [("one", 6), ("factor", 7), ("mask", 8)]) (N := ["terms", "number", "bit", "carry", "bits", "own", "one", "factor", "mask"]) (sc := defScope (top 29)) (by decide +kernel)) (fun _ _ _ _ _ => (pg_tup rfl (pgs_cons (pg_tup rfl (pgs_cons (pg_name (i := 7) sc.nd rfl (Or.inl rfl)) (pgs_cons (pg_name (i := 8) sc.nd rfl (Or.inl rfl)) pgs_nil))) (pgs_cons (pg_name (i := 6) sc.nd rfl (Or.inl rfl)) pgs_nil)))) (fun _ _ _ _ _ => pts_nil) (fun _ _ _ _ _ => (pe_op op_mul (pv 7) (pv 6)))) pa_nil)))))), ?_⟩
    refine ⟨_, rfl, _, rfl, _, _, rfl, rfl, i + 1, rfl, by omega, _, _, rfl, rfl, pow_pos' _, _, rfl, _, _, rfl, rfl, by omega, ?_⟩
    refine ⟨_, rfl, _, rfl, _, _, rfl, rfl, ?_⟩
    refine ⟨_, rfl, _, rfl, t, b, vs, bs.map V.int, rfl, .inr ⟨hvs, hb, fun D hD => ?_⟩⟩
    refine lc_it (walk_zipT (K := K) (a := t) (b := b) (xs := vs) (ys := bs.map V.int) (n := ts.length) (by rw [List.length_map, hlen, hbl, Nat.min_self])) (fun j H' => Same H H' ∧ H' D = some (.lst (((List.zipWith (fun (t : Trm) b => t.1 * b) ts bs).take j).map V.int)))
      ⟨G.upd hD, upd_same⟩ (fun j H' _ h => ⟨G.sqT h.1 hvs, G.sqT h.1 hb⟩) ?_ ?_
    · rintro j x H1 H2 hj ⟨s1, hD1⟩ ⟨TT, x1, x2, rfl, hTT, rfl, e1, e2⟩
      obtain ⟨tm, htm, p, m, rfl, hp, hm⟩ := hT.get e1
      replace e2 : (bs.map V.int)[j]? = some x2 := e2
      rw [List.getElem?_map] at e2
      obtain ⟨o, ho, rfl⟩ : ∃ o, bs[j]? = some o ∧ x2 = V.int o := by
        cases e : bs[j]? with
        | none => rw [e] at e2; cases e2
        | some o => rw [e] at e2; exact ⟨o, rfl, (Option.some.inj e2).symm⟩
      have g1 : Same H1 (upd H1 TT (.tup [.ref p, .int o])) := G.upd hTT
      have nTD : TT ≠ D := fun e => by rw [e, hD1] at hTT; cases hTT
      refine ⟨TT, _, rfl, SqT.of upd_same, rfl, _, _, rfl, p, _, rfl, G.sqT g1 (G.sqT s1 hp), rfl, _, _, rfl, _, _, rfl, rfl, _, _, rfl, rfl, rfl, ?_⟩
      have hfm := hf tm (List.mem_of_getElem? htm)
      refine ⟨_, rfl, _, rfl, _, _, rfl, rfl, .inl ⟨by omega, by omega⟩, ?_⟩
      refine ⟨_, by rw [upd_ne nTD.symm]; exact hD1, ?_, fun b' u e => ?_, ?_⟩
      · rw [List.length_map]
        refine lt_sz (Nat.le_trans (List.length_take_le _ _) ?_)
        omega
      · have nb : b' ≠ D := fun q => by rw [q, hD] at e; cases e
        rw [upd_ne nb]
        exact g1 _ _ (s1 _ _ e)
      · have hz : (List.zipWith (fun (t : Trm) b => t.1 * b) ts bs)[j]? = some (tm.1 * o) := by
          rw [List.getElem?_zipWith, htm, ho]
        rw [upd_same, take_succ' hz, List.map_append]
        rfl
    · rintro H1 ⟨s1, hD1⟩
      refine ⟨D, _, rfl, SqL.of hD1, _, _, rfl, rfl, ?_⟩
      have hl : (List.zipWith (fun (t : Trm) b => t.1 * b) ts bs).length ≤ ts.length := by rw [List.length_zipWith]; exact Nat.min_le_left _ _
      rw [List.take_of_length_le hl, dotf_zip]
      have e : c + n % 2 ^ (i + 1) / 2 ^ ((i : Int)).toNat + dotf ts bs = tot ts n i c bs := by
        unfold tot
        rw [Int.toNat_natCast]
      have := k H1 s1
      rw [← e] at this
      exact this
end
end WP


set_option Elab.async false
set_option linter.all false
set_option maxRecDepth 100000
set_option maxHeartbeats 8000000
/-! K9Rows: carry_rows, ways_at, sum_mask. -/
namespace WP
open PySem PySem.Spec PyProof.Rows L2 WA WR

theorem rowA_put {H : Hp} {d : Addr} {ks : List Int} (x : Int) (v : V) (h : RowA H d ks) : ∃ kvs, H d = some (.dK kvs) ∧ kvs.length = ks.length ∧ ∀ H' : Hp, H' d = some (.dK (putK kvs (Sum.inl x) v)) → ∃ ks', RowA H' d ks' ∧ ∀ y, y ∈ ks' ↔ y ∈ ks ∨ y = x := by
  obtain ⟨kvs, hd, e, nd⟩ := h
  have el : kvs.length = ks.length := by
    have := congrArg List.length e
    rw [List.length_map, List.length_map] at this
    exact this
  have inl_mem : ∀ y : Int, (Sum.inl y : Key) ∈ kvs.map (·.1) ↔ y ∈ ks := fun y => by
    rw [e, List.mem_map]
    constructor
    · rintro ⟨z, hz, q⟩
      rw [← Sum.inl.inj q]
      exact hz
    · intro hy
      exact ⟨y, hy, rfl⟩
  refine ⟨kvs, hd, el, fun H' hd' => ?_⟩
  cases q : valV kvs (Sum.inl x) with
  | none =>
    have hx : x ∉ ks := fun m => valV_not q ((inl_mem x).mpr m)
    refine ⟨ks ++ [x], ⟨_, hd', ?_, nd_snoc nd hx⟩, fun y => by rw [List.mem_append, List.mem_singleton]⟩
    rw [putK_new v q, List.map_append, e, List.map_append]
    rfl
  | some v' =>
    have hx : x ∈ ks := (inl_mem x).mp (valV_in q)
    refine ⟨ks, ⟨_, hd', ?_, nd⟩, fun y => ⟨.inl, fun z => z.elim id fun z => z ▸ hx⟩⟩
    unfold putK
    rw [valV_any, q, if_pos (show (some v').isSome = true from rfl), List.map_map, ← e]
    apply List.map_congr_left
    intro kv _
    show (if kv.1 = Sum.inl x then (kv.1, v) else kv).1 = kv.1
    split <;> rfl
theorem RowA.mono {H H' : Hp} {d : Addr} {ks : List Int} (h : RowA H d ks) (s : Same H H') : RowA H' d ks :=
  let ⟨kvs, a, b⟩ := h; ⟨kvs, s _ _ a, b⟩
theorem RowsV.mono {H H' : Hp} {w : Nat} {ts : List Trm} {n : Int} (s : Same H H') : ∀ {vs : List V} {i : Nat}, RowsV H w ts n i vs → RowsV H' w ts n i vs
  | [], _, _ => trivial
  | _ :: _, _, ⟨⟨d, ks, e, r, q⟩, h⟩ => ⟨⟨d, ks, e, r.mono s, q⟩, RowsV.mono s h⟩
theorem RowsV.snoc {H : Hp} {w : Nat} {ts : List Trm} {n : Int} {v : V} : ∀ {vs : List V} {i : Nat}, RowsV H w ts n i vs → (∃ d ks, v = .ref d ∧ RowA H d ks ∧ ∀ c, c ∈ ks ↔ Car w ts n (i + vs.length) c) → RowsV H w ts n i (vs ++ [v])
  | [], i, _, r => ⟨r, trivial⟩
  | _ :: vs, i, ⟨a, h⟩, r => ⟨a, RowsV.snoc h (by rw [List.length_cons] at r; rw [show i + 1 + vs.length = i + (vs.length + 1) by omega]; exact r)⟩
theorem RowsV.get {H : Hp} {w : Nat} {ts : List Trm} {n : Int} : ∀ {vs : List V} {i j : Nat} {v : V}, RowsV H w ts n i vs → vs[j]? = some v → ∃ d ks, v = .ref d ∧ RowA H d ks ∧ ∀ c, c ∈ ks ↔ Car w ts n (i + j) c
  | [], _, _, _, _, e => by simp at e
  | x :: vs, i, 0, v, h, e => by
    simp at e
    subst e
    exact h.1
  | x :: vs, i, j + 1, v, h, e => by
    have r := RowsV.get (j := j) h.2 (by simpa using e)
    rw [show i + 1 + j = i + (j + 1) by omega] at r
    exact r
theorem RowA.keys {H : Hp} {d : Addr} {ks : List Int} (h : RowA H d ks) : ∃ kvs, H d = some (.dK kvs) ∧ (kvs.map fun kv => kV kv.1) = ks.map V.int := by
  obtain ⟨kvs, a, e, _⟩ := h
  refine ⟨kvs, a, ?_⟩
  have : (kvs.map fun kv => kV kv.1) = (kvs.map (·.1)).map kV := by rw [List.map_map]; rfl
  rw [this, e, List.map_map]
  rfl
theorem small_f : ∀ {ts : List Trm}, fpos ts + fneg ts ≤ 1000 → ∀ u ∈ ts, -1000 ≤ u.1 ∧ u.1 ≤ 1000
  | [], _, u, h => by simp at h
  | t :: ts, h, u, hu => by
    have p := fpos_nn ts
    have q := fneg_nn ts
    unfold fpos fneg at h
    rcases List.mem_cons.mp hu with rfl | hu
    · split at h <;> omega
    · refine small_f ?_ u hu
      split at h <;> omega
theorem keys_len {w i : Nat} {ts : List Trm} {n : Int} {ks : List Int} (nd : ks.Nodup) (hs : fpos ts + fneg ts ≤ 1000) (h : ∀ x ∈ ks, Car w ts n i x) : ks.length ≤ 1001 := by
  refine nodup_range 1001 ks (-(fneg ts)) nd fun x hx => ?_
  have a := car_range (h x hx)
  omega
theorem take_mem {α : Type} {l : List α} {a : Nat} {x y : α} (h : l[a]? = some x) : y ∈ l.take (a + 1) ↔ y ∈ l.take a ∨ y = x := by
  rw [take_succ' h, List.mem_append, List.mem_singleton]

section
variable {P : Program} {w : World} {K : PySem.W.Frag} {mg : Str → Option Value} {base : Heap} {C f : Addr} {fd : FuncData}
theorem ok_carry_rows (F : Fun K "carry_rows" "carry_rows" (top 30) f fd) (T : Txt K mg C) (p_width : Prp P w K mg base C 1 "width" (sp1 (rI1 C fW))) (g_all_choices : Cl P w K mg base 4 "all_choices" (spAllC K C))
    (g_carried : Cl P w K mg base 2 "carried" (spCarr K C)) : FnOk P w K mg base CX0 5 f fd ["terms", "number"] (spRows K C) := by
  have sc : FnScope ["terms", "number", "rows", "bit", "later", "choices", "carry", "bits", "total"] ["terms", "number"] (defScope (top 30)) := ⟨rfl, rfl, rfl, by decide +kernel, rfl, by decide +kernel, by decide +kernel⟩
  refine F.ok sc (fun vs H Q E h => ?_) (fun cdv A outer s H vs Q E hr h => ?_)
  · obtain ⟨t, n, m, ts, rfl, _⟩ := h
    rfl
  · obtain ⟨t, n, m, ts, rfl, hTA, ⟨hne, h4, hsm⟩, k⟩ := h
    obtain ⟨vs, hvs, hT⟩ := id hTA
    have hms := hT.msks
    obtain ⟨t0, ts', ets⟩ : ∃ t0 ts', ts = t0 :: ts' := by
      cases e : ts with
      | nil => exact (hne e).elim
      | cons a b => exact ⟨a, b, rfl⟩
    obtain ⟨v0, vs', evs⟩ : ∃ v0 vs', vs = v0 :: vs' := by
      cases e : vs with
      | nil => rw [e, ets] at hT; exact hT.elim
      | cons a b => exact ⟨a, b, rfl⟩
    obtain ⟨tm0, _, p0, m0, hv0, hp0, hm0⟩ := hT.get (i := 0) (v := v0) (by rw [evs]; rfl)
    subst hv0
    have hm := hm0.wd
    refine ⟨_, (pss_cons (ps_set (i := 2) sc.nd rfl (Or.inl rfl) (pe_lst (pa_cons (pe_disp (pps_cons pe_int pe_non pps_nil) (by rfl) (by rfl) (fun z => by cases z) (by decide)) pa_nil)))
      (pss_cons (ps_for PassesOwn.never rfl (pi_range1 rfl T.range (pa_cons (pe_op op_sub (pe_pI (pe_ix ix_tup (pe_ix ix_tup (pv 0) pe_int (fun _ _ => rfl)) pe_int (fun _ _ => rfl)) T p_width hr (by decide)) pe_int) pa_nil)) (pg_name (i := 3) sc.nd rfl (Or.inl rfl))
      (pss_cons (ps_par (i := 4) (j := 5) (by rfl) sc.nd rfl rfl (by decide) rfl rfl (pa_cons pe_dnewK (pa_cons (pe_cl g_all_choices hr (by decide) rfl (pa_cons (pv 0) (pa_cons (pv 3) pa_nil))) pa_nil)) (by rfl))
      (pss_cons (ps_for PassesOwn.never rfl (pi_list (pe_callB cr_sortedI (by rfl) T.sorted (by decide +kernel) (pa_cons (pe_callTy (call_list_dK rfl) (by rfl) T.list (by decide +kernel) (pa_cons (pe_ix ix_list (pv 2) (pe_un un_neg pe_int) (fun _ _ => rfl)) pa_nil)) pa_nil))) (pg_name (i := 6) sc.nd rfl (Or.inl rfl))
      (pss_one (ps_for PassesOwn.never rfl (pi_list (pv 5)) (pg_name (i := 7) sc.nd rfl (Or.inl rfl))
      (pss_cons (ps_set (i := 8) sc.nd rfl (Or.inl rfl) (pe_cl g_carried hr (by decide) rfl (pa_cons (pv 0) (pa_cons (pv 1) (pa_cons (pv 3) (pa_cons (pv 6) (pa_cons (pv 7) pa_nil)))))))
      (pss_one (ps_dput (hu_of hr) (pv 4) (pe_op op_shr (pv 8) pe_int) (pe_tup (pa_cons (pv 6) (pa_cons (pv 7) pa_nil))) rfl))))))
      (pss_one (ps_expr (pe_bm PySem.F.plainAttrs_list PySem.F.slot_list_append PySem.F.type_list_append mt_append (pv 2) (pa_cons (pv 4) pa_nil)))))))
      (pss_one (ps_ret (pv 2))))), ?_⟩
    refine fun e0 he0 => ⟨upd_same, [(Sum.inl 0, .non)], rfl, by decide, (by show 1 ≤ sizeLine; decide), fun l0 hl0 => ?_⟩
    have sA : Same H (upd (upd H e0 (.dK [])) e0 (.dK [(Sum.inl 0, .non)])) := by rw [upd_upd]; exact G.upd he0
    have s0 : Same H (upd (upd (upd H e0 (.dK [])) e0 (.dK [(Sum.inl 0, .non)])) l0 (.lst [.ref e0])) := Same.trans sA (G.upd hl0)
    have hl00 : H l0 = none := Same.free sA hl0
    have nel : e0 ≠ l0 := ne_of_none upd_same hl0
    refine ⟨_, rfl, t, _, _, _, rfl, rfl, G.sqT s0 hvs, (by rw [evs]; exact atI_nat (j := 0) rfl), p0, _, _, _, rfl, rfl, G.sqT s0 hp0, rfl, m0, m, _, _, rfl, hm0.mono s0, _, _, rfl, rfl, ?_⟩
    refine ⟨_, rfl, by show -(2 ^ 62) ≤ (m : Int) - 1; omega, by show (m : Int) - 1 < 2 ^ 62; omega, ?_⟩
    refine for_range (lo := 0) (n := ((m : Int) - 1).toNat) (fun j σ H1 => ∃ (l : Addr) (us : List V) (u : Addr) (ks : List Int) (v3 v4 v5 v6 v7 v8 : Option V), σ = [some (.ref t), some (.int n), some (.ref l), v3, v4, v5, v6, v7, v8] ∧ Same H H1 ∧ H l = none ∧
      H1 l = some (.lst (us ++ [.ref u])) ∧ us.length = j ∧ RowsV H1 m ts n 0 us ∧ RowA H1 u ks ∧ ∀ c, c ∈ ks ↔ Car m ts n j c)
      ⟨l0, [], e0, [0], none, none, none, none, none, none, rfl, s0, hl00, upd_same, rfl, trivial, ⟨_, by rw [upd_ne nel, upd_same], rfl, by simp⟩, fun c => by rw [car_zero hms, List.mem_singleton]⟩ ?_ ?_
    · rintro j σ H1 hj ⟨l, us, u, ks, v3, v4, v5, v6, v7, v8, rfl, s1, hl0', hl, hlen, hrows, hrow, hks⟩
      have hjm : j < m := by omega
      rw [Int.zero_add]
      refine fun d hd => ⟨_, rfl, _, rfl, t, j, m, ts, rfl, hTA.mono (Same.trans s1 (G.upd hd)), h4, fun ch H2 cs s2 hch hcs hU => ⟨_, _, rfl, ?_⟩⟩
      have hdc : d ≠ ch := ne_of_none upd_same hch
      have s12 : Same H1 H2 := Same.trans (G.upd hd) s2
      have hd2 : H2 d = some (.dK []) := s2 _ _ upd_same
      obtain ⟨kvs, hu, hkv⟩ := hrow.keys
      refine ⟨_, rfl, _, rfl, l, _, _, _, rfl, rfl, SqL.of (s12 _ _ hl), atI_last _ _, u, kvs, rfl, s12 _ _ hu, fun q hq => ?_⟩
      refine ⟨q, ks, rfl, SqL.of (by rw [upd_same, hkv]), fun ns' sl hperm hsort hsl => ?_⟩
      refine ⟨sl, rfl, ⟨_, SqL.of upd_same⟩, ?_⟩
      have s13 : Same H2 (upd (upd H2 q (.lst (kvs.map fun kv => kV kv.1))) sl (.lst (ns'.map V.int))) := Same.trans (G.upd hq) (G.upd hsl)
      have hns : ∀ c, c ∈ ns' ↔ Car m ts n j c := fun c => by rw [hperm.mem_iff]; exact hks c
      refine for_list (K := K) (a := sl) (xs := ns'.map V.int) (fun a σ H3 => ∃ (kd : List Int) (v6 v7 v8 : Option V), σ = [some (.ref t), some (.int n), some (.ref l), some (.int j), some (.ref d), some (.ref ch), v6, v7, v8] ∧ Same H1 H3 ∧ RowA H3 d kd ∧
        H3 ch = some (.lst cs) ∧ TupsV K H3 cs (chs ts j) ∧ H3 sl = some (.lst (ns'.map V.int)) ∧ ∀ x, x ∈ kd ↔ ∃ c ∈ ns'.take a, ∃ bs, bs ∈ chs ts j ∧ x = tot ts n j c bs / 2)
        ⟨[], v6, v7, v8, rfl, Same.trans s12 s13, ⟨_, s13 _ _ hd2, rfl, List.nodup_nil⟩, s13 _ _ hcs, hU.ti (Ti.same s13), upd_same, fun x => by simp⟩ (fun a σ H3 _ h => by obtain ⟨_, _, _, _, _, _, _, _, _, h, _⟩ := h; exact SqL.of h) ?_ ?_
      · rintro a y σ H3 ha ⟨kd, v6, v7, v8, rfl, s3, hrd, hch3, hU3, hsl3, hkd⟩
        rw [List.getElem?_map] at ha
        obtain ⟨c, hc, rfl⟩ : ∃ c, ns'[a]? = some c ∧ y = V.int c := by
          cases e : ns'[a]? with
          | none => rw [e] at ha; cases ha
          | some o => rw [e] at ha; exact ⟨o, rfl, (Option.some.inj ha).symm⟩
        have hcar : Car m ts n j c := (hns c).mp (List.mem_of_getElem? hc)
        refine ⟨_, rfl, ch, rfl, ⟨_, SqL.of hch3⟩, for_list (K := K) (a := ch) (xs := cs) (fun b σ H4 => ∃ (kd : List Int) (v7 v8 : Option V), σ = [some (.ref t), some (.int n), some (.ref l), some (.int j), some (.ref d), some (.ref ch), some (.int c), v7, v8] ∧ Same H1 H4 ∧ RowA H4 d kd ∧
          H4 ch = some (.lst cs) ∧ TupsV K H4 cs (chs ts j) ∧ H4 sl = some (.lst (ns'.map V.int)) ∧ ∀ x, x ∈ kd ↔ (∃ c ∈ ns'.take a, ∃ bs, bs ∈ chs ts j ∧ x = tot ts n j c bs / 2) ∨ ∃ bs, bs ∈ (chs ts j).take b ∧ x = tot ts n j c bs / 2)
          ⟨kd, v7, v8, rfl, s3, hrd, hch3, hU3, hsl3, fun x => by rw [hkd]; simp⟩ (fun b σ H4 _ h => by obtain ⟨_, _, _, _, _, _, h, _⟩ := h; exact SqL.of h) ?_ ?_⟩
        · rintro b y σ H4 hb ⟨kd4, v7, v8, rfl, s4, hrd4, hch4, hU4, hsl4, hkd4⟩
          obtain ⟨bs, hbs, pb, rfl, hpb⟩ := hU4.get hb
          have hbm : Chs j ts bs := mem_chs.mp (List.mem_of_getElem? hbs)
          refine ⟨_, rfl, _, rfl, _, rfl, _, rfl, _, rfl, t, pb, n, c, j, m, ts, bs, rfl, hTA.mono (Same.trans s1 s4), h4, small_f hsm, by omega, hpb, chs_len hbm, fun H5 s5 => ?_⟩
          refine ⟨_, rfl, _, rfl, (by show 2 ≤ sizeLine; decide), fun tp htp => ?_⟩
          have s45 := Same.trans s5 (G.upd (o := .tup [.int c, .ref pb]) htp)
          obtain ⟨kvs4, hd4, el4, put4⟩ := rowA_put (tot ts n j c bs / 2) (.ref tp) (hrd4.mono s45)
          have hlen4 : kd4.length ≤ 1001 := by
            obtain ⟨_, _, _, nd⟩ := hrd4
            refine keys_len (n := n) (i := j + 1) nd hsm fun x hx => (car_succ hms hjm).mpr ?_
            rcases (hkd4 x).mp hx with ⟨c', hc', bs', hb', e⟩ | ⟨bs', hb', e⟩
            · exact ⟨c', bs', (hns c').mp (List.mem_of_mem_take hc'), mem_chs.mp hb', e⟩
            · exact ⟨c, bs', hcar, mem_chs.mp (List.mem_of_mem_take hb'), e⟩
          refine ⟨_, rfl, _, rfl, _, _, rfl, rfl, (by show (0 : Int) ≤ 1; decide), d, _, rfl, DPut.k (k := Sum.inl (tot ts n j c bs / 2)) hd4 (Nat.lt_of_le_of_lt (by omega : kvs4.length ≤ 1001) (by decide)), ?_⟩
          obtain ⟨kd5, hrd5, hkd5⟩ := put4 (upd (upd H5 tp (.tup [.int c, .ref pb])) d (.dK (putK kvs4 (Sum.inl (tot ts n j c bs / 2)) (.ref tp)))) upd_same
          have t1 : Ti H4 (upd (upd H5 tp (.tup [.int c, .ref pb])) d (.dK (putK kvs4 (Sum.inl (tot ts n j c bs / 2)) (.ref tp)))) := Ti.trans (Ti.same s45) (Ti.dK hd4)
          have keep : ∀ {a' : Addr} {xs : List V}, H4 a' = some (.lst xs) → (upd (upd H5 tp (.tup [.int c, .ref pb])) d (.dK (putK kvs4 (Sum.inl (tot ts n j c bs / 2)) (.ref tp)))) a' = some (.lst xs) := fun {a' xs} e => by
            have e5 := s45 _ _ e
            rw [upd_ne (ne_of e5 hd4 (by intro z; cases z))]
            exact e5
          refine ⟨kd5, _, _, rfl, fun b' o e => ?_, hrd5, keep hch4, hU4.ti t1, keep hsl4, fun x => ?_⟩
          · rw [upd_ne (fun z => by rw [z, hd] at e; cases e)]
            exact s45 _ _ (s4 _ _ e)
          · rw [hkd5, hkd4]
            constructor
            · rintro ((h | ⟨bs', hb', e⟩) | e)
              · exact .inl h
              · exact .inr ⟨bs', (take_mem hbs).mpr (.inl hb'), e⟩
              · exact .inr ⟨bs, (take_mem hbs).mpr (.inr rfl), e⟩
            · rintro (h | ⟨bs', hb', e⟩)
              · exact .inl (.inl h)
              · rcases (take_mem hbs).mp hb' with h | rfl
                · exact .inl (.inr ⟨bs', h, e⟩)
                · exact .inr e
        · rintro σ H4 ⟨kd4, v7, v8, rfl, s4, hrd4, hch4, hU4, hsl4, hkd4⟩
          refine ⟨kd4, _, _, _, rfl, s4, hrd4, hch4, hU4, hsl4, fun x => ?_⟩
          rw [hU4.len, List.take_of_length_le (Nat.le_refl _)] at hkd4
          rw [hkd4]
          constructor
          · rintro (⟨c', hc', h⟩ | h)
            · exact ⟨c', (take_mem hc).mpr (.inl hc'), h⟩
            · exact ⟨c, (take_mem hc).mpr (.inr rfl), h⟩
          · rintro ⟨c', hc', h⟩
            rcases (take_mem hc).mp hc' with q | rfl
            · exact .inl ⟨c', q, h⟩
            · exact .inr h
      · rintro σ H3 ⟨kd, v6, v7, v8, rfl, s3, hrd, hch3, hU3, hsl3, hkd⟩
        have hl3 := s3 _ _ hl
        have nld : l ≠ d := fun z => by rw [z, hd] at hl; cases hl
        refine ⟨_, rfl, .inl ⟨rfl, _, SqL.of hl3⟩, _, rfl, l, _, _, rfl, rfl, hl3, lt_sz (by rw [List.length_append, List.length_singleton]; omega), ?_⟩
        have t1 : ∀ {b' : Addr} {o : HO}, b' ≠ l → H3 b' = some o → (upd H3 l (.lst ((us ++ [.ref u]) ++ [.ref d]))) b' = some o := fun {b' o} nb e => by rw [upd_ne nb]; exact e
        have rowk : ∀ {d' : Addr} {ks' : List Int}, RowA H3 d' ks' → RowA (upd H3 l (.lst ((us ++ [.ref u]) ++ [.ref d]))) d' ks' := fun {d' ks'} r => by
          obtain ⟨kv, a1, a2⟩ := r
          exact ⟨kv, t1 (ne_of a1 hl3 (by intro z; cases z)) a1, a2⟩
        have rowsk : ∀ {vs : List V} {i : Nat}, RowsV H3 m ts n i vs → RowsV (upd H3 l (.lst ((us ++ [.ref u]) ++ [.ref d]))) m ts n i vs := by
          intro vs
          induction vs with
          | nil => intro i _; trivial
          | cons v vs ih =>
            intro i h
            obtain ⟨⟨d', ks', e, r, q⟩, h⟩ := h
            exact ⟨⟨d', ks', e, rowk r, q⟩, ih h⟩
        refine ⟨l, us ++ [.ref u], d, kd, _, _, _, _, _, _, rfl, fun b' o e => ?_, hl0', upd_same, ?_, ?_, rowk hrd, fun c => ?_⟩
        · exact t1 (fun z => by rw [z, hl0'] at e; cases e) (s3 _ _ (s1 _ _ e))
        · rw [List.length_append, hlen]; rfl
        · refine RowsV.snoc (rowsk (hrows.mono s3)) ⟨u, ks, rfl, rowk (hrow.mono s3), fun c => ?_⟩
          rw [Nat.zero_add, hlen]
          exact hks c
        · rw [hkd, car_succ hms hjm, List.length_map, List.take_of_length_le (Nat.le_refl _)]
          constructor
          · rintro ⟨c', hc', bs, hb, e⟩
            exact ⟨c', bs, (hns c').mp hc', mem_chs.mp hb, e⟩
          · rintro ⟨c', bs, hc', hb, e⟩
            exact ⟨c', (hns c').mpr hc', bs, mem_chs.mpr hb, e⟩
    · rintro σ H1 ⟨l, us, u, ks, v3, v4, v5, v6, v7, v8, rfl, s1, hl0', hl, hlen, hrows, hrow, hks⟩
      refine ⟨_, rfl, k l H1 _ s1 hl0' hl ?_ (RowsV.snoc hrows ⟨u, ks, rfl, hrow, fun c => ?_⟩)⟩
      · rw [List.length_append, List.length_singleton, hlen]; omega
      · rw [Nat.zero_add, hlen]
        exact hks c
theorem ok_ways_at (F : Fun K "ways_at" "ways_at" (top 31) f fd) (T : Txt K mg C) (g_all_choices : Cl P w K mg base 4 "all_choices" (spAllC K C)) (g_carried : Cl P w K mg base 2 "carried" (spCarr K C)) :
    FnOk P w K mg base CX0 5 f fd ["terms", "number", "bit", "row"] (spWays K C) := by
  have sc : FnScope ["terms", "number", "bit", "row", "found", "carry", "bits"] ["terms", "number", "bit", "row"] (defScope (top 31)) := ⟨rfl, rfl, rfl, by decide +kernel, rfl, by decide +kernel, by decide +kernel⟩
  refine F.ok sc (fun vs H Q E h => ?_) (fun cdv A outer s H vs Q E hr h => ?_)
  · obtain ⟨t, d, n, i, m, ts, ks, rfl, _⟩ := h
    rfl
  · obtain ⟨t, dr, n, i, m, ts, ks, rfl, hTA, ⟨hne, h4, hsm⟩, him, hrow, k⟩ := h
    obtain ⟨vs, hvs, hT⟩ := id hTA
    have hms := hT.msks
    have i64 : i ≤ 64 := by
      cases vs with
      | nil => cases ts with
        | nil => exact (hne rfl).elim
        | cons a b => exact hT.elim
      | cons a b =>
        obtain ⟨_, _, p0, m0, _, _, hm0⟩ := hT.get (i := 0) (v := a) rfl
        have := hm0.wd
        omega
    refine ⟨_, (pss_cons (ps_set (i := 4) sc.nd rfl (Or.inl rfl) pe_dnewK)
      (pss_cons (ps_for PassesOwn.never rfl (pi_list (pe_callB cr_sortedI (by rfl) T.sorted (by decide +kernel) (pa_cons (pe_callTy (call_list_dK rfl) (by rfl) T.list (by decide +kernel) (pa_cons (pv 3) pa_nil)) pa_nil))) (pg_name (i := 5) sc.nd rfl (Or.inl rfl))
      (pss_one (ps_for PassesOwn.never rfl (pi_list (pe_cl g_all_choices hr (by decide) rfl (pa_cons (pv 0) (pa_cons (pv 2) pa_nil)))) (pg_name (i := 6) sc.nd rfl (Or.inl rfl))
      (pss_one (ps_dput (hu_of hr) (pv 4) (pe_op op_and (pe_cl g_carried hr (by decide) rfl (pa_cons (pv 0) (pa_cons (pv 1) (pa_cons (pv 2) (pa_cons (pv 5) (pa_cons (pv 6) pa_nil)))))) pe_int) (pe_tup (pa_cons (pv 5) (pa_cons (pv 6) pa_nil))) rfl)))))
      (pss_one (ps_ret (pv 4))))), ?_⟩
    refine fun d hd => ?_
    obtain ⟨kvs, hu, hkv⟩ := hrow.keys
    have s0 : Same H (upd H d (.dK [])) := G.upd hd
    refine ⟨_, rfl, dr, kvs, rfl, s0 _ _ hu, fun q hq => ?_⟩
    refine ⟨q, ks, rfl, SqL.of (by rw [upd_same, hkv]), fun ns' sl hperm hsort hsl => ?_⟩
    refine ⟨sl, rfl, ⟨_, SqL.of upd_same⟩, ?_⟩
    have s01 : Same (upd H d (.dK [])) (upd (upd (upd H d (.dK [])) q (.lst (kvs.map fun kv => kV kv.1))) sl (.lst (ns'.map V.int))) := Same.trans (G.upd hq) (G.upd hsl)
    have hns : ∀ c, c ∈ ns' ↔ c ∈ ks := fun c => hperm.mem_iff
    refine for_list (K := K) (a := sl) (xs := ns'.map V.int) (fun a σ H3 => ∃ (kd : List Int) (v5 v6 : Option V), σ = [some (.ref t), some (.int n), some (.int i), some (.ref dr), some (.ref d), v5, v6] ∧ Same H H3 ∧ RowA H3 d kd ∧
      H3 sl = some (.lst (ns'.map V.int)) ∧ ∀ x, x ∈ kd ↔ ∃ c ∈ ns'.take a, ∃ bs, bs ∈ chs ts i ∧ x = tot ts n i c bs % 2)
      ⟨[], none, none, rfl, Same.trans s0 s01, ⟨_, s01 _ _ upd_same, rfl, List.nodup_nil⟩, upd_same, fun x => by simp⟩ (fun a σ H3 _ h => by obtain ⟨_, _, _, _, _, _, h, _⟩ := h; exact SqL.of h) ?_ ?_
    · rintro a y σ H3 ha ⟨kd, v5, v6, rfl, s3, hrd, hsl3, hkd⟩
      rw [List.getElem?_map] at ha
      obtain ⟨c, hc, rfl⟩ : ∃ c, ns'[a]? = some c ∧ y = V.int c := by
        cases e : ns'[a]? with
        | none => rw [e] at ha; cases ha
        | some o => rw [e] at ha; exact ⟨o, rfl, (Option.some.inj ha).symm⟩
      refine ⟨_, rfl, _, rfl, t, i, m, ts, rfl, hTA.mono s3, h4, fun ch H4 cs s34 hch hcs hU => ?_⟩
      refine ⟨ch, rfl, ⟨_, SqL.of hcs⟩, for_list (K := K) (a := ch) (xs := cs) (fun b σ H5 => ∃ (kd : List Int) (v6 : Option V), σ = [some (.ref t), some (.int n), some (.int i), some (.ref dr), some (.ref d), some (.int c), v6] ∧ Same H H5 ∧ RowA H5 d kd ∧
        H5 ch = some (.lst cs) ∧ TupsV K H5 cs (chs ts i) ∧ H5 sl = some (.lst (ns'.map V.int)) ∧ ∀ x, x ∈ kd ↔ (∃ c ∈ ns'.take a, ∃ bs, bs ∈ chs ts i ∧ x = tot ts n i c bs % 2) ∨ ∃ bs, bs ∈ (chs ts i).take b ∧ x = tot ts n i c bs % 2)
        ⟨kd, v6, rfl, Same.trans s3 s34, hrd.mono s34, hcs, hU, s34 _ _ hsl3, fun x => by rw [hkd]; simp⟩ (fun b σ H4 _ h => by obtain ⟨_, _, _, _, _, h, _⟩ := h; exact SqL.of h) ?_ ?_⟩
      · rintro b y σ H4 hb ⟨kd4, v6, rfl, s4, hrd4, hch4, hU4, hsl4, hkd4⟩
        obtain ⟨bs, hbs, pb, rfl, hpb⟩ := hU4.get hb
        have hbm : Chs i ts bs := mem_chs.mp (List.mem_of_getElem? hbs)
        refine ⟨_, rfl, _, rfl, (by show 2 ≤ sizeLine; decide), fun tp htp => ?_⟩
        have g1 : Same H4 (upd H4 tp (.tup [.int c, .ref pb])) := G.upd htp
        refine ⟨_, rfl, _, rfl, _, rfl, _, rfl, _, rfl, _, rfl, t, pb, n, c, i, m, ts, bs, rfl, hTA.mono (Same.trans s4 g1), h4, small_f hsm, i64, G.sqT g1 hpb, chs_len hbm, fun H5 s5 => ?_⟩
        have s45 := Same.trans g1 s5
        obtain ⟨kvs4, hd4, el4, put4⟩ := rowA_put (tot ts n i c bs % 2) (.ref tp) (hrd4.mono s45)
        have hlen4 : kd4.length ≤ 2 := by
          obtain ⟨_, _, _, nd⟩ := hrd4
          refine nodup_range 2 kd4 0 nd fun x hx => ?_
          have key : ∃ z : Int, x = z % 2 := by
            rcases (hkd4 x).mp hx with ⟨c', hc', bs', hb', e⟩ | ⟨bs', hb', e⟩
            · exact ⟨_, e⟩
            · exact ⟨_, e⟩
          obtain ⟨z, rfl⟩ := key
          omega
        refine ⟨_, _, rfl, rfl, ?_⟩
        have ez : V.int (Builtin.bitAnd (tot ts n i c bs) 1) = kV (Sum.inl (tot ts n i c bs % 2)) := by rw [bitAnd_m1]; rfl
        refine ⟨d, _, rfl, ez ▸ DPut.k (k := Sum.inl (tot ts n i c bs % 2)) hd4 (Nat.lt_of_le_of_lt (by omega : kvs4.length ≤ 2) (by decide)), ?_⟩
        obtain ⟨kd5, hrd5, hkd5⟩ := put4 (upd H5 d (.dK (putK kvs4 (Sum.inl (tot ts n i c bs % 2)) (.ref tp)))) upd_same
        have t1 : Ti H4 (upd H5 d (.dK (putK kvs4 (Sum.inl (tot ts n i c bs % 2)) (.ref tp)))) := Ti.trans (Ti.same s45) (Ti.dK hd4)
        have keep : ∀ {a' : Addr} {xs : List V}, H4 a' = some (.lst xs) → (upd H5 d (.dK (putK kvs4 (Sum.inl (tot ts n i c bs % 2)) (.ref tp)))) a' = some (.lst xs) := fun {a' xs} e => by
          have e5 := s45 _ _ e
          rw [upd_ne (ne_of e5 hd4 (by intro z; cases z))]
          exact e5
        refine ⟨kd5, _, rfl, fun b' o e => ?_, hrd5, keep hch4, hU4.ti t1, keep hsl4, fun x => ?_⟩
        · rw [upd_ne (fun z => by rw [z, hd] at e; cases e)]
          exact s45 _ _ (s4 _ _ e)
        · rw [hkd5, hkd4]
          constructor
          · rintro ((h | ⟨bs', hb', e⟩) | e)
            · exact .inl h
            · exact .inr ⟨bs', (take_mem hbs).mpr (.inl hb'), e⟩
            · exact .inr ⟨bs, (take_mem hbs).mpr (.inr rfl), e⟩
          · rintro (h | ⟨bs', hb', e⟩)
            · exact .inl (.inl h)
            · rcases (take_mem hbs).mp hb' with h | rfl
              · exact .inl (.inr ⟨bs', h, e⟩)
              · exact .inr e
      · rintro σ H4 ⟨kd4, v6, rfl, s4, hrd4, hch4, hU4, hsl4, hkd4⟩
        refine ⟨kd4, _, _, rfl, s4, hrd4, hsl4, fun x => ?_⟩
        rw [hU4.len, List.take_of_length_le (Nat.le_refl _)] at hkd4
        rw [hkd4]
        constructor
        · rintro (⟨c', hc', h⟩ | h)
          · exact ⟨c', (take_mem hc).mpr (.inl hc'), h⟩
          · exact ⟨c, (take_mem hc).mpr (.inr rfl), h⟩
        · rintro ⟨c', hc', h⟩
          rcases (take_mem hc).mp hc' with q | rfl
          · exact .inl ⟨c', q, h⟩
          · exact .inr h
    · rintro σ H3 ⟨kd, v5, v6, rfl, s3, hrd, hsl3, hkd⟩
      refine ⟨_, rfl, k d H3 kd s3 hd hrd fun v => ?_⟩
      rw [hkd, List.length_map, List.take_of_length_le (Nat.le_refl _)]
      constructor
      · rintro ⟨c', hc', bs, hb, e⟩
        exact ⟨c', bs, (hns c').mp hc', mem_chs.mp hb, e⟩
      · rintro ⟨c', bs, hc', hb, e⟩
        exact ⟨c', (hns c').mpr hc', bs, mem_chs.mpr hb, e⟩
theorem val_mem {kvs : List (Key × V)} {ks : List Int} (e : kvs.map (·.1) = ks.map Sum.inl) (x : Int) : (valV kvs (Sum.inl x)).isSome = true ↔ x ∈ ks := by
  have inl_mem : (Sum.inl x : Key) ∈ kvs.map (·.1) ↔ x ∈ ks := by
    rw [e, List.mem_map]
    constructor
    · rintro ⟨z, hz, q⟩
      rw [← Sum.inl.inj q]
      exact hz
    · intro hy
      exact ⟨x, hy, rfl⟩
  rw [← inl_mem]
  cases q : valV kvs (Sum.inl x) with
  | none => exact ⟨fun z => (Bool.noConfusion z), fun m => (valV_not q m).elim⟩
  | some v => exact ⟨fun _ => valV_in q, fun _ => rfl⟩
open Classical in
/-- whether a result has v at a place -/
noncomputable def fz (w : Nat) (ts : List Trm) (n : Int) (v : Int) (i : Nat) : Bool := decide (∃ c bs, Car w ts n i c ∧ Chs i ts bs ∧ tot ts n i c bs % 2 = v)
open Classical in
theorem fz_iff {w : Nat} {ts : List Trm} {n v : Int} {i : Nat} : fz w ts n v i = true ↔ ∃ c bs, Car w ts n i c ∧ Chs i ts bs ∧ tot ts n i c bs % 2 = v := by
  unfold fz
  exact decide_eq_true_iff
theorem ok_sum_mask (F : Fun K "sum_mask" "sum_mask" (top 32) f fd) (T : Txt K mg C) (gM : Mkr P w K mg base C 3 (spInit C)) (p_width : Prp P w K mg base C 1 "width" (sp1 (rI1 C fW))) (g_size_of : Cl P w K mg base 1 "size_of" spSize)
    (g_carry_rows : Cl P w K mg base 5 "carry_rows" (spRows K C)) (g_ways_at : Cl P w K mg base 5 "ways_at" (spWays K C)) : FnOk P w K mg base CX0 6 f fd ["terms", "number"] (spSum K C) := by
  have sc : FnScope ["terms", "number", "width", "low", "high", "bit", "row", "ways"] ["terms", "number"] (defScope (top 32)) := ⟨rfl, rfl, rfl, by decide +kernel, rfl, by decide +kernel, by decide +kernel⟩
  refine F.ok sc (fun vs H Q E h => ?_) (fun cdv A outer s H vs Q E hr h => ?_)
  · obtain ⟨t, n, m, ts, rfl, _⟩ := h
    rfl
  · obtain ⟨t, n, m, ts, rfl, hTA, hS, k⟩ := h
    obtain ⟨hne, h4, hsm⟩ := id hS
    obtain ⟨vs, hvs, hT⟩ := id hTA
    have hms := hT.msks
    obtain ⟨v0, vs', evs⟩ : ∃ v0 vs', vs = v0 :: vs' := by
      cases e : vs with
      | nil =>
        rw [e] at hT
        cases q : ts with
        | nil => exact (hne q).elim
        | cons a b => rw [q] at hT; exact hT.elim
      | cons a b => exact ⟨a, b, rfl⟩
    obtain ⟨tm0, _, p0, m0, hv0, hp0, hm0⟩ := hT.get (i := 0) (v := v0) (by rw [evs]; rfl)
    subst hv0
    have hm := hm0.wd
    refine ⟨_, (pss_cons (ps_par3 (i := 2) (j := 3) (l := 4) (by rfl) sc.nd rfl rfl rfl (by decide) (by decide) (by decide) rfl rfl rfl (pa_cons (pe_pI (pe_ix ix_tup (pe_ix ix_tup (pv 0) pe_int (fun _ _ => rfl)) pe_int (fun _ _ => rfl)) T p_width hr (by decide)) (pa_cons pe_int (pa_cons pe_int pa_nil))) (by rfl))
      (pss_cons (ps_for PassesOwn.never rfl (pi_enum (by rfl) T.enum (pa_cons (pe_cl g_carry_rows hr (by decide) rfl (pa_cons (pv 0) (pa_cons (pv 1) pa_nil))) pa_nil)) (pg_tup rfl (pgs_cons (pg_name (i := 5) sc.nd rfl (Or.inl rfl)) (pgs_cons (pg_name (i := 6) sc.nd rfl (Or.inl rfl)) pgs_nil)))
      (pss_cons (ps_set (i := 7) sc.nd rfl (Or.inl rfl) (pe_cl g_ways_at hr (by decide) rfl (pa_cons (pv 0) (pa_cons (pv 1) (pa_cons (pv 5) (pa_cons (pv 6) pa_nil))))))
      (pss_cons (ps_set (i := 3) sc.nd rfl (Or.inl rfl) (pe_op op_add (pv 3) (pe_op op_mul (pe_cl g_size_of hr (by decide) rfl (pa_cons (pv 5) pa_nil)) (pe_callTy call_int1 (by rfl) T.int (by decide +kernel) (pa_cons (pe_cmp (pc_dnotin (hu_of hr) pe_int (pv 7)) rfl) pa_nil)))))
      (pss_one (ps_set (i := 4) sc.nd rfl (Or.inl rfl) (pe_op op_add (pv 4) (pe_op op_mul (pe_cl g_size_of hr (by decide) rfl (pa_cons (pv 5) pa_nil)) (pe_callTy call_int1 (by rfl) T.int (by decide +kernel) (pa_cons (pe_cmp (pc_din (hu_of hr) pe_int (pv 7)) rfl) pa_nil)))))))))
      (pss_one (ps_ret (pe_M gM T hr (by decide) rfl (pa_cons (pv 2) (pa_cons (pv 3) (pa_cons (pv 4) pa_nil)))))))), ?_⟩
    refine ⟨_, rfl, t, _, _, _, rfl, rfl, hvs, (by rw [evs]; exact atI_nat (j := 0) rfl), p0, _, _, _, rfl, rfl, hp0, rfl, m0, m, _, _, rfl, hm0, _, _, _, rfl, ?_⟩
    refine ⟨_, rfl, _, rfl, t, n, m, ts, rfl, hTA, hS, fun a H1 us s1 ha hus hlen hrows => ?_⟩
    refine ⟨a, us, rfl, SqL.of hus, ?_⟩
    refine for_it (walk_enum (K := K) (a := a) (xs := us)) (fun j σ H2 => ∃ (low high : Int) (v5 v6 v7 : Option V), σ = [some (.ref t), some (.int n), some (.int m), some (.int low), some (.int high), v5, v6, v7] ∧ Same H1 H2 ∧
      Acc j (fun i => !fz m ts n 0 i) low ∧ Acc j (fz m ts n 1) high)
      ⟨0, 0, none, none, none, rfl, Same.refl _, acc_zero _, acc_zero _⟩ (fun j σ H2 _ h => by obtain ⟨_, _, _, _, _, _, s, _⟩ := h; exact SqL.of (s _ _ hus)) ?_ ?_
    · rintro j x σ H2 H3 hj ⟨low, high, v5, v6, v7, rfl, s2, hlo, hhi⟩ ⟨TT, x1, x2, rfl, hTT, rfl, e1, e2⟩
      have e1' : x1 = V.int (j : Nat) := (Option.some.inj e1).symm
      subst e1'
      obtain ⟨d, ks, rfl, hrow, hks⟩ := hrows.get e2
      rw [Nat.zero_add] at hks
      have g1 : Same H2 (upd H2 TT (.tup [.int (j : Nat), .ref d])) := G.upd hTT
      have s13 := Same.trans s2 g1
      have hjm : j < m := by omega
      refine ⟨TT, _, rfl, SqT.of upd_same, rfl, _, _, rfl, _, _, rfl, rfl, ?_⟩
      refine ⟨_, rfl, _, rfl, _, rfl, _, rfl, t, d, n, j, m, ts, ks, rfl, hTA.mono (Same.trans s1 s13), hS, hjm, hrow.mono s13, fun wd H4 ws s4 hwd hrw hws => ?_⟩
      obtain ⟨kvs, hkv, ekv, nd⟩ := id hrw
      have key : ∀ v : Int, v ∈ ws ↔ fz m ts n v j = true := fun v => by
        rw [hws, fz_iff]
        constructor
        · rintro ⟨c, bs, hc, hb, e⟩
          exact ⟨c, bs, (hks c).mp hc, hb, e.symm⟩
        · rintro ⟨c, bs, hc, hb, e⟩
          exact ⟨c, bs, (hks c).mpr hc, hb, e.symm⟩
      have kb : ∀ v : Int, (valV kvs (Sum.inl v)).isSome = fz m ts n v j := fun v => by
        have a1 := (val_mem ekv v).trans (key v)
        cases q : (valV kvs (Sum.inl v)).isSome <;> cases q' : fz m ts n v j <;> simp_all
      refine ⟨_, rfl, _, rfl, j, rfl, by omega, _, rfl, wd, _, rfl, DGet.k (k := Sum.inl 0) hkv, .inr ⟨_, rfl, ?_⟩⟩
      refine ⟨_, _, rfl, rfl, .inr (by split <;> omega), _, _, rfl, rfl, ?_⟩
      refine ⟨_, rfl, _, rfl, j, rfl, by omega, _, rfl, wd, _, rfl, DGet.k (k := Sum.inl 1) hkv, .inr ⟨_, rfl, ?_⟩⟩
      refine ⟨_, _, rfl, rfl, .inr (by split <;> omega), _, _, rfl, rfl, ?_⟩
      refine ⟨_, _, _, _, _, rfl, Same.trans s13 s4, acc_step hlo ?_, acc_step hhi ?_⟩
      · rw [kb]
      · rw [kb]
    · rintro σ H2 ⟨low, high, v5, v6, v7, rfl, s2, hlo, hhi⟩
      rw [hlen] at hlo hhi
      have hN : Nar m (SSum m ts n) low high := by
        refine sum_nar hms hlo hhi (fun i hi => ?_) fun i hi => ?_
        · rw [← fz_iff]
          cases fz m ts n 0 i <;> simp
        · exact fz_iff
      exact ⟨_, rfl, _, rfl, _, rfl, m, low, high, rfl, hm, hN.msk, fun p H' s' hp => k p H' low high (Same.trans s1 (Same.trans s2 s')) hp hN⟩
end
end WP


set_option Elab.async false
set_option linter.all false
set_option maxRecDepth 100000
set_option maxHeartbeats 8000000
/-! K10Draw: the law's own draws. -/
namespace WP
open PySem PySem.Spec PyProof.Rows L2 WA WR

/-- all but the two changed lists is kept -/
def Kp (d r : Addr) (H H' : Hp) : Prop := ∀ b o, b ≠ d → b ≠ r → H b = some o → H' b = some o
theorem Kp.same {d r : Addr} {H H' : Hp} (s : Same H H') : Kp d r H H' := fun b o _ _ e => s b o e
theorem Kp.trans {d r : Addr} {H H1 H2 : Hp} (a : Kp d r H H1) (b : Kp d r H1 H2) : Kp d r H H2 := fun c o n1 n2 e => b c o n1 n2 (a c o n1 n2 e)
/-- the drawn list at d: cells, the number of draws, rests (at r) -/
structure Drw (K : PySem.W.Frag) (H : Hp) (d r : Addr) (t : Nat) : Prop where
  ne : d ≠ r
  ex : ∃ (c : Addr) (ns ms : List Int), c ≠ d ∧ c ≠ r ∧ H d = some (.lst [.ref c, .int t, .ref r]) ∧ H c = some (.lst (ns.map V.int)) ∧ H r = some (.lst (ms.map V.int)) ∧ ns.length = ms.length ∧ 1 ≤ ns.length ∧ ns.length ≤ 1000
theorem Drw.lst {K : PySem.W.Frag} {H : Hp} {d r : Addr} {t : Nat} (h : Drw K H d r t) : (∃ xs, H d = some (.lst xs)) ∧ ∃ xs, H r = some (.lst xs) :=
  let ⟨_, _, _, _, _, a, _, b, _⟩ := h.ex; ⟨⟨_, a⟩, ⟨_, b⟩⟩
theorem Drw.same {K : PySem.W.Frag} {H H' : Hp} {d r : Addr} {t : Nat} (h : Drw K H d r t) (s : Same H H') : Drw K H' d r t :=
  ⟨h.ne, let ⟨c, ns, ms, n1, n2, a, b, e, l⟩ := h.ex; ⟨c, ns, ms, n1, n2, s _ _ a, s _ _ b, s _ _ e, l⟩⟩
theorem Drw.ti {K : PySem.W.Frag} {H H' : Hp} {d r : Addr} {t : Nat} (h : Drw K H d r t) (k : Kp d r H H') : Ti H H' := fun b o f e => by
  obtain ⟨⟨xs, hd⟩, ⟨ys, hr⟩⟩ := h.lst
  exact k b o (ne_of e hd fun q => by rw [q] at f; cases f) (ne_of e hr fun q => by rw [q] at f; cases f) e
theorem Drw.new {K : PySem.W.Frag} {H : Hp} {d r l : Addr} {t : Nat} (h : Drw K H d r t) (hl : H l = none) : l ≠ d ∧ l ≠ r := by
  obtain ⟨⟨xs, hd⟩, ⟨ys, hr⟩⟩ := h.lst
  exact ⟨fun q => (by rw [q, hd] at hl; cases hl), fun q => (by rw [q, hr] at hl; cases hl)⟩

def spDraws (K : PySem.W.Frag) : Sp := fun vs H Q _ => ∃ (a : Addr) (ns : List Int), vs = [.ref a] ∧ SqL K H a (ns.map V.int) ∧ ns.length ≤ 63 ∧ ∀ H' d r, Same H H' → Drw K H' d r 0 → Q (.ref d) H'
def spNext (K : PySem.W.Frag) : Sp := fun vs H Q _ => ∃ (d r : Addr) (t : Nat) (n : Int), vs = [.ref d, .int n] ∧ Drw K H d r t ∧ t ≤ 900 ∧ 1 ≤ n ∧ n ≤ 10 ^ 10 ∧
  ∀ H' v, Kp d r H H' → Drw K H' d r (t + 1) → 0 ≤ v → v < n → Q (.int v) H'
def spOne (K : PySem.W.Frag) : Sp := fun vs H Q _ => ∃ (d r l : Addr) (t : Nat) (xs : List Int), vs = [.ref d, .ref l] ∧ Drw K H d r t ∧ t ≤ 900 ∧ l ≠ d ∧ l ≠ r ∧ H l = some (.lst (xs.map V.int)) ∧ 1 ≤ xs.length ∧ xs.length ≤ 100 ∧
  ∀ H' v, Kp d r H H' → Drw K H' d r (t + 1) → v ∈ xs → Q (.int v) H'
def spWd (K : PySem.W.Frag) : Sp := fun vs H Q _ => ∃ (d r : Addr) (t : Nat), vs = [.ref d] ∧ Drw K H d r t ∧ t ≤ 800 ∧ ∀ H' (w : Nat), Kp d r H H' → Drw K H' d r (t + 2) → 1 ≤ w → w ≤ 64 → Q (.int w) H'
def spWrd (K : PySem.W.Frag) : Sp := fun vs H Q _ => ∃ (d r : Addr) (t w : Nat), vs = [.ref d, .int w] ∧ Drw K H d r t ∧ t ≤ 800 ∧ 1 ≤ w ∧ w ≤ 64 ∧ ∀ H' x, Kp d r H H' → Drw K H' d r (t + 4) → InW w x → Q (.int x) H'
def spEnds (K : PySem.W.Frag) : Sp := fun vs H Q _ => ∃ (d r : Addr) (t w : Nat), vs = [.ref d, .int w] ∧ Drw K H d r t ∧ t ≤ 700 ∧ 1 ≤ w ∧ w ≤ 64 ∧
  ∀ H' p lo hi, Kp d r H H' → Drw K H' d r (t + 9) → SqT K H' p [.int lo, .int hi] → Msk w lo hi → Q (.ref p) H'
def spMsk (K : PySem.W.Frag) (C : Addr) : Sp := fun vs H Q _ => ∃ (d r : Addr) (t w : Nat), vs = [.ref d, .int w] ∧ Drw K H d r t ∧ t ≤ 700 ∧ 1 ≤ w ∧ w ≤ 64 ∧
  ∀ H' p lo hi, Kp d r H H' → Drw K H' d r (t + 9) → IsM C H' p w lo hi → Q (.ref p) H'

theorem cut_all (xs : List V) (h : xs.length ≤ 63) : cutV xs none (some 63) = xs := by
  unfold cutV
  have e1 : HT.sIx xs.length 0 none = 0 := rfl
  have e2 : HT.sIx xs.length xs.length (some 63) = xs.length := by
    have := HT.sIx_nat xs.length xs.length 63
    rw [Nat.min_eq_right h] at this
    exact this
  rw [e1, e2, List.drop_zero, Nat.sub_zero, List.take_of_length_le (Nat.le_refl _)]

section
variable {P : Program} {w : World} {K : PySem.W.Frag} {mg : Str → Option Value} {base : Heap} {C f : Addr} {fd : FuncData}
theorem ix_of {n : Nat} {i : Int} (h0 : 0 ≤ i) (h1 : i < n) : ixN n i = some i.toNat := by
  unfold ixN
  rw [if_pos h0, if_pos h1]
theorem at_int {ns : List Int} {i : Int} (h0 : 0 ≤ i) (h1 : i < ns.length) : ∃ v, ns[i.toNat]? = some v ∧ atI (ns.map V.int) i = some (.int v) := by
  have hl : i.toNat < ns.length := by omega
  refine ⟨ns[i.toNat], List.getElem?_eq_getElem hl, ?_⟩
  have e : ((i.toNat : Nat) : Int) = i := by omega
  have z := atI_nat (xs := ns.map V.int) (j := i.toNat) (v := .int ns[i.toNat]) (by rw [List.getElem?_map, List.getElem?_eq_getElem hl]; rfl)
  rw [e] at z
  exact z
theorem zA : (0 : Int) < 2147483629 := by decide
theorem zB : (0 : Int) < 2147483587 := by decide
theorem zC : (0 : Int) < 2147483563 := by decide
theorem zD : (0 : Int) < 4611686018427387847 := by decide
theorem two_pos : (0 : Int) < 2 := by decide
theorem two_lt : (2 : Int) < 1073741824 := by decide
theorem ok_next (F : Fun K "_law_next" "_law_next" (top 35) f fd) (T : Txt K mg C) : FnOk P w K mg base CX0 1 f fd ["_law_drawn", "_law_many"] (spNext K) := by
  have sc : FnScope ["_law_drawn", "_law_many", "_law_cells", "_law_turn", "_law_rests", "_law_spot", "_law_digit", "_law_mixed", "_law_again"] ["_law_drawn", "_law_many"] (defScope (top 35)) := ⟨rfl, rfl, rfl, by decide +kernel, rfl, by decide +kernel, by decide +kernel⟩
  refine F.ok sc (fun vs H Q E h => ?_) (fun cdv A outer s H vs Q E hr h => ?_)
  · obtain ⟨d, r, t, n, rfl, _⟩ := h
    rfl
  · obtain ⟨d, r, t, n, rfl, hD, ht, hn1, hn2, k⟩ := h
    obtain ⟨ndr, c, ns, ms, ncd, ncr, hd, hc, hrr, hlen, hl1, hl2⟩ := hD
    refine ⟨_, (pss_cons (ps_asg (pv 0) (pg_unl rfl (pgs_cons (pg_name (i := 2) sc.nd rfl (Or.inl rfl)) (pgs_cons (pg_name (i := 3) sc.nd rfl (Or.inl rfl)) (pgs_cons (pg_name (i := 4) sc.nd rfl (Or.inl rfl)) pgs_nil)))))
      (pss_cons (ps_set (i := 5) sc.nd rfl (Or.inl rfl) (pe_op op_mod (pv 3) (pe_callB call_len_seq (by rfl) T.len PySem.boot_len (pa_cons (pv 2) pa_nil))))
      (pss_cons (ps_asg (pe_op op_add (pv 3) pe_int) (pg_sub (pv 0) pe_int set_list (by intro _; rfl)))
      (pss_cons (ps_if (pt_cmpR op_gt (pe_ix ix_list (pv 4) (pv 5) (fun _ _ => rfl)) pe_int (nomark _)) (pss_cons (ps_set (i := 6) sc.nd rfl (Or.inl rfl) (pe_op op_mod (pe_ix ix_list (pv 4) (pv 5) (fun _ _ => rfl)) (pv 1)))
      (pss_cons (ps_asg (pe_op op_fdivW (pe_ix ix_list (pv 4) (pv 5) (fun _ _ => rfl)) (pv 1)) (pg_sub (pv 4) (pv 5) set_list (by intro _; rfl)))
      (pss_one (ps_ret (pv 6))))) pss_nil)
      (pss_cons (ps_set (i := 7) sc.nd rfl (Or.inl rfl) (pe_op op_mod (pe_op op_pow (pe_op op_add (pe_op op_add (pe_op op_mod (pe_ix ix_list (pv 2) (pv 5) (fun _ _ => rfl)) pe_int) (pe_op op_mul pe_int (pv 3))) pe_int) pe_int) pe_int))
      (pss_cons (ps_set (i := 8) sc.nd rfl (Or.inl rfl) (pe_op op_mod (pe_op op_pow (pe_op op_add (pe_op op_add (pv 7) (pe_op op_mul (pe_op op_mul pe_int (pv 3)) (pv 3))) pe_int) pe_int) pe_int))
      (pss_one (ps_ret (pe_op op_mod (pe_op op_mod (pe_op op_add (pe_op op_mul (pv 8) pe_int) (pv 7)) pe_int) (pv 1)))))))))), ?_⟩
    refine ⟨_, rfl, d, _, rfl, SqL.of hd, rfl, _, _, rfl, _, _, rfl, _, _, rfl, rfl, ?_⟩
    have hp : (0 : Int) < ((ns.length : Nat) : Int) := by omega
    refine ⟨_, rfl, _, rfl, c, _, rfl, .inl (SqL.of hc), _, _, rfl, rfl, by rw [List.length_map]; exact hp, ?_⟩
    rw [List.length_map]
    have i0 : 0 ≤ (t : Int) % (ns.length : Int) := Int.emod_nonneg _ (by omega)
    have i1 : (t : Int) % (ns.length : Int) < (ns.length : Int) := Int.emod_lt_of_pos _ hp
    refine ⟨_, rfl, _, _, rfl, rfl, _, rfl, d, _, _, 1, rfl, rfl, hd, rfl, ?_⟩
    have nrd : r ≠ d := fun e => ndr e.symm
    obtain ⟨v, hv, av⟩ := at_int (ns := ms) i0 (by omega)
    obtain ⟨u, hu, au⟩ := at_int (ns := ns) i0 i1
    have hr1 : ∀ o, (upd H d o) r = some (.lst (ms.map V.int)) := fun o => by rw [upd_ne nrd]; exact hrr
    have hc1 : ∀ o, (upd H d o) c = some (.lst (ns.map V.int)) := fun o => by rw [upd_ne ncd]; exact hc
    refine ⟨_, rfl, _, rfl, r, _, _, _, rfl, rfl, SqL.of (hr1 _), av, _, _, rfl, rfl, _, rfl, ite_dec (fun hpos => ?_) (fun hneg => ?_)⟩
    · refine ⟨_, rfl, _, rfl, r, _, _, _, rfl, rfl, SqL.of (hr1 _), av, _, rfl, _, _, rfl, rfl, by omega, ?_⟩
      refine ⟨_, rfl, _, rfl, r, _, _, _, rfl, rfl, SqL.of (hr1 _), av, _, rfl, _, _, rfl, rfl, ⟨by omega, ?_⟩, ?_⟩
      · exact (wide_div (i := 0) (j := n) (b := 64) (by omega) (by omega) (by decide) (by decide)).2
      · refine ⟨_, rfl, _, rfl, r, _, _, _, rfl, rfl, hr1 _, ix_of i0 (by rw [List.length_map]; omega), ?_⟩
        refine ⟨_, rfl, k _ _ (fun b o n1 n2 e => ?_) ⟨ndr, c, ns, ms.set ((t : Int) % (ns.length : Int)).toNat (v / n), ncd, ncr, ?_, ?_, ?_, ?_, hl1, hl2⟩ (Int.emod_nonneg _ (by omega)) (Int.emod_lt_of_pos _ (by omega))⟩
        · rw [upd_ne n2, upd_ne n1]
          exact e
        · rw [upd_ne ndr, upd_same]
          rfl
        · rw [upd_ne ncr]
          exact hc1 _
        · rw [upd_same, List.map_set]
        · rw [List.length_set, hlen]
    · have m0 : 0 ≤ u % 2147483629 := Int.emod_nonneg _ (by decide)
      have m1 : u % 2147483629 < 2147483629 := Int.emod_lt_of_pos _ (by decide)
      refine ⟨_, rfl, _, rfl, c, _, _, _, rfl, rfl, SqL.of (hc1 _), au, _, _, rfl, rfl, zA, _, rfl, _, _, rfl, rfl, .inl (by decide), _, _, rfl, rfl, _, _, rfl, rfl, _, _, rfl, rfl, ⟨by decide, by decide, ?_⟩, _, _, rfl, rfl, zB, ?_⟩
      · show (u % 2147483629 + 48611 * (t : Int) + 12007).natAbs < 2 ^ 64
        omega
      have x0 : 0 ≤ (u % 2147483629 + 48611 * (t : Int) + 12007) ^ (3 : Int).toNat % 2147483587 := Int.emod_nonneg _ (by decide)
      have x1 : (u % 2147483629 + 48611 * (t : Int) + 12007) ^ (3 : Int).toNat % 2147483587 < 2147483587 := Int.emod_lt_of_pos _ (by decide)
      refine ⟨_, rfl, _, rfl, _, _, rfl, rfl, .inl (by decide), _, rfl, _, _, rfl, rfl, .inl ⟨?_, ?_⟩, _, _, rfl, rfl, _, _, rfl, rfl, _, _, rfl, rfl, ⟨by decide, by decide, ?_⟩, _, _, rfl, rfl, zC, ?_⟩
      · show -(2 ^ 64) < 6007 * (t : Int)
        omega
      · show 6007 * (t : Int) < 2 ^ 64
        omega
      · show ((u % 2147483629 + 48611 * (t : Int) + 12007) ^ (3 : Int).toNat % 2147483587 + 6007 * (t : Int) * (t : Int) + 53).natAbs < 2 ^ 64
        have b2 : 6007 * (t : Int) * (t : Int) ≤ 6007 * 900 * 900 := Int.mul_le_mul (by omega) (by omega) (by omega) (by omega)
        have b3 : 0 ≤ 6007 * (t : Int) * (t : Int) := Int.mul_nonneg (by omega) (by omega)
        omega
      refine ⟨_, rfl, _, _, rfl, rfl, .inr (by decide), _, rfl, _, _, rfl, rfl, _, _, rfl, rfl, zD, _, rfl, _, _, rfl, rfl, by omega, ?_⟩
      refine k _ _ (fun b o n1 n2 e => ?_) ⟨ndr, c, ns, ms, ncd, ncr, ?_, hc1 _, hr1 _, hlen, hl1, hl2⟩ (Int.emod_nonneg _ (by omega)) (Int.emod_lt_of_pos _ (by omega))
      · rw [upd_ne n1]
        exact e
      · rw [upd_same]
        rfl
theorem ok_one (F : Fun K "_law_one" "_law_one" (top 36) f fd) (T : Txt K mg C) (g__law_next : Cl P w K mg base 1 "_law_next" (spNext K)) : FnOk P w K mg base CX0 2 f fd ["_law_drawn", "_law_items"] (spOne K) := by
  have sc : FnScope ["_law_drawn", "_law_items"] ["_law_drawn", "_law_items"] (defScope (top 36)) := ⟨rfl, rfl, rfl, by decide +kernel, rfl, by decide +kernel, by decide +kernel⟩
  refine F.ok sc (fun vs H Q E h => ?_) (fun cdv A outer s H vs Q E hr h => ?_)
  · obtain ⟨d, r, l, t, xs, rfl, _⟩ := h
    rfl
  · obtain ⟨d, r, l, t, xs, rfl, hD, ht, n1, n2, hl, h1, h2, k⟩ := h
    refine ⟨_, (pss_one (ps_ret (pe_ix ix_list (pv 1) (pe_cl g__law_next hr (by decide) rfl (pa_cons (pv 0) (pa_cons (pe_callB call_len_seq (by rfl) T.len PySem.boot_len (pa_cons (pv 1) pa_nil)) pa_nil))) (fun _ _ => rfl)))), ?_⟩
    refine ⟨_, rfl, _, rfl, _, rfl, l, _, rfl, .inl (SqL.of hl), d, r, t, _, rfl, hD, ht, by rw [List.length_map]; omega, by rw [List.length_map]; omega, fun H' v kp hD' v0 v1 => ?_⟩
    rw [List.length_map] at v1
    obtain ⟨u, hu, au⟩ := at_int (ns := xs) v0 v1
    exact ⟨l, _, _, _, rfl, rfl, SqL.of (kp _ _ n1 n2 hl), au, k H' u kp hD' (List.mem_of_getElem? hu)⟩
theorem ok_wd (F : Fun K "_law_width" "_law_width" (top 37) f fd) (g__law_next : Cl P w K mg base 1 "_law_next" (spNext K)) (g__law_one : Cl P w K mg base 2 "_law_one" (spOne K)) : FnOk P w K mg base CX0 3 f fd ["_law_drawn"] (spWd K) := by
  have sc : FnScope ["_law_drawn"] ["_law_drawn"] (defScope (top 37)) := ⟨rfl, rfl, rfl, by decide +kernel, rfl, by decide +kernel, by decide +kernel⟩
  refine F.ok sc (fun vs H Q E h => ?_) (fun cdv A outer s H vs Q E hr h => ?_)
  · obtain ⟨d, r, t, rfl, _⟩ := h
    rfl
  · obtain ⟨d, r, t, rfl, hD, ht, k⟩ := h
    refine ⟨_, (pss_one (ps_ret (pe_cl g__law_one hr (by decide) rfl (pa_cons (pv 0) (pa_cons (pe_lst (pa_cons pe_int (pa_cons pe_int (pa_cons pe_int (pa_cons pe_int (pa_cons pe_int (pa_cons pe_int (pa_cons pe_int (pa_cons pe_int (pa_cons pe_int (pa_cons pe_int (pa_cons (pe_op op_add pe_int (pe_cl g__law_next hr (by decide) rfl (pa_cons (pv 0) (pa_cons pe_int pa_nil)))) pa_nil)))))))))))) pa_nil))))), ?_⟩
    refine ⟨_, rfl, _, rfl, d, r, t, 64, rfl, hD, by omega, by decide, by decide, fun H1 v kp hD1 v0 v1 => ⟨_, _, rfl, rfl, (by show 11 ≤ sizeLine; decide), fun l hl => ?_⟩⟩
    have hn := hD1.new hl
    refine ⟨d, r, l, t + 1, [1, 2, 3, 4, 8, 16, 32, 63, 64, 64, 1 + v], rfl, hD1.same (G.upd hl), by omega, hn.1, hn.2, by rw [upd_same]; rfl, (by show 1 ≤ 11; decide), (by show 11 ≤ 100; decide), fun H2 u kp2 hD2 hu => ?_⟩
    have hb : 1 ≤ u ∧ u ≤ 64 := by
      simp only [List.mem_cons, List.not_mem_nil, or_false] at hu
      omega
    obtain ⟨n, rfl⟩ : ∃ n : Nat, u = n := ⟨u.toNat, by omega⟩
    exact k H2 n (Kp.trans kp (Kp.trans (Kp.same (G.upd hl)) kp2)) hD2 (by omega) (by omega)
theorem ok_wrd (F : Fun K "_law_word" "_law_word" (top 38) f fd) (g__law_next : Cl P w K mg base 1 "_law_next" (spNext K)) (g__law_one : Cl P w K mg base 2 "_law_one" (spOne K)) : FnOk P w K mg base CX0 3 f fd ["_law_drawn", "_law_width_here"] (spWrd K) := by
  have sc : FnScope ["_law_drawn", "_law_width_here", "_law_top", "_law_free", "_law_some"] ["_law_drawn", "_law_width_here"] (defScope (top 38)) := ⟨rfl, rfl, rfl, by decide +kernel, rfl, by decide +kernel, by decide +kernel⟩
  refine F.ok sc (fun vs H Q E h => ?_) (fun cdv A outer s H vs Q E hr h => ?_)
  · obtain ⟨d, r, t, n, rfl, _⟩ := h
    rfl
  · obtain ⟨d, r, t, n, rfl, hD, ht, hn1, hn2, k⟩ := h
    refine ⟨_, (pss_cons (ps_set (i := 2) sc.nd rfl (Or.inl rfl) (pe_op op_sub (pe_op op_shl pe_int (pv 1)) pe_int))
      (pss_cons (ps_set (i := 3) sc.nd rfl (Or.inl rfl) (pe_op op_add (pe_op op_mul (pe_cl g__law_next hr (by decide) rfl (pa_cons (pv 0) (pa_cons (pe_op op_pow pe_int pe_int) pa_nil))) (pe_op op_pow pe_int pe_int)) (pe_cl g__law_next hr (by decide) rfl (pa_cons (pv 0) (pa_cons (pe_op op_pow pe_int pe_int) pa_nil)))))
      (pss_cons (ps_set (i := 4) sc.nd rfl (Or.inl rfl) (pe_lst (pa_cons pe_int (pa_cons pe_int (pa_cons pe_int (pa_cons (pv 2) (pa_cons (pe_op op_sub (pv 2) pe_int) (pa_cons (pe_op op_fdiv (pv 2) pe_int) (pa_cons (pe_op op_add (pe_op op_fdiv (pv 2) pe_int) pe_int) (pa_cons (pe_op op_shl pe_int (pe_cl g__law_next hr (by decide) rfl (pa_cons (pv 0) (pa_cons (pv 1) pa_nil)))) (pa_cons (pv 3) (pa_cons (pv 3) (pa_cons (pv 3) pa_nil)))))))))))))
      (pss_one (ps_ret (pe_op op_and (pe_cl g__law_one hr (by decide) rfl (pa_cons (pv 0) (pa_cons (pv 4) pa_nil))) (pv 2))))))), ?_⟩
    refine ⟨_, rfl, _, _, rfl, rfl, ⟨by omega, by omega, by decide⟩, _, _, rfl, rfl, ?_⟩
    have etop : (1 : Int) * 2 ^ ((n : Int)).toNat - 1 = 2 ^ n - 1 := by rw [Int.one_mul, Int.toNat_natCast]
    refine ⟨_, rfl, _, _, rfl, rfl, ⟨by decide, by decide, by decide⟩, d, r, t, _, rfl, hD, by omega, by decide, by decide, fun H1 v1 kp1 hD1 a1 b1 => ?_⟩
    refine ⟨_, _, rfl, rfl, ⟨by decide, by decide, by decide⟩, _, _, rfl, rfl, .inr (by decide), ?_⟩
    refine ⟨_, rfl, _, _, rfl, rfl, ⟨by decide, by decide, by decide⟩, d, r, t + 1, _, rfl, hD1, by omega, by decide, by decide, fun H2 v2 kp2 hD2 a2 b2 => ?_⟩
    refine ⟨_, _, rfl, rfl, ?_⟩
    refine ⟨_, rfl, _, rfl, _, _, rfl, rfl, _, rfl, _, _, rfl, rfl, ⟨two_pos, two_lt⟩, _, rfl, _, _, rfl, rfl, ⟨two_pos, two_lt⟩, _, _, rfl, rfl, ?_⟩
    refine ⟨_, rfl, _, rfl, d, r, t + 2, n, rfl, hD2, by omega, by omega, by omega, fun H3 v3 kp3 hD3 a3 b3 => ?_⟩
    refine ⟨_, _, rfl, rfl, ⟨a3, by omega, by decide⟩, _, rfl, _, rfl, _, rfl, (by show 11 ≤ sizeLine; decide), fun l hl => ?_⟩
    have hnw := hD3.new hl
    refine ⟨_, rfl, _, rfl, d, r, l, t + 3, [_, _, _, _, _, _, _, _, _, _, _], rfl, hD3.same (G.upd hl), by omega, hnw.1, hnw.2, upd_same, (by show 1 ≤ 11; decide), (by show 11 ≤ 100; decide), fun H4 u kp4 hD4 hu => ?_⟩
    refine ⟨_, rfl, _, _, rfl, rfl, ?_⟩
    refine k H4 _ (Kp.trans kp1 (Kp.trans kp2 (Kp.trans kp3 (Kp.trans (Kp.same (G.upd hl)) kp4)))) hD4 ?_
    show InW n (Builtin.bitAnd u (1 * 2 ^ ((n : Int)).toNat - 1))
    rw [etop]
    refine inW_of fun i hi => ?_
    rw [ib_and, ib_last, decide_eq_false (by omega), Bool.and_false]
theorem ok_ends (F : Fun K "_law_ends" "_law_ends" (top 39) f fd) (g__law_next : Cl P w K mg base 1 "_law_next" (spNext K)) (g__law_word : Cl P w K mg base 3 "_law_word" (spWrd K)) : FnOk P w K mg base CX0 4 f fd ["_law_drawn", "_law_width_here"] (spEnds K) := by
  have sc : FnScope ["_law_drawn", "_law_width_here", "_law_one_here", "_law_other", "_law_way"] ["_law_drawn", "_law_width_here"] (defScope (top 39)) := ⟨rfl, rfl, rfl, by decide +kernel, rfl, by decide +kernel, by decide +kernel⟩
  refine F.ok sc (fun vs H Q E h => ?_) (fun cdv A outer s H vs Q E hr h => ?_)
  · obtain ⟨d, r, t, n, rfl, _⟩ := h
    rfl
  · obtain ⟨d, r, t, n, rfl, hD, ht, hn1, hn2, k⟩ := h
    refine ⟨_, (pss_cons (ps_par3 (i := 2) (j := 3) (l := 4) (by rfl) sc.nd rfl rfl rfl (by decide) (by decide) (by decide) rfl rfl rfl (pa_cons (pe_cl g__law_word hr (by decide) rfl (pa_cons (pv 0) (pa_cons (pv 1) pa_nil))) (pa_cons (pe_cl g__law_word hr (by decide) rfl (pa_cons (pv 0) (pa_cons (pv 1) pa_nil))) (pa_cons (pe_cl g__law_next hr (by decide) rfl (pa_cons (pv 0) (pa_cons pe_int pa_nil))) pa_nil))) (by rfl))
      (pss_cons (ps_if (pt_cmpR op_lt (pv 4) pe_int (nomark _)) (pss_one (ps_ret (pe_ix ix_list (pe_lst (pa_cons (pe_tup (pa_cons (pv 2) (pa_cons (pv 2) pa_nil))) (pa_cons (pe_tup (pa_cons pe_int (pa_cons (pe_op op_sub (pe_op op_shl pe_int (pv 1)) pe_int) pa_nil))) pa_nil))) (pv 4) (fun _ _ => rfl)))) pss_nil)
      (pss_cons (ps_if (pt_cmpR op_eq (pv 4) pe_int (nomark _)) (pss_one (ps_ret (pe_tup (pa_cons (pe_op op_and (pv 2) (pe_un un_inv (pe_op op_shl pe_int (pe_op op_sub (pv 1) pe_int)))) (pa_cons (pe_op op_or (pv 2) (pe_op op_shl pe_int (pe_op op_sub (pv 1) pe_int))) pa_nil))))) pss_nil)
      (pss_one (ps_ret (pe_tup (pa_cons (pe_op op_and (pv 2) (pv 3)) (pa_cons (pe_op op_or (pv 2) (pv 3)) pa_nil)))))))), ?_⟩
    refine ⟨_, rfl, _, rfl, d, r, t, n, rfl, hD, by omega, hn1, hn2, fun H1 x kp1 hD1 hx => ?_⟩
    refine ⟨_, rfl, _, rfl, d, r, t + 4, n, rfl, hD1, by omega, hn1, hn2, fun H2 y kp2 hD2 hy => ?_⟩
    refine ⟨_, rfl, d, r, t + 8, 6, rfl, hD2, by omega, by decide, by decide, fun H3 v kp3 hD3 v0 v1 => ⟨_, _, _, rfl, ?_⟩⟩
    have kp : Kp d r H H3 := Kp.trans kp1 (Kp.trans kp2 kp3)
    have hlast : InW n (1 * 2 ^ ((n : Int)).toNat - 1) := by
      have := pow_pos' n
      rw [Int.one_mul, Int.toNat_natCast]
      exact ⟨by omega, by omega⟩
    have fin : ∀ (lo hi : Int), Msk n lo hi → ∀ H4 p, Same H3 H4 → SqT K H4 p [.int lo, .int hi] → Q (.ref p) H4 := fun lo hi hm H4 p s hp => k H4 p lo hi (Kp.trans kp (Kp.same s)) (hD3.same s) hp hm
    refine ⟨_, rfl, _, _, rfl, rfl, _, rfl, ite_dec (fun h2 => ?_) (fun h2 => ?_)⟩
    · have h2' : v < 2 := h2
      refine ⟨_, rfl, _, rfl, (by show 2 ≤ sizeLine; decide), fun p1 hp1 => ?_⟩
      refine ⟨_, rfl, _, _, rfl, rfl, ⟨by omega, by omega, by decide⟩, _, _, rfl, rfl, (by show 2 ≤ sizeLine; decide), fun p2 hp2 => ?_⟩
      refine ⟨(by show 2 ≤ sizeLine; decide), fun l hl => ?_⟩
      have s1 : Same H3 (upd H3 p1 (.tup [.int x, .int x])) := G.upd hp1
      have s2 := Same.trans s1 (G.upd (o := .tup [.int 0, .int (1 * 2 ^ ((n : Int)).toNat - 1)]) hp2)
      have s3 := Same.trans s2 (G.upd (o := .lst [.ref p1, .ref p2]) hl)
      have n12 : p1 ≠ p2 := ne_of_none upd_same hp2
      have e1 : (upd (upd (upd H3 p1 (.tup [.int x, .int x])) p2 (.tup [.int 0, .int (1 * 2 ^ ((n : Int)).toNat - 1)])) l (.lst [.ref p1, .ref p2])) p1 = some (.tup [.int x, .int x]) := G.upd hl _ _ (G.upd hp2 _ _ upd_same)
      have e2 : (upd (upd (upd H3 p1 (.tup [.int x, .int x])) p2 (.tup [.int 0, .int (1 * 2 ^ ((n : Int)).toNat - 1)])) l (.lst [.ref p1, .ref p2])) p2 = some (.tup [.int 0, .int (1 * 2 ^ ((n : Int)).toNat - 1)]) := G.upd hl _ _ upd_same
      have hv : v = 0 ∨ v = 1 := by omega
      rcases hv with rfl | rfl
      · exact ⟨_, rfl, l, _, 0, .ref p1, rfl, rfl, SqL.of upd_same, rfl, fin x x (one_msk hx) _ p1 s3 (SqT.of e1)⟩
      · refine ⟨_, rfl, l, _, 1, .ref p2, rfl, rfl, SqL.of upd_same, rfl, fin 0 _ ?_ _ p2 s3 (SqT.of e2)⟩
        exact ⟨⟨Int.le_refl _, pow_pos' n⟩, hlast, fun i e => by rw [ib_zero] at e; cases e⟩
    · have h2' : ¬ v < 2 := h2
      refine ⟨_, rfl, rfl, _, rfl, ite_dec (fun h3 => ?_) (fun h3 => ?_)⟩
      · have e1 : (1 : Int) * 2 ^ ((n : Int) - 1).toNat = 2 ^ (n - 1) := by
          rw [Int.one_mul]
          congr 1
          omega
        refine ⟨_, rfl, _, rfl, _, _, rfl, rfl, _, _, rfl, rfl, ⟨?_, ?_, by decide⟩, _, rfl, _, _, rfl, rfl, _, rfl, _, rfl, _, _, rfl, rfl, _, _, rfl, rfl, ⟨?_, ?_, by decide⟩, _, _, rfl, rfl, (by show 2 ≤ sizeLine; decide), fun p hp => ?_⟩
        · show (0 : Int) ≤ (n : Int) - 1
          omega
        · show (n : Int) - 1 ≤ 1000000
          omega
        · show (0 : Int) ≤ (n : Int) - 1
          omega
        · show (n : Int) - 1 ≤ 1000000
          omega
        refine fin _ _ ?_ _ p (G.upd hp) (SqT.of upd_same)
        show Msk n (Builtin.bitAnd x (Builtin.bitNot (1 * 2 ^ ((n : Int) - 1).toNat))) (Builtin.bitOr x (1 * 2 ^ ((n : Int) - 1).toNat))
        rw [e1]
        refine msk_of (fun i hi => ?_) fun i e => ?_
        · rw [ib_or, inW_bits hx hi, ib_pow, decide_eq_false (by omega)]; rfl
        · rw [ib_and] at e
          rw [ib_or, (Bool.and_eq_true_iff.mp e).1]; rfl
      · refine ⟨_, rfl, _, rfl, _, _, rfl, rfl, _, rfl, _, rfl, _, _, rfl, rfl, (by show 2 ≤ sizeLine; decide), fun p hp => ?_⟩
        refine fin _ _ ?_ _ p (G.upd hp) (SqT.of upd_same)
        show Msk n (Builtin.bitAnd x y) (Builtin.bitOr x y)
        exact msk_uni (one_msk hx) (one_msk hy)
theorem ok_msk (F : Fun K "_law_mask" "_law_mask" (top 40) f fd) (T : Txt K mg C) (gM : Mkr P w K mg base C 3 (spInit C)) (g__law_ends : Cl P w K mg base 4 "_law_ends" (spEnds K)) : FnOk P w K mg base CX0 5 f fd ["_law_drawn", "_law_width_here"] (spMsk K C) := by
  have sc : FnScope ["_law_drawn", "_law_width_here", "_law_least", "_law_greatest"] ["_law_drawn", "_law_width_here"] (defScope (top 40)) := ⟨rfl, rfl, rfl, by decide +kernel, rfl, by decide +kernel, by decide +kernel⟩
  refine F.ok sc (fun vs H Q E h => ?_) (fun cdv A outer s H vs Q E hr h => ?_)
  · obtain ⟨d, r, t, n, rfl, _⟩ := h
    rfl
  · obtain ⟨d, r, t, n, rfl, hD, ht, hn1, hn2, k⟩ := h
    refine ⟨_, (pss_cons (ps_asg (pe_cl g__law_ends hr (by decide) rfl (pa_cons (pv 0) (pa_cons (pv 1) pa_nil))) (pg_tup rfl (pgs_cons (pg_name (i := 2) sc.nd rfl (Or.inl rfl)) (pgs_cons (pg_name (i := 3) sc.nd rfl (Or.inl rfl)) pgs_nil))))
      (pss_one (ps_ret (pe_M gM T hr (by decide) rfl (pa_cons (pv 1) (pa_cons (pv 2) (pa_cons (pv 3) pa_nil))))))), ?_⟩
    refine ⟨_, rfl, _, rfl, d, r, t, n, rfl, hD, ht, hn1, hn2, fun H1 p lo hi kp1 hD1 hp hm => ⟨p, _, rfl, hp, rfl, _, _, rfl, _, _, rfl, rfl, ?_⟩⟩
    exact ⟨_, rfl, _, rfl, _, rfl, n, lo, hi, rfl, ⟨hn1, hn2⟩, hm, fun q H2 s hq => k H2 q lo hi (Kp.trans kp1 (Kp.same s)) (hD1.same s) hq⟩
theorem ok_draws (F : Fun K "_law_draws" "_law_draws" (top 34) f fd) (T : Txt K mg C) : FnOk P w K mg base CX0 1 f fd ["_law_script"] (spDraws K) := by
  have sc : FnScope ["_law_script", "_law_cells", "_law_cell"] ["_law_script"] (defScope (top 34)) := ⟨rfl, rfl, rfl, by decide +kernel, rfl, by decide +kernel, by decide +kernel⟩
  refine F.ok sc (fun vs H Q E h => ?_) (fun cdv A outer s H vs Q E hr h => ?_)
  · obtain ⟨a, ns, rfl, _⟩ := h
    rfl
  · obtain ⟨a, ns, rfl, ha, hl, k⟩ := h
    refine ⟨_, (pss_cons (ps_set (i := 1) sc.nd rfl (Or.inl rfl) (pe_op op_cat (pe_callTy call_list_of (by rfl) T.list (by decide +kernel) (pa_cons (pe_slice sl_list (pv 0) po_none (po_some pe_int)) pa_nil)) (pe_op op_rep (pe_lst (pa_cons pe_int pa_nil)) (pe_callTy call_int1 (by rfl) T.int (by decide +kernel) (pa_cons (pe_cmpR op_eq (pe_callB call_len_seq (by rfl) T.len PySem.boot_len (pa_cons (pv 0) pa_nil)) pe_int (nomark _)) pa_nil)))))
      (pss_one (ps_ret (pe_lst (pa_cons (pv 1) (pa_cons pe_int (pa_cons (pe_lc (own := [("_law_cell", 2)]) (g := (gName 2)) (tt := tYes) rfl sc.nd (pi_list (pv 1)) (blkOk_by (own := [("_law_cell", 2)]) (N := ["_law_script", "_law_cells", "_law_cell"]) (sc := defScope (top 34)) (by decide +kernel)) (fun _ _ _ _ _ => (pg_name (i := 2) sc.nd rfl (Or.inl rfl))) (fun _ _ _ _ _ => pts_nil) (fun _ _ _ _ _ => (pe_op op_mul (pv 2) (pe_callTy call_int1 (by rfl) T.int (by decide +kernel) (pa_cons (pe_cmpR op_ge (pv 2) (pe_op op_pow pe_int pe_int) (nomark _)) pa_nil))))) pa_nil))))))), ?_⟩
    refine ⟨_, rfl, _, rfl, a, _, rfl, ha, fun p1 hp1 => ?_⟩
    rw [cut_all _ (by rw [List.length_map]; exact hl)]
    have s1 : Same H (upd H p1 (.lst (ns.map V.int))) := G.upd hp1
    refine ⟨p1, _, rfl, .inl (SqL.of upd_same), fun p2 hp2 => ?_⟩
    have s2 := Same.trans s1 (G.upd (o := .lst (ns.map V.int)) hp2)
    refine ⟨(by show 1 ≤ sizeLine; decide), fun p3 hp3 => ?_⟩
    have s3 := Same.trans s2 (G.upd (o := .lst [.int 0]) hp3)
    have key : ∃ (c : Int) (cs : List Int), (if decide (V.int (((ns.map V.int).length : Nat) : Int) = V.int 0) = true then (1 : Int) else 0) = c ∧ 0 ≤ c ∧ c ≤ 1 ∧ ns.map V.int ++ (List.replicate c.toNat [V.int 0]).flatten = cs.map V.int ∧ 1 ≤ cs.length ∧ cs.length ≤ 1000 := by
      cases ns with
      | nil => exact ⟨1, [0], by decide, by decide, by decide, rfl, by decide, by decide⟩
      | cons n ns =>
        refine ⟨0, n :: ns, ?_, by decide, by decide, by simp, by simp, by omega⟩
        rw [decide_eq_false (fun e => by have := V.int.inj e; rw [List.length_map, List.length_cons] at this; omega)]
        rfl
    obtain ⟨c, cs, hc, c0, c1, hcs, l1, l2⟩ := key
    have hc' : V.int (if decide (V.int (((ns.map V.int).length : Nat) : Int) = V.int 0) = true then (1 : Int) else 0) = V.int c := congrArg V.int hc
    refine ⟨_, rfl, a, _, rfl, .inl (s3.seq ha), rfl, .inr ⟨_, rfl, ?_⟩⟩
    refine ⟨p3, c, [.int 0], rfl, hc', upd_same, by omega, by omega, ?_, fun p4 hp4 => ?_⟩
    · show 1 * c.toNat ≤ sizeLine
      exact Nat.le_trans (show 1 * c.toNat ≤ 1 by omega) (by decide)
    have s4 := Same.trans s3 (G.upd (o := .lst (List.replicate c.toNat [V.int 0]).flatten) hp4)
    have e2 : ∀ o3 o4, (upd (upd (upd (upd H p1 (.lst (ns.map V.int))) p2 (.lst (ns.map V.int))) p3 o3) p4 o4) p2 = some (.lst (ns.map V.int)) → True := fun _ _ _ => trivial
    refine ⟨p2, p4, ns.map V.int, _, rfl, rfl, G.upd hp4 _ _ (G.upd hp3 _ _ upd_same), upd_same, ?_, fun p5 hp5 => ?_⟩
    · refine Nat.le_of_lt (lt_sz ?_)
      have e : (ns.map V.int ++ (List.replicate c.toNat [V.int 0]).flatten).length = cs.length := by rw [hcs, List.length_map]
      rw [List.length_append] at e
      omega
    rw [hcs]
    have s5 := Same.trans s4 (G.upd (o := .lst (cs.map V.int)) hp5)
    refine ⟨_, rfl, _, rfl, p5, rfl, ⟨_, SqL.of upd_same⟩, fun D hD => ?_⟩
    refine lc_list (K := K) (a := p5) (xs := cs.map V.int) (fun j H' => Same (upd (upd (upd (upd (upd H p1 (.lst (ns.map V.int))) p2 (.lst (ns.map V.int))) p3 (.lst [.int 0])) p4 (.lst (List.replicate c.toNat [V.int 0]).flatten)) p5 (.lst (cs.map V.int))) H' ∧ ∃ ms : List Int, H' D = some (.lst (ms.map V.int)) ∧ ms.length = j)
      ⟨G.upd hD, [], upd_same, rfl⟩ (fun j H' _ h => SqL.of (h.1 _ _ upd_same)) ?_ ?_
    · rintro j x H' hj ⟨s6, ms, hm, hml⟩
      rw [List.getElem?_map] at hj
      obtain ⟨v, hv, rfl⟩ : ∃ v, cs[j]? = some v ∧ x = V.int v := by
        cases e : cs[j]? with
        | none => rw [e] at hj; cases hj
        | some o => rw [e] at hj; exact ⟨o, rfl, (Option.some.inj hj).symm⟩
      have hjl : j < cs.length := (List.getElem?_eq_some_iff.mp hv).1
      refine ⟨rfl, ?_⟩
      refine ⟨_, rfl, _, rfl, _, _, rfl, rfl, ⟨by decide, by decide, by decide⟩, _, _, rfl, rfl, .inr ⟨_, rfl, ?_⟩⟩
      refine ⟨_, _, rfl, rfl, .inr (by split <;> decide), _, hm, lt_sz (by rw [List.length_map]; omega), ?_, ms ++ [v * (if decide ((10 : Int) ^ (18 : Int).toNat ≤ v) = true then 1 else 0)], ?_, ?_⟩
      · intro b o e
        rw [upd_ne (fun z => by rw [z, hD] at e; cases e)]
        exact s6 _ _ e
      · rw [upd_same, List.map_append]
        rfl
      · rw [List.length_append, hml]
        rfl
    · rintro H6 ⟨s6, ms, hm, hml⟩
      rw [List.length_map] at hml
      refine ⟨(by show 3 ≤ sizeLine; decide), fun d hd => ?_⟩
      have n5 : p5 ≠ d := ne_of_none (s6 _ _ upd_same) hd
      have nD : D ≠ d := ne_of_none hm hd
      have n5D : p5 ≠ D := ne_of_none upd_same hD
      refine k _ d D (Same.trans s5 (Same.trans s6 (G.upd hd))) ⟨nD.symm, p5, cs, ms, n5, n5D, upd_same, ?_, ?_, hml.symm, l1, l2⟩
      · rw [upd_ne n5]
        exact s6 _ _ upd_same
      · rw [upd_ne nD]
        exact hm
end
end WP


set_option Elab.async false
set_option maxRecDepth 100000
/-! K11Laws: what the law asks of narrowest masks, in plain Lean. -/
namespace WA
open PySem PyProof.Rows

theorem agr_of {w : Nat} {x y q : Int} (e : y = x + 2 ^ w * q) : Agr w x y := by
  refine Agr.of_mod ?_
  rw [e, Int.add_mul_emod_self_left]
theorem md (w : Nat) (x : Int) : ∃ q, x % 2 ^ w = x - 2 ^ w * q := ⟨x / 2 ^ w, by
  have := Int.mul_ediv_add_emod x (2 ^ w); omega⟩
theorem Agr.refl (w : Nat) (x : Int) : Agr w x x := fun _ _ => rfl
theorem Sub.of {w : Nat} {S S' : Int → Prop} (h : ∀ z, S z → S' z) : Sub w S S' := fun z hz => ⟨z, h z hz, Agr.refl w z⟩

/-! ### ~ -/
abbrev ivx (w : Nat) (x : Int) : Int := Builtin.bitXor (2 ^ w - 1) x
theorem ivx_bit (w : Nat) (x : Int) (i : Nat) : ib (ivx w x) i = (decide (i < w) ^^ ib x i) := by unfold ivx; rw [ib_xor, ib_last]
theorem ivx_ivx (w : Nat) (x : Int) : ivx w (ivx w x) = x := by
  apply ib_ext; intro i
  rw [ivx_bit, ivx_bit]
  cases decide (i < w) <;> cases ib x i <;> rfl
theorem ivx_eq {w : Nat} {x : Int} (h : InW w x) : ivx w x = 2 ^ w - 1 - x := by
  have a : Builtin.bitOr (ivx w x) x = ivx w x + x := or_eq_add fun i => by
    rw [ivx_bit]
    by_cases hi : i < w
    · rw [decide_eq_true hi]; cases ib x i <;> rfl
    · rw [inW_bits h (by omega), Bool.and_false]
  have b : Builtin.bitOr (ivx w x) x = 2 ^ w - 1 := by
    apply ib_ext; intro i
    rw [ib_or, ivx_bit, ib_last]
    by_cases hi : i < w
    · rw [decide_eq_true hi]; cases ib x i <;> rfl
    · rw [decide_eq_false hi, inW_bits h (by omega)]; rfl
  omega
theorem mem_inv {w : Nat} {l h x : Int} (m : Mem w l h x) (k : Msk w l h) : Mem w (ivx w h) (ivx w l) (ivx w x) := by
  refine ⟨inW_of fun i hi => ?_, fun i e => ?_, fun i e => ?_⟩
  · rw [ivx_bit, inW_bits m.w hi, decide_eq_false (by omega)]; rfl
  · rw [ivx_bit] at e ⊢
    by_cases hi : i < w
    · rw [decide_eq_true hi] at e ⊢
      have := m.hi i
      cases q : ib x i <;> cases q' : ib h i <;> simp_all
    · rw [decide_eq_false hi, inW_bits k.ihi (by omega)] at e
      cases e
  · rw [ivx_bit] at e ⊢
    by_cases hi : i < w
    · rw [decide_eq_true hi] at e ⊢
      have := m.lo i
      cases q : ib x i <;> cases q' : ib l i <;> simp_all
    · rw [decide_eq_false hi, inW_bits m.w (by omega)] at e
      cases e
theorem msk_ivx {w : Nat} {l h : Int} (a : Msk w l h) : Msk w (ivx w h) (ivx w l) := by
  have m := mem_inv a.mlo a
  have m2 := mem_inv a.mhi a
  exact ⟨m2.w, m.w, fun i e => m.lo i e⟩
theorem inv_and' {w : Nat} {x y : Int} (hx : InW w x) (hy : InW w y) : ivx w (Builtin.bitAnd x y) = Builtin.bitOr (ivx w x) (ivx w y) := by
  apply ib_ext; intro i
  rw [ivx_bit, ib_or, ivx_bit, ivx_bit, ib_and]
  by_cases hi : i < w
  · rw [decide_eq_true hi]; cases ib x i <;> cases ib y i <;> rfl
  · rw [inW_bits hx (by omega), inW_bits hy (by omega), decide_eq_false hi]; rfl
theorem inv_or' {w : Nat} {x y : Int} (hx : InW w x) (hy : InW w y) : ivx w (Builtin.bitOr x y) = Builtin.bitAnd (ivx w x) (ivx w y) := by
  apply ib_ext; intro i
  rw [ivx_bit, ib_and, ivx_bit, ivx_bit, ib_or]
  by_cases hi : i < w
  · rw [decide_eq_true hi]; cases ib x i <;> cases ib y i <;> rfl
  · rw [inW_bits hx (by omega), inW_bits hy (by omega), decide_eq_false hi]; rfl
theorem inv_xor {w : Nat} {x y : Int} : Builtin.bitXor (ivx w x) (ivx w y) = Builtin.bitXor x y := by
  apply ib_ext; intro i
  rw [ib_xor (ivx w x) (ivx w y), ib_xor x y, ivx_bit, ivx_bit]
  cases decide (i < w) <;> cases ib x i <;> cases ib y i <;> rfl
theorem opn_inv {w : Nat} {l1 h1 l2 h2 : Int} : opn2 (ivx w h1) (ivx w l1) (ivx w h2) (ivx w l2) = opn2 l1 h1 l2 h2 := by
  apply ib_ext; intro i
  rw [opn2_bit, opn2_bit, ivx_bit, ivx_bit, ivx_bit, ivx_bit]
  cases decide (i < w) <;> cases ib l1 i <;> cases ib h1 i <;> cases ib l2 i <;> cases ib h2 i <;> rfl
theorem xor_inv {w : Nat} {l1 h1 l2 h2 : Int} (a : Msk w l1 h1) (b : Msk w l2 h2) :
    woLo (Builtin.bitXor (ivx w h1) (ivx w h2)) (opn2 (ivx w h1) (ivx w l1) (ivx w h2) (ivx w l2)) = woLo (Builtin.bitXor l1 l2) (opn2 l1 h1 l2 h2) := by
  rw [inv_xor, opn_inv]
  apply ib_ext; intro i
  unfold woLo
  rw [ib_and, ib_and, ib_not, opn2_bit, ib_xor, ib_xor]
  cases ib l1 i <;> cases ib h1 i <;> cases ib l2 i <;> cases ib h2 i <;> rfl
theorem xor_invH {w : Nat} {l1 h1 l2 h2 : Int} (a : Msk w l1 h1) (b : Msk w l2 h2) :
    woHi (Builtin.bitXor (ivx w h1) (ivx w h2)) (opn2 (ivx w h1) (ivx w l1) (ivx w h2) (ivx w l2)) = woHi (Builtin.bitXor l1 l2) (opn2 l1 h1 l2 h2) := by
  unfold woHi
  rw [xor_inv a b, opn_inv]

/-! ### + - neg -/
theorem add_comm' {w : Nat} {l1 h1 l2 h2 lo hi lo' hi' : Int} (n : Nar w (SAdd w l1 h1 l2 h2) lo hi) (n' : Nar w (SAdd w l2 h2 l1 h1) lo' hi') : lo = lo' ∧ hi = hi' :=
  n.uniq n' (.of fun z ⟨x, y, a, b, e⟩ => ⟨y, x, b, a, by omega⟩) (.of fun z ⟨x, y, a, b, e⟩ => ⟨y, x, b, a, by omega⟩)
theorem neg_neg' {w : Nat} {l1 h1 lo hi lo' hi' : Int} (a : Msk w l1 h1) (n : Nar w (SNeg w l1 h1) lo hi) (n' : Nar w (SNeg w lo hi) lo' hi') : Wtn l1 h1 lo' hi' := by
  refine a.nar.wtn n' fun x hx => ?_
  obtain ⟨q, e⟩ := md w (0 - x)
  exact ⟨0 - (0 - x) % 2 ^ w, ⟨_, n.mem ⟨x, hx, rfl⟩, rfl⟩, agr_of (q := q) (by rw [e]; omega)⟩
theorem add_sub' {w : Nat} {l1 h1 l2 h2 lo hi lo' hi' : Int} (a : Msk w l1 h1) (b : Msk w l2 h2) (n : Nar w (SAdd w l1 h1 l2 h2) lo hi) (n' : Nar w (SSub w lo hi l2 h2) lo' hi') : Wtn l1 h1 lo' hi' := by
  refine a.nar.wtn n' fun x hx => ?_
  obtain ⟨q, e⟩ := md w (x + l2)
  exact ⟨(x + l2) % 2 ^ w - l2, ⟨_, _, n.mem ⟨x, l2, hx, b.mlo, rfl⟩, b.mlo, rfl⟩, agr_of (q := -q) (by rw [e, Int.mul_neg]; omega)⟩
theorem sub_add' {w : Nat} {l1 h1 l2 h2 lo hi lo' hi' : Int} (a : Msk w l1 h1) (b : Msk w l2 h2) (n : Nar w (SSub w l1 h1 l2 h2) lo hi) (n' : Nar w (SAdd w lo hi l2 h2) lo' hi') : Wtn l1 h1 lo' hi' := by
  refine a.nar.wtn n' fun x hx => ?_
  obtain ⟨q, e⟩ := md w (x - l2)
  exact ⟨(x - l2) % 2 ^ w + l2, ⟨_, _, n.mem ⟨x, l2, hx, b.mlo, rfl⟩, b.mlo, rfl⟩, agr_of (q := -q) (by rw [e, Int.mul_neg]; omega)⟩

/-! ### sums of multiples -/
theorem ssum1 {w : Nat} {f l h n z : Int} : SSum w [(f, l, h)] n z ↔ ∃ x, Mem w l h x ∧ z = n + f * x := by
  constructor
  · rintro ⟨xs, hx, e⟩
    match xs, hx with
    | [x], hx => exact ⟨x, hx.1, by rw [e]; simp [dotf]⟩
  · rintro ⟨x, hx, e⟩
    exact ⟨[x], ⟨hx, trivial⟩, by rw [e]; simp [dotf]⟩
theorem ssum2 {w : Nat} {f l h g l' h' n z : Int} : SSum w [(f, l, h), (g, l', h')] n z ↔ ∃ x y, Mem w l h x ∧ Mem w l' h' y ∧ z = n + (f * x + g * y) := by
  constructor
  · rintro ⟨xs, hx, e⟩
    match xs, hx with
    | [x, y], hx => exact ⟨x, y, hx.1, hx.2.1, by rw [e]; simp [dotf]⟩
  · rintro ⟨x, y, hx, hy, e⟩
    exact ⟨[x, y], ⟨hx, hy, trivial⟩, by rw [e]; simp [dotf]⟩
theorem sub_sum1 {w : Nat} {l1 h1 l2 h2 lo hi lo' hi' : Int} (b : Msk w l2 h2) (n : Nar w (SSub w l1 h1 l2 h2) lo hi) (n' : Nar w (SSum w [(1, l1, h1), (1, ivx w h2, ivx w l2)] 1) lo' hi') : lo = lo' ∧ hi = hi' := by
  refine n.uniq n' (fun z ⟨x, y, hx, hy, e⟩ => ?_) fun z hz => ?_
  · refine ⟨_, ssum2.mpr ⟨x, ivx w y, hx, mem_inv hy b, rfl⟩, agr_of (q := 1) ?_⟩
    rw [ivx_eq hy.w]; omega
  · obtain ⟨x, y, hx, hy, e⟩ := ssum2.mp hz
    have k := mem_inv hy (msk_ivx b)
    rw [ivx_ivx, ivx_ivx] at k
    refine ⟨_, ⟨x, _, hx, k, rfl⟩, agr_of (q := -1) ?_⟩
    rw [ivx_eq hy.w]; omega
theorem sub_sum2 {w : Nat} {l1 h1 l2 h2 lo hi lo' hi' : Int} (n : Nar w (SSub w l1 h1 l2 h2) lo hi) (n' : Nar w (SSum w [(1, l1, h1), (-1, l2, h2)] 0) lo' hi') : lo = lo' ∧ hi = hi' := by
  refine n.uniq n' (fun z ⟨x, y, hx, hy, e⟩ => ⟨z, ssum2.mpr ⟨x, y, hx, hy, by omega⟩, Agr.refl _ _⟩) fun z hz => ?_
  obtain ⟨x, y, hx, hy, e⟩ := ssum2.mp hz
  exact ⟨z, ⟨x, y, hx, hy, by omega⟩, Agr.refl _ _⟩
theorem neg_sum {w : Nat} {l1 h1 lo hi lo' hi' : Int} (a : Msk w l1 h1) (n : Nar w (SNeg w l1 h1) lo hi) (n' : Nar w (SSum w [(1, ivx w h1, ivx w l1)] 1) lo' hi') : lo = lo' ∧ hi = hi' := by
  refine n.uniq n' (fun z ⟨x, hx, e⟩ => ?_) fun z hz => ?_
  · refine ⟨_, ssum1.mpr ⟨ivx w x, mem_inv hx a, rfl⟩, agr_of (q := 1) ?_⟩
    rw [ivx_eq hx.w]; omega
  · obtain ⟨x, hx, e⟩ := ssum1.mp hz
    have k := mem_inv hx (msk_ivx a)
    rw [ivx_ivx, ivx_ivx] at k
    refine ⟨_, ⟨_, k, rfl⟩, agr_of (q := -1) ?_⟩
    rw [ivx_eq hx.w]; omega
/-- a shift -/
theorem shl_nar {w s : Nat} {l h : Int} (a : Msk w l h) : Nar w (fun z => ∃ x, Mem w l h x ∧ z = x * 2 ^ s) (Builtin.bitAnd (l * 2 ^ s) (2 ^ w - 1)) (Builtin.bitAnd (h * 2 ^ s) (2 ^ w - 1)) := by
  have bit : ∀ x i, ib (Builtin.bitAnd (x * 2 ^ s) (2 ^ w - 1)) i = (ib (x * 2 ^ s) i && decide (i < w)) := fun x i => by rw [ib_and, ib_last]
  refine ⟨⟨_, l, a.mlo, rfl⟩, inW_of fun i hi => ?_, inW_of fun i hi => ?_, fun i hi => ?_, fun i hi => ?_⟩
  · rw [bit, decide_eq_false (by omega), Bool.and_false]
  · rw [bit, decide_eq_false (by omega), Bool.and_false]
  · rw [bit, decide_eq_true hi, Bool.and_true, ib_shl]
    constructor
    · rintro e z ⟨x, hx, rfl⟩
      obtain ⟨e1, e2⟩ := Bool.and_eq_true_iff.mp e
      rw [ib_shl, e1, hx.lo _ e2]; rfl
    · intro k
      have := k _ ⟨l, a.mlo, rfl⟩
      rw [ib_shl] at this
      exact this
  · rw [bit, decide_eq_true hi, Bool.and_true]
    constructor
    · intro e
      exact ⟨_, ⟨h, a.mhi, rfl⟩, e⟩
    · rintro ⟨z, ⟨x, hx, rfl⟩, e⟩
      rw [ib_shl] at e ⊢
      obtain ⟨e1, e2⟩ := Bool.and_eq_true_iff.mp e
      rw [e1, hx.hi _ e2]; rfl
theorem shl_sum {w s : Nat} {l h lo' hi' : Int} (a : Msk w l h) (n' : Nar w (SSum w [(2 ^ s, l, h)] 0) lo' hi') : Builtin.bitAnd (l * 2 ^ s) (2 ^ w - 1) = lo' ∧ Builtin.bitAnd (h * 2 ^ s) (2 ^ w - 1) = hi' := by
  refine (shl_nar (s := s) a).uniq n' (fun z ⟨x, hx, e⟩ => ⟨z, ssum1.mpr ⟨x, hx, by rw [e, Int.mul_comm]; omega⟩, Agr.refl _ _⟩) fun z hz => ?_
  obtain ⟨x, hx, e⟩ := ssum1.mp hz
  exact ⟨z, ⟨x, hx, by rw [e, Int.mul_comm]; omega⟩, Agr.refl _ _⟩
/-- multiples at once are within those by steps -/
theorem steps_wtn {w : Nat} {l1 h1 l2 h2 n a0 a1 b0 b1 c0 c1 d0 d1 e0 e1 f0 f1 : Int} (a : Msk w l1 h1) (b : Msk w l2 h2) (n0 : Nar w (SSum w [(3, l1, h1), (-2, l2, h2)] n) a0 a1)
    (n1 : Nar w (SAdd w l1 h1 l1 h1) b0 b1) (n2 : Nar w (SAdd w b0 b1 l1 h1) c0 c1) (n3 : Nar w (SSub w c0 c1 l2 h2) d0 d1) (n4 : Nar w (SSub w d0 d1 l2 h2) e0 e1)
    (n5 : Nar w (SAdd w e0 e1 (n % 2 ^ w) (n % 2 ^ w)) f0 f1) : Wtn a0 a1 f0 f1 := by
  refine n0.wtn n5 fun z hz => ?_
  obtain ⟨x, y, hx, hy, e⟩ := ssum2.mp hz
  obtain ⟨q1, h1'⟩ := md w (x + x)
  obtain ⟨q2, h2'⟩ := md w ((x + x) % 2 ^ w + x)
  obtain ⟨q3, h3'⟩ := md w (((x + x) % 2 ^ w + x) % 2 ^ w - y)
  obtain ⟨q4, h4'⟩ := md w ((((x + x) % 2 ^ w + x) % 2 ^ w - y) % 2 ^ w - y)
  obtain ⟨q5, h5'⟩ := md w n
  have m1 := n1.mem ⟨x, x, hx, hx, rfl⟩
  have m2 := n2.mem ⟨_, x, m1, hx, rfl⟩
  have m3 := n3.mem ⟨_, y, m2, hy, rfl⟩
  have m4 := n4.mem ⟨_, y, m3, hy, rfl⟩
  have mn : Mem w (n % 2 ^ w) (n % 2 ^ w) (n % 2 ^ w) := ⟨mod_inW n w, fun _ h => h, fun _ h => h⟩
  refine ⟨_, ⟨_, _, m4, mn, rfl⟩, agr_of (q := -(q1 + q2 + q3 + q4 + q5)) ?_⟩
  rw [Int.mul_neg, Int.mul_add, Int.mul_add, Int.mul_add, Int.mul_add]
  omega
theorem swap_sum {w : Nat} {f g l1 h1 l2 h2 n a0 a1 b0 b1 : Int} (n0 : Nar w (SSum w [(f, l1, h1), (g, l2, h2)] n) a0 a1) (n1 : Nar w (SSum w [(g, l2, h2), (f, l1, h1)] (n % 2 ^ w)) b0 b1) : a0 = b0 ∧ a1 = b1 := by
  obtain ⟨q, hq⟩ := md w n
  refine n0.uniq n1 (fun z hz => ?_) fun z hz => ?_
  · obtain ⟨x, y, hx, hy, e⟩ := ssum2.mp hz
    exact ⟨_, ssum2.mpr ⟨y, x, hy, hx, rfl⟩, agr_of (q := -q) (by rw [hq, Int.mul_neg]; omega)⟩
  · obtain ⟨x, y, hx, hy, e⟩ := ssum2.mp hz
    exact ⟨_, ssum2.mpr ⟨y, x, hy, hx, rfl⟩, agr_of (q := q) (by rw [hq] at e; omega)⟩
theorem negs_wtn {w : Nat} {f g l1 h1 l2 h2 n a0 a1 b0 b1 c0 c1 : Int} (n0 : Nar w (SSum w [(0 - f, l1, h1), (0 - g, l2, h2)] (0 - n)) a0 a1) (n1 : Nar w (SSum w [(f, l1, h1), (g, l2, h2)] n) b0 b1) (n2 : Nar w (SNeg w b0 b1) c0 c1) : Wtn a0 a1 c0 c1 := by
  refine n0.wtn n2 fun z hz => ?_
  obtain ⟨x, y, hx, hy, e⟩ := ssum2.mp hz
  obtain ⟨q, hq⟩ := md w (n + (f * x + g * y))
  refine ⟨_, ⟨_, n1.mem (ssum2.mpr ⟨x, y, hx, hy, rfl⟩), rfl⟩, agr_of (q := q) ?_⟩
  rw [hq, e, Int.sub_mul, Int.sub_mul]
  omega

/-! ### one bit wider -/
/-- the mask one bit wider, its highest bit open -/
theorem msk_wide {w : Nat} {l h : Int} (a : Msk w l h) : Msk (w + 1) l (Builtin.bitOr h (2 ^ w)) := by
  refine ⟨inW_of fun i hi => inW_bits a.ilo (by omega), inW_of fun i hi => ?_, fun i e => ?_⟩
  · rw [ib_or, inW_bits a.ihi (by omega), ib_pow, decide_eq_false (by omega)]; rfl
  · rw [ib_or, a.le i e]; rfl
theorem mem_up {w : Nat} {l h x : Int} (m : Mem w l h x) : Mem (w + 1) l (Builtin.bitOr h (2 ^ w)) x :=
  ⟨inW_of fun i hi => inW_bits m.w (by omega), m.lo, fun i e => by rw [ib_or, m.hi i e]; rfl⟩
theorem mem_down {w : Nat} {l h x : Int} (a : Msk w l h) (m : Mem (w + 1) l (Builtin.bitOr h (2 ^ w)) x) : Mem w l h (x % 2 ^ w) := by
  refine ⟨mod_inW x w, fun i e => ?_, fun i e => ?_⟩
  · have hi : i < w := by
      by_cases hi : i < w
      · exact hi
      · rw [inW_bits a.ilo (by omega)] at e; cases e
    rw [ib_mod, decide_eq_true hi, m.lo i e]; rfl
  · rw [ib_mod] at e
    obtain ⟨e1, e2⟩ := Bool.and_eq_true_iff.mp e
    have := m.hi i e2
    rw [ib_or, ib_pow, decide_eq_false (by have := of_decide_eq_true e1; omega), Bool.or_false] at this
    exact this
theorem low_of {w : Nat} {S S' : Int → Prop} {lo hi lo' hi' : Int} (n : Nar w S lo hi) (n' : Nar (w + 1) S' lo' hi') (h : Sub w S S') (h' : Sub w S' S) : lo = lo' % 2 ^ w ∧ hi = hi' % 2 ^ w := by
  refine n.uniq (S' := S') ⟨n'.ne, mod_inW _ _, mod_inW _ _, fun i hi => ?_, fun i hi => ?_⟩ h h'
  · rw [ib_mod, decide_eq_true hi, Bool.true_and]
    exact n'.lo i (by omega)
  · rw [ib_mod, decide_eq_true hi, Bool.true_and]
    exact n'.hi i (by omega)
theorem wide_add {w : Nat} {l1 h1 l2 h2 lo hi lo' hi' : Int} (a : Msk w l1 h1) (b : Msk w l2 h2) (n : Nar w (SAdd w l1 h1 l2 h2) lo hi) (n' : Nar (w + 1) (SAdd (w + 1) l1 (Builtin.bitOr h1 (2 ^ w)) l2 (Builtin.bitOr h2 (2 ^ w))) lo' hi') :
    lo = lo' % 2 ^ w ∧ hi = hi' % 2 ^ w := by
  refine low_of n n' (.of fun z ⟨x, y, hx, hy, e⟩ => ⟨x, y, mem_up hx, mem_up hy, e⟩) fun z ⟨x, y, hx, hy, e⟩ => ?_
  obtain ⟨p, hp⟩ := md w x
  obtain ⟨q, hq⟩ := md w y
  exact ⟨_, ⟨_, _, mem_down a hx, mem_down b hy, rfl⟩, agr_of (q := -(p + q)) (by rw [Int.mul_neg, Int.mul_add]; omega)⟩
theorem wide_sub {w : Nat} {l1 h1 l2 h2 lo hi lo' hi' : Int} (a : Msk w l1 h1) (b : Msk w l2 h2) (n : Nar w (SSub w l1 h1 l2 h2) lo hi) (n' : Nar (w + 1) (SSub (w + 1) l1 (Builtin.bitOr h1 (2 ^ w)) l2 (Builtin.bitOr h2 (2 ^ w))) lo' hi') :
    lo = lo' % 2 ^ w ∧ hi = hi' % 2 ^ w := by
  refine low_of n n' (.of fun z ⟨x, y, hx, hy, e⟩ => ⟨x, y, mem_up hx, mem_up hy, e⟩) fun z ⟨x, y, hx, hy, e⟩ => ?_
  obtain ⟨p, hp⟩ := md w x
  obtain ⟨q, hq⟩ := md w y
  exact ⟨_, ⟨_, _, mem_down a hx, mem_down b hy, rfl⟩, agr_of (q := q - p) (by rw [Int.mul_sub]; omega)⟩
theorem wide_neg {w : Nat} {l1 h1 lo hi lo' hi' : Int} (a : Msk w l1 h1) (n : Nar w (SNeg w l1 h1) lo hi) (n' : Nar (w + 1) (SNeg (w + 1) l1 (Builtin.bitOr h1 (2 ^ w))) lo' hi') : lo = lo' % 2 ^ w ∧ hi = hi' % 2 ^ w := by
  refine low_of n n' (.of fun z ⟨x, hx, e⟩ => ⟨x, mem_up hx, e⟩) fun z ⟨x, hx, e⟩ => ?_
  obtain ⟨p, hp⟩ := md w x
  exact ⟨_, ⟨_, mem_down a hx, rfl⟩, agr_of (q := p) (by omega)⟩
theorem wide_sum {w : Nat} {f g l1 h1 l2 h2 n lo hi lo' hi' : Int} (a : Msk w l1 h1) (b : Msk w l2 h2) (n0 : Nar w (SSum w [(f, l1, h1), (g, l2, h2)] n) lo hi)
    (n' : Nar (w + 1) (SSum (w + 1) [(f, l1, Builtin.bitOr h1 (2 ^ w)), (g, l2, Builtin.bitOr h2 (2 ^ w))] n) lo' hi') : lo = lo' % 2 ^ w ∧ hi = hi' % 2 ^ w := by
  refine low_of n0 n' (fun z hz => ?_) fun z hz => ?_
  · obtain ⟨x, y, hx, hy, e⟩ := ssum2.mp hz
    exact ⟨z, ssum2.mpr ⟨x, y, mem_up hx, mem_up hy, e⟩, Agr.refl _ _⟩
  · obtain ⟨x, y, hx, hy, e⟩ := ssum2.mp hz
    obtain ⟨p, hp⟩ := md w x
    obtain ⟨q, hq⟩ := md w y
    refine ⟨_, ssum2.mpr ⟨_, _, mem_down a hx, mem_down b hy, rfl⟩, agr_of (q := -(f * p + g * q)) ?_⟩
    rw [e, hp, hq, Int.mul_sub, Int.mul_sub, Int.mul_neg, Int.mul_add]
    have e1 : f * (2 ^ w * p) = 2 ^ w * (f * p) := Int.mul_left_comm ..
    have e2 : g * (2 ^ w * q) = 2 ^ w * (g * q) := Int.mul_left_comm ..
    omega
theorem wide_and {w : Nat} {l1 h1 l2 h2 : Int} (a : Msk w l1 h1) (b : Msk w l2 h2) :
    Builtin.bitAnd l1 l2 = Builtin.bitAnd l1 l2 % 2 ^ w ∧ Builtin.bitAnd h1 h2 = Builtin.bitAnd (Builtin.bitOr h1 (2 ^ w)) (Builtin.bitOr h2 (2 ^ w)) % 2 ^ w := by
  constructor
  · apply ib_ext; intro i
    rw [ib_mod, ib_and]
    by_cases hi : i < w
    · rw [decide_eq_true hi, Bool.true_and]
    · rw [inW_bits a.ilo (by omega), decide_eq_false hi]; rfl
  · apply ib_ext; intro i
    rw [ib_mod, ib_and, ib_and, ib_or, ib_or, ib_pow]
    by_cases hi : i < w
    · rw [decide_eq_true hi, decide_eq_false (show ¬ w = i by omega), Bool.true_and, Bool.or_false, Bool.or_false]
    · rw [inW_bits a.ihi (by omega), decide_eq_false hi]; rfl

/-! ### unions, common masks -/
theorem uni_l {l1 h1 l2 h2 : Int} : Wtn l1 h1 (Builtin.bitAnd l1 l2) (Builtin.bitOr h1 h2) :=
  wtn_of (fun i e => by rw [ib_and] at e; exact (Bool.and_eq_true_iff.mp e).1) fun i e => by rw [ib_or, e]; rfl
theorem uni_r {l1 h1 l2 h2 : Int} : Wtn l2 h2 (Builtin.bitAnd l1 l2) (Builtin.bitOr h1 h2) :=
  wtn_of (fun i e => by rw [ib_and] at e; exact (Bool.and_eq_true_iff.mp e).2) fun i e => by rw [ib_or, e, Bool.or_true]
theorem and_comm' (x y : Int) : Builtin.bitAnd x y = Builtin.bitAnd y x := by apply ib_ext; intro i; rw [ib_and, ib_and, Bool.and_comm]
theorem or_comm' (x y : Int) : Builtin.bitOr x y = Builtin.bitOr y x := by apply ib_ext; intro i; rw [ib_or, ib_or, Bool.or_comm]
theorem and_assoc' (x y z : Int) : Builtin.bitAnd (Builtin.bitAnd x y) z = Builtin.bitAnd x (Builtin.bitAnd y z) := by apply ib_ext; intro i; rw [ib_and, ib_and, ib_and, ib_and, Bool.and_assoc]
theorem or_assoc' (x y z : Int) : Builtin.bitOr (Builtin.bitOr x y) z = Builtin.bitOr x (Builtin.bitOr y z) := by apply ib_ext; intro i; rw [ib_or, ib_or, ib_or, ib_or, Bool.or_assoc]
theorem uni_wtn {l1 h1 l2 h2 l3 h3 : Int} (a : Wtn l1 h1 l3 h3) (b : Wtn l2 h2 l3 h3) : Wtn (Builtin.bitAnd l1 l2) (Builtin.bitOr h1 h2) l3 h3 := by
  obtain ⟨a1, a2⟩ := wtn_iff.mp a
  obtain ⟨b1, b2⟩ := wtn_iff.mp b
  refine wtn_of (fun i e => by rw [ib_and, a1 i e, b1 i e]; rfl) fun i e => ?_
  rw [ib_or] at e
  rcases Bool.or_eq_true_iff.mp e with e | e
  · exact a2 i e
  · exact b2 i e
theorem com_l {l1 h1 l2 h2 : Int} : Wtn (Builtin.bitOr l1 l2) (Builtin.bitAnd h1 h2) l1 h1 :=
  wtn_of (fun i e => by rw [ib_or, e]; rfl) fun i e => by rw [ib_and] at e; exact (Bool.and_eq_true_iff.mp e).1
theorem com_r {l1 h1 l2 h2 : Int} : Wtn (Builtin.bitOr l1 l2) (Builtin.bitAnd h1 h2) l2 h2 :=
  wtn_of (fun i e => by rw [ib_or, e, Bool.or_true]) fun i e => by rw [ib_and] at e; exact (Bool.and_eq_true_iff.mp e).2
/-- a common member -/
theorem com_mem {w : Nat} {l1 h1 l2 h2 x : Int} (a : Mem w l1 h1 x) (b : Mem w l2 h2 x) : Mem w (Builtin.bitOr l1 l2) (Builtin.bitAnd h1 h2) x := by
  refine ⟨a.w, fun i e => ?_, fun i e => by rw [ib_and, a.hi i e, b.hi i e]; rfl⟩
  rw [ib_or] at e
  rcases Bool.or_eq_true_iff.mp e with e | e
  · exact a.lo i e
  · exact b.lo i e
theorem com_parts {w : Nat} {l1 h1 l2 h2 x : Int} (m : Mem w (Builtin.bitOr l1 l2) (Builtin.bitAnd h1 h2) x) : Mem w l1 h1 x ∧ Mem w l2 h2 x :=
  ⟨⟨m.w, fun i e => m.lo i (by rw [ib_or, e]; rfl), fun i e => by have := m.hi i e; rw [ib_and] at this; exact (Bool.and_eq_true_iff.mp this).1⟩,
   ⟨m.w, fun i e => m.lo i (by rw [ib_or, e, Bool.or_true]), fun i e => by have := m.hi i e; rw [ib_and] at this; exact (Bool.and_eq_true_iff.mp this).2⟩⟩
/-- the sums of a common mask are within both sums -/
theorem com_sum {w : Nat} {l1 h1 l2 h2 l3 h3 a0 a1 b0 b1 c0 c1 : Int} (m : Msk w (Builtin.bitOr l1 l2) (Builtin.bitAnd h1 h2)) (n1 : Nar w (SAdd w l1 h1 l3 h3) a0 a1) (n2 : Nar w (SAdd w l2 h2 l3 h3) b0 b1)
    (n : Nar w (SAdd w (Builtin.bitOr l1 l2) (Builtin.bitAnd h1 h2) l3 h3) c0 c1) : (∀ i, ib (Builtin.bitOr a0 b0) i = true → ib c0 i = true) ∧ ∀ i, ib c1 i = true → ib (Builtin.bitAnd a1 b1) i = true := by
  have s1 := n.le n1 (.of fun z ⟨x, y, hx, hy, e⟩ => ⟨x, y, (com_parts hx).1, hy, e⟩)
  have s2 := n.le n2 (.of fun z ⟨x, y, hx, hy, e⟩ => ⟨x, y, (com_parts hx).2, hy, e⟩)
  refine ⟨fun i e => ?_, fun i e => by rw [ib_and, s1.2 i e, s2.2 i e]; rfl⟩
  rw [ib_or] at e
  rcases Bool.or_eq_true_iff.mp e with e | e
  · exact s1.1 i e
  · exact s2.1 i e
theorem apart_iff {l1 h1 l2 h2 : Int} : Builtin.bitAnd (Builtin.bitOr l1 l2) (Builtin.bitNot (Builtin.bitAnd h1 h2)) = 0 ↔ ∀ i, ib (Builtin.bitOr l1 l2) i = true → ib (Builtin.bitAnd h1 h2) i = true := by
  constructor
  · intro z i e
    have q : ib (Builtin.bitAnd (Builtin.bitOr l1 l2) (Builtin.bitNot (Builtin.bitAnd h1 h2))) i = false := by rw [z, ib_zero]
    rw [ib_and, e, ib_not] at q
    cases r : ib (Builtin.bitAnd h1 h2) i with
    | true => rfl
    | false => rw [r] at q; cases q
  · intro k
    apply ib_ext; intro i
    rw [ib_and, ib_not, ib_zero]
    cases q : ib (Builtin.bitOr l1 l2) i with
    | false => rfl
    | true => rw [k i q]; rfl
theorem apart_inv {w : Nat} {l1 h1 l2 h2 : Int} (a : Msk w l1 h1) (b : Msk w l2 h2) : Builtin.bitAnd (Builtin.bitOr (ivx w h1) (ivx w h2)) (Builtin.bitNot (Builtin.bitAnd (ivx w l1) (ivx w l2))) = 0 ↔
    Builtin.bitAnd (Builtin.bitOr l1 l2) (Builtin.bitNot (Builtin.bitAnd h1 h2)) = 0 := by
  rw [apart_iff, apart_iff, ← inv_and' a.ihi b.ihi, ← inv_or' a.ilo b.ilo]
  have key : ∀ i, i < w ∨ (ib (Builtin.bitOr l1 l2) i = false ∧ ib (Builtin.bitAnd h1 h2) i = false) := fun i => by
    by_cases hi : i < w
    · exact .inl hi
    · exact .inr ⟨by rw [ib_or, inW_bits a.ilo (by omega), inW_bits b.ilo (by omega)]; rfl, by rw [ib_and, inW_bits a.ihi (by omega)]; rfl⟩
  constructor
  · intro k i e
    rcases key i with hi | ⟨z1, z2⟩
    · have := k i
      rw [ivx_bit, ivx_bit, decide_eq_true hi] at this
      cases q : ib (Builtin.bitAnd h1 h2) i with
      | true => rfl
      | false => rw [q, e] at this; simp at this
    · rw [z1] at e; cases e
  · intro k i e
    rw [ivx_bit] at e ⊢
    rcases key i with hi | ⟨z1, z2⟩
    · rw [decide_eq_true hi] at e ⊢
      have := k i
      cases q : ib (Builtin.bitOr l1 l2) i with
      | false => rfl
      | true => rw [this q] at e; simp at e
    · rw [z2] at e
      rw [z1]; exact e
theorem apart_comm {l1 h1 l2 h2 : Int} : Builtin.bitAnd (Builtin.bitOr l2 l1) (Builtin.bitNot (Builtin.bitAnd h2 h1)) = Builtin.bitAnd (Builtin.bitOr l1 l2) (Builtin.bitNot (Builtin.bitAnd h1 h2)) := by
  rw [or_comm' l2 l1, and_comm' h2 h1]
end WA


set_option Elab.async false
set_option linter.all false
set_option maxRecDepth 100000
set_option maxHeartbeats 8000000
/-! K12Signs: _law_signs_right. -/
namespace WP
open PySem PySem.Spec PyProof.Rows L2 WA WR

theorem iv_iv (w : Nat) (x : Int) : iv w (iv w x) = x := ivx_ivx w x
theorem tmA1 {K : PySem.W.Frag} {C : Addr} {H : Hp} {t p m : Addr} {w : Nat} {f l h : Int} (ht : SqT K H t [.ref p]) (hp : SqT K H p [.int f, .ref m]) (i : IsM C H m w l h) : TmA K C H t w [(f, l, h)] :=
  ⟨_, ht, ⟨p, m, rfl, hp, i⟩, trivial⟩
theorem tmA2 {K : PySem.W.Frag} {C : Addr} {H : Hp} {t p m q o : Addr} {w : Nat} {f l h g l' h' : Int} (ht : SqT K H t [.ref p, .ref q]) (hp : SqT K H p [.int f, .ref m]) (i : IsM C H m w l h) (hq : SqT K H q [.int g, .ref o]) (j : IsM C H o w l' h') :
    TmA K C H t w [(f, l, h), (g, l', h')] := ⟨_, ht, ⟨p, m, rfl, hp, i⟩, ⟨q, o, rfl, hq, j⟩, trivial⟩
theorem small1 {f l h : Int} (a : -500 ≤ f) (b : f ≤ 500) : Small [(f, l, h)] := by
  refine ⟨by simp, by simp, ?_⟩
  simp only [fpos, fneg]
  split <;> omega
theorem small2 {f l h g l' h' : Int} (a : -500 ≤ f) (b : f ≤ 500) (c : -500 ≤ g) (d : g ≤ 500) : Small [(f, l, h), (g, l', h')] := by
  refine ⟨by simp, by simp, ?_⟩
  simp only [fpos, fneg]
  split <;> split <;> omega
theorem two_sz : 2 ≤ sizeLine := by decide
theorem one_sz : 1 ≤ sizeLine := by decide

def spSigns (C : Addr) : Sp := fun vs H Q _ => ∃ a b w l1 h1 l2 h2, vs = [.ref a, .ref b] ∧ IsM C H a w l1 h1 ∧ IsM C H b w l2 h2 ∧ ∀ H', Same H H' → Q (.bl true) H'

section
variable {P : Program} {w : World} {K : PySem.W.Frag} {mg : Str → Option Value} {base : Heap} {C f : Addr} {fd : FuncData}
theorem ok_signs (F : Fun K "_law_signs_right" "_law_signs_right" (top 41) f fd) (T : Txt K mg C)
    (m_inv : Mt P w K mg base C 5 "__invert__" (sp1 (rInv C))) (m_neg : Mt P w K mg base C 7 "__neg__" (sp1 (rNeg C))) (m_add : Mt P w K mg base C 7 "__add__" (sp2 (rNN C SAdd))) (m_sub : Mt P w K mg base C 7 "__sub__" (sp2 (rNN C SSub)))
    (m_and : Mt P w K mg base C 5 "__and__" (sp2 (rMM C fAnd gAnd))) (m_or : Mt P w K mg base C 5 "__or__" (sp2 (rMM C fOr gOr))) (m_xor : Mt P w K mg base C 6 "__xor__" (sp2 (rMM C fXor gXor))) (m_eq : Mt P w K mg base C 1 "__eq__" (sp2 (rEqM C)))
    (m_is_within : Mt P w K mg base C 2 "is_within" (sp2 (rWtn C))) (g_sum_mask : Cl P w K mg base 6 "sum_mask" (spSum K C)) : FnOk P w K mg base CX0 8 f fd ["_law_one_here", "_law_other"] (spSigns C) := by
  have sc : FnScope ["_law_one_here", "_law_other", "_law_rest"] ["_law_one_here", "_law_other"] (defScope (top 41)) := ⟨rfl, rfl, rfl, by decide +kernel, rfl, by decide +kernel, by decide +kernel⟩
  refine F.ok sc (fun vs H Q E h => ?_) (fun cdv A outer s H vs Q E hr h => ?_)
  · obtain ⟨a, b, n, l1, h1, l2, h2, rfl, _⟩ := h
    rfl
  · obtain ⟨a, b, n, l1, h1, l2, h2, rfl, ma, mb, k⟩ := h
    have ka := ma.msk
    have kb := mb.msk
    refine ⟨_, (pss_cons (ps_if (PW.pt (pw_or (pt_cmpR (op_ne' m_eq T hr (by decide)) (pe_un (un_inv' m_inv hr (by decide)) (pe_un (un_inv' m_inv hr (by decide)) (pv 0))) (pv 0) (nomark _)) (pw_or (pt_cmpR (op_ne' m_eq T hr (by decide)) (pe_op (op_add' m_add T hr (by decide)) (pv 0) (pv 1)) (pe_op (op_add' m_add T hr (by decide)) (pv 1) (pv 0)) (nomark _)) (pw_or1 (pt_cmpR (op_ne' m_eq T hr (by decide)) (pe_un (un_inv' m_inv hr (by decide)) (pe_op (op_and' m_and T hr (by decide)) (pv 0) (pv 1))) (pe_op (op_or' m_or T hr (by decide)) (pe_un (un_inv' m_inv hr (by decide)) (pv 0)) (pe_un (un_inv' m_inv hr (by decide)) (pv 1))) (nomark _)))))) (pss_one (ps_ret pe_bl)) pss_nil)
      (pss_cons (ps_if (pt_not (pt_val (pe_m2 (pv 0) T m_is_within hr (by decide) (pa_cons (pe_un (un_neg' m_neg hr (by decide)) (pe_un (un_neg' m_neg hr (by decide)) (pv 0))) pa_nil)))) (pss_one (ps_ret pe_bl)) pss_nil)
      (pss_cons (ps_set (i := 2) sc.nd rfl (Or.inl rfl) (pe_op (op_sub' m_sub T hr (by decide)) (pv 0) (pv 1)))
      (pss_cons (ps_if (PW.pt (pw_or (pt_cmpR (op_ne' m_eq T hr (by decide)) (pv 2) (pe_cl g_sum_mask hr (by decide) rfl (pa_cons (pe_tup (pa_cons (pe_tup (pa_cons pe_int (pa_cons (pv 0) pa_nil))) (pa_cons (pe_tup (pa_cons pe_int (pa_cons (pe_un (un_inv' m_inv hr (by decide)) (pv 1)) pa_nil))) pa_nil))) (pa_cons pe_int pa_nil))) (nomark _)) (pw_or1 (pt_cmpR (op_ne' m_eq T hr (by decide)) (pv 2) (pe_cl g_sum_mask hr (by decide) rfl (pa_cons (pe_tup (pa_cons (pe_tup (pa_cons pe_int (pa_cons (pv 0) pa_nil))) (pa_cons (pe_tup (pa_cons (pe_un un_neg pe_int) (pa_cons (pv 1) pa_nil))) pa_nil))) (pa_cons pe_int pa_nil))) (nomark _))))) (pss_one (ps_ret pe_bl)) pss_nil)
      (pss_cons (ps_if (PW.pt (pw_or (pt_cmpR (op_ne' m_eq T hr (by decide)) (pe_un (un_neg' m_neg hr (by decide)) (pv 0)) (pe_cl g_sum_mask hr (by decide) rfl (pa_cons (pe_tup (pa_cons (pe_tup (pa_cons pe_int (pa_cons (pe_un (un_inv' m_inv hr (by decide)) (pv 0)) pa_nil))) pa_nil)) (pa_cons pe_int pa_nil))) (nomark _)) (pw_or1 (pt_cmpR (op_ne' m_eq T hr (by decide)) (pe_op (op_xor' m_xor T hr (by decide)) (pv 0) (pv 1)) (pe_op (op_xor' m_xor T hr (by decide)) (pe_un (un_inv' m_inv hr (by decide)) (pv 0)) (pe_un (un_inv' m_inv hr (by decide)) (pv 1))) (nomark _))))) (pss_one (ps_ret pe_bl)) pss_nil)
      (pss_one (ps_ret (pe_and (pe_m2 (pv 0) T m_is_within hr (by decide) (pa_cons (pe_op (op_sub' m_sub T hr (by decide)) (pe_op (op_add' m_add T hr (by decide)) (pv 0) (pv 1)) (pv 1)) pa_nil)) (pe_one (pe_m2 (pv 0) T m_is_within hr (by decide) (pa_cons (pe_op (op_add' m_add T hr (by decide)) (pe_op (op_sub' m_sub T hr (by decide)) (pv 0) (pv 1)) (pv 1)) pa_nil))))))))))), ?_⟩
    -- ~~one != one
    refine ⟨_, rfl, a, n, l1, h1, rfl, ma, fun p1 H1 s1 m1 => ⟨p1, n, _, _, rfl, m1, fun p2 H2 s2 m2 => ?_⟩⟩
    have S2 : Same H H2 := Same.trans s1 s2
    rw [iv_iv, iv_iv] at m2
    refine ⟨_, rfl, p2, a, n, l1, h1, rfl, rfl, m2, ma.mono S2, false, rfl, iteF ?_⟩
    -- one + other != other + one
    refine ⟨_, rfl, _, rfl, a, b, n, l1, h1, l2, h2, rfl, rfl, ma.mono S2, mb.mono S2, fun p3 H3 lo3 hi3 s3 m3 n3 => ?_⟩
    have S3 := Same.trans S2 s3
    refine ⟨_, rfl, _, rfl, b, a, n, l2, h2, l1, h1, rfl, rfl, mb.mono S3, ma.mono S3, fun p4 H4 lo4 hi4 s4 m4 n4 => ?_⟩
    have S4 := Same.trans S3 s4
    obtain ⟨rfl, rfl⟩ := add_comm' n3 n4
    refine ⟨p3, p4, n, _, _, rfl, rfl, m3.mono s4, m4, false, rfl, iteF ?_⟩
    -- ~(one & other) != ~one | ~other
    refine ⟨_, rfl, _, rfl, a, b, n, l1, h1, l2, h2, rfl, rfl, ma.mono S4, mb.mono S4, fun p5 H5 s5 m5 => ⟨p5, n, _, _, rfl, m5, fun p6 H6 s6 m6 => ?_⟩⟩
    have S6 := Same.trans S4 (Same.trans s5 s6)
    refine ⟨_, rfl, a, n, l1, h1, rfl, ma.mono S6, fun p7 H7 s7 m7 => ?_⟩
    have S7 := Same.trans S6 s7
    refine ⟨_, rfl, b, n, l2, h2, rfl, mb.mono S7, fun p8 H8 s8 m8 => ⟨p7, p8, n, _, _, _, _, rfl, rfl, m7.mono s8, m8, fun p9 H9 s9 m9 => ?_⟩⟩
    have S9 := Same.trans S7 (Same.trans s8 s9)
    have m6' := m6.mono (Same.trans s7 (Same.trans s8 s9))
    rw [show iv n (gAnd l1 h1 l2 h2) = Builtin.bitOr (iv n h1) (iv n h2) from inv_and' ka.ihi kb.ihi, show iv n (fAnd l1 h1 l2 h2) = Builtin.bitOr (iv n l1) (iv n l2) from inv_and' ka.ilo kb.ilo] at m6'
    refine ⟨p6, p9, n, _, _, rfl, rfl, m6', m9, false, rfl, iteF ?_⟩
    -- one.is_within(--one)
    refine ⟨_, rfl, ⟨a, n, l1, h1, rfl, ma.mono S9⟩, _, rfl, a, n, l1, h1, rfl, ma.mono S9, fun p10 H10 lo10 hi10 s10 m10 n10 => ⟨p10, n, lo10, hi10, rfl, m10, fun p11 H11 lo11 hi11 s11 m11 n11 => ?_⟩⟩
    have S11 := Same.trans S9 (Same.trans s10 s11)
    refine ⟨_, rfl, a, p11, n, l1, h1, lo11, hi11, rfl, rfl, ma.mono S11, m11, fun c hc => ⟨c, rfl, ?_⟩⟩
    have ec : c = true := hc.mpr (neg_neg' ka n10 n11)
    subst ec
    refine iteF ?_
    -- rest = one - other
    refine ⟨_, rfl, _, rfl, a, b, n, l1, h1, l2, h2, rfl, rfl, ma.mono S11, mb.mono S11, fun rest H12 lo12 hi12 s12 m12 n12 => ?_⟩
    have S12 := Same.trans S11 s12
    -- rest != sum_mask(((1, one), (1, ~other)), 1)
    refine ⟨_, rfl, _, rfl, two_sz, fun q1 hq1 => ?_⟩
    have g1 := G.upd (o := .tup [.int 1, .ref a]) hq1
    refine ⟨_, rfl, b, n, l2, h2, rfl, mb.mono (Same.trans S12 g1), fun p13 H13 s13 m13 => ⟨two_sz, fun q2 hq2 => ?_⟩⟩
    have g2 := G.upd (o := .tup [.int 1, .ref p13]) hq2
    refine ⟨two_sz, fun q3 hq3 => ?_⟩
    have g3 := G.upd (o := .tup [.ref q1, .ref q2]) hq3
    have S13 := Same.trans S12 (Same.trans g1 (Same.trans s13 (Same.trans g2 g3)))
    refine ⟨q3, 1, n, [(1, l1, h1), (1, iv n h2, iv n l2)], rfl, tmA2 (SqT.of upd_same) (G.sqT (Same.trans s13 (Same.trans g2 g3)) (SqT.of upd_same)) (ma.mono S13) (G.sqT g3 (SqT.of upd_same)) (m13.mono (Same.trans g2 g3)), small2 (by decide) (by decide) (by decide) (by decide), fun p14 H14 lo14 hi14 s14 m14 n14 => ?_⟩
    have S14 := Same.trans S13 s14
    have t14 := Same.trans (Same.trans g1 (Same.trans s13 (Same.trans g2 g3))) s14
    obtain ⟨rfl, rfl⟩ := sub_sum1 kb n12 n14
    refine ⟨rest, p14, n, _, _, rfl, rfl, m12.mono t14, m14, false, rfl, iteF ?_⟩
    -- rest != sum_mask(((1, one), (-1, other)), 0)
    refine ⟨_, rfl, _, rfl, two_sz, fun q4 hq4 => ?_⟩
    have g4 := G.upd (o := .tup [.int 1, .ref a]) hq4
    refine ⟨_, rfl, _, rfl, two_sz, fun q5 hq5 => ?_⟩
    have g5 := G.upd (o := .tup [.int (-1), .ref b]) hq5
    refine ⟨two_sz, fun q6 hq6 => ?_⟩
    have g6 := G.upd (o := .tup [.ref q4, .ref q5]) hq6
    have t15 := Same.trans g4 (Same.trans g5 g6)
    have S15 := Same.trans S14 t15
    refine ⟨q6, 0, n, [(1, l1, h1), (-1, l2, h2)], rfl, tmA2 (SqT.of upd_same) (G.sqT (Same.trans g5 g6) (SqT.of upd_same)) (ma.mono S15) (G.sqT g6 (SqT.of upd_same)) (mb.mono S15), small2 (by decide) (by decide) (by decide) (by decide), fun p16 H16 lo16 hi16 s16 m16 n16 => ?_⟩
    have S16 := Same.trans S15 s16
    obtain ⟨rfl, rfl⟩ := sub_sum2 n12 n16
    refine ⟨rest, p16, n, _, _, rfl, rfl, m12.mono (Same.trans t14 (Same.trans t15 s16)), m16, false, rfl, iteF ?_⟩
    -- -one != sum_mask(((1, ~one),), 1)
    refine ⟨_, rfl, a, n, l1, h1, rfl, ma.mono S16, fun p17 H17 lo17 hi17 s17 m17 n17 => ?_⟩
    have S17 := Same.trans S16 s17
    refine ⟨_, rfl, a, n, l1, h1, rfl, ma.mono S17, fun p18 H18 s18 m18 => ⟨two_sz, fun q7 hq7 => ?_⟩⟩
    have g7 := G.upd (o := .tup [.int 1, .ref p18]) hq7
    refine ⟨one_sz, fun q8 hq8 => ?_⟩
    have g8 := G.upd (o := .tup [.ref q7]) hq8
    refine ⟨q8, 1, n, [(1, iv n h1, iv n l1)], rfl, tmA1 (SqT.of upd_same) (G.sqT g8 (SqT.of upd_same)) (m18.mono (Same.trans g7 g8)), small1 (by decide) (by decide), fun p19 H19 lo19 hi19 s19 m19 n19 => ?_⟩
    have t19 := Same.trans s18 (Same.trans g7 (Same.trans g8 s19))
    have S19 := Same.trans S17 t19
    obtain ⟨rfl, rfl⟩ := neg_sum ka n17 n19
    refine ⟨p17, p19, n, _, _, rfl, rfl, m17.mono t19, m19, false, rfl, iteF ?_⟩
    -- one ^ other != ~one ^ ~other
    refine ⟨_, rfl, _, rfl, a, b, n, l1, h1, l2, h2, rfl, rfl, ma.mono S19, mb.mono S19, fun p20 H20 s20 m20 => ?_⟩
    have S20 := Same.trans S19 s20
    refine ⟨_, rfl, a, n, l1, h1, rfl, ma.mono S20, fun p21 H21 s21 m21 => ?_⟩
    have S21 := Same.trans S20 s21
    refine ⟨_, rfl, b, n, l2, h2, rfl, mb.mono S21, fun p22 H22 s22 m22 => ⟨p21, p22, n, _, _, _, _, rfl, rfl, m21.mono s22, m22, fun p23 H23 s23 m23 => ?_⟩⟩
    have t23 := Same.trans s21 (Same.trans s22 s23)
    have S23 := Same.trans S20 t23
    rw [show fXor (iv n h1) (iv n l1) (iv n h2) (iv n l2) = fXor l1 h1 l2 h2 from xor_inv ka kb, show gXor (iv n h1) (iv n l1) (iv n h2) (iv n l2) = gXor l1 h1 l2 h2 from xor_invH ka kb] at m23
    refine ⟨p20, p23, n, _, _, rfl, rfl, m20.mono t23, m23, false, rfl, iteF ?_⟩
    -- one.is_within(one + other - other) and one.is_within(one - other + other)
    refine ⟨_, rfl, ⟨a, n, l1, h1, rfl, ma.mono S23⟩, _, rfl, _, rfl, a, b, n, l1, h1, l2, h2, rfl, rfl, ma.mono S23, mb.mono S23, fun p24 H24 lo24 hi24 s24 m24 n24 => ?_⟩
    have S24 := Same.trans S23 s24
    refine ⟨_, rfl, p24, b, n, lo24, hi24, l2, h2, rfl, rfl, m24, mb.mono S24, fun p25 H25 lo25 hi25 s25 m25 n25 => ?_⟩
    have S25 := Same.trans S24 s25
    refine ⟨_, rfl, a, p25, n, l1, h1, lo25, hi25, rfl, rfl, ma.mono S25, m25, fun c hc => ⟨c, rfl, ?_⟩⟩
    have ec : c = true := hc.mpr (add_sub' ka kb n24 n25)
    subst ec
    refine iteT ?_
    refine ⟨_, rfl, ⟨a, n, l1, h1, rfl, ma.mono S25⟩, _, rfl, _, rfl, a, b, n, l1, h1, l2, h2, rfl, rfl, ma.mono S25, mb.mono S25, fun p26 H26 lo26 hi26 s26 m26 n26 => ?_⟩
    have S26 := Same.trans S25 s26
    refine ⟨_, rfl, p26, b, n, lo26, hi26, l2, h2, rfl, rfl, m26, mb.mono S26, fun p27 H27 lo27 hi27 s27 m27 n27 => ?_⟩
    have S27 := Same.trans S26 s27
    refine ⟨_, rfl, a, p27, n, l1, h1, lo27, hi27, rfl, rfl, ma.mono S27, m27, fun c hc => ?_⟩
    have ec : c = true := hc.mpr (sub_add' ka kb n26 n27)
    subst ec
    exact k _ S27
end
end WP


set_option Elab.async false
set_option linter.all false
set_option maxRecDepth 100000
set_option maxHeartbeats 8000000
/-! K13Sets: _law_sets_right. -/
namespace WP
open PySem PySem.Spec PyProof.Rows L2 WA WR

theorem com_split {C : Addr} {w : Nat} {l1 h1 l2 h2 : Int} {H1 : Hp} {X : V → Hp → Prop}
    (h : ∀ vb H2, Same H1 H2 → ((vb = .non ∧ apart l1 h1 l2 h2) ∨ (¬ apart l1 h1 l2 h2 ∧ ∃ p, vb = .ref p ∧ IsM C H2 p w (Builtin.bitOr l1 l2) (Builtin.bitAnd h1 h2))) → X vb H2) :
    (¬ apart l1 h1 l2 h2 → NewM C w (Builtin.bitOr l1 l2) (Builtin.bitAnd h1 h2) H1 X) ∧ (apart l1 h1 l2 h2 → X .non H1) :=
  ⟨fun z p H2 s m => h _ _ s (.inr ⟨z, p, rfl, m⟩), fun z => h _ _ (Same.refl _) (.inl ⟨rfl, z⟩)⟩
theorem com_no {C : Addr} {w : Nat} {l1 h1 l2 h2 : Int} {H1 : Hp} {X : V → Hp → Prop} (z : apart l1 h1 l2 h2) (h : X .non H1) :
    (¬ apart l1 h1 l2 h2 → NewM C w (Builtin.bitOr l1 l2) (Builtin.bitAnd h1 h2) H1 X) ∧ (apart l1 h1 l2 h2 → X .non H1) := ⟨fun n => (n z).elim, fun _ => h⟩
theorem com_yes {C : Addr} {w : Nat} {l1 h1 l2 h2 : Int} {H1 : Hp} {X : V → Hp → Prop} (z : ¬ apart l1 h1 l2 h2) (h : NewM C w (Builtin.bitOr l1 l2) (Builtin.bitAnd h1 h2) H1 X) :
    (¬ apart l1 h1 l2 h2 → NewM C w (Builtin.bitOr l1 l2) (Builtin.bitAnd h1 h2) H1 X) ∧ (apart l1 h1 l2 h2 → X .non H1) := ⟨fun _ => h, fun n => (z n).elim⟩
theorem ite_same {k : Bool} {A B : Prop} (h : B) (hA : k = true → B → A) : if k = true then A else B := by
  cases k with
  | false => exact iteF h
  | true => exact iteT (hA rfl h)
def spSets (C : Addr) : Sp := fun vs H Q _ => ∃ a b c w l1 h1 l2 h2 l3 h3, vs = [.ref a, .ref b, .ref c] ∧ IsM C H a w l1 h1 ∧ IsM C H b w l2 h2 ∧ IsM C H c w l3 h3 ∧ ∀ H', Same H H' → Q (.bl true) H'

section
variable {P : Program} {w : World} {K : PySem.W.Frag} {mg : Str → Option Value} {base : Heap} {C f : Addr} {fd : FuncData}
theorem ok_sets (F : Fun K "_law_sets_right" "_law_sets_right" (top 44) f fd) (T : Txt K mg C)
    (m_inv : Mt P w K mg base C 5 "__invert__" (sp1 (rInv C))) (m_add : Mt P w K mg base C 7 "__add__" (sp2 (rNN C SAdd))) (m_eq : Mt P w K mg base C 1 "__eq__" (sp2 (rEqM C)))
    (m_is_within : Mt P w K mg base C 2 "is_within" (sp2 (rWtn C))) (m_union_with : Mt P w K mg base C 5 "union_with" (sp2 (rMM C fAnd gUni))) (m_common_with : Mt P w K mg base C 5 "common_with" (sp2 (rCom C))) :
    FnOk P w K mg base CX0 8 f fd ["_law_one_here", "_law_other", "_law_three"] (spSets C) := by
  have sc : FnScope ["_law_one_here", "_law_other", "_law_three", "_law_wide", "_law_both", "_law_sums"] ["_law_one_here", "_law_other", "_law_three"] (defScope (top 44)) := ⟨rfl, rfl, rfl, by decide +kernel, rfl, by decide +kernel, by decide +kernel⟩
  refine F.ok sc (fun vs H Q E h => ?_) (fun cdv A outer s H vs Q E hr h => ?_)
  · obtain ⟨a, b, c, n, l1, h1, l2, h2, l3, h3, rfl, _⟩ := h
    rfl
  · obtain ⟨a, b, c, n, l1, h1, l2, h2, l3, h3, rfl, ma, mb, mc, k⟩ := h
    have ka := ma.msk
    have kb := mb.msk
    have kc := mc.msk
    refine ⟨_, (pss_cons (ps_par (i := 3) (j := 4) (by rfl) sc.nd rfl rfl (by decide) rfl rfl (pa_cons (pe_m2 (pv 0) T m_union_with hr (by decide) (pa_cons (pv 1) pa_nil)) (pa_cons (pe_m2 (pv 0) T m_common_with hr (by decide) (pa_cons (pv 1) pa_nil)) pa_nil)) (by rfl))
      (pss_cons (ps_if (PW.pt (pw_or (pt_not (pt_val (pe_m2 (pv 0) T m_is_within hr (by decide) (pa_cons (pv 3) pa_nil)))) (pw_or (pt_not (pt_val (pe_m2 (pv 1) T m_is_within hr (by decide) (pa_cons (pv 3) pa_nil)))) (pw_or1 (pt_cmpR (op_ne' m_eq T hr (by decide)) (pv 3) (pe_m2 (pv 1) T m_union_with hr (by decide) (pa_cons (pv 0) pa_nil)) (nomark _)))))) (pss_one (ps_ret pe_bl)) pss_nil)
      (pss_cons (ps_if (pt_cmpR (op_ne' m_eq T hr (by decide)) (pe_m2 (pv 3) T m_union_with hr (by decide) (pa_cons (pv 2) pa_nil)) (pe_m2 (pv 0) T m_union_with hr (by decide) (pa_cons (pe_m2 (pv 1) T m_union_with hr (by decide) (pa_cons (pv 2) pa_nil)) pa_nil)) (nomark _)) (pss_one (ps_ret pe_bl)) pss_nil)
      (pss_cons (ps_if (PW.pt (pw_and (pt_val (pe_m2 (pv 0) T m_is_within hr (by decide) (pa_cons (pv 2) pa_nil))) (pw_and (pt_val (pe_m2 (pv 1) T m_is_within hr (by decide) (pa_cons (pv 2) pa_nil))) (pw_and1 (pt_not (pt_val (pe_m2 (pv 3) T m_is_within hr (by decide) (pa_cons (pv 2) pa_nil)))))))) (pss_one (ps_ret pe_bl)) pss_nil)
      (pss_cons (ps_if (pt_cmpR op_isN (pv 4) pe_non (nomark _)) (pss_one (ps_ret (pe_and (pe_cmpR op_isN (pe_m2 (pv 1) T m_common_with hr (by decide) (pa_cons (pv 0) pa_nil)) pe_non (nomark _)) (pe_one (pe_cmpR op_isN (pe_m2 (pe_un (un_inv' m_inv hr (by decide)) (pv 0)) T m_common_with hr (by decide) (pa_cons (pe_un (un_inv' m_inv hr (by decide)) (pv 1)) pa_nil)) pe_non (nomark _)))))) pss_nil)
      (pss_cons (ps_if (PW.pt (pw_or (pt_not (pt_val (pe_m2 (pv 4) T m_is_within hr (by decide) (pa_cons (pv 0) pa_nil)))) (pw_or (pt_not (pt_val (pe_m2 (pv 4) T m_is_within hr (by decide) (pa_cons (pv 1) pa_nil)))) (pw_or1 (pt_cmpR (op_ne' m_eq T hr (by decide)) (pe_m2 (pe_un (un_inv' m_inv hr (by decide)) (pv 0)) T m_common_with hr (by decide) (pa_cons (pe_un (un_inv' m_inv hr (by decide)) (pv 1)) pa_nil)) (pe_un (un_inv' m_inv hr (by decide)) (pv 4)) (nomark _)))))) (pss_one (ps_ret pe_bl)) pss_nil)
      (pss_cons (ps_set (i := 5) sc.nd rfl (Or.inl rfl) (pe_lst (pa_cons (pe_op (op_add' m_add T hr (by decide)) (pv 0) (pv 2)) (pa_cons (pe_op (op_add' m_add T hr (by decide)) (pv 1) (pv 2)) pa_nil))))
      (pss_one (ps_ret (pe_m2 (pe_op (op_add' m_add T hr (by decide)) (pv 4) (pv 2)) T m_is_within hr (by decide) (pa_cons (pe_m2 (pe_ix ix_list (pv 5) pe_int (fun _ _ => rfl)) T m_common_with hr (by decide) (pa_cons (pe_ix ix_list (pv 5) pe_int (fun _ _ => rfl)) pa_nil)) pa_nil))))))))))), ?_⟩
    -- wide, both
    refine ⟨_, rfl, ⟨a, n, l1, h1, rfl, ma⟩, _, rfl, _, rfl, a, b, n, l1, h1, l2, h2, rfl, rfl, ma, mb, fun pw H1 s1 mw => ?_⟩
    refine ⟨_, rfl, ⟨a, n, l1, h1, rfl, ma.mono s1⟩, _, rfl, _, rfl, a, b, n, l1, h1, l2, h2, rfl, rfl, ma.mono s1, mb.mono s1, ?_⟩
    refine And.symm (com_split ?_)
    intro vb H2 s2 hb
    refine ⟨_, _, rfl, ?_⟩
    have S2 := Same.trans s1 s2
    have mw2 := mw.mono s2
    -- one within wide, other within wide, wide != other.union_with(one)
    refine ⟨_, rfl, ⟨a, n, l1, h1, rfl, ma.mono S2⟩, _, rfl, _, rfl, a, pw, n, l1, h1, _, _, rfl, rfl, ma.mono S2, mw2, fun k1 hk => ⟨k1, rfl, ?_⟩⟩
    have ek : k1 = true := hk.mpr uni_l
    subst ek
    refine iteF ?_
    refine ⟨_, rfl, ⟨b, n, l2, h2, rfl, mb.mono S2⟩, _, rfl, _, rfl, b, pw, n, l2, h2, _, _, rfl, rfl, mb.mono S2, mw2, fun k1 hk => ⟨k1, rfl, ?_⟩⟩
    have ek : k1 = true := hk.mpr uni_r
    subst ek
    refine iteF ?_
    refine ⟨_, rfl, _, rfl, ⟨b, n, l2, h2, rfl, mb.mono S2⟩, _, rfl, _, rfl, b, a, n, l2, h2, l1, h1, rfl, rfl, mb.mono S2, ma.mono S2, fun p3 H3 s3 m3 => ?_⟩
    rw [show fAnd l2 h2 l1 h1 = fAnd l1 h1 l2 h2 from and_comm' _ _, show gUni l2 h2 l1 h1 = gUni l1 h1 l2 h2 from or_comm' _ _] at m3
    have S3 := Same.trans S2 s3
    refine ⟨pw, p3, n, _, _, rfl, rfl, mw2.mono s3, m3, false, rfl, iteF ?_⟩
    have mw3 := mw2.mono s3
    -- wide.union_with(three) != one.union_with(other.union_with(three))
    refine ⟨_, rfl, ⟨pw, n, _, _, rfl, mw3⟩, _, rfl, _, rfl, pw, c, n, _, _, l3, h3, rfl, rfl, mw3, mc.mono S3, fun p4 H4 s4 m4 => ?_⟩
    have S4 := Same.trans S3 s4
    refine ⟨_, rfl, ⟨a, n, l1, h1, rfl, ma.mono S4⟩, _, rfl, ⟨b, n, l2, h2, rfl, mb.mono S4⟩, _, rfl, _, rfl, b, c, n, l2, h2, l3, h3, rfl, rfl, mb.mono S4, mc.mono S4, fun p5 H5 s5 m5 => ⟨_, rfl, a, p5, n, l1, h1, _, _, rfl, rfl, ma.mono (Same.trans S4 s5), m5, fun p6 H6 s6 m6 => ?_⟩⟩
    have S6 := Same.trans S4 (Same.trans s5 s6)
    have m4' := m4.mono (Same.trans s5 s6)
    rw [show fAnd (fAnd l1 h1 l2 h2) (gUni l1 h1 l2 h2) l3 h3 = fAnd l1 h1 (fAnd l2 h2 l3 h3) (gUni l2 h2 l3 h3) from and_assoc' _ _ _, show gUni (fAnd l1 h1 l2 h2) (gUni l1 h1 l2 h2) l3 h3 = gUni l1 h1 (fAnd l2 h2 l3 h3) (gUni l2 h2 l3 h3) from or_assoc' _ _ _] at m4'
    refine ⟨p4, p6, n, _, _, rfl, rfl, m4', m6, false, rfl, iteF ?_⟩
    have mw6 := mw3.mono (Same.trans s4 (Same.trans s5 s6))
    -- one, other within three: wide, too
    refine ⟨_, rfl, ⟨a, n, l1, h1, rfl, ma.mono S6⟩, _, rfl, _, rfl, a, c, n, l1, h1, l3, h3, rfl, rfl, ma.mono S6, mc.mono S6, fun k1 hk1 => ⟨k1, rfl, ite_same ?_ fun e1 rest => ?_⟩⟩
    case refine_2 =>
      refine ⟨_, rfl, ⟨b, n, l2, h2, rfl, mb.mono S6⟩, _, rfl, _, rfl, b, c, n, l2, h2, l3, h3, rfl, rfl, mb.mono S6, mc.mono S6, fun k2 hk2 => ⟨k2, rfl, ite_same rest fun e2 rest => ?_⟩⟩
      refine ⟨_, rfl, ⟨pw, n, _, _, rfl, mw6⟩, _, rfl, _, rfl, pw, c, n, _, _, l3, h3, rfl, rfl, mw6, mc.mono S6, fun k3 hk3 => ⟨k3, rfl, ?_⟩⟩
      have ek : k3 = true := hk3.mpr (uni_wtn (hk1.mp e1) (hk2.mp e2))
      subst ek
      exact rest
    refine iteF ?_
    -- both is None
    refine ⟨_, rfl, rfl, _, rfl, ?_⟩
    rcases hb with ⟨rfl, hz⟩ | ⟨hz, pb, rfl, mbo⟩
    · refine iteT ?_
      have hz1 : apart l2 h2 l1 h1 := fun e => hz (by rw [← apart_comm]; exact e)
      refine ⟨_, rfl, ⟨b, n, l2, h2, rfl, mb.mono S6⟩, _, rfl, _, rfl, b, a, n, l2, h2, l1, h1, rfl, rfl, mb.mono S6, ma.mono S6, ?_⟩
      refine And.symm (com_no hz1 ?_)
      refine ⟨rfl, true, rfl, iteT ?_⟩
      refine ⟨_, rfl, a, n, l1, h1, rfl, ma.mono S6, fun p7 H7 s7 m7 => ⟨⟨p7, n, _, _, rfl, m7⟩, ?_⟩⟩
      have S7 := Same.trans S6 s7
      refine ⟨_, rfl, b, n, l2, h2, rfl, mb.mono S7, fun p8 H8 s8 m8 => ⟨_, rfl, p7, p8, n, _, _, _, _, rfl, rfl, m7.mono s8, m8, ?_⟩⟩
      have hz2 : apart (iv n h1) (iv n l1) (iv n h2) (iv n l2) := fun e => hz ((apart_inv ka kb).mp e)
      exact And.symm (com_no hz2 ⟨rfl, k _ (Same.trans S7 s8)⟩)
    · refine iteF ?_
      have mb6 := mbo.mono (Same.trans s3 (Same.trans s4 (Same.trans s5 s6)))
      have kbo := mb6.msk
      -- both within one, other; (~one).common_with(~other) != ~both
      refine ⟨_, rfl, ⟨pb, n, _, _, rfl, mb6⟩, _, rfl, _, rfl, pb, a, n, _, _, l1, h1, rfl, rfl, mb6, ma.mono S6, fun k1 hk => ⟨k1, rfl, ?_⟩⟩
      have ek : k1 = true := hk.mpr com_l
      subst ek
      refine iteF ?_
      refine ⟨_, rfl, ⟨pb, n, _, _, rfl, mb6⟩, _, rfl, _, rfl, pb, b, n, _, _, l2, h2, rfl, rfl, mb6, mb.mono S6, fun k1 hk => ⟨k1, rfl, ?_⟩⟩
      have ek : k1 = true := hk.mpr com_r
      subst ek
      refine iteF ?_
      refine ⟨_, rfl, a, n, l1, h1, rfl, ma.mono S6, fun p7 H7 s7 m7 => ⟨⟨p7, n, _, _, rfl, m7⟩, ?_⟩⟩
      have S7 := Same.trans S6 s7
      have hz2 : ¬ apart (iv n h1) (iv n l1) (iv n h2) (iv n l2) := fun e => hz fun z => e ((apart_inv ka kb).mpr z)
      refine ⟨_, rfl, b, n, l2, h2, rfl, mb.mono S7, fun p8 H8 s8 m8 => ⟨_, rfl, p7, p8, n, _, _, _, _, rfl, rfl, m7.mono s8, m8, ?_⟩⟩
      refine And.symm (com_yes hz2 ?_)
      intro p9 H9 s9 m9
      have t9 := Same.trans s7 (Same.trans s8 s9)
      refine ⟨_, rfl, pb, n, _, _, rfl, mb6.mono t9, fun p10 H10 s10 m10 => ?_⟩
      have m9' := m9.mono s10
      rw [show Builtin.bitOr (iv n h1) (iv n h2) = iv n (Builtin.bitAnd h1 h2) from (inv_and' ka.ihi kb.ihi).symm, show Builtin.bitAnd (iv n l1) (iv n l2) = iv n (Builtin.bitOr l1 l2) from (inv_or' ka.ilo kb.ilo).symm] at m9'
      refine ⟨p9, p10, n, _, _, rfl, rfl, m9', m10, false, rfl, iteF ?_⟩
      have t10 := Same.trans t9 s10
      have S10 := Same.trans S6 t10
      have mb10 := mb6.mono t10
      -- sums
      refine ⟨_, rfl, _, rfl, a, c, n, l1, h1, l3, h3, rfl, rfl, ma.mono S10, mc.mono S10, fun p11 H11 lo11 hi11 s11 m11 n11 => ?_⟩
      have S11 := Same.trans S10 s11
      refine ⟨_, rfl, _, rfl, b, c, n, l2, h2, l3, h3, rfl, rfl, mb.mono S11, mc.mono S11, fun p12 H12 lo12 hi12 s12 m12 n12 => ⟨two_sz, fun l hl => ?_⟩⟩
      have gl := G.upd (o := .lst [.ref p11, .ref p12]) hl
      have S12 := Same.trans S11 (Same.trans s12 gl)
      refine ⟨_, rfl, _, rfl, pb, c, n, _, _, l3, h3, rfl, rfl, mb10.mono (Same.trans s11 (Same.trans s12 gl)), mc.mono S12, fun p13 H13 lo13 hi13 s13 m13 n13 => ⟨⟨p13, n, _, _, rfl, m13⟩, ?_⟩⟩
      have hl13 := s13 _ _ (upd_same (H := H12) (a := l) (o := .lst [.ref p11, .ref p12]))
      have m11' := m11.mono (Same.trans s12 (Same.trans gl s13))
      have m12' := m12.mono (Same.trans gl s13)
      obtain ⟨w1, w2⟩ := com_sum kbo n11 n12 n13
      have k13 := m13.msk
      have hz3 : ¬ apart lo11 hi11 lo12 hi12 := fun e => e (apart_iff.mpr fun i z => w2 i (k13.le i (w1 i z)))
      refine ⟨_, rfl, l, _, 0, .ref p11, rfl, rfl, SqL.of hl13, rfl, ⟨p11, n, _, _, rfl, m11'⟩, _, rfl, l, _, 1, .ref p12, rfl, rfl, SqL.of hl13, rfl, _, rfl, p11, p12, n, _, _, _, _, rfl, rfl, m11', m12', ?_⟩
      refine And.symm (com_yes hz3 ?_)
      intro p14 H14 s14 m14
      refine ⟨_, rfl, p13, p14, n, _, _, _, _, rfl, rfl, m13.mono s14, m14, fun k1 hk => ?_⟩
      have ek : k1 = true := hk.mpr (wtn_of w1 w2)
      subst ek
      exact k _ (Same.trans S12 (Same.trans s13 s14))
end
end WP


set_option Elab.async false
set_option linter.all false
set_option maxRecDepth 100000
set_option maxHeartbeats 8000000
/-! K14Wider: _law_wider_right. -/
namespace WP
open PySem PySem.Spec PyProof.Rows L2 WA WR

theorem IsM.updl {C : Addr} {H : Hp} {p d : Addr} {w : Nat} {lo hi : Int} {xs : List V} {o : HO} (m : IsM C H p w lo hi) (h : H d = some (.lst xs)) : IsM C (upd H d o) p w lo hi :=
  ⟨m.wd, m.msk, let ⟨dx, e⟩ := m.at_; ⟨dx, by rw [upd_ne (fun q => by rw [q, h] at e; cases e)]; exact e⟩⟩
/-- the wider masks -/
def Wd (C : Addr) (n : Nat) (H : Hp) : List V → List (Int × Int) → Prop
  | [], [] => True
  | v :: vs, q :: qs => (∃ p, v = .ref p ∧ IsM C H p (n + 1) q.1 (Builtin.bitOr q.2 (2 ^ n))) ∧ Wd C n H vs qs
  | _, _ => False
theorem Wd.mono {C : Addr} {n : Nat} {H H' : Hp} (s : Same H H') : ∀ {vs : List V} {qs : List (Int × Int)}, Wd C n H vs qs → Wd C n H' vs qs
  | [], [], _ => trivial
  | [], _ :: _, h => h.elim
  | _ :: _, [], h => h.elim
  | _ :: _, _ :: _, ⟨⟨p, e, m⟩, h⟩ => ⟨⟨p, e, m.mono s⟩, Wd.mono s h⟩
theorem Wd.updl {C d : Addr} {n : Nat} {H : Hp} {xs : List V} {o : HO} (hd : H d = some (.lst xs)) : ∀ {vs : List V} {qs : List (Int × Int)}, Wd C n H vs qs → Wd C n (upd H d o) vs qs
  | [], [], _ => trivial
  | [], _ :: _, h => h.elim
  | _ :: _, [], h => h.elim
  | _ :: _, _ :: _, ⟨⟨p, e, m⟩, h⟩ => ⟨⟨p, e, m.updl hd⟩, Wd.updl hd h⟩
theorem Wd.snoc {C : Addr} {n : Nat} {H : Hp} {p : Addr} {lo hi : Int} (m : IsM C H p (n + 1) lo (Builtin.bitOr hi (2 ^ n))) : ∀ {vs : List V} {qs : List (Int × Int)}, Wd C n H vs qs → Wd C n H (vs ++ [.ref p]) (qs ++ [(lo, hi)])
  | [], [], _ => ⟨⟨p, rfl, m⟩, trivial⟩
  | [], _ :: _, h => h.elim
  | _ :: _, [], h => h.elim
  | _ :: _, _ :: _, ⟨a, h⟩ => ⟨a, Wd.snoc m h⟩
theorem Wd.len {C : Addr} {n : Nat} {H : Hp} : ∀ {vs : List V} {qs : List (Int × Int)}, Wd C n H vs qs → vs.length = qs.length
  | [], [], _ => rfl
  | [], _ :: _, h => h.elim
  | _ :: _, [], h => h.elim
  | _ :: _, _ :: _, ⟨_, h⟩ => by rw [List.length_cons, List.length_cons, Wd.len h]
theorem Wd.three {C : Addr} {n : Nat} {H : Hp} {x y z : Int × Int} : ∀ {vs : List V}, Wd C n H vs [x, y, z] → ∃ p q r, vs = [.ref p, .ref q, .ref r] ∧ IsM C H p (n + 1) x.1 (Builtin.bitOr x.2 (2 ^ n)) ∧ IsM C H q (n + 1) y.1 (Builtin.bitOr y.2 (2 ^ n)) ∧ IsM C H r (n + 1) z.1 (Builtin.bitOr z.2 (2 ^ n))
  | [], h => h.elim
  | [_], h => h.2.elim
  | [_, _], h => h.2.2.elim
  | [_, _, _], ⟨⟨p, e1, m1⟩, ⟨q, e2, m2⟩, ⟨r, e3, m3⟩, _⟩ => ⟨p, q, r, by rw [e1, e2, e3], m1, m2, m3⟩
  | _ :: _ :: _ :: _ :: _, h => h.2.2.2.elim
/-- a pair of masks that say the same of the low places -/
def Pr (C : Addr) (n : Nat) (H : Hp) (l : Addr) : Prop := ∃ p q lo hi lo' hi', H l = some (.lst [.ref p, .ref q]) ∧ IsM C H p n lo hi ∧ IsM C H q (n + 1) lo' hi' ∧ lo = lo' % 2 ^ n ∧ hi = hi' % 2 ^ n
theorem Pr.mono {C : Addr} {n : Nat} {H H' : Hp} {l : Addr} (s : Same H H') (h : Pr C n H l) : Pr C n H' l :=
  let ⟨p, q, lo, hi, lo', hi', a, m, m', e⟩ := h; ⟨p, q, lo, hi, lo', hi', s _ _ a, m.mono s, m'.mono s, e⟩
theorem Pr.updl {C : Addr} {n : Nat} {H : Hp} {l d : Addr} {xs : List V} {o : HO} (hd : H d = some (.lst xs)) (ne : l ≠ d) (h : Pr C n H l) : Pr C n (upd H d o) l :=
  let ⟨p, q, lo, hi, lo', hi', a, m, m', e⟩ := h; ⟨p, q, lo, hi, lo', hi', by rw [upd_ne ne]; exact a, m.updl hd, m'.updl hd, e⟩
theorem Pr.of {C : Addr} {n : Nat} {H : Hp} {l p q : Addr} {lo hi lo' hi' : Int} (hl : H l = none) (m : IsM C H p n lo hi) (m' : IsM C H q (n + 1) lo' hi') (e : lo = lo' % 2 ^ n ∧ hi = hi' % 2 ^ n) : Pr C n (upd H l (.lst [.ref p, .ref q])) l :=
  ⟨p, q, lo, hi, lo', hi', upd_same, m.mono (G.upd hl), m'.mono (G.upd hl), e⟩
theorem Pr.get {C : Addr} {n : Nat} {H : Hp} {l : Addr} (h : Pr C n H l) : ∃ xs, H l = some (.lst xs) := let ⟨_, _, _, _, _, _, a, _⟩ := h; ⟨_, a⟩
theorem Pr.ne {C : Addr} {n : Nat} {H : Hp} {l d : Addr} (h : Pr C n H l) (hd : H d = none) : l ≠ d := fun e => by obtain ⟨xs, a⟩ := h.get; rw [e, hd] at a; cases a
theorem p2 (n : Nat) : (1 : Int) * 2 ^ ((n : Int)).toNat = 2 ^ n := by rw [Int.one_mul, Int.toNat_natCast]
theorem eq2 {a b x y : Int} (h1 : a = x) (h2 : b = y) : (!PyData.eqv (.list [.int a, .int b]) (.list [.int x, .int y])) = false := by
  subst h1
  subst h2
  rw [PySem.SeqAt.eqv_refl _ rfl]
  rfl
def spWider (C : Addr) : Sp := fun vs H Q _ => ∃ a b c w l1 h1 l2 h2 l3 h3, vs = [.ref a, .ref b, .ref c] ∧ IsM C H a w l1 h1 ∧ IsM C H b w l2 h2 ∧ IsM C H c w l3 h3 ∧ ∀ H', Same H H' → Q (.bl true) H'

section
variable {P : Program} {w : World} {K : PySem.W.Frag} {mg : Str → Option Value} {base : Heap} {C f : Addr} {fd : FuncData}
theorem ok_wider (F : Fun K "_law_wider_right" "_law_wider_right" (top 43) f fd) (T : Txt K mg C) (gM : Mkr P w K mg base C 3 (spInit C))
    (p_width : Prp P w K mg base C 1 "width" (sp1 (rI1 C fW))) (p_least : Prp P w K mg base C 1 "least" (sp1 (rI1 C fL))) (p_greatest : Prp P w K mg base C 1 "greatest" (sp1 (rI1 C fH)))
    (m_neg : Mt P w K mg base C 7 "__neg__" (sp1 (rNeg C))) (m_add : Mt P w K mg base C 7 "__add__" (sp2 (rNN C SAdd))) (m_sub : Mt P w K mg base C 7 "__sub__" (sp2 (rNN C SSub)))
    (m_and : Mt P w K mg base C 5 "__and__" (sp2 (rMM C fAnd gAnd))) (g_sum_mask : Cl P w K mg base 6 "sum_mask" (spSum K C)) : FnOk P w K mg base CX0 8 f fd ["_law_one_here", "_law_other", "_law_three"] (spWider C) := by
  have sc : FnScope ["_law_one_here", "_law_other", "_law_three", "_law_width_here", "_law_wide", "_law_left", "_law_right", "_law_last", "_law_pairs", "_law_size", "_law_low", "_law_high", "_law_mask_here"] ["_law_one_here", "_law_other", "_law_three"] (defScope (top 43)) := ⟨rfl, rfl, rfl, by decide +kernel, rfl, by decide +kernel, by decide +kernel⟩
  refine F.ok sc (fun vs H Q E h => ?_) (fun cdv A outer s H vs Q E hr h => ?_)
  · obtain ⟨a, b, c, n, l1, h1, l2, h2, l3, h3, rfl, _⟩ := h
    rfl
  · obtain ⟨a, b, c, n, l1, h1, l2, h2, l3, h3, rfl, ma, mb, mc, k⟩ := h
    have ka := ma.msk
    have kb := mb.msk
    have kc := mc.msk
    have hn := ma.wd
    refine ⟨_, (pss_cons (ps_set (i := 3) sc.nd rfl (Or.inr rfl) (pe_pI (pv 0) T p_width hr (by decide)))
      (pss_cons (ps_if (pt_cmpR op_eq (pv 3) pe_int (nomark _)) (pss_one (ps_ret pe_bl)) pss_nil)
      (pss_cons (ps_setLc (i := 4) (own := [("_law_mask_here", 12)]) (g := (gName 12)) (tt := tYes) rfl sc.nd rfl rfl (sw_true rfl rfl rfl (by decide +kernel)) (pi_tup (pe_tup (pa_cons (pv 0) (pa_cons (pv 1) (pa_cons (pv 2) pa_nil))))) (blkOk_by (own := [("_law_mask_here", 12)]) (N := ["_law_one_here", "_law_other", "_law_three", "_law_width_here", "_law_wide", "_law_left", "_law_right", "_law_last", "_law_pairs", "_law_size", "_law_low", "_law_high", "_law_mask_here"]) (sc := defScope (top 43)) (by decide +kernel)) (fun _ _ _ _ _ => (pg_name (i := 12) sc.nd rfl (Or.inl rfl))) (fun _ _ _ _ _ => pts_nil) (fun _ _ _ _ _ => (pe_M gM T hr (by decide) rfl (pa_cons (pe_op op_add (pv 3) pe_int) (pa_cons (pe_pI (pv 12) T p_least hr (by decide)) (pa_cons (pe_op op_or (pe_pI (pv 12) T p_greatest hr (by decide)) (pe_op op_shl pe_int (pv 3))) pa_nil))))))
      (pss_cons (ps_asg (pv 4) (pg_unl rfl (pgs_cons (pg_name (i := 5) sc.nd rfl (Or.inl rfl)) (pgs_cons (pg_name (i := 6) sc.nd rfl (Or.inl rfl)) (pgs_cons (pg_name (i := 7) sc.nd rfl (Or.inl rfl)) pgs_nil)))))
      (pss_cons (ps_set (i := 8) sc.nd rfl (Or.inl rfl) (pe_lst (pa_cons (pe_lst (pa_cons (pe_op (op_add' m_add T hr (by decide)) (pv 0) (pv 1)) (pa_cons (pe_op (op_add' m_add T hr (by decide)) (pv 5) (pv 6)) pa_nil))) (pa_cons (pe_lst (pa_cons (pe_op (op_sub' m_sub T hr (by decide)) (pv 0) (pv 1)) (pa_cons (pe_op (op_sub' m_sub T hr (by decide)) (pv 5) (pv 6)) pa_nil))) pa_nil))))
      (pss_cons (ps_set (i := 8) sc.nd rfl (Or.inl rfl) (pe_op op_cat (pv 8) (pe_lst (pa_cons (pe_lst (pa_cons (pe_un (un_neg' m_neg hr (by decide)) (pv 0)) (pa_cons (pe_un (un_neg' m_neg hr (by decide)) (pv 5)) pa_nil))) (pa_cons (pe_lst (pa_cons (pe_op (op_and' m_and T hr (by decide)) (pv 0) (pv 1)) (pa_cons (pe_op (op_and' m_and T hr (by decide)) (pv 5) (pv 6)) pa_nil))) pa_nil)))))
      (pss_cons (ps_expr (pe_bm PySem.F.plainAttrs_list PySem.F.slot_list_append PySem.F.type_list_append mt_append (pv 8) (pa_cons (pe_lst (pa_cons (pe_cl g_sum_mask hr (by decide) rfl (pa_cons (pe_tup (pa_cons (pe_tup (pa_cons pe_int (pa_cons (pv 0) pa_nil))) (pa_cons (pe_tup (pa_cons pe_int (pa_cons (pv 2) pa_nil))) pa_nil))) (pa_cons pe_int pa_nil))) (pa_cons (pe_cl g_sum_mask hr (by decide) rfl (pa_cons (pe_tup (pa_cons (pe_tup (pa_cons pe_int (pa_cons (pv 5) pa_nil))) (pa_cons (pe_tup (pa_cons pe_int (pa_cons (pv 7) pa_nil))) pa_nil))) (pa_cons pe_int pa_nil))) pa_nil))) pa_nil)))
      (pss_cons (ps_set (i := 9) sc.nd rfl (Or.inl rfl) (pe_op op_shl pe_int (pv 3)))
      (pss_cons (ps_for PassesOwn.never rfl (pi_list (pv 8)) (pg_unl rfl (pgs_cons (pg_name (i := 10) sc.nd rfl (Or.inl rfl)) (pgs_cons (pg_name (i := 11) sc.nd rfl (Or.inl rfl)) pgs_nil)))
      (pss_one (ps_if (pt_cmpR (op_neD hr.units) (pe_lst (pa_cons (pe_pI (pv 10) T p_least hr (by decide)) (pa_cons (pe_pI (pv 10) T p_greatest hr (by decide)) pa_nil))) (pe_lst (pa_cons (pe_op op_mod (pe_pI (pv 11) T p_least hr (by decide)) (pv 9)) (pa_cons (pe_op op_mod (pe_pI (pv 11) T p_greatest hr (by decide)) (pv 9)) pa_nil))) (nomark _)) (pss_one (ps_ret pe_bl)) pss_nil)))
      (pss_one (ps_ret pe_bl))))))))))), ?_⟩
    refine ⟨_, rfl, a, n, l1, h1, rfl, ma, ?_⟩
    refine ⟨_, rfl, rfl, _, rfl, ite_dec (fun e => k _ (Same.refl _)) (fun e64 => ?_)⟩
    have hn1 : n < 64 := by
      have : n ≠ 64 := fun e => e64 (by rw [e]; rfl)
      omega
    refine ⟨_, rfl, _, rfl, _, rfl, (by show 3 ≤ sizeLine; decide), fun t ht => ⟨t, rfl, ⟨_, SqT.of upd_same⟩, fun D hD => ?_⟩⟩
    have st : Same H (upd H t (.tup [.ref a, .ref b, .ref c])) := G.upd ht
    refine lc_tup (K := K) (a := t) (xs := [.ref a, .ref b, .ref c]) (fun j H' => Same (upd H t (.tup [.ref a, .ref b, .ref c])) H' ∧ ∃ us, H' D = some (.lst us) ∧ Wd C n H' us ([(l1, h1), (l2, h2), (l3, h3)].take j)) ⟨G.upd hD, [], upd_same, trivial⟩ (fun j H' _ h => G.sqT h.1 (SqT.of upd_same)) ?_ ?_
    · rintro j x H' hj ⟨hs, us, hl, hW⟩
      obtain ⟨m, lo, hi, rfl, hm, ho⟩ : ∃ m lo hi, x = V.ref m ∧ IsM C H m n lo hi ∧ (([(l1, h1), (l2, h2), (l3, h3)] : List (Int × Int)).take (j + 1)) = (([(l1, h1), (l2, h2), (l3, h3)] : List (Int × Int)).take j) ++ [(lo, hi)] := by
        match j, hj with
        | 0, hj => exact ⟨a, l1, h1, (Option.some.inj hj).symm, ma, rfl⟩
        | 1, hj => exact ⟨b, l2, h2, (Option.some.inj hj).symm, mb, rfl⟩
        | 2, hj => exact ⟨c, l3, h3, (Option.some.inj hj).symm, mc, rfl⟩
        | j + 3, hj => simp at hj
      have hm' := hm.mono (Same.trans st hs)
      refine ⟨rfl, ?_⟩
      refine ⟨_, rfl, _, _, rfl, rfl, _, rfl, m, n, lo, hi, rfl, hm', _, rfl, m, n, lo, hi, rfl, hm', _, rfl, _, _, rfl, rfl, ?_, _, _, rfl, rfl, n + 1, lo, Builtin.bitOr hi (1 * 2 ^ ((n : Int)).toNat), rfl, ⟨by omega, by omega⟩, ?_, fun p H2 s2 mp => ?_⟩
      · exact ⟨by show (0 : Int) ≤ (n : Int); omega, by show (n : Int) ≤ 1000000; omega, by decide⟩
      · rw [p2]
        exact msk_wide hm'.msk
      rw [p2] at mp
      have hl2 := s2 _ _ hl
      have lu : us.length ≤ 3 := by
        rw [hW.len]
        exact List.length_take_le' _ _
      refine ⟨us, hl2, lt_sz (by omega), fun b u e => ?_, _, upd_same, ?_⟩
      · rw [upd_ne (fun q => by rw [q, hD] at e; cases e)]
        exact s2 _ _ (hs _ _ e)
      · rw [ho]
        exact Wd.snoc (mp.updl hl2) (Wd.updl hl2 (hW.mono s2))
    rintro H1 ⟨hs1, us, hl1, hW⟩
    obtain ⟨wa, wb, wc, rfl, na, nb, nc⟩ := hW.three
    have S1 := Same.trans st hs1
    have ma1 := ma.mono S1
    have mb1 := mb.mono S1
    have mc1 := mc.mono S1
    refine ⟨_, rfl, D, _, rfl, SqL.of hl1, rfl, _, _, rfl, _, _, rfl, _, _, rfl, rfl, ?_⟩
    -- sums
    refine ⟨_, rfl, _, rfl, a, b, n, l1, h1, l2, h2, rfl, rfl, ma1, mb1, fun p1 H2 lo2 hi2 s2 m2 n2 => ?_⟩
    refine ⟨_, rfl, _, rfl, wa, wb, n + 1, _, _, _, _, rfl, rfl, na.mono s2, nb.mono s2, fun p2 H3 lo3 hi3 s3 m3 n3 => ⟨two_sz, fun q1 hq1 => ?_⟩⟩
    have P1 := Pr.of hq1 (m2.mono s3) m3 (wide_add ka kb n2 n3)
    have t3 := Same.trans s2 (Same.trans s3 (G.upd (o := .lst [.ref p1, .ref p2]) hq1))
    refine ⟨_, rfl, _, rfl, a, b, n, l1, h1, l2, h2, rfl, rfl, ma1.mono t3, mb1.mono t3, fun p3 H4 lo4 hi4 s4 m4 n4 => ?_⟩
    have t4 := Same.trans t3 s4
    refine ⟨_, rfl, _, rfl, wa, wb, n + 1, _, _, _, _, rfl, rfl, na.mono t4, nb.mono t4, fun p4 H5 lo5 hi5 s5 m5 n5 => ⟨two_sz, fun q2 hq2 => ?_⟩⟩
    have P2 := Pr.of hq2 (m4.mono s5) m5 (wide_sub ka kb n4 n5)
    have t5 := Same.trans t4 (Same.trans s5 (G.upd (o := .lst [.ref p3, .ref p4]) hq2))
    have P1 := P1.mono (Same.trans s4 (Same.trans s5 (G.upd (o := .lst [.ref p3, .ref p4]) hq2)))
    refine ⟨two_sz, fun r1 hr1 => ?_⟩
    have u1 := G.upd (o := .lst [.ref q1, .ref q2]) hr1
    have P1 := P1.mono u1
    have P2 := P2.mono u1
    have t6 := Same.trans t5 u1
    -- negative, and
    refine ⟨_, rfl, _, rfl, a, n, l1, h1, rfl, ma1.mono t6, fun p5 H7 lo7 hi7 s7 m7 n7 => ?_⟩
    have t7 := Same.trans t6 s7
    refine ⟨_, rfl, wa, n + 1, _, _, rfl, na.mono t7, fun p6 H8 lo8 hi8 s8 m8 n8 => ⟨two_sz, fun q3 hq3 => ?_⟩⟩
    have P3 := Pr.of hq3 (m7.mono s8) m8 (wide_neg ka n7 n8)
    have v8 := Same.trans s8 (G.upd (o := .lst [.ref p5, .ref p6]) hq3)
    have t8 := Same.trans t7 v8
    refine ⟨_, rfl, _, rfl, a, b, n, l1, h1, l2, h2, rfl, rfl, ma1.mono t8, mb1.mono t8, fun p7 H9 s9 m9 => ?_⟩
    have t9 := Same.trans t8 s9
    refine ⟨_, rfl, _, rfl, wa, wb, n + 1, _, _, _, _, rfl, rfl, na.mono t9, nb.mono t9, fun p8 H10 s10 m10 => ⟨two_sz, fun q4 hq4 => ?_⟩⟩
    have P4 := Pr.of hq4 (m9.mono s10) m10 (wide_and ka kb)
    have v10 := Same.trans s9 (Same.trans s10 (G.upd (o := .lst [.ref p7, .ref p8]) hq4))
    have t10 := Same.trans t8 v10
    have P3 := P3.mono v10
    refine ⟨two_sz, fun r2 hr2 => ?_⟩
    have u2 := G.upd (o := .lst [.ref q3, .ref q4]) hr2
    have P3 := P3.mono u2
    have P4 := P4.mono u2
    have w1 := Same.trans s7 (Same.trans v8 (Same.trans v10 u2))
    have P1 := P1.mono w1
    have P2 := P2.mono w1
    have t11 := Same.trans t10 u2
    have er1 := w1 _ _ (upd_same (a := r1) (o := .lst [.ref q1, .ref q2]))
    refine ⟨r1, r2, _, _, rfl, rfl, er1, upd_same, (by show 4 ≤ sizeLine; decide), fun L hL => ?_⟩
    have u3 := G.upd (o := .lst ([.ref q1, .ref q2] ++ [.ref q3, .ref q4])) hL
    have x1 := P1.ne hL
    have x2 := P2.ne hL
    have x3 := P3.ne hL
    have x4 := P4.ne hL
    have P1 := P1.mono u3
    have P2 := P2.mono u3
    have P3 := P3.mono u3
    have P4 := P4.mono u3
    have t12 := Same.trans t11 u3
    have hHL : H L = none := Same.free (Same.trans S1 t11) hL
    -- the sums of threes and fives
    refine ⟨_, rfl, .inl ⟨rfl, _, SqL.of upd_same⟩, _, rfl, two_sz, fun e1 he1 => ?_⟩
    have g1 := G.upd (o := .tup [.int 3, .ref a]) he1
    refine ⟨_, rfl, two_sz, fun e2 he2 => ?_⟩
    have g2 := G.upd (o := .tup [.int 5, .ref c]) he2
    refine ⟨two_sz, fun e3 he3 => ?_⟩
    have g3 := G.upd (o := .tup [.ref e1, .ref e2]) he3
    have t13 := Same.trans t12 (Same.trans g1 (Same.trans g2 g3))
    refine ⟨e3, 9, n, [(3, l1, h1), (5, l3, h3)], rfl, tmA2 (SqT.of upd_same) (G.sqT (Same.trans g2 g3) (SqT.of upd_same)) (ma1.mono t13) (G.sqT g3 (SqT.of upd_same)) (mc1.mono t13), small2 (by decide) (by decide) (by decide) (by decide), fun p9 H14 lo14 hi14 s14 m14 n14 => ?_⟩
    have t14 := Same.trans t13 s14
    refine ⟨_, rfl, two_sz, fun e4 he4 => ?_⟩
    have g4 := G.upd (o := .tup [.int 3, .ref wa]) he4
    refine ⟨_, rfl, two_sz, fun e5 he5 => ?_⟩
    have g5 := G.upd (o := .tup [.int 5, .ref wc]) he5
    refine ⟨two_sz, fun e6 he6 => ?_⟩
    have g6 := G.upd (o := .tup [.ref e4, .ref e5]) he6
    have t15 := Same.trans t14 (Same.trans g4 (Same.trans g5 g6))
    refine ⟨e6, 9, n + 1, [(3, l1, Builtin.bitOr h1 (2 ^ n)), (5, l3, Builtin.bitOr h3 (2 ^ n))], rfl, tmA2 (SqT.of upd_same) (G.sqT (Same.trans g5 g6) (SqT.of upd_same)) (na.mono t15) (G.sqT g6 (SqT.of upd_same)) (nc.mono t15), small2 (by decide) (by decide) (by decide) (by decide), fun p10 H16 lo16 hi16 s16 m16 n16 => ⟨two_sz, fun q5 hq5 => ?_⟩⟩
    have P5 := Pr.of hq5 (m14.mono (Same.trans (Same.trans g4 (Same.trans g5 g6)) s16)) m16 (wide_sum ka kc n14 n16)
    have z := Same.trans (Same.trans g1 (Same.trans g2 g3)) (Same.trans s14 (Same.trans (Same.trans g4 (Same.trans g5 g6)) (Same.trans s16 (G.upd (o := .lst [.ref p9, .ref p10]) hq5))))
    have eL := z _ _ (upd_same (a := L) (o := .lst ([.ref q1, .ref q2] ++ [.ref q3, .ref q4])))
    have x5 : q5 ≠ L := fun e => by
      have := (Same.trans (Same.trans g1 (Same.trans g2 g3)) (Same.trans s14 (Same.trans (Same.trans g4 (Same.trans g5 g6)) s16))) _ _ (upd_same (a := L) (o := .lst ([.ref q1, .ref q2] ++ [.ref q3, .ref q4])))
      rw [← e, hq5] at this
      cases this
    have P1 := (P1.mono z).updl (o := .lst ([.ref q1, .ref q2, .ref q3, .ref q4] ++ [.ref q5])) eL x1
    have P2 := (P2.mono z).updl (o := .lst ([.ref q1, .ref q2, .ref q3, .ref q4] ++ [.ref q5])) eL x2
    have P3 := (P3.mono z).updl (o := .lst ([.ref q1, .ref q2, .ref q3, .ref q4] ++ [.ref q5])) eL x3
    have P4 := (P4.mono z).updl (o := .lst ([.ref q1, .ref q2, .ref q3, .ref q4] ++ [.ref q5])) eL x4
    have P5 := P5.updl (o := .lst ([.ref q1, .ref q2, .ref q3, .ref q4] ++ [.ref q5])) eL x5
    refine ⟨L, _, _, rfl, rfl, eL, (by show 4 < sizeLine; decide), ?_⟩
    have Se : Same H (upd (upd H16 q5 (.lst [.ref p9, .ref p10])) L (.lst ([.ref q1, .ref q2, .ref q3, .ref q4] ++ [.ref q5]))) := fun b' u e => by
      rw [upd_ne (fun q => by rw [q, hHL] at e; cases e)]
      exact z _ _ (t12 _ _ (S1 _ _ e))
    refine ⟨_, rfl, _, _, rfl, rfl, ⟨by show (0 : Int) ≤ (n : Int); omega, by show (n : Int) ≤ 1000000; omega, by decide⟩, ?_⟩
    have all : ∀ v ∈ ([.ref q1, .ref q2, .ref q3, .ref q4] ++ [.ref q5] : List V), ∃ l, v = .ref l ∧ Pr C n (upd (upd H16 q5 (.lst [.ref p9, .ref p10])) L (.lst ([.ref q1, .ref q2, .ref q3, .ref q4] ++ [.ref q5]))) l := fun v hv => by
      simp only [List.cons_append, List.nil_append, List.mem_cons, List.not_mem_nil, or_false] at hv
      rcases hv with rfl | rfl | rfl | rfl | rfl
      · exact ⟨_, rfl, P1⟩
      · exact ⟨_, rfl, P2⟩
      · exact ⟨_, rfl, P3⟩
      · exact ⟨_, rfl, P4⟩
      · exact ⟨_, rfl, P5⟩
    have hp : (0 : Int) < 2 ^ n := Int.pow_pos (by decide)
    refine ⟨_, rfl, L, rfl, ⟨_, SqL.of upd_same⟩, for_list (K := K) (a := L) (xs := [.ref q1, .ref q2, .ref q3, .ref q4] ++ [.ref q5]) (fun j σ H' => ∃ (v10 v11 : Option V), σ = [some (.ref a), some (.ref b), some (.ref c), some (.int n), some (.ref D), some (.ref wa), some (.ref wb), some (.ref wc), some (.ref L), some (.int (2 ^ n)), v10, v11, none] ∧
      Same (upd (upd H16 q5 (.lst [.ref p9, .ref p10])) L (.lst ([.ref q1, .ref q2, .ref q3, .ref q4] ++ [.ref q5]))) H')
      ⟨none, none, by rw [← WP.p2 n]; rfl, Same.refl _⟩ (fun j σ H' _ h => by obtain ⟨_, _, _, s⟩ := h; exact SqL.of (s _ _ upd_same)) ?_ ?_⟩
    · rintro j x σ H' hj ⟨v10, v11, rfl, s'⟩
      obtain ⟨l, rfl, hl⟩ := all x (List.mem_of_getElem? hj)
      obtain ⟨p, q, lo, hi, lo', hi', hll, mp, mq, e1, e2⟩ := hl.mono s'
      refine ⟨l, _, rfl, SqL.of hll, rfl, _, _, rfl, _, _, rfl, rfl, ?_⟩
      refine ⟨_, rfl, p, n, lo, hi, rfl, mp, _, rfl, p, n, lo, hi, rfl, mp, two_sz, fun x hx => ?_⟩
      have gx := G.upd (o := .lst [.int lo, .int hi]) hx
      refine ⟨_, rfl, q, n + 1, lo', hi', rfl, mq.mono gx, _, rfl, _, _, rfl, rfl, hp, _, rfl, q, n + 1, lo', hi', rfl, mq.mono gx, _, rfl, _, _, rfl, rfl, hp, two_sz, fun y hy => ?_⟩
      have gy := G.upd (o := .lst [.int (lo' % 2 ^ n), .int (hi' % 2 ^ n)]) hy
      refine ⟨.list [.int lo, .int hi], .list [.int (lo' % 2 ^ n), .int (hi' % 2 ^ n)], .lst (SqL.of (gy _ _ upd_same)) (.cons (.int _) (.cons (.int _) .nil)), .lst (SqL.of upd_same) (.cons (.int _) (.cons (.int _) .nil)), rfl, rfl, ?_⟩
      rw [eq2 e1 e2]
      refine ⟨_, rfl, iteF ?_⟩
      exact ⟨_, _, rfl, Same.trans s' (Same.trans gx gy)⟩
    · rintro σ H' ⟨v10, v11, rfl, s'⟩
      exact k _ (Same.trans Se s')
end
end WP


set_option Elab.async false
set_option linter.all false
set_option maxRecDepth 100000
set_option maxHeartbeats 8000000
/-! K15Mult: _law_multiples_right. -/
namespace WP
open PySem PySem.Spec PyProof.Rows L2 WA WR

theorem p7 {s : Nat} (h : s < 7) : (1 : Int) ≤ 2 ^ s ∧ (2 : Int) ^ s ≤ 64 := by
  have : s = 0 ∨ s = 1 ∨ s = 2 ∨ s = 3 ∨ s = 4 ∨ s = 5 ∨ s = 6 := by omega
  rcases this with rfl | rfl | rfl | rfl | rfl | rfl | rfl <;> decide
theorem cPow {n : Nat} (h : n ≤ 64) : (0 : Int) ≤ (n : Int) ∧ (n : Int) ≤ 1000000 ∧ Int.natAbs 1 < 2 ^ 64 := ⟨by omega, by omega, by decide⟩
theorem pow_pos'' (n : Nat) : (0 : Int) < 1 * 2 ^ ((n : Int)).toNat := by rw [p2]; exact Int.pow_pos (by decide)
def spMult (K : PySem.W.Frag) (C : Addr) : Sp := fun vs H Q _ => ∃ (d r a b : Addr) (t w : Nat) (l1 h1 l2 h2 : Int), vs = [.ref d, .ref a, .ref b] ∧ Drw K H d r t ∧ t ≤ 700 ∧ IsM C H a w l1 h1 ∧ IsM C H b w l2 h2 ∧ ∀ H', Kp d r H H' → Drw K H' d r (t + 7) → Q (.bl true) H'

section
variable {P : Program} {w : World} {K : PySem.W.Frag} {mg : Str → Option Value} {base : Heap} {C f : Addr} {fd : FuncData} {mc : Value} {pN gN : Addr}
theorem ok_mult (F : Fun K "_law_multiples_right" "_law_multiples_right" (top 42) f fd) (T : Txt K mg C) (p_width : Prp P w K mg base C 1 "width" (sp1 (rI1 C fW)))
    (m_neg : Mt P w K mg base C 7 "__neg__" (sp1 (rNeg C))) (m_add : Mt P w K mg base C 7 "__add__" (sp2 (rNN C SAdd))) (m_sub : Mt P w K mg base C 7 "__sub__" (sp2 (rNN C SSub))) (m_shl : Mt P w K mg base C 5 "__lshift__" (sp2 (rShl C)))
    (m_eq : Mt P w K mg base C 1 "__eq__" (sp2 (rEqM C))) (m_is_within : Mt P w K mg base C 2 "is_within" (sp2 (rWtn C))) (g_sum_mask : Cl P w K mg base 6 "sum_mask" (spSum K C))
    (cRd : ClX.CRead K C mc) (cNar : ClX.CMet K C mc "narrowest" pN gN) (gNar : FnR P w K mg base CX0 5 gN (spNarr K C))
    (g__law_next : Cl P w K mg base 1 "_law_next" (spNext K)) (g__law_word : Cl P w K mg base 3 "_law_word" (spWrd K)) (g__law_one : Cl P w K mg base 2 "_law_one" (spOne K)) : FnOk P w K mg base CX0 8 f fd ["_law_drawn", "_law_one_here", "_law_other"] (spMult K C) := by
  have sc : FnScope ["_law_drawn", "_law_one_here", "_law_other", "_law_shift", "_law_number", "_law_at_once", "_law_steps", "_law_width_here", "_law_factor", "_law_more", "_law_negative"] ["_law_drawn", "_law_one_here", "_law_other"] (defScope (top 42)) := ⟨rfl, rfl, rfl, by decide +kernel, rfl, by decide +kernel, by decide +kernel⟩
  refine F.ok sc (fun vs H Q E h => ?_) (fun cdv A outer s H vs Q E hr h => ?_)
  · obtain ⟨d, r, a, b, t, n, l1, h1, l2, h2, rfl, _⟩ := h
    rfl
  · obtain ⟨d, r, a, b, t, n, l1, h1, l2, h2, rfl, hD, ht, ma, mb, k⟩ := h
    have ka := ma.msk
    have kb := mb.msk
    have hn := ma.wd
    refine ⟨_, (pss_cons (ps_par (i := 3) (j := 4) (by rfl) sc.nd rfl rfl (by decide) rfl rfl (pa_cons (pe_cl g__law_next hr (by decide) rfl (pa_cons (pv 0) (pa_cons (pe_callB (call_min2 rfl) (by rfl) T.min (by decide +kernel) (pa_cons (pe_pI (pv 1) T p_width hr (by decide)) (pa_cons pe_int pa_nil))) pa_nil))) (pa_cons (pe_cl g__law_word hr (by decide) rfl (pa_cons (pv 0) (pa_cons pe_int pa_nil))) pa_nil)) (by rfl))
      (pss_cons (ps_if (pt_cmpR (op_ne' m_eq T hr (by decide)) (pe_op (op_shl' m_shl T hr (by decide)) (pv 1) (pv 3)) (pe_cl g_sum_mask hr (by decide) rfl (pa_cons (pe_tup (pa_cons (pe_tup (pa_cons (pe_op op_shl pe_int (pv 3)) (pa_cons (pv 1) pa_nil))) pa_nil)) (pa_cons pe_int pa_nil))) (nomark _)) (pss_one (ps_ret pe_bl)) pss_nil)
      (pss_cons (ps_par (i := 5) (j := 6) (by rfl) sc.nd rfl rfl (by decide) rfl rfl (pa_cons (pe_cl g_sum_mask hr (by decide) rfl (pa_cons (pe_tup (pa_cons (pe_tup (pa_cons pe_int (pa_cons (pv 1) pa_nil))) (pa_cons (pe_tup (pa_cons (pe_un un_neg pe_int) (pa_cons (pv 2) pa_nil))) pa_nil))) (pa_cons (pv 4) pa_nil))) (pa_cons (pe_op (op_sub' m_sub T hr (by decide)) (pe_op (op_sub' m_sub T hr (by decide)) (pe_op (op_add' m_add T hr (by decide)) (pe_op (op_add' m_add T hr (by decide)) (pv 1) (pv 1)) (pv 1)) (pv 2)) (pv 2)) pa_nil)) (by rfl))
      (pss_cons (ps_set (i := 7) sc.nd rfl (Or.inl rfl) (pe_pI (pv 1) T p_width hr (by decide)))
      (pss_cons (ps_set (i := 6) sc.nd rfl (Or.inl rfl) (pe_op (op_add' m_add T hr (by decide)) (pv 6) (ClX.pe_cmeth (pe_glob (v := .ref C) rfl T.mgC rfl) cRd cNar gNar (hr.mono (by decide)) pass0 (pa_cons (pv 7) (pa_cons (pe_tup (pa_cons (pe_op op_mod (pv 4) (pe_op op_shl pe_int (pv 7))) pa_nil)) pa_nil)))))
      (pss_cons (ps_if (pt_not (pt_val (pe_m2 (pv 5) T m_is_within hr (by decide) (pa_cons (pv 6) pa_nil)))) (pss_one (ps_ret pe_bl)) pss_nil)
      (pss_cons (ps_if (pt_cmpR (op_ne' m_eq T hr (by decide)) (pv 5) (pe_cl g_sum_mask hr (by decide) rfl (pa_cons (pe_tup (pa_cons (pe_tup (pa_cons (pe_un un_neg pe_int) (pa_cons (pv 2) pa_nil))) (pa_cons (pe_tup (pa_cons pe_int (pa_cons (pv 1) pa_nil))) pa_nil))) (pa_cons (pe_op op_mod (pv 4) (pe_op op_shl pe_int (pv 7))) pa_nil))) (nomark _)) (pss_one (ps_ret pe_bl)) pss_nil)
      (pss_cons (ps_par (i := 8) (j := 9) (by rfl) sc.nd rfl rfl (by decide) rfl rfl (pa_cons (pe_cl g__law_one hr (by decide) rfl (pa_cons (pv 0) (pa_cons (pe_lst (pa_cons pe_int (pa_cons pe_int (pa_cons (pe_un un_neg pe_int) (pa_cons pe_int pa_nil))))) pa_nil))) (pa_cons (pe_cl g__law_one hr (by decide) rfl (pa_cons (pv 0) (pa_cons (pe_lst (pa_cons pe_int (pa_cons pe_int (pa_cons (pe_un un_neg pe_int) pa_nil)))) pa_nil))) pa_nil)) (by rfl))
      (pss_cons (ps_set (i := 10) sc.nd rfl (Or.inl rfl) (pe_cl g_sum_mask hr (by decide) rfl (pa_cons (pe_tup (pa_cons (pe_tup (pa_cons (pe_op op_sub pe_int (pv 8)) (pa_cons (pv 1) pa_nil))) (pa_cons (pe_tup (pa_cons (pe_op op_sub pe_int (pv 9)) (pa_cons (pv 2) pa_nil))) pa_nil))) (pa_cons (pe_op op_sub pe_int (pv 4)) pa_nil))))
      (pss_one (ps_ret (pe_m2 (pv 10) T m_is_within hr (by decide) (pa_cons (pe_un (un_neg' m_neg hr (by decide)) (pe_cl g_sum_mask hr (by decide) rfl (pa_cons (pe_tup (pa_cons (pe_tup (pa_cons (pv 8) (pa_cons (pv 1) pa_nil))) (pa_cons (pe_tup (pa_cons (pv 9) (pa_cons (pv 2) pa_nil))) pa_nil))) (pa_cons (pv 4) pa_nil)))) pa_nil))))))))))))), ?_⟩
    refine ⟨_, rfl, _, rfl, a, n, l1, h1, rfl, ma, _, _, rfl, d, r, t, _, rfl, hD, by omega, ?_, ?_, fun H1 v kp1 hD1 v0 v1 => ?_⟩
    · show (1 : Int) ≤ if (7 : Int) < (n : Int) then 7 else (n : Int)
      split <;> omega
    · show (if (7 : Int) < (n : Int) then 7 else (n : Int)) ≤ 10 ^ 10
      split <;> omega
    refine ⟨_, rfl, d, r, t + 1, 64, rfl, hD1, by omega, by decide, by decide, fun H2 x kp2 hD2 hx => ⟨_, _, rfl, ?_⟩⟩
    obtain ⟨s', rfl⟩ : ∃ s' : Nat, v = s' := ⟨v.toNat, by omega⟩
    have hs7 : s' < 7 ∧ s' < n := by
      change (s' : Int) < if (7 : Int) < (n : Int) then 7 else (n : Int) at v1
      split at v1 <;> omega
    have kp12 := Kp.trans kp1 kp2
    have t12 := hD.ti kp12
    have ma := ma.ti t12
    have mb := mb.ti t12
    -- a shift is a multiple
    refine ⟨_, rfl, _, rfl, a, n, l1, h1, s', rfl, rfl, hs7.2, ma, fun p1 H3 s3 m3 => ?_⟩
    refine ⟨_, rfl, _, _, rfl, rfl, cPow (by omega), _, rfl, two_sz, fun q1 hq1 => ?_⟩
    have g1 := G.upd (o := .tup [.int (1 * 2 ^ ((s' : Int)).toNat), .ref a]) hq1
    refine ⟨one_sz, fun q2 hq2 => ?_⟩
    have g2 := G.upd (o := .tup [.ref q1]) hq2
    have u3 := Same.trans s3 (Same.trans g1 g2)
    have b7 := p7 hs7.1
    refine ⟨q2, 0, n, [(1 * 2 ^ ((s' : Int)).toNat, l1, h1)], rfl, tmA1 (SqT.of upd_same) (G.sqT g2 (SqT.of upd_same)) (ma.mono u3), small1 (by rw [WP.p2]; omega) (by rw [WP.p2]; omega), fun p2 H4 lo4 hi4 s4 m4 n4 => ?_⟩
    rw [WP.p2] at n4
    obtain ⟨rfl, rfl⟩ := shl_sum ka n4
    refine ⟨p1, p2, n, _, _, rfl, rfl, m3.mono (Same.trans (Same.trans g1 g2) s4), m4, false, rfl, iteF ?_⟩
    have u4 := Same.trans u3 s4
    -- at once and by steps
    refine ⟨_, rfl, two_sz, fun q3 hq3 => ?_⟩
    have g3 := G.upd (o := .tup [.int 3, .ref a]) hq3
    refine ⟨_, rfl, _, rfl, two_sz, fun q4 hq4 => ?_⟩
    have g4 := G.upd (o := .tup [.int (-2), .ref b]) hq4
    refine ⟨two_sz, fun q5 hq5 => ?_⟩
    have g5 := G.upd (o := .tup [.ref q3, .ref q4]) hq5
    have u5 := Same.trans u4 (Same.trans g3 (Same.trans g4 g5))
    refine ⟨_, rfl, q5, x, n, [(3, l1, h1), (-2, l2, h2)], rfl, tmA2 (SqT.of upd_same) (G.sqT (Same.trans g4 g5) (SqT.of upd_same)) (ma.mono u5) (G.sqT g5 (SqT.of upd_same)) (mb.mono u5), small2 (by decide) (by decide) (by decide) (by decide), fun pt H6 lo6 hi6 s6 m6 n6 => ?_⟩
    have u6 := Same.trans u5 s6
    refine ⟨_, rfl, _, rfl, a, a, n, l1, h1, l1, h1, rfl, rfl, ma.mono u6, ma.mono u6, fun p3 H7 lo7 hi7 s7 m7 n7 => ?_⟩
    have u7 := Same.trans u6 s7
    refine ⟨_, rfl, p3, a, n, lo7, hi7, l1, h1, rfl, rfl, m7, ma.mono u7, fun p4 H8 lo8 hi8 s8 m8 n8 => ?_⟩
    have u8 := Same.trans u7 s8
    refine ⟨_, rfl, p4, b, n, lo8, hi8, l2, h2, rfl, rfl, m8, mb.mono u8, fun p5 H9 lo9 hi9 s9 m9 n9 => ?_⟩
    have u9 := Same.trans u8 s9
    refine ⟨_, rfl, p5, b, n, lo9, hi9, l2, h2, rfl, rfl, m9, mb.mono u9, fun p6 H10 lo10 hi10 s10 m10 n10 => ⟨_, _, rfl, ?_⟩⟩
    have u10 := Same.trans u9 s10
    have m6' := m6.mono (Same.trans s7 (Same.trans s8 (Same.trans s9 s10)))
    refine ⟨_, rfl, a, n, l1, h1, rfl, ma.mono u10, ?_⟩
    refine ⟨_, rfl, rfl, _, rfl, _, rfl, _, rfl, _, _, rfl, rfl, cPow (by omega), _, _, rfl, rfl, pow_pos'' n, one_sz, fun q6 hq6 => ?_⟩
    have g6 := G.upd (o := .tup [.int (x % (1 * 2 ^ ((n : Int)).toNat))]) hq6
    refine ⟨n, q6, x % (1 * 2 ^ ((n : Int)).toNat), rfl, hn, by rw [WP.p2]; exact mod_inW x n, SqT.of upd_same, fun p7 H11 s11 m11 => ?_⟩
    have v11 := Same.trans g6 s11
    refine ⟨p6, p7, n, lo10, hi10, _, _, rfl, rfl, m10.mono v11, m11, fun p8 H12 lo12 hi12 s12 m12 n12 => ?_⟩
    rw [WP.p2] at n12
    have v12 := Same.trans v11 s12
    have u12 := Same.trans u10 v12
    have m6a := m6'.mono v12
    refine ⟨_, rfl, ⟨pt, n, lo6, hi6, rfl, m6a⟩, _, rfl, _, rfl, pt, p8, n, lo6, hi6, lo12, hi12, rfl, rfl, m6a, m12, fun k1 hk => ⟨k1, rfl, ?_⟩⟩
    have ek : k1 = true := hk.mpr (steps_wtn ka kb n6 n7 n8 n9 n10 n12)
    subst ek
    refine iteF ?_
    -- the same terms in another order
    refine ⟨_, rfl, _, rfl, _, rfl, two_sz, fun q7 hq7 => ?_⟩
    have g7 := G.upd (o := .tup [.int (-2), .ref b]) hq7
    refine ⟨_, rfl, two_sz, fun q8 hq8 => ?_⟩
    have g8 := G.upd (o := .tup [.int 3, .ref a]) hq8
    refine ⟨two_sz, fun q9 hq9 => ?_⟩
    have g9 := G.upd (o := .tup [.ref q7, .ref q8]) hq9
    have v13 := Same.trans g7 (Same.trans g8 g9)
    have u13 := Same.trans u12 v13
    refine ⟨_, rfl, _, rfl, _, _, rfl, rfl, cPow (by omega), _, _, rfl, rfl, pow_pos'' n, ?_⟩
    refine ⟨q9, x % (1 * 2 ^ ((n : Int)).toNat), n, [(-2, l2, h2), (3, l1, h1)], rfl, tmA2 (SqT.of upd_same) (G.sqT (Same.trans g8 g9) (SqT.of upd_same)) (mb.mono u13) (G.sqT g9 (SqT.of upd_same)) (ma.mono u13), small2 (by decide) (by decide) (by decide) (by decide), fun p9 H14 lo14 hi14 s14 m14 n14 => ?_⟩
    rw [WP.p2] at n14
    obtain ⟨rfl, rfl⟩ := swap_sum n6 n14
    have u14 := Same.trans u13 s14
    refine ⟨pt, p9, n, _, _, rfl, rfl, m6a.mono (Same.trans v13 s14), m14, false, rfl, iteF ?_⟩
    -- factors
    have D14 := hD2.same u14
    refine ⟨_, rfl, _, rfl, (by show 4 ≤ sizeLine; decide), fun l hl => ?_⟩
    have hw := D14.new hl
    refine ⟨d, r, l, t + 1 + 4, [1, 5, -7, 100], rfl, D14.same (G.upd hl), by omega, hw.1, hw.2, upd_same, (by show 1 ≤ 4; decide), (by show 4 ≤ 100; decide), fun H15 u kp3 hD3 hu => ?_⟩
    have bu : -500 ≤ 0 - u ∧ 0 - u ≤ 500 ∧ -500 ≤ u ∧ u ≤ 500 := by
      simp only [List.mem_cons, List.not_mem_nil, or_false] at hu
      omega
    refine ⟨_, rfl, _, rfl, (by show 3 ≤ sizeLine; decide), fun l' hl' => ?_⟩
    have hw' := hD3.new hl'
    refine ⟨d, r, l', t + 1 + 4 + 1, [1, 2, -3], rfl, hD3.same (G.upd hl'), by omega, hw'.1, hw'.2, upd_same, (by show 1 ≤ 3; decide), (by show 3 ≤ 100; decide), fun H16 y kp4 hD4 hy => ⟨_, _, rfl, ?_⟩⟩
    have by' : -500 ≤ 0 - y ∧ 0 - y ≤ 500 ∧ -500 ≤ y ∧ y ≤ 500 := by
      simp only [List.mem_cons, List.not_mem_nil, or_false] at hy
      omega
    have kpz : Kp d r H2 H16 := Kp.trans (Kp.same (Same.trans u14 (G.upd hl))) (Kp.trans kp3 (Kp.trans (Kp.same (G.upd hl')) kp4))
    have tz := hD2.ti kpz
    have ma := ma.ti tz
    have mb := mb.ti tz
    -- negatives
    refine ⟨_, rfl, _, _, rfl, rfl, _, rfl, two_sz, fun q10 hq10 => ?_⟩
    have g10 := G.upd (o := .tup [.int (0 - u), .ref a]) hq10
    refine ⟨_, rfl, _, _, rfl, rfl, _, rfl, two_sz, fun q11 hq11 => ?_⟩
    have g11 := G.upd (o := .tup [.int (0 - y), .ref b]) hq11
    refine ⟨two_sz, fun q12 hq12 => ?_⟩
    have g12 := G.upd (o := .tup [.ref q10, .ref q11]) hq12
    have u17 := Same.trans g10 (Same.trans g11 g12)
    refine ⟨_, rfl, _, _, rfl, rfl, q12, 0 - x, n, [(0 - u, l1, h1), (0 - y, l2, h2)], rfl, tmA2 (SqT.of upd_same) (G.sqT (Same.trans g11 g12) (SqT.of upd_same)) (ma.mono u17) (G.sqT g12 (SqT.of upd_same)) (mb.mono u17), small2 bu.1 bu.2.1 by'.1 by'.2.1, fun p10 H18 lo18 hi18 s18 m18 n18 => ?_⟩
    have u18 := Same.trans u17 s18
    refine ⟨_, rfl, ⟨p10, n, lo18, hi18, rfl, m18⟩, ?_⟩
    refine ⟨_, rfl, _, rfl, two_sz, fun q13 hq13 => ?_⟩
    have g13 := G.upd (o := .tup [.int u, .ref a]) hq13
    refine ⟨_, rfl, _, rfl, two_sz, fun q14 hq14 => ?_⟩
    have g14 := G.upd (o := .tup [.int y, .ref b]) hq14
    refine ⟨two_sz, fun q15 hq15 => ?_⟩
    have g15 := G.upd (o := .tup [.ref q13, .ref q14]) hq15
    have v19 := Same.trans g13 (Same.trans g14 g15)
    have u19 := Same.trans u18 v19
    refine ⟨_, rfl, q15, x, n, [(u, l1, h1), (y, l2, h2)], rfl, tmA2 (SqT.of upd_same) (G.sqT (Same.trans g14 g15) (SqT.of upd_same)) (ma.mono u19) (G.sqT g15 (SqT.of upd_same)) (mb.mono u19), small2 bu.2.2.1 bu.2.2.2 by'.2.2.1 by'.2.2.2, fun p11 H20 lo20 hi20 s20 m20 n20 => ?_⟩
    refine ⟨p11, n, lo20, hi20, rfl, m20, fun p12 H21 lo21 hi21 s21 m21 n21 => ?_⟩
    refine ⟨_, rfl, p10, p12, n, lo18, hi18, lo21, hi21, rfl, rfl, m18.mono (Same.trans v19 (Same.trans s20 s21)), m21, fun k1 hk => ?_⟩
    have ek : k1 = true := hk.mpr (negs_wtn n18 n20 n21)
    subst ek
    have uz := Same.trans u19 (Same.trans s20 s21)
    exact k _ (Kp.trans kp12 (Kp.trans kpz (Kp.same uz))) (hD4.same uz)
end
end WP


set_option Elab.async false
set_option linter.all false
set_option maxRecDepth 100000
set_option maxHeartbeats 8000000
/-! K16Law: law. -/
namespace WP
open PySem PySem.Spec PyProof.Rows L2 WA WR

def spLaw (K : PySem.W.Frag) : Sp := fun vs H Q _ => ∃ (a : Addr) (ns : List Int), vs = [.ref a] ∧ SqL K H a (ns.map V.int) ∧ ns.length ≤ 63 ∧ ∀ H', Q (.bl true) H'

section
variable {P : Program} {w : World} {K : PySem.W.Frag} {mg : Str → Option Value} {base : Heap} {C f : Addr} {fd : FuncData}
theorem ok_law (F : Fun K "law" "law" (top 45) f fd) (T : Txt K mg C) (g__law_draws : Cl P w K mg base 1 "_law_draws" (spDraws K)) (g__law_next : Cl P w K mg base 1 "_law_next" (spNext K)) (g__law_one : Cl P w K mg base 2 "_law_one" (spOne K))
    (g__law_width : Cl P w K mg base 3 "_law_width" (spWd K)) (g__law_mask : Cl P w K mg base 5 "_law_mask" (spMsk K C)) (g__law_signs_right : Cl P w K mg base 8 "_law_signs_right" (spSigns C)) (g__law_sets_right : Cl P w K mg base 8 "_law_sets_right" (spSets C))
    (g__law_wider_right : Cl P w K mg base 8 "_law_wider_right" (spWider C)) (g__law_multiples_right : Cl P w K mg base 8 "_law_multiples_right" (spMult K C)) : FnOk P w K mg base CX0 9 f fd ["_law_script"] (spLaw K) := by
  have sc : FnScope ["_law_script", "_law_drawn", "_law_turn", "_law_width_here", "_law_one_here", "_law_other", "_law_three"] ["_law_script"] (defScope (top 45)) := ⟨rfl, rfl, rfl, by decide +kernel, rfl, by decide +kernel, by decide +kernel⟩
  refine F.ok sc (fun vs H Q E h => ?_) (fun cdv A outer s H vs Q E hr h => ?_)
  · obtain ⟨a, ns, rfl, _⟩ := h
    rfl
  · obtain ⟨a, ns, rfl, ha, hl, k⟩ := h
    refine ⟨_, (pss_cons (ps_set (i := 1) sc.nd rfl (Or.inl rfl) (pe_cl g__law_draws hr (by decide) rfl (pa_cons (pv 0) pa_nil)))
      (pss_cons (ps_for PassesOwn.never rfl (pi_range1 rfl T.range (pa_cons pe_int pa_nil)) (pg_name (i := 2) sc.nd rfl (Or.inl rfl))
      (pss_cons (ps_set (i := 3) sc.nd rfl (Or.inl rfl) (pe_cl g__law_one hr (by decide) rfl (pa_cons (pv 1) (pa_cons (pe_lst (pa_cons (pe_cl g__law_width hr (by decide) rfl (pa_cons (pv 1) pa_nil)) (pa_cons (pe_op op_add pe_int (pe_cl g__law_next hr (by decide) rfl (pa_cons (pv 1) (pa_cons pe_int pa_nil)))) pa_nil))) pa_nil))))
      (pss_cons (ps_par3 (i := 4) (j := 5) (l := 6) (by rfl) sc.nd rfl rfl rfl (by decide) (by decide) (by decide) rfl rfl rfl (pa_cons (pe_cl g__law_mask hr (by decide) rfl (pa_cons (pv 1) (pa_cons (pv 3) pa_nil))) (pa_cons (pe_cl g__law_mask hr (by decide) rfl (pa_cons (pv 1) (pa_cons (pv 3) pa_nil))) (pa_cons (pe_cl g__law_mask hr (by decide) rfl (pa_cons (pv 1) (pa_cons (pv 3) pa_nil))) pa_nil))) (by rfl))
      (pss_cons (ps_if (PW.pt (pw_or (pt_not (pt_val (pe_cl g__law_signs_right hr (by decide) rfl (pa_cons (pv 4) (pa_cons (pv 5) pa_nil))))) (pw_or1 (pt_not (pt_val (pe_cl g__law_sets_right hr (by decide) rfl (pa_cons (pv 4) (pa_cons (pv 5) (pa_cons (pv 6) pa_nil))))))))) (pss_one (ps_ret pe_bl)) pss_nil)
      (pss_one (ps_if (PW.pt (pw_or (pt_not (pt_val (pe_cl g__law_wider_right hr (by decide) rfl (pa_cons (pv 4) (pa_cons (pv 5) (pa_cons (pv 6) pa_nil)))))) (pw_or1 (pt_not (pt_val (pe_cl g__law_multiples_right hr (by decide) rfl (pa_cons (pv 1) (pa_cons (pv 4) (pa_cons (pv 5) pa_nil))))))))) (pss_one (ps_ret pe_bl)) pss_nil))))))
      (pss_one (ps_ret pe_bl)))), ?_⟩
    refine ⟨_, rfl, a, ns, rfl, ha, hl, fun H0 d r s0 hD0 => ?_⟩
    refine ⟨5, rfl, by decide, by decide, ?_⟩
    refine for_range (lo := 0) (n := ((5 : Int)).toNat) (fun i σ H' => ∃ (v2 v3 v4 v5 v6 : Option V), σ = [some (.ref a), some (.ref d), v2, v3, v4, v5, v6] ∧ Drw K H' d r (38 * i)) ⟨none, none, none, none, none, rfl, hD0⟩ ?_ ?_
    · rintro i σ H hi ⟨v2, v3, v4, v5, v6, rfl, hD⟩
      have hi : i < 5 := hi
      refine ⟨_, rfl, _, rfl, d, r, 38 * i, rfl, hD, by omega, fun H1 w1 kp1 hD1 a1 b1 => ?_⟩
      refine ⟨_, rfl, d, r, 38 * i + 2, 12, rfl, hD1, by omega, by decide, by decide, fun H2 v kp2 hD2 v0 v1 => ⟨_, _, rfl, rfl, two_sz, fun l hl => ?_⟩⟩
      have hw := hD2.new hl
      refine ⟨d, r, l, 38 * i + 2 + 1, [(w1 : Int), 1 + v], rfl, hD2.same (G.upd hl), by omega, hw.1, hw.2, upd_same, (by show 1 ≤ 2; decide), (by show 2 ≤ 100; decide), fun H3 u kp3 hD3 hu => ?_⟩
      have hb : 1 ≤ u ∧ u ≤ 64 := by
        simp only [List.mem_cons, List.not_mem_nil, or_false] at hu
        omega
      obtain ⟨n, rfl⟩ : ∃ n : Nat, u = n := ⟨u.toNat, by omega⟩
      refine ⟨_, rfl, _, rfl, d, r, 38 * i + 4, n, rfl, hD3, by omega, by omega, by omega, fun H4 p1 l1 h1 kp4 hD4 m1 => ?_⟩
      refine ⟨_, rfl, _, rfl, d, r, 38 * i + 4 + 9, n, rfl, hD4, by omega, by omega, by omega, fun H5 p2 l2 h2 kp5 hD5 m2 => ?_⟩
      have m1 := m1.ti (hD4.ti kp5)
      refine ⟨_, rfl, _, rfl, d, r, 38 * i + 4 + 9 + 9, n, rfl, hD5, by omega, by omega, by omega, fun H6 p3 l3 h3 kp6 hD6 m3 => ⟨_, _, _, rfl, ?_⟩⟩
      have m1 := m1.ti (hD5.ti kp6)
      have m2 := m2.ti (hD5.ti kp6)
      refine ⟨_, rfl, _, rfl, p1, p2, n, l1, h1, l2, h2, rfl, m1, m2, fun H7 s7 => ⟨true, rfl, iteF ?_⟩⟩
      refine ⟨_, rfl, _, rfl, _, rfl, p1, p2, p3, n, l1, h1, l2, h2, l3, h3, rfl, m1.mono s7, m2.mono s7, m3.mono s7, fun H8 s8 => ⟨true, rfl, iteF ?_⟩⟩
      have s78 := Same.trans s7 s8
      refine ⟨_, rfl, _, rfl, _, rfl, p1, p2, p3, n, l1, h1, l2, h2, l3, h3, rfl, m1.mono s78, m2.mono s78, m3.mono s78, fun H9 s9 => ⟨true, rfl, iteF ?_⟩⟩
      have s79 := Same.trans s78 s9
      refine ⟨_, rfl, _, rfl, _, rfl, d, r, p1, p2, 38 * i + 4 + 9 + 9 + 9, n, l1, h1, l2, h2, rfl, hD6.same s79, by omega, m1.mono s79, m2.mono s79, fun H10 kp10 hD10 => ⟨true, rfl, iteF ?_⟩⟩
      exact ⟨_, _, _, _, _, rfl, hD10⟩
    · rintro σ H ⟨v2, v3, v4, v5, v6, rfl, hD⟩
      exact k _
end
end WP


set_option Elab.async false
set_option linter.all false
set_option maxRecDepth 100000
set_option maxHeartbeats 0
/-! K17Head: the head's facts, the run of the top, the law. Printed by gen_head.py. -/
namespace WH
open PySem PySem.Spec PyProof.Rows L2

/-! ### where a def stands -/
def aG (x : Str) : PySem.W.Frag → Addr := fun K => He.ga K x
def aK (K : PySem.W.Frag) : Addr := He.ga K "Mask"
def aM (m : Str) : PySem.W.Frag → Addr := fun K => He.ma K (aK K) m
def aP (m : Str) : PySem.W.Frag → Addr := fun K => He5.wf K (aK K) "property" m
def aC (m : Str) : PySem.W.Frag → Addr := fun K => He5.wf K (aK K) "classmethod" m
def mk (a : PySem.W.Frag → Addr) (x q : Str) (s : Stmt) : He5.DefA := ⟨a, x, q, defArgs s, defBody s, defScope s, [], []⟩
def fn1 : List He5.DefA := [mk (aG "is_within_words") "is_within" "is_within" (WP.top 12),
  mk (aG "is_width") "is_width" "is_width" (WP.top 14),
  mk (aG "size_of") "size_of" "size_of" (WP.top 15),
  mk (aG "is_word") "is_word" "is_word" (WP.top 16),
  mk (aG "need_widths") "need_widths" "need_widths" (WP.top 19),
  mk (aG "with_open") "with_open" "with_open" (WP.top 22),
  mk (aG "sum_between") "sum_between" "sum_between" (WP.top 24),
  mk (aM "__init__") "__init__" "Mask.__init__" (WP.inMask 0),
  mk (aC "narrowest") "narrowest" "Mask.narrowest" (WP.inMask 2),
  mk (aP "width") "width" "Mask.width" (WP.inMask 3),
  mk (aP "least") "least" "Mask.least" (WP.inMask 4),
  mk (aP "greatest") "greatest" "Mask.greatest" (WP.inMask 5),
  mk (aM "open_ones") "open_ones" "Mask.open_ones" (WP.inMask 7),
  mk (aM "need_shift") "need_shift" "Mask.need_shift" (WP.inMask 11),
  mk (aM "common_with") "common_with" "Mask.common_with" (WP.inMask 12),
  mk (aM "union_with") "union_with" "Mask.union_with" (WP.inMask 13),
  mk (aM "is_within") "is_within" "Mask.is_within" (WP.inMask 14),
  mk (aM "__and__") "__and__" "Mask.__and__" (WP.inMask 18),
  mk (aM "__or__") "__or__" "Mask.__or__" (WP.inMask 19),
  mk (aM "__xor__") "__xor__" "Mask.__xor__" (WP.inMask 20),
  mk (aM "__invert__") "__invert__" "Mask.__invert__" (WP.inMask 21),
  mk (aM "__add__") "__add__" "Mask.__add__" (WP.inMask 22)]
def fn2 : List He5.DefA := [mk (aM "__sub__") "__sub__" "Mask.__sub__" (WP.inMask 23),
  mk (aM "__neg__") "__neg__" "Mask.__neg__" (WP.inMask 24),
  mk (aM "__lshift__") "__lshift__" "Mask.__lshift__" (WP.inMask 25),
  mk (aM "__eq__") "__eq__" "Mask.__eq__" (WP.inMask 27),
  mk (aG "bit_choices") "bit_choices" "bit_choices" (WP.top 27),
  mk (aG "all_choices") "all_choices" "all_choices" (WP.top 28),
  mk (aG "carried") "carried" "carried" (WP.top 29),
  mk (aG "carry_rows") "carry_rows" "carry_rows" (WP.top 30),
  mk (aG "ways_at") "ways_at" "ways_at" (WP.top 31),
  mk (aG "sum_mask") "sum_mask" "sum_mask" (WP.top 32),
  mk (aG "_law_draws") "_law_draws" "_law_draws" (WP.top 34),
  mk (aG "_law_next") "_law_next" "_law_next" (WP.top 35),
  mk (aG "_law_one") "_law_one" "_law_one" (WP.top 36),
  mk (aG "_law_width") "_law_width" "_law_width" (WP.top 37),
  mk (aG "_law_word") "_law_word" "_law_word" (WP.top 38),
  mk (aG "_law_ends") "_law_ends" "_law_ends" (WP.top 39),
  mk (aG "_law_mask") "_law_mask" "_law_mask" (WP.top 40),
  mk (aG "_law_signs_right") "_law_signs_right" "_law_signs_right" (WP.top 41),
  mk (aG "_law_multiples_right") "_law_multiples_right" "_law_multiples_right" (WP.top 42),
  mk (aG "_law_wider_right") "_law_wider_right" "_law_wider_right" (WP.top 43),
  mk (aG "_law_sets_right") "_law_sets_right" "_law_sets_right" (WP.top 44),
  mk (aG "law") "law" "law" (WP.top 45)]
def fn : List He5.DefA := fn1 ++ fn2
def fa1 : List He.Fa := [.glo "is_within_words", .glo "is_width", .glo "size_of", .glo "is_word", .glo "need_widths", .glo "with_open", .glo "sum_between", .glo "bit_choices", .glo "all_choices", .glo "carried", .glo "carry_rows", .glo "ways_at", .glo "sum_mask", .glo "_law_draws", .glo "_law_next", .glo "_law_one", .glo "_law_width", .glo "_law_word", .glo "_law_ends", .glo "_law_mask", .glo "_law_signs_right", .glo "_law_multiples_right", .glo "_law_wider_right", .glo "_law_sets_right", .glo "law", .glo "Mask", .cls "Mask", .mkr "Mask", .int "WIDTH" 64]
def fa2 : List He.Fa := [.meth "Mask" "open_ones", .meth "Mask" "need_shift", .meth "Mask" "common_with", .meth "Mask" "union_with", .meth "Mask" "is_within", .meth "Mask" "__and__", .meth "Mask" "__or__", .meth "Mask" "__xor__", .meth "Mask" "__invert__", .meth "Mask" "__add__", .meth "Mask" "__sub__", .meth "Mask" "__neg__", .meth "Mask" "__lshift__", .meth "Mask" "__eq__", .noat "Mask" "own_width", .noat "Mask" "low_member", .noat "Mask" "high_member", .free "isinstance", .free "int", .free "bool", .free "len", .free "list", .free "sum", .free "zip", .free "sorted", .free "enumerate", .free "range", .free "min"]
def fa : List He.Fa := fa1 ++ fa2

/-! ### what the masks' class must have, beyond the kit's facts -/
def propB (K : PySem.W.Frag) (C : Addr) (m : Str) : Bool := He.eqO (PySem.W.findIn K (.ref C) m) (some (some (.ref (He.ma K C m)))) && (He.eqO (PySem.W.specialIn K (.ref (He.ma K C m)) "__get__") (some (some (.builtin "property.__get__"))) &&
  (decide (PySem.W.takesIn K (.ref (He.ma K C m)) = some true) && (match PySem.W.recIn K (He.ma K C m) "property" with
    | some (.ref _ :: _) => true
    | _ => false)))
theorem propB_ok {K : PySem.W.Frag} {C : Addr} {m : Str} (h : propB K C m = true) : PropOf K C m (He.ma K C m) (He5.wf K C "property" m) := by
  obtain ⟨h1, h⟩ := He.ba h
  obtain ⟨h2, h⟩ := He.ba h
  obtain ⟨h3, h4⟩ := He.ba h
  refine ⟨He.eqO_ok h1, He.eqO_ok h2, of_decide_eq_true h3, ?_⟩
  unfold He5.wf
  split at h4
  · rename_i f r e
    exact ⟨r, by rw [e]⟩
  · cases h4
def opsB (K : PySem.W.Frag) (C : Addr) : Bool := PySem.W.selfFirst K C && (decide (PySem.W.mroIn K C (.type "object") = some true) && (He.eqO (PySem.W.findIn K (.ref C) "__ne__") (some (some (.builtin "object.__ne__"))) && (He.eqO (PySem.W.findIn K (.ref C) "__rlshift__") (some none) &&
  ((PySem.W.findIn K (.type "int") "__lshift__").isSome && ((PySem.W.findIn K (.type "int") "__rlshift__").isSome && decide (PySem.W.subIn K (.type "int") (.ref C) = some false))))))
def clsB (K : PySem.W.Frag) (C : Addr) : Bool := He.eqO (PySem.W.findIn K (.ref C) "__class__") (some (some (.builtin "object.__class__"))) && (He.eqO (PySem.W.specialIn K (.builtin "object.__class__") "__get__") (some (some (.builtin "getset_descriptor.__get__"))) &&
  (decide (PySem.W.takesIn K (.builtin "object.__class__") = some true) && (PySem.W.keepIn K (.ref C) && (PySem.W.readsIn K C (.type "type") && He.eqO (PySem.W.specialIn K (.ref C) "__getattribute__") (some (some (.builtin "type.__getattribute__")))))))
def prsB (K : PySem.W.Frag) (C : Addr) : Bool := propB K C "width" && (propB K C "least" && (propB K C "greatest" && (He5.wrapB K C "classmethod" "classmethod.__get__" "narrowest" && PySem.W.fnIn K (He5.wf K C "classmethod" "narrowest"))))
def txtB (K : PySem.W.Frag) : Bool := opsB K (aK K) && (clsB K (aK K) && prsB K (aK K))

/-! ### the Hook -/
def obsW (n : Nat) (g : Addr → Option Obj) : He.AlD := ((He5.obsAG n fa fn g).1 && txtB (He.frG g (He5.asA g n)), (He5.obsAG n fa fn g).2)
theorem says_of {n : Nat} {g : Addr → Option Obj} (e : obsW n g = He5.valA fn) : He5.SaysA fa fn (He.frG g (He5.asA g n)) ∧ txtB (He.frG g (He5.asA g n)) = true := by
  obtain ⟨h1, h2⟩ := He.ba (show ((He5.obsAG n fa fn g).1 && txtB (He.frG g (He5.asA g n))) = true from congrArg (fun z : He.AlD => z.1) e)
  have h3 : (He5.obsAG n fa fn g).2 = fn.map He5.DefA.val := congrArg (fun z : He.AlD => z.2) e
  exact ⟨Prod.ext h1 h3, h2⟩
def hk : PySem.W.Hook where
  α := He.AlD
  obs := fun s => obsW 5 s.heap.get?
  val := fun _ => He5.valA fn
  says := fun _ h => ∃ K : PySem.W.Frag, K.In h ∧ He5.SaysA fa fn K ∧ txtB K = true
  of := fun _ _ e => ⟨_, He.frG_in, says_of e⟩
  keeps := fun _ _ _ ⟨K, hK, c⟩ k => ⟨K, PySem.W.Frag.In.keeps hK k, c⟩
def ob (s : PySem.W.SharedT) : He.AlD := obsW 5 (HandSHeadRun.getT s)
theorem ob_eq (s : PySem.W.SharedT) : ob s = hk.obs s.abs := by
  have e : HandSHeadRun.getT s = s.abs.heap.get? := funext (HandSHeadRun.getT_eq s)
  unfold ob
  rw [e] <;> rfl

/-! ### the run of the top -/
abbrev R : PySem.W.OpenRow := PySem.W.OpenLaw.row PySem.Challenge.rw_wordsalike_k74_whole_masks_go_together
abbrev qv : Program := PySem.W.view R.prog [45]
def names1 : List Str := ["_wall", "WIDTH", "WordError", "ParseError", "BadWord", "UnequalWidths", "BadWidth", "NoSuchIndex", "BadMask", "BadShift", "is_within", "is_within_words", "is_width", "size_of", "is_word", "SIGNS", "need_widths", "open_bits", "member_at", "with_open", "text_of", "sum_between", "Mask"]
def names2 : List Str := ["bit_choices", "all_choices", "carried", "carry_rows", "ways_at", "sum_mask", "_law_draws", "_law_next", "_law_one", "_law_width", "_law_word", "_law_ends", "_law_mask", "_law_signs_right", "_law_multiples_right", "_law_wider_right", "_law_sets_right"]
def names : List Str := names1 ++ names2
theorem run (w : World) : HandSHeadRun.RunEq R qv hk ob 6000 names w := by
  intro os
  kernel_rfl

/-! ### what the facts give -/
theorem def_of {K : PySem.W.Frag} (c : He5.SaysA fa fn K) (i : Nat) {a : PySem.W.Frag → Addr} {x q : Str} {s : Stmt} (h : fn[i]? = some (mk a x q s)) {ps : List Str}
    (b : ∀ (kV doc pm : Value) (an : Option Addr) (cdv ct : Value) (us : List Value), us.length = ps.length → bindArgs (PySem.W.fnOf x q (defArgs s) (defBody s) (defScope s) .none kV doc pm an cdv ct) ⟨us, []⟩ = pure (ps.zip us)) :
    ∃ fd, Fun K x q s (a K) fd ∧ Binds K fd ps [] ∧ PySem.W.keepIn K (.ref (a K)) = true := by
  obtain ⟨fd, F⟩ := c.def_ i h
  have F : FunD K x q (defArgs s) (defBody s) (defScope s) [] [] (a K) fd := F
  exact ⟨fd, He5.fun_of F, F.bindsN b, F.kp⟩
section
variable {P : Program} {w : World} {K : PySem.W.Frag} {base h : Heap} {mg : Str → Option Value}
theorem txt_of (X : K.In h) (G : h.Ns mainGlobals mg) (c : He5.SaysA fa fn K) (t : txtB K = true) : WP.Txt K mg (aK K) := by
  obtain ⟨t1, t⟩ := He.ba t
  obtain ⟨t2, _⟩ := He.ba t
  obtain ⟨a1, t1⟩ := He.ba t1
  obtain ⟨a2, t1⟩ := He.ba t1
  obtain ⟨a3, t1⟩ := He.ba t1
  obtain ⟨a4, t1⟩ := He.ba t1
  obtain ⟨a5, t1⟩ := He.ba t1
  obtain ⟨a6, a7⟩ := He.ba t1
  obtain ⟨b1, t2⟩ := He.ba t2
  obtain ⟨b2, t2⟩ := He.ba t2
  obtain ⟨b3, t2⟩ := He.ba t2
  obtain ⟨b4, _⟩ := He.ba t2
  exact { cl := He.cls_ok (x := "Mask") (c.fact 26 (f := .cls "Mask") rfl), nW := He.noat_ok (x := "Mask") (f := "own_width") (c.fact 43 (f := .noat "Mask" "own_width") rfl), nL := He.noat_ok (x := "Mask") (f := "low_member") (c.fact 44 (f := .noat "Mask" "low_member") rfl), nH := He.noat_ok (x := "Mask") (f := "high_member") (c.fact 45 (f := .noat "Mask" "high_member") rfl),     sf := a1, mro := of_decide_eq_true a2, ne := He.eqO_ok a3, shR := He.eqO_ok a4, sh1 := Option.isSome_iff_exists.mp a5, sh2 := Option.isSome_iff_exists.mp a6, shS := of_decide_eq_true a7, cA := He.eqO_ok b1, cN := He.eqO_ok b2, cT := of_decide_eq_true b3, kC := b4,     mgC := He.glo_ok X G (x := "Mask") (c.fact 25 (f := .glo "Mask") rfl), wid := He.int_ok X G (x := "WIDTH") (c.fact 28 (f := .int "WIDTH" 64) rfl),     isi := He.free_ok X G (x := "isinstance") (c.fact 46 (f := .free "isinstance") rfl), int := He.free_ok X G (x := "int") (c.fact 47 (f := .free "int") rfl), bool := He.free_ok X G (x := "bool") (c.fact 48 (f := .free "bool") rfl), len := He.free_ok X G (x := "len") (c.fact 49 (f := .free "len") rfl), list := He.free_ok X G (x := "list") (c.fact 50 (f := .free "list") rfl), sum := He.free_ok X G (x := "sum") (c.fact 51 (f := .free "sum") rfl), zip := He.free_ok X G (x := "zip") (c.fact 52 (f := .free "zip") rfl), sorted := He.free_ok X G (x := "sorted") (c.fact 53 (f := .free "sorted") rfl), enum := He.free_ok X G (x := "enumerate") (c.fact 54 (f := .free "enumerate") rfl), range := He.free_ok X G (x := "range") (c.fact 55 (f := .free "range") rfl), min := He.free_ok X G (x := "min") (c.fact 56 (f := .free "min") rfl) }
theorem cls_of (t : txtB K = true) : ClX.CRead K (aK K) (.type "type") ∧ (PropOf K (aK K) "width" (He.ma K (aK K) "width") (aP "width" K) ∧ PropOf K (aK K) "least" (He.ma K (aK K) "least") (aP "least" K) ∧ PropOf K (aK K) "greatest" (He.ma K (aK K) "greatest") (aP "greatest" K)) ∧
    ClX.CMet K (aK K) (.type "type") "narrowest" (He.ma K (aK K) "narrowest") (aC "narrowest" K) := by
  obtain ⟨_, t⟩ := He.ba t
  obtain ⟨t2, t3⟩ := He.ba t
  obtain ⟨_, t2⟩ := He.ba t2
  obtain ⟨_, t2⟩ := He.ba t2
  obtain ⟨_, t2⟩ := He.ba t2
  obtain ⟨_, t2⟩ := He.ba t2
  obtain ⟨b5, b6⟩ := He.ba t2
  obtain ⟨p1, t3⟩ := He.ba t3
  obtain ⟨p2, t3⟩ := He.ba t3
  obtain ⟨p3, t3⟩ := He.ba t3
  obtain ⟨p4, p5⟩ := He.ba t3
  exact ⟨⟨b5, He.eqO_ok b6⟩, ⟨propB_ok p1, propB_ok p2, propB_ok p3⟩, He5.cmet_of p4 p5⟩
theorem facts {f : Addr} (X : K.In h) (G : h.Ns mainGlobals mg) (hfa : mg ("law" : Str) = some (.ref f)) (c : He5.SaysA fa fn K) (t : txtB K = true) :
    ∃ fd : FuncData, (∀ (s : Shared) (v : Value), BindsTo s fd ⟨[v], []⟩ [("_law_script", v)]) ∧ ∀ base : Heap, K.In base → base.Ns mainGlobals mg → FnOk P w K mg base CX0 9 f fd ["_law_script"] (WP.spLaw K) := by
  have T := txt_of X G c t
  obtain ⟨cRd, ⟨pW, pL, pG⟩, cNar⟩ := cls_of t
  obtain ⟨fd, F0⟩ := c.def_ 43 (d := mk (aG "law") "law" "law" (WP.top 45)) rfl
  have FD : FunD K "law" "law" (defArgs (WP.top 45)) (defBody (WP.top 45)) (defScope (WP.top 45)) [] [] (aG "law" K) fd := F0
  have e := hfa.symm.trans (He.glo_ok X G (c.fact 24 (f := .glo "law") rfl))
  cases e
  have b := FD.bindsA (ps := ["_law_script"]) fun _ _ _ _ _ _ us hl => match us, hl with | [_], _ => rfl
  refine ⟨fd, fun s v => b s [v] rfl, fun base _ _ => ?_⟩
  have g : ∀ x, mg x = some (.ref (He.ga K x)) → mg x = some (.ref (aG x K)) := fun _ z => z
  obtain ⟨fd_within, F, b_within, k_within⟩ := def_of c 0 (a := aG "is_within_words") (x := "is_within") (q := "is_within") (s := (WP.top 12)) rfl (ps := ["value", "low", "high"]) (fun _ _ _ _ _ _ us hl => match us, hl with | [_, _, _], _ => rfl)
  have L_within : WR.Cl P w K mg base 1 "is_within_words" WP.spWithin := ⟨_, fd_within, _, WP.ok_is_within F T, He.glo_ok X G (x := "is_within_words") (c.fact 0 (f := .glo "is_within_words") rfl), k_within, b_within⟩
  obtain ⟨fd_isw, F, b_isw, k_isw⟩ := def_of c 1 (a := aG "is_width") (x := "is_width") (q := "is_width") (s := (WP.top 14)) rfl (ps := ["value"]) (fun _ _ _ _ _ _ us hl => match us, hl with | [_], _ => rfl)
  have L_isw : WR.Cl P w K mg base 2 "is_width" WP.spWidth := ⟨_, fd_isw, _, WP.ok_is_width F T L_within, He.glo_ok X G (x := "is_width") (c.fact 1 (f := .glo "is_width") rfl), k_isw, b_isw⟩
  obtain ⟨fd_size, F, b_size, k_size⟩ := def_of c 2 (a := aG "size_of") (x := "size_of") (q := "size_of") (s := (WP.top 15)) rfl (ps := ["width"]) (fun _ _ _ _ _ _ us hl => match us, hl with | [_], _ => rfl)
  have L_size : WR.Cl P w K mg base 1 "size_of" WP.spSize := ⟨_, fd_size, _, WP.ok_size_of F, He.glo_ok X G (x := "size_of") (c.fact 2 (f := .glo "size_of") rfl), k_size, b_size⟩
  obtain ⟨fd_word, F, b_word, k_word⟩ := def_of c 3 (a := aG "is_word") (x := "is_word") (q := "is_word") (s := (WP.top 16)) rfl (ps := ["value", "width"]) (fun _ _ _ _ _ _ us hl => match us, hl with | [_, _], _ => rfl)
  have L_word : WR.Cl P w K mg base 2 "is_word" WP.spWord := ⟨_, fd_word, _, WP.ok_is_word F L_within L_size, He.glo_ok X G (x := "is_word") (c.fact 3 (f := .glo "is_word") rfl), k_word, b_word⟩
  obtain ⟨fd_need, F, b_need, k_need⟩ := def_of c 4 (a := aG "need_widths") (x := "need_widths") (q := "need_widths") (s := (WP.top 19)) rfl (ps := ["one", "other"]) (fun _ _ _ _ _ _ us hl => match us, hl with | [_, _], _ => rfl)
  have L_need : WR.Cl P w K mg base 1 "need_widths" WP.spNeed := ⟨_, fd_need, _, WP.ok_need_widths F, He.glo_ok X G (x := "need_widths") (c.fact 4 (f := .glo "need_widths") rfl), k_need, b_need⟩
  obtain ⟨fd_init, F, b_init, k_init⟩ := def_of c 7 (a := aM "__init__") (x := "__init__") (q := "Mask.__init__") (s := (WP.inMask 0)) rfl (ps := ["self", "width", "least", "greatest"]) (fun _ _ _ _ _ _ us hl => match us, hl with | [_, _, _, _], _ => rfl)
  have L_init : WR.Mkr P w K mg base (aK K) 3 (WP.spInit (aK K)) := ⟨_, fd_init, _, WP.ok_init F T L_isw L_word, He.mkr_ok (x := "Mask") (c.fact 27 (f := .mkr "Mask") rfl), b_init⟩
  obtain ⟨fd_open_, F, b_open_, k_open_⟩ := def_of c 5 (a := aG "with_open") (x := "with_open") (q := "with_open") (s := (WP.top 22)) rfl (ps := ["width", "least", "open_ones"]) (fun _ _ _ _ _ _ us hl => match us, hl with | [_, _, _], _ => rfl)
  have L_open_ : WR.Cl P w K mg base 5 "with_open" (WP.spOpen (aK K)) := ⟨_, fd_open_, _, WP.ok_with_open F T L_init, He.glo_ok X G (x := "with_open") (c.fact 5 (f := .glo "with_open") rfl), k_open_, b_open_⟩
  obtain ⟨fd_betw, F, b_betw, k_betw⟩ := def_of c 6 (a := aG "sum_between") (x := "sum_between") (q := "sum_between") (s := (WP.top 24)) rfl (ps := ["width", "lows", "highs", "open_ones"]) (fun _ _ _ _ _ _ us hl => match us, hl with | [_, _, _, _], _ => rfl)
  have L_betw : WR.Cl P w K mg base 6 "sum_between" (WP.spBetw (aK K)) := ⟨_, fd_betw, _, WP.ok_sum_between F T L_size L_open_, He.glo_ok X G (x := "sum_between") (c.fact 6 (f := .glo "sum_between") rfl), k_betw, b_betw⟩
  obtain ⟨fd_width, F, b_width, k_width⟩ := def_of c 9 (a := aP "width") (x := "width") (q := "Mask.width") (s := (WP.inMask 3)) rfl (ps := ["self"]) (fun _ _ _ _ _ _ us hl => match us, hl with | [_], _ => rfl)
  have L_width : WR.Prp P w K mg base (aK K) 1 "width" (WP.sp1 (WP.rI1 (aK K) WP.fW)) := ⟨_, _, fd_width, _, WP.ok_width F T, pW, b_width⟩
  obtain ⟨fd_least, F, b_least, k_least⟩ := def_of c 10 (a := aP "least") (x := "least") (q := "Mask.least") (s := (WP.inMask 4)) rfl (ps := ["self"]) (fun _ _ _ _ _ _ us hl => match us, hl with | [_], _ => rfl)
  have L_least : WR.Prp P w K mg base (aK K) 1 "least" (WP.sp1 (WP.rI1 (aK K) WP.fL)) := ⟨_, _, fd_least, _, WP.ok_least F T, pL, b_least⟩
  obtain ⟨fd_great, F, b_great, k_great⟩ := def_of c 11 (a := aP "greatest") (x := "greatest") (q := "Mask.greatest") (s := (WP.inMask 5)) rfl (ps := ["self"]) (fun _ _ _ _ _ _ us hl => match us, hl with | [_], _ => rfl)
  have L_great : WR.Prp P w K mg base (aK K) 1 "greatest" (WP.sp1 (WP.rI1 (aK K) WP.fH)) := ⟨_, _, fd_great, _, WP.ok_greatest F T, pG, b_great⟩
  obtain ⟨fd_opn, F, b_opn, k_opn⟩ := def_of c 12 (a := aM "open_ones") (x := "open_ones") (q := "Mask.open_ones") (s := (WP.inMask 7)) rfl (ps := ["self"]) (fun _ _ _ _ _ _ us hl => match us, hl with | [_], _ => rfl)
  have L_opn : WR.Mt P w K mg base (aK K) 1 "open_ones" (WP.sp1 (WP.rOpn (aK K))) := ⟨_, fd_opn, _, WP.ok_open_ones F T, He.meth_ok (x := "Mask") (m := "open_ones") (c.fact 29 (f := .meth "Mask" "open_ones") rfl), b_opn⟩
  obtain ⟨fd_needs, F, b_needs, k_needs⟩ := def_of c 13 (a := aM "need_shift") (x := "need_shift") (q := "Mask.need_shift") (s := (WP.inMask 11)) rfl (ps := ["self", "shift"]) (fun _ _ _ _ _ _ us hl => match us, hl with | [_, _], _ => rfl)
  have L_needs : WR.Mt P w K mg base (aK K) 2 "need_shift" (WP.sp2 (WP.rNeedS (aK K))) := ⟨_, fd_needs, _, WP.ok_need_shift F T L_within, He.meth_ok (x := "Mask") (m := "need_shift") (c.fact 30 (f := .meth "Mask" "need_shift") rfl), b_needs⟩
  obtain ⟨fd_com, F, b_com, k_com⟩ := def_of c 14 (a := aM "common_with") (x := "common_with") (q := "Mask.common_with") (s := (WP.inMask 12)) rfl (ps := ["self", "other"]) (fun _ _ _ _ _ _ us hl => match us, hl with | [_, _], _ => rfl)
  have L_com : WR.Mt P w K mg base (aK K) 5 "common_with" (WP.sp2 (WP.rCom (aK K))) := ⟨_, fd_com, _, WP.ok_common F T L_init L_need, He.meth_ok (x := "Mask") (m := "common_with") (c.fact 31 (f := .meth "Mask" "common_with") rfl), b_com⟩
  obtain ⟨fd_uni, F, b_uni, k_uni⟩ := def_of c 15 (a := aM "union_with") (x := "union_with") (q := "Mask.union_with") (s := (WP.inMask 13)) rfl (ps := ["self", "other"]) (fun _ _ _ _ _ _ us hl => match us, hl with | [_, _], _ => rfl)
  have L_uni : WR.Mt P w K mg base (aK K) 5 "union_with" (WP.sp2 (WP.rMM (aK K) WP.fAnd WP.gUni)) := ⟨_, fd_uni, _, WP.ok_union F T L_init L_need, He.meth_ok (x := "Mask") (m := "union_with") (c.fact 32 (f := .meth "Mask" "union_with") rfl), b_uni⟩
  obtain ⟨fd_wtn, F, b_wtn, k_wtn⟩ := def_of c 16 (a := aM "is_within") (x := "is_within") (q := "Mask.is_within") (s := (WP.inMask 14)) rfl (ps := ["self", "other"]) (fun _ _ _ _ _ _ us hl => match us, hl with | [_, _], _ => rfl)
  have L_wtn : WR.Mt P w K mg base (aK K) 2 "is_within" (WP.sp2 (WP.rWtn (aK K))) := ⟨_, fd_wtn, _, WP.ok_is_within_m F T L_need, He.meth_ok (x := "Mask") (m := "is_within") (c.fact 33 (f := .meth "Mask" "is_within") rfl), b_wtn⟩
  obtain ⟨fd_and_, F, b_and_, k_and_⟩ := def_of c 17 (a := aM "__and__") (x := "__and__") (q := "Mask.__and__") (s := (WP.inMask 18)) rfl (ps := ["self", "other"]) (fun _ _ _ _ _ _ us hl => match us, hl with | [_, _], _ => rfl)
  have L_and_ : WR.Mt P w K mg base (aK K) 5 "__and__" (WP.sp2 (WP.rMM (aK K) WP.fAnd WP.gAnd)) := ⟨_, fd_and_, _, WP.ok_and F T L_init L_need, He.meth_ok (x := "Mask") (m := "__and__") (c.fact 34 (f := .meth "Mask" "__and__") rfl), b_and_⟩
  obtain ⟨fd_or_, F, b_or_, k_or_⟩ := def_of c 18 (a := aM "__or__") (x := "__or__") (q := "Mask.__or__") (s := (WP.inMask 19)) rfl (ps := ["self", "other"]) (fun _ _ _ _ _ _ us hl => match us, hl with | [_, _], _ => rfl)
  have L_or_ : WR.Mt P w K mg base (aK K) 5 "__or__" (WP.sp2 (WP.rMM (aK K) WP.fOr WP.gOr)) := ⟨_, fd_or_, _, WP.ok_or F T L_init L_need, He.meth_ok (x := "Mask") (m := "__or__") (c.fact 35 (f := .meth "Mask" "__or__") rfl), b_or_⟩
  obtain ⟨fd_xor, F, b_xor, k_xor⟩ := def_of c 19 (a := aM "__xor__") (x := "__xor__") (q := "Mask.__xor__") (s := (WP.inMask 20)) rfl (ps := ["self", "other"]) (fun _ _ _ _ _ _ us hl => match us, hl with | [_, _], _ => rfl)
  have L_xor : WR.Mt P w K mg base (aK K) 6 "__xor__" (WP.sp2 (WP.rMM (aK K) WP.fXor WP.gXor)) := ⟨_, fd_xor, _, WP.ok_xor F T L_need L_open_ L_opn, He.meth_ok (x := "Mask") (m := "__xor__") (c.fact 36 (f := .meth "Mask" "__xor__") rfl), b_xor⟩
  obtain ⟨fd_inv, F, b_inv, k_inv⟩ := def_of c 20 (a := aM "__invert__") (x := "__invert__") (q := "Mask.__invert__") (s := (WP.inMask 21)) rfl (ps := ["self"]) (fun _ _ _ _ _ _ us hl => match us, hl with | [_], _ => rfl)
  have L_inv : WR.Mt P w K mg base (aK K) 5 "__invert__" (WP.sp1 (WP.rInv (aK K))) := ⟨_, fd_inv, _, WP.ok_invert F T L_init L_size, He.meth_ok (x := "Mask") (m := "__invert__") (c.fact 37 (f := .meth "Mask" "__invert__") rfl), b_inv⟩
  obtain ⟨fd_add, F, b_add, k_add⟩ := def_of c 21 (a := aM "__add__") (x := "__add__") (q := "Mask.__add__") (s := (WP.inMask 22)) rfl (ps := ["self", "other"]) (fun _ _ _ _ _ _ us hl => match us, hl with | [_, _], _ => rfl)
  have L_add : WR.Mt P w K mg base (aK K) 7 "__add__" (WP.sp2 (WP.rNN (aK K) WA.SAdd)) := ⟨_, fd_add, _, WP.ok_add F T L_need L_betw L_opn, He.meth_ok (x := "Mask") (m := "__add__") (c.fact 38 (f := .meth "Mask" "__add__") rfl), b_add⟩
  obtain ⟨fd_sub, F, b_sub, k_sub⟩ := def_of c 22 (a := aM "__sub__") (x := "__sub__") (q := "Mask.__sub__") (s := (WP.inMask 23)) rfl (ps := ["self", "other"]) (fun _ _ _ _ _ _ us hl => match us, hl with | [_, _], _ => rfl)
  have L_sub : WR.Mt P w K mg base (aK K) 7 "__sub__" (WP.sp2 (WP.rNN (aK K) WA.SSub)) := ⟨_, fd_sub, _, WP.ok_sub F T L_need L_betw L_opn, He.meth_ok (x := "Mask") (m := "__sub__") (c.fact 39 (f := .meth "Mask" "__sub__") rfl), b_sub⟩
  obtain ⟨fd_neg, F, b_neg, k_neg⟩ := def_of c 23 (a := aM "__neg__") (x := "__neg__") (q := "Mask.__neg__") (s := (WP.inMask 24)) rfl (ps := ["self"]) (fun _ _ _ _ _ _ us hl => match us, hl with | [_], _ => rfl)
  have L_neg : WR.Mt P w K mg base (aK K) 7 "__neg__" (WP.sp1 (WP.rNeg (aK K))) := ⟨_, fd_neg, _, WP.ok_neg F T L_betw L_opn, He.meth_ok (x := "Mask") (m := "__neg__") (c.fact 40 (f := .meth "Mask" "__neg__") rfl), b_neg⟩
  obtain ⟨fd_shl, F, b_shl, k_shl⟩ := def_of c 24 (a := aM "__lshift__") (x := "__lshift__") (q := "Mask.__lshift__") (s := (WP.inMask 25)) rfl (ps := ["self", "other"]) (fun _ _ _ _ _ _ us hl => match us, hl with | [_, _], _ => rfl)
  have L_shl : WR.Mt P w K mg base (aK K) 5 "__lshift__" (WP.sp2 (WP.rShl (aK K))) := ⟨_, fd_shl, _, WP.ok_lshift F T L_init L_size L_needs, He.meth_ok (x := "Mask") (m := "__lshift__") (c.fact 41 (f := .meth "Mask" "__lshift__") rfl), b_shl⟩
  obtain ⟨fd_eq, F, b_eq, k_eq⟩ := def_of c 25 (a := aM "__eq__") (x := "__eq__") (q := "Mask.__eq__") (s := (WP.inMask 27)) rfl (ps := ["self", "other"]) (fun _ _ _ _ _ _ us hl => match us, hl with | [_, _], _ => rfl)
  have L_eq : WR.Mt P w K mg base (aK K) 1 "__eq__" (WP.sp2 (WP.rEqM (aK K))) := ⟨_, fd_eq, _, WP.ok_eq F T, He.meth_ok (x := "Mask") (m := "__eq__") (c.fact 42 (f := .meth "Mask" "__eq__") rfl), b_eq⟩
  obtain ⟨fd_narr, F, b_narr, k_narr⟩ := def_of c 8 (a := aC "narrowest") (x := "narrowest") (q := "Mask.narrowest") (s := (WP.inMask 2)) rfl (ps := ["cls", "width", "words"]) (fun _ _ _ _ _ _ us hl => match us, hl with | [_, _, _], _ => rfl)
  have L_narr : FnR P w K mg base CX0 5 (aC "narrowest" K) (WP.spNarr K (aK K)) := ((WP.ok_narrowest F L_init : FnOk P w K mg base CX0 5 (aC "narrowest" K) fd_narr ["cls", "width", "words"] (WP.spNarr K (aK K))).raw b_narr .nil).imp fun vs H Q E z => by rw [List.append_nil]; exact z
  obtain ⟨fd_bits, F, b_bits, k_bits⟩ := def_of c 26 (a := aG "bit_choices") (x := "bit_choices") (q := "bit_choices") (s := (WP.top 27)) rfl (ps := ["mask", "bit"]) (fun _ _ _ _ _ _ us hl => match us, hl with | [_, _], _ => rfl)
  have L_bits : WR.Cl P w K mg base 3 "bit_choices" (WP.spBitC (aK K)) := ⟨_, fd_bits, _, WP.ok_bit_choices F T L_least L_great, He.glo_ok X G (x := "bit_choices") (c.fact 7 (f := .glo "bit_choices") rfl), k_bits, b_bits⟩
  obtain ⟨fd_all, F, b_all, k_all⟩ := def_of c 27 (a := aG "all_choices") (x := "all_choices") (q := "all_choices") (s := (WP.top 28)) rfl (ps := ["terms", "bit"]) (fun _ _ _ _ _ _ us hl => match us, hl with | [_, _], _ => rfl)
  have L_all : WR.Cl P w K mg base 4 "all_choices" (WP.spAllC K (aK K)) := ⟨_, fd_all, _, WP.ok_all_choices F T L_bits, He.glo_ok X G (x := "all_choices") (c.fact 8 (f := .glo "all_choices") rfl), k_all, b_all⟩
  obtain ⟨fd_carr, F, b_carr, k_carr⟩ := def_of c 28 (a := aG "carried") (x := "carried") (q := "carried") (s := (WP.top 29)) rfl (ps := ["terms", "number", "bit", "carry", "bits"]) (fun _ _ _ _ _ _ us hl => match us, hl with | [_, _, _, _, _], _ => rfl)
  have L_carr : WR.Cl P w K mg base 2 "carried" (WP.spCarr K (aK K)) := ⟨_, fd_carr, _, WP.ok_carried F T L_size, He.glo_ok X G (x := "carried") (c.fact 9 (f := .glo "carried") rfl), k_carr, b_carr⟩
  obtain ⟨fd_rows, F, b_rows, k_rows⟩ := def_of c 29 (a := aG "carry_rows") (x := "carry_rows") (q := "carry_rows") (s := (WP.top 30)) rfl (ps := ["terms", "number"]) (fun _ _ _ _ _ _ us hl => match us, hl with | [_, _], _ => rfl)
  have L_rows : WR.Cl P w K mg base 5 "carry_rows" (WP.spRows K (aK K)) := ⟨_, fd_rows, _, WP.ok_carry_rows F T L_width L_all L_carr, He.glo_ok X G (x := "carry_rows") (c.fact 10 (f := .glo "carry_rows") rfl), k_rows, b_rows⟩
  obtain ⟨fd_ways, F, b_ways, k_ways⟩ := def_of c 30 (a := aG "ways_at") (x := "ways_at") (q := "ways_at") (s := (WP.top 31)) rfl (ps := ["terms", "number", "bit", "row"]) (fun _ _ _ _ _ _ us hl => match us, hl with | [_, _, _, _], _ => rfl)
  have L_ways : WR.Cl P w K mg base 5 "ways_at" (WP.spWays K (aK K)) := ⟨_, fd_ways, _, WP.ok_ways_at F T L_all L_carr, He.glo_ok X G (x := "ways_at") (c.fact 11 (f := .glo "ways_at") rfl), k_ways, b_ways⟩
  obtain ⟨fd_sum, F, b_sum, k_sum⟩ := def_of c 31 (a := aG "sum_mask") (x := "sum_mask") (q := "sum_mask") (s := (WP.top 32)) rfl (ps := ["terms", "number"]) (fun _ _ _ _ _ _ us hl => match us, hl with | [_, _], _ => rfl)
  have L_sum : WR.Cl P w K mg base 6 "sum_mask" (WP.spSum K (aK K)) := ⟨_, fd_sum, _, WP.ok_sum_mask F T L_init L_width L_size L_rows L_ways, He.glo_ok X G (x := "sum_mask") (c.fact 12 (f := .glo "sum_mask") rfl), k_sum, b_sum⟩
  obtain ⟨fd_draws, F, b_draws, k_draws⟩ := def_of c 32 (a := aG "_law_draws") (x := "_law_draws") (q := "_law_draws") (s := (WP.top 34)) rfl (ps := ["_law_script"]) (fun _ _ _ _ _ _ us hl => match us, hl with | [_], _ => rfl)
  have L_draws : WR.Cl P w K mg base 1 "_law_draws" (WP.spDraws K) := ⟨_, fd_draws, _, WP.ok_draws F T, He.glo_ok X G (x := "_law_draws") (c.fact 13 (f := .glo "_law_draws") rfl), k_draws, b_draws⟩
  obtain ⟨fd_next, F, b_next, k_next⟩ := def_of c 33 (a := aG "_law_next") (x := "_law_next") (q := "_law_next") (s := (WP.top 35)) rfl (ps := ["_law_drawn", "_law_many"]) (fun _ _ _ _ _ _ us hl => match us, hl with | [_, _], _ => rfl)
  have L_next : WR.Cl P w K mg base 1 "_law_next" (WP.spNext K) := ⟨_, fd_next, _, WP.ok_next F T, He.glo_ok X G (x := "_law_next") (c.fact 14 (f := .glo "_law_next") rfl), k_next, b_next⟩
  obtain ⟨fd_one, F, b_one, k_one⟩ := def_of c 34 (a := aG "_law_one") (x := "_law_one") (q := "_law_one") (s := (WP.top 36)) rfl (ps := ["_law_drawn", "_law_items"]) (fun _ _ _ _ _ _ us hl => match us, hl with | [_, _], _ => rfl)
  have L_one : WR.Cl P w K mg base 2 "_law_one" (WP.spOne K) := ⟨_, fd_one, _, WP.ok_one F T L_next, He.glo_ok X G (x := "_law_one") (c.fact 15 (f := .glo "_law_one") rfl), k_one, b_one⟩
  obtain ⟨fd_wd, F, b_wd, k_wd⟩ := def_of c 35 (a := aG "_law_width") (x := "_law_width") (q := "_law_width") (s := (WP.top 37)) rfl (ps := ["_law_drawn"]) (fun _ _ _ _ _ _ us hl => match us, hl with | [_], _ => rfl)
  have L_wd : WR.Cl P w K mg base 3 "_law_width" (WP.spWd K) := ⟨_, fd_wd, _, WP.ok_wd F L_next L_one, He.glo_ok X G (x := "_law_width") (c.fact 16 (f := .glo "_law_width") rfl), k_wd, b_wd⟩
  obtain ⟨fd_wrd, F, b_wrd, k_wrd⟩ := def_of c 36 (a := aG "_law_word") (x := "_law_word") (q := "_law_word") (s := (WP.top 38)) rfl (ps := ["_law_drawn", "_law_width_here"]) (fun _ _ _ _ _ _ us hl => match us, hl with | [_, _], _ => rfl)
  have L_wrd : WR.Cl P w K mg base 3 "_law_word" (WP.spWrd K) := ⟨_, fd_wrd, _, WP.ok_wrd F L_next L_one, He.glo_ok X G (x := "_law_word") (c.fact 17 (f := .glo "_law_word") rfl), k_wrd, b_wrd⟩
  obtain ⟨fd_ends, F, b_ends, k_ends⟩ := def_of c 37 (a := aG "_law_ends") (x := "_law_ends") (q := "_law_ends") (s := (WP.top 39)) rfl (ps := ["_law_drawn", "_law_width_here"]) (fun _ _ _ _ _ _ us hl => match us, hl with | [_, _], _ => rfl)
  have L_ends : WR.Cl P w K mg base 4 "_law_ends" (WP.spEnds K) := ⟨_, fd_ends, _, WP.ok_ends F L_next L_wrd, He.glo_ok X G (x := "_law_ends") (c.fact 18 (f := .glo "_law_ends") rfl), k_ends, b_ends⟩
  obtain ⟨fd_msk, F, b_msk, k_msk⟩ := def_of c 38 (a := aG "_law_mask") (x := "_law_mask") (q := "_law_mask") (s := (WP.top 40)) rfl (ps := ["_law_drawn", "_law_width_here"]) (fun _ _ _ _ _ _ us hl => match us, hl with | [_, _], _ => rfl)
  have L_msk : WR.Cl P w K mg base 5 "_law_mask" (WP.spMsk K (aK K)) := ⟨_, fd_msk, _, WP.ok_msk F T L_init L_ends, He.glo_ok X G (x := "_law_mask") (c.fact 19 (f := .glo "_law_mask") rfl), k_msk, b_msk⟩
  obtain ⟨fd_signs, F, b_signs, k_signs⟩ := def_of c 39 (a := aG "_law_signs_right") (x := "_law_signs_right") (q := "_law_signs_right") (s := (WP.top 41)) rfl (ps := ["_law_one_here", "_law_other"]) (fun _ _ _ _ _ _ us hl => match us, hl with | [_, _], _ => rfl)
  have L_signs : WR.Cl P w K mg base 8 "_law_signs_right" (WP.spSigns (aK K)) := ⟨_, fd_signs, _, WP.ok_signs F T L_inv L_neg L_add L_sub L_and_ L_or_ L_xor L_eq L_wtn L_sum, He.glo_ok X G (x := "_law_signs_right") (c.fact 20 (f := .glo "_law_signs_right") rfl), k_signs, b_signs⟩
  obtain ⟨fd_sets, F, b_sets, k_sets⟩ := def_of c 42 (a := aG "_law_sets_right") (x := "_law_sets_right") (q := "_law_sets_right") (s := (WP.top 44)) rfl (ps := ["_law_one_here", "_law_other", "_law_three"]) (fun _ _ _ _ _ _ us hl => match us, hl with | [_, _, _], _ => rfl)
  have L_sets : WR.Cl P w K mg base 8 "_law_sets_right" (WP.spSets (aK K)) := ⟨_, fd_sets, _, WP.ok_sets F T L_inv L_add L_eq L_wtn L_uni L_com, He.glo_ok X G (x := "_law_sets_right") (c.fact 23 (f := .glo "_law_sets_right") rfl), k_sets, b_sets⟩
  obtain ⟨fd_wider, F, b_wider, k_wider⟩ := def_of c 41 (a := aG "_law_wider_right") (x := "_law_wider_right") (q := "_law_wider_right") (s := (WP.top 43)) rfl (ps := ["_law_one_here", "_law_other", "_law_three"]) (fun _ _ _ _ _ _ us hl => match us, hl with | [_, _, _], _ => rfl)
  have L_wider : WR.Cl P w K mg base 8 "_law_wider_right" (WP.spWider (aK K)) := ⟨_, fd_wider, _, WP.ok_wider F T L_init L_width L_least L_great L_neg L_add L_sub L_and_ L_sum, He.glo_ok X G (x := "_law_wider_right") (c.fact 22 (f := .glo "_law_wider_right") rfl), k_wider, b_wider⟩
  obtain ⟨fd_mult, F, b_mult, k_mult⟩ := def_of c 40 (a := aG "_law_multiples_right") (x := "_law_multiples_right") (q := "_law_multiples_right") (s := (WP.top 42)) rfl (ps := ["_law_drawn", "_law_one_here", "_law_other"]) (fun _ _ _ _ _ _ us hl => match us, hl with | [_, _, _], _ => rfl)
  have L_mult : WR.Cl P w K mg base 8 "_law_multiples_right" (WP.spMult K (aK K)) := ⟨_, fd_mult, _, WP.ok_mult F T L_width L_neg L_add L_sub L_shl L_eq L_wtn L_sum cRd cNar L_narr L_next L_wrd L_one, He.glo_ok X G (x := "_law_multiples_right") (c.fact 21 (f := .glo "_law_multiples_right") rfl), k_mult, b_mult⟩
  exact WP.ok_law (He5.fun_of FD) T L_draws L_next L_one L_wd L_msk L_signs L_sets L_wider L_mult
end
end WH
open PySem PySem.W PySem.Calls PyProof.Rows
theorem PySem.Challenge.cw_wordsalike_k74_whole_masks_go_together_holds : PySem.Challenge.rw_wordsalike_k74_whole_masks_go_together.Holds := by
  w_on; o_law
  refine HandSHeadRun.head_any (r := WH.R) (q := WH.qv) (H := WH.hk) (ob := WH.ob) (M := 6000) (loose := WH.names) (d := HandSHeadRun.topDef WH.R.prog 45) (kwd := []) WH.ob_eq
    (by kernel_rfl) (fun s => by kernel_rfl) WH.run (by kernel_rfl) (by kernel_rfl) (by kernel_rfl) (by rfl) (by first | assumption | decide +kernel) (by decide +kernel) ⟨rfl, rfl, rfl, rfl, rfl, by decide +kernel⟩ ?hw ?hc
  case hw => w_witness2
  case hc =>
    refine L2.walk_ofE (l := PySem.Challenge.rw_wordsalike_k74_whole_masks_go_together) (n := 63) (k := 9) (x := "_law_script") (CX := L2.CX0) rfl (by decide) (by kernel_rfl) ⟨rfl, by decide, by decide⟩ ?F (fun _ _ _ _ z => z)
    intro w mg fa h Y G hmg0
    obtain ⟨K, KX, c, t⟩ := Y
    have hmg : mg ("law" : PySem.Str) = some (.ref fa) := by
      have e : (HandSHeadRun.topDef WH.R.prog 45).name = ("law" : PySem.Str) := by kernel_rfl
      rw [← e]
      exact hmg0
    obtain ⟨fd, hb, hF⟩ := WH.facts (P := (PySem.Challenge.rw_wordsalike_k74_whole_masks_go_together).prog) (w := w) KX G hmg c t
    exact ⟨K, fd, WP.spLaw K, KX, hb, fun H a ns hl _ hS => ⟨a, ns, rfl, hS, hl, fun _ => rfl⟩, hF⟩


