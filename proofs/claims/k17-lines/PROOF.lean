import PyProof.Rows.All
import Wide.All
import Wide.FinOn
import OpenK.KLine
import OpenK.KOwn
import OpenK.KMake
import KE.KNest
import KE.KLam
import KE.KTurns
import KE.KDictList
import KE.KSortAsk
import KE.KSortKey
import KE.KIsAll
import KE.KSortTup
import KE.KPairComp
import KE.KTryMore
import KE.KDictWalk
import KE.KDictKeyed
import KE.SortKeyHeap
import HandS.ForMost
import HandS.TupAny
import HandS.TupMul
import KE.DataEq
import KE.SortData
import HandS.Lambda
import HandS.Nested
import HandS.EndTab
import HandS.TupLe
import HandS.IsInst
import HandS.Text
import HandS.Walk
import HandS.WordsExc
import HandS.More
import HandS.Zip
import KE.GoesEnum
import HandS.Strs
import HandS.RaiseMore
import HandS.TryMany
import HandS.Conv
import HandS.Style
import PyProof.Rows.SetFrom
import HandS.Dict
import HandS.Iter
import KE.KDictDisplayH
import KE.KDictCopyH
import PyProof.DictTable
import HandS.DictComp
import HandS.Codes
import PySem.Challenge.RW_lateturns_k17_houses_written_and_read
set_option Elab.async false
set_option linter.all false
set_option maxRecDepth 100000
set_option autoImplicit false
set_option maxHeartbeats 4000000
section S_LcA
namespace Lc
abbrev BW : Nat := 18446744073709551616
def enc : List Nat → Nat
  | [] => 0
  | x :: xs => x + BW * enc xs
theorem land_lo {x y X Y : Nat} (hx : x < BW) (hy : y < BW) : (x + BW * X) &&& (y + BW * Y) = (x &&& y) + BW * (X &&& Y) := by
  have hxy : (x &&& y) < 2 ^ 64 := Nat.and_lt_two_pow _ hy
  apply Nat.eq_of_testBit_eq
  intro i
  rw [Nat.testBit_and, Nat.add_comm x, Nat.add_comm y, Nat.add_comm (x &&& y)]
  show (((2 ^ 64 * X + x).testBit i) && ((2 ^ 64 * Y + y).testBit i)) = (2 ^ 64 * (X &&& Y) + (x &&& y)).testBit i
  rw [Nat.testBit_two_pow_mul_add _ hx, Nat.testBit_two_pow_mul_add _ hy, Nat.testBit_two_pow_mul_add _ hxy]
  split
  · rw [Nat.testBit_and]
  · rw [Nat.testBit_and]
def Small (xs : List Nat) : Prop := ∀ x ∈ xs, x < BW
theorem shr_lo {x m X Y k : Nat} (hk : k ≤ 64) (hx : x < BW) (hm : m < 2 ^ (64 - k)) : ((x + BW * X) >>> k) &&& (m + BW * Y) = ((x >>> k) &&& m) + BW * ((X >>> k) &&& Y) := by
  have hm64 : m < 2 ^ 64 := Nat.lt_of_lt_of_le hm (Nat.pow_le_pow_right (by decide) (by omega))
  have hr : ((x >>> k) &&& m) < 2 ^ 64 := Nat.and_lt_two_pow _ hm64
  apply Nat.eq_of_testBit_eq
  intro i
  rw [Nat.testBit_and, Nat.testBit_shiftRight, Nat.add_comm x, Nat.add_comm m, Nat.add_comm ((x >>> k) &&& m)]
  show (((2 ^ 64 * X + x).testBit (k + i)) && ((2 ^ 64 * Y + m).testBit i)) = (2 ^ 64 * ((X >>> k) &&& Y) + ((x >>> k) &&& m)).testBit i
  rw [Nat.testBit_two_pow_mul_add _ hx, Nat.testBit_two_pow_mul_add _ hm64, Nat.testBit_two_pow_mul_add _ hr]
  by_cases h1 : i < 64
  · rw [if_pos h1, if_pos h1, Nat.testBit_and, Nat.testBit_shiftRight]
    by_cases h2 : k + i < 64
    · rw [if_pos h2]
    · rw [if_neg h2]
      have e : m.testBit i = false := Nat.testBit_lt_two_pow (Nat.lt_of_lt_of_le hm (Nat.pow_le_pow_right (by decide) (by omega)))
      rw [e, Bool.and_false, Bool.and_false]
  · rw [if_neg h1, if_neg h1, if_neg (by omega), Nat.testBit_and, Nat.testBit_shiftRight, show k + i - 64 = k + (i - 64) by omega]
def rep (n m : Nat) : List Nat := List.replicate n m
def geo (c : Nat) : Nat → Nat
  | 0 => 0
  | n + 1 => 1 + (c + 1) * geo c n
theorem geo_eq (c : Nat) : ∀ n, geo c n * c + 1 = (c + 1) ^ n
  | 0 => by rw [geo, Nat.zero_mul]; rfl
  | n + 1 => by
    rw [geo, Nat.pow_succ, ← geo_eq c n, Nat.add_mul, Nat.one_mul, Nat.mul_assoc, Nat.mul_comm (geo c n * c + 1), Nat.mul_add, Nat.mul_one]
    omega
theorem bw_eq : (18446744073709551615 : Nat) + 1 = BW := by decide
theorem enc_geo : ∀ n : Nat, enc (rep n 1) = geo 18446744073709551615 n
  | 0 => rfl
  | n + 1 => by
    rw [geo, bw_eq, ← enc_geo n]
    rfl
theorem ones_gen {c : Nat} (hc : 0 < c) (n : Nat) : ((c + 1) ^ n - 1) / c = geo c n := by
  rw [← geo_eq, Nat.add_sub_cancel]
  exact Nat.mul_div_cancel _ hc
def ones (n : Nat) : Nat := (BW ^ n - 1) / 18446744073709551615
theorem ones_eq (n : Nat) : ones n = enc (rep n 1) := by
  unfold ones
  rw [enc_geo, ← ones_gen (by decide) n, bw_eq]
end Lc

end S_LcA
section S_LcB
namespace Lc
def ef : Nat → (Nat → Nat) → Nat
  | 0, _ => 0
  | n + 1, f => f 0 + BW * ef n fun i => f (i + 1)
theorem ef_congr : ∀ (n : Nat) {f g : Nat → Nat}, (∀ i, i < n → f i = g i) → ef n f = ef n g
  | 0, _, _, _ => rfl
  | n + 1, f, g, h => by
    rw [ef, ef, h 0 (Nat.succ_pos _), ef_congr n fun i hi => h (i + 1) (Nat.succ_lt_succ hi)]
theorem ef_mul (k : Nat) : ∀ (n : Nat) (f : Nat → Nat), k * ef n f = ef n fun i => k * f i
  | 0, _ => rfl
  | n + 1, f => by rw [ef, ef, ← ef_mul k n, Nat.mul_add, Nat.mul_left_comm]
theorem ef_add : ∀ (n : Nat) (f g : Nat → Nat), ef n f + ef n g = ef n fun i => f i + g i
  | 0, _, _ => rfl
  | n + 1, f, g => by
    rw [ef, ef, ef, ← ef_add n, Nat.mul_add]
    omega
theorem ef_sub : ∀ (n : Nat) (f g : Nat → Nat), (∀ i, i < n → g i ≤ f i) → (ef n f - ef n g = ef n fun i => f i - g i) ∧ ef n g ≤ ef n f
  | 0, _, _, _ => ⟨rfl, Nat.le_refl _⟩
  | n + 1, f, g, h => by
    obtain ⟨ih, il⟩ := ef_sub n (fun i => f (i + 1)) (fun i => g (i + 1)) fun i hi => h (i + 1) (Nat.succ_lt_succ hi)
    have h0 := h 0 (Nat.succ_pos _)
    rw [ef, ef, ef, ← ih]
    have e : BW * (ef n (fun i => f (i + 1)) - ef n fun i => g (i + 1)) = BW * (ef n fun i => f (i + 1)) - BW * (ef n fun i => g (i + 1)) := Nat.mul_sub ..
    have l : BW * (ef n fun i => g (i + 1)) ≤ BW * (ef n fun i => f (i + 1)) := Nat.mul_le_mul_left _ il
    constructor <;> omega
theorem ef_land : ∀ (n : Nat) (f g : Nat → Nat), (∀ i, i < n → f i < BW) → (∀ i, i < n → g i < BW) → ef n f &&& ef n g = ef n fun i => f i &&& g i
  | 0, _, _, _, _ => by simp [ef]
  | n + 1, f, g, h1, h2 => by
    rw [ef, ef, ef, ← ef_land n _ _ (fun i hi => h1 (i + 1) (Nat.succ_lt_succ hi)) fun i hi => h2 (i + 1) (Nat.succ_lt_succ hi)]
    exact land_lo (h1 0 (Nat.succ_pos _)) (h2 0 (Nat.succ_pos _))
theorem ef_shr (k : Nat) (hk : k ≤ 64) : ∀ (n : Nat) (f g : Nat → Nat), (∀ i, i < n → f i < BW) → (∀ i, i < n → g i < 2 ^ (64 - k)) → (ef n f >>> k) &&& ef n g = ef n fun i => (f i >>> k) &&& g i
  | 0, _, _, _, _ => by simp [ef]
  | n + 1, f, g, h1, h2 => by
    rw [ef, ef, ef, ← ef_shr k hk n _ _ (fun i hi => h1 (i + 1) (Nat.succ_lt_succ hi)) fun i hi => h2 (i + 1) (Nat.succ_lt_succ hi)]
    exact shr_lo hk (h1 0 (Nat.succ_pos _)) (h2 0 (Nat.succ_pos _))
theorem ef_one : ∀ n : Nat, ef n (fun _ => 1) = enc (rep n 1)
  | 0 => rfl
  | n + 1 => by rw [ef, ef_one n]; rfl
theorem ef_const (n m : Nat) : ef n (fun _ => m) = m * ones n := by
  rw [ones_eq, ← ef_one, ef_mul]
  exact ef_congr n fun i _ => (Nat.mul_one m).symm
theorem ef_inj : ∀ (n : Nat) (f g : Nat → Nat), (∀ i, i < n → f i < BW) → (∀ i, i < n → g i < BW) → ef n f = ef n g → ∀ i, i < n → f i = g i
  | 0, _, _, _, _, _, _, hi => absurd hi (Nat.not_lt_zero _)
  | n + 1, f, g, h1, h2, e, i, hi => by
    rw [ef, ef] at e
    have a := h1 0 (Nat.succ_pos _)
    have b := h2 0 (Nat.succ_pos _)
    generalize ex : (ef n fun i => f (i + 1)) = X at e
    generalize ey : (ef n fun i => g (i + 1)) = Y at e
    have e0 : f 0 = g 0 := by simp only [BW] at e a b; omega
    have e1 : ef n (fun i => f (i + 1)) = ef n fun i => g (i + 1) := by rw [ex, ey]; simp only [BW] at e a b; omega
    cases i with
    | zero => exact e0
    | succ i => exact ef_inj n _ _ (fun i hi => h1 (i + 1) (Nat.succ_lt_succ hi)) (fun i hi => h2 (i + 1) (Nat.succ_lt_succ hi)) e1 i (Nat.lt_of_succ_lt_succ hi)
theorem land_low (x k : Nat) : x &&& (2 ^ k - 1) = x % 2 ^ k := Nat.and_two_pow_sub_one_eq_mod x k

section
variable {n : Nat} {f : Nat → Nat}
def vbits (O k j X : Nat) : Nat := Nat.land (Nat.shiftRight X k) (Nat.mul (2 ^ j - 1) O)
theorem vbits_eq {k j : Nat} (hk : k + j ≤ 64) (hf : ∀ i, i < n → f i < BW) : vbits (ones n) k j (ef n f) = ef n fun i => f i / 2 ^ k % 2 ^ j := by
  have hp : 0 < 2 ^ j := Nat.pow_pos (by decide)
  have hle : 2 ^ j ≤ 2 ^ (64 - k) := Nat.pow_le_pow_right (by decide) (by omega)
  show (ef n f >>> k) &&& ((2 ^ j - 1) * ones n) = _
  rw [← ef_const, ef_shr k (by omega) n f _ hf fun i _ => by omega]
  exact ef_congr n fun i _ => by rw [land_low, Nat.shiftRight_eq_div_pow]
def fold1 (O c X : Nat) : Nat := Nat.add (Nat.mul c (vbits O 31 33 X)) (vbits O 0 31 X)
theorem fold1_eq {c : Nat} (hf : ∀ i, i < n → f i < BW) : fold1 (ones n) c (ef n f) = ef n fun i => c * (f i / 2147483648) + f i % 2147483648 := by
  show c * vbits (ones n) 31 33 (ef n f) + vbits (ones n) 0 31 (ef n f) = _
  rw [vbits_eq (by decide) hf, vbits_eq (by decide) hf, ef_mul, ef_add]
  refine ef_congr n fun i hi => ?_
  have h := hf i hi
  have e1 : f i / 2 ^ 31 % 2 ^ 33 = f i / 2147483648 := by
    show f i / 2147483648 % 8589934592 = _
    exact Nat.mod_eq_of_lt (by simp only [BW] at h; omega)
  have e2 : f i / 2 ^ 0 % 2 ^ 31 = f i % 2147483648 := by
    show f i / 1 % 2147483648 = _
    rw [Nat.div_one]
  rw [e1, e2]
def vcond (O m X : Nat) : Nat := Nat.sub X (Nat.mul m (vbits O 32 1 (Nat.add X (Nat.mul (4294967296 - m) O))))
theorem vcond_eq {m : Nat} (h0 : 0 < m) (hm : m ≤ 4294967296) (hf : ∀ i, i < n → f i < 2 * m) : vcond (ones n) m (ef n f) = ef n fun i => f i % m := by
  show ef n f - m * vbits (ones n) 32 1 (ef n f + (4294967296 - m) * ones n) = _
  have hb : ∀ i, i < n → f i + (4294967296 - m) < BW := fun i hi => by have := hf i hi; simp only [BW]; omega
  rw [← ef_const, ef_add, vbits_eq (by decide) hb, ef_mul]
  have key : ∀ i, i < n → m * ((f i + (4294967296 - m)) / 2 ^ 32 % 2 ^ 1) = if m ≤ f i then m else 0 := fun i hi => by
    have h := hf i hi
    show m * ((f i + (4294967296 - m)) / 4294967296 % 2) = _
    split
    · have : (f i + (4294967296 - m)) / 4294967296 % 2 = 1 := by omega
      rw [this, Nat.mul_one]
    · have : (f i + (4294967296 - m)) / 4294967296 % 2 = 0 := by omega
      rw [this, Nat.mul_zero]
  rw [(ef_sub n f _ fun i hi => by rw [key i hi]; split <;> omega).1]
  refine ef_congr n fun i hi => ?_
  rw [key i hi]
  have h := hf i hi
  split
  · rw [Nat.mod_eq_sub_mod (by assumption), Nat.mod_eq_of_lt (by omega)]
  · rw [Nat.sub_zero, Nat.mod_eq_of_lt (by omega)]
def vmod (O c X : Nat) : Nat := vcond O (2147483648 - c) (fold1 O c (fold1 O c X))
theorem fold_mod {c x : Nat} (hc : c < 2147483648) : (c * (x / 2147483648) + x % 2147483648) % (2147483648 - c) = x % (2147483648 - c) := by
  have e : x = (2147483648 - c) * (x / 2147483648) + (c * (x / 2147483648) + x % 2147483648) := by
    have h := Nat.div_add_mod x 2147483648
    have h2 : (2147483648 - c) * (x / 2147483648) + c * (x / 2147483648) = 2147483648 * (x / 2147483648) := by
      rw [← Nat.add_mul]
      congr 1
      omega
    omega
  conv => rhs; rw [e]
  rw [Nat.mul_add_mod]
theorem vmod_eq {c : Nat} (hc : c ≤ 256) (hf : ∀ i, i < n → f i < BW) : vmod (ones n) c (ef n f) = ef n fun i => f i % (2147483648 - c) := by
  unfold vmod
  have b1 : ∀ i, i < n → c * (f i / 2147483648) + f i % 2147483648 < 2 ^ 42 := fun i hi => by
    have h := hf i hi
    have h1 : f i / 2147483648 < 8589934592 := by simp only [BW] at h; omega
    have h2 : c * (f i / 2147483648) ≤ 256 * 8589934592 := Nat.mul_le_mul hc (by omega)
    have h3 : f i % 2147483648 < 2147483648 := Nat.mod_lt _ (by decide)
    show _ < 4398046511104
    omega
  rw [fold1_eq hf, fold1_eq fun i hi => Nat.lt_trans (b1 i hi) (by decide)]
  have b2 : ∀ i, i < n → c * ((c * (f i / 2147483648) + f i % 2147483648) / 2147483648) + (c * (f i / 2147483648) + f i % 2147483648) % 2147483648 < 2 * (2147483648 - c) := fun i hi => by
    have h := b1 i hi
    generalize c * (f i / 2147483648) + f i % 2147483648 = y at h
    have h1 : y / 2147483648 < 2048 := by
      have : y < 4398046511104 := h
      omega
    have h2 : c * (y / 2147483648) ≤ 256 * 2048 := Nat.mul_le_mul hc (by omega)
    have h3 : y % 2147483648 < 2147483648 := Nat.mod_lt _ (by decide)
    omega
  rw [vcond_eq (by omega) (by omega) b2]
  exact ef_congr n fun i _ => by rw [fold_mod (by omega), fold_mod (by omega)]
end
end Lc

end S_LcB
section S_LcC
namespace Lc
section
variable {n : Nat} {f g : Nat → Nat}
theorem div5_lem {x : Nat} (h : x < 2147483648) : 3435973837 * x / 17179869184 = x / 5 := Nat.div_eq_of_lt_le (by omega) (by omega)
theorem div3_lem {x : Nat} (h : x < 268435456) : 1431655766 * x / 4294967296 = x / 3 := Nat.div_eq_of_lt_le (by omega) (by omega)
def vdiv5 (O X : Nat) : Nat := vbits O 34 30 (Nat.mul 3435973837 X)
theorem vdiv5_eq (hf : ∀ i, i < n → f i < 2147483648) : vdiv5 (ones n) (ef n f) = ef n fun i => f i / 5 := by
  show vbits (ones n) 34 30 (3435973837 * ef n f) = _
  rw [ef_mul, vbits_eq (by decide) fun i hi => by have := hf i hi; simp only [BW]; omega]
  refine ef_congr n fun i hi => ?_
  have h := hf i hi
  show 3435973837 * f i / 17179869184 % 1073741824 = _
  rw [div5_lem h]
  omega
def vsel (O X B : Nat) : Nat := Nat.land X (Nat.mul 2147483647 B)
theorem vsel_eq (hf : ∀ i, i < n → f i < 2147483648) (hg : ∀ i, i < n → g i < 2) : vsel (ones n) (ef n f) (ef n g) = ef n fun i => f i * g i := by
  show ef n f &&& 2147483647 * ef n g = _
  rw [ef_mul, ef_land n f _ (fun i hi => by have := hf i hi; simp only [BW]; omega) fun i hi => by have := hg i hi; simp only [BW]; omega]
  refine ef_congr n fun i hi => ?_
  have h1 := hf i hi
  have h2 := hg i hi
  rcases (by omega : g i = 0 ∨ g i = 1) with e | e
  · rw [e, Nat.mul_zero, Nat.mul_zero, Nat.and_zero]
  · rw [e, Nat.mul_one, Nat.mul_one]
    have := land_low (f i) 31
    rw [show (2 : Nat) ^ 31 - 1 = 2147483647 from rfl] at this
    rw [this]
    exact Nat.mod_eq_of_lt h1
noncomputable def forceN (x : Nat) (f : Nat → Nat) : Nat := Nat.rec (motive := fun _ => Nat) (f 0) (fun k _ => f (Nat.succ k)) x
theorem forceN_eq (x : Nat) (f : Nat → Nat) : forceN x f = f x := by cases x <;> rfl
noncomputable def vmulL (O X Y k : Nat) : Nat := Nat.rec (motive := fun _ => Nat) 0 (fun b acc => Nat.add acc (Nat.land (Nat.mul 2147483647 (Nat.land Y (Nat.shiftLeft O b))) (Nat.shiftLeft X b))) k
theorem land_pow (y b : Nat) : y &&& 2 ^ b = 2 ^ b * (y / 2 ^ b % 2) := by
  have hb : y.testBit b = decide (y / 2 ^ b % 2 = 1) := Nat.testBit_eq_decide_div_mod_eq
  apply Nat.eq_of_testBit_eq
  intro i
  rw [Nat.testBit_and, Nat.testBit_two_pow]
  rcases Nat.mod_two_eq_zero_or_one (y / 2 ^ b) with e | e
  · rw [e, Nat.mul_zero, Nat.zero_testBit]
    rw [e] at hb
    by_cases c : b = i
    · subst c; rw [hb]; rfl
    · simp [c]
  · rw [e, Nat.mul_one, Nat.testBit_two_pow]
    rw [e] at hb
    by_cases c : b = i
    · subst c; rw [hb]; simp
    · simp [c]
theorem land_full {x b : Nat} (h : x < 2147483648) : (2147483647 * 2 ^ b) &&& (2 ^ b * x) = 2 ^ b * x := by
  rw [Nat.mul_comm (2 ^ b) x, ← Nat.shiftLeft_eq, ← Nat.shiftLeft_eq, ← Nat.shiftLeft_and_distrib]
  congr 1
  have := land_low x 31
  rw [show (2 : Nat) ^ 31 - 1 = 2147483647 from rfl] at this
  rw [Nat.and_comm, this]
  exact Nat.mod_eq_of_lt h
theorem vmulL_eq (hf : ∀ i, i < n → f i < 2147483648) (hg : ∀ i, i < n → g i < BW) : ∀ (k : Nat), k ≤ 30 → vmulL (ones n) (ef n f) (ef n g) k = ef n fun i => f i * (g i % 2 ^ k)
  | 0, _ => by
    have : (ef n fun i => f i * (g i % 2 ^ 0)) = 0 * ef n fun _ => 0 := by
      rw [ef_mul]
      exact ef_congr n fun i _ => by rw [Nat.pow_zero, Nat.mod_one, Nat.mul_zero]
    rw [this, Nat.zero_mul]
    rfl
  | k + 1, hk => by
    have ih := vmulL_eq hf hg k (by omega)
    show vmulL (ones n) (ef n f) (ef n g) k + ((2147483647 * (ef n g &&& ones n <<< k)) &&& ef n f <<< k) = _
    have hp : 2 ^ k ≤ 536870912 := Nat.pow_le_pow_right (n := 2) (by decide) (show k ≤ 29 by omega)
    have hm : ones n <<< k = ef n fun _ => 2 ^ k := by rw [Nat.shiftLeft_eq, Nat.mul_comm, ← ef_const]
    have hx : ef n f <<< k = ef n fun i => 2 ^ k * f i := by rw [Nat.shiftLeft_eq, Nat.mul_comm, ef_mul]
    rw [ih, hm, hx, ef_land n g _ hg fun i _ => Nat.lt_of_le_of_lt hp (by decide), ef_mul, ef_land, ef_add]
    · refine ef_congr n fun i hi => ?_
      rw [land_pow]
      have e : g i % 2 ^ (k + 1) = g i % 2 ^ k + 2 ^ k * (g i / 2 ^ k % 2) := Nat.mod_pow_succ
      rw [e, Nat.mul_add]
      congr 1
      rcases Nat.mod_two_eq_zero_or_one (g i / 2 ^ k) with c | c
      · rw [c, Nat.mul_zero, Nat.mul_zero, Nat.mul_zero, Nat.zero_and]
      · rw [c, Nat.mul_one, land_full (hf i hi), Nat.mul_comm]
    · intro i hi
      rw [land_pow]
      have h1 : 2 ^ k * (g i / 2 ^ k % 2) ≤ 536870912 * 1 := Nat.mul_le_mul hp (Nat.le_of_lt_succ (Nat.mod_lt _ (by decide)))
      simp only [BW]
      omega
    · intro i hi
      have h1 : 2 ^ k * f i ≤ 536870912 * 2147483648 := Nat.mul_le_mul hp (Nat.le_of_lt (hf i hi))
      simp only [BW]
      omega
noncomputable def vmul (O X Y : Nat) : Nat := forceN X fun X => forceN Y fun Y => vmulL O X Y 30
theorem vmul_eq (hf : ∀ i, i < n → f i < 2147483648) (hg : ∀ i, i < n → g i < 1073741824) : vmul (ones n) (ef n f) (ef n g) = ef n fun i => f i * g i := by
  unfold vmul
  rw [forceN_eq, forceN_eq, vmulL_eq hf (fun i hi => Nat.lt_trans (hg i hi) (by decide)) 30 (by decide)]
  exact ef_congr n fun i hi => by rw [Nat.mod_eq_of_lt (show g i < 2 ^ 30 from hg i hi)]
abbrev GM : Nat := 2147483563
abbrev GS : Nat := 1683133782
def outS (s : Nat) : Nat := s * (s / 5 + 1) % 2147483399 / 8
noncomputable def vout (O X : Nat) : Nat := vbits O 3 28 (vmod O 249 (vmul O X (Nat.add (vdiv5 O X) O)))
theorem vout_eq (hf : ∀ i, i < n → f i < 2147483648) : vout (ones n) (ef n f) = ef n fun i => outS (f i) := by
  show vbits (ones n) 3 28 (vmod (ones n) 249 (vmul (ones n) (ef n f) (vdiv5 (ones n) (ef n f) + ones n))) = _
  have e1 : ones n = ef n fun _ => 1 := by rw [ef_const, Nat.one_mul]
  have a1 : vdiv5 (ones n) (ef n f) + ones n = ef n fun i => f i / 5 + 1 := by
    rw [vdiv5_eq hf]
    conv => lhs; rw [e1]
    rw [ef_add]
  rw [a1, vmul_eq hf fun i hi => by have := hf i hi; omega]
  have b : ∀ i, i < n → f i * (f i / 5 + 1) < BW := fun i hi => by
    have h := hf i hi
    have : f i * (f i / 5 + 1) ≤ 2147483648 * 1073741824 := Nat.mul_le_mul (by omega) (by omega)
    simp only [BW]
    omega
  rw [vmod_eq (by decide) b, vbits_eq (by decide) fun i _ => Nat.lt_trans (Nat.mod_lt _ (by decide)) (by decide)]
  refine ef_congr n fun i hi => ?_
  have h : f i * (f i / 5 + 1) % 2147483399 < 2147483399 := Nat.mod_lt _ (by decide)
  show f i * (f i / 5 + 1) % 2147483399 / 8 % 268435456 = _
  unfold outS
  omega
def vmod3 (O X : Nat) : Nat := Nat.sub X (Nat.mul 3 (vbits O 32 28 (Nat.mul 1431655766 X)))
theorem vmod3_eq (hf : ∀ i, i < n → f i < 268435456) : vmod3 (ones n) (ef n f) = ef n fun i => f i % 3 := by
  show ef n f - 3 * vbits (ones n) 32 28 (1431655766 * ef n f) = _
  rw [ef_mul, vbits_eq (by decide) fun i hi => by have := hf i hi; simp only [BW]; omega]
  have key : ∀ i, i < n → 1431655766 * f i / 2 ^ 32 % 2 ^ 28 = f i / 3 := fun i hi => by
    have := hf i hi
    show 1431655766 * f i / 4294967296 % 268435456 = _
    rw [div3_lem (hf i hi)]
    omega
  rw [ef_congr n key, ef_mul, (ef_sub n f _ fun i hi => by omega).1]
  exact ef_congr n fun i _ => by omega
theorem outS_lt (s : Nat) : outS s < 268435456 := by
  unfold outS
  have : s * (s / 5 + 1) % 2147483399 < 2147483399 := Nat.mod_lt _ (by decide)
  omega
def stS (k u : Nat) : Nat := (k * u + GS) % GM
def vst (O k C : Nat) : Nat := vmod O 85 (Nat.add (Nat.mul k C) (Nat.mul GS O))
def scoreS (wt wr wv k3 k4 k7 k8 u : Nat) : Nat := wt * (outS (stS k3 u) % 3 + outS (stS k4 u) % 3) + wr * (outS (stS k7 u) % 2) + wv * (outS (stS k8 u) % 4)
noncomputable def vscore (O wt wr wv k3 k4 k7 k8 C : Nat) : Nat :=
  Nat.rec (motive := fun _ => Nat) (Nat.add (Nat.mul wt (Nat.add (vmod3 O (vout O (vst O k3 C))) (vmod3 O (vout O (vst O k4 C))))) (Nat.mul wr (vbits O 0 1 (vout O (vst O k7 C)))))
    (fun w _ => Nat.add (Nat.add (Nat.mul wt (Nat.add (vmod3 O (vout O (vst O k3 C))) (vmod3 O (vout O (vst O k4 C))))) (Nat.mul wr (vbits O 0 1 (vout O (vst O k7 C))))) (Nat.mul (Nat.succ w) (vbits O 0 2 (vout O (vst O k8 C))))) wv
end
end Lc

end S_LcC
section S_LcCb
namespace Lc
theorem ef_app : ∀ (n m : Nat) (f : Nat → Nat), ef (n + m) f = ef n f + BW ^ n * ef m fun i => f (n + i)
  | 0, m, f => by
    rw [Nat.zero_add, Nat.pow_zero, Nat.one_mul, ef, Nat.zero_add]
    exact ef_congr m fun i _ => by rw [Nat.zero_add]
  | n + 1, m, f => by
    rw [Nat.add_right_comm, ef, ef_app n m, ef, Nat.mul_add, Nat.pow_succ, Nat.mul_comm (BW ^ n) BW, Nat.mul_assoc, Nat.add_assoc]
    congr 3
    refine congrArg _ (ef_congr m fun i _ => ?_)
    rw [Nat.add_right_comm]
theorem ef_lt : ∀ (n : Nat) (f : Nat → Nat), (∀ i, i < n → f i < BW) → ef n f < BW ^ n
  | 0, f, _ => by rw [ef, Nat.pow_zero]; decide
  | n + 1, f, h => by
    have ih := ef_lt n (fun i => f (i + 1)) fun i hi => h (i + 1) (Nat.succ_lt_succ hi)
    have h0 := h 0 (Nat.succ_pos _)
    rw [ef, Nat.pow_succ, Nat.mul_comm (BW ^ n) BW]
    generalize (ef n fun i => f (i + 1)) = x at ih
    generalize BW ^ n = y at ih
    have : BW * (x + 1) ≤ BW * y := Nat.mul_le_mul_left _ ih
    rw [Nat.mul_add] at this
    omega
def glue (n : Nat) (f g : Nat → Nat) (i : Nat) : Nat := if i < n then f i else g (i - n)
theorem glue_lo {n i : Nat} {f g : Nat → Nat} (h : i < n) : glue n f g i = f i := if_pos h
theorem glue_hi {n i : Nat} {f g : Nat → Nat} : glue n f g (n + i) = g i := by
  unfold glue
  rw [if_neg (by omega), Nat.add_sub_cancel_left]
theorem ef_glue (n m : Nat) (f g : Nat → Nat) : ef n f + BW ^ n * ef m g = ef (n + m) (glue n f g) := by
  rw [ef_app]
  congr 1
  · exact ef_congr n fun i hi => (glue_lo hi).symm
  · exact congrArg _ (ef_congr m fun i _ => glue_hi.symm)
theorem bw_pow (n : Nat) : 2 ^ (64 * n) = BW ^ n := Nat.pow_mul 2 64 n
theorem shl_eq (n x : Nat) : Nat.shiftLeft x (64 * n) = BW ^ n * x := by
  show x <<< (64 * n) = _
  rw [Nat.shiftLeft_eq, bw_pow, Nat.mul_comm]
theorem ef_drop (a b : Nat) (f : Nat → Nat) (hf : ∀ i, i < a → f i < BW) : Nat.shiftRight (ef (a + b) f) (64 * a) = ef b fun i => f (a + i) := by
  show ef (a + b) f >>> (64 * a) = _
  have hl := ef_lt a f hf
  have hp : 0 < BW ^ a := Nat.pow_pos (by decide)
  rw [Nat.shiftRight_eq_div_pow, bw_pow, ef_app, Nat.add_mul_div_left _ _ hp, Nat.div_eq_of_lt hl, Nat.zero_add]
theorem ef_zero : ∀ n : Nat, ef n (fun _ => 0) = 0
  | 0 => rfl
  | n + 1 => by rw [ef, ef_zero n]; rfl
theorem ef_mask (a b m : Nat) (f : Nat → Nat) (hm : m < BW) (hf : ∀ i, i < a + b → f i < BW) : Nat.land (ef (a + b) f) (Nat.mul m (ones a)) = ef a fun i => f i &&& m := by
  show ef (a + b) f &&& m * ones a = _
  have e1 : m * ones a = ef (a + b) (glue a (fun _ => m) fun _ => 0) := by
    rw [← ef_glue, ef_zero, Nat.mul_zero, Nat.add_zero, ef_const]
  rw [e1, ef_land _ f _ hf fun i hi => by
    unfold glue
    split
    · exact hm
    · show 0 < BW; decide]
  rw [ef_app]
  have e2 : (ef b fun i => f (a + i) &&& glue a (fun _ => m) (fun _ => 0) (a + i)) = 0 := by
    have e3 : (ef b fun i => f (a + i) &&& glue a (fun _ => m) (fun _ => 0) (a + i)) = ef b fun _ => 0 := ef_congr b fun i _ => by rw [glue_hi, Nat.and_zero]
    rw [e3, ef_zero]
  rw [e2, Nat.mul_zero, Nat.add_zero]
  exact ef_congr a fun i hi => by rw [glue_lo hi]
theorem ef_mask0 (a m : Nat) (f : Nat → Nat) (hm : m < BW) (hf : ∀ i, i < a → f i < BW) : Nat.land (ef a f) (Nat.mul m (ones a)) = ef a fun i => f i &&& m := ef_mask a 0 m f hm hf
noncomputable def vscore4 (O O4 sh wt wr wv k3 k4 k7 k8 C : Nat) : Nat :=
  forceN (vout O4 (vmod O4 85 (Nat.add (Nat.add (Nat.mul k3 C) (Nat.shiftLeft (Nat.add (Nat.mul k4 C) (Nat.shiftLeft (Nat.add (Nat.mul k7 C) (Nat.shiftLeft (Nat.mul k8 C) sh)) sh)) sh)) (Nat.mul GS O4)))) fun U =>
  forceN (vmod3 O4 U) fun M => forceN (Nat.shiftRight U (Nat.mul 2 sh)) fun V =>
  Nat.add (Nat.add (Nat.mul wt (Nat.add (Nat.land M (Nat.mul 3 O)) (Nat.land (Nat.shiftRight M sh) (Nat.mul 3 O)))) (Nat.mul wr (Nat.land V (Nat.mul 1 O)))) (Nat.mul wv (Nat.land (Nat.shiftRight V sh) (Nat.mul 3 O)))
theorem vscore4_eq {n : Nat} {f : Nat → Nat} {wt wr wv k3 k4 k7 k8 : Nat} (h3 : k3 < 2147483648) (h4 : k4 < 2147483648) (h7 : k7 < 2147483648) (h8 : k8 < 2147483648) (hf : ∀ i, i < n → f i < 2147483648) :
    vscore4 (ones n) (ones (n + (n + (n + n)))) (64 * n) wt wr wv k3 k4 k7 k8 (ef n f) = ef n fun i => scoreS wt wr wv k3 k4 k7 k8 (f i) := by
  obtain ⟨Z, hZ⟩ : ∃ Z : Nat → Nat, Z = glue n (fun i => k3 * f i) (glue n (fun i => k4 * f i) (glue n (fun i => k7 * f i) fun i => k8 * f i)) := ⟨_, rfl⟩
  have bz : ∀ i, i < n + (n + (n + n)) → Z i ≤ 2147483648 * 2147483648 := fun i hi => by
    have b : ∀ k, k < 2147483648 → ∀ i, i < n → k * f i ≤ 2147483648 * 2147483648 := fun k hk i hi => Nat.mul_le_mul (Nat.le_of_lt hk) (Nat.le_of_lt (hf i hi))
    rw [hZ]
    unfold glue
    split
    · exact b k3 h3 _ (by assumption)
    · split
      · exact b k4 h4 _ (by assumption)
      · split
        · exact b k7 h7 _ (by assumption)
        · exact b k8 h8 _ (by omega)
  have e0 : Nat.add (Nat.mul k3 (ef n f)) (Nat.shiftLeft (Nat.add (Nat.mul k4 (ef n f)) (Nat.shiftLeft (Nat.add (Nat.mul k7 (ef n f)) (Nat.shiftLeft (Nat.mul k8 (ef n f)) (64 * n))) (64 * n))) (64 * n)) = ef (n + (n + (n + n))) Z := by
    show k3 * ef n f + Nat.shiftLeft (k4 * ef n f + Nat.shiftLeft (k7 * ef n f + Nat.shiftLeft (k8 * ef n f) (64 * n)) (64 * n)) (64 * n) = _
    rw [shl_eq, shl_eq, shl_eq, ef_mul, ef_mul, ef_mul, ef_mul, ef_glue, ef_glue, ef_glue, hZ]
  have e1 : vmod (ones (n + (n + (n + n)))) 85 (Nat.add (ef (n + (n + (n + n))) Z) (Nat.mul GS (ones (n + (n + (n + n)))))) = ef (n + (n + (n + n))) fun i => (Z i + GS) % GM := by
    show vmod _ 85 (ef _ Z + GS * ones _) = _
    rw [← ef_const, ef_add, vmod_eq (by decide) fun i hi => by
      have := bz i hi
      simp only [BW, GS]; omega]
  obtain ⟨u, hu⟩ : ∃ u : Nat → Nat, u = fun i => outS ((Z i + GS) % GM) := ⟨_, rfl⟩
  have e2 : vout (ones (n + (n + (n + n)))) (ef (n + (n + (n + n))) fun i => (Z i + GS) % GM) = ef (n + (n + (n + n))) u := by
    rw [vout_eq fun i _ => Nat.lt_trans (Nat.mod_lt _ (by decide)) (by decide), hu]
  have ul : ∀ i, u i < 268435456 := fun i => by rw [hu]; exact outS_lt _
  have us : ∀ i, u i < BW := fun i => Nat.lt_trans (ul i) (by decide)
  have ms : ∀ i, u i % 3 < BW := fun i => Nat.lt_trans (Nat.mod_lt _ (by decide)) (by decide)
  have u3 : ∀ i, i < n → u i = outS (stS k3 (f i)) := fun i hi => by rw [hu, hZ]; show outS ((glue n _ _ i + GS) % GM) = _; rw [glue_lo hi]; rfl
  have u4 : ∀ i, i < n → u (n + i) = outS (stS k4 (f i)) := fun i hi => by rw [hu, hZ]; show outS ((glue n _ _ (n + i) + GS) % GM) = _; rw [glue_hi, glue_lo hi]; rfl
  have u7 : ∀ i, i < n → u (n + n + i) = outS (stS k7 (f i)) := fun i hi => by rw [hu, hZ]; show outS ((glue n _ _ (n + n + i) + GS) % GM) = _; rw [Nat.add_assoc, glue_hi, glue_hi, glue_lo hi]; rfl
  have u8 : ∀ i, i < n → u (n + n + (n + i)) = outS (stS k8 (f i)) := fun i hi => by rw [hu, hZ]; show outS ((glue n _ _ (n + n + (n + i)) + GS) % GM) = _; rw [Nat.add_assoc, glue_hi, glue_hi, glue_hi]; rfl
  unfold vscore4
  rw [forceN_eq, forceN_eq, forceN_eq, e0, e1, e2, vmod3_eq fun i _ => ul i]
  have m3 : Nat.mul 2 (64 * n) = 64 * (n + n) := by show 2 * (64 * n) = _; omega
  have x0 : Nat.land (ef (n + (n + (n + n))) fun i => u i % 3) (Nat.mul 3 (ones n)) = ef n fun i => outS (stS k3 (f i)) % 3 := by
    rw [ef_mask _ _ 3 _ (by decide) fun i _ => ms i]
    exact ef_congr n fun i hi => by
      show u i % 3 &&& (2 ^ 2 - 1) = _
      rw [land_low, Nat.mod_eq_of_lt (Nat.lt_trans (Nat.mod_lt _ (by decide)) (by decide)), u3 i hi]
  have x1 : Nat.land (Nat.shiftRight (ef (n + (n + (n + n))) fun i => u i % 3) (64 * n)) (Nat.mul 3 (ones n)) = ef n fun i => outS (stS k4 (f i)) % 3 := by
    rw [ef_drop _ _ _ fun i _ => ms i, ef_mask _ _ 3 _ (by decide) fun i _ => ms _]
    exact ef_congr n fun i hi => by
      show u (n + i) % 3 &&& (2 ^ 2 - 1) = _
      rw [land_low, Nat.mod_eq_of_lt (Nat.lt_trans (Nat.mod_lt _ (by decide)) (by decide)), u4 i hi]
  have x2 : Nat.shiftRight (ef (n + (n + (n + n))) u) (Nat.mul 2 (64 * n)) = ef (n + n) fun i => u (n + n + i) := by
    rw [m3, ← Nat.add_assoc, ef_drop _ _ _ fun i _ => us i]
  have x3 : Nat.land (ef (n + n) fun i => u (n + n + i)) (Nat.mul 1 (ones n)) = ef n fun i => outS (stS k7 (f i)) % 2 := by
    rw [ef_mask _ _ 1 _ (by decide) fun i _ => us _]
    exact ef_congr n fun i hi => by
      show u (n + n + i) &&& (2 ^ 1 - 1) = _
      rw [land_low, u7 i hi]
  have x4 : Nat.land (Nat.shiftRight (ef (n + n) fun i => u (n + n + i)) (64 * n)) (Nat.mul 3 (ones n)) = ef n fun i => outS (stS k8 (f i)) % 4 := by
    rw [ef_drop _ _ _ fun i _ => us _, ef_mask0 _ 3 _ (by decide) fun i _ => us _]
    exact ef_congr n fun i hi => by
      show u (n + n + (n + i)) &&& (2 ^ 2 - 1) = _
      rw [land_low, u8 i hi]
  rw [x2, x0, x1, x3, x4]
  show wt * ((ef n fun i => outS (stS k3 (f i)) % 3) + ef n fun i => outS (stS k4 (f i)) % 3) + wr * (ef n fun i => outS (stS k7 (f i)) % 2) + wv * (ef n fun i => outS (stS k8 (f i)) % 4) = _
  rw [ef_add, ef_mul, ef_mul, ef_mul, ef_add, ef_add]
  rfl
end Lc

end S_LcCb
section S_LcD
namespace Lc
noncomputable def force (x : Nat) (f : Nat → Bool) : Bool := Nat.rec (motive := fun _ => Bool) (f 0) (fun k _ => f (Nat.succ k)) x
theorem force_eq (x : Nat) (f : Nat → Bool) : force x f = f x := by cases x <;> rfl
structure Prm where
  wt : Nat
  wr : Nat
  wv : Nat
  K : Nat
  T : Nat
  BT : Nat
  BI : Nat
abbrev K3 : Nat := 40014 ^ 3 % 2147483563
abbrev K4 : Nat := 40014 ^ 4 % 2147483563
abbrev K7 : Nat := 40014 ^ 7 % 2147483563
abbrev K8 : Nat := 40014 ^ 8 % 2147483563
abbrev B9 : Nat := 40014 ^ 9 % 2147483563
def good (q : Prm) (u : Nat) : Prop := scoreS q.wt q.wr q.wv K3 K4 K7 K8 u ≤ q.K
noncomputable def vrun (q : Prm) (O O4 sh lim : Nat) (R : Nat) : Nat → Nat → Nat → Bool :=
  Nat.rec (motive := fun _ => Nat → Nat → Nat → Bool) (fun _ _ D => Nat.beq (vbits O 40 1 (Nat.add D (Nat.mul (1099511627776 - lim) O))) O)
    (fun _ ih C P D => force (Nat.sub O (vbits O 5 1 (Nat.add (vscore4 O O4 sh q.wt q.wr q.wv K3 K4 K7 K8 C) (Nat.mul (31 - q.K) O)))) fun g => force (Nat.sub O g) fun h =>
      force (Nat.add (vsel O (vmod O 85 (Nat.mul q.BT C)) g) (vsel O (vmod O 85 (Nat.mul q.BI C)) h)) fun C' =>
      force (Nat.sub (Nat.add P (Nat.mul (q.T + 1) g)) O) fun P' => force (Nat.add (vsel O (Nat.add P O) g) (vsel O D h)) fun D' => ih C' P' D') R
structure Okp (q : Prm) : Prop where
  k : q.K ≤ 31
  sc : ∀ u, scoreS q.wt q.wr q.wv K3 K4 K7 K8 u + (31 - q.K) < 64
  t1 : q.T ≤ 1000
  bt : q.BT < 2147483648
  bi : q.BI < 2147483648
  st : ∀ m, B9 ^ m % GM * q.BT % GM = B9 ^ (m + q.T) % GM
  si : ∀ m, B9 ^ (m + 1) % GM * q.BI % GM = B9 ^ m % GM
def wAt (w0 m : Nat) : Nat := w0 * B9 ^ m % GM
theorem wAt_lt (w0 m : Nat) : wAt w0 m < 2147483648 := Nat.lt_trans (Nat.mod_lt _ (by decide)) (by decide)
theorem wAt_fwd {q : Prm} (ok : Okp q) (w0 m : Nat) : q.BT * wAt w0 m % GM = wAt w0 (m + q.T) := by
  unfold wAt
  rw [Nat.mul_mod, Nat.mod_mod, ← Nat.mul_mod, Nat.mul_comm q.BT, Nat.mul_assoc, Nat.mul_mod, ← Nat.mod_mul_mod (B9 ^ m), ok.st m, ← Nat.mul_mod]
theorem wAt_back {q : Prm} (ok : Okp q) (w0 m : Nat) : q.BI * wAt w0 (m + 1) % GM = wAt w0 m := by
  unfold wAt
  rw [Nat.mul_mod, Nat.mod_mod, ← Nat.mul_mod, Nat.mul_comm q.BI, Nat.mul_assoc, Nat.mul_mod, ← Nat.mod_mul_mod (B9 ^ (m + 1)), ok.si m, ← Nat.mul_mod]
structure LInv (q : Prm) (off : Nat) (w0 c p d : Nat) : Prop where
  c : c = wAt w0 p
  pd : p + 1 ≤ d + q.T
  cov : ∀ m, off ≤ m → m < d → ∃ t, t < q.T ∧ good q (wAt w0 (m + t))
theorem vrun_ok {q : Prm} (ok : Okp q) {n off lim : Nat} {w0 : Nat → Nat} (hlim : lim ≤ 1099511627776) : ∀ (R : Nat) (c p d : Nat → Nat), (∀ i, i < n → LInv q off (w0 i) (c i) (p i) (d i)) → (∀ i, i < n → R ≤ p i ∧ p i + R * 1000 < 2147483647 ∧ d i < 2147483648) →
    vrun q (ones n) (ones (n + (n + (n + n)))) (64 * n) lim R (ef n c) (ef n p) (ef n d) = true → ∀ i, i < n → ∀ m, off ≤ m → m < lim → ∃ t, t < q.T ∧ good q (wAt (w0 i) (m + t))
  | 0, c, p, d, hI, hb, h, i, hi, m, h1, h2 => by
    have h : Nat.beq (vbits (ones n) 40 1 (ef n d + (1099511627776 - lim) * ones n)) (ones n) = true := h
    have h := Nat.eq_of_beq_eq_true h
    rw [← ef_const, ef_add, vbits_eq (by decide) fun i hi => by have := (hb i hi).2.2; simp only [BW]; omega] at h
    have e1 : ones n = ef n fun _ => 1 := by rw [ef_const, Nat.one_mul]
    rw [e1] at h
    have e := ef_inj n _ _ (fun i hi => Nat.lt_trans (Nat.mod_lt _ (by decide)) (by decide)) (fun i hi => by decide) h i hi
    have e : (d i + (1099511627776 - lim)) / 1099511627776 % 2 = 1 := e
    have hd := (hb i hi).2.2
    exact (hI i hi).cov m h1 (by omega)
  | R + 1, c, p, d, hI, hb, h, i, hi, m, h1, h2 => by
    have hc : ∀ i, i < n → c i < 2147483648 := fun i hi => by rw [(hI i hi).c]; exact wAt_lt _ _
    have e0 : ones n = ef n fun _ => 1 := by rw [ef_const, Nat.one_mul]
    have e1 := vscore4_eq (n := n) (f := c) (wt := q.wt) (wr := q.wr) (wv := q.wv) (k3 := K3) (k4 := K4) (k7 := K7) (k8 := K8) (by decide) (by decide) (by decide) (by decide) hc
    obtain ⟨g, hg⟩ : ∃ g : Nat → Nat, g = fun i => 1 - (scoreS q.wt q.wr q.wv K3 K4 K7 K8 (c i) + (31 - q.K)) / 2 ^ 5 % 2 ^ 1 := ⟨_, rfl⟩
    have e2 : Nat.sub (ones n) (vbits (ones n) 5 1 (Nat.add (vscore4 (ones n) (ones (n + (n + (n + n)))) (64 * n) q.wt q.wr q.wv K3 K4 K7 K8 (ef n c)) (Nat.mul (31 - q.K) (ones n)))) = ef n g := by
      show ones n - vbits (ones n) 5 1 (vscore4 (ones n) (ones (n + (n + (n + n)))) (64 * n) q.wt q.wr q.wv K3 K4 K7 K8 (ef n c) + (31 - q.K) * ones n) = _
      rw [e1, ← ef_const, ef_add, vbits_eq (by decide) fun i _ => Nat.lt_trans (ok.sc _) (by decide)]
      conv => lhs; lhs; rw [e0]
      rw [(ef_sub n _ _ fun i _ => Nat.le_of_lt_succ (Nat.mod_lt _ (by decide))).1, hg]
    have g2 : ∀ i, (g i = 1 ∧ good q (c i)) ∨ g i = 0 := fun i => by
      have hs := ok.sc (c i)
      have hk := ok.k
      rw [hg]
      show (1 - (scoreS q.wt q.wr q.wv K3 K4 K7 K8 (c i) + (31 - q.K)) / 32 % 2 = 1 ∧ scoreS q.wt q.wr q.wv K3 K4 K7 K8 (c i) ≤ q.K) ∨ 1 - (scoreS q.wt q.wr q.wv K3 K4 K7 K8 (c i) + (31 - q.K)) / 32 % 2 = 0
      omega
    have gl : ∀ i, i < n → g i < 2 := fun i _ => by rcases g2 i with h | h <;> omega
    have gl' : ∀ i, i < n → 1 - g i < 2 := fun i _ => by omega
    have e3 : Nat.sub (ones n) (ef n g) = ef n fun i => 1 - g i := by
      show ones n - ef n g = _
      rw [e0, (ef_sub n _ _ fun i hi => Nat.le_of_lt_succ (gl i hi)).1]
    have mul_lt : ∀ k, k < 2147483648 → ∀ i, i < n → k * c i < BW := fun k hk i hi => by
      have := hc i hi
      have : k * c i ≤ 2147483648 * 2147483648 := Nat.mul_le_mul (by omega) (by omega)
      simp only [BW]; omega
    have md : ∀ k, k < 2147483648 → vmod (ones n) 85 (Nat.mul k (ef n c)) = ef n fun i => k * c i % GM := fun k hk => by
      show vmod (ones n) 85 (k * ef n c) = _
      rw [ef_mul, vmod_eq (by decide) (mul_lt k hk)]
    have e4 : Nat.add (vsel (ones n) (vmod (ones n) 85 (Nat.mul q.BT (ef n c))) (ef n g)) (vsel (ones n) (vmod (ones n) 85 (Nat.mul q.BI (ef n c))) (ef n fun i => 1 - g i)) = ef n fun i => q.BT * c i % GM * g i + q.BI * c i % GM * (1 - g i) := by
      rw [md _ ok.bt, md _ ok.bi, vsel_eq (fun i _ => Nat.lt_trans (Nat.mod_lt _ (by decide)) (by decide)) gl, vsel_eq (fun i _ => Nat.lt_trans (Nat.mod_lt _ (by decide)) (by decide)) gl']
      exact ef_add n _ _
    have e5 : Nat.sub (Nat.add (ef n p) (Nat.mul (q.T + 1) (ef n g))) (ones n) = ef n fun i => p i + (q.T + 1) * g i - 1 := by
      show ef n p + (q.T + 1) * ef n g - ones n = _
      rw [e0, ef_mul, ef_add, (ef_sub n _ _ fun i hi => by have := (hb i hi).1; omega).1]
    have e6 : Nat.add (vsel (ones n) (Nat.add (ef n p) (ones n)) (ef n g)) (vsel (ones n) (ef n d) (ef n fun i => 1 - g i)) = ef n fun i => (p i + 1) * g i + d i * (1 - g i) := by
      have a : Nat.add (ef n p) (ones n) = ef n fun i => p i + 1 := by
        show ef n p + ones n = _
        conv => lhs; rw [e0]
        exact ef_add n _ _
      rw [a, vsel_eq (fun i hi => by have := (hb i hi).2.1; omega) gl, vsel_eq (fun i hi => (hb i hi).2.2) gl']
      exact ef_add n _ _
    have h : force (Nat.sub (ones n) (vbits (ones n) 5 1 (Nat.add (vscore4 (ones n) (ones (n + (n + (n + n)))) (64 * n) q.wt q.wr q.wv K3 K4 K7 K8 (ef n c)) (Nat.mul (31 - q.K) (ones n))))) (fun g => force (Nat.sub (ones n) g) fun h =>
      force (Nat.add (vsel (ones n) (vmod (ones n) 85 (Nat.mul q.BT (ef n c))) g) (vsel (ones n) (vmod (ones n) 85 (Nat.mul q.BI (ef n c))) h)) fun C' =>
      force (Nat.sub (Nat.add (ef n p) (Nat.mul (q.T + 1) g)) (ones n)) fun P' => force (Nat.add (vsel (ones n) (Nat.add (ef n p) (ones n)) g) (vsel (ones n) (ef n d) h)) fun D' => vrun q (ones n) (ones (n + (n + (n + n)))) (64 * n) lim R C' P' D') = true := h
    rw [force_eq, e2, force_eq, e3, force_eq, e4, force_eq, e5, force_eq, e6] at h
    refine vrun_ok ok hlim R _ _ _ (fun i hi => ?_) (fun i hi => ?_) h i hi m h1 h2
    · have I := hI i hi
      have hp := (hb i hi).1
      rcases g2 i with ⟨g1, gd⟩ | g0
      · rw [g1]
        refine ⟨?_, by simp only [Nat.mul_one]; omega, fun m m1 m2 => ?_⟩
        · rw [Nat.sub_self, Nat.mul_zero, Nat.mul_one, Nat.mul_one, Nat.add_zero, I.c, wAt_fwd ok]
          rw [show p i + (q.T + 1) - 1 = p i + q.T from rfl]
        · have m2 : m < p i + 1 := by simpa using m2
          by_cases hd : m < d i
          · exact I.cov m m1 hd
          · have pd := I.pd
            refine ⟨p i - m, by omega, ?_⟩
            rw [show m + (p i - m) = p i by omega, ← I.c]
            exact gd
      · rw [g0]
        refine ⟨?_, ?_, fun m m1 m2 => I.cov m m1 (by simpa using m2)⟩
        · rw [Nat.mul_zero, Nat.zero_add, Nat.sub_zero, Nat.mul_one, I.c]
          have := wAt_back ok (w0 i) (p i - 1)
          rw [show p i - 1 + 1 = p i by omega] at this
          rw [this]
          congr 1
        · have pd := I.pd
          simp only [Nat.mul_zero, Nat.zero_add, Nat.sub_zero, Nat.mul_one, Nat.add_zero]
          omega
    · obtain ⟨b1, b2, b3⟩ := hb i hi
      have t1 := ok.t1
      have b2 : p i + (R * 1000 + 1000) < 2147483647 := by rw [Nat.succ_mul] at b2; exact b2
      rcases g2 i with ⟨g1, _⟩ | g0
      · rw [g1]
        simp only [Nat.mul_one, Nat.sub_self, Nat.mul_zero, Nat.add_zero]
        omega
      · rw [g0]
        simp only [Nat.mul_zero, Nat.zero_add, Nat.sub_zero, Nat.mul_one, Nat.add_zero]
        omega
end Lc

end S_LcD
section S_LcE
namespace Lc
theorem ones_app (n : Nat) : ones (n + n) = ones n + BW ^ n * ones n := by
  have a : ∀ k, ones k = ef k fun _ => 1 := fun k => by rw [ef_const, Nat.one_mul]
  rw [a (n + n), ef_app, ← a n]
theorem ones_add (n m : Nat) : ones n + BW ^ n * ones m = ones (n + m) := by
  have a : ∀ k, ones k = ef k fun _ => 1 := fun k => by rw [ef_const, Nat.one_mul]
  rw [a n, a m, a (n + m), ef_app]
noncomputable def vinit (x : Nat) (k : Nat) : Nat → Nat → Nat → Nat → (Nat → Nat → Bool) → Bool :=
  Nat.rec (motive := fun _ => Nat → Nat → Nat → Nat → (Nat → Nat → Bool) → Bool) (fun V O _ _ f => f V O)
    (fun _ ih V O s g f => force (Nat.add V (Nat.mul s (vmod O 85 (Nat.mul g V)))) fun V' => force (Nat.add O (Nat.mul s O)) fun O' => force (Nat.mul s s) fun s' => force (Nat.mod (Nat.mul g g) GM) fun g' => ih V' O' s' g' f) k
noncomputable def chk (q : Prm) (k off len R gam x : Nat) : Bool :=
  vinit x k x 1 BW gam fun V O => force (Nat.mul 64 (2 ^ k)) fun sh => force (Nat.add O (Nat.shiftLeft (Nat.add O (Nat.shiftLeft (Nat.add O (Nat.shiftLeft O sh)) sh)) sh)) fun O4 => vrun q O O4 sh (off + len) R V (Nat.mul (off + q.T - 1) O) (Nat.mul off O)
def q120 : Prm := ⟨3, 8, 2, 11, 120, 1400944985, 1814622986⟩
def q26 : Prm := ⟨2, 5, 1, 10, 26, 729573423, 1814622986⟩
end Lc

end S_LcE
section S_LcF
namespace Lc
def geoL (x g0 i : Nat) : Nat := x * g0 ^ i % GM
theorem geoL_lt (x g0 i : Nat) : geoL x g0 i < 2147483648 := Nat.lt_trans (Nat.mod_lt _ (by decide)) (by decide)
theorem geoL_add (x g0 n i : Nat) : g0 ^ n % GM * geoL x g0 i % GM = geoL x g0 (n + i) := by
  unfold geoL
  rw [← Nat.mul_mod, Nat.pow_add, Nat.mul_left_comm]
theorem vinit_ok (x y g0 : Nat) (f : Nat → Nat → Bool) : ∀ (k n : Nat), vinit y k (ef n (geoL x g0)) (ones n) (BW ^ n) (g0 ^ n % GM) f = f (ef (n * 2 ^ k) (geoL x g0)) (ones (n * 2 ^ k))
  | 0, n => by rw [Nat.pow_zero, Nat.mul_one]; rfl
  | k + 1, n => by
    have h : vinit y (k + 1) (ef n (geoL x g0)) (ones n) (BW ^ n) (g0 ^ n % GM) f = force (Nat.add (ef n (geoL x g0)) (Nat.mul (BW ^ n) (vmod (ones n) 85 (Nat.mul (g0 ^ n % GM) (ef n (geoL x g0)))))) fun V' =>
      force (Nat.add (ones n) (Nat.mul (BW ^ n) (ones n))) fun O' => force (Nat.mul (BW ^ n) (BW ^ n)) fun s' => force (Nat.mod (Nat.mul (g0 ^ n % GM) (g0 ^ n % GM)) GM) fun g' => vinit y k V' O' s' g' f := rfl
    have e1 : Nat.add (ef n (geoL x g0)) (Nat.mul (BW ^ n) (vmod (ones n) 85 (Nat.mul (g0 ^ n % GM) (ef n (geoL x g0))))) = ef (n + n) (geoL x g0) := by
      show ef n (geoL x g0) + BW ^ n * vmod (ones n) 85 (g0 ^ n % GM * ef n (geoL x g0)) = _
      rw [ef_mul, vmod_eq (by decide) fun i _ => by
        have h1 := geoL_lt x g0 i
        have h2 : g0 ^ n % GM < GM := Nat.mod_lt _ (by decide)
        have : g0 ^ n % GM * geoL x g0 i ≤ 2147483648 * 2147483648 := Nat.mul_le_mul (Nat.le_of_lt (Nat.lt_trans h2 (by decide))) (Nat.le_of_lt h1)
        simp only [BW]; omega, ef_app]
      congr 2
      exact ef_congr n fun i _ => geoL_add x g0 n i
    have e2 : Nat.add (ones n) (Nat.mul (BW ^ n) (ones n)) = ones (n + n) := (ones_app n).symm
    have e3 : Nat.mul (BW ^ n) (BW ^ n) = BW ^ (n + n) := (Nat.pow_add ..).symm
    have e4 : Nat.mod (Nat.mul (g0 ^ n % GM) (g0 ^ n % GM)) GM = g0 ^ (n + n) % GM := by
      show g0 ^ n % GM * (g0 ^ n % GM) % GM = _
      rw [← Nat.mul_mod, Nat.pow_add]
    rw [h, force_eq, e1, force_eq, e2, force_eq, e3, force_eq, e4, vinit_ok x y g0 f k (n + n)]
    have e : (n + n) * 2 ^ k = n * 2 ^ (k + 1) := by rw [Nat.pow_succ, ← Nat.two_mul, Nat.mul_comm 2 n, Nat.mul_assoc, Nat.mul_comm 2]
    rw [e]
theorem chk_ok {q : Prm} (ok : Okp q) {k off len R gam x : Nat} (hx : x < GM) (hg : gam < GM) (hlim : off + len ≤ 1099511627776) (ht : 0 < q.T) (hR : R ≤ off + q.T - 1) (hb : off + q.T + R * 1000 < 2147483647)
    (w0 : Nat → Nat) (hw : ∀ i, i < 2 ^ k → geoL x gam i = wAt (w0 i) (off + q.T - 1)) (h : chk q k off len R gam x = true) :
    ∀ i, i < 2 ^ k → ∀ m, off ≤ m → m < off + len → ∃ t, t < q.T ∧ good q (wAt (w0 i) (m + t)) := by
  unfold chk at h
  have e1 : x = ef 1 (geoL x gam) := by
    show x = x * gam ^ 0 % GM + BW * 0
    rw [Nat.pow_zero, Nat.mul_one, Nat.mul_zero, Nat.add_zero, Nat.mod_eq_of_lt hx]
  have e2 : (1 : Nat) = ones 1 := by decide
  have e3 : BW = BW ^ 1 := (Nat.pow_one _).symm
  have e4 : gam = gam ^ 1 % GM := by rw [Nat.pow_one, Nat.mod_eq_of_lt hg]
  have hv := vinit_ok x x gam (fun V O => force (Nat.mul 64 (2 ^ k)) fun sh => force (Nat.add O (Nat.shiftLeft (Nat.add O (Nat.shiftLeft (Nat.add O (Nat.shiftLeft O sh)) sh)) sh)) fun O4 => vrun q O O4 sh (off + len) R V (Nat.mul (off + q.T - 1) O) (Nat.mul off O)) k 1
  rw [← e1, ← e2, ← e3, ← e4, Nat.one_mul] at hv
  rw [hv] at h
  have e5 : Nat.add (ones (2 ^ k)) (Nat.shiftLeft (Nat.add (ones (2 ^ k)) (Nat.shiftLeft (Nat.add (ones (2 ^ k)) (Nat.shiftLeft (ones (2 ^ k)) (64 * 2 ^ k))) (64 * 2 ^ k))) (64 * 2 ^ k)) = ones (2 ^ k + (2 ^ k + (2 ^ k + 2 ^ k))) := by
    show ones (2 ^ k) + Nat.shiftLeft (ones (2 ^ k) + Nat.shiftLeft (ones (2 ^ k) + Nat.shiftLeft (ones (2 ^ k)) (64 * 2 ^ k)) (64 * 2 ^ k)) (64 * 2 ^ k) = _
    rw [shl_eq, shl_eq, shl_eq, ones_add, ones_add, ones_add]
  have h := (force_eq _ _).symm.trans h
  have h : force (Nat.add (ones (2 ^ k)) (Nat.shiftLeft (Nat.add (ones (2 ^ k)) (Nat.shiftLeft (Nat.add (ones (2 ^ k)) (Nat.shiftLeft (ones (2 ^ k)) (64 * 2 ^ k))) (64 * 2 ^ k))) (64 * 2 ^ k))) (fun O4 => vrun q (ones (2 ^ k)) O4 (64 * 2 ^ k) (off + len) R (ef (2 ^ k) (geoL x gam)) (Nat.mul (off + q.T - 1) (ones (2 ^ k))) (Nat.mul off (ones (2 ^ k)))) = true := h
  rw [force_eq, e5] at h
  have h : vrun q (ones (2 ^ k)) (ones (2 ^ k + (2 ^ k + (2 ^ k + 2 ^ k)))) (64 * 2 ^ k) (off + len) R (ef (2 ^ k) (geoL x gam)) ((off + q.T - 1) * ones (2 ^ k)) (off * ones (2 ^ k)) = true := h
  rw [← ef_const, ← ef_const] at h
  exact vrun_ok ok hlim R (geoL x gam) (fun _ => off + q.T - 1) (fun _ => off) (fun i hi => ⟨hw i hi, by omega, fun m m1 m2 => absurd m2 (Nat.not_lt.mpr m1)⟩) (fun i _ => ⟨hR, by omega, by omega⟩) h
end Lc

end S_LcF
section S_LcG
namespace Lc
theorem st_of {BT T : Nat} (h : BT = B9 ^ T % GM) (m : Nat) : B9 ^ m % GM * BT % GM = B9 ^ (m + T) % GM := by
  rw [h, ← Nat.mul_mod, Nat.pow_add]
theorem si_of {BI : Nat} (h : B9 * BI % GM = 1) (m : Nat) : B9 ^ (m + 1) % GM * BI % GM = B9 ^ m % GM := by
  rw [Nat.mod_mul_mod, Nat.pow_succ, Nat.mul_assoc, Nat.mul_mod, h, Nat.mul_one, Nat.mod_mod]
theorem ok26 : Okp q26 := by
  refine ⟨by decide, fun u => ?_, by decide, by decide, by decide, st_of (by decide +kernel), si_of (by decide +kernel)⟩
  show 2 * (outS (stS K3 u) % 3 + outS (stS K4 u) % 3) + 5 * (outS (stS K7 u) % 2) + 1 * (outS (stS K8 u) % 4) + 21 < 64
  omega
def pm (b e : Nat) : Nat → Nat → Nat
  | 0, acc => acc
  | k + 1, acc => pm b e k (acc * acc % GM * (if e / 2 ^ k % 2 = 1 then b else 1) % GM)
theorem pm_eq (b e : Nat) : ∀ k, pm b e k (b ^ (e / 2 ^ k) % GM) = b ^ e % GM
  | 0 => by rw [pm, Nat.pow_zero, Nat.div_one]
  | k + 1 => by
    rw [pm, ← pm_eq b e k]
    congr 1
    have h2 : e / 2 ^ k = 2 * (e / 2 ^ (k + 1)) + e / 2 ^ k % 2 := by
      rw [Nat.pow_succ, ← Nat.div_div_eq_div_mul]
      omega
    generalize e / 2 ^ (k + 1) = y at h2
    generalize e / 2 ^ k = z at h2
    rw [← Nat.mul_mod, Nat.mod_mul_mod, h2]
    split
    · rename_i c
      rw [show 2 * y + z % 2 = y + y + 1 by omega, Nat.pow_succ, Nat.pow_add]
    · rename_i c
      rw [show 2 * y + z % 2 = y + y by omega, Nat.pow_add, Nat.mul_one]
theorem powmod (b e : Nat) (he : e < 2 ^ 32) : b ^ e % GM = pm b e 32 1 := by
  have h := pm_eq b e 32
  rw [Nat.div_eq_of_lt he, Nat.pow_zero] at h
  rw [← h]
  rfl
theorem ord1 : 40014 ^ 2147483562 % GM = 1 := by rw [powmod _ _ (by decide)]; decide +kernel
theorem ord2 : ¬ 40014 ^ 1073741781 % GM = 1 := by rw [powmod _ _ (by decide)]; decide +kernel
theorem ord3 : ¬ 40014 ^ 715827854 % GM = 1 := by rw [powmod _ _ (by decide)]; decide +kernel
theorem ord7 : ¬ 40014 ^ 306783366 % GM = 1 := by rw [powmod _ _ (by decide)]; decide +kernel
theorem ord631 : ¬ 40014 ^ 3403302 % GM = 1 := by rw [powmod _ _ (by decide)]; decide +kernel
theorem ord81031 : ¬ 40014 ^ 26502 % GM = 1 := by rw [powmod _ _ (by decide)]; decide +kernel
end Lc

end S_LcG
section S_LcH
namespace Lc
theorem pig : ∀ (n : Nat) (f : Nat → Nat), (∀ i, i < n → f i < n) → (∀ i j, i < n → j < n → f i = f j → i = j) → ∀ y, y < n → ∃ i, i < n ∧ f i = y
  | 0, _, _, _, y, hy => absurd hy (Nat.not_lt_zero _)
  | n + 1, f, hf, hi, y, hy => by
    have hv := hf n (Nat.lt_succ_self n)
    have ih := pig n (fun i => if f i = n then f n else f i) (fun i hin => by
      have h1 := hf i (by omega)
      show (if f i = n then f n else f i) < n
      split
      · rename_i e
        have : f n ≠ n := fun e2 => by have := hi i n (by omega) (by omega) (e.trans e2.symm); omega
        omega
      · omega) (fun i j hin hjn e => by
      have e : (if f i = n then f n else f i) = (if f j = n then f n else f j) := e
      have ni : f i ≠ f n := fun q => by have := hi i n (by omega) (by omega) q; omega
      have nj : f j ≠ f n := fun q => by have := hi j n (by omega) (by omega) q; omega
      by_cases a : f i = n
      · by_cases b : f j = n
        · exact hi i j (by omega) (by omega) (a.trans b.symm)
        · rw [if_pos a, if_neg b] at e
          exact absurd e.symm nj
      · by_cases b : f j = n
        · rw [if_neg a, if_pos b] at e
          exact absurd e ni
        · rw [if_neg a, if_neg b] at e
          exact hi i j (by omega) (by omega) e)
    by_cases c : y = f n
    · exact ⟨n, Nat.lt_succ_self n, c.symm⟩
    · by_cases d : y = n
      · have vn : f n < n := by
          have : f n ≠ n := fun q => c (d.trans q.symm)
          omega
        obtain ⟨i, h1, h2⟩ := ih (f n) vn
        have h2 : (if f i = n then f n else f i) = f n := h2
        by_cases a : f i = n
        · exact ⟨i, by omega, by rw [d]; exact a⟩
        · rw [if_neg a] at h2
          have := hi i n (by omega) (by omega) h2
          omega
      · obtain ⟨i, h1, h2⟩ := ih y (by omega)
        have h2 : (if f i = n then f n else f i) = y := h2
        by_cases a : f i = n
        · rw [if_pos a] at h2
          exact absurd h2.symm c
        · rw [if_neg a] at h2
          exact ⟨i, by omega, h2⟩
abbrev P1 (e : Nat) : Prop := 40014 ^ e % GM = 1
theorem p1_mul {e : Nat} (h : P1 e) (k : Nat) : P1 (e * k) := by
  show 40014 ^ (e * k) % GM = 1
  rw [Nat.pow_mul, Nat.pow_mod, h, Nat.one_pow]
  decide
theorem p1_add {x y : Nat} (hy : P1 y) : 40014 ^ (x + y) % GM = 40014 ^ x % GM := by
  rw [Nat.pow_add, Nat.mul_mod, hy, Nat.mul_one, Nat.mod_mod]
theorem p1_mod {x y : Nat} (hx : P1 x) (hy : P1 y) : P1 (x % y) := by
  have h : 40014 ^ (x % y + y * (x / y)) % GM = 40014 ^ (x % y) % GM := p1_add (p1_mul hy _)
  rw [Nat.mod_add_div] at h
  exact h.symm.trans hx
theorem p1_gcd : ∀ (m n : Nat), P1 m → P1 n → P1 (Nat.gcd m n) := fun m n => by
  refine Nat.gcd.induction m n (fun n _ h => by rw [Nat.gcd_zero_left]; exact h) fun m n hm ih h1 h2 => ?_
  rw [Nat.gcd_rec]
  exact ih (p1_mod h2 h1) h1
def isP (p : Nat) : Bool := Nat.rec (motive := fun _ => Bool) true (fun d ih => (Nat.ble d 1 || !(Nat.beq (Nat.mod p d) 0)) && ih) p
theorem isP_ok {p : Nat} : ∀ n, Nat.rec (motive := fun _ => Bool) true (fun d ih => (Nat.ble d 1 || !(Nat.beq (Nat.mod p d) 0)) && ih) n = true → ∀ d, d < n → d ∣ p → d ≤ 1
  | 0, _, d, h, _ => absurd h (Nat.not_lt_zero _)
  | n + 1, h, d, hd, hp => by
    have h : ((Nat.ble n 1 || !(Nat.beq (Nat.mod p n) 0)) && Nat.rec (motive := fun _ => Bool) true (fun d ih => (Nat.ble d 1 || !(Nat.beq (Nat.mod p d) 0)) && ih) n) = true := h
    rw [Bool.and_eq_true] at h
    rcases (by omega : d < n ∨ d = n) with q | q
    · exact isP_ok n h.2 d q hp
    · subst q
      have h1 := h.1
      rw [Bool.or_eq_true] at h1
      rcases h1 with h1 | h1
      · exact Nat.le_of_ble_eq_true h1
      · have e : Nat.mod p d = 0 := Nat.mod_eq_zero_of_dvd hp
        rw [e] at h1
        cases h1
theorem cop {p h : Nat} (hp : isP p = true) (h0 : 0 < p) (hn : ¬ p ∣ h) : Nat.Coprime h p := by
  have hd : Nat.gcd h p ∣ p := Nat.gcd_dvd_right _ _
  have hle := Nat.le_of_dvd h0 hd
  rcases (by omega : Nat.gcd h p < p ∨ Nat.gcd h p = p) with q | q
  · have h1 := isP_ok p hp _ q hd
    have h2 : 0 < Nat.gcd h p := Nat.gcd_pos_of_pos_right _ h0
    show Nat.gcd h p = 1
    omega
  · exact absurd (q ▸ Nat.gcd_dvd_left h p) hn
theorem no_div {g : Nat} (hg : g ∣ 2147483562) (hp : P1 g) : g = 2147483562 := by
  obtain ⟨h, e⟩ := hg
  have key : ∀ p k, 0 < p → p * k = 2147483562 → ¬ P1 k → ¬ p ∣ h := fun p k p0 ek nk ⟨j, ej⟩ => by
    refine nk ?_
    have e2 : p * k = p * (g * j) := by rw [ek, e, ej, Nat.mul_left_comm]
    rw [Nat.eq_of_mul_eq_mul_left p0 e2]
    exact p1_mul hp j
  have c2 := cop (p := 2) (h := h) (by decide +kernel) (by decide) (key 2 1073741781 (by decide) (by decide) ord2)
  have c3 := cop (p := 3) (h := h) (by decide +kernel) (by decide) (key 3 715827854 (by decide) (by decide) ord3)
  have c7 := cop (p := 7) (h := h) (by decide +kernel) (by decide) (key 7 306783366 (by decide) (by decide) ord7)
  have c6 := cop (p := 631) (h := h) (by decide +kernel) (by decide) (key 631 3403302 (by decide) (by decide) ord631)
  have c8 := cop (p := 81031) (h := h) (by decide +kernel) (by decide) (key 81031 26502 (by decide) (by decide) ord81031)
  have c : Nat.Coprime h (2 * (3 * (7 * (631 * 81031)))) := Nat.Coprime.mul_right c2 (Nat.Coprime.mul_right c3 (Nat.Coprime.mul_right c7 (Nat.Coprime.mul_right c6 c8)))
  have c : Nat.Coprime h 2147483562 := c
  have h1 : h = 1 := Nat.Coprime.eq_one_of_dvd c ⟨g, by rw [e, Nat.mul_comm]⟩
  rw [e, h1, Nat.mul_one]
end Lc

end S_LcH
section S_LcI
namespace Lc
theorem p1_small {e : Nat} (h : P1 e) (h0 : 0 < e) (hl : e < 2147483562) : False := by
  have g := no_div (Nat.gcd_dvd_right e 2147483562) (p1_gcd e _ h ord1)
  have := Nat.le_of_dvd h0 (Nat.gcd_dvd_left e 2147483562)
  omega
theorem pow_inj_lt {i j : Nat} (hij : i < j) (hj : j < 2147483562) (h : 40014 ^ i % GM = 40014 ^ j % GM) : False := by
  have e1 : 40014 ^ (2147483562 - i + j) % GM = 1 := by
    rw [Nat.pow_add, Nat.mul_mod, ← h, ← Nat.mul_mod, ← Nat.pow_add, Nat.sub_add_cancel (by omega)]
    exact ord1
  have e2 : 2147483562 - i + j = (j - i) + 2147483562 := by omega
  rw [e2, p1_add ord1] at e1
  exact p1_small e1 (by omega) (by omega)
theorem pow_inj {i j : Nat} (hi : i < 2147483562) (hj : j < 2147483562) (h : 40014 ^ i % GM = 40014 ^ j % GM) : i = j := by
  rcases Nat.lt_trichotomy i j with c | c | c
  · exact (pow_inj_lt c hj h).elim
  · exact c
  · exact (pow_inj_lt c hi h.symm).elim
theorem pow_pos {i : Nat} (hi : i < 2147483562) : 0 < 40014 ^ i % GM := by
  rcases Nat.eq_zero_or_pos (40014 ^ i % GM) with h | h
  · have e : 40014 ^ (2147483562 - i + i) % GM = 0 := by
      rw [Nat.pow_add, Nat.mul_mod, h, Nat.mul_zero]
      decide
    rw [Nat.sub_add_cancel (by omega)] at e
    have := ord1
    omega
  · exact h
theorem pow_surj {u : Nat} (h0 : 0 < u) (hu : u < GM) : ∃ i, i < 2147483562 ∧ 40014 ^ i % GM = u := by
  have b : ∀ i, 40014 ^ i % GM < 2147483563 := fun i => Nat.mod_lt _ (by decide)
  obtain ⟨i, h1, h2⟩ := pig 2147483562 (fun i => 40014 ^ i % GM - 1) (fun i hi => by
    have := b i
    have := pow_pos hi
    show 40014 ^ i % GM - 1 < 2147483562
    omega) (fun i j hi hj e => by
    have e : 40014 ^ i % GM - 1 = 40014 ^ j % GM - 1 := e
    have a := pow_pos hi
    have c := pow_pos hj
    exact pow_inj hi hj (by omega)) (u - 1) (by simp only [GM] at hu; omega)
  have h2 : 40014 ^ i % GM - 1 = u - 1 := h2
  have := pow_pos h1
  exact ⟨i, h1, by omega⟩
theorem b9_pow (k : Nat) : B9 ^ k % GM = 40014 ^ (9 * k) % GM := by
  show (40014 ^ 9 % GM) ^ k % GM = _
  rw [← Nat.pow_mod, Nat.pow_mul]
theorem cosets {u : Nat} (h0 : 0 < u) (hu : u < GM) : ∃ r k, r < 3 ∧ k < 715827854 ∧ u = 40014 ^ r * B9 ^ k % GM := by
  obtain ⟨i, hi, rfl⟩ := pow_surj h0 hu
  refine ⟨i % 3, i / 3 * 238609285 % 715827854, Nat.mod_lt _ (by decide), Nat.mod_lt _ (by decide), ?_⟩
  generalize ha : i / 3 = a
  have hi3 : i = 3 * a + i % 3 := by omega
  obtain ⟨t, ht⟩ : ∃ t, 3 * (a * 238609285 % 715827854) = a + 715827854 * t ∨ 3 * (a * 238609285 % 715827854) + 715827854 * t = a := by
    have d := Nat.div_add_mod (a * 238609285) 715827854
    generalize a * 238609285 % 715827854 = k at d ⊢
    generalize a * 238609285 / 715827854 = s at d
    by_cases c : 3 * s ≤ a
    · exact ⟨a - 3 * s, .inl (by omega)⟩
    · exact ⟨3 * s - a, .inr (by omega)⟩
  generalize a * 238609285 % 715827854 = k at ht
  rw [Nat.mul_mod, b9_pow, ← Nat.mul_mod, ← Nat.pow_add]
  rcases ht with ht | ht
  · rw [show i % 3 + 9 * k = i + 2147483562 * t by omega, p1_add (p1_mul ord1 t)]
  · have : i = (i % 3 + 9 * k) + 2147483562 * t := by omega
    conv => lhs; rw [this]
    exact p1_add (p1_mul ord1 t)
end Lc

end S_LcI
section S_LcJ
namespace Lc
def xAt (r e : Nat) : Nat := 40014 ^ r % GM * pm B9 e 32 1 % GM
theorem xAt_eq {r e : Nat} (he : e < 2 ^ 32) : xAt r e = 40014 ^ r * B9 ^ e % GM := by
  unfold xAt
  rw [← powmod B9 e he, ← Nat.mul_mod]
theorem bi_pow {BI : Nat} (h : B9 * BI % GM = 1) (n : Nat) : (B9 * BI) ^ n % GM = 1 := by
  rw [Nat.pow_mod, h, Nat.one_pow]
  decide
theorem cover {q : Prm} (ok : Okp q) (hbi : B9 * q.BI % GM = 1) {k off len R J : Nat} (hlen : 0 < len) (ht : 0 < q.T) (hlim : off + len ≤ 1099511627776) (hR : R ≤ off + q.T - 1) (hb : off + q.T + R * 1000 < 2147483647)
    (hJ : 715827854 ≤ J * (2 ^ k * len)) (he : q.T - 1 + J * (2 ^ k * len) < 2 ^ 32)
    (hc : ∀ r, r < 3 → ∀ j, j < J → chk q k off len R (B9 ^ len % GM) (xAt r (q.T - 1 + j * (2 ^ k * len))) = true) : ∀ u, 0 < u → u < GM → ∃ t, t < q.T ∧ good q (u * B9 ^ t % GM) := by
  intro u h0 hu
  obtain ⟨r, K, hr, hK, rfl⟩ := cosets h0 hu
  have hL : 0 < 2 ^ k * len := Nat.mul_pos (Nat.pow_pos (by decide)) hlen
  generalize hLe : 2 ^ k * len = L at *
  have dj := Nat.div_add_mod K L
  have mj := Nat.mod_lt K hL
  have hj : K / L < J := (Nat.div_lt_iff_lt_mul hL).mpr (by omega)
  generalize K / L = j at dj hj
  generalize K % L = s at dj mj
  have di := Nat.div_add_mod s len
  have mi := Nat.mod_lt s hlen
  have hi : s / len < 2 ^ k := (Nat.div_lt_iff_lt_mul hlen).mpr (by omega)
  generalize s / len = i at di hi
  generalize s % len = m at di mi
  have hjL : j * L ≤ J * L := Nat.mul_le_mul_right _ (Nat.le_of_lt hj)
  have hx := xAt_eq (r := r) (e := q.T - 1 + j * L) (by omega)
  have key : ∀ i a, wAt (40014 ^ r * B9 ^ (j * L + len * i) * q.BI ^ off) (off + a) = 40014 ^ r * B9 ^ (j * L + len * i + a) % GM := fun i a => by
    unfold wAt
    have e : 40014 ^ r * B9 ^ (j * L + len * i) * q.BI ^ off * B9 ^ (off + a) = 40014 ^ r * B9 ^ (j * L + len * i + a) * (B9 * q.BI) ^ off := by
      rw [Nat.mul_pow, Nat.pow_add B9 off a, Nat.pow_add B9 (j * L + len * i) a]
      simp only [Nat.mul_assoc, Nat.mul_comm, Nat.mul_left_comm]
    rw [e, Nat.mul_mod, bi_pow hbi, Nat.mul_one, Nat.mod_mod]
  obtain ⟨t, t1, t2⟩ := chk_ok ok (k := k) (off := off) (len := len) (R := R) (gam := B9 ^ len % GM) (x := xAt r (q.T - 1 + j * L)) (Nat.mod_lt _ (by decide)) (Nat.mod_lt _ (by decide)) hlim ht hR hb
    (fun i => 40014 ^ r * B9 ^ (j * L + len * i) * q.BI ^ off) (fun i _ => by
      rw [show off + q.T - 1 = off + (q.T - 1) by omega, key i]
      unfold geoL
      rw [hx, Nat.mod_mul_mod, Nat.mul_mod, ← Nat.pow_mod, ← Nat.mul_mod, ← Nat.pow_mul, Nat.mul_assoc, ← Nat.pow_add]
      congr 3
      omega) (hc r hr j hj) i hi (off + m) (by omega) (by omega)
  refine ⟨t, t1, ?_⟩
  rw [Nat.add_assoc, key i] at t2
  rw [Nat.mod_mul_mod, Nat.mul_assoc, ← Nat.pow_add]
  have e : K + t = j * L + len * i + (m + t) := by
    rw [← dj, ← di, Nat.mul_comm L j]
    omega
  rw [e]
  exact t2
end Lc

end S_LcJ
section S_LcK26
namespace Lc
theorem gam26 : B9 ^ 1507 % GM = 2087033753 := by decide +kernel
def pc26 (r j : Nat) : Prop := chk q26 12 1048576 1507 115 2087033753 (xAt r (26 - 1 + j * (2 ^ 12 * 1507))) = true
theorem nx26 {P : Nat → Prop} {n : Nat} (h : ∀ j, j < n → P j) (c : P n) : ∀ j, j < n + 1 → P j := fun j hj => (Nat.lt_succ_iff_lt_or_eq.mp hj).elim (h j) fun e => e ▸ c
theorem nx26z {P : Nat → Prop} : ∀ j, j < 0 → P j := fun j hj => absurd hj (Nat.not_lt_zero j)
theorem c26_0_0 : pc26 0 0 := by unfold pc26; decide +kernel
theorem c26_0_1 : pc26 0 1 := by unfold pc26; decide +kernel
theorem c26_0_2 : pc26 0 2 := by unfold pc26; decide +kernel
theorem c26_0_3 : pc26 0 3 := by unfold pc26; decide +kernel
theorem c26_0_4 : pc26 0 4 := by unfold pc26; decide +kernel
theorem c26_0_5 : pc26 0 5 := by unfold pc26; decide +kernel
theorem c26_0_6 : pc26 0 6 := by unfold pc26; decide +kernel
theorem c26_0_7 : pc26 0 7 := by unfold pc26; decide +kernel
theorem c26_0_8 : pc26 0 8 := by unfold pc26; decide +kernel
theorem c26_0_9 : pc26 0 9 := by unfold pc26; decide +kernel
theorem c26_0_10 : pc26 0 10 := by unfold pc26; decide +kernel
theorem c26_0_11 : pc26 0 11 := by unfold pc26; decide +kernel
theorem c26_0_12 : pc26 0 12 := by unfold pc26; decide +kernel
theorem c26_0_13 : pc26 0 13 := by unfold pc26; decide +kernel
theorem c26_0_14 : pc26 0 14 := by unfold pc26; decide +kernel
theorem c26_0_15 : pc26 0 15 := by unfold pc26; decide +kernel
theorem c26_0_16 : pc26 0 16 := by unfold pc26; decide +kernel
theorem c26_0_17 : pc26 0 17 := by unfold pc26; decide +kernel
theorem c26_0_18 : pc26 0 18 := by unfold pc26; decide +kernel
theorem c26_0_19 : pc26 0 19 := by unfold pc26; decide +kernel
theorem c26_0_20 : pc26 0 20 := by unfold pc26; decide +kernel
theorem c26_0_21 : pc26 0 21 := by unfold pc26; decide +kernel
theorem c26_0_22 : pc26 0 22 := by unfold pc26; decide +kernel
theorem c26_0_23 : pc26 0 23 := by unfold pc26; decide +kernel
theorem c26_0_24 : pc26 0 24 := by unfold pc26; decide +kernel
theorem c26_0_25 : pc26 0 25 := by unfold pc26; decide +kernel
theorem c26_0_26 : pc26 0 26 := by unfold pc26; decide +kernel
theorem c26_0_27 : pc26 0 27 := by unfold pc26; decide +kernel
theorem c26_0_28 : pc26 0 28 := by unfold pc26; decide +kernel
theorem c26_0_29 : pc26 0 29 := by unfold pc26; decide +kernel
theorem c26_0_30 : pc26 0 30 := by unfold pc26; decide +kernel
theorem c26_0_31 : pc26 0 31 := by unfold pc26; decide +kernel
theorem c26_0_32 : pc26 0 32 := by unfold pc26; decide +kernel
theorem c26_0_33 : pc26 0 33 := by unfold pc26; decide +kernel
theorem c26_0_34 : pc26 0 34 := by unfold pc26; decide +kernel
theorem c26_0_35 : pc26 0 35 := by unfold pc26; decide +kernel
theorem c26_0_36 : pc26 0 36 := by unfold pc26; decide +kernel
theorem c26_0_37 : pc26 0 37 := by unfold pc26; decide +kernel
theorem c26_0_38 : pc26 0 38 := by unfold pc26; decide +kernel
theorem c26_0_39 : pc26 0 39 := by unfold pc26; decide +kernel
theorem c26_0_40 : pc26 0 40 := by unfold pc26; decide +kernel
theorem c26_0_41 : pc26 0 41 := by unfold pc26; decide +kernel
theorem c26_0_42 : pc26 0 42 := by unfold pc26; decide +kernel
theorem c26_0_43 : pc26 0 43 := by unfold pc26; decide +kernel
theorem c26_0_44 : pc26 0 44 := by unfold pc26; decide +kernel
theorem c26_0_45 : pc26 0 45 := by unfold pc26; decide +kernel
theorem c26_0_46 : pc26 0 46 := by unfold pc26; decide +kernel
theorem c26_0_47 : pc26 0 47 := by unfold pc26; decide +kernel
theorem c26_0_48 : pc26 0 48 := by unfold pc26; decide +kernel
theorem c26_0_49 : pc26 0 49 := by unfold pc26; decide +kernel
theorem c26_0_50 : pc26 0 50 := by unfold pc26; decide +kernel
theorem c26_0_51 : pc26 0 51 := by unfold pc26; decide +kernel
theorem c26_0_52 : pc26 0 52 := by unfold pc26; decide +kernel
theorem c26_0_53 : pc26 0 53 := by unfold pc26; decide +kernel
theorem c26_0_54 : pc26 0 54 := by unfold pc26; decide +kernel
theorem c26_0_55 : pc26 0 55 := by unfold pc26; decide +kernel
theorem c26_0_56 : pc26 0 56 := by unfold pc26; decide +kernel
theorem c26_0_57 : pc26 0 57 := by unfold pc26; decide +kernel
theorem c26_0_58 : pc26 0 58 := by unfold pc26; decide +kernel
theorem c26_0_59 : pc26 0 59 := by unfold pc26; decide +kernel
theorem c26_0_60 : pc26 0 60 := by unfold pc26; decide +kernel
theorem c26_0_61 : pc26 0 61 := by unfold pc26; decide +kernel
theorem c26_0_62 : pc26 0 62 := by unfold pc26; decide +kernel
theorem c26_0_63 : pc26 0 63 := by unfold pc26; decide +kernel
theorem c26_0_64 : pc26 0 64 := by unfold pc26; decide +kernel
theorem c26_0_65 : pc26 0 65 := by unfold pc26; decide +kernel
theorem c26_0_66 : pc26 0 66 := by unfold pc26; decide +kernel
theorem c26_0_67 : pc26 0 67 := by unfold pc26; decide +kernel
theorem c26_0_68 : pc26 0 68 := by unfold pc26; decide +kernel
theorem c26_0_69 : pc26 0 69 := by unfold pc26; decide +kernel
theorem c26_0_70 : pc26 0 70 := by unfold pc26; decide +kernel
theorem c26_0_71 : pc26 0 71 := by unfold pc26; decide +kernel
theorem c26_0_72 : pc26 0 72 := by unfold pc26; decide +kernel
theorem c26_0_73 : pc26 0 73 := by unfold pc26; decide +kernel
theorem c26_0_74 : pc26 0 74 := by unfold pc26; decide +kernel
theorem c26_0_75 : pc26 0 75 := by unfold pc26; decide +kernel
theorem c26_0_76 : pc26 0 76 := by unfold pc26; decide +kernel
theorem c26_0_77 : pc26 0 77 := by unfold pc26; decide +kernel
theorem c26_0_78 : pc26 0 78 := by unfold pc26; decide +kernel
theorem c26_0_79 : pc26 0 79 := by unfold pc26; decide +kernel
theorem c26_0_80 : pc26 0 80 := by unfold pc26; decide +kernel
theorem c26_0_81 : pc26 0 81 := by unfold pc26; decide +kernel
theorem c26_0_82 : pc26 0 82 := by unfold pc26; decide +kernel
theorem c26_0_83 : pc26 0 83 := by unfold pc26; decide +kernel
theorem c26_0_84 : pc26 0 84 := by unfold pc26; decide +kernel
theorem c26_0_85 : pc26 0 85 := by unfold pc26; decide +kernel
theorem c26_0_86 : pc26 0 86 := by unfold pc26; decide +kernel
theorem c26_0_87 : pc26 0 87 := by unfold pc26; decide +kernel
theorem c26_0_88 : pc26 0 88 := by unfold pc26; decide +kernel
theorem c26_0_89 : pc26 0 89 := by unfold pc26; decide +kernel
theorem c26_0_90 : pc26 0 90 := by unfold pc26; decide +kernel
theorem c26_0_91 : pc26 0 91 := by unfold pc26; decide +kernel
theorem c26_0_92 : pc26 0 92 := by unfold pc26; decide +kernel
theorem c26_0_93 : pc26 0 93 := by unfold pc26; decide +kernel
theorem c26_0_94 : pc26 0 94 := by unfold pc26; decide +kernel
theorem c26_0_95 : pc26 0 95 := by unfold pc26; decide +kernel
theorem c26_0_96 : pc26 0 96 := by unfold pc26; decide +kernel
theorem c26_0_97 : pc26 0 97 := by unfold pc26; decide +kernel
theorem c26_0_98 : pc26 0 98 := by unfold pc26; decide +kernel
theorem c26_0_99 : pc26 0 99 := by unfold pc26; decide +kernel
theorem c26_0_100 : pc26 0 100 := by unfold pc26; decide +kernel
theorem c26_0_101 : pc26 0 101 := by unfold pc26; decide +kernel
theorem c26_0_102 : pc26 0 102 := by unfold pc26; decide +kernel
theorem c26_0_103 : pc26 0 103 := by unfold pc26; decide +kernel
theorem c26_0_104 : pc26 0 104 := by unfold pc26; decide +kernel
theorem c26_0_105 : pc26 0 105 := by unfold pc26; decide +kernel
theorem c26_0_106 : pc26 0 106 := by unfold pc26; decide +kernel
theorem c26_0_107 : pc26 0 107 := by unfold pc26; decide +kernel
theorem c26_0_108 : pc26 0 108 := by unfold pc26; decide +kernel
theorem c26_0_109 : pc26 0 109 := by unfold pc26; decide +kernel
theorem c26_0_110 : pc26 0 110 := by unfold pc26; decide +kernel
theorem c26_0_111 : pc26 0 111 := by unfold pc26; decide +kernel
theorem c26_0_112 : pc26 0 112 := by unfold pc26; decide +kernel
theorem c26_0_113 : pc26 0 113 := by unfold pc26; decide +kernel
theorem c26_0_114 : pc26 0 114 := by unfold pc26; decide +kernel
theorem c26_0_115 : pc26 0 115 := by unfold pc26; decide +kernel
theorem b26_0_25 : ∀ j, j < 25 → pc26 0 j := (nx26 (nx26 (nx26 (nx26 (nx26 (nx26 (nx26 (nx26 (nx26 (nx26 (nx26 (nx26 (nx26 (nx26 (nx26 (nx26 (nx26 (nx26 (nx26 (nx26 (nx26 (nx26 (nx26 (nx26 (nx26 nx26z c26_0_0) c26_0_1) c26_0_2) c26_0_3) c26_0_4) c26_0_5) c26_0_6) c26_0_7) c26_0_8) c26_0_9) c26_0_10) c26_0_11) c26_0_12) c26_0_13) c26_0_14) c26_0_15) c26_0_16) c26_0_17) c26_0_18) c26_0_19) c26_0_20) c26_0_21) c26_0_22) c26_0_23) c26_0_24)
theorem b26_0_50 : ∀ j, j < 50 → pc26 0 j := (nx26 (nx26 (nx26 (nx26 (nx26 (nx26 (nx26 (nx26 (nx26 (nx26 (nx26 (nx26 (nx26 (nx26 (nx26 (nx26 (nx26 (nx26 (nx26 (nx26 (nx26 (nx26 (nx26 (nx26 (nx26 b26_0_25 c26_0_25) c26_0_26) c26_0_27) c26_0_28) c26_0_29) c26_0_30) c26_0_31) c26_0_32) c26_0_33) c26_0_34) c26_0_35) c26_0_36) c26_0_37) c26_0_38) c26_0_39) c26_0_40) c26_0_41) c26_0_42) c26_0_43) c26_0_44) c26_0_45) c26_0_46) c26_0_47) c26_0_48) c26_0_49)
theorem b26_0_75 : ∀ j, j < 75 → pc26 0 j := (nx26 (nx26 (nx26 (nx26 (nx26 (nx26 (nx26 (nx26 (nx26 (nx26 (nx26 (nx26 (nx26 (nx26 (nx26 (nx26 (nx26 (nx26 (nx26 (nx26 (nx26 (nx26 (nx26 (nx26 (nx26 b26_0_50 c26_0_50) c26_0_51) c26_0_52) c26_0_53) c26_0_54) c26_0_55) c26_0_56) c26_0_57) c26_0_58) c26_0_59) c26_0_60) c26_0_61) c26_0_62) c26_0_63) c26_0_64) c26_0_65) c26_0_66) c26_0_67) c26_0_68) c26_0_69) c26_0_70) c26_0_71) c26_0_72) c26_0_73) c26_0_74)
theorem b26_0_100 : ∀ j, j < 100 → pc26 0 j := (nx26 (nx26 (nx26 (nx26 (nx26 (nx26 (nx26 (nx26 (nx26 (nx26 (nx26 (nx26 (nx26 (nx26 (nx26 (nx26 (nx26 (nx26 (nx26 (nx26 (nx26 (nx26 (nx26 (nx26 (nx26 b26_0_75 c26_0_75) c26_0_76) c26_0_77) c26_0_78) c26_0_79) c26_0_80) c26_0_81) c26_0_82) c26_0_83) c26_0_84) c26_0_85) c26_0_86) c26_0_87) c26_0_88) c26_0_89) c26_0_90) c26_0_91) c26_0_92) c26_0_93) c26_0_94) c26_0_95) c26_0_96) c26_0_97) c26_0_98) c26_0_99)
theorem b26_0_116 : ∀ j, j < 116 → pc26 0 j := (nx26 (nx26 (nx26 (nx26 (nx26 (nx26 (nx26 (nx26 (nx26 (nx26 (nx26 (nx26 (nx26 (nx26 (nx26 (nx26 b26_0_100 c26_0_100) c26_0_101) c26_0_102) c26_0_103) c26_0_104) c26_0_105) c26_0_106) c26_0_107) c26_0_108) c26_0_109) c26_0_110) c26_0_111) c26_0_112) c26_0_113) c26_0_114) c26_0_115)
theorem c26_1_0 : pc26 1 0 := by unfold pc26; decide +kernel
theorem c26_1_1 : pc26 1 1 := by unfold pc26; decide +kernel
theorem c26_1_2 : pc26 1 2 := by unfold pc26; decide +kernel
theorem c26_1_3 : pc26 1 3 := by unfold pc26; decide +kernel
theorem c26_1_4 : pc26 1 4 := by unfold pc26; decide +kernel
theorem c26_1_5 : pc26 1 5 := by unfold pc26; decide +kernel
theorem c26_1_6 : pc26 1 6 := by unfold pc26; decide +kernel
theorem c26_1_7 : pc26 1 7 := by unfold pc26; decide +kernel
theorem c26_1_8 : pc26 1 8 := by unfold pc26; decide +kernel
theorem c26_1_9 : pc26 1 9 := by unfold pc26; decide +kernel
theorem c26_1_10 : pc26 1 10 := by unfold pc26; decide +kernel
theorem c26_1_11 : pc26 1 11 := by unfold pc26; decide +kernel
theorem c26_1_12 : pc26 1 12 := by unfold pc26; decide +kernel
theorem c26_1_13 : pc26 1 13 := by unfold pc26; decide +kernel
theorem c26_1_14 : pc26 1 14 := by unfold pc26; decide +kernel
theorem c26_1_15 : pc26 1 15 := by unfold pc26; decide +kernel
theorem c26_1_16 : pc26 1 16 := by unfold pc26; decide +kernel
theorem c26_1_17 : pc26 1 17 := by unfold pc26; decide +kernel
theorem c26_1_18 : pc26 1 18 := by unfold pc26; decide +kernel
theorem c26_1_19 : pc26 1 19 := by unfold pc26; decide +kernel
theorem c26_1_20 : pc26 1 20 := by unfold pc26; decide +kernel
theorem c26_1_21 : pc26 1 21 := by unfold pc26; decide +kernel
theorem c26_1_22 : pc26 1 22 := by unfold pc26; decide +kernel
theorem c26_1_23 : pc26 1 23 := by unfold pc26; decide +kernel
theorem c26_1_24 : pc26 1 24 := by unfold pc26; decide +kernel
theorem c26_1_25 : pc26 1 25 := by unfold pc26; decide +kernel
theorem c26_1_26 : pc26 1 26 := by unfold pc26; decide +kernel
theorem c26_1_27 : pc26 1 27 := by unfold pc26; decide +kernel
theorem c26_1_28 : pc26 1 28 := by unfold pc26; decide +kernel
theorem c26_1_29 : pc26 1 29 := by unfold pc26; decide +kernel
theorem c26_1_30 : pc26 1 30 := by unfold pc26; decide +kernel
theorem c26_1_31 : pc26 1 31 := by unfold pc26; decide +kernel
theorem c26_1_32 : pc26 1 32 := by unfold pc26; decide +kernel
theorem c26_1_33 : pc26 1 33 := by unfold pc26; decide +kernel
theorem c26_1_34 : pc26 1 34 := by unfold pc26; decide +kernel
theorem c26_1_35 : pc26 1 35 := by unfold pc26; decide +kernel
theorem c26_1_36 : pc26 1 36 := by unfold pc26; decide +kernel
theorem c26_1_37 : pc26 1 37 := by unfold pc26; decide +kernel
theorem c26_1_38 : pc26 1 38 := by unfold pc26; decide +kernel
theorem c26_1_39 : pc26 1 39 := by unfold pc26; decide +kernel
theorem c26_1_40 : pc26 1 40 := by unfold pc26; decide +kernel
theorem c26_1_41 : pc26 1 41 := by unfold pc26; decide +kernel
theorem c26_1_42 : pc26 1 42 := by unfold pc26; decide +kernel
theorem c26_1_43 : pc26 1 43 := by unfold pc26; decide +kernel
theorem c26_1_44 : pc26 1 44 := by unfold pc26; decide +kernel
theorem c26_1_45 : pc26 1 45 := by unfold pc26; decide +kernel
theorem c26_1_46 : pc26 1 46 := by unfold pc26; decide +kernel
theorem c26_1_47 : pc26 1 47 := by unfold pc26; decide +kernel
theorem c26_1_48 : pc26 1 48 := by unfold pc26; decide +kernel
theorem c26_1_49 : pc26 1 49 := by unfold pc26; decide +kernel
theorem c26_1_50 : pc26 1 50 := by unfold pc26; decide +kernel
theorem c26_1_51 : pc26 1 51 := by unfold pc26; decide +kernel
theorem c26_1_52 : pc26 1 52 := by unfold pc26; decide +kernel
theorem c26_1_53 : pc26 1 53 := by unfold pc26; decide +kernel
theorem c26_1_54 : pc26 1 54 := by unfold pc26; decide +kernel
theorem c26_1_55 : pc26 1 55 := by unfold pc26; decide +kernel
theorem c26_1_56 : pc26 1 56 := by unfold pc26; decide +kernel
theorem c26_1_57 : pc26 1 57 := by unfold pc26; decide +kernel
theorem c26_1_58 : pc26 1 58 := by unfold pc26; decide +kernel
theorem c26_1_59 : pc26 1 59 := by unfold pc26; decide +kernel
theorem c26_1_60 : pc26 1 60 := by unfold pc26; decide +kernel
theorem c26_1_61 : pc26 1 61 := by unfold pc26; decide +kernel
theorem c26_1_62 : pc26 1 62 := by unfold pc26; decide +kernel
theorem c26_1_63 : pc26 1 63 := by unfold pc26; decide +kernel
theorem c26_1_64 : pc26 1 64 := by unfold pc26; decide +kernel
theorem c26_1_65 : pc26 1 65 := by unfold pc26; decide +kernel
theorem c26_1_66 : pc26 1 66 := by unfold pc26; decide +kernel
theorem c26_1_67 : pc26 1 67 := by unfold pc26; decide +kernel
theorem c26_1_68 : pc26 1 68 := by unfold pc26; decide +kernel
theorem c26_1_69 : pc26 1 69 := by unfold pc26; decide +kernel
theorem c26_1_70 : pc26 1 70 := by unfold pc26; decide +kernel
theorem c26_1_71 : pc26 1 71 := by unfold pc26; decide +kernel
theorem c26_1_72 : pc26 1 72 := by unfold pc26; decide +kernel
theorem c26_1_73 : pc26 1 73 := by unfold pc26; decide +kernel
theorem c26_1_74 : pc26 1 74 := by unfold pc26; decide +kernel
theorem c26_1_75 : pc26 1 75 := by unfold pc26; decide +kernel
theorem c26_1_76 : pc26 1 76 := by unfold pc26; decide +kernel
theorem c26_1_77 : pc26 1 77 := by unfold pc26; decide +kernel
theorem c26_1_78 : pc26 1 78 := by unfold pc26; decide +kernel
theorem c26_1_79 : pc26 1 79 := by unfold pc26; decide +kernel
theorem c26_1_80 : pc26 1 80 := by unfold pc26; decide +kernel
theorem c26_1_81 : pc26 1 81 := by unfold pc26; decide +kernel
theorem c26_1_82 : pc26 1 82 := by unfold pc26; decide +kernel
theorem c26_1_83 : pc26 1 83 := by unfold pc26; decide +kernel
theorem c26_1_84 : pc26 1 84 := by unfold pc26; decide +kernel
theorem c26_1_85 : pc26 1 85 := by unfold pc26; decide +kernel
theorem c26_1_86 : pc26 1 86 := by unfold pc26; decide +kernel
theorem c26_1_87 : pc26 1 87 := by unfold pc26; decide +kernel
theorem c26_1_88 : pc26 1 88 := by unfold pc26; decide +kernel
theorem c26_1_89 : pc26 1 89 := by unfold pc26; decide +kernel
theorem c26_1_90 : pc26 1 90 := by unfold pc26; decide +kernel
theorem c26_1_91 : pc26 1 91 := by unfold pc26; decide +kernel
theorem c26_1_92 : pc26 1 92 := by unfold pc26; decide +kernel
theorem c26_1_93 : pc26 1 93 := by unfold pc26; decide +kernel
theorem c26_1_94 : pc26 1 94 := by unfold pc26; decide +kernel
theorem c26_1_95 : pc26 1 95 := by unfold pc26; decide +kernel
theorem c26_1_96 : pc26 1 96 := by unfold pc26; decide +kernel
theorem c26_1_97 : pc26 1 97 := by unfold pc26; decide +kernel
theorem c26_1_98 : pc26 1 98 := by unfold pc26; decide +kernel
theorem c26_1_99 : pc26 1 99 := by unfold pc26; decide +kernel
theorem c26_1_100 : pc26 1 100 := by unfold pc26; decide +kernel
theorem c26_1_101 : pc26 1 101 := by unfold pc26; decide +kernel
theorem c26_1_102 : pc26 1 102 := by unfold pc26; decide +kernel
theorem c26_1_103 : pc26 1 103 := by unfold pc26; decide +kernel
theorem c26_1_104 : pc26 1 104 := by unfold pc26; decide +kernel
theorem c26_1_105 : pc26 1 105 := by unfold pc26; decide +kernel
theorem c26_1_106 : pc26 1 106 := by unfold pc26; decide +kernel
theorem c26_1_107 : pc26 1 107 := by unfold pc26; decide +kernel
theorem c26_1_108 : pc26 1 108 := by unfold pc26; decide +kernel
theorem c26_1_109 : pc26 1 109 := by unfold pc26; decide +kernel
theorem c26_1_110 : pc26 1 110 := by unfold pc26; decide +kernel
theorem c26_1_111 : pc26 1 111 := by unfold pc26; decide +kernel
theorem c26_1_112 : pc26 1 112 := by unfold pc26; decide +kernel
theorem c26_1_113 : pc26 1 113 := by unfold pc26; decide +kernel
theorem c26_1_114 : pc26 1 114 := by unfold pc26; decide +kernel
theorem c26_1_115 : pc26 1 115 := by unfold pc26; decide +kernel
theorem b26_1_25 : ∀ j, j < 25 → pc26 1 j := (nx26 (nx26 (nx26 (nx26 (nx26 (nx26 (nx26 (nx26 (nx26 (nx26 (nx26 (nx26 (nx26 (nx26 (nx26 (nx26 (nx26 (nx26 (nx26 (nx26 (nx26 (nx26 (nx26 (nx26 (nx26 nx26z c26_1_0) c26_1_1) c26_1_2) c26_1_3) c26_1_4) c26_1_5) c26_1_6) c26_1_7) c26_1_8) c26_1_9) c26_1_10) c26_1_11) c26_1_12) c26_1_13) c26_1_14) c26_1_15) c26_1_16) c26_1_17) c26_1_18) c26_1_19) c26_1_20) c26_1_21) c26_1_22) c26_1_23) c26_1_24)
theorem b26_1_50 : ∀ j, j < 50 → pc26 1 j := (nx26 (nx26 (nx26 (nx26 (nx26 (nx26 (nx26 (nx26 (nx26 (nx26 (nx26 (nx26 (nx26 (nx26 (nx26 (nx26 (nx26 (nx26 (nx26 (nx26 (nx26 (nx26 (nx26 (nx26 (nx26 b26_1_25 c26_1_25) c26_1_26) c26_1_27) c26_1_28) c26_1_29) c26_1_30) c26_1_31) c26_1_32) c26_1_33) c26_1_34) c26_1_35) c26_1_36) c26_1_37) c26_1_38) c26_1_39) c26_1_40) c26_1_41) c26_1_42) c26_1_43) c26_1_44) c26_1_45) c26_1_46) c26_1_47) c26_1_48) c26_1_49)
theorem b26_1_75 : ∀ j, j < 75 → pc26 1 j := (nx26 (nx26 (nx26 (nx26 (nx26 (nx26 (nx26 (nx26 (nx26 (nx26 (nx26 (nx26 (nx26 (nx26 (nx26 (nx26 (nx26 (nx26 (nx26 (nx26 (nx26 (nx26 (nx26 (nx26 (nx26 b26_1_50 c26_1_50) c26_1_51) c26_1_52) c26_1_53) c26_1_54) c26_1_55) c26_1_56) c26_1_57) c26_1_58) c26_1_59) c26_1_60) c26_1_61) c26_1_62) c26_1_63) c26_1_64) c26_1_65) c26_1_66) c26_1_67) c26_1_68) c26_1_69) c26_1_70) c26_1_71) c26_1_72) c26_1_73) c26_1_74)
theorem b26_1_100 : ∀ j, j < 100 → pc26 1 j := (nx26 (nx26 (nx26 (nx26 (nx26 (nx26 (nx26 (nx26 (nx26 (nx26 (nx26 (nx26 (nx26 (nx26 (nx26 (nx26 (nx26 (nx26 (nx26 (nx26 (nx26 (nx26 (nx26 (nx26 (nx26 b26_1_75 c26_1_75) c26_1_76) c26_1_77) c26_1_78) c26_1_79) c26_1_80) c26_1_81) c26_1_82) c26_1_83) c26_1_84) c26_1_85) c26_1_86) c26_1_87) c26_1_88) c26_1_89) c26_1_90) c26_1_91) c26_1_92) c26_1_93) c26_1_94) c26_1_95) c26_1_96) c26_1_97) c26_1_98) c26_1_99)
theorem b26_1_116 : ∀ j, j < 116 → pc26 1 j := (nx26 (nx26 (nx26 (nx26 (nx26 (nx26 (nx26 (nx26 (nx26 (nx26 (nx26 (nx26 (nx26 (nx26 (nx26 (nx26 b26_1_100 c26_1_100) c26_1_101) c26_1_102) c26_1_103) c26_1_104) c26_1_105) c26_1_106) c26_1_107) c26_1_108) c26_1_109) c26_1_110) c26_1_111) c26_1_112) c26_1_113) c26_1_114) c26_1_115)
theorem c26_2_0 : pc26 2 0 := by unfold pc26; decide +kernel
theorem c26_2_1 : pc26 2 1 := by unfold pc26; decide +kernel
theorem c26_2_2 : pc26 2 2 := by unfold pc26; decide +kernel
theorem c26_2_3 : pc26 2 3 := by unfold pc26; decide +kernel
theorem c26_2_4 : pc26 2 4 := by unfold pc26; decide +kernel
theorem c26_2_5 : pc26 2 5 := by unfold pc26; decide +kernel
theorem c26_2_6 : pc26 2 6 := by unfold pc26; decide +kernel
theorem c26_2_7 : pc26 2 7 := by unfold pc26; decide +kernel
theorem c26_2_8 : pc26 2 8 := by unfold pc26; decide +kernel
theorem c26_2_9 : pc26 2 9 := by unfold pc26; decide +kernel
theorem c26_2_10 : pc26 2 10 := by unfold pc26; decide +kernel
theorem c26_2_11 : pc26 2 11 := by unfold pc26; decide +kernel
theorem c26_2_12 : pc26 2 12 := by unfold pc26; decide +kernel
theorem c26_2_13 : pc26 2 13 := by unfold pc26; decide +kernel
theorem c26_2_14 : pc26 2 14 := by unfold pc26; decide +kernel
theorem c26_2_15 : pc26 2 15 := by unfold pc26; decide +kernel
theorem c26_2_16 : pc26 2 16 := by unfold pc26; decide +kernel
theorem c26_2_17 : pc26 2 17 := by unfold pc26; decide +kernel
theorem c26_2_18 : pc26 2 18 := by unfold pc26; decide +kernel
theorem c26_2_19 : pc26 2 19 := by unfold pc26; decide +kernel
theorem c26_2_20 : pc26 2 20 := by unfold pc26; decide +kernel
theorem c26_2_21 : pc26 2 21 := by unfold pc26; decide +kernel
theorem c26_2_22 : pc26 2 22 := by unfold pc26; decide +kernel
theorem c26_2_23 : pc26 2 23 := by unfold pc26; decide +kernel
theorem c26_2_24 : pc26 2 24 := by unfold pc26; decide +kernel
theorem c26_2_25 : pc26 2 25 := by unfold pc26; decide +kernel
theorem c26_2_26 : pc26 2 26 := by unfold pc26; decide +kernel
theorem c26_2_27 : pc26 2 27 := by unfold pc26; decide +kernel
theorem c26_2_28 : pc26 2 28 := by unfold pc26; decide +kernel
theorem c26_2_29 : pc26 2 29 := by unfold pc26; decide +kernel
theorem c26_2_30 : pc26 2 30 := by unfold pc26; decide +kernel
theorem c26_2_31 : pc26 2 31 := by unfold pc26; decide +kernel
theorem c26_2_32 : pc26 2 32 := by unfold pc26; decide +kernel
theorem c26_2_33 : pc26 2 33 := by unfold pc26; decide +kernel
theorem c26_2_34 : pc26 2 34 := by unfold pc26; decide +kernel
theorem c26_2_35 : pc26 2 35 := by unfold pc26; decide +kernel
theorem c26_2_36 : pc26 2 36 := by unfold pc26; decide +kernel
theorem c26_2_37 : pc26 2 37 := by unfold pc26; decide +kernel
theorem c26_2_38 : pc26 2 38 := by unfold pc26; decide +kernel
theorem c26_2_39 : pc26 2 39 := by unfold pc26; decide +kernel
theorem c26_2_40 : pc26 2 40 := by unfold pc26; decide +kernel
theorem c26_2_41 : pc26 2 41 := by unfold pc26; decide +kernel
theorem c26_2_42 : pc26 2 42 := by unfold pc26; decide +kernel
theorem c26_2_43 : pc26 2 43 := by unfold pc26; decide +kernel
theorem c26_2_44 : pc26 2 44 := by unfold pc26; decide +kernel
theorem c26_2_45 : pc26 2 45 := by unfold pc26; decide +kernel
theorem c26_2_46 : pc26 2 46 := by unfold pc26; decide +kernel
theorem c26_2_47 : pc26 2 47 := by unfold pc26; decide +kernel
theorem c26_2_48 : pc26 2 48 := by unfold pc26; decide +kernel
theorem c26_2_49 : pc26 2 49 := by unfold pc26; decide +kernel
theorem c26_2_50 : pc26 2 50 := by unfold pc26; decide +kernel
theorem c26_2_51 : pc26 2 51 := by unfold pc26; decide +kernel
theorem c26_2_52 : pc26 2 52 := by unfold pc26; decide +kernel
theorem c26_2_53 : pc26 2 53 := by unfold pc26; decide +kernel
theorem c26_2_54 : pc26 2 54 := by unfold pc26; decide +kernel
theorem c26_2_55 : pc26 2 55 := by unfold pc26; decide +kernel
theorem c26_2_56 : pc26 2 56 := by unfold pc26; decide +kernel
theorem c26_2_57 : pc26 2 57 := by unfold pc26; decide +kernel
theorem c26_2_58 : pc26 2 58 := by unfold pc26; decide +kernel
theorem c26_2_59 : pc26 2 59 := by unfold pc26; decide +kernel
theorem c26_2_60 : pc26 2 60 := by unfold pc26; decide +kernel
theorem c26_2_61 : pc26 2 61 := by unfold pc26; decide +kernel
theorem c26_2_62 : pc26 2 62 := by unfold pc26; decide +kernel
theorem c26_2_63 : pc26 2 63 := by unfold pc26; decide +kernel
theorem c26_2_64 : pc26 2 64 := by unfold pc26; decide +kernel
theorem c26_2_65 : pc26 2 65 := by unfold pc26; decide +kernel
theorem c26_2_66 : pc26 2 66 := by unfold pc26; decide +kernel
theorem c26_2_67 : pc26 2 67 := by unfold pc26; decide +kernel
theorem c26_2_68 : pc26 2 68 := by unfold pc26; decide +kernel
theorem c26_2_69 : pc26 2 69 := by unfold pc26; decide +kernel
theorem c26_2_70 : pc26 2 70 := by unfold pc26; decide +kernel
theorem c26_2_71 : pc26 2 71 := by unfold pc26; decide +kernel
theorem c26_2_72 : pc26 2 72 := by unfold pc26; decide +kernel
theorem c26_2_73 : pc26 2 73 := by unfold pc26; decide +kernel
theorem c26_2_74 : pc26 2 74 := by unfold pc26; decide +kernel
theorem c26_2_75 : pc26 2 75 := by unfold pc26; decide +kernel
theorem c26_2_76 : pc26 2 76 := by unfold pc26; decide +kernel
theorem c26_2_77 : pc26 2 77 := by unfold pc26; decide +kernel
theorem c26_2_78 : pc26 2 78 := by unfold pc26; decide +kernel
theorem c26_2_79 : pc26 2 79 := by unfold pc26; decide +kernel
theorem c26_2_80 : pc26 2 80 := by unfold pc26; decide +kernel
theorem c26_2_81 : pc26 2 81 := by unfold pc26; decide +kernel
theorem c26_2_82 : pc26 2 82 := by unfold pc26; decide +kernel
theorem c26_2_83 : pc26 2 83 := by unfold pc26; decide +kernel
theorem c26_2_84 : pc26 2 84 := by unfold pc26; decide +kernel
theorem c26_2_85 : pc26 2 85 := by unfold pc26; decide +kernel
theorem c26_2_86 : pc26 2 86 := by unfold pc26; decide +kernel
theorem c26_2_87 : pc26 2 87 := by unfold pc26; decide +kernel
theorem c26_2_88 : pc26 2 88 := by unfold pc26; decide +kernel
theorem c26_2_89 : pc26 2 89 := by unfold pc26; decide +kernel
theorem c26_2_90 : pc26 2 90 := by unfold pc26; decide +kernel
theorem c26_2_91 : pc26 2 91 := by unfold pc26; decide +kernel
theorem c26_2_92 : pc26 2 92 := by unfold pc26; decide +kernel
theorem c26_2_93 : pc26 2 93 := by unfold pc26; decide +kernel
theorem c26_2_94 : pc26 2 94 := by unfold pc26; decide +kernel
theorem c26_2_95 : pc26 2 95 := by unfold pc26; decide +kernel
theorem c26_2_96 : pc26 2 96 := by unfold pc26; decide +kernel
theorem c26_2_97 : pc26 2 97 := by unfold pc26; decide +kernel
theorem c26_2_98 : pc26 2 98 := by unfold pc26; decide +kernel
theorem c26_2_99 : pc26 2 99 := by unfold pc26; decide +kernel
theorem c26_2_100 : pc26 2 100 := by unfold pc26; decide +kernel
theorem c26_2_101 : pc26 2 101 := by unfold pc26; decide +kernel
theorem c26_2_102 : pc26 2 102 := by unfold pc26; decide +kernel
theorem c26_2_103 : pc26 2 103 := by unfold pc26; decide +kernel
theorem c26_2_104 : pc26 2 104 := by unfold pc26; decide +kernel
theorem c26_2_105 : pc26 2 105 := by unfold pc26; decide +kernel
theorem c26_2_106 : pc26 2 106 := by unfold pc26; decide +kernel
theorem c26_2_107 : pc26 2 107 := by unfold pc26; decide +kernel
theorem c26_2_108 : pc26 2 108 := by unfold pc26; decide +kernel
theorem c26_2_109 : pc26 2 109 := by unfold pc26; decide +kernel
theorem c26_2_110 : pc26 2 110 := by unfold pc26; decide +kernel
theorem c26_2_111 : pc26 2 111 := by unfold pc26; decide +kernel
theorem c26_2_112 : pc26 2 112 := by unfold pc26; decide +kernel
theorem c26_2_113 : pc26 2 113 := by unfold pc26; decide +kernel
theorem c26_2_114 : pc26 2 114 := by unfold pc26; decide +kernel
theorem c26_2_115 : pc26 2 115 := by unfold pc26; decide +kernel
theorem b26_2_25 : ∀ j, j < 25 → pc26 2 j := (nx26 (nx26 (nx26 (nx26 (nx26 (nx26 (nx26 (nx26 (nx26 (nx26 (nx26 (nx26 (nx26 (nx26 (nx26 (nx26 (nx26 (nx26 (nx26 (nx26 (nx26 (nx26 (nx26 (nx26 (nx26 nx26z c26_2_0) c26_2_1) c26_2_2) c26_2_3) c26_2_4) c26_2_5) c26_2_6) c26_2_7) c26_2_8) c26_2_9) c26_2_10) c26_2_11) c26_2_12) c26_2_13) c26_2_14) c26_2_15) c26_2_16) c26_2_17) c26_2_18) c26_2_19) c26_2_20) c26_2_21) c26_2_22) c26_2_23) c26_2_24)
theorem b26_2_50 : ∀ j, j < 50 → pc26 2 j := (nx26 (nx26 (nx26 (nx26 (nx26 (nx26 (nx26 (nx26 (nx26 (nx26 (nx26 (nx26 (nx26 (nx26 (nx26 (nx26 (nx26 (nx26 (nx26 (nx26 (nx26 (nx26 (nx26 (nx26 (nx26 b26_2_25 c26_2_25) c26_2_26) c26_2_27) c26_2_28) c26_2_29) c26_2_30) c26_2_31) c26_2_32) c26_2_33) c26_2_34) c26_2_35) c26_2_36) c26_2_37) c26_2_38) c26_2_39) c26_2_40) c26_2_41) c26_2_42) c26_2_43) c26_2_44) c26_2_45) c26_2_46) c26_2_47) c26_2_48) c26_2_49)
theorem b26_2_75 : ∀ j, j < 75 → pc26 2 j := (nx26 (nx26 (nx26 (nx26 (nx26 (nx26 (nx26 (nx26 (nx26 (nx26 (nx26 (nx26 (nx26 (nx26 (nx26 (nx26 (nx26 (nx26 (nx26 (nx26 (nx26 (nx26 (nx26 (nx26 (nx26 b26_2_50 c26_2_50) c26_2_51) c26_2_52) c26_2_53) c26_2_54) c26_2_55) c26_2_56) c26_2_57) c26_2_58) c26_2_59) c26_2_60) c26_2_61) c26_2_62) c26_2_63) c26_2_64) c26_2_65) c26_2_66) c26_2_67) c26_2_68) c26_2_69) c26_2_70) c26_2_71) c26_2_72) c26_2_73) c26_2_74)
theorem b26_2_100 : ∀ j, j < 100 → pc26 2 j := (nx26 (nx26 (nx26 (nx26 (nx26 (nx26 (nx26 (nx26 (nx26 (nx26 (nx26 (nx26 (nx26 (nx26 (nx26 (nx26 (nx26 (nx26 (nx26 (nx26 (nx26 (nx26 (nx26 (nx26 (nx26 b26_2_75 c26_2_75) c26_2_76) c26_2_77) c26_2_78) c26_2_79) c26_2_80) c26_2_81) c26_2_82) c26_2_83) c26_2_84) c26_2_85) c26_2_86) c26_2_87) c26_2_88) c26_2_89) c26_2_90) c26_2_91) c26_2_92) c26_2_93) c26_2_94) c26_2_95) c26_2_96) c26_2_97) c26_2_98) c26_2_99)
theorem b26_2_116 : ∀ j, j < 116 → pc26 2 j := (nx26 (nx26 (nx26 (nx26 (nx26 (nx26 (nx26 (nx26 (nx26 (nx26 (nx26 (nx26 (nx26 (nx26 (nx26 (nx26 b26_2_100 c26_2_100) c26_2_101) c26_2_102) c26_2_103) c26_2_104) c26_2_105) c26_2_106) c26_2_107) c26_2_108) c26_2_109) c26_2_110) c26_2_111) c26_2_112) c26_2_113) c26_2_114) c26_2_115)
theorem cover26 : ∀ u, 0 < u → u < GM → ∃ t, t < 26 ∧ good q26 (u * B9 ^ t % GM) := by
  refine cover ok26 (by decide +kernel) (k := 12) (off := 1048576) (len := 1507) (R := 115) (J := 116) (by decide) (by decide) (by decide) (by decide) (by decide) (by decide) (by decide) fun r hr j hj => ?_
  rw [gam26]
  by_cases e0 : r = 0
  · subst e0; exact b26_0_116 j hj
  by_cases e1 : r = 1
  · subst e1; exact b26_1_116 j hj
  by_cases e2 : r = 2
  · subst e2; exact b26_2_116 j hj
  omega
end Lc

end S_LcK26
section S_MiA
namespace MI
open PySem

abbrev D := PyData
inductive W where
  | d (x : D)
  | r (i : Nat)
inductive SO where
  | list (xs : List D)
  | dK (kvs : List (L2.Key × D))
  | dT (kvs : List (D × D))
  | dead
  | fz (xs : List D)
  | tab (f : Str)
  | fT (kvs : List (D × D))
  | fK (kvs : List (L2.Key × D))
  | ins (rule now : D)
  | lstA (p : Nat) (xs : List D)
  | dR (n : Nat)
  | lstK (i : Nat) (z : Int) (xs : List D)
  | raw (C dx : Nat) (fs : List (Str × L2.V))
  | hou (r : D)
  | hold (o : L2.HO)

abbrev Store := List SO
abbrev Loc := List (Option W)

inductive Res (α : Type) where
  | ok (a : α) (S : Store)
  | ex (c : Nat) (S : Store)
  | stuck

def Res.bind {α β : Type} (r : Res α) (f : α → Store → Res β) : Res β :=
  match r with
  | .ok a S => f a S
  | .ex c S => .ex c S
  | .stuck => .stuck

@[simp] theorem Res.bind_ok {α β : Type} (a : α) (S : Store) (f : α → Store → Res β) : (Res.ok a S).bind f = f a S := rfl
@[simp] theorem Res.bind_ex {α β : Type} (c : Nat) (S : Store) (f : α → Store → Res β) : (Res.ex c S : Res α).bind f = .ex c S := rfl
@[simp] theorem Res.bind_stuck {α β : Type} (f : α → Store → Res β) : (Res.stuck : Res α).bind f = .stuck := rfl
def Res.noex {α : Type} : Res α → Res α
  | .ok a S => .ok a S
  | _ => .stuck
@[simp] theorem Res.noex_ok {α : Type} (a : α) (S : Store) : (Res.ok a S).noex = .ok a S := rfl
inductive BOp where
  | add | sub | mul | fdiv | mod | pow | rep
  deriving DecidableEq
inductive COp where
  | eq | ne | lt | le | gt | ge | isin | notin | is | isnot
  deriving DecidableEq
inductive Ty where
  | int | bool | str | tuple | list
  deriving DecidableEq

def small (i : Int) : Bool := decide (-(2 ^ 64) < i) && decide (i < 2 ^ 64)

def fits (n : Nat) : Bool := decide (n ≤ sizeLine)

def repD (xs : List D) (j : Int) : List D := (List.replicate j.toNat xs).flatten

def binD : BOp → D → D → Option D
  | .add, .int i, .int j => some (.int (i + j))
  | .add, .str x, .str y => if fits (x.length + y.length) then some (.str (x ++ y)) else none
  | .add, .tuple xs, .tuple ys => if fits (xs.length + ys.length) then some (.tuple (xs ++ ys)) else none
  | .add, .list xs, .list ys => if fits (xs.length + ys.length) then some (.list (xs ++ ys)) else none
  | .sub, .int i, .int j => some (.int (i - j))
  | .mul, .int i, .int j => if small i || small j then some (.int (i * j)) else none
  | .rep, .tuple xs, .int j => if decide (0 ≤ j) && decide (j ≤ 1000) && !xs.isEmpty && decide (xs.length ≤ 1000) then some (.tuple (repD xs j)) else none
  | .fdiv, .int i, .int j => if decide (0 < j) && decide (j < 1073741824) then some (.int (i / j)) else none
  | .mod, .int i, .int j => if decide (0 < j) then some (.int (i % j)) else none
  | .pow, .int i, .int j => if decide (0 ≤ j) && decide (j ≤ 1000000) && decide (i.natAbs < 2 ^ 64) then some (.int (i ^ j.toNat)) else none
  | _, _, _ => none

mutual
def sameD : D → D → Bool
  | .none, .none => true
  | .bool a, .bool b => a == b
  | .int a, .int b => a == b
  | .str a, .str b => decide (a = b)
  | .list a, .list b => sameDs a b
  | .tuple a, .tuple b => sameDs a b
  | _, _ => false
def sameDs : List D → List D → Bool
  | [], [] => true
  | a :: as, b :: bs => sameD a b && sameDs as bs
  | _, _ => false
end
mutual
theorem sameD_eq : ∀ (a b : D), sameD a b = true → a = b
  | .none, b, h => by cases b <;> first | rfl | exact absurd h (by simp [sameD])
  | .bool x, b, h => by cases b <;> first | (simp only [sameD, beq_iff_eq] at h; rw [h]; done) | (simp [sameD] at h; done)
  | .int x, b, h => by cases b <;> first | (simp only [sameD, beq_iff_eq] at h; rw [h]; done) | (simp [sameD] at h; done)
  | .str x, b, h => by cases b <;> first | (simp only [sameD, decide_eq_true_eq] at h; rw [h]; done) | (simp [sameD] at h; done)
  | .list x, b, h => by cases b <;> first | (simp only [sameD] at h; rw [sameDs_eq _ _ h]; done) | (simp [sameD] at h; done)
  | .tuple x, b, h => by cases b <;> first | (simp only [sameD] at h; rw [sameDs_eq _ _ h]; done) | (simp [sameD] at h; done)
  | .dict x, b, h => by cases b <;> exact absurd h (by simp [sameD])
theorem sameDs_eq : ∀ (a b : List D), sameDs a b = true → a = b
  | [], [], _ => rfl
  | [], _ :: _, h => absurd h (by simp [sameDs])
  | _ :: _, [], h => absurd h (by simp [sameDs])
  | x :: xs, y :: ys, h => by
    simp only [sameDs, Bool.and_eq_true] at h
    rw [sameD_eq _ _ h.1, sameDs_eq _ _ h.2]
end
def flat (x : D) : Bool := decide (x.depth ≤ 60)

def memD (x : D) (ys : List D) : Bool := ys.any fun y => PyData.eqv y x
def seqD : D → Option (List D)
  | .list xs => some xs
  | .tuple xs => some xs
  | _ => none

def isNoneD : D → Bool
  | .none => true
  | _ => false

def cmpD : COp → D → D → Option Bool
  | .eq, x, y => if flat x then some (PyData.eqv x y) else none
  | .ne, x, y => if flat x then some (!PyData.eqv x y) else none
  | .lt, .int i, .int j => some (decide (i < j))
  | .le, .int i, .int j => some (decide (i ≤ j))
  | .gt, .int i, .int j => some (decide (j < i))
  | .ge, .int i, .int j => some (decide (j ≤ i))
  | .isin, x, .list ys => if flat x then some (memD x ys) else none
  | .isin, x, .tuple ys => if flat x then some (memD x ys) else none
  | .notin, x, .list ys => if flat x then some (!memD x ys) else none
  | .notin, x, .tuple ys => if flat x then some (!memD x ys) else none
  | .is, x, .none => some (isNoneD x)
  | .isnot, x, .none => some (!isNoneD x)
  | .is, .bool a, .bool b => some (decide (a = b))
  | .isnot, .bool a, .bool b => some (!decide (a = b))
  | _, _, _ => none

def tyD : Ty → D → Bool
  | .int, .int _ => true
  | .int, .bool _ => true
  | .bool, .bool _ => true
  | .str, .str _ => true
  | .tuple, .tuple _ => true
  | .list, .list _ => true
  | _, _ => false
abbrev placeD (n : Nat) (i : Int) : Option Nat := L2.ixN n i

def cutD (xs : List D) (lo hi : Option Int) : List D := (xs.drop (HT.sIx xs.length 0 lo)).take (HT.sIx xs.length xs.length hi - HT.sIx xs.length 0 lo)
def toD (S : Store) : W → Option D
  | .d x => some x
  | .r i => match S[i]? with
    | some (.list xs) => some (.list xs)
    | some (.fz xs) => some (.list xs)
    | some (.lstA _ xs) => some (.list xs)
    | some (.lstK _ _ xs) => some (.list xs)
    | _ => none

@[simp] theorem toD_d (S : Store) (x : D) : toD S (.d x) = some x := rfl

def optR {α : Type} (o : Option α) (S : Store) : Res α := match o with
  | some a => .ok a S
  | none => .stuck
@[simp] theorem optR_some {α : Type} (a : α) (S : Store) : optR (some a) S = .ok a S := rfl
@[simp] theorem optR_none {α : Type} (S : Store) : optR (none : Option α) S = .stuck := rfl
def keyD : D → Option L2.Key
  | .int i => some (.inl i)
  | .str x => some (.inr x)
  | _ => none
def keyOfD : L2.Key → D
  | .inl i => .int i
  | .inr x => .str x

mutual
def nk : D → NestedKey
  | .none => .none
  | .bool b => .num (if b = true then 1 else 0)
  | .int i => .num i
  | .str x => .text x
  | .tuple xs => .tup (nks xs)
  | .list _ => .none
  | .dict _ => .none
def nks : List D → List NestedKey
  | [] => []
  | x :: xs => nk x :: nks xs
end
mutual
def keyable : D → Bool
  | .list _ => false
  | .dict _ => false
  | .tuple xs => keyableAll xs
  | _ => true
def keyableAll : List D → Bool
  | [] => true
  | x :: xs => keyable x && keyableAll xs
end
def isKey (x : D) : Bool := (match x with | .tuple _ => true | _ => false) && keyable x && decide ((nk x).depth ≤ 8)

def getT (kvs : List (D × D)) (k : D) : Option D := (kvs.find? fun p => decide (nk p.1 = nk k)).map (·.2)
def putT (kvs : List (D × D)) (k v : D) : List (D × D) :=
  if kvs.any fun p => decide (nk p.1 = nk k) then kvs.map fun p => if nk p.1 = nk k then (p.1, v) else p else kvs ++ [(k, v)]
def getK (kvs : List (L2.Key × D)) (k : L2.Key) : Option D := (kvs.find? fun p => decide (p.1 = k)).map (·.2)
def putK (kvs : List (L2.Key × D)) (k : L2.Key) (v : D) : List (L2.Key × D) :=
  if kvs.any fun p => decide (p.1 = k) then kvs.map fun p => if p.1 = k then (p.1, v) else p else kvs ++ [(k, v)]

end MI

end S_MiA
section S_MiB
namespace MI
open PySem

inductive Blt where
  | len | abs | int | max2 | min2 | maxL | tuple | sorted | all | any | lenset | str | bool | flat
  deriving DecidableEq

inductive Tg where
  | nm (j : Nat)
  | tp (js : List Nat)
  deriving DecidableEq
inductive HQ where
  | len | bool | str
  deriving DecidableEq

inductive E where
  | var (j : Nat)
  | frz (a : E)
  | cst (x : D)
  | glb (x : Str) (v : D)
  | bin (op : BOp) (a b : E)
  | neg (a : E)
  | nt (a : E)
  | and (a b : E)
  | or (a b : E)
  | cmp (op : COp) (a b : E)
  | chn (o p : COp) (a b c : E)
  | ife (t a b : E)
  | nil
  | cons (e es : E)
  | tup (es : E)
  | lst (m : Bool) (es : E)
  | idx (a i : E)
  | omit
  | slc (bl bh : Bool) (a lo hi : E)
  | rev (a : E)
  | call (f : Nat) (es : E)
  | blt (b : Blt) (es : E)
  | cpy (m : Bool) (a : E)
  | isi (ty : Ty) (a : E)
  | app (a x : E)
  | pop (a : E)
  | indx (a x : E)
  | dget (a k x : E)
  | ind (neg : Bool) (a b : E)
  | didx (a i : E)
  | dlen (a : E)
  | dkey (m : Bool) (a : E)
  | dnew
  | dnewK
  | dfzK (a : E)
  | kin (neg : Bool) (x : Str) (kvs : List (D × D)) (a : E)
  | kix (x : Str) (kvs : List (D × D)) (a : E)
  | dsl (ks : List Str) (es a d : E)
  | dsp1 (k v : E)
  | kget (a i : E)
  | dnewR
  | rget (a i : E)
  | khas (neg : Bool) (a b : E)
  | kdsp (ks : List Str) (es : E)
  | dfz (a : E)
  | dcmp (k v : E) (tg : Tg) (src : E) (own : List Nat)
  | indl (a x : E)
  | comp (m : Bool) (elt : E) (tg : Tg) (src cond : E) (own : List Nat)
  | iseq (a : E)
  | irng1 (a : E)
  | irng2 (a b : E)
  | ienum (a : E)
  | izip (a b : E)
  | ikey (a : E)
  | ikeyK (a : E)
  | iitm (a : E)
  | splt (a b : E)
  | join (a b : E)
  | rpl (es n : E)
  | srtk (a : E) (j : Nat) (f : Str)
  | lrng (a : E)
  | addm (a b : E)
  | rplS (a : E) (y z : Str) (n : Option Nat)
  | dkeyV (m : Bool) (j : Nat)
  | fld (b : Bool) (a : E)
  | pst (a : E)
  | slf (a : E)
  | prp (f : Nat) (a : E)
  | callD (f : Nat) (es : E) (xs : List D)
  | oln (f : Nat) (a : E)
  | oix (f : Nat) (a b : E)
  | mkD (n8 nb : Nat) (e : E)
  | oeq (neg : Bool) (f : Nat) (a b : E)
  | isD (a : E)
  | att (js : List Nat) (jt : Nat) (f : Str) (m o : E)
  | hfl (a : E)
  | hsl (a : E)
  | hpr (f : Nat) (a : E)
  | hu1 (q : HQ) (f : Nat) (a : E)
  | hix (f : Nat) (a b : E)
  | hcl (f : Nat) (a b : E)
  | heq (neg : Bool) (f : Nat) (a b : E)
  | hin (f : Nat) (a b : E)
  | isH (a : E)
  | mkH (fi : Nat) (es ks : E) (sel : List (Nat ⊕ D))
  | hmt (fi : Nat) (a : E)
  | hcon (a : E) (d : D)
  | tri (js : List Nat) (jt : Nat) (f : Str) (m : E) (hs : List (Nat × Str))

inductive LV where
  | nm (j : Nat)
  | ix (a i : E)

inductive M where
  | skip
  | seq (a b : M)
  | asg (tg : Tg) (e : E)
  | par (lv : List LV) (es : E)
  | setx (a i e : E)
  | setd (a i e : E)
  | setk (a i e : E)
  | setr (a i e : E)
  | iff (c : E) (a b : M)
  | for (tg : Tg) (src : E) (body : M)
  | whl (c : E) (body : M)
  | ret (e : E)
  | exp (e : E)
  | never
  | tryN (a : M)
  | rse (c : Nat)
  | tryC (j f : Nat) (es : E) (hs : List (Nat × Nat × Str))
  | rowd (d q : Nat) (tg : Tg) (src : E) (pre : M) (cond x : E) (post : M)
  | fre (js : List Nat) (jt : Nat) (f : Str) (a : M)
  | setN (a e : E)
  | forX (tg : Tg) (src : E) (body : M)
  | tryE (j : Nat) (e : E) (hs : List (Nat × Nat × Str))
  | tryI (j : Nat) (t e1 e2 : E) (hs : List (Nat × Nat × Str))
  | bck (jc n f : Nat) (o : E) (c : Nat)
inductive Fl where
  | nx (ls : Loc)
  | rt (w : W)
def dseq : D → Option (List D)
  | .list xs => some xs
  | .tuple xs => some xs
  | _ => none
def keyAt (day at_ : D) : Option Int := match dseq day with
  | some ds => match ds[3]? with
    | some g => match dseq g, at_ with
      | some gs, .int i => if 0 ≤ i ∧ i < 1000000 then (match gs[i.toNat]? with
        | some e => match dseq e with
          | some (.int k :: _) => some k
          | _ => none
        | none => none) else none
      | _, _ => none
    | none => none
  | none => none
def keyD0 (day at_ : D) : D := .int ((keyAt day at_).getD 0)
def isTab (f : Str) : Option SO → Bool
  | some (.tab g) => f == g
  | _ => false
def srtkW (f : Str) (x : W) (y : Option (Option W)) (S : Store) : Res W := match y with
  | some (some y) => match toD S x, toD S y with
    | some (.list xs), some day => if isTab f S[0]? && xs.all (fun a => (keyAt day a).isSome) then .ok (.d (.list (xs.mergeSort (PySem.W.dataLe false (keyD0 day))))) S else .stuck
    | _, _ => .stuck
  | _ => .stuck
def binW (op : BOp) (x y : W) (S : Store) : Res W :=
  match toD S x, toD S y with
  | some a, some b => optR ((binD op a b).map .d) S
  | _, _ => .stuck
def hasT (kvs : List (D × D)) (k : D) : Bool := (getT kvs k).isSome
def hasK (kvs : List (L2.Key × D)) (k : L2.Key) : Bool := (getK kvs k).isSome
def addmW (x y : W) (S : Store) : Res W :=
  match toD S x, toD S y with
  | some (.list xs), some (.list ys) => if fits (xs.length + ys.length) then .ok (.r S.length) (S ++ [.list (xs ++ ys)]) else .stuck
  | _, _ => .stuck
def cmpW (op : COp) (x y : W) (S : Store) : Res W :=
  match toD S x, toD S y with
  | some a, some b => optR ((cmpD op a b).map fun b => .d (.bool b)) S
  | _, _ => .stuck
def tabT : Option SO → Option (List (D × D))
  | some (.dT kvs) => some kvs
  | some (.fT kvs) => some kvs
  | _ => none
def indW (neg : Bool) (x y : W) (S : Store) : Res W := match x, y with
  | .d k, .r i => match tabT S[i]? with
    | some kvs => if isKey k then .ok (.d (.bool (if neg then !hasT kvs k else hasT kvs k))) S else .stuck
    | none => .stuck
  | _, _ => .stuck
def didxW (x y : W) (S : Store) : Res W := match x, y with
  | .r i, .d k => match tabT S[i]? with
    | some kvs => if isKey k then optR ((getT kvs k).map .d) S else .stuck
    | none => .stuck
  | _, _ => .stuck
def dlenW (x : W) (S : Store) : Res W := match x with
  | .r i => match tabT S[i]? with
    | some kvs => .ok (.d (.int kvs.length)) S
    | none => .stuck
  | _ => .stuck
def dfzW (x : W) (S : Store) : Res W := match x with
  | .r i => match S[i]? with
    | some (.dT kvs) => .ok (.r i) (S.set i (.fT kvs))
    | some (.fT _) => .ok (.r i) S
    | _ => .stuck
  | _ => .stuck
def dctR (x : W) (S : Store) : Res Unit := match x with
  | .r i => match tabT S[i]? with
    | some _ => .ok () S
    | none => .stuck
  | _ => .stuck
def negW (x : W) (S : Store) : Res W := match x with
  | .d (.int i) => .ok (.d (.int (-i))) S
  | _ => .stuck
def boolW (x : W) : Option Bool := match x with
  | .d (.bool b) => some b
  | _ => none
def notW (x : W) (S : Store) : Res W := optR ((boolW x).map fun b => .d (.bool !b)) S
def Res.test {α : Type} (r : Res W) (f : Bool → Store → Res α) : Res α := r.bind fun w S => match boolW w with
  | some b => f b S
  | none => .stuck
@[simp] theorem Res.test_ok {α : Type} (b : Bool) (S : Store) (f : Bool → Store → Res α) : (Res.ok (.d (.bool b)) S).test f = f b S := rfl
@[simp] theorem Res.test_ex {α : Type} (c : Nat) (S : Store) (f : Bool → Store → Res α) : (Res.ex c S : Res W).test f = .ex c S := rfl
@[simp] theorem Res.test_stuck {α : Type} (f : Bool → Store → Res α) : (Res.stuck : Res W).test f = .stuck := rfl
def dataOf : List W → Option (List D)
  | [] => some []
  | .d x :: ws => (dataOf ws).map (x :: ·)
  | .r _ :: _ => none
def tupW (ws : List W) (S : Store) : Res W := match dataOf ws with
  | some xs => if fits xs.length then .ok (.d (.tuple xs)) S else .stuck
  | none => .stuck
def newL (m : Bool) (xs : List D) (S : Store) : Res W := if m then .ok (.r S.length) (S ++ [.list xs]) else .ok (.d (.list xs)) S
def lstW (m : Bool) (ws : List W) (S : Store) : Res W := match dataOf ws with
  | some xs => if fits xs.length then newL m xs S else .stuck
  | none => .stuck
def frzW (x : W) (S : Store) : Res W := match x with
  | .d (.list xs) => .ok (.d (.list xs)) S
  | .r i => match S[i]? with
    | some (.list xs) => .ok (.d (.list xs)) (S.set i (.fz xs))
    | some (.fz xs) => .ok (.d (.list xs)) S
    | _ => .stuck
  | _ => .stuck
def idxW (x y : W) (S : Store) : Res W :=
  match (toD S x).bind seqD, y with
  | some xs, .d (.int i) => optR ((L2.atI xs i).map .d) S
  | _, _ => .stuck
def partW (x : W) (S : Store) : Res (Option Int) := match x with
  | .d (.int i) => .ok (some i) S
  | _ => .stuck
def slcW (x : W) (a b : Option Int) (S : Store) : Res W :=
  match toD S x with
  | some (.list xs) => .ok (.d (.list (cutD xs a b))) S
  | some (.tuple xs) => .ok (.d (.tuple (cutD xs a b))) S
  | some (.str z) => if fits z.length then .ok (.d (.str (L2.cutS z a b))) S else .stuck
  | _ => .stuck
def lrngW (x : W) (S : Store) : Res W := match x with
  | .d (.int n) => if decide (n ≤ 1000000) && decide (-1000000 ≤ n) then .ok (.d (.list ((List.range n.toNat).map fun i => .int (i : Nat)))) S else .stuck
  | _ => .stuck
def revW (x : W) (S : Store) : Res W := match toD S x with
  | some (.list xs) => .ok (.d (.list xs.reverse)) S
  | _ => .stuck
def intsOf : List D → Option (List Int)
  | [] => some []
  | .int i :: xs => (intsOf xs).map (i :: ·)
  | _ :: _ => none
def boolsOf : List D → Option (List Bool)
  | [] => some []
  | .bool i :: xs => (boolsOf xs).map (i :: ·)
  | _ :: _ => none
def maxI : List Int → Int
  | [] => 0
  | [x] => x
  | x :: xs => if x ≥ maxI xs then x else maxI xs
def sortOk (xs : List D) : Bool :=
  (xs.all fun x => xs.all fun y => PySem.W.alike x y) && (xs.all fun x => flat x) &&
    ((xs.all fun x => match x with | .tuple (_ :: _) => true | _ => false) || (xs.all fun x => match x with | .tuple _ => false | .none => false | _ => true) ||
      (match xs with | .tuple [] :: _ => true | _ => false))
def lenW (x : W) (S : Store) : Res W := match toD S x with
  | some (.list xs) => .ok (.d (.int xs.length)) S
  | some (.tuple xs) => .ok (.d (.int xs.length)) S
  | some (.str z) => if fits z.length then .ok (.d (.int z.length)) S else .stuck
  | _ => .stuck
def headsD : List D → Option (List D)
  | [] => some []
  | f :: fs => match seqD f with
    | some gs => match L2.atI gs 0, headsD fs with
      | some y, some ys => some (y :: ys)
      | _, _ => none
    | none => none
def flatD : List D → Option (List D)
  | [] => some []
  | r :: rs => match seqD r with
    | some fs => match headsD fs, flatD rs with
      | some a, some b => some (a ++ b)
      | _, _ => none
    | none => none
def bltW (b : Blt) (ws : List W) (S : Store) : Res W :=
  match b, ws with
  | .len, [x] => lenW x S
  | .abs, [.d (.int i)] => .ok (.d (.int (if i < 0 then -i else i))) S
  | .int, [.d (.int i)] => .ok (.d (.int i)) S
  | .int, [.d (.bool b)] => .ok (.d (.int (if b then 1 else 0))) S
  | .max2, [.d (.int i), .d (.int j)] => .ok (.d (.int (if j > i then j else i))) S
  | .min2, [.d (.int i), .d (.int j)] => .ok (.d (.int (if j < i then j else i))) S
  | .maxL, [x] => match (toD S x) with
    | some (.list xs) => match intsOf xs with
      | some (i :: is) => .ok (.d (.int (maxI (i :: is)))) S
      | _ => .stuck
    | _ => .stuck
  | .tuple, [x] => match toD S x with
    | some (.list xs) => .ok (.d (.tuple xs)) S
    | some (.tuple xs) => .ok (.d (.tuple xs)) S
    | _ => .stuck
  | .sorted, [x] => match toD S x with
    | some (.list xs) => if sortOk xs then .ok (.d (.list (xs.mergeSort (PySem.W.dataLe false id)))) S else .stuck
    | _ => .stuck
  | .all, [x] => match toD S x with
    | some (.list xs) => optR ((boolsOf xs).map fun bs => .d (.bool (bs.all id))) S
    | _ => .stuck
  | .any, [x] => match toD S x with
    | some (.list xs) => optR ((boolsOf xs).map fun bs => .d (.bool (bs.any id))) S
    | _ => .stuck
  | .lenset, [x] => match toD S x with
    | some (.list xs) => match intsOf xs with
      | some is => if decide (is.length ≤ 4000) then .ok (.d (.int (PyProof.Rows.firstMet (fun i => is.getD i 0) is.length).length)) S else .stuck
      | none => .stuck
    | _ => .stuck
  | .str, [.d (.str z)] => .ok (.d (.str z)) S
  | .str, [.d (.int i)] => if decide (i.natAbs.log2 < 1920) then .ok (.d (.str (toString i))) S else .stuck
  | .bool, [.d (.bool b)] => .ok (.d (.bool b)) S
  | .flat, [.d x] => match (seqD x).bind flatD with
    | some ys => if decide (ys.length < 16000) then .ok (.d (.list ys)) S else .stuck
    | none => .stuck
  | _, _ => .stuck
def cpyW (m : Bool) (x : W) (S : Store) : Res W := match (toD S x).bind seqD with
  | some xs => newL m xs S
  | none => .stuck
def dkeyW (m : Bool) (x : W) (S : Store) : Res W := match x with
  | .r i => match S[i]? with
    | some (.fT kvs) => newL m (kvs.map (·.1)) S
    | _ => .stuck
  | _ => .stuck
def isiW (ty : Ty) (x : W) (S : Store) : Res W := match toD S x with
  | some a => .ok (.d (.bool (tyD ty a))) S
  | none => .stuck
def appW (x y : W) (S : Store) : Res W := match x, y with
  | .r i, .d v => match S[i]? with
    | some (.list xs) => if decide (xs.length < sizeLine) then .ok (.d .none) (S.set i (.list (xs ++ [v]))) else .stuck
    | some (.lstA p xs) => if decide (xs.length < sizeLine) then .ok (.d .none) (S.set i (.lstA p (xs ++ [v]))) else .stuck
    | _ => .stuck
  | _, _ => .stuck
def fldW (b : Bool) (x : W) (S : Store) : Res W := match x with
  | .r i => match S[i]? with
    | some (.ins r n) => .ok (.d (if b then r else n)) S
    | _ => .stuck
  | _ => .stuck
def insW (x : W) (S : Store) : Res W := match x with
  | .r i => match S[i]? with
    | some (.ins _ _) => .ok x S
    | _ => .stuck
  | _ => .stuck
def lnW (x : W) (S : Store) : Res W := match x with
  | .d (.int n) => if 0 ≤ n ∧ n < 4611686018427387904 then .ok x S else .stuck
  | _ => .stuck
def findA (p : Nat) : Store → Nat → Option Nat
  | [], _ => none
  | .lstA q _ :: S, i => if q = p then some i else findA p S (i + 1)
  | _ :: S, i => findA p S (i + 1)
def pstW (x : W) (S : Store) : Res W := match x with
  | .r i => match S[i]? with
    | some (.ins _ _) => match findA i S 0 with
      | some j => .ok (.r j) S
      | none => .stuck
    | _ => .stuck
  | _ => .stuck
def isDW (x : W) (S : Store) : Res W := match x with
  | .d _ => .ok (.d (.bool false)) S
  | .r i => match S[i]? with
    | some (.ins _ _) => .ok (.d (.bool true)) S
    | _ => .stuck
def eqR (x : W) (S : Store) : Res Unit := match x with
  | .d (.tuple _) => .ok () S
  | .d _ => .stuck
  | .r i => match S[i]? with
    | some (.ins _ _) => .ok () S
    | _ => .stuck
def negB (neg : Bool) (x : W) (S : Store) : Res W := match x with
  | .d (.bool b) => .ok (.d (.bool (b != neg))) S
  | _ => .stuck
def capL (ls : Loc) : List Nat → Option (List D)
  | [] => some []
  | j :: js => match ls[j]? with
    | some (some (.d x)) => (capL ls js).map (x :: ·)
    | _ => none
def attW (run : Store → Res W) (w : W) (S : Store) : Res W := match w with
  | .d _ => .stuck
  | .r i => match S[i]? with
    | some (.ins rl nw) => match findA i S 0 with
      | none => .stuck
      | some j => match S[j]? with
        | some (.lstA _ past) => match run (S ++ [.dead, .list past]) with
          | .ok (.d x) S' => .ok (.d x) (S'.take S.length)
          | .ok (.r _) _ => .stuck
          | .stuck => .stuck
          | .ex c S' => match S'[i]?, S'[j]?, S'[S.length + 1]? with
            | some (.ins rl' _), some (.lstA i' _), some (.list past') => if i' = i then .ex c ((((S'.take S.length).set i (.ins rl' nw)).set j .dead) ++ [.lstA i past']) else .stuck
            | _, _, _ => .stuck
        | _ => .stuck
    | _ => .stuck
def hflW (x : W) (S : Store) : Res W := match x with
  | .r i => match S[i]? with
    | some (.hou r) => .ok (.d r) S
    | _ => .stuck
  | _ => .stuck
def houW (x : W) (S : Store) : Res W := match x with
  | .r i => match S[i]? with
    | some (.hou _) => .ok x S
    | _ => .stuck
  | _ => .stuck
def isHW (x : W) (S : Store) : Res W := match x with
  | .d _ => .ok (.d (.bool false)) S
  | .r i => match S[i]? with
    | some (.hou _) => .ok (.d (.bool true)) S
    | _ => .stuck
def heqR (x : W) (S : Store) : Res Unit := match x with
  | .d (.tuple _) => .ok () S
  | .d _ => .stuck
  | .r i => match S[i]? with
    | some (.hou _) => .ok () S
    | _ => .stuck
def hqW (q : HQ) (x : W) (S : Store) : Res W := match q, x with
  | .len, x => lnW x S
  | .bool, .d (.bool b) => .ok (.d (.bool b)) S
  | .str, .d (.str z) => .ok (.d (.str z)) S
  | _, _ => .stuck
def capW (ls : Loc) : List Nat → Option (List W)
  | [] => some []
  | j :: js => match ls[j]? with
    | some (some w) => (capW ls js).map (w :: ·)
    | _ => none
def triW (run : Store → Res W) (hs : List (Nat × Str)) (S : Store) : Res W := match run S with
  | .ok (.d x) S' => .ok (.d x) (S'.take S.length)
  | .ok (.r _) _ => .stuck
  | .ex c S' => match hs.find? fun h => h.1 == c with
    | some h => .ok (.d (.str h.2)) (S'.take S.length)
    | none => .stuck
  | .stuck => .stuck
def selD (ds : List D) : List (Nat ⊕ D) → Option (List D)
  | [] => some []
  | .inl j :: ss => match ds[j]? with
    | some x => (selD ds ss).map (x :: ·)
    | none => none
  | .inr x :: ss => (selD ds ss).map (x :: ·)
def setNW (x y : W) (S : Store) : Res Unit := match x, y with
  | .r i, .d v => match S[i]? with
    | some (.ins r _) => .ok () (S.set i (.ins r v))
    | _ => .stuck
  | _, _ => .stuck
def lstR (x : W) (S : Store) : Res Unit := match x with
  | .r i => match S[i]? with
    | some (.list _) => .ok () S
    | some (.lstA _ _) => .ok () S
    | _ => .stuck
  | _ => .stuck
def popW (x : W) (S : Store) : Res W := match x with
  | .r i => match S[i]? with
    | some (.list xs) => match xs[xs.length - 1]? with
      | some v => .ok (.d v) (S.set i (.list xs.dropLast))
      | none => .stuck
    | some (.lstA p xs) => match xs[xs.length - 1]? with
      | some v => .ok (.d v) (S.set i (.lstA p xs.dropLast))
      | none => .stuck
    | _ => .stuck
  | _ => .stuck
def strsOf : List D → Option (List Str)
  | [] => some []
  | .str i :: xs => (strsOf xs).map (i :: ·)
  | _ :: _ => none
def indxW (x y : W) (S : Store) : Res W := match x, y with
  | .d (.tuple xs), .d (.str z) => match strsOf xs with
    | some ys => optR ((ys.findIdx? fun u => u == z).map fun k => .d (.int (k : Nat))) S
    | none => .stuck
  | _, _ => .stuck
def ldR (x : W) (S : Store) : Res Unit := match x with
  | .d (.list _) => .ok () S
  | _ => .stuck
def indlW (x y : W) (S : Store) : Res W := match x, y with
  | .d (.list xs), .d (.int z) => match intsOf xs with
    | some ys => optR ((ys.findIdx? fun u => u == z).map fun k => .d (.int (k : Nat))) S
    | none => .stuck
  | .d (.list xs), .d (.str z) => match strsOf xs with
    | some ys => optR ((ys.findIdx? fun u => u == z).map fun k => .d (.int (k : Nat))) S
    | none => .stuck
  | _, _ => .stuck
def tupR (x : W) (S : Store) : Res Unit := match x with
  | .d (.tuple _) => .ok () S
  | _ => .stuck
def strR (x : W) (S : Store) : Res Unit := match x with
  | .d (.str _) => .ok () S
  | _ => .stuck
def spltW (x y : W) (S : Store) : Res W := match x, y with
  | .d (.str a), .d (.str b) => if !(b.length == 0) && decide (a.length + 2 ≤ sizeLine) then .ok (.d (.list ((Txt.split a b).map .str))) S else .stuck
  | _, _ => .stuck
def joinW (x y : W) (S : Store) : Res W := match x, (toD S y).bind seqD with
  | .d (.str a), some xs => match strsOf xs with
    | some ys => if decide ((ys.map (·.length)).sum + ys.length * a.length ≤ 16777216) then .ok (.d (.str (Txt.join a ys))) S else .stuck
    | none => .stuck
  | _, _ => .stuck
open Builtin.Str in
def replN (x y z : Str) (n : Nat) : Str := if ((occurrences x y 0 x.length n).isEmpty || (y.length == 0 && z.length == 0)) = true then x else glued z (partsBetween x (occurrences x y 0 x.length n) y.length)
def rplSW (y z : Str) (n : Option Nat) (w : W) (S : Store) : Res W := match w, n with
  | .d (.str x), none => if !(y == z) && decide (x.length + (x.length + 1) * z.length ≤ 16777216) then .ok (.d (.str (Txt.replace x y z))) S else .stuck
  | .d (.str x), some n => if !(y == z) && decide (x.length + n * z.length ≤ 16777216) then .ok (.d (.str (replN x y z n))) S else .stuck
  | _, _ => .stuck
def daR (ws : List W) (S : Store) : Res (List D) := match dataOf ws with
  | some xs => if fits xs.length then .ok xs S else .stuck
  | none => .stuck
def rplW (xs : List D) (y : W) (S : Store) : Res W := match y with
  | .d (.int k) => if decide (0 ≤ k) && decide (k ≤ 1000) && fits (xs.length * k.toNat) then .ok (.d (.list (repD xs k))) S else .stuck
  | _ => .stuck
def dgetW (x k y : W) (S : Store) : Res W := match x, k, y with
  | .r i, .d a, .d v => match tabT S[i]? with
    | some kvs => if isKey a then .ok (.d ((getT kvs a).getD v)) S else .stuck
    | none => .stuck
  | _, _, _ => .stuck
def setW (x k y : W) (S : Store) : Res Unit := match x, k, y with
  | .r i, .d (.int j), .d v => match S[i]? with
    | some (.list xs) => match placeD xs.length j with
        | some p => .ok () (S.set i (.list (xs.set p v)))
        | none => .stuck
    | some (.lstK k z xs) => match placeD xs.length j with
        | some p => .ok () (S.set i (.lstK k z (xs.set p v)))
        | none => .stuck
    | _ => .stuck
  | _, _, _ => .stuck
def dsetW (x k y : W) (S : Store) : Res Unit := match x, k, y with
  | .r i, .d a, .d v => match S[i]? with
    | some (.dT kvs) => if isKey a && decide (kvs.length < sizeLine) then .ok () (S.set i (.dT (putT kvs a v))) else .stuck
    | _ => .stuck
  | _, _, _ => .stuck
def dfzKW (x : W) (S : Store) : Res W := match x with
  | .r i => match S[i]? with
    | some (.dK kvs) => .ok (.r i) (S.set i (.fK kvs))
    | some (.fK _) => .ok (.r i) S
    | _ => .stuck
  | .d _ => .stuck
def keyK : D → Option L2.Key
  | .int z => some (.inl z)
  | .str x => some (.inr x)
  | _ => none
def setkW (x k y : W) (S : Store) : Res Unit := match x, k, y with
  | .r i, .d kd, .d v => match S[i]?, keyK kd with
    | some (.dK kvs), some key => if decide (kvs.length < sizeLine) then .ok () (S.set i (.dK (putK kvs key v))) else .stuck
    | _, _ => .stuck
  | _, _, _ => .stuck
def kgetW (x y : W) (S : Store) : Res W := match x, y with
  | .r i, .d kd => match S[i]?, keyK kd with
    | some (.dK kvs), some key => optR ((getK kvs key).map .d) S
    | _, _ => .stuck
  | _, _ => .stuck
def khasW (neg : Bool) (x y : W) (S : Store) : Res W := match x, y with
  | .d kd, .r i => match S[i]?, keyK kd with
    | some (.dK kvs), some key => .ok (.d (.bool (if neg then !hasK kvs key else hasK kvs key))) S
    | _, _ => .stuck
  | _, _ => .stuck
def isOwn (r : Nat) (z : Int) : SO → Bool
  | .lstK r' z' _ => decide (r' = r) && decide (z' = z)
  | _ => false
def ownP (S : Store) (r : Nat) (z : Int) : Option Nat := (List.range S.length).find? fun j => decide (r < j) && (match S[j]? with
  | some o => isOwn r z o
  | none => false)
def rgetW (x y : W) (S : Store) : Res W := match x, y with
  | .r r, .d (.int z) => match S[r]? with
    | some (.dR _) => optR ((ownP S r z).map .r) S
    | _ => .stuck
  | _, _ => .stuck
def freeO (r : Nat) (z : Int) : SO → SO
  | .lstK r' z' xs => if r' = r ∧ z' = z then .list xs else .lstK r' z' xs
  | o => o
def neut (S : Store) (r : Nat) (z : Int) : Store := S.take (r + 1) ++ (S.drop (r + 1)).map (freeO r z)
def rsetW (x y w : W) (S : Store) : Res Unit := match x, y, w with
  | .r r, .d (.int z), .r p => match S[r]?, S[p]? with
    | some (.dR n), some (.list xs) => if decide (r < p) && decide (n < sizeLine) then .ok () (((neut S r z).set p (.lstK r z xs)).set r (.dR (n + 1))) else .stuck
    | _, _ => .stuck
  | _, _, _ => .stuck
def kdspW (ks : List Str) (ws : List W) (S : Store) : Res W := match dataOf ws with
  | some ds => if decide (ks.length = ds.length) && (decide ks.Nodup && decide (ks.length ≤ 15)) then .ok (.r S.length) (S ++ [.dK ((ks.map Sum.inr).zip ds)]) else .stuck
  | none => .stuck
def lookD (kvs : List (D × D)) (z : Str) : Option D := (kvs.find? fun p => match p.1 with | .str y => decide (y = z) | _ => false).map (·.2)
def kinW (neg : Bool) (kvs : List (D × D)) (x : W) (S : Store) : Res W := match x with
  | .d (.str z) => .ok (.d (.bool (if neg then !(lookD kvs z).isSome else (lookD kvs z).isSome))) S
  | _ => .stuck
def kixW (kvs : List (D × D)) (x : W) (S : Store) : Res W := match x with
  | .d (.str z) => optR ((lookD kvs z).map .d) S
  | _ => .stuck
def lookS (l : List (Str × D)) (z : Str) : Option D := (l.find? fun p => decide (p.1 = z)).map (·.2)
def dslW (ks : List Str) (ws : List W) (y z : W) (S : Store) : Res W := match dataOf ws, y, z with
  | some ds, .d (.str x), .d d0 => if decide (ks.length = ds.length) && (decide ks.Nodup && decide (ks.length ≤ 15)) then .ok (.d ((lookS (ks.zip ds) x).getD d0)) S else .stuck
  | _, _, _ => .stuck
def wipeL (ls : Loc) : List Nat → Loc
  | [] => ls
  | v :: vs => (wipeL ls vs).set v none
def setAll (ls : Loc) : List Nat → List D → Option Loc
  | [], [] => some ls
  | j :: js, x :: xs => setAll (ls.set j (some (.d x))) js xs
  | _, _ => none
def bindD (tg : Tg) (x : D) (ls : Loc) : Option Loc := match tg with
  | .nm j => some (ls.set j (some (.d x)))
  | .tp js => match x with
    | .tuple xs => setAll ls js xs
    | _ => none
def bindW (tg : Tg) (w : W) (ls : Loc) : Option Loc := match tg, w with
  | .nm j, w => some (ls.set j (some w))
  | tg, .d x => bindD tg x ls
  | _, _ => none
def compL (bnd : D → Option Loc) (test : Loc → Store → Res W) (elt : Loc → Store → Res W) : List D → List D → Store → Res (List D)
  | [], acc, S => .ok acc S
  | x :: xs, acc, S => match bnd x with
    | none => .stuck
    | some l => (test l S).test fun b S1 => if b then (elt l S1).bind fun w S2 => match w with
        | .d y => if decide (acc.length < sizeLine) then compL bnd test elt xs (acc ++ [y]) S2 else .stuck
        | .r _ => .stuck
      else compL bnd test elt xs acc S1
def dcmpL (bnd : D → Option Loc) (key val : Loc → Store → Res W) : List D → List (D × D) → Store → Res (List (D × D))
  | [], acc, S => .ok acc S
  | x :: xs, acc, S => match bnd x with
    | none => .stuck
    | some l => (key l S).bind fun y S1 => (val l S1).bind fun z S2 => match y, z with
      | .d a, .d b => if isKey a && decide (acc.length < sizeLine) then dcmpL bnd key val xs (putT acc a b) S2 else .stuck
      | _, _ => .stuck
def forL (bnd : D → Loc → Option Loc) (body : Loc → Store → Res Fl) : List D → Loc → Store → Res Fl
  | [], ls, S => .ok (.nx ls) S
  | x :: xs, ls, S => match bnd x ls with
    | none => .stuck
    | some l => (body l S).bind fun f S1 => match f with
      | .nx l1 => forL bnd body xs l1 S1
      | .rt w => .ok (.rt w) S1
def whlL (test : Loc → Store → Res W) (body : Loc → Store → Res Fl) : Nat → Loc → Store → Res Fl
  | 0, _, _ => .stuck
  | n + 1, ls, S => (test ls S).test fun b S1 => if b then (body ls S1).bind fun f S2 => match f with
      | .nx l1 => whlL test body n l1 S2
      | .rt w => .ok (.rt w) S2
    else .ok (.nx ls) S1

abbrev Call := Nat → List W → Store → Res W
open Classical in
noncomputable def mkDW (call : Call) (n8 nb : Nat) (w : W) (S : Store) : Res W := match w with
  | .r _ => .stuck
  | .d dh => match call nb [.d dh] S with
    | .ok (.d db) _ => if (∀ S, call n8 [.d dh] S = .ok (.d .none) S) ∧ (∀ S, call nb [.d dh] S = .ok (.d db) S) then .ok (.r S.length) (S ++ [.ins dh (.tuple [db, .tuple [], .tuple []]), .lstA S.length []]) else .stuck
    | _ => .stuck

open Classical in
noncomputable def mkHW (call : Call) (fi : Nat) (r : D) (S : Store) : Res W :=
  if ∀ S, call fi [.d r] S = .ok (.d .none) S then .ok (.r S.length) (S ++ [.hou r]) else if ∀ S, call fi [.d r] S = .ex 0 S then .ex 0 S else .stuck
noncomputable def mkHS (call : Call) (fi : Nat) (sel : List (Nat ⊕ D)) (ws : List W) (S : Store) : Res W := match dataOf ws with
  | some ds => match selD ds sel with
    | some rs => mkHW call fi (.tuple rs) S
    | none => .stuck
  | none => .stuck
noncomputable def mkHT (call : Call) (fi : Nat) (w : W) (S : Store) : Res W := match w with
  | .d (.tuple rs) => if rs.length = 9 then mkHW call fi (.tuple rs) S else .stuck
  | _ => .stuck

def enumD (xs : List D) : List D := (List.range xs.length).zipWith (fun i x => .tuple [.int (i : Nat), x]) xs
def zipD (xs ys : List D) : List D := xs.zipWith (fun x y => .tuple [x, y]) ys

mutual
noncomputable def evE (call : Call) : E → Loc → Store → Res W
  | .var j, ls, S => match ls[j]? with
    | some (some w) => .ok w S
    | _ => .stuck
  | .frz a, ls, S => (evE call a ls S).bind frzW
  | .cst x, _, S => .ok (.d x) S
  | .glb _ v, _, S => .ok (.d v) S
  | .bin op a b, ls, S => (evE call a ls S).bind fun x S1 => (evE call b ls S1).bind fun y S2 => binW op x y S2
  | .neg a, ls, S => (evE call a ls S).bind negW
  | .nt a, ls, S => (evE call a ls S).bind notW
  | .and a b, ls, S => (evE call a ls S).test fun c S1 => if c then evE call b ls S1 else .ok (.d (.bool false)) S1
  | .or a b, ls, S => (evE call a ls S).test fun c S1 => if c then .ok (.d (.bool true)) S1 else evE call b ls S1
  | .cmp op a b, ls, S => (evE call a ls S).bind fun x S1 => (evE call b ls S1).bind fun y S2 => cmpW op x y S2
  | .chn o p a b c, ls, S => (evE call a ls S).bind fun x S1 => (evE call b ls S1).bind fun y S2 => (cmpW o x y S2).test fun k S3 =>
      if k then (evE call c ls S3).bind fun z S4 => cmpW p y z S4 else .ok (.d (.bool false)) S3
  | .ife t a b, ls, S => (evE call t ls S).test fun k S1 => if k then evE call a ls S1 else evE call b ls S1
  | .tup es, ls, S => (evL call es ls S).bind tupW
  | .lst m es, ls, S => (evL call es ls S).bind (lstW m)
  | .idx a i, ls, S => (evE call a ls S).bind fun x S1 => (evE call i ls S1).bind fun y S2 => idxW x y S2
  | .slc bl bh a lo hi, ls, S => (evE call a ls S).bind fun x S1 => (if bl then (evE call lo ls S1).bind partW else .ok none S1).bind fun y S2 =>
      (if bh then (evE call hi ls S2).bind partW else .ok none S2).bind fun z S3 => slcW x y z S3
  | .omit, _, S => .ok (.d .none) S
  | .fld b a, ls, S => (evE call a ls S).bind (fldW b)
  | .pst a, ls, S => (evE call a ls S).bind pstW
  | .slf a, ls, S => (evE call a ls S).bind insW
  | .oix f a b, ls, S => (evE call a ls S).bind fun w S1 => (evE call b ls S1).bind fun y S2 => (insW w S2).bind fun w S3 => call f [w, y] S3
  | .oln f a, ls, S => (((evE call a ls S).bind insW).bind fun w S1 => call f [w] S1).bind lnW
  | .callD f es xs, ls, S => (evL call es ls S).bind fun ws S1 => call f (ws ++ xs.map .d) S1
  | .prp f a, ls, S => ((evE call a ls S).bind insW).bind fun w S1 => (call f [w] S1).noex
  | .mkD n8 nb a, ls, S => (evE call a ls S).bind (mkDW call n8 nb)
  | .oeq neg f a b, ls, S => (evE call a ls S).bind fun w S1 => (evE call b ls S1).bind fun y S2 => (insW w S2).bind fun w S3 => (eqR y S3).bind fun _ S4 => (call f [w, y] S4).bind (negB neg)
  | .isD a, ls, S => (evE call a ls S).bind isDW
  | .att js jt f m o, ls, S => (evE call o ls S).bind fun w S1 => match capL ls js with
    | some ds => if isTab f S1[jt]? then attW (fun S2 => evE call m ((ds.map fun x => some (.d x)) ++ [some w]) S2) w S1 else .stuck
    | none => .stuck
  | .hfl a, ls, S => (evE call a ls S).bind hflW
  | .hsl a, ls, S => (evE call a ls S).bind houW
  | .hpr f a, ls, S => ((evE call a ls S).bind houW).bind fun w S1 => (call f [w] S1).noex
  | .hu1 q f a, ls, S => (((evE call a ls S).bind houW).bind fun w S1 => call f [w] S1).bind (hqW q)
  | .hix f a b, ls, S => (evE call a ls S).bind fun w S1 => (evE call b ls S1).bind fun y S2 => (houW w S2).bind fun w S3 => call f [w, y] S3
  | .hcl f a b, ls, S => ((evE call a ls S).bind houW).bind fun w S1 => (evE call b ls S1).bind fun y S2 => (houW w S2).bind fun w S3 => call f [w, y] S3
  | .heq neg f a b, ls, S => (evE call a ls S).bind fun w S1 => (evE call b ls S1).bind fun y S2 => (houW w S2).bind fun w S3 => (heqR y S3).bind fun _ S4 => (call f [w, y] S4).bind (negB neg)
  | .hin f a b, ls, S => (evE call a ls S).bind fun y S1 => (evE call b ls S1).bind fun w S2 => (houW w S2).bind fun w S3 => (call f [w, y] S3).bind (hqW .bool)
  | .isH a, ls, S => (evE call a ls S).bind isHW
  | .mkH fi es ks sel, ls, S => (evL call es ls S).bind fun ws S1 => (evL call ks ls S1).bind fun zs S2 => mkHS call fi sel (ws ++ zs) S2
  | .hmt fi a, ls, S => (evE call a ls S).bind (mkHT call fi)
  | .hcon a d, ls, S => ((evE call a ls S).bind houW).bind fun _ S1 => .ok (.d d) S1
  | .tri js jt f m hs, ls, S => match capW ls js with
    | some ws => if isTab f S[jt]? then triW (fun S2 => evE call m (ws.map some) S2) hs S else .stuck
    | none => .stuck
  | .rev a, ls, S => (evE call a ls S).bind revW
  | .lrng a, ls, S => (evE call a ls S).bind lrngW
  | .addm a b, ls, S => (evE call a ls S).bind fun x S1 => (evE call b ls S1).bind fun y S2 => addmW x y S2
  | .srtk a j f, ls, S => (evE call a ls S).bind fun x S1 => srtkW f x ls[j]? S1
  | .call f es, ls, S => (evL call es ls S).bind fun ws S1 => call f ws S1
  | .blt b es, ls, S => (evL call es ls S).bind (bltW b)
  | .cpy m a, ls, S => (evE call a ls S).bind (cpyW m)
  | .isi ty a, ls, S => (evE call a ls S).bind (isiW ty)
  | .app a x, ls, S => (evE call a ls S).bind fun v S1 => (lstR v S1).bind fun _ S2 => (evE call x ls S2).bind fun y S3 => appW v y S3
  | .pop a, ls, S => (evE call a ls S).bind popW
  | .indx a x, ls, S => (evE call a ls S).bind fun v S1 => (tupR v S1).bind fun _ S2 => (evE call x ls S2).bind fun y S3 => indxW v y S3
  | .splt a x, ls, S => (evE call a ls S).bind fun v S1 => (strR v S1).bind fun _ S2 => (evE call x ls S2).bind fun y S3 => spltW v y S3
  | .rplS a y z n, ls, S => (evE call a ls S).bind fun w S1 => rplSW y z n w S1
  | .join a x, ls, S => (evE call a ls S).bind fun v S1 => (strR v S1).bind fun _ S2 => (evE call x ls S2).bind fun y S3 => joinW v y S3
  | .rpl es n, ls, S => (evL call es ls S).bind fun ws S1 => (daR ws S1).bind fun xs S2 => (evE call n ls S2).bind fun y S3 => rplW xs y S3
  | .dget a k x, ls, S => (evE call a ls S).bind fun v S1 => (dctR v S1).bind fun _ S2 => (evE call k ls S2).bind fun y S3 => (evE call x ls S3).bind fun z S4 => dgetW v y z S4
  | .ind neg a b, ls, S => (evE call a ls S).bind fun v S1 => (evE call b ls S1).bind fun y S2 => indW neg v y S2
  | .didx a i, ls, S => (evE call a ls S).bind fun v S1 => (evE call i ls S1).bind fun y S2 => didxW v y S2
  | .dlen a, ls, S => (evE call a ls S).bind dlenW
  | .dkey m a, ls, S => (evE call a ls S).bind (dkeyW m)
  | .dkeyV m j, ls, S => match ls[j]? with
    | some (some (.r i)) => match S[i]? with
      | some (.dT kvs) => newL m (kvs.map (·.1)) S
      | _ => .stuck
    | _ => .stuck
  | .dnew, _, S => .ok (.r S.length) (S ++ [.dT []])
  | .dnewK, _, S => .ok (.r S.length) (S ++ [.dK []])
  | .dfzK a, ls, S => (evE call a ls S).bind dfzKW
  | .kin neg _ kvs a, ls, S => (evE call a ls S).bind (kinW neg kvs)
  | .kix _ kvs a, ls, S => (evE call a ls S).bind (kixW kvs)
  | .dsl ks es a d, ls, S => (evL call es ls S).bind fun ws S1 => (evE call a ls S1).bind fun y S2 => (evE call d ls S2).bind fun z S3 => dslW ks ws y z S3
  | .dsp1 k v, ls, S => (evE call k ls S).bind fun x S1 => (evE call v ls S1).bind fun y S2 => match x, y with
      | .d a, .d b => if isKey a then .ok (.r S2.length) (S2 ++ [.dT [(a, b)]]) else .stuck
      | _, _ => .stuck
  | .dfz a, ls, S => (evE call a ls S).bind dfzW
  | .dnewR, _, S => .ok (.r S.length) (S ++ [.dR 0])
  | .rget a i, ls, S => (evE call a ls S).bind fun v S1 => (evE call i ls S1).bind fun y S2 => rgetW v y S2
  | .kget a i, ls, S => (evE call a ls S).bind fun v S1 => (evE call i ls S1).bind fun y S2 => kgetW v y S2
  | .khas neg a b, ls, S => (evE call a ls S).bind fun v S1 => (evE call b ls S1).bind fun y S2 => khasW neg v y S2
  | .kdsp ks es, ls, S => (evL call es ls S).bind fun ws S1 => kdspW ks ws S1
  | .comp m elt tg src cond own, ls, S => (evI call src ls S).bind fun xs S1 =>
      ((compL (fun x => bindD tg x (wipeL ls own)) (fun l S => evC call cond l S) (fun l S => evE call elt l S) xs [] S1).noex).bind fun ys S2 => newL m ys S2
  | .dcmp k v tg src own, ls, S => (evI call src ls S).bind fun xs S1 =>
      ((dcmpL (fun x => bindD tg x (wipeL ls own)) (fun l S => evE call k l S) (fun l S => evE call v l S) xs [] S1).noex).bind fun kvs S2 => .ok (.r S2.length) (S2 ++ [.dT kvs])
  | .indl a x, ls, S => (evE call a ls S).bind fun v S1 => (ldR v S1).bind fun _ S2 => (evE call x ls S2).bind fun y S3 => indlW v y S3
  | _, _, _ => .stuck
noncomputable def evL (call : Call) : E → Loc → Store → Res (List W)
  | .nil, _, S => .ok [] S
  | .cons e es, ls, S => (evE call e ls S).bind fun w S1 => (evL call es ls S1).bind fun ws S2 => .ok (w :: ws) S2
  | _, _, _ => .stuck
noncomputable def evC (call : Call) : E → Loc → Store → Res W
  | .omit, _, S => .ok (.d (.bool true)) S
  | .cons e .nil, ls, S => evE call e ls S
  | _, _, _ => .stuck
noncomputable def evI (call : Call) : E → Loc → Store → Res (List D)
  | .iseq a, ls, S => (evE call a ls S).bind fun w S1 => match w with
    | .d x => optR (seqD x) S1
    | .r _ => .stuck
  | .irng1 a, ls, S => (evE call a ls S).bind fun w S1 => match w with
    | .d (.int j) => if decide (-(2 ^ 62) ≤ j) && decide (j < 2 ^ 62) then .ok ((List.range j.toNat).map fun i => .int (i : Nat)) S1 else .stuck
    | _ => .stuck
  | .irng2 a b, ls, S => (evE call a ls S).bind fun w S1 => (evE call b ls S1).bind fun u S2 => match w, u with
    | .d (.int i), .d (.int j) => if decide (-(2 ^ 62) ≤ i) && decide (i < 2 ^ 62) && decide (-(2 ^ 62) ≤ j) && decide (j < 2 ^ 62) then .ok ((List.range (j - i).toNat).map fun k => .int (i + (k : Nat))) S2 else .stuck
    | _, _ => .stuck
  | .ikey a, ls, S => (evE call a ls S).bind fun w S1 => match w with
    | .r i => match S1[i]? with
      | some (.fT kvs) => .ok (kvs.map (·.1)) S1
      | _ => .stuck
    | .d _ => .stuck
  | .ikeyK a, ls, S => (evE call a ls S).bind fun w S1 => match w with
    | .r i => match S1[i]? with
      | some (.fK kvs) => .ok (kvs.map fun p => keyOfD p.1) S1
      | _ => .stuck
    | .d _ => .stuck
  | .iitm a, ls, S => (evE call a ls S).bind fun w S1 => match w with
    | .r i => match S1[i]? with
      | some (.fT kvs) => .ok (kvs.map fun p => .tuple [p.1, p.2]) S1
      | _ => .stuck
    | .d _ => .stuck
  | .ienum a, ls, S => (evE call a ls S).bind fun w S1 => match w with
    | .d x => optR ((seqD x).map enumD) S1
    | .r _ => .stuck
  | .izip a b, ls, S => (evE call a ls S).bind fun w S1 => (evE call b ls S1).bind fun u S2 => match w, u with
    | .d (.tuple xs), .d (.tuple ys) => .ok (zipD xs ys) S2
    | .d (.list xs), .d (.list ys) => .ok (zipD xs ys) S2
    | .d (.tuple xs), .d (.list ys) => .ok (zipD xs ys) S2
    | _, _ => .stuck
  | _, _, _ => .stuck
end

noncomputable def asgLV (call : Call) (lv : LV) (w : W) (ls : Loc) (S : Store) : Res Loc := match lv with
  | .nm j => .ok (ls.set j (some w)) S
  | .ix a i => (evE call a ls S).bind fun x S1 => (evE call i ls S1).bind fun y S2 => (setW x y w S2).bind fun _ S3 => .ok ls S3
noncomputable def asgAll (call : Call) : List LV → List W → Loc → Store → Res Loc
  | [], [], ls, S => .ok ls S
  | lv :: lvs, w :: ws, ls, S => (asgLV call lv w ls S).bind fun l S1 => asgAll call lvs ws l S1
  | _, _, _, _ => .stuck
def hdl (hs : List (Nat × Nat × Str)) (ls : Loc) : Res Fl → Res Fl
  | .ex c S => match hs.find? fun h => h.1 == c with
    | some h => .ok (.nx (ls.set h.2.1 (some (.d (.str h.2.2))))) S
    | none => .stuck
  | r => r
def sameR (i : Nat) (key : D) (u v : Option (Option W)) (S : Store) : Res Unit := match u, v with
  | some (some (.r i')), some (some (.d k')) => if i' == i && sameD k' key then .ok () S else .stuck
  | _, _ => .stuck
def rowF (i r : Nat) (d q : Nat) (key : D) (pre : Loc → Store → Res Fl) (cond x : Loc → Store → Res W) (post : Loc → Store → Res Fl) (ls : Loc) (S : Store) : Res Fl :=
  (pre ls S).bind fun f S3 => match f with
    | .rt _ => .stuck
    | .nx l1 => (cond l1 S3).test fun b S4 => if b then (sameR i key l1[d]? l1[q]? S4).bind fun _ S5 => (lstR (.r r) S5).bind fun _ S5 => (x l1 S5).bind fun w S6 => (appW (.r r) w S6).bind fun _ S7 => post l1 S7
      else .ok (.nx l1) S4
def rowE (i r : Nat) (key : D) (kvs : List (D × D)) : Fl → Store → Res Fl
  | .rt _, _ => .stuck
  | .nx l2, S8 => match S8[r]? with
    | some (.list ys) => if decide (i < r) then .ok (.nx l2) ((S8.set r (.fz ys)).set i (.dT (putT kvs key (.list ys)))) else .stuck
    | _ => .stuck
def unset (ls : Loc) (js : List Nat) : Bool := js.all fun j => match ls[j]? with
  | some none => true
  | _ => false
def bckL (step : Store → Res W) (c : Nat) : Nat → Int → Store → Res Fl
  | 0, _, _ => .stuck
  | n + 1, k, S => match step S with
    | .ok _ S1 => bckL step c n (k + 1) S1
    | .ex c' S1 => if c' = c then .ok (.rt (.d (.int k))) S1 else .stuck
    | .stuck => .stuck
noncomputable def exM (call : Call) (F : Nat) : M → Loc → Store → Res Fl
  | .skip, ls, S => .ok (.nx ls) S
  | .seq a b, ls, S => (exM call F a ls S).bind fun f S1 => match f with
    | .nx l1 => exM call F b l1 S1
    | .rt w => .ok (.rt w) S1
  | .asg tg e, ls, S => (evE call e ls S).bind fun w S1 => optR ((bindW tg w ls).map .nx) S1
  | .par lvs es, ls, S => (evL call es ls S).bind fun ws S1 => (asgAll call lvs ws ls S1).bind fun l S2 => .ok (.nx l) S2
  | .setx a i e, ls, S => (evE call e ls S).bind fun w S1 => (evE call a ls S1).bind fun x S2 => (evE call i ls S2).bind fun y S3 => (setW x y w S3).bind fun _ S4 => .ok (.nx ls) S4
  | .setk a i e, ls, S => (evE call e ls S).bind fun w S1 => (evE call a ls S1).bind fun x S2 => (evE call i ls S2).bind fun y S3 => (setkW x y w S3).bind fun _ S4 => .ok (.nx ls) S4
  | .setr a i e, ls, S => (evE call e ls S).bind fun w S1 => (evE call a ls S1).bind fun x S2 => (evE call i ls S2).bind fun y S3 => (rsetW x y w S3).bind fun _ S4 => .ok (.nx ls) S4
  | .setd a i e, ls, S => (evE call e ls S).bind fun w S1 => (evE call a ls S1).bind fun x S2 => (evE call i ls S2).bind fun y S3 => (dsetW x y w S3).bind fun _ S4 => .ok (.nx ls) S4
  | .iff c a b, ls, S => (evE call c ls S).test fun k S1 => if k then exM call F a ls S1 else exM call F b ls S1
  | .for tg src body, ls, S => ((evI call src ls S).bind fun xs S1 => forL (fun x l => bindD tg x l) (fun l S => exM call F body l S) xs ls S1).noex
  | .setN a e, ls, S => (evE call e ls S).bind fun w S1 => (evE call a ls S1).bind fun x S2 => (setNW x w S2).bind fun _ S3 => .ok (.nx ls) S3
  | .forX tg src body, ls, S => (evI call src ls S).bind fun xs S1 => forL (fun x l => bindD tg x l) (fun l S => exM call F body l S) xs ls S1
  | .whl c body, ls, S => (whlL (fun l S => evE call c l S) (fun l S => exM call F body l S) F ls S).noex
  | .ret e, ls, S => (evE call e ls S).bind fun w S1 => .ok (.rt w) S1
  | .exp e, ls, S => (evE call e ls S).bind fun _ S1 => .ok (.nx ls) S1
  | .never, _, _ => .stuck
  | .tryN a, ls, S => (exM call F a ls S).noex
  | .rse c, _, S => .ex c S
  | .rowd d q tg src pre cond x post, ls, S => match ls[d]?, ls[q]? with
    | some (some (.r i)), some (some (.d key)) => match S[i]? with
      | some (.dT kvs) => if isKey key && decide (kvs.length < sizeLine) then
          (((evI call src ls (S.set i .dead ++ [.list []])).bind fun xs S1 =>
            forL (fun x l => bindD tg x l) (fun l S2 => rowF i S.length d q key (fun l S => exM call F pre l S) (fun l S => evE call cond l S) (fun l S => evE call x l S) (fun l S => exM call F post l S) l S2) xs ls S1).noex).bind fun f S8 => rowE i S.length key kvs f S8
        else .stuck
      | _ => .stuck
    | _, _ => .stuck
  | .fre js jt f a, ls, S => if unset ls js && isTab f S[jt]? then exM call F a ls S else .stuck
  | .tryE j e hs, ls, S => hdl hs ls ((evE call e ls S).bind fun w S2 => .ok (.nx (ls.set j (some w))) S2)
  | .tryI j t e1 e2 hs, ls, S => (evE call t ls S).test fun b S1 => hdl hs ls ((if b then evE call e1 ls S1 else evE call e2 ls S1).bind fun w S2 => .ok (.nx (ls.set j (some w))) S2)
  | .bck jc n f o c, ls, S => match ls[jc]? with
    | some (some (.d (.int k))) => (evE call o ls S).bind fun w S1 => bckL (fun S => (insW w S).bind fun w S2 => call f [w] S2) c n k S1
    | _ => .stuck
  | .tryC j f es hs, ls, S => ((evL call es ls S).noex).bind fun ws S1 => hdl hs ls ((call f ws S1).bind fun w S2 => .ok (.nx (ls.set j (some w))) S2)
structure Def where
  ps : Nat
  n : Nat
  body : M

def isA : SO → Bool
  | .lstA _ _ => true
  | .lstK _ _ _ => true
  | .dR _ => true
  | _ => false
def leave (n : Nat) : Res Fl → Res W
  | .ok (.nx _) S => .ok (.d .none) (S.take n)
  | .ok (.rt (.d x)) S => .ok (.d x) (S.take n)
  | .ok (.rt (.r i)) S => if i < n then .ok (.r i) (S.take n) else match S[i]? with
    | some o => if isA o then .stuck else .ok (.r n) (S.take n ++ [o])
    | none => .stuck
  | .ex c S => .ex c (S.take n)
  | .stuck => .stuck

def startL (n : Nat) (ws : List W) : Loc := ws.map some ++ List.replicate (n - ws.length) none
def leaveK : Res Fl → Res W
  | .ok (.nx _) S => .ok (.d .none) S
  | .ok (.rt w) S => .ok w S
  | .ex c S => .ex c S
  | .stuck => .stuck
noncomputable def keepP (call : Call) (F : Nat) (P : List Def) (f : Nat) (ws : List W) (S : Store) : Res W := match P[f - 1000]? with
  | some d => if ws.length = d.ps then leaveK (exM call F d.body (startL d.n ws) S) else .stuck
  | none => .stuck
noncomputable def callP (P : List Def) (F : Nat) : Nat → Call
  | 0, _, _, _ => .stuck
  | k + 1, f, ws, S => match P[f]? with
    | some d => if ws.length = d.ps then leave S.length (exM (callP P F k) F d.body (startL d.n ws) S) else .stuck
    | none => keepP (callP P F k) F P f ws S

end MI

end S_MiB
section S_MiC
namespace MI
open PySem PySem.Spec PyProof.Rows L2

structure Gx where
  P : Program
  w : World
  K : PySem.W.Frag
  mg : Str → Option Value
  base : Heap

abbrev _root_.L2.Cx.gx (X : Cx) : Gx := ⟨X.prog, X.w, X.K, X.mg, X.base⟩
def FzL (K : PySem.W.Frag) (H : Hp) (a : Addr) (xs : List V) : Prop :=
  (∃ o, H a = some (.frz o (.lst xs))) ∨
    ∃ (o : Obj) (its : Array Value) (n : Nat), K.lookup a = some o ∧ o.cls = .type "list" ∧ o.dict = none ∧ o.data = .seq its n ∧ its.size ≤ sizeLine ∧ Vals xs its.toList
theorem FzL.sq {K : PySem.W.Frag} {H : Hp} {a : Addr} {xs : List V} (h : FzL K H a xs) : SqL K H a xs := by
  rcases h with h | h
  · exact .inl (.inr h)
  · exact .inr h

mutual
inductive DR (K : PySem.W.Frag) (H : Hp) : V → D → Prop where
  | non : DR K H .non .none
  | bl (b : Bool) : DR K H (.bl b) (.bool b)
  | int (i : Int) : DR K H (.int i) (.int i)
  | str (x : Str) : DR K H (.str x) (.str x)
  | lst {a : Addr} {xs : List V} {ds : List D} : FzL K H a xs → DRs K H xs ds → DR K H (.ref a) (.list ds)
  | tup {a : Addr} {xs : List V} {ds : List D} : SqT K H a xs → DRs K H xs ds → DR K H (.ref a) (.tuple ds)
inductive DRs (K : PySem.W.Frag) (H : Hp) : List V → List D → Prop where
  | nil : DRs K H [] []
  | cons {v : V} {vs : List V} {d : D} {ds : List D} : DR K H v d → DRs K H vs ds → DRs K H (v :: vs) (d :: ds)
end
structure Grow (H H' : Hp) : Prop where
  tup : ∀ a xs, H a = some (.tup xs) → H' a = some (.tup xs)
  frz : ∀ a o u, H a = some (.frz o u) → H' a = some (.frz o u)
  code : ∀ a q, H a = some (LamX.CodeO a q) → H' a = some (LamX.CodeO a q)
theorem Grow.refl (H : Hp) : Grow H H := ⟨fun _ _ h => h, fun _ _ _ h => h, fun _ _ h => h⟩
theorem Grow.trans {H H1 H2 : Hp} (a : Grow H H1) (b : Grow H1 H2) : Grow H H2 := ⟨fun c xs h => b.1 c xs (a.1 c xs h), fun c o u h => b.2 c o u (a.2 c o u h), fun c q h => b.3 c q (a.3 c q h)⟩
theorem Grow.new {H : Hp} {p : Addr} {o : HO} (hp : H p = none) : Grow H (upd H p o) :=
  ⟨fun a xs h => by rw [upd_ne (ne_of_none h hp)]; exact h, fun a ob u h => by rw [upd_ne (ne_of_none h hp)]; exact h, fun a q h => by rw [upd_ne (ne_of_none h hp)]; exact h⟩
theorem Grow.put {H : Hp} {p : Addr} {o u : HO} (hp : H p = some o) (h1 : ∀ xs, o ≠ .tup xs) (h2 : ∀ b v, o ≠ .frz b v) (h3 : ∀ b q, o ≠ LamX.CodeO b q) : Grow H (upd H p u) :=
  ⟨fun a xs h => by rw [upd_ne (ne_of h hp fun e => h1 xs e.symm)]; exact h, fun a ob v h => by rw [upd_ne (ne_of h hp fun e => h2 ob v e.symm)]; exact h, fun a q h => by rw [upd_ne (ne_of h hp fun e => h3 a q e.symm)]; exact h⟩
theorem no_code {xs : List V} (b : Addr) (q : Str) : HO.lst xs ≠ LamX.CodeO b q := fun z => by
  unfold LamX.CodeO at z
  cases z
theorem FzL.mono {K : PySem.W.Frag} {H H' : Hp} {a : Addr} {xs : List V} (g : Grow H H') (h : FzL K H a xs) : FzL K H' a xs := by
  rcases h with ⟨o, h⟩ | h
  · exact .inl ⟨o, g.2 _ _ _ h⟩
  · exact .inr h
theorem SqT_mono {K : PySem.W.Frag} {H H' : Hp} {a : Addr} {xs : List V} (g : Grow H H') (h : SqT K H a xs) : SqT K H' a xs := by
  rcases h with (h | ⟨o, h⟩) | h
  · exact .inl (.inl (g.1 _ _ h))
  · exact .inl (.inr ⟨o, g.2 _ _ _ h⟩)
  · exact .inr h
mutual
theorem DR.mono {K : PySem.W.Frag} {H H' : Hp} (g : Grow H H') : ∀ (d : D) (v : V), DR K H v d → DR K H' v d
  | .none, _, h => by cases h; exact .non
  | .bool _, _, h => by cases h; exact .bl _
  | .int _, _, h => by cases h; exact .int _
  | .str _, _, h => by cases h; exact .str _
  | .list ds, _, h => by
    cases h with
    | lst h1 h2 => exact .lst (h1.mono g) (DRs.mono g ds _ h2)
  | .tuple ds, _, h => by
    cases h with
    | tup h1 h2 => exact .tup (SqT_mono g h1) (DRs.mono g ds _ h2)
  | .dict _, _, h => nomatch h
theorem DRs.mono {K : PySem.W.Frag} {H H' : Hp} (g : Grow H H') : ∀ (ds : List D) (vs : List V), DRs K H vs ds → DRs K H' vs ds
  | [], _, h => by cases h; exact .nil
  | d :: ds, _, h => by
    cases h with
    | cons h1 h2 => exact .cons (DR.mono g d _ h1) (DRs.mono g ds _ h2)
end
theorem DRs.length {K : PySem.W.Frag} {H : Hp} : ∀ {vs : List V} {ds : List D}, DRs K H vs ds → vs.length = ds.length
  | _, _, .nil => rfl
  | _, _, .cons _ t => by rw [List.length_cons, List.length_cons, DRs.length t]
theorem DRs.append {K : PySem.W.Frag} {H : Hp} : ∀ {vs ws : List V} {ds es : List D}, DRs K H vs ds → DRs K H ws es → DRs K H (vs ++ ws) (ds ++ es)
  | _, _, _, _, .nil, s => s
  | _, _, _, _, .cons h t, s => .cons h (DRs.append t s)
theorem DRs.take {K : PySem.W.Frag} {H : Hp} : ∀ (n : Nat) {vs : List V} {ds : List D}, DRs K H vs ds → DRs K H (vs.take n) (ds.take n)
  | 0, _, _, _ => .nil
  | _ + 1, _, _, .nil => .nil
  | n + 1, _, _, .cons h t => .cons h (DRs.take n t)
theorem DRs.drop {K : PySem.W.Frag} {H : Hp} : ∀ (n : Nat) {vs : List V} {ds : List D}, DRs K H vs ds → DRs K H (vs.drop n) (ds.drop n)
  | 0, _, _, h => h
  | _ + 1, _, _, .nil => .nil
  | n + 1, _, _, .cons _ t => DRs.drop n t
theorem DRs.get {K : PySem.W.Frag} {H : Hp} : ∀ {vs : List V} {ds : List D} {i : Nat} {d : D}, DRs K H vs ds → ds[i]? = some d → ∃ v, vs[i]? = some v ∧ DR K H v d
  | _, _, _, _, .nil, e => by simp at e
  | _, _, 0, _, .cons h _, e => by simp at e; subst e; exact ⟨_, rfl, h⟩
  | _, _, i + 1, _, .cons _ t, e => by
    obtain ⟨v, h1, h2⟩ := DRs.get (i := i) t (by simpa using e)
    exact ⟨v, by simpa using h1, h2⟩
theorem DRs.set {K : PySem.W.Frag} {H : Hp} {v : V} {d : D} (r : DR K H v d) : ∀ {vs : List V} {ds : List D} (i : Nat), DRs K H vs ds → DRs K H (vs.set i v) (ds.set i d)
  | _, _, _, .nil => .nil
  | _, _, 0, .cons _ t => .cons r t
  | _, _, i + 1, .cons q t => .cons q (DRs.set r i t)
theorem DRs.reverse {K : PySem.W.Frag} {H : Hp} : ∀ {vs : List V} {ds : List D}, DRs K H vs ds → DRs K H vs.reverse ds.reverse
  | _, _, .nil => .nil
  | _, _, .cons h t => by
    rw [List.reverse_cons, List.reverse_cons]
    exact (DRs.reverse t).append (.cons h .nil)
mutual
theorem DR.dp {K : PySem.W.Frag} {H : Hp} : ∀ (d : D) (v : V), DR K H v d → Dp K H v d
  | .none, _, h => by cases h; exact .non
  | .bool _, _, h => by cases h; exact .bl _
  | .int _, _, h => by cases h; exact .int _
  | .str _, _, h => by cases h; exact .str _
  | .list ds, _, h => by
    cases h with
    | lst h1 h2 => exact .lst h1.sq (DRs.dp ds _ h2)
  | .tuple ds, _, h => by
    cases h with
    | tup h1 h2 => exact .tup h1 (DRs.dp ds _ h2)
  | .dict _, _, h => nomatch h
theorem DRs.dp {K : PySem.W.Frag} {H : Hp} : ∀ (ds : List D) (vs : List V), DRs K H vs ds → DpAll K H vs ds
  | [], _, h => by cases h; exact .nil
  | d :: ds, _, h => by
    cases h with
    | cons h1 h2 => exact .cons (DR.dp d _ h1) (DRs.dp ds _ h2)
end
mutual
theorem DR.plain {K : PySem.W.Frag} {H : Hp} : ∀ (d : D) (v : V), DR K H v d → d.plain = true
  | .none, _, _ => rfl
  | .bool _, _, _ => rfl
  | .int _, _, _ => rfl
  | .str _, _, _ => rfl
  | .list ds, _, h => by
    cases h with
    | lst h1 h2 => exact DRs.plain ds _ h2
  | .tuple ds, _, h => by
    cases h with
    | tup h1 h2 => exact DRs.plain ds _ h2
  | .dict _, _, h => nomatch h
theorem DRs.plain {K : PySem.W.Frag} {H : Hp} : ∀ (ds : List D) (vs : List V), DRs K H vs ds → PyData.plainAll ds = true
  | [], _, _ => rfl
  | d :: ds, _, h => by
    cases h with
    | cons h1 h2 => rw [PyData.plainAll, DR.plain d _ h1, DRs.plain ds _ h2]; rfl
end
inductive Vw (K : PySem.W.Frag) (H : Hp) : V → D → Prop where
  | dr {v : V} {d : D} : DR K H v d → Vw K H v d
  | lst {a : Addr} {xs : List V} {ds : List D} : SqL K H a xs → DRs K H xs ds → Vw K H (.ref a) (.list ds)
theorem Vw.dp {K : PySem.W.Frag} {H : Hp} {v : V} {d : D} (h : Vw K H v d) : Dp K H v d := by
  cases h with
  | dr h => exact h.dp
  | lst h1 h2 => exact .lst h1 (DRs.dp _ _ h2)
theorem Vw.plain {K : PySem.W.Frag} {H : Hp} {v : V} {d : D} (h : Vw K H v d) : d.plain = true := by
  cases h with
  | dr h => exact h.plain
  | lst h1 h2 => exact DRs.plain _ _ h2
theorem Vw.list {K : PySem.W.Frag} {H : Hp} {v : V} {ds : List D} (h : Vw K H v (.list ds)) : ∃ a xs, v = .ref a ∧ SqL K H a xs ∧ DRs K H xs ds := by
  cases h with
  | dr h => cases h with | lst h1 h2 => exact ⟨_, _, rfl, h1.sq, h2⟩
  | lst h1 h2 => exact ⟨_, _, rfl, h1, h2⟩
theorem Vw.tuple {K : PySem.W.Frag} {H : Hp} {v : V} {ds : List D} (h : Vw K H v (.tuple ds)) : ∃ a xs, v = .ref a ∧ SqT K H a xs ∧ DRs K H xs ds := by
  cases h with
  | dr h => cases h with | tup h1 h2 => exact ⟨_, _, rfl, h1, h2⟩
def WR (K : PySem.W.Frag) (M : List Addr) (H : Hp) (v : V) : W → Prop
  | .d x => DR K H v x
  | .r i => ∃ a, M[i]? = some a ∧ v = .ref a
def RawT (G : Gx) (a : Addr) (xs : List (NestedKey × Addr × Value)) (h : Heap) : Prop :=
  ∃ o es ep, h.get? a = some o ∧ o.ExactDict ∧ o.data = .dict es ep ∧ es.toList = xs.map (entryOfKey (nestedKind G.P G.w))
def dayF (v1 v2 : V) (p : Addr) : List (Str × V) := [("rule", v1), ("now", v2), ("past", .ref p)]
def ObR (G : Gx) (H : Hp) (a : Addr) : SO → Prop
  | .list ds => ∃ vs, H a = some (.lst vs) ∧ DRs G.K H vs ds
  | .dK kvs => ∃ kws, H a = some (.dK kws) ∧ Paired (fun p q => p.1 = q.1 ∧ DR G.K H p.2 q.2) kws kvs
  | .dT kvs => kvs.length ≤ sizeLine ∧ ∃ xs : List (NestedKey × Addr × Value), H a = some (.ext (RawT G a xs)) ∧ (a == sysModules) = false ∧ (xs.map (·.1)).Nodup ∧
      Paired (fun x q => x.1 = nk q.1 ∧ isKey q.1 = true ∧ DR G.K H (.ref x.2.1) q.1 ∧ ∃ v, RelV v x.2.2 ∧ DR G.K H v q.2) xs kvs
  | .dead => ∀ ps, H a ≠ some (.tbl ps)
  | .fT kvs => kvs.length ≤ sizeLine ∧ ∃ (o : Obj) (xs : List (NestedKey × Addr × Value)), H a = some (.frz o (.ext (RawT G a xs))) ∧ (a == sysModules) = false ∧ (xs.map (·.1)).Nodup ∧
      Paired (fun x q => x.1 = nk q.1 ∧ isKey q.1 = true ∧ DR G.K H (.ref x.2.1) q.1 ∧ ∃ v, RelV v x.2.2 ∧ DR G.K H v q.2) xs kvs
  | .fK kvs => ∃ (o : Obj) (kws : List (L2.Key × V)), H a = some (.frz o (.dK kws)) ∧ Paired (fun p q => p.1 = q.1 ∧ DR G.K H p.2 q.2) kws kvs
  | .fz ds => DR G.K H (.ref a) (.list ds)
  | .ins r n => ∃ (C dx p : Addr) (v1 v2 : V), G.mg ("Day" : Str) = some (.ref C) ∧ H a = some (.ins C dx (dayF v1 v2 p)) ∧ DR G.K H v1 r ∧ DR G.K H v2 n
  | .raw C dx fs => H a = some (.ins C dx fs)
  | .hou r => ∃ (C dx : Addr) (v : V), G.mg ("House" : Str) = some (.ref C) ∧ H a = some (.ins C dx [("rule", v)]) ∧ DR G.K H v r
  | .hold o => H a = some o
  | .lstA _ ds => ∃ vs, H a = some (.lst vs) ∧ DRs G.K H vs ds
  | .dR n => ∃ kws, H a = some (.dK kws) ∧ kws.length ≤ n
  | .lstK _ _ ds => ∃ vs, H a = some (.lst vs) ∧ DRs G.K H vs ds
  | .tab f => LamX.TabS H a (f ++ ".<locals>." ++ "<lambda>") ∧ ∃ (fa c : Addr) (oc : Value) (od : Option Addr) (fd : FuncData) (sl : Array (Option Value)), G.mg f = some (.ref fa) ∧ G.K.lookup fa = some ⟨oc, od, .func fd, sl⟩ ∧ fd.code = .ref c ∧ LamX.TabB G.base G.mg c a
def Owns (M : List Addr) (H : Hp) (j i : Nat) : Prop := i < j ∧ ∀ b a, M[j]? = some b → M[i]? = some a → ∃ (C dx : Addr) (v1 v2 : V), H a = some (.ins C dx (dayF v1 v2 b))
def KeepsPast (o u : HO) : Prop := ∀ (C dx : Addr) (v1 v2 : V) (b : Addr), o = .ins C dx (dayF v1 v2 b) → ∃ (C dx : Addr) (v1 v2 : V), u = .ins C dx (dayF v1 v2 b)
def OwK (M : List Addr) (S : Store) (H : Hp) : Prop := ∀ (j i : Nat) (z : Int) (xs : List D), S[j]? = some (.lstK i z xs) → (∃ n, S[i]? = some (.dR n)) ∧ i < j ∧ ∀ b a, M[j]? = some b → M[i]? = some a → ∃ kws, H a = some (.dK kws) ∧ L2.valV kws (.inl z) = some (.ref b)
structure Rel (G : Gx) (M : List Addr) (S : Store) (H : Hp) : Prop where
  len : M.length = S.length
  nd : M.Nodup
  on : ∀ a ∈ M, H a ≠ none
  ob : ∀ (i : Nat) (o : SO) (a : Addr), S[i]? = some o → M[i]? = some a → ObR G H a o
  ow : ∀ (j i : Nat) (xs : List D), S[j]? = some (.lstA i xs) → Owns M H j i
  kw : OwK M S H
structure LR (G : Gx) (M : List Addr) (H : Hp) (σ : L2.St) (ls : Loc) : Prop where
  len : σ.length = ls.length
  at_ : ∀ (j : Nat) (w : W), ls[j]? = some (some w) → ∃ v, σ[j]? = some (some v) ∧ WR G.K M H v w

def Pre (M M' : List Addr) : Prop := ∃ t, M' = M ++ t
theorem Pre.refl (M : List Addr) : Pre M M := ⟨[], by simp⟩
theorem Pre.trans {M M1 M2 : List Addr} (a : Pre M M1) (b : Pre M1 M2) : Pre M M2 := by
  obtain ⟨t, rfl⟩ := a
  obtain ⟨u, rfl⟩ := b
  exact ⟨t ++ u, by rw [List.append_assoc]⟩
theorem Pre.get {M M' : List Addr} (p : Pre M M') {i : Nat} {a : Addr} (h : M[i]? = some a) : M'[i]? = some a := by
  obtain ⟨t, rfl⟩ := p
  rw [List.getElem?_append_left (List.getElem?_eq_some_iff.mp h).1]
  exact h
theorem WR.mono {K : PySem.W.Frag} {M M' : List Addr} {H H' : Hp} (g : Grow H H') (p : Pre M M') {v : V} {w : W} (h : WR K M H v w) : WR K M' H' v w := by
  cases w with
  | d x => exact DR.mono g _ _ h
  | r i =>
    obtain ⟨a, h1, h2⟩ := h
    exact ⟨a, p.get h1, h2⟩
theorem LR.mono {G : Gx} {M M' : List Addr} {H H' : Hp} (g : Grow H H') (p : Pre M M') {σ : L2.St} {ls : Loc} (h : LR G M H σ ls) : LR G M' H' σ ls :=
  ⟨h.len, fun j w e => let ⟨v, e1, r⟩ := h.at_ j w e; ⟨v, e1, r.mono g p⟩⟩
theorem LR.set {G : Gx} {M : List Addr} {H : Hp} {σ : L2.St} {ls : Loc} (h : LR G M H σ ls) {v : V} {w : W} (r : WR G.K M H v w) (j : Nat) : LR G M H (σ.set j (some v)) (ls.set j (some w)) := by
  refine ⟨by rw [List.length_set, List.length_set]; exact h.len, fun k u e => ?_⟩
  by_cases hk : j = k
  · subst hk
    have hj : j < ls.length := by
      have := (List.getElem?_eq_some_iff.mp e).1
      rwa [List.length_set] at this
    rw [List.getElem?_set_self hj] at e
    cases e
    exact ⟨v, List.getElem?_set_self (by rw [h.len]; exact hj), r⟩
  · rw [List.getElem?_set_ne hk] at e ⊢
    exact h.at_ k u e
theorem paired_mapP {α β : Type} {F G : α → β → Prop} {l₁ : List α} {l₂ : List β} (h : Paired F l₁ l₂) (f : ∀ a b, F a b → G a b) : Paired G l₁ l₂ := Paired.mapP h f
theorem ObR.mono {G : Gx} {H H' : Hp} {a : Addr} {o : SO} (g : Grow H H') (e : H' a = H a) (h : ObR G H a o) : ObR G H' a o := by
  cases o with
  | list ds =>
    obtain ⟨vs, h1, h2⟩ := h
    exact ⟨vs, e.trans h1, DRs.mono g _ _ h2⟩
  | dK kvs =>
    obtain ⟨kws, h1, h2⟩ := h
    exact ⟨kws, e.trans h1, paired_mapP h2 fun _ _ z => ⟨z.1, DR.mono g _ _ z.2⟩⟩
  | dT kvs =>
    obtain ⟨h0, xs, h1, h2, h3, h4⟩ := h
    exact ⟨h0, xs, e.trans h1, h2, h3, paired_mapP h4 fun _ _ z => ⟨z.1, z.2.1, DR.mono g _ _ z.2.2.1, let ⟨v, r, d⟩ := z.2.2.2; ⟨v, r, DR.mono g _ _ d⟩⟩⟩
  | dead => exact fun ps z => h ps (e.symm.trans z)
  | fT kvs =>
    obtain ⟨h0, ob, xs, h1, h2, h3, h4⟩ := h
    exact ⟨h0, ob, xs, e.trans h1, h2, h3, paired_mapP h4 fun _ _ z => ⟨z.1, z.2.1, DR.mono g _ _ z.2.2.1, let ⟨v, r, d⟩ := z.2.2.2; ⟨v, r, DR.mono g _ _ d⟩⟩⟩
  | fK kvs =>
    obtain ⟨ob, kws, h1, h2⟩ := h
    exact ⟨ob, kws, e.trans h1, paired_mapP h2 fun _ _ z => ⟨z.1, DR.mono g _ _ z.2⟩⟩
  | fz ds => exact DR.mono g _ _ h
  | ins r n =>
    obtain ⟨C, dx, p, v1, v2, h0, h1, h2, h3⟩ := h
    exact ⟨C, dx, p, v1, v2, h0, e.trans h1, DR.mono g _ _ h2, DR.mono g _ _ h3⟩
  | raw C dx fs => exact e.trans h
  | hou r =>
    obtain ⟨C, dx, v, h0, h1, h2⟩ := h
    exact ⟨C, dx, v, h0, e.trans h1, DR.mono g _ _ h2⟩
  | hold o => exact e.trans h
  | lstA p ds =>
    obtain ⟨vs, h1, h2⟩ := h
    exact ⟨vs, e.trans h1, DRs.mono g _ _ h2⟩
  | dR n => obtain ⟨kws, h1, h2⟩ := h; exact ⟨kws, e.trans h1, h2⟩
  | lstK i z ds =>
    obtain ⟨vs, h1, h2⟩ := h
    exact ⟨vs, e.trans h1, DRs.mono g _ _ h2⟩
  | tab f =>
    obtain ⟨⟨ps, h1, h2, h3⟩, h4⟩ := h
    exact ⟨⟨ps, e.trans h1, h2, fun pos cv q => let ⟨c, e1, e2⟩ := h3 pos cv q; ⟨c, e1, g.3 _ _ e2⟩⟩, h4⟩
theorem Owns.mono {M M' : List Addr} {H H' : Hp} {i j : Nat} (h : Owns M H j i) (hb : ∀ b, M'[j]? = some b → M[j]? = some b) (ha : ∀ a, M'[i]? = some a → M[i]? = some a ∧ H' a = H a) : Owns M' H' j i := by
  refine ⟨h.1, fun b a e1 e2 => ?_⟩
  obtain ⟨z1, z2⟩ := ha a e2
  rw [z2]
  exact h.2 b a (hb b e1) z1
theorem OwK.keep {M : List Addr} {S : Store} {H H' : Hp} (h : OwK M S H) (e : ∀ a ∈ M, ∀ kws, H a = some (.dK kws) → H' a = some (.dK kws)) : OwK M S H' := fun j i z xs q =>
  let ⟨h1, h2, h3⟩ := h j i z xs q
  ⟨h1, h2, fun b a e1 e2 => let ⟨kws, k1, k2⟩ := h3 b a e1 e2; ⟨kws, e a (List.mem_of_getElem? e2) kws k1, k2⟩⟩
theorem OwK.same {M : List Addr} {S : Store} {H H' : Hp} (h : OwK M S H) (e : ∀ a ∈ M, H' a = H a) : OwK M S H' := h.keep fun a ha kws q => (e a ha).trans q
theorem OwK.push {M : List Addr} {S : Store} {H : Hp} {p : Addr} {so : SO} (h : OwK M S H) (len : M.length = S.length)
    (hl : ∀ (i : Nat) (z : Int) (xs : List D), so = .lstK i z xs → (∃ n, S[i]? = some (.dR n)) ∧ ∀ a, M[i]? = some a → ∃ kws, H a = some (.dK kws) ∧ L2.valV kws (.inl z) = some (.ref p) := by intro _ _ _ z; cases z) : OwK (M ++ [p]) (S ++ [so]) H := by
  intro j i z xs q
  by_cases hj : j < S.length
  · rw [List.getElem?_append_left hj] at q
    obtain ⟨h1, h2, h3⟩ := h j i z xs q
    have hi : i < S.length := Nat.lt_trans h2 hj
    refine ⟨h1.imp fun _ h1 => by rw [List.getElem?_append_left hi]; exact h1, h2, fun b a e1 e2 => ?_⟩
    rw [List.getElem?_append_left (by rw [len]; exact hj)] at e1
    rw [List.getElem?_append_left (by rw [len]; exact hi)] at e2
    exact h3 b a e1 e2
  · have hj' : j = S.length := by
      have := (List.getElem?_eq_some_iff.mp q).1
      rw [List.length_append, List.length_singleton] at this
      omega
    subst hj'
    rw [List.getElem?_append_right (Nat.le_refl _)] at q
    simp at q
    obtain ⟨h1, h3⟩ := hl i z xs q
    have hi : i < S.length := let ⟨_, h1⟩ := h1; (List.getElem?_eq_some_iff.mp h1).1
    refine ⟨h1.imp fun _ h1 => by rw [List.getElem?_append_left hi]; exact h1, hi, fun b a e1 e2 => ?_⟩
    rw [List.getElem?_append_right (by rw [len]; exact Nat.le_refl _), len] at e1
    rw [List.getElem?_append_left (by rw [len]; exact hi)] at e2
    simp at e1
    subst e1
    exact h3 a e2
theorem OwK.take {M : List Addr} {S : Store} {H : Hp} (h : OwK M S H) (n : Nat) : OwK (M.take n) (S.take n) H := by
  intro j i z xs q
  have hj : j < n := by
    have := (List.getElem?_eq_some_iff.mp q).1
    rw [List.length_take] at this
    omega
  rw [List.getElem?_take_of_lt hj] at q
  obtain ⟨h1, h2, h3⟩ := h j i z xs q
  have hi : i < n := Nat.lt_trans h2 hj
  refine ⟨h1.imp fun _ h1 => by rw [List.getElem?_take_of_lt hi]; exact h1, h2, fun b a e1 e2 => ?_⟩
  rw [List.getElem?_take_of_lt hj] at e1
  rw [List.getElem?_take_of_lt hi] at e2
  exact h3 b a e1 e2
theorem OwK.put {M : List Addr} {S : Store} {H : Hp} {i : Nat} {a : Addr} {u : HO} {so : SO} (h : OwK M S H) (nd : M.Nodup) (hm : M[i]? = some a)
    (hk : ∀ (k : Nat) (z : Int) (xs : List D), so = .lstK k z xs → ∃ ys, S[i]? = some (.lstK k z ys))
    (hd : (∃ n, S[i]? = some (.dR n)) → (∃ n, so = .dR n) ∧ ∀ (j : Nat) (z : Int) (xs : List D) (b : Addr) (kws : List (L2.Key × V)), S[j]? = some (.lstK i z xs) → M[j]? = some b → H a = some (.dK kws) → L2.valV kws (.inl z) = some (.ref b) → ∃ kws', u = .dK kws' ∧ L2.valV kws' (.inl z) = some (.ref b)) : OwK M (S.set i so) (upd H a u) := by
  have base : ∀ (j k : Nat) (z : Int) (xs : List D), S[j]? = some (.lstK k z xs) → (∃ n, (S.set i so)[k]? = some (.dR n)) ∧ k < j ∧ ∀ b c, M[j]? = some b → M[k]? = some c → ∃ kws, upd H a u c = some (.dK kws) ∧ L2.valV kws (.inl z) = some (.ref b) := by
    intro j k z xs q
    obtain ⟨h1, h2, h3⟩ := h j k z xs q
    refine ⟨?_, h2, fun b c e1 e2 => ?_⟩
    · by_cases e : i = k
      · subst e
        obtain ⟨n, hn⟩ := (hd h1).1
        obtain ⟨_, h1⟩ := h1
        exact ⟨n, by rw [List.getElem?_set_self (List.getElem?_eq_some_iff.mp h1).1, hn]⟩
      · exact h1.imp fun _ h1 => by rw [List.getElem?_set_ne e]; exact h1
    · obtain ⟨kws, k1, k2⟩ := h3 b c e1 e2
      by_cases e : c = a
      · subst e
        have hik : i = k := by
          obtain ⟨l1, q1⟩ := List.getElem?_eq_some_iff.mp hm
          obtain ⟨l2, q2⟩ := List.getElem?_eq_some_iff.mp e2
          exact (List.getElem_inj nd).mp (q1.trans q2.symm)
        subst hik
        obtain ⟨kws', z1, z2⟩ := (hd h1).2 j z xs b kws q e1 k1 k2
        exact ⟨kws', by rw [upd_same, z1], z2⟩
      · exact ⟨kws, by rw [upd_ne e]; exact k1, k2⟩
  intro j k z xs q
  by_cases e : i = j
  · subst e
    have hi : i < S.length := by
      have := (List.getElem?_eq_some_iff.mp q).1
      rwa [List.length_set] at this
    rw [List.getElem?_set_self hi] at q
    obtain ⟨ys, q'⟩ := hk k z xs (Option.some.inj q)
    exact base i k z ys q'
  · rw [List.getElem?_set_ne e] at q
    exact base j k z xs q
theorem Rel.new {G : Gx} {M : List Addr} {S : Store} {H : Hp} {p : Addr} {o : HO} (R : Rel G M S H) (hp : H p = none) : Rel G M S (upd H p o) := by
  have ne : ∀ a ∈ M, a ≠ p := fun a ha e => R.on a ha (by rw [e]; exact hp)
  refine ⟨R.len, R.nd, fun a ha => by rw [upd_ne (ne a ha)]; exact R.on a ha, fun i so a h1 h2 => ?_, fun j i xs e => (R.ow j i xs e).mono (fun b hb => hb) (fun a ha => ⟨ha, upd_ne (ne a (List.mem_of_getElem? ha))⟩), R.kw.same fun a ha => upd_ne (ne a ha)⟩
  exact (R.ob i so a h1 h2).mono (Grow.new hp) (upd_ne (ne a (List.mem_of_getElem? h2)))
theorem Rel.push {G : Gx} {M : List Addr} {S : Store} {H : Hp} {p : Addr} {o : HO} {so : SO} (R : Rel G M S H) (hp : H p = none) (h : ObR G (upd H p o) p so)
    (hl : ∀ (i : Nat) (xs : List D), so = .lstA i xs → Owns (M ++ [p]) (upd H p o) S.length i := by intro _ _ z; cases z)
    (hk : ∀ (i : Nat) (z : Int) (xs : List D), so ≠ .lstK i z xs := by intro _ _ _ z; cases z) : Rel G (M ++ [p]) (S ++ [so]) (upd H p o) := by
  have ne : ∀ a ∈ M, a ≠ p := fun a ha e => R.on a ha (by rw [e]; exact hp)
  have R1 := R.new (o := o) hp
  refine ⟨by rw [List.length_append, List.length_append, R.len]; rfl, ?_, fun a ha => ?_, fun i so' a h1 h2 => ?_, fun j i xs e => ?_, R1.kw.push R.len fun i z xs e => absurd e (hk i z xs)⟩
  · rw [List.nodup_append]
    refine ⟨R.nd, by simp, fun a ha b hb => ?_⟩
    have : b = p := by simpa using hb
    rw [this]
    exact ne a ha
  · rcases List.mem_append.mp ha with ha | ha
    · exact R1.on a ha
    · have : a = p := by simpa using ha
      rw [this, upd_same]
      simp
  · by_cases hi : i < S.length
    · rw [List.getElem?_append_left hi] at h1
      rw [List.getElem?_append_left (by rw [R.len]; exact hi)] at h2
      exact R1.ob i so' a h1 h2
    · have hi' : i = S.length := by
        have := (List.getElem?_eq_some_iff.mp h1).1
        rw [List.length_append, List.length_singleton] at this
        omega
      subst hi'
      rw [List.getElem?_append_right (Nat.le_refl _)] at h1
      rw [List.getElem?_append_right (by rw [R.len]; exact Nat.le_refl _), R.len] at h2
      simp at h1 h2
      subst h1 h2
      exact h
  · by_cases hj : j < S.length
    · rw [List.getElem?_append_left hj] at e
      have w := R1.ow j i xs e
      have hi : i < S.length := Nat.lt_trans w.1 hj
      exact w.mono (fun b hb => by rwa [List.getElem?_append_left (by rw [R.len]; exact hj)] at hb) fun a ha => ⟨by rwa [List.getElem?_append_left (by rw [R.len]; exact hi)] at ha, rfl⟩
    · have hj' : j = S.length := by
        have := (List.getElem?_eq_some_iff.mp e).1
        rw [List.length_append, List.length_singleton] at this
        omega
      subst hj'
      rw [List.getElem?_append_right (Nat.le_refl _)] at e
      simp at e
      exact hl i xs e
theorem Rel.owM {G : Gx} {M : List Addr} {S : Store} {H H' : Hp} (R : Rel G M S H) (e : ∀ a ∈ M, H' a = H a) : ∀ (j i : Nat) (xs : List D), S[j]? = some (.lstA i xs) → Owns M H' j i :=
  fun j i xs z => (R.ow j i xs z).mono (fun b hb => hb) fun a ha => ⟨ha, e a (List.mem_of_getElem? ha)⟩
theorem Rel.owP {G : Gx} {M : List Addr} {S : Store} {H H' : Hp} {p : Addr} {so : SO} (R : Rel G M S H) (e : ∀ a ∈ M, H' a = H a) (hl : ∀ (i : Nat) (xs : List D), so = .lstA i xs → Owns (M ++ [p]) H' S.length i := by intro _ _ z; cases z) :
    ∀ (j i : Nat) (xs : List D), (S ++ [so])[j]? = some (.lstA i xs) → Owns (M ++ [p]) H' j i := by
  intro j i xs z
  by_cases hj : j < S.length
  · rw [List.getElem?_append_left hj] at z
    have w := R.owM e j i xs z
    have hi : i < S.length := Nat.lt_trans w.1 hj
    exact w.mono (fun b hb => by rwa [List.getElem?_append_left (by rw [R.len]; exact hj)] at hb) fun a ha => ⟨by rwa [List.getElem?_append_left (by rw [R.len]; exact hi)] at ha, rfl⟩
  · have hj' : j = S.length := by
      have := (List.getElem?_eq_some_iff.mp z).1
      rw [List.length_append, List.length_singleton] at this
      omega
    subst hj'
    rw [List.getElem?_append_right (Nat.le_refl _)] at z
    simp at z
    exact hl i xs z
theorem Rel.put {G : Gx} {M : List Addr} {S : Store} {H : Hp} {i : Nat} {a : Addr} {o u : HO} {so : SO} (R : Rel G M S H) (hm : M[i]? = some a) (ho : H a = some o) (h1 : ∀ xs, o ≠ .tup xs) (h2 : ∀ b v, o ≠ .frz b v) (h3 : ∀ b q, o ≠ LamX.CodeO b q)
    (h : ObR G (upd H a u) a so) (hk : KeepsPast o u := by intro _ _ _ _ _ z; cases z)
    (hl : ∀ (k : Nat) (xs : List D), so = .lstA k xs → ∃ ys, S[i]? = some (.lstA k ys) := by intro _ _ z; cases z)
    (hd : (∀ kws, o ≠ .dK kws) ∨ ∀ n, S[i]? ≠ some (.dR n) := by exact .inl (fun _ z => nomatch z)) (hk2 : ∀ (k : Nat) (z : Int) (xs : List D), so = .lstK k z xs → ∃ ys, S[i]? = some (.lstK k z ys) := by intro _ _ _ z; cases z) : Rel G M (S.set i so) (upd H a u) := by
  have g : Grow H (upd H a u) := Grow.put ho h1 h2 h3
  have ow : ∀ (j k : Nat) (xs : List D), S[j]? = some (.lstA k xs) → Owns M (upd H a u) j k := fun j k xs e => by
    obtain ⟨z1, z2⟩ := R.ow j k xs e
    refine ⟨z1, fun b c e1 e2 => ?_⟩
    obtain ⟨C, dx, v1, v2, z⟩ := z2 b c e1 e2
    by_cases hc : c = a
    · rw [hc] at z
      rw [ho] at z
      obtain ⟨C', dx', v1', v2', z'⟩ := hk C dx v1 v2 b (Option.some.inj z)
      exact ⟨C', dx', v1', v2', by rw [hc, upd_same, z']⟩
    · exact ⟨C, dx, v1, v2, by rw [upd_ne hc]; exact z⟩
  refine ⟨by rw [List.length_set]; exact R.len, R.nd, fun b hb => ?_, fun j so' b e1 e2 => ?_, fun j k xs e => ?_, R.kw.put R.nd hm hk2 fun q => ?_⟩
  · by_cases e : b = a
    · rw [e, upd_same]; simp
    · rw [upd_ne e]; exact R.on b hb
  · by_cases hj : i = j
    · subst hj
      rw [hm] at e2
      cases e2
      have hl : i < S.length := by rw [← R.len]; exact (List.getElem?_eq_some_iff.mp hm).1
      rw [List.getElem?_set_self hl] at e1
      cases e1
      exact h
    · rw [List.getElem?_set_ne hj] at e1
      have ne : b ≠ a := fun e => by
        subst e
        obtain ⟨l1, q1⟩ := List.getElem?_eq_some_iff.mp hm
        obtain ⟨l2, q2⟩ := List.getElem?_eq_some_iff.mp e2
        exact hj ((List.getElem_inj R.nd).mp (q1.trans q2.symm))
      exact (R.ob j so' b e1 e2).mono g (upd_ne ne)
  · by_cases hj : i = j
    · subst hj
      have hi : i < S.length := by
        have := (List.getElem?_eq_some_iff.mp e).1
        rwa [List.length_set] at this
      rw [List.getElem?_set_self hi] at e
      obtain ⟨ys, e'⟩ := hl k xs (Option.some.inj e)
      exact ow i k ys e'
    · rw [List.getElem?_set_ne hj] at e
      exact ow j k xs e
  · exfalso
    obtain ⟨n, q⟩ := q
    rcases hd with hd | hd
    · obtain ⟨kws, z, _⟩ := R.ob i _ a q hm
      rw [ho] at z
      exact hd kws (Option.some.inj z)
    · exact hd n q
theorem Rel.take {G : Gx} {M : List Addr} {S : Store} {H : Hp} (R : Rel G M S H) (n : Nat) : Rel G (M.take n) (S.take n) H := by
  refine ⟨by rw [List.length_take, List.length_take, R.len], R.nd.sublist (List.take_sublist _ _), fun a ha => R.on a (List.mem_of_mem_take ha), fun i o a h1 h2 => ?_, fun j i xs e => ?_, R.kw.take n⟩
  · have hi : i < n := by
      have := (List.getElem?_eq_some_iff.mp h1).1
      rw [List.length_take] at this
      omega
    rw [List.getElem?_take_of_lt hi] at h1 h2
    exact R.ob i o a h1 h2
  · have hj : j < n := by
      have := (List.getElem?_eq_some_iff.mp e).1
      rw [List.length_take] at this
      omega
    rw [List.getElem?_take_of_lt hj] at e
    have w := R.ow j i xs e
    have hi : i < n := Nat.lt_trans w.1 hj
    exact w.mono (fun b hb => by rwa [List.getElem?_take_of_lt hj] at hb) fun a ha => ⟨by rwa [List.getElem?_take_of_lt hi] at ha, rfl⟩
structure Ext (M : List Addr) (H : Hp) (M' : List Addr) (H' : Hp) : Prop where
  g : Grow H H'
  p : Pre M M'
  fr : ∀ a o, H a = some o → a ∉ M → H' a = some o
  nw : ∀ a ∈ M', a ∉ M → H a = none
theorem Ext.refl (M : List Addr) (H : Hp) : Ext M H M H := ⟨Grow.refl _, Pre.refl _, fun _ _ h _ => h, fun a h1 h2 => absurd h1 h2⟩
theorem Ext.trans {M M1 M2 : List Addr} {H H1 H2 : Hp} (x : Ext M H M1 H1) (y : Ext M1 H1 M2 H2) : Ext M H M2 H2 := by
  have sub : ∀ a ∈ M, a ∈ M1 := fun a h => by
    obtain ⟨t, rfl⟩ := x.p
    exact List.mem_append_left _ h
  refine ⟨x.g.trans y.g, x.p.trans y.p, fun a o h n => y.fr a o (x.fr a o h n) fun m => ?_, fun a m n => ?_⟩
  · have := x.nw a m n
    rw [this] at h
    cases h
  · cases e : H a with
    | none => rfl
    | some o =>
      by_cases m1 : a ∈ M1
      · exact absurd (x.nw a m1 n) (by rw [e]; simp)
      · have := y.nw a m m1
        rw [x.fr a o e n] at this
        cases this
theorem Ext.new {M : List Addr} {H : Hp} {p : Addr} {o : HO} (hp : H p = none) : Ext M H M (upd H p o) :=
  ⟨Grow.new hp, Pre.refl _, fun a u h _ => by rw [upd_ne (ne_of_none h hp)]; exact h, fun a h1 h2 => absurd h1 h2⟩
theorem Ext.push {M : List Addr} {H : Hp} {p : Addr} {o : HO} (hp : H p = none) : Ext M H (M ++ [p]) (upd H p o) :=
  ⟨Grow.new hp, ⟨[p], rfl⟩, fun a u h _ => by rw [upd_ne (ne_of_none h hp)]; exact h, fun a h1 h2 => by
    rcases List.mem_append.mp h1 with h | h
    · exact absurd h h2
    · have : a = p := by simpa using h
      rw [this]; exact hp⟩
theorem Ext.put {M : List Addr} {H : Hp} {i : Nat} {p : Addr} {o u : HO} (hm : M[i]? = some p) (hp : H p = some o) (h1 : ∀ xs, o ≠ .tup xs) (h2 : ∀ b v, o ≠ .frz b v) (h3 : ∀ b q, o ≠ LamX.CodeO b q) : Ext M H M (upd H p u) :=
  ⟨Grow.put hp h1 h2 h3, Pre.refl _, fun a v h n => by
    rw [upd_ne fun e => n (by rw [e]; exact List.mem_of_getElem? hm)]
    exact h, fun a h1 h2 => absurd h1 h2⟩
def OK {α β : Type} (R : List Addr → Hp → β → α → Prop) (G : Gx) (E : Nat → Hp → Prop) (M : List Addr) (H : Hp) (r : Res α) (Q : β → Hp → Prop) : Prop :=
  match r with
  | .ok a S => ∀ M' H' b, Ext M H M' H' → Rel G M' S H' → R M' H' b a → Q b H'
  | .ex c S => ∀ M' H', Ext M H M' H' → Rel G M' S H' → E c H'
  | .stuck => False
section
variable {α β α' β' : Type} {R : List Addr → Hp → β → α → Prop} {R' : List Addr → Hp → β' → α' → Prop} {G : Gx} {E : Nat → Hp → Prop} {M M1 : List Addr} {H H1 : Hp}
theorem OK.at (x : Ext M H M1 H1) {r : Res α} {Q : β → Hp → Prop} (h : OK R G E M H r Q) : OK R G E M1 H1 r Q := by
  cases r with
  | ok a S => exact fun M' H' b y => h M' H' b (x.trans y)
  | ex c S => exact fun M' H' y => h M' H' (x.trans y)
  | stuck => exact h
theorem OK.bind {r : Res α} {f : α → Store → Res α'} {Q : β' → Hp → Prop} {Q1 : β → Hp → Prop} (h : OK R' G E M H (r.bind f) Q)
    (k : ∀ a S1 M1 H1 b, r = .ok a S1 → Grow H H1 → Pre M M1 → Rel G M1 S1 H1 → R M1 H1 b a → OK R' G E M1 H1 (f a S1) Q → Q1 b H1) : OK R G E M H r Q1 := by
  cases r with
  | ok a S => exact fun M' H' b x rel rr => k a S M' H' b rfl x.g x.p rel rr (OK.at (r := f a S) x h)
  | ex c S => exact h
  | stuck => exact h
theorem OK.bindX {r : Res α} {f : α → Store → Res α'} {Q : β' → Hp → Prop} {Q1 : β → Hp → Prop} (h : OK R' G E M H (r.bind f) Q)
    (k : ∀ a S1 M1 H1 b, r = .ok a S1 → Ext M H M1 H1 → Rel G M1 S1 H1 → R M1 H1 b a → OK R' G E M1 H1 (f a S1) Q → Q1 b H1) : OK R G E M H r Q1 := by
  cases r with
  | ok a S => exact fun M' H' b x rel rr => k a S M' H' b rfl x rel rr (OK.at (r := f a S) x h)
  | ex c S => exact h
  | stuck => exact h
theorem OK.imp {r : Res α} {Q Q1 : β → Hp → Prop} (h : OK R G E M H r Q) (k : ∀ b H, Q b H → Q1 b H) : OK R G E M H r Q1 := by
  cases r with
  | ok a S => exact fun M' H' b x rel rr => k _ _ (h M' H' b x rel rr)
  | ex c S => exact h
  | stuck => exact h
theorem OK.testX {r : Res W} {f : Bool → Store → Res α'} {Q : β' → Hp → Prop} {Q1 : V → Hp → Prop} (h : OK R' G E M H (r.test f) Q)
    (k : ∀ c S1 M1 H1, Ext M H M1 H1 → Rel G M1 S1 H1 → OK R' G E M1 H1 (f c S1) Q → Q1 (.bl c) H1) : OK (WR G.K) G E M H r Q1 := by
  unfold Res.test at h
  refine h.bindX fun w S1 M1 H1 v _ x rel wr h' => ?_
  cases w with
  | r i => exact h'.elim
  | d y =>
    cases y with
    | bool b => cases wr; exact k b S1 M1 H1 x rel h'
    | _ => exact h'.elim
theorem OK.test {r : Res W} {f : Bool → Store → Res α'} {Q : β' → Hp → Prop} {Q1 : V → Hp → Prop} (h : OK R' G E M H (r.test f) Q)
    (k : ∀ c S1 M1 H1, Grow H H1 → Pre M M1 → Rel G M1 S1 H1 → OK R' G E M1 H1 (f c S1) Q → Q1 (.bl c) H1) : OK (WR G.K) G E M H r Q1 :=
  h.testX fun c S1 M1 H1 x rel h => k c S1 M1 H1 x.g x.p rel h
theorem OK.noex {r : Res α} {Q : β → Hp → Prop} {E' : Nat → Hp → Prop} (h : OK R G E' M H r.noex Q) : OK R G E M H r Q := by
  cases r with
  | ok a S => exact h
  | ex c S => exact h.elim
  | stuck => exact h
theorem OK.fin {a : α} {S : Store} {Q : β → Hp → Prop} {b : β} (h : OK R G E M H (.ok a S) Q) (rel : Rel G M S H) (r : R M H b a) : Q b H := h M H b (Ext.refl _ _) rel r
theorem OK.fin' {a : α} {S : Store} {Q : β → Hp → Prop} {b : β} {M' : List Addr} {H' : Hp} (h : OK R G E M H (.ok a S) Q) (x : Ext M H M' H') (rel : Rel G M' S H') (r : R M' H' b a) : Q b H' := h M' H' b x rel r
end
def tE {α β : Type} (R : List Addr → Hp → β → α → Prop) (G : Gx) (E : Nat → Hp → Prop) (F : Loc → Store → Res α) : L2.St → Hp → (β → Hp → Prop) → Prop := fun σ H Q =>
  ∃ M ls S, Rel G M S H ∧ LR G M H σ ls ∧ OK R G E M H (F ls S) Q
theorem tE.of {α β : Type} {R : List Addr → Hp → β → α → Prop} {G : Gx} {E : Nat → Hp → Prop} {F : Loc → Store → Res α} {σ : L2.St} {H : Hp} {Q : β → Hp → Prop} {M : List Addr} {ls : Loc} {S : Store}
    (rel : Rel G M S H) (lr : LR G M H σ ls) (h : OK R G E M H (F ls S) Q) : tE R G E F σ H Q := ⟨M, ls, S, rel, lr, h⟩
def BR (M : List Addr) (H : Hp) (c : Bool) (k : Bool) : Prop := c = k
inductive WRs (K : PySem.W.Frag) (M : List Addr) (H : Hp) : List V → List W → Prop where
  | nil : WRs K M H [] []
  | cons {v : V} {vs : List V} {w : W} {ws : List W} : WR K M H v w → WRs K M H vs ws → WRs K M H (v :: vs) (w :: ws)
theorem WRs.mono {K : PySem.W.Frag} {M M' : List Addr} {H H' : Hp} (g : Grow H H') (p : Pre M M') : ∀ {vs : List V} {ws : List W}, WRs K M H vs ws → WRs K M' H' vs ws
  | _, _, .nil => .nil
  | _, _, .cons h t => .cons (h.mono g p) (WRs.mono g p t)
theorem WRs.length {K : PySem.W.Frag} {M : List Addr} {H : Hp} : ∀ {vs : List V} {ws : List W}, WRs K M H vs ws → vs.length = ws.length
  | _, _, .nil => rfl
  | _, _, .cons _ t => by rw [List.length_cons, List.length_cons, WRs.length t]
theorem WRs.data {K : PySem.W.Frag} {M : List Addr} {H : Hp} : ∀ {vs : List V} {ws : List W} {xs : List D}, WRs K M H vs ws → dataOf ws = some xs → DRs K H vs xs
  | _, _, _, .nil, e => by cases e; exact .nil
  | _, _, _, .cons (w := w) (ws := ws) h t, e => by
    cases w with
    | r i => cases e
    | d x =>
      have e' : (dataOf ws).map (x :: ·) = some _ := e
      obtain ⟨ys, e1, e2⟩ := Option.map_eq_some_iff.mp e'
      subst e2
      exact .cons h (WRs.data t e1)
theorem view {G : Gx} {M : List Addr} {H : Hp} {S : Store} {v : V} {w : W} {x : D} (rel : Rel G M S H) (h : WR G.K M H v w) (e : toD S w = some x) : Vw G.K H v x := by
  cases w with
  | d y => cases e; exact .dr h
  | r i =>
    obtain ⟨a, hm, rfl⟩ := h
    unfold toD at e
    cases q : S[i]? with
    | none => simp [q] at e
    | some o =>
      simp only [q] at e
      cases o with
      | list xs =>
        cases e
        obtain ⟨vs, h1, h2⟩ := rel.ob i _ a q hm
        exact .lst (SqL.of h1) h2
      | fz xs =>
        cases e
        exact .dr (rel.ob i _ a q hm)
      | lstA p xs =>
        cases e
        obtain ⟨vs, h1, h2⟩ := rel.ob i _ a q hm
        exact .lst (SqL.of h1) h2
      | lstK k z xs =>
        cases e
        obtain ⟨vs, h1, h2⟩ := rel.ob i _ a q hm
        exact .lst (SqL.of h1) h2
      | _ => cases e
end MI

end S_MiC
section S_MiD
namespace MI
open PySem PySem.Spec PyProof.Rows L2

section
open PySem.SeqAt
open PySem.AutoSeq1 (wpAny_loadPart')
open PySem.MeetsSeq PySem.MeetsSeq2 PySem.MeetsSeq3
theorem list_add_any (l : Addr) (items : Array Value) (n : Nat) (b : Addr) (items2 : Array Value) (n2 : Nat) (dd dd2 : Option Addr) (sl sl2 : Array (Option Value)) (hc0 : items.size + items2.size ≤ sizeLine) :
    Meets (Builtin.«list.__add__» ⟨[.ref l, .ref b], []⟩) (fun _ R s => s.heap.get? l = some { cls := .type "list", dict := dd, data := .seq items n, slots := sl } ∧ s.heap.get? b = some { cls := .type "list", dict := dd2, data := .seq items2 n2, slots := sl2 } ∧
      R (.ok (.ret (Value.ref s.heap.objs.size))) { s with heap := s.heap.push { cls := Value.type "list", data := Data.seq (items ++ items2) }, toks := s.toks }) :=
  .of_wp fun prog w A R s h => by
    obtain ⟨hp, g, d, tk, os⟩ := s
    obtain ⟨hl, hb, h⟩ := h
    have f1 := PySem.AutoSeq1.idx_int
    have f2 := PySem.AutoSeq1.sub_tuple_tuple
    have f3 := PySem.AutoSeq1.sub_list_list
    have f4 := PySem.AutoSeq1.sub_tuple_list
    have f5 := PySem.AutoSeq1.sub_list_tuple
    wp_walk using wpAny_loadPart' hl, wpAny_loadPart' hb
    exact ⟨_, rfl, h⟩
end

section
variable {X : Cx}
theorem PE.mono {e : Expr} {t t' : TE} (h : PE X e t) (k : ∀ σ H Q, t' σ H Q → t σ H Q) : PE X e t' := ⟨fun pins s σ H Q I hw => h.run pins s σ H Q I (k σ H Q hw)⟩
theorem PT.mono {e : Expr} {t t' : TT} (h : PT X e t) (k : ∀ σ H Q, t' σ H Q → t σ H Q) : PT X e t' := ⟨fun pins s σ H Q I hw => h.run pins s σ H Q I (k σ H Q hw)⟩
theorem PW.mono {e : Expr} {t t' : TT} (h : PW X e t) (k : ∀ σ H Q, t' σ H Q → t σ H Q) : PW X e t' := ⟨fun wh pins s σ H Q I hw => h.run wh pins s σ H Q I (k σ H Q hw)⟩
theorem PA.mono {es : List Expr} {t t' : TA} (h : PA X es t) (k : ∀ σ H Q, t' σ H Q → t σ H Q) : PA X es t' := ⟨fun pos pins s σ H Q I hw => h.run pos pins s σ H Q I (k σ H Q hw)⟩
theorem PS.mono {st : Stmt} {t t' : TS} (h : PS X st t) (k : ∀ D σ H, t' D σ H → t D σ H) : PS X st t' := ⟨fun pins s σ H D I hw => h.run pins s σ H D I (k D σ H hw)⟩
theorem PSs.mono {st : List Stmt} {t t' : TS} (h : PSs X st t) (k : ∀ D σ H, t' D σ H → t D σ H) : PSs X st t' := ⟨fun pins s σ H D I hw => h.run pins s σ H D I (k D σ H hw)⟩
theorem PI.mono {tg iter : Expr} {t t' : TI} (h : PI X tg iter t) (k : ∀ σ H R, t' σ H R → t σ H R) : PI X tg iter t' := ⟨fun pins s σ H R I hw => h.run pins s σ H R I (k σ H R hw)⟩
theorem PG.mono {tg : Expr} {t t' : TG} (h : PG X tg t) (k : ∀ v σ H Q, t' v σ H Q → t v σ H Q) : PG X tg t' := ⟨fun pins s σ H v u Q I r hw => h.run pins s σ H v u Q I r (k v σ H Q hw)⟩
def tLk (t : TE) : TE := fun σ H Q => t σ H fun v H1 => ∃ a xs, v = .ref a ∧ H1 a = some (.lst xs) ∧ ∀ o, Q v (upd H1 a (.frz o (.lst xs)))
theorem pe_lk {e : Expr} {t : TE} (h : PE X e t) : PE X e (tLk t) := by
  refine ⟨fun pins s σ H Q I hw => ?_⟩
  refine thn (h.run pins s σ H _ I hw) fun u s1 ⟨v, H1, I1, r, q⟩ => ?_
  obtain ⟨a, xs, rfl, ha, q⟩ := q
  obtain ⟨o, I2⟩ := I1.lock ha trivial
  exact ⟨_, _, I2, r, q o⟩
def tLo (t : TE) : TE := fun σ H Q => t σ H fun v H1 => Q v H1 ∨ ∃ a xs, v = .ref a ∧ H1 a = some (.lst xs) ∧ ∀ o, Q v (upd H1 a (.frz o (.lst xs)))
theorem room60 {A : Around} {d e : D} (hu : A.units + 64 < cLine) (h : d.depth ≤ 60) : A.units + min d.depth e.depth < cLine := by
  have := Nat.min_le_left d.depth e.depth
  omega
theorem op_eqP (hu : X.A.units + 64 < cLine) : OpR X (compareOp .Eq) (fun x y H Q => ∃ d e, Dp X.K H x d ∧ Dp X.K H y e ∧ d.plain = true ∧ e.plain = true ∧ d.depth ≤ 60 ∧ Q (.bl (PyData.eqv d e)) H) := by
  intro pins s σ H x y v u Q I rx ry h
  obtain ⟨d, e, hd, he, pd, pe, hz, q⟩ := h
  obtain ⟨as, r1⟩ := Dp.reads I d x v hd rx
  obtain ⟨bs, r2⟩ := Dp.reads I e y u he ry
  exact SeqAt.eq_plain r1 r2 pd pe (room60 hu hz) ⟨.bl _, H, I, rfl, q⟩
theorem op_neP (hu : X.A.units + 64 < cLine) : OpR X (compareOp .NotEq) (fun x y H Q => ∃ d e, Dp X.K H x d ∧ Dp X.K H y e ∧ d.plain = true ∧ e.plain = true ∧ d.depth ≤ 60 ∧ Q (.bl (!PyData.eqv d e)) H) := by
  intro pins s σ H x y v u Q I rx ry h
  obtain ⟨d, e, hd, he, pd, pe, hz, q⟩ := h
  obtain ⟨as, r1⟩ := Dp.reads I d x v hd rx
  obtain ⟨bs, r2⟩ := Dp.reads I e y u he ry
  exact SeqAt.ne_plain r1 r2 pd pe (room60 hu hz) ⟨.bl _, H, I, rfl, q⟩
theorem op_inP (hu : X.A.units + 64 < cLine) : OpR X (compareOp .In) (fun x y H Q => ∃ d ys, Dp X.K H x d ∧ (Dp X.K H y (.list ys) ∨ Dp X.K H y (.tuple ys)) ∧ d.plain = true ∧ PyData.plainAll ys = true ∧ d.depth ≤ 60 ∧ Q (.bl (memD d ys)) H) := by
  intro pins s σ H x y v u Q I rx ry h
  obtain ⟨d, ys, hd, he, pd, pe, hz, q⟩ := h
  have room : X.A.units + 1 + min (PyData.depthAll ys) d.depth < cLine := by
    have := Nat.min_le_right (PyData.depthAll ys) d.depth
    omega
  obtain ⟨as, r1⟩ := Dp.reads I d x v hd rx
  rcases he with he | he
  · obtain ⟨bs, r2⟩ := Dp.reads I _ y u he ry
    exact SeqAt.in_list_data r2 r1 pe pd room ⟨.bl _, H, I, rfl, q⟩
  · obtain ⟨bs, r2⟩ := Dp.reads I _ y u he ry
    exact SeqAt.in_tuple_data r2 r1 pe pd room ⟨.bl _, H, I, rfl, q⟩
theorem op_notinP (hu : X.A.units + 64 < cLine) : OpR X (compareOp .NotIn) (fun x y H Q => ∃ d ys, Dp X.K H x d ∧ (Dp X.K H y (.list ys) ∨ Dp X.K H y (.tuple ys)) ∧ d.plain = true ∧ PyData.plainAll ys = true ∧ d.depth ≤ 60 ∧ Q (.bl (!memD d ys)) H) := by
  intro pins s σ H x y v u Q I rx ry h
  obtain ⟨d, ys, hd, he, pd, pe, hz, q⟩ := h
  have room : X.A.units + 1 + min (PyData.depthAll ys) d.depth < cLine := by
    have := Nat.min_le_right (PyData.depthAll ys) d.depth
    omega
  obtain ⟨as, r1⟩ := Dp.reads I d x v hd rx
  rcases he with he | he
  · obtain ⟨bs, r2⟩ := Dp.reads I _ y u he ry
    exact SeqAt.notIn_list_data r2 r1 pe pd room ⟨.bl _, H, I, rfl, q⟩
  · obtain ⟨bs, r2⟩ := Dp.reads I _ y u he ry
    exact SeqAt.notIn_tuple_data r2 r1 pe pd room ⟨.bl _, H, I, rfl, q⟩
theorem op_catL : OpR X (binaryOp .Add) (fun x y H Q => ∃ l b xs zs, x = .ref l ∧ y = .ref b ∧ SqL X.K H l xs ∧ SqL X.K H b zs ∧ xs.length + zs.length ≤ sizeLine ∧ ∀ p, H p = none → Q (.ref p) (upd H p (.lst (xs ++ zs)))) := by
  intro pins s σ H x y v u Q I rx ry h
  obtain ⟨l, b, xs, zs, rfl, rfl, hH, hB, hz, q⟩ := h
  cases rx
  cases ry
  obtain ⟨its, r, ⟨⟨c1, d1, dt1, s1⟩, n1, e1, k1, _, t1⟩, _⟩ := I.list hH
  obtain ⟨its2, r2, ⟨⟨c2, d2, dt2, s2⟩, n2, e2, k2, _, t2⟩, _⟩ := I.list hB
  simp only at k1 t1 k2 t2
  subst k1 t1 k2 t2
  have z1 := r.length
  have z2 := r2.length
  refine concat_meets ⟨_, e1, rfl⟩ ⟨_, e2, rfl⟩ noFill_list_add seq_list_add F.slot_list_add F.entry_list_add (F.args_list_add_2 _ _)
    (list_add_any l its.toArray n1 b its2.toArray n2 _ _ _ _ (by rw [List.size_toArray, List.size_toArray]; omega)) ⟨e1, e2, ?_⟩
  have ea : its.toArray ++ its2.toArray = (its ++ its2).toArray := by simp
  rw [ea]
  exact ⟨.ref _, _, I.lnew (t' := s.toks) (r.append r2) (by rw [List.length_append]; omega), rfl, q _ I.fresh⟩
end
end MI

end S_MiD
section S_MiE
namespace MI
open PySem PySem.Spec PyProof.Rows L2

section
variable {K : PySem.W.Frag} {H : Hp} {v : V}
theorem Vw.int {i : Int} (h : Vw K H v (.int i)) : v = .int i := by cases h with | dr h => cases h; rfl
theorem Vw.bool {b : Bool} (h : Vw K H v (.bool b)) : v = .bl b := by cases h with | dr h => cases h; rfl
theorem Vw.str {x : Str} (h : Vw K H v (.str x)) : v = .str x := by cases h with | dr h => cases h; rfl
theorem Vw.none (h : Vw K H v .none) : v = .non := by cases h with | dr h => cases h; rfl
end
def lkQ (Q : VK) : VK := fun v H1 => ∃ a xs, v = .ref a ∧ H1 a = some (.lst xs) ∧ ∀ o, Q v (upd H1 a (.frz o (.lst xs)))
theorem lk_run {X : Cx} {pins : List (Addr × Obj)} {σ : L2.St} {Q : VK} {u : Value} {s : Shared} (h : EP X pins σ (lkQ Q) u s) : EP X pins σ Q u s := by
  obtain ⟨v, H1, I1, r, a, xs, rfl, ha, q⟩ := h
  obtain ⟨o, I2⟩ := I1.lock ha trivial
  exact ⟨_, _, I2, r, q o⟩
theorem OpR.lk {X : Cx} {f : Value → Value → Sem Value} {r : R2} (h : OpR X f r) : OpR X f (fun x y H Q => r x y H (lkQ Q)) := by
  intro pins s σ H x y v u Q I rx ry q
  exact thn (h pins s σ H x y v u _ I rx ry q) fun _ _ z => lk_run z
theorem OpR.mono {X : Cx} {f : Value → Value → Sem Value} {r r' : R2} (h : OpR X f r) (k : ∀ x y H Q, r' x y H Q → r x y H Q) : OpR X f r' := by
  intro pins s σ H x y v u Q I rx ry q
  exact h pins s σ H x y v u Q I rx ry (k x y H Q q)

section
variable {G : Gx} {E : Nat → Hp → Prop} {M : List Addr} {S : Store} {H : Hp}
theorem newFz {ds : List D} {xs : List V} {p : Addr} {o : Obj} (rel : Rel G M S H) (hp : H p = none) (hd : DRs G.K H xs ds) :
    Ext M H M (upd (upd H p (.lst xs)) p (.frz o (.lst xs))) ∧ Rel G M S (upd (upd H p (.lst xs)) p (.frz o (.lst xs))) ∧ DR G.K (upd (upd H p (.lst xs)) p (.frz o (.lst xs))) (.ref p) (.list ds) := by
  rw [upd_upd]
  have g : Grow H (upd H p (.frz o (.lst xs))) := Grow.new hp
  exact ⟨Ext.new hp, rel.new hp, .lst (.inl ⟨o, upd_same⟩) (DRs.mono g _ _ hd)⟩
theorem newTup {ds : List D} {xs : List V} {p : Addr} (rel : Rel G M S H) (hp : H p = none) (hd : DRs G.K H xs ds) :
    Ext M H M (upd H p (.tup xs)) ∧ Rel G M S (upd H p (.tup xs)) ∧ DR G.K (upd H p (.tup xs)) (.ref p) (.tuple ds) := by
  have g : Grow H (upd H p (.tup xs)) := Grow.new hp
  exact ⟨Ext.new hp, rel.new hp, .tup (SqT.of upd_same) (DRs.mono g _ _ hd)⟩
theorem OK.datum {x : D} {v : V} {Q : VK} (h : OK (WR G.K) G E M H (.ok (.d x) S) Q) (rel : Rel G M S H) (r : DR G.K H v x) : Q v H := h.fin (b := v) rel r
theorem fitsT {n : Nat} (h : fits n = true) : n ≤ sizeLine := of_decide_eq_true h
theorem ok_if {α β : Type} {R : List Addr → Hp → β → α → Prop} {c : Bool} {o : Option α} {f : Store} {Q : β → Hp → Prop} (h : OK R G E M H (optR (if c = true then o else none) f) Q) : c = true ∧ OK R G E M H (optR o f) Q := by
  cases c with
  | true => exact ⟨rfl, h⟩
  | false => exact h.elim
def rAddA (K : PySem.W.Frag) : R2 := fun x y H Q =>
  (rI0 (fun i j => .int (i + j)) x y H Q ∨ (∃ i j, x = .str i ∧ y = .str j ∧ i.length + j.length ≤ sizeLine ∧ Q (.str (i ++ j)) H)) ∨ (rCatA K x y H Q ∨
    (∃ l b xs zs, x = .ref l ∧ y = .ref b ∧ SqL K H l xs ∧ SqL K H b zs ∧ xs.length + zs.length ≤ sizeLine ∧ ∀ p, H p = none → lkQ Q (.ref p) (upd H p (.lst (xs ++ zs)))))
theorem op_addA {X : Cx} : OpR X (binaryOp .Add) (rAddA X.K) := (op_add.or op_add_str).or (op_catA.or (MI.OpR.lk op_catL))
theorem bin_some {op : BOp} {x y : W} {Q : VK} {R : List Addr → Hp → V → W → Prop} (h : OK R G E M H (binW op x y S) Q) : ∃ a b, toD S x = some a ∧ toD S y = some b ∧ OK R G E M H (optR ((binD op a b).map .d) S) Q := by
  unfold binW at h
  cases hx : toD S x with
  | none => simp only [hx] at h; exact h.elim
  | some a =>
    cases hy : toD S y with
    | none => simp only [hx, hy] at h; exact h.elim
    | some b =>
      simp only [hx, hy] at h
      exact ⟨a, b, rfl, rfl, h⟩
theorem map_if {c : Bool} {o : D} : ((if c = true then some o else none : Option D).map W.d) = (if c = true then some (W.d o) else none) := by cases c <;> rfl

theorem add_ok {x y : W} {v u : V} {Q : VK} (rel : Rel G M S H) (wx : WR G.K M H v x) (wy : WR G.K M H u y) (h : OK (WR G.K) G E M H (binW .add x y S) Q) : rAddA G.K v u H Q := by
  obtain ⟨a, b, ea, eb, h⟩ := bin_some h
  have va := view rel wx ea
  have vb := view rel wy eb
  cases a with
  | int i =>
    cases b with
    | int j => exact .inl (.inl ⟨i, j, va.int, vb.int, h.datum rel (.int _)⟩)
    | _ => exact h.elim
  | str i =>
    cases b with
    | str j =>
      unfold binD at h
      rw [map_if] at h
      obtain ⟨c, h⟩ := ok_if h
      exact .inl (.inr ⟨i, j, va.str, vb.str, fitsT c, h.datum rel (.str _)⟩)
    | _ => exact h.elim
  | tuple ds =>
    cases b with
    | tuple es =>
      unfold binD at h
      rw [map_if] at h
      obtain ⟨c, h⟩ := ok_if h
      obtain ⟨a1, xs, rfl, h1, d1⟩ := va.tuple
      obtain ⟨a2, ys, rfl, h2, d2⟩ := vb.tuple
      have l1 := d1.length
      have l2 := d2.length
      refine .inr (.inl ⟨a1, a2, xs, ys, rfl, rfl, h1, h2, by rw [l1, l2]; exact fitsT c, fun e => ?_, fun n e => ?_, fun n n2 p hp => ?_⟩)
      · subst e
        cases d1
        exact h.datum rel (.tup h2 d2)
      · subst e
        cases d2
        rw [List.append_nil] at h
        exact h.datum rel (.tup h1 d1)
      · obtain ⟨g, r, d⟩ := newTup rel hp (d1.append d2)
        exact h.fin' g r d
    | _ => exact h.elim
  | list ds =>
    cases b with
    | list es =>
      unfold binD at h
      rw [map_if] at h
      obtain ⟨c, h⟩ := ok_if h
      obtain ⟨a1, xs, rfl, h1, d1⟩ := va.list
      obtain ⟨a2, ys, rfl, h2, d2⟩ := vb.list
      have l1 := d1.length
      have l2 := d2.length
      refine .inr (.inr ⟨a1, a2, xs, ys, rfl, rfl, h1, h2, by rw [l1, l2]; exact fitsT c, fun p hp => ⟨p, _, rfl, upd_same, fun o => ?_⟩⟩)
      obtain ⟨g, r, d⟩ := newFz (o := o) rel hp (d1.append d2)
      exact h.fin' g r d
    | _ => exact h.elim
  | _ => cases b <;> exact h.elim
theorem fdiv_ok {x y : W} {v u : V} {Q : VK} (rel : Rel G M S H) (wx : WR G.K M H v x) (wy : WR G.K M H u y) (h : OK (WR G.K) G E M H (binW .fdiv x y S) Q) : rI CDiv (fun i j => .int (i / j)) v u H Q := by
  obtain ⟨a, b, ea, eb, h⟩ := bin_some h
  have va := view rel wx ea
  have vb := view rel wy eb
  cases a with
  | int i =>
    cases b with
    | int j =>
      unfold binD at h
      rw [map_if] at h
      obtain ⟨c, h⟩ := ok_if h
      simp only [Bool.and_eq_true, decide_eq_true_eq] at c
      exact ⟨i, j, va.int, vb.int, c, h.datum rel (.int _)⟩
    | _ => exact h.elim
  | _ => cases b <;> exact h.elim
theorem mod_ok {x y : W} {v u : V} {Q : VK} (rel : Rel G M S H) (wx : WR G.K M H v x) (wy : WR G.K M H u y) (h : OK (WR G.K) G E M H (binW .mod x y S) Q) : rI (fun _ j => 0 < j) (fun i j => .int (i % j)) v u H Q := by
  obtain ⟨a, b, ea, eb, h⟩ := bin_some h
  have va := view rel wx ea
  have vb := view rel wy eb
  cases a with
  | int i =>
    cases b with
    | int j =>
      unfold binD at h
      rw [map_if] at h
      obtain ⟨c, h⟩ := ok_if h
      exact ⟨i, j, va.int, vb.int, of_decide_eq_true c, h.datum rel (.int _)⟩
    | _ => exact h.elim
  | _ => cases b <;> exact h.elim
theorem pow_ok {x y : W} {v u : V} {Q : VK} (rel : Rel G M S H) (wx : WR G.K M H v x) (wy : WR G.K M H u y) (h : OK (WR G.K) G E M H (binW .pow x y S) Q) : rI CPow (fun i j => .int (i ^ j.toNat)) v u H Q := by
  obtain ⟨a, b, ea, eb, h⟩ := bin_some h
  have va := view rel wx ea
  have vb := view rel wy eb
  cases a with
  | int i =>
    cases b with
    | int j =>
      unfold binD at h
      rw [map_if] at h
      obtain ⟨c, h⟩ := ok_if h
      simp only [Bool.and_eq_true, decide_eq_true_eq] at c
      exact ⟨i, j, va.int, vb.int, ⟨c.1.1, c.1.2, c.2⟩, h.datum rel (.int _)⟩
    | _ => exact h.elim
  | _ => cases b <;> exact h.elim
theorem mul_ok {x y : W} {v u : V} {Q : VK} (rel : Rel G M S H) (wx : WR G.K M H v x) (wy : WR G.K M H u y) (h : OK (WR G.K) G E M H (binW .mul x y S) Q) : rI CMul (fun i j => .int (i * j)) v u H Q := by
  obtain ⟨a, b, ea, eb, h⟩ := bin_some h
  have va := view rel wx ea
  have vb := view rel wy eb
  cases a with
  | int i =>
    cases b with
    | int j =>
      unfold binD at h
      rw [map_if] at h
      obtain ⟨c, h⟩ := ok_if h
      unfold small at c
      simp only [Bool.or_eq_true, Bool.and_eq_true, decide_eq_true_eq] at c
      exact ⟨i, j, va.int, vb.int, c, h.datum rel (.int _)⟩
    | _ => exact h.elim
  | _ => cases b <;> exact h.elim
theorem cmp_two {op : COp} {x y : W} {Q : VK} {R : List Addr → Hp → V → W → Prop} (h : OK R G E M H (cmpW op x y S) Q) :
    ∃ a b, toD S x = some a ∧ toD S y = some b ∧ OK R G E M H (optR ((cmpD op a b).map fun b => .d (.bool b)) S) Q := by
  unfold cmpW at h
  cases hx : toD S x with
  | none => simp only [hx] at h; exact h.elim
  | some a =>
    cases hy : toD S y with
    | none => simp only [hx, hy] at h; exact h.elim
    | some b =>
      simp only [hx, hy] at h
      exact ⟨a, b, rfl, rfl, h⟩
theorem map_ifB {c : Bool} {o : Bool} : ((if c = true then some o else none : Option Bool).map fun b => W.d (.bool b)) = (if c = true then some (W.d (.bool o)) else none) := by cases c <;> rfl
theorem eq_ok {x y : W} {v u : V} {Q : VK} (rel : Rel G M S H) (wx : WR G.K M H v x) (wy : WR G.K M H u y) (h : OK (WR G.K) G E M H (cmpW .eq x y S) Q) :
    ∃ d e, Dp G.K H v d ∧ Dp G.K H u e ∧ d.plain = true ∧ e.plain = true ∧ d.depth ≤ 60 ∧ Q (.bl (PyData.eqv d e)) H := by
  obtain ⟨a, b, ea, eb, h⟩ := cmp_two h
  have va := view rel wx ea
  have vb := view rel wy eb
  unfold cmpD at h
  rw [map_ifB] at h
  obtain ⟨c, h⟩ := ok_if h
  exact ⟨a, b, va.dp, vb.dp, va.plain, vb.plain, of_decide_eq_true c, h.datum rel (.bl _)⟩
theorem ne_ok {x y : W} {v u : V} {Q : VK} (rel : Rel G M S H) (wx : WR G.K M H v x) (wy : WR G.K M H u y) (h : OK (WR G.K) G E M H (cmpW .ne x y S) Q) :
    ∃ d e, Dp G.K H v d ∧ Dp G.K H u e ∧ d.plain = true ∧ e.plain = true ∧ d.depth ≤ 60 ∧ Q (.bl (!PyData.eqv d e)) H := by
  obtain ⟨a, b, ea, eb, h⟩ := cmp_two h
  have va := view rel wx ea
  have vb := view rel wy eb
  unfold cmpD at h
  rw [map_ifB] at h
  obtain ⟨c, h⟩ := ok_if h
  exact ⟨a, b, va.dp, vb.dp, va.plain, vb.plain, of_decide_eq_true c, h.datum rel (.bl _)⟩
theorem lt_ok {x y : W} {v u : V} {Q : VK} (rel : Rel G M S H) (wx : WR G.K M H v x) (wy : WR G.K M H u y) (h : OK (WR G.K) G E M H (cmpW .lt x y S) Q) : rI0 (fun i j => .bl (decide (i < j))) v u H Q := by
  obtain ⟨a, b, ea, eb, h⟩ := cmp_two h
  have va := view rel wx ea
  have vb := view rel wy eb
  cases a with
  | int i =>
    cases b with
    | int j => exact ⟨i, j, va.int, vb.int, h.datum rel (.bl _)⟩
    | _ => exact h.elim
  | _ => cases b <;> exact h.elim
theorem le_ok {x y : W} {v u : V} {Q : VK} (rel : Rel G M S H) (wx : WR G.K M H v x) (wy : WR G.K M H u y) (h : OK (WR G.K) G E M H (cmpW .le x y S) Q) : rI0 (fun i j => .bl (decide (i ≤ j))) v u H Q := by
  obtain ⟨a, b, ea, eb, h⟩ := cmp_two h
  have va := view rel wx ea
  have vb := view rel wy eb
  cases a with
  | int i =>
    cases b with
    | int j => exact ⟨i, j, va.int, vb.int, h.datum rel (.bl _)⟩
    | _ => exact h.elim
  | _ => cases b <;> exact h.elim
theorem gt_ok {x y : W} {v u : V} {Q : VK} (rel : Rel G M S H) (wx : WR G.K M H v x) (wy : WR G.K M H u y) (h : OK (WR G.K) G E M H (cmpW .gt x y S) Q) : rI0 (fun i j => .bl (decide (j < i))) v u H Q := by
  obtain ⟨a, b, ea, eb, h⟩ := cmp_two h
  have va := view rel wx ea
  have vb := view rel wy eb
  cases a with
  | int i =>
    cases b with
    | int j => exact ⟨i, j, va.int, vb.int, h.datum rel (.bl _)⟩
    | _ => exact h.elim
  | _ => cases b <;> exact h.elim
theorem ge_ok {x y : W} {v u : V} {Q : VK} (rel : Rel G M S H) (wx : WR G.K M H v x) (wy : WR G.K M H u y) (h : OK (WR G.K) G E M H (cmpW .ge x y S) Q) : rI0 (fun i j => .bl (decide (j ≤ i))) v u H Q := by
  obtain ⟨a, b, ea, eb, h⟩ := cmp_two h
  have va := view rel wx ea
  have vb := view rel wy eb
  cases a with
  | int i =>
    cases b with
    | int j => exact ⟨i, j, va.int, vb.int, h.datum rel (.bl _)⟩
    | _ => exact h.elim
  | _ => cases b <;> exact h.elim
end
end MI

end S_MiE
section S_MiF
namespace MI
open PySem PySem.Spec PyProof.Rows L2

section
variable {G : Gx} {E : Nat → Hp → Prop} {M : List Addr} {S : Store} {H : Hp}
theorem not_ok {x : W} {v : V} {Q : VK} (rel : Rel G M S H) (wx : WR G.K M H v x) (h : OK (WR G.K) G E M H (notW x S) Q) : ∃ c, v = .bl c ∧ Q (.bl (!c)) H := by
  cases x with
  | r i => exact h.elim
  | d x =>
    cases x with
    | bool b => cases wx; exact ⟨b, rfl, h.datum rel (.bl _)⟩
    | _ => exact h.elim
theorem isin_ok {x y : W} {v u : V} {Q : VK} (rel : Rel G M S H) (wx : WR G.K M H v x) (wy : WR G.K M H u y) (h : OK (WR G.K) G E M H (cmpW .isin x y S) Q) :
    ∃ d ys, Dp G.K H v d ∧ (Dp G.K H u (.list ys) ∨ Dp G.K H u (.tuple ys)) ∧ d.plain = true ∧ PyData.plainAll ys = true ∧ d.depth ≤ 60 ∧ Q (.bl (memD d ys)) H := by
  obtain ⟨a, b, ea, eb, h⟩ := cmp_two h
  have va := view rel wx ea
  have vb := view rel wy eb
  cases b with
  | list ys =>
    have h : OK (WR G.K) G E M H (optR ((if flat a = true then some (memD a ys) else none : Option Bool).map fun b => .d (.bool b)) S) Q := by cases a <;> exact h
    rw [map_ifB] at h
    obtain ⟨c, h⟩ := ok_if h
    exact ⟨a, ys, va.dp, .inl vb.dp, va.plain, vb.plain, of_decide_eq_true c, h.datum rel (.bl _)⟩
  | tuple ys =>
    have h : OK (WR G.K) G E M H (optR ((if flat a = true then some (memD a ys) else none : Option Bool).map fun b => .d (.bool b)) S) Q := by cases a <;> exact h
    rw [map_ifB] at h
    obtain ⟨c, h⟩ := ok_if h
    exact ⟨a, ys, va.dp, .inr vb.dp, va.plain, vb.plain, of_decide_eq_true c, h.datum rel (.bl _)⟩
  | _ => cases a <;> exact h.elim
theorem notin_ok {x y : W} {v u : V} {Q : VK} (rel : Rel G M S H) (wx : WR G.K M H v x) (wy : WR G.K M H u y) (h : OK (WR G.K) G E M H (cmpW .notin x y S) Q) :
    ∃ d ys, Dp G.K H v d ∧ (Dp G.K H u (.list ys) ∨ Dp G.K H u (.tuple ys)) ∧ d.plain = true ∧ PyData.plainAll ys = true ∧ d.depth ≤ 60 ∧ Q (.bl (!memD d ys)) H := by
  obtain ⟨a, b, ea, eb, h⟩ := cmp_two h
  have va := view rel wx ea
  have vb := view rel wy eb
  cases b with
  | list ys =>
    have h : OK (WR G.K) G E M H (optR ((if flat a = true then some (!memD a ys) else none : Option Bool).map fun b => .d (.bool b)) S) Q := by cases a <;> exact h
    rw [map_ifB] at h
    obtain ⟨c, h⟩ := ok_if h
    exact ⟨a, ys, va.dp, .inl vb.dp, va.plain, vb.plain, of_decide_eq_true c, h.datum rel (.bl _)⟩
  | tuple ys =>
    have h : OK (WR G.K) G E M H (optR ((if flat a = true then some (!memD a ys) else none : Option Bool).map fun b => .d (.bool b)) S) Q := by cases a <;> exact h
    rw [map_ifB] at h
    obtain ⟨c, h⟩ := ok_if h
    exact ⟨a, ys, va.dp, .inr vb.dp, va.plain, vb.plain, of_decide_eq_true c, h.datum rel (.bl _)⟩
  | _ => cases a <;> exact h.elim
theorem Vw.isNone {K : PySem.W.Frag} {v : V} {a : D} (h : Vw K H v a) : decide (v = .non) = isNoneD a := by
  cases h with
  | dr h => cases h <;> rfl
  | lst _ _ => rfl
theorem is_ok {x y : W} {v u : V} {Q : VK} (rel : Rel G M S H) (wx : WR G.K M H v x) (wy : WR G.K M H u y) (h : OK (WR G.K) G E M H (cmpW .is x y S) Q) : (u = .non ∧ Q (.bl (decide (v = .non))) H) ∨ ∃ a b, v = .bl a ∧ u = .bl b ∧ Q (.bl (decide (a = b))) H := by
  obtain ⟨a, b, ea, eb, h⟩ := cmp_two h
  have va := view rel wx ea
  have vb := view rel wy eb
  cases b with
  | none =>
    refine .inl ⟨vb.none, ?_⟩
    rw [va.isNone]
    have h : OK (WR G.K) G E M H (.ok (.d (.bool (isNoneD a))) S) Q := by cases a <;> exact h
    exact h.datum rel (.bl _)
  | bool b => cases a with
    | bool a =>
      have h : OK (WR G.K) G E M H (.ok (.d (.bool (decide (a = b)))) S) Q := h
      exact .inr ⟨a, b, va.bool, vb.bool, h.datum rel (.bl _)⟩
    | _ => exact h.elim
  | _ => cases a <;> exact h.elim
theorem isnot_ok {x y : W} {v u : V} {Q : VK} (rel : Rel G M S H) (wx : WR G.K M H v x) (wy : WR G.K M H u y) (h : OK (WR G.K) G E M H (cmpW .isnot x y S) Q) : (u = .non ∧ Q (.bl (!decide (v = .non))) H) ∨ ∃ a b, v = .bl a ∧ u = .bl b ∧ Q (.bl (!decide (a = b))) H := by
  obtain ⟨a, b, ea, eb, h⟩ := cmp_two h
  have va := view rel wx ea
  have vb := view rel wy eb
  cases b with
  | none =>
    refine .inl ⟨vb.none, ?_⟩
    rw [va.isNone]
    have h : OK (WR G.K) G E M H (.ok (.d (.bool (!isNoneD a))) S) Q := by cases a <;> exact h
    exact h.datum rel (.bl _)
  | bool b => cases a with
    | bool a =>
      have h : OK (WR G.K) G E M H (.ok (.d (.bool (!decide (a = b)))) S) Q := h
      exact .inr ⟨a, b, va.bool, vb.bool, h.datum rel (.bl _)⟩
    | _ => exact h.elim
  | _ => cases a <;> exact h.elim
theorem op_isNB {X : Cx} : OpR X (compareOp .Is) (fun x y H Q => (y = .non ∧ Q (.bl (decide (x = .non))) H) ∨ ∃ a b, x = .bl a ∧ y = .bl b ∧ Q (.bl (decide (a = b))) H) := by
  intro pins s σ H x y v u Q I rx ry h
  rcases h with h | h
  · exact op_isN pins s σ H x y v u Q I rx ry h
  · exact op_is_bl pins s σ H x y v u Q I rx ry h
theorem op_notNB {X : Cx} : OpR X (compareOp .IsNot) (fun x y H Q => (y = .non ∧ Q (.bl (!decide (x = .non))) H) ∨ ∃ a b, x = .bl a ∧ y = .bl b ∧ Q (.bl (!decide (a = b))) H) := by
  intro pins s σ H x y v u Q I rx ry h
  rcases h with h | h
  · exact op_notN pins s σ H x y v u Q I rx ry h
  · exact op_isnot_bl pins s σ H x y v u Q I rx ry h
def rCmp (K : PySem.W.Frag) : COp → R2
  | .eq => fun x y H Q => ∃ d e, Dp K H x d ∧ Dp K H y e ∧ d.plain = true ∧ e.plain = true ∧ d.depth ≤ 60 ∧ Q (.bl (PyData.eqv d e)) H
  | .ne => fun x y H Q => ∃ d e, Dp K H x d ∧ Dp K H y e ∧ d.plain = true ∧ e.plain = true ∧ d.depth ≤ 60 ∧ Q (.bl (!PyData.eqv d e)) H
  | .lt => rI0 (fun i j => .bl (decide (i < j)))
  | .le => rI0 (fun i j => .bl (decide (i ≤ j)))
  | .gt => rI0 (fun i j => .bl (decide (j < i)))
  | .ge => rI0 (fun i j => .bl (decide (j ≤ i)))
  | .isin => fun x y H Q => ∃ d ys, Dp K H x d ∧ (Dp K H y (.list ys) ∨ Dp K H y (.tuple ys)) ∧ d.plain = true ∧ PyData.plainAll ys = true ∧ d.depth ≤ 60 ∧ Q (.bl (memD d ys)) H
  | .notin => fun x y H Q => ∃ d ys, Dp K H x d ∧ (Dp K H y (.list ys) ∨ Dp K H y (.tuple ys)) ∧ d.plain = true ∧ PyData.plainAll ys = true ∧ d.depth ≤ 60 ∧ Q (.bl (!memD d ys)) H
  | .is => fun x y H Q => (y = .non ∧ Q (.bl (decide (x = .non))) H) ∨ ∃ a b, x = .bl a ∧ y = .bl b ∧ Q (.bl (decide (a = b))) H
  | .isnot => fun x y H Q => (y = .non ∧ Q (.bl (!decide (x = .non))) H) ∨ ∃ a b, x = .bl a ∧ y = .bl b ∧ Q (.bl (!decide (a = b))) H
def cop : COp → CmpOp
  | .eq => .Eq | .ne => .NotEq | .lt => .Lt | .le => .LtE | .gt => .Gt | .ge => .GtE | .isin => .In | .notin => .NotIn | .is => .Is | .isnot => .IsNot
theorem op_cmp {X : Cx} (hu : X.A.units + 64 < cLine) : ∀ op : COp, OpR X (compareOp (cop op)) (rCmp X.K op)
  | .eq => op_eqP hu | .ne => op_neP hu | .lt => op_lt | .le => op_le | .gt => op_gt | .ge => op_ge | .isin => op_inP hu | .notin => op_notinP hu | .is => op_isNB | .isnot => op_notNB
theorem cmp_ok {x y : W} {v u : V} {Q : VK} (rel : Rel G M S H) (wx : WR G.K M H v x) (wy : WR G.K M H u y) : ∀ op : COp, OK (WR G.K) G E M H (cmpW op x y S) Q → rCmp G.K op v u H Q
  | .eq, h => eq_ok rel wx wy h | .ne, h => ne_ok rel wx wy h | .lt, h => lt_ok rel wx wy h | .le, h => le_ok rel wx wy h | .gt, h => gt_ok rel wx wy h | .ge, h => ge_ok rel wx wy h
  | .isin, h => isin_ok rel wx wy h | .notin, h => notin_ok rel wx wy h | .is, h => is_ok rel wx wy h | .isnot, h => isnot_ok rel wx wy h
def mulI (x y : W) (S : Store) : Res W := match x, y with
  | .d (.int i), .d (.int j) => binW .mul (.d (.int i)) (.d (.int j)) S
  | _, _ => .stuck
end

section
variable {X : Cx} {E : Nat → Hp → Prop} {a b c : Expr} {pos : Pos} {F F1 F2 F3 : Loc → Store → Res W}
abbrev Pe (X : Cx) (E : Nat → Hp → Prop) (F : Loc → Store → Res W) (e : Expr) : Prop := PE X e (tE (WR X.K) X.gx E F)
abbrev Pt (X : Cx) (E : Nat → Hp → Prop) (F : Loc → Store → Res W) (e : Expr) : Prop := PT X e (tB (tE (WR X.K) X.gx E F))
abbrev Pw (X : Cx) (E : Nat → Hp → Prop) (F : Loc → Store → Res W) (e : Expr) : Prop := PW X e (tB (tE (WR X.K) X.gx E F))
abbrev Pa (X : Cx) (E : Nat → Hp → Prop) (F : Loc → Store → Res (List W)) (es : List Expr) : Prop := PA X es (tE (WRs X.K) X.gx E F)

theorem x_var {i : Nat} {x : Str} (hN : X.N[i]? = some x) (hv : Vis X.env.scope x) (hd : (x == ("__debug__" : Str)) = false) (hcd : (x == ("__classdict__" : Str)) = false) :
    Pe X E (fun ls S => match ls[i]? with | some (some w) => .ok w S | _ => .stuck) (.Name x pos) := by
  refine PE.mono (pe_var hN hv hd hcd) fun σ H Q ⟨M, ls, S, rel, lr, h⟩ => ?_
  cases q : ls[i]? with
  | none => simp only [q] at h; exact h.elim
  | some o =>
    cases o with
    | none => simp only [q] at h; exact h.elim
    | some w =>
      simp only [q] at h
      obtain ⟨v, e, r⟩ := lr.at_ i w q
      exact ⟨v, e, h.fin (b := v) rel r⟩
theorem x_int {i : Int} {j : Nat} : Pe X E (fun _ S => .ok (.d (.int i)) S) (.Constant (.int i) j pos) := PE.mono pe_int fun σ H Q ⟨M, ls, S, rel, lr, h⟩ => OK.datum (E := E) h rel (.int _)
theorem x_bool {i : Bool} {j : Nat} : Pe X E (fun _ S => .ok (.d (.bool i)) S) (.Constant (.bool i) j pos) := PE.mono pe_bl fun σ H Q ⟨M, ls, S, rel, lr, h⟩ => OK.datum (E := E) h rel (.bl _)
theorem x_none {j : Nat} : Pe X E (fun _ S => .ok (.d .none) S) (.Constant .none j pos) := PE.mono pe_non fun σ H Q ⟨M, ls, S, rel, lr, h⟩ => OK.datum (E := E) h rel .non
theorem x_str {x : Str} {j : Nat} : Pe X E (fun _ S => .ok (.d (.str x)) S) (.Constant (.str x) j pos) := PE.mono pe_str fun σ H Q ⟨M, ls, S, rel, lr, h⟩ => OK.datum (E := E) h rel (.str _)
theorem x_glob {x : Str} {v : V} {u : Value} {d : D} (hg : Gl X x) (hm : X.mg x = some u) (r : RelV v u) (hd : (x == ("__debug__" : Str)) = false) (dr : ∀ H, DR X.K H v d) : Pe X E (fun _ S => .ok (.d d) S) (.Name x pos) :=
  PE.mono (pe_glob hg hm r hd) fun σ H Q ⟨M, ls, S, rel, lr, h⟩ => OK.datum (E := E) h rel (dr H)
theorem sub2 {f : W → W → Store → Res W} {r : R2} {σ : L2.St} {H : Hp} {Q : VK}
    (hf : ∀ M S H x y v u Q, Rel X.gx M S H → WR X.K M H v x → WR X.K M H u y → OK (WR X.K) X.gx E M H (f x y S) Q → r v u H Q)
    (h : tE (WR X.K) X.gx E (fun ls S => (F1 ls S).bind fun x S1 => (F2 ls S1).bind fun y S2 => f x y S2) σ H Q) : tOp r (tE (WR X.K) X.gx E F1) (tE (WR X.K) X.gx E F2) σ H Q := by
  obtain ⟨M, ls, S, rel, lr, h⟩ := h
  refine ⟨M, ls, S, rel, lr, h.bind fun x S1 M1 H1 v _ g p rel1 wx h1 => ?_⟩
  refine ⟨M1, ls, S1, rel1, lr.mono g p, h1.bind fun y S2 M2 H2 u _ g2 p2 rel2 wy h2 => ?_⟩
  exact hf M2 S2 H2 x y v u Q rel2 (wx.mono g2 p2) wy h2
theorem sub1 {β α : Type} {R : List Addr → Hp → β → α → Prop} {Fa : Loc → Store → Res α} {f : α → Store → Res W} {r : β → Hp → VK → Prop} {σ : L2.St} {H : Hp} {Q : VK}
    (hf : ∀ M S H x v Q, Rel X.gx M S H → R M H v x → OK (WR X.K) X.gx E M H (f x S) Q → r v H Q)
    (h : tE (WR X.K) X.gx E (fun ls S => (Fa ls S).bind f) σ H Q) : tE R X.gx E Fa σ H fun x H1 => r x H1 Q := by
  obtain ⟨M, ls, S, rel, lr, h⟩ := h
  exact ⟨M, ls, S, rel, lr, h.bind fun x S1 M1 H1 v _ g p rel1 wx h1 => hf M1 S1 H1 x v Q rel1 wx h1⟩
theorem x_bin {op : BOp} {o : Operator} {r : R2} (ho : OpR X (binaryOp o) r) (hf : ∀ M S H x y v u Q, Rel X.gx M S H → WR X.K M H v x → WR X.K M H u y → OK (WR X.K) X.gx E M H (binW op x y S) Q → r v u H Q)
    (h1 : Pe X E F1 a) (h2 : Pe X E F2 b) : Pe X E (fun ls S => (F1 ls S).bind fun x S1 => (F2 ls S1).bind fun y S2 => binW op x y S2) (.BinOp a o b pos) :=
  PE.mono (pe_op ho h1 h2) fun _ _ _ h => sub2 hf h
theorem x_not (h1 : Pe X E F a) : Pe X E (fun ls S => (F ls S).bind notW) (.UnaryOp .Not a pos) :=
  PE.mono (pe_not h1) fun _ _ _ h => sub1 (X := X) (R := WR X.K) (Fa := F) (f := notW) (r := fun (x : V) (H : Hp) (Q : VK) => ∃ c, x = V.bl c ∧ Q (V.bl (!c)) H) (fun M S H x v Q rel wx h => not_ok rel wx h) h
theorem t_not (h1 : Pt X E F a) : Pt X E (fun ls S => (F ls S).bind notW) (.UnaryOp .Not a pos) := by
  refine PT.mono (pt_not h1) fun σ H Q ⟨M, ls, S, rel, lr, h⟩ => ?_
  refine ⟨M, ls, S, rel, lr, h.bind fun x S1 M1 H1 v _ g p rel1 wx h1 => ?_⟩
  obtain ⟨c, rfl, k, e, q⟩ := not_ok rel1 wx h1
  cases e
  exact ⟨c, rfl, q⟩
theorem x_and (h1 : Pe X E F1 a) {r : List Expr} (h2 : Pe X E F2 (.BoolOp .And (b :: r) pos)) :
    Pe X E (fun ls S => (F1 ls S).test fun c S1 => if c then F2 ls S1 else .ok (.d (.bool false)) S1) (.BoolOp .And (a :: b :: r) pos) := by
  refine PE.mono (pe_and h1 h2) fun σ H Q ⟨M, ls, S, rel, lr, h⟩ => ?_
  refine ⟨M, ls, S, rel, lr, h.test fun c S1 M1 H1 g p rel1 h1 => ⟨c, rfl, ?_⟩⟩
  cases c with
  | true => exact ⟨M1, ls, S1, rel1, lr.mono g p, h1⟩
  | false => exact OK.datum (E := E) h1 rel1 (.bl _)
theorem x_one {op : BoolOp} (h1 : Pe X E F a) : Pe X E F (.BoolOp op [a] pos) := pe_one h1
theorem w_or1 (h1 : Pt X E F a) : Pw X E F (.BoolOp .Or [a] pos) := pw_or1 h1
theorem w_or (h1 : Pt X E F1 a) {r : List Expr} (h2 : Pw X E F2 (.BoolOp .Or (b :: r) pos)) :
    Pw X E (fun ls S => (F1 ls S).test fun c S1 => if c then .ok (.d (.bool true)) S1 else F2 ls S1) (.BoolOp .Or (a :: b :: r) pos) := by
  refine PW.mono (pw_or h1 h2) fun σ H Q ⟨M, ls, S, rel, lr, h⟩ => ?_
  refine ⟨M, ls, S, rel, lr, h.test fun c S1 M1 H1 g p rel1 h1 => ⟨c, rfl, ?_⟩⟩
  cases c with
  | false => exact ⟨M1, ls, S1, rel1, lr.mono g p, h1⟩
  | true =>
    obtain ⟨k, e, q⟩ := OK.datum (E := E) h1 rel1 (.bl _)
    cases e
    exact q
theorem x_cmp (hu : X.A.units + 64 < cLine) {op : COp} (hm : behindInMarks (cop op) b = false) (h1 : Pe X E F1 a) (h2 : Pe X E F2 b) :
    Pe X E (fun ls S => (F1 ls S).bind fun x S1 => (F2 ls S1).bind fun y S2 => cmpW op x y S2) (.Compare a [cop op] [b] pos) :=
  PE.mono (pe_cmpR (op_cmp hu op) h1 h2 hm) fun _ _ _ h => sub2 (fun M S H x y v u Q rel wx wy h => cmp_ok rel wx wy op h) h
theorem t_cmp (hu : X.A.units + 64 < cLine) {op : COp} (hm : behindInMarks (cop op) b = false) (h1 : Pe X E F1 a) (h2 : Pe X E F2 b) :
    Pt X E (fun ls S => (F1 ls S).bind fun x S1 => (F2 ls S1).bind fun y S2 => cmpW op x y S2) (.Compare a [cop op] [b] pos) :=
  PT.mono (pt_cmpR (op_cmp hu op) h1 h2 hm) fun _ _ _ h => sub2 (fun M S H x y v u Q rel wx wy h => cmp_ok rel wx wy op h) h
theorem chain_sub {o p : COp} {σ : L2.St} {H : Hp} {Q : VK}
    (h : tE (WR X.K) X.gx E (fun ls S => (F1 ls S).bind fun x S1 => (F2 ls S1).bind fun y S2 => (cmpW o x y S2).test fun k S3 =>
      if k then (F3 ls S3).bind fun z S4 => cmpW p y z S4 else .ok (.d (.bool false)) S3) σ H Q) :
    tChain (rCmp X.K o) (rCmp X.K p) (tE (WR X.K) X.gx E F1) (tE (WR X.K) X.gx E F2) (tE (WR X.K) X.gx E F3) σ H Q := by
  obtain ⟨M, ls, S, rel, lr, h⟩ := h
  refine ⟨M, ls, S, rel, lr, h.bind fun x S1 M1 H1 v _ g p1 rel1 wx h1 => ?_⟩
  refine ⟨M1, ls, S1, rel1, lr.mono g p1, h1.bind fun y S2 M2 H2 u _ g2 p2 rel2 wy h2 => ?_⟩
  refine cmp_ok rel2 (wx.mono g2 p2) wy o (h2.test (R' := WR X.K) fun k S3 M3 H3 g3 p3 rel3 h3 => ⟨k, rfl, ?_⟩)
  cases k with
  | false => exact OK.datum (E := E) h3 rel3 (.bl _)
  | true =>
    refine ⟨M3, ls, S3, rel3, ((lr.mono g p1).mono g2 p2).mono g3 p3, OK.bind (R' := WR X.K) h3 fun z S4 M4 H4 t _ g4 p4 rel4 wz h4 => ?_⟩
    exact cmp_ok rel4 ((wy.mono g3 p3).mono g4 p4) wz p h4
theorem x_chain (hu : X.A.units + 64 < cLine) {o p : COp} (hm : lastMarks [cop o, cop p] [b, c] = false) (h1 : Pe X E F1 a) (h2 : Pe X E F2 b) (h3 : Pe X E F3 c) :
    Pe X E (fun ls S => (F1 ls S).bind fun x S1 => (F2 ls S1).bind fun y S2 => (cmpW o x y S2).test fun k S3 =>
      if k then (F3 ls S3).bind fun z S4 => cmpW p y z S4 else .ok (.d (.bool false)) S3) (.Compare a [cop o, cop p] [b, c] pos) :=
  PE.mono (pe_chain (op_cmp hu o) (op_cmp hu p) h1 h2 h3 hm) fun _ _ _ h => chain_sub h
theorem if_sub {σ : L2.St} {H : Hp} {Q : VK} (h : tE (WR X.K) X.gx E (fun ls S => (F1 ls S).test fun k S1 => if k then F2 ls S1 else F3 ls S1) σ H Q) :
    tB (tE (WR X.K) X.gx E F1) σ H (fun c H1 => if c = true then tE (WR X.K) X.gx E F2 σ H1 Q else tE (WR X.K) X.gx E F3 σ H1 Q) := by
  obtain ⟨M, ls, S, rel, lr, h⟩ := h
  refine ⟨M, ls, S, rel, lr, h.test fun c S1 M1 H1 g p rel1 h1 => ⟨c, rfl, ?_⟩⟩
  cases c with
  | true => exact ⟨M1, ls, S1, rel1, lr.mono g p, h1⟩
  | false => exact ⟨M1, ls, S1, rel1, lr.mono g p, h1⟩
theorem x_ife (h1 : Pt X E F1 a) (h2 : Pe X E F2 b) (h3 : Pe X E F3 c) : Pe X E (fun ls S => (F1 ls S).test fun k S1 => if k then F2 ls S1 else F3 ls S1) (.IfExp a b c pos) :=
  PE.mono (pe_ifExp h1 h2 h3) fun _ _ _ h => if_sub h
theorem t_val (h : Pe X E F a) (he : ∀ whole, isTrue a X.env whole = (do let v ← whole; standAt a.pos; holding [v] (truthy v))) : Pt X E F a := pt_val h he
variable {FL : Loc → Store → Res (List W)} {es : List Expr}
theorem a_nilD : Pa X E (fun _ S => .ok [] S) [] := PA.mono pa_nil fun σ H Q ⟨M, ls, S, rel, lr, h⟩ => OK.fin (R := WRs X.K) (b := []) h rel .nil
theorem a_cons (h1 : Pe X E F a) (h2 : Pa X E FL es) (hs : starEach (a :: es) X.env = (false, eval a X.env) :: starEach es X.env) :
    Pa X E (fun ls S => (F ls S).bind fun w S1 => (FL ls S1).bind fun ws S2 => .ok (w :: ws) S2) (a :: es) := by
  refine PA.mono (pa_cons h1 h2 hs) fun σ H Q ⟨M, ls, S, rel, lr, h⟩ => ?_
  refine ⟨M, ls, S, rel, lr, h.bind fun x S1 M1 H1 v _ g p rel1 wx h1 => ?_⟩
  refine ⟨M1, ls, S1, rel1, lr.mono g p, h1.bind fun y S2 M2 H2 u _ g2 p2 rel2 wy h2 => ?_⟩
  exact OK.fin (R := WRs X.K) (b := v :: u) h2 rel2 (.cons (wx.mono g2 p2) wy)
theorem x_tup {k : Nat} (h : Pa X E FL es) : Pe X E (fun ls S => (FL ls S).bind tupW) (.Tuple es k pos) := by
  refine PE.mono (pe_tup h) fun σ H Q h => sub1 (R := WRs X.K) (r := fun xs H1 Q => xs.length ≤ sizeLine ∧ ∀ p, H1 p = none → Q (.ref p) (upd H1 p (.tup xs))) (fun M S H ws vs Q rel wr h => ?_) h
  unfold tupW at h
  cases e : dataOf ws with
  | none => simp only [e] at h; exact h.elim
  | some xs =>
    simp only [e] at h
    have d := wr.data e
    by_cases c : fits xs.length = true
    · rw [if_pos c] at h
      refine ⟨by rw [d.length]; exact fitsT c, fun p hp => ?_⟩
      obtain ⟨g, r, dd⟩ := newTup rel hp d
      exact h.fin' (b := V.ref p) g r dd
    · rw [if_neg c] at h; exact h.elim
theorem newL_fz {G : Gx} {M : List Addr} {S : Store} {H : Hp} {xs : List D} {vs : List V} {p : Addr} {Q : VK} (rel : Rel G M S H) (hp : H p = none) (d : DRs G.K H vs xs) (h : OK (WR G.K) G E M H (newL false xs S) Q) : lkQ Q (.ref p) (upd H p (.lst vs)) := by
  refine ⟨p, vs, rfl, upd_same, fun o => ?_⟩
  obtain ⟨g, r, dd⟩ := newFz (o := o) rel hp d
  have h : OK (WR G.K) G E M H (.ok (.d (.list xs)) S) Q := h
  exact h.fin' (b := V.ref p) g r dd
theorem newL_th {G : Gx} {M : List Addr} {S : Store} {H : Hp} {xs : List D} {vs : List V} {p : Addr} {Q : VK} (rel : Rel G M S H) (hp : H p = none) (d : DRs G.K H vs xs) (h : OK (WR G.K) G E M H (newL true xs S) Q) : Q (.ref p) (upd H p (.lst vs)) := by
  have g : Grow H (upd H p (.lst vs)) := Grow.new hp
  have h : OK (WR G.K) G E M H (.ok (.r S.length) (S ++ [.list xs])) Q := h
  refine h.fin' (b := V.ref p) (M' := M ++ [p]) (Ext.push hp) (rel.push hp ⟨vs, upd_same, DRs.mono g _ _ d⟩) ⟨p, ?_, rfl⟩
  rw [List.getElem?_append_right (by rw [rel.len]; exact Nat.le_refl _), rel.len, Nat.sub_self]
  rfl
theorem lst_some {m : Bool} {ws : List W} {M : List Addr} {S : Store} {H : Hp} {Q : VK} {vs : List V} {G : Gx} (wr : WRs G.K M H vs ws) (h : OK (WR G.K) G E M H (lstW m ws S) Q) : ∃ xs, DRs G.K H vs xs ∧ xs.length ≤ sizeLine ∧ OK (WR G.K) G E M H (newL m xs S) Q := by
  unfold lstW at h
  cases e : dataOf ws with
  | none => simp only [e] at h; exact h.elim
  | some xs =>
    simp only [e] at h
    by_cases c : fits xs.length = true
    · rw [if_pos c] at h
      exact ⟨xs, wr.data e, fitsT c, h⟩
    · rw [if_neg c] at h; exact h.elim
theorem x_lst {m : Bool} (h : Pa X E FL es) : Pe X E (fun ls S => (FL ls S).bind (lstW m)) (.List es pos) := by
  cases m with
  | true =>
    refine PE.mono (pe_lst h) fun σ H Q h => sub1 (R := WRs X.K) (r := fun xs H1 Q => xs.length ≤ sizeLine ∧ ∀ p, H1 p = none → Q (.ref p) (upd H1 p (.lst xs))) (fun M S H ws vs Q rel wr h => ?_) h
    obtain ⟨xs, d, z, h⟩ := lst_some wr h
    exact ⟨by rw [d.length]; exact z, fun p hp => newL_th rel hp d h⟩
  | false =>
    refine PE.mono (pe_lk (pe_lst h)) fun σ H Q h => sub1 (R := WRs X.K) (r := fun xs H1 Q => xs.length ≤ sizeLine ∧ ∀ p, H1 p = none → lkQ Q (.ref p) (upd H1 p (.lst xs))) (fun M S H ws vs Q rel wr h => ?_) h
    obtain ⟨xs, d, z, h⟩ := lst_some wr h
    exact ⟨by rw [d.length]; exact z, fun p hp => newL_fz rel hp d h⟩
end
end MI

end S_MiF
section S_MiG
namespace MI
open PySem PySem.Spec PyProof.Rows L2

section
variable {G : Gx} {E : Nat → Hp → Prop} {M : List Addr} {S : Store} {H : Hp}
theorem DRs.at {K : PySem.W.Frag} {H : Hp} {vs : List V} {ds : List D} {i : Int} {d : D} (h : DRs K H vs ds) (e : L2.atI ds i = some d) : ∃ v, L2.atI vs i = some v ∧ DR K H v d := by
  unfold L2.atI at e ⊢
  rw [h.length]
  cases q : L2.ixN ds.length i with
  | none => rw [q] at e; cases e
  | some j =>
    rw [q] at e
    exact h.get e
theorem idx_ok {x y : W} {v u : V} {Q : VK} (rel : Rel G M S H) (wx : WR G.K M H v x) (wy : WR G.K M H u y) (h : OK (WR G.K) G E M H (idxW x y S) Q) : rIxL G.K v u H Q ∨ rIxT G.K v u H Q := by
  unfold idxW at h
  cases q : toD S x with
  | none => simp only [q, Option.bind_none] at h; exact h.elim
  | some a =>
    simp only [q, Option.bind_some] at h
    have va := view rel wx q
    cases y with
    | r i => cases a <;> exact h.elim
    | d y =>
      cases y with
      | int i =>
        cases wy
        cases a with
        | list ds =>
          simp only [seqD] at h
          obtain ⟨p, xs, rfl, hs, d⟩ := va.list
          cases e : L2.atI ds i with
          | none => simp only [e] at h; exact h.elim
          | some x =>
            simp only [e] at h
            obtain ⟨w, e1, r⟩ := d.at e
            exact .inl ⟨p, xs, i, w, rfl, rfl, hs, e1, OK.datum (E := E) h rel r⟩
        | tuple ds =>
          simp only [seqD] at h
          obtain ⟨p, xs, rfl, hs, d⟩ := va.tuple
          cases e : L2.atI ds i with
          | none => simp only [e] at h; exact h.elim
          | some x =>
            simp only [e] at h
            obtain ⟨w, e1, r⟩ := d.at e
            exact .inr ⟨p, xs, i, w, rfl, rfl, hs, e1, OK.datum (E := E) h rel r⟩
        | _ => exact h.elim
      | _ => cases a <;> exact h.elim
theorem DRs.cut {K : PySem.W.Frag} {H : Hp} {vs : List V} {ds : List D} (h : DRs K H vs ds) (a b : Option Int) : DRs K H (cutV vs a b) (cutD ds a b) := by
  unfold cutV cutD
  rw [h.length]
  exact (h.drop _).take _
theorem SqL.ty {K : PySem.W.Frag} {H : Hp} {a : Addr} {xs : List V} (h : SqL K H a xs) : TyX K H (.ref a) (.type "list") := by
  rcases h with (h | ⟨o, h⟩) | ⟨o, its, n, h, c, _⟩
  · exact .base (.lst h)
  · exact .base (.frz h)
  · exact .kList h c
theorem SqT.ty {K : PySem.W.Frag} {H : Hp} {a : Addr} {xs : List V} (h : SqT K H a xs) : TyX K H (.ref a) (.type "tuple") := by
  rcases h with (h | ⟨o, h⟩) | ⟨o, its, n, h, c, _⟩
  · exact .base (.tup h)
  · exact .fTuple h
  · exact .kTuple h c
def tyN : D → String
  | .none => "NoneType" | .bool _ => "bool" | .int _ => "int" | .str _ => "str" | .list _ => "list" | .tuple _ => "tuple" | .dict _ => "dict"
def tyS : Ty → String
  | .int => "int" | .bool => "bool" | .str => "str" | .tuple => "tuple" | .list => "list"
theorem Vw.ty {K : PySem.W.Frag} {H : Hp} {v : V} {d : D} (h : Vw K H v d) : TyX K H v (.type (tyN d)) := by
  cases h with
  | dr h =>
    cases h with
    | non => exact .base .non
    | bl b => exact .base (.bl b)
    | int i => exact .base (.int i)
    | str x => exact .base (.str x)
    | lst h _ => exact SqL.ty h.sq
    | tup h _ => exact SqT.ty h
  | lst h _ => exact SqL.ty h
theorem kit_all (K : PySem.W.Frag) (d : D) (ty : Ty) (hd : ∀ x, d ≠ .dict x) : PySem.W.kitOne K (.type (tyN d)) (.type (tyS ty)) = some (tyD ty d) := by
  cases d with
  | dict x => exact absurd rfl (hd x)
  | _ => cases ty <;> (simp only [tyN, tyS, tyD]; exact kit_ty (by decide +kernel))
theorem Vw.nodict {K : PySem.W.Frag} {H : Hp} {v : V} {d : D} (h : Vw K H v d) : ∀ x, d ≠ .dict x := by
  intro x e
  subst e
  cases h with
  | dr h => cases h
theorem isi_ok {ty : Ty} {x : W} {v : V} {Q : VK} (rel : Rel G M S H) (wx : WR G.K M H v x) (h : OK (WR G.K) G E M H (isiW ty x S) Q) : rIsi G.K [v, .ty (tyS ty)] H Q := by
  unfold isiW at h
  cases q : toD S x with
  | none => simp only [q] at h; exact h.elim
  | some a =>
    simp only [q] at h
    have va := view rel wx q
    exact ⟨v, _, _, _, _, rfl, .ty _, va.ty, kit_all _ _ _ va.nodict, OK.datum (E := E) h rel (.bl _)⟩
theorem len_ok {x : W} {v : V} {Q : VK} (rel : Rel G M S H) (wx : WR G.K M H v x) (h : OK (WR G.K) G E M H (lenW x S) Q) : ∃ (x : V) (n : Nat), [v] = [x] ∧ LenV G.K x H n ∧ Q (.int n) H := by
  unfold lenW at h
  cases q : toD S x with
  | none => simp only [q] at h; exact h.elim
  | some a =>
    have va := view rel wx q
    cases a with
    | list ds =>
      simp only [q] at h
      obtain ⟨p, xs, rfl, hs, d⟩ := va.list
      refine ⟨.ref p, xs.length, rfl, .inl ⟨xs, hs, rfl⟩, ?_⟩
      rw [d.length]
      exact OK.datum (E := E) h rel (.int _)
    | tuple ds =>
      simp only [q] at h
      obtain ⟨p, xs, rfl, hs, d⟩ := va.tuple
      refine ⟨.ref p, xs.length, rfl, .inr ⟨xs, hs, rfl⟩, ?_⟩
      rw [d.length]
      exact OK.datum (E := E) h rel (.int _)
    | str z =>
      simp only [q] at h
      by_cases c : fits z.length = true
      · rw [if_pos c] at h
        exact ⟨.str z, z.length, by rw [va.str], (show z.length ≤ sizeLine ∧ z.length = z.length from ⟨fitsT c, rfl⟩), OK.datum (E := E) h rel (.int _)⟩
      · rw [if_neg c] at h; exact h.elim
    | _ => simp only [q] at h; exact h.elim
end

section
variable {X : Cx} {E : Nat → Hp → Prop} {a b c : Expr} {es : List Expr} {pos p2 p3 : Pos} {F F1 F2 F3 : Loc → Store → Res W} {FL : Loc → Store → Res (List W)}
theorem x_idx (h1 : Pe X E F1 a) (h2 : Pe X E F2 b) (hs : PlainIx b) : Pe X E (fun ls S => (F1 ls S).bind fun x S1 => (F2 ls S1).bind fun y S2 => idxW x y S2) (.Subscript a b pos) :=
  PE.mono (pe_ix (ix_list.or ix_tup) h1 h2 hs) fun _ _ _ h => sub2 (fun M S H x y v u Q rel wx wy h => idx_ok rel wx wy h) h
abbrev Po (X : Cx) (E : Nat → Hp → Prop) (F : Loc → Store → Res (Option Int)) (e : Option Expr) : Prop := PO X e (tE (fun _ _ a b => a = b) X.gx E F)
theorem PO.mono {e : Option Expr} {t t' : TO} (h : PO X e t) (k : ∀ σ H Q, t' σ H Q → t σ H Q) : PO X e t' := ⟨fun pins s σ H Q I hw => h.run pins s σ H Q I (k σ H Q hw)⟩
theorem o_none : Po X E (fun _ S => .ok none S) none := PO.mono po_none fun σ H Q ⟨M, ls, S, rel, lr, h⟩ => OK.fin (R := fun _ _ a b => a = b) (b := none) h rel rfl
theorem o_some (h : Pe X E F a) : Po X E (fun ls S => (F ls S).bind partW) (some a) := by
  refine PO.mono (po_some h) fun σ H Q ⟨M, ls, S, rel, lr, h⟩ => ?_
  refine ⟨M, ls, S, rel, lr, h.bind fun x S1 M1 H1 v _ g p rel1 wx h1 => ?_⟩
  cases x with
  | r i => exact h1.elim
  | d x =>
    cases x with
    | int i =>
      cases wx
      exact ⟨i, rfl, OK.fin (R := fun _ _ a b => a = b) (b := some i) h1 rel1 rfl⟩
    | _ => exact h1.elim
def rSlAll (K : PySem.W.Frag) : V → Option Int → Option Int → Hp → VK → Prop := fun x lo hi H Q =>
  (rSlL K x lo hi H (lkQ Q) ∨ rSlA K x lo hi H Q) ∨ (∃ z, x = .str z ∧ z.length ≤ sizeLine ∧ Q (.str (cutS z lo hi)) H)
theorem SlR.lk {r : V → Option Int → Option Int → Hp → VK → Prop} (h : SlR X r) : SlR X (fun x lo hi H Q => r x lo hi H (lkQ Q)) := by
  intro pins s σ H x v vl vu lo hi sl Q I rx hs pl pu q
  obtain ⟨T, id, h1, h2, h3⟩ := h pins s σ H x v vl vu lo hi sl _ I rx hs pl pu q
  exact ⟨T, id, h1, h2, thn h3 fun _ _ z => lk_run z⟩
theorem slc_ok {G : Gx} {M : List Addr} {S : Store} {H : Hp} {x : W} {v : V} {lo hi : Option Int} {Q : VK} (rel : Rel G M S H) (wx : WR G.K M H v x) (h : OK (WR G.K) G E M H (slcW x lo hi S) Q) : rSlAll G.K v lo hi H Q := by
  unfold slcW at h
  cases q : toD S x with
  | none => simp only [q] at h; exact h.elim
  | some a =>
    have va := view rel wx q
    cases a with
    | list ds =>
      simp only [q] at h
      obtain ⟨p, xs, rfl, hs, d⟩ := va.list
      refine .inl (.inl ⟨p, xs, rfl, hs, fun p2 hp => ⟨p2, _, rfl, upd_same, fun o => ?_⟩⟩)
      obtain ⟨g, r, dd⟩ := newFz (o := o) rel hp (d.cut lo hi)
      exact h.fin' (b := V.ref p2) g r dd
    | tuple ds =>
      simp only [q] at h
      obtain ⟨p, xs, rfl, hs, d⟩ := va.tuple
      refine .inl (.inr ⟨p, xs, rfl, hs, fun e => ?_, fun _ p2 hp => ?_⟩)
      · have e2 : cutD ds lo hi = ds := by
          unfold cutD
          rw [← d.length, e.1, e.2, List.drop_zero, Nat.sub_zero, d.length, List.take_length]
        rw [e2] at h
        exact OK.datum (E := E) h rel (.tup hs d)
      · obtain ⟨g, r, dd⟩ := newTup rel hp (d.cut lo hi)
        exact h.fin' (b := V.ref p2) g r dd
    | str z =>
      simp only [q] at h
      by_cases c : fits z.length = true
      · rw [if_pos c] at h
        exact .inr ⟨z, va.str, fitsT c, OK.datum (E := E) h rel (.str _)⟩
      · rw [if_neg c] at h; exact h.elim
    | _ => simp only [q] at h; exact h.elim
theorem sl_all : SlR X (rSlAll X.K) := ((SlR.lk sl_list).or sl_tupA).or sl_str
theorem x_slc {lo hi : Option Expr} {Fl Fh : Loc → Store → Res (Option Int)} (h1 : Pe X E F a) (h2 : Po X E Fl lo) (h3 : Po X E Fh hi) :
    Pe X E (fun ls S => (F ls S).bind fun x S1 => (Fl ls S1).bind fun y S2 => (Fh ls S2).bind fun z S3 => slcW x y z S3) (.Subscript a (.Slice lo hi none p2) pos) := by
  refine PE.mono (pe_slice sl_all h1 h2 h3) fun σ H Q ⟨M, ls, S, rel, lr, h⟩ => ?_
  refine ⟨M, ls, S, rel, lr, h.bind fun x S1 M1 H1 v _ g p rel1 wx h1 => ?_⟩
  refine ⟨M1, ls, S1, rel1, lr.mono g p, h1.bind fun y S2 M2 H2 u _ g2 p2 rel2 wy h2 => ?_⟩
  subst wy
  refine ⟨M2, ls, S2, rel2, (lr.mono g p).mono g2 p2, h2.bind fun z S3 M3 H3 t _ g3 p3 rel3 wz h3 => ?_⟩
  subst wz
  exact slc_ok rel3 ((wx.mono g2 p2).mono g3 p3) h3
def spM (G : Gx) (cv : Nat → Value) (call : Call) (f n : Nat) : Sp := fun vs H Q Ex => vs.length = n ∧ ∃ M S ws, Rel G M S H ∧ WRs G.K M H vs ws ∧ OK (WR G.K) G (fun c H' => Ex (cv c) none H') M H (call f ws S) Q
theorem x_callD {CX : CXT} {k f n : Nat} {fa : Addr} {fd : FuncData} {ps : List Str} {cv : Nat → Value} {call : Call} {Ex : XK} {x : Str} {p : Pos} (F : FnOk X.prog X.w X.K X.mg X.base CX k fa fd ps (spM X.gx cv call f ps.length)) (hr : Room k X.A) (hg : Gl X x) (hm : X.mg x = some (.ref fa))
    (hk : PySem.W.keepIn X.K (.ref fa) = true) (hb : Binds X.K fd ps []) (hx : Passes CX X Ex) (hdb : (x == ("__debug__" : Str)) = false) {e : Expr} (ha : Pa X (fun c H' => Ex (cv c) none H') FL (e :: es)) (hl : (e :: es).length = ps.length) (hlen : ∀ ls S ws S', FL ls S = .ok ws S' → ws.length = (e :: es).length)
    (he : starEach (e :: es) X.env = (false, eval e X.env) :: starEach es X.env) (hpl : (backTo pos (starEach es X.env)).any (·.1) = false) :
    Pe X (fun c H' => Ex (cv c) none H') (fun ls S => (FL ls S).bind fun ws S1 => call f ws S1) (.Call (.Name x p) (e :: es) [] pos) := by
  refine PE.mono (pe_call F hr hg hm hk hb .nil hx ha hdb he hpl) fun σ H Q ⟨M, ls, S, rel, lr, h⟩ => ?_
  refine ⟨M, ls, S, rel, lr, h.bind fun ws S1 M1 H1 vs e1 g p rel1 wr h1 => ?_⟩
  rw [List.append_nil]
  exact ⟨by rw [wr.length, hlen _ _ _ _ e1, hl], M1, S1, ws, rel1, wr, h1⟩
theorem x_bltF {id : String} {r : List V → Hp → VK → Prop} {f : List W → Store → Res W} {x : Str} {p : Pos} {e : Expr} (hc : CallR X (.builtin id) r) (hf : ∀ M S H ws vs Q, Rel X.gx M S H → WRs X.K M H vs ws → OK (WR X.K) X.gx E M H (f ws S) Q → r vs H Q)
    (hg : Gl X x) (hm : X.mg x = none) (hv : bootBuiltins x = some (.builtin id)) (ha : Pa X E FL (e :: es)) (hn : x ≠ "__name__") (hdb : (x == ("__debug__" : Str)) = false)
    (he : starEach (e :: es) X.env = (false, eval e X.env) :: starEach es X.env) (hpl : (backTo pos (starEach es X.env)).any (·.1) = false) :
    Pe X E (fun ls S => (FL ls S).bind f) (.Call (.Name x p) (e :: es) [] pos) :=
  PE.mono (pe_callB hc hg hm hv ha hn hdb he hpl) fun _ _ _ h => sub1 (R := WRs X.K) hf h
theorem x_bltT {T : String} {r : List V → Hp → VK → Prop} {f : List W → Store → Res W} {x : Str} {p : Pos} {e : Expr} (hc : CallR X (.type T) r) (hf : ∀ M S H ws vs Q, Rel X.gx M S H → WRs X.K M H vs ws → OK (WR X.K) X.gx E M H (f ws S) Q → r vs H Q)
    (hg : Gl X x) (hm : X.mg x = none) (hv : bootBuiltins x = some (.type T)) (ha : Pa X E FL (e :: es)) (hn : x ≠ "__name__") (hdb : (x == ("__debug__" : Str)) = false)
    (he : starEach (e :: es) X.env = (false, eval e X.env) :: starEach es X.env) (hpl : (backTo pos (starEach es X.env)).any (·.1) = false) :
    Pe X E (fun ls S => (FL ls S).bind f) (.Call (.Name x p) (e :: es) [] pos) :=
  PE.mono (pe_callTy hc hg hm hv ha hn hdb he hpl) fun _ _ _ h => sub1 (R := WRs X.K) hf h
theorem CallR.lk {f : Value} {r : List V → Hp → VK → Prop} (h : CallR X f r) : CallR X f (fun xs H Q => r xs H (lkQ Q)) := by
  intro pins s σ H xs us Q I rv q
  exact thn (h pins s σ H xs us _ I rv q) fun _ _ z => lk_run z
end

section
variable {G : Gx} {E : Nat → Hp → Prop} {M : List Addr} {S : Store} {H : Hp}
theorem WRs.one {K : PySem.W.Frag} {M : List Addr} {H : Hp} {vs : List V} {w : W} (h : WRs K M H vs [w]) : ∃ v, vs = [v] ∧ WR K M H v w := by
  cases h with | cons h t => cases t; exact ⟨_, rfl, h⟩
theorem WRs.two {K : PySem.W.Frag} {M : List Addr} {H : Hp} {vs : List V} {w u : W} (h : WRs K M H vs [w, u]) : ∃ v t, vs = [v, t] ∧ WR K M H v w ∧ WR K M H t u := by
  cases h with | cons h t => cases t with | cons h2 t2 => cases t2; exact ⟨_, _, rfl, h, h2⟩
theorem ints_one {b : Blt} {ws : List W} {Q : VK} (hb : b = .abs) (h : OK (WR G.K) G E M H (bltW b ws S) Q) : ∃ i, ws = [.d (.int i)] ∧ OK (WR G.K) G E M H (.ok (.d (.int (if i < 0 then -i else i))) S) Q := by
  subst hb
  match ws, h with
  | [.d (.int i)], h => exact ⟨i, rfl, h⟩
theorem abs_ok {ws : List W} {vs : List V} {Q : VK} (rel : Rel G M S H) (wr : WRs G.K M H vs ws) (h : OK (WR G.K) G E M H (bltW .abs ws S) Q) : ∃ i, vs = [.int i] ∧ Q (.int (if i < 0 then -i else i)) H := by
  obtain ⟨i, rfl, h⟩ := ints_one rfl h
  obtain ⟨v, rfl, r⟩ := wr.one
  cases r
  exact ⟨i, rfl, OK.datum (E := E) h rel (.int _)⟩
theorem int_ok {ws : List W} {vs : List V} {Q : VK} (rel : Rel G M S H) (wr : WRs G.K M H vs ws) (h : OK (WR G.K) G E M H (bltW .int ws S) Q) :
    (∃ i, vs = [.int i] ∧ Q (.int i) H) ∨ ∃ k, vs = [.bl k] ∧ Q (.int (if k then 1 else 0)) H := by
  match ws, wr, h with
  | [.d (.int i)], wr, h =>
    obtain ⟨v, rfl, r⟩ := wr.one
    cases r
    exact .inl ⟨i, rfl, OK.datum (E := E) h rel (.int _)⟩
  | [.d (.bool k)], wr, h =>
    obtain ⟨v, rfl, r⟩ := wr.one
    cases r
    exact .inr ⟨k, rfl, OK.datum (E := E) h rel (.int _)⟩
theorem max2_ok {ws : List W} {vs : List V} {Q : VK} (rel : Rel G M S H) (wr : WRs G.K M H vs ws) (h : OK (WR G.K) G E M H (bltW .max2 ws S) Q) : ∃ i j, vs = [.int i, .int j] ∧ Q (.int (if j > i then j else i)) H := by
  match ws, wr, h with
  | [.d (.int i), .d (.int j)], wr, h =>
    obtain ⟨v, t, rfl, r, r2⟩ := wr.two
    cases r
    cases r2
    exact ⟨i, j, rfl, OK.datum (E := E) h rel (.int _)⟩
theorem min2_ok {ws : List W} {vs : List V} {Q : VK} (rel : Rel G M S H) (wr : WRs G.K M H vs ws) (h : OK (WR G.K) G E M H (bltW .min2 ws S) Q) : ∃ i j, vs = [.int i, .int j] ∧ Q (.int (if j < i then j else i)) H := by
  match ws, wr, h with
  | [.d (.int i), .d (.int j)], wr, h =>
    obtain ⟨v, t, rfl, r, r2⟩ := wr.two
    cases r
    cases r2
    exact ⟨i, j, rfl, OK.datum (E := E) h rel (.int _)⟩
theorem blen_ok {ws : List W} {vs : List V} {Q : VK} (rel : Rel G M S H) (wr : WRs G.K M H vs ws) (h : OK (WR G.K) G E M H (bltW .len ws S) Q) : ∃ x n, vs = [x] ∧ LenV G.K x H n ∧ Q (.int n) H := by
  match ws, wr, h with
  | [x], wr, h =>
    obtain ⟨v, rfl, r⟩ := wr.one
    exact len_ok rel r h
theorem tuple_ok {ws : List W} {vs : List V} {Q : VK} (rel : Rel G M S H) (wr : WRs G.K M H vs ws) (h : OK (WR G.K) G E M H (bltW .tuple ws S) Q) :
    ∃ p ys, vs = [.ref p] ∧ ((SqL G.K H p ys ∧ ∀ l, H l = none → Q (.ref l) (upd H l (.tup ys))) ∨ (SqT G.K H p ys ∧ Q (.ref p) H)) := by
  match ws, wr, h with
  | [x], wr, h =>
    obtain ⟨v, rfl, r⟩ := wr.one
    unfold bltW at h
    simp only at h
    cases q : toD S x with
    | none => simp only [q] at h; exact h.elim
    | some a =>
      have va := view rel r q
      cases a with
      | list ds =>
        simp only [q] at h
        obtain ⟨p, xs, rfl, hs, d⟩ := va.list
        refine ⟨p, xs, rfl, .inl ⟨hs, fun l hl => ?_⟩⟩
        obtain ⟨g, r, dd⟩ := newTup rel hl d
        exact h.fin' (b := V.ref l) g r dd
      | tuple ds =>
        simp only [q] at h
        obtain ⟨p, xs, rfl, hs, d⟩ := va.tuple
        exact ⟨p, xs, rfl, .inr ⟨hs, OK.datum (E := E) h rel (.tup hs d)⟩⟩
      | _ => simp only [q] at h; exact h.elim
end
end MI

end S_MiG
section S_MiH
namespace MI
open PySem PySem.Spec PyProof.Rows L2
def GoodIt (G : Gx) (H0 : Hp) (J : It) (ds : List D) : Prop :=
  ∃ Gd : Hp → Prop, Gd H0 ∧ (∀ H1 H2, Grow H1 H2 → Gd H1 → Gd H2) ∧ (∀ i H, Gd H → i < ds.length → J.go i H) ∧ (∀ H, Gd H → J.stop ds.length H) ∧
    ∀ i H x H' d, Gd H → J.yld i H x H' → ds[i]? = some d → (∀ M S, Rel G M S H → Ext M H M H' ∧ Rel G M S H') ∧ Gd H' ∧ DR G.K H' x d
abbrev IR (G : Gx) (M : List Addr) (H : Hp) (J : It) (ds : List D) : Prop := GoodIt G H J ds

section
variable {G : Gx} {H : Hp}
theorem good_walk {J : It} {n : Nat} {Gw : Hp → Prop} {Y : Nat → Hp → V → Hp → Prop} {ds : List D} (w : Walk J n Gw Y) (hn : ds.length = n) (Gd : Hp → Prop) (h0 : Gd H) (hm : ∀ H1 H2, Grow H1 H2 → Gd H1 → Gd H2) (hg : ∀ H, Gd H → Gw H)
    (hy : ∀ i H x H' d, Gd H → Y i H x H' → ds[i]? = some d → (∀ M S, Rel G M S H → Ext M H M H' ∧ Rel G M S H') ∧ Gd H' ∧ DR G.K H' x d) : GoodIt G H J ds := by
  subst hn
  exact ⟨Gd, h0, hm, fun i H q hi => w.goes i H hi (hg H q), fun H q => w.stops H (hg H q), fun i H x H' d q y e => hy i H x H' d q (w.yields i H x H' (List.getElem?_eq_some_iff.mp e).1 (hg H q) y) e⟩
theorem good_range {lo : Int} {n : Nat} : GoodIt G H (Itr lo n) ((List.range n).map fun i => .int (lo + (i : Nat))) := by
  refine good_walk (walk_range (lo := lo) (n := n)) (by simp) (fun _ => True) trivial (fun _ _ _ _ => trivial) (fun _ _ => trivial) fun i H x H' d _ y e => ?_
  obtain ⟨rfl, rfl⟩ := y
  rw [List.getElem?_map] at e
  cases q : (List.range n)[i]? with
  | none => rw [q] at e; cases e
  | some j =>
    rw [q] at e
    cases e
    have : j = i := by
      obtain ⟨h1, h2⟩ := List.getElem?_eq_some_iff.mp q
      rw [List.getElem_range] at h2
      exact h2.symm
    subst this
    exact ⟨fun M S rel => ⟨Ext.refl _ _, rel⟩, trivial, .int _⟩
end

section
variable {X : Cx} {E : Nat → Hp → Prop} {a b c : Expr} {tg : Expr} {es : List Expr} {pos p p2 p3 : Pos} {F F1 F2 F3 : Loc → Store → Res W} {FI : Loc → Store → Res (List D)}
abbrev Pi (X : Cx) (E : Nat → Hp → Prop) (FI : Loc → Store → Res (List D)) (tg iter : Expr) : Prop := PI X tg iter (tE (IR X.gx) X.gx E FI)
theorem i_rng1 (hg : Gl X "range") (hm : X.mg "range" = none) (h : Pe X E F a) (hs : starEach [a] X.env = [(false, eval a X.env)]) : Pi X E (fun ls S => (F ls S).bind fun w S1 => match w with
    | .d (.int j) => if decide (-(2 ^ 62) ≤ j) && decide (j < 2 ^ 62) then .ok ((List.range j.toNat).map fun i => .int (i : Nat)) S1 else .stuck
    | _ => .stuck) tg (.Call (.Name "range" p) [a] [] pos) := by
  refine PI.mono (pi_range1 hg hm (pa_cons h pa_nil hs) hs) fun σ H R ⟨M, ls, S, rel, lr, h⟩ => ?_
  refine ⟨M, ls, S, rel, lr, h.bind fun x S1 M1 H1 v _ g p rel1 wx h1 => ?_⟩
  cases x with
  | r i => exact h1.elim
  | d x =>
    cases x with
    | int j =>
      cases wx
      by_cases c : (decide (-(2 ^ 62) ≤ j) && decide (j < 2 ^ 62)) = true
      · simp only [c, if_true] at h1
        simp only [Bool.and_eq_true, decide_eq_true_eq] at c
        refine ⟨j, rfl, c.1, c.2, OK.fin (R := IR X.gx) h1 rel1 ?_⟩
        have := good_range (G := X.gx) (H := H1) (lo := 0) (n := j.toNat)
        simpa using this
      · simp only [c] at h1; exact h1.elim
    | _ => exact h1.elim
def FR (G : Gx) (M : List Addr) (H : Hp) : L2.St ⊕ V → Fl → Prop
  | .inl σ, .nx ls => LR G M H σ ls
  | .inr v, .rt w => WR G.K M H v w
  | _, _ => False
def ends (D : Ends) : L2.St ⊕ V → Hp → Prop
  | .inl σ, H => D.nx σ H
  | .inr v, H => D.rt v H
def tS (G : Gx) (E : Nat → Hp → Prop) (F : Loc → Store → Res Fl) : TS := fun D σ H => ∃ M ls S, Rel G M S H ∧ LR G M H σ ls ∧ OK (FR G) G E M H (F ls S) (ends D)
abbrev Ps (X : Cx) (E : Nat → Hp → Prop) (F : Loc → Store → Res Fl) (st : Stmt) : Prop := PS X st (tS X.gx E F)
abbrev Pss (X : Cx) (E : Nat → Hp → Prop) (F : Loc → Store → Res Fl) (st : List Stmt) : Prop := PSs X st (tS X.gx E F)
variable {G1 G2 G3 : Loc → Store → Res Fl} {st : Stmt} {rest : List Stmt}
theorem OK.nx {G : Gx} {M : List Addr} {H : Hp} {ls : Loc} {S : Store} {D : Ends} {σ : L2.St} (h : OK (FR G) G E M H (.ok (.nx ls) S) (ends D)) (rel : Rel G M S H) (lr : LR G M H σ ls) : D.nx σ H := OK.fin (R := FR G) (b := (.inl σ : L2.St ⊕ V)) (a := .nx ls) h rel (show FR G M H (.inl σ) (.nx ls) from lr)
theorem OK.rt {G : Gx} {M : List Addr} {H : Hp} {w : W} {S : Store} {D : Ends} {v : V} (h : OK (FR G) G E M H (.ok (.rt w) S) (ends D)) (rel : Rel G M S H) (r : WR G.K M H v w) : D.rt v H := OK.fin (R := FR G) (b := (.inr v : L2.St ⊕ V)) (a := .rt w) h rel (show FR G M H (.inr v) (.rt w) from r)
theorem s_nil : Pss X E (fun ls S => .ok (.nx ls) S) [] := PSs.mono pss_nil fun D σ H ⟨M, ls, S, rel, lr, h⟩ => OK.nx (E := E) h rel lr
def thenF (F1 F2 : Loc → Store → Res Fl) : Loc → Store → Res Fl := fun ls S => (F1 ls S).bind fun f S1 => match f with
    | .nx l1 => F2 l1 S1
    | .rt w => .ok (.rt w) S1
theorem seq_sub {D : Ends} {σ : L2.St} {H : Hp} (h : tS X.gx E (thenF G1 G2) D σ H) : tS X.gx E G1 { D with nx := tS X.gx E G2 D } σ H := by
  obtain ⟨M, ls, S, rel, lr, h⟩ := h
  refine ⟨M, ls, S, rel, lr, OK.bind (R' := FR X.gx) h fun f S1 M1 H1 b _ g p rel1 fr h1 => ?_⟩
  cases f with
  | nx l1 =>
    cases b with
    | inl σ1 => exact ⟨M1, l1, S1, rel1, fr, h1⟩
    | inr v => exact fr.elim
  | rt w =>
    cases b with
    | inl σ1 => exact fr.elim
    | inr v =>
      have h1 : OK (FR X.gx) X.gx E M1 H1 (.ok (.rt w) S1) (ends D) := h1
      exact OK.rt (E := E) (D := D) (w := w) h1 rel1 fr
theorem s_cons (h1 : Ps X E G1 st) (h2 : Pss X E G2 rest) : Pss X E (thenF G1 G2) (st :: rest) := PSs.mono (pss_cons h1 h2) fun _ _ _ h => seq_sub h
theorem s_one (h1 : Ps X E G1 st) : Pss X E G1 [st] := pss_one h1
theorem s_expr (h1 : Pe X E F a) (hs : swapsWith a none pos.line X.env = pure false) : Ps X E (fun ls S => (F ls S).bind fun _ S1 => .ok (.nx ls) S1) (.Expr a pos) := by
  refine PS.mono (ps_expr h1 hs) fun D σ H ⟨M, ls, S, rel, lr, h⟩ => ?_
  exact ⟨M, ls, S, rel, lr, h.bind fun x S1 M1 H1 v _ g p rel1 wx h1 => OK.nx (E := E) h1 rel1 (lr.mono g p)⟩
theorem s_ret (h1 : Pe X E F a) : Ps X E (fun ls S => (F ls S).bind fun w S1 => .ok (.rt w) S1) (.Return (some a) pos) := by
  refine PS.mono (ps_ret h1) fun D σ H ⟨M, ls, S, rel, lr, h⟩ => ?_
  exact ⟨M, ls, S, rel, lr, h.bind fun x S1 M1 H1 v _ g p rel1 wx h1 => OK.rt (E := E) h1 rel1 wx⟩
theorem s_if {l1 l2 : List Stmt} (h1 : Pt X E F a) (h2 : Pss X E G1 l1) (h3 : Pss X E G2 l2) : Ps X E (fun ls S => (F ls S).test fun k S1 => if k then G1 ls S1 else G2 ls S1) (.If a l1 l2 pos) := by
  refine PS.mono (ps_if h1 h2 h3) fun D σ H ⟨M, ls, S, rel, lr, h⟩ => ?_
  refine ⟨M, ls, S, rel, lr, h.test fun c S1 M1 H1 g p rel1 h1 => ⟨c, rfl, ?_⟩⟩
  cases c with
  | true => exact ⟨M1, ls, S1, rel1, lr.mono g p, h1⟩
  | false => exact ⟨M1, ls, S1, rel1, lr.mono g p, h1⟩
theorem s_set {i : Nat} {x : Str} {pos' : Pos} (hN : X.N.Nodup) (hi : X.N[i]? = some x) (hx : L2.Loc X.env.scope x) (h1 : Pe X E F a) (hs : swapsWith a (some (.Name x pos')) pos.line X.env = pure false) (hf : X.fn x = true ∨ X.env.scope.names.lookup x = some .local) :
    Ps X E (fun ls S => (F ls S).bind fun w S1 => .ok (.nx (ls.set i (some w))) S1) (.Assign [.Name x pos'] a pos) := by
  refine PS.mono (ps_set hN hi hx h1 hs hf) fun D σ H ⟨M, ls, S, rel, lr, h⟩ => ?_
  exact ⟨M, ls, S, rel, lr, h.bind fun x S1 M1 H1 v _ g p rel1 wx h1 => OK.nx (E := E) h1 rel1 ((lr.mono g p).set wx i)⟩
def gNames : List Nat → TGs
  | [] => gNil
  | j :: js => gCons (gName j) (gNames js)
def gT (K : PySem.W.Frag) : Tg → TG
  | .nm j => gName j
  | .tp js => gTup K js.length (gNames js)
theorem names_ok {G : Gx} {M : List Addr} {H : Hp} {Q : L2.St → Hp → Prop} : ∀ {js : List Nat} {vs : List V} {ds : List D} {σ : L2.St} {ls ls' : Loc}, LR G M H σ ls → DRs G.K H vs ds → setAll ls js ds = some ls' → (∀ σ', LR G M H σ' ls' → Q σ' H) → gNames js vs σ H Q
  | [], _, _, σ, ls, ls', lr, .nil, e, q => by
    cases e
    exact ⟨rfl, q σ lr⟩
  | [], _, _, _, _, _, _, .cons _ _, e, _ => by cases e
  | _ :: _, _, _, _, _, _, _, .nil, e, _ => by cases e
  | j :: js, _, _, σ, ls, ls', lr, .cons (v := v) (d := d) r t, e, q => ⟨v, _, rfl, names_ok (lr.set (w := .d d) r j) t e q⟩
theorem setAll_len : ∀ {js : List Nat} {ds : List D} {ls ls' : Loc}, setAll ls js ds = some ls' → js.length = ds.length
  | [], [], _, _, _ => rfl
  | [], _ :: _, _, _, e => by cases e
  | _ :: _, [], _, _, e => by cases e
  | j :: js, d :: ds, ls, ls', e => by
    have e : setAll (ls.set j (some (.d d))) js ds = some ls' := e
    rw [List.length_cons, List.length_cons, setAll_len e]
theorem bind_ok {G : Gx} {M : List Addr} {H : Hp} {tg : Tg} {σ : L2.St} {ls ls' : Loc} {x : D} {v : V} {Q : L2.St → Hp → Prop} (lr : LR G M H σ ls) (r : DR G.K H v x) (e : bindD tg x ls = some ls') (q : ∀ σ', LR G M H σ' ls' → Q σ' H) : gT G.K tg v σ H Q := by
  cases tg with
  | nm j =>
    cases e
    exact q _ (lr.set (w := .d x) r j)
  | tp js =>
    cases x with
    | tuple ds =>
      cases r with
      | tup h d => exact ⟨_, _, rfl, h, by rw [d.length]; exact (setAll_len e).symm, names_ok lr d e q⟩
    | _ => cases e
theorem s_asg {tgm : Tg} (h1 : Pe X E F a) (hg : PG X tg (gT X.K tgm)) (hn : ∀ j, tgm ≠ .nm j) (hs : swapsWithSole [tg] a pos.line X.env = pure false) (hw : swappedStores [tg] a X.env = pure none) (he : (assignEach [tg] X.env).map (·.2) = [assign tg X.env]) :
    Ps X E (fun ls S => (F ls S).bind fun w S1 => optR ((bindW tgm w ls).map .nx) S1) (.Assign [tg] a pos) := by
  refine PS.mono (ps_asg h1 hg hs hw he) fun D σ H ⟨M, ls, S, rel, lr, h⟩ => ?_
  refine ⟨M, ls, S, rel, lr, h.bind fun x S1 M1 H1 v _ g p rel1 wx h1 => ?_⟩
  cases tgm with
  | nm j => exact absurd rfl (hn j)
  | tp js =>
    cases x with
    | r i => exact h1.elim
    | d x =>
      cases e : bindD (.tp js) x ls with
      | none => simp only [bindW, e] at h1; exact h1.elim
      | some ls' =>
        simp only [bindW, e] at h1
        exact bind_ok (tg := .tp js) (lr.mono g p) wx e fun σ' lr' => OK.nx (E := E) h1 rel1 lr'
theorem OK.noexE {α β : Type} {R : List Addr → Hp → β → α → Prop} {G : Gx} {M : List Addr} {H : Hp} {r : Res α} {Q : β → Hp → Prop} (h : OK R G E M H r.noex Q) : OK R G (fun _ _ => False) M H r Q := by
  cases r with
  | ok a S => exact h
  | ex c S => exact h.elim
  | stuck => exact h
abbrev E0' : Nat → Hp → Prop := fun _ _ => False
theorem PS.nox {t : TS} (h : PS X.nox st t) : PS X st t := ⟨fun pins s σ H D I hw =>
  wpAny_mono (h.run pins s σ H D (I.wish _) hw) (fun _ _ q => q.unwish) fun _ _ z => False.elim z⟩
theorem s_while {body : List Stmt} {n : Nat} (h1 : Pt X.nox E0' F a) (h2 : Pss X.nox E0' G1 body) : Ps X E (fun ls S => (whlL F G1 n ls S).noex) (.While a body [] pos) := by
  refine PS.mono (PS.nox (ps_while PassesOwn.never h1 h2)) fun D σ H ⟨M, ls, S, rel, lr, h⟩ => ?_
  have h := OK.noexE h
  refine ⟨fun m σ H => ∃ M ls S, Rel X.gx M S H ∧ LR X.gx M H σ ls ∧ OK (FR X.gx) X.gx E0' M H (whlL F G1 m ls S) (ends D), ⟨n, M, ls, S, rel, lr, h⟩, ?_⟩
  rintro m σ H ⟨M, ls, S, rel, lr, h⟩
  cases m with
  | zero => exact h.elim
  | succ m =>
    refine ⟨M, ls, S, rel, lr, OK.test (R' := FR X.gx) h fun c S1 M1 H1 g p rel1 h1 => ⟨c, rfl, ?_⟩⟩
    cases c with
    | true =>
      refine ⟨fun σ H => ∃ M ls S, Rel X.gx M S H ∧ LR X.gx M H σ ls ∧ OK (FR X.gx) X.gx E0' M H (whlL F G1 m ls S) (ends D), fun σ' H' q => ⟨m, Nat.lt_succ_self m, q⟩, ?_⟩
      refine ⟨M1, ls, S1, rel1, lr.mono g p, OK.bind (R' := FR X.gx) h1 fun f S2 M2 H2 b _ g2 p2 rel2 fr h2 => ?_⟩
      cases f with
      | nx l1 =>
        cases b with
        | inl σ1 => exact ⟨M2, l1, S2, rel2, fr, h2⟩
        | inr v => exact fr.elim
      | rt w =>
        cases b with
        | inl σ1 => exact fr.elim
        | inr v =>
          have h2 : OK (FR X.gx) X.gx E0' M2 H2 (.ok (.rt w) S2) (ends D) := h2
          exact OK.rt (E := E0') (D := D) (w := w) h2 rel2 fr
    | false => exact OK.nx (E := E0') h1 rel1 (lr.mono g p)
theorem s_for {body : List Stmt} {tgm : Tg} (hc : X.calm = true) (h1 : Pi X.nox E0' FI tg a) (hg : PG X.nox tg (gT X.K tgm)) (h2 : Pss X.nox E0' G1 body) (hs : ∀ x, foldedSetIterable a X.env x = pure x) :
    Ps X E (fun ls S => ((FI ls S).bind fun xs S1 => forL (fun x l => bindD tgm x l) G1 xs ls S1).noex) (.For tg a body [] pos) := by
  refine PS.mono (PS.nox (ps_for PassesOwn.never hc h1 hg h2 hs)) fun D σ H ⟨M, ls, S, rel, lr, h⟩ => ?_
  have h := OK.noexE h
  refine ⟨M, ls, S, rel, lr, OK.bind (R' := FR X.gx) h fun ds S1 M1 H1 J _ g p rel1 good h1 => ?_⟩
  obtain ⟨Gd, g0, gm, hgo, hst, hy⟩ := good
  refine ⟨fun i m σ H => m = ds.length - i ∧ i ≤ ds.length ∧ Gd H ∧ ∃ M ls S, Rel X.gx M S H ∧ LR X.gx M H σ ls ∧ OK (FR X.gx) X.gx E0' M H (forL (fun x l => bindD tgm x l) G1 (ds.drop i) ls S) (ends D),
    ⟨ds.length, by omega, by omega, g0, M1, ls, S1, rel1, lr.mono g p, h1⟩, ?_⟩
  rintro i m σ H ⟨rfl, hi, gd, M, ls, S, rel, lr, h⟩
  by_cases hlt : i < ds.length
  · refine .inr ⟨hgo i H gd hlt, fun σ H => Gd H ∧ ∃ M ls S, Rel X.gx M S H ∧ LR X.gx M H σ ls ∧ OK (FR X.gx) X.gx E0' M H (forL (fun x l => bindD tgm x l) G1 (ds.drop (i + 1)) ls S) (ends D), fun σ' H' q => ⟨ds.length - (i + 1), by omega, rfl, hlt, q.1, q.2⟩, fun x H' y => ?_⟩
    have e : ds[i]? = some ds[i] := List.getElem?_eq_getElem hlt
    obtain ⟨xt, gd', r⟩ := hy i H x H' _ gd y e
    obtain ⟨xx, rel'⟩ := xt M S rel
    rw [List.drop_eq_getElem_cons hlt] at h
    have h := h.at xx
    unfold forL at h
    cases e2 : bindD tgm ds[i] ls with
    | none => simp only [e2] at h; exact h.elim
    | some l =>
      simp only [e2] at h
      refine bind_ok (lr.mono xx.g xx.p) r e2 fun σ2 lr2 => ?_
      refine ⟨M, l, S, rel', lr2, OK.bind (R' := FR X.gx) h fun f S2 M2 H2 b _ g2 p2 rel2 fr h2 => ?_⟩
      cases f with
      | nx l1 =>
        cases b with
        | inl σ1 => exact ⟨gm _ _ g2 gd', M2, l1, S2, rel2, fr, h2⟩
        | inr v => exact fr.elim
      | rt w =>
        cases b with
        | inl σ1 => exact fr.elim
        | inr v =>
          have h2 : OK (FR X.gx) X.gx E0' M2 H2 (.ok (.rt w) S2) (ends D) := h2
          exact OK.rt (E := E0') (D := D) (w := w) h2 rel2 fr
  · have e : i = ds.length := by omega
    subst e
    rw [List.drop_length] at h
    exact .inl ⟨hst H gd, OK.nx (E := E0') h rel lr⟩
end
end MI

end S_MiH
section S_MiI
namespace MI
open PySem PySem.Spec PyProof.Rows L2
theorem wipe_set {σ : L2.St} {j : Nat} {v : Option V} : ∀ {own : List Nat}, j ∈ own → wipe (σ.set j v) own = wipe σ own
  | [], h => by cases h
  | k :: own, h => by
    show (wipe (σ.set j v) own).set k none = (wipe σ own).set k none
    by_cases hj : j ∈ own
    · rw [wipe_set hj]
    · have e : j = k := by
        rcases List.mem_cons.mp h with h | h
        · exact h
        · exact absurd h hj
      subst e
      have out : ∀ (own : List Nat) (σ : L2.St), j ∉ own → wipe (σ.set j v) own = (wipe σ own).set j v := by
        intro own
        induction own with
        | nil => intro σ _; rfl
        | cons a own ih =>
          intro σ hn
          show (wipe (σ.set j v) own).set a none = ((wipe σ own).set a none).set j v
          have h1 : j ≠ a := fun e => hn (by rw [e]; exact List.mem_cons_self)
          rw [ih σ fun m => hn (List.mem_cons_of_mem _ m)]
          exact List.set_comm _ _ h1
      rw [out own σ hj, List.set_set]
theorem wipe_wipe {σ : L2.St} {own : List Nat} : wipe (wipe σ own) own = wipe σ own := by
  have key : ∀ (a : List Nat), (∀ j ∈ a, j ∈ own) → wipe (wipe σ a) own = wipe σ own := by
    intro a
    induction a with
    | nil => intro _; rfl
    | cons j a ih =>
      intro h
      show wipe ((wipe σ a).set j none) own = _
      rw [wipe_set (h j List.mem_cons_self)]
      exact ih fun k hk => h k (List.mem_cons_of_mem _ hk)
  exact key own fun _ h => h
theorem LR.wipe {G : Gx} {M : List Addr} {H : Hp} {σ : L2.St} {ls : Loc} (h : LR G M H σ ls) : ∀ own : List Nat, LR G M H (L2.wipe σ own) (wipeL ls own)
  | [] => h
  | k :: own => by
    have ih := LR.wipe h own
    show LR G M H ((L2.wipe σ own).set k none) ((wipeL ls own).set k none)
    refine ⟨by rw [List.length_set, List.length_set]; exact ih.len, fun j w e => ?_⟩
    by_cases hk : k = j
    · subst hk
      by_cases hl : k < (wipeL ls own).length
      · rw [List.getElem?_set_self hl] at e; cases e
      · rw [List.getElem?_eq_none (by rw [List.length_set]; omega)] at e; cases e
    · rw [List.getElem?_set_ne hk] at e ⊢
      exact ih.at_ j w e
def tgSlots : Tg → List Nat
  | .nm j => [j]
  | .tp js => js
theorem names_okW {G : Gx} {M : List Addr} {H : Hp} {own : List Nat} {Q : L2.St → Hp → Prop} : ∀ {js : List Nat} {vs : List V} {ds : List D} {σ : L2.St} {ls ls' : Loc}, (∀ j ∈ js, j ∈ own) → LR G M H σ ls → DRs G.K H vs ds → setAll ls js ds = some ls' →
    (∀ σ', LR G M H σ' ls' → L2.wipe σ' own = L2.wipe σ own → Q σ' H) → gNames js vs σ H Q
  | [], _, _, σ, ls, ls', _, lr, .nil, e, q => by
    cases e
    exact ⟨rfl, q σ lr rfl⟩
  | [], _, _, _, _, _, _, _, .cons _ _, e, _ => by cases e
  | _ :: _, _, _, _, _, _, _, _, .nil, e, _ => by cases e
  | j :: js, _, _, σ, ls, ls', ho, lr, .cons (v := v) (d := d) r t, e, q => ⟨v, _, rfl, names_okW (fun k hk => ho k (List.mem_cons_of_mem _ hk)) (lr.set (w := .d d) r j) t e fun σ' h1 h2 => q σ' h1 (by rw [h2, wipe_set (ho j List.mem_cons_self)])⟩
theorem bind_okW {G : Gx} {M : List Addr} {H : Hp} {own : List Nat} {tg : Tg} {σ : L2.St} {ls ls' : Loc} {x : D} {v : V} {Q : L2.St → Hp → Prop} (ho : ∀ j ∈ tgSlots tg, j ∈ own) (lr : LR G M H σ ls) (r : DR G.K H v x) (e : bindD tg x ls = some ls')
    (q : ∀ σ', LR G M H σ' ls' → L2.wipe σ' own = L2.wipe σ own → Q σ' H) : gT G.K tg v σ H Q := by
  cases tg with
  | nm j =>
    cases e
    exact q _ (lr.set (w := .d x) r j) (wipe_set (ho j (by simp [tgSlots])))
  | tp js =>
    cases x with
    | tuple ds =>
      cases r with
      | tup h d => exact ⟨_, _, rfl, h, by rw [d.length]; exact (setAll_len e).symm, names_okW ho lr d e q⟩
    | _ => cases e
section
variable {G : Gx} {M : List Addr} {S : Store} {H : Hp} {p : Addr} {vs : List V}
theorem Rel.other (R : Rel G M S H) {u : HO} (hp : H p = some (.lst vs)) (hn : p ∉ M) : Rel G M S (upd H p u) := by
  have g : Grow H (upd H p u) := Grow.put hp (fun _ z => nomatch z) (fun _ _ z => nomatch z) no_code
  have ne : ∀ a ∈ M, a ≠ p := fun a ha e => hn (by rw [← e]; exact ha)
  refine ⟨R.len, R.nd, fun a ha => by rw [upd_ne (ne a ha)]; exact R.on a ha, fun i so a h1 h2 => ?_, R.owM (fun a ha => upd_ne (ne a ha)), R.kw.same fun a ha => upd_ne (ne a ha)⟩
  exact (R.ob i so a h1 h2).mono g (upd_ne (ne a (List.mem_of_getElem? h2)))
theorem Rel.adopt {ds : List D} (R : Rel G M S H) (hp : H p = some (.lst vs)) (hn : p ∉ M) (d : DRs G.K H vs ds) : Rel G (M ++ [p]) (S ++ [.list ds]) H := by
  refine ⟨by rw [List.length_append, List.length_append, R.len]; rfl, ?_, fun a ha => ?_, fun i so a h1 h2 => ?_, R.owP (fun a ha => rfl), R.kw.push R.len⟩
  · rw [List.nodup_append]
    refine ⟨R.nd, by simp, fun a ha b hb => ?_⟩
    have : b = p := by simpa using hb
    rw [this]
    intro e
    exact hn (by rw [← e]; exact ha)
  · rcases List.mem_append.mp ha with ha | ha
    · exact R.on a ha
    · have : a = p := by simpa using ha
      rw [this, hp]
      simp
  · by_cases hi : i < S.length
    · rw [List.getElem?_append_left hi] at h1
      rw [List.getElem?_append_left (by rw [R.len]; exact hi)] at h2
      exact R.ob i so a h1 h2
    · have hi' : i = S.length := by
        have := (List.getElem?_eq_some_iff.mp h1).1
        rw [List.length_append, List.length_singleton] at this
        omega
      subst hi'
      rw [List.getElem?_append_right (Nat.le_refl _)] at h1
      rw [List.getElem?_append_right (by rw [R.len]; exact Nat.le_refl _), R.len] at h2
      simp at h1 h2
      subst h1 h2
      exact ⟨vs, hp, d⟩
theorem Ext.at {M' : List Addr} {H' : Hp} {o : HO} (x : Ext M H M' H') (hp : H p = some o) (hn : p ∉ M) : H' p = some o ∧ p ∉ M' := by
  refine ⟨x.fr p o hp hn, fun m => ?_⟩
  have := x.nw p m hn
  rw [hp] at this
  cases this
theorem Ext.list {M1 : List Addr} {H1 : Hp} {u : HO} (x : Ext M1 H1 M H) (h0 : H1 p = none) (hp : H p = some (.lst vs)) : Ext M1 H1 M (upd H p u) :=
  ⟨x.g.trans (Grow.put hp (fun _ z => nomatch z) (fun _ _ z => nomatch z) no_code), x.p, fun a o h n => by
    rw [upd_ne (ne_of_none h h0)]
    exact x.fr a o h n, x.nw⟩
end

section
variable {α β γ : Type} {R : List Addr → Hp → β → α → Prop} {G : Gx} {E : Nat → Hp → Prop} {M : List Addr} {H : Hp} {Q : β → Hp → Prop}
theorem noex_test {r : Res W} {f : Bool → Store → Res γ} {k : γ → Store → Res α} (h : OK R G E M H (((r.test f).noex).bind k) Q) : ∃ b S, r = .ok (.d (.bool b)) S ∧ OK R G E M H (((f b S).noex).bind k) Q := by
  cases r with
  | ok w S =>
    cases w with
    | r i => exact h.elim
    | d x =>
      cases x with
      | bool b => exact ⟨b, S, rfl, h⟩
      | _ => exact h.elim
  | ex c S => exact h.elim
  | stuck => exact h.elim
theorem noex_bind {δ : Type} {r : Res δ} {f : δ → Store → Res γ} {k : γ → Store → Res α} (h : OK R G E M H (((r.bind f).noex).bind k) Q) : ∃ b S, r = .ok b S ∧ OK R G E M H (((f b S).noex).bind k) Q := by
  cases r with
  | ok w S => exact ⟨w, S, rfl, h⟩
  | ex c S => exact h.elim
  | stuck => exact h.elim
end

section
variable {X : Cx} {E : Nat → Hp → Prop} {FI : Loc → Store → Res (List D)} {Fc Fe : Loc → Store → Res W} {tgm : Tg} {own : List Nat}
abbrev compF (FI : Loc → Store → Res (List D)) (Fc Fe : Loc → Store → Res W) (tgm : Tg) (own : List Nat) (m : Bool) : Loc → Store → Res W := fun ls S =>
  (FI ls S).bind fun xs S1 => ((compL (fun x => bindD tgm x (wipeL ls own)) Fc Fe xs [] S1).noex).bind fun ys S2 => newL m ys S2
theorem comp_sub {m : Bool} {σ : L2.St} {H : Hp} {Q Q' : VK} (ho : ∀ j ∈ tgSlots tgm, j ∈ own) (q1 : m = true → ∀ v H, Q v H → Q' v H) (q2 : m = false → ∀ a xs H', H' a = some (.lst xs) → (∀ o, Q (.ref a) (upd H' a (.frz o (.lst xs)))) → Q' (.ref a) H')
    (h : tE (WR X.K) X.gx E (compF FI Fc Fe tgm own m) σ H Q) :
    tLc (tE (IR X.gx) X.gx E FI) (gT X.K tgm) (tB (tE (WR X.K) X.gx E0' Fc)) (tE (WR X.K) X.gx E0' Fe) own σ H Q' := by
  obtain ⟨M, ls, S, rel, lr, h⟩ := h
  refine ⟨M, ls, S, rel, lr, h.bindX fun ds S1 M1 H1 J _ x1 rel1 good h1 => fun Dl hD => ?_⟩
  obtain ⟨Gd, g0, gm, hgo, hst, hy⟩ := good
  have lr1 := lr.mono x1.g x1.p
  refine ⟨fun i n H => n = ds.length - i ∧ i ≤ ds.length ∧ Gd H ∧ ∃ M2 S2 acc vs, H Dl = some (.lst vs) ∧ DRs X.K H vs acc ∧ Dl ∉ M2 ∧ Rel X.gx M2 S2 H ∧ LR X.gx M2 H σ ls ∧ Ext M1 H1 M2 H ∧
      OK (WR X.K) X.gx E M1 H1 (((compL (fun x => bindD tgm x (wipeL ls own)) Fc Fe (ds.drop i) acc S2).noex).bind fun ys S2 => newL m ys S2) Q,
    ⟨ds.length, by omega, by omega, gm _ _ (Grow.new hD) g0, M1, S1, [], [], upd_same, .nil, fun hm => rel1.on Dl hm hD, rel1.new hD, lr1.mono (Grow.new hD) (Pre.refl _), Ext.new hD, h1⟩, ?_⟩
  rintro i n H2 ⟨rfl, hi, gd, M2, S2, acc, vs, hDl, dd, hn, rel2, lr2, x2, h2⟩
  by_cases hlt : i < ds.length
  · refine .inr ⟨hgo i H2 gd hlt, fun H => Gd H ∧ ∃ M2 S2 acc vs, H Dl = some (.lst vs) ∧ DRs X.K H vs acc ∧ Dl ∉ M2 ∧ Rel X.gx M2 S2 H ∧ LR X.gx M2 H σ ls ∧ Ext M1 H1 M2 H ∧
      OK (WR X.K) X.gx E M1 H1 (((compL (fun x => bindD tgm x (wipeL ls own)) Fc Fe (ds.drop (i + 1)) acc S2).noex).bind fun ys S2 => newL m ys S2) Q,
      fun H' q => ⟨ds.length - (i + 1), by omega, rfl, hlt, q.1, q.2⟩, fun x H3 y => ?_⟩
    have e : ds[i]? = some ds[i] := List.getElem?_eq_getElem hlt
    obtain ⟨xt, gd3, r⟩ := hy i H2 x H3 _ gd y e
    obtain ⟨xx, rel3⟩ := xt M2 S2 rel2
    rw [List.drop_eq_getElem_cons hlt] at h2
    unfold compL at h2
    cases e2 : bindD tgm ds[i] (wipeL ls own) with
    | none => simp only [e2] at h2; exact h2.elim
    | some l =>
      simp only [e2] at h2
      obtain ⟨hD3, hn3⟩ := xx.at hDl hn
      refine bind_okW ho ((lr2.mono xx.g xx.p).wipe own) r e2 fun σ2 lrl hw => ⟨hw.trans wipe_wipe, ?_⟩
      obtain ⟨b, S3, e3, h3⟩ := noex_test h2
      refine ⟨M2, l, S2, rel3, lrl, ?_⟩
      rw [e3]
      intro M4 H4 v x4 rel4 wv
      cases wv
      refine ⟨b, rfl, ?_⟩
      obtain ⟨hD4, hn4⟩ := x4.at hD3 hn3
      have lr4 := (lr2.mono xx.g xx.p).mono x4.g x4.p
      have lrl4 := lrl.mono x4.g x4.p
      have d4 := DRs.mono x4.g _ _ (DRs.mono xx.g _ _ dd)
      have gd4 := gm _ _ x4.g gd3
      have x14 := (x2.trans xx).trans x4
      cases b with
      | false =>
        simp only [Bool.false_eq_true, if_false] at h3 ⊢
        exact ⟨gd4, M4, S3, acc, vs, hD4, d4, hn4, rel4, lr4, x14, h3⟩
      | true =>
        simp only [if_true] at h3 ⊢
        obtain ⟨w, S5, e5, h5⟩ := noex_bind h3
        refine ⟨M4, l, S3, rel4, lrl4, ?_⟩
        rw [e5]
        intro M6 H6 u x6 rel6 wu
        cases w with
        | r k => exact h5.elim
        | d y =>
          by_cases hz : acc.length < sizeLine
          · simp only [hz, decide_true, if_true] at h5
            obtain ⟨hD6, hn6⟩ := x6.at hD4 hn4
            have d6 := DRs.mono x6.g _ _ d4
            have g6 : Grow H6 (upd H6 Dl (.lst (vs ++ [u]))) := Grow.put hD6 (fun _ z => nomatch z) (fun _ _ z => nomatch z) no_code
            refine ⟨vs, hD6, by rw [dd.length]; exact hz, gm _ _ g6 (gm _ _ x6.g gd4), M6, S5, acc ++ [y], vs ++ [u], upd_same, ?_, hn6, rel6.other hD6 hn6, (lr4.mono x6.g x6.p).mono g6 (Pre.refl _), (x14.trans x6).list hD hD6, h5⟩
            exact (DRs.mono g6 _ _ d6).append (.cons (DR.mono g6 _ _ wu) .nil)
          · simp only [hz, decide_false] at h5
            exact h5.elim
  · have e : i = ds.length := by omega
    subst e
    rw [List.drop_length] at h2
    refine .inl ⟨hst H2 gd, ?_⟩
    cases m with
    | true =>
      have h2 : OK (WR X.K) X.gx E M1 H1 (.ok (.r S2.length) (S2 ++ [.list acc])) Q := h2
      refine q1 rfl _ _ (h2 (M2 ++ [Dl]) H2 (.ref Dl) ⟨x2.g, x2.p.trans ⟨[Dl], rfl⟩, x2.fr, fun a h n => ?_⟩ (rel2.adopt hDl hn dd) ⟨Dl, ?_, rfl⟩)
      · rcases List.mem_append.mp h with h | h
        · exact x2.nw a h n
        · have : a = Dl := by simpa using h
          rw [this]; exact hD
      · rw [List.getElem?_append_right (by rw [rel2.len]; exact Nat.le_refl _), rel2.len, Nat.sub_self]
        rfl
    | false =>
      have h2 : OK (WR X.K) X.gx E M1 H1 (.ok (.d (.list acc)) S2) Q := h2
      refine q2 rfl Dl vs _ hDl fun o => ?_
      have g : Grow H2 (upd H2 Dl (.frz o (.lst vs))) := Grow.put hDl (fun _ z => nomatch z) (fun _ _ z => nomatch z) no_code
      exact h2 M2 _ (.ref Dl) (x2.list hD hDl) (rel2.other hDl hn) (.lst (.inl ⟨o, upd_same⟩) (DRs.mono g _ _ dd))
end

section
variable {X : Cx} {E : Nat → Hp → Prop} {FI : Loc → Store → Res (List D)} {Fc Fe : Loc → Store → Res W} {tgm : Tg} {ownN : List (Str × Nat)} {elt tg iter : Expr} {ifs : List Expr} {scope : Scope} {pos : Pos}
abbrev Pc (X : Cx) (Fc : Loc → Store → Res W) (ifs : List Expr) : Prop := PTs X ifs (tB (tE (WR X.K) X.gx E0' Fc))
theorem c_nil : Pc X (fun _ S => .ok (.d (.bool true)) S) [] := ⟨fun pins s σ H Q I ⟨M, ls, S, rel, lr, h⟩ => by
  obtain ⟨c, e, q⟩ := OK.datum (E := E0') h rel (.bl true)
  cases e
  exact pts_nil.run pins s σ H Q I q⟩
theorem x_comp {m : Bool} (hc : X.calm = true) (hN : X.N.Nodup) (hi : Pi X E FI tg iter) (ok : BlkOk X.N X.env.scope scope ownN) (ho : ∀ j ∈ tgSlots tgm, j ∈ ownN.map (·.2))
    (hg : ∀ (s : Shared) (H : Hp) (C : Addr) (cl : List (Str × Addr)) (fp : List Addr), PG (X.blk s H scope (compEnvC scope cl C X.env) fp) tg (gT X.K tgm))
    (ht : ∀ (s : Shared) (H : Hp) (C : Addr) (cl : List (Str × Addr)) (fp : List Addr), Pc (X.blk s H scope (compEnvC scope cl C X.env) fp) Fc ifs)
    (he : ∀ (s : Shared) (H : Hp) (C : Addr) (cl : List (Str × Addr)) (fp : List Addr), Pe (X.blk s H scope (compEnvC scope cl C X.env) fp) E0' Fe elt) (hs : ∀ x, foldedSetIterable iter X.env x = pure x) :
    Pe X E (compF FI Fc Fe tgm (ownN.map (·.2)) m) (.ListComp elt [⟨tg, iter, ifs, 0⟩] scope pos) := by
  have base := pe_lc (pos := pos) (tt := tB (tE (WR X.K) X.gx E0' Fc)) (te := tE (WR X.K) X.gx E0' Fe) hc hN hi ok hg ht he hs
  cases m with
  | true => exact PE.mono base fun σ H Q h => comp_sub (m := true) ho (fun _ _ _ q => q) (fun z => nomatch z) h
  | false => exact PE.mono (pe_lk base) fun σ H Q h => comp_sub (m := false) ho (fun z => nomatch z) (fun _ a xs H' e q => ⟨a, xs, rfl, e, q⟩) h
theorem ps_lk {st : Stmt} {t : TS} (h : PS X st t) : PS X st (fun D σ H => t { D with nx := fun σ' H' => ∃ a xs, H' a = some (.lst xs) ∧ ∀ o, D.nx σ' (upd H' a (.frz o (.lst xs))) } σ H) := by
  refine ⟨fun pins s σ H D I hw => thn (h.run pins s σ H _ I hw) fun f s' q => ?_⟩
  cases f with
  | next =>
    obtain ⟨σ', H', I', a, xs, ha, q⟩ := q
    obtain ⟨o, I2⟩ := I'.lock ha trivial
    exact ⟨σ', _, I2, q o⟩
  | brk => exact q
  | cont => exact q
  | ret u => exact q
theorem s_setLc {m : Bool} {i : Nat} {y : Str} {py spos : Pos} (hc : X.calm = true) (hN : X.N.Nodup) (hy : X.N[i]? = some y) (hyl : X.env.scope.names.lookup y = some .local)
    (hsw : swapsWith (.ListComp elt [⟨tg, iter, ifs, 0⟩] scope pos) (some (.Name y py)) spos.line X.env = pure true) (hi : Pi X E FI tg iter) (ok : BlkOk X.N X.env.scope scope ownN) (ho : ∀ j ∈ tgSlots tgm, j ∈ ownN.map (·.2))
    (hg : ∀ (s : Shared) (H : Hp) (C : Addr) (cl : List (Str × Addr)) (fp : List Addr), PG (X.blk s H scope (compEnvC scope cl C X.env) fp) tg (gT X.K tgm))
    (ht : ∀ (s : Shared) (H : Hp) (C : Addr) (cl : List (Str × Addr)) (fp : List Addr), Pc (X.blk s H scope (compEnvC scope cl C X.env) fp) Fc ifs)
    (he : ∀ (s : Shared) (H : Hp) (C : Addr) (cl : List (Str × Addr)) (fp : List Addr), Pe (X.blk s H scope (compEnvC scope cl C X.env) fp) E0' Fe elt) (hs : ∀ x, foldedSetIterable iter X.env x = pure x) :
    Ps X E (fun ls S => (compF FI Fc Fe tgm (ownN.map (·.2)) m ls S).bind fun w S1 => .ok (.nx (ls.set i (some w))) S1) (.Assign [.Name y py] (.ListComp elt [⟨tg, iter, ifs, 0⟩] scope pos) spos) := by
  have base := ps_setLc (py := py) (spos := spos) (pos := pos) (tt := tB (tE (WR X.K) X.gx E0' Fc)) (te := tE (WR X.K) X.gx E0' Fe) hc hN hy hyl hsw hi ok hg ht he hs
  have key : ∀ (D : Ends) (σ : L2.St) (H : Hp), tS X.gx E (fun ls S => (compF FI Fc Fe tgm (ownN.map (·.2)) m ls S).bind fun w S1 => .ok (.nx (ls.set i (some w))) S1) D σ H →
      tE (WR X.K) X.gx E (compF FI Fc Fe tgm (ownN.map (·.2)) m) σ H (fun x H1 => D.nx (σ.set i (some x)) H1) := by
    intro D σ H ⟨M, ls, S, rel, lr, h⟩
    exact ⟨M, ls, S, rel, lr, OK.bind (R' := FR X.gx) h fun x S1 M1 H1 v _ g p rel1 wx h1 => OK.nx (E := E) h1 rel1 ((lr.mono g p).set wx i)⟩
  cases m with
  | true => exact PS.mono base fun D σ H h => comp_sub (m := true) ho (fun _ _ _ q => q) (fun z => nomatch z) (key D σ H h)
  | false => exact PS.mono (ps_lk base) fun D σ H h => comp_sub (m := false) ho (fun z => nomatch z) (fun _ a xs H' e q => ⟨a, xs, e, q⟩) (key D σ H h)
end
end MI

end S_MiI
section S_MiJ
namespace MI
open PySem PySem.Spec PyProof.Rows L2

section
variable {G : Gx} {E : Nat → Hp → Prop} {M : List Addr} {S : Store} {H : Hp}
theorem DRs.dropLast {K : PySem.W.Frag} {H : Hp} {vs : List V} {ds : List D} (h : DRs K H vs ds) : DRs K H vs.dropLast ds.dropLast := by
  rw [List.dropLast_eq_take, List.dropLast_eq_take, h.length]
  exact h.take _
theorem set_ok {x k y : W} {v t u : V} {Q : Hp → Prop} (rel : Rel G M S H) (wx : WR G.K M H v x) (wk : WR G.K M H t k) (wy : WR G.K M H u y) (h : OK (fun (_ : List Addr) (_ : Hp) (_ _ : Unit) => True) G E M H (setW x k y S) (fun _ => Q)) : rSetL v t u H Q := by
  cases x with
  | d x => exact h.elim
  | r i =>
    cases k with
    | r k => exact h.elim
    | d k =>
      cases k with
      | int j =>
        cases y with
        | r k => exact h.elim
        | d y =>
          obtain ⟨a, hm, rfl⟩ := wx
          cases wk
          unfold setW at h
          cases q : S[i]? with
          | none => simp only [q] at h; exact h.elim
          | some o =>
            cases o with
            | list ds =>
              simp only [q] at h
              obtain ⟨xs, h1, h2⟩ := rel.ob i _ a q hm
              cases e : placeD ds.length j with
              | none => simp only [e] at h; exact h.elim
              | some p =>
                simp only [e] at h
                have g : Grow H (upd H a (.lst (xs.set p u))) := Grow.put h1 (fun _ z => nomatch z) (fun _ _ z => nomatch z) no_code
                refine ⟨a, xs, j, p, rfl, rfl, h1, by rw [h2.length]; exact e, ?_⟩
                exact h.fin' (b := ()) (Ext.put hm h1 (fun _ z => nomatch z) (fun _ _ z => nomatch z) no_code)
                  (rel.put hm h1 (fun _ z => nomatch z) (fun _ _ z => nomatch z) no_code ⟨_, upd_same, DRs.set (DR.mono g _ _ wy) p (DRs.mono g _ _ h2)⟩) trivial
            | lstK k z ds =>
              simp only [q] at h
              obtain ⟨xs, h1, h2⟩ := rel.ob i _ a q hm
              cases e : placeD ds.length j with
              | none => simp only [e] at h; exact h.elim
              | some p =>
                simp only [e] at h
                have g : Grow H (upd H a (.lst (xs.set p u))) := Grow.put h1 (fun _ z => nomatch z) (fun _ _ z => nomatch z) no_code
                refine ⟨a, xs, j, p, rfl, rfl, h1, by rw [h2.length]; exact e, ?_⟩
                exact h.fin' (b := ()) (Ext.put hm h1 (fun _ z => nomatch z) (fun _ _ z => nomatch z) no_code)
                  (rel.put hm h1 (fun _ z => nomatch z) (fun _ _ z => nomatch z) no_code ⟨_, upd_same, DRs.set (DR.mono g _ _ wy) p (DRs.mono g _ _ h2)⟩ (hk2 := fun k' z' xs' e' => by cases e'; exact ⟨_, q⟩)) trivial
            | _ => simp only [q] at h; exact h.elim
      | _ => cases y <;> exact h.elim
end

section
variable {X : Cx} {E : Nat → Hp → Prop} {a b c : Expr} {tg : Expr} {es : List Expr} {pos p p2 p3 apos : Pos} {F F1 F2 F3 : Loc → Store → Res W} {FL : Loc → Store → Res (List W)}
theorem SqL.tyV {K : PySem.W.Frag} {H : Hp} {p : Addr} {xs : List V} (h : SqL K H p xs) : tyV K "list" (.ref p) H := .inl ⟨rfl, xs, h⟩
def LRr (G : Gx) (M : List Addr) (H : Hp) (σ : L2.St) (ls : Loc) : Prop := LR G M H σ ls
def gLV (G : Gx) (E : Nat → Hp → Prop) (call : Call) (lv : LV) : TG := fun v σ H Q => ∃ M ls S w, Rel G M S H ∧ LR G M H σ ls ∧ WR G.K M H v w ∧ OK (LRr G) G E M H (asgLV call lv w ls S) Q
def gLVs (G : Gx) (E : Nat → Hp → Prop) (call : Call) (lvs : List LV) : TGs := fun vs σ H Q => ∃ M ls S ws, Rel G M S H ∧ LR G M H σ ls ∧ WRs G.K M H vs ws ∧ OK (LRr G) G E M H (asgAll call lvs ws ls S) Q
variable {call : Call}
theorem PGs.mono {ts : List Expr} {t t' : TGs} (h : PGs X ts t) (k : ∀ vs σ H Q, t' vs σ H Q → t vs σ H Q) : PGs X ts t' := ⟨fun pins s σ H vs us Q I r hw => h.run pins s σ H vs us Q I r (k vs σ H Q hw)⟩
noncomputable abbrev parF (call : Call) (FL : Loc → Store → Res (List W)) (lvs : List LV) : Loc → Store → Res Fl := fun ls S => (FL ls S).bind fun ws S1 => (asgAll call lvs ws ls S1).bind fun l S2 => .ok (.nx l) S2
theorem s_swap2 {i j : Nat} {x y : Str} {px py pt pt2 : Pos} {kt k2 : Nat} (hc : X.calm = true) (hN : X.N.Nodup) (hi : X.N[i]? = some x) (hj : X.N[j]? = some y) (hij : i ≠ j)
    (hx : X.env.scope.names.lookup x = some .local) (hy : X.env.scope.names.lookup y = some .local) (ha : Pa X E FL [a, b]) (hw : swappedStores [.Tuple [.Name x px, .Name y py] kt pt] (.Tuple [a, b] k2 pt2) X.env = pure (some [x, y])) (hl : ∀ ls S ws S1, FL ls S = .ok ws S1 → ws.length = 2) :
    Ps X E (parF call FL [.nm i, .nm j]) (.Assign [.Tuple [.Name x px, .Name y py] kt pt] (.Tuple [a, b] k2 pt2) pos) := by
  refine PS.mono (ps_par hc hN hi hj hij hx hy ha hw rfl) fun D σ H ⟨M, ls, S, rel, lr, h⟩ => ?_
  refine ⟨M, ls, S, rel, lr, OK.bind (R' := FR X.gx) h fun ws S1 M1 H1 vs e1 g p rel1 wr h1 => ?_⟩
  have hlen := hl _ _ _ _ e1
  match ws, hlen, wr, h1 with
  | [w, u], _, .cons (v := v) r (.cons (v := t) r2 .nil), h1 =>
    exact ⟨v, t, rfl, OK.nx (E := E) h1 rel1 (((lr.mono g p).set r i).set r2 j)⟩
theorem s_setx {FA FB : Loc → Store → Res W} {ev : Expr} {tp : Pos} (h0 : Pe X E F ev) (h1 : Pe X E FA a) (h2 : Pe X E FB b) (ha : ∀ v, assign (.Subscript a b tp) X.env v = (do
      let ov ← holding [v] (eval a X.env)
      let iv ← holding [v, ov] (eval b X.env)
      standAt tp
      holding [v, ov, iv] (setItem ov iv v)
      release [v, ov, iv] [])) (hs : swapsWithSole [.Subscript a b tp] ev pos.line X.env = pure false) :
    Ps X E (fun ls S => (F ls S).bind fun w S1 => (FA ls S1).bind fun x S2 => (FB ls S2).bind fun y S3 => (setW x y w S3).bind fun _ S4 => .ok (.nx ls) S4) (.Assign [.Subscript a b tp] ev pos) := by
  refine PS.mono (ps_asg h0 (pg_sub h1 h2 set_list ha) hs rfl rfl) fun D σ H ⟨M, ls, S, rel, lr, h⟩ => ?_
  refine ⟨M, ls, S, rel, lr, OK.bind (R' := FR X.gx) h fun w S1 M1 H1 v _ g p rel1 wv h1 => ?_⟩
  refine ⟨M1, ls, S1, rel1, lr.mono g p, OK.bind (R' := FR X.gx) h1 fun x S2 M2 H2 o _ g2 p2 rel2 wx h2 => ?_⟩
  refine ⟨M2, ls, S2, rel2, (lr.mono g p).mono g2 p2, OK.bind (R' := FR X.gx) h2 fun y S3 M3 H3 u _ g3 p3 rel3 wy h3 => ?_⟩
  refine set_ok rel3 (wx.mono g3 p3) wy ((wv.mono g2 p2).mono g3 p3) (OK.bind (R' := FR X.gx) (Q1 := fun (_ : Unit) H => D.nx σ H) h3 fun z S4 M4 H4 t _ g4 p4 rel4 _ h4 => ?_)
  exact OK.nx (E := E) h4 rel4 ((((lr.mono g p).mono g2 p2).mono g3 p3).mono g4 p4)
end
end MI

end S_MiJ
section S_MiK
namespace MI
open PySem PySem.Spec PyProof.Rows L2
structure Inf where
  cv : Nat → Value
  call : Call
  k : Nat
  fns : List (Nat × Str × List Str)
  bn : List Str
  gs : List (Str × D)
  es : List (Nat × Str)
abbrev En (I : Inf) (Ex : XK) : Nat → Hp → Prop := fun c H' => Ex (I.cv c) none H'

def visB (sc : Scope) (x : Str) : Bool := (match sc.names.lookup x with | some .local => true | some .cell => true | some .free => true | _ => false) && !(x == ("__debug__" : Str)) && !(x == ("__classdict__" : Str))
def asgB (top : Bool) (sc : Scope) (x : Str) : Bool := match sc.names.lookup x with | some .local => true | some .cell => top | _ => false
def locB (sc : Scope) (x : Str) : Bool := match sc.names.lookup x with | some .local => true | _ => false
def glB (sc : Scope) (x : Str) : Bool := (match sc.names.lookup x with | some .globalImplicit => true | _ => false) && !(x == ("__debug__" : Str))
theorem visB_vis {sc : Scope} {x : Str} (h : visB sc x = true) : Vis sc x ∧ (x == ("__debug__" : Str)) = false ∧ (x == ("__classdict__" : Str)) = false := by
  unfold visB at h
  simp only [Bool.and_eq_true, Bool.not_eq_true'] at h
  refine ⟨?_, h.1.2, h.2⟩
  have h1 := h.1.1
  unfold Vis
  split at h1
  · exact .inl ‹_›
  · exact .inr (.inl ‹_›)
  · exact .inr (.inr ‹_›)
  · cases h1
theorem asgB_loc {top : Bool} {sc : Scope} {x : Str} (h : asgB top sc x = true) : L2.Loc sc x ∧ (top = true ∨ sc.names.lookup x = some .local) := by
  unfold asgB at h
  unfold L2.Loc
  split at h
  · exact ⟨.inl ‹_›, .inr ‹_›⟩
  · exact ⟨.inr ‹_›, .inl h⟩
  · cases h
theorem locB_loc {sc : Scope} {x : Str} (h : locB sc x = true) : sc.names.lookup x = some .local := by
  unfold locB at h
  split at h
  · assumption
  · cases h
theorem glB_gl {sc : Scope} {x : Str} (h : glB sc x = true) : sc.names.lookup x = some .globalImplicit ∧ (x == ("__debug__" : Str)) = false := by
  unfold glB at h
  simp only [Bool.and_eq_true, Bool.not_eq_true'] at h
  refine ⟨?_, h.2⟩
  have h1 := h.1
  split at h1
  · assumption
  · cases h1
def EsOk (K : PySem.W.Frag) (mg : Str → Option Value) (cv : Nat → Value) (c : Nat) (x : Str) : Prop :=
  ∃ C, mg x = some (.ref C) ∧ cv c = .ref C ∧ PySem.W.keepIn K (.ref C) = true ∧ PySem.W.excIn K C [.type "ValueError", .type "Exception", .type "BaseException", .type "object"] "ValueError.__new__" = true ∧ PySem.W.subIn K (.ref C) (.type "BaseException") = some true ∧ PySem.W.typeIn K (.ref C) = some (.type "type")
def KD (K : PySem.W.Frag) (w : World) (v : V) (kvs : List (D × D)) : Prop := ∃ (b : Addr) (es : Array DictEntry) (n : Nat), v = .ref b ∧ L2.KDict K w b es n ∧ ∀ z : Str, ∃ r, PySem.W.nsIn K b z = some r ∧ ((lookD kvs z = none ∧ r = none) ∨ ∃ d u v', lookD kvs z = some d ∧ r = some u ∧ RelV v' u ∧ ∀ H, DR K H v' d)
def GR (K : PySem.W.Frag) (w : World) (v : V) (d : D) : Prop := match d with
  | .dict kvs => KD K w v kvs
  | d => ∀ H, DR K H v d
def isDc (d : D) : Bool := match d with
  | .dict _ => true
  | _ => false
theorem GR.dr {K : PySem.W.Frag} {w : World} {v : V} {d : D} (h : GR K w v d) (hn : isDc d = false) : ∀ H, DR K H v d := by
  cases d <;> first | exact h | cases hn
structure Cn (I : Inf) (Ex : XK) (top : Bool) (sc : Scope) (N : List Str) (X : Cx) : Prop where
  esc : X.env.scope = sc
  eN : X.N = N
  room : Room I.k X.A
  calm : X.calm = true
  nd : X.N.Nodup
  kind : sc.kind = .function
  fn : top = true → ∀ x, X.fn x = true
  pass : Passes (L2.CX X.prog X.w) X Ex
  tk : Takes X (fun cls d _ H => Ex cls d H)
  stk : top = true → X.stack = X.env :: X.outer ∧ X.env.frame = some X.env.locals
  es : ∀ (j c : Nat) (x : Str), I.es[j]? = some (c, x) → EsOk X.K X.mg I.cv c x
  exm : ∀ (j j' c c' : Nat) (x x' : Str), I.es[j]? = some (c, x) → I.es[j']? = some (c', x') → PySem.W.exmOne X.K (I.cv c) (I.cv c') = some (c == c')
  tb : ∀ (j i : Nat) (x : Str) (ps : List Str), I.fns[j]? = some (i, x, ps) → ∃ (fa : Addr) (fd : FuncData), X.mg x = some (.ref fa) ∧ PySem.W.keepIn X.K (.ref fa) = true ∧ Binds X.K fd ps [] ∧
    FnOk X.prog X.w X.K X.mg X.base (L2.CX X.prog X.w) I.k fa fd ps (spM X.gx I.cv I.call i ps.length)
  bn : ∀ (j : Nat) (x : Str), I.bn[j]? = some x → X.mg x = none
  gs : ∀ (j : Nat) (x : Str) (d : D), I.gs[j]? = some (x, d) → ∃ (u : Value) (v : V), X.mg x = some u ∧ RelV v u ∧ GR X.K X.w v d ∧ ((∃ ds, d = .tuple ds) → ∀ H, L2.tyV X.K "tuple" v H)

section
variable {I : Inf} {Ex : XK} {top : Bool} {sc : Scope} {N : List Str} {X : Cx}
theorem Cn.nox (c : Cn I Ex top sc N X) : Cn I E0 top sc N X.nox := ⟨c.esc, c.eN, c.room, c.calm, c.nd, c.kind, c.fn, passL, takes0, c.stk, c.es, c.exm, c.tb, c.bn, c.gs⟩
theorem Cn.hu (c : Cn I Ex top sc N X) : X.A.units + 64 < cLine := c.room.units
theorem Cn.blk (c : Cn I Ex top sc N X) {scope : Scope} (hk : scope.kind = .function) (s : Shared) (H : Hp) (C : Addr) (cl : List (Str × Addr)) (fp : List Addr) :
    Cn I E0 false (relS scope sc) N (X.blk s H scope (compEnvC scope cl C X.env) fp) :=
  ⟨by rw [← c.esc]; rfl, c.eN, c.room, c.calm, c.nd, hk, (fun e => nomatch e), passL, takes0, (fun e => nomatch e), c.es, c.exm, c.tb, c.bn, c.gs⟩
theorem Cn.at (c : Cn I Ex top sc N X) {i : Nat} {x : Str} (h : N[i]? = some x) : X.N[i]? = some x := by rw [c.eN]; exact h
theorem Cn.vis (c : Cn I Ex top sc N X) {x : Str} (h : visB sc x = true) : Vis X.env.scope x := by rw [c.esc]; exact (visB_vis h).1
theorem Cn.loc (c : Cn I Ex top sc N X) {x : Str} (h : asgB top sc x = true) : L2.Loc X.env.scope x ∧ (X.fn x = true ∨ X.env.scope.names.lookup x = some .local) := by
  have := asgB_loc h
  rw [c.esc]
  exact ⟨this.1, this.2.imp (fun e => c.fn e x) id⟩
theorem Cn.gl (c : Cn I Ex top sc N X) {x : Str} (h : glB sc x = true) : Gl X x := by
  unfold Gl Env.kindOf
  rw [c.esc]
  exact (glB_gl h).1
abbrev Je (I : Inf) (Ex : XK) (X : Cx) (m : MI.E) (e : Expr) : Prop := Pe X (En I Ex) (evE I.call m) e
abbrev Jt (I : Inf) (Ex : XK) (X : Cx) (m : MI.E) (e : Expr) : Prop := Pt X (En I Ex) (evE I.call m) e
abbrev Jw (I : Inf) (Ex : XK) (X : Cx) (m : MI.E) (e : Expr) : Prop := Pw X (En I Ex) (evE I.call m) e
abbrev Ja (I : Inf) (Ex : XK) (X : Cx) (m : MI.E) (es : List Expr) : Prop := Pa X (En I Ex) (evL I.call m) es
abbrev Ji (I : Inf) (Ex : XK) (X : Cx) (m : MI.E) (tg e : Expr) : Prop := Pi X (En I Ex) (evI I.call m) tg e
abbrev Js (I : Inf) (Ex : XK) (X : Cx) (F : Nat) (m : M) (st : Stmt) : Prop := Ps X (En I Ex) (exM I.call F m) st
abbrev Jb (I : Inf) (Ex : XK) (X : Cx) (F : Nat) (m : M) (st : List Stmt) : Prop := Pss X (En I Ex) (exM I.call F m) st

variable {a b d : Expr} {ma mb md : MI.E} {pos p p2 p3 : Pos} {es : List Expr} {x : Str} {F : Nat}
theorem Pe.cast {E : Nat → Hp → Prop} {F1 F2 : Loc → Store → Res W} {e : Expr} (h : Pe X E F1 e) (q : F2 = F1) : Pe X E F2 e := by rw [q]; exact h
theorem Pt.cast {E : Nat → Hp → Prop} {F1 F2 : Loc → Store → Res W} {e : Expr} (h : Pt X E F1 e) (q : F2 = F1) : Pt X E F2 e := by rw [q]; exact h
theorem Pw.cast {E : Nat → Hp → Prop} {F1 F2 : Loc → Store → Res W} {e : Expr} (h : Pw X E F1 e) (q : F2 = F1) : Pw X E F2 e := by rw [q]; exact h
theorem Pa.cast {E : Nat → Hp → Prop} {F1 F2 : Loc → Store → Res (List W)} {e : List Expr} (h : Pa X E F1 e) (q : F2 = F1) : Pa X E F2 e := by rw [q]; exact h
theorem Pi.cast {E : Nat → Hp → Prop} {F1 F2 : Loc → Store → Res (List D)} {t e : Expr} (h : Pi X E F1 t e) (q : F2 = F1) : Pi X E F2 t e := by rw [q]; exact h
theorem Ps.cast {E : Nat → Hp → Prop} {F1 F2 : Loc → Store → Res Fl} {e : Stmt} (h : Ps X E F1 e) (q : F2 = F1) : Ps X E F2 e := by rw [q]; exact h
theorem Pss.cast {E : Nat → Hp → Prop} {F1 F2 : Loc → Store → Res Fl} {e : List Stmt} (h : Pss X E F1 e) (q : F2 = F1) : Pss X E F2 e := by rw [q]; exact h

theorem k_var (c : Cn I Ex top sc N X) {i : Nat} (hN : N[i]? = some x) (hv : visB sc x = true) : Je I Ex X (.var i) (.Name x pos) :=
  (x_var (c.at hN) (c.vis hv) (visB_vis hv).2.1 (visB_vis hv).2.2).cast (by funext ls S; rw [evE]; try rfl)
theorem k_int {i : Int} {j : Nat} : Je I Ex X (.cst (.int i)) (.Constant (.int i) j pos) := x_int.cast (by funext ls S; rw [evE])
theorem k_bool {i : Bool} {j : Nat} : Je I Ex X (.cst (.bool i)) (.Constant (.bool i) j pos) := x_bool.cast (by funext ls S; rw [evE])
theorem k_none {j : Nat} : Je I Ex X (.cst .none) (.Constant .none j pos) := x_none.cast (by funext ls S; rw [evE])
theorem k_str {i : Str} {j : Nat} : Je I Ex X (.cst (.str i)) (.Constant (.str i) j pos) := x_str.cast (by funext ls S; rw [evE])
theorem k_glb (c : Cn I Ex top sc N X) (j : Nat) {v : D} (h : I.gs[j]? = some (x, v)) (hg : glB sc x = true) (hn : isDc v = false := by rfl) : Je I Ex X (.glb x v) (.Name x pos) := by
  obtain ⟨u, w, h1, h2, h3, _⟩ := c.gs j x v h
  exact (x_glob (c.gl hg) h1 h2 (glB_gl hg).2 (h3.dr hn)).cast (by funext ls S; rw [evE])
theorem k_add (h1 : Je I Ex X ma a) (h2 : Je I Ex X mb b) : Je I Ex X (.bin .add ma mb) (.BinOp a .Add b pos) :=
  (x_bin op_addA (fun _ _ _ _ _ _ _ _ rel wx wy h => add_ok rel wx wy h) h1 h2).cast (by funext ls S; rw [evE])
theorem k_mul (h1 : Je I Ex X ma a) (h2 : Je I Ex X mb b) : Je I Ex X (.bin .mul ma mb) (.BinOp a .Mult b pos) :=
  (x_bin op_mul (fun _ _ _ _ _ _ _ _ rel wx wy h => mul_ok rel wx wy h) h1 h2).cast (by funext ls S; rw [evE])
theorem k_fdiv (h1 : Je I Ex X ma a) (h2 : Je I Ex X mb b) : Je I Ex X (.bin .fdiv ma mb) (.BinOp a .FloorDiv b pos) :=
  (x_bin op_fdiv (fun _ _ _ _ _ _ _ _ rel wx wy h => fdiv_ok rel wx wy h) h1 h2).cast (by funext ls S; rw [evE])
theorem k_mod (h1 : Je I Ex X ma a) (h2 : Je I Ex X mb b) : Je I Ex X (.bin .mod ma mb) (.BinOp a .Mod b pos) :=
  (x_bin op_mod (fun _ _ _ _ _ _ _ _ rel wx wy h => mod_ok rel wx wy h) h1 h2).cast (by funext ls S; rw [evE])
theorem k_pow (h1 : Je I Ex X ma a) (h2 : Je I Ex X mb b) : Je I Ex X (.bin .pow ma mb) (.BinOp a .Pow b pos) :=
  (x_bin op_pow (fun _ _ _ _ _ _ _ _ rel wx wy h => pow_ok rel wx wy h) h1 h2).cast (by funext ls S; rw [evE])
theorem k_not (h1 : Je I Ex X ma a) : Je I Ex X (.nt ma) (.UnaryOp .Not a pos) := (x_not h1).cast (by funext ls S; rw [evE])
theorem kt_not (h1 : Jt I Ex X ma a) : Jt I Ex X (.nt ma) (.UnaryOp .Not a pos) := (t_not h1).cast (by funext ls S; rw [evE])
theorem k_one {o : BoolOp} (h1 : Je I Ex X ma a) : Je I Ex X ma (.BoolOp o [a] pos) := x_one h1
theorem k_and {r : List Expr} (h1 : Je I Ex X ma a) (h2 : Je I Ex X mb (.BoolOp .And (b :: r) pos)) : Je I Ex X (.and ma mb) (.BoolOp .And (a :: b :: r) pos) := (x_and h1 h2).cast (by funext ls S; rw [evE])
theorem kw_or1 (h1 : Jt I Ex X ma a) : Jw I Ex X ma (.BoolOp .Or [a] pos) := w_or1 h1
theorem kw_or {r : List Expr} (h1 : Jt I Ex X ma a) (h2 : Jw I Ex X mb (.BoolOp .Or (b :: r) pos)) : Jw I Ex X (.or ma mb) (.BoolOp .Or (a :: b :: r) pos) := (w_or h1 h2).cast (by funext ls S; rw [evE])
theorem kt_w (h : Jw I Ex X ma a) : Jt I Ex X ma a := PW.pt h
theorem kt_val (h : Je I Ex X ma a) (he : ∀ whole, isTrue a X.env whole = (do let v ← whole; standAt a.pos; holding [v] (truthy v)) := by intro _; rfl) : Jt I Ex X ma a := t_val h he
theorem k_cmp (c : Cn I Ex top sc N X) (op : COp) (h1 : Je I Ex X ma a) (h2 : Je I Ex X mb b) (hm : behindInMarks (cop op) b = false := by with_unfolding_all rfl) : Je I Ex X (.cmp op ma mb) (.Compare a [cop op] [b] pos) := (x_cmp c.hu hm h1 h2).cast (by funext ls S; rw [evE])
theorem kt_cmp (c : Cn I Ex top sc N X) (op : COp) (h1 : Je I Ex X ma a) (h2 : Je I Ex X mb b) (hm : behindInMarks (cop op) b = false := by with_unfolding_all rfl) : Jt I Ex X (.cmp op ma mb) (.Compare a [cop op] [b] pos) := (t_cmp c.hu hm h1 h2).cast (by funext ls S; rw [evE])
theorem k_chn (c : Cn I Ex top sc N X) (o o' : COp) (h1 : Je I Ex X ma a) (h2 : Je I Ex X mb b) (h3 : Je I Ex X md d) (hm : lastMarks [cop o, cop o'] [b, d] = false := by with_unfolding_all rfl) : Je I Ex X (.chn o o' ma mb md) (.Compare a [cop o, cop o'] [b, d] pos) :=
  (x_chain c.hu hm h1 h2 h3).cast (by funext ls S; rw [evE])
theorem k_ife (h1 : Jt I Ex X ma a) (h2 : Je I Ex X mb b) (h3 : Je I Ex X md d) : Je I Ex X (.ife ma mb md) (.IfExp a b d pos) := (x_ife h1 h2 h3).cast (by funext ls S; rw [evE])
theorem ka_nil : Ja I Ex X .nil [] := a_nilD.cast (by funext ls S; rw [evL])
theorem ka_cons (h1 : Je I Ex X ma a) (h2 : Ja I Ex X mb es) (hs : starEach (a :: es) X.env = (false, eval a X.env) :: starEach es X.env := by rfl) : Ja I Ex X (.cons ma mb) (a :: es) := (a_cons h1 h2 hs).cast (by funext ls S; rw [evL])
theorem k_tup {k : Nat} (h : Ja I Ex X ma es) : Je I Ex X (.tup ma) (.Tuple es k pos) := (x_tup h).cast (by funext ls S; rw [evE])
theorem k_lst {m : Bool} (h : Ja I Ex X ma es) : Je I Ex X (.lst m ma) (.List es pos) := (x_lst h).cast (by funext ls S; rw [evE])
theorem k_idx (h1 : Je I Ex X ma a) (h2 : Je I Ex X mb b) (hs : PlainIx b := by intro _ _; rfl) : Je I Ex X (.idx ma mb) (.Subscript a b pos) := (x_idx h1 h2 hs).cast (by funext ls S; rw [evE])
theorem k_slcL (h1 : Je I Ex X ma a) (h2 : Je I Ex X mb b) : Je I Ex X (.slc true false ma mb md) (.Subscript a (.Slice (some b) none none p2) pos) := (x_slc h1 (o_some h2) o_none).cast (by funext ls S; rw [evE]; try rfl)
theorem k_slcH (h1 : Je I Ex X ma a) (h3 : Je I Ex X md d) : Je I Ex X (.slc false true ma mb md) (.Subscript a (.Slice none (some d) none p2) pos) := (x_slc h1 o_none (o_some h3)).cast (by funext ls S; rw [evE]; try rfl)
def lenE : MI.E → Nat
  | .cons _ es => lenE es + 1
  | _ => 0
theorem evL_len {call : Call} : ∀ (m : MI.E) {ls : Loc} {S S' : Store} {ws : List W}, evL call m ls S = .ok ws S' → ws.length = lenE m
  | .cons e es, ls, S, S', ws, h => by
    rw [evL] at h
    cases q : evE call e ls S with
    | ok w S1 =>
      rw [q, Res.bind_ok] at h
      cases q2 : evL call es ls S1 with
      | ok ws2 S2 =>
        rw [q2, Res.bind_ok] at h
        cases h
        show ws2.length + 1 = lenE es + 1
        rw [evL_len es q2]
      | ex _ _ => rw [q2] at h; cases h
      | stuck => rw [q2] at h; cases h
    | ex _ _ => rw [q] at h; cases h
    | stuck => rw [q] at h; cases h
  | .nil, ls, S, S', ws, h => by rw [evL] at h; cases h; rfl
  | .var _, _, _, _, _, h | .frz _, _, _, _, _, h | .cst _, _, _, _, _, h | .glb _ _, _, _, _, _, h | .bin _ _ _, _, _, _, _, h | .neg _, _, _, _, _, h | .nt _, _, _, _, _, h | .and _ _, _, _, _, _, h | .or _ _, _, _, _, _, h
  | .cmp _ _ _, _, _, _, _, h | .chn _ _ _ _ _, _, _, _, _, h | .ife _ _ _, _, _, _, _, h | .tup _, _, _, _, _, h | .lst _ _, _, _, _, _, h | .idx _ _, _, _, _, _, h | .omit, _, _, _, _, h | .slc _ _ _ _ _, _, _, _, _, h | .rev _, _, _, _, _, h
  | .call _ _, _, _, _, _, h | .blt _ _, _, _, _, _, h | .cpy _ _, _, _, _, _, h | .isi _ _, _, _, _, _, h | .app _ _, _, _, _, _, h | .pop _, _, _, _, _, h | .indx _ _, _, _, _, _, h | .dget _ _ _, _, _, _, _, h | .ind _ _ _, _, _, _, _, h
  | .didx _ _, _, _, _, _, h | .dlen _, _, _, _, _, h | .dkey _ _, _, _, _, _, h | .dnew, _, _, _, _, h | .dsp1 _ _, _, _, _, _, h | .dfz _, _, _, _, _, h | .comp _ _ _ _ _ _, _, _, _, _, h | .iseq _, _, _, _, _, h | .irng1 _, _, _, _, _, h | .irng2 _ _, _, _, _, _, h
  | .ienum _, _, _, _, _, h | .izip _ _, _, _, _, _, h | .ikey _, _, _, _, _, h | .iitm _, _, _, _, _, h | .splt _ _, _, _, _, _, h | .join _ _, _, _, _, _, h | .rpl _ _, _, _, _, _, h => by rw [evL] at h; all_goals first | cases h | (intros; contradiction) | skip
theorem k_call (c : Cn I Ex top sc N X) (j : Nat) {f : Nat} {ps : List Str} {e : Expr} (h : I.fns[j]? = some (f, x, ps)) (hg : glB sc x = true) (ha : Ja I Ex X ma (e :: es)) (hl : (e :: es).length = ps.length := by rfl) (hm : lenE ma = (e :: es).length := by rfl)
    (he : starEach (e :: es) X.env = (false, eval e X.env) :: starEach es X.env := by rfl) (hpl : (backTo pos (starEach es X.env)).any (·.1) = false := by rfl) : Je I Ex X (.call f ma) (.Call (.Name x p) (e :: es) [] pos) := by
  obtain ⟨fa, fd, h1, h2, h3, h4⟩ := c.tb j f x ps h
  exact (x_callD (n := 0) h4 c.room (c.gl hg) h1 h2 h3 c.pass (glB_gl hg).2 ha hl (fun ls S ws S' q => (evL_len ma q).trans hm) he hpl).cast (by funext ls S; rw [evE])
section
variable {e : Expr}
theorem k_len (c : Cn I Ex top sc N X) (j : Nat) (h : I.bn[j]? = some ("len" : Str)) (hg : glB sc "len" = true) (ha : Ja I Ex X ma (e :: es)) (he : starEach (e :: es) X.env = (false, eval e X.env) :: starEach es X.env := by rfl)
    (hpl : (backTo pos (starEach es X.env)).any (·.1) = false := by rfl) : Je I Ex X (.blt .len ma) (.Call (.Name "len" p) (e :: es) [] pos) :=
  (x_bltF call_len (fun _ _ _ _ _ _ rel wr h => blen_ok rel wr h) (c.gl hg) (c.bn j _ h) PySem.boot_len ha (by decide) (by decide) he hpl).cast (by funext ls S; rw [evE])
theorem k_abs (c : Cn I Ex top sc N X) (j : Nat) (h : I.bn[j]? = some ("abs" : Str)) (hg : glB sc "abs" = true) (ha : Ja I Ex X ma (e :: es)) (he : starEach (e :: es) X.env = (false, eval e X.env) :: starEach es X.env := by rfl)
    (hpl : (backTo pos (starEach es X.env)).any (·.1) = false := by rfl) : Je I Ex X (.blt .abs ma) (.Call (.Name "abs" p) (e :: es) [] pos) :=
  (x_bltF call_abs (fun _ _ _ _ _ _ rel wr h => abs_ok rel wr h) (c.gl hg) (c.bn j _ h) (by decide +kernel) ha (by decide) (by decide) he hpl).cast (by funext ls S; rw [evE])
theorem k_max2 (c : Cn I Ex top sc N X) (j : Nat) (h : I.bn[j]? = some ("max" : Str)) (hg : glB sc "max" = true) (ha : Ja I Ex X ma (e :: es)) (he : starEach (e :: es) X.env = (false, eval e X.env) :: starEach es X.env := by rfl)
    (hpl : (backTo pos (starEach es X.env)).any (·.1) = false := by rfl) : Je I Ex X (.blt .max2 ma) (.Call (.Name "max" p) (e :: es) [] pos) :=
  (x_bltF (call_max2 c.calm) (fun _ _ _ _ _ _ rel wr h => max2_ok rel wr h) (c.gl hg) (c.bn j _ h) (by decide +kernel) ha (by decide) (by decide) he hpl).cast (by funext ls S; rw [evE])
theorem k_min2 (c : Cn I Ex top sc N X) (j : Nat) (h : I.bn[j]? = some ("min" : Str)) (hg : glB sc "min" = true) (ha : Ja I Ex X ma (e :: es)) (he : starEach (e :: es) X.env = (false, eval e X.env) :: starEach es X.env := by rfl)
    (hpl : (backTo pos (starEach es X.env)).any (·.1) = false := by rfl) : Je I Ex X (.blt .min2 ma) (.Call (.Name "min" p) (e :: es) [] pos) :=
  (x_bltF (call_min2 c.calm) (fun _ _ _ _ _ _ rel wr h => min2_ok rel wr h) (c.gl hg) (c.bn j _ h) (by decide +kernel) ha (by decide) (by decide) he hpl).cast (by funext ls S; rw [evE])
theorem k_int1 (c : Cn I Ex top sc N X) (j : Nat) (h : I.bn[j]? = some ("int" : Str)) (hg : glB sc "int" = true) (ha : Ja I Ex X ma (e :: es)) (he : starEach (e :: es) X.env = (false, eval e X.env) :: starEach es X.env := by rfl)
    (hpl : (backTo pos (starEach es X.env)).any (·.1) = false := by rfl) : Je I Ex X (.blt .int ma) (.Call (.Name "int" p) (e :: es) [] pos) :=
  (x_bltT call_int1 (fun _ _ _ _ _ _ rel wr h => int_ok rel wr h) (c.gl hg) (c.bn j _ h) (by decide +kernel) ha (by decide) (by decide) he hpl).cast (by funext ls S; rw [evE])
theorem k_tuple (c : Cn I Ex top sc N X) (j : Nat) (h : I.bn[j]? = some ("tuple" : Str)) (hg : glB sc "tuple" = true) (ha : Ja I Ex X ma (e :: es)) (he : starEach (e :: es) X.env = (false, eval e X.env) :: starEach es X.env := by rfl)
    (hpl : (backTo pos (starEach es X.env)).any (·.1) = false := by rfl) : Je I Ex X (.blt .tuple ma) (.Call (.Name "tuple" p) (e :: es) [] pos) :=
  (x_bltT call_tuple_of (fun _ _ _ _ _ _ rel wr h => tuple_ok rel wr h) (c.gl hg) (c.bn j _ h) (by decide +kernel) ha (by decide) (by decide) he hpl).cast (by funext ls S; rw [evE])
theorem pa_cls {T : String} {y : Str} {E : Nat → Hp → Prop} {FF : Loc → Store → Res W} (hg : Gl X y) (hm : X.mg y = none) (hv : bootBuiltins y = some (.type T)) (hn : y ≠ "__name__") (hd : (y == ("__debug__" : Str)) = false) (h1 : Pe X E FF a) (hs : starEach [a, .Name y p2] X.env = [(false, eval a X.env), (false, eval (.Name y p2) X.env)]) (hs2 : starEach [.Name y p2] X.env = [(false, eval (.Name y p2) X.env)]) :
    PA X [a, .Name y p2] (fun σ H Q => tE (WR X.K) X.gx E FF σ H fun v H1 => Q [v, .ty T] H1) := by
  refine PA.mono (pa_cons h1 (pa_cons (pe_bltn (v := .ty T) hg hm hv rfl hn hd) pa_nil hs2) (by rw [hs, hs2])) fun σ H Q h => h
theorem k_isi (c : Cn I Ex top sc N X) (j j2 : Nat) (ty : Ty) {y : Str} (h : I.bn[j]? = some ("isinstance" : Str)) (hg : glB sc "isinstance" = true) (h' : I.bn[j2]? = some y) (hg' : glB sc y = true) (hv : bootBuiltins y = some (.type (tyS ty))) (hn : y ≠ "__name__") (h1 : Je I Ex X ma a)
    (hs : starEach [a, .Name y p2] X.env = [(false, eval a X.env), (false, eval (.Name y p2) X.env)] := by rfl) (hs2 : starEach [.Name y p2] X.env = [(false, eval (.Name y p2) X.env)] := by rfl) (hpl : (backTo pos (starEach [.Name y p2] X.env)).any (·.1) = false := by rfl) :
    Je I Ex X (.isi ty ma) (.Call (.Name "isinstance" p) [a, .Name y p2] [] pos) := by
  refine Pe.cast (PE.mono (pe_callB call_isi (c.gl hg) (c.bn j _ h) (by decide +kernel) (pa_cls (c.gl hg') (c.bn j2 _ h') hv hn (glB_gl hg').2 h1 hs hs2) (by decide) (by decide) (by rw [hs, hs2]) hpl) fun σ H Q h => ?_) (F1 := fun ls S => (evE I.call ma ls S).bind (isiW ty)) (by funext ls S; rw [evE])
  exact sub1 (X := X) (R := WR X.K) (Fa := evE I.call ma) (f := isiW ty) (r := fun (v : V) (H : Hp) (Q : VK) => rIsi X.K [v, .ty (tyS ty)] H Q) (fun M S H x v Q rel wx h => isi_ok rel wx h) h
end
variable {tg : Expr}
theorem ki_rng1 (c : Cn I Ex top sc N X) (j : Nat) (hj : I.bn[j]? = some ("range" : Str)) (hg : glB sc "range" = true) (h : Je I Ex X ma a) (hs : starEach [a] X.env = [(false, eval a X.env)] := by rfl) : Ji I Ex X (.irng1 ma) tg (.Call (.Name "range" p) [a] [] pos) :=
  (i_rng1 (c.gl hg) (c.bn j _ hj) h hs).cast (by funext ls S; rw [evI]; try rfl)
theorem kg_nm (c : Cn I Ex top sc N X) (i : Nat) (hN : N[i]? = some x) (hx : asgB top sc x = true) : PG X (.Name x pos) (gT X.K (.nm i)) := pg_name c.nd (c.at hN) (c.loc hx).1 (c.loc hx).2
theorem kgs_nil : PGs X [] (gNames []) := pgs_nil
theorem kgs_cons (c : Cn I Ex top sc N X) (i : Nat) {js : List Nat} (hN : N[i]? = some x) (hx : asgB top sc x = true) (h : PGs X es (gNames js)) (hs : (assignEach (.Name x pos :: es) X.env).map (·.2) = assign (.Name x pos) X.env :: (assignEach es X.env).map (·.2) := by rfl) :
    PGs X (.Name x pos :: es) (gNames (i :: js)) := pgs_cons (kg_nm c i hN hx) h hs
theorem kg_tp (c : Cn I Ex top sc N X) {js : List Nat} {k : Nat} (h : PGs X es (gNames js)) (hn : (assignEach es X.env).length = js.length := by rfl) (hst : (assignEach es X.env).findIdx? (·.1) = none := by rfl) : PG X (.Tuple es k pos) (gT X.K (.tp js)) := pg_tup c.calm h hn hst

noncomputable def condF (I : Inf) (m : MI.E) : Loc → Store → Res W := fun l S => evC I.call m l S
abbrev Jc (I : Inf) (X : Cx) (m : MI.E) (ifs : List Expr) : Prop := Pc X (condF I m) ifs
theorem kc_nil : Jc I X .omit [] := by
  have e : condF I .omit = fun _ S => .ok (.d (.bool true)) S := by funext ls S; unfold condF; rw [evC]
  unfold Jc; rw [e]; exact c_nil
theorem k_comp {m : Bool} {scope : Scope} {elt iter : Expr} {ifs : List Expr} {me ms mc : MI.E} {tgm : Tg} (c : Cn I Ex top sc N X) (own : List (Str × Nat)) (hb : blkC N sc scope own = true) (ho : ∀ j ∈ tgSlots tgm, j ∈ own.map (·.2)) (hi : Ji I Ex X ms tg iter)
    (hg : ∀ X', Cn I E0 false (relS scope sc) N X' → PG X' tg (gT X'.K tgm)) (ht : ∀ X', Cn I E0 false (relS scope sc) N X' → Jc I X' mc ifs) (he : ∀ X', Cn I E0 false (relS scope sc) N X' → Je I E0 X' me elt)
    (hs : ∀ x, foldedSetIterable iter X.env x = pure x := by intro _; rfl) : Je I Ex X (.comp m me tgm ms mc (own.map (·.2))) (.ListComp elt [⟨tg, iter, ifs, 0⟩] scope pos) := by
  have ok : BlkOk X.N X.env.scope scope own := by rw [c.eN, c.esc]; exact blkOk_by hb
  exact (x_comp c.calm c.nd hi ok ho (fun s H C cl fp => hg _ (c.blk ok.kind s H C cl fp)) (fun s H C cl fp => ht _ (c.blk ok.kind s H C cl fp)) (fun s H C cl fp => he _ (c.blk ok.kind s H C cl fp)) hs).cast (by funext ls S; rw [evE]; try rfl)
variable {st : Stmt} {rest : List Stmt} {m m1 m2 : M} {body l1 l2 : List Stmt}
theorem ks_nil : Jb I Ex X F .skip [] := s_nil.cast (by funext ls S; rw [exM])
theorem ks_one (h1 : Js I Ex X F m st) : Jb I Ex X F m [st] := s_one h1
theorem ks_cons (h1 : Js I Ex X F m1 st) (h2 : Jb I Ex X F m2 rest) : Jb I Ex X F (.seq m1 m2) (st :: rest) := (s_cons h1 h2).cast (by funext ls S; rw [exM]; try rfl)
theorem ks_expr (h1 : Je I Ex X ma a) (hs : swapsWith a none pos.line X.env = pure false := by rfl) : Js I Ex X F (.exp ma) (.Expr a pos) := (s_expr h1 hs).cast (by funext ls S; rw [exM])
theorem ks_ret (h1 : Je I Ex X ma a) : Js I Ex X F (.ret ma) (.Return (some a) pos) := (s_ret h1).cast (by funext ls S; rw [exM])
theorem ks_if (h1 : Jt I Ex X ma a) (h2 : Jb I Ex X F m1 l1) (h3 : Jb I Ex X F m2 l2) : Js I Ex X F (.iff ma m1 m2) (.If a l1 l2 pos) := (s_if h1 h2 h3).cast (by funext ls S; rw [exM])
theorem ks_set (c : Cn I Ex top sc N X) (i : Nat) {pos' : Pos} (hN : N[i]? = some x) (hx : asgB top sc x = true) (h1 : Je I Ex X ma a) (hs : swapsWith a (some (.Name x pos')) pos.line X.env = pure false := by rfl) : Js I Ex X F (.asg (.nm i) ma) (.Assign [.Name x pos'] a pos) :=
  (s_set c.nd (c.at hN) (c.loc hx).1 h1 hs (c.loc hx).2).cast (by funext ls S; rw [exM]; try rfl)
theorem ks_asg {js : List Nat} (h1 : Je I Ex X ma a) (hg : PG X tg (gT X.K (.tp js))) (hs : swapsWithSole [tg] a pos.line X.env = pure false := by rfl) (hw : swappedStores [tg] a X.env = pure none := by rfl) (he : (assignEach [tg] X.env).map (·.2) = [assign tg X.env] := by rfl) :
    Js I Ex X F (.asg (.tp js) ma) (.Assign [tg] a pos) := (s_asg h1 hg (fun _ e => nomatch e) hs hw he).cast (by funext ls S; rw [exM])
theorem ks_setLc {m : Bool} {scope : Scope} {elt iter : Expr} {ifs : List Expr} {me ms mc : MI.E} {tgm : Tg} {y : Str} {py spos : Pos} (c : Cn I Ex top sc N X) (i : Nat) (hy : N[i]? = some y) (hyl : locB sc y = true)
    (hl : (py.line == pos.line) = true) (hna : (scope.names.any fun (n, k) => n == y && (k == .local || k == .cell)) = false)
    (own : List (Str × Nat)) (hb : blkC N sc scope own = true) (ho : ∀ j ∈ tgSlots tgm, j ∈ own.map (·.2)) (hi : Ji I Ex X ms tg iter)
    (hg : ∀ X', Cn I E0 false (relS scope sc) N X' → PG X' tg (gT X'.K tgm)) (ht : ∀ X', Cn I E0 false (relS scope sc) N X' → Jc I X' mc ifs) (he : ∀ X', Cn I E0 false (relS scope sc) N X' → Je I E0 X' me elt)
    (hs : ∀ x, foldedSetIterable iter X.env x = pure x := by intro _; rfl) : Js I Ex X F (.asg (.nm i) (.comp m me tgm ms mc (own.map (·.2)))) (.Assign [.Name y py] (.ListComp elt [⟨tg, iter, ifs, 0⟩] scope pos) spos) := by
  have ok : BlkOk X.N X.env.scope scope own := by rw [c.eN, c.esc]; exact blkOk_by hb
  have hyl' : X.env.scope.names.lookup y = some .local := by rw [c.esc]; exact locB_loc hyl
  have hk : X.env.scope.kind = .function := by rw [c.esc]; exact c.kind
  exact (s_setLc c.calm c.nd (c.at hy) hyl' (sw_true hk hyl' hl hna) hi ok ho (fun s H C cl fp => hg _ (c.blk ok.kind s H C cl fp)) (fun s H C cl fp => ht _ (c.blk ok.kind s H C cl fp)) (fun s H C cl fp => he _ (c.blk ok.kind s H C cl fp)) hs).cast (by funext ls S; rw [exM, evE]; try rfl)
theorem ks_for {tgm : Tg} (c : Cn I Ex top sc N X) (h1 : Ji I E0 X.nox ma tg a) (hg : PG X.nox tg (gT X.K tgm)) (h2 : Jb I E0 X.nox F m body) (hs : ∀ x, foldedSetIterable a X.env x = pure x := by intro _; rfl) : Js I Ex X F (.for tgm ma m) (.For tg a body [] pos) :=
  (s_for c.calm h1 hg h2 hs).cast (by funext ls S; rw [exM])
theorem ks_whl (h1 : Jt I E0 X.nox ma a) (h2 : Jb I E0 X.nox F m body) : Js I Ex X F (.whl ma m) (.While a body [] pos) := (s_while h1 h2).cast (by funext ls S; rw [exM])
theorem ks_setx {ev : Expr} {me : MI.E} {tp : Pos} (h0 : Je I Ex X me ev) (h1 : Je I Ex X ma a) (h2 : Je I Ex X mb b) (ha : ∀ v, assign (.Subscript a b tp) X.env v = (do
      let ov ← holding [v] (eval a X.env)
      let iv ← holding [v, ov] (eval b X.env)
      standAt tp
      holding [v, ov, iv] (setItem ov iv v)
      release [v, ov, iv] []) := by intro _; rfl) (hs : swapsWithSole [.Subscript a b tp] ev pos.line X.env = pure false := by rfl) : Js I Ex X F (.setx ma mb me) (.Assign [.Subscript a b tp] ev pos) := (s_setx h0 h1 h2 ha hs).cast (by funext ls S; rw [exM])
abbrev Jg (I : Inf) (Ex : XK) (X : Cx) (lv : LV) (t : Expr) : Prop := PG X t (gLV X.gx (En I Ex) I.call lv)
abbrev Jgs (I : Inf) (Ex : XK) (X : Cx) (lv : List LV) (t : List Expr) : Prop := PGs X t (gLVs X.gx (En I Ex) I.call lv)
end
end MI

end S_MiK
section S_MiL
namespace MI
open PySem PySem.Spec PyProof.Rows L2

def isStar : Expr → Bool
  | .Starred .. => true
  | _ => false
theorem sw2_of {env : Env} {x y : Str} {px py pt pt2 : Pos} {kt k2 : Nat} {a b : Expr} (hk : env.scope.kind = .function) (hx : env.scope.names.lookup x = some .local) (hy : env.scope.names.lookup y = some .local)
    (hl : (py.line == px.line) = true) (hxy : (x == y) = false) (hs : ([a, b].any fun | .Starred .. => true | _ => false) = false) (hf : [a, b].all (foldedForSure 8) = false) (hc : [a, b].all (constantsAlone 8) = false) :
    swappedStores [.Tuple [.Name x px, .Name y py] kt pt] (.Tuple [a, b] k2 pt2) env = pure (some [x, y]) := by
  have kx : env.kindOf x = some .local := hx
  have ky : env.kindOf y = some .local := hy
  have hb : env.blockKind = .function := by unfold Env.blockKind; rw [hk]; rfl
  have hyx : (y == x) = false := by
    rw [beq_eq_false_iff_ne] at hxy ⊢
    exact fun e => hxy e.symm
  unfold swappedStores
  simp only [hb, kx, ky, hs, hf, hc, hl, Expr.pos, List.filterMap_cons, List.filterMap_nil, List.head?_cons, Option.map_some, Option.getD_some, beq_self_eq_true, Bool.and_self, if_true, Bool.false_eq_true, if_false, List.length_cons, List.length_nil, bne_self_eq_false, Bool.or_false, Bool.or_self, Bool.not_true]
  simp [List.eraseDups, List.eraseDupsBy, List.eraseDupsBy.loop, hxy, hyx]
  intro h
  simp only [List.any_cons, List.any_nil, Bool.or_false, Bool.or_eq_false_iff] at hs
  rcases h with h | h
  · exact absurd (hs.1.symm.trans h) (by decide)
  · exact absurd (hs.2.symm.trans h) (by decide)
section
variable {I : Inf} {Ex : XK} {top : Bool} {sc : Scope} {N : List Str} {X : Cx} {a b d : Expr} {ma mb md : MI.E} {pos p p2 p3 : Pos} {es : List Expr} {x y z : Str} {F : Nat}
theorem ks_swap2 {px py pt pt2 : Pos} {kt k2 : Nat} (c : Cn I Ex top sc N X) (i j : Nat) (hi : N[i]? = some x) (hj : N[j]? = some y) (hij : i ≠ j) (hx : locB sc x = true) (hy : locB sc y = true) (ha : Ja I Ex X ma [a, b]) (hxy : (x == y) = false)
    (hm : lenE ma = 2 := by rfl) (hl : (py.line == px.line) = true := by rfl) (hs : ([a, b].any fun | .Starred .. => true | _ => false) = false := by rfl) (hf : [a, b].all (foldedForSure 8) = false := by with_unfolding_all rfl) (hc : [a, b].all (constantsAlone 8) = false := by with_unfolding_all rfl) :
    Js I Ex X F (.par [.nm i, .nm j] ma) (.Assign [.Tuple [.Name x px, .Name y py] kt pt] (.Tuple [a, b] k2 pt2) pos) := by
  have hk : X.env.scope.kind = .function := by rw [c.esc]; exact c.kind
  have lx : X.env.scope.names.lookup x = some .local := by rw [c.esc]; exact locB_loc hx
  have ly : X.env.scope.names.lookup y = some .local := by rw [c.esc]; exact locB_loc hy
  exact (s_swap2 c.calm c.nd (c.at hi) (c.at hj) hij lx ly ha (sw2_of hk lx ly hl hxy hs hf hc) (fun ls S ws S1 q => (evL_len ma q).trans hm)).cast (by funext ls S; rw [exM])
end
structure Tx where
  fns : List (Nat × Str × List Str)
  bn : List Str
  gs : List (Str × D)
  es : List (Nat × Str)
noncomputable def Tx.inf (T : Tx) (cv : Nat → Value) (P : List Def) (F k : Nat) : Inf := ⟨cv, callP P F k, k, T.fns, T.bn, T.gs, T.es⟩
structure Wr (T : Tx) (cv : Nat → Value) (P : Program) (w : World) (K : PySem.W.Frag) (mg : Str → Option Value) : Prop where
  bn : ∀ (j : Nat) (x : Str), T.bn[j]? = some x → mg x = none
  gs : ∀ (j : Nat) (x : Str) (d : D), T.gs[j]? = some (x, d) → ∃ (u : Value) (v : V), mg x = some u ∧ RelV v u ∧ GR K w v d ∧ ((∃ ds, d = .tuple ds) → ∀ H, L2.tyV K "tuple" v H)
  es : ∀ (j c : Nat) (x : Str), T.es[j]? = some (c, x) → EsOk K mg cv c x
  exm : ∀ (j j' c c' : Nat) (x x' : Str), T.es[j]? = some (c, x) → T.es[j']? = some (c', x') → PySem.W.exmOne K (cv c) (cv c') = some (c == c')
def Tab (T : Tx) (cv : Nat → Value) (PD : List Def) (F : Nat) (P : Program) (w : World) (K : PySem.W.Frag) (mg : Str → Option Value) (base : Heap) (A : Nat → Addr) (fd : Nat → FuncData) (k : Nat) : Prop :=
  ∀ (j i : Nat) (x : Str) (ps : List Str), T.fns[j]? = some (i, x, ps) → FnOk P w K mg base (L2.CX P w) k (A j) (fd j) ps (spM ⟨P, w, K, mg, base⟩ cv (callP PD F k) i ps.length)

theorem leave_ok {G : Gx} {E : Nat → Hp → Prop} {M : List Addr} {S : Store} {H : Hp} {r : Res Fl} {Q : VK} (rel : Rel G M S H) (h : OK (WR G.K) G E M H (leave S.length r) Q) :
    OK (FR G) G E M H r (ends { nx := fun _ H' => Q .non H', rt := Q }) := by
  have hl := rel.len
  cases r with
  | stuck => exact h
  | ex c S' =>
    intro M' H' x rel'
    have h : OK (WR G.K) G E M H (.ex c (S'.take S.length)) Q := h
    obtain ⟨t, rfl⟩ := x.p
    have r2 := rel'.take S.length
    rw [← hl, List.take_left] at r2
    rw [← hl] at h
    exact h M H' ⟨x.g, Pre.refl _, x.fr, fun a h1 h2 => absurd h1 h2⟩ r2
  | ok f S' =>
    intro M' H' b x rel' fr
    obtain ⟨t, rfl⟩ := x.p
    have r2 := rel'.take S.length
    rw [← hl, List.take_left] at r2
    have x2 : Ext M H M H' := ⟨x.g, Pre.refl _, x.fr, fun a h1 h2 => absurd h1 h2⟩
    cases f with
    | nx l =>
      cases b with
      | inr v => exact fr.elim
      | inl σ =>
        have h : OK (WR G.K) G E M H (.ok (.d .none) (S'.take S.length)) Q := h
        rw [← hl] at h
        exact h.fin' (b := V.non) x2 r2 .non
    | rt w =>
      cases b with
      | inl σ => exact fr.elim
      | inr v =>
        cases w with
        | d y =>
          have h : OK (WR G.K) G E M H (.ok (.d y) (S'.take S.length)) Q := h
          rw [← hl] at h
          exact h.fin' (b := v) x2 r2 fr
        | r i =>
          by_cases c : i < S.length
          · have e : leave S.length (.ok (.rt (.r i)) S') = .ok (.r i) (S'.take S.length) := by
              show (if i < S.length then _ else _) = _
              rw [if_pos c]
            rw [e, ← hl] at h
            obtain ⟨a, hm, rfl⟩ := fr
            refine h.fin' (b := V.ref a) x2 r2 ⟨a, ?_, rfl⟩
            rw [List.getElem?_append_left (by rw [hl]; exact c)] at hm
            exact hm
          · have e : leave S.length (.ok (.rt (.r i)) S') = match S'[i]? with
                | some o => if isA o then .stuck else .ok (.r S.length) (S'.take S.length ++ [o])
                | none => .stuck := by
              show (if i < S.length then _ else _) = _
              rw [if_neg c]
              try rfl
            rw [e] at h
            cases q : S'[i]? with
            | none => rw [q] at h; exact h.elim
            | some o =>
              rw [q] at h
              have h : OK (WR G.K) G E M H (if isA o then .stuck else .ok (.r S.length) (S'.take S.length ++ [o])) Q := h
              have ia : isA o = false := by
                cases ia : isA o with
                | false => rfl
                | true => rw [ia] at h; exact h.elim
              rw [ia, if_neg (by decide)] at h
              obtain ⟨a, hm, rfl⟩ := fr
              have nm : a ∉ M := fun hin => by
                obtain ⟨j, hj, ej⟩ := List.getElem_of_mem hin
                have ej' : (M ++ t)[j]? = some a := by rw [List.getElem?_append_left hj, List.getElem?_eq_getElem hj, ej]
                obtain ⟨l1, q1⟩ := List.getElem?_eq_some_iff.mp hm
                obtain ⟨l2, q2⟩ := List.getElem?_eq_some_iff.mp ej'
                have := (List.getElem_inj rel'.nd).mp (q1.trans q2.symm)
                omega
              have x3 : Ext M H (M ++ [a]) H' := ⟨x.g, ⟨[a], rfl⟩, x.fr, fun b h1 h2 => by
                rcases List.mem_append.mp h1 with h1 | h1
                · exact absurd h1 h2
                · have e : b = a := by simpa using h1
                  rw [e]
                  exact x.nw a (List.mem_of_getElem? hm) nm⟩
              have r3 : Rel G M (S'.take S.length) H' := by rw [← hl]; exact r2
              have e2 : (S'.take S.length).length = M.length := r3.len.symm
              refine h.fin' (b := V.ref a) x3 ?_ ⟨a, ?_, rfl⟩
              · refine ⟨by rw [List.length_append, List.length_append, e2]; rfl, ?_, fun b hb => ?_, fun j so b h1 h2 => ?_, r3.owP (fun _ _ => rfl) (fun k xs z => by rw [z] at ia; cases ia), r3.kw.push r3.len fun k zz xs z => by rw [z] at ia; cases ia⟩
                · rw [List.nodup_append]
                  refine ⟨r3.nd, by simp, fun b hb b2 hb2 => ?_⟩
                  have : b2 = a := by simpa using hb2
                  rw [this]
                  exact fun e => nm (by rw [← e]; exact hb)
                · rcases List.mem_append.mp hb with hb | hb
                  · exact r3.on b hb
                  · have e : b = a := by simpa using hb
                    rw [e]
                    exact rel'.on a (List.mem_of_getElem? hm)
                · by_cases hj : j < (S'.take S.length).length
                  · rw [List.getElem?_append_left hj] at h1
                    rw [List.getElem?_append_left (by rw [← e2]; exact hj)] at h2
                    exact r3.ob j so b h1 h2
                  · have hj' : j = (S'.take S.length).length := by
                      have := (List.getElem?_eq_some_iff.mp h1).1
                      rw [List.length_append, List.length_singleton] at this
                      omega
                    rw [hj', List.getElem?_append_right (Nat.le_refl _)] at h1
                    rw [hj', e2, List.getElem?_append_right (Nat.le_refl _)] at h2
                    simp at h1 h2
                    subst h1 h2
                    exact rel'.ob i o a q hm
              · rw [List.getElem?_append_right (by rw [hl]; exact Nat.le_refl _), hl, Nat.sub_self]
                rfl
theorem LR.start {G : Gx} {M : List Addr} {H : Hp} {n : Nat} : ∀ {vs : List V} {ws : List W}, WRs G.K M H vs ws → ∀ (N : List Str), N.length = n → LR G M H (L2.start N vs) (startL n ws) := by
  intro vs ws h N hN
  have hl := h.length
  unfold L2.start startL
  rw [hN, hl]
  refine ⟨by rw [List.length_append, List.length_append, List.length_map, List.length_map, List.length_replicate, List.length_replicate, hl], fun j w e => ?_⟩
  have key : ∀ {vs : List V} {ws : List W}, WRs G.K M H vs ws → ∀ (j m : Nat) (w : W), (ws.map some ++ List.replicate m none)[j]? = some (some w) → ∃ v, (vs.map some ++ List.replicate m none)[j]? = some (some v) ∧ WR G.K M H v w := by
    intro vs ws h
    induction h with
    | nil =>
      intro j m w e
      simp only [List.map_nil, List.nil_append] at e
      have := List.getElem?_eq_some_iff.mp e
      obtain ⟨_, e⟩ := this
      rw [List.getElem_replicate] at e
      cases e
    | cons r t ih =>
      intro j m w e
      cases j with
      | zero =>
        simp at e
        subst e
        exact ⟨_, by simp, r⟩
      | succ j =>
        simp only [List.map_cons, List.cons_append, List.getElem?_cons_succ] at e ⊢
        exact ih j m w e
  exact key h j _ w e
def OwnC (X : Cx) (x : Str) : Prop := X.env.qual = x ++ ".<locals>." ∧ ∃ (fa : Addr) (oc : Value) (od : Option Addr) (fd : FuncData) (sl : Array (Option Value)), X.mg x = some (.ref fa) ∧ X.K.lookup fa = some ⟨oc, od, .func fd, sl⟩ ∧ X.env.code = fd.code
theorem def_ok {T : Tx} {cv : Nat → Value} {PD : List Def} {F : Nat} {P : Program} {w : World} {K : PySem.W.Frag} {mg : Str → Option Value} {base : Heap} {A : Nat → Addr} {fd : Nat → FuncData} {k f i : Nat} {x : Str} {ps N : List Str} {st : Stmt} {d : Def}
    (wr : Wr T cv P w K mg) (hA : ∀ (j i : Nat) (x : Str) (ps : List Str), T.fns[j]? = some (i, x, ps) → mg x = some (.ref (A j)) ∧ PySem.W.keepIn K (.ref (A j)) = true ∧ Binds K (fd j) ps [])
    (tb : Tab T cv PD F P w K mg base A fd k) (hf : T.fns[f]? = some (i, x, ps)) (Fn : Fun K x x st (A f) (fd f)) (S : FnScope N ps (defScope st)) (hd : PD[i]? = some d) (hps : d.ps = ps.length) (hn : d.n = N.length)
    (body : ∀ (Ex : XK) (X : Cx), Cn (T.inf cv PD F k) Ex true (defScope st) N X → OwnC X x → Jb (T.inf cv PD F k) Ex X F d.body (defBody st)) :
    FnOk P w K mg base (L2.CX P w) (k + 1) (A f) (fd f) ps (spM ⟨P, w, K, mg, base⟩ cv (callP PD F (k + 1)) i ps.length) := by
  obtain ⟨oc, od, kV, doc, pm, an, cdv, ct, osl, ef, lk, hcd⟩ := Fn.ex
  have own : mg x = some (.ref (A f)) := (hA f i x ps hf).1
  rw [ef] at lk ⊢
  refine fn_of lk hcd S (fun vs H Q E h => h.1) fun Ar outer s H vs Q E hr h => ?_
  obtain ⟨hl, M, St, ws, rel, wrs, h⟩ := h
  refine ⟨_, body E (cxOf (L2.CX P w) P w K mg base N x (defScope st) (A f) cdv Ar outer s H E) ⟨rfl, rfl, hr, rfl, S.nd, S.kind, fun _ _ => rfl, ?_, ?_, fun _ => ⟨rfl, rfl⟩, wr.es, wr.exm, fun j i y qs e => ⟨A j, fd j, (hA j i y qs e).1, (hA j i y qs e).2.1, (hA j i y qs e).2.2, tb j i y qs e⟩, wr.bn, wr.gs⟩ ⟨rfl, A f, oc, od, _, osl, own, lk, rfl⟩, ?_⟩
  · exact passes_call (W := fun cls d _ H' => E cls d H') (takes_of (E := E) rfl rfl rfl rfl) fun _ _ _ _ h => h
  · exact takes_of (E := E) rfl rfl rfl rfl
  · refine ⟨M, startL d.n ws, St, rel, LR.start wrs N hn.symm, ?_⟩
    have hw : ws.length = d.ps := by rw [← wrs.length, hl, hps]
    have e : callP PD F (k + 1) i ws St = leave St.length (exM (callP PD F k) F d.body (startL d.n ws) St) := by
      show (match PD[i]? with | some d => if ws.length = d.ps then leave St.length (exM (callP PD F k) F d.body (startL d.n ws) St) else .stuck | none => keepP (callP PD F k) F PD i ws St) = _
      rw [hd]
      simp only [hw, if_true]
    rw [e] at h
    exact leave_ok rel h
theorem tab0 {T : Tx} {cv : Nat → Value} {PD : List Def} {F : Nat} {P : Program} {w : World} {K : PySem.W.Frag} {mg : Str → Option Value} {base : Heap} {A : Nat → Addr} {fd : Nat → FuncData} : Tab T cv PD F P w K mg base A fd 0 := by
  intro j i x ps _
  refine ⟨fun vs H Q E h => h.1, fun Ar outer s H args us vs Q E _ _ _ _ h => ?_⟩
  obtain ⟨_, M, S, ws, _, _, h⟩ := h
  exact h.elim
def spX (G : Gx) (cv : Nat → Value) (PD : List Def) (k f n : Nat) : Sp := fun vs H Q Ex => ∃ F, spM G cv (callP PD F k) f n vs H Q Ex
theorem fnX {P : Program} {w : World} {K : PySem.W.Frag} {mg : Str → Option Value} {base : Heap} {cv : Nat → Value} {PD : List Def} {k f n : Nat} {fa : Addr} {fd : FuncData} {ps : List Str} {CX : CXT}
    (h : ∀ F, FnOk P w K mg base CX k fa fd ps (spM ⟨P, w, K, mg, base⟩ cv (callP PD F k) f n)) : FnOk P w K mg base CX k fa fd ps (spX ⟨P, w, K, mg, base⟩ cv PD k f n) :=
  ⟨fun vs H Q E ⟨F, q⟩ => (h F).len vs H Q E q, fun A outer s H args us vs Q E hr he hb hv ⟨F, q⟩ => (h F).run A outer s H args us vs Q E hr he hb hv q⟩
def spA (G : Gx) (PD : List Def) (k f n : Nat) : Sp := fun vs H Q Ex => ∀ cv : Nat → Value, spX G cv PD k f n vs H Q Ex
theorem fnA {P : Program} {w : World} {K : PySem.W.Frag} {mg : Str → Option Value} {base : Heap} {cv : Nat → Value} {PD : List Def} {k f n : Nat} {fa : Addr} {fd : FuncData} {ps : List Str} {CX : CXT}
    (h : ∀ F, FnOk P w K mg base CX k fa fd ps (spM ⟨P, w, K, mg, base⟩ cv (callP PD F k) f n)) : FnOk P w K mg base CX k fa fd ps (spA ⟨P, w, K, mg, base⟩ PD k f n) :=
  ⟨fun vs H Q E q => (fnX h).len vs H Q E (q cv), fun A outer s H args us vs Q E hr he hb hv q => (fnX h).run A outer s H args us vs Q E hr he hb hv (q cv)⟩
theorem drs_int {K : PySem.W.Frag} {H : Hp} : ∀ ns : List Int, DRs K H (ns.map V.int) (ns.map PyData.int)
  | [] => .nil
  | _ :: ns => .cons (.int _) (drs_int ns)
theorem hspX {G : Gx} {cv : Nat → Value} {PD : List Def} {k f : Nat} {H : Hp} {a : Addr} {ns : List Int} (hO : Only H) (hS : SqL G.K H a (ns.map V.int)) (h : ∃ F S', callP PD F k f [.d (.list (ns.map .int))] [] = .ok (.d (.bool true)) S') :
    spX G cv PD k f 1 [.ref a] H (fun v _ => v = .bl true) fun _ _ _ => False := by
  obtain ⟨F, S', h⟩ := h
  have fz : FzL G.K H a (ns.map V.int) := by
    rcases hS with (hS | hS) | hS
    · rcases hO a with q | ⟨o, xs, q⟩
      · rw [q] at hS; cases hS
      · rw [q] at hS; cases hS
    · exact .inl hS
    · exact .inr hS
  refine ⟨F, rfl, [], [], [.d (.list (ns.map .int))], ⟨rfl, List.nodup_nil, fun a h => (List.not_mem_nil h).elim, fun i o a h => (by cases h), fun j i xs h => (by cases h), fun j i z xs h => (by cases h)⟩, .cons (.lst fz (drs_int ns)) .nil, ?_⟩
  rw [h]
  intro M' H' b x rel r
  cases r
  rfl
theorem hCXL {P : Program} {w : World} {H : Hp} {s : Shared} {e : Value} {s' : Shared} (z : L2.CX P w [] H s (fun _ _ _ => False) e s') : False := by
  obtain ⟨_, _, _, _, _, _, _, _, _, _, _, _, z⟩ := z
  exact z
theorem walkN {l : PySem.W.OpenLaw} {q : Program} {loose : List Str} {XP : (Str → Option Value) → Heap → Prop} {YP : World → Heap → Prop} {d : DefRec} {K : Params → PySem.W.Frag} {x : Str} {PD : List Def} {k f : Nat}
    (hn : l.most = some 63) (hdf : d.params.defaults = []) (hr : Room k callerA) (hY : ∀ (w : World) (h : Heap), YP w h → (K w.params).In h)
    (hm : ∀ ns : List Int, ns.length ≤ 63 → ∃ F S', callP PD F k f [.d (.list (ns.map .int))] [] = .ok (.d (.bool true)) S')
    (F : ∀ (w : World) (mg : Str → Option Value) (fa : Addr) (h : Heap), (K w.params).In h → h.Ns mainGlobals mg → mg d.name = some (.ref fa) →
      ∃ fd : FuncData, (∀ (s : Shared) (u : Value), BindsTo s fd ⟨[u], []⟩ [(x, u)]) ∧
        ∀ base : Heap, (K w.params).In base → base.Ns mainGlobals mg → FnOk l.prog w (K w.params) mg base (L2.CX l.prog w) k fa fd [x] (spA ⟨l.prog, w, K w.params, mg, base⟩ PD k f 1)) :
    PySem.W.WalkO q loose XP YP l.row.toRowW d [] (fun f vs => PySem.call f vs) := by
  refine L2.walk_of (n := 63) (k := k) (x := x) (CX := fun w => L2.CX l.prog w) (sp := fun w vs H Q E => vs.length = 1 ∧ ∀ mg base, spA ⟨l.prog, w, K w.params, mg, base⟩ PD k f 1 vs H Q E) hn (by decide) hdf hr hY (fun w mg fa h KX G hmg => ?_)
    (fun w H a ns hl hO hS => ⟨rfl, fun mg base cv => hspX hO hS (hm ns hl)⟩) fun _ _ _ _ _ z => hCXL z
  obtain ⟨fd, hb, hF⟩ := F w mg fa h KX G hmg
  exact ⟨fd, hb, fun base K1 G1 => ⟨fun vs H Q E q => q.1, fun A outer s H args us vs Q E a1 a2 a3 a4 q => (hF base K1 G1).run A outer s H args us vs Q E a1 a2 a3 a4 (q.2 mg base)⟩⟩
def Frz1 (H H0 : Hp) (a : Addr) : Prop := (∀ b, b ≠ a → H0 b = H b) ∧ ((H0 a = H a ∧ ∀ xs, H a ≠ some (.lst xs)) ∨ ∃ o xs, H a = some (.lst xs) ∧ H0 a = some (.frz o (.lst xs)))
def spT (TB : Heap → Prop) (sp : Heap → Sp) : Sp := fun vs H Q E => vs.length = 1 ∧ E = (fun _ _ _ => False) ∧ ∃ a, vs = [.ref a] ∧ ∀ base, TB base → ∀ H0 : Hp, Frz1 H H0 a → sp base vs H0 Q E
def atomD : List Value → Option (List D)
  | [] => some []
  | .str x _ :: r => (atomD r).map (.str x :: ·)
  | .int i _ :: r => (atomD r).map (.int i :: ·)
  | .bool b :: r => (atomD r).map (.bool b :: ·)
  | _ :: _ => none
theorem atomD_ok {K : PySem.W.Frag} : ∀ {us : List Value} {ds : List D}, atomD us = some ds → ∃ vs, Vals vs us ∧ ∀ H, DRs K H vs ds
  | [], _, e => by cases e; exact ⟨[], .nil, fun _ => .nil⟩
  | .str x _ :: r, ds, e => by
    obtain ⟨es, h1, h2⟩ := Option.map_eq_some_iff.mp (show (atomD r).map (.str x :: ·) = some ds from e)
    obtain ⟨vs, v1, v2⟩ := atomD_ok (K := K) h1
    subst h2
    exact ⟨.str x :: vs, .cons ⟨_, rfl⟩ v1, fun H => .cons (.str _) (v2 H)⟩
  | .int i _ :: r, ds, e => by
    obtain ⟨es, h1, h2⟩ := Option.map_eq_some_iff.mp (show (atomD r).map (.int i :: ·) = some ds from e)
    obtain ⟨vs, v1, v2⟩ := atomD_ok (K := K) h1
    subst h2
    exact ⟨.int i :: vs, .cons ⟨_, rfl⟩ v1, fun H => .cons (.int _) (v2 H)⟩
  | .bool i :: r, ds, e => by
    obtain ⟨es, h1, h2⟩ := Option.map_eq_some_iff.mp (show (atomD r).map (.bool i :: ·) = some ds from e)
    obtain ⟨vs, v1, v2⟩ := atomD_ok (K := K) h1
    subst h2
    exact ⟨.bl i :: vs, .cons rfl v1, fun H => .cons (.bl _) (v2 H)⟩
def GsT (K : PySem.W.Frag) (x : Str) (d : D) : Prop := ∃ (u : Value) (v : V), PySem.W.nsIn K mainGlobals x = some (some u) ∧ RelV v u ∧ (∀ H, DR K H v d) ∧ ((∃ ds, d = .tuple ds) → ∀ H, L2.tyV K "tuple" v H)
theorem gs_tup {K : PySem.W.Frag} {x : Str} {b : Addr} {us : List Value} {n : Nat} {sl : Array (Option Value)} {ds : List D} (h1 : PySem.W.nsIn K mainGlobals x = some (some (.ref b))) (h2 : K.lookup b = some ⟨.type "tuple", none, .seq us.toArray n, sl⟩) (h3 : atomD us = some ds) (h4 : us.length ≤ sizeLine) : GsT K x (.tuple ds) := by
  obtain ⟨vs, v1, v2⟩ := atomD_ok (K := K) h3
  exact ⟨_, .ref b, h1, rfl, fun H => .tup (.inr ⟨_, us.toArray, n, h2, rfl, rfl, by simpa using h4, by simpa using v1⟩) (v2 H), fun _ H => .inr (.inl ⟨rfl, _, h2, rfl, rfl⟩)⟩
theorem gs_int {K : PySem.W.Frag} {x : Str} {i : Int} {t : Nat} (h1 : PySem.W.nsIn K mainGlobals x = some (some (.int i t))) : GsT K x (.int i) :=
  ⟨_, .int i, h1, ⟨_, rfl⟩, fun H => .int _, fun ⟨_, e⟩ => nomatch e⟩
end MI

end S_MiL
section S_MiO
namespace MI
open PySem PySem.Spec PyProof.Rows L2

theorem meets_enum1 {v : Value} {o : Obj} {Hh : Heap → Prop} (B : Begins v o Hh) :
    Meets (Builtin.«enumerate.__new__» ⟨[.type "enumerate", v], []⟩) (fun _ R s => Hh s.heap ∧
      R (.ok (.ret (.ref (s.heap.push o).objs.size))) { s with heap := (s.heap.push o).push { cls := .type "enumerate", data := .fields #[.none, .bool false, .ref s.heap.objs.size, rawInt 0, .none, .none] } }) :=
  .of_wp fun prog w A R s h => by
    obtain ⟨hp, g, d, tk, os⟩ := s; obtain ⟨h1, h⟩ := h
    have hsub := sub_enumerate
    have q1 : ∀ {A' : Around} {E : Value → Shared → Prop} {Q : Value → Shared → Prop}, Q (.ref hp.objs.size) ⟨hp.push o, g, d, tk, os⟩ → wpAny (model prog w) A' (pyIter v) Q E ⟨hp, g, d, tk, os⟩ :=
      fun q => B.iter prog w _ _ ⟨hp, g, d, tk, os⟩ _ h1 q
    wp_walk using q1
    refine wpAny_stack_any fun st => wpAny_pure ?_
    split
    · rename_i c _ _ _ _ _
      cases (c == Value.type "enumerate")
      · wp_walk using q1
        exact ⟨_, rfl, h⟩
      · wp_walk using q1
        exact ⟨_, rfl, h⟩
    · wp_walk using q1
      exact ⟨_, rfl, h⟩
theorem call_enum1 {prog : Program} {w : World} {A : Around} {E : Value → Shared → Prop} {s : Shared} {v : Value} {o : Obj} {Hh : Heap → Prop} {Q : Value → Shared → Prop} (B : Begins v o Hh) (h1 : Hh s.heap)
    (h : ∀ h', IsEnum h' (s.heap.objs.size + 1) s.heap.objs.size 0 .none → h'.get? s.heap.objs.size = some o → h'.objs.size = s.heap.objs.size + 2 →
      (∀ b o, s.heap.get? b = some o → h'.get? b = some o) → Q (.ref (s.heap.objs.size + 1)) { s with heap := h' }) :
    wpAny (model prog w) A (call (.type "enumerate") [v]) Q E s := by
  refine callType_new F.called_enumerate (by decide) (F.typeCall_enumerate_1 _) (F.newCall_enumerate_1 _) (fun obj => F.args_object_init_2 obj _) F.entry_enumerate_new
    (meets_enum1 B) ⟨h1, ?_⟩
  have hz : (s.heap.push o).objs.size = s.heap.objs.size + 1 := Heap.size_push ..
  show _ ∧ _
  rw [hz]
  have he : IsEnum ((s.heap.push o).push { cls := .type "enumerate", data := .fields #[.none, .bool false, .ref s.heap.objs.size, rawInt 0, .none, .none] }) (s.heap.objs.size + 1) s.heap.objs.size 0 .none := by
    have := Heap.get?_push_size (s.heap.push o) (o := { cls := .type "enumerate", data := .fields #[.none, .bool false, .ref s.heap.objs.size, rawInt 0, .none, .none] }) rfl
    rw [hz] at this; exact this
  refine ⟨⟨_, he, rfl⟩, h _ he (Heap.get?_push_of_some _ (Heap.get?_push_size _ B.free)) (by rw [Heap.size_push, hz]) fun b o x => Heap.get?_push_of_some _ (Heap.get?_push_of_some _ x)⟩
def IteT (K : PySem.W.Frag) (a : Addr) : It :=
  ⟨fun i H => ∃ (xs : List V) (x : V), SqT K H a xs ∧ xs[i]? = some x, fun i H v H' => ∃ T x, v = .ref T ∧ H T = none ∧ H' = upd H T (.tup [.int (i : Nat), x]) ∧ ∀ xs, SqT K H a xs → xs[i]? = some x, fun i H => ∃ xs : List V, SqT K H a xs ∧ xs.length = i⟩
theorem turn_enumT {P : Program} {w : World} {K : PySem.W.Frag} {elts : List Expr} {kk : Nat} {tpos : Pos} (a e it : Addr) :
    Turn P w K (.Tuple elts kk tpos) (IteT K a) [e, it] e (fun i h => (∃ old, IsEnum h e it ((i : Nat) : Int) old) ∧ h.IsTupleIter it a i ∧ e ≠ it ∧ e ≠ a ∧ a ≠ it) where
  mem := by simp
  obj := fun i h st b hb => by
    obtain ⟨⟨old, he⟩, ⟨o, ho, hc, hd⟩, _⟩ := st
    have e' : b = e ∨ b = it := by simpa using hb
    rcases e' with z | z
    · rw [z]; exact ⟨_, he, fun v q => nomatch q⟩
    · rw [z]; exact ⟨o, ho, fun v q => by rw [hd] at q; cases q⟩
  keep := fun i h h' st k => let ⟨⟨old, he⟩, hi, hne⟩ := st; ⟨⟨old, k e (by simp) _ he⟩, hi.at fun o q => k it (by simp) o q, hne⟩
  item := by
    intro X hP hw hK hc i pins s σ H E I hf st hg
    subst hP hw hK
    obtain ⟨⟨old, he⟩, hit, hne, hea, hai⟩ := st
    obtain ⟨xs, x, hq, hx⟩ := hg
    obtain ⟨its, rv, p, hz⟩ := I.tuple hq
    obtain ⟨u, hu, ru⟩ := rv.get hx
    have hel : e < s.heap.objs.size := Heap.lt_size he
    have hil : it < s.heap.objs.size := by obtain ⟨_, q, _⟩ := hit; exact Heap.lt_size q
    have hlt : i < its.toArray.size := by
      have := (List.getElem?_eq_some_iff.mp hu).1
      simpa using this
    refine wpAny_pyNext_enum_itemC (Draws.tuple (show X.A.in1.handled = none from I.ok.hd hc) it a hai its.toArray) he ⟨hit, p⟩ hlt hne (by simp [hne, hea]) fun u' h' tk hPx ho hst' hT hsz hk => ?_
    obtain rfl : u' = u := by
      have h2 : its.toArray[i]? = some u := by simpa using hu
      rw [h2] at hPx
      exact (Option.some.inj hPx).symm
    obtain ⟨hit', p'⟩ := hst'
    refine ⟨_, rfl, wpAny_letOwnedTupleGo_enum (s := { s with heap := h', toks := tk + 1 }) ho fun h'' he' sb => ?_⟩
    have hT2 : h''.get? s.heap.objs.size = some { cls := .type "tuple", data := .seq #[.int i tk, u'] } := (sb.2 _ (Nat.ne_of_gt hel)).trans hT
    have new : ObjOk X.prog X.w (upd H s.heap.objs.size (.tup [.int (i : Nat), x])) h'' s.heap.objs.size (.tup [.int (i : Nat), x]) :=
      ⟨by show 2 ≤ sizeLine; decide, [.int i tk, u'], .cons ⟨_, rfl⟩ (.cons ru .nil), ⟨_, hT2, rfl, _, rfl⟩⟩
    have I1 : Inv X pins σ (upd H s.heap.objs.size (.tup [.int (i : Nat), x])) { s with heap := h'', toks := tk + 1 } :=
      I.turnedNew (t' := tk + 1) (ch := [e, it]) (fun b ob hb q => (sb.2 b (fun z => hb (by simp [z]))).trans (hk b ob (fun z => hb (by simp [z])) (fun z => hb (by simp [z])) q)) hf (Nat.le_refl _) new
    refine ⟨.ref s.heap.objs.size, _, I1, rfl, ⟨_, x, rfl, I.hok.fresh (Nat.le_refl _), rfl, fun ys hy => by rw [I.tuple_inj hy hq]; exact hx⟩, ⟨⟨u', ?_⟩, hit'.at fun o q => (sb.2 it (Ne.symm hne)).trans q, hne, hea, hai⟩, fun b hb => ?_⟩
    · have e1 : ((i + 1 : Nat) : Int) = (i : Int) + 1 := by omega
      rw [e1]; exact he'
    · have hb' : b < s.heap.objs.size := by
        have e' : b = e ∨ b = it := by simpa using hb
        rcases e' with z | z
        · rw [z]; exact hel
        · rw [z]; exact hil
      rw [upd_ne (Nat.ne_of_lt hb')]
      exact (hf b hb).1
  done := by
    intro X hP hw hK hc i pins s σ H E I hf st hg
    subst hP hw hK
    obtain ⟨⟨old, he⟩, hit, hne, hea, hai⟩ := st
    obtain ⟨xs, hq, hx⟩ := hg
    obtain ⟨its, rv, p, hz⟩ := I.tuple hq
    obtain ⟨f0, f1, f2, f3, f4, f5⟩ := hf it (by simp)
    have hl := rv.length
    have hsz : its.toArray.size = i := by rw [List.size_toArray, ← hl, hx]
    exact wpAny_pyNext_enum_endD (Draws.tuple (show X.A.in1.handled = none from I.ok.hd hc) it a hai its.toArray) he ⟨by rw [hsz]; exact hit, p⟩ fun h' eb => ⟨rfl, I.turned (t' := s.toks) (fun b o hb q => eb b o hb q) f0 f1 f3 f4 f5⟩
  self := fun A i s Q E st h => let ⟨⟨_, he⟩, _⟩ := st; wpAny_pyIter_enum he h
def iEnumA (K : PySem.W.Frag) (t : TE) : TI := fun σ H R => t σ H fun v H1 => ∃ a xs, [v] = [V.ref a] ∧ ((SqL K H1 a xs ∧ R (Ite K a) H1) ∨ (SqT K H1 a xs ∧ R (IteT K a) H1))
theorem pi_enumA {X : Cx} {e : Expr} {t : TE} {p pos tpos : Pos} {elts : List Expr} {kk : Nat} (hg : Gl X "enumerate") (hm : X.mg "enumerate" = none) (he : PE X e t) (hs : starEach [e] X.env = [(false, eval e X.env)]) :
    PI X (.Tuple elts kk tpos) (.Call (.Name "enumerate" p) [e] [] pos) (iEnumA X.K t) := by
  refine ⟨fun pins s σ H R I h => ?_⟩
  refine Call_ (ld_blt I hg hm boot_enumerate (PyProof.Rows.callWith_type1 (thn ((pa_cons he pa_nil hs).run pos pins s σ H (fun vs H1 => ∃ a xs, vs = [V.ref a] ∧ ((SqL X.K H1 a xs ∧ R (Ite X.K a) H1) ∨ (SqT X.K H1 a xs ∧ R (IteT X.K a) H1))) I ?_) fun us s1 ⟨vs, H1, I1, r1, q1⟩ => ?_) hs rfl))
  · exact h
  obtain ⟨a, xs, ex, q⟩ := q1
  subst ex
  cases r1 with
  | cons r rr =>
    cases rr
    cases r
    rcases q with ⟨hq, q⟩ | ⟨hq, q⟩
    · obtain ⟨its, rv, p', hz⟩ := I1.list hq
      refine call_enumerate_list p'.isList fun h' he hit hsz hk => wpAny_pyIter_enum he ?_
      have I2 : Inv X pins σ H1 { s1 with heap := h' } := I1.kept (t' := s1.toks) hk
      refine ⟨s1.heap.objs.size + 1, [s1.heap.objs.size + 1, s1.heap.objs.size], _, _, H1, rfl, I2, turn_enum a (s1.heap.objs.size + 1) s1.heap.objs.size, ⟨⟨.none, he⟩, hit, Nat.succ_ne_self _⟩, fun b hb => ?_, q⟩
      have e' : b = s1.heap.objs.size + 1 ∨ b = s1.heap.objs.size := by simpa using hb
      have hle : s1.heap.objs.size ≤ b := by
        rcases e' with z | z
        · rw [z]; exact Nat.le_add_right _ _
        · rw [z]; exact Nat.le_refl _
      exact I1.fpOk hle (I1.hok.fresh hle)
    · obtain ⟨its, rv, p', hz⟩ := I1.tuple hq
      have hal : a < s1.heap.objs.size := by obtain ⟨_, q, _⟩ := id p'; exact Heap.lt_size q
      refine call_enum1 (begins_tuple a its.toArray) (show s1.heap.IsTuple a its.toArray from p') fun h' he hit hsz hk => wpAny_pyIter_enum he ?_
      have I2 : Inv X pins σ H1 { s1 with heap := h' } := I1.kept (t' := s1.toks) hk
      refine ⟨s1.heap.objs.size + 1, [s1.heap.objs.size + 1, s1.heap.objs.size], _, _, H1, rfl, I2, turn_enumT a (s1.heap.objs.size + 1) s1.heap.objs.size, ⟨⟨.none, he⟩, ⟨_, hit, rfl, rfl⟩, Nat.succ_ne_self _, Nat.ne_of_gt (Nat.lt_succ_of_lt hal), Nat.ne_of_lt hal⟩, fun b hb => ?_, q⟩
      have e' : b = s1.heap.objs.size + 1 ∨ b = s1.heap.objs.size := by simpa using hb
      have hle : s1.heap.objs.size ≤ b := by
        rcases e' with z | z
        · rw [z]; exact Nat.le_add_right _ _
        · rw [z]; exact Nat.le_refl _
      exact I1.fpOk hle (I1.hok.fresh hle)
theorem walk_enumT {K : PySem.W.Frag} {a : Addr} {xs : List V} : Walk (IteT K a) xs.length (fun H => SqT K H a xs) (YPair (fun i => some (.int (i : Nat))) (fun i => xs[i]?)) := by
  refine ⟨fun i _ hi q => ⟨xs, xs[i], q, by simp [hi]⟩, fun _ q => ⟨xs, q, rfl⟩, fun i H v H' _ q y => ?_⟩
  obtain ⟨T, x, h1, h2, h3, h4⟩ := y
  exact ⟨T, .int (i : Nat), x, h1, h2, h3, rfl, h4 xs q⟩
theorem walk_zipT {K : PySem.W.Frag} {a b : Addr} {xs ys : List V} {n : Nat} (hn : n = min xs.length ys.length) : Walk (RZ.ItzT K a b) n (fun H => SqT K H a xs ∧ SqT K H b ys) (YPair (fun i => xs[i]?) (fun i => ys[i]?)) := by
  subst hn
  refine ⟨fun i _ hi q => ?_, fun _ q => ⟨xs, ys, q.1, q.2, by omega⟩, fun i H v H' _ q y => ?_⟩
  · have h1 : i < xs.length := by omega
    have h2 : i < ys.length := by omega
    exact ⟨xs, ys, xs[i], ys[i], q.1, q.2, by simp [h1], by simp [h2]⟩
  · obtain ⟨T, x, z, h1, h2, h3, h4, h5⟩ := y
    exact ⟨T, x, z, h1, h2, h3, h4 xs q.1, h5 ys q.2⟩
def ItzTL (K : PySem.W.Frag) (a b : Addr) (n : Nat) : It :=
  ⟨fun i H => i < n ∧ ∃ (xs ys : List V) (x y : V), SqT K H a xs ∧ SqL K H b ys ∧ xs[i]? = some x ∧ ys[i]? = some y,
    fun i H v H' => ∃ T x y, v = .ref T ∧ H T = none ∧ H' = upd H T (.tup [x, y]) ∧ (∀ xs, SqT K H a xs → xs[i]? = some x) ∧ ∀ ys, SqL K H b ys → ys[i]? = some y,
    fun i H => i = n ∧ ∃ xs ys : List V, SqT K H a xs ∧ SqL K H b ys ∧ n = min xs.length ys.length⟩
theorem turn_zipTL {P : Program} {w : World} {K : PySem.W.Frag} {elts : List Expr} {kk : Nat} {tpos : Pos} {a b z TI TO i1 i2 : Addr} {n : Nat} (D : ZipSep2 z TI TO i1 i2 [i1, a] [i2, b]) (h1a : a ≠ i1) (h2b : b ≠ i2) :
    Turn P w K (.Tuple elts kk tpos) (ItzTL K a b n) [z, TI, TO, i1, i2] z (fun i h => IsZip h z TI TO .none ∧ IsTupOf2 h TI (.ref i1) (.ref i2) ∧ (∃ x y, IsTupOf2 h TO x y) ∧ h.IsTupleIter i1 a i ∧ h.IsListIter i2 b i) where
  mem := by simp
  obj := fun i h st c hc => by
    obtain ⟨hz, hTI, ⟨x, y, hTO⟩, ⟨o1, e1, _, d1⟩, ⟨o2, e2, _, d2⟩⟩ := st
    have e' : c = z ∨ c = TI ∨ c = TO ∨ c = i1 ∨ c = i2 := by simpa using hc
    rcases e' with q | q | q | q | q
    · rw [q]; exact ⟨_, hz, fun v q => nomatch q⟩
    · rw [q]; exact ⟨_, hTI, fun v q => nomatch q⟩
    · rw [q]; exact ⟨_, hTO, fun v q => nomatch q⟩
    · rw [q]; exact ⟨o1, e1, fun v q => by rw [d1] at q; cases q⟩
    · rw [q]; exact ⟨o2, e2, fun v q => by rw [d2] at q; cases q⟩
  keep := fun i h h' st k => by
    obtain ⟨hz, hTI, ⟨x, y, hTO⟩, h1, h2⟩ := st
    exact ⟨k z (by simp) _ hz, k TI (by simp) _ hTI, ⟨x, y, k TO (by simp) _ hTO⟩, h1.at fun o q => k i1 (by simp) o q, h2.at fun o q => k i2 (by simp) o q⟩
  item := by
    intro X hP hw hK hc i pins s σ H E I hf st hg
    subst hP hw hK
    obtain ⟨hz, hTI, ⟨x0, y0, hTO⟩, h1, h2⟩ := st
    obtain ⟨_, xs, ys, x, y, hqx, hqy, hx, hy⟩ := hg
    obtain ⟨its, rv, p, _⟩ := I.tuple hqx
    obtain ⟨its2, rv2, p2, _⟩ := I.list hqy
    obtain ⟨u, hu, ru⟩ := rv.get hx
    obtain ⟨u2, hu2, ru2⟩ := rv2.get hy
    have hzl : z < s.heap.objs.size := Heap.lt_size hz
    have hlt1 : i < its.toArray.size := by have := (List.getElem?_eq_some_iff.mp hu).1; simpa using this
    have hlt2 : i < its2.toArray.size := by have := (List.getElem?_eq_some_iff.mp hu2).1; simpa using this
    have hh : X.A.in1.handled = none := I.ok.hd hc
    refine wpAny_pyNext_zipD2_item D (Draws.tuple hh i1 a h1a its.toArray) (Draws.list hh i2 b h2b its2.toArray) hz hTI hTO ⟨h1, p⟩ ⟨h2, p2.isList⟩ hlt1 hlt2 fun v1 v2 h' tk q1 q2 z' TO' s1' s2' hT hsz hk => ?_
    obtain rfl : v1 = u := by
      have e : its.toArray[i]? = some u := by simpa using hu
      rw [e] at q1
      exact (Option.some.inj q1).symm
    obtain rfl : v2 = u2 := by
      have e : its2.toArray[i]? = some u2 := by simpa using hu2
      rw [e] at q2
      exact (Option.some.inj q2).symm
    obtain ⟨h1', _⟩ := s1'
    obtain ⟨h2', _⟩ := s2'
    refine ⟨_, rfl, wpAny_letOwnedTupleGo_zip (s := { s with heap := h', toks := tk }) z' fun h'' z'' sb => ?_⟩
    have hT2 : h''.get? s.heap.objs.size = some { cls := .type "tuple", data := .seq #[v1, v2] } := (sb.2 _ (Nat.ne_of_gt hzl)).trans hT
    have new : ObjOk X.prog X.w (upd H s.heap.objs.size (.tup [x, y])) h'' s.heap.objs.size (.tup [x, y]) :=
      ⟨by show 2 ≤ sizeLine; decide, [v1, v2], .cons ru (.cons ru2 .nil), ⟨_, hT2, rfl, _, rfl⟩⟩
    have I1 : Inv X pins σ (upd H s.heap.objs.size (.tup [x, y])) { s with heap := h'', toks := tk } :=
      I.turnedNew (t' := tk) (ch := [z, TI, TO, i1, i2]) (fun c o hb q => (sb.2 c (fun q' => hb (by simp [q']))).trans (hk c o (fun q' => hb (by simp [q'])) (fun q' => hb (by simp [q'])) (fun q' => hb (by simp [q'])) (fun q' => hb (by simp [q'])) q)) hf (Nat.le_refl _) new
    refine ⟨.ref s.heap.objs.size, _, I1, rfl, ⟨_, x, y, rfl, I.hok.fresh (Nat.le_refl _), rfl, fun l hl => by rw [I.tuple_inj hl hqx]; exact hx, fun l hl => by rw [I.list_inj hl hqy]; exact hy⟩, ⟨z'', ?_, ⟨v1, v2, ?_⟩, ?_, ?_⟩, fun c hcm => ?_⟩
    · exact (sb.2 _ D.TIz).trans (hk _ _ D.TIz D.TITO D.TIi1 D.TIi2 hTI)
    · exact (sb.2 _ D.TOz).trans TO'
    · exact h1'.at fun o q => (sb.2 _ D.zi1.symm).trans q
    · exact h2'.at fun o q => (sb.2 _ D.zi2.symm).trans q
    · have hlt : c < s.heap.objs.size := by
        have e' : c = z ∨ c = TI ∨ c = TO ∨ c = i1 ∨ c = i2 := by simpa using hcm
        rcases e' with q | q | q | q | q
        · rw [q]; exact hzl
        · rw [q]; exact Heap.lt_size hTI
        · rw [q]; exact Heap.lt_size hTO
        · rw [q]; obtain ⟨_, e1, _⟩ := h1; exact Heap.lt_size e1
        · rw [q]; obtain ⟨_, e2, _⟩ := h2; exact Heap.lt_size e2
      rw [upd_ne (Nat.ne_of_lt hlt)]
      exact (hf c hcm).1
  done := by
    intro X hP hw hK hc i pins s σ H E I hf st hg
    subst hP hw hK
    obtain ⟨hz, hTI, ⟨x0, y0, hTO⟩, h1, h2⟩ := st
    obtain ⟨rfl, xs, ys, hqx, hqy, hn⟩ := hg
    obtain ⟨its, rv, p, _⟩ := I.tuple hqx
    obtain ⟨its2, rv2, p2, _⟩ := I.list hqy
    have l1 := rv.length
    have l2 := rv2.length
    have hh : X.A.in1.handled = none := I.ok.hd hc
    have z1 : its.toArray.size = xs.length := by rw [List.size_toArray, ← l1]
    have z2 : its2.toArray.size = ys.length := by rw [List.size_toArray, ← l2]
    exact wpAny_pyNext_zipD2_end D (Draws.tuple hh i1 a h1a its.toArray) (Draws.list hh i2 b h2b its2.toArray) hz hTI hTO ⟨h1, p⟩ ⟨h2, p2.isList⟩ (by omega) (by omega) (by omega) fun h' tk hk => ⟨rfl, I.turnedL (t' := tk) (ch := [z, TI, TO, i1, i2]) (fun c o hb q =>
      hk c o (fun q' => hb (by simp [q'])) (fun q' => hb (by simp [q'])) (fun q' => hb (by simp [q'])) (fun q' => hb (by simp [q'])) q) hf⟩
  self := fun A i s Q E st h => wpAny_pyIter_zip st.1 h
def iZipTL (K : PySem.W.Frag) (ta : TA) : TI := fun σ H R => ta σ H fun vs H1 => ∃ a b xs ys, vs = [.ref a, .ref b] ∧ ((SqL K H1 a xs ∧ SqL K H1 b ys ∧ R (Itz K a b) H1) ∨ (SqT K H1 a xs ∧ SqT K H1 b ys ∧ R (RZ.ItzT K a b) H1) ∨ (SqT K H1 a xs ∧ SqL K H1 b ys ∧ R (ItzTL K a b (min xs.length ys.length)) H1))
theorem pi_zipTL {X : Cx} {e e2 : Expr} {ta : TA} {p pos tpos : Pos} {elts : List Expr} {kk : Nat} (hg : Gl X "zip") (hm : X.mg "zip" = none) (ha : PA X [e, e2] ta)
    (hs : starEach [e, e2] X.env = (false, eval e X.env) :: starEach [e2] X.env) (hpl : (backTo pos (starEach [e2] X.env)).any (·.1) = false) :
    PI X (.Tuple elts kk tpos) (.Call (.Name "zip" p) [e, e2] [] pos) (iZipTL X.K ta) := by
  refine ⟨fun pins s σ H R I h => ?_⟩
  refine Call_ (ld_blt I hg hm PyProof.Rows.boot_zip (PyProof.Rows.callWith_type1 (thn (ha.run pos pins s σ H _ I h) fun us s1 ⟨vs, H1, I1, r1, q1⟩ => ?_) hs hpl))
  obtain ⟨a, b, xs, ys, ex, q1⟩ := q1
  subst ex
  cases r1 with
  | cons r rr =>
    cases rr with
    | cons r' rr =>
      cases rr
      cases r
      cases r'
      have fresh5 : ∀ c, c ∈ [s1.heap.objs.size + 4, s1.heap.objs.size + 2, s1.heap.objs.size + 3, s1.heap.objs.size, s1.heap.objs.size + 1] → FpOk X pins H1 c := fun c hcm => by
        have e' : c = s1.heap.objs.size + 4 ∨ c = s1.heap.objs.size + 2 ∨ c = s1.heap.objs.size + 3 ∨ c = s1.heap.objs.size ∨ c = s1.heap.objs.size + 1 := by simpa using hcm
        have hle : s1.heap.objs.size ≤ c := by
          rcases e' with z | z | z | z | z
          · rw [z]; exact Nat.le_add_right _ _
          · rw [z]; exact Nat.le_add_right _ _
          · rw [z]; exact Nat.le_add_right _ _
          · rw [z]; exact Nat.le_refl _
          · rw [z]; exact Nat.le_add_right _ _
        exact I1.fpOk hle (I1.hok.fresh hle)
      rcases q1 with ⟨hqx, hqy, q⟩ | ⟨hqx, hqy, q⟩ | ⟨hqx, hqy, q⟩
      · obtain ⟨its, rv, p1, _⟩ := I1.list hqx
        obtain ⟨its2, rv2, p2, _⟩ := I1.list hqy
        refine call_zip_2 p1.isList p2.isList fun h' hz hTI hTO h1 h2 hsz hk => wpAny_pyIter_zip hz ?_
        have I2 : Inv X pins σ H1 { s1 with heap := h' } := I1.kept (t' := s1.toks) hk
        exact ⟨s1.heap.objs.size + 4, [s1.heap.objs.size + 4, s1.heap.objs.size + 2, s1.heap.objs.size + 3, s1.heap.objs.size, s1.heap.objs.size + 1], _, _, H1, rfl, I2, turn_zip (PySem.W.ktu_apart s1.heap.objs.size a b p1.lt p2.lt), ⟨hz, hTI, ⟨_, _, hTO⟩, h1, h2⟩, fresh5, q⟩
      · obtain ⟨its, rv, p1, _⟩ := I1.tuple hqx
        obtain ⟨its2, rv2, p2, _⟩ := I1.tuple hqy
        obtain ⟨o1, ho1, _⟩ := id p1
        obtain ⟨o2, ho2, _⟩ := id p2
        refine RZ.call_zipT (show s1.heap.IsTuple a its.toArray from p1) (show s1.heap.IsTuple b its2.toArray from p2) fun h' hz hTI hTO h1 h2 hsz hk => wpAny_pyIter_zip hz ?_
        have I2 : Inv X pins σ H1 { s1 with heap := h' } := I1.kept (t' := s1.toks) hk
        exact ⟨s1.heap.objs.size + 4, [s1.heap.objs.size + 4, s1.heap.objs.size + 2, s1.heap.objs.size + 3, s1.heap.objs.size, s1.heap.objs.size + 1], _, _, H1, rfl, I2, RZ.turn_zipT (PySem.W.ktu_apart s1.heap.objs.size a b (Heap.lt_size ho1) (Heap.lt_size ho2)), ⟨hz, hTI, ⟨_, _, hTO⟩, h1, h2⟩, fresh5, q⟩
      · obtain ⟨its, rv, p1, _⟩ := I1.tuple hqx
        obtain ⟨its2, rv2, p2, _⟩ := I1.list hqy
        obtain ⟨o1, ho1, _⟩ := id p1
        obtain ⟨o2, ho2, _⟩ := id p2.isList
        have la := Heap.lt_size ho1
        have lb := Heap.lt_size ho2
        refine zip_begins2 (begins_tuple a its.toArray) (begins_list b its2.toArray) p1 p2.isList fun h' hz hTI hTO g1 g2 hsz hk => wpAny_pyIter_zip hz ?_
        have I2 : Inv X pins σ H1 { s1 with heap := h' } := I1.kept (t' := s1.toks) hk
        exact ⟨s1.heap.objs.size + 4, [s1.heap.objs.size + 4, s1.heap.objs.size + 2, s1.heap.objs.size + 3, s1.heap.objs.size, s1.heap.objs.size + 1], _, _, H1, rfl, I2,
          turn_zipTL (zip_sep2 (N := s1.heap.objs.size) (fp1 := [a]) (fp2 := [b]) (fun c hc => by rw [List.mem_singleton.mp hc]; exact la) (fun c hc => by rw [List.mem_singleton.mp hc]; exact lb)) (Nat.ne_of_lt la) (Nat.ne_of_lt (Nat.lt_succ_of_lt lb)), ⟨hz, hTI, ⟨_, _, hTO⟩, ⟨_, g1, rfl, rfl⟩, ⟨_, g2, rfl, rfl⟩⟩, fresh5, q⟩
theorem walk_zipTL {K : PySem.W.Frag} {a b : Addr} {xs ys : List V} {n : Nat} (hn : n = min xs.length ys.length) : Walk (ItzTL K a b n) n (fun H => SqT K H a xs ∧ SqL K H b ys) (YPair (fun i => xs[i]?) (fun i => ys[i]?)) := by
  refine ⟨fun i _ hi q => ?_, fun _ q => ⟨rfl, xs, ys, q.1, q.2, hn⟩, fun i H v H' _ q y => ?_⟩
  · have h1 : i < xs.length := by omega
    have h2 : i < ys.length := by omega
    exact ⟨hi, xs, ys, xs[i], ys[i], q.1, q.2, by simp [h1], by simp [h2]⟩
  · obtain ⟨T, x, z, h1, h2, h3, h4, h5⟩ := y
    exact ⟨T, x, z, h1, h2, h3, h4 xs q.1, h5 ys q.2⟩
theorem good_pairs {G : Gx} {H : Hp} {J : It} {n : Nat} {Gw : Hp → Prop} {fx fy : Nat → Option V} {ds : List D} (w : Walk J n Gw (YPair fx fy)) (hn : ds.length = n) (Gd : Hp → Prop) (h0 : Gd H) (hm : ∀ H1 H2, Grow H1 H2 → Gd H1 → Gd H2) (hg : ∀ H, Gd H → Gw H)
    (hy : ∀ (i : Nat) (d : D) H, Gd H → ds[i]? = some d → ∃ a b, d = .tuple [a, b] ∧ (∀ x, fx i = some x → DR G.K H x a) ∧ ∀ y, fy i = some y → DR G.K H y b) : GoodIt G H J ds := by
  refine good_walk w hn Gd h0 hm hg fun i H v H' d q y e => ?_
  obtain ⟨T, x, z, rfl, h2, rfl, h4, h5⟩ := y
  obtain ⟨a, b, rfl, ha, hb⟩ := hy i d H q e
  have g : Grow H (upd H T (.tup [x, z])) := Grow.new h2
  exact ⟨fun M S rel => ⟨Ext.new h2, rel.new h2⟩, hm _ _ g q, .tup (SqT.of upd_same) (.cons (DR.mono g _ _ (ha x h4)) (.cons (DR.mono g _ _ (hb z h5)) .nil))⟩
theorem enumD_get {xs : List D} {i : Nat} {d : D} (h : (enumD xs)[i]? = some d) : ∃ x, xs[i]? = some x ∧ d = .tuple [.int (i : Nat), x] := by
  unfold enumD at h
  rw [List.getElem?_zipWith] at h
  cases e1 : (List.range xs.length)[i]? with
  | none => rw [e1] at h; cases h
  | some j =>
    rw [e1] at h
    cases e2 : xs[i]? with
    | none => rw [e2] at h; cases h
    | some x =>
      rw [e2] at h
      obtain ⟨h1, h2⟩ := List.getElem?_eq_some_iff.mp e1
      rw [List.getElem_range] at h2
      subst h2
      exact ⟨x, rfl, (Option.some.inj h).symm⟩
theorem enumD_len (xs : List D) : (enumD xs).length = xs.length := by unfold enumD; simp
theorem zipD_get {xs ys : List D} {i : Nat} {d : D} (h : (zipD xs ys)[i]? = some d) : ∃ x y, xs[i]? = some x ∧ ys[i]? = some y ∧ d = .tuple [x, y] := by
  unfold zipD at h
  rw [List.getElem?_zipWith] at h
  cases e1 : xs[i]? with
  | none => rw [e1] at h; cases h
  | some x =>
    rw [e1] at h
    cases e2 : ys[i]? with
    | none => rw [e2] at h; cases h
    | some y =>
      rw [e2] at h
      exact ⟨x, y, rfl, rfl, (Option.some.inj h).symm⟩
theorem zipD_len (xs ys : List D) : (zipD xs ys).length = min xs.length ys.length := by unfold zipD; simp
theorem DRs.rel {K : PySem.W.Frag} {H : Hp} {vs : List V} {ds : List D} {i : Nat} {v : V} {d : D} (h : DRs K H vs ds) (e1 : vs[i]? = some v) (e2 : ds[i]? = some d) : DR K H v d := by
  obtain ⟨u, e, r⟩ := h.get e2
  rw [e1] at e
  cases e
  exact r
section
variable {X : Cx} {E : Nat → Hp → Prop} {a b : Expr} {pos p tpos : Pos} {elts : List Expr} {kk : Nat} {F F1 F2 : Loc → Store → Res W}
theorem i_enum (hg : Gl X "enumerate") (hm : X.mg "enumerate" = none) (h : Pe X E F a) (hs : starEach [a] X.env = [(false, eval a X.env)]) : Pi X E (fun ls S => (F ls S).bind fun w S1 => match w with
    | .d x => optR ((seqD x).map enumD) S1
    | .r _ => .stuck) (.Tuple elts kk tpos) (.Call (.Name "enumerate" p) [a] [] pos) := by
  refine PI.mono (pi_enumA hg hm h hs) fun σ H R ⟨M, ls, S, rel, lr, h⟩ => ?_
  refine ⟨M, ls, S, rel, lr, h.bind fun x S1 M1 H1 v _ g p rel1 wx h1 => ?_⟩
  cases x with
  | r i => exact h1.elim
  | d x =>
    cases x with
    | list ds =>
      cases wx with
      | lst h2 d =>
        refine ⟨_, _, rfl, .inl ⟨h2.sq, OK.fin (R := IR X.gx) h1 rel1 ?_⟩⟩
        exact good_pairs (walk_enum (K := X.K)) (by rw [enumD_len, d.length]) (fun H => FzL X.K H _ _ ∧ DRs X.K H _ ds) ⟨h2, d⟩ (fun _ _ g q => ⟨q.1.mono g, DRs.mono g _ _ q.2⟩) (fun _ q => q.1.sq) fun i d H q e => by
          obtain ⟨x, e1, rfl⟩ := enumD_get e
          exact ⟨_, _, rfl, fun x hx => by cases hx; exact .int _, fun y hy => q.2.rel hy e1⟩
    | tuple ds =>
      cases wx with
      | tup h2 d =>
        refine ⟨_, _, rfl, .inr ⟨h2, OK.fin (R := IR X.gx) h1 rel1 ?_⟩⟩
        exact good_pairs (walk_enumT (K := X.K)) (by rw [enumD_len, d.length]) (fun H => SqT X.K H _ _ ∧ DRs X.K H _ ds) ⟨h2, d⟩ (fun _ _ g q => ⟨SqT_mono g q.1, DRs.mono g _ _ q.2⟩) (fun _ q => q.1) fun i d H q e => by
          obtain ⟨x, e1, rfl⟩ := enumD_get e
          exact ⟨_, _, rfl, fun x hx => by cases hx; exact .int _, fun y hy => q.2.rel hy e1⟩
    | _ => exact h1.elim
theorem i_zip (hg : Gl X "zip") (hm : X.mg "zip" = none) (h1 : Pe X E F1 a) (h2 : Pe X E F2 b) (hs : starEach [a, b] X.env = (false, eval a X.env) :: starEach [b] X.env) (hs2 : starEach [b] X.env = (false, eval b X.env) :: starEach [] X.env) (hpl : (backTo pos (starEach [b] X.env)).any (·.1) = false) :
    Pi X E (fun ls S => (F1 ls S).bind fun w S1 => (F2 ls S1).bind fun u S2 => match w, u with
    | .d (.tuple xs), .d (.tuple ys) => .ok (zipD xs ys) S2
    | .d (.list xs), .d (.list ys) => .ok (zipD xs ys) S2
    | .d (.tuple xs), .d (.list ys) => .ok (zipD xs ys) S2
    | _, _ => .stuck) (.Tuple elts kk tpos) (.Call (.Name "zip" p) [a, b] [] pos) := by
  refine PI.mono (pi_zipTL hg hm (pa_cons h1 (pa_cons h2 pa_nil hs2) hs) hs hpl) fun σ H R ⟨M, ls, S, rel, lr, h⟩ => ?_
  refine ⟨M, ls, S, rel, lr, h.bind fun x S1 M1 H1 v _ g p rel1 wx h1 => ?_⟩
  refine ⟨M1, ls, S1, rel1, lr.mono g p, h1.bind fun y S2 M2 H2 u _ g2 p2 rel2 wy h2 => ?_⟩
  have wx := wx.mono g2 p2
  cases x with
  | r i => exact h2.elim
  | d x =>
    cases y with
    | r i => cases x <;> exact h2.elim
    | d y =>
      cases x with
      | list xs =>
        cases y with
        | list ys =>
          cases wx with
          | lst f1 d1 =>
            cases wy with
            | lst f2 d2 =>
              refine ⟨_, _, _, _, rfl, .inl ⟨f1.sq, f2.sq, OK.fin (R := IR X.gx) h2 rel2 ?_⟩⟩
              exact good_pairs (walk_zip (K := X.K) rfl) (by rw [zipD_len, d1.length, d2.length]) (fun H => (FzL X.K H _ _ ∧ DRs X.K H _ xs) ∧ FzL X.K H _ _ ∧ DRs X.K H _ ys) ⟨⟨f1, d1⟩, f2, d2⟩ (fun _ _ g q => ⟨⟨q.1.1.mono g, DRs.mono g _ _ q.1.2⟩, q.2.1.mono g, DRs.mono g _ _ q.2.2⟩) (fun _ q => ⟨q.1.1.sq, q.2.1.sq⟩) fun i d H q e => by
                obtain ⟨x, y, e1, e2, rfl⟩ := zipD_get e
                exact ⟨_, _, rfl, fun x hx => q.1.2.rel hx e1, fun y hy => q.2.2.rel hy e2⟩
        | _ => exact h2.elim
      | tuple xs =>
        cases y with
        | tuple ys =>
          cases wx with
          | tup f1 d1 =>
            cases wy with
            | tup f2 d2 =>
              refine ⟨_, _, _, _, rfl, .inr (.inl ⟨f1, f2, OK.fin (R := IR X.gx) h2 rel2 ?_⟩)⟩
              exact good_pairs (walk_zipT (K := X.K) rfl) (by rw [zipD_len, d1.length, d2.length]) (fun H => (SqT X.K H _ _ ∧ DRs X.K H _ xs) ∧ SqT X.K H _ _ ∧ DRs X.K H _ ys) ⟨⟨f1, d1⟩, f2, d2⟩ (fun _ _ g q => ⟨⟨SqT_mono g q.1.1, DRs.mono g _ _ q.1.2⟩, SqT_mono g q.2.1, DRs.mono g _ _ q.2.2⟩) (fun _ q => ⟨q.1.1, q.2.1⟩) fun i d H q e => by
                obtain ⟨x, y, e1, e2, rfl⟩ := zipD_get e
                exact ⟨_, _, rfl, fun x hx => q.1.2.rel hx e1, fun y hy => q.2.2.rel hy e2⟩
        | list ys =>
          cases wx with
          | tup f1 d1 =>
            cases wy with
            | lst f2 d2 =>
              refine ⟨_, _, _, _, rfl, .inr (.inr ⟨f1, f2.sq, OK.fin (R := IR X.gx) h2 rel2 ?_⟩)⟩
              exact good_pairs (walk_zipTL (K := X.K) rfl) (by rw [zipD_len, d1.length, d2.length]) (fun H => (SqT X.K H _ _ ∧ DRs X.K H _ xs) ∧ FzL X.K H _ _ ∧ DRs X.K H _ ys) ⟨⟨f1, d1⟩, f2, d2⟩ (fun _ _ g q => ⟨⟨SqT_mono g q.1.1, DRs.mono g _ _ q.1.2⟩, q.2.1.mono g, DRs.mono g _ _ q.2.2⟩) (fun _ q => ⟨q.1.1, q.2.1.sq⟩) fun i d H q e => by
                obtain ⟨x, y, e1, e2, rfl⟩ := zipD_get e
                exact ⟨_, _, rfl, fun x hx => q.1.2.rel hx e1, fun y hy => q.2.2.rel hy e2⟩
        | _ => exact h2.elim
      | _ => cases y <;> exact h2.elim
end
end MI

end S_MiO
section S_MiP
namespace MI
open PySem PySem.Spec PyProof.Rows L2

theorem vals_strs {K : PySem.W.Frag} {H : Hp} : ∀ {vs : List V} {ds : List D} {is : List Str}, DRs K H vs ds → strsOf ds = some is → vs = is.map V.str
  | _, _, _, .nil, e => by cases e; rfl
  | _, _, _, .cons (d := d) (ds := ds) r t, e => by
    cases d with
    | str i =>
      obtain ⟨js, e1, e2⟩ := Option.map_eq_some_iff.mp (show (strsOf ds).map (i :: ·) = some _ from e)
      subst e2
      cases r
      rw [vals_strs t e1]
      rfl
    | _ => cases e
theorem drs_strs {K : PySem.W.Frag} {H : Hp} : ∀ ys : List Str, DRs K H (ys.map V.str) (ys.map PyData.str)
  | [] => .nil
  | _ :: ys => .cons (.str _) (drs_strs ys)
theorem drs_rep {K : PySem.W.Frag} {H : Hp} {vs : List V} {ds : List D} (h : DRs K H vs ds) : ∀ n : Nat, DRs K H (List.replicate n vs).flatten (List.replicate n ds).flatten
  | 0 => .nil
  | n + 1 => by
    rw [List.replicate_succ, List.replicate_succ, List.flatten_cons, List.flatten_cons]
    exact h.append (drs_rep h n)

section
variable {G : Gx} {E : Nat → Hp → Prop} {M : List Addr} {S : Store} {H : Hp}
theorem str1_ok {ws : List W} {vs : List V} {Q : VK} (rel : Rel G M S H) (wr : WRs G.K M H vs ws) (h : OK (WR G.K) G E M H (bltW .str ws S) Q) :
    (∃ i, vs = [.int i] ∧ i.natAbs.log2 < 1920 ∧ Q (.str (toString i)) H) ∨ ∃ a, vs = [.str a] ∧ Q (.str a) H := by
  match ws, wr, h with
  | [.d (.int i)], wr, h =>
    obtain ⟨v, rfl, r⟩ := wr.one
    cases r
    have h : OK (WR G.K) G E M H (if decide (i.natAbs.log2 < 1920) then .ok (.d (.str (toString i))) S else .stuck) Q := h
    by_cases c : i.natAbs.log2 < 1920
    · rw [decide_eq_true c, if_pos rfl] at h
      exact .inl ⟨i, rfl, c, OK.datum (E := E) h rel (.str _)⟩
    · rw [decide_eq_false c] at h; exact h.elim
  | [.d (.str z)], wr, h =>
    obtain ⟨v, rfl, r⟩ := wr.one
    cases r
    exact .inr ⟨z, rfl, OK.datum (E := E) h rel (.str _)⟩
theorem indx_ok {x y : W} {v u : V} {Q : VK} (rel : Rel G M S H) (wx : WR G.K M H v x) (wy : WR G.K M H u y) (h : OK (WR G.K) G E M H (indxW x y S) Q) :
    ∃ p, ∃ ys : List Str, ∃ z j, v = .ref p ∧ [u] = [.str z] ∧ SqT G.K H p (ys.map V.str) ∧ ys[j]? = some z ∧ (∀ m, m < j → ys[m]? ≠ some z) ∧ Q (.int (j : Nat)) H := by
  cases x with
  | r i => exact h.elim
  | d x =>
    cases x with
    | tuple xs =>
      cases y with
      | r i => exact h.elim
      | d y =>
        cases y with
        | str z =>
          cases wy
          cases wx with
          | tup hs d =>
            unfold indxW at h
            cases e : strsOf xs with
            | none => simp only [e] at h; exact h.elim
            | some ys =>
              simp only [e] at h
              cases e2 : ys.findIdx? (fun u => u == z) with
              | none => simp only [e2] at h; exact h.elim
              | some j =>
                simp only [e2, Option.map_some] at h
                have := vals_strs d e
                subst this
                obtain ⟨hj, h1, h2⟩ := List.findIdx?_eq_some_iff_getElem.mp e2
                refine ⟨_, ys, z, j, rfl, rfl, hs, ?_, fun m hm hq => ?_, OK.datum (E := E) h rel (.int _)⟩
                · rw [List.getElem?_eq_getElem hj]
                  exact congrArg some (eq_of_beq h1)
                · obtain ⟨hl, q⟩ := List.getElem?_eq_some_iff.mp hq
                  exact h2 m hm (by rw [q]; exact beq_self_eq_true z)
        | _ => exact h.elim
    | _ => cases y with
      | r i => exact h.elim
      | d y => cases y <;> exact h.elim
theorem splt_ok {x y : W} {v u : V} {Q : VK} (rel : Rel G M S H) (wx : WR G.K M H v x) (wy : WR G.K M H u y) (h : OK (WR G.K) G E M H (spltW x y S) Q) :
    ∃ a b, v = .str a ∧ [u] = [.str b] ∧ (b.length == 0) = false ∧ a.length + 2 ≤ sizeLine ∧ rNewStrs (Txt.split a b) H (lkQ Q) := by
  cases x with
  | r i => cases y <;> exact h.elim
  | d x =>
    cases x with
    | str a =>
      cases y with
      | r i => exact h.elim
      | d y =>
        cases y with
        | str b =>
          cases wx
          cases wy
          unfold spltW at h
          by_cases c : (!(b.length == 0) && decide (a.length + 2 ≤ sizeLine)) = true
          · simp only [c, if_true] at h
            simp only [Bool.and_eq_true, Bool.not_eq_true', decide_eq_true_eq] at c
            refine ⟨a, b, rfl, rfl, c.1, c.2, fun p hp => ⟨p, _, rfl, upd_same, fun o => ?_⟩⟩
            obtain ⟨g, r, dd⟩ := newFz (o := o) rel hp (drs_strs (K := G.K) (H := H) (Txt.split a b))
            exact h.fin' (b := V.ref p) g r dd
          · simp only [c] at h; exact h.elim
        | _ => exact h.elim
    | _ => cases y with
      | r i => exact h.elim
      | d y => cases y <;> exact h.elim
theorem join_ok {x y : W} {v u : V} {Q : VK} (rel : Rel G M S H) (wx : WR G.K M H v x) (wy : WR G.K M H u y) (h : OK (WR G.K) G E M H (joinW x y S) Q) :
    ∃ a p, ∃ ys : List Str, v = .str a ∧ [u] = [.ref p] ∧ (SqL G.K H p (ys.map V.str) ∨ SqT G.K H p (ys.map V.str)) ∧ (ys.map (·.length)).sum + ys.length * a.length ≤ 16777216 ∧ Q (.str (Txt.join a ys)) H := by
  unfold joinW at h
  cases x with
  | r i => exact h.elim
  | d x =>
    cases x with
    | str a =>
      cases wx
      cases q : toD S y with
      | none => simp only [q, Option.bind_none] at h; exact h.elim
      | some b =>
        have vb := view rel wy q
        have key : ∀ (xs : List D) (vs : List V) (p : Addr), seqD b = some xs → DRs G.K H vs xs → u = .ref p → (SqL G.K H p vs ∨ SqT G.K H p vs) →
            ∃ a' p, ∃ ys : List Str, V.str a = .str a' ∧ [u] = [.ref p] ∧ (SqL G.K H p (ys.map V.str) ∨ SqT G.K H p (ys.map V.str)) ∧ (ys.map (·.length)).sum + ys.length * a'.length ≤ 16777216 ∧ Q (.str (Txt.join a' ys)) H := by
          intro xs vs p es d eu hs
          simp only [q, Option.bind_some, es] at h
          cases e : strsOf xs with
          | none => simp only [e] at h; exact h.elim
          | some ys =>
            simp only [e] at h
            have := vals_strs d e
            subst this
            by_cases c : (ys.map (·.length)).sum + ys.length * a.length ≤ 16777216
            · rw [decide_eq_true c, if_pos rfl] at h
              exact ⟨a, p, ys, rfl, by rw [eu], hs, c, OK.datum (E := E) h rel (.str _)⟩
            · rw [decide_eq_false c] at h; exact h.elim
        cases b with
        | list xs =>
          obtain ⟨p, vs, eu, hs, d⟩ := vb.list
          exact key xs vs p rfl d eu (.inl hs)
        | tuple xs =>
          obtain ⟨p, vs, eu, hs, d⟩ := vb.tuple
          exact key xs vs p rfl d eu (.inr hs)
        | _ => simp only [q, Option.bind_some, seqD] at h; exact h.elim
    | _ => exact h.elim
end

section
variable {X : Cx} {E : Nat → Hp → Prop} {a b c : Expr} {es : List Expr} {pos p p2 p3 apos : Pos} {F F1 F2 F3 : Loc → Store → Res W} {FL : Loc → Store → Res (List W)}
theorem strR_ok {x : W} {S : Store} {M : List Addr} {H : Hp} {G : Gx} {v : V} (wx : WR G.K M H v x) {β α : Type} {R : List Addr → Hp → β → α → Prop} {E : Nat → Hp → Prop} {f : Unit → Store → Res α} {Q : β → Hp → Prop} (h : OK R G E M H ((strR x S).bind f) Q) : (∃ a, v = .str a) ∧ OK R G E M H (f () S) Q := by
  cases x with
  | r i => exact h.elim
  | d x =>
    cases x with
    | str a => cases wx; exact ⟨⟨a, rfl⟩, h⟩
    | _ => exact h.elim
theorem x_m1 {id : String} {name : Str} {r : V → List V → Hp → VK → Prop} {f : W → W → Store → Res W} (slot : Slot "str" name id) (ty : typeOf (.builtin id) = pure (.type "method_descriptor")) (rule : MtR X id r)
    (hf : ∀ M S H x y v u Q, Rel X.gx M S H → WR X.K M H v x → WR X.K M H u y → OK (WR X.K) X.gx E M H (f x y S) Q → r v [u] H Q) (h1 : Pe X E F1 a) (h2 : Pe X E F2 b)
    (hs : starEach [b] X.env = [(false, eval b X.env)]) (hbase : attributeBase a name X.env (eval a X.env) = eval a X.env) (hline : (apos.endLine == pos.line) = true) :
    Pe X E (fun ls S => (F1 ls S).bind fun v S1 => (strR v S1).bind fun _ S2 => (F2 ls S2).bind fun y S3 => f v y S3) (.Call (.Attribute a name apos) [b] [] pos) := by
  refine PE.mono (pe_m1 slot ty rule h1 h2 hs hbase hline) fun σ H Q ⟨M, ls, S, rel, lr, h⟩ => ?_
  refine ⟨M, ls, S, rel, lr, h.bind fun x S1 M1 H1 v e1 g p rel1 wx h1 => ?_⟩
  obtain ⟨hv, h1⟩ := strR_ok wx h1
  refine ⟨hv, M1, ls, S1, rel1, lr.mono g p, h1.bind fun y S2 M2 H2 u e2 g2 p2 rel2 wy h2 => hf M2 S2 H2 x y v u Q rel2 (wx.mono g2 p2) wy h2⟩
theorem x_rpl {k : Nat} (h1 : Pa X E FL es) (h2 : Pe X E F b) : Pe X E (fun ls S => (FL ls S).bind fun ws S1 => (daR ws S1).bind fun xs S2 => (F ls S2).bind fun y S3 => rplW xs y S3) (.BinOp (.List es p2) .Mult b pos) := by
  refine PE.mono (pe_lk (pe_op op_rep (pe_lst h1) h2)) fun σ H Q ⟨M, ls, S, rel, lr, h⟩ => ?_
  refine ⟨M, ls, S, rel, lr, h.bind fun ws S1 M1 H1 vs e1 g p rel1 wr h1 => ?_⟩
  unfold daR at h1
  cases e : dataOf ws with
  | none => simp only [e] at h1; exact h1.elim
  | some xs =>
    simp only [e] at h1
    have d := wr.data e
    by_cases c : fits xs.length = true
    · rw [if_pos c] at h1
      refine ⟨by rw [d.length]; exact fitsT c, fun q hq => ?_⟩
      have gq : Grow H1 (upd H1 q (.lst vs)) := Grow.new hq
      have nq : q ∉ M1 := fun m => rel1.on q m hq
      refine ⟨M1, ls, S1, rel1.new hq, (lr.mono g p).mono gq (Pre.refl _), OK.bindX (OK.at (Ext.new hq) h1) fun y S2 M2 H2 u e2 x2 rel2 wy h2 => ?_⟩
      have hq2 : H2 q = some (.lst vs) := x2.fr q _ upd_same nq
      have d2 : DRs X.K H2 vs xs := DRs.mono (gq.trans x2.g) _ _ d
      cases y with
      | r i => exact h2.elim
      | d y =>
        cases y with
        | int n =>
          cases wy
          unfold rplW at h2
          by_cases c2 : (decide (0 ≤ n) && decide (n ≤ 1000) && fits (xs.length * n.toNat)) = true
          · simp only [c2, if_true] at h2
            simp only [Bool.and_eq_true, decide_eq_true_eq] at c2
            refine ⟨q, n, vs, rfl, rfl, hq2, by omega, by omega, by rw [d.length]; exact fitsT c2.2, fun r hr => ⟨r, _, rfl, upd_same, fun o => ?_⟩⟩
            obtain ⟨g3, r3, dd⟩ := newFz (o := o) rel2 hr (drs_rep d2 n.toNat)
            exact h2.fin' (b := V.ref r) g3 r3 dd
          · simp only [c2] at h2; exact h2.elim
        | _ => exact h2.elim
    · rw [if_neg c] at h1; exact h1.elim
end

section
variable {I : Inf} {Ex : XK} {top : Bool} {sc : Scope} {N : List Str} {X : Cx} {a b d : Expr} {ma mb md : MI.E} {pos p p2 p3 apos : Pos} {es : List Expr} {x y z : Str} {F : Nat} {e : Expr} {tg : Expr} {elts : List Expr} {kk : Nat} {tpos : Pos}
theorem ki_enum (c : Cn I Ex top sc N X) (j : Nat) (hj : I.bn[j]? = some ("enumerate" : Str)) (hg : glB sc "enumerate" = true) (h : Je I Ex X ma a) (hs : starEach [a] X.env = [(false, eval a X.env)] := by rfl) : Ji I Ex X (.ienum ma) (.Tuple elts kk tpos) (.Call (.Name "enumerate" p) [a] [] pos) :=
  (i_enum (c.gl hg) (c.bn j _ hj) h hs).cast (by funext ls S; rw [evI]; try rfl)
theorem ki_zip (c : Cn I Ex top sc N X) (j : Nat) (hj : I.bn[j]? = some ("zip" : Str)) (hg : glB sc "zip" = true) (h1 : Je I Ex X ma a) (h2 : Je I Ex X mb b) (hs : starEach [a, b] X.env = (false, eval a X.env) :: starEach [b] X.env := by rfl) (hs2 : starEach [b] X.env = (false, eval b X.env) :: starEach [] X.env := by rfl) (hpl : (backTo pos (starEach [b] X.env)).any (·.1) = false := by rfl) :
    Ji I Ex X (.izip ma mb) (.Tuple elts kk tpos) (.Call (.Name "zip" p) [a, b] [] pos) := (i_zip (c.gl hg) (c.bn j _ hj) h1 h2 hs hs2 hpl).cast (by funext ls S; rw [evI]; try rfl)
theorem k_str1 (c : Cn I Ex top sc N X) (j : Nat) (h : I.bn[j]? = some ("str" : Str)) (hg : glB sc "str" = true) (ha : Ja I Ex X ma (e :: es)) (he : starEach (e :: es) X.env = (false, eval e X.env) :: starEach es X.env := by rfl)
    (hpl : (backTo pos (starEach es X.env)).any (·.1) = false := by rfl) : Je I Ex X (.blt .str ma) (.Call (.Name "str" p) (e :: es) [] pos) :=
  (x_bltT (call_str_int.or SkE.call_str_str) (fun _ _ _ _ _ _ rel wr h => str1_ok rel wr h) (c.gl hg) (c.bn j _ h) (by decide +kernel) ha (by decide) (by decide) he hpl).cast (by funext ls S; rw [evE])
theorem k_splt (h1 : Je I Ex X ma a) (h2 : Je I Ex X mb b) (hs : starEach [b] X.env = [(false, eval b X.env)] := by rfl) (hbase : attributeBase a "split" X.env (eval a X.env) = eval a X.env := by rfl) (hline : (apos.endLine == pos.line) = true := by rfl) :
    Je I Ex X (.splt ma mb) (.Call (.Attribute a "split" apos) [b] [] pos) := by
  have rule : MtR X "str.split" (fun x xs H Q => ∃ a b, x = .str a ∧ xs = [.str b] ∧ (b.length == 0) = false ∧ a.length + 2 ≤ sizeLine ∧ rNewStrs (Txt.split a b) H (lkQ Q)) := by
    intro pins s σ H x xs v us Q I rx rs h
    exact thn (mt_split pins s σ H x xs v us (lkQ Q) I rx rs h) fun _ _ z => lk_run z
  exact (x_m1 F.slot_str_split F.type_str_split rule (fun _ _ _ _ _ _ _ _ rel wx wy h => splt_ok rel wx wy h) h1 h2 hs hbase hline).cast (by funext ls S; rw [evE])
theorem k_join (h1 : Je I Ex X ma a) (h2 : Je I Ex X mb b) (hs : starEach [b] X.env = [(false, eval b X.env)] := by rfl) (hbase : attributeBase a "join" X.env (eval a X.env) = eval a X.env := by rfl) (hline : (apos.endLine == pos.line) = true := by rfl) :
    Je I Ex X (.join ma mb) (.Call (.Attribute a "join" apos) [b] [] pos) :=
  (x_m1 F.slot_str_join F.type_str_join mt_join (fun _ _ _ _ _ _ _ _ rel wx wy h => join_ok rel wx wy h) h1 h2 hs hbase hline).cast (by funext ls S; rw [evE])
theorem k_rpl (h1 : Ja I Ex X ma es) (h2 : Je I Ex X mb b) : Je I Ex X (.rpl ma mb) (.BinOp (.List es p2) .Mult b pos) := (x_rpl (k := 0) h1 h2).cast (by funext ls S; rw [evE])
theorem k_indx (c : Cn I Ex top sc N X) (j : Nat) {ds : List D} {px : Pos} (h : I.gs[j]? = some (x, .tuple ds)) (hg : glB sc x = true) (h2 : Je I Ex X mb b) (hbase : attributeBase (.Name x px) "index" X.env (eval (.Name x px) X.env) = eval (.Name x px) X.env := by rfl)
    (hfew : ((backTo pos (starEach [b] X.env)).all (fun x => !x.1) && (backToKw pos (keywordEach [] X.env)).all (fun x => x.1.isSome) && decide ([b].length + ([] : List Keyword).length + (if ([] : List Keyword).isEmpty then 0 else 1) < 30)) = true := by rfl)
    (hline : (apos.endLine == pos.line) = true := by rfl) (hs : starEach [b] X.env = (false, eval b X.env) :: starEach [] X.env := by rfl) : Je I Ex X (.indx (.glb x (.tuple ds)) mb) (.Call (.Attribute (.Name x px) "index" apos) [b] [] pos) := by
  obtain ⟨u, v, h1, h3, h4, h5⟩ := c.gs j x _ h
  have h4 := h4.dr rfl
  refine PE.mono (pe_bm PySem.F.plainAttrs_tuple PySem.F.slot_tuple_index PySem.F.type_tuple_index mt_tup_index (pe_glob (c.gl hg) h1 h3 (glB_gl hg).2) (pa_cons h2 pa_nil hs) hbase hfew hline hs rfl) fun σ H Q ⟨M, ls, S, rel, lr, h⟩ => ?_
  rw [evE, evE] at h
  have h : OK (WR X.K) X.gx (En I Ex) M H ((evE I.call mb ls S).bind fun y S3 => indxW (.d (.tuple ds)) y S3) Q := h
  refine ⟨h5 ⟨ds, rfl⟩ H, M, ls, S, rel, lr, h.bind fun y S2 M2 H2 u e2 g2 p2 rel2 wy h2 => ?_⟩
  exact indx_ok (x := .d (.tuple ds)) rel2 (h4 H2) wy h2
end
end MI

end S_MiP
section S_MiR
namespace MI
open PySem PySem.Spec PyProof.Rows L2
section
variable {I : Inf} {Ex : XK} {top : Bool} {sc : Scope} {N : List Str} {X : Cx} {ma : MI.E} {pos pos' p p2 p3 py pp np : Pos} {es : List Expr} {x y fn : Str} {F : Nat} {e : Expr}
theorem Cn.tr (c : Cn I Ex top sc N X) (pn : List (Addr × Obj)) (xe : Value → Shared → Prop) : Cn I E0 top sc N (X.tr pn xe) :=
  ⟨c.esc, c.eN, c.room, c.calm, c.nd, c.kind, c.fn, passL, takes0, c.stk, c.es, c.exm, c.tb, c.bn, c.gs⟩
theorem ks_rse (c : Cn I Ex top sc N X) (j : Nat) {cc i : Nat} {m : Str} (h : I.es[j]? = some (cc, x)) (hg : glB sc x = true) : Js I Ex X F (.rse cc) (.Raise (some (.Call (.Name x p) [.Constant (.str m) i p2] [] p3)) none pos) := by
  obtain ⟨C, h1, h2, h3, h4, h5, h6⟩ := c.es j cc x h
  refine PS.mono (ps_raise c.calm c.tk (pmk_own PySem.F.excBase_ValueError h4 h1 h3 (raises_own h5 h6) (c.gl hg) (glB_gl hg).2)) fun D σ H ⟨M, ls, S, rel, lr, q⟩ => ?_
  rw [exM] at q
  have q : ∀ M' H', Ext M H M' H' → Rel X.gx M' S H' → Ex (I.cv cc) none H' := q
  have := q M H (Ext.refl _ _) rel
  rw [h2] at this
  exact this
def hdsV (cv : Nat → Value) (hs : List (Nat × Nat × Str)) : List (Value × (Addr → Value → Option Addr → TS)) := hs.map fun h => (cv h.1, fun _ _ _ D σ H => D.nx (σ.set h.2.1 (some (.str h.2.2))) H)
structure Hds (I : Inf) (X : Cx) (hds : List ExceptHandler) (hs : List (Nat × Nat × Str)) : Prop where
  ok : HdsOk X hds (hdsV I.cv hs)
  es : ∀ h ∈ hs, ∃ (j : Nat) (y : Str), I.es[j]? = some (h.1, y)
theorem kh_nil : Hds I X [] [] := ⟨.nil, fun _ h => (List.not_mem_nil h).elim⟩
theorem kh_cons {hds : List ExceptHandler} {hs : List (Nat × Nat × Str)} (c : Cn I Ex top sc N X) (j : Nat) {cc k : Nat} {m : Str} (h : I.es[j]? = some (cc, x)) (hg : glB sc x = true) (i : Nat) (hN : N[i]? = some y) (hy : asgB top sc y = true) (r : Hds I X hds hs) :
    Hds I X (.ExceptHandler (some (.Name x np)) none [.Assign [.Name y py] (.Constant (.str m) k p2) p3] pos' :: hds) ((cc, i, m) :: hs) := by
  obtain ⟨C, h1, h2, h3, h4, h5, h6⟩ := c.es j cc x h
  refine ⟨.cons ⟨c.gl hg, (glB_gl hg).2, .inl ?_⟩ (fun a oe cls d pn _ _ => ?_) r.ok, fun z hz => ?_⟩
  · rw [h2]; exact h1
  · exact PSs.mono (pss_one (ps_set (X := X.suite a ((a, oe) :: pn)) c.nd (c.at hN) (c.loc hy).1 pe_str (by rfl) (c.loc hy).2)) fun D σ H q => q
  · rcases List.mem_cons.mp hz with rfl | hz
    · exact ⟨j, x, h⟩
    · exact r.es z hz
theorem many_ok {D : Ends} {σ : L2.St} {H : Hp} {c : Cn I Ex top sc N X} {cc : Nat} (hcc : ∃ (j : Nat) (y : Str), I.es[j]? = some (cc, y)) : ∀ {hs : List (Nat × Nat × Str)} {z : Nat × Nat × Str}, (∀ h ∈ hs, ∃ (j : Nat) (y : Str), I.es[j]? = some (h.1, y)) → (hs.find? fun h => h.1 == cc) = some z → D.nx (σ.set z.2.1 (some (.str z.2.2))) H →
    wMany X.K (fun _ _ _ _ => False) D (hdsV I.cv hs) (I.cv cc) none σ H
  | [], _, _, e, _ => by cases e
  | h :: hs, z, hes, e, q => by
    obtain ⟨j, y, hj⟩ := hcc
    obtain ⟨j', y', hj'⟩ := hes h (List.mem_cons_self ..)
    refine ⟨_, c.exm j j' _ _ _ _ hj hj', fun e1 a _ => ?_, fun e1 => ?_⟩
    · have e2 : (h.1 == cc) = true := by rw [beq_iff_eq] at e1 ⊢; exact e1.symm
      rw [List.find?_cons, e2] at e
      cases e
      exact q
    · have e2 : (h.1 == cc) = false := by rw [beq_eq_false_iff_ne] at e1 ⊢; exact fun z => e1 z.symm
      rw [List.find?_cons, e2] at e
      exact many_ok (c := c) ⟨j, y, hj⟩ (fun h hh => hes h (List.mem_cons_of_mem _ hh)) e q
theorem ks_tryC {hds : List ExceptHandler} {h0 : ExceptHandler} {hs : List (Nat × Nat × Str)} (c : Cn I Ex top sc N X) (ht : top = true) (jf : Nat) {f : Nat} {ps : List Str} (hf : I.fns[jf]? = some (f, fn, ps)) (hg : glB sc fn = true) (i : Nat) (hN : N[i]? = some y) (hy : asgB top sc y = true)
    (ha : ∀ X', Cn I E0 top sc N X' → Ja I E0 X' ma (e :: es)) (hh : Hds I X (h0 :: hds) hs) (hl : (e :: es).length = ps.length := by rfl) (hm : lenE ma = (e :: es).length := by rfl)
    (he : starEach (e :: es) X.env = (false, eval e X.env) :: starEach es X.env := by rfl) (hpl : (backTo pos (starEach es X.env)).any (·.1) = false := by rfl) (hsw : swapsWith (.Call (.Name fn p) (e :: es) [] pos) (some (.Name y py)) pp.line X.env = pure false := by rfl) :
    Js I Ex X F (.tryC i f ma hs) (.Try [.Assign [.Name y py] (.Call (.Name fn p) (e :: es) [] pos) pp] (h0 :: hds) [] [] pos') := by
  obtain ⟨fa, fd, t1, t2, t3, t4⟩ := c.tb jf f fn ps hf
  let body : MI.Loc → Store → Res Fl := fun ls S => ((evL I.call ma ls S).noex).bind fun ws S1 => (I.call f ws S1).bind fun w S2 => .ok (.nx (ls.set i (some w))) S2
  let tb : WX → TS := fun W D σ H => ∃ M ls S, Rel X.gx M S H ∧ LR X.gx M H σ ls ∧ OK (FR X.gx) X.gx (fun c H' => W (I.cv c) none σ H') M H (body ls S) (ends D)
  refine PS.mono (ps_try_many (X := X) (Wout := fun _ _ _ _ => False) (tb := tb) (c.stk ht).1 (c.stk ht).2 takes0 (fun W pn xe tk _ => ?_) hh.ok) fun D σ H ⟨M, ls, S, rel, lr, h⟩ => ?_
  · have args : PA (X.tr pn xe) (e :: es) (tE (WRs X.K) X.gx (En I E0) (evL I.call ma)) := ha _ (c.tr pn xe)
    have call := pe_callS (X := X.tr pn xe) (x := fn) (p := p) (pos := pos) (E := WE W) t4 c.room (c.gl hg) t1 t2 t3 (fun σ => passAt tk σ) args (glB_gl hg).2 he hpl
    refine PSs.mono (pss_one (ps_set (X := X.tr pn xe) c.nd (c.at hN) (c.loc hy).1 call hsw (c.loc hy).2)) fun D σ H ⟨M, ls, S, rel, lr, h⟩ => ?_
    show tE (WRs X.K) X.gx (En I E0) (evL I.call ma) σ H fun vs H1 => spM X.gx I.cv I.call f ps.length vs H1 (fun v H2 => D.nx (σ.set i (some v)) H2) (WE W σ)
    have h : OK (FR X.gx) X.gx (fun c H' => W (I.cv c) none σ H') M H (((evL I.call ma ls S).noex).bind fun ws S1 => (I.call f ws S1).bind fun w S2 => .ok (.nx (ls.set i (some w))) S2) (ends D) := h
    refine ⟨M, ls, S, rel, lr, OK.noexE (OK.bind (R := WRs X.K) (R' := FR X.gx) (r := (evL I.call ma ls S).noex) h fun ws S1 M1 H1 vs e1 g p rel1 wr h1 => ?_)⟩
    have e2 : evL I.call ma ls S = .ok ws S1 := by
      revert e1
      cases evL I.call ma ls S <;> intro e1 <;> first | exact e1 | cases e1
    refine ⟨?_, M1, S1, ws, rel1, wr, ?_⟩
    · rw [wr.length, evL_len ma e2, hm, ← hl]
    · exact OK.bind (R' := FR X.gx) h1 fun w S2 M2 H2 v _ g2 p2 rel2 wx h2 => OK.nx (D := D) h2 rel2 (((lr.mono g p).mono g2 p2).set wx i)
  · rw [exM] at h
    refine ⟨M, ls, S, rel, lr, ?_⟩
    show OK (FR X.gx) X.gx _ M H (((evL I.call ma ls S).noex).bind fun ws S1 => (I.call f ws S1).bind fun w S2 => .ok (.nx (ls.set i (some w))) S2) (ends D)
    revert h
    cases evL I.call ma ls S with
    | ex c' S' => exact fun h => h.elim
    | stuck => exact fun h => h.elim
    | ok ws S1 =>
      intro h
      have h : OK (FR X.gx) X.gx (En I Ex) M H (hdl hs ls ((I.call f ws S1).bind fun w S2 => .ok (.nx (ls.set i (some w))) S2)) (ends D) := h
      show OK (FR X.gx) X.gx _ M H ((I.call f ws S1).bind fun w S2 => .ok (.nx (ls.set i (some w))) S2) (ends D)
      revert h
      generalize (I.call f ws S1).bind (fun w S2 => (Res.ok (Fl.nx (ls.set i (some w))) S2 : Res Fl)) = r
      intro h
      cases r with
      | stuck => exact h
      | ok a S' => exact h
      | ex cc S' =>
        cases ez : hs.find? fun h => h.1 == cc with
        | none =>
          unfold hdl at h
          simp only [ez] at h
          exact h.elim
        | some z =>
          unfold hdl at h
          simp only [ez] at h
          intro M' H' x rel'
          have hz := List.find?_some ez
          have hz : z.1 = cc := by simpa using hz
          have hzm := List.mem_of_find?_eq_some ez
          refine many_ok (c := c) (by rw [← hz]; exact hh.es z hzm) hh.es ez ?_
          exact h M' H' (.inl (σ.set z.2.1 (some (.str z.2.2)))) x rel' ((lr.mono x.g x.p).set (w := .d (.str z.2.2)) (.str _) z.2.1)
end
end MI

end S_MiR
section S_MiT
namespace PySem.W
open PySem PySem.Calls PyProof.Rows
section
variable {prog : Program} {w : World} {A : Around} {E : Value → Shared → Prop} {s : Shared}
def TupsOf (h : Heap) : List Value → List (Array Value) → Prop := EachIs fun v xs => ∃ a o n, v = .ref a ∧ h.get? a = some o ∧ o.cls = .type "tuple" ∧ o.data = .seq xs n
end
end PySem.W

namespace MI
open PySem PySem.Spec PyProof.Rows L2
def SortD (ds : List D) : Prop := PySem.W.AllAlike ds ∧ (PySem.W.Sortable ds ∨ ∃ r, ds = .tuple [] :: r) ∧ ∀ d ∈ ds, d.depth ≤ 60
section
variable {X : Cx} {H : Hp}
def rSortedD (K : PySem.W.Frag) : List V → Hp → VK → Prop := fun vs H Q => ∃ (a : Addr) (xs : List V) (ds : List D), vs = [V.ref a] ∧ SqL K H a xs ∧ DRs K H xs ds ∧ SortD ds ∧
  ∀ (ys : List V) (p : Addr), DRs K H ys (ds.mergeSort (PySem.W.dataLe false id)) → H p = none → Q (.ref p) (upd H p (.lst ys))
end
section
variable {G : Gx} {E : Nat → Hp → Prop} {M : List Addr} {S : Store} {H : Hp}
end
section
variable {I : Inf} {Ex : XK} {top : Bool} {sc : Scope} {N : List Str} {X : Cx} {ma : MI.E} {pos p : Pos} {es : List Expr} {e : Expr}
end
end MI

end S_MiT
section S_MiU
namespace MI
open PySem PySem.Spec PyProof.Rows L2
section
variable {X : Cx} {pins : List (Addr × Obj)} {σ : L2.St} {H : Hp} {s : Shared}
theorem Rel.tab {G : Gx} {M : List Addr} {S : Store} {H1 : Hp} {P : Addr} {i : Nat} {f : Str} (rel : Rel G M S H) (hm : M[i]? = some P) (hs : S[i]? = some (.tab f)) (k : ∀ b o, b ≠ P → H b = some o → H1 b = some o) (t : LamX.TabS H1 P (f ++ ".<locals>." ++ "<lambda>")) :
    Rel G M S H1 ∧ Ext M H M H1 := by
  obtain ⟨⟨ps, hP, _, _⟩, x⟩ := rel.ob i _ P hs hm
  obtain ⟨ps1, hP1, _, _⟩ := id t
  have ne : ∀ b o, H b = some o → (∀ p, o ≠ .tbl p) → b ≠ P := fun b o e n z => by
    rw [z, hP] at e
    exact n _ (Option.some.inj e).symm
  have g : Grow H H1 := ⟨fun a xs e => k a _ (ne a _ e fun _ z => nomatch z) e, fun a o u e => k a _ (ne a _ e fun _ z => nomatch z) e, fun a q e => k a _ (ne a _ e fun p => LamX.codeO_ne p) e⟩
  refine ⟨⟨rel.len, rel.nd, fun a ha => ?_, fun j so a h1 h2 => ?_, fun j i xs e => ⟨(rel.ow j i xs e).1, fun b a e1 e2 => let ⟨C, dx, v1, v2, z⟩ := (rel.ow j i xs e).2 b a e1 e2; ⟨C, dx, v1, v2, k a _ (ne a _ z fun _ z => nomatch z) z⟩⟩, rel.kw.keep fun a ha kws z => k a _ (ne a _ z fun _ z => nomatch z) z⟩, ⟨g, Pre.refl _, fun a o e n => k a o (fun z => n (by rw [z]; exact List.mem_of_getElem? hm)) e, fun a h1 h2 => absurd h1 h2⟩⟩
  · by_cases z : a = P
    · rw [z, hP1]; simp
    · cases q : H a with
      | none => exact absurd q (rel.on a ha)
      | some o => rw [k a o z q]; simp
  · by_cases z : a = P
    · subst z
      have hij : i = j := by
        obtain ⟨l1, q1⟩ := List.getElem?_eq_some_iff.mp hm
        obtain ⟨l2, q2⟩ := List.getElem?_eq_some_iff.mp h2
        exact (List.getElem_inj rel.nd).mp (q1.trans q2.symm)
      subst hij
      rw [hs] at h1
      cases h1
      exact ⟨t, x⟩
    · cases q : H a with
      | none => exact absurd q (rel.on a (List.mem_of_getElem? h2))
      | some o => exact (rel.ob j so a h1 h2).mono g ((k a o z q).trans q.symm)
end
abbrev lamBody (d a : Str) (p1 p2 p3 p4 p5 p6 p7 : Pos) (j1 j2 : Nat) : Expr :=
  .Subscript (.Subscript (.Subscript (.Name d p1) (.Constant (.int 3) j1 p2) p3) (.Name a p4) p5) (.Constant (.int 0) j2 p6) p7
def lamKB (sc scope : Scope) (d a : Str) : Bool :=
  decide (scope.kind = .function) && !scope.isCoroutine && !scope.isGenerator && decide (scope.names.lookup a = some .local) && decide (scope.names.lookup d = some .free) && decide (sc.names.lookup d = some .cell) &&
  (scope.names.all fun y => !decide (y.2 = .cell) && (!decide (y.2 = .free) || decide (sc.names.lookup y.1 = some .cell) || decide (sc.names.lookup y.1 = some .free))) &&
  !(d == ("__debug__" : Str)) && !(d == ("__classdict__" : Str)) && !(a == ("__debug__" : Str))
structure LamK (sc scope : Scope) (d a : Str) : Prop where
  kind : scope.kind = .function
  co : scope.isCoroutine = false
  gen : scope.isGenerator = false
  loc : scope.names.lookup a = some .local
  fre : scope.names.lookup d = some .free
  cell : sc.names.lookup d = some .cell
  nocell : ∀ y ∈ scope.names, y.2 ≠ .cell
  free : ∀ y ∈ scope.names, y.2 = .free → sc.names.lookup y.1 = some .cell ∨ sc.names.lookup y.1 = some .free
  nd : (d == ("__debug__" : Str)) = false
  nc : (d == ("__classdict__" : Str)) = false
  na : (a == ("__debug__" : Str)) = false
section
variable {I : Inf} {Ex : XK} {top : Bool} {sc : Scope} {N : List Str} {X : Cx} {ma : MI.E} {pos p : Pos} {src : Expr} {fn d a : Str}
end
end MI

end S_MiU
section S_MiV
namespace MI
open PySem PySem.Spec PyProof.Rows L2
section
variable {I : Inf} {Ex : XK} {top : Bool} {sc : Scope} {N : List Str} {X : Cx} {ma : MI.E} {pos p p1 p2 p3 : Pos} {e : Expr}
end
def badT (sc : Scope) (ts : List Expr) : Bool := ts.any fun t => match t with
  | .Name id _ => !(decide (sc.names.lookup id = some .local))
  | _ => true
section
variable {I : Inf} {Ex : XK} {top : Bool} {sc : Scope} {N : List Str} {X : Cx} {ma : MI.E} {pos : Pos} {es : List Expr} {F : Nat}
end
section
variable {I : Inf} {Ex : XK} {top : Bool} {sc : Scope} {N : List Str} {X : Cx} {ma : MI.E} {pos : Pos} {F : Nat} {x : Str}
end
section
variable {I : Inf} {Ex : XK} {top : Bool} {sc : Scope} {N : List Str} {X : Cx} {ma : MI.E} {pos : Pos} {es : List Expr} {F : Nat}
end
end MI

end S_MiV
section S_MiX
namespace MI
open PySem PySem.Spec PyProof.Rows L2
open AutoSeq1 (wpAny_loadPart')
def rRepA (K : PySem.W.Frag) : R2 := fun x y H Q => ∃ l k xs, x = .ref l ∧ y = .int k ∧ SqT K H l xs ∧ xs ≠ [] ∧ 0 ≤ k ∧ k ≤ 1000 ∧ xs.length ≤ 1000 ∧ (k = 1 → Q (.ref l) H) ∧ (k ≠ 1 → ∀ p, H p = none → Q (.ref p) (upd H p (.tup (List.replicate k.toNat xs).flatten)))
section
variable {G : Gx} {E : Nat → Hp → Prop} {M : List Addr} {S : Store} {H : Hp}
end
section
variable {I : Inf} {Ex : XK} {X : Cx} {ma mb : MI.E} {a b : Expr} {pos : Pos}
end
end MI

end S_MiX
section S_MiDa
namespace MI
open PySem PySem.Spec PyProof.Rows L2
section
variable {X : Cx} {pins : List (Addr × Obj)} {σ : L2.St} {H : Hp} {s : Shared}
mutual
theorem nis_of (I : Inv X pins σ H s) : ∀ (d : D) (v : V) (u : Value), DR X.K H v d → RelV v u → keyable d = true → NestedIs s.heap (nk d) u
  | .none, _, u, r, ru, _ => by
    cases r
    cases (show u = .none from ru)
    exact .none
  | .bool b, _, u, r, ru, _ => by
    cases r
    cases (show u = .bool b from ru)
    exact .bool rfl
  | .int i, _, u, r, ru, _ => by
    cases r
    obtain ⟨t, rfl⟩ := (show ∃ t, u = .int i t from ru)
    exact .int i t
  | .str x, _, u, r, ru, _ => by
    cases r
    obtain ⟨t, rfl⟩ := (show ∃ t, u = .str x t from ru)
    exact .text x t
  | .tuple ds, _, u, r, ru, k => by
    cases r with
    | @tup a xs _ h1 h2 =>
      cases (show u = .ref a from ru)
      obtain ⟨its, rv, p, hz⟩ := I.tuple h1
      obtain ⟨o, e, c, n, hd⟩ := p
      refine .tup e c hd ?_
      rw [List.toList_toArray]
      exact nis_all I ds xs its h2 rv k
  | .list _, _, _, _, _, k => by cases k
  | .dict _, _, _, _, _, k => by cases k
theorem nis_all (I : Inv X pins σ H s) : ∀ (ds : List D) (vs : List V) (us : List Value), DRs X.K H vs ds → Vals vs us → keyableAll ds = true → NestedAll s.heap (nks ds) us
  | [], _, us, r, ru, _ => by
    cases r
    cases ru
    exact .nil
  | d :: ds, _, us, r, ru, k => by
    cases r with
    | cons r1 r2 =>
      cases ru with
      | cons u1 u2 =>
        simp only [keyableAll, Bool.and_eq_true] at k
        exact .cons (nis_of I d _ _ r1 u1 k.1) (nis_all I ds _ _ r2 u2 k.2)
end
end
abbrev EntR (G : Gx) (H : Hp) : NestedKey × Addr × Value → D × D → Prop := fun x q => x.1 = nk q.1 ∧ isKey q.1 = true ∧ DR G.K H (.ref x.2.1) q.1 ∧ ∃ v, RelV v x.2.2 ∧ DR G.K H v q.2
def RdX (G : Gx) (H : Hp) (a : Addr) (xs : List (NestedKey × Addr × Value)) : Prop := H a = some (.ext (RawT G a xs)) ∨ ∃ o, H a = some (.frz o (.ext (RawT G a xs)))
structure Dct (G : Gx) (H : Hp) (a : Addr) (xs : List (NestedKey × Addr × Value)) (kvs : List (D × D)) : Prop where
  rd : RdX G H a xs
  sm : (a == sysModules) = false
  nd : (xs.map (·.1)).Nodup
  len : kvs.length ≤ sizeLine
  ent : Paired (EntR G H) xs kvs
theorem Dct.mono {G : Gx} {H H' : Hp} {a : Addr} {xs : List (NestedKey × Addr × Value)} {kvs : List (D × D)} (g : Grow H H') (e : RdX G H' a xs) (d : Dct G H a xs kvs) : Dct G H' a xs kvs :=
  ⟨e, d.sm, d.nd, d.len, paired_mapP d.ent fun _ _ z => ⟨z.1, z.2.1, DR.mono g _ _ z.2.2.1, let ⟨v, r, d⟩ := z.2.2.2; ⟨v, r, DR.mono g _ _ d⟩⟩⟩
section
variable {X : Cx} {pins : List (Addr × Obj)} {σ : L2.St} {H : Hp} {s : Shared} {a : Addr} {xs : List (NestedKey × Addr × Value)} {kvs : List (D × D)}
theorem RdX.raw (I : Inv X pins σ H s) (e : RdX X.gx H a xs) : RawT X.gx a xs s.heap := by
  rcases e with e | ⟨o, e⟩
  · exact (I.hok a _ e).1
  · exact (I.hok a _ e).2.1
end
section
variable {X : Cx} {pins : List (Addr × Obj)} {σ : L2.St} {H : Hp} {s : Shared} {a : Addr} {y v : V} {k : D} {u r : Value} {xs : List (NestedKey × Addr × Value)} {kvs : List (D × D)} {A : Around} {E : Value → Shared → Prop}
end
end MI

end S_MiDa
section S_MiDb
namespace MI
open PySem PySem.Spec PyProof.Rows L2

def rDIn (G : Gx) (neg : Bool) : V → V → Hp → VK → Prop := fun y x H Q => ∃ a xs kvs k, x = .ref a ∧ Dct G H a xs kvs ∧ DR G.K H y k ∧ isKey k = true ∧ Q (.bl (if neg then !hasT kvs k else hasT kvs k)) H
def cIn (neg : Bool) : CmpOp := if neg then .NotIn else .In
def rNSet (G : Gx) : V → V → V → Hp → (Hp → Prop) → Prop := fun o y v H Q => ∃ a xs kvs k d, o = .ref a ∧ H a = some (.ext (RawT G a xs)) ∧ Dct G H a xs kvs ∧ kvs.length < sizeLine ∧ DR G.K H y k ∧ isKey k = true ∧ DR G.K H v d ∧
  ∀ xs', Dct G (upd H a (.ext (RawT G a xs'))) a xs' (putT kvs k d) → Q (upd H a (.ext (RawT G a xs')))
def tNGet (G : Gx) (td ty : TE) : TE := fun σ H Q => td σ H fun x H1 => ty σ H1 fun y H2 => ∃ a xs kvs k d, x = .ref a ∧ Dct G H2 a xs kvs ∧ DR G.K H2 y k ∧ isKey k = true ∧ getT kvs k = some d ∧ ∀ v, DR G.K H2 v d → Q v H2
def tNGet2 (G : Gx) (td ty tx : TE) : TE := fun σ H Q => td σ H fun x H1 => ∃ a xs kvs, x = .ref a ∧ Dct G H1 a xs kvs ∧ ty σ H1 fun y H2 => tx σ H2 fun z H3 => ∃ xs kvs k d0, Dct G H3 a xs kvs ∧ DR G.K H3 y k ∧ isKey k = true ∧ DR G.K H3 z d0 ∧ ∀ v, DR G.K H3 v ((getT kvs k).getD d0) → Q v H3
def rNLen (G : Gx) : List V → Hp → VK → Prop := fun vs H Q => ∃ a xs kvs, vs = [.ref a] ∧ Dct G H a xs kvs ∧ Q (.int kvs.length) H
def tNNew (G : Gx) : TE := fun _ H Q => ∀ p, H p = none → Dct G (upd H p (.ext (RawT G p []))) p [] [] → Q (.ref p) (upd H p (.ext (RawT G p [])))
def tNOne (G : Gx) (tk tv : TE) : TE := fun σ H Q => ∀ p, H p = none → Dct G (upd H p (.ext (RawT G p []))) p [] [] → tk σ (upd H p (.ext (RawT G p []))) fun x H1 => tv σ H1 fun y H2 =>
  H2 p = some (.ext (RawT G p [])) ∧ ∃ k d, DR G.K H2 x k ∧ isKey k = true ∧ DR G.K H2 y d ∧ ∀ xs, Dct G (upd H2 p (.ext (RawT G p xs))) p xs [(k, d)] → Q (.ref p) (upd H2 p (.ext (RawT G p xs)))
section
variable {X : Cx} {E : Nat → Hp → Prop} {a b c : Expr} {pos apos p2 : Pos} {F F1 F2 F3 : Loc → Store → Res W}
theorem Ext.adopt {M M2 : List Addr} {H H2 : Hp} {p : Addr} {o u : HO} (x : Ext M H M2 H2) (hp : H p = none) (e2 : H2 p = some o) (h1 : ∀ xs, o ≠ .tup xs) (h2 : ∀ b v, o ≠ .frz b v) (h3 : ∀ b q, o ≠ LamX.CodeO b q) : Ext M H (M2 ++ [p]) (upd H2 p u) :=
  ⟨x.g.trans (Grow.put e2 h1 h2 h3), x.p.trans ⟨[p], rfl⟩, fun a v h n => by
    rw [upd_ne (ne_of_none h hp)]
    exact x.fr a v h n, fun a h1 h2 => by
    rcases List.mem_append.mp h1 with h | h
    · exact x.nw a h h2
    · have : a = p := by simpa using h
      rw [this]; exact hp⟩
end
end MI

end S_MiDb
section S_MiDc
namespace MI
open PySem PySem.Spec PyProof.Rows L2
section
variable {X : Cx} {E : Nat → Hp → Prop} {a b c tg : Expr} {es : List Expr} {pos apos cpos p p2 : Pos} {F F1 F2 F3 : Loc → Store → Res W}
def tLoX (t : TE) : TE := fun σ H Q => t σ H fun v H1 => Q v H1 ∨ ∃ a φ, v = .ref a ∧ H1 a = some (.ext φ) ∧ ∀ o, Q v (upd H1 a (.frz o (.ext φ)))
end
abbrev RawP (P : Program) (w : World) (a : Addr) (xs : List (NestedKey × Addr × Value)) : Heap → Prop := fun h => ∃ o es ep, h.get? a = some o ∧ o.ExactDict ∧ o.data = .dict es ep ∧ es.toList = xs.map (entryOfKey (nestedKind P w))
def Itn (P : Program) (w : World) (d : Addr) (o : Obj) (xs : List (NestedKey × Addr × Value)) : It :=
  ⟨fun i H => H d = some (.frz o (.ext (RawP P w d xs))) ∧ i < xs.length, fun i H x H' => H' = H ∧ ∃ y, xs[i]? = some y ∧ x = .ref y.2.1, fun i H => H d = some (.frz o (.ext (RawP P w d xs))) ∧ xs.length ≤ i⟩
def Itni (P : Program) (w : World) (d : Addr) (o : Obj) (xs : List (NestedKey × Addr × Value)) (vs : List V) : It :=
  ⟨fun i H => H d = some (.frz o (.ext (RawP P w d xs))) ∧ i < xs.length, fun i H x H' => ∃ T y v, xs[i]? = some y ∧ vs[i]? = some v ∧ x = .ref T ∧ H T = none ∧ H' = upd H T (.tup [.ref y.2.1, v]), fun i H => H d = some (.frz o (.ext (RawP P w d xs))) ∧ xs.length ≤ i⟩
section
variable {P : Program} {w : World} {K : PySem.W.Frag} {tg : Expr} {d : Addr} {o : Obj} {es : Array DictEntry} {ep : Nat} {xs : List (NestedKey × Addr × Value)} {vs : List V}
end
def iKeysN (G : Gx) (td : TE) : TI := fun σ H R => td σ H fun x H1 => ∃ d o xs, x = .ref d ∧ (d == sysModules) = false ∧ H1 d = some (.frz o (.ext (RawP G.P G.w d xs))) ∧ R (Itn G.P G.w d o xs) H1
def iItemsN (G : Gx) (td : TE) : TI := fun σ H R => td σ H fun x H1 => ∃ d o xs vs, x = .ref d ∧ (d == sysModules) = false ∧ H1 d = some (.frz o (.ext (RawP G.P G.w d xs))) ∧ Vals vs (xs.map (·.2.2)) ∧ R (Itni G.P G.w d o xs vs) H1
section
variable {X : Cx} {tg e : Expr} {td : TE} {apos cpos : Pos}
end
section
variable {G : Gx} {H : Hp}
end
section
variable {X : Cx} {E : Nat → Hp → Prop} {a tg : Expr} {apos cpos : Pos} {F : Loc → Store → Res W}
end
end MI

end S_MiDc
section S_MiDk
namespace MI
open PySem PySem.Spec PyProof.Rows L2
section
variable {I : Inf} {Ex : XK} {top : Bool} {sc : Scope} {N : List Str} {X : Cx}
variable {a b d e tg : Expr} {ma mb md me : MI.E} {pos p p2 apos : Pos} {es elts : List Expr} {x : Str} {F kk : Nat} {tpos : Pos}
end
end MI

end S_MiDk
section S_MiDd
namespace MI
open PySem PySem.Spec PyProof.Rows L2

section
variable {X : Cx} {pins : List (Addr × Obj)} {σ : L2.St} {H : Hp} {s : Shared} {a : Addr} {y v : V} {k : D} {u r : Value} {xs : List (NestedKey × Addr × Value)} {kvs : List (D × D)} {A : Around} {E : Value → Shared → Prop}
end

section
variable {X : Cx}
def tDcT (G : Gx) (wi : TI) (g : TG) (tk tv : TE) (vs : List Nat) : TE := fun σ H Q => wi σ H fun J H1 => ∀ p, H1 p = none → Dct G (upd H1 p (.ext (RawT G p []))) p [] [] →
  ∃ W : Nat → Nat → Hp → Prop, (∃ m, W 0 m (upd H1 p (.ext (RawT G p [])))) ∧ ∀ i m H, W i m H →
    (J.stop i H ∧ Q (.ref p) H) ∨ (J.go i H ∧ ∃ Nx : Hp → Prop, (∀ H', Nx H' → ∃ m', m' < m ∧ W (i + 1) m' H') ∧ ∀ x H', J.yld i H x H' → g x (wipe σ vs) H' fun σ2 H2 => wipe σ2 vs = wipe σ vs ∧
      tk σ2 H2 fun y H4 => tv σ2 H4 fun z H5 => ∃ xs kvs k d, H5 p = some (.ext (RawT G p xs)) ∧ Dct G H5 p xs kvs ∧ kvs.length < sizeLine ∧ DR G.K H5 y k ∧ isKey k = true ∧ DR G.K H5 z d ∧
        ∀ xs', Dct G (upd H5 p (.ext (RawT G p xs'))) p xs' (putT kvs k d) → Nx (upd H5 p (.ext (RawT G p xs'))))
end
section
variable {G : Gx} {M : List Addr} {S : Store} {H : Hp} {p : Addr} {o u : HO}
end
section
variable {X : Cx} {E : Nat → Hp → Prop} {FI : Loc → Store → Res (List D)} {Fk Fv : Loc → Store → Res W} {tgm : Tg} {own : List Nat}
abbrev dcF (FI : Loc → Store → Res (List D)) (Fk Fv : Loc → Store → Res W) (tgm : Tg) (own : List Nat) : Loc → Store → Res W := fun ls S =>
  (FI ls S).bind fun xs S1 => ((dcmpL (fun x => bindD tgm x (wipeL ls own)) Fk Fv xs [] S1).noex).bind fun kvs S2 => .ok (.r S2.length) (S2 ++ [.dT kvs])
end
section
variable {X : Cx} {E : Nat → Hp → Prop} {FI : Loc → Store → Res (List D)} {Fk Fv : Loc → Store → Res W} {tgm : Tg} {ownN : List (Str × Nat)} {kx vx tg iter : Expr} {scope : Scope} {pos : Pos}
end
section
variable {I : Inf} {Ex : XK} {top : Bool} {sc : Scope} {N : List Str} {X : Cx} {tg : Expr} {pos : Pos} {F : Nat}
end
end MI

end S_MiDd
section S_MiDe
namespace MI
open PySem PySem.Spec PyProof.Rows L2

section
variable {G : Gx} {E : Nat → Hp → Prop} {M : List Addr} {S : Store} {H : Hp}
end
section
variable {X : Cx} {E : Nat → Hp → Prop} {a b : Expr} {pos apos : Pos} {F1 F2 : Loc → Store → Res W}
end
section
variable {I : Inf} {Ex : XK} {top : Bool} {sc : Scope} {N : List Str} {X : Cx}
variable {a b d e tg : Expr} {ma mb md me : MI.E} {pos p p2 apos : Pos} {es elts : List Expr} {x : Str} {F kk : Nat} {tpos : Pos}
end
end MI

end S_MiDe
section S_Tx
namespace TX
open PySem MI
def dX : Def := ⟨0, 0, .never⟩
def m0 : M := (.seq (.asg (.nm 2) (.ife (.cmp .lt (.var 1) (.blt .len (.cons (.var 0) .nil))) (.blt .abs (.cons (.blt .int (.cons (.idx (.var 0) (.var 1)) .nil)) .nil)) (.bin .add (.bin .mul (.cst (.int 31)) (.var 1)) (.cst (.int 5)))))
 (.ret (.lst true (.cons (.ife (.cmp .gt (.var 2) (.bin .pow (.cst (.int 10)) (.cst (.int 17)))) (.var 2) (.cst (.int 0))) (.cons (.bin .mod (.blt .int (.cons (.bin .add (.bin .add (.bin .mul (.var 2) (.cst (.int 69621))) (.bin .mul (.cst (.int 4409)) (.var 1))) (.cst (.int 3))) .nil)) (.cst (.int 2147483563))) .nil)))))
def d0 : Def := ⟨2, 3, m0⟩
def m1 : M := (.seq (.iff (.cmp .gt (.idx (.var 0) (.cst (.int 0))) (.cst (.int 0))) (.seq (.asg (.nm 2) (.bin .mod (.blt .int (.cons (.idx (.var 0) (.cst (.int 0))) .nil)) (.var 1)))
 (.seq (.setx (.var 0) (.cst (.int 0)) (.bin .fdiv (.idx (.var 0) (.cst (.int 0))) (.var 1)))
 (.ret (.var 2)))) .skip)
 (.seq (.setx (.var 0) (.cst (.int 1)) (.bin .mod (.blt .int (.cons (.bin .add (.bin .mul (.idx (.var 0) (.cst (.int 1))) (.cst (.int 40014))) (.cst (.int 77))) .nil)) (.cst (.int 2147483563))))
 (.seq (.asg (.nm 3) (.bin .mod (.blt .int (.cons (.bin .mul (.idx (.var 0) (.cst (.int 1))) (.bin .add (.bin .fdiv (.idx (.var 0) (.cst (.int 1))) (.cst (.int 5))) (.cst (.int 1)))) .nil)) (.cst (.int 2147483399))))
 (.ret (.bin .mod (.blt .int (.cons (.bin .fdiv (.var 3) (.cst (.int 8))) .nil)) (.var 1))))))
def d1 : Def := ⟨2, 4, m1⟩
def m2 : M := (.ret (.idx (.var 1) (.call 1 (.cons (.var 0) (.cons (.blt .len (.cons (.var 1) .nil)) .nil)))))
def d2 : Def := ⟨2, 2, m2⟩
def m3 : M := (.seq (.asg (.nm 1) (.bin .add (.bin .fdiv (.bin .add (.idx (.var 0) (.cst (.int 1))) (.idx (.var 0) (.cst (.int 2)))) (.idx (.var 0) (.cst (.int 0)))) (.cst (.int 1))))
 (.seq (.asg (.nm 2) (.bin .mul (.bin .mul (.idx (.var 0) (.cst (.int 0))) (.idx (.var 0) (.cst (.int 4)))) (.bin .add (.idx (.var 0) (.cst (.int 7))) (.cst (.int 1)))))
 (.seq (.for (.nm 3) (.irng1 (.var 1))
 (.asg (.nm 2) (.bin .mul (.var 2) (.cst (.int 2)))))
 (.seq (.for (.nm 3) (.irng1 (.idx (.var 0) (.cst (.int 5))))
 (.asg (.nm 2) (.bin .mul (.var 2) (.bin .add (.bin .mul (.cst (.int 2)) (.var 1)) (.cst (.int 3))))))
 (.ret (.var 2))))))
def d3 : Def := ⟨1, 4, m3⟩
def m4 : M := (.seq (.asg (.nm 2) (.tup .nil))
 (.seq (.whl (.or (.cmp .eq (.var 2) (.tup .nil)) (.cmp .gt (.call 3 (.cons (.var 2) .nil)) (.var 1)))
 (.seq (.par [.nm 3, .nm 4] (.cons (.call 2 (.cons (.var 0) (.cons (.lst false (.cons (.cst (.int 1)) (.cons (.cst (.int 1)) (.cons (.cst (.int 2)) (.cons (.cst (.int 2)) (.cons (.cst (.int 3)) .nil)))))) .nil))) (.cons (.bin .add (.cst (.int 1)) (.call 1 (.cons (.var 0) (.cons (.cst (.int 3)) .nil)))) .nil)))
 (.seq (.asg (.nm 5) (.tup (.cons (.var 3) (.cons (.call 1 (.cons (.var 0) (.cons (.cst (.int 3)) .nil))) (.cons (.call 1 (.cons (.var 0) (.cons (.cst (.int 3)) .nil))) (.cons (.bin .add (.cst (.int 1)) (.call 1 (.cons (.var 0) (.cons (.var 4) .nil)))) (.cons (.var 4) .nil)))))))
 (.seq (.asg (.nm 6) (.call 2 (.cons (.var 0) (.cons (.lst false (.cons (.cst (.str "come")) (.cons (.cst (.str "late")) (.cons (.cst (.str "slot")) .nil)))) .nil))))
 (.seq (.asg (.nm 2) (.bin .add (.var 5) (.tup (.cons (.bin .add (.cst (.int 1)) (.call 1 (.cons (.var 0) (.cons (.cst (.int 2)) .nil)))) (.cons (.var 6) (.cons (.call 2 (.cons (.var 0) (.cons (.lst false (.cons (.cst (.int 0)) (.cons (.cst (.int 0)) (.cons (.cst (.int 1)) (.cons (.cst (.int 2)) .nil))))) .nil))) .nil))))))
 (.seq (.asg (.nm 2) (.bin .add (.var 2) (.tup (.cons (.cmp .eq (.call 1 (.cons (.var 0) (.cons (.cst (.int 2)) .nil))) (.cst (.int 0))) .nil))))
 (.seq (.asg (.nm 1) (.blt .max2 (.cons (.var 1) (.cons (.cst (.int 60)) .nil))))
 (.iff (.cmp .eq (.idx (.var 0) (.cst (.int 0))) (.cst (.int 0))) (.asg (.nm 1) (.bin .add (.var 1) (.cst (.int 20)))) .skip))))))))
 (.ret (.var 2))))
def d4 : Def := ⟨2, 7, m4⟩
def m5 : M := (.seq (.asg (.tp [1, 2, 3, 4, 5, 6, 7, 8, 9]) (.var 0))
 (.seq (.asg (.nm 10) (.bin .add (.bin .fdiv (.bin .add (.var 2) (.var 3)) (.var 1)) (.cst (.int 1))))
 (.seq (.asg (.nm 11) (.bin .mul (.bin .mul (.var 1) (.var 5)) (.bin .add (.var 8) (.cst (.int 1)))))
 (.seq (.for (.nm 12) (.irng1 (.var 10))
 (.asg (.nm 11) (.bin .mul (.var 11) (.cst (.int 2)))))
 (.seq (.for (.nm 12) (.irng1 (.var 6))
 (.asg (.nm 11) (.bin .mul (.var 11) (.bin .add (.bin .mul (.cst (.int 2)) (.var 10)) (.cst (.int 3))))))
 (.ret (.var 11)))))))
def d5 : Def := ⟨1, 13, m5⟩
def m6 : M := (.ret (.and (.isi .int (.var 0)) (.and (.nt (.isi .bool (.var 0))) (.chn .le .le (.var 1) (.var 0) (.var 2)))))
def d6 : Def := ⟨3, 3, m6⟩
def m7 : M := (.seq (.iff (.or (.nt (.isi .tuple (.var 0))) (.cmp .ne (.blt .len (.cons (.var 0) .nil)) (.cst (.int 9)))) (.ret (.cst (.bool false))) .skip)
 (.seq (.asg (.tp [1, 2, 3, 4, 5, 6, 7, 8, 9]) (.var 0))
 (.seq (.iff (.or (.nt (.call 6 (.cons (.var 1) (.cons (.cst (.int 1)) (.cons (.cst (.int 4)) .nil))))) (.or (.nt (.call 6 (.cons (.var 2) (.cons (.cst (.int 0)) (.cons (.cst (.int 3)) .nil))))) (.or (.nt (.call 6 (.cons (.var 3) (.cons (.cst (.int 0)) (.cons (.cst (.int 3)) .nil))))) (.nt (.call 6 (.cons (.var 5) (.cons (.cst (.int 1)) (.cons (.cst (.int 4)) .nil)))))))) (.ret (.cst (.bool false))) .skip)
 (.seq (.iff (.or (.nt (.call 6 (.cons (.var 4) (.cons (.cst (.int 1)) (.cons (.var 5) .nil))))) (.or (.nt (.call 6 (.cons (.var 6) (.cons (.cst (.int 1)) (.cons (.cst (.int 2)) .nil))))) (.nt (.call 6 (.cons (.var 8) (.cons (.cst (.int 0)) (.cons (.cst (.int 2)) .nil))))))) (.ret (.cst (.bool false))) .skip)
 (.seq (.iff (.or (.nt (.isi .str (.var 7))) (.or (.cmp .notin (.var 7) (.glb "ORDERS" (.tuple [(.str "come"), (.str "late"), (.str "slot")]))) (.nt (.isi .bool (.var 9))))) (.ret (.cst (.bool false))) .skip)
 (.ret (.cmp .le (.call 5 (.cons (.var 0) .nil)) (.glb "MOST_SIZE" (.int 3000)))))))))
def d7 : Def := ⟨1, 10, m7⟩
def m8 : M := (.iff (.nt (.call 7 (.cons (.var 0) .nil))) (.rse 0) .skip)
def d8 : Def := ⟨1, 1, m8⟩
def m9 : M := (.seq (.asg (.nm 1) (.comp false (.bin .add (.bin .add (.var 2) (.cst (.str "="))) (.blt .str (.cons (.var 3) .nil))) (.tp [2, 3]) (.izip (.slc false true (.glb "PARTS" (.tuple [(.str "gap"), (.str "early"), (.str "late"), (.str "low"), (.str "high"), (.str "room"), (.str "order"), (.str "every"), (.str "ahead")])) .omit (.cst (.int 8))) (.slc false true (.var 0) .omit (.cst (.int 8)))) .omit [2, 3]))
 (.ret (.join (.cst (.str " ")) (.bin .add (.var 1) (.rpl (.cons (.cst (.str "ahead")) .nil) (.blt .int (.cons (.idx (.var 0) (.cst (.int 8))) .nil)))))))
def d9 : Def := ⟨1, 4, m9⟩
def m10 : M := (.seq (.exp (.call 8 (.cons (.var 0) .nil)))
 (.ret (.call 9 (.cons (.var 0) .nil))))
def d10 : Def := ⟨1, 1, m10⟩
def m11 : M := (.seq (.iff (.cmp .ne (.slc false true (.var 1) .omit (.bin .add (.blt .len (.cons (.var 0) .nil)) (.cst (.int 1)))) (.bin .add (.var 0) (.cst (.str "=")))) (.ret (.cst .none)) .skip)
 (.seq (.asg (.nm 2) (.slc true false (.var 1) (.bin .add (.blt .len (.cons (.var 0) .nil)) (.cst (.int 1))) .omit))
 (.seq (.iff (.cmp .eq (.var 0) (.cst (.str "order"))) (.ret (.var 2)) .skip)
 (.ret (.ife (.cmp .isin (.var 2) (.glb "NUMBERS" (.tuple [(.str "0"), (.str "1"), (.str "2"), (.str "3"), (.str "4")]))) (.indx (.glb "NUMBERS" (.tuple [(.str "0"), (.str "1"), (.str "2"), (.str "3"), (.str "4")])) (.var 2)) (.cst .none))))))
def d11 : Def := ⟨2, 3, m11⟩
def m12 : M := (.seq (.iff (.nt (.isi .str (.var 0))) (.rse 8) .skip)
 (.seq (.asg (.nm 1) (.splt (.var 0) (.cst (.str " "))))
 (.seq (.asg (.nm 2) (.blt .tuple (.cons (.comp false (.call 11 (.cons (.var 3) (.cons (.var 4) .nil))) (.tp [3, 4]) (.izip (.slc false true (.glb "PARTS" (.tuple [(.str "gap"), (.str "early"), (.str "late"), (.str "low"), (.str "high"), (.str "room"), (.str "order"), (.str "every"), (.str "ahead")])) .omit (.cst (.int 8))) (.var 1)) .omit [3, 4]) .nil)))
 (.seq (.asg (.nm 5) (.bin .add (.var 2) (.tup (.cons (.cmp .isin (.cst (.str "ahead")) (.slc true false (.var 1) (.cst (.int 8)) .omit)) .nil))))
 (.seq (.iff (.or (.nt (.call 7 (.cons (.var 5) .nil))) (.cmp .ne (.call 9 (.cons (.var 5) .nil)) (.var 0))) (.rse 8) .skip)
 (.ret (.var 5)))))))
def d12 : Def := ⟨1, 6, m12⟩
def m13 : M := (.seq (.asg (.nm 1) (.cst (.str "")))
 (.seq (.tryC 1 12 (.cons (.var 0) .nil) [(8, 1, "line")])
 (.ret (.var 1))))
def d13 : Def := ⟨1, 2, m13⟩
def m14 : M := (.seq (.asg (.nm 1) (.cst (.str "")))
 (.seq (.for (.tp [2, 3]) (.ienum (.lst false (.cons (.cst (.str "gap")) (.cons (.cst (.str "early")) (.cons (.cst (.str "late")) (.cons (.cst (.str "low")) (.cons (.cst (.str "high")) (.cons (.cst (.str "room")) .nil))))))))
 (.asg (.nm 1) (.bin .add (.bin .add (.bin .add (.bin .add (.var 1) (.var 3)) (.cst (.str "="))) (.blt .str (.cons (.idx (.var 0) (.var 2)) .nil))) (.cst (.str " ")))))
 (.seq (.asg (.nm 1) (.bin .add (.bin .add (.bin .add (.bin .add (.var 1) (.cst (.str "order="))) (.idx (.var 0) (.cst (.int 6)))) (.cst (.str " every="))) (.blt .str (.cons (.idx (.var 0) (.cst (.int 7))) .nil))))
 (.ret (.ife (.idx (.var 0) (.cst (.int 8))) (.bin .add (.var 1) (.cst (.str " ahead"))) (.var 1))))))
def d14 : Def := ⟨1, 4, m14⟩
def m15 : M := (.seq (.for (.nm 1) (.irng1 (.bin .add (.cst (.int 1)) (.blt .min2 (.cons (.blt .len (.cons (.var 0) .nil)) (.cons (.cst (.int 10)) .nil)))))
 (.seq (.asg (.nm 2) (.call 0 (.cons (.var 0) (.cons (.var 1) .nil))))
 (.for (.nm 3) (.irng1 (.cst (.int 4)))
 (.seq (.asg (.nm 4) (.call 4 (.cons (.var 2) (.cons (.cst (.int 3000)) .nil))))
 (.iff (.or (.cmp .ne (.call 10 (.cons (.var 4) .nil)) (.call 14 (.cons (.var 4) .nil))) (.cmp .ne (.call 13 (.cons (.call 14 (.cons (.var 4) .nil)) .nil)) (.var 4))) (.ret (.cst (.bool false))) .skip)))))
 (.seq (.asg (.nm 4) (.tup (.cons (.cst (.int 4)) (.cons (.cst (.int 3)) (.cons (.cst (.int 0)) (.cons (.cst (.int 3)) (.cons (.cst (.int 4)) (.cons (.cst (.int 1)) (.cons (.cst (.str "late")) (.cons (.cst (.int 2)) (.cons (.cst (.bool true)) .nil)))))))))))
 (.seq (.asg (.nm 5) (.cst (.str "gap=4 early=3 late=0 low=3 high=4 room=1 order=late every=2 ahead")))
 (.ret (.and (.cmp .eq (.call 10 (.cons (.var 4) .nil)) (.var 5)) (.cmp .eq (.call 13 (.cons (.var 5) .nil)) (.var 4)))))))
def d15 : Def := ⟨1, 6, m15⟩
def PD : List Def := [d0, d1, d2, d3, d4, d5, d6, d7, d8, d9, d10, d11, d12, d13, d14, d15, dX, dX, dX, dX, dX, dX, dX, dX, dX, dX, dX, dX, dX, dX, dX, dX, dX, dX, dX, dX, dX, dX, dX, dX, dX, dX, dX, dX, dX, dX, dX, dX, dX, dX, dX, dX, dX, dX, dX, dX, dX, dX, dX, dX, dX, dX, dX, dX, dX, dX, dX, dX, dX, dX, dX, dX, dX, dX, dX, dX, dX, dX, dX, dX, dX, dX, dX, dX, dX, dX, dX, dX, dX, dX, dX, dX, dX, dX, dX, dX, dX, dX, dX, dX, dX, dX, dX, dX, dX, dX, dX, dX, dX, dX, dX, dX, dX, dX, dX, dX, dX, dX, dX, dX, dX, dX, dX, dX, dX, dX, dX, dX, dX, dX, dX, dX, dX, dX, dX, dX, dX, dX, dX, dX, dX, dX, dX, dX, dX, dX, dX, dX, dX, dX, dX, dX, dX, dX, dX, dX, dX, dX, dX, dX, dX, dX, dX, dX, dX, dX, dX, dX, dX, dX, dX, dX, dX, dX, dX, dX, dX, dX, dX, dX, dX, dX, dX, dX, dX, dX, dX, dX, dX, dX, dX, dX, dX, dX, dX, dX, dX, dX, dX, dX, dX, dX, dX, dX, dX, dX, dX, dX, dX, dX, dX, dX, dX, dX, dX, dX, dX, dX, dX, dX, dX, dX, dX, dX, dX, dX, dX, dX, dX, dX, dX, dX, dX, dX, dX, dX, dX, dX, dX, dX, dX, dX, dX, dX, dX, dX, dX, dX, dX, dX, dX, dX, dX, dX, dX, dX, dX, dX, dX, dX, dX, dX, dX, dX, dX, dX, dX, dX, dX, dX, dX, dX, dX, dX, dX, dX, dX, dX, dX, dX, dX, dX, dX, dX, dX, dX, dX, dX, dX, dX, dX, dX, dX]
theorem pd0 : PD[0]? = some d0 := rfl
theorem pd1 : PD[1]? = some d1 := rfl
theorem pd2 : PD[2]? = some d2 := rfl
theorem pd3 : PD[3]? = some d3 := rfl
theorem pd4 : PD[4]? = some d4 := rfl
theorem pd5 : PD[5]? = some d5 := rfl
theorem pd6 : PD[6]? = some d6 := rfl
theorem pd7 : PD[7]? = some d7 := rfl
theorem pd8 : PD[8]? = some d8 := rfl
theorem pd9 : PD[9]? = some d9 := rfl
theorem pd10 : PD[10]? = some d10 := rfl
theorem pd11 : PD[11]? = some d11 := rfl
theorem pd12 : PD[12]? = some d12 := rfl
theorem pd13 : PD[13]? = some d13 := rfl
theorem pd14 : PD[14]? = some d14 := rfl
theorem pd15 : PD[15]? = some d15 := rfl
end TX

end S_Tx
section S_K17d
namespace K17
open PySem PySem.Spec PyProof.Rows L2 MI TX
def top (i : Nat) : Stmt := PySem.Challenge.pw_lateturns_k17_houses_written_and_read.main.body.getD i (.Pass ⟨0, 0, 0, 0⟩)
theorem bt_int : bootBuiltins "int" = some (.type (tyS .int)) := by decide +kernel
theorem bt_bool : bootBuiltins "bool" = some (.type (tyS .bool)) := by decide +kernel
theorem bt_str : bootBuiltins "str" = some (.type (tyS .str)) := by decide +kernel
theorem bt_tuple : bootBuiltins "tuple" = some (.type (tyS .tuple)) := by decide +kernel
def T : Tx := ⟨[(0, ("_law_source" : Str), (["_law_script", "_law_k"] : List Str)), (1, ("_law_draw" : Str), (["_law_source_here", "_law_many"] : List Str)), (2, ("_law_choice" : Str), (["_law_source_here", "_law_some"] : List Str)), (3, ("_law_size" : Str), (["_law_house_here"] : List Str)), (4, ("_law_house" : Str), (["_law_source_here", "_law_most"] : List Str)), (5, ("size_of" : Str), (["house"] : List Str)), (6, ("is_from" : Str), (["value", "low", "high"] : List Str)), (7, ("is_house" : Str), (["value"] : List Str)), (8, ("need_house" : Str), (["value"] : List Str)), (9, ("line_of" : Str), (["house"] : List Str)), (10, ("house_line" : Str), (["house"] : List Str)), (11, ("value_from" : Str), (["part", "word"] : List Str)), (12, ("read_house" : Str), (["value"] : List Str)), (13, ("_law_tried" : Str), (["_law_value"] : List Str)), (14, ("_law_line" : Str), (["_law_house_here"] : List Str)), (15, ("law" : Str), (["_law_script"] : List Str))], (["abs", "bool", "enumerate", "int", "isinstance", "len", "max", "min", "range", "str", "tuple", "zip"] : List Str), [("ORDERS", (.tuple [(.str "come"), (.str "late"), (.str "slot")])), ("MOST_SIZE", (.int 3000)), ("PARTS", (.tuple [(.str "gap"), (.str "early"), (.str "late"), (.str "low"), (.str "high"), (.str "room"), (.str "order"), (.str "every"), (.str "ahead")])), ("NUMBERS", (.tuple [(.str "0"), (.str "1"), (.str "2"), (.str "3"), (.str "4")]))], [(0, "InvalidHouse"), (8, "InvalidLine")]⟩
def n0 : List Str := (["_law_script", "_law_k", "_law_cell"] : List Str)
theorem sc0 : FnScope n0 (["_law_script", "_law_k"] : List Str) (defScope (top 19)) := ⟨rfl, rfl, rfl, by decide +kernel, rfl, by decide +kernel, by decide +kernel⟩
theorem b0 {cv : Nat → Value} {F k : Nat} {Ex : XK} {X : Cx} (c : Cn (T.inf cv PD F k) Ex true (defScope (top 19)) n0 X) (o : OwnC X "_law_source") : Jb (T.inf cv PD F k) Ex X F m0 (defBody (top 19)) :=
 (ks_cons (ks_set c 2 rfl (by decide +kernel) (k_ife (kt_cmp c .lt (k_var c rfl (by decide +kernel)) (k_len c 5 rfl (by decide +kernel) (ka_cons (k_var c rfl (by decide +kernel)) ka_nil))) (k_abs c 0 rfl (by decide +kernel) (ka_cons (k_int1 c 3 rfl (by decide +kernel) (ka_cons (k_idx (k_var c rfl (by decide +kernel)) (k_var c rfl (by decide +kernel))) ka_nil)) ka_nil)) (k_add (k_mul k_int (k_var c rfl (by decide +kernel))) k_int)))
 (ks_one (ks_ret (k_lst (ka_cons (k_ife (kt_cmp c .gt (k_var c rfl (by decide +kernel)) (k_pow k_int k_int)) (k_var c rfl (by decide +kernel)) k_int) (ka_cons (k_mod (k_int1 c 3 rfl (by decide +kernel) (ka_cons (k_add (k_add (k_mul (k_var c rfl (by decide +kernel)) k_int) (k_mul k_int (k_var c rfl (by decide +kernel)))) k_int) ka_nil)) k_int) ka_nil))))))
def n1 : List Str := (["_law_source_here", "_law_many", "_law_rest", "_law_wide"] : List Str)
theorem sc1 : FnScope n1 (["_law_source_here", "_law_many"] : List Str) (defScope (top 20)) := ⟨rfl, rfl, rfl, by decide +kernel, rfl, by decide +kernel, by decide +kernel⟩
theorem b1 {cv : Nat → Value} {F k : Nat} {Ex : XK} {X : Cx} (c : Cn (T.inf cv PD F k) Ex true (defScope (top 20)) n1 X) (o : OwnC X "_law_draw") : Jb (T.inf cv PD F k) Ex X F m1 (defBody (top 20)) :=
 (ks_cons (ks_if (kt_cmp c .gt (k_idx (k_var c rfl (by decide +kernel)) k_int) k_int) (ks_cons (ks_set c 2 rfl (by decide +kernel) (k_mod (k_int1 c 3 rfl (by decide +kernel) (ka_cons (k_idx (k_var c rfl (by decide +kernel)) k_int) ka_nil)) (k_var c rfl (by decide +kernel))))
 (ks_cons (ks_setx (k_fdiv (k_idx (k_var c rfl (by decide +kernel)) k_int) (k_var c rfl (by decide +kernel))) (k_var c rfl (by decide +kernel)) k_int)
 (ks_one (ks_ret (k_var c rfl (by decide +kernel)))))) ks_nil)
 (ks_cons (ks_setx (k_mod (k_int1 c 3 rfl (by decide +kernel) (ka_cons (k_add (k_mul (k_idx (k_var c rfl (by decide +kernel)) k_int) k_int) k_int) ka_nil)) k_int) (k_var c rfl (by decide +kernel)) k_int)
 (ks_cons (ks_set c 3 rfl (by decide +kernel) (k_mod (k_int1 c 3 rfl (by decide +kernel) (ka_cons (k_mul (k_idx (k_var c rfl (by decide +kernel)) k_int) (k_add (k_fdiv (k_idx (k_var c rfl (by decide +kernel)) k_int) k_int) k_int)) ka_nil)) k_int))
 (ks_one (ks_ret (k_mod (k_int1 c 3 rfl (by decide +kernel) (ka_cons (k_fdiv (k_var c rfl (by decide +kernel)) k_int) ka_nil)) (k_var c rfl (by decide +kernel))))))))
def n2 : List Str := (["_law_source_here", "_law_some"] : List Str)
theorem sc2 : FnScope n2 (["_law_source_here", "_law_some"] : List Str) (defScope (top 21)) := ⟨rfl, rfl, rfl, by decide +kernel, rfl, by decide +kernel, by decide +kernel⟩
theorem b2 {cv : Nat → Value} {F k : Nat} {Ex : XK} {X : Cx} (c : Cn (T.inf cv PD F k) Ex true (defScope (top 21)) n2 X) (o : OwnC X "_law_choice") : Jb (T.inf cv PD F k) Ex X F m2 (defBody (top 21)) :=
 (ks_one (ks_ret (k_idx (k_var c rfl (by decide +kernel)) (k_call c 1 rfl (by decide +kernel) (ka_cons (k_var c rfl (by decide +kernel)) (ka_cons (k_len c 5 rfl (by decide +kernel) (ka_cons (k_var c rfl (by decide +kernel)) ka_nil)) ka_nil))))))
def n3 : List Str := (["_law_house_here", "_law_many", "_law_found", "_law_turn"] : List Str)
theorem sc3 : FnScope n3 (["_law_house_here"] : List Str) (defScope (top 22)) := ⟨rfl, rfl, rfl, by decide +kernel, rfl, by decide +kernel, by decide +kernel⟩
theorem b3 {cv : Nat → Value} {F k : Nat} {Ex : XK} {X : Cx} (c : Cn (T.inf cv PD F k) Ex true (defScope (top 22)) n3 X) (o : OwnC X "_law_size") : Jb (T.inf cv PD F k) Ex X F m3 (defBody (top 22)) :=
 (ks_cons (ks_set c 1 rfl (by decide +kernel) (k_add (k_fdiv (k_add (k_idx (k_var c rfl (by decide +kernel)) k_int) (k_idx (k_var c rfl (by decide +kernel)) k_int)) (k_idx (k_var c rfl (by decide +kernel)) k_int)) k_int))
 (ks_cons (ks_set c 2 rfl (by decide +kernel) (k_mul (k_mul (k_idx (k_var c rfl (by decide +kernel)) k_int) (k_idx (k_var c rfl (by decide +kernel)) k_int)) (k_add (k_idx (k_var c rfl (by decide +kernel)) k_int) k_int)))
 (ks_cons (ks_for c (ki_rng1 (c.nox) 8 rfl (by decide +kernel) (k_var (c.nox) rfl (by decide +kernel))) (kg_nm (c.nox) 3 rfl (by decide +kernel))
 (ks_one (ks_set (c.nox) 2 rfl (by decide +kernel) (k_mul (k_var (c.nox) rfl (by decide +kernel)) k_int))))
 (ks_cons (ks_for c (ki_rng1 (c.nox) 8 rfl (by decide +kernel) (k_idx (k_var (c.nox) rfl (by decide +kernel)) k_int)) (kg_nm (c.nox) 3 rfl (by decide +kernel))
 (ks_one (ks_set (c.nox) 2 rfl (by decide +kernel) (k_mul (k_var (c.nox) rfl (by decide +kernel)) (k_add (k_mul k_int (k_var (c.nox) rfl (by decide +kernel))) k_int)))))
 (ks_one (ks_ret (k_var c rfl (by decide +kernel))))))))
def n4 : List Str := (["_law_source_here", "_law_most", "_law_found", "_law_gap", "_law_top", "_law_first", "_law_word"] : List Str)
theorem sc4 : FnScope n4 (["_law_source_here", "_law_most"] : List Str) (defScope (top 23)) := ⟨rfl, rfl, rfl, by decide +kernel, rfl, by decide +kernel, by decide +kernel⟩
theorem b4 {cv : Nat → Value} {F k : Nat} {Ex : XK} {X : Cx} (c : Cn (T.inf cv PD F k) Ex true (defScope (top 23)) n4 X) (o : OwnC X "_law_house") : Jb (T.inf cv PD F k) Ex X F m4 (defBody (top 23)) :=
 (ks_cons (ks_set c 2 rfl (by decide +kernel) (k_tup ka_nil))
 (ks_cons (ks_whl (kt_w (kw_or (kt_cmp (c.nox) .eq (k_var (c.nox) rfl (by decide +kernel)) (k_tup ka_nil)) (kw_or1 (kt_cmp (c.nox) .gt (k_call (c.nox) 3 rfl (by decide +kernel) (ka_cons (k_var (c.nox) rfl (by decide +kernel)) ka_nil)) (k_var (c.nox) rfl (by decide +kernel))))))
 (ks_cons (ks_swap2 (c.nox) 3 4 rfl rfl (by decide) (by decide +kernel) (by decide +kernel) (ka_cons (k_call (c.nox) 2 rfl (by decide +kernel) (ka_cons (k_var (c.nox) rfl (by decide +kernel)) (ka_cons (k_lst (ka_cons k_int (ka_cons k_int (ka_cons k_int (ka_cons k_int (ka_cons k_int ka_nil)))))) ka_nil))) (ka_cons (k_add k_int (k_call (c.nox) 1 rfl (by decide +kernel) (ka_cons (k_var (c.nox) rfl (by decide +kernel)) (ka_cons k_int ka_nil)))) ka_nil)) (by decide +kernel))
 (ks_cons (ks_set (c.nox) 5 rfl (by decide +kernel) (k_tup (ka_cons (k_var (c.nox) rfl (by decide +kernel)) (ka_cons (k_call (c.nox) 1 rfl (by decide +kernel) (ka_cons (k_var (c.nox) rfl (by decide +kernel)) (ka_cons k_int ka_nil))) (ka_cons (k_call (c.nox) 1 rfl (by decide +kernel) (ka_cons (k_var (c.nox) rfl (by decide +kernel)) (ka_cons k_int ka_nil))) (ka_cons (k_add k_int (k_call (c.nox) 1 rfl (by decide +kernel) (ka_cons (k_var (c.nox) rfl (by decide +kernel)) (ka_cons (k_var (c.nox) rfl (by decide +kernel)) ka_nil)))) (ka_cons (k_var (c.nox) rfl (by decide +kernel)) ka_nil)))))))
 (ks_cons (ks_set (c.nox) 6 rfl (by decide +kernel) (k_call (c.nox) 2 rfl (by decide +kernel) (ka_cons (k_var (c.nox) rfl (by decide +kernel)) (ka_cons (k_lst (ka_cons k_str (ka_cons k_str (ka_cons k_str ka_nil)))) ka_nil))))
 (ks_cons (ks_set (c.nox) 2 rfl (by decide +kernel) (k_add (k_var (c.nox) rfl (by decide +kernel)) (k_tup (ka_cons (k_add k_int (k_call (c.nox) 1 rfl (by decide +kernel) (ka_cons (k_var (c.nox) rfl (by decide +kernel)) (ka_cons k_int ka_nil)))) (ka_cons (k_var (c.nox) rfl (by decide +kernel)) (ka_cons (k_call (c.nox) 2 rfl (by decide +kernel) (ka_cons (k_var (c.nox) rfl (by decide +kernel)) (ka_cons (k_lst (ka_cons k_int (ka_cons k_int (ka_cons k_int (ka_cons k_int ka_nil))))) ka_nil))) ka_nil))))))
 (ks_cons (ks_set (c.nox) 2 rfl (by decide +kernel) (k_add (k_var (c.nox) rfl (by decide +kernel)) (k_tup (ka_cons (k_cmp (c.nox) .eq (k_call (c.nox) 1 rfl (by decide +kernel) (ka_cons (k_var (c.nox) rfl (by decide +kernel)) (ka_cons k_int ka_nil))) k_int) ka_nil))))
 (ks_cons (ks_set (c.nox) 1 rfl (by decide +kernel) (k_max2 (c.nox) 6 rfl (by decide +kernel) (ka_cons (k_var (c.nox) rfl (by decide +kernel)) (ka_cons k_int ka_nil))))
 (ks_one (ks_if (kt_cmp (c.nox) .eq (k_idx (k_var (c.nox) rfl (by decide +kernel)) k_int) k_int) (ks_one (ks_set (c.nox) 1 rfl (by decide +kernel) (k_add (k_var (c.nox) rfl (by decide +kernel)) k_int))) ks_nil)))))))))
 (ks_one (ks_ret (k_var c rfl (by decide +kernel))))))
def n5 : List Str := (["house", "gap", "early", "late", "low", "high", "room", "order", "every", "ahead", "many", "size", "turn"] : List Str)
theorem sc5 : FnScope n5 (["house"] : List Str) (defScope (top 8)) := ⟨rfl, rfl, rfl, by decide +kernel, rfl, by decide +kernel, by decide +kernel⟩
theorem b5 {cv : Nat → Value} {F k : Nat} {Ex : XK} {X : Cx} (c : Cn (T.inf cv PD F k) Ex true (defScope (top 8)) n5 X) (o : OwnC X "size_of") : Jb (T.inf cv PD F k) Ex X F m5 (defBody (top 8)) :=
 (ks_cons (ks_asg (k_var c rfl (by decide +kernel)) (kg_tp c (kgs_cons c 1 rfl (by decide +kernel) (kgs_cons c 2 rfl (by decide +kernel) (kgs_cons c 3 rfl (by decide +kernel) (kgs_cons c 4 rfl (by decide +kernel) (kgs_cons c 5 rfl (by decide +kernel) (kgs_cons c 6 rfl (by decide +kernel) (kgs_cons c 7 rfl (by decide +kernel) (kgs_cons c 8 rfl (by decide +kernel) (kgs_cons c 9 rfl (by decide +kernel) kgs_nil)))))))))))
 (ks_cons (ks_set c 10 rfl (by decide +kernel) (k_add (k_fdiv (k_add (k_var c rfl (by decide +kernel)) (k_var c rfl (by decide +kernel))) (k_var c rfl (by decide +kernel))) k_int))
 (ks_cons (ks_set c 11 rfl (by decide +kernel) (k_mul (k_mul (k_var c rfl (by decide +kernel)) (k_var c rfl (by decide +kernel))) (k_add (k_var c rfl (by decide +kernel)) k_int)))
 (ks_cons (ks_for c (ki_rng1 (c.nox) 8 rfl (by decide +kernel) (k_var (c.nox) rfl (by decide +kernel))) (kg_nm (c.nox) 12 rfl (by decide +kernel))
 (ks_one (ks_set (c.nox) 11 rfl (by decide +kernel) (k_mul (k_var (c.nox) rfl (by decide +kernel)) k_int))))
 (ks_cons (ks_for c (ki_rng1 (c.nox) 8 rfl (by decide +kernel) (k_var (c.nox) rfl (by decide +kernel))) (kg_nm (c.nox) 12 rfl (by decide +kernel))
 (ks_one (ks_set (c.nox) 11 rfl (by decide +kernel) (k_mul (k_var (c.nox) rfl (by decide +kernel)) (k_add (k_mul k_int (k_var (c.nox) rfl (by decide +kernel))) k_int)))))
 (ks_one (ks_ret (k_var c rfl (by decide +kernel)))))))))
def n6 : List Str := (["value", "low", "high"] : List Str)
theorem sc6 : FnScope n6 (["value", "low", "high"] : List Str) (defScope (top 7)) := ⟨rfl, rfl, rfl, by decide +kernel, rfl, by decide +kernel, by decide +kernel⟩
theorem b6 {cv : Nat → Value} {F k : Nat} {Ex : XK} {X : Cx} (c : Cn (T.inf cv PD F k) Ex true (defScope (top 7)) n6 X) (o : OwnC X "is_from") : Jb (T.inf cv PD F k) Ex X F m6 (defBody (top 7)) :=
 (ks_one (ks_ret (k_and (k_isi c 4 3 .int rfl (by decide +kernel) rfl (by decide +kernel) bt_int (by decide) (k_var c rfl (by decide +kernel))) (k_and (k_not (k_isi c 4 1 .bool rfl (by decide +kernel) rfl (by decide +kernel) bt_bool (by decide) (k_var c rfl (by decide +kernel)))) (k_one (k_chn c .le .le (k_var c rfl (by decide +kernel)) (k_var c rfl (by decide +kernel)) (k_var c rfl (by decide +kernel))))))))
def n7 : List Str := (["value", "gap", "early", "late", "low", "high", "room", "order", "every", "ahead"] : List Str)
theorem sc7 : FnScope n7 (["value"] : List Str) (defScope (top 9)) := ⟨rfl, rfl, rfl, by decide +kernel, rfl, by decide +kernel, by decide +kernel⟩
theorem b7 {cv : Nat → Value} {F k : Nat} {Ex : XK} {X : Cx} (c : Cn (T.inf cv PD F k) Ex true (defScope (top 9)) n7 X) (o : OwnC X "is_house") : Jb (T.inf cv PD F k) Ex X F m7 (defBody (top 9)) :=
 (ks_cons (ks_if (kt_w (kw_or (kt_not (kt_val (k_isi c 4 10 .tuple rfl (by decide +kernel) rfl (by decide +kernel) bt_tuple (by decide) (k_var c rfl (by decide +kernel))))) (kw_or1 (kt_cmp c .ne (k_len c 5 rfl (by decide +kernel) (ka_cons (k_var c rfl (by decide +kernel)) ka_nil)) k_int)))) (ks_one (ks_ret k_bool)) ks_nil)
 (ks_cons (ks_asg (k_var c rfl (by decide +kernel)) (kg_tp c (kgs_cons c 1 rfl (by decide +kernel) (kgs_cons c 2 rfl (by decide +kernel) (kgs_cons c 3 rfl (by decide +kernel) (kgs_cons c 4 rfl (by decide +kernel) (kgs_cons c 5 rfl (by decide +kernel) (kgs_cons c 6 rfl (by decide +kernel) (kgs_cons c 7 rfl (by decide +kernel) (kgs_cons c 8 rfl (by decide +kernel) (kgs_cons c 9 rfl (by decide +kernel) kgs_nil)))))))))))
 (ks_cons (ks_if (kt_w (kw_or (kt_not (kt_val (k_call c 6 rfl (by decide +kernel) (ka_cons (k_var c rfl (by decide +kernel)) (ka_cons k_int (ka_cons k_int ka_nil)))))) (kw_or (kt_not (kt_val (k_call c 6 rfl (by decide +kernel) (ka_cons (k_var c rfl (by decide +kernel)) (ka_cons k_int (ka_cons k_int ka_nil)))))) (kw_or (kt_not (kt_val (k_call c 6 rfl (by decide +kernel) (ka_cons (k_var c rfl (by decide +kernel)) (ka_cons k_int (ka_cons k_int ka_nil)))))) (kw_or1 (kt_not (kt_val (k_call c 6 rfl (by decide +kernel) (ka_cons (k_var c rfl (by decide +kernel)) (ka_cons k_int (ka_cons k_int ka_nil))))))))))) (ks_one (ks_ret k_bool)) ks_nil)
 (ks_cons (ks_if (kt_w (kw_or (kt_not (kt_val (k_call c 6 rfl (by decide +kernel) (ka_cons (k_var c rfl (by decide +kernel)) (ka_cons k_int (ka_cons (k_var c rfl (by decide +kernel)) ka_nil)))))) (kw_or (kt_not (kt_val (k_call c 6 rfl (by decide +kernel) (ka_cons (k_var c rfl (by decide +kernel)) (ka_cons k_int (ka_cons k_int ka_nil)))))) (kw_or1 (kt_not (kt_val (k_call c 6 rfl (by decide +kernel) (ka_cons (k_var c rfl (by decide +kernel)) (ka_cons k_int (ka_cons k_int ka_nil)))))))))) (ks_one (ks_ret k_bool)) ks_nil)
 (ks_cons (ks_if (kt_w (kw_or (kt_not (kt_val (k_isi c 4 9 .str rfl (by decide +kernel) rfl (by decide +kernel) bt_str (by decide) (k_var c rfl (by decide +kernel))))) (kw_or (kt_cmp c .notin (k_var c rfl (by decide +kernel)) (k_glb c 0 rfl (by decide +kernel))) (kw_or1 (kt_not (kt_val (k_isi c 4 1 .bool rfl (by decide +kernel) rfl (by decide +kernel) bt_bool (by decide) (k_var c rfl (by decide +kernel))))))))) (ks_one (ks_ret k_bool)) ks_nil)
 (ks_one (ks_ret (k_cmp c .le (k_call c 5 rfl (by decide +kernel) (ka_cons (k_var c rfl (by decide +kernel)) ka_nil)) (k_glb c 1 rfl (by decide +kernel))))))))))
def n8 : List Str := (["value"] : List Str)
theorem sc8 : FnScope n8 (["value"] : List Str) (defScope (top 10)) := ⟨rfl, rfl, rfl, by decide +kernel, rfl, by decide +kernel, by decide +kernel⟩
theorem b8 {cv : Nat → Value} {F k : Nat} {Ex : XK} {X : Cx} (c : Cn (T.inf cv PD F k) Ex true (defScope (top 10)) n8 X) (o : OwnC X "need_house") : Jb (T.inf cv PD F k) Ex X F m8 (defBody (top 10)) :=
 (ks_one (ks_if (kt_not (kt_val (k_call c 7 rfl (by decide +kernel) (ka_cons (k_var c rfl (by decide +kernel)) ka_nil)))) (ks_one (ks_rse c 0 rfl (by decide +kernel))) ks_nil))
def n9 : List Str := (["house", "words", "part", "value"] : List Str)
theorem sc9 : FnScope n9 (["house"] : List Str) (defScope (top 14)) := ⟨rfl, rfl, rfl, by decide +kernel, rfl, by decide +kernel, by decide +kernel⟩
theorem b9 {cv : Nat → Value} {F k : Nat} {Ex : XK} {X : Cx} (c : Cn (T.inf cv PD F k) Ex true (defScope (top 14)) n9 X) (o : OwnC X "line_of") : Jb (T.inf cv PD F k) Ex X F m9 (defBody (top 14)) :=
 (ks_cons (ks_setLc c 1 rfl (by decide +kernel) (by rfl) (by decide +kernel) [("part", 2), ("value", 3)] (by decide +kernel) (by decide) (ki_zip c 11 rfl (by decide +kernel) (k_slcH (k_glb c 2 rfl (by decide +kernel)) k_int) (k_slcH (k_var c rfl (by decide +kernel)) k_int)) (fun _ c' => (kg_tp c' (kgs_cons c' 2 rfl (by decide +kernel) (kgs_cons c' 3 rfl (by decide +kernel) kgs_nil)))) (fun _ c' => kc_nil) (fun _ c' => (k_add (k_add (k_var c' rfl (by decide +kernel)) k_str) (k_str1 c' 9 rfl (by decide +kernel) (ka_cons (k_var c' rfl (by decide +kernel)) ka_nil)))))
 (ks_one (ks_ret (k_join k_str (k_add (k_var c rfl (by decide +kernel)) (k_rpl (ka_cons k_str ka_nil) (k_int1 c 3 rfl (by decide +kernel) (ka_cons (k_idx (k_var c rfl (by decide +kernel)) k_int) ka_nil))))))))
def n10 : List Str := (["house"] : List Str)
theorem sc10 : FnScope n10 (["house"] : List Str) (defScope (top 15)) := ⟨rfl, rfl, rfl, by decide +kernel, rfl, by decide +kernel, by decide +kernel⟩
theorem b10 {cv : Nat → Value} {F k : Nat} {Ex : XK} {X : Cx} (c : Cn (T.inf cv PD F k) Ex true (defScope (top 15)) n10 X) (o : OwnC X "house_line") : Jb (T.inf cv PD F k) Ex X F m10 (defBody (top 15)) :=
 (ks_cons (ks_expr (k_call c 8 rfl (by decide +kernel) (ka_cons (k_var c rfl (by decide +kernel)) ka_nil)))
 (ks_one (ks_ret (k_call c 9 rfl (by decide +kernel) (ka_cons (k_var c rfl (by decide +kernel)) ka_nil)))))
def n11 : List Str := (["part", "word", "rest"] : List Str)
theorem sc11 : FnScope n11 (["part", "word"] : List Str) (defScope (top 16)) := ⟨rfl, rfl, rfl, by decide +kernel, rfl, by decide +kernel, by decide +kernel⟩
theorem b11 {cv : Nat → Value} {F k : Nat} {Ex : XK} {X : Cx} (c : Cn (T.inf cv PD F k) Ex true (defScope (top 16)) n11 X) (o : OwnC X "value_from") : Jb (T.inf cv PD F k) Ex X F m11 (defBody (top 16)) :=
 (ks_cons (ks_if (kt_cmp c .ne (k_slcH (k_var c rfl (by decide +kernel)) (k_add (k_len c 5 rfl (by decide +kernel) (ka_cons (k_var c rfl (by decide +kernel)) ka_nil)) k_int)) (k_add (k_var c rfl (by decide +kernel)) k_str)) (ks_one (ks_ret k_none)) ks_nil)
 (ks_cons (ks_set c 2 rfl (by decide +kernel) (k_slcL (k_var c rfl (by decide +kernel)) (k_add (k_len c 5 rfl (by decide +kernel) (ka_cons (k_var c rfl (by decide +kernel)) ka_nil)) k_int)))
 (ks_cons (ks_if (kt_cmp c .eq (k_var c rfl (by decide +kernel)) k_str) (ks_one (ks_ret (k_var c rfl (by decide +kernel)))) ks_nil)
 (ks_one (ks_ret (k_ife (kt_cmp c .isin (k_var c rfl (by decide +kernel)) (k_glb c 3 rfl (by decide +kernel))) (k_indx c 3 rfl (by decide +kernel) (k_var c rfl (by decide +kernel))) k_none))))))
def n12 : List Str := (["value", "words", "parts", "part", "word", "house"] : List Str)
theorem sc12 : FnScope n12 (["value"] : List Str) (defScope (top 17)) := ⟨rfl, rfl, rfl, by decide +kernel, rfl, by decide +kernel, by decide +kernel⟩
theorem b12 {cv : Nat → Value} {F k : Nat} {Ex : XK} {X : Cx} (c : Cn (T.inf cv PD F k) Ex true (defScope (top 17)) n12 X) (o : OwnC X "read_house") : Jb (T.inf cv PD F k) Ex X F m12 (defBody (top 17)) :=
 (ks_cons (ks_if (kt_not (kt_val (k_isi c 4 9 .str rfl (by decide +kernel) rfl (by decide +kernel) bt_str (by decide) (k_var c rfl (by decide +kernel))))) (ks_one (ks_rse c 1 rfl (by decide +kernel))) ks_nil)
 (ks_cons (ks_set c 1 rfl (by decide +kernel) (k_splt (k_var c rfl (by decide +kernel)) k_str))
 (ks_cons (ks_set c 2 rfl (by decide +kernel) (k_tuple c 10 rfl (by decide +kernel) (ka_cons (k_comp c [("part", 3), ("word", 4)] (by decide +kernel) (by decide) (ki_zip c 11 rfl (by decide +kernel) (k_slcH (k_glb c 2 rfl (by decide +kernel)) k_int) (k_var c rfl (by decide +kernel))) (fun _ c' => (kg_tp c' (kgs_cons c' 3 rfl (by decide +kernel) (kgs_cons c' 4 rfl (by decide +kernel) kgs_nil)))) (fun _ c' => kc_nil) (fun _ c' => (k_call c' 11 rfl (by decide +kernel) (ka_cons (k_var c' rfl (by decide +kernel)) (ka_cons (k_var c' rfl (by decide +kernel)) ka_nil))))) ka_nil)))
 (ks_cons (ks_set c 5 rfl (by decide +kernel) (k_add (k_var c rfl (by decide +kernel)) (k_tup (ka_cons (k_cmp c .isin k_str (k_slcL (k_var c rfl (by decide +kernel)) k_int)) ka_nil))))
 (ks_cons (ks_if (kt_w (kw_or (kt_not (kt_val (k_call c 7 rfl (by decide +kernel) (ka_cons (k_var c rfl (by decide +kernel)) ka_nil)))) (kw_or1 (kt_cmp c .ne (k_call c 9 rfl (by decide +kernel) (ka_cons (k_var c rfl (by decide +kernel)) ka_nil)) (k_var c rfl (by decide +kernel)))))) (ks_one (ks_rse c 1 rfl (by decide +kernel))) ks_nil)
 (ks_one (ks_ret (k_var c rfl (by decide +kernel)))))))))
def n13 : List Str := (["_law_value", "_law_found"] : List Str)
theorem sc13 : FnScope n13 (["_law_value"] : List Str) (defScope (top 25)) := ⟨rfl, rfl, rfl, by decide +kernel, rfl, by decide +kernel, by decide +kernel⟩
theorem b13 {cv : Nat → Value} {F k : Nat} {Ex : XK} {X : Cx} (c : Cn (T.inf cv PD F k) Ex true (defScope (top 25)) n13 X) (o : OwnC X "_law_tried") : Jb (T.inf cv PD F k) Ex X F m13 (defBody (top 25)) :=
 (ks_cons (ks_set c 1 rfl (by decide +kernel) k_str)
 (ks_cons (ks_tryC c rfl 12 rfl (by decide +kernel) 1 rfl (by decide +kernel) (fun _ c' => (ka_cons (k_var c' rfl (by decide +kernel)) ka_nil)) (kh_cons c 1 rfl (by decide +kernel) 1 rfl (by decide +kernel) kh_nil))
 (ks_one (ks_ret (k_var c rfl (by decide +kernel))))))
def n14 : List Str := (["_law_house_here", "_law_found", "_law_at", "_law_word"] : List Str)
theorem sc14 : FnScope n14 (["_law_house_here"] : List Str) (defScope (top 24)) := ⟨rfl, rfl, rfl, by decide +kernel, rfl, by decide +kernel, by decide +kernel⟩
theorem b14 {cv : Nat → Value} {F k : Nat} {Ex : XK} {X : Cx} (c : Cn (T.inf cv PD F k) Ex true (defScope (top 24)) n14 X) (o : OwnC X "_law_line") : Jb (T.inf cv PD F k) Ex X F m14 (defBody (top 24)) :=
 (ks_cons (ks_set c 1 rfl (by decide +kernel) k_str)
 (ks_cons (ks_for c (ki_enum (c.nox) 2 rfl (by decide +kernel) (k_lst (ka_cons k_str (ka_cons k_str (ka_cons k_str (ka_cons k_str (ka_cons k_str (ka_cons k_str ka_nil)))))))) (kg_tp (c.nox) (kgs_cons (c.nox) 2 rfl (by decide +kernel) (kgs_cons (c.nox) 3 rfl (by decide +kernel) kgs_nil)))
 (ks_one (ks_set (c.nox) 1 rfl (by decide +kernel) (k_add (k_add (k_add (k_add (k_var (c.nox) rfl (by decide +kernel)) (k_var (c.nox) rfl (by decide +kernel))) k_str) (k_str1 (c.nox) 9 rfl (by decide +kernel) (ka_cons (k_idx (k_var (c.nox) rfl (by decide +kernel)) (k_var (c.nox) rfl (by decide +kernel))) ka_nil))) k_str))))
 (ks_cons (ks_set c 1 rfl (by decide +kernel) (k_add (k_add (k_add (k_add (k_var c rfl (by decide +kernel)) k_str) (k_idx (k_var c rfl (by decide +kernel)) k_int)) k_str) (k_str1 c 9 rfl (by decide +kernel) (ka_cons (k_idx (k_var c rfl (by decide +kernel)) k_int) ka_nil))))
 (ks_one (ks_ret (k_ife (kt_val (k_idx (k_var c rfl (by decide +kernel)) k_int)) (k_add (k_var c rfl (by decide +kernel)) k_str) (k_var c rfl (by decide +kernel))))))))
def n15 : List Str := (["_law_script", "_law_k", "_law_source_here", "_law_turn", "_law_house_here", "_law_text"] : List Str)
theorem sc15 : FnScope n15 (["_law_script"] : List Str) (defScope (top 26)) := ⟨rfl, rfl, rfl, by decide +kernel, rfl, by decide +kernel, by decide +kernel⟩
theorem b15 {cv : Nat → Value} {F k : Nat} {Ex : XK} {X : Cx} (c : Cn (T.inf cv PD F k) Ex true (defScope (top 26)) n15 X) (o : OwnC X "law") : Jb (T.inf cv PD F k) Ex X F m15 (defBody (top 26)) :=
 (ks_cons (ks_for c (ki_rng1 (c.nox) 8 rfl (by decide +kernel) (k_add k_int (k_min2 (c.nox) 7 rfl (by decide +kernel) (ka_cons (k_len (c.nox) 5 rfl (by decide +kernel) (ka_cons (k_var (c.nox) rfl (by decide +kernel)) ka_nil)) (ka_cons k_int ka_nil))))) (kg_nm (c.nox) 1 rfl (by decide +kernel))
 (ks_cons (ks_set (c.nox) 2 rfl (by decide +kernel) (k_call (c.nox) 0 rfl (by decide +kernel) (ka_cons (k_var (c.nox) rfl (by decide +kernel)) (ka_cons (k_var (c.nox) rfl (by decide +kernel)) ka_nil))))
 (ks_one (ks_for (c.nox) (ki_rng1 ((c.nox).nox) 8 rfl (by decide +kernel) k_int) (kg_nm ((c.nox).nox) 3 rfl (by decide +kernel))
 (ks_cons (ks_set ((c.nox).nox) 4 rfl (by decide +kernel) (k_call ((c.nox).nox) 4 rfl (by decide +kernel) (ka_cons (k_var ((c.nox).nox) rfl (by decide +kernel)) (ka_cons k_int ka_nil))))
 (ks_one (ks_if (kt_w (kw_or (kt_cmp ((c.nox).nox) .ne (k_call ((c.nox).nox) 10 rfl (by decide +kernel) (ka_cons (k_var ((c.nox).nox) rfl (by decide +kernel)) ka_nil)) (k_call ((c.nox).nox) 14 rfl (by decide +kernel) (ka_cons (k_var ((c.nox).nox) rfl (by decide +kernel)) ka_nil))) (kw_or1 (kt_cmp ((c.nox).nox) .ne (k_call ((c.nox).nox) 13 rfl (by decide +kernel) (ka_cons (k_call ((c.nox).nox) 14 rfl (by decide +kernel) (ka_cons (k_var ((c.nox).nox) rfl (by decide +kernel)) ka_nil)) ka_nil)) (k_var ((c.nox).nox) rfl (by decide +kernel)))))) (ks_one (ks_ret k_bool)) ks_nil)))))))
 (ks_cons (ks_set c 4 rfl (by decide +kernel) (k_tup (ka_cons k_int (ka_cons k_int (ka_cons k_int (ka_cons k_int (ka_cons k_int (ka_cons k_int (ka_cons k_str (ka_cons k_int (ka_cons k_bool ka_nil)))))))))))
 (ks_cons (ks_set c 5 rfl (by decide +kernel) k_str)
 (ks_one (ks_ret (k_and (k_cmp c .eq (k_call c 10 rfl (by decide +kernel) (ka_cons (k_var c rfl (by decide +kernel)) ka_nil)) (k_var c rfl (by decide +kernel))) (k_one (k_cmp c .eq (k_call c 13 rfl (by decide +kernel) (ka_cons (k_var c rfl (by decide +kernel)) ka_nil)) (k_var c rfl (by decide +kernel))))))))))
end K17

end S_K17d
section S_K17e
namespace K17
open PySem PySem.Spec PyProof.Rows L2 MI TX
section
variable {P : Program} {w : World} {K : PySem.W.Frag} {mg : Str → Option Value} {base : Heap} {cv : Nat → Value} {F : Nat}
theorem tab {A : Nat → Addr} {fd : Nat → FuncData} (wr : Wr T cv P w K mg) (hA : ∀ (j i : Nat) (x : Str) (ps : List Str), T.fns[j]? = some (i, x, ps) → mg x = some (.ref (A j)) ∧ PySem.W.keepIn K (.ref (A j)) = true ∧ Binds K (fd j) ps [])
  (f0 : Fun K "_law_source" "_law_source" (top 19) (A 0) (fd 0))
  (f1 : Fun K "_law_draw" "_law_draw" (top 20) (A 1) (fd 1))
  (f2 : Fun K "_law_choice" "_law_choice" (top 21) (A 2) (fd 2))
  (f3 : Fun K "_law_size" "_law_size" (top 22) (A 3) (fd 3))
  (f4 : Fun K "_law_house" "_law_house" (top 23) (A 4) (fd 4))
  (f5 : Fun K "size_of" "size_of" (top 8) (A 5) (fd 5))
  (f6 : Fun K "is_from" "is_from" (top 7) (A 6) (fd 6))
  (f7 : Fun K "is_house" "is_house" (top 9) (A 7) (fd 7))
  (f8 : Fun K "need_house" "need_house" (top 10) (A 8) (fd 8))
  (f9 : Fun K "line_of" "line_of" (top 14) (A 9) (fd 9))
  (f10 : Fun K "house_line" "house_line" (top 15) (A 10) (fd 10))
  (f11 : Fun K "value_from" "value_from" (top 16) (A 11) (fd 11))
  (f12 : Fun K "read_house" "read_house" (top 17) (A 12) (fd 12))
  (f13 : Fun K "_law_tried" "_law_tried" (top 25) (A 13) (fd 13))
  (f14 : Fun K "_law_line" "_law_line" (top 24) (A 14) (fd 14))
  (f15 : Fun K "law" "law" (top 26) (A 15) (fd 15))
  : ∀ k : Nat, Tab T cv PD F P w K mg base A fd k
  | 0 => tab0
  | k + 1 => by
    have tb := tab wr hA f0 f1 f2 f3 f4 f5 f6 f7 f8 f9 f10 f11 f12 f13 f14 f15 k
    intro j i x ps h
    have hj : j < 16 := (List.getElem?_eq_some_iff.mp h).1
    by_cases e0 : j = 0
    · subst e0
      cases (show some _ = some (i, x, ps) from h)
      exact def_ok wr hA tb h f0 sc0 pd0 rfl rfl fun Ex X c o => b0 c o
    by_cases e1 : j = 1
    · subst e1
      cases (show some _ = some (i, x, ps) from h)
      exact def_ok wr hA tb h f1 sc1 pd1 rfl rfl fun Ex X c o => b1 c o
    by_cases e2 : j = 2
    · subst e2
      cases (show some _ = some (i, x, ps) from h)
      exact def_ok wr hA tb h f2 sc2 pd2 rfl rfl fun Ex X c o => b2 c o
    by_cases e3 : j = 3
    · subst e3
      cases (show some _ = some (i, x, ps) from h)
      exact def_ok wr hA tb h f3 sc3 pd3 rfl rfl fun Ex X c o => b3 c o
    by_cases e4 : j = 4
    · subst e4
      cases (show some _ = some (i, x, ps) from h)
      exact def_ok wr hA tb h f4 sc4 pd4 rfl rfl fun Ex X c o => b4 c o
    by_cases e5 : j = 5
    · subst e5
      cases (show some _ = some (i, x, ps) from h)
      exact def_ok wr hA tb h f5 sc5 pd5 rfl rfl fun Ex X c o => b5 c o
    by_cases e6 : j = 6
    · subst e6
      cases (show some _ = some (i, x, ps) from h)
      exact def_ok wr hA tb h f6 sc6 pd6 rfl rfl fun Ex X c o => b6 c o
    by_cases e7 : j = 7
    · subst e7
      cases (show some _ = some (i, x, ps) from h)
      exact def_ok wr hA tb h f7 sc7 pd7 rfl rfl fun Ex X c o => b7 c o
    by_cases e8 : j = 8
    · subst e8
      cases (show some _ = some (i, x, ps) from h)
      exact def_ok wr hA tb h f8 sc8 pd8 rfl rfl fun Ex X c o => b8 c o
    by_cases e9 : j = 9
    · subst e9
      cases (show some _ = some (i, x, ps) from h)
      exact def_ok wr hA tb h f9 sc9 pd9 rfl rfl fun Ex X c o => b9 c o
    by_cases e10 : j = 10
    · subst e10
      cases (show some _ = some (i, x, ps) from h)
      exact def_ok wr hA tb h f10 sc10 pd10 rfl rfl fun Ex X c o => b10 c o
    by_cases e11 : j = 11
    · subst e11
      cases (show some _ = some (i, x, ps) from h)
      exact def_ok wr hA tb h f11 sc11 pd11 rfl rfl fun Ex X c o => b11 c o
    by_cases e12 : j = 12
    · subst e12
      cases (show some _ = some (i, x, ps) from h)
      exact def_ok wr hA tb h f12 sc12 pd12 rfl rfl fun Ex X c o => b12 c o
    by_cases e13 : j = 13
    · subst e13
      cases (show some _ = some (i, x, ps) from h)
      exact def_ok wr hA tb h f13 sc13 pd13 rfl rfl fun Ex X c o => b13 c o
    by_cases e14 : j = 14
    · subst e14
      cases (show some _ = some (i, x, ps) from h)
      exact def_ok wr hA tb h f14 sc14 pd14 rfl rfl fun Ex X c o => b14 c o
    by_cases e15 : j = 15
    · subst e15
      cases (show some _ = some (i, x, ps) from h)
      exact def_ok wr hA tb h f15 sc15 pd15 rfl rfl fun Ex X c o => b15 c o
    omega
end
theorem all_mk {l : PySem.W.OpenLaw} {w : World} {K : PySem.W.Frag} {h : Heap} {mg : Str → Option Value} {fa : Addr} (X : K.In h) (G : h.Ns mainGlobals mg) (hfa : mg "law" = some (.ref fa))
  {a0 a1 a2 a3 a4 a5 a6 a7 a8 a9 a10 a11 a12 a13 a14 a15 E_InvalidHouse E_InvalidLine : Addr}
  {oc0 kV0 dc0 pm0 cd0 ct0 : Value} {od0 an0 : Option Addr} {sl0 : Array (Option Value)}
  {oc1 kV1 dc1 pm1 cd1 ct1 : Value} {od1 an1 : Option Addr} {sl1 : Array (Option Value)}
  {oc2 kV2 dc2 pm2 cd2 ct2 : Value} {od2 an2 : Option Addr} {sl2 : Array (Option Value)}
  {oc3 kV3 dc3 pm3 cd3 ct3 : Value} {od3 an3 : Option Addr} {sl3 : Array (Option Value)}
  {oc4 kV4 dc4 pm4 cd4 ct4 : Value} {od4 an4 : Option Addr} {sl4 : Array (Option Value)}
  {oc5 kV5 dc5 pm5 cd5 ct5 : Value} {od5 an5 : Option Addr} {sl5 : Array (Option Value)}
  {oc6 kV6 dc6 pm6 cd6 ct6 : Value} {od6 an6 : Option Addr} {sl6 : Array (Option Value)}
  {oc7 kV7 dc7 pm7 cd7 ct7 : Value} {od7 an7 : Option Addr} {sl7 : Array (Option Value)}
  {oc8 kV8 dc8 pm8 cd8 ct8 : Value} {od8 an8 : Option Addr} {sl8 : Array (Option Value)}
  {oc9 kV9 dc9 pm9 cd9 ct9 : Value} {od9 an9 : Option Addr} {sl9 : Array (Option Value)}
  {oc10 kV10 dc10 pm10 cd10 ct10 : Value} {od10 an10 : Option Addr} {sl10 : Array (Option Value)}
  {oc11 kV11 dc11 pm11 cd11 ct11 : Value} {od11 an11 : Option Addr} {sl11 : Array (Option Value)}
  {oc12 kV12 dc12 pm12 cd12 ct12 : Value} {od12 an12 : Option Addr} {sl12 : Array (Option Value)}
  {oc13 kV13 dc13 pm13 cd13 ct13 : Value} {od13 an13 : Option Addr} {sl13 : Array (Option Value)}
  {oc14 kV14 dc14 pm14 cd14 ct14 : Value} {od14 an14 : Option Addr} {sl14 : Array (Option Value)}
  {oc15 kV15 dc15 pm15 cd15 ct15 : Value} {od15 an15 : Option Addr} {sl15 : Array (Option Value)}
  (hg_ORDERS : GsT K "ORDERS" (.tuple [(.str "come"), (.str "late"), (.str "slot")]))
  (hg_MOST_SIZE : GsT K "MOST_SIZE" (.int 3000))
  (hg_PARTS : GsT K "PARTS" (.tuple [(.str "gap"), (.str "early"), (.str "late"), (.str "low"), (.str "high"), (.str "room"), (.str "order"), (.str "every"), (.str "ahead")]))
  (hg_NUMBERS : GsT K "NUMBERS" (.tuple [(.str "0"), (.str "1"), (.str "2"), (.str "3"), (.str "4")]))
  (x0 : PySem.W.nsIn K mainGlobals "_law_source" = some (some (.ref a0))) (l0 : K.lookup a0 = some ⟨oc0, od0, .func (PySem.W.fnOf "_law_source" "_law_source" (defArgs (top 19)) (defBody (top 19)) (defScope (top 19)) .none kV0 dc0 pm0 an0 cd0 ct0), sl0⟩) (c0 : PySem.W.codeIn K cd0 "_law_source" = true) (k0 : PySem.W.keepIn K (.ref a0) = true)
  (x1 : PySem.W.nsIn K mainGlobals "_law_draw" = some (some (.ref a1))) (l1 : K.lookup a1 = some ⟨oc1, od1, .func (PySem.W.fnOf "_law_draw" "_law_draw" (defArgs (top 20)) (defBody (top 20)) (defScope (top 20)) .none kV1 dc1 pm1 an1 cd1 ct1), sl1⟩) (c1 : PySem.W.codeIn K cd1 "_law_draw" = true) (k1 : PySem.W.keepIn K (.ref a1) = true)
  (x2 : PySem.W.nsIn K mainGlobals "_law_choice" = some (some (.ref a2))) (l2 : K.lookup a2 = some ⟨oc2, od2, .func (PySem.W.fnOf "_law_choice" "_law_choice" (defArgs (top 21)) (defBody (top 21)) (defScope (top 21)) .none kV2 dc2 pm2 an2 cd2 ct2), sl2⟩) (c2 : PySem.W.codeIn K cd2 "_law_choice" = true) (k2 : PySem.W.keepIn K (.ref a2) = true)
  (x3 : PySem.W.nsIn K mainGlobals "_law_size" = some (some (.ref a3))) (l3 : K.lookup a3 = some ⟨oc3, od3, .func (PySem.W.fnOf "_law_size" "_law_size" (defArgs (top 22)) (defBody (top 22)) (defScope (top 22)) .none kV3 dc3 pm3 an3 cd3 ct3), sl3⟩) (c3 : PySem.W.codeIn K cd3 "_law_size" = true) (k3 : PySem.W.keepIn K (.ref a3) = true)
  (x4 : PySem.W.nsIn K mainGlobals "_law_house" = some (some (.ref a4))) (l4 : K.lookup a4 = some ⟨oc4, od4, .func (PySem.W.fnOf "_law_house" "_law_house" (defArgs (top 23)) (defBody (top 23)) (defScope (top 23)) .none kV4 dc4 pm4 an4 cd4 ct4), sl4⟩) (c4 : PySem.W.codeIn K cd4 "_law_house" = true) (k4 : PySem.W.keepIn K (.ref a4) = true)
  (x5 : PySem.W.nsIn K mainGlobals "size_of" = some (some (.ref a5))) (l5 : K.lookup a5 = some ⟨oc5, od5, .func (PySem.W.fnOf "size_of" "size_of" (defArgs (top 8)) (defBody (top 8)) (defScope (top 8)) .none kV5 dc5 pm5 an5 cd5 ct5), sl5⟩) (c5 : PySem.W.codeIn K cd5 "size_of" = true) (k5 : PySem.W.keepIn K (.ref a5) = true)
  (x6 : PySem.W.nsIn K mainGlobals "is_from" = some (some (.ref a6))) (l6 : K.lookup a6 = some ⟨oc6, od6, .func (PySem.W.fnOf "is_from" "is_from" (defArgs (top 7)) (defBody (top 7)) (defScope (top 7)) .none kV6 dc6 pm6 an6 cd6 ct6), sl6⟩) (c6 : PySem.W.codeIn K cd6 "is_from" = true) (k6 : PySem.W.keepIn K (.ref a6) = true)
  (x7 : PySem.W.nsIn K mainGlobals "is_house" = some (some (.ref a7))) (l7 : K.lookup a7 = some ⟨oc7, od7, .func (PySem.W.fnOf "is_house" "is_house" (defArgs (top 9)) (defBody (top 9)) (defScope (top 9)) .none kV7 dc7 pm7 an7 cd7 ct7), sl7⟩) (c7 : PySem.W.codeIn K cd7 "is_house" = true) (k7 : PySem.W.keepIn K (.ref a7) = true)
  (x8 : PySem.W.nsIn K mainGlobals "need_house" = some (some (.ref a8))) (l8 : K.lookup a8 = some ⟨oc8, od8, .func (PySem.W.fnOf "need_house" "need_house" (defArgs (top 10)) (defBody (top 10)) (defScope (top 10)) .none kV8 dc8 pm8 an8 cd8 ct8), sl8⟩) (c8 : PySem.W.codeIn K cd8 "need_house" = true) (k8 : PySem.W.keepIn K (.ref a8) = true)
  (x9 : PySem.W.nsIn K mainGlobals "line_of" = some (some (.ref a9))) (l9 : K.lookup a9 = some ⟨oc9, od9, .func (PySem.W.fnOf "line_of" "line_of" (defArgs (top 14)) (defBody (top 14)) (defScope (top 14)) .none kV9 dc9 pm9 an9 cd9 ct9), sl9⟩) (c9 : PySem.W.codeIn K cd9 "line_of" = true) (k9 : PySem.W.keepIn K (.ref a9) = true)
  (x10 : PySem.W.nsIn K mainGlobals "house_line" = some (some (.ref a10))) (l10 : K.lookup a10 = some ⟨oc10, od10, .func (PySem.W.fnOf "house_line" "house_line" (defArgs (top 15)) (defBody (top 15)) (defScope (top 15)) .none kV10 dc10 pm10 an10 cd10 ct10), sl10⟩) (c10 : PySem.W.codeIn K cd10 "house_line" = true) (k10 : PySem.W.keepIn K (.ref a10) = true)
  (x11 : PySem.W.nsIn K mainGlobals "value_from" = some (some (.ref a11))) (l11 : K.lookup a11 = some ⟨oc11, od11, .func (PySem.W.fnOf "value_from" "value_from" (defArgs (top 16)) (defBody (top 16)) (defScope (top 16)) .none kV11 dc11 pm11 an11 cd11 ct11), sl11⟩) (c11 : PySem.W.codeIn K cd11 "value_from" = true) (k11 : PySem.W.keepIn K (.ref a11) = true)
  (x12 : PySem.W.nsIn K mainGlobals "read_house" = some (some (.ref a12))) (l12 : K.lookup a12 = some ⟨oc12, od12, .func (PySem.W.fnOf "read_house" "read_house" (defArgs (top 17)) (defBody (top 17)) (defScope (top 17)) .none kV12 dc12 pm12 an12 cd12 ct12), sl12⟩) (c12 : PySem.W.codeIn K cd12 "read_house" = true) (k12 : PySem.W.keepIn K (.ref a12) = true)
  (x13 : PySem.W.nsIn K mainGlobals "_law_tried" = some (some (.ref a13))) (l13 : K.lookup a13 = some ⟨oc13, od13, .func (PySem.W.fnOf "_law_tried" "_law_tried" (defArgs (top 25)) (defBody (top 25)) (defScope (top 25)) .none kV13 dc13 pm13 an13 cd13 ct13), sl13⟩) (c13 : PySem.W.codeIn K cd13 "_law_tried" = true) (k13 : PySem.W.keepIn K (.ref a13) = true)
  (x14 : PySem.W.nsIn K mainGlobals "_law_line" = some (some (.ref a14))) (l14 : K.lookup a14 = some ⟨oc14, od14, .func (PySem.W.fnOf "_law_line" "_law_line" (defArgs (top 24)) (defBody (top 24)) (defScope (top 24)) .none kV14 dc14 pm14 an14 cd14 ct14), sl14⟩) (c14 : PySem.W.codeIn K cd14 "_law_line" = true) (k14 : PySem.W.keepIn K (.ref a14) = true)
  (x15 : PySem.W.nsIn K mainGlobals "law" = some (some (.ref a15))) (l15 : K.lookup a15 = some ⟨oc15, od15, .func (PySem.W.fnOf "law" "law" (defArgs (top 26)) (defBody (top 26)) (defScope (top 26)) .none kV15 dc15 pm15 an15 cd15 ct15), sl15⟩) (c15 : PySem.W.codeIn K cd15 "law" = true) (k15 : PySem.W.keepIn K (.ref a15) = true)
  (en_InvalidHouse : PySem.W.nsIn K mainGlobals "InvalidHouse" = some (some (.ref E_InvalidHouse))) (ek_InvalidHouse : PySem.W.keepIn K (.ref E_InvalidHouse) = true) (ex_InvalidHouse : PySem.W.excIn K E_InvalidHouse [.type "ValueError", .type "Exception", .type "BaseException", .type "object"] "ValueError.__new__" = true) (es_InvalidHouse : PySem.W.subIn K (.ref E_InvalidHouse) (.type "BaseException") = some true) (et_InvalidHouse : PySem.W.typeIn K (.ref E_InvalidHouse) = some (.type "type"))
  (en_InvalidLine : PySem.W.nsIn K mainGlobals "InvalidLine" = some (some (.ref E_InvalidLine))) (ek_InvalidLine : PySem.W.keepIn K (.ref E_InvalidLine) = true) (ex_InvalidLine : PySem.W.excIn K E_InvalidLine [.type "ValueError", .type "Exception", .type "BaseException", .type "object"] "ValueError.__new__" = true) (es_InvalidLine : PySem.W.subIn K (.ref E_InvalidLine) (.type "BaseException") = some true) (et_InvalidLine : PySem.W.typeIn K (.ref E_InvalidLine) = some (.type "type"))
  (em_InvalidHouse_InvalidHouse : PySem.W.exmOne K (.ref E_InvalidHouse) (.ref E_InvalidHouse) = some true)
  (em_InvalidHouse_InvalidLine : PySem.W.exmOne K (.ref E_InvalidHouse) (.ref E_InvalidLine) = some false)
  (em_InvalidLine_InvalidHouse : PySem.W.exmOne K (.ref E_InvalidLine) (.ref E_InvalidHouse) = some false)
  (em_InvalidLine_InvalidLine : PySem.W.exmOne K (.ref E_InvalidLine) (.ref E_InvalidLine) = some true)
  (z_abs : PySem.W.nsIn K mainGlobals "abs" = some none)
  (z_bool : PySem.W.nsIn K mainGlobals "bool" = some none)
  (z_enumerate : PySem.W.nsIn K mainGlobals "enumerate" = some none)
  (z_int : PySem.W.nsIn K mainGlobals "int" = some none)
  (z_isinstance : PySem.W.nsIn K mainGlobals "isinstance" = some none)
  (z_len : PySem.W.nsIn K mainGlobals "len" = some none)
  (z_max : PySem.W.nsIn K mainGlobals "max" = some none)
  (z_min : PySem.W.nsIn K mainGlobals "min" = some none)
  (z_range : PySem.W.nsIn K mainGlobals "range" = some none)
  (z_str : PySem.W.nsIn K mainGlobals "str" = some none)
  (z_tuple : PySem.W.nsIn K mainGlobals "tuple" = some none)
  (z_zip : PySem.W.nsIn K mainGlobals "zip" = some none)
  : ∃ fd : FuncData, (∀ (s : Shared) (v : Value), BindsTo s fd ⟨[v], []⟩ [("_law_script", v)]) ∧ ∀ base : Heap, K.In base → base.Ns mainGlobals mg → FnOk l.prog w K mg base (L2.CX l.prog w) 30 fa fd ["_law_script"] (spA ⟨l.prog, w, K, mg, base⟩ PD 30 15 1) := by
  have e := hfa.symm.trans (PySem.W.mg_of X G x15)
  cases e
  have F0 := fun_mk (st := top 19) l0 c0 k0
  have B0 := F0.binds (ps := (["_law_script", "_law_k"] : List Str)) fun _ _ _ _ _ _ us hl => match us, hl with | [_, _], _ => rfl
  have F1 := fun_mk (st := top 20) l1 c1 k1
  have B1 := F1.binds (ps := (["_law_source_here", "_law_many"] : List Str)) fun _ _ _ _ _ _ us hl => match us, hl with | [_, _], _ => rfl
  have F2 := fun_mk (st := top 21) l2 c2 k2
  have B2 := F2.binds (ps := (["_law_source_here", "_law_some"] : List Str)) fun _ _ _ _ _ _ us hl => match us, hl with | [_, _], _ => rfl
  have F3 := fun_mk (st := top 22) l3 c3 k3
  have B3 := F3.binds (ps := (["_law_house_here"] : List Str)) fun _ _ _ _ _ _ us hl => match us, hl with | [_], _ => rfl
  have F4 := fun_mk (st := top 23) l4 c4 k4
  have B4 := F4.binds (ps := (["_law_source_here", "_law_most"] : List Str)) fun _ _ _ _ _ _ us hl => match us, hl with | [_, _], _ => rfl
  have F5 := fun_mk (st := top 8) l5 c5 k5
  have B5 := F5.binds (ps := (["house"] : List Str)) fun _ _ _ _ _ _ us hl => match us, hl with | [_], _ => rfl
  have F6 := fun_mk (st := top 7) l6 c6 k6
  have B6 := F6.binds (ps := (["value", "low", "high"] : List Str)) fun _ _ _ _ _ _ us hl => match us, hl with | [_, _, _], _ => rfl
  have F7 := fun_mk (st := top 9) l7 c7 k7
  have B7 := F7.binds (ps := (["value"] : List Str)) fun _ _ _ _ _ _ us hl => match us, hl with | [_], _ => rfl
  have F8 := fun_mk (st := top 10) l8 c8 k8
  have B8 := F8.binds (ps := (["value"] : List Str)) fun _ _ _ _ _ _ us hl => match us, hl with | [_], _ => rfl
  have F9 := fun_mk (st := top 14) l9 c9 k9
  have B9 := F9.binds (ps := (["house"] : List Str)) fun _ _ _ _ _ _ us hl => match us, hl with | [_], _ => rfl
  have F10 := fun_mk (st := top 15) l10 c10 k10
  have B10 := F10.binds (ps := (["house"] : List Str)) fun _ _ _ _ _ _ us hl => match us, hl with | [_], _ => rfl
  have F11 := fun_mk (st := top 16) l11 c11 k11
  have B11 := F11.binds (ps := (["part", "word"] : List Str)) fun _ _ _ _ _ _ us hl => match us, hl with | [_, _], _ => rfl
  have F12 := fun_mk (st := top 17) l12 c12 k12
  have B12 := F12.binds (ps := (["value"] : List Str)) fun _ _ _ _ _ _ us hl => match us, hl with | [_], _ => rfl
  have F13 := fun_mk (st := top 25) l13 c13 k13
  have B13 := F13.binds (ps := (["_law_value"] : List Str)) fun _ _ _ _ _ _ us hl => match us, hl with | [_], _ => rfl
  have F14 := fun_mk (st := top 24) l14 c14 k14
  have B14 := F14.binds (ps := (["_law_house_here"] : List Str)) fun _ _ _ _ _ _ us hl => match us, hl with | [_], _ => rfl
  have F15 := fun_mk (st := top 26) l15 c15 k15
  have B15 := F15.binds (ps := (["_law_script"] : List Str)) fun _ _ _ _ _ _ us hl => match us, hl with | [_], _ => rfl
  refine ⟨PySem.W.fnOf "law" "law" (defArgs (top 26)) (defBody (top 26)) (defScope (top 26)) .none kV15 dc15 pm15 an15 cd15 ct15, fun s v => .of_eq rfl, fun base _ _ => ?_⟩
  let A : Nat → Addr := fun j => match j with | 0 => a0 | 1 => a1 | 2 => a2 | 3 => a3 | 4 => a4 | 5 => a5 | 6 => a6 | 7 => a7 | 8 => a8 | 9 => a9 | 10 => a10 | 11 => a11 | 12 => a12 | 13 => a13 | 14 => a14 | _ => fa
  let fd : Nat → FuncData := fun j => match j with | 0 => PySem.W.fnOf "_law_source" "_law_source" (defArgs (top 19)) (defBody (top 19)) (defScope (top 19)) .none kV0 dc0 pm0 an0 cd0 ct0 | 1 => PySem.W.fnOf "_law_draw" "_law_draw" (defArgs (top 20)) (defBody (top 20)) (defScope (top 20)) .none kV1 dc1 pm1 an1 cd1 ct1 | 2 => PySem.W.fnOf "_law_choice" "_law_choice" (defArgs (top 21)) (defBody (top 21)) (defScope (top 21)) .none kV2 dc2 pm2 an2 cd2 ct2 | 3 => PySem.W.fnOf "_law_size" "_law_size" (defArgs (top 22)) (defBody (top 22)) (defScope (top 22)) .none kV3 dc3 pm3 an3 cd3 ct3 | 4 => PySem.W.fnOf "_law_house" "_law_house" (defArgs (top 23)) (defBody (top 23)) (defScope (top 23)) .none kV4 dc4 pm4 an4 cd4 ct4 | 5 => PySem.W.fnOf "size_of" "size_of" (defArgs (top 8)) (defBody (top 8)) (defScope (top 8)) .none kV5 dc5 pm5 an5 cd5 ct5 | 6 => PySem.W.fnOf "is_from" "is_from" (defArgs (top 7)) (defBody (top 7)) (defScope (top 7)) .none kV6 dc6 pm6 an6 cd6 ct6 | 7 => PySem.W.fnOf "is_house" "is_house" (defArgs (top 9)) (defBody (top 9)) (defScope (top 9)) .none kV7 dc7 pm7 an7 cd7 ct7 | 8 => PySem.W.fnOf "need_house" "need_house" (defArgs (top 10)) (defBody (top 10)) (defScope (top 10)) .none kV8 dc8 pm8 an8 cd8 ct8 | 9 => PySem.W.fnOf "line_of" "line_of" (defArgs (top 14)) (defBody (top 14)) (defScope (top 14)) .none kV9 dc9 pm9 an9 cd9 ct9 | 10 => PySem.W.fnOf "house_line" "house_line" (defArgs (top 15)) (defBody (top 15)) (defScope (top 15)) .none kV10 dc10 pm10 an10 cd10 ct10 | 11 => PySem.W.fnOf "value_from" "value_from" (defArgs (top 16)) (defBody (top 16)) (defScope (top 16)) .none kV11 dc11 pm11 an11 cd11 ct11 | 12 => PySem.W.fnOf "read_house" "read_house" (defArgs (top 17)) (defBody (top 17)) (defScope (top 17)) .none kV12 dc12 pm12 an12 cd12 ct12 | 13 => PySem.W.fnOf "_law_tried" "_law_tried" (defArgs (top 25)) (defBody (top 25)) (defScope (top 25)) .none kV13 dc13 pm13 an13 cd13 ct13 | 14 => PySem.W.fnOf "_law_line" "_law_line" (defArgs (top 24)) (defBody (top 24)) (defScope (top 24)) .none kV14 dc14 pm14 an14 cd14 ct14 | _ => PySem.W.fnOf "law" "law" (defArgs (top 26)) (defBody (top 26)) (defScope (top 26)) .none kV15 dc15 pm15 an15 cd15 ct15
  let cv : Nat → Value := fun c => match c with | 0 => .ref E_InvalidHouse | 8 => .ref E_InvalidLine | _ => .none
  have wr : Wr T cv l.prog w K mg := by
    refine ⟨fun j x e => ?_, fun j x d e => ?_, fun j c x e => ?_, fun j j2 c c2 x x2 e e2 => ?_⟩
    · have hj : j < 12 := (List.getElem?_eq_some_iff.mp e).1
      by_cases e0 : j = 0
      · subst e0
        cases (show some _ = some x from e)
        exact PySem.W.mg_none_of X G z_abs
      by_cases e1 : j = 1
      · subst e1
        cases (show some _ = some x from e)
        exact PySem.W.mg_none_of X G z_bool
      by_cases e2 : j = 2
      · subst e2
        cases (show some _ = some x from e)
        exact PySem.W.mg_none_of X G z_enumerate
      by_cases e3 : j = 3
      · subst e3
        cases (show some _ = some x from e)
        exact PySem.W.mg_none_of X G z_int
      by_cases e4 : j = 4
      · subst e4
        cases (show some _ = some x from e)
        exact PySem.W.mg_none_of X G z_isinstance
      by_cases e5 : j = 5
      · subst e5
        cases (show some _ = some x from e)
        exact PySem.W.mg_none_of X G z_len
      by_cases e6 : j = 6
      · subst e6
        cases (show some _ = some x from e)
        exact PySem.W.mg_none_of X G z_max
      by_cases e7 : j = 7
      · subst e7
        cases (show some _ = some x from e)
        exact PySem.W.mg_none_of X G z_min
      by_cases e8 : j = 8
      · subst e8
        cases (show some _ = some x from e)
        exact PySem.W.mg_none_of X G z_range
      by_cases e9 : j = 9
      · subst e9
        cases (show some _ = some x from e)
        exact PySem.W.mg_none_of X G z_str
      by_cases e10 : j = 10
      · subst e10
        cases (show some _ = some x from e)
        exact PySem.W.mg_none_of X G z_tuple
      by_cases e11 : j = 11
      · subst e11
        cases (show some _ = some x from e)
        exact PySem.W.mg_none_of X G z_zip
      omega
    · have hj : j < 4 := (List.getElem?_eq_some_iff.mp e).1
      by_cases e0 : j = 0
      · subst e0
        cases (show some _ = some (x, d) from e)
        obtain ⟨u, v, q1, q2, q3, q4⟩ := hg_ORDERS
        exact ⟨u, v, PySem.W.mg_of X G q1, q2, q3, q4⟩
      by_cases e1 : j = 1
      · subst e1
        cases (show some _ = some (x, d) from e)
        obtain ⟨u, v, q1, q2, q3, q4⟩ := hg_MOST_SIZE
        exact ⟨u, v, PySem.W.mg_of X G q1, q2, q3, q4⟩
      by_cases e2 : j = 2
      · subst e2
        cases (show some _ = some (x, d) from e)
        obtain ⟨u, v, q1, q2, q3, q4⟩ := hg_PARTS
        exact ⟨u, v, PySem.W.mg_of X G q1, q2, q3, q4⟩
      by_cases e3 : j = 3
      · subst e3
        cases (show some _ = some (x, d) from e)
        obtain ⟨u, v, q1, q2, q3, q4⟩ := hg_NUMBERS
        exact ⟨u, v, PySem.W.mg_of X G q1, q2, q3, q4⟩
      omega
    · have hj : j < 2 := (List.getElem?_eq_some_iff.mp e).1
      by_cases e0 : j = 0
      · subst e0
        cases (show some _ = some (c, x) from e)
        exact ⟨E_InvalidHouse, PySem.W.mg_of X G en_InvalidHouse, rfl, ek_InvalidHouse, ex_InvalidHouse, es_InvalidHouse, et_InvalidHouse⟩
      by_cases e1 : j = 1
      · subst e1
        cases (show some _ = some (c, x) from e)
        exact ⟨E_InvalidLine, PySem.W.mg_of X G en_InvalidLine, rfl, ek_InvalidLine, ex_InvalidLine, es_InvalidLine, et_InvalidLine⟩
      omega
    · have hj : j < 2 := (List.getElem?_eq_some_iff.mp e).1
      have hj2 : j2 < 2 := (List.getElem?_eq_some_iff.mp e2).1
      by_cases e0 : j = 0
      · subst e0
        cases (show some _ = some (c, x) from e)
        by_cases k0 : j2 = 0
        · subst k0
          cases (show some _ = some (c2, x2) from e2)
          exact em_InvalidHouse_InvalidHouse
        by_cases k1 : j2 = 1
        · subst k1
          cases (show some _ = some (c2, x2) from e2)
          exact em_InvalidHouse_InvalidLine
        omega
      by_cases e1 : j = 1
      · subst e1
        cases (show some _ = some (c, x) from e)
        by_cases k0 : j2 = 0
        · subst k0
          cases (show some _ = some (c2, x2) from e2)
          exact em_InvalidLine_InvalidHouse
        by_cases k1 : j2 = 1
        · subst k1
          cases (show some _ = some (c2, x2) from e2)
          exact em_InvalidLine_InvalidLine
        omega
      omega
  have hA : ∀ (j i : Nat) (x : Str) (ps : List Str), T.fns[j]? = some (i, x, ps) → mg x = some (.ref (A j)) ∧ PySem.W.keepIn K (.ref (A j)) = true ∧ Binds K (fd j) ps [] := by
    intro j i x ps e
    have hj : j < 16 := (List.getElem?_eq_some_iff.mp e).1
    by_cases e0 : j = 0
    · subst e0
      cases (show some _ = some (i, x, ps) from e)
      exact ⟨PySem.W.mg_of X G x0, k0, B0⟩
    by_cases e1 : j = 1
    · subst e1
      cases (show some _ = some (i, x, ps) from e)
      exact ⟨PySem.W.mg_of X G x1, k1, B1⟩
    by_cases e2 : j = 2
    · subst e2
      cases (show some _ = some (i, x, ps) from e)
      exact ⟨PySem.W.mg_of X G x2, k2, B2⟩
    by_cases e3 : j = 3
    · subst e3
      cases (show some _ = some (i, x, ps) from e)
      exact ⟨PySem.W.mg_of X G x3, k3, B3⟩
    by_cases e4 : j = 4
    · subst e4
      cases (show some _ = some (i, x, ps) from e)
      exact ⟨PySem.W.mg_of X G x4, k4, B4⟩
    by_cases e5 : j = 5
    · subst e5
      cases (show some _ = some (i, x, ps) from e)
      exact ⟨PySem.W.mg_of X G x5, k5, B5⟩
    by_cases e6 : j = 6
    · subst e6
      cases (show some _ = some (i, x, ps) from e)
      exact ⟨PySem.W.mg_of X G x6, k6, B6⟩
    by_cases e7 : j = 7
    · subst e7
      cases (show some _ = some (i, x, ps) from e)
      exact ⟨PySem.W.mg_of X G x7, k7, B7⟩
    by_cases e8 : j = 8
    · subst e8
      cases (show some _ = some (i, x, ps) from e)
      exact ⟨PySem.W.mg_of X G x8, k8, B8⟩
    by_cases e9 : j = 9
    · subst e9
      cases (show some _ = some (i, x, ps) from e)
      exact ⟨PySem.W.mg_of X G x9, k9, B9⟩
    by_cases e10 : j = 10
    · subst e10
      cases (show some _ = some (i, x, ps) from e)
      exact ⟨PySem.W.mg_of X G x10, k10, B10⟩
    by_cases e11 : j = 11
    · subst e11
      cases (show some _ = some (i, x, ps) from e)
      exact ⟨PySem.W.mg_of X G x11, k11, B11⟩
    by_cases e12 : j = 12
    · subst e12
      cases (show some _ = some (i, x, ps) from e)
      exact ⟨PySem.W.mg_of X G x12, k12, B12⟩
    by_cases e13 : j = 13
    · subst e13
      cases (show some _ = some (i, x, ps) from e)
      exact ⟨PySem.W.mg_of X G x13, k13, B13⟩
    by_cases e14 : j = 14
    · subst e14
      cases (show some _ = some (i, x, ps) from e)
      exact ⟨PySem.W.mg_of X G x14, k14, B14⟩
    by_cases e15 : j = 15
    · subst e15
      cases (show some _ = some (i, x, ps) from e)
      exact ⟨PySem.W.mg_of X G x15, k15, B15⟩
    omega
  exact fnA (cv := cv) fun F => tab (A := A) (fd := fd) wr hA F0 F1 F2 F3 F4 F5 F6 F7 F8 F9 F10 F11 F12 F13 F14 F15 30 15 _ "law" _ rfl
end K17

end S_K17e
section S_MiN
namespace MI
open PySem
def Res.to {α : Type} (r : Res α) (Q : α → Store → Prop) : Prop := match r with
  | .ok a S => Q a S
  | _ => False
theorem Res.to_bind {α β : Type} {r : Res α} {f : α → Store → Res β} {Q : β → Store → Prop} (h : r.to fun a S => (f a S).to Q) : (r.bind f).to Q := by
  cases r with
  | ok a S => exact h
  | ex c S => exact h.elim
  | stuck => exact h.elim
theorem Res.to_ok {α : Type} {a : α} {S : Store} {Q : α → Store → Prop} (h : Q a S) : (Res.ok a S).to Q := h
theorem Res.to.ex {α : Type} {r : Res α} {Q : α → Store → Prop} (h : r.to Q) : ∃ a S, r = .ok a S ∧ Q a S := by
  cases r with
  | ok a S => exact ⟨a, S, rfl, h⟩
  | ex c S => exact h.elim
  | stuck => exact h.elim
theorem Res.to.mono {α : Type} {r : Res α} {Q Q' : α → Store → Prop} (h : r.to Q) (k : ∀ a S, Q a S → Q' a S) : r.to Q' := by
  cases r with
  | ok a S => exact k _ _ h
  | ex c S => exact h.elim
  | stuck => exact h.elim
theorem Res.to_noex {α : Type} {r : Res α} {Q : α → Store → Prop} (h : r.to Q) : r.noex.to Q := by
  cases r with
  | ok a S => exact h
  | ex c S => exact h.elim
  | stuck => exact h.elim
theorem g_to {α : Type} {r : Res α} {Q : α → Store → Prop} (h : r.to Q) : r.to Q := h
theorem g_evE {call : Call} {e : E} {ls : Loc} {S : Store} {Q : W → Store → Prop} (h : (evE call e ls S).to Q) : (evE call e ls S).to Q := h
theorem g_evL {call : Call} {e : E} {ls : Loc} {S : Store} {Q : List W → Store → Prop} (h : (evL call e ls S).to Q) : (evL call e ls S).to Q := h
theorem g_evI {call : Call} {e : E} {ls : Loc} {S : Store} {Q : List D → Store → Prop} (h : (evI call e ls S).to Q) : (evI call e ls S).to Q := h
theorem g_evC {call : Call} {e : E} {ls : Loc} {S : Store} {Q : W → Store → Prop} (h : (evC call e ls S).to Q) : (evC call e ls S).to Q := h
theorem g_exM {call : Call} {F : Nat} {m : M} {ls : Loc} {S : Store} {Q : Fl → Store → Prop} (h : (exM call F m ls S).to Q) : (exM call F m ls S).to Q := h
theorem g_bin {o : BOp} {x y : W} {S : Store} {Q : W → Store → Prop} (h : (binW o x y S).to Q) : (binW o x y S).to Q := h
theorem g_cmp {o : COp} {x y : W} {S : Store} {Q : W → Store → Prop} (h : (cmpW o x y S).to Q) : (cmpW o x y S).to Q := h
theorem g_blt {b : Blt} {ws : List W} {S : Store} {Q : W → Store → Prop} (h : (bltW b ws S).to Q) : (bltW b ws S).to Q := h
theorem g_lv {n : Nat} {r : Res Fl} {Q : W → Store → Prop} (h : (leave n r).to Q) : (leave n r).to Q := h
def ways {α : Type} (w : W) (S : Store) (f : Bool → Store → Res α) (Q : α → Store → Prop) : Prop := ∃ c, w = .d (.bool c) ∧ (c = true → (f true S).to Q) ∧ (c = false → (f false S).to Q)
theorem Res.to_test {α : Type} {r : Res W} {f : Bool → Store → Res α} {Q : α → Store → Prop} (h : r.to fun w S => ways w S f Q) : (r.test f).to Q := by
  cases r with
  | ok a S =>
    obtain ⟨c, e, h1, h2⟩ := h
    subst e
    cases c with
    | true => exact h1 rfl
    | false => exact h2 rfl
  | ex c S => exact h.elim
  | stuck => exact h.elim
def br (w : W) (A B : Prop) : Prop := ∃ c, w = .d (.bool c) ∧ (c = true → A) ∧ (c = false → B)
theorem br_mk {c : Bool} {A B : Prop} (h1 : c = true → A) (h2 : c = false → B) : br (.d (.bool c)) A B := ⟨c, rfl, h1, h2⟩
def boQ (w : W) (k : Bool → Prop) : Prop := ∃ c, w = .d (.bool c) ∧ k c
theorem boQ_mk {c : Bool} {k : Bool → Prop} (h : k c) : boQ (.d (.bool c)) k := ⟨c, rfl, h⟩
def inQ (w : W) (k : Int → Prop) : Prop := ∃ c, w = .d (.int c) ∧ k c
theorem inQ_mk {c : Int} {k : Int → Prop} (h : k c) : inQ (.d (.int c)) k := ⟨c, rfl, h⟩
def daQ (ws : List W) (k : List D → Prop) : Prop := ∃ xs, dataOf ws = some xs ∧ fits xs.length = true ∧ k xs
theorem daQ_mk {ws : List W} {xs : List D} {k : List D → Prop} (h1 : dataOf ws = some xs) (h2 : fits xs.length = true) (h : k xs) : daQ ws k := ⟨xs, h1, h2, h⟩
theorem da_nil : dataOf [] = some [] := rfl
theorem da_cons {x : D} {ws : List W} {xs : List D} (h : dataOf ws = some xs) : dataOf (.d x :: ws) = some (x :: xs) := by
  show (dataOf ws).map (x :: ·) = _
  rw [h]; rfl
def p2Q (ws : List W) (k : W → W → Prop) : Prop := ∃ w u, ws = [w, u] ∧ k w u
theorem p2Q_mk {w u : W} {k : W → W → Prop} (h : k w u) : p2Q [w, u] k := ⟨w, u, rfl, h⟩
def sqQ (S : Store) (w : W) (k : List D → Prop) : Prop := ∃ xs, (toD S w).bind seqD = some xs ∧ k xs
theorem sqQ_l {S : Store} {xs : List D} {k : List D → Prop} (h : k xs) : sqQ S (.d (.list xs)) k := ⟨xs, rfl, h⟩
theorem sqQ_t {S : Store} {xs : List D} {k : List D → Prop} (h : k xs) : sqQ S (.d (.tuple xs)) k := ⟨xs, rfl, h⟩
theorem sqQ_r {S : Store} {i : Nat} {xs : List D} {k : List D → Prop} (e : S[i]? = some (.list xs)) (h : k xs) : sqQ S (.r i) k := ⟨xs, by simp only [toD, e]; rfl, h⟩
def ixQ (xs : List D) (i : Int) (k : D → Prop) : Prop := ∃ v, L2.atI xs i = some v ∧ k v
theorem ixQ_mk {xs : List D} {i : Int} {v : D} {k : D → Prop} (h1 : L2.atI xs i = some v) (h : k v) : ixQ xs i k := ⟨v, h1, h⟩
def dtQ (S : Store) (w : W) (k : D → Prop) : Prop := ∃ d, toD S w = some d ∧ k d
theorem dtQ_d {S : Store} {x : D} {k : D → Prop} (h : k x) : dtQ S (.d x) k := ⟨x, rfl, h⟩
theorem dtQ_r {S : Store} {i : Nat} {xs : List D} {k : D → Prop} (e : S[i]? = some (.list xs)) (h : k (.list xs)) : dtQ S (.r i) k := ⟨_, by simp only [toD, e], h⟩
def asQ (w : W) (ls : Loc) (js : List Nat) (k : Loc → Prop) : Prop := ∃ xs l, w = .d (.tuple xs) ∧ setAll ls js xs = some l ∧ k l
theorem asQ_mk {xs : List D} {l ls : Loc} {js : List Nat} {k : Loc → Prop} (h1 : setAll ls js xs = some l) (h : k l) : asQ (.d (.tuple xs)) ls js k := ⟨xs, l, rfl, h1, h⟩
def rgQ (w : W) (k : List D → Prop) : Prop := ∃ j, w = .d (.int j) ∧ -(2 ^ 62) ≤ j ∧ j < 2 ^ 62 ∧ k ((List.range j.toNat).map fun i => .int (i : Nat))
theorem rgQ_mk {j : Int} {k : List D → Prop} (h1 : -4611686018427387904 ≤ j) (h2 : j < 4611686018427387904) (h : k ((List.range j.toNat).map fun i => .int (i : Nat))) : rgQ (.d (.int j)) k := ⟨j, rfl, by simpa using h1, by simpa using h2, h⟩
def sdQ (w : W) (k : List D → Prop) : Prop := ∃ x xs, w = .d x ∧ seqD x = some xs ∧ k xs
theorem sdQ_l {xs : List D} {k : List D → Prop} (h : k xs) : sdQ (.d (.list xs)) k := ⟨_, xs, rfl, rfl, h⟩
theorem sdQ_t {xs : List D} {k : List D → Prop} (h : k xs) : sdQ (.d (.tuple xs)) k := ⟨_, xs, rfl, rfl, h⟩
theorem get_set {S : Store} {i : Nat} {o u : SO} (h : S[i]? = some o) : (S.set i u)[i]? = some u := List.getElem?_set_self (List.getElem?_eq_some_iff.mp h).1
theorem small_r {i j : Int} (h : small j = true) : (small i || small j) = true := by rw [h, Bool.or_true]
theorem small_l {i j : Int} (h : small i = true) : (small i || small j) = true := by rw [h, Bool.true_or]
theorem small_of {i : Int} (h1 : -18446744073709551616 < i) (h2 : i < 18446744073709551616) : small i = true := by
  unfold small
  have e1 : decide (-(2 ^ 64) < i) = true := decide_eq_true (by simpa using h1)
  have e2 : decide (i < 2 ^ 64) = true := decide_eq_true (by simpa using h2)
  rw [e1, e2]; rfl
theorem fits_of {n : Nat} (h : n ≤ 1000) : fits n = true := decide_eq_true (Nat.le_trans h (by decide))
theorem rng_get {n j : Nat} {x : D} (h : ((List.range n).map fun i => PyData.int (i : Nat))[j]? = some x) : x = .int (j : Nat) ∧ j < n := by
  rw [List.getElem?_map] at h
  cases e : (List.range n)[j]? with
  | none => rw [e] at h; cases h
  | some i =>
    rw [e] at h
    obtain ⟨h1, h2⟩ := List.getElem?_eq_some_iff.mp e
    rw [List.getElem_range] at h2
    rw [List.length_range] at h1
    subst h2
    cases h
    exact ⟨rfl, h1⟩
theorem get_end {S : Store} {o : SO} : (S ++ [o])[S.length]? = some o := by
  rw [List.getElem?_append_right (Nat.le_refl _), Nat.sub_self]; rfl
theorem set_self {S : Store} {i : Nat} {o : SO} (h : S[i]? = some o) : S = S.set i o := by
  obtain ⟨hl, e⟩ := List.getElem?_eq_some_iff.mp h
  rw [← e, List.set_getElem_self]
def foQ {α : Type} (xs : List α) (ls : Loc) (S : Store) (step : α → Loc → Store → (Loc → Store → Prop) → Prop) (fin : Loc → Store → Prop) : Prop :=
  ∃ I : Nat → Loc → Store → Prop, I 0 ls S ∧ (∀ (j : Nat) (x : α), xs[j]? = some x → ∀ ls S, I j ls S → step x ls S (I (j + 1))) ∧ ∀ ls S, I xs.length ls S → fin ls S
theorem foQ_mk {α : Type} {xs : List α} {ls : Loc} {S : Store} {step : α → Loc → Store → (Loc → Store → Prop) → Prop} {fin : Loc → Store → Prop} (I : Nat → Loc → Store → Prop) (h0 : I 0 ls S) (h1 : ∀ (j : Nat) (x : α), xs[j]? = some x → ∀ ls S, I j ls S → step x ls S (I (j + 1))) (h2 : ∀ ls S, I xs.length ls S → fin ls S) : foQ xs ls S step fin := ⟨I, h0, h1, h2⟩
def bnQ (o : Option Loc) (k : Loc → Prop) : Prop := ∃ l, o = some l ∧ k l
theorem bnQ_mk {o : Option Loc} {l : Loc} {k : Loc → Prop} (h1 : o = some l) (h : k l) : bnQ o k := ⟨l, h1, h⟩

section
variable {call : Call} {ls : Loc} {S : Store} {Q : W → Store → Prop} {a b c : E} {F : Nat}
theorem n_var {j : Nat} {w : W} (h : ls[j]? = some (some w)) (q : Q w S) : (evE call (.var j) ls S).to Q := by rw [evE, h]; exact q
theorem n_varE {j : Nat} (h : ∃ w, ls[j]? = some (some w) ∧ Q w S) : (evE call (.var j) ls S).to Q := by
  obtain ⟨w, h, q⟩ := h
  exact n_var h q
theorem n_cst {x : D} (q : Q (.d x) S) : (evE call (.cst x) ls S).to Q := by rw [evE]; exact q
theorem n_glb {x : Str} {v : D} (q : Q (.d v) S) : (evE call (.glb x v) ls S).to Q := by rw [evE]; exact q
theorem n_bin {op : BOp} (h : (evE call a ls S).to fun x S1 => (evE call b ls S1).to fun y S2 => (binW op x y S2).to Q) : (evE call (.bin op a b) ls S).to Q := by
  rw [evE]; exact Res.to_bind (h.mono fun _ _ h => Res.to_bind h)
theorem n_neg (h : (evE call a ls S).to fun x S1 => (negW x S1).to Q) : (evE call (.neg a) ls S).to Q := by rw [evE]; exact Res.to_bind h
theorem n_not (h : (evE call a ls S).to fun x S1 => boQ x fun c => Q (.d (.bool (!c))) S1) : (evE call (.nt a) ls S).to Q := by
  rw [evE]
  exact Res.to_bind (h.mono fun _ _ ⟨c, e, q⟩ => by subst e; exact q)
theorem n_and (h : (evE call a ls S).to fun w S1 => br w ((evE call b ls S1).to Q) (Q (.d (.bool false)) S1)) : (evE call (.and a b) ls S).to Q := by
  rw [evE]
  exact Res.to_test (h.mono fun _ _ ⟨c, e, q1, q2⟩ => ⟨c, e, fun z => q1 z, fun z => q2 z⟩)
theorem n_or (h : (evE call a ls S).to fun w S1 => br w (Q (.d (.bool true)) S1) ((evE call b ls S1).to Q)) : (evE call (.or a b) ls S).to Q := by
  rw [evE]
  exact Res.to_test (h.mono fun _ _ ⟨c, e, q1, q2⟩ => ⟨c, e, fun z => q1 z, fun z => q2 z⟩)
theorem n_cmp {op : COp} (h : (evE call a ls S).to fun x S1 => (evE call b ls S1).to fun y S2 => (cmpW op x y S2).to Q) : (evE call (.cmp op a b) ls S).to Q := by
  rw [evE]; exact Res.to_bind (h.mono fun _ _ h => Res.to_bind h)
theorem n_chn {o p : COp} (h : (evE call a ls S).to fun x S1 => (evE call b ls S1).to fun y S2 => (cmpW o x y S2).to fun w S3 => br w ((evE call c ls S3).to fun z S4 => (cmpW p y z S4).to Q) (Q (.d (.bool false)) S3)) : (evE call (.chn o p a b c) ls S).to Q := by
  rw [evE]
  exact Res.to_bind (h.mono fun _ _ h => Res.to_bind (h.mono fun _ _ h => Res.to_test (h.mono fun _ _ ⟨k, e, q1, q2⟩ => ⟨k, e, fun z => Res.to_bind (q1 z), fun z => q2 z⟩)))
theorem n_ife (h : (evE call a ls S).to fun w S1 => br w ((evE call b ls S1).to Q) ((evE call c ls S1).to Q)) : (evE call (.ife a b c) ls S).to Q := by
  rw [evE]
  exact Res.to_test (h.mono fun _ _ ⟨k, e, q1, q2⟩ => ⟨k, e, fun z => q1 z, fun z => q2 z⟩)
theorem n_tup (h : (evL call a ls S).to fun ws S1 => daQ ws fun xs => Q (.d (.tuple xs)) S1) : (evE call (.tup a) ls S).to Q := by
  rw [evE]
  exact Res.to_bind (h.mono fun _ _ ⟨xs, e, f, q⟩ => by unfold tupW; simp only [e, f, if_true]; exact q)
theorem n_lstF (h : (evL call a ls S).to fun ws S1 => daQ ws fun xs => Q (.d (.list xs)) S1) : (evE call (.lst false a) ls S).to Q := by
  rw [evE]
  exact Res.to_bind (h.mono fun _ _ ⟨xs, e, f, q⟩ => by unfold lstW newL; simp only [e, f, if_true]; exact q)
theorem n_lstT (h : (evL call a ls S).to fun ws S1 => daQ ws fun xs => Q (.r S1.length) (S1 ++ [.list xs])) : (evE call (.lst true a) ls S).to Q := by
  rw [evE]
  exact Res.to_bind (h.mono fun _ _ ⟨xs, e, f, q⟩ => by unfold lstW newL; simp only [e, f, if_true]; exact q)
theorem n_idx (h : (evE call a ls S).to fun x S1 => (evE call b ls S1).to fun y S2 => sqQ S2 x fun xs => inQ y fun i => ixQ xs i fun v => Q (.d v) S2) : (evE call (.idx a b) ls S).to Q := by
  rw [evE]
  refine Res.to_bind (h.mono fun _ _ h => Res.to_bind (h.mono fun _ _ ⟨xs, h1, i, h2, v, h3, q⟩ => ?_))
  subst h2
  unfold idxW
  simp only [h1, h3]
  exact q
theorem n_slcH (h : (evE call a ls S).to fun x S1 => (evE call b ls S1).to fun y S2 => inQ y fun i => (slcW x none (some i) S2).to Q) : (evE call (.slc false true a c b) ls S).to Q := by
  rw [evE]
  refine Res.to_bind (h.mono fun _ _ h => ?_)
  refine Res.to_bind (Res.to_ok (Res.to_bind ?_))
  exact Res.to_bind (h.mono fun _ _ ⟨i, e, q⟩ => by subst e; exact q)
theorem n_slcL (h : (evE call a ls S).to fun x S1 => (evE call b ls S1).to fun y S2 => inQ y fun i => (slcW x (some i) none S2).to Q) : (evE call (.slc true false a b c) ls S).to Q := by
  rw [evE]
  refine Res.to_bind (h.mono fun _ _ h => ?_)
  refine Res.to_bind (Res.to_bind (h.mono fun _ _ ⟨i, e, q⟩ => ?_))
  subst e
  exact Res.to_bind (Res.to_ok q)
theorem n_call {f : Nat} (h : (evL call a ls S).to fun ws S1 => (call f ws S1).to Q) : (evE call (.call f a) ls S).to Q := by rw [evE]; exact Res.to_bind h
theorem n_blt {f : Blt} (h : (evL call a ls S).to fun ws S1 => (bltW f ws S1).to Q) : (evE call (.blt f a) ls S).to Q := by rw [evE]; exact Res.to_bind h
theorem n_cpy {m : Bool} (h : (evE call a ls S).to fun x S1 => sqQ S1 x fun xs => (newL m xs S1).to Q) : (evE call (.cpy m a) ls S).to Q := by
  rw [evE]
  exact Res.to_bind (h.mono fun _ _ ⟨xs, e, q⟩ => by unfold cpyW; simp only [e]; exact q)
theorem n_isi {ty : Ty} (h : (evE call a ls S).to fun x S1 => dtQ S1 x fun d => Q (.d (.bool (tyD ty d))) S1) : (evE call (.isi ty a) ls S).to Q := by
  rw [evE]
  exact Res.to_bind (h.mono fun _ _ ⟨d, e, q⟩ => by unfold isiW; simp only [e]; exact q)
theorem n_nil {Q : List W → Store → Prop} (q : Q [] S) : (evL call .nil ls S).to Q := by rw [evL]; exact q
theorem n_cons {Q : List W → Store → Prop} (h : (evE call a ls S).to fun w S1 => (evL call b ls S1).to fun ws S2 => Q (w :: ws) S2) : (evL call (.cons a b) ls S).to Q := by
  rw [evL]; exact Res.to_bind (h.mono fun _ _ h => Res.to_bind (h.mono fun _ _ q => q))
theorem o_newF {xs : List D} (q : Q (.d (.list xs)) S) : (newL false xs S).to Q := q
theorem o_addI {i j : Int} (q : Q (.d (.int (i + j))) S) : (binW .add (.d (.int i)) (.d (.int j)) S).to Q := q
theorem o_addT {xs ys : List D} (h : fits (xs.length + ys.length) = true) (q : Q (.d (.tuple (xs ++ ys))) S) : (binW .add (.d (.tuple xs)) (.d (.tuple ys)) S).to Q := by
  unfold binW; simp only [toD_d, binD, h, if_true]; exact q
theorem o_addL {xs ys : List D} (h : fits (xs.length + ys.length) = true) (q : Q (.d (.list (xs ++ ys))) S) : (binW .add (.d (.list xs)) (.d (.list ys)) S).to Q := by
  unfold binW; simp only [toD_d, binD, h, if_true]; exact q
theorem o_sub {i j : Int} (q : Q (.d (.int (i - j))) S) : (binW .sub (.d (.int i)) (.d (.int j)) S).to Q := q
theorem o_mul {i j : Int} (h : (small i || small j) = true) (q : Q (.d (.int (i * j))) S) : (binW .mul (.d (.int i)) (.d (.int j)) S).to Q := by
  unfold binW; simp only [toD_d, binD, h, if_true]; exact q
theorem o_fdiv {i j : Int} (h1 : 0 < j) (h2 : j < 1073741824) (q : Q (.d (.int (i / j))) S) : (binW .fdiv (.d (.int i)) (.d (.int j)) S).to Q := by
  unfold binW; simp only [toD_d, binD, h1, h2, decide_true, Bool.and_self, if_true]; exact q
theorem o_mod {i j : Int} (h1 : 0 < j) (q : Q (.d (.int (i % j))) S) : (binW .mod (.d (.int i)) (.d (.int j)) S).to Q := by
  unfold binW; simp only [toD_d, binD, h1, decide_true, if_true]; exact q
theorem o_pow {i j : Int} (h1 : (decide (0 ≤ j) && decide (j ≤ 1000000) && decide (i.natAbs < 2 ^ 64)) = true) (q : Q (.d (.int (i ^ j.toNat))) S) : (binW .pow (.d (.int i)) (.d (.int j)) S).to Q := by
  unfold binW; simp only [toD_d, binD, h1, if_true]; exact q
theorem o_neg {i : Int} (q : Q (.d (.int (-i))) S) : (negW (.d (.int i)) S).to Q := q
theorem o_lt {i j : Int} (q : Q (.d (.bool (decide (i < j)))) S) : (cmpW .lt (.d (.int i)) (.d (.int j)) S).to Q := q
theorem o_le {i j : Int} (q : Q (.d (.bool (decide (i ≤ j)))) S) : (cmpW .le (.d (.int i)) (.d (.int j)) S).to Q := q
theorem o_gt {i j : Int} (q : Q (.d (.bool (decide (j < i)))) S) : (cmpW .gt (.d (.int i)) (.d (.int j)) S).to Q := q
theorem o_ge {i j : Int} (q : Q (.d (.bool (decide (j ≤ i)))) S) : (cmpW .ge (.d (.int i)) (.d (.int j)) S).to Q := q
theorem o_eq {x y : D} (h : flat x = true) (q : Q (.d (.bool (PyData.eqv x y))) S) : (cmpW .eq (.d x) (.d y) S).to Q := by
  unfold cmpW
  have e : cmpD .eq x y = some (PyData.eqv x y) := by cases x <;> cases y <;> simp only [cmpD, h, if_true]
  simp only [toD_d, e]
  exact q
theorem o_ne {x y : D} (h : flat x = true) (q : Q (.d (.bool (!PyData.eqv x y))) S) : (cmpW .ne (.d x) (.d y) S).to Q := by
  unfold cmpW
  have e : cmpD .ne x y = some (!PyData.eqv x y) := by cases x <;> cases y <;> simp only [cmpD, h, if_true]
  simp only [toD_d, e]
  exact q
theorem o_inL {x : D} {ys : List D} (h : flat x = true) (q : Q (.d (.bool (memD x ys))) S) : (cmpW .isin (.d x) (.d (.list ys)) S).to Q := by
  unfold cmpW
  have e : cmpD .isin x (.list ys) = some (memD x ys) := by cases x <;> simp only [cmpD, h, if_true]
  simp only [toD_d, e]
  exact q
theorem o_inT {x : D} {ys : List D} (h : flat x = true) (q : Q (.d (.bool (memD x ys))) S) : (cmpW .isin (.d x) (.d (.tuple ys)) S).to Q := by
  unfold cmpW
  have e : cmpD .isin x (.tuple ys) = some (memD x ys) := by cases x <;> simp only [cmpD, h, if_true]
  simp only [toD_d, e]
  exact q
theorem o_notinL {x : D} {ys : List D} (h : flat x = true) (q : Q (.d (.bool (!memD x ys))) S) : (cmpW .notin (.d x) (.d (.list ys)) S).to Q := by
  unfold cmpW
  have e : cmpD .notin x (.list ys) = some (!memD x ys) := by cases x <;> simp only [cmpD, h, if_true]
  simp only [toD_d, e]
  exact q
theorem o_notinT {x : D} {ys : List D} (h : flat x = true) (q : Q (.d (.bool (!memD x ys))) S) : (cmpW .notin (.d x) (.d (.tuple ys)) S).to Q := by
  unfold cmpW
  have e : cmpD .notin x (.tuple ys) = some (!memD x ys) := by cases x <;> simp only [cmpD, h, if_true]
  simp only [toD_d, e]
  exact q
theorem o_slcT {xs : List D} {lo hi : Option Int} (q : Q (.d (.tuple (cutD xs lo hi))) S) : (slcW (.d (.tuple xs)) lo hi S).to Q := q
theorem o_slcL {xs : List D} {lo hi : Option Int} (q : Q (.d (.list (cutD xs lo hi))) S) : (slcW (.d (.list xs)) lo hi S).to Q := q
theorem o_lenT {xs : List D} (q : Q (.d (.int xs.length)) S) : (bltW .len [.d (.tuple xs)] S).to Q := q
theorem o_lenL {xs : List D} (q : Q (.d (.int xs.length)) S) : (bltW .len [.d (.list xs)] S).to Q := q
theorem o_abs {i : Int} (q : Q (.d (.int (if i < 0 then -i else i))) S) : (bltW .abs [.d (.int i)] S).to Q := q
theorem o_int {i : Int} (q : Q (.d (.int i)) S) : (bltW .int [.d (.int i)] S).to Q := q
theorem o_max2 {i j : Int} (q : Q (.d (.int (if j > i then j else i))) S) : (bltW .max2 [.d (.int i), .d (.int j)] S).to Q := q
theorem o_min2 {i j : Int} (q : Q (.d (.int (if j < i then j else i))) S) : (bltW .min2 [.d (.int i), .d (.int j)] S).to Q := q
end

section
variable {call : Call} {ls : Loc} {S : Store} {Q : Fl → Store → Prop} {e i v : E} {a b d : M} {F : Nat}
theorem m_skip (q : Q (.nx ls) S) : (exM call F .skip ls S).to Q := by rw [exM]; exact q
theorem m_seq (h : (exM call F a ls S).to fun f S1 => match f with
    | .nx l1 => (exM call F b l1 S1).to Q
    | .rt w => Q (.rt w) S1) : (exM call F (.seq a b) ls S).to Q := by
  rw [exM]
  refine Res.to_bind (h.mono fun f S1 h => ?_)
  cases f with
  | nx l => exact h
  | rt w => exact h
theorem m_asg {j : Nat} (h : (evE call e ls S).to fun w S1 => Q (.nx (ls.set j (some w))) S1) : (exM call F (.asg (.nm j) e) ls S).to Q := by
  rw [exM]
  exact Res.to_bind (h.mono fun _ _ h => h)
theorem m_asgT {js : List Nat} (h : (evE call e ls S).to fun w S1 => asQ w ls js fun l => Q (.nx l) S1) : (exM call F (.asg (.tp js) e) ls S).to Q := by
  rw [exM]
  refine Res.to_bind (h.mono fun _ _ ⟨xs, l, h1, h2, h⟩ => ?_)
  subst h1
  show (optR ((setAll ls js xs).map Fl.nx) _).to Q
  rw [h2]
  exact h
theorem m_par {lvs : List LV} (h : (evL call e ls S).to fun ws S1 => (asgAll call lvs ws ls S1).to fun l S2 => Q (.nx l) S2) : (exM call F (.par lvs e) ls S).to Q := by
  rw [exM]
  exact Res.to_bind (h.mono fun _ _ h => Res.to_bind (h.mono fun _ _ h => h))
theorem m_par2 {j k : Nat} (h : (evL call e ls S).to fun ws S1 => p2Q ws fun w u => Q (.nx ((ls.set j (some w)).set k (some u))) S1) : (exM call F (.par [.nm j, .nm k] e) ls S).to Q :=
  m_par (h.mono fun ws S1 ⟨w, u, e, q⟩ => by subst e; exact q)
theorem m_setx (h : (evE call v ls S).to fun w S1 => (evE call e ls S1).to fun x S2 => (evE call i ls S2).to fun y S3 => (setW x y w S3).to fun _ S4 => Q (.nx ls) S4) : (exM call F (.setx e i v) ls S).to Q := by
  rw [exM]
  exact Res.to_bind (h.mono fun _ _ h => Res.to_bind (h.mono fun _ _ h => Res.to_bind (h.mono fun _ _ h => Res.to_bind (h.mono fun _ _ h => h))))
theorem o_setw {Q : Unit → Store → Prop} {n p : Nat} {j : Int} {x : D} {xs : List D} (h : S[n]? = some (.list xs)) (hp : placeD xs.length j = some p) (q : Q () (S.set n (.list (xs.set p x)))) : (setW (.r n) (.d (.int j)) (.d x) S).to Q := by
  unfold setW
  simp only [h, hp]
  exact q
theorem m_iff (h : (evE call e ls S).to fun w S1 => br w ((exM call F a ls S1).to Q) ((exM call F b ls S1).to Q)) : (exM call F (.iff e a b) ls S).to Q := by
  rw [exM]
  exact Res.to_test (h.mono fun _ _ ⟨k, e, q1, q2⟩ => ⟨k, e, fun z => q1 z, fun z => q2 z⟩)
theorem m_ret (h : (evE call e ls S).to fun w S1 => Q (.rt w) S1) : (exM call F (.ret e) ls S).to Q := by rw [exM]; exact Res.to_bind (h.mono fun _ _ h => h)
theorem m_exp (h : (evE call e ls S).to fun _ S1 => Q (.nx ls) S1) : (exM call F (.exp e) ls S).to Q := by rw [exM]; exact Res.to_bind (h.mono fun _ _ h => h)
theorem for_to {bnd : D → Loc → Option Loc} {body : Loc → Store → Res Fl} (I : Nat → Loc → Store → Prop) : ∀ (xs : List D) (n : Nat) (ls : Loc) (S : Store),
    (∀ (j : Nat) (x : D), xs[j]? = some x → ∀ ls S, I (n + j) ls S → ∃ l, bnd x ls = some l ∧ (body l S).to fun f S' => match f with
      | .nx l' => I (n + j + 1) l' S'
      | .rt w => Q (.rt w) S') → I n ls S → (∀ ls S, I (n + xs.length) ls S → Q (.nx ls) S) → (forL bnd body xs ls S).to Q
  | [], n, ls, S, _, h, q => q ls S h
  | x :: xs, n, ls, S, hb, h, q => by
    obtain ⟨l, h1, h2⟩ := hb 0 x rfl ls S h
    unfold forL
    simp only [h1]
    refine Res.to_bind (h2.mono fun f S1 h3 => ?_)
    cases f with
    | rt w => exact h3
    | nx l1 =>
      refine for_to I xs (n + 1) l1 S1 (fun j y hy ls S hI => ?_) h3 fun ls S hI => q ls S ?_
      · have := hb (j + 1) y (by simpa using hy) ls S (by rw [show n + (j + 1) = n + 1 + j by omega]; exact hI)
        rw [show n + (j + 1) + 1 = n + 1 + j + 1 by omega] at this
        exact this
      · rw [show n + (x :: xs).length = n + 1 + xs.length by rw [List.length_cons]; omega]
        exact hI
theorem m_for {tg : Tg} (h : (evI call e ls S).to fun xs S1 => foQ xs ls S1 (fun x ls S I => bnQ (bindD tg x ls) fun l => (exM call F a l S).to fun f S' => match f with
      | .nx l' => I l' S'
      | .rt w => Q (.rt w) S') fun ls S => Q (.nx ls) S) : (exM call F (.for tg e a) ls S).to Q := by
  rw [exM]
  refine Res.to_noex (Res.to_bind (h.mono fun xs S1 ⟨I, h0, hs, hq⟩ => ?_))
  refine for_to I xs 0 ls S1 (fun j x hx ls S hI => ?_) h0 (fun ls S hI => hq ls S (by rw [Nat.zero_add] at hI; exact hI))
  rw [Nat.zero_add] at hI ⊢
  exact hs j x hx ls S hI
theorem whl_to {test : Loc → Store → Res W} {body : Loc → Store → Res Fl} (I : Loc → Store → Prop) (μ : Loc → Store → Nat)
    (hs : ∀ ls S, I ls S → (test ls S).to fun w S1 => br w ((body ls S1).to fun f S2 => match f with
      | .nx l' => I l' S2 ∧ μ l' S2 < μ ls S
      | .rt w => Q (.rt w) S2) (Q (.nx ls) S1)) : ∀ (n : Nat) (ls : Loc) (S : Store), μ ls S < n → I ls S → (whlL test body n ls S).to Q
  | 0, _, _, h, _ => absurd h (Nat.not_lt_zero _)
  | n + 1, ls, S, h, hI => by
    unfold whlL
    refine Res.to_test ((hs ls S hI).mono fun w S1 ⟨b, e, h1, h2⟩ => ⟨b, e, fun z => ?_, fun z => h2 z⟩)
    refine Res.to_bind ((h1 z).mono fun f S2 h3 => ?_)
    cases f with
    | rt w => exact h3
    | nx l => exact whl_to I μ hs n l S2 (by have := h3.2; omega) h3.1
theorem m_whl (I : Loc → Store → Prop) (μ : Loc → Store → Nat) (h0 : I ls S) (hF : μ ls S < F)
    (hs : ∀ ls S, I ls S → (evE call e ls S).to fun w S1 => br w ((exM call F a ls S1).to fun f S2 => match f with
      | .nx l' => I l' S2 ∧ μ l' S2 < μ ls S
      | .rt w => Q (.rt w) S2) (Q (.nx ls) S1)) : (exM call F (.whl e a) ls S).to Q := by
  rw [exM]
  exact Res.to_noex (whl_to I μ hs F ls S hF h0)
variable {QI : List D → Store → Prop}
theorem i_seqL (h : (evE call e ls S).to fun w S1 => sdQ w fun xs => QI xs S1) : (evI call (.iseq e) ls S).to QI := by
  rw [evI]
  refine Res.to_bind (h.mono fun w S1 ⟨x, xs, h1, h2, q⟩ => ?_)
  subst h1
  show (optR (seqD x) S1).to QI
  rw [h2]
  exact q
theorem i_rng (h : (evE call e ls S).to fun w S1 => rgQ w fun xs => QI xs S1) : (evI call (.irng1 e) ls S).to QI := by
  rw [evI]
  refine Res.to_bind (h.mono fun w S1 ⟨j, h1, h2, h3, q⟩ => ?_)
  subst h1
  have e : (decide (-(2 ^ 62) ≤ j) && decide (j < 2 ^ 62)) = true := by simp only [h2, h3, decide_true, Bool.and_self]
  simp only [e, if_true]
  exact q
theorem p_call {PD : List Def} {k f : Nat} {d : Def} {ws : List W} {Q : W → Store → Prop} (h : PD[f]? = some d) (hl : ws.length = d.ps) (hb : (exM (callP PD F k) F d.body (startL d.n ws) S).to fun f S' => (leave S.length (.ok f S')).to Q) : (callP PD F (k + 1) f ws S).to Q := by
  show (match PD[f]? with | some d => if ws.length = d.ps then leave S.length (exM (callP PD F k) F d.body (startL d.n ws) S) else .stuck | none => keepP (callP PD F k) F PD f ws S : Res W).to Q
  rw [h]
  simp only [hl, if_true]
  obtain ⟨f', S', e, q⟩ := hb.ex
  rw [e]
  exact q
theorem l_rt {n : Nat} {x : D} {S : Store} {Q : W → Store → Prop} (h : S.length = n) (q : Q (.d x) S) : (leave n (.ok (.rt (.d x)) S)).to Q := by
  show Q (.d x) (S.take n)
  rw [← h, List.take_length]
  exact q
theorem l_rt0 {n : Nat} {x : D} {S : Store} {Q : W → Store → Prop} (q : Q (.d x) (S.take n)) : (leave n (.ok (.rt (.d x)) S)).to Q := q
theorem l_nw {n : Nat} {o : SO} {S : Store} {Q : W → Store → Prop} (h : S.length = n) (q : Q (.r n) (S ++ [o])) (ho : isA o = false := by rfl) : (leave n (.ok (.rt (.r n)) (S ++ [o]))).to Q := by
  subst h
  have e : leave S.length (.ok (.rt (.r S.length)) (S ++ [o])) = .ok (.r S.length) (S ++ [o]) := by
    unfold leave
    simp only [Nat.lt_irrefl, if_false, List.getElem?_append_right (Nat.le_refl _), Nat.sub_self, List.getElem?_cons_zero, List.take_left, ho]
    rfl
  rw [e]
  exact q
end
end MI

end S_MiN
section S_LcL
namespace Lc
def nx (s : Nat) : Nat := (s * 40014 + 77) % GM
theorem nx_st (v : Nat) : nx ((v + GS) % GM) = (40014 * v + GS) % GM := by
  unfold nx
  have h : ((v + GS) % GM * 40014 + 77) % GM = ((v + GS) * 40014 + 77) % GM := by
    rw [Nat.add_mod, Nat.mod_mul_mod, ← Nat.add_mod]
  rw [h]
  have e : (v + GS) * 40014 + 77 = 40014 * v + GS + 31361 * GM := by
    simp only [GS, GM]
    omega
  rw [e, Nat.add_mul_mod_self_right]
def nxs : Nat → Nat → Nat
  | 0, s => s
  | n + 1, s => nxs n (nx s)
theorem nxs_st : ∀ (n v : Nat), nxs n ((v + GS) % GM) = (40014 ^ n * v + GS) % GM
  | 0, v => by rw [nxs, Nat.pow_zero, Nat.one_mul]
  | n + 1, v => by
    rw [nxs, nx_st, nxs_st n, Nat.pow_succ, Nat.mul_assoc]
theorem stS_pow (n u : Nat) : stS (40014 ^ n % GM) u = nxs n ((u + GS) % GM) := by
  rw [nxs_st]
  unfold stS
  rw [Nat.add_mod, Nat.mod_mul_mod, ← Nat.add_mod]
theorem turn_at (t u : Nat) : (u * B9 ^ t % GM + GS) % GM = nxs (9 * t) ((u + GS) % GM) := by
  rw [nxs_st, Nat.mul_comm u, ← Nat.mod_mul_mod, b9_pow, Nat.mod_mul_mod, Nat.add_mod, Nat.mod_mod, ← Nat.add_mod]
end Lc

end S_LcL
section S_LcM
namespace Lc
def gapN (v : Nat) : Nat := if v < 2 then 1 else if v < 4 then 2 else 3
def evN (v : Nat) : Nat := if v < 2 then 0 else v - 1
def sizeN (g e l hi ro ev : Nat) : Nat := g * hi * (ev + 1) * 2 ^ ((e + l) / g + 1) * (2 * ((e + l) / g + 1) + 3) ^ ro
def tsize (s : Nat) : Nat := sizeN (gapN (outS (nxs 1 s) % 5)) (outS (nxs 3 s) % 3) (outS (nxs 4 s) % 3) (1 + outS (nxs 2 s) % 3) (1 + outS (nxs 7 s) % 2) (evN (outS (nxs 8 s) % 4))
def chkS (wt wr wv K L : Nat) : Bool := (List.range 5).all fun g => (List.range 3).all fun e => (List.range 3).all fun l => (List.range 3).all fun hi => (List.range 2).all fun ro => (List.range 4).all fun d =>
  !(decide (wt * (e + l) + wr * ro + wv * d ≤ K)) || decide (sizeN (gapN g) e l (1 + hi) (1 + ro) (evN d) ≤ L)
theorem small_of_good {wt wr wv K L : Nat} (h : chkS wt wr wv K L = true) {u : Nat} (hg : scoreS wt wr wv K3 K4 K7 K8 u ≤ K) : tsize ((u + GS) % GM) ≤ L := by
  unfold scoreS at hg
  have e3 : stS K3 u = nxs 3 ((u + GS) % GM) := stS_pow 3 u
  have e4 : stS K4 u = nxs 4 ((u + GS) % GM) := stS_pow 4 u
  have e7 : stS K7 u = nxs 7 ((u + GS) % GM) := stS_pow 7 u
  have e8 : stS K8 u = nxs 8 ((u + GS) % GM) := stS_pow 8 u
  rw [e3, e4, e7, e8] at hg
  unfold chkS at h
  simp only [List.all_eq_true, List.mem_range] at h
  generalize (u + GS) % GM = s at hg
  have := h (outS (nxs 1 s) % 5) (Nat.mod_lt _ (by decide)) (outS (nxs 3 s) % 3) (Nat.mod_lt _ (by decide)) (outS (nxs 4 s) % 3) (Nat.mod_lt _ (by decide)) (outS (nxs 2 s) % 3) (Nat.mod_lt _ (by decide)) (outS (nxs 7 s) % 2) (Nat.mod_lt _ (by decide)) (outS (nxs 8 s) % 4) (Nat.mod_lt _ (by decide))
  simp only [decide_eq_true hg, Bool.not_true, Bool.false_or, decide_eq_true_eq] at this
  unfold tsize
  exact this
theorem chk26 : chkS 2 5 1 10 3000 = true := by decide +kernel
theorem good26 {u : Nat} (h : good q26 u) : tsize ((u + GS) % GM) ≤ 3000 := small_of_good chk26 h
theorem fix_size : tsize GS = 504 := by decide +kernel
theorem soon {q : Prm} {L : Nat} (hL : 504 ≤ L) (ht : 0 < q.T) (hg : ∀ {u}, good q u → tsize ((u + GS) % GM) ≤ L) (cover : ∀ u, 0 < u → u < GM → ∃ t, t < q.T ∧ good q (u * B9 ^ t % GM)) (s : Nat) (hs : s < GM) : ∃ t, t < q.T ∧ tsize (nxs (9 * t) s) ≤ L := by
  by_cases c : s = GS
  · exact ⟨0, ht, by rw [c, Nat.mul_zero, nxs, fix_size]; exact hL⟩
  · have hs2 : ((s + (GM - GS)) % GM + GS) % GM = s := by
      simp only [GM, GS] at hs ⊢
      omega
    obtain ⟨t, t1, t2⟩ := cover ((s + (GM - GS)) % GM) (by simp only [GM, GS] at hs c ⊢; omega) (Nat.mod_lt _ (by decide))
    refine ⟨t, t1, ?_⟩
    have := hg t2
    rw [turn_at, hs2] at this
    exact this
end Lc

end S_LcM
local macro_rules | `(tactic| wtm_at "vmi_g_to_g_evE") => `(tactic| (with_reducible refine MI.n_cpy ?_))
local macro_rules | `(tactic| wtm_at "vmi_g_to_g_evE") => `(tactic| (with_reducible refine MI.n_slcL ?_))
local macro_rules | `(tactic| wtm_at "vmi_g_to_g_evE") => `(tactic| (with_reducible refine MI.n_slcH ?_))
local macro_rules | `(tactic| wtm_at "vmi_g_to_g_evE") => `(tactic| (with_reducible refine MI.n_chn ?_))
local macro_rules | `(tactic| wtm_at "vmi_g_to_g_evE") => `(tactic| (with_reducible refine MI.n_glb ?_))
local macro_rules | `(tactic| wtm_at "vmi_g_to_g_evE") => `(tactic| (with_reducible refine MI.n_lstT ?_))
local macro_rules | `(tactic| wtm_at "vmi_g_to_g_evE") => `(tactic| (with_reducible refine MI.n_lstF ?_))
local macro_rules | `(tactic| wtm_at "vmi_g_to_g_evE") => `(tactic| (with_reducible refine MI.n_isi ?_))
local macro_rules | `(tactic| wtm_at "vmi_g_to_g_evE") => `(tactic| (with_reducible refine MI.n_neg ?_))
local macro_rules | `(tactic| wtm_at "vmi_g_to_g_evE") => `(tactic| (with_reducible refine MI.n_ife ?_))
local macro_rules | `(tactic| wtm_at "vmi_g_to_g_evE") => `(tactic| (with_reducible refine MI.n_not ?_))
local macro_rules | `(tactic| wtm_at "vmi_g_to_g_evE") => `(tactic| (with_reducible refine MI.n_or ?_))
local macro_rules | `(tactic| wtm_at "vmi_g_to_g_evE") => `(tactic| (with_reducible refine MI.n_and ?_))
local macro_rules | `(tactic| wtm_at "vmi_g_to_g_evE") => `(tactic| (with_reducible refine MI.n_blt ?_))
local macro_rules | `(tactic| wtm_at "vmi_g_to_g_evE") => `(tactic| (with_reducible refine MI.n_tup ?_))
local macro_rules | `(tactic| wtm_at "vmi_g_to_g_evE") => `(tactic| (with_reducible refine MI.n_bin ?_))
local macro_rules | `(tactic| wtm_at "vmi_g_to_g_evE") => `(tactic| (with_reducible refine MI.n_cmp ?_))
local macro_rules | `(tactic| wtm_at "vmi_g_to_g_evE") => `(tactic| (with_reducible refine MI.n_call ?_))
local macro_rules | `(tactic| wtm_at "vmi_g_to_g_evE") => `(tactic| (with_reducible refine MI.n_idx ?_))
local macro_rules | `(tactic| wtm_at "vmi_g_to_g_evE") => `(tactic| (with_reducible refine MI.n_cst ?_))
local macro_rules | `(tactic| wtm_at "vmi_g_to_g_evE") => `(tactic| ((with_reducible refine MI.n_varE ?_); refine ⟨_, rfl, ?_⟩))
local macro_rules | `(tactic| wtm_at "vmi_g_to_g_evL") => `(tactic| (with_reducible refine MI.n_cons ?_))
local macro_rules | `(tactic| wtm_at "vmi_g_to_g_evL") => `(tactic| (with_reducible refine MI.n_nil ?_))
local macro_rules | `(tactic| wtm_at "vmi_g_to_g_bin") => `(tactic| ((with_reducible refine' MI.o_pow ?h1 ?_); (case h1 => first | decide | assumption)))
local macro_rules | `(tactic| wtm_at "vmi_g_to_g_bin") => `(tactic| ((with_reducible refine' MI.o_fdiv ?h1 ?h2 ?_); (case h1 => first | assumption | decide); (case h2 => first | assumption | decide)))
local macro_rules | `(tactic| wtm_at "vmi_g_to_g_bin") => `(tactic| ((with_reducible refine' MI.o_mod ?h1 ?_); (case h1 => first | assumption | decide)))
local macro_rules | `(tactic| wtm_at "vmi_g_to_g_bin") => `(tactic| ((with_reducible refine' MI.o_mul ?h1 ?_); (case h1 => first | exact MI.small_r (by decide) | exact MI.small_l (by decide) | exact MI.small_l (MI.small_of (by omega) (by omega)) | exact MI.small_r (MI.small_of (by omega) (by omega)))))
local macro_rules | `(tactic| wtm_at "vmi_g_to_g_bin") => `(tactic| (with_reducible refine MI.o_sub ?_))
local macro_rules | `(tactic| wtm_at "vmi_g_to_g_bin") => `(tactic| ((with_reducible refine' MI.o_addL ?h1 ?_); (case h1 => first | rfl | decide | assumption)))
local macro_rules | `(tactic| wtm_at "vmi_g_to_g_bin") => `(tactic| ((with_reducible refine' MI.o_addT ?h1 ?_); (case h1 => first | rfl | decide | assumption)))
local macro_rules | `(tactic| wtm_at "vmi_g_to_g_bin") => `(tactic| (with_reducible refine MI.o_addI ?_))
local macro_rules | `(tactic| wtm_at "vmi_g_to_g_cmp") => `(tactic| ((with_reducible refine' MI.o_notinT ?h1 ?_); (case h1 => first | rfl | assumption)))
local macro_rules | `(tactic| wtm_at "vmi_g_to_g_cmp") => `(tactic| ((with_reducible refine' MI.o_notinL ?h1 ?_); (case h1 => first | rfl | assumption)))
local macro_rules | `(tactic| wtm_at "vmi_g_to_g_cmp") => `(tactic| ((with_reducible refine' MI.o_inT ?h1 ?_); (case h1 => first | rfl | assumption)))
local macro_rules | `(tactic| wtm_at "vmi_g_to_g_cmp") => `(tactic| ((with_reducible refine' MI.o_inL ?h1 ?_); (case h1 => first | rfl | assumption)))
local macro_rules | `(tactic| wtm_at "vmi_g_to_g_cmp") => `(tactic| ((with_reducible refine' MI.o_ne ?h1 ?_); (case h1 => first | rfl | assumption)))
local macro_rules | `(tactic| wtm_at "vmi_g_to_g_cmp") => `(tactic| ((with_reducible refine' MI.o_eq ?h1 ?_); (case h1 => first | rfl | assumption)))
local macro_rules | `(tactic| wtm_at "vmi_g_to_g_cmp") => `(tactic| (with_reducible refine MI.o_ge ?_))
local macro_rules | `(tactic| wtm_at "vmi_g_to_g_cmp") => `(tactic| (with_reducible refine MI.o_gt ?_))
local macro_rules | `(tactic| wtm_at "vmi_g_to_g_cmp") => `(tactic| (with_reducible refine MI.o_le ?_))
local macro_rules | `(tactic| wtm_at "vmi_g_to_g_cmp") => `(tactic| (with_reducible refine MI.o_lt ?_))
local macro_rules | `(tactic| wtm_at "vmi_g_to_g_blt") => `(tactic| (with_reducible refine MI.o_lenL ?_))
local macro_rules | `(tactic| wtm_at "vmi_g_to_g_blt") => `(tactic| (with_reducible refine MI.o_lenT ?_))
local macro_rules | `(tactic| wtm_at "vmi_g_to_g_blt") => `(tactic| (with_reducible refine MI.o_min2 ?_))
local macro_rules | `(tactic| wtm_at "vmi_g_to_g_blt") => `(tactic| (with_reducible refine MI.o_max2 ?_))
local macro_rules | `(tactic| wtm_at "vmi_g_to_g_blt") => `(tactic| (with_reducible refine MI.o_int ?_))
local macro_rules | `(tactic| wtm_at "vmi_g_to_g_blt") => `(tactic| (with_reducible refine MI.o_abs ?_))
local macro_rules | `(tactic| wtm_at "vmi_g_to_g_exM") => `(tactic| (with_reducible refine MI.m_par2 ?_))
local macro_rules | `(tactic| wtm_at "vmi_g_to_g_exM") => `(tactic| (with_reducible refine MI.m_asg ?_))
local macro_rules | `(tactic| wtm_at "vmi_g_to_g_exM") => `(tactic| (with_reducible refine MI.m_asgT ?_))
local macro_rules | `(tactic| wtm_at "vmi_g_to_g_exM") => `(tactic| (with_reducible refine MI.m_setx ?_))
local macro_rules | `(tactic| wtm_at "vmi_g_to_g_exM") => `(tactic| (with_reducible refine MI.m_skip ?_))
local macro_rules | `(tactic| wtm_at "vmi_g_to_g_exM") => `(tactic| (with_reducible refine MI.m_for ?_))
local macro_rules | `(tactic| wtm_at "vmi_g_to_g_exM") => `(tactic| (with_reducible refine MI.m_ret ?_))
local macro_rules | `(tactic| wtm_at "vmi_g_to_g_exM") => `(tactic| (with_reducible refine MI.m_iff ?_))
local macro_rules | `(tactic| wtm_at "vmi_g_to_g_exM") => `(tactic| (with_reducible refine MI.m_seq ?_))
local macro_rules | `(tactic| wtm_at "vmi_g_to_g_evI") => `(tactic| (with_reducible refine MI.i_seqL ?_))
local macro_rules | `(tactic| wtm_at "vmi_g_to_g_evI") => `(tactic| (with_reducible refine MI.i_rng ?_))
local macro_rules | `(tactic| wtm_at "vmi_g_to_g_lv") => `(tactic| ((with_reducible refine' MI.l_rt ?h1 ?_); (case h1 => first | rfl | simp only [List.length_set])))
local macro_rules | `(tactic| wtm_at "vmi_g_to") => `(tactic| ((with_reducible refine' MI.o_setw ?h1 ?h2 ?_); (case h1 => first | assumption | exact MI.get_set (by assumption)); (case h2 => rfl)))
local macro_rules | `(tactic| wtm_at "vmi_g_to") => `(tactic| (with_reducible refine MI.o_slcT ?_))
local macro_rules | `(tactic| wtm_at "vmi_g_to") => `(tactic| (with_reducible refine MI.o_neg ?_))
local macro_rules | `(tactic| wtm_at "vmi_g_to") => `(tactic| (with_reducible refine MI.o_newF ?_))
local macro_rules | `(tactic| wtm_at "vmi_g_to") => `(tactic| ((with_reducible refine MI.g_lv ?_); wtm_at "vmi_g_to_g_lv"))
local macro_rules | `(tactic| wtm_at "vmi_g_to") => `(tactic| ((with_reducible refine MI.g_evI ?_); wtm_at "vmi_g_to_g_evI"))
local macro_rules | `(tactic| wtm_at "vmi_g_to") => `(tactic| ((with_reducible refine MI.g_exM ?_); wtm_at "vmi_g_to_g_exM"))
local macro_rules | `(tactic| wtm_at "vmi_g_to") => `(tactic| ((with_reducible refine MI.g_blt ?_); wtm_at "vmi_g_to_g_blt"))
local macro_rules | `(tactic| wtm_at "vmi_g_to") => `(tactic| ((with_reducible refine MI.g_cmp ?_); wtm_at "vmi_g_to_g_cmp"))
local macro_rules | `(tactic| wtm_at "vmi_g_to") => `(tactic| ((with_reducible refine MI.g_bin ?_); wtm_at "vmi_g_to_g_bin"))
local macro_rules | `(tactic| wtm_at "vmi_g_to") => `(tactic| ((with_reducible refine MI.g_evL ?_); wtm_at "vmi_g_to_g_evL"))
local macro_rules | `(tactic| wtm_at "vmi_g_to") => `(tactic| ((with_reducible refine MI.g_evE ?_); wtm_at "vmi_g_to_g_evE"))
local macro_rules | `(tactic| wtm_at "vmi") => `(tactic| ((with_reducible refine' MI.bnQ_mk ?h1 ?_); (case h1 => rfl)))
local macro_rules | `(tactic| wtm_at "vmi") => `(tactic| (with_reducible refine MI.sdQ_t ?_))
local macro_rules | `(tactic| wtm_at "vmi") => `(tactic| (with_reducible refine MI.sdQ_l ?_))
local macro_rules | `(tactic| wtm_at "vmi") => `(tactic| ((with_reducible refine' MI.rgQ_mk ?h1 ?h2 ?_); (case h1 => first | assumption | decide | omega); (case h2 => first | assumption | decide | omega)))
local macro_rules | `(tactic| wtm_at "vmi") => `(tactic| ((with_reducible refine' MI.asQ_mk ?h1 ?_); (case h1 => rfl)))
local macro_rules | `(tactic| wtm_at "vmi") => `(tactic| ((with_reducible refine' MI.dtQ_r ?h1 ?_); (case h1 => first | assumption | exact MI.get_set (by assumption))))
local macro_rules | `(tactic| wtm_at "vmi") => `(tactic| (with_reducible refine MI.dtQ_d ?_))
local macro_rules | `(tactic| wtm_at "vmi") => `(tactic| ((with_reducible refine' MI.ixQ_mk ?h1 ?_); (case h1 => first | rfl | assumption)))
local macro_rules | `(tactic| wtm_at "vmi") => `(tactic| ((with_reducible refine' MI.sqQ_r ?h1 ?_); (case h1 => first | assumption | exact MI.get_set (by assumption))))
local macro_rules | `(tactic| wtm_at "vmi") => `(tactic| (with_reducible refine MI.sqQ_t ?_))
local macro_rules | `(tactic| wtm_at "vmi") => `(tactic| (with_reducible refine MI.sqQ_l ?_))
local macro_rules | `(tactic| wtm_at "vmi") => `(tactic| (with_reducible refine MI.p2Q_mk ?_))
local macro_rules | `(tactic| wtm_at "vmi") => `(tactic| ((with_reducible refine' MI.daQ_mk ?h1 ?h2 ?_); (case h1 => repeat (first | exact MI.da_nil | apply MI.da_cons)); (case h2 => first | rfl | decide)))
local macro_rules | `(tactic| wtm_at "vmi") => `(tactic| (with_reducible refine MI.inQ_mk ?_))
local macro_rules | `(tactic| wtm_at "vmi") => `(tactic| (with_reducible refine MI.boQ_mk ?_))
local macro_rules | `(tactic| wtm_at "vmi") => `(tactic| ((with_reducible refine MI.br_mk ?_ ?_) <;> intro hc <;> try (cases hc; done)))
local macro_rules | `(tactic| wtm_at "vmi") => `(tactic| ((with_reducible refine MI.g_to ?_); wtm_at "vmi_g_to"))

section S_HoA
namespace TX
open PySem MI
local macro_rules | `(tactic| wtm_at "mi") => `(tactic| first | wtm_at "vmi" | fail)

abbrev srcO (p : Int × Int) : SO := .list [.int p.1, .int p.2]
def dr (p : Int × Int) (m : Int) : Int × (Int × Int) :=
  if 0 < p.1 then (p.1 % m, (p.1 / m, p.2))
  else
    let s := (p.2 * 40014 + 77) % 2147483563
    ((s * (s / 5 + 1)) % 2147483399 / 8 % m, (p.1, s))
theorem draw_to {F k i : Nat} {S : Store} {p : Int × Int} {m : Int} {Q : W → Store → Prop} (h : S[i]? = some (srcO p)) (h1 : 0 < m) (h2 : m < 1073741824) (q : Q (.d (.int (dr p m).1)) (S.set i (srcO (dr p m).2))) :
    (callP PD F (k + 1) 1 [.r i, .d (.int m)] S).to Q := by
  refine p_call pd1 rfl ?_
  show (exM _ F m1 (startL 4 _) S).to _
  unfold m1
  repeat' wtm_at "mi"
  · rename_i hc
    have c := of_decide_eq_true hc
    unfold dr at q
    rw [if_pos c] at q
    exact q
  · rename_i hc
    have c := of_decide_eq_false hc
    unfold dr at q
    rw [if_neg c] at q
    exact q
theorem dr_range {p : Int × Int} {m : Int} (h : 0 < m) : 0 ≤ (dr p m).1 ∧ (dr p m).1 < m := by
  unfold dr
  split
  · exact ⟨Int.emod_nonneg _ (by omega), Int.emod_lt_of_pos _ h⟩
  · exact ⟨Int.emod_nonneg _ (by omega), Int.emod_lt_of_pos _ h⟩
theorem dr_le {p : Int × Int} {m : Int} (h : 0 < m) (hp : 0 ≤ p.1) : 0 ≤ (dr p m).2.1 ∧ (dr p m).2.1 ≤ p.1 := by
  unfold dr
  split
  · exact ⟨Int.ediv_nonneg hp (by omega), Int.ediv_le_self _ hp⟩
  · exact ⟨hp, Int.le_refl _⟩
theorem dr_lt {p : Int × Int} {m : Int} (h : 1 < m) (hp : 0 < p.1) : (dr p m).2.1 < p.1 := by
  unfold dr
  rw [if_pos hp]
  exact Int.ediv_lt_of_lt_mul (by omega) (by have := Int.mul_lt_mul_of_pos_left h hp; omega)
theorem dr_st {p : Int × Int} {m : Int} (h1 : 0 ≤ p.2) (h2 : p.2 < 2147483563) : 0 ≤ (dr p m).2.2 ∧ (dr p m).2.2 < 2147483563 := by
  unfold dr
  split
  · exact ⟨h1, h2⟩
  · exact ⟨Int.emod_nonneg _ (by omega), Int.emod_lt_of_pos _ (by omega)⟩
structure Src (p : Int × Int) : Prop where
  p1 : 0 ≤ p.1
  s0 : 0 ≤ p.2
  s1 : p.2 < 2147483563
theorem Src.dr {p : Int × Int} (h : Src p) {m : Int} (hm : 0 < m) : Src (dr p m).2 := ⟨(dr_le hm h.p1).1, (dr_st h.s0 h.s1).1, (dr_st h.s0 h.s1).2⟩
theorem atI_ok {α : Type} {xs : List α} {i : Int} (h0 : 0 ≤ i) (h1 : i < xs.length) : ∃ v ∈ xs, L2.atI xs i = some v := by
  unfold L2.atI L2.ixN
  rw [if_pos h0, if_pos h1]
  have hl : i.toNat < xs.length := by omega
  exact ⟨xs[i.toNat], List.getElem_mem hl, by simp [hl]⟩
theorem choiceX {F k i : Nat} {S : Store} {p : Int × Int} {xs : List D} {Q : W → Store → Prop} (h : S[i]? = some (srcO p)) (h1 : 0 < xs.length) (h2 : xs.length < 1073741824)
    (q : ∀ v ∈ xs, L2.atI xs (dr p xs.length).1 = some v → Q (.d v) (S.set i (srcO (dr p xs.length).2))) :
    (callP PD F (k + 2) 2 [.r i, .d (.list xs)] S).to Q := by
  refine p_call pd2 rfl ?_
  show (exM _ F m2 (startL 2 _) S).to _
  unfold m2
  repeat' wtm_at "mi"
  refine draw_to h (by omega) (by omega) ?_
  obtain ⟨r1, r2⟩ := dr_range (p := p) (m := xs.length) (by omega)
  obtain ⟨v, hv, e⟩ := atI_ok r1 r2
  repeat' wtm_at "mi"
  exact q v hv e
theorem draw3 {F k i : Nat} {S : Store} {p p0 : Int × Int} {m : Int} {Q : W → Store → Prop} (h : S[i]? = some (srcO p0)) (h1 : 0 < m) (h2 : m < 1073741824) (q : Q (.d (.int (dr p m).1)) (S.set i (srcO (dr p m).2))) : (callP PD F (k + 1) 1 [.r i, .d (.int m)] (S.set i (srcO p))).to Q := by
  refine draw_to (get_set h) h1 h2 ?_
  rw [List.set_set]
  exact q
theorem choice3 {F k i : Nat} {S : Store} {p p0 : Int × Int} {xs : List D} {Q : W → Store → Prop} (h : S[i]? = some (srcO p0)) (h1 : 0 < xs.length) (h2 : xs.length < 1073741824)
    (q : ∀ v ∈ xs, L2.atI xs (dr p xs.length).1 = some v → Q (.d v) (S.set i (srcO (dr p xs.length).2))) : (callP PD F (k + 2) 2 [.r i, .d (.list xs)] (S.set i (srcO p))).to Q := by
  refine choiceX (get_set h) h1 h2 fun v hv e => ?_
  rw [List.set_set]
  exact q v hv e
def manyF (g e l : Int) : Int := (e + l) / g + 1
def sizeF (g e l hi ro ev : Int) : Int := g * hi * (ev + 1) * 2 ^ (manyF g e l).toNat * (2 * manyF g e l + 3) ^ ro.toNat
theorem many_range {g e l : Int} (hg : 1 ≤ g) (h1 : 0 ≤ e) (h2 : e ≤ 3) (h3 : 0 ≤ l) (h4 : l ≤ 3) : 1 ≤ manyF g e l ∧ manyF g e l ≤ 7 := by
  unfold manyF
  have a := Int.ediv_nonneg (a := e + l) (b := g) (by omega) (by omega)
  have b := Int.ediv_le_self g (a := e + l) (by omega)
  omega
theorem law_size_to {F k : Nat} {S : Store} {g e l hi ro ev : Int} {lo od ah : D} {Q : W → Store → Prop} (hg : 1 ≤ g) (hg2 : g ≤ 4) (h1 : 0 ≤ e) (h2 : e ≤ 3) (h3 : 0 ≤ l) (h4 : l ≤ 3) (h5 : 1 ≤ hi) (h6 : hi ≤ 4) (h7 : 0 ≤ ro) (h8 : ro ≤ 1000) (h9 : 0 ≤ ev) (h10 : ev ≤ 2)
    (q : Q (.d (.int (sizeF g e l hi ro ev))) S) : (callP PD F (k + 1) 3 [.d (.tuple [.int g, .int e, .int l, lo, .int hi, .int ro, od, .int ev, ah])] S).to Q := by
  obtain ⟨m1, m2⟩ := many_range hg h1 h2 h3 h4
  have hg0 : 0 < g := by omega
  have hg3 : g < 1073741824 := by omega
  refine p_call pd3 rfl ?_
  show (exM _ F m3 (startL 4 _) S).to _
  unfold m3
  repeat' wtm_at "mi"
  have m1' : 1 ≤ (e + l) / g + 1 := m1
  have m2' : (e + l) / g + 1 ≤ 7 := m2
  refine rgQ_mk (by omega) (by omega) ?_
  refine foQ_mk (fun i ls S' => S' = S ∧ ∃ t, ls = [some (.d (.tuple [.int g, .int e, .int l, lo, .int hi, .int ro, od, .int ev, ah])), some (.d (.int (manyF g e l))), some (.d (.int (g * hi * (ev + 1) * 2 ^ i))), t]) ⟨rfl, none, by simp; rfl⟩ ?_ ?_
  · rintro j x hx ls S' ⟨rfl, t, rfl⟩
    repeat' wtm_at "mi"
    exact ⟨rfl, some (.d x), by simp [Int.pow_succ, Int.mul_assoc]⟩
  · rintro ls S' ⟨rfl, t, rfl⟩
    rw [List.length_map, List.length_range]
    repeat' wtm_at "mi"
    refine foQ_mk (fun i ls S'' => S'' = S' ∧ ∃ t, ls = [some (.d (.tuple [.int g, .int e, .int l, lo, .int hi, .int ro, od, .int ev, ah])), some (.d (.int (manyF g e l))), some (.d (.int (g * hi * (ev + 1) * 2 ^ (manyF g e l).toNat * (2 * manyF g e l + 3) ^ i))), t]) ⟨rfl, t, by simp; rfl⟩ ?_ ?_
    · rintro j x hx ls S'' ⟨rfl, t, rfl⟩
      repeat' wtm_at "mi"
      exact ⟨rfl, some (.d x), by simp [Int.pow_succ, Int.mul_assoc]⟩
    · rintro ls S'' ⟨rfl, t, rfl⟩
      rw [List.length_map, List.length_range]
      repeat' wtm_at "mi"
      exact q
def gapI (v : Int) : Int := (Lc.gapN v.toNat : Nat)
def evI (v : Int) : Int := (Lc.evN v.toNat : Nat)
def wordI (v : Int) : Str := if v = 0 then "come" else if v = 1 then "late" else "slot"
theorem gap_at {v : Int} {x : D} (h : L2.atI [.int 1, .int 1, .int 2, .int 2, .int 3] v = some x) (h0 : 0 ≤ v) (h1 : v < 5) : x = .int (gapI v) := by
  rcases (by omega : v = 0 ∨ v = 1 ∨ v = 2 ∨ v = 3 ∨ v = 4) with rfl | rfl | rfl | rfl | rfl <;> (cases h; rfl)
theorem ev_at {v : Int} {x : D} (h : L2.atI [.int 0, .int 0, .int 1, .int 2] v = some x) (h0 : 0 ≤ v) (h1 : v < 4) : x = .int (evI v) := by
  rcases (by omega : v = 0 ∨ v = 1 ∨ v = 2 ∨ v = 3) with rfl | rfl | rfl | rfl <;> (cases h; rfl)
theorem word_at {v : Int} {x : D} (h : L2.atI [.str "come", .str "late", .str "slot"] v = some x) (h0 : 0 ≤ v) (h1 : v < 3) : x = .str (wordI v) := by
  rcases (by omega : v = 0 ∨ v = 1 ∨ v = 2) with rfl | rfl | rfl <;> (cases h; rfl)
def tS1 (p : Int × Int) := (dr p 5).2
def tS2 (p : Int × Int) := (dr (tS1 p) 3).2
def tTop (p : Int × Int) : Int := 1 + (dr (tS1 p) 3).1
def tS3 (p : Int × Int) := (dr (tS2 p) 3).2
def tS4 (p : Int × Int) := (dr (tS3 p) 3).2
def tS5 (p : Int × Int) := (dr (tS4 p) (tTop p)).2
def tS6 (p : Int × Int) := (dr (tS5 p) 3).2
def tS7 (p : Int × Int) := (dr (tS6 p) 2).2
def tS8 (p : Int × Int) := (dr (tS7 p) 4).2
def tS9 (p : Int × Int) := (dr (tS8 p) 2).2
def tH (p : Int × Int) : D := .tuple [.int (gapI (dr p 5).1), .int (dr (tS2 p) 3).1, .int (dr (tS3 p) 3).1, .int (1 + (dr (tS4 p) (tTop p)).1), .int (tTop p), .int (1 + (dr (tS6 p) 2).1), .str (wordI (dr (tS5 p) 3).1), .int (evI (dr (tS7 p) 4).1), .bool (PyData.eqv (.int (dr (tS8 p) 2).1) (.int 0))]
def tZ (p : Int × Int) : Int := sizeF (gapI (dr p 5).1) (dr (tS2 p) 3).1 (dr (tS3 p) 3).1 (tTop p) (1 + (dr (tS6 p) 2).1) (evI (dr (tS7 p) 4).1)
structure HouseV (B : Int) (v : D) : Prop where
  ex : ∃ (g e l lo hi ro ev : Int) (z : Str) (b : Bool), v = .tuple [.int g, .int e, .int l, .int lo, .int hi, .int ro, .str z, .int ev, .bool b] ∧ 1 ≤ g ∧ g ≤ 3 ∧ 0 ≤ e ∧ e ≤ 2 ∧ 0 ≤ l ∧ l ≤ 2 ∧ 1 ≤ lo ∧ lo ≤ hi ∧ hi ≤ 3 ∧ 1 ≤ ro ∧ ro ≤ 2 ∧
    (z = "come" ∨ z = "late" ∨ z = "slot") ∧ 0 ≤ ev ∧ ev ≤ 2 ∧ sizeF g e l hi ro ev ≤ B
theorem gap_r (v : Int) : 1 ≤ gapI v ∧ gapI v ≤ 3 := by
  unfold gapI Lc.gapN
  split
  · decide
  · split <;> decide
theorem ev_r {v : Int} (h1 : v < 4) : 0 ≤ evI v ∧ evI v ≤ 2 := by
  unfold evI Lc.evN
  split <;> omega
theorem word_r (v : Int) : wordI v = "come" ∨ wordI v = "late" ∨ wordI v = "slot" := by
  unfold wordI
  split
  · exact .inl rfl
  · split
    · exact .inr (.inl rfl)
    · exact .inr (.inr rfl)
theorem top_r (p : Int × Int) : 1 ≤ tTop p ∧ tTop p ≤ 3 := by
  have := dr_range (p := tS1 p) (m := 3) (by decide)
  unfold tTop
  omega
theorem house_t (p : Int × Int) {B : Int} (h : tZ p ≤ B) : HouseV B (tH p) := by
  have r1 := gap_r (dr p 5).1
  have r2 := dr_range (p := tS2 p) (m := 3) (by decide)
  have r3 := dr_range (p := tS3 p) (m := 3) (by decide)
  have r4 := top_r p
  have r5 := dr_range (p := tS4 p) (m := tTop p) (by omega)
  have r6 := dr_range (p := tS6 p) (m := 2) (by decide)
  have r7 := ev_r (dr_range (p := tS7 p) (m := 4) (by decide)).2
  exact ⟨_, _, _, _, _, _, _, _, _, rfl, r1.1, r1.2, r2.1, by omega, r3.1, by omega, by omega, by omega, r4.2, by omega, by omega, word_r _, r7.1, r7.2, h⟩
theorem src9 {p : Int × Int} (h : Src p) : Src (tS9 p) := by
  have r4 := top_r p
  exact ((((((((h.dr (by decide : (0 : Int) < 5)).dr (by decide : (0 : Int) < 3)).dr (by decide : (0 : Int) < 3)).dr (by decide : (0 : Int) < 3)).dr (m := tTop p) (by omega)).dr (by decide : (0 : Int) < 3)).dr (by decide : (0 : Int) < 2)).dr (by decide : (0 : Int) < 4)).dr (by decide : (0 : Int) < 2)
theorem dr_le' {p : Int × Int} {m : Int} (h : Src p) (hm : 0 < m) : (dr p m).2.1 ≤ p.1 := (dr_le hm h.p1).2
theorem le9 {p : Int × Int} (h : Src p) : (tS9 p).1 ≤ p.1 ∧ (0 < p.1 → (tS9 p).1 < p.1) := by
  have r4 := top_r p
  have h1 : Src (tS1 p) := h.dr (by decide)
  have h2 : Src (tS2 p) := h1.dr (by decide)
  have h3 : Src (tS3 p) := h2.dr (by decide)
  have h4 : Src (tS4 p) := h3.dr (by decide)
  have h5 : Src (tS5 p) := h4.dr (by omega)
  have h6 : Src (tS6 p) := h5.dr (by decide)
  have h7 : Src (tS7 p) := h6.dr (by decide)
  have h8 : Src (tS8 p) := h7.dr (by decide)
  have l1 : (tS1 p).1 ≤ p.1 := dr_le' h (by decide)
  have l2 : (tS2 p).1 ≤ (tS1 p).1 := dr_le' h1 (by decide)
  have l3 : (tS3 p).1 ≤ (tS2 p).1 := dr_le' h2 (by decide)
  have l4 : (tS4 p).1 ≤ (tS3 p).1 := dr_le' h3 (by decide)
  have l5 : (tS5 p).1 ≤ (tS4 p).1 := dr_le' h4 (by omega)
  have l6 : (tS6 p).1 ≤ (tS5 p).1 := dr_le' h5 (by decide)
  have l7 : (tS7 p).1 ≤ (tS6 p).1 := dr_le' h6 (by decide)
  have l8 : (tS8 p).1 ≤ (tS7 p).1 := dr_le' h7 (by decide)
  have l9 : (tS9 p).1 ≤ (tS8 p).1 := dr_le' h8 (by decide)
  refine ⟨by omega, fun hq => ?_⟩
  have : (tS1 p).1 < p.1 := dr_lt (by decide) hq
  omega
theorem dr0 (s m : Nat) : dr (0, (s : Int)) (m : Int) = (((Lc.outS (Lc.nx s) % m : Nat) : Int), (0, ((Lc.nx s : Nat) : Int))) := by
  have hx : ((Lc.nx s : Nat) : Int) = ((s : Int) * 40014 + 77) % 2147483563 := by
    unfold Lc.nx
    show (((s * 40014 + 77) % 2147483563 : Nat) : Int) = _
    omega
  unfold dr
  rw [if_neg (show ¬ ((0 : Int), (s : Int)).1 > 0 from Int.lt_irrefl 0)]
  show (((s : Int) * 40014 + 77) % 2147483563 * (((s : Int) * 40014 + 77) % 2147483563 / 5 + 1) % 2147483399 / 8 % (m : Int), ((0 : Int), ((s : Int) * 40014 + 77) % 2147483563)) = _
  rw [← hx]
  generalize Lc.nx s = x
  have : ((Lc.outS x % m : Nat) : Int) = (x : Int) * ((x : Int) / 5 + 1) % 2147483399 / 8 % (m : Int) := by
    unfold Lc.outS
    rw [Int.natCast_emod, Int.natCast_ediv, Int.natCast_emod, Int.natCast_mul, Int.natCast_add, Int.natCast_ediv]
    rfl
  rw [this]
theorem size_nat (g e l hi ro ev : Nat) : sizeF (g : Int) (e : Int) (l : Int) (hi : Int) (ro : Int) (ev : Int) = (Lc.sizeN g e l hi ro ev : Nat) := by
  have hm : manyF (g : Int) (e : Int) (l : Int) = (((e + l) / g + 1 : Nat) : Int) := by
    unfold manyF
    push_cast
    rfl
  unfold sizeF Lc.sizeN
  rw [hm]
  simp only [Int.toNat_natCast]
  push_cast
  rfl
theorem tS0 (s : Nat) : tS1 (0, (s : Int)) = (0, ((Lc.nx s : Nat) : Int)) := by unfold tS1; rw [show (5 : Int) = ((5 : Nat) : Int) from rfl, dr0]
theorem t_gen (s : Nat) : tZ (0, (s : Int)) = (Lc.tsize s : Nat) ∧ tS9 (0, (s : Int)) = (0, ((Lc.nxs 9 s : Nat) : Int)) := by
  have a1 : tS1 (0, (s : Int)) = (0, ((Lc.nxs 1 s : Nat) : Int)) := tS0 s
  have b3 : ((3 : Nat) : Int) = 3 := rfl
  have b2 : ((2 : Nat) : Int) = 2 := rfl
  have b4 : ((4 : Nat) : Int) = 4 := rfl
  have b5 : ((5 : Nat) : Int) = 5 := rfl
  have nx : ∀ n, Lc.nx (Lc.nxs n s) = Lc.nxs (n + 1) s := by
    intro n
    induction n generalizing s with
    | zero => rfl
    | succ n ih => rw [Lc.nxs, Lc.nxs]; exact ih _ (tS0 _)
  have a2 : tS2 (0, (s : Int)) = (0, ((Lc.nxs 2 s : Nat) : Int)) := by unfold tS2; rw [a1, ← b3, dr0, nx]
  have at_ : tTop (0, (s : Int)) = ((1 + Lc.outS (Lc.nxs 2 s) % 3 : Nat) : Int) := by unfold tTop; rw [a1, ← b3, dr0, nx]; push_cast; rfl
  have a3 : tS3 (0, (s : Int)) = (0, ((Lc.nxs 3 s : Nat) : Int)) := by unfold tS3; rw [a2, ← b3, dr0, nx]
  have a4 : tS4 (0, (s : Int)) = (0, ((Lc.nxs 4 s : Nat) : Int)) := by unfold tS4; rw [a3, ← b3, dr0, nx]
  have a5 : tS5 (0, (s : Int)) = (0, ((Lc.nxs 5 s : Nat) : Int)) := by unfold tS5; rw [a4, at_, dr0, nx]
  have a6 : tS6 (0, (s : Int)) = (0, ((Lc.nxs 6 s : Nat) : Int)) := by unfold tS6; rw [a5, ← b3, dr0, nx]
  have a7 : tS7 (0, (s : Int)) = (0, ((Lc.nxs 7 s : Nat) : Int)) := by unfold tS7; rw [a6, ← b2, dr0, nx]
  have a8 : tS8 (0, (s : Int)) = (0, ((Lc.nxs 8 s : Nat) : Int)) := by unfold tS8; rw [a7, ← b4, dr0, nx]
  refine ⟨?_, by unfold tS9; rw [a8, ← b2, dr0, nx]⟩
  unfold tZ
  rw [a2, a3, a6, a7, at_, ← b3, ← b2, ← b4, ← b5, dr0, dr0, dr0, dr0, dr0, nx, nx, nx, nx]
  unfold gapI evI
  simp only [Int.toNat_natCast]
  rw [show (1 : Int) + ((Lc.outS (Lc.nxs (6 + 1) s) % 2 : Nat) : Int) = ((1 + Lc.outS (Lc.nxs 7 s) % 2 : Nat) : Int) by push_cast; rfl, size_nat]
  rfl
def bodyH : M := match m4 with
  | .seq _ (.seq (.whl _ b) _) => b
  | _ => .skip
def bump (m a : Int) : Int := (if 60 > m then 60 else m) + (if a = 0 then 20 else 0)
theorem body_to {F k i : Nat} {S : Store} {p p0 : Int × Int} {m : Int} {w2 t3 t4 t5 t6 : Option W} (h : S[i]? = some (srcO p0)) :
    (exM (callP PD F (k + 2)) F bodyH [some (.r i), some (.d (.int m)), w2, t3, t4, t5, t6] (S.set i (srcO p))).to fun f S2 => ∃ (u3 u4 u5 u6 : Option W), f = .nx [some (.r i), some (.d (.int (bump m (tS9 p).1))), some (.d (tH p)), u3, u4, u5, u6] ∧ S2 = S.set i (srcO (tS9 p)) := by
  have r4 := top_r p
  unfold bodyH m4
  repeat' wtm_at "mi"
  refine choice3 h (by decide) (by decide) fun v1 hv1 e1 => ?_
  cases gap_at e1 (dr_range (by decide)).1 (dr_range (by decide)).2
  repeat' wtm_at "mi"
  refine draw3 h (by decide) (by decide) ?_
  repeat' wtm_at "mi"
  refine draw3 h (by decide) (by decide) ?_
  repeat' wtm_at "mi"
  refine draw3 h (by decide) (by decide) ?_
  repeat' wtm_at "mi"
  refine draw3 (m := tTop p) h (by omega) (by omega) ?_
  repeat' wtm_at "mi"
  refine choice3 h (by decide) (by decide) fun v6 hv6 e6 => ?_
  cases word_at e6 (dr_range (by decide)).1 (dr_range (by decide)).2
  repeat' wtm_at "mi"
  refine draw3 h (by decide) (by decide) ?_
  repeat' wtm_at "mi"
  refine choice3 h (by decide) (by decide) fun v8 hv8 e8 => ?_
  cases ev_at e8 (dr_range (by decide)).1 (dr_range (by decide)).2
  repeat' wtm_at "mi"
  refine draw3 h (by decide) (by decide) ?_
  repeat' wtm_at "mi"
  · rename_i hc
    have hz : (tS9 p).1 = 0 := by
      have hc : PyData.eqv (.int (tS9 p).1) (.int 0) = true := hc
      simpa [PyData.eqv] using hc
    have hb : bump m (tS9 p).1 = (if 60 > m then 60 else m) + 20 := by
      unfold bump
      rw [if_pos hz]
    rw [hb]
    exact ⟨_, _, _, _, rfl, rfl⟩
  · rename_i hc
    have hz : ¬ (tS9 p).1 = 0 := by
      have hc : PyData.eqv (.int (tS9 p).1) (.int 0) = false := hc
      simpa [PyData.eqv] using hc
    have hb : bump m (tS9 p).1 = (if 60 > m then 60 else m) := by
      unfold bump
      rw [if_neg hz, Int.add_zero]
    rw [hb]
    exact ⟨_, _, _, _, rfl, rfl⟩
def intW : Option (Option W) → Int
  | some (some (.d (.int m))) => m
  | _ => 0
def srcW : Option SO → Nat
  | some (.list [.int a, _]) => a.toNat
  | _ => 0
def muH (i : Nat) (ls : MI.Loc) (S : Store) : Nat := srcW S[i]? + (50000 - intW ls[1]?).toNat
theorem muH_eq {i : Nat} {S : Store} {p p0 : Int × Int} {m : Int} {w : Option W} {r : MI.Loc} (h : S[i]? = some (srcO p0)) : muH i (w :: some (.d (.int m)) :: r) (S.set i (srcO p)) = p.1.toNat + (50000 - m).toNat := by
  unfold muH
  rw [get_set h]
  rfl
def Ph (T : Nat) (L most : Int) (p p' : Int × Int) (m : Int) (fv : D) : Prop :=
  (fv = .tuple [] ∧ p' = p ∧ m = most) ∨
  (0 < p'.1 ∧ m = most ∧ ∃ z, HouseV z fv) ∨
  (p'.1 = 0 ∧ (∃ z, HouseV z fv) ∧ ∃ c r : Nat, m = most + 20 * c ∧ c + r ≤ T ∧ (Lc.tsize (Lc.nxs (9 * r) p'.2.toNat) : Int) ≤ L) ∨
  (HouseV L fv ∧ most ≤ m)
def InvH (T : Nat) (L most : Int) (i : Nat) (S : Store) (p : Int × Int) (ls : MI.Loc) (S' : Store) : Prop := ∃ (p' : Int × Int) (m : Int) (fv : D) (t3 t4 t5 t6 : Option W), S' = S.set i (srcO p') ∧ ls = [some (.r i), some (.d (.int m)), some (.d fv), t3, t4, t5, t6] ∧ Src p' ∧ p'.1 ≤ p.1 ∧ Ph T L most p p' m fv
theorem ph_next {T : Nat} {L most : Int} {p p' : Int × Int} {m : Int} {fv : D} (soon : ∀ s : Nat, s < 2147483563 → ∃ t, t < T ∧ (Lc.tsize (Lc.nxs (9 * t) s) : Int) ≤ L) (h60 : 60 ≤ most) (hs : Src p') (hsp : Src p) (hn : ¬ (HouseV L fv ∧ most ≤ m)) (h : Ph T L most p p' m fv) :
    Ph T L most p (tS9 p') (bump m (tS9 p').1) (tH p') ∧ (p'.1 = 0 → m + 20 ≤ bump m (tS9 p').1) ∧ m ≤ bump m (tS9 p').1 ∧ most ≤ m := by
  have hm : most ≤ m := by
    rcases h with ⟨_, _, e⟩ | ⟨_, e, _⟩ | ⟨_, _, c, r, e, _⟩ | ⟨_, e⟩ <;> omega
  have hb : bump m (tS9 p').1 = m + (if (tS9 p').1 = 0 then 20 else 0) := by
    unfold bump
    rw [if_neg (by omega)]
  have l9 := le9 hs
  have hs9 := src9 hs
  rw [hb]
  refine ⟨?_, fun e => ?_, by split <;> omega, hm⟩
  · -- whence
    have hG : ∃ z, HouseV z (tH p') := ⟨_, house_t p' (Int.le_refl _)⟩
    -- a generator's turn, a small one t turns on
    have gen : ∀ (c t : Nat), p'.1 = 0 → m = most + 20 * c → c + t ≤ T → (Lc.tsize (Lc.nxs (9 * t) p'.2.toNat) : Int) ≤ L → Ph T L most p (tS9 p') (m + (if (tS9 p').1 = 0 then 20 else 0)) (tH p') := by
      intro c t e0 em ct hz
      have ep : p' = (0, ((p'.2.toNat : Nat) : Int)) := by
        have := hs.s0
        obtain ⟨a, b⟩ := p'
        simp only at e0 this ⊢
        rw [e0, Int.toNat_of_nonneg this]
      obtain ⟨g1, g2⟩ := t_gen p'.2.toNat
      rw [← ep] at g1 g2
      have z9 : (tS9 p').1 = 0 := by rw [g2]
      rw [if_pos z9]
      cases t with
      | zero =>
        refine .inr (.inr (.inr ⟨house_t p' ?_, by omega⟩))
        rw [g1]
        rw [Nat.mul_zero, Lc.nxs] at hz
        exact hz
      | succ t =>
        refine .inr (.inr (.inl ⟨z9, hG, c + 1, t, by omega, by omega, ?_⟩))
        have e2 : (tS9 p').2.toNat = Lc.nxs 9 p'.2.toNat := by rw [g2]; exact Int.toNat_natCast _
        rw [e2]
        have e3 : ∀ (a b s : Nat), Lc.nxs a (Lc.nxs b s) = Lc.nxs (b + a) s := by
          intro a b s
          induction b generalizing s with
          | zero => rw [Nat.zero_add]; rfl
          | succ b ih => rw [Nat.succ_add, Lc.nxs, Lc.nxs, ih]
        rw [e3, show 9 + 9 * t = 9 * (t + 1) by omega]
        exact hz
    -- a turn that begins with the cell's digits
    have cell : 0 < p'.1 → m = most → Ph T L most p (tS9 p') (m + (if (tS9 p').1 = 0 then 20 else 0)) (tH p') := by
      intro hp em
      by_cases c9 : (tS9 p').1 = 0
      · rw [if_pos c9]
        obtain ⟨t, t1, t2⟩ := soon (tS9 p').2.toNat (by have := hs9.s0; have := hs9.s1; omega)
        exact .inr (.inr (.inl ⟨c9, hG, 1, t, by omega, by omega, t2⟩))
      · rw [if_neg c9, Int.add_zero]
        have := hs9.p1
        exact .inr (.inl ⟨by omega, em, hG⟩)
    rcases h with ⟨_, e, em⟩ | ⟨hp, em, _⟩ | ⟨e0, _, c, r, em, ct, hz⟩ | h4
    · subst e
      by_cases c : 0 < p'.1
      · exact cell c em
      · have := hs.p1
        obtain ⟨t, t1, t2⟩ := soon p'.2.toNat (by have := hs.s0; have := hs.s1; omega)
        exact gen 0 t (by omega) (by omega) (by omega) t2
    · exact cell hp em
    · exact gen c r e0 em ct hz
    · exact absurd h4 hn
  · have := hs9.p1
    have z9 : (tS9 p').1 = 0 := by omega
    rw [if_pos z9]
    omega
theorem house_to {F k i T : Nat} {S : Store} {p : Int × Int} {most L B : Int} {Q : W → Store → Prop} (soon : ∀ s : Nat, s < 2147483563 → ∃ t, t < T ∧ (Lc.tsize (Lc.nxs (9 * t) s) : Int) ≤ L) (h : S[i]? = some (srcO p)) (hp : Src p) (h60 : 60 ≤ most) (hL : L ≤ most) (hB : most + 20 * T ≤ B) (hB2 : B < 49000) (hF : p.1.toNat + 60000 ≤ F)
    (q : ∀ v p', HouseV B v → Src p' → p'.1 ≤ p.1 → Q (.d v) (S.set i (srcO p'))) : (callP PD F (k + 3) 4 [.r i, .d (.int most)] S).to Q := by
  have hS : S = S.set i (srcO p) := by
    obtain ⟨hl, e⟩ := List.getElem?_eq_some_iff.mp h
    rw [← e, List.set_getElem_self]
  refine p_call pd4 rfl ?_
  show (exM _ F m4 (startL 7 _) S).to _
  unfold m4
  refine m_seq ?_
  refine m_asg ?_
  repeat' wtm_at "mi"
  refine m_whl (InvH T L most i S p) (muH i) ⟨p, most, .tuple [], none, none, none, none, hS, rfl, hp, Int.le_refl _, .inl ⟨rfl, rfl, rfl⟩⟩ ?_ ?_
  · show muH i [some (.r i), some (.d (.int most)), some (.d (.tuple [])), none, none, none, none] S < F
    rw [hS, muH_eq h]
    omega
  · rintro ls S' ⟨p', m, fv, t3, t4, t5, t6, rfl, rfl, hs, hp2, hph⟩
    have stepB : ¬ (HouseV L fv ∧ most ≤ m) → (exM (callP PD F (k + 2)) F bodyH [some (.r i), some (.d (.int m)), some (.d fv), t3, t4, t5, t6] (S.set i (srcO p'))).to fun f S2 => match f with
      | .nx l' => InvH T L most i S p l' S2 ∧ muH i l' S2 < muH i [some (.r i), some (.d (.int m)), some (.d fv), t3, t4, t5, t6] (S.set i (srcO p'))
      | .rt w => False := fun hn => by
      refine (body_to h).mono fun f S2 hb => ?_
      obtain ⟨u3, u4, u5, u6, rfl, rfl⟩ := hb
      obtain ⟨n1, n2, n3, n4⟩ := ph_next soon h60 hs hp hn hph
      have l9 := le9 hs
      have hm : m ≤ B := by
        rcases hph with ⟨_, _, e⟩ | ⟨_, e, _⟩ | ⟨_, _, c, r, e, e2, _⟩ | e <;> first | omega | exact absurd e hn
      refine ⟨⟨_, _, _, u3, u4, u5, u6, rfl, rfl, src9 hs, by omega, n1⟩, ?_⟩
      rw [muH_eq h, muH_eq h]
      have := hs.p1
      by_cases c : 0 < p'.1
      · have := l9.2 c; omega
      · have := n2 (by omega); omega
    show (evE _ _ _ _).to fun w S1 => br w ((exM _ F bodyH _ S1).to _) _
    by_cases hfv : fv = .tuple []
    · subst hfv
      repeat' wtm_at "mi"
      refine (stepB fun hn => ?_).mono fun f S2 hb => ?_
      · obtain ⟨g, e, l, lo, hi, ro, ev, z, b, q, _⟩ := hn.1.ex
        cases q
      cases f with
      | nx l => exact hb
      | rt w => exact hb.elim
    · obtain ⟨z0, hz0⟩ : ∃ z, HouseV z fv := by
        rcases hph with ⟨e, _⟩ | ⟨_, _, e⟩ | ⟨_, e, _⟩ | ⟨e, _⟩
        · exact absurd e hfv
        · exact e
        · exact e
        · exact ⟨_, e⟩
      obtain ⟨g, e, l, lo, hi, ro, ev, z, b, rfl, g1, g2, e1, e2, l1, l2, o1, o2, u2, r1, r2, zz, v1, v2, hz⟩ := id hz0.ex
      repeat' first | wtm_at "mi" | (with_reducible refine law_size_to g1 (by omega) e1 (by omega) l1 (by omega) (by omega) (by omega) (by omega) (by omega) v1 v2 ?_)
      · rename_i _ hc
        have hc := of_decide_eq_true hc
        refine (stepB fun hn => ?_).mono fun f S2 hb => ?_
        · obtain ⟨g', e', l', lo', hi', ro', ev', z', b', q, _, _, _, _, _, _, _, _, _, _, _, _, _, _, hz'⟩ := hn.1.ex
          cases q
          have := hn.2
          omega
        cases f with
        | nx l => exact hb
        | rt w => exact hb.elim
      · rename_i _ hc
        have hc := of_decide_eq_false hc
        repeat' wtm_at "mi"
        refine q _ p' ⟨g, e, l, lo, hi, ro, ev, z, b, rfl, g1, g2, e1, e2, l1, l2, o1, o2, u2, r1, r2, zz, v1, v2, ?_⟩ hs hp2
        rcases hph with ⟨e', _⟩ | ⟨_, em, _⟩ | ⟨_, _, c, r, em, ct, _⟩ | ⟨e', _⟩
        · exact absurd e' hfv
        · omega
        · omega
        · obtain ⟨g', e', l', lo', hi', ro', ev', z', b', q, _, _, _, _, _, _, _, _, _, _, _, _, _, _, hz'⟩ := e'.ex
          cases q
          omega
theorem abs_sum : ∀ {ns : List Int} {n : Int}, n ∈ ns → n.natAbs ≤ (ns.map Int.natAbs).sum
  | a :: ns, n, h => by
    rw [List.map_cons, List.sum_cons]
    rcases List.mem_cons.mp h with h | h
    · rw [h]; omega
    · have := abs_sum h; omega
theorem source_to {F k : Nat} {S : Store} {ns : List Int} {j : Nat} {Q : W → Store → Prop} (hj : j ≤ 1000) (hl : ns.length ≤ 63)
    (q : ∀ p : Int × Int, Src p → p.1.toNat ≤ (ns.map Int.natAbs).sum + 60000 → Q (.r S.length) (S ++ [srcO p])) : (callP PD F (k + 1) 0 [.d (.list (ns.map .int)), .d (.int (j : Nat))] S).to Q := by
  have em : ∀ x : Int, 0 ≤ x % 2147483563 ∧ x % 2147483563 < 2147483563 := fun x => ⟨Int.emod_nonneg _ (by decide), Int.emod_lt_of_pos _ (by decide)⟩
  refine p_call pd0 rfl ?_
  show (exM _ F m0 (startL 3 _) S).to _
  unfold m0
  repeat' wtm_at "mi"
  · rename_i hc
    have hc := of_decide_eq_true hc
    rw [List.length_map] at hc
    have hj' : j < ns.length := by omega
    have hn : ns[j] ∈ ns := List.getElem_mem hj'
    have hs := abs_sum hn
    have e : L2.atI (ns.map PyData.int) (j : Nat) = some (.int ns[j]) := by
      unfold L2.atI L2.ixN
      rw [if_pos (by omega), List.length_map, if_pos (by omega)]
      simp [hj']
    generalize ns[j] = n at e hs
    refine ixQ_mk e ?_
    repeat' wtm_at "mi"
    · refine l_nw rfl (q (_, _) ⟨?_, (em _).1, (em _).2⟩ ?_)
      · show 0 ≤ (if n < 0 then -n else n); split <;> omega
      · show (if n < 0 then -n else n).toNat ≤ _; split <;> omega
    · refine l_nw rfl (q (_, _) ⟨Int.le_refl _, (em _).1, (em _).2⟩ (Nat.zero_le _))
  · refine l_nw rfl (q (_, _) ⟨?_, (em _).1, (em _).2⟩ ?_)
    · show 0 ≤ 31 * (j : Int) + 5; omega
    · show (31 * (j : Int) + 5).toNat ≤ _; omega
  · refine l_nw rfl (q (_, _) ⟨Int.le_refl _, (em _).1, (em _).2⟩ (Nat.zero_le _))
end TX

end S_HoA
section S_MiQ
namespace MI
open PySem
def coQ (xs : List D) (S : Store) (bnd : D → Option Loc) (test elt : Loc → Store → (W → Store → Prop) → Prop) (k : List D → Prop) : Prop :=
  ∃ (f : D → D) (p : D → Bool), xs.length ≤ sizeLine ∧ (∀ (j : Nat) (x : D), xs[j]? = some x → ∃ l, bnd x = some l ∧ test l S (fun w S' => w = .d (.bool (p x)) ∧ S' = S) ∧ (p x = true → elt l S fun w S' => w = .d (f x) ∧ S' = S)) ∧ k ((xs.filter p).map f)
theorem coQ_mk {xs : List D} {S : Store} {bnd : D → Option Loc} {test elt : Loc → Store → (W → Store → Prop) → Prop} {k : List D → Prop} (f : D → D) (p : D → Bool) (hz : xs.length ≤ sizeLine)
    (h : ∀ (j : Nat) (x : D), xs[j]? = some x → ∃ l, bnd x = some l ∧ test l S (fun w S' => w = .d (.bool (p x)) ∧ S' = S) ∧ (p x = true → elt l S fun w S' => w = .d (f x) ∧ S' = S)) (q : k ((xs.filter p).map f)) : coQ xs S bnd test elt k := ⟨f, p, hz, h, q⟩
theorem comp_pure {bnd : D → Option Loc} {test elt : Loc → Store → Res W} {S : Store} {f : D → D} {p : D → Bool} : ∀ (xs acc : List D), acc.length + xs.length ≤ sizeLine →
    (∀ (j : Nat) (x : D), xs[j]? = some x → ∃ l, bnd x = some l ∧ (test l S).to (fun w S' => w = .d (.bool (p x)) ∧ S' = S) ∧ (p x = true → (elt l S).to fun w S' => w = .d (f x) ∧ S' = S)) → compL bnd test elt xs acc S = .ok (acc ++ (xs.filter p).map f) S
  | [], acc, _, _ => by rw [compL]; simp
  | x :: xs, acc, hz, h => by
    obtain ⟨l, h1, h2, h3⟩ := h 0 x rfl
    obtain ⟨w, S', e, rfl, rfl⟩ := h2.ex
    rw [List.length_cons] at hz
    unfold compL
    simp only [h1, e, Res.test_ok]
    have hr : ∀ (j : Nat) (y : D), xs[j]? = some y → _ := fun j y hy => h (j + 1) y (by simpa using hy)
    cases hp : p x with
    | true =>
      obtain ⟨w, S', e2, rfl, rfl⟩ := (h3 hp).ex
      rw [if_pos rfl, e2, Res.bind_ok]
      have hl : acc.length < sizeLine := by omega
      simp only [hl, decide_true, if_true]
      rw [comp_pure xs (acc ++ [f x]) (by rw [List.length_append, List.length_singleton]; omega) hr, List.filter_cons, hp, if_pos rfl, List.map_cons, List.append_assoc]
      rfl
    | false =>
      rw [if_neg (by decide), comp_pure xs acc (by omega) hr, List.filter_cons, hp, if_neg (by decide)]
section
variable {call : Call} {ls : Loc} {S : Store} {Q : W → Store → Prop} {a b c e : E} {F : Nat}
theorem n_comp {m : Bool} {elt src cond : E} {tg : Tg} {own : List Nat} (h : (evI call src ls S).to fun xs S1 => coQ xs S1 (fun x => bindD tg x (wipeL ls own)) (fun l S R => (evC call cond l S).to R) (fun l S R => (evE call elt l S).to R) fun ys => (newL m ys S1).to Q) : (evE call (.comp m elt tg src cond own) ls S).to Q := by
  rw [evE]
  refine Res.to_bind (h.mono fun xs S1 ⟨f, p, hz, hx, q⟩ => ?_)
  rw [comp_pure xs [] (by simpa using hz) hx, List.nil_append]
  exact q
theorem r_omit {R : W → Store → Prop} (q : R (.d (.bool true)) S) : (evC call .omit ls S).to R := by rw [evC]; exact q
theorem r_one {R : W → Store → Prop} (h : (evE call e ls S).to R) : (evC call (.cons e .nil) ls S).to R := by rw [evC]; exact h
variable {QI : List D → Store → Prop}
theorem r_enum (h : (evE call e ls S).to fun w S1 => sdQ w fun xs => QI (enumD xs) S1) : (evI call (.ienum e) ls S).to QI := by
  rw [evI]
  refine Res.to_bind (h.mono fun w S1 ⟨x, xs, h1, h2, q⟩ => ?_)
  subst h1
  show (optR ((seqD x).map enumD) S1).to QI
  rw [h2]
  exact q
def zpQ (w u : W) (k : List D → Prop) : Prop := ∃ xs ys, ((w = .d (.tuple xs) ∧ u = .d (.tuple ys)) ∨ (w = .d (.list xs) ∧ u = .d (.list ys)) ∨ (w = .d (.tuple xs) ∧ u = .d (.list ys))) ∧ k (zipD xs ys)
theorem zpQ_tt {xs ys : List D} {k : List D → Prop} (q : k (zipD xs ys)) : zpQ (.d (.tuple xs)) (.d (.tuple ys)) k := ⟨xs, ys, .inl ⟨rfl, rfl⟩, q⟩
theorem zpQ_ll {xs ys : List D} {k : List D → Prop} (q : k (zipD xs ys)) : zpQ (.d (.list xs)) (.d (.list ys)) k := ⟨xs, ys, .inr (.inl ⟨rfl, rfl⟩), q⟩
theorem zpQ_tl {xs ys : List D} {k : List D → Prop} (q : k (zipD xs ys)) : zpQ (.d (.tuple xs)) (.d (.list ys)) k := ⟨xs, ys, .inr (.inr ⟨rfl, rfl⟩), q⟩
theorem r_zip (h : (evE call a ls S).to fun w S1 => (evE call b ls S1).to fun u S2 => zpQ w u fun xs => QI xs S2) : (evI call (.izip a b) ls S).to QI := by
  rw [evI]
  refine Res.to_bind (h.mono fun w S1 h => Res.to_bind (h.mono fun u S2 ⟨xs, ys, hz, q⟩ => ?_))
  rcases hz with ⟨rfl, rfl⟩ | ⟨rfl, rfl⟩ | ⟨rfl, rfl⟩ <;> exact q
def txQ (w : W) (k : Str → Prop) : Prop := ∃ z, w = .d (.str z) ∧ k z
theorem txQ_mk {z : Str} {k : Str → Prop} (h : k z) : txQ (.d (.str z)) k := ⟨z, rfl, h⟩
theorem n_splt (h : (evE call a ls S).to fun x S1 => txQ x fun z => (evE call b ls S1).to fun y S2 => txQ y fun u => (u.length == 0) = false ∧ z.length + 2 ≤ sizeLine ∧ Q (.d (.list ((Txt.split z u).map .str))) S2) : (evE call (.splt a b) ls S).to Q := by
  rw [evE]
  refine Res.to_bind (h.mono fun x S1 ⟨z, hz, h⟩ => ?_)
  subst hz
  refine Res.to_bind (show (Res.ok () S1).to _ from Res.to_bind (h.mono fun y S2 ⟨u, hu, h1, h2, q⟩ => ?_))
  subst hu
  unfold spltW
  simp only [h1, Bool.not_false, h2, decide_true, Bool.and_self, if_true]
  exact q
theorem n_join (h : (evE call a ls S).to fun x S1 => txQ x fun z => (evE call b ls S1).to fun y S2 => sqQ S2 y fun xs => ∃ ys, strsOf xs = some ys ∧ (ys.map (·.length)).sum + ys.length * z.length ≤ 16777216 ∧ Q (.d (.str (Txt.join z ys))) S2) : (evE call (.join a b) ls S).to Q := by
  rw [evE]
  refine Res.to_bind (h.mono fun x S1 ⟨z, hz, h⟩ => ?_)
  subst hz
  refine Res.to_bind (show (Res.ok () S1).to _ from Res.to_bind (h.mono fun y S2 ⟨xs, e, ys, h1, h2, q⟩ => ?_))
  unfold joinW
  simp only [e, h1, h2, decide_true, if_true]
  exact q
theorem n_rpl (h : (evL call a ls S).to fun ws S1 => daQ ws fun xs => (evE call b ls S1).to fun y S2 => inQ y fun k => 0 ≤ k ∧ k ≤ 1000 ∧ fits (xs.length * k.toNat) = true ∧ Q (.d (.list (repD xs k))) S2) : (evE call (.rpl a b) ls S).to Q := by
  rw [evE]
  refine Res.to_bind (h.mono fun ws S1 ⟨xs, e, f, h⟩ => ?_)
  have hd : daR ws S1 = .ok xs S1 := by unfold daR; simp only [e, f, if_true]
  rw [hd, Res.bind_ok]
  refine Res.to_bind (h.mono fun y S2 ⟨k, hk, h1, h2, h3, q⟩ => ?_)
  subst hk
  unfold rplW
  simp only [h1, h2, h3, decide_true, Bool.and_self, if_true]
  exact q
theorem n_indx (h : (evE call a ls S).to fun x S1 => (∃ xs, x = .d (.tuple xs)) ∧ (evE call b ls S1).to fun y S2 => (indxW x y S2).to Q) : (evE call (.indx a b) ls S).to Q := by
  rw [evE]
  refine Res.to_bind (h.mono fun x S1 ⟨⟨xs, hx⟩, h⟩ => ?_)
  subst hx
  exact Res.to_bind (show (Res.ok () S1).to _ from Res.to_bind (h.mono fun y S2 q => q))
theorem o_indx {xs : List D} {z : Str} {ys : List Str} {j : Nat} (h1 : strsOf xs = some ys) (h2 : ys.findIdx? (fun u => u == z) = some j) (q : Q (.d (.int (j : Nat))) S) : (indxW (.d (.tuple xs)) (.d (.str z)) S).to Q := by
  unfold indxW
  simp only [h1, h2, Option.map_some]
  exact q
theorem n_slcLH (h : (evE call a ls S).to fun x S1 => (evE call b ls S1).to fun y S2 => inQ y fun i => (evE call c ls S2).to fun z S3 => inQ z fun j => (slcW x (some i) (some j) S3).to Q) : (evE call (.slc true true a b c) ls S).to Q := by
  rw [evE]
  refine Res.to_bind (h.mono fun _ _ h => ?_)
  refine Res.to_bind (Res.to_bind (h.mono fun _ _ ⟨i, e, h⟩ => ?_))
  subst e
  refine Res.to_bind (Res.to_bind (h.mono fun _ _ ⟨i, e, q⟩ => ?_))
  subst e
  exact q
theorem o_slcS {z : Str} {lo hi : Option Int} (h : fits z.length = true) (q : Q (.d (.str (L2.cutS z lo hi))) S) : (slcW (.d (.str z)) lo hi S).to Q := by
  unfold slcW; simp only [toD_d, h, if_true]; exact q
theorem o_lenS {z : Str} (h : fits z.length = true) (q : Q (.d (.int z.length)) S) : (bltW .len [.d (.str z)] S).to Q := by
  show (lenW (.d (.str z)) S).to Q
  unfold lenW; simp only [toD_d, h, if_true]; exact q
theorem o_addS {x y : Str} (h : fits (x.length + y.length) = true) (q : Q (.d (.str (x ++ y))) S) : (binW .add (.d (.str x)) (.d (.str y)) S).to Q := by
  unfold binW; simp only [toD_d, binD, h, if_true]; exact q
theorem o_strI {i : Int} (h : i.natAbs.log2 < 1920) (q : Q (.d (.str (toString i))) S) : (bltW .str [.d (.int i)] S).to Q := by
  show (if decide (i.natAbs.log2 < 1920) then .ok (.d (.str (toString i))) S else .stuck : Res W).to Q
  rw [decide_eq_true h, if_pos rfl]; exact q
theorem o_strS {z : Str} (q : Q (.d (.str z)) S) : (bltW .str [.d (.str z)] S).to Q := q
theorem o_intB {b : Bool} (q : Q (.d (.int (if b then 1 else 0))) S) : (bltW .int [.d (.bool b)] S).to Q := q
theorem o_tupL {xs : List D} (q : Q (.d (.tuple xs)) S) : (bltW .tuple [.d (.list xs)] S).to Q := q
theorem o_tupT {xs : List D} (q : Q (.d (.tuple xs)) S) : (bltW .tuple [.d (.tuple xs)] S).to Q := q
theorem o_isN {x : D} (q : Q (.d (.bool (isNoneD x))) S) : (cmpW .is (.d x) (.d .none) S).to Q := by
  unfold cmpW
  have e : cmpD .is x .none = some (isNoneD x) := by cases x <;> rfl
  simp only [toD_d, e]; exact q
theorem o_notN {x : D} (q : Q (.d (.bool (!isNoneD x))) S) : (cmpW .isnot (.d x) (.d .none) S).to Q := by
  unfold cmpW
  have e : cmpD .isnot x .none = some (!isNoneD x) := by cases x <;> rfl
  simp only [toD_d, e]; exact q
end
section
variable {call : Call} {ls : Loc} {S : Store} {Q : Fl → Store → Prop} {a : M} {F : Nat}
theorem m_tryN (h : (exM call F a ls S).to Q) : (exM call F (.tryN a) ls S).to Q := by rw [exM]; exact Res.to_noex h
end
section
variable {call : Call} {ls : Loc} {S : Store} {Q : Fl → Store → Prop} {a : M} {e : E} {F : Nat}
theorem m_forU {tg : Tg} (h : (evI call e ls S).to fun xs S1 => (forL (fun x l => bindD tg x l) (fun l S => exM call F a l S) xs ls S1).to Q) : (exM call F (.for tg e a) ls S).to Q := by
  rw [exM]; exact Res.to_noex (Res.to_bind h)
theorem f_nil {bnd : D → Loc → Option Loc} {body : Loc → Store → Res Fl} (q : Q (.nx ls) S) : (forL bnd body [] ls S).to Q := by unfold forL; exact q
theorem f_cons {bnd : D → Loc → Option Loc} {body : Loc → Store → Res Fl} {x : D} {xs : List D} (h : bnQ (bnd x ls) fun l => (body l S).to fun f S1 => match f with
    | .nx l1 => (forL bnd body xs l1 S1).to Q
    | .rt w => Q (.rt w) S1) : (forL bnd body (x :: xs) ls S).to Q := by
  obtain ⟨l, h1, h2⟩ := h
  unfold forL
  simp only [h1]
  refine Res.to_bind (h2.mono fun f S1 h3 => ?_)
  cases f with
  | nx l1 => exact h3
  | rt w => exact h3
end
end MI

end S_MiQ
local macro_rules | `(tactic| wtm_at "v2mi_g_to_g_evE") => `(tactic| ((with_reducible refine' MI.n_indx ?_); refine ⟨⟨_, rfl⟩, ?_⟩))
local macro_rules | `(tactic| wtm_at "v2mi_g_to_g_evE") => `(tactic| (with_reducible refine MI.n_rpl ?_))
local macro_rules | `(tactic| wtm_at "v2mi_g_to_g_evE") => `(tactic| (with_reducible refine MI.n_join ?_))
local macro_rules | `(tactic| wtm_at "v2mi_g_to_g_evE") => `(tactic| (with_reducible refine MI.n_splt ?_))
local macro_rules | `(tactic| wtm_at "v2mi_g_to_g_evE") => `(tactic| (with_reducible refine MI.n_cpy ?_))
local macro_rules | `(tactic| wtm_at "v2mi_g_to_g_evE") => `(tactic| (with_reducible refine MI.n_slcLH ?_))
local macro_rules | `(tactic| wtm_at "v2mi_g_to_g_evE") => `(tactic| (with_reducible refine MI.n_slcL ?_))
local macro_rules | `(tactic| wtm_at "v2mi_g_to_g_evE") => `(tactic| (with_reducible refine MI.n_slcH ?_))
local macro_rules | `(tactic| wtm_at "v2mi_g_to_g_evE") => `(tactic| (with_reducible refine MI.n_comp ?_))
local macro_rules | `(tactic| wtm_at "v2mi_g_to_g_evE") => `(tactic| (with_reducible refine MI.n_chn ?_))
local macro_rules | `(tactic| wtm_at "v2mi_g_to_g_evE") => `(tactic| (with_reducible refine MI.n_glb ?_))
local macro_rules | `(tactic| wtm_at "v2mi_g_to_g_evE") => `(tactic| (with_reducible refine MI.n_lstT ?_))
local macro_rules | `(tactic| wtm_at "v2mi_g_to_g_evE") => `(tactic| (with_reducible refine MI.n_lstF ?_))
local macro_rules | `(tactic| wtm_at "v2mi_g_to_g_evE") => `(tactic| (with_reducible refine MI.n_isi ?_))
local macro_rules | `(tactic| wtm_at "v2mi_g_to_g_evE") => `(tactic| (with_reducible refine MI.n_neg ?_))
local macro_rules | `(tactic| wtm_at "v2mi_g_to_g_evE") => `(tactic| (with_reducible refine MI.n_ife ?_))
local macro_rules | `(tactic| wtm_at "v2mi_g_to_g_evE") => `(tactic| (with_reducible refine MI.n_not ?_))
local macro_rules | `(tactic| wtm_at "v2mi_g_to_g_evE") => `(tactic| (with_reducible refine MI.n_or ?_))
local macro_rules | `(tactic| wtm_at "v2mi_g_to_g_evE") => `(tactic| (with_reducible refine MI.n_and ?_))
local macro_rules | `(tactic| wtm_at "v2mi_g_to_g_evE") => `(tactic| (with_reducible refine MI.n_blt ?_))
local macro_rules | `(tactic| wtm_at "v2mi_g_to_g_evE") => `(tactic| (with_reducible refine MI.n_tup ?_))
local macro_rules | `(tactic| wtm_at "v2mi_g_to_g_evE") => `(tactic| (with_reducible refine MI.n_bin ?_))
local macro_rules | `(tactic| wtm_at "v2mi_g_to_g_evE") => `(tactic| (with_reducible refine MI.n_cmp ?_))
local macro_rules | `(tactic| wtm_at "v2mi_g_to_g_evE") => `(tactic| (with_reducible refine MI.n_call ?_))
local macro_rules | `(tactic| wtm_at "v2mi_g_to_g_evE") => `(tactic| (with_reducible refine MI.n_idx ?_))
local macro_rules | `(tactic| wtm_at "v2mi_g_to_g_evE") => `(tactic| (with_reducible refine MI.n_cst ?_))
local macro_rules | `(tactic| wtm_at "v2mi_g_to_g_evE") => `(tactic| ((with_reducible refine MI.n_varE ?_); refine ⟨_, rfl, ?_⟩))
local macro_rules | `(tactic| wtm_at "v2mi_g_to_g_evL") => `(tactic| (with_reducible refine MI.n_cons ?_))
local macro_rules | `(tactic| wtm_at "v2mi_g_to_g_evL") => `(tactic| (with_reducible refine MI.n_nil ?_))
local macro_rules | `(tactic| wtm_at "v2mi_g_to_g_bin") => `(tactic| ((with_reducible refine' MI.o_pow ?h1 ?_); (case h1 => first | decide | assumption)))
local macro_rules | `(tactic| wtm_at "v2mi_g_to_g_bin") => `(tactic| ((with_reducible refine' MI.o_fdiv ?h1 ?h2 ?_); (case h1 => first | assumption | decide); (case h2 => first | assumption | decide)))
local macro_rules | `(tactic| wtm_at "v2mi_g_to_g_bin") => `(tactic| ((with_reducible refine' MI.o_mod ?h1 ?_); (case h1 => first | assumption | decide)))
local macro_rules | `(tactic| wtm_at "v2mi_g_to_g_bin") => `(tactic| ((with_reducible refine' MI.o_mul ?h1 ?_); (case h1 => first | exact MI.small_r (by decide) | exact MI.small_l (by decide) | exact MI.small_l (MI.small_of (by omega) (by omega)) | exact MI.small_r (MI.small_of (by omega) (by omega)))))
local macro_rules | `(tactic| wtm_at "v2mi_g_to_g_bin") => `(tactic| (with_reducible refine MI.o_sub ?_))
local macro_rules | `(tactic| wtm_at "v2mi_g_to_g_bin") => `(tactic| ((with_reducible refine' MI.o_addL ?h1 ?_); (case h1 => first | rfl | decide | assumption)))
local macro_rules | `(tactic| wtm_at "v2mi_g_to_g_bin") => `(tactic| ((with_reducible refine' MI.o_addT ?h1 ?_); (case h1 => first | rfl | decide | assumption)))
local macro_rules | `(tactic| wtm_at "v2mi_g_to_g_bin") => `(tactic| (with_reducible refine MI.o_addI ?_))
local macro_rules | `(tactic| wtm_at "v2mi_g_to_g_cmp") => `(tactic| (with_reducible refine MI.o_notN ?_))
local macro_rules | `(tactic| wtm_at "v2mi_g_to_g_cmp") => `(tactic| (with_reducible refine MI.o_isN ?_))
local macro_rules | `(tactic| wtm_at "v2mi_g_to_g_cmp") => `(tactic| ((with_reducible refine' MI.o_notinT ?h1 ?_); (case h1 => first | rfl | assumption)))
local macro_rules | `(tactic| wtm_at "v2mi_g_to_g_cmp") => `(tactic| ((with_reducible refine' MI.o_notinL ?h1 ?_); (case h1 => first | rfl | assumption)))
local macro_rules | `(tactic| wtm_at "v2mi_g_to_g_cmp") => `(tactic| ((with_reducible refine' MI.o_inT ?h1 ?_); (case h1 => first | rfl | assumption)))
local macro_rules | `(tactic| wtm_at "v2mi_g_to_g_cmp") => `(tactic| ((with_reducible refine' MI.o_inL ?h1 ?_); (case h1 => first | rfl | assumption)))
local macro_rules | `(tactic| wtm_at "v2mi_g_to_g_cmp") => `(tactic| ((with_reducible refine' MI.o_ne ?h1 ?_); (case h1 => first | rfl | assumption)))
local macro_rules | `(tactic| wtm_at "v2mi_g_to_g_cmp") => `(tactic| ((with_reducible refine' MI.o_eq ?h1 ?_); (case h1 => first | rfl | assumption)))
local macro_rules | `(tactic| wtm_at "v2mi_g_to_g_cmp") => `(tactic| (with_reducible refine MI.o_ge ?_))
local macro_rules | `(tactic| wtm_at "v2mi_g_to_g_cmp") => `(tactic| (with_reducible refine MI.o_gt ?_))
local macro_rules | `(tactic| wtm_at "v2mi_g_to_g_cmp") => `(tactic| (with_reducible refine MI.o_le ?_))
local macro_rules | `(tactic| wtm_at "v2mi_g_to_g_cmp") => `(tactic| (with_reducible refine MI.o_lt ?_))
local macro_rules | `(tactic| wtm_at "v2mi_g_to_g_blt") => `(tactic| (with_reducible refine MI.o_tupT ?_))
local macro_rules | `(tactic| wtm_at "v2mi_g_to_g_blt") => `(tactic| (with_reducible refine MI.o_tupL ?_))
local macro_rules | `(tactic| wtm_at "v2mi_g_to_g_blt") => `(tactic| (with_reducible refine MI.o_intB ?_))
local macro_rules | `(tactic| wtm_at "v2mi_g_to_g_blt") => `(tactic| (with_reducible refine MI.o_strS ?_))
local macro_rules | `(tactic| wtm_at "v2mi_g_to_g_blt") => `(tactic| ((with_reducible refine' MI.o_lenS ?h1 ?_); (case h1 => first | rfl | assumption)))
local macro_rules | `(tactic| wtm_at "v2mi_g_to_g_blt") => `(tactic| (with_reducible refine MI.o_lenL ?_))
local macro_rules | `(tactic| wtm_at "v2mi_g_to_g_blt") => `(tactic| (with_reducible refine MI.o_lenT ?_))
local macro_rules | `(tactic| wtm_at "v2mi_g_to_g_blt") => `(tactic| (with_reducible refine MI.o_min2 ?_))
local macro_rules | `(tactic| wtm_at "v2mi_g_to_g_blt") => `(tactic| (with_reducible refine MI.o_max2 ?_))
local macro_rules | `(tactic| wtm_at "v2mi_g_to_g_blt") => `(tactic| (with_reducible refine MI.o_int ?_))
local macro_rules | `(tactic| wtm_at "v2mi_g_to_g_blt") => `(tactic| (with_reducible refine MI.o_abs ?_))
local macro_rules | `(tactic| wtm_at "v2mi_g_to_g_exM") => `(tactic| (with_reducible refine MI.m_par2 ?_))
local macro_rules | `(tactic| wtm_at "v2mi_g_to_g_exM") => `(tactic| (with_reducible refine MI.m_asg ?_))
local macro_rules | `(tactic| wtm_at "v2mi_g_to_g_exM") => `(tactic| (with_reducible refine MI.m_tryN ?_))
local macro_rules | `(tactic| wtm_at "v2mi_g_to_g_exM") => `(tactic| (with_reducible refine MI.m_asgT ?_))
local macro_rules | `(tactic| wtm_at "v2mi_g_to_g_exM") => `(tactic| (with_reducible refine MI.m_setx ?_))
local macro_rules | `(tactic| wtm_at "v2mi_g_to_g_exM") => `(tactic| (with_reducible refine MI.m_skip ?_))
local macro_rules | `(tactic| wtm_at "v2mi_g_to_g_exM") => `(tactic| (with_reducible refine MI.m_for ?_))
local macro_rules | `(tactic| wtm_at "v2mi_g_to_g_exM") => `(tactic| (with_reducible refine MI.m_exp ?_))
local macro_rules | `(tactic| wtm_at "v2mi_g_to_g_exM") => `(tactic| (with_reducible refine MI.m_ret ?_))
local macro_rules | `(tactic| wtm_at "v2mi_g_to_g_exM") => `(tactic| (with_reducible refine MI.m_iff ?_))
local macro_rules | `(tactic| wtm_at "v2mi_g_to_g_exM") => `(tactic| (with_reducible refine MI.m_seq ?_))
local macro_rules | `(tactic| wtm_at "v2mi_g_to_g_evI") => `(tactic| (with_reducible refine MI.r_zip ?_))
local macro_rules | `(tactic| wtm_at "v2mi_g_to_g_evI") => `(tactic| (with_reducible refine MI.r_enum ?_))
local macro_rules | `(tactic| wtm_at "v2mi_g_to_g_evI") => `(tactic| (with_reducible refine MI.i_seqL ?_))
local macro_rules | `(tactic| wtm_at "v2mi_g_to_g_evI") => `(tactic| (with_reducible refine MI.i_rng ?_))
local macro_rules | `(tactic| wtm_at "v2mi_g_to_g_evC") => `(tactic| (with_reducible refine MI.r_one ?_))
local macro_rules | `(tactic| wtm_at "v2mi_g_to_g_evC") => `(tactic| (with_reducible refine MI.r_omit ?_))
local macro_rules | `(tactic| wtm_at "v2mi_g_to_g_lv") => `(tactic| ((with_reducible refine' MI.l_rt ?h1 ?_); (case h1 => first | rfl | simp only [List.length_set])))
local macro_rules | `(tactic| wtm_at "v2mi_g_to") => `(tactic| ((with_reducible refine' MI.o_slcS ?h1 ?_); (case h1 => first | rfl | assumption)))
local macro_rules | `(tactic| wtm_at "v2mi_g_to") => `(tactic| (with_reducible refine MI.o_slcL ?_))
local macro_rules | `(tactic| wtm_at "v2mi_g_to") => `(tactic| ((with_reducible refine' MI.o_setw ?h1 ?h2 ?_); (case h1 => first | assumption | exact MI.get_set (by assumption)); (case h2 => rfl)))
local macro_rules | `(tactic| wtm_at "v2mi_g_to") => `(tactic| (with_reducible refine MI.o_slcT ?_))
local macro_rules | `(tactic| wtm_at "v2mi_g_to") => `(tactic| (with_reducible refine MI.o_neg ?_))
local macro_rules | `(tactic| wtm_at "v2mi_g_to") => `(tactic| (with_reducible refine MI.o_newF ?_))
local macro_rules | `(tactic| wtm_at "v2mi_g_to") => `(tactic| ((with_reducible refine MI.g_lv ?_); wtm_at "v2mi_g_to_g_lv"))
local macro_rules | `(tactic| wtm_at "v2mi_g_to") => `(tactic| ((with_reducible refine MI.g_evC ?_); wtm_at "v2mi_g_to_g_evC"))
local macro_rules | `(tactic| wtm_at "v2mi_g_to") => `(tactic| ((with_reducible refine MI.g_evI ?_); wtm_at "v2mi_g_to_g_evI"))
local macro_rules | `(tactic| wtm_at "v2mi_g_to") => `(tactic| ((with_reducible refine MI.g_exM ?_); wtm_at "v2mi_g_to_g_exM"))
local macro_rules | `(tactic| wtm_at "v2mi_g_to") => `(tactic| ((with_reducible refine MI.g_blt ?_); wtm_at "v2mi_g_to_g_blt"))
local macro_rules | `(tactic| wtm_at "v2mi_g_to") => `(tactic| ((with_reducible refine MI.g_cmp ?_); wtm_at "v2mi_g_to_g_cmp"))
local macro_rules | `(tactic| wtm_at "v2mi_g_to") => `(tactic| ((with_reducible refine MI.g_bin ?_); wtm_at "v2mi_g_to_g_bin"))
local macro_rules | `(tactic| wtm_at "v2mi_g_to") => `(tactic| ((with_reducible refine MI.g_evL ?_); wtm_at "v2mi_g_to_g_evL"))
local macro_rules | `(tactic| wtm_at "v2mi_g_to") => `(tactic| ((with_reducible refine MI.g_evE ?_); wtm_at "v2mi_g_to_g_evE"))
local macro_rules | `(tactic| wtm_at "v2mi") => `(tactic| (with_reducible refine MI.txQ_mk ?_))
local macro_rules | `(tactic| wtm_at "v2mi") => `(tactic| (with_reducible refine MI.zpQ_tl ?_))
local macro_rules | `(tactic| wtm_at "v2mi") => `(tactic| (with_reducible refine MI.zpQ_ll ?_))
local macro_rules | `(tactic| wtm_at "v2mi") => `(tactic| (with_reducible refine MI.zpQ_tt ?_))
local macro_rules | `(tactic| wtm_at "v2mi") => `(tactic| ((with_reducible refine' MI.bnQ_mk ?h1 ?_); (case h1 => rfl)))
local macro_rules | `(tactic| wtm_at "v2mi") => `(tactic| (with_reducible refine MI.sdQ_t ?_))
local macro_rules | `(tactic| wtm_at "v2mi") => `(tactic| (with_reducible refine MI.sdQ_l ?_))
local macro_rules | `(tactic| wtm_at "v2mi") => `(tactic| ((with_reducible refine' MI.rgQ_mk ?h1 ?h2 ?_); (case h1 => first | assumption | decide | omega); (case h2 => first | assumption | decide | omega)))
local macro_rules | `(tactic| wtm_at "v2mi") => `(tactic| ((with_reducible refine' MI.asQ_mk ?h1 ?_); (case h1 => rfl)))
local macro_rules | `(tactic| wtm_at "v2mi") => `(tactic| ((with_reducible refine' MI.dtQ_r ?h1 ?_); (case h1 => first | assumption | exact MI.get_set (by assumption))))
local macro_rules | `(tactic| wtm_at "v2mi") => `(tactic| (with_reducible refine MI.dtQ_d ?_))
local macro_rules | `(tactic| wtm_at "v2mi") => `(tactic| ((with_reducible refine' MI.ixQ_mk ?h1 ?_); (case h1 => first | rfl | assumption)))
local macro_rules | `(tactic| wtm_at "v2mi") => `(tactic| ((with_reducible refine' MI.sqQ_r ?h1 ?_); (case h1 => first | assumption | exact MI.get_set (by assumption))))
local macro_rules | `(tactic| wtm_at "v2mi") => `(tactic| (with_reducible refine MI.sqQ_t ?_))
local macro_rules | `(tactic| wtm_at "v2mi") => `(tactic| (with_reducible refine MI.sqQ_l ?_))
local macro_rules | `(tactic| wtm_at "v2mi") => `(tactic| (with_reducible refine MI.p2Q_mk ?_))
local macro_rules | `(tactic| wtm_at "v2mi") => `(tactic| ((with_reducible refine' MI.daQ_mk ?h1 ?h2 ?_); (case h1 => repeat (first | exact MI.da_nil | apply MI.da_cons)); (case h2 => first | rfl | decide)))
local macro_rules | `(tactic| wtm_at "v2mi") => `(tactic| (with_reducible refine MI.inQ_mk ?_))
local macro_rules | `(tactic| wtm_at "v2mi") => `(tactic| (with_reducible refine MI.boQ_mk ?_))
local macro_rules | `(tactic| wtm_at "v2mi") => `(tactic| ((with_reducible refine MI.br_mk ?_ ?_) <;> intro hc <;> try (cases hc; done)))
local macro_rules | `(tactic| wtm_at "v2mi") => `(tactic| ((with_reducible refine MI.g_to ?_); wtm_at "v2mi_g_to"))

section S_HoB
namespace TX
open PySem MI
local macro_rules | `(tactic| wtm_at "mi") => `(tactic| first | wtm_at "v2mi" | fail)

theorem fin_b {b c : Bool} {S : Store} {Q : W → Store → Prop} (q : Q (.d (.bool b)) S) (e : b = c) : Q (.d (.bool c)) S := by rw [← e]; exact q
def fromB (v : D) (lo hi : Int) : Bool := match v with
  | .int i => decide (lo ≤ i) && decide (i ≤ hi)
  | _ => false
theorem is_from_to {F k : Nat} {S : Store} {v : D} {lo hi : Int} {Q : W → Store → Prop} (q : Q (.d (.bool (fromB v lo hi))) S) : (callP PD F (k + 1) 6 [.d v, .d (.int lo), .d (.int hi)] S).to Q := by
  refine p_call pd6 rfl ?_
  show (exM _ F m6 (startL 3 _) S).to _
  unfold m6
  cases v
  all_goals repeat' wtm_at "mi"
  all_goals refine fin_b q ?_
  all_goals first | rfl | (simp_all [fromB, tyD]; done) | (simp_all [fromB, tyD]; omega)
theorem fromB_int {v : D} {lo hi : Int} (h : fromB v lo hi = true) : ∃ i, v = .int i ∧ lo ≤ i ∧ i ≤ hi := by
  cases v with
  | int i =>
    unfold fromB at h
    simp only [Bool.and_eq_true, decide_eq_true_eq] at h
    exact ⟨i, rfl, h⟩
  | _ => cases h
theorem size_of_to {F k : Nat} {S : Store} {g e l hi ro ev : Int} {lo od ah : D} {Q : W → Store → Prop} (hg : 1 ≤ g) (hg2 : g ≤ 4) (h1 : 0 ≤ e) (h2 : e ≤ 3) (h3 : 0 ≤ l) (h4 : l ≤ 3) (h5 : 1 ≤ hi) (h6 : hi ≤ 4) (h7 : 0 ≤ ro) (h8 : ro ≤ 1000) (h9 : 0 ≤ ev) (h10 : ev ≤ 2)
    (q : Q (.d (.int (sizeF g e l hi ro ev))) S) : (callP PD F (k + 1) 5 [.d (.tuple [.int g, .int e, .int l, lo, .int hi, .int ro, od, .int ev, ah])] S).to Q := by
  obtain ⟨m1, m2⟩ := many_range hg h1 h2 h3 h4
  have hg0 : 0 < g := by omega
  have hg3 : g < 1073741824 := by omega
  refine p_call pd5 rfl ?_
  show (exM _ F m5 (startL 13 _) S).to _
  unfold m5
  repeat' wtm_at "mi"
  have m1' : 1 ≤ (e + l) / g + 1 := m1
  have m2' : (e + l) / g + 1 ≤ 7 := m2
  refine rgQ_mk (by omega) (by omega) ?_
  refine foQ_mk (fun i ls S' => S' = S ∧ ∃ t, ls = [some (.d (.tuple [.int g, .int e, .int l, lo, .int hi, .int ro, od, .int ev, ah])), some (.d (.int g)), some (.d (.int e)), some (.d (.int l)), some (.d lo), some (.d (.int hi)), some (.d (.int ro)), some (.d od), some (.d (.int ev)), some (.d ah), some (.d (.int (manyF g e l))),
    some (.d (.int (g * hi * (ev + 1) * 2 ^ i))), t]) ⟨rfl, none, by simp; rfl⟩ ?_ ?_
  · rintro j x hx ls S' ⟨rfl, t, rfl⟩
    repeat' wtm_at "mi"
    exact ⟨rfl, some (.d x), by simp [Int.pow_succ, Int.mul_assoc]⟩
  · rintro ls S' ⟨rfl, t, rfl⟩
    rw [List.length_map, List.length_range]
    repeat' wtm_at "mi"
    refine foQ_mk (fun i ls S'' => S'' = S' ∧ ∃ t, ls = [some (.d (.tuple [.int g, .int e, .int l, lo, .int hi, .int ro, od, .int ev, ah])), some (.d (.int g)), some (.d (.int e)), some (.d (.int l)), some (.d lo), some (.d (.int hi)), some (.d (.int ro)), some (.d od), some (.d (.int ev)), some (.d ah), some (.d (.int (manyF g e l))),
      some (.d (.int (g * hi * (ev + 1) * 2 ^ (manyF g e l).toNat * (2 * manyF g e l + 3) ^ i))), t]) ⟨rfl, t, by simp; rfl⟩ ?_ ?_
    · rintro j x hx ls S'' ⟨rfl, t, rfl⟩
      repeat' wtm_at "mi"
      exact ⟨rfl, some (.d x), by simp [Int.pow_succ, Int.mul_assoc]⟩
    · rintro ls S'' ⟨rfl, t, rfl⟩
      rw [List.length_map, List.length_range]
      repeat' wtm_at "mi"
      exact q
def loB (lo hi : D) : Bool := match hi with
  | .int h => fromB lo 1 h
  | _ => false
def szB : D → D → D → D → D → D → Bool
  | .int g, .int e, .int l, .int hi, .int ro, .int ev => decide (sizeF g e l hi ro ev ≤ 3000)
  | _, _, _, _, _, _ => false
def words : List D := [.str "come", .str "late", .str "slot"]
def okB9 (g e l lo hi ro od ev ah : D) : Bool := fromB g 1 4 && fromB e 0 3 && fromB l 0 3 && fromB hi 1 4 && loB lo hi && fromB ro 1 2 && fromB ev 0 2 && tyD .str od && memD od words && tyD .bool ah && szB g e l hi ro ev
def okB : D → Bool
  | .tuple [g, e, l, lo, hi, ro, od, ev, ah] => okB9 g e l lo hi ro od ev ah
  | _ => false
theorem nine {xs : List D} (h : xs.length = 9) : ∃ g e l lo hi ro od ev ah, xs = [g, e, l, lo, hi, ro, od, ev, ah] := by
  match xs, h with
  | [g, e, l, lo, hi, ro, od, ev, ah], _ => exact ⟨g, e, l, lo, hi, ro, od, ev, ah, rfl⟩
theorem okB_len {xs : List D} (h : xs.length ≠ 9) : okB (.tuple xs) = false := by
  unfold okB
  split
  · next e => cases e; exact absurd rfl h
  · rfl
theorem ty_str {od : D} (h : (!tyD .str od) = false) : ∃ z, od = .str z := by
  cases od with
  | str z => exact ⟨z, rfl⟩
  | _ => cases h
theorem len9 {n : Nat} (h : (!(PyData.int (n : Int)).eqv (.int 9)) = false) : n = 9 := by
  simp [PyData.eqv] at h
  omega
theorem not_f {b : Bool} (h : (!b) = false) : b = true := by cases b <;> simp_all
theorem is_house_to {F k : Nat} {S : Store} {v : D} {Q : W → Store → Prop} (q : Q (.d (.bool (okB v))) S) : (callP PD F (k + 2) 7 [.d v] S).to Q := by
  refine p_call pd7 rfl ?_
  show (exM _ F m7 (startL 10 _) S).to _
  unfold m7
  cases v with
  | tuple xs =>
    by_cases hl : xs.length = 9
    · obtain ⟨g, e, l, lo, hi, ro, od, ev, ah, rfl⟩ := nine hl
      by_cases c : (fromB g 1 4 && fromB e 0 3 && fromB l 0 3 && fromB hi 1 4) = true
      · simp only [Bool.and_eq_true] at c
        obtain ⟨⟨⟨c1, c2⟩, c3⟩, c4⟩ := c
        obtain ⟨g, rfl, g1, g2⟩ := fromB_int c1
        obtain ⟨e, rfl, e1, e2⟩ := fromB_int c2
        obtain ⟨l, rfl, l1, l2⟩ := fromB_int c3
        obtain ⟨hi, rfl, u1, u2⟩ := fromB_int c4
        repeat' first | wtm_at "mi" | (with_reducible refine is_from_to ?_)
        all_goals try (refine fin_b q ?_; simp_all [okB, okB9, loB]; done)
        rename_i n1 n2 n3 n4
        obtain ⟨ro, rfl, r1, r2⟩ := fromB_int (not_f n2)
        obtain ⟨ev, rfl, v1, v2⟩ := fromB_int (not_f n3)
        obtain ⟨z, rfl⟩ := ty_str n4
        repeat' first | wtm_at "mi" | (with_reducible refine size_of_to g1 g2 e1 e2 l1 l2 u1 u2 (by omega) (by omega) v1 v2 ?_)
        all_goals (refine fin_b q ?_; simp_all [okB, okB9, loB, szB, words]; done)
      · repeat' first | wtm_at "mi" | (with_reducible refine is_from_to ?_)
        all_goals first | (refine fin_b q ?_; simp_all [okB, okB9, loB]; done) | (exfalso; simp_all; done)
    · repeat' wtm_at "mi"
      all_goals first | (refine fin_b q ?_; simp_all [okB_len]; done) | (rename_i n1; exact absurd (len9 n1) hl)
  | _ =>
    repeat' wtm_at "mi"
    exact q
theorem need_house_to {F k : Nat} {S : Store} {v : D} {Q : W → Store → Prop} (h : okB v = true) (q : Q (.d .none) S) : (callP PD F (k + 3) 8 [.d v] S).to Q := by
  refine p_call pd8 rfl ?_
  show (exM _ F m8 (startL 1 _) S).to _
  unfold m8
  repeat' first | wtm_at "mi" | (with_reducible refine is_house_to ?_)
  · rename_i hc; rw [h] at hc; cases hc
  · show Q (.d .none) (S.take S.length)
    rw [List.take_length]; exact q
theorem okB_of {g e l lo hi ro ev : Int} {z : Str} {b : Bool} (g1 : 1 ≤ g) (g2 : g ≤ 4) (e1 : 0 ≤ e) (e2 : e ≤ 3) (l1 : 0 ≤ l) (l2 : l ≤ 3) (o1 : 1 ≤ lo) (o2 : lo ≤ hi) (u2 : hi ≤ 4) (r1 : 1 ≤ ro) (r2 : ro ≤ 2) (zz : z = "come" ∨ z = "late" ∨ z = "slot") (v1 : 0 ≤ ev) (v2 : ev ≤ 2) (hz : sizeF g e l hi ro ev ≤ 3000) :
    okB (.tuple [.int g, .int e, .int l, .int lo, .int hi, .int ro, .str z, .int ev, .bool b]) = true := by
  have u1 : 1 ≤ hi := by omega
  have hw : memD (.str z) words = true := by rcases zz with rfl | rfl | rfl <;> decide +kernel
  have hs : tyD .str (.str z) = true := rfl
  have hb : tyD .bool (.bool b) = true := rfl
  unfold okB okB9 szB loB fromB
  simp only [g1, g2, e1, e2, l1, l2, o1, o2, u1, u2, r1, r2, v1, v2, hz, hw, hs, hb, decide_true, Bool.and_self]
theorem okB_house {v : D} {B : Int} (h : HouseV B v) (hB : B ≤ 3000) : okB v = true := by
  obtain ⟨g, e, l, lo, hi, ro, ev, z, b, rfl, g1, g2, e1, e2, l1, l2, o1, o2, u2, r1, r2, zz, v1, v2, hz⟩ := h.ex
  exact okB_of g1 (by omega) e1 (by omega) l1 (by omega) o1 o2 (by omega) r1 r2 zz v1 v2 (by omega)
theorem sz_gap : ((List.range 3).all fun g => (List.range 3).all fun e => (List.range 3).all fun l => (List.range 3).all fun hi => (List.range 2).all fun ro => (List.range 3).all fun ev => !decide (Lc.sizeN (g + 1) e l (hi + 1) (ro + 1) ev ≤ 3520) || decide (Lc.sizeN (g + 1) e l (hi + 1) (ro + 1) ev ≤ 3000)) = true := by decide +kernel
theorem house_gap {v : D} (h : HouseV 3520 v) : HouseV 3000 v := by
  obtain ⟨g, e, l, lo, hi, ro, ev, z, b, rfl, g1, g2, e1, e2, l1, l2, o1, o2, u2, r1, r2, zz, v1, v2, hz⟩ := h.ex
  refine ⟨g, e, l, lo, hi, ro, ev, z, b, rfl, g1, g2, e1, e2, l1, l2, o1, o2, u2, r1, r2, zz, v1, v2, ?_⟩
  have hk := sz_gap
  simp only [List.all_eq_true, List.mem_range] at hk
  have := hk (g - 1).toNat (by omega) e.toNat (by omega) l.toNat (by omega) (hi - 1).toNat (by omega) (ro - 1).toNat (by omega) ev.toNat (by omega)
  have q := size_nat ((g - 1).toNat + 1) e.toNat l.toNat ((hi - 1).toNat + 1) ((ro - 1).toNat + 1) ev.toNat
  rw [show (((g - 1).toNat + 1 : Nat) : Int) = g by omega, show ((e.toNat : Nat) : Int) = e by omega, show ((l.toNat : Nat) : Int) = l by omega, show (((hi - 1).toNat + 1 : Nat) : Int) = hi by omega, show (((ro - 1).toNat + 1 : Nat) : Int) = ro by omega, show ((ev.toNat : Nat) : Int) = ev by omega] at q
  rw [q] at hz ⊢
  have hz' : Lc.sizeN ((g - 1).toNat + 1) e.toNat l.toNat ((hi - 1).toNat + 1) ((ro - 1).toNat + 1) ev.toNat ≤ 3520 := by omega
  simp only [decide_eq_true hz', Bool.not_true, Bool.false_or, decide_eq_true_eq] at this
  omega
end TX

end S_HoB
section S_HoC
namespace TX
open PySem MI
local macro_rules | `(tactic| wtm_at "mi") => `(tactic| first | wtm_at "v2mi" | fail)

theorem len_cat (a b : Str) : (a ++ b).length = a.length + b.length := by
  show (a.cps ++ b.cps).size = _
  rw [Array.size_append]
  rfl
def numS (i : Int) : Str := Str.ofString (toString i)
theorem small5 {i : Int} (h0 : 0 ≤ i) (h1 : i ≤ 4) : i = 0 ∨ i = 1 ∨ i = 2 ∨ i = 3 ∨ i = 4 := by omega
theorem numS_eq {i : Int} (h0 : 0 ≤ i) (h1 : i ≤ 4) : numS i = SX.S [48 + i.toNat] := by
  rcases small5 h0 h1 with rfl | rfl | rfl | rfl | rfl <;> decide +kernel
theorem numS_len {i : Int} (h0 : 0 ≤ i) (h1 : i ≤ 4) : (numS i).length = 1 := by rw [numS_eq h0 h1, SX.S_len]; rfl
theorem o_strN {S : Store} {Q : W → Store → Prop} {i : Int} (h0 : 0 ≤ i) (h1 : i ≤ 4) (q : Q (.d (.str (numS i))) S) : (bltW .str [.d (.int i)] S).to Q :=
  o_strI (by rcases small5 h0 h1 with rfl | rfl | rfl | rfl | rfl <;> decide) q
theorem eq_len : ("=" : Str).length = 1 := by decide +kernel
def partS (k v : Str) : Str := k ++ "=" ++ v
def strOf : D → Str
  | .int i => numS i
  | .str z => z
  | _ => ""
def lineF : D → D
  | .tuple [.str k, v] => .str (k ++ "=" ++ strOf v)
  | _ => .none
def Shrt (v : D) : Prop := (∃ i, v = .int i ∧ 0 ≤ i ∧ i ≤ 4) ∨ ∃ z : Str, v = .str z ∧ z.length ≤ 5
def words8 (g e l lo hi ro ev : Int) (z : Str) : List Str := [partS "gap" (numS g), partS "early" (numS e), partS "late" (numS l), partS "low" (numS lo), partS "high" (numS hi), partS "room" (numS ro), partS "order" z, partS "every" (numS ev)]
def wordsL (g e l lo hi ro ev : Int) (z : Str) (b : Bool) : List Str := words8 g e l lo hi ro ev z ++ (if b then [("ahead" : Str)] else [])
def lineS (g e l lo hi ro ev : Int) (z : Str) (b : Bool) : Str := Txt.join " " (wordsL g e l lo hi ro ev z b)
theorem part_len {k v : Str} {n : Nat} (hk : k.length ≤ 5) (hv : v.length ≤ n) : (partS k v).length ≤ n + 6 := by
  unfold partS
  rw [len_cat, len_cat, eq_len]
  omega
theorem pl : ("gap" : Str).length ≤ 5 ∧ ("early" : Str).length ≤ 5 ∧ ("late" : Str).length ≤ 5 ∧ ("low" : Str).length ≤ 5 ∧ ("high" : Str).length ≤ 5 ∧ ("room" : Str).length ≤ 5 ∧ ("order" : Str).length ≤ 5 ∧ ("every" : Str).length ≤ 5 := by decide +kernel
structure Nums (g e l lo hi ro ev : Int) (z : Str) : Prop where
  g : 0 ≤ g ∧ g ≤ 4
  e : 0 ≤ e ∧ e ≤ 4
  l : 0 ≤ l ∧ l ≤ 4
  lo : 0 ≤ lo ∧ lo ≤ 4
  hi : 0 ≤ hi ∧ hi ≤ 4
  ro : 0 ≤ ro ∧ ro ≤ 4
  ev : 0 ≤ ev ∧ ev ≤ 4
  z : z = "come" ∨ z = "late" ∨ z = "slot"
theorem z_len {z : Str} (h : z = "come" ∨ z = "late" ∨ z = "slot") : z.length = 4 := by rcases h with rfl | rfl | rfl <;> decide +kernel
theorem strs_map : ∀ ys : List Str, strsOf (ys.map PyData.str) = some ys
  | [] => rfl
  | y :: ys => by
    show (strsOf (ys.map PyData.str)).map (y :: ·) = _
    rw [strs_map ys]; rfl
theorem words_len {g e l lo hi ro ev : Int} {z : Str} (N : Nums g e l lo hi ro ev z) : ∀ w ∈ words8 g e l lo hi ro ev z, w.length ≤ 10 := by
  obtain ⟨p1, p2, p3, p4, p5, p6, p7, p8⟩ := pl
  have n1 := numS_len N.g.1 N.g.2
  have n2 := numS_len N.e.1 N.e.2
  have n3 := numS_len N.l.1 N.l.2
  have n4 := numS_len N.lo.1 N.lo.2
  have n5 := numS_len N.hi.1 N.hi.2
  have n6 := numS_len N.ro.1 N.ro.2
  have n7 := numS_len N.ev.1 N.ev.2
  have n8 := z_len N.z
  intro w hw
  simp only [words8, List.mem_cons, List.not_mem_nil, or_false] at hw
  rcases hw with rfl | rfl | rfl | rfl | rfl | rfl | rfl | rfl
  · exact part_len (n := 4) p1 (by omega)
  · exact part_len (n := 4) p2 (by omega)
  · exact part_len (n := 4) p3 (by omega)
  · exact part_len (n := 4) p4 (by omega)
  · exact part_len (n := 4) p5 (by omega)
  · exact part_len (n := 4) p6 (by omega)
  · exact part_len (n := 4) p7 (by omega)
  · exact part_len (n := 4) p8 (by omega)
theorem sum_le {xs : List Str} {n : Nat} (h : ∀ w ∈ xs, w.length ≤ n) : (xs.map (·.length)).sum ≤ xs.length * n := by
  induction xs with
  | nil => simp
  | cons x xs ih =>
    rw [List.map_cons, List.sum_cons, List.length_cons, Nat.succ_mul]
    have := ih fun w hw => h w (List.mem_cons_of_mem _ hw)
    have := h x (List.mem_cons_self ..)
    omega
theorem wordsL_len {g e l lo hi ro ev : Int} {z : Str} {b : Bool} (N : Nums g e l lo hi ro ev z) : ∀ w ∈ wordsL g e l lo hi ro ev z b, w.length ≤ 10 := by
  intro w hw
  unfold wordsL at hw
  rcases List.mem_append.mp hw with h | h
  · exact words_len N w h
  · cases b with
    | true =>
      have : w = "ahead" := by simpa using h
      rw [this]
      decide +kernel
    | false => cases h
theorem line_of_to {F k : Nat} {S : Store} {g e l lo hi ro ev : Int} {z : Str} {b : Bool} {Q : W → Store → Prop} (N : Nums g e l lo hi ro ev z) (q : Q (.d (.str (lineS g e l lo hi ro ev z b))) S) :
    (callP PD F (k + 1) 9 [.d (.tuple [.int g, .int e, .int l, .int lo, .int hi, .int ro, .str z, .int ev, .bool b])] S).to Q := by
  refine p_call pd9 rfl ?_
  show (exM _ F m9 (startL 4 _) S).to _
  unfold m9
  repeat' wtm_at "mi"
  refine coQ_mk lineF (fun _ => true) (show 8 ≤ sizeLine by decide) ?_ ?_
  · intro j x hx
    obtain ⟨kk, v, rfl, hk, hv⟩ : ∃ (kk : Str) (v : D), x = .tuple [.str kk, v] ∧ kk.length ≤ 5 ∧ Shrt v := by
      obtain ⟨p1, p2, p3, p4, p5, p6, p7, p8⟩ := pl
      rcases j with _ | _ | _ | _ | _ | _ | _ | _ | j
      · cases hx; exact ⟨_, _, rfl, p1, .inl ⟨_, rfl, N.g⟩⟩
      · cases hx; exact ⟨_, _, rfl, p2, .inl ⟨_, rfl, N.e⟩⟩
      · cases hx; exact ⟨_, _, rfl, p3, .inl ⟨_, rfl, N.l⟩⟩
      · cases hx; exact ⟨_, _, rfl, p4, .inl ⟨_, rfl, N.lo⟩⟩
      · cases hx; exact ⟨_, _, rfl, p5, .inl ⟨_, rfl, N.hi⟩⟩
      · cases hx; exact ⟨_, _, rfl, p6, .inl ⟨_, rfl, N.ro⟩⟩
      · cases hx; exact ⟨_, _, rfl, p7, .inr ⟨_, rfl, by rw [z_len N.z]; decide⟩⟩
      · cases hx; exact ⟨_, _, rfl, p8, .inl ⟨_, rfl, N.ev⟩⟩
      · cases hx
    refine ⟨_, rfl, ?_, fun _ => ?_⟩
    · repeat' wtm_at "mi"
      exact ⟨rfl, rfl⟩
    · rcases hv with ⟨i, rfl, i0, i1⟩ | ⟨zz, rfl, hz⟩
      · have hn := numS_len i0 i1
        repeat' first | wtm_at "mi" | (with_reducible refine o_strN i0 i1 ?_) | ((with_reducible refine' o_addS ?h1 ?_); (case h1 => refine fits_of ?_; (try simp only [len_cat, eq_len]); omega))
        exact ⟨rfl, rfl⟩
      · repeat' first | wtm_at "mi" | ((with_reducible refine' o_addS ?h1 ?_); (case h1 => refine fits_of ?_; (try simp only [len_cat, eq_len]); omega))
        exact ⟨rfl, rfl⟩
  · repeat' wtm_at "mi"
    refine ⟨by split <;> decide, by split <;> decide, by cases b <;> rfl, ?_⟩
    have e1 : (List.map lineF (List.filter (fun _ => true) (zipD (cutD [.str "gap", .str "early", .str "late", .str "low", .str "high", .str "room", .str "order", .str "every", .str "ahead"] none (some 8)) (cutD [.int g, .int e, .int l, .int lo, .int hi, .int ro, .str z, .int ev, .bool b] none (some 8))))) ++ repD [.str "ahead"] (if b then 1 else 0) = (wordsL g e l lo hi ro ev z b).map PyData.str := by
      cases b <;> rfl
    refine o_addL (by cases b <;> rfl) ?_
    refine sqQ_l ?_
    refine ⟨wordsL g e l lo hi ro ev z b, by rw [← strs_map]; exact congrArg strsOf e1, ?_, ?_⟩
    · have h1 := sum_le (wordsL_len N (b := b))
      have h2 : (wordsL g e l lo hi ro ev z b).length ≤ 9 := by
        cases b
        · show 8 ≤ 9; decide
        · show 9 ≤ 9; decide
      have h3 : (" " : Str).length = 1 := by decide +kernel
      rw [h3]
      omega
    · repeat' wtm_at "mi"
      exact q
end TX

end S_HoC
section S_HoD
namespace TX
open PySem MI
local macro_rules | `(tactic| wtm_at "mi") => `(tactic| first | wtm_at "v2mi" | fail)

theorem house_line_to {F k : Nat} {S : Store} {g e l lo hi ro ev : Int} {z : Str} {b : Bool} {Q : W → Store → Prop} (h : okB (.tuple [.int g, .int e, .int l, .int lo, .int hi, .int ro, .str z, .int ev, .bool b]) = true) (N : Nums g e l lo hi ro ev z) (q : Q (.d (.str (lineS g e l lo hi ro ev z b))) S) :
    (callP PD F (k + 4) 10 [.d (.tuple [.int g, .int e, .int l, .int lo, .int hi, .int ro, .str z, .int ev, .bool b])] S).to Q := by
  refine p_call pd10 rfl ?_
  show (exM _ F m10 (startL 1 _) S).to _
  unfold m10
  repeat' first | wtm_at "mi" | (with_reducible refine need_house_to h ?_) | (with_reducible refine line_of_to N ?_)
  exact q
def numsS : List Str := ["0", "1", "2", "3", "4"]
def vF (part word : Str) : D :=
  if (L2.cutS word none (some ((part.length : Int) + 1)) == part ++ "=") = true then
    if (part == "order") = true then .str (L2.cutS word (some ((part.length : Int) + 1)) none)
    else match numsS.findIdx? (fun u => u == L2.cutS word (some ((part.length : Int) + 1)) none) with
      | some j => .int (j : Nat)
      | none => .none
  else .none
theorem mem_strs (r : Str) : ∀ ys : List Str, memD (.str r) (ys.map PyData.str) = (ys.findIdx? fun u => u == r).isSome
  | [] => rfl
  | y :: ys => by
    have ih := mem_strs r ys
    unfold memD at ih ⊢
    rw [List.map_cons, List.any_cons, ih, List.findIdx?_cons]
    have e : PyData.eqv (.str y) (.str r) = (y == r) := rfl
    rw [e]
    cases y == r with
    | true => rfl
    | false =>
      rw [Bool.false_or, if_neg (by decide)]
      cases ys.findIdx? (fun u => u == r) <;> rfl
theorem value_from_to {F k : Nat} {S : Store} {part word : Str} {Q : W → Store → Prop} (h1 : part.length ≤ 100) (h2 : word.length ≤ 1000) (q : Q (.d (vF part word)) S) : (callP PD F (k + 1) 11 [.d (.str part), .d (.str word)] S).to Q := by
  have f1 : fits part.length = true := fits_of (by omega)
  have f2 : fits word.length = true := fits_of h2
  have f3 : fits (part.length + ("=" : Str).length) = true := fits_of (by rw [eq_len]; omega)
  have hn : numsS.map PyData.str = [.str "0", .str "1", .str "2", .str "3", .str "4"] := rfl
  refine p_call pd11 rfl ?_
  show (exM _ F m11 (startL 3 _) S).to _
  unfold m11
  unfold vF at q
  repeat' first | wtm_at "mi" | (with_reducible refine o_addS f3 ?_)
  · rename_i hc
    have hc : (!(L2.cutS word none (some ((part.length : Int) + 1)) == part ++ "=")) = true := hc
    rw [if_neg (by intro c; rw [c] at hc; cases hc)] at q
    exact q
  · rename_i hc ho
    have hc : (!(L2.cutS word none (some ((part.length : Int) + 1)) == part ++ "=")) = false := hc
    have ho : (part == ("order" : Str)) = true := ho
    rw [if_pos (not_f hc), if_pos ho] at q
    exact q
  · rename_i hc ho hm
    have hc : (!(L2.cutS word none (some ((part.length : Int) + 1)) == part ++ "=")) = false := hc
    rw [if_pos (not_f hc), if_neg (by intro c; exact absurd (ho.symm.trans c) (by decide))] at q
    rw [← hn, mem_strs] at hm
    obtain ⟨j, hj⟩ := Option.isSome_iff_exists.mp hm
    rw [hj] at q
    refine o_indx (ys := numsS) rfl hj ?_
    repeat' wtm_at "mi"
    exact q
  · rename_i hc ho hm
    have hc : (!(L2.cutS word none (some ((part.length : Int) + 1)) == part ++ "=")) = false := hc
    rw [if_pos (not_f hc), if_neg (by intro c; exact absurd (ho.symm.trans c) (by decide))] at q
    rw [← hn, mem_strs] at hm
    cases hj : numsS.findIdx? (fun u => u == L2.cutS word (some ((part.length : Int) + 1)) none) with
    | some j => rw [hj] at hm; cases hm
    | none => rw [hj] at q; exact q
def names7 : List Str := ["gap", "early", "late", "low", "high", "room", "every"]
theorem chk7 : (names7.all fun kk => (List.range 5).all fun v => sameD (vF kk (partS kk (numS (v : Nat)))) (.int (v : Nat)) && !(partS kk (numS (v : Nat))).cps.toList.contains 32) = true := by decide +kernel
theorem chk3 : ([("come" : Str), "late", "slot"].all fun z => sameD (vF "order" (partS "order" z)) (.str z) && !(partS "order" z).cps.toList.contains 32) = true := by decide +kernel
theorem vF_num {kk : Str} {v : Int} (hk : kk ∈ names7) (h0 : 0 ≤ v) (h1 : v ≤ 4) : vF kk (partS kk (numS v)) = .int v ∧ 32 ∉ (partS kk (numS v)).cps.toList := by
  have h := chk7
  simp only [List.all_eq_true, List.mem_range, Bool.and_eq_true] at h
  have := h kk hk v.toNat (by omega)
  rw [show ((v.toNat : Nat) : Int) = v by omega] at this
  refine ⟨sameD_eq _ _ this.1, fun hm => ?_⟩
  have h2 := this.2
  rw [List.contains_iff_mem.mpr hm] at h2
  cases h2
theorem vF_word {z : Str} (hz : z = "come" ∨ z = "late" ∨ z = "slot") : vF "order" (partS "order" z) = .str z ∧ 32 ∉ (partS "order" z).cps.toList := by
  have h := chk3
  simp only [List.all_eq_true, Bool.and_eq_true] at h
  have := h z (by rcases hz with rfl | rfl | rfl <;> simp)
  refine ⟨sameD_eq _ _ this.1, fun hm => ?_⟩
  have h2 := this.2
  rw [List.contains_iff_mem.mpr hm] at h2
  cases h2
theorem split_join {ws : List Str} (hne : ws ≠ []) (h : ∀ w ∈ ws, 32 ∉ w.cps.toList) : Txt.split (Txt.join " " ws) " " = ws := by
  have e0 : (" " : Str) = SX.S [32] := by decide +kernel
  have e1 : ws = (ws.map fun w => w.cps.toList).map SX.S := by
    rw [List.map_map]
    conv => lhs; rw [← List.map_id ws]
    exact List.map_congr_left fun w _ => (SX.S_tl w).symm
  rw [e0]
  conv => lhs; rw [e1]
  rw [SX.join_S, SX.split_S (by decide) (by decide), SX.spl_join (by simpa using hne) (by
    intro p hp
    obtain ⟨w, hw, rfl⟩ := List.mem_map.mp hp
    exact h w hw), ← e1]
theorem join_len (y : Str) : ∀ ws : List Str, (Str.join y ws).length ≤ (ws.map (·.length)).sum + ws.length * y.length
  | [] => Nat.zero_le _
  | [x] => by show x.length ≤ _; simp
  | x :: x2 :: ws => by
    have ih := join_len y (x2 :: ws)
    show (x ++ y ++ Str.join y (x2 :: ws)).length ≤ _
    rw [len_cat, len_cat, List.map_cons, List.sum_cons, List.length_cons, Nat.succ_mul]
    omega
theorem line_free {g e l lo hi ro ev : Int} {z : Str} {b : Bool} (N : Nums g e l lo hi ro ev z) : ∀ w ∈ wordsL g e l lo hi ro ev z b, 32 ∉ w.cps.toList := by
  intro w hw
  unfold wordsL at hw
  rcases List.mem_append.mp hw with h | h
  · simp only [words8, List.mem_cons, List.not_mem_nil, or_false] at h
    rcases h with rfl | rfl | rfl | rfl | rfl | rfl | rfl | rfl
    · exact (vF_num (by simp [names7]) N.g.1 N.g.2).2
    · exact (vF_num (by simp [names7]) N.e.1 N.e.2).2
    · exact (vF_num (by simp [names7]) N.l.1 N.l.2).2
    · exact (vF_num (by simp [names7]) N.lo.1 N.lo.2).2
    · exact (vF_num (by simp [names7]) N.hi.1 N.hi.2).2
    · exact (vF_num (by simp [names7]) N.ro.1 N.ro.2).2
    · exact (vF_word N.z).2
    · exact (vF_num (by simp [names7]) N.ev.1 N.ev.2).2
  · cases b with
    | true =>
      have : w = "ahead" := by simpa using h
      rw [this]
      decide +kernel
    | false => cases h
theorem line_split {g e l lo hi ro ev : Int} {z : Str} {b : Bool} (N : Nums g e l lo hi ro ev z) : Txt.split (lineS g e l lo hi ro ev z b) " " = wordsL g e l lo hi ro ev z b :=
  split_join (by unfold wordsL words8; simp) (line_free N)
theorem line_len {g e l lo hi ro ev : Int} {z : Str} {b : Bool} (N : Nums g e l lo hi ro ev z) : (lineS g e l lo hi ro ev z b).length ≤ 99 := by
  unfold lineS
  rw [TL.join_eq]
  have h0 := join_len " " (wordsL g e l lo hi ro ev z b)
  have h1 := sum_le (wordsL_len N (b := b))
  have h2 : (wordsL g e l lo hi ro ev z b).length ≤ 9 := by
    cases b
    · show 8 ≤ 9; decide
    · show 9 ≤ 9; decide
  have h3 : (" " : Str).length = 1 := by decide +kernel
  rw [h3] at h0
  omega
end TX

end S_HoD
section S_K17l
namespace TX
open PySem MI
local macro_rules | `(tactic| wtm_at "mi") => `(tactic| first | wtm_at "v2mi" | fail)
theorem cat_assoc (a b c : Str) : (a ++ b) ++ c = a ++ (b ++ c) := by
  show (⟨(a.cps ++ b.cps) ++ c.cps⟩ : Str) = ⟨a.cps ++ (b.cps ++ c.cps)⟩
  rw [Array.append_assoc]
theorem nil_cat (a : Str) : ("" : Str) ++ a = a := by
  have e : ("" : Str) = SX.S [] := by decide +kernel
  rw [e]
  show (⟨#[] ++ a.cps⟩ : Str) = a
  rw [Array.empty_append]
theorem lits : (" every=" : Str) = " " ++ ("every" ++ "=") ∧ (" ahead" : Str) = " " ++ "ahead" ∧ ("order=" : Str) = "order" ++ "=" := by decide +kernel
theorem lit_len : ("" : Str).length = 0 ∧ (" " : Str).length = 1 ∧ ("order=" : Str).length = 6 ∧ (" every=" : Str).length = 7 ∧ (" ahead" : Str).length = 6 ∧ ("gap" : Str).length = 3 ∧ ("early" : Str).length = 5 ∧ ("late" : Str).length = 4 ∧ ("low" : Str).length = 3 ∧ ("high" : Str).length = 4 ∧ ("room" : Str).length = 4 := by decide +kernel
def bodyL : M := match m14 with
  | .seq _ (.seq (.for _ _ b) _) => b
  | _ => .skip
theorem stepL {F k : Nat} {S : Store} {hs : List D} {x w : Str} {i v : Int} (hx : x.length ≤ 100) (hw : w.length ≤ 5) (hv : L2.atI hs i = some (.int v)) (v0 : 0 ≤ v) (v1 : v ≤ 4) :
    (exM (callP PD F k) F bodyL [some (.d (.tuple hs)), some (.d (.str x)), some (.d (.int i)), some (.d (.str w))] S).to fun f S1 => f = .nx [some (.d (.tuple hs)), some (.d (.str (x ++ w ++ "=" ++ numS v ++ " "))), some (.d (.int i)), some (.d (.str w))] ∧ S1 = S := by
  have n1 := numS_len v0 v1
  obtain ⟨a0, a1, a2, a3, a4, a5, a6, a7, a8, a9, a10⟩ := lit_len
  unfold bodyL m14
  repeat' first | wtm_at "mi" | (with_reducible refine ixQ_mk hv ?_) | (with_reducible refine o_strN v0 v1 ?_) | ((with_reducible refine' o_addS ?h1 ?_); (case h1 => refine fits_of ?_; (try simp only [len_cat, eq_len]); omega))
  exact ⟨rfl, rfl⟩
theorem law_line_to {F k : Nat} {S : Store} {g e l lo hi ro ev : Int} {z : Str} {b : Bool} {Q : W → Store → Prop} (N : Nums g e l lo hi ro ev z) (q : Q (.d (.str (lineS g e l lo hi ro ev z b))) S) :
    (callP PD F (k + 1) 14 [.d (.tuple [.int g, .int e, .int l, .int lo, .int hi, .int ro, .str z, .int ev, .bool b])] S).to Q := by
  obtain ⟨g7, g7'⟩ := N.ev
  have n1 := numS_len N.g.1 N.g.2
  have n2 := numS_len N.e.1 N.e.2
  have n3 := numS_len N.l.1 N.l.2
  have n4 := numS_len N.lo.1 N.lo.2
  have n5 := numS_len N.hi.1 N.hi.2
  have n6 := numS_len N.ro.1 N.ro.2
  have n7 := numS_len g7 g7'
  have n8 := z_len N.z
  obtain ⟨a0, a1, a2, a3, a4, a5, a6, a7, a8, a9, a10⟩ := lit_len
  refine p_call pd14 rfl ?_
  show (exM _ F m14 (startL 4 _) S).to _
  unfold m14
  refine m_seq ?_
  refine m_asg ?_
  refine n_cst ?_
  refine m_seq ?_
  refine m_forU ?_
  refine r_enum ?_
  repeat' wtm_at "mi"
  rw [show enumD [.str "gap", .str "early", .str "late", .str "low", .str "high", .str "room"] = [.tuple [.int 0, .str "gap"], .tuple [.int 1, .str "early"], .tuple [.int 2, .str "late"], .tuple [.int 3, .str "low"], .tuple [.int 4, .str "high"], .tuple [.int 5, .str "room"]] from rfl]
  refine f_cons (bnQ_mk rfl ?_)
  refine (stepL (by rw [a0]; decide) (by rw [a5]; decide) rfl N.g.1 N.g.2).mono ?_
  rintro f S1 ⟨rfl, rfl⟩
  refine f_cons (bnQ_mk rfl ?_)
  refine (stepL (by simp only [len_cat, eq_len]; omega) (by rw [a6]; decide) rfl N.e.1 N.e.2).mono ?_
  rintro f S1 ⟨rfl, rfl⟩
  refine f_cons (bnQ_mk rfl ?_)
  refine (stepL (by simp only [len_cat, eq_len]; omega) (by rw [a7]; decide) rfl N.l.1 N.l.2).mono ?_
  rintro f S1 ⟨rfl, rfl⟩
  refine f_cons (bnQ_mk rfl ?_)
  refine (stepL (by simp only [len_cat, eq_len]; omega) (by rw [a8]; decide) rfl N.lo.1 N.lo.2).mono ?_
  rintro f S1 ⟨rfl, rfl⟩
  refine f_cons (bnQ_mk rfl ?_)
  refine (stepL (by simp only [len_cat, eq_len]; omega) (by rw [a9]; decide) rfl N.hi.1 N.hi.2).mono ?_
  rintro f S1 ⟨rfl, rfl⟩
  refine f_cons (bnQ_mk rfl ?_)
  refine (stepL (by simp only [len_cat, eq_len]; omega) (by rw [a10]; decide) rfl N.ro.1 N.ro.2).mono ?_
  rintro f S1 ⟨rfl, rfl⟩
  refine f_nil ?_
  have q : ∀ x : Str, x = lineS g e l lo hi ro ev z b → Q (.d (.str x)) S1 := fun x h => h.symm ▸ q
  obtain ⟨l1, l2, l3⟩ := lits
  obtain ⟨x, hx⟩ : ∃ x, x = ("" : Str) ++ "gap" ++ "=" ++ numS g ++ " " ++ "early" ++ "=" ++ numS e ++ " " ++ "late" ++ "=" ++ numS l ++ " " ++ "low" ++ "=" ++ numS lo ++ " " ++ "high" ++ "=" ++ numS hi ++ " " ++ "room" ++ "=" ++ numS ro ++ " " := ⟨_, rfl⟩
  rw [← hx]
  have hl : x.length ≤ 100 := by rw [hx]; simp only [len_cat, eq_len]; omega
  repeat' first | wtm_at "mi" | (with_reducible refine o_strN g7 g7' ?_) | ((with_reducible refine' o_addS ?h1 ?_); (case h1 => refine fits_of ?_; (try simp only [len_cat, eq_len]); omega))
  all_goals
    rename_i hb
    subst hb
    refine q _ ?_
    rw [hx]
    unfold lineS wordsL words8 partS
    rw [TL.join_eq, l1, l3]
    try rw [l2]
    simp only [List.cons_append, List.nil_append, if_true, Bool.false_eq_true, if_false, List.append_nil, Str.join, cat_assoc, nil_cat]
end TX

end S_K17l
section S_MiS
namespace MI
open PySem
def Res.orr {α : Type} (r : Res α) (Q : α → Store → Prop) (E : Nat → Store → Prop) : Prop := match r with
  | .ok a S => Q a S
  | .ex c S => E c S
  | .stuck => False
theorem Res.to.orr {α : Type} {r : Res α} {Q : α → Store → Prop} {E : Nat → Store → Prop} (h : r.to Q) : r.orr Q E := by
  cases r with
  | ok a S => exact h
  | ex c S => exact h.elim
  | stuck => exact h
theorem Res.orr.mono {α : Type} {r : Res α} {Q Q' : α → Store → Prop} {E E' : Nat → Store → Prop} (h : r.orr Q E) (k : ∀ a S, Q a S → Q' a S) (k2 : ∀ c S, E c S → E' c S) : r.orr Q' E' := by
  cases r with
  | ok a S => exact k _ _ h
  | ex c S => exact k2 _ _ h
  | stuck => exact h
section
variable {call : Call} {ls : Loc} {S : Store} {Q : Fl → Store → Prop} {X : Nat → Store → Prop} {e es : E} {a b : M} {F : Nat}
theorem m_tryC {j f : Nat} {hs : List (Nat × Nat × Str)} (h : (evL call es ls S).to fun ws S1 => (call f ws S1).orr (fun w S2 => Q (.nx (ls.set j (some w))) S2) fun c S2 => ∃ z, (hs.find? fun h => h.1 == c) = some z ∧ Q (.nx (ls.set z.2.1 (some (.d (.str z.2.2))))) S2) : (exM call F (.tryC j f es hs) ls S).to Q := by
  rw [exM]
  obtain ⟨ws, S1, e1, h⟩ := h.ex
  rw [e1, Res.noex_ok, Res.bind_ok]
  revert h
  cases call f ws S1 with
  | stuck => exact fun h => h
  | ok w S2 => exact fun h => h
  | ex c S2 =>
    rintro ⟨z, hz, q⟩
    rw [Res.bind_ex]
    unfold hdl
    simp only [hz]
    exact q
end
end MI

end S_MiS
section S_K17r
namespace TX
open PySem MI
local macro_rules | `(tactic| wtm_at "mi") => `(tactic| first | wtm_at "v2mi" | fail)

def readF : D → D
  | .tuple [.str k, .str w] => vF k w
  | _ => .none
theorem eqv_str17 (a b : Str) : PyData.eqv (.str a) (.str b) = (a == b) := rfl
theorem eqv_house (g e l lo hi ro ev : Int) (z : Str) (b : Bool) : PyData.eqv (.tuple [.int g, .int e, .int l, .int lo, .int hi, .int ro, .str z, .int ev, .bool b]) (.tuple [.int g, .int e, .int l, .int lo, .int hi, .int ro, .str z, .int ev, .bool b]) = true := by
  simp [PyData.eqv, PyData.eqvAll]
theorem read_to {F k : Nat} {S : Store} {g e l lo hi ro ev : Int} {z : Str} {b : Bool} {Q : W → Store → Prop} (h : okB (.tuple [.int g, .int e, .int l, .int lo, .int hi, .int ro, .str z, .int ev, .bool b]) = true) (N : Nums g e l lo hi ro ev z)
    (q : Q (.d (.tuple [.int g, .int e, .int l, .int lo, .int hi, .int ro, .str z, .int ev, .bool b])) S) : (callP PD F (k + 3) 12 [.d (.str (lineS g e l lo hi ro ev z b))] S).to Q := by
  have hs1 := line_split (b := b) N
  have hl := line_len (b := b) N
  refine p_call pd12 rfl ?_
  show (exM _ F m12 (startL 6 _) S).to _
  unfold m12
  repeat' wtm_at "mi"
  refine ⟨by decide +kernel, by rw [sizeLine_eq]; omega, ?_⟩
  repeat' wtm_at "mi"
  rw [hs1]
  refine coQ_mk readF (fun _ => true) (show 8 ≤ sizeLine by decide) ?_ ?_
  · intro j x hx
    obtain ⟨kk, w, rfl, hk, hw⟩ : ∃ (kk w : Str), x = .tuple [.str kk, .str w] ∧ kk.length ≤ 5 ∧ w.length ≤ 10 := by
      obtain ⟨p1, p2, p3, p4, p5, p6, p7, p8⟩ := pl
      have wl := words_len N
      rcases j with _ | _ | _ | _ | _ | _ | _ | _ | j
      · cases hx; exact ⟨_, _, rfl, p1, wl _ (by simp [words8])⟩
      · cases hx; exact ⟨_, _, rfl, p2, wl _ (by simp [words8])⟩
      · cases hx; exact ⟨_, _, rfl, p3, wl _ (by simp [words8])⟩
      · cases hx; exact ⟨_, _, rfl, p4, wl _ (by simp [words8])⟩
      · cases hx; exact ⟨_, _, rfl, p5, wl _ (by simp [words8])⟩
      · cases hx; exact ⟨_, _, rfl, p6, wl _ (by simp [words8])⟩
      · cases hx; exact ⟨_, _, rfl, p7, wl _ (by simp [words8])⟩
      · cases hx; exact ⟨_, _, rfl, p8, wl _ (by simp [words8])⟩
      · cases hx
    refine ⟨_, rfl, ?_, fun _ => ?_⟩
    · repeat' wtm_at "mi"
      exact ⟨rfl, rfl⟩
    · repeat' wtm_at "mi"
      refine value_from_to (by omega) (by omega) ?_
      exact ⟨rfl, rfl⟩
  · have e1 : List.map readF (List.filter (fun _ => true) (zipD (cutD [.str "gap", .str "early", .str "late", .str "low", .str "high", .str "room", .str "order", .str "every", .str "ahead"] none (some 8)) ((wordsL g e l lo hi ro ev z b).map PyData.str))) =
        [.int g, .int e, .int l, .int lo, .int hi, .int ro, .str z, .int ev] := by
      show [vF "gap" (partS "gap" (numS g)), vF "early" (partS "early" (numS e)), vF "late" (partS "late" (numS l)), vF "low" (partS "low" (numS lo)), vF "high" (partS "high" (numS hi)), vF "room" (partS "room" (numS ro)), vF "order" (partS "order" z), vF "every" (partS "every" (numS ev))] = _
      rw [(vF_num (by simp [names7]) N.g.1 N.g.2).1, (vF_num (by simp [names7]) N.e.1 N.e.2).1, (vF_num (by simp [names7]) N.l.1 N.l.2).1, (vF_num (by simp [names7]) N.lo.1 N.lo.2).1, (vF_num (by simp [names7]) N.hi.1 N.hi.2).1, (vF_num (by simp [names7]) N.ro.1 N.ro.2).1, (vF_word N.z).1, (vF_num (by simp [names7]) N.ev.1 N.ev.2).1]
    rw [e1]
    repeat' wtm_at "mi"
    have e2 : memD (.str "ahead") (cutD ((wordsL g e l lo hi ro ev z b).map PyData.str) (some 8) none) = b := by
      cases b
      · rfl
      · rfl
    rw [e2]
    repeat' first | wtm_at "mi" | (with_reducible refine is_house_to ?_) | (with_reducible refine line_of_to N ?_)
    · rename_i hc _
      rw [show okB (.tuple ([.int g, .int e, .int l, .int lo, .int hi, .int ro, .str z, .int ev] ++ [.bool b])) = true from h] at hc
      cases hc
    · refine line_of_to (b := b) N ?_
      repeat' wtm_at "mi"
      · rename_i hc
        rw [eqv_str17, beq_self_eq_true] at hc
        cases hc
      · exact q
theorem tried_to {F k : Nat} {S : Store} {g e l lo hi ro ev : Int} {z : Str} {b : Bool} {Q : W → Store → Prop} (h : okB (.tuple [.int g, .int e, .int l, .int lo, .int hi, .int ro, .str z, .int ev, .bool b]) = true) (N : Nums g e l lo hi ro ev z)
    (q : Q (.d (.tuple [.int g, .int e, .int l, .int lo, .int hi, .int ro, .str z, .int ev, .bool b])) S) : (callP PD F (k + 4) 13 [.d (.str (lineS g e l lo hi ro ev z b))] S).to Q := by
  refine p_call pd13 rfl ?_
  show (exM _ F m13 (startL 2 _) S).to _
  unfold m13
  repeat' wtm_at "mi"
  refine m_tryC ?_
  repeat' wtm_at "mi"
  refine Res.to.orr (read_to h N ?_)
  repeat' wtm_at "mi"
  exact q
theorem nums_house {v : D} {B : Int} (h : HouseV B v) (hB : B ≤ 3000) : ∃ (g e l lo hi ro ev : Int) (z : Str) (b : Bool), v = .tuple [.int g, .int e, .int l, .int lo, .int hi, .int ro, .str z, .int ev, .bool b] ∧ Nums g e l lo hi ro ev z ∧ okB v = true := by
  have ho := okB_house h hB
  obtain ⟨g, e, l, lo, hi, ro, ev, z, b, rfl, g1, g2, e1, e2, l1, l2, o1, o2, u2, r1, r2, zz, v1, v2, hz⟩ := h.ex
  exact ⟨g, e, l, lo, hi, ro, ev, z, b, rfl, ⟨by omega, by omega, by omega, by omega, by omega, by omega, by omega, zz⟩, ho⟩
end TX

end S_K17r
section S_K17m
namespace TX
open PySem MI
local macro_rules | `(tactic| wtm_at "mi") => `(tactic| first | wtm_at "v2mi" | fail)

theorem soon26 (s : Nat) (hs : s < 2147483563) : ∃ t, t < 26 ∧ (Lc.tsize (Lc.nxs (9 * t) s) : Int) ≤ 3000 := by
  obtain ⟨t, h1, h2⟩ := Lc.soon (q := Lc.q26) (L := 3000) (by decide) (by decide) Lc.good26 Lc.cover26 s hs
  exact ⟨t, h1, by omega⟩
theorem last_line : ("gap=4 early=3 late=0 low=3 high=4 room=1 order=late every=2 ahead" : Str) = lineS 4 3 0 3 4 1 2 "late" true := by decide +kernel
theorem law_to {F : Nat} {ns : List Int} (hl : ns.length ≤ 63) (hF : (ns.map Int.natAbs).sum + 120000 ≤ F) : (callP PD F 30 15 [.d (.list (ns.map .int))] []).to fun w _ => w = .d (.bool true) := by
  refine p_call pd15 rfl ?_
  show (exM (callP PD F 29) F m15 (startL 6 _) []).to _
  unfold m15
  repeat' wtm_at "mi"
  refine foQ_mk (fun _ ls S => ∃ t1 t2 t3 t4 t5, ls = [some (.d (.list (ns.map .int))), t1, t2, t3, t4, t5]) ⟨_, _, _, _, _, rfl⟩ ?_ ?_
  · rintro j x hx ls S ⟨t1, t2, t3, t4, t5, rfl⟩
    obtain ⟨rfl, hj⟩ := rng_get hx
    have hj' : j ≤ 1000 := by
      revert hj; split <;> omega
    repeat' wtm_at "mi"
    refine source_to hj' hl fun p hp hpF => ?_
    repeat' wtm_at "mi"
    refine foQ_mk (fun _ ls S' => ∃ (p' : Int × Int) (t3 t4 t5 : Option W), Src p' ∧ p'.1 ≤ p.1 ∧ S' = (S ++ [srcO p]).set S.length (srcO p') ∧ ls = [some (.d (.list (ns.map .int))), some (.d (.int (j : Nat))), some (.r S.length), t3, t4, t5]) ⟨p, _, _, _, hp, Int.le_refl _, set_self get_end, rfl⟩ ?_ ?_
    · rintro i x hx ls S' ⟨p', u3, u4, u5, hp', hle, rfl, rfl⟩
      repeat' wtm_at "mi"
      refine house_to (B := 3520) soon26 (get_set get_end) hp' (by decide) (by decide) (by decide) (by decide) (by omega) fun v p2 hv hp2 hle2 => ?_
      obtain ⟨g, e, l, lo, hi, ro, ev, z, b, rfl, N, ho⟩ := nums_house (house_gap hv) (by decide)
      rw [List.set_set]
      repeat' first | wtm_at "mi" | (with_reducible refine house_line_to ho N ?_) | (with_reducible refine law_line_to N ?_) | (with_reducible refine tried_to ho N ?_)
      · rename_i hc _
        rw [eqv_str17, beq_self_eq_true] at hc
        cases hc
      · rename_i hc
        rw [eqv_house] at hc
        cases hc
      · exact ⟨p2, _, _, _, hp2, by omega, rfl, rfl⟩
    · rintro ls S' ⟨p', u3, u4, u5, hp', hle, rfl, rfl⟩
      exact ⟨_, _, _, _, _, rfl⟩
  · rintro ls S ⟨t1, t2, t3, t4, t5, rfl⟩
    have ho : okB (.tuple [.int 4, .int 3, .int 0, .int 3, .int 4, .int 1, .str "late", .int 2, .bool true]) = true := by decide +kernel
    have N : Nums 4 3 0 3 4 1 2 "late" := ⟨by decide, by decide, by decide, by decide, by decide, by decide, by decide, .inr (.inl rfl)⟩
    rw [last_line]
    repeat' first | wtm_at "mi" | (with_reducible refine house_line_to ho N ?_) | (with_reducible refine tried_to ho N ?_)
    · rw [eqv_house]
      exact l_rt0 rfl
theorem law_true (ns : List Int) (h : ns.length ≤ 63) : ∃ F S', callP PD F 30 15 [.d (.list (ns.map .int))] [] = .ok (.d (.bool true)) S' := by
  obtain ⟨w, S', e, hw⟩ := (law_to h (Nat.le_refl _)).ex
  rw [hw] at e
  exact ⟨_, S', e⟩
end TX
theorem K17.law_true : ∀ ns : List Int, ns.length ≤ 63 → ∃ F S', MI.callP TX.PD F 30 15 [.d (.list (ns.map .int))] [] = .ok (.d (.bool true)) S' := TX.law_true

end S_K17m
section S_K17z
open PySem PySem.W PyProof.Rows in
set_option maxRecDepth 100000 in
set_option maxHeartbeats 0 in
theorem PySem.Challenge.cw_lateturns_k17_houses_written_and_read_holds : PySem.Challenge.rw_lateturns_k17_houses_written_and_read.Holds := by
  w_on; o_law; k_head; (case hw => w_witness2)
  k_fill
  refine MI.walkN (l := PySem.Challenge.rw_lateturns_k17_houses_written_and_read) (x := "_law_script") (PD := TX.PD) (k := 30) (f := 15) rfl rfl ⟨rfl, by decide, by decide⟩ (fun w h Y => PySem.W.kIn_of Y) K17.law_true ?F
  case F =>
    intro w mg fa h KX G hmg
    refine' K17.all_mk KX G hmg ?hg_ORDERS ?hg_MOST_SIZE ?hg_PARTS ?hg_NUMBERS ?x0 ?l0 ?c0 ?k0 ?x1 ?l1 ?c1 ?k1 ?x2 ?l2 ?c2 ?k2 ?x3 ?l3 ?c3 ?k3 ?x4 ?l4 ?c4 ?k4 ?x5 ?l5 ?c5 ?k5 ?x6 ?l6 ?c6 ?k6 ?x7 ?l7 ?c7 ?k7 ?x8 ?l8 ?c8 ?k8 ?x9 ?l9 ?c9 ?k9 ?x10 ?l10 ?c10 ?k10 ?x11 ?l11 ?c11 ?k11 ?x12 ?l12 ?c12 ?k12 ?x13 ?l13 ?c13 ?k13 ?x14 ?l14 ?c14 ?k14 ?x15 ?l15 ?c15 ?k15 ?en_InvalidHouse ?ek_InvalidHouse ?ex_InvalidHouse ?es_InvalidHouse ?et_InvalidHouse ?en_InvalidLine ?ek_InvalidLine ?ex_InvalidLine ?es_InvalidLine ?et_InvalidLine ?em_InvalidHouse_InvalidHouse ?em_InvalidHouse_InvalidLine ?em_InvalidLine_InvalidHouse ?em_InvalidLine_InvalidLine ?z_abs ?z_bool ?z_enumerate ?z_int ?z_isinstance ?z_len ?z_max ?z_min ?z_range ?z_str ?z_tuple ?z_zip
    (case hg_ORDERS => refine' MI.gs_tup ?h1 ?h2 ?h3 ?h4; (case h1 => k_is); (case h2 => k_is); (case h3 => rfl); (case h4 => decide))
    (case hg_MOST_SIZE => refine' MI.gs_int ?h1; (case h1 => k_is))
    (case hg_PARTS => refine' MI.gs_tup ?h1 ?h2 ?h3 ?h4; (case h1 => k_is); (case h2 => k_is); (case h3 => rfl); (case h4 => decide))
    (case hg_NUMBERS => refine' MI.gs_tup ?h1 ?h2 ?h3 ?h4; (case h1 => k_is); (case h2 => k_is); (case h3 => rfl); (case h4 => decide))
    (case x0 => k_is)
    (case l0 => k_is)
    (case c0 => k_is)
    (case k0 => k_is)
    (case x1 => k_is)
    (case l1 => k_is)
    (case c1 => k_is)
    (case k1 => k_is)
    (case x2 => k_is)
    (case l2 => k_is)
    (case c2 => k_is)
    (case k2 => k_is)
    (case x3 => k_is)
    (case l3 => k_is)
    (case c3 => k_is)
    (case k3 => k_is)
    (case x4 => k_is)
    (case l4 => k_is)
    (case c4 => k_is)
    (case k4 => k_is)
    (case x5 => k_is)
    (case l5 => k_is)
    (case c5 => k_is)
    (case k5 => k_is)
    (case x6 => k_is)
    (case l6 => k_is)
    (case c6 => k_is)
    (case k6 => k_is)
    (case x7 => k_is)
    (case l7 => k_is)
    (case c7 => k_is)
    (case k7 => k_is)
    (case x8 => k_is)
    (case l8 => k_is)
    (case c8 => k_is)
    (case k8 => k_is)
    (case x9 => k_is)
    (case l9 => k_is)
    (case c9 => k_is)
    (case k9 => k_is)
    (case x10 => k_is)
    (case l10 => k_is)
    (case c10 => k_is)
    (case k10 => k_is)
    (case x11 => k_is)
    (case l11 => k_is)
    (case c11 => k_is)
    (case k11 => k_is)
    (case x12 => k_is)
    (case l12 => k_is)
    (case c12 => k_is)
    (case k12 => k_is)
    (case x13 => k_is)
    (case l13 => k_is)
    (case c13 => k_is)
    (case k13 => k_is)
    (case x14 => k_is)
    (case l14 => k_is)
    (case c14 => k_is)
    (case k14 => k_is)
    (case x15 => k_is)
    (case l15 => k_is)
    (case c15 => k_is)
    (case k15 => k_is)
    (case en_InvalidHouse => k_is)
    (case ek_InvalidHouse => k_is)
    (case ex_InvalidHouse => kernel_rfl)
    (case es_InvalidHouse => k_is)
    (case et_InvalidHouse => k_is)
    (case en_InvalidLine => k_is)
    (case ek_InvalidLine => k_is)
    (case ex_InvalidLine => kernel_rfl)
    (case es_InvalidLine => k_is)
    (case et_InvalidLine => k_is)
    (case em_InvalidHouse_InvalidHouse => kernel_rfl)
    (case em_InvalidHouse_InvalidLine => kernel_rfl)
    (case em_InvalidLine_InvalidHouse => kernel_rfl)
    (case em_InvalidLine_InvalidLine => kernel_rfl)
    (case z_abs => k_is)
    (case z_bool => k_is)
    (case z_enumerate => k_is)
    (case z_int => k_is)
    (case z_isinstance => k_is)
    (case z_len => k_is)
    (case z_max => k_is)
    (case z_min => k_is)
    (case z_range => k_is)
    (case z_str => k_is)
    (case z_tuple => k_is)
    (case z_zip => k_is)

end S_K17z
