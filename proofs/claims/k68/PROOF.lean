import PyProof.Rows.All
import Wide.All
import OpenK.AllK
import Wide.FinOn
import HandS.ForMost
import HandS.Walk
import HandS.WideBits
import HandS.Wide
import HandS.Codes
import HandS.RevRange
import HandS.DictComp
import HandS.SortKw
import HandS.Defaults
import HandS.Text
import HandS.Dict
import HandS.IntHex
import PySem.Challenge.RW_gatemill_k68_whole_halves_make_the_table
set_option Elab.async false
set_option linter.all false
set_option maxRecDepth 100000
set_option maxHeartbeats 4000000
/-! the mathematics of tables, plain -/
namespace M68
/-- the number of m bits by f -/
def bits : Nat → (Nat → Bool) → Nat
  | 0, _ => 0
  | m + 1, f => bits m f + (if f m = true then 2 ^ m else 0)
theorem bits_lt (f : Nat → Bool) : ∀ m, bits m f < 2 ^ m
  | 0 => by simp [bits]
  | m + 1 => by
    have := bits_lt f m
    rw [bits, Nat.pow_succ]
    split <;> omega
theorem bits_test (f : Nat → Bool) : ∀ m i, (bits m f).testBit i = (decide (i < m) && f i)
  | 0, i => by simp [bits]
  | m + 1, i => by
    have ih := bits_test f m i
    have lt := bits_lt f m
    have e : bits (m + 1) f = 2 ^ m * (if f m = true then 1 else 0) + bits m f := by
      rw [bits]; split <;> omega
    rw [e, Nat.testBit_two_pow_mul_add _ lt, ih]
    by_cases h : i < m
    · rw [if_pos h]; simp [h, Nat.lt_succ_of_lt h]
    · rw [if_neg h]
      by_cases hi : i = m
      · subst hi; cases hf : f i <;> simp
      · have : ¬ i < m + 1 := by omega
        have z : i - m ≠ 0 := by omega
        cases hf : f m <;> simp [this]
        exact (by
          obtain ⟨k, hk⟩ : ∃ k, i - m = k + 1 := ⟨i - m - 1, by omega⟩
          rw [hk]; simp [Nat.testBit_succ])
theorem bits_congr {f g : Nat → Bool} {m : Nat} (h : ∀ i, i < m → f i = g i) : bits m f = bits m g := by
  apply Nat.eq_of_testBit_eq; intro i
  rw [bits_test, bits_test]
  by_cases hi : i < m
  · rw [h i hi]
  · simp [hi]
theorem test_big {x m i : Nat} (h : x < 2 ^ m) (hi : m ≤ i) : x.testBit i = false := Nat.testBit_lt_two_pow (Nat.lt_of_lt_of_le h (Nat.pow_le_pow_right (by decide) hi))
theorem bits_self {x m : Nat} (h : x < 2 ^ m) : bits m x.testBit = x := by
  apply Nat.eq_of_testBit_eq; intro i
  rw [bits_test]
  by_cases hi : i < m
  · simp [hi]
  · simp [hi, test_big h (Nat.le_of_not_lt hi)]
theorem eq_of_bits {x y m : Nat} (hx : x < 2 ^ m) (hy : y < 2 ^ m) (h : ∀ i, i < m → x.testBit i = y.testBit i) : x = y := by
  rw [← bits_self hx, ← bits_self hy]; exact bits_congr h

def full (n : Nat) : Nat := 2 ^ (2 ^ n) - 1
theorem full_test (n i : Nat) : (full n).testBit i = decide (i < 2 ^ n) := by unfold full; exact Nat.testBit_two_pow_sub_one ..
theorem full_lt (n : Nat) : full n < 2 ^ 2 ^ n := by
  have : 0 < 2 ^ 2 ^ n := Nat.two_pow_pos _
  unfold full; omega
theorem le_full {t n : Nat} : t ≤ full n ↔ t < 2 ^ 2 ^ n := by
  have : 0 < 2 ^ 2 ^ n := Nat.two_pow_pos _
  unfold full; omega
def col (n a : Nat) : Nat := bits (2 ^ n) fun r => r.testBit a
theorem col_test (n a r : Nat) : (col n a).testBit r = (decide (r < 2 ^ n) && r.testBit a) := bits_test ..
theorem col_lt (n a : Nat) : col n a < 2 ^ 2 ^ n := bits_lt ..
/-- the doubling -/
theorem test_sub {r s a : Nat} (ha : ∃ k, s = 2 ^ (a + 1) * k) (h : s ≤ r) : (r - s).testBit a = r.testBit a := by
  obtain ⟨k, rfl⟩ := ha
  have m : ∀ y : Nat, y.testBit a = (y % 2 ^ (a + 1)).testBit a := fun y => by rw [Nat.testBit_mod_two_pow]; simp
  have e : r % 2 ^ (a + 1) = (r - 2 ^ (a + 1) * k) % 2 ^ (a + 1) := by
    have q : r = (r - 2 ^ (a + 1) * k) + 2 ^ (a + 1) * k := by omega
    rw [q, Nat.add_mul_mod_self_left]
    simp
  rw [m, m r, e]
theorem dbl (a j : Nat) (h : a + 1 ≤ j) : bits (2 ^ j) (fun r => r.testBit a) ||| bits (2 ^ j) (fun r => r.testBit a) * 2 ^ (2 ^ j) = bits (2 ^ (j + 1)) fun r => r.testBit a := by
  apply Nat.eq_of_testBit_eq; intro i
  rw [Nat.testBit_or, bits_test, bits_test, Nat.testBit_mul_two_pow, bits_test]
  have hp : 2 ^ (j + 1) = 2 ^ j + 2 ^ j := by rw [Nat.pow_succ]; omega
  rw [hp]
  by_cases h1 : i < 2 ^ j
  · have : ¬ 2 ^ j ≤ i := by omega
    have h2 : i < 2 ^ j + 2 ^ j := by omega
    simp [h1, h2, this]
  · by_cases h2 : i < 2 ^ j + 2 ^ j
    · have h3 : 2 ^ j ≤ i := by omega
      have h4 : i - 2 ^ j < 2 ^ j := by omega
      simp [h1, h2, h3, h4]
      refine test_sub ⟨2 ^ (j - (a + 1)), ?_⟩ h3
      rw [← Nat.pow_add]; congr 1; omega
    · have h4 : ¬ i - 2 ^ j < 2 ^ j := by omega
      simp [h1, h2, h4]
theorem col_lo (a : Nat) : (2 ^ 2 ^ a - 1) * 2 ^ 2 ^ a = bits (2 ^ (a + 1)) fun r => r.testBit a := by
  apply Nat.eq_of_testBit_eq; intro i
  rw [Nat.testBit_mul_two_pow, Nat.testBit_two_pow_sub_one, bits_test]
  have hp : 2 ^ (a + 1) = 2 ^ a + 2 ^ a := by rw [Nat.pow_succ]; omega
  rw [hp]
  by_cases h1 : i < 2 ^ a
  · have : ¬ 2 ^ a ≤ i := by omega
    have h2 : i.testBit a = false := Nat.testBit_lt_two_pow h1
    simp [this, h2]
  · by_cases h2 : i < 2 ^ a + 2 ^ a
    · have h3 : 2 ^ a ≤ i := by omega
      have h4 : i - 2 ^ a < 2 ^ a := by omega
      have h5 : i.testBit a = true := by
        have e : i = 2 ^ a + (i - 2 ^ a) := by omega
        rw [e, Nat.testBit_two_pow_add_eq, Nat.testBit_lt_two_pow h4]; rfl
      simp [h2, h3, h4, h5]
    · have h4 : ¬ i - 2 ^ a < 2 ^ a := by omega
      simp [h2, h4]
theorem xor_and_sum : ∀ (n a b : Nat), a ≤ n → (a ^^^ b) + 2 * (a &&& b) = a + b
  | 0, a, b, h => by
    have : a = 0 := by omega
    subst this; simp
  | n + 1, a, b, h => by
    by_cases ha : a = 0
    · subst ha; simp
    · have ih := xor_and_sum n (a / 2) (b / 2) (by omega)
      have e1 : (a ^^^ b) / 2 = a / 2 ^^^ b / 2 := Nat.xor_div_two
      have e2 : (a &&& b) / 2 = a / 2 &&& b / 2 := Nat.and_div_two
      rw [← e1, ← e2] at ih
      have t1 := Nat.testBit_xor a b 0
      have t2 := Nat.testBit_and a b 0
      rw [Nat.testBit_zero, Nat.testBit_zero, Nat.testBit_zero] at t1 t2
      rcases Nat.mod_two_eq_zero_or_one a with h1 | h1 <;> rcases Nat.mod_two_eq_zero_or_one b with h2 | h2 <;> rcases Nat.mod_two_eq_zero_or_one (a ^^^ b) with h3 | h3 <;> rcases Nat.mod_two_eq_zero_or_one (a &&& b) with h4 | h4 <;>
        (rw [h1, h2, h3] at t1; rw [h1, h2, h4] at t2; first | exact absurd t1 (by decide) | exact absurd t2 (by decide) | (clear t1 t2 e1 e2; omega))
theorem and_pow_zero {r a : Nat} (h : r.testBit a = false) : r &&& 2 ^ a = 0 := by
  apply Nat.eq_of_testBit_eq; intro i
  rw [Nat.testBit_and, Nat.testBit_two_pow]
  by_cases e : a = i
  · subst e; simp [h]
  · simp [e]
theorem xor_add {r a : Nat} (h : r.testBit a = false) : r ^^^ 2 ^ a = r + 2 ^ a := by
  have := xor_and_sum r r (2 ^ a) (Nat.le_refl _)
  rw [and_pow_zero h] at this
  omega
theorem fl_test (r a : Nat) : (r ^^^ 2 ^ a).testBit a = !r.testBit a := by rw [Nat.testBit_xor, Nat.testBit_two_pow_self]; cases r.testBit a <;> rfl
theorem fl_fl (r a : Nat) : (r ^^^ 2 ^ a) ^^^ 2 ^ a = r := by rw [Nat.xor_assoc, Nat.xor_self, Nat.xor_zero]
theorem xor_sub {r a : Nat} (h : r.testBit a = true) : 2 ^ a ≤ r ∧ r ^^^ 2 ^ a = r - 2 ^ a := by
  have h1 : (r ^^^ 2 ^ a).testBit a = false := by rw [fl_test, h]; rfl
  have h2 := xor_add h1
  rw [fl_fl] at h2
  omega
theorem or_add {r a : Nat} (h : r.testBit a = false) : r ||| 2 ^ a = r + 2 ^ a := by
  rw [← xor_add h]
  apply Nat.eq_of_testBit_eq; intro i
  rw [Nat.testBit_or, Nat.testBit_xor, Nat.testBit_two_pow]
  by_cases e : a = i
  · subst e; simp [h]
  · simp [e]
theorem or_same {r a : Nat} (h : r.testBit a = true) : r ||| 2 ^ a = r := by
  apply Nat.eq_of_testBit_eq; intro i
  rw [Nat.testBit_or, Nat.testBit_two_pow]
  by_cases e : a = i
  · subst e; simp [h]
  · simp [e]
theorem add_flip (r a : Nat) : (r + 2 ^ a).testBit a = !r.testBit a := by rw [Nat.add_comm]; exact Nat.testBit_two_pow_add_eq ..
theorem sub_flip {r a : Nat} (h : 2 ^ a ≤ r) : (r - 2 ^ a).testBit a = !r.testBit a := by
  have := add_flip (r - 2 ^ a) a
  rw [Nat.sub_add_cancel h] at this
  rw [this]; simp
theorem fl_lt {r a n : Nat} (ha : a < n) : r ^^^ 2 ^ a < 2 ^ n ↔ r < 2 ^ n := by
  have p : 2 ^ a < 2 ^ n := Nat.pow_lt_pow_right (by decide) ha
  constructor
  · intro h
    have := Nat.xor_lt_two_pow h p
    rwa [fl_fl] at this
  · intro h; exact Nat.xor_lt_two_pow h p
theorem or_lt {r a n : Nat} (ha : a < n) : r ||| 2 ^ a < 2 ^ n ↔ r < 2 ^ n := by
  have p : 2 ^ a < 2 ^ n := Nat.pow_lt_pow_right (by decide) ha
  constructor
  · intro h
    by_cases e : r.testBit a = true
    · rwa [or_same e] at h
    · rw [or_add (by simpa using e)] at h; exact Nat.lt_of_le_of_lt (Nat.le_add_right ..) h
  · intro h; exact Nat.or_lt_two_pow h p
def dn (r a : Nat) : Nat := if r.testBit a = true then r ^^^ 2 ^ a else r
theorem dn_lt {r a n : Nat} (ha : a < n) : dn r a < 2 ^ n ↔ r < 2 ^ n := by
  unfold dn; split
  · exact fl_lt ha
  · exact Iff.rfl

/-! the halves -/
def half1 (t n a : Nat) : Nat := (t &&& col n a) ||| (t &&& col n a) / 2 ^ 2 ^ a
def half0 (t n a : Nat) : Nat := (t &&& (full n ^^^ col n a)) ||| (t &&& (full n ^^^ col n a)) * 2 ^ 2 ^ a
def turn (t n a : Nat) : Nat := (t &&& col n a) / 2 ^ 2 ^ a ||| (t &&& (full n ^^^ col n a)) * 2 ^ 2 ^ a
variable {t n a : Nat}
theorem in_test (ht : t < 2 ^ 2 ^ n) (r : Nat) : t.testBit r = (decide (r < 2 ^ n) && t.testBit r) := by
  by_cases h : r < 2 ^ n
  · simp [h]
  · simp [h, test_big ht (Nat.le_of_not_lt h)]
theorem keep1 (ht : t < 2 ^ 2 ^ n) (r : Nat) : (t &&& col n a).testBit r = (t.testBit r && r.testBit a) := by
  rw [Nat.testBit_and, col_test, in_test ht]
  cases decide (r < 2 ^ n) <;> simp
theorem keep0 (ht : t < 2 ^ 2 ^ n) (r : Nat) : (t &&& (full n ^^^ col n a)).testBit r = (t.testBit r && !r.testBit a) := by
  rw [Nat.testBit_and, Nat.testBit_xor, full_test, col_test, in_test ht]
  cases decide (r < 2 ^ n) <;> simp
theorem half1_test (ht : t < 2 ^ 2 ^ n) (r : Nat) : (half1 t n a).testBit r = t.testBit (r ||| 2 ^ a) := by
  unfold half1
  rw [Nat.testBit_or, Nat.testBit_div_two_pow, keep1 ht, keep1 ht, add_flip]
  cases h : r.testBit a with
  | true => rw [or_same h]; simp
  | false => rw [or_add h]; simp
theorem half0_test (ht : t < 2 ^ 2 ^ n) (r : Nat) : (half0 t n a).testBit r = t.testBit (dn r a) := by
  unfold half0 dn
  rw [Nat.testBit_or, Nat.testBit_mul_two_pow, keep0 ht, keep0 ht]
  cases h : r.testBit a with
  | true =>
    obtain ⟨h1, h2⟩ := xor_sub h
    rw [sub_flip h1, h, h2]; simp [h1]
  | false =>
    by_cases h1 : 2 ^ a ≤ r
    · rw [sub_flip h1, h]; simp
    · simp [h1]
theorem turn_test (ht : t < 2 ^ 2 ^ n) (r : Nat) : (turn t n a).testBit r = t.testBit (r ^^^ 2 ^ a) := by
  unfold turn
  rw [Nat.testBit_or, Nat.testBit_mul_two_pow, Nat.testBit_div_two_pow, keep0 ht, keep1 ht, add_flip]
  cases h : r.testBit a with
  | true =>
    obtain ⟨h1, h2⟩ := xor_sub h
    rw [sub_flip h1, h, h2]; simp [h1]
  | false =>
    rw [xor_add h]
    by_cases h1 : 2 ^ a ≤ r
    · rw [sub_flip h1, h]; simp
    · simp [h1]
theorem lt_of_test {x m : Nat} (h : ∀ i, m ≤ i → x.testBit i = false) : x < 2 ^ m := by
  refine Nat.lt_pow_two_of_testBit x fun i hi => h i hi
theorem half1_lt (ht : t < 2 ^ 2 ^ n) (ha : a < n) : half1 t n a < 2 ^ 2 ^ n := lt_of_test fun i hi => by
  rw [half1_test ht]
  exact test_big ht (Nat.le_of_not_lt fun h => by rw [or_lt ha] at h; omega)
theorem half0_lt (ht : t < 2 ^ 2 ^ n) (ha : a < n) : half0 t n a < 2 ^ 2 ^ n := lt_of_test fun i hi => by
  rw [half0_test ht]
  exact test_big ht (Nat.le_of_not_lt fun h => by rw [dn_lt ha] at h; omega)
theorem turn_lt (ht : t < 2 ^ 2 ^ n) (ha : a < n) : turn t n a < 2 ^ 2 ^ n := lt_of_test fun i hi => by
  rw [turn_test ht]
  exact test_big ht (Nat.le_of_not_lt fun h => by rw [fl_lt ha] at h; omega)
theorem turn_turn (ht : t < 2 ^ 2 ^ n) (ha : a < n) : turn (turn t n a) n a = t := by
  apply Nat.eq_of_testBit_eq; intro i
  rw [turn_test (turn_lt ht ha), turn_test ht, fl_fl]
/-- the two halves put together -/
theorem whole_is (ht : t < 2 ^ 2 ^ n) : bits (2 ^ n) (fun r => if (col n a).testBit r = true then (half1 t n a).testBit r else (half0 t n a).testBit r) = t := by
  rw [← bits_self ht]
  apply bits_congr
  intro i hi
  rw [bits_self ht, col_test, half1_test ht, half0_test ht]
  cases h : i.testBit a with
  | true => simp [hi, or_same h]
  | false => simp [dn, h]
/-- a table hangs on a thing just where turning it changes it -/
theorem hang_iff (ht : t < 2 ^ 2 ^ n) (ha : a < n) : half0 t n a ≠ half1 t n a ↔ turn t n a ≠ t := by
  have e : half0 t n a = half1 t n a ↔ turn t n a = t := by
    constructor
    · intro h
      apply Nat.eq_of_testBit_eq; intro i
      have q : ∀ r, t.testBit (dn r a) = t.testBit (r ||| 2 ^ a) := fun r => by rw [← half0_test ht, ← half1_test ht, h]
      rw [turn_test ht]
      have := q i
      unfold dn at this
      cases hi : i.testBit a with
      | true => rw [if_pos hi, or_same hi] at this; exact this
      | false =>
        rw [if_neg (by rw [hi]; decide), or_add hi] at this
        rw [xor_add hi]; exact this.symm
    · intro h
      apply Nat.eq_of_testBit_eq; intro i
      have q : ∀ r, t.testBit (r ^^^ 2 ^ a) = t.testBit r := fun r => by rw [← turn_test ht, h]
      rw [half0_test ht, half1_test ht]
      unfold dn
      cases hi : i.testBit a with
      | true => rw [if_pos rfl, or_same hi]; exact q i
      | false => rw [if_neg (by decide), or_add hi, ← xor_add hi]; exact (q i).symm
  exact not_congr e
theorem hang_flip (ht : t < 2 ^ 2 ^ n) (ha : a < n) : half0 t n a = half1 t n a ↔ ∀ r, t.testBit (r ^^^ 2 ^ a) = t.testBit r := by
  have e := not_congr (hang_iff ht ha)
  simp only [ne_eq, Classical.not_not] at e
  rw [e]
  constructor
  · intro h r; rw [← turn_test ht, h]
  · intro h
    apply Nat.eq_of_testBit_eq; intro i
    rw [turn_test ht]; exact h i

/-! narrowed -/
theorem nodup_of {l : List Nat} (h : ∀ (i j a : Nat), i < j → l[i]? = some a → l[j]? = some a → False) : l.Nodup := by
  induction l with
  | nil => exact List.nodup_nil
  | cons x l ih =>
    refine List.nodup_cons.mpr ⟨fun hx => ?_, ih fun i j a hij h1 h2 => h (i + 1) (j + 1) a (by omega) (by simpa using h1) (by simpa using h2)⟩
    obtain ⟨k, hk⟩ := List.getElem?_of_mem hx
    exact h 0 (k + 1) x (by omega) (by simp) (by simpa using hk)
theorem nodup_ix : ∀ {l : List Nat}, l.Nodup → ∀ {i j a : Nat}, l[i]? = some a → l[j]? = some a → i = j
  | [], _, i, j, a, h, _ => by simp at h
  | x :: l, nd, 0, 0, a, _, _ => rfl
  | x :: l, nd, 0, j + 1, a, h1, h2 => by
    simp at h1 h2; subst h1
    exact absurd (List.mem_of_getElem? h2) (List.nodup_cons.mp nd).1
  | x :: l, nd, i + 1, 0, a, h1, h2 => by
    simp at h1 h2; subst h2
    exact absurd (List.mem_of_getElem? h1) (List.nodup_cons.mp nd).1
  | x :: l, nd, i + 1, j + 1, a, h1, h2 => by
    simp at h1 h2
    rw [nodup_ix (List.nodup_cons.mp nd).2 h1 h2]
/-- the row in which the things of a list have the bits of a row -/
def spread : List Nat → Nat → Nat
  | [], _ => 0
  | a :: l, r => (r % 2) * 2 ^ a + spread l (r / 2)
/-- what the bit i of it is -/
def look : List Nat → Nat → Nat → Bool
  | [], _, _ => false
  | a :: l, r, i => if i = a then r.testBit 0 else look l (r / 2) i
theorem look_out : ∀ {l : List Nat} {r i : Nat}, i ∉ l → look l r i = false
  | [], _, _, _ => rfl
  | a :: l, r, i, h => by
    rw [List.mem_cons, not_or] at h
    rw [look, if_neg h.1]; exact look_out h.2
theorem look_at : ∀ {l : List Nat} {r i k : Nat}, l.Nodup → l[k]? = some i → look l r i = r.testBit k
  | [], _, _, _, _, h => by simp at h
  | a :: l, r, i, 0, nd, h => by
    simp at h; subst h
    rw [look, if_pos rfl]
  | a :: l, r, i, k + 1, nd, h => by
    simp at h
    have hm : i ∈ l := List.mem_of_getElem? h
    have ne : i ≠ a := fun e => (List.nodup_cons.mp nd).1 (e ▸ hm)
    rw [look, if_neg ne, look_at (List.nodup_cons.mp nd).2 h, Nat.testBit_succ]
theorem spread_test : ∀ {l : List Nat}, l.Nodup → ∀ r i, (spread l r).testBit i = look l r i
  | [], _, r, i => by simp [spread, look]
  | a :: l, nd, r, i => by
    have nd' := List.nodup_cons.mp nd
    have ih := spread_test nd'.2 (r / 2)
    have h0 : (spread l (r / 2)).testBit a = false := by rw [ih]; exact look_out nd'.1
    rw [spread, look, ← ih]
    rcases Nat.mod_two_eq_zero_or_one r with h | h
    · rw [h, Nat.zero_mul, Nat.zero_add, Nat.testBit_zero, h]
      by_cases e : i = a
      · subst e; rw [if_pos rfl, h0]; rfl
      · rw [if_neg e]
    · rw [h, Nat.one_mul, Nat.add_comm, ← or_add h0, Nat.testBit_or, Nat.testBit_two_pow, Nat.testBit_zero, h]
      by_cases e : i = a
      · subst e; simp
      · have e' : ¬ a = i := fun z => e z.symm
        rw [if_neg e]; simp [e']
def nar (t : Nat) (l : List Nat) : Nat := bits (2 ^ l.length) fun r => t.testBit (spread l r)
theorem nar_lt (t : Nat) (l : List Nat) : nar t l < 2 ^ 2 ^ l.length := bits_lt ..
theorem nar_test (t : Nat) (l : List Nat) (r : Nat) : (nar t l).testBit r = (decide (r < 2 ^ l.length) && t.testBit (spread l r)) := bits_test ..
theorem spread_lt {l : List Nat} (nd : l.Nodup) {n : Nat} (h : ∀ a ∈ l, a < n) (r : Nat) : spread l r < 2 ^ n := lt_of_test fun i hi => by
  rw [spread_test nd]
  exact look_out fun z => by have := h i z; omega
/-- to all things in another order, and back -/
theorem nar_nar {some back : List Nat} (ht : t < 2 ^ 2 ^ n) (ns : some.Nodup) (ls : some.length = n) (rs : ∀ a ∈ some, a < n) (lb : back.length = n) (hb : ∀ i, i < n → ∃ k, back[i]? = .some k ∧ some[k]? = .some i) : nar (nar t some) back = t := by
  have nb : back.Nodup := by
    refine nodup_of fun i j a hij h1 h2 => ?_
    have il : i < n := by rw [← lb]; exact (List.getElem?_eq_some_iff.mp h1).1
    have jl : j < n := by rw [← lb]; exact (List.getElem?_eq_some_iff.mp h2).1
    obtain ⟨k, h3, h4⟩ := hb i il
    obtain ⟨k', h5, h6⟩ := hb j jl
    rw [h1] at h3; rw [h2] at h5
    cases h3; cases h5
    rw [h4] at h6; cases h6; omega
  have rb : ∀ a ∈ back, a < n := fun a ha => by
    obtain ⟨i, hi⟩ := List.getElem?_of_mem ha
    have hl : i < n := by rw [← lb]; exact (List.getElem?_eq_some_iff.mp hi).1
    obtain ⟨k, h1, h2⟩ := hb i hl
    rw [hi] at h1; cases h1
    rw [← ls]; exact (List.getElem?_eq_some_iff.mp h2).1
  rw [← bits_self ht]
  unfold nar
  rw [lb]
  apply bits_congr
  intro r hr
  rw [bits_self ht, bits_test, ls]
  have e1 : spread back r < 2 ^ n := spread_lt nb rb r
  rw [decide_eq_true e1, Bool.true_and]
  congr 1
  apply Nat.eq_of_testBit_eq; intro i
  rw [spread_test ns]
  by_cases hi : i < n
  · obtain ⟨k, h1, h2⟩ := hb i hi
    rw [look_at ns h2, spread_test nb, look_at nb h1]
  · rw [look_out (fun z => hi (rs i z)), test_big hr (Nat.le_of_not_lt hi)]
/-- flipping what the list does not hold changes nothing, so all rows are told by the list's things -/
theorem free_all {l : List Nat} (hf : ∀ a, a < n → a ∉ l → ∀ r, t.testBit (r ^^^ 2 ^ a) = t.testBit r) : ∀ (k : Nat) (r s : Nat), r < 2 ^ n → s < 2 ^ n → (∀ i, i ∈ l → r.testBit i = s.testBit i) → (∀ i, k ≤ i → r.testBit i = s.testBit i) → k ≤ n → t.testBit r = t.testBit s
  | 0, r, s, _, _, _, h, _ => by
    have : r = s := Nat.eq_of_testBit_eq fun i => h i (Nat.zero_le _)
    rw [this]
  | k + 1, r, s, hr, hs, hl, h, hk => by
    by_cases e : r.testBit k = s.testBit k
    · exact free_all hf k r s hr hs hl (fun i hi => by
        by_cases z : i = k
        · rw [z]; exact e
        · exact h i (by omega)) (by omega)
    · have nk : k ∉ l := fun z => e (hl k z)
      have kn : k < n := by omega
      rw [← hf k kn nk r]
      refine free_all hf k (r ^^^ 2 ^ k) s ((fl_lt kn).mpr hr) hs (fun i hi => ?_) (fun i hi => ?_) (by omega)
      · rw [Nat.testBit_xor, Nat.testBit_two_pow]
        have : k ≠ i := fun z => nk (z ▸ hi)
        simp [this, hl i hi]
      · rw [Nat.testBit_xor, Nat.testBit_two_pow]
        by_cases z : k = i
        · subst z
          cases h1 : r.testBit k <;> cases h2 : s.testBit k <;> simp_all
        · simp [z]; exact h i (by omega)
/-- narrowed to the things on which it hangs it hangs on all -/
theorem nar_hangs {l : List Nat} (ht : t < 2 ^ 2 ^ n) (nd : l.Nodup) (hl : ∀ a, a ∈ l ↔ a < n ∧ half0 t n a ≠ half1 t n a) {j : Nat} (hj : j < l.length) : half0 (nar t l) l.length j ≠ half1 (nar t l) l.length j := by
  intro e
  rw [hang_flip (nar_lt t l) hj] at e
  obtain ⟨a, ha⟩ : ∃ a, l[j]? = .some a := ⟨_, List.getElem?_eq_getElem hj⟩
  have am := (hl a).mp (List.mem_of_getElem? ha)
  apply am.2
  rw [hang_flip ht am.1]
  have free : ∀ b, b < n → b ∉ l → ∀ r, t.testBit (r ^^^ 2 ^ b) = t.testBit r := fun b hb nb => by
    rw [← hang_flip ht hb]
    exact Classical.byContradiction fun z => nb ((hl b).mpr ⟨hb, z⟩)
  have rl : ∀ b ∈ l, b < n := fun b hb => ((hl b).mp hb).1
  intro r
  by_cases hr : r < 2 ^ n
  · -- the row over the list
    have hx : bits l.length (fun k => r.testBit (l.getD k 0)) < 2 ^ l.length := bits_lt ..
    generalize hq : bits l.length (fun k => r.testBit (l.getD k 0)) = q at hx
    have qt : ∀ k b, l[k]? = .some b → q.testBit k = r.testBit b := fun k b hk => by
      have kl := (List.getElem?_eq_some_iff.mp hk).1
      rw [← hq, bits_test, List.getD_eq_getElem?_getD, hk]; simp [kl]
    have z := e q
    have hx2 : q ^^^ 2 ^ j < 2 ^ l.length := (fl_lt hj).mpr hx
    rw [nar_test, nar_test, decide_eq_true hx, decide_eq_true hx2, Bool.true_and, Bool.true_and] at z
    have s1 : t.testBit (spread l q) = t.testBit r := by
      refine free_all free n _ _ (spread_lt nd rl q) hr (fun i hi => ?_) (fun i hi => ?_) (Nat.le_refl _)
      · obtain ⟨k, hk⟩ := List.getElem?_of_mem hi
        rw [spread_test nd, look_at nd hk, qt k i hk]
      · rw [test_big (spread_lt nd rl q) hi, test_big hr hi]
    have hr2 : r ^^^ 2 ^ a < 2 ^ n := (fl_lt am.1).mpr hr
    have s2 : t.testBit (spread l (q ^^^ 2 ^ j)) = t.testBit (r ^^^ 2 ^ a) := by
      refine free_all free n _ _ (spread_lt nd rl _) hr2 (fun i hi => ?_) (fun i hi => ?_) (Nat.le_refl _)
      · obtain ⟨k, hk⟩ := List.getElem?_of_mem hi
        rw [spread_test nd, look_at nd hk, Nat.testBit_xor, Nat.testBit_xor, qt k i hk, Nat.testBit_two_pow, Nat.testBit_two_pow]
        have : (j = k) ↔ (a = i) := by
          constructor
          · intro z; subst z; rw [ha] at hk; exact Option.some.inj hk
          · intro z; subst z; exact nodup_ix nd ha hk
        simp [this]
      · rw [test_big (spread_lt nd rl _) hi, test_big hr2 hi]
    rw [← s1, ← s2]; exact z
  · have hr' := Nat.le_of_not_lt hr
    have hr2 : ¬ r ^^^ 2 ^ a < 2 ^ n := fun z => hr ((fl_lt am.1).mp z)
    rw [test_big ht hr', test_big ht (Nat.le_of_not_lt hr2)]
theorem bits_step (f : Nat → Bool) (m : Nat) : bits m f ||| (if f m = true then 1 else 0) * 2 ^ m = bits (m + 1) f := by
  have lt := bits_lt f m
  have := Nat.two_pow_add_eq_or_of_lt lt (if f m = true then 1 else 0)
  rw [Nat.or_comm, Nat.mul_comm, ← this, bits]
  split <;> omega
theorem bit_val (t s : Nat) : t / 2 ^ s % 2 = if t.testBit s = true then 1 else 0 := by
  rw [Nat.testBit_eq_decide_div_mod_eq]
  rcases Nat.mod_two_eq_zero_or_one (t / 2 ^ s) with h | h <;> rw [h] <;> rfl
end M68
namespace Gm
open PySem PySem.Spec PyProof.Rows L2

/-- all that stood stands -/
def Ex (H H' : Hp) : Prop := ∀ a o, H a = some o → H' a = some o
theorem Ex.rfl' {H : Hp} : Ex H H := fun _ _ h => h
theorem Ex.tr {H H1 H2 : Hp} (a : Ex H H1) (b : Ex H1 H2) : Ex H H2 := fun x o h => b x o (a x o h)
theorem Ex.new {H : Hp} {p : Addr} {o : HO} (h : H p = none) : Ex H (upd H p o) := fun a u e => by
  rw [upd_ne (ne_of_none e h)]; exact e
theorem Ex.fresh {H H' : Hp} (e : Ex H H') {p : Addr} (h : H' p = none) : H p = none := by
  cases q : H p with
  | none => rfl
  | some o => rw [e p o q] at h; cases h
theorem Ex.sql {K : PySem.W.Frag} {H H' : Hp} {a : Addr} {xs : List V} (e : Ex H H') (h : SqL K H a xs) : SqL K H' a xs := by
  rcases h with (h | ⟨o, h⟩) | h
  · exact .inl (.inl (e _ _ h))
  · exact .inl (.inr ⟨o, e _ _ h⟩)
  · exact .inr h
theorem Ex.sqt {K : PySem.W.Frag} {H H' : Hp} {a : Addr} {xs : List V} (e : Ex H H') (h : SqT K H a xs) : SqT K H' a xs := by
  rcases h with (h | ⟨o, h⟩) | h
  · exact .inl (.inl (e _ _ h))
  · exact .inl (.inr ⟨o, e _ _ h⟩)
  · exact .inr h

def hasDT : HO → Bool
  | .dT _ => true
  | .frz _ u => hasDT u
  | _ => false
/-- no dict of tuples stands -/
def NoDT (H : Hp) : Prop := ∀ a o, H a = some o → hasDT o = false
theorem NoDT.upd {H : Hp} (n : NoDT H) {p : Addr} {o : HO} (h : hasDT o = false) : NoDT (upd H p o) := fun a u e => by
  by_cases z : a = p
  · subst z; rw [upd_same] at e; cases e; exact h
  · rw [upd_ne z] at e; exact n a u e
theorem NoDT.ex {H H' : Hp} (n : NoDT H') (e : Ex H H') : NoDT H := fun a o q => n a o (e a o q)
/-- each instance has its dict -/
def Closed (H : Hp) : Prop := ∀ a C dx fs, H a = some (.ins C dx fs) → H dx = some (.own a)
theorem Closed.new {H : Hp} (c : Closed H) {p : Addr} {o : HO} (h : H p = none) (ho : ∀ C dx fs, o ≠ .ins C dx fs) : Closed (upd H p o) := fun a C dx fs e => by
  by_cases z : a = p
  · subst z; rw [upd_same] at e; cases e; exact absurd rfl (ho _ _ _)
  · rw [upd_ne z] at e
    have q := c a C dx fs e
    rw [upd_ne (ne_of_none q h)]; exact q
theorem Closed.set {H : Hp} (c : Closed H) {p : Addr} {o u : HO} (h : H p = some u) (hu : ∀ x, u ≠ .own x) (ho : ∀ C dx fs, o ≠ .ins C dx fs) : Closed (upd H p o) := fun a C dx fs e => by
  by_cases z : a = p
  · subst z; rw [upd_same] at e; cases e; exact absurd rfl (ho _ _ _)
  · rw [upd_ne z] at e
    have q := c a C dx fs e
    rw [upd_ne (fun z => by subst z; rw [h] at q; exact hu _ (Option.some.inj q))]; exact q
def isImm : HO → Bool
  | .tup _ => true
  | .frz _ _ => true
  | .tbl _ => true
  | _ => false
/-- what never changes is kept -/
def Imm (H H' : Hp) : Prop := ∀ b o, H b = some o → isImm o = true → H' b = some o
theorem Imm.rfl' {H : Hp} : Imm H H := fun _ _ h _ => h
theorem Imm.of {H H' : Hp} (e : Ex H H') : Imm H H' := fun b o h _ => e b o h
theorem Imm.set {H : Hp} {p : Addr} {o u : HO} (h : H p = some u) (hu : isImm u = false) : Imm H (upd H p o) := fun b x e i => by
  rw [upd_ne (fun z => by subst z; rw [h] at e; cases e; rw [hu] at i; cases i)]; exact e

section
variable {P : Program} {w : World} {H H' H0 : Hp} {h h' : Heap} {a : Addr} {o : HO}
theorem ok_cut (c : Closed H) : ∀ {o : HO}, ObjOk P w H' h a o → (∀ C dx fs, o = .ins C dx fs → H a = some o) → (∀ ob u, o = .frz ob u → ∀ C dx fs, u = .ins C dx fs → False) → hasDT o = false → True := fun _ _ _ _ => trivial
/-- an object's description leans on the instance's own dict alone (but where a dict of tuples stands) -/
theorem ok_forget : ∀ {o : HO}, ObjOk P w H' h' a o → ObjOk P w H h a o → hasDT o = false → ObjOk P w H h' a o
  | .lst _, x, _, _ => x
  | .tup _, x, _, _ => x
  | .dK _, x, _, _ => x
  | .set _ _, x, _, _ => x
  | .ins _ _ _, x, y, _ => ⟨y.1, x.2⟩
  | .own _, x, _, _ => x
  | .xd _, x, _, _ => x
  | .rng _ _, x, _, _ => x
  | .met _ _, x, _, _ => x
  | .tbl _, x, _, _ => x
  | .ext _, x, _, _ => x
  | .frz _ _, x, y, n => ⟨x.1, ok_forget x.2 y.2 n⟩
  | .dT _, _, _, n => by cases n
theorem HOk.closed (k : HOk P w H h) : Closed H := fun a C dx fs e => (k a _ e).1
end
/-- frozen things hold no instances -/
def frzOk : HO → Bool
  | .frz _ u => match u with
    | .ins _ _ _ => false
    | .frz _ _ => false
    | _ => true
  | _ => true
section
variable {P : Program} {w : World} {H H' : Hp} {h' : Heap} {a : Addr}
theorem ok_cut1 : ∀ {o : HO}, ObjOk P w H' h' a o → (∀ C dx fs, o ≠ .ins C dx fs) → frzOk o = true → hasDT o = false → ObjOk P w H h' a o
  | .lst _, x, _, _, _ => x
  | .tup _, x, _, _, _ => x
  | .dK _, x, _, _, _ => x
  | .set _ _, x, _, _, _ => x
  | .ins _ _ _, x, y, _, _ => absurd rfl (y _ _ _)
  | .own _, x, _, _, _ => x
  | .xd _, x, _, _, _ => x
  | .rng _ _, x, _, _, _ => x
  | .met _ _, x, _, _, _ => x
  | .tbl _, x, _, _, _ => x
  | .ext _, x, _, _, _ => x
  | .frz _ (.lst _), x, _, _, _ => x
  | .frz _ (.tup _), x, _, _, _ => x
  | .frz _ (.dK _), x, _, _, _ => x
  | .frz _ (.set _ _), x, _, _, _ => x
  | .frz _ (.own _), x, _, _, _ => x
  | .frz _ (.xd _), x, _, _, _ => x
  | .frz _ (.rng _ _), x, _, _, _ => x
  | .frz _ (.met _ _), x, _, _, _ => x
  | .frz _ (.tbl _), x, _, _, _ => x
  | .frz _ (.ext _), x, _, _, _ => x
  | .frz _ (.ins _ _ _), _, _, f, _ => by cases f
  | .frz _ (.frz _ _), _, _, f, _ => by cases f
  | .frz _ (.dT _), _, _, _, n => by cases n
  | .dT _, _, _, _, n => by cases n
theorem HOk.cut (k : HOk P w H' h') (e : Ex H H') (n : NoDT H) (c : Closed H) (f : ∀ a o, H a = some o → frzOk o = true) : HOk P w H h' := fun a o q => by
  have x := k a o (e a o q)
  cases o with
  | ins C dx fs => exact ⟨c a C dx fs q, x.2⟩
  | _ => exact ok_cut1 x (fun _ _ _ z => by cases z) (f _ _ q) (n _ _ q)
end
/-- the heap is plain: what is forgotten leaves no hole -/
structure Plain (H : Hp) : Prop where
  nd : NoDT H
  fz : ∀ a o, H a = some o → frzOk o = true
theorem Plain.upd {H : Hp} (n : Plain H) {p : Addr} {o : HO} (h : hasDT o = false := by rfl) (f : frzOk o = true := by rfl) : Plain (upd H p o) :=
  ⟨n.nd.upd h, fun a u e => by
    by_cases z : a = p
    · subst z; rw [upd_same] at e; cases e; exact f
    · rw [upd_ne z] at e; exact n.fz a u e⟩
section
variable {X : Cx} {pins : List (Addr × Obj)} {σ σ' : L2.St} {H H' H2 : Hp} {s s' : Shared}
/-- what may be let go: H' is let go down to H2 -/
structure Cut (H H' H2 : Hp) : Prop where
  ex : Ex H2 H'
  pl : Plain H2
  cl : Closed H → Closed H2
  im : Imm H H2
theorem Cut.self (e : Ex H H') (n : Plain H) : Cut H H' H := ⟨e, n, id, Imm.rfl'⟩
theorem Cut.new {p : Addr} {o : HO} (h : H p = none) (e : Ex (upd H p o) H') (n : Plain H) (h1 : hasDT o = false := by rfl) (h2 : frzOk o = true := by rfl) (ho : ∀ C dx fs, o ≠ .ins C dx fs := by intros; simp) : Cut H H' (upd H p o) :=
  ⟨e, n.upd h1 h2, fun c => c.new h ho, Imm.of (Ex.new h)⟩
theorem Cut.set {p : Addr} {o u : HO} (h : H p = some u) (e : Ex (upd H p o) H') (n : Plain H) (hu : ∀ x, u ≠ .own x := by intros; simp) (hi : isImm u = false := by rfl) (h1 : hasDT o = false := by rfl) (h2 : frzOk o = true := by rfl) (ho : ∀ C dx fs, o ≠ .ins C dx fs := by intros; simp) : Cut H H' (upd H p o) :=
  ⟨e, n.upd h1 h2, fun c => c.set h hu ho, Imm.set h hi⟩
theorem inv_cut (I : Inv X pins σ H s) (J : Inv X pins σ' H' s') (k : Cut H H' H2) : Inv X pins σ' H2 s' := by
  have none_ : ∀ b, H' b = none → H2 b = none := fun b e => k.ex.fresh e
  refine ⟨I.ok, J.os, J.bare, ⟨J.base.keep, J.base.slot, fun b o e n hx => none_ b (J.base.free b o e n hx), J.base.there, fun b xs e => k.im b _ (I.base.tups b xs e) rfl, fun b o u e => k.im b _ (I.base.frzs b o u e) rfl, fun b ps e => ?_⟩, J.loc, J.cell,
    none_ _ J.free, fun x c e => none_ _ (J.freeC x c e), fun p hp => let q := J.pin p hp; ⟨q.1, none_ _ q.2.1, q.2.2⟩, HOk.cut J.hok k.ex k.pl.nd (k.cl (HOk.closed I.hok)) k.pl.fz, J.len⟩
  obtain ⟨m, q⟩ := I.base.tbls b ps e
  exact ⟨m, k.im b _ q rfl⟩
theorem pe_cut {e : Expr} {t : TE} (h : PE X e t) : PE X e (fun σ H Q => t σ H fun v H' => ∃ H2, Cut H H' H2 ∧ Q v H2) :=
  ⟨fun pins s σ H Q I x => thn (h.run pins s σ H _ I x) fun u s' ⟨v, H', J, r, H2, k, q⟩ => ⟨v, H2, inv_cut I J k, r, q⟩⟩
theorem pt_cut {e : Expr} {t : TT} (h : PT X e t) : PT X e (fun σ H Q => t σ H fun v H' => ∃ H2, Cut H H' H2 ∧ Q v H2) :=
  ⟨fun pins s σ H Q I x => thn (h.run pins s σ H _ I x) fun u s' ⟨H', J, H2, k, q⟩ => ⟨H2, inv_cut I J k, q⟩⟩
theorem ps_cut {e : Stmt} {t : TS} (h : PS X e t) : PS X e (fun D σ H => t { nx := fun σ' H' => ∃ H2, Cut H H' H2 ∧ D.nx σ' H2, rt := fun v H' => ∃ H2, Cut H H' H2 ∧ D.rt v H2, bk := fun σ' H' => ∃ H2, Cut H H' H2 ∧ D.bk σ' H2, ct := fun σ' H' => ∃ H2, Cut H H' H2 ∧ D.ct σ' H2 } σ H) :=
  ⟨fun pins s σ H D I x => thn (h.run pins s σ H _ I x) fun f s' y => by
    cases f with
    | next => obtain ⟨σ', H', J, H2, k, q⟩ := y; exact ⟨σ', H2, inv_cut I J k, q⟩
    | brk => obtain ⟨σ', H', J, H2, k, q⟩ := y; exact ⟨σ', H2, inv_cut I J k, q⟩
    | cont => obtain ⟨σ', H', J, H2, k, q⟩ := y; exact ⟨σ', H2, inv_cut I J k, q⟩
    | ret u => obtain ⟨v, σ', H', J, r, H2, k, q⟩ := y; exact ⟨v, σ', H2, inv_cut I J k, r, q⟩⟩
end
end Gm
namespace Gm
open PySem PySem.Spec PyProof.Rows L2

/-! ### computational readings -/
def sg : L2.St → Nat → Option V
  | [], _ => none
  | x :: _, 0 => x
  | _ :: r, n + 1 => sg r n
theorem sg_get : ∀ {σ : L2.St} {i : Nat} {v : V}, sg σ i = some v → σ[i]? = some (some v)
  | x :: _, 0, v, h => by simp only [sg] at h; subst h; rfl
  | _ :: r, n + 1, v, h => by simp only [sg] at h; simpa using sg_get (σ := r) h
def vV (i : Nat) : TE := fun σ H Q => match sg σ i with | some v => Q v H | none => False
section
variable {X : Cx}
theorem PE.imp {e : Expr} {t t' : TE} (h : PE X e t) (i : ∀ σ H Q, t' σ H Q → t σ H Q) : PE X e t' := ⟨fun pins s σ H Q I x => h.run pins s σ H Q I (i σ H Q x)⟩
theorem PT.imp {e : Expr} {t t' : TT} (h : PT X e t) (i : ∀ σ H Q, t' σ H Q → t σ H Q) : PT X e t' := ⟨fun pins s σ H Q I x => h.run pins s σ H Q I (i σ H Q x)⟩
theorem PS.imp {e : Stmt} {t t' : TS} (h : PS X e t) (i : ∀ D σ H, t' D σ H → t D σ H) : PS X e t' := ⟨fun pins s σ H D I x => h.run pins s σ H D I (i D σ H x)⟩
theorem OpR.imp {f : Value → Value → Sem Value} {r r' : R2} (h : OpR X f r) (i : ∀ x y H Q, r' x y H Q → r x y H Q) : OpR X f r' := fun pins s σ H x y v u Q I rx ry q => h pins s σ H x y v u Q I rx ry (i x y H Q q)
theorem IxR.imp {r r' : R2} (h : IxR X r) (i : ∀ x y H Q, r' x y H Q → r x y H Q) : IxR X r' := fun a b pins s σ H x y v u Q I rx ry q z => h a b pins s σ H x y v u Q I rx ry (i x y H Q q) z
theorem CallR.imp {f : Value} {r r' : List V → Hp → VK → Prop} (h : CallR X f r) (i : ∀ xs H Q, r' xs H Q → r xs H Q) : CallR X f r' := fun pins s σ H xs us Q I rx q => h pins s σ H xs us Q I rx (i xs H Q q)
theorem MtR.imp {id : String} {r r' : V → List V → Hp → VK → Prop} (h : MtR X id r) (i : ∀ x xs H Q, r' x xs H Q → r x xs H Q) : MtR X id r' := fun pins s σ H x xs v us Q I rx rxs q => h pins s σ H x xs v us Q I rx rxs (i x xs H Q q)
theorem PSet.imp {r r' : TSet} (h : PSet X r) (i : ∀ o j v H Q, r' o j v H Q → r o j v H Q) : PSet X r' := fun pins s σ H o j v ov iv u Q I r1 r2 r3 q => h pins s σ H o j v ov iv u Q I r1 r2 r3 (i o j v H Q q)

theorem c_v (i : Nat) {x : Str} {pos : Pos} (hN : X.N[i]? = some x := by rfl) (hv : Vis X.env.scope x := by first | exact Or.inl rfl | exact Or.inr (Or.inl rfl) | exact Or.inr (Or.inr rfl)) (hd : (x == ("__debug__" : Str)) = false := by decide)
    (hcd : (x == ("__classdict__" : Str)) = false := by decide) : PE X (.Name x pos) (vV i) := PE.imp (pv i hN hv hd hcd) fun σ H Q h => by
  unfold vV at h
  split at h
  · rename_i v e; exact ⟨v, sg_get e, h⟩
  · exact h.elim

/-! ints -/
def bAdd : R2 := fun x y H Q => match x, y with | .int i, .int j => Q (.int (i + j)) H | _, _ => False
def bSub : R2 := fun x y H Q => match x, y with | .int i, .int j => Q (.int (i - j)) H | _, _ => False
def bMul : R2 := fun x y H Q => match x, y with | .int i, .int j => IntMulOk i j ∧ Q (.int (i * j)) H | _, _ => False
def bDiv : R2 := fun x y H Q => match x, y with | .int i, .int j => CDivW i j ∧ Q (.int (i / j)) H | _, _ => False
def bMod : R2 := fun x y H Q => match x, y with | .int i, .int j => 0 < j ∧ Q (.int (i % j)) H | _, _ => False
def bShl : R2 := fun x y H Q => match x, y with | .int i, .int j => (0 ≤ i ∧ CShl i j) ∧ Q (.int ((i.toNat * 2 ^ j.toNat : Nat) : Int)) H | _, _ => False
def bShr : R2 := fun x y H Q => match x, y with | .int i, .int j => (0 ≤ i ∧ 0 ≤ j) ∧ Q (.int ((i.toNat / 2 ^ j.toNat : Nat) : Int)) H | _, _ => False
def bAnd : R2 := fun x y H Q => match x, y with | .int i, .int j => (0 ≤ i ∧ 0 ≤ j) ∧ Q (.int ((i.toNat &&& j.toNat : Nat) : Int)) H | _, _ => False
def bOr : R2 := fun x y H Q => match x, y with | .int i, .int j => (0 ≤ i ∧ 0 ≤ j) ∧ Q (.int ((i.toNat ||| j.toNat : Nat) : Int)) H | _, _ => False
def bXor : R2 := fun x y H Q => match x, y with | .int i, .int j => (0 ≤ i ∧ 0 ≤ j) ∧ Q (.int ((i.toNat ^^^ j.toNat : Nat) : Int)) H | _, _ => False
def bLt : R2 := fun x y H Q => match x, y with | .int i, .int j => Q (.bl (decide (i < j))) H | _, _ => False
def bLe : R2 := fun x y H Q => match x, y with | .int i, .int j => Q (.bl (decide (i ≤ j))) H | _, _ => False
def bGt : R2 := fun x y H Q => match x, y with | .int i, .int j => Q (.bl (decide (j < i))) H | _, _ => False
def bGe : R2 := fun x y H Q => match x, y with | .int i, .int j => Q (.bl (decide (j ≤ i))) H | _, _ => False
def bEq : R2 := fun x y H Q => scal x y = true ∧ Q (.bl (decide (x = y))) H
def bNe : R2 := fun x y H Q => scal x y = true ∧ Q (.bl (!decide (x = y))) H

theorem r_I0 {g : Int → Int → V} {r : R2} (h : ∀ x y H Q, r x y H Q → ∃ i j, x = .int i ∧ y = .int j ∧ Q (g i j) H) : ∀ x y H Q, r x y H Q → rI0 g x y H Q := h
theorem bitAnd_n {x y : Int} (hx : 0 ≤ x) (hy : 0 ≤ y) : Builtin.bitAnd x y = ((x.toNat &&& y.toNat : Nat) : Int) := by simp [Builtin.bitAnd, hx, hy]
theorem nat_sum_and : ∀ (n a b : Nat), a ≤ n → (a ^^^ b) + 2 * (a &&& b) = a + b
  | 0, a, b, h => by
    have : a = 0 := by omega
    subst this; simp
  | n + 1, a, b, h => by
    by_cases ha : a = 0
    · subst ha; simp
    · have ih := nat_sum_and n (a / 2) (b / 2) (by omega)
      have e1 : (a ^^^ b) / 2 = a / 2 ^^^ b / 2 := Nat.xor_div_two
      have e2 : (a &&& b) / 2 = a / 2 &&& b / 2 := Nat.and_div_two
      rw [← e1, ← e2] at ih
      have t1 := Nat.testBit_xor a b 0
      have t2 := Nat.testBit_and a b 0
      rw [Nat.testBit_zero, Nat.testBit_zero, Nat.testBit_zero] at t1 t2
      rcases Nat.mod_two_eq_zero_or_one a with h1 | h1 <;> rcases Nat.mod_two_eq_zero_or_one b with h2 | h2 <;> rcases Nat.mod_two_eq_zero_or_one (a ^^^ b) with h3 | h3 <;> rcases Nat.mod_two_eq_zero_or_one (a &&& b) with h4 | h4 <;>
        (rw [h1, h2, h3] at t1; rw [h1, h2, h4] at t2; first | exact absurd t1 (by decide) | exact absurd t2 (by decide) | (clear t1 t2 e1 e2; omega))
theorem bitXor_n {x y : Int} (hx : 0 ≤ x) (hy : 0 ≤ y) : Builtin.bitXor x y = ((x.toNat ^^^ y.toNat : Nat) : Int) := by
  have h := nat_sum_and x.toNat x.toNat y.toNat (Nat.le_refl _)
  have o : Builtin.bitXor x y = x + y - 2 * Builtin.bitAnd x y := by
    have e1 : Builtin.bitXor x y = Builtin.bitOr x y - Builtin.bitAnd x y := rfl
    rw [e1, PyProof.Rows.bitOr_and]; omega
  rw [o, bitAnd_n hx hy]; omega

theorem shl_n {i : Int} {k : Nat} (h : 0 ≤ i) : ((i.toNat * 2 ^ k : Nat) : Int) = i * 2 ^ k := by
  obtain ⟨n, rfl⟩ := Int.eq_ofNat_of_zero_le h
  simp
theorem shr_n {i : Int} {k : Nat} (h : 0 ≤ i) : ((i.toNat / 2 ^ k : Nat) : Int) = i / 2 ^ k := by
  obtain ⟨n, rfl⟩ := Int.eq_ofNat_of_zero_le h
  simp
theorem bo_add : OpR X (binaryOp .Add) bAdd := OpR.imp op_add fun x y H Q h => by
  unfold bAdd at h; split at h; · exact ⟨_, _, rfl, rfl, h⟩
  · exact h.elim
theorem bo_sub : OpR X (binaryOp .Sub) bSub := OpR.imp op_sub fun x y H Q h => by
  unfold bSub at h; split at h; · exact ⟨_, _, rfl, rfl, h⟩
  · exact h.elim
theorem bo_mul : OpR X (binaryOp .Mult) bMul := OpR.imp (opI (C := IntMulOk) (g := fun i j => i * j) fun i j t u s Q E h q => mul_int q h) fun x y H Q h => by
  unfold bMul at h; split at h; · exact ⟨_, _, rfl, rfl, h⟩
  · exact h.elim
theorem bo_div : OpR X (binaryOp .FloorDiv) bDiv := OpR.imp op_fdivW fun x y H Q h => by
  unfold bDiv at h; split at h; · exact ⟨_, _, rfl, rfl, h⟩
  · exact h.elim
theorem bo_mod : OpR X (binaryOp .Mod) bMod := OpR.imp op_mod fun x y H Q h => by
  unfold bMod at h; split at h; · exact ⟨_, _, rfl, rfl, h⟩
  · exact h.elim
theorem bo_shl : OpR X (binaryOp .LShift) bShl := OpR.imp op_shlW fun x y H Q h => by
  unfold bShl at h; split at h
  · refine ⟨_, _, rfl, rfl, h.1.2, ?_⟩; dsimp only; rw [← shl_n h.1.1]; exact h.2
  · exact h.elim
theorem bo_shr : OpR X (binaryOp .RShift) bShr := OpR.imp op_shr fun x y H Q h => by
  unfold bShr at h; split at h
  · refine ⟨_, _, rfl, rfl, h.1.2, ?_⟩; dsimp only; rw [← shr_n h.1.1]; exact h.2
  · exact h.elim
theorem bo_and : OpR X (binaryOp .BitAnd) bAnd := OpR.imp op_and fun x y H Q h => by
  unfold bAnd at h; split at h
  · refine ⟨_, _, rfl, rfl, ?_⟩; show Q (V.int (Builtin.bitAnd _ _)) H; rw [bitAnd_n h.1.1 h.1.2]; exact h.2
  · exact h.elim
theorem bo_or : OpR X (binaryOp .BitOr) bOr := OpR.imp op_or fun x y H Q h => by
  unfold bOr at h; split at h
  · refine ⟨_, _, rfl, rfl, ?_⟩; show Q (V.int (Builtin.bitOr _ _)) H; rw [bitOr_nn h.1.1 h.1.2]; exact h.2
  · exact h.elim
theorem bo_xor : OpR X (binaryOp .BitXor) bXor := OpR.imp op_xor fun x y H Q h => by
  unfold bXor at h; split at h
  · refine ⟨_, _, rfl, rfl, ?_⟩; show Q (V.int (Builtin.bitXor _ _)) H; rw [bitXor_n h.1.1 h.1.2]; exact h.2
  · exact h.elim
theorem io_add : OpR X (inplaceOp .Add) bAdd := OpR.imp iop_add fun x y H Q h => by
  unfold bAdd at h; split at h; · exact ⟨_, _, rfl, rfl, h⟩
  · exact h.elim
theorem io_sub : OpR X (inplaceOp .Sub) bSub := OpR.imp iop_sub fun x y H Q h => by
  unfold bSub at h; split at h; · exact ⟨_, _, rfl, rfl, h⟩
  · exact h.elim
theorem io_shl : OpR X (inplaceOp .LShift) bShl := OpR.imp iop_shlW fun x y H Q h => by
  unfold bShl at h; split at h
  · refine ⟨_, _, rfl, rfl, h.1.2, ?_⟩; dsimp only; rw [← shl_n h.1.1]; exact h.2
  · exact h.elim
theorem io_or : OpR X (inplaceOp .BitOr) bOr := OpR.imp iop_or fun x y H Q h => by
  unfold bOr at h; split at h
  · refine ⟨_, _, rfl, rfl, ?_⟩; show Q (V.int (Builtin.bitOr _ _)) H; rw [bitOr_nn h.1.1 h.1.2]; exact h.2
  · exact h.elim
theorem bo_lt : OpR X (compareOp .Lt) bLt := OpR.imp op_lt fun x y H Q h => by
  unfold bLt at h; split at h; · exact ⟨_, _, rfl, rfl, h⟩
  · exact h.elim
theorem bo_le : OpR X (compareOp .LtE) bLe := OpR.imp op_le fun x y H Q h => by
  unfold bLe at h; split at h; · exact ⟨_, _, rfl, rfl, h⟩
  · exact h.elim
theorem bo_gt : OpR X (compareOp .Gt) bGt := OpR.imp op_gt fun x y H Q h => by
  unfold bGt at h; split at h; · exact ⟨_, _, rfl, rfl, h⟩
  · exact h.elim
theorem bo_ge : OpR X (compareOp .GtE) bGe := OpR.imp op_ge fun x y H Q h => by
  unfold bGe at h; split at h; · exact ⟨_, _, rfl, rfl, h⟩
  · exact h.elim
theorem bo_eq : OpR X (compareOp .Eq) bEq := OpR.imp op_eq fun _ _ _ _ h => h
theorem bo_ne : OpR X (compareOp .NotEq) bNe := OpR.imp op_ne fun _ _ _ _ h => h
end
end Gm
namespace Gm
open PySem PySem.Spec PyProof.Rows L2

section
variable {X : Cx}
/-! ### monotone closures -/
def clE (t : TE) : TE := fun σ H Q => ∃ Q0 : VK, t σ H Q0 ∧ ∀ v H', Q0 v H' → Q v H'
def clA (t : TA) : TA := fun σ H Q => ∃ Q0 : List V → Hp → Prop, t σ H Q0 ∧ ∀ v H', Q0 v H' → Q v H'
def clT (t : TT) : TT := fun σ H Q => ∃ Q0 : Bool → Hp → Prop, t σ H Q0 ∧ ∀ v H', Q0 v H' → Q v H'
theorem pe_cl {e : Expr} {t : TE} (h : PE X e t) : PE X e (clE t) := ⟨fun pins s σ H Q I ⟨Q0, x, m⟩ => thn (h.run pins s σ H Q0 I x) fun u s' ⟨v, H', J, r, q⟩ => ⟨v, H', J, r, m _ _ q⟩⟩
theorem pa_cl {e : List Expr} {t : TA} (h : PA X e t) : PA X e (clA t) := ⟨fun pos pins s σ H Q I ⟨Q0, x, m⟩ => thn (h.run pos pins s σ H Q0 I x) fun u s' ⟨v, H', J, r, q⟩ => ⟨v, H', J, r, m _ _ q⟩⟩
theorem pt_cl {e : Expr} {t : TT} (h : PT X e t) : PT X e (clT t) := ⟨fun pins s σ H Q I ⟨Q0, x, m⟩ => thn (h.run pins s σ H Q0 I x) fun u s' ⟨H', J, q⟩ => ⟨H', J, m _ _ q⟩⟩

def clG (t : TG) : TG := fun v σ H Q => ∃ Q0 : L2.St → Hp → Prop, t v σ H Q0 ∧ ∀ σ' H', Q0 σ' H' → Q σ' H'
theorem pg_cl {e : Expr} {t : TG} (h : PG X e t) : PG X e (clG t) := ⟨fun pins s σ H v u Q I r ⟨Q0, x, m⟩ => thn (h.run pins s σ H v u Q0 I r x) fun _ s' ⟨σ', H', J, q⟩ => ⟨σ', H', J, m _ _ q⟩⟩
theorem pts_cl {e : List Expr} {t : TT} (h : PTs X e t) : PTs X e (clT t) := ⟨fun pins s σ H Q I ⟨Q0, x, m⟩ => thn (h.run pins s σ H Q0 I x) fun u s' ⟨H', J, q⟩ => ⟨H', J, m _ _ q⟩⟩

/-! ### tests -/
/-- a value as a test: a bool -/
def cT (t : TE) : TT := fun σ H Q => t σ H fun x H' => match x with | .bl k => Q k H' | _ => False
theorem c_test {e : Expr} {t : TE} (h : PE X e t) (he : ∀ whole, isTrue e X.env whole = (do let v ← whole; standAt e.pos; holding [v] (truthy v)) := by intro _; rfl) : PT X e (cT t) :=
  PT.imp (pt_val (pe_cl h) he) fun σ H Q x => ⟨_, x, fun v H' q => by
    cases v with
    | bl k => exact ⟨k, rfl, q⟩
    | _ => exact q.elim⟩
theorem c_tcmp {op : CmpOp} {r : R2} {a b : Expr} {ta tb : TE} {pos : Pos} (ho : OpR X (compareOp op) r) (ha : PE X a ta) (hb : PE X b tb) (hm : behindInMarks op b = false := by exact nomark _) : PT X (.Compare a [op] [b] pos) (cT (tOp r ta tb)) :=
  PT.imp (pt_cmpR (r := fun x y H Q => ∃ Q0 : VK, r x y H Q0 ∧ ∀ v H', Q0 v H' → Q v H') (fun pins s σ H x y v u Q I rx ry ⟨Q0, q, m⟩ => thn (ho pins s σ H x y v u Q0 I rx ry q) fun u s' ⟨v, H', J, r, q⟩ => ⟨v, H', J, r, m _ _ q⟩) (pe_cl ha) (pe_cl hb) hm) fun σ H Q x =>
    ⟨_, x, fun v H1 q => ⟨_, q, fun u H2 q => ⟨_, q, fun w H3 q => by
      cases w with
      | bl k => exact ⟨k, rfl, q⟩
      | _ => exact q.elim⟩⟩⟩
theorem c_cmp {op : CmpOp} {r : R2} {a b : Expr} {ta tb : TE} {pos : Pos} (ho : OpR X (compareOp op) r) (ha : PE X a ta) (hb : PE X b tb) (hm : behindInMarks op b = false := by exact nomark _) : PE X (.Compare a [op] [b] pos) (tOp r ta tb) := pe_cmpR ho ha hb hm
/-- a op b op' c -/
def cChain (r r' : R2) (ta tb tc : TE) : TE := fun σ H Q => ta σ H fun x H1 => tb σ H1 fun y H2 => r x y H2 fun z H3 => match z with | .bl k => (if k = true then tc σ H3 fun w' H4 => r' y w' H4 Q else Q (.bl false) H3) | _ => False
theorem c_chain {op op' : CmpOp} {r r' : R2} {a b c : Expr} {ta tb tc : TE} {pos : Pos} (ho : OpR X (compareOp op) r) (ho' : OpR X (compareOp op') r') (ha : PE X a ta) (hb : PE X b tb) (hc : PE X c tc) (hm : lastMarks [op, op'] [b, c] = false := by with_unfolding_all rfl) :
    PE X (.Compare a [op, op'] [b, c] pos) (cChain r r' ta tb tc) :=
  PE.imp (pe_chain (r := fun x y H Q => ∃ Q0 : VK, r x y H Q0 ∧ ∀ v H', Q0 v H' → Q v H') (fun pins s σ H x y v u Q I rx ry ⟨Q0, q, m⟩ => thn (ho pins s σ H x y v u Q0 I rx ry q) fun u s' ⟨v, H', J, r, q⟩ => ⟨v, H', J, r, m _ _ q⟩) ho' (pe_cl ha) (pe_cl hb) hc hm) fun σ H Q x =>
    ⟨_, x, fun v H1 q => ⟨_, q, fun u H2 q => ⟨_, q, fun w H3 q => by
      cases w with
      | bl k => exact ⟨k, rfl, q⟩
      | _ => exact q.elim⟩⟩⟩
def clR (r : R2) : R2 := fun x y H Q => ∃ Q0 : VK, r x y H Q0 ∧ ∀ v H', Q0 v H' → Q v H'
theorem op_cl {f : Value → Value → Sem Value} {r : R2} (h : OpR X f r) : OpR X f (clR r) := fun pins s σ H x y v u Q I rx ry ⟨Q0, q, m⟩ => thn (h pins s σ H x y v u Q0 I rx ry q) fun u s' ⟨v, H', J, r, q⟩ => ⟨v, H', J, r, m _ _ q⟩
theorem c_tchain {op op' : CmpOp} {r r' : R2} {a b c : Expr} {ta tb tc : TE} {pos : Pos} (ho : OpR X (compareOp op) r) (ho' : OpR X (compareOp op') r') (ha : PE X a ta) (hb : PE X b tb) (hc : PE X c tc) (hm : lastMarks [op, op'] [b, c] = false := by with_unfolding_all rfl) :
    PT X (.Compare a [op, op'] [b, c] pos) (cT (cChain r r' ta tb tc)) :=
  PT.imp (pt_chain (op_cl ho) (op_cl ho') (pe_cl ha) (pe_cl hb) (pe_cl hc) hm) fun σ H Q x =>
    ⟨_, x, fun v H1 q => ⟨_, q, fun u H2 q => ⟨_, q, fun w H3 q => by
      cases w with
      | bl k =>
        refine ⟨k, rfl, ?_⟩
        cases k with
        | true => exact ⟨_, q, fun w' H4 q => ⟨_, q, fun z H5 q => by
            cases z with
            | bl k => exact ⟨k, rfl, q⟩
            | _ => exact q.elim⟩⟩
        | false => exact ⟨false, rfl, q⟩
      | _ => exact q.elim⟩⟩⟩
def cNot (ta : TE) : TE := fun σ H Q => ta σ H fun x H1 => match x with | .bl k => Q (.bl (!k)) H1 | _ => False
theorem c_not {a : Expr} {ta : TE} {pos : Pos} (ha : PE X a ta) : PE X (.UnaryOp .Not a pos) (cNot ta) :=
  PE.imp (pe_not (pe_cl ha)) fun σ H Q x => ⟨_, x, fun v H' q => by
    cases v with
    | bl k => exact ⟨k, rfl, q⟩
    | _ => exact q.elim⟩
def cAnd (ta tb : TE) : TE := fun σ H Q => ta σ H fun x H1 => match x with | .bl k => (if k = true then tb σ H1 Q else Q (.bl false) H1) | _ => False
def cOr (ta tb : TE) : TE := fun σ H Q => ta σ H fun x H1 => match x with | .bl k => (if k = true then Q (.bl true) H1 else tb σ H1 Q) | _ => False
theorem c_and {a b : Expr} {rest : List Expr} {ta tb : TE} {pos : Pos} (ha : PE X a ta) (hb : PE X (.BoolOp .And (b :: rest) pos) tb) : PE X (.BoolOp .And (a :: b :: rest) pos) (cAnd ta tb) :=
  PE.imp (pe_and (pe_cl ha) hb) fun σ H Q x => ⟨_, x, fun v H' q => by
    cases v with
    | bl k => exact ⟨k, rfl, q⟩
    | _ => exact q.elim⟩
theorem c_or {a b : Expr} {rest : List Expr} {ta tb : TE} {pos : Pos} (ha : PE X a ta) (hb : PE X (.BoolOp .Or (b :: rest) pos) tb) : PE X (.BoolOp .Or (a :: b :: rest) pos) (cOr ta tb) :=
  PE.imp (pe_or (pe_cl ha) hb) fun σ H Q x => ⟨_, x, fun v H' q => by
    cases v with
    | bl k => exact ⟨k, rfl, q⟩
    | _ => exact q.elim⟩

/-! ### what is walked -/
abbrev WK := Nat → (Hp → Prop) → (Nat → Hp → V → Hp → Prop) → Hp → Prop
abbrev TW := L2.St → Hp → WK → Prop
structure PIt (X : Cx) (tg iter : Expr) (t : TW) : Prop where
  run : ∀ (pins : List (Addr × Obj)) (s : Shared) (σ : L2.St) (H : Hp) (K : WK), Inv X pins σ H s → t σ H K →
    wpAny (model X.prog X.w) X.A (eval iter X.env) (fun v s1 => wpAny (model X.prog X.w) X.A (pyIter v) (PIE X pins σ tg fun J H1 => ∃ n G Y, Walk J n G Y ∧ K n G Y H1) X.xe s1) X.xe s
theorem PIt.pi {tg iter : Expr} {t : TW} (h : PIt X tg iter t) : PI X tg iter (fun σ H R => ∃ K : WK, t σ H K ∧ ∀ J n G Y H1, Walk J n G Y → K n G Y H1 → R J H1) :=
  ⟨fun pins s σ H R I ⟨K, x, m⟩ => thn (h.run pins s σ H K I x) fun v s1 y => thn y fun itv s2 ⟨it, fp, tn, J, H', e, I', T, z, f, n, G, Y, w, k⟩ => ⟨it, fp, tn, J, H', e, I', T, z, f, m J n G Y H' w k⟩⟩
theorem pit_of {tg iter : Expr} {wi : TI} {t : TW} (h : PI X tg iter wi) (i : ∀ σ H (K : WK), t σ H K → wi σ H fun J H1 => ∃ n G Y, Walk J n G Y ∧ K n G Y H1) : PIt X tg iter t := ⟨fun pins s σ H K I x => h.run pins s σ H _ I (i σ H K x)⟩
def wList (K : PySem.W.Frag) (te : TE) : TW := fun σ H R => te σ H fun x H1 => match x with | .ref a => ∃ xs, SqL K H1 a xs ∧ R xs.length (fun H => SqL K H a xs) (YAt xs) H1 | _ => False
theorem i_list {tg e : Expr} {te : TE} (he : PE X e te) : PIt X tg e (wList X.K te) := pit_of (pi_list (pe_cl he)) fun σ H K x => ⟨_, x, fun v H1 q => by
  cases v with
  | ref a => obtain ⟨xs, hs, k⟩ := q; exact ⟨a, rfl, ⟨xs, hs⟩, _, _, _, walk_list, k⟩
  | _ => exact q.elim⟩
def wTup (K : PySem.W.Frag) (te : TE) : TW := fun σ H R => te σ H fun x H1 => match x with | .ref a => ∃ xs, SqT K H1 a xs ∧ R xs.length (fun H => SqT K H a xs) (YAt xs) H1 | _ => False
theorem i_tup {tg e : Expr} {te : TE} (he : PE X e te) : PIt X tg e (wTup X.K te) := pit_of (pi_tup (pe_cl he)) fun σ H K x => ⟨_, x, fun v H1 q => by
  cases v with
  | ref a => obtain ⟨xs, hs, k⟩ := q; exact ⟨a, rfl, ⟨xs, hs⟩, _, _, _, walk_tup, k⟩
  | _ => exact q.elim⟩
def wStr (te : TE) : TW := fun σ H R => te σ H fun x H1 => match x with | .str z => R z.cps.size (fun _ => True) (fun i H v H' => H' = H ∧ ∃ c, z.cps[i]? = some c ∧ v = .str ⟨#[c]⟩) H1 | _ => False
theorem i_str {tg e : Expr} {te : TE} (he : PE X e te) : PIt X tg e (wStr te) := pit_of (pi_str (pe_cl he)) fun σ H K x => ⟨_, x, fun v H1 q => by
  cases v with
  | str z => exact ⟨z, rfl, _, _, _, walk_str, q⟩
  | _ => exact q.elim⟩
def wRng1 (ta : TA) : TW := fun σ H R => ta σ H fun vs H1 => match vs with | [.int j] => (-(2 ^ 62) ≤ j ∧ j < 2 ^ 62) ∧ R j.toNat (fun _ => True) (YFn fun i => .int (i : Int)) H1 | _ => False
theorem i_range1 {tg a : Expr} {ta : TA} {p pos : Pos} (hg : Gl X "range") (hm : X.mg "range" = none) (ha : PA X [a] ta) (hs : starEach [a] X.env = [(false, eval a X.env)] := by rfl) : PIt X tg (.Call (.Name "range" p) [a] [] pos) (wRng1 ta) :=
  pit_of (pi_range1 hg hm (pa_cl ha) hs) fun σ H K x => ⟨_, x, fun v H1 q => by
    split at q
    · exact ⟨_, rfl, q.1.1, q.1.2, _, _, _, (walk_range (lo := 0)).mono (fun _ h => h) (fun i H x H' _ _ y => ⟨y.1, by rw [y.2]; simp⟩), q.2⟩
    · exact q.elim⟩
def wEnum (K : PySem.W.Frag) (ta : TA) : TW := fun σ H R => ta σ H fun vs H1 => match vs with | [.ref a] => ∃ xs, SqL K H1 a xs ∧ R xs.length (fun H => SqL K H a xs) (YPair (fun i => some (.int (i : Nat))) (fun i => xs[i]?)) H1 | _ => False
theorem i_enum {e : Expr} {ta : TA} {p pos tpos : Pos} {elts : List Expr} {kk : Nat} (hg : Gl X "enumerate") (hm : X.mg "enumerate" = none) (ha : PA X [e] ta) (hs : starEach [e] X.env = [(false, eval e X.env)] := by rfl) : PIt X (.Tuple elts kk tpos) (.Call (.Name "enumerate" p) [e] [] pos) (wEnum X.K ta) :=
  pit_of (pi_enum hg hm (pa_cl ha) hs) fun σ H K x => ⟨_, x, fun v H1 q => by
    split at q
    · obtain ⟨xs, h, k⟩ := q; exact ⟨_, xs, rfl, h, _, _, _, walk_enum, k⟩
    · exact q.elim⟩
def wZip (K : PySem.W.Frag) (ta : TA) : TW := fun σ H R => ta σ H fun vs H1 => match vs with | [.ref a, .ref b] => ∃ xs ys, SqL K H1 a xs ∧ SqL K H1 b ys ∧ R (min xs.length ys.length) (fun H => SqL K H a xs ∧ SqL K H b ys) (YPair (fun i => xs[i]?) (fun i => ys[i]?)) H1 | _ => False
theorem i_zip {e e2 : Expr} {ta : TA} {p pos tpos : Pos} {elts : List Expr} {kk : Nat} (hg : Gl X "zip") (hm : X.mg "zip" = none) (ha : PA X [e, e2] ta) (hs : starEach [e, e2] X.env = (false, eval e X.env) :: starEach [e2] X.env := by rfl) (hpl : (backTo pos (starEach [e2] X.env)).any (·.1) = false := by rfl) :
    PIt X (.Tuple elts kk tpos) (.Call (.Name "zip" p) [e, e2] [] pos) (wZip X.K ta) :=
  pit_of (pi_zip hg hm (pa_cl ha) hs hpl) fun σ H K x => ⟨_, x, fun v H1 q => by
    split at q
    · obtain ⟨xs, ys, h, h', k⟩ := q; exact ⟨_, _, xs, ys, rfl, h, h', _, _, _, walk_zip rfl, k⟩
    · exact q.elim⟩
/-- reversed(range(n)) -/
def wRevRng (ta : TA) : TW := fun σ H R => ta σ H fun vs H1 => match vs with | [.int j] => (-(2 ^ 62) ≤ j ∧ j < 2 ^ 62) ∧ R j.toNat (fun _ => True) (YFn fun i => .int ((j.toNat - 1 - i : Nat) : Int)) H1 | _ => False

/-- x op= e -/
def cAug (i : Nat) (te : TE) (ti : TIp) : TS := fun D σ H => match sg σ i with | some x => te σ H fun y H1 => ti x y H1 fun z H2 => D.nx (σ.set i (some z)) H2 | none => False
theorem c_aug {i : Nat} {x : Str} {e : Expr} {te : TE} {op : Operator} {ti : TIp} {pos' pos : Pos} (hN : X.N.Nodup) (hi : X.N[i]? = some x) (hx : Loc X.env.scope x) (he : PE X e te) (ho : PIp X op ti) (hf : X.fn x = true ∨ X.env.scope.names.lookup x = some .local := by first | exact .inl rfl | exact .inr rfl | assumption) :
    PS X (.AugAssign (.Name x pos') op e pos) (cAug i te ti) := PS.imp (ps_aug hN hi hx he ho hf) fun D σ H h => by
  unfold cAug at h
  split at h
  · rename_i v e; exact ⟨v, sg_get e, h⟩
  · exact h.elim
/-- for .. -/
def wFor (wi : TW) (g : TG) (tb : TS) : TS := fun D σ H => wi σ H fun n G Y H1 => ∃ P : Nat → L2.St → Hp → Prop, P 0 σ H1 ∧ (∀ i σ H, i ≤ n → P i σ H → G H) ∧
  (∀ i x σ H H', i < n → P i σ H → Y i H x H' → g x σ H' fun σ2 H2 => tb { D with nx := P (i + 1), ct := P (i + 1), bk := D.nx } σ2 H2) ∧ (∀ σ H, P n σ H → D.nx σ H)
theorem c_for {iter tg : Expr} {body : List Stmt} {wi : TW} {g : TG} {tb : TS} {pos : Pos} (hp : PassesOwn (model X.prog X.w) X.A X.env X.xe) (hc : X.calm = true) (hi : PIt X tg iter wi) (hg : PG X tg g) (hb : PSs X body tb) (hs : ∀ x, foldedSetIterable iter X.env x = pure x := by intro _; rfl) :
    PS X (.For tg iter body [] pos) (wFor wi g tb) :=
  PS.imp (ps_for hp hc hi.pi hg hb hs) fun D σ H x => ⟨_, x, fun J n G Y H1 w ⟨P, h0, hG, h1, h2⟩ => for_it w P h0 hG h1 h2⟩

/-! ### list comprehensions whose temporaries are let go -/
abbrev TL := L2.St → Hp → (List V → Prop) → Prop
/-- evaluates to a new list, all else as it was -/
structure PL (X : Cx) (e : Expr) (t : TL) : Prop where
  run : ∀ (pins : List (Addr × Obj)) (s : Shared) (σ : L2.St) (H : Hp) (Q : List V → Prop), Inv X pins σ H s → t σ H Q →
    wpAny (model X.prog X.w) X.A (eval e X.env) (fun u s' => ∃ ys D, Inv X pins σ (upd H D (.lst ys)) s' ∧ u = .ref D ∧ H D = none ∧ Plain H ∧ Q ys) X.xe s
def wLc (wi : TW) (g : TG) (tt : TT) (te : TE) (vs : List Nat) : TL := fun σ H Q => Plain H ∧ wi σ H fun n G Y H1 => Ex H H1 ∧ Plain H1 ∧ n ≤ sizeLine ∧ (∀ H2, Ex H1 H2 → G H2) ∧ ∃ f : Nat → Option V,
  (∀ i x H2 H3, i < n → Ex H1 H2 → Plain H2 → Y i H2 x H3 → g x (wipe σ vs) H3 fun σ2 H4 => wipe σ2 vs = wipe σ vs ∧ tt σ2 H4 fun b H5 =>
    if b = true then te σ2 H5 fun y H6 => (Ex H2 H6 ∧ Plain H6) ∧ f i = some y else (Ex H2 H5 ∧ Plain H5) ∧ f i = none) ∧ Q ((List.range n).filterMap f)
theorem range_fm_succ {α : Type} (f : Nat → Option α) (i : Nat) : (List.range (i + 1)).filterMap f = (List.range i).filterMap f ++ (f i).toList := by
  rw [List.range_succ, List.filterMap_append]
  cases e : f i with
  | none => simp [List.filterMap_cons, e]
  | some v => simp [List.filterMap_cons, e]
theorem fm_len {α : Type} (f : Nat → Option α) (n : Nat) : ((List.range n).filterMap f).length ≤ n := by
  have := List.length_filterMap_le f (List.range n)
  simpa using this
theorem pl_lc {elt tg iter : Expr} {ifs : List Expr} {scope : Scope} {own : List (Str × Nat)} {pos : Pos} {wi : TW} {g : TG} {tt : TT} {te : TE} (hc : X.calm = true) (hN : X.N.Nodup) (hi : PIt X tg iter wi) (ok : BlkOk X.N X.env.scope scope own)
    (hg : ∀ (s : Shared) (H : Hp) (C : Addr) (cl : List (Str × Addr)) (fp : List Addr), PG (X.blk s H scope (compEnvC scope cl C X.env) fp) tg g)
    (ht : ∀ (s : Shared) (H : Hp) (C : Addr) (cl : List (Str × Addr)) (fp : List Addr), PTs (X.blk s H scope (compEnvC scope cl C X.env) fp) ifs tt)
    (he : ∀ (s : Shared) (H : Hp) (C : Addr) (cl : List (Str × Addr)) (fp : List Addr), PE (X.blk s H scope (compEnvC scope cl C X.env) fp) elt te)
    (hs : ∀ x, foldedSetIterable iter X.env x = pure x := by intro _; rfl) : PL X (.ListComp elt [⟨tg, iter, ifs, 0⟩] scope pos) (wLc wi g tt te (own.map (·.2))) := by
  refine ⟨fun pins s σ H Q I x => ?_⟩
  obtain ⟨pl, x⟩ := x
  refine thn ((pe_lc (pos := pos) hc hN hi.pi ok (fun s H C cl fp => pg_cl (hg s H C cl fp)) (fun s H C cl fp => pts_cl (ht s H C cl fp)) (fun s H C cl fp => pe_cl (he s H C cl fp)) hs).run pins s σ H (fun v H' => ∃ ys D, v = .ref D ∧ H D = none ∧ Ex (upd H D (.lst ys)) H' ∧ Q ys) I ⟨_, x, fun J n G Y H1 w k D hD => ?_⟩) fun u s' h => ?_
  · obtain ⟨e1, pl1, hn, hG, f, hstep, hq⟩ := k
    refine lc_it w (fun i H2 => H2 D = some (.lst ((List.range i).filterMap f)) ∧ Ex H1 H2 ∧ Plain H2) ⟨upd_same, Ex.new hD, pl1.upd⟩ (fun i H2 _ q => hG _ q.2.1) ?_ ?_
    · intro i x H2 H3 hi ⟨q1, q2, q3⟩ hy
      refine ⟨_, hstep i x H2 H3 hi q2 q3 hy, fun σ2 H4 ⟨ew, q⟩ => ⟨ew, _, q, fun b H5 q => ?_⟩⟩
      cases b with
      | true =>
        refine ⟨_, q, fun y H6 ⟨⟨e6, p6⟩, ef⟩ => ?_⟩
        refine ⟨_, e6 _ _ q1, Nat.lt_of_le_of_lt (fm_len f i) (Nat.lt_of_lt_of_le hi hn), ?_⟩
        refine ⟨?_, ?_, p6.upd⟩
        · rw [upd_same, range_fm_succ, ef]; rfl
        · intro a o q
          rw [upd_ne (ne_of_none q hD)]; exact e6 _ _ (q2 _ _ q)
      | false =>
        obtain ⟨⟨e5, p5⟩, ef⟩ := q
        refine ⟨?_, q2.tr e5, p5⟩
        rw [range_fm_succ, ef]
        simpa using e5 _ _ q1
    · intro H2 ⟨q1, q2, q3⟩
      refine ⟨_, D, rfl, e1.fresh hD, fun a o q => ?_, hq⟩
      by_cases za : a = D
      · subst za; rw [upd_same] at q; cases q; exact q1
      · rw [upd_ne za] at q; exact q2 _ _ (e1 _ _ q)
  · obtain ⟨v, H', J, r, ys, D, rfl, hD, ex, q⟩ := h
    exact ⟨ys, D, inv_cut I J (Cut.new hD ex pl), r, hD, pl, q⟩
end
end Gm
namespace Gm
open PySem PySem.Spec PyProof.Rows L2
/-! ### sum(.., start=0) -/
section
variable {prog : Program} {w : World} {A : Around} {E : Value → Shared → Prop} {s : Shared}
theorem call_tree_kw {id : String} {b : Builtin} {args : List Value} {kw : List (Str × Value)} {Q : Value → Shared → Prop} (k : builtinKind id = none) (p : plainId id = true) (en : entryFor table id = some b) (ok : argsOk id ⟨args, kw⟩)
    (run : wpAny (model prog w) A.in1 (b ⟨args, kw⟩) (fun fin s1 => match fin with
      | .done f => (match (Except.ok f : Result) with | .ok (.ret v) => Q v s1 | .ok _ => False | .error e => E e s1)
      | .again c => c.quiet = true ∧ codeAny (model prog w) A c (fun r s2 => match r with | .ok (.ret v) => Q v s2 | .ok _ => False | .error e => E e s2) s1) E s) :
    wpAny (model prog w) A (call (.builtin id) args kw) Q E s := by
  refine wpAny_call (codeAny_call_builtin p en ?_)
  simp only [checkBuiltinCall, k]
  cases sg : Manifest.signature? id with
  | none => exact wpAny_pure run
  | some sig =>
    have z : Bind.checkArgs id sig ⟨args, kw⟩ = pure () := by simpa only [argsOk, sg] using ok
    simp only [z]; exact wpAny_pure run
theorem args_sumS (a v : Value) : argsOk "sum" ⟨[a], [(Str.ofString "start", v)]⟩ := by unfold argsOk; kernel_rfl
theorem sum_startG {x : Value} {t0 : Tok} {Q : Value → Shared → Prop}
    (h : wpAny (model prog w) A.in1 (pyIter x) (fun it s1 => ∃ I fp wr n P St val, it = .ref I ∧ Walks prog w A.in1 I fp wr n P St ∧ St 0 s1.heap ∧ (∀ b ∈ fp, b < s1.heap.objs.size) ∧ (∀ i v, P i v → ∃ t, v = .int (val i) t) ∧
      ∀ h' tk t', (∀ b o, b ∉ wr → s1.heap.get? b = some o → h'.get? b = some o) → Q (.int (preSum val n) t') { s1 with heap := h', toks := tk }) E s) :
    wpAny (model prog w) A (call (.builtin "sum") [x] [(Str.ofString "start", .int 0 t0)]) Q E s := by
  refine call_tree_kw F.kind_sum F.plain_sum F.entry_sum (args_sumS _ _) ?_
  unfold Builtin.«sum»
  simp only [List.length_cons, List.length_nil]
  rw [if_neg (by decide)]
  refine wpAny_bind (wpAny_of_eq (show Builtin.Builtins.bindParams "sum" ["start"] 0 ⟨[], [(Str.ofString "start", .int 0 t0)]⟩ = pure [some (.int 0 t0)] from rfl) ?_)
  refine wpAny_bind (wpAny_mono h (fun it s1 y => ?_) fun _ _ e => e)
  obtain ⟨I, fp, wr, n, P, St, val, rfl, W, st, lt, hval, k⟩ := y
  simp only []
  rw [if_pos (by decide)]
  refine wpAny_bind (wpAny_rule (wpAny_bind (wpAny_mkInt (wpAny_bind (wpAny_pure ?_)))))
  simp only [List.forIn_cons, List.forIn_nil]
  have no {ty : String} (hs : isSubtype (.type "int") (.type ty) = pure false) {α : Type} {m : Bool → Sem α} {R : α → Shared → Prop} {t : Tok} {s' : Shared} (q : wpAny (model prog w) A.in1 (m false) R E s') : wpAny (model prog w) A.in1 (isInstance (.int 0 t) (.type ty) >>= m) R E s' :=
    wpAny_bind (wpAny_isInstance (T := "int") (b := false) (typeIs_int _ _ _) hs q)
  refine wpAny_bind (wpAny_bind (no PySem.sub_int_str ?_))
  simp only [Bool.false_eq_true, if_false]
  refine wpAny_pure (wpAny_bind (no PySem.sub_int_bytes ?_))
  simp only [Bool.false_eq_true, if_false]
  refine wpAny_pure (wpAny_bind (no PySem.sub_int_bytearray ?_))
  simp only [Bool.false_eq_true, if_false]
  refine wpAny_pure (wpAny_pure (wpAny_bind (wpAny_newObj_type ?_)))
  have nf : s1.heap.objs.size ∉ fp := fun m => Nat.lt_irrefl _ (lt _ m)
  refine wpAny_pure ⟨plainId_quiet F.plain_sum_loop _, codeAny_sum_loopG W val hval s1.heap.objs.size nf n 0 _ s1.toks 0 0 (.inl rfl) rfl (Nat.zero_le _) (W.frame _ _ _ st fun b _ o e => Heap.get?_push_of_some _ e) (Heap.get?_push_size _ rfl) fun h' tk t' z => ?_⟩
  exact k h' tk t' fun b o nb e => z b o nb (Nat.ne_of_lt (Heap.lt_size e)) (Heap.get?_push_of_some _ e)
theorem sum_startI {l : Addr} {its : List Value} {ns : List Int} {t0 : Tok} {Q : Value → Shared → Prop} (hh : A.handled = none) (hl : s.heap.IsList l its.toArray) (hi : IntsAre its ns)
    (h : ∀ h' tk t', (∀ b o, s.heap.get? b = some o → h'.get? b = some o) → Q (.int ns.sum t') { s with heap := h', toks := tk }) : wpAny (model prog w) A (call (.builtin "sum") [.ref l] [(Str.ofString "start", .int 0 t0)]) Q E s := by
  obtain ⟨xs, e⟩ := hi.allInts.items
  have hn : numsOf (intItems xs).toList = ns := by rw [← e]; exact hi.numsOf
  rw [nums_intItems] at hn
  rw [e] at hl
  refine sum_startG (iter_intList hl fun s1 e st lt ne => ?_)
  subst e
  refine ⟨_, _, _, _, _, _, numAt xs, rfl, Walks.list (A := A.in1) hh _ l ne (intItems xs), st, lt, (fun _ _ => intItems_at), fun h' tk t' z => ?_⟩
  have q := h h' tk t' (old_kept z)
  have sz : (intItems xs).size = xs.size := by simp [intItems]
  rw [sz, preSum_eq, List.take_of_length_le (by simp), hn]; exact q
end
def rSumK (K : PySem.W.Frag) : List V → List V → Hp → VK → Prop := fun vs zs H Q => match vs, zs with | [.ref a], [.int 0] => ∃ ns : List Int, SqL K H a (ns.map V.int) ∧ Q (.int ns.sum) H | _, _ => False
theorem cr_sumK {X : Cx} (hc : X.calm = true) : CallRK X (.builtin "sum") [Str.ofString "start"] (rSumK X.K) := by
  intro pins s σ H vs zs us ws Q I r rz h
  unfold rSumK at h
  split at h
  · obtain ⟨ns, hs, q⟩ := h
    obtain ⟨its, rv, hl, _⟩ := I.list hs
    obtain rfl := Vals.ref1 r
    obtain ⟨w1, rfl, t, rfl⟩ := vals1 rz
    exact sum_startI (I.ok.hd hc) hl.isList rv.ints fun h' tk t' hk => ⟨.int _, H, I.kept hk, ⟨_, rfl⟩, q⟩
  · exact h.elim
end Gm
namespace Gm
open PySem PySem.Spec PyProof.Rows L2
section
variable {X : Cx}
/-! ### lists made, and used up -/
def clL (t : TL) : TL := fun σ H Q => ∃ Q0 : List V → Prop, t σ H Q0 ∧ ∀ v, Q0 v → Q v
theorem pl_cl {e : Expr} {t : TL} (h : PL X e t) : PL X e (clL t) := ⟨fun pins s σ H Q I ⟨Q0, x, m⟩ => thn (h.run pins s σ H Q0 I x) fun u s' ⟨ys, D, J, r, hD, p, q⟩ => ⟨ys, D, J, r, hD, p, m _ q⟩⟩
def cNew (t : TL) : TE := fun σ H Q => t σ H fun ys => ∀ D, H D = none → Plain H → Q (.ref D) (upd H D (.lst ys))
theorem c_new {e : Expr} {t : TL} (h : PL X e t) : PE X e (cNew t) := ⟨fun pins s σ H Q I x => thn (h.run pins s σ H _ I x) fun u s' ⟨ys, D, J, r, hD, p, q⟩ => ⟨.ref D, _, J, r, q D hD p⟩⟩
/-- f([.. for ..]) where f's answer holds nothing of the list -/
theorem c_use {x : Str} {p pos : Pos} {e : Expr} {t : TL} {id : String} {r : List V → Hp → VK → Prop} {q : List V → (V → Prop) → Prop} (hc : CallR X (.builtin id) r) (hq : ∀ ys D H (Q : VK), H D = none → q ys (fun v => Q v (upd H D (.lst ys))) → r [.ref D] (upd H D (.lst ys)) Q) (hm : ∀ ys (Q Q' : V → Prop), (∀ v, Q v → Q' v) → q ys Q → q ys Q')
    (hl : PL X e t) (hg : Gl X x) (mx : X.mg x = none) (hv : bootBuiltins x = some (.builtin id)) (hn : x ≠ "__name__" := by decide) (hdb : (x == ("__debug__" : Str)) = false := by decide) (hs : starEach [e] X.env = (false, eval e X.env) :: starEach [] X.env := by rfl) (hpl : (backTo pos (starEach [] X.env)).any (·.1) = false := by rfl) :
    PE X (.Call (.Name x p) [e] [] pos) (fun σ H Q => t σ H fun ys => q ys fun v => Q v H) :=
  PE.imp (pe_cut (pe_callB hc hg mx hv (pa_cons (c_new (pl_cl hl)) pa_nil hs) hn hdb hs hpl)) fun σ H Q y => ⟨_, y, fun ys z D hD pl => hq ys D H _ hD (hm ys _ _ (fun v k => ⟨H, Cut.self (Ex.new hD) pl, k⟩) z)⟩
def qSum : List V → (V → Prop) → Prop := fun ys Q => ∃ ns : List Int, ys = ns.map V.int ∧ Q (.int ns.sum)
def qAll : List V → (V → Prop) → Prop := fun ys Q => ∃ bs : List Bool, ys = bs.map V.bl ∧ Q (.bl (bs.all id))
def qAny : List V → (V → Prop) → Prop := fun ys Q => ∃ bs : List Bool, ys = bs.map V.bl ∧ Q (.bl (bs.any id))
def cUse (t : TL) (q : List V → (V → Prop) → Prop) : TE := fun σ H Q => t σ H fun ys => q ys fun v => Q v H
theorem c_sumL {p pos : Pos} {e : Expr} {t : TL} (hc : X.calm = true) (hl : PL X e t) (hg : Gl X "sum") (mx : X.mg "sum" = none) (hs : starEach [e] X.env = (false, eval e X.env) :: starEach [] X.env := by rfl) : PE X (.Call (.Name "sum" p) [e] [] pos) (cUse t qSum) :=
  c_use (cr_sum hc) (fun ys D H Q hD ⟨ns, e, k⟩ => ⟨D, ns, rfl, by rw [e]; exact SqL.of upd_same, k⟩) (fun ys Q Q' m ⟨ns, e, k⟩ => ⟨ns, e, m _ k⟩) hl hg mx PyProof.Rows.boot_sum (by decide) (by decide) hs
theorem c_allL {p pos : Pos} {e : Expr} {t : TL} (hc : X.calm = true) (hl : PL X e t) (hg : Gl X "all") (mx : X.mg "all" = none) (hs : starEach [e] X.env = (false, eval e X.env) :: starEach [] X.env := by rfl) : PE X (.Call (.Name "all" p) [e] [] pos) (cUse t qAll) :=
  c_use (cr_all hc) (fun ys D H Q hD ⟨ns, e, k⟩ => ⟨D, ns, rfl, by rw [e]; exact SqL.of upd_same, k⟩) (fun ys Q Q' m ⟨ns, e, k⟩ => ⟨ns, e, m _ k⟩) hl hg mx PyProof.Rows.boot_all (by decide) (by decide) hs
theorem c_anyL {p pos : Pos} {e : Expr} {t : TL} (hc : X.calm = true) (hl : PL X e t) (hg : Gl X "any") (mx : X.mg "any" = none) (hs : starEach [e] X.env = (false, eval e X.env) :: starEach [] X.env := by rfl) : PE X (.Call (.Name "any" p) [e] [] pos) (cUse t qAny) :=
  c_use (cr_any hc) (fun ys D H Q hD ⟨ns, e, k⟩ => ⟨D, ns, rfl, by rw [e]; exact SqL.of upd_same, k⟩) (fun ys Q Q' m ⟨ns, e, k⟩ => ⟨ns, e, m _ k⟩) hl hg mx PyProof.Rows.boot_any (by decide) (by decide) hs
/-- sum([..], start=0) -/
theorem c_sumS {p pos kp : Pos} {e : Expr} {t : TL} {j : Nat} {cp : Pos} (hc : X.calm = true) (hl : PL X e t) (hg : Gl X "sum") (mx : X.mg "sum" = none)
    (he : backTo pos (starEach [e] X.env) = (false, eval e X.env) :: backTo pos (starEach [] X.env) := by rfl) (hs : starEach [e] X.env = (false, eval e X.env) :: starEach [] X.env := by rfl) (hpl : (backTo pos (starEach [e] X.env)).any (·.1) = false := by rfl) :
    PE X (.Call (.Name "sum" p) [e] [⟨some "start", .Constant (.int 0) j cp, kp⟩] pos) (cUse t qSum) :=
  PE.imp (pe_cut (pe_callBK (cr_sumK hc) hg mx PyProof.Rows.boot_sum (pa_cons (c_new (pl_cl hl)) pa_nil hs) (pk_cons pe_int pk_nil) (by decide) (by decide) he hpl rfl rfl rfl)) fun σ H Q y =>
    ⟨_, y, fun ys ⟨ns, e, k⟩ D hD pl => ⟨ns, by rw [e]; exact SqL.of upd_same, H, Cut.self (Ex.new hD) pl, k⟩⟩
/-- y = [.. for ..], on one row -/
def cSetL (i : Nat) (t : TL) : TS := fun D σ H => t σ H fun ys => ∀ a, H a = none → D.nx (σ.set i (some (.ref a))) (upd H a (.lst ys))
theorem c_setLc {i : Nat} {y : Str} {py : Pos} {elt tg iter : Expr} {ifs : List Expr} {scope : Scope} {own : List (Str × Nat)} {pos spos : Pos} {wi : TW} {g : TG} {tt : TT} {te : TE} (hc : X.calm = true) (hN : X.N.Nodup) (hy : X.N[i]? = some y) (hyl : X.env.scope.names.lookup y = some .local)
    (hsw : swapsWith (.ListComp elt [⟨tg, iter, ifs, 0⟩] scope pos) (some (.Name y py)) spos.line X.env = pure true) (hi : PIt X tg iter wi) (ok : BlkOk X.N X.env.scope scope own)
    (hg : ∀ (s : Shared) (H : Hp) (C : Addr) (cl : List (Str × Addr)) (fp : List Addr), PG (X.blk s H scope (compEnvC scope cl C X.env) fp) tg g)
    (ht : ∀ (s : Shared) (H : Hp) (C : Addr) (cl : List (Str × Addr)) (fp : List Addr), PTs (X.blk s H scope (compEnvC scope cl C X.env) fp) ifs tt)
    (he : ∀ (s : Shared) (H : Hp) (C : Addr) (cl : List (Str × Addr)) (fp : List Addr), PE (X.blk s H scope (compEnvC scope cl C X.env) fp) elt te)
    (hs : ∀ x, foldedSetIterable iter X.env x = pure x := by intro _; rfl) : PS X (.Assign [.Name y py] (.ListComp elt [⟨tg, iter, ifs, 0⟩] scope pos) spos) (cSetL i (wLc wi g tt te (own.map (·.2)))) := by
  refine PS.imp (ps_cut (ps_setLc hc hN hy hyl hsw hi.pi ok (fun s H C cl fp => pg_cl (hg s H C cl fp)) (fun s H C cl fp => pts_cl (ht s H C cl fp)) (fun s H C cl fp => pe_cl (he s H C cl fp)) hs)) fun D σ H ⟨pl, x⟩ => ⟨_, x, fun J n G Y H1 w ⟨e1, pl1, hn, hG, f, hstep, hq⟩ A hA => ?_⟩
  refine lc_it w (fun i H2 => H2 A = some (.lst ((List.range i).filterMap f)) ∧ Ex H1 H2 ∧ Plain H2) ⟨upd_same, Ex.new hA, pl1.upd⟩ (fun i H2 _ q => hG _ q.2.1) ?_ ?_
  · intro i x H2 H3 hi ⟨q1, q2, q3⟩ hy
    refine ⟨_, hstep i x H2 H3 hi q2 q3 hy, fun σ2 H4 ⟨ew, q⟩ => ⟨ew, _, q, fun b H5 q => ?_⟩⟩
    cases b with
    | true =>
      refine ⟨_, q, fun y H6 ⟨⟨e6, p6⟩, ef⟩ => ⟨_, e6 _ _ q1, Nat.lt_of_le_of_lt (fm_len f i) (Nat.lt_of_lt_of_le hi hn), ?_, fun a o q => ?_, p6.upd⟩⟩
      · rw [upd_same, range_fm_succ, ef]; rfl
      · rw [upd_ne (ne_of_none q hA)]; exact e6 _ _ (q2 _ _ q)
    | false =>
      obtain ⟨⟨e5, p5⟩, ef⟩ := q
      refine ⟨?_, q2.tr e5, p5⟩
      rw [range_fm_succ, ef]
      simpa using e5 _ _ q1
  · intro H2 ⟨q1, q2, q3⟩
    refine ⟨upd H A (.lst ((List.range n).filterMap f)), Cut.new (e1.fresh hA) (fun a o q => ?_) pl, hq A (e1.fresh hA)⟩
    by_cases za : a = A
    · subst za; rw [upd_same] at q; cases q; exact q1
    · rw [upd_ne za] at q; exact q2 _ _ (e1 _ _ q)

/-! ### items, lengths -/
def bIx (K : PySem.W.Frag) : R2 := fun x y H Q => match x, y with
  | .ref p, .int i => ∃ xs v, (SqL K H p xs ∨ SqT K H p xs) ∧ atI xs i = some v ∧ Q v H
  | .str z, .int i => ∃ c, z.length ≤ sizeLine ∧ atI z.cps.toList i = some c ∧ Q (.str ⟨#[c]⟩) H
  | _, _ => False
theorem ix_any : IxR X (bIx X.K) := IxR.imp ix_seq fun x y H Q h => by
  unfold bIx at h; split at h
  · obtain ⟨xs, v, h1 | h1, h2, h3⟩ := h
    · exact .inl ⟨_, xs, _, v, rfl, rfl, h1, h2, h3⟩
    · exact .inr (.inl ⟨_, xs, _, v, rfl, rfl, h1, h2, h3⟩)
  · obtain ⟨c, h1, h2, h3⟩ := h; exact .inr (.inr ⟨_, _, c, rfl, rfl, h1, h2, h3⟩)
  · exact h.elim
def qLen (K : PySem.W.Frag) : List V → Hp → VK → Prop := fun vs H Q => match vs with
  | [.ref p] => ∃ xs, (SqL K H p xs ∨ SqT K H p xs) ∧ Q (.int (xs.length : Int)) H
  | [.str z] => z.length ≤ sizeLine ∧ Q (.int (z.length : Int)) H
  | _ => False
theorem cr_len : CallR X (.builtin "len") (qLen X.K) := CallR.imp call_len fun xs H Q h => by
  unfold qLen at h; split at h
  · obtain ⟨ys, h1 | h1, h3⟩ := h
    · exact ⟨_, _, rfl, .inl ⟨ys, h1, rfl⟩, h3⟩
    · exact ⟨_, _, rfl, .inr ⟨ys, h1, rfl⟩, h3⟩
  · exact ⟨_, _, rfl, ⟨h.1, rfl⟩, h.2⟩
  · exact h.elim
def sSetL : TSet := fun o i v H Q => match o, i with | .ref p, .int k => ∃ xs j, H p = some (.lst xs) ∧ ixN xs.length k = some j ∧ Q (upd H p (.lst (xs.set j v))) | _, _ => False
theorem st_list : PSet X sSetL := PSet.imp set_list fun o i v H Q h => by
  unfold sSetL at h; split at h
  · obtain ⟨xs, j, h1, h2, h3⟩ := h; exact ⟨_, xs, _, j, rfl, rfl, h1, h2, h3⟩
  · exact h.elim
/-! ### methods of lists -/
def qApp : V → List V → Hp → VK → Prop := fun x vs H Q => match x, vs with | .ref l, [y] => ∃ xs, H l = some (.lst xs) ∧ xs.length < sizeLine ∧ Q .non (upd H l (.lst (xs ++ [y]))) | _, _ => False
theorem mt_app : MtR X "list.append" qApp := MtR.imp mt_append fun x vs H Q h => by
  unfold qApp at h; split at h
  · obtain ⟨xs, h1, h2, h3⟩ := h; exact ⟨_, xs, _, rfl, rfl, h1, h2, h3⟩
  · exact h.elim
def qPopAt : V → List V → Hp → VK → Prop := fun x vs H Q => match x, vs with | .ref l, [.int i] => ∃ (xs : List V) (k : Nat) (y : V), H l = some (.lst xs) ∧ (i = (k : Int) ∧ k < 2 ^ 62) ∧ xs[k]? = some y ∧ Q y (upd H l (.lst (xs.eraseIdx k))) | _, _ => False
theorem mt_popA : MtR X "list.pop" qPopAt := MtR.imp mt_popAt fun x vs H Q h => by
  unfold qPopAt at h; split at h
  · obtain ⟨xs, k, y, h1, ⟨h2, h3⟩, h4, h5⟩ := h
    subst h2
    have hk : k < xs.length := by
      rcases Nat.lt_or_ge k xs.length with z | z
      · exact z
      · rw [List.getElem?_eq_none z] at h4; cases h4
    refine ⟨_, xs, _, k, y, rfl, rfl, h1, by omega, by omega, ?_, h4, h5⟩
    exact (ixN_seq (n := xs.length) (i := (k : Int)) (j := k) (by simp [ixN, hk])).1
  · exact h.elim
def qIndex (K : PySem.W.Frag) : V → List V → Hp → VK → Prop := fun x vs H Q => match x, vs with
  | .ref p, [.int v] => ∃ (ns : List Int) (j : Nat), SqL K H p (ns.map V.int) ∧ ns[j]? = some v ∧ (∀ m, m < j → ns[m]? ≠ some v) ∧ Q (.int (j : Int)) H
  | _, _ => False
theorem mt_indexI : MtR X "list.index" (qIndex X.K) := MtR.imp mt_index fun x vs H Q h => by
  unfold qIndex at h; split at h
  · rename_i l i
    obtain ⟨ns, j, h1, h2, h3, h4⟩ := h
    refine ⟨l, ns.map V.int, .int i, j, .int i, rfl, rfl, h1, rfl, ?_, ?_, ?_, fun m z hm hz => ?_, h4⟩
    · rw [List.all_map]; exact List.all_eq_true.mpr fun _ _ => rfl
    · rw [List.getElem?_map, h2]; rfl
    · simp [eqV]
    · rw [List.getElem?_map] at hz
      cases e : ns[m]? with
      | none => rw [e] at hz; cases hz
      | some u =>
        rw [e] at hz; cases hz
        have := h3 m hm
        rw [e] at this
        simp only [eqV, beq_eq_false_iff_ne]
        exact fun z => this (by rw [z])
  · exact h.elim
/-! ### pairs -/
def gP2 (K : PySem.W.Frag) (i j : Nat) : TG := fun v σ H Q => ∃ a x y, v = .ref a ∧ SqT K H a [x, y] ∧ Q ((σ.set i (some x)).set j (some y)) H
theorem g_p2 {i j k : Nat} {x y : Str} {p1 p2 pos : Pos} (hc : X.calm = true) (hN : X.N.Nodup) (hi : X.N[i]? = some x) (hj : X.N[j]? = some y) (hx : Loc X.env.scope x) (hy : Loc X.env.scope y)
    (hf : X.fn x = true ∨ X.env.scope.names.lookup x = some .local := by first | exact .inl rfl | exact .inr rfl | assumption) (hf2 : X.fn y = true ∨ X.env.scope.names.lookup y = some .local := by first | exact .inl rfl | exact .inr rfl | assumption)
    (hn : (assignEach [.Name x p1, .Name y p2] X.env).length = 2 := by rfl) (hst : (assignEach [.Name x p1, .Name y p2] X.env).findIdx? (·.1) = none := by rfl)
    (h1 : (assignEach [.Name x p1, .Name y p2] X.env).map (·.2) = assign (.Name x p1) X.env :: (assignEach [.Name y p2] X.env).map (·.2) := by rfl) (h2 : (assignEach [.Name y p2] X.env).map (·.2) = assign (.Name y p2) X.env :: (assignEach [] X.env).map (·.2) := by rfl) :
    PG X (.Tuple [.Name x p1, .Name y p2] k pos) (gP2 X.K i j) := by
  have h := pg_tup (X := X) (pos := pos) (k := k) hc (pgs_cons (pg_name (pos := p1) hN hi hx hf) (pgs_cons (pg_name (pos := p2) hN hj hy hf2) pgs_nil h2) h1) hn hst
  refine ⟨fun pins s σ H v u Q I r q => h.run pins s σ H v u Q I r ?_⟩
  obtain ⟨a, x, y, rfl, hs, q⟩ := q
  exact ⟨a, [x, y], rfl, hs, rfl, x, [y], rfl, y, [], rfl, rfl, q⟩
theorem ypair_go {K : PySem.W.Frag} {xs ys : Nat → Option V} {n : Nat} {H H' : Hp} {v : V} {i j : Nat} {σ : L2.St} {Q : L2.St → Hp → Prop} (h : YPair xs ys n H v H')
    (q : ∀ x y T, xs n = some x → ys n = some y → H T = none → H' = upd H T (.tup [x, y]) → Q ((σ.set i (some x)).set j (some y)) (upd H T (.tup [x, y]))) : gP2 K i j v σ H' Q := by
  obtain ⟨T, x, y, rfl, hT, rfl, h1, h2⟩ := h
  exact ⟨T, x, y, rfl, SqT.of upd_same, q x y T h1 h2 hT rfl⟩
/-- `a = x; b = y` at once -/
def cPar (i j : Nat) (ta tb : TE) : TS := fun D σ H => ta σ H fun x H1 => tb σ H1 fun y H2 => D.nx ((σ.set i (some x)).set j (some y)) H2
theorem c_par {i j : Nat} {x y : Str} {a b : Expr} {ta tb : TE} {px py pt pos : Pos} {kt k2 : Nat} {pt2 : Pos} (hc : X.calm = true) (hN : X.N.Nodup) (hi : X.N[i]? = some x) (hj : X.N[j]? = some y) (hij : i ≠ j) (hx : X.env.scope.names.lookup x = some .local) (hy : X.env.scope.names.lookup y = some .local)
    (ha : PE X a ta) (hb : PE X b tb) (hw : swappedStores [.Tuple [.Name x px, .Name y py] kt pt] (.Tuple [a, b] k2 pt2) X.env = pure (some [x, y])) (hs : swapsWithSole [.Tuple [.Name x px, .Name y py] kt pt] (.Tuple [a, b] k2 pt2) pos.line X.env = pure false := by rfl)
    (h1 : starEach [a, b] X.env = (false, eval a X.env) :: starEach [b] X.env := by rfl) (h2 : starEach [b] X.env = (false, eval b X.env) :: starEach [] X.env := by rfl) : PS X (.Assign [.Tuple [.Name x px, .Name y py] kt pt] (.Tuple [a, b] k2 pt2) pos) (cPar i j ta tb) :=
  PS.imp (ps_par hc hN hi hj hij hx hy (pa_cons (pe_cl ha) (pa_cons (pe_cl hb) pa_nil h2) h1) hw hs) fun D σ H x => ⟨_, x, fun v H1 q => ⟨_, q, fun u H2 q => ⟨v, u, rfl, q⟩⟩⟩
end
end Gm
namespace Gm
open PySem PySem.Spec PyProof.Rows L2
/-! ### a def as it stands, with what its call lacks -/
structure DefD (K : PySem.W.Frag) (mg : Str → Option Value) (x : Str) (st : Stmt) (ps : List Str) (dvs : List V) : Prop where
  ex : ∃ (f : Addr) (fd : FuncData) (ds : List Value), C8.Def K mg x st f fd ∧ Binds K fd ps ds ∧ Vals dvs ds
theorem calD {P : Program} {w : World} {K : PySem.W.Frag} {mg : Str → Option Value} {base : Heap} {x : Str} {st : Stmt} {N ps : List Str} {dvs : List V} {k : Nat} {sp : Sp} (D : DefD K mg x st ps dvs) (S : FnScope N ps (C8.fnScope st)) (len : ∀ vs H Q E, sp vs H Q E → vs.length = ps.length)
    (hbody : ∀ (f : Addr) (cdv : Value) (A : Around) (outer : List Env) (s : Shared) (H : Hp) (vs : List V) (Q : VK) (E : XK), Room k (A.deeper (envOfC x (C8.fnScope st) s.heap.objs.size f cdv)) → sp vs H Q E →
      ∃ t, PSs (cxOf C8.CX0 P w K mg base N x (C8.fnScope st) f cdv A outer s H E).nox (C8.fnBody st) t ∧ t { nx := fun _ H' => Q .non H', rt := Q } (start N vs) H) : C8.Cal P w K mg base (k + 1) x sp dvs := by
  obtain ⟨f, fd, ds, d, b, v⟩ := D.ex
  exact C8.cal0 d b v S len fun cdv A outer s H vs Q E hr h => hbody f cdv A outer s H vs Q E hr h
theorem hu64 {A : Around} {k : Nat} (hr : Room k A) : A.units + 64 < cLine := hr.units
end Gm
namespace Gm
open PySem PySem.Spec PyProof.Rows L2
section
variable {X : Cx}
theorem mulL {i j : Int} (h1 : -(2 ^ 64) < i := by omega) (h2 : i < 2 ^ 64 := by omega) : IntMulOk i j := .of_left (intBits_le_64 h1 h2)
theorem mulR {i j : Int} (h1 : -(2 ^ 64) < j := by omega) (h2 : j < 2 ^ 64 := by omega) : IntMulOk i j := .of_right (intBits_le_64 h1 h2)
theorem shl_le {n k m : Nat} (h : n < 2 ^ m) (hm : m ≤ 100000 := by omega) (hk : k ≤ 100000 := by omega) : CShl (n : Int) (k : Int) := shl_ok (n := m) (by simpa using h) (by omega)
def bPow : R2 := fun x y H Q => match x, y with | .int i, .int j => CPow i j ∧ Q (.int (i ^ j.toNat)) H | _, _ => False
theorem bo_pow : OpR X (binaryOp .Pow) bPow := OpR.imp op_pow fun x y H Q h => by
  unfold bPow at h; split at h; · exact ⟨_, _, rfl, rfl, h⟩
  · exact h.elim
/-- an int in a list, a tuple of ints -/
def bInI (K : PySem.W.Frag) (neg : Bool) : R2 := fun x y H Q => match x, y with | .int i, .ref p => ∃ ns : List Int, (SqL K H p (ns.map V.int) ∨ SqT K H p (ns.map V.int)) ∧ Q (.bl (if neg then !decide (i ∈ ns) else decide (i ∈ ns))) H | _, _ => False
theorem inV_ints (i : Int) : ∀ ns : List Int, inV (.int i) (ns.map V.int) = decide (i ∈ ns)
  | [] => rfl
  | n :: r => by
    have ih := inV_ints i r
    unfold inV at ih ⊢
    rw [List.map_cons, List.any_cons, ih]
    by_cases e : i = n
    · subst e; simp [eqV]
    · have : ¬ n = i := fun z => e z.symm
      simp [eqV, e, this]
theorem flat_ints (ns : List Int) : (ns.map V.int).all flatV = true := by rw [List.all_map]; exact List.all_eq_true.mpr fun _ _ => rfl
theorem bInI_in {K : PySem.W.Frag} {neg : Bool} {x y : V} {H : Hp} {Q : VK} (h : bInI K neg x y H Q) : rIn K neg x y H Q := by
  unfold bInI at h; split at h
  · obtain ⟨ns, h1, q⟩ := h
    exact ⟨_, ns.map V.int, rfl, h1, rfl, flat_ints ns, by rw [inV_ints]; exact q⟩
  · exact h.elim
theorem bo_inL : OpR X (compareOp .In) (bInI X.K false) := OpR.imp op_in_seq fun _ _ _ _ => bInI_in
theorem bo_niL : OpR X (compareOp .NotIn) (bInI X.K true) := OpR.imp op_notIn_seq fun _ _ _ _ => bInI_in
/-- one sign in a text -/
def bInS (neg : Bool) : R2 := fun x y H Q => match x, y with | .str a, .str z => ∃ c, a = ⟨#[c]⟩ ∧ Q (.bl (if neg then !decide (c ∈ z.cps.toList) else decide (c ∈ z.cps.toList))) H | _, _ => False
theorem bo_inS : OpR X (compareOp .In) (bInS false) := OpR.imp op_in_sign fun x y H Q h => by
  unfold bInS at h; split at h
  · obtain ⟨c, rfl, q⟩ := h; exact ⟨c, _, rfl, rfl, q⟩
  · exact h.elim
theorem bo_niS : OpR X (compareOp .NotIn) (bInS true) := OpR.imp op_notIn_sign fun x y H Q h => by
  unfold bInS at h; split at h
  · obtain ⟨c, rfl, q⟩ := h; exact ⟨c, _, rfl, rfl, q⟩
  · exact h.elim
theorem bo_eqD (hu : X.A.units + 64 < cLine) : OpR X (compareOp .Eq) (rEqD X.K) := op_eqD hu
theorem bo_neD (hu : X.A.units + 64 < cLine) : OpR X (compareOp .NotEq) (rNeD X.K) := op_neD hu
theorem ip_of {op : Operator} {r : R2} (h : OpR X (inplaceOp op) r) : PIp X op r := h
/-- str of a small int -/
def qStr : List V → Hp → VK → Prop := fun vs H Q => match vs with | [.int i] => i.natAbs.log2 < 1920 ∧ Q (.str (toString i)) H | _ => False
theorem cr_str : CallR X (.type "str") qStr := CallR.imp call_str_int fun xs H Q h => by
  unfold qStr at h; split at h
  · exact ⟨_, rfl, h⟩
  · exact h.elim
def qList (K : PySem.W.Frag) : List V → Hp → VK → Prop := fun vs H Q => match vs with | [.ref p] => ∃ ys, (SqL K H p ys ∨ SqT K H p ys) ∧ ∀ l, H l = none → Q (.ref l) (upd H l (.lst ys)) | _ => False
theorem cr_list : CallR X (.type "list") (qList X.K) := CallR.imp call_list_of fun xs H Q h => by
  unfold qList at h; split at h
  · obtain ⟨ys, h1, q⟩ := h; exact ⟨_, ys, rfl, h1, q⟩
  · exact h.elim
/-- an item of a list, for an augmented store -/
def gIxL (K : PySem.W.Frag) : V → V → Hp → VK → Prop := fun o i H Q => match o, i with | .ref p, .int k => ∃ xs j v, SqL K H p xs ∧ k = ((j : Nat) : Int) ∧ xs[j]? = some v ∧ Q v H | _, _ => False
theorem gt_list : PGet X (gIxL X.K) := by
  intro pins s σ H o i ov iv Q I ro ri h
  unfold gIxL at h; split at h
  · obtain ⟨xs, j, v, h1, rfl, h2, q⟩ := h
    cases ro
    obtain ⟨t, rfl⟩ := ri
    obtain ⟨its, r, pl, hz⟩ := I.list h1
    obtain ⟨w, ew, rw'⟩ := r.get h2
    have hj := (List.getElem?_eq_some_iff.mp h2).1
    have hn := line63
    exact wpAny_getItem_list pl.isList (by omega) (by omega) (by simpa using ew) ⟨v, H, I, rw', q⟩
  · exact h.elim
/-- reversed(range(n)) -/
theorem i_revRng {tg a : Expr} {ta : TE} {p pos p2 pos2 : Pos} (hg : Gl X "reversed") (hm : X.mg "reversed" = none) (hg2 : Gl X "range") (hm2 : X.mg "range" = none) (ha : PE X a ta)
    (na : starEach [a] X.env = (false, eval a X.env) :: starEach [] X.env := by rfl) (hs : starEach [Expr.Call (.Name "range" p2) [a] [] pos2] X.env = (false, eval (Expr.Call (.Name "range" p2) [a] [] pos2) X.env) :: starEach [] X.env := by rfl) :
    PIt X tg (.Call (.Name "reversed" p) [.Call (.Name "range" p2) [a] [] pos2] [] pos) (wRevRng (tCons ta tNil)) :=
  pit_of (pi_revR hg hm (prg_1 hg2 hm2 (pe_cl ha) na) hs) fun σ H K x => ⟨_, x, fun v H1 q => by
    cases v with
    | int j =>
      have w : Walk (Itc (0 + (((j - 0).toNat : Nat) : Int) - 1) (-1) (j - 0).toNat) (j - 0).toNat (fun _ => True) (YFn fun i => .int ((j.toNat - 1 - i : Nat) : Int)) :=
        Walk.mono walk_rangeC (fun _ h => h) fun i H x H' hi _ y => ⟨y.1, by
          rw [y.2]
          have e : (0 + (((j - 0).toNat : Nat) : Int) - 1 + (i : Int) * -1) = ((j.toNat - 1 - i : Nat) : Int) := by omega
          dsimp only; rw [e]⟩
      have e : (j - 0).toNat = j.toNat := by omega
      refine ⟨j, rfl, by omega, by omega, q.1.1, q.1.2, _, _, _, w, ?_⟩
      rw [e]; exact q.2
    | _ => exact q.elim⟩
/-! ### lists made while the heap turns -/
abbrev TLg := L2.St → Hp → (List V → Hp → Prop) → Prop
structure PLg (X : Cx) (e : Expr) (t : TLg) : Prop where
  run : ∀ (pins : List (Addr × Obj)) (s : Shared) (σ : L2.St) (H : Hp) (Q : List V → Hp → Prop), Inv X pins σ H s → t σ H Q →
    wpAny (model X.prog X.w) X.A (eval e X.env) (fun u s' => ∃ ys D Hc, Inv X pins σ (upd Hc D (.lst ys)) s' ∧ u = .ref D ∧ Hc D = none ∧ Q ys Hc) X.xe s
def wLg (wi : TW) (g : TG) (tt : TT) (te : TE) (vs : List Nat) : TLg := fun σ H Q => wi σ H fun n G Y H1 => n ≤ sizeLine ∧ ∃ P : Nat → List V → Hp → Prop, P 0 [] H1 ∧ (∀ i ys Hc D, i ≤ n → P i ys Hc → Hc D = none → G (upd Hc D (.lst ys))) ∧
  (∀ D i ys Hc x H3, i < n → P i ys Hc → Hc D = none → Y i (upd Hc D (.lst ys)) x H3 → g x (wipe σ vs) H3 fun σ2 H4 => wipe σ2 vs = wipe σ vs ∧ tt σ2 H4 fun b H5 =>
    if b = true then te σ2 H5 fun y H6 => ∃ Hn, H6 = upd Hn D (.lst ys) ∧ Hn D = none ∧ P (i + 1) (ys ++ [y]) Hn else ∃ Hn, H5 = upd Hn D (.lst ys) ∧ Hn D = none ∧ P (i + 1) ys Hn) ∧ ∀ ys Hc, P n ys Hc → Q ys Hc
theorem plg_lc {elt tg iter : Expr} {ifs : List Expr} {scope : Scope} {own : List (Str × Nat)} {pos : Pos} {wi : TW} {g : TG} {tt : TT} {te : TE} (hc : X.calm = true) (hN : X.N.Nodup) (hi : PIt X tg iter wi) (ok : BlkOk X.N X.env.scope scope own)
    (hg : ∀ (s : Shared) (H : Hp) (C : Addr) (cl : List (Str × Addr)) (fp : List Addr), PG (X.blk s H scope (compEnvC scope cl C X.env) fp) tg g)
    (ht : ∀ (s : Shared) (H : Hp) (C : Addr) (cl : List (Str × Addr)) (fp : List Addr), PTs (X.blk s H scope (compEnvC scope cl C X.env) fp) ifs tt)
    (he : ∀ (s : Shared) (H : Hp) (C : Addr) (cl : List (Str × Addr)) (fp : List Addr), PE (X.blk s H scope (compEnvC scope cl C X.env) fp) elt te)
    (hs : ∀ x, foldedSetIterable iter X.env x = pure x := by intro _; rfl) : PLg X (.ListComp elt [⟨tg, iter, ifs, 0⟩] scope pos) (wLg wi g tt te (own.map (·.2))) := by
  refine ⟨fun pins s σ H Q I x => ?_⟩
  refine thn ((pe_lc (pos := pos) hc hN hi.pi ok (fun s H C cl fp => pg_cl (hg s H C cl fp)) (fun s H C cl fp => pts_cl (ht s H C cl fp)) (fun s H C cl fp => pe_cl (he s H C cl fp)) hs).run pins s σ H (fun v H' => ∃ ys D Hc, v = .ref D ∧ H' = upd Hc D (.lst ys) ∧ Hc D = none ∧ Q ys Hc) I ⟨_, x, fun J n G Y H1 w ⟨hn, P, h0, hG, hstep, hq⟩ D hD => ?_⟩) fun u s' h => ?_
  · refine lc_it w (fun i H2 => ∃ ys Hc, H2 = upd Hc D (.lst ys) ∧ Hc D = none ∧ ys.length ≤ i ∧ P i ys Hc) ⟨[], H1, rfl, hD, Nat.le_refl _, h0⟩ (fun i H2 hi ⟨ys, Hc, e, hn, _, p⟩ => by rw [e]; exact hG i ys Hc D hi p hn) ?_ ?_
    · rintro i x H2 H3 hi ⟨ys, Hc, rfl, hn', hl, p⟩ hy
      refine ⟨_, hstep D i ys Hc x H3 hi p hn' hy, fun σ2 H4 ⟨ew, q⟩ => ⟨ew, _, q, fun b H5 q => ?_⟩⟩
      cases b with
      | true =>
        refine ⟨_, q, fun y H6 ⟨Hn, e6, n6, p6⟩ => ⟨ys, by rw [e6]; exact upd_same, Nat.lt_of_le_of_lt hl (Nat.lt_of_lt_of_le hi hn), ys ++ [y], Hn, by rw [e6]; exact upd_upd, n6, by rw [List.length_append]; exact Nat.succ_le_succ hl, p6⟩⟩
      | false =>
        obtain ⟨Hn, e5, n5, p5⟩ := q
        exact ⟨ys, Hn, e5, n5, Nat.le_succ_of_le hl, p5⟩
    · rintro H2 ⟨ys, Hc, rfl, hn', _, p⟩
      exact ⟨ys, D, Hc, rfl, rfl, hn', hq ys Hc p⟩
  · obtain ⟨v, H', J, r, ys, D, Hc, rfl, rfl, hn, q⟩ := h
    exact ⟨ys, D, Hc, J, r, hn, q⟩
def clLg (t : TLg) : TLg := fun σ H Q => ∃ Q0 : List V → Hp → Prop, t σ H Q0 ∧ ∀ v H', Q0 v H' → Q v H'
theorem plg_cl {e : Expr} {t : TLg} (h : PLg X e t) : PLg X e (clLg t) := ⟨fun pins s σ H Q I ⟨Q0, x, m⟩ => thn (h.run pins s σ H Q0 I x) fun u s' ⟨ys, D, Hc, J, r, hD, q⟩ => ⟨ys, D, Hc, J, r, hD, m _ _ q⟩⟩
def cNewG (t : TLg) : TE := fun σ H Q => t σ H fun ys Hc => ∀ D, Hc D = none → Q (.ref D) (upd Hc D (.lst ys))
theorem c_newG {e : Expr} {t : TLg} (h : PLg X e t) : PE X e (cNewG t) := ⟨fun pins s σ H Q I x => thn (h.run pins s σ H _ I x) fun u s' ⟨ys, D, Hc, J, r, hD, q⟩ => ⟨.ref D, _, J, r, q D hD⟩⟩
/-- what may stand behind: no hole -/
structure Cut0 (H Hc : Hp) : Prop where
  pl : Plain Hc
  cl : Closed H → Closed Hc
  im : Imm H Hc
theorem Cut0.cut {H Hc : Hp} (c : Cut0 H Hc) {D : Addr} {o : HO} (h : Hc D = none) : Cut H (upd Hc D o) Hc := ⟨Ex.new h, c.pl, c.cl, c.im⟩
theorem Cut0.self {H : Hp} (p : Plain H) : Cut0 H H := ⟨p, id, Imm.rfl'⟩
theorem Cut0.lst {H : Hp} (p : Plain H) {a : Addr} {xs ys : List V} (h : H a = some (.lst xs)) : Cut0 H (upd H a (.lst ys)) := ⟨p.upd, fun c => c.set h (by intros; simp) (by intros; simp), Imm.set h rfl⟩
/-- sum([..]) while the heap turns -/
def cSumG (t : TLg) : TE := fun σ H Q => t σ H fun ys Hc => Cut0 H Hc ∧ ∃ ns : List Int, ys = ns.map V.int ∧ Q (.int ns.sum) Hc
theorem c_sumG {p pos : Pos} {e : Expr} {t : TLg} (hc : X.calm = true) (hl : PLg X e t) (hg : Gl X "sum") (mx : X.mg "sum" = none) (hs : starEach [e] X.env = (false, eval e X.env) :: starEach [] X.env := by rfl) (hpl : (backTo pos (starEach [] X.env)).any (·.1) = false := by rfl) : PE X (.Call (.Name "sum" p) [e] [] pos) (cSumG t) :=
  PE.imp (pe_cut (pe_callB (cr_sum hc) hg mx PyProof.Rows.boot_sum (pa_cons (c_newG (plg_cl hl)) pa_nil hs) (by decide) (by decide) hs hpl)) fun σ H Q y => ⟨_, y, fun ys Hc ⟨c, ns, e, k⟩ D hD => ⟨D, ns, rfl, by rw [e]; exact SqL.of upd_same, Hc, c.cut hD, k⟩⟩
/-! ### a def called by keywords; dicts that stand -/
theorem c_callN {n : Nat} {x : Str} {p pos : Pos} {e : Expr} {es : List Expr} {kws : List Keyword} {t tk : TA} {ks : List Str} {sp : Sp} {gV : List V → List V → List V} {k j : Nat}
    (c : ∃ (f : Addr) (fd : FuncData) (ps : List Str) (g : List Value → List Value → List Value), FnOk X.prog X.w X.K X.mg X.base C8.CX0 k f fd ps sp ∧ X.mg x = some (.ref f) ∧ PySem.W.keepIn X.K (.ref f) = true ∧ KBn X.K fd ps n ks g gV) (hr : Room j X.A) (hk : k ≤ j) (hg : Gl X x) (ha : PA X (e :: es) t) (hkw : PK X kws tk)
    (hall : (backToKw pos (keywordEach kws X.env)).all (·.1.isSome) = true := by rfl) (hks : (backToKw pos (keywordEach kws X.env)).filterMap (·.1) = ks := by rfl) (hdb : (x == ("__debug__" : Str)) = false := by decide)
    (he : starEach (e :: es) X.env = (false, eval e X.env) :: starEach es X.env := by rfl) (hpl : ((backTo pos (starEach (e :: es) X.env)).any (·.1) || (backToKw pos (keywordEach kws X.env)).any (·.1.isNone)) = false := by rfl) :
    PE X (.Call (.Name x p) (e :: es) kws pos) (tCallN n ks.length sp gV (fun _ _ _ => False) t tk) := by
  obtain ⟨f, fd, ps, g, F, m, kp, b⟩ := c
  exact pe_callN F (hr.mono hk) hg m kp b (C8.pass0 (E := fun _ _ _ => False)) ha hkw hall hks hdb he hpl
def cDGet (K : PySem.W.Frag) (td ty : TE) : TE := fun σ H Q => td σ H fun x H1 => ty σ H1 fun y H2 => match x with | .ref a => ∃ v, DGet H2 a y (some v) ∧ Q v H2 | _ => False
theorem c_dget {o i : Expr} {td ty : TE} {pos : Pos} (hu : X.A.units + 1 < cLine) (ho : PE X o td) (hi : PE X i ty) (hs : NoSl i) : PE X (.Subscript o i pos) (cDGet X.K td ty) :=
  PE.imp (pe_dget hu (pe_cl ho) (pe_cl hi) hs) fun σ H Q x => ⟨_, x, fun v H1 q => ⟨_, q, fun u H2 q => by
    cases v with
    | ref a => obtain ⟨w, d, q⟩ := q; exact ⟨a, w, rfl, d, q⟩
    | _ => exact q.elim⟩⟩
def cDIn (ty td : TE) (neg : Bool) : TE := fun σ H Q => ty σ H fun y H1 => td σ H1 fun x H2 => match x with | .ref a => ∃ o, DGet H2 a y o ∧ Q (.bl (if neg then !o.isSome else o.isSome)) H2 | _ => False
theorem c_inD {o i : Expr} {td ty : TE} {pos : Pos} (hu : X.A.units + 1 < cLine) (hi : PE X i ty) (ho : PE X o td) (h1 : behindInMarks .In o = false := by rfl) : PE X (.Compare i [.In] [o] pos) (cDIn ty td false) :=
  PE.imp (pe_cmp (pc_din hu (pe_cl hi) (pe_cl ho)) h1) fun σ H Q x => ⟨_, x, fun v H1 q => ⟨_, q, fun u H2 q => by
    cases u with
    | ref a => obtain ⟨w, d, q⟩ := q; exact ⟨a, w, rfl, d, q⟩
    | _ => exact q.elim⟩⟩
theorem c_niD {o i : Expr} {td ty : TE} {pos : Pos} (hu : X.A.units + 1 < cLine) (hi : PE X i ty) (ho : PE X o td) (h1 : behindInMarks .NotIn o = false := by rfl) : PE X (.Compare i [.NotIn] [o] pos) (cDIn ty td true) :=
  PE.imp (pe_cmp (pc_dnotin hu (pe_cl hi) (pe_cl ho)) h1) fun σ H Q x => ⟨_, x, fun v H1 q => ⟨_, q, fun u H2 q => by
    cases u with
    | ref a => obtain ⟨w, d, q⟩ := q; exact ⟨a, w, rfl, d, q⟩
    | _ => exact q.elim⟩⟩
end
end Gm
namespace Gm
open PySem PySem.Spec PyProof.Rows L2
section
variable {X : Cx}
/-- a.join([..]) -/
def cJoin (to : TE) (t : TL) : TE := fun σ H Q => to σ H fun x H1 => match x with | .str a => t σ H1 fun ys => ∃ zs : List Str, ys = zs.map V.str ∧ (zs.map (·.length)).sum + zs.length * a.length ≤ 16777216 ∧ Q (.str (Str.join a zs)) H1 | _ => False
theorem c_joinL {o e : Expr} {to : TE} {t : TL} {apos pos : Pos} (ho : PE X o to) (hl : PL X e t) (hs : starEach [e] X.env = [(false, eval e X.env)] := by rfl) (hbase : attributeBase o "join" X.env (eval o X.env) = eval o X.env := by rfl) (hline : (apos.endLine == pos.line) = true := by rfl) :
    PE X (.Call (.Attribute o "join" apos) [e] [] pos) (fun σ H Q => cJoin to t σ H fun v H' => Ex H H' ∧ Plain H ∧ Q v H) :=
  PE.imp (pe_cut (pe_join (pe_cl ho) (c_new (pl_cl hl)) hs hbase hline)) fun σ H Q x => ⟨_, x, fun v H1 q => by
    cases v with
    | str a =>
      refine ⟨⟨a, rfl⟩, _, q, fun ys ⟨zs, e, hb, ex, pl, k⟩ D hD _ => ⟨a, D, zs, rfl, rfl, .inl (by rw [e]; exact SqL.of upd_same), hb, H, Cut.self (ex.tr (Ex.new hD)) pl, ?_⟩⟩
      rw [TL.join_eq]; exact k
    | _ => exact q.elim⟩
end

/-! ### int(t, 2) -/
namespace B2
open PySem.NumText PySem.Calls L2.Hx
def Is2 (c : Nat) : Prop := c = 48 ∨ c = 49
def num2 (l : List Nat) : Nat := l.foldl (fun a c => a * 2 + (c - 48)) 0
theorem step2 {ds : Array Nat} {b : Bool} {c : Nat} (h : Is2 c) : PySem.NumText.step 2 (ds, b) c = some (ds.push (c - 48), true) := by
  rcases h with rfl | rfl <;> rfl
theorem fold2 : ∀ (cs : List Nat) (ds : Array Nat), (∀ c ∈ cs, Is2 c) → cs.foldlM (PySem.NumText.step 2) (ds, true) = some (cs.foldl (fun acc c => acc.push (c - 48)) ds, true)
  | [], _, _ => rfl
  | c :: cs, ds, h => by
    rw [List.foldlM_cons, step2 (h c (List.mem_cons_self ..))]
    exact fold2 cs (ds.push (c - 48)) fun d hd => h d (List.mem_cons_of_mem _ hd)
theorem digits2 {cs : List Nat} (h : ∀ c ∈ cs, Is2 c) (hne : cs ≠ []) : digits? 2 cs = some (cs.foldl (fun acc c => acc.push (c - 48)) #[]) := by
  cases cs with
  | nil => exact absurd rfl hne
  | cons c cs =>
    unfold digits?
    rw [List.foldlM_cons, step2 (h c (List.mem_cons_self ..))]
    show (cs.foldlM (PySem.NumText.step 2) ((#[] : Array Nat).push (c - 48), true)).bind _ = _
    rw [fold2 cs _ fun d hd => h d (List.mem_cons_of_mem _ hd)]
    rfl
theorem push2 : ∀ (cs : List Nat) (ds : Array Nat), (cs.foldl (fun acc c => acc.push (c - 48)) ds).foldl (fun acc d => acc * 2 + d) 0 = cs.foldl (fun a c => a * 2 + (c - 48)) (ds.foldl (fun acc d => acc * 2 + d) 0)
  | [], _ => rfl
  | c :: cs, ds => by
    rw [List.foldl_cons, push2 cs (ds.push (c - 48)), List.foldl_cons]
    congr 1
    simp
theorem drop2 {cs : List Nat} (h : ∀ c ∈ cs, Is2 c) : cs.dropWhile blank = cs := by
  cases cs with
  | nil => rfl
  | cons c cs => exact dropWhile_of (by rcases h c (List.mem_cons_self ..) with rfl | rfl <;> decide)
theorem sign2 {cs : List Nat} (h : ∀ c ∈ cs, Is2 c) : sign cs = (false, cs) := by
  cases cs with
  | nil => rfl
  | cons c cs => exact sign_of (by rcases h c (List.mem_cons_self ..) with rfl | rfl <;> decide) (by rcases h c (List.mem_cons_self ..) with rfl | rfl <;> decide)
theorem based2 {cs : List Nat} (h : ∀ c ∈ cs, Is2 c) : based 2 cs = (2, false, cs) := by
  match cs, h with
  | [], _ => rfl
  | [a], h => rcases h a (List.mem_cons_self ..) with rfl | rfl <;> rfl
  | a :: c :: r, h =>
    rcases h a (List.mem_cons_self ..) with rfl | rfl <;> rcases h c (List.mem_cons_of_mem _ (List.mem_cons_self ..)) with rfl | rfl <;> rfl
theorem read2 (lim : Nat) {cs : List Nat} (h : ∀ c ∈ cs, Is2 c) (hne : cs ≠ []) : (int_private% "readNumeral") lim 2 cs = (int_private% "Numeral.value") ((num2 cs : Nat) : Int) := by
  have hr : ∀ c ∈ cs.reverse, Is2 c := fun c hc => h c (List.mem_reverse.mp hc)
  refine (readNumeral_eq lim 2 cs).trans ?_
  rw [drop2 h, sign2 h, based2 h]
  show judge lim false 2 false (digits? 2 ((cs.reverse.dropWhile blank).reverse)) = _
  rw [drop2 hr, List.reverse_reverse, digits2 h hne]
  show (int_private% "Numeral.value") (((cs.foldl (fun acc c => acc.push (c - 48)) (#[] : Array Nat)).foldl (fun acc d => acc * 2 + d) 0 : Nat) : Int) = _
  rw [push2]; rfl
theorem seen2 {x : Str} (h : ∀ c ∈ x.cps.toList, Is2 c) : numTextOf x = x.cps.toList ∧ numSeenOf x = x.cps.toList := by
  have e1 : numTextOf x = x.cps.toList := by
    refine if_pos ?_
    rw [← Array.all_toList, List.all_eq_true]
    intro c hc
    rcases h c hc with rfl | rfl <;> decide
  refine ⟨e1, ?_⟩
  show (numTextOf x).takeWhile _ = _
  rw [e1]
  refine takeWhile_all fun c hc => ?_
  rcases h c hc with rfl | rfl <;> decide
/-- no limit of digits is set -/
def NoDig (h : Heap) : Prop := ∃ mc, h.Ns cStatics mc ∧ mc (Str.ofString "sys.int_max_str_digits") = none
theorem wp_lim {M : Model} {A : Around} {E : Value → Shared → Prop} {s : Shared} {Q : Nat → Shared → Prop} (h : NoDig s.heap) (q : Q 4300 s) : wpAny M A Builtin.intMaxStrDigits Q E s := by
  obtain ⟨mc, hn, e⟩ := h
  unfold Builtin.intMaxStrDigits
  refine wpAny_bind (wpAny_nsGet hn ?_)
  have e' : mc "sys.int_max_str_digits" = none := e
  rw [e']; exact wpAny_pure q
theorem wp_text2 {M : Model} {A : Around} {E : Value → Shared → Prop} {s : Shared} {Q : Value → Shared → Prop} {v : Value} {text : List Nat} {n : Int} (hd : NoDig s.heap)
    (hr : ∀ lim, (int_private% "readNumeral") lim 2 (text.takeWhile (· != 0)) = (int_private% "Numeral.value") n) (ha : ((text.takeWhile (· != 0)).length == text.length) = true) (h : Q (.int n s.toks) { s with toks := s.toks + 1 }) :
    wpAny M A ((int_private% "intFromText") v text 2) Q E s := by
  obtain ⟨hp, g, d, tk, os⟩ := s
  by_cases hs : (text.takeWhile (· != 0)).length ≤ 640
  · repeat (any_goals (first
      | assumption
      | (with_reducible refine wpAny_ite_true (decide_eq_true hs) ?_)
      | (with_reducible refine wpAny_ite_true (decide_eq_true ha) ?_)
      | wp_step))
    all_goals (try rw [hr])
    all_goals (try dsimp only)
    repeat (any_goals (first
      | assumption
      | (with_reducible refine wpAny_ite_true (decide_eq_true ha) ?_)
      | wp_step))
  · repeat (any_goals (first
      | assumption
      | (with_reducible refine wpAny_ite_false (decide_eq_false hs) ?_)
      | (with_reducible refine wp_lim hd ?_)
      | (with_reducible refine wpAny_ite_true (decide_eq_true ha) ?_)
      | wp_step))
    all_goals (try rw [hr])
    all_goals (try dsimp only)
    repeat (any_goals (first
      | assumption
      | (with_reducible refine wpAny_ite_true (decide_eq_true ha) ?_)
      | wp_step))
set_option maxHeartbeats 8000000 in
theorem meets2 {x : PySem.Str} {u t : Tok} (h : ∀ c ∈ x.cps.toList, Is2 c) (hne : x.cps.toList ≠ []) :
    Meets (Builtin.«int.__new__» ⟨[.type "int", .str x u, .int 2 t], []⟩) (fun _ R s => NoDig s.heap ∧ R (.ok (.ret (.int ((num2 x.cps.toList : Nat) : Int) s.toks))) { s with toks := s.toks + 1 }) :=
  Meets.of_wp fun prog w A R s ⟨hd, hQ⟩ => by
    obtain ⟨hp, g, d, tk, os⟩ := s
    have f1 := F.conv_sub_int
    have f2 := F.madeHere_int
    have f6 : typeOf (.str x u) = pure (.type "str") := rfl
    obtain ⟨e1, e2⟩ := seen2 h
    have hr : ∀ lim, (int_private% "readNumeral") lim 2 (numSeenOf x) = (int_private% "Numeral.value") ((num2 x.cps.toList : Nat) : Int) := fun lim => by
      rw [e2]
      exact read2 lim h hne
    have ha : ((numSeenOf x).length == (numTextOf x).length) = true := by
      rw [e1, e2]
      exact beq_self_eq_true _
    have hk := Hid.mk (And.intro hr (And.intro ha hd))
    clear hr ha e1 e2 hne h hd
    repeat (any_goals (first
      | assumption
      | ((with_reducible show wpAny _ _ ((int_private% "intFromText") _ _ _) _ _ _); refine wp_text2 hk.out.2.2 hk.out.1 hk.out.2.1 ?_)
      | wp_step))
    all_goals first | exact ⟨_, rfl, hQ⟩ | skip
theorem call2 {prog : Program} {w : World} {A : Around} {E : Value → Shared → Prop} {s : Shared} {Q : Value → Shared → Prop} {x : PySem.Str} {u t : Tok} (hd : NoDig s.heap) (h : ∀ c ∈ x.cps.toList, Is2 c) (hne : x.cps.toList ≠ [])
    (hQ : Q (.int ((num2 x.cps.toList : Nat) : Int) s.toks) { s with toks := s.toks + 1 }) : wpAny (model prog w) A (call (.type "int") [.str x u, .int 2 t]) Q E s :=
  callType_new F.called_int F.newNe_int (typeCall_int_2 _ _) (newCall_int_2 _ _) (fun obj => F.initArgs_range_2 obj _ _) F.entry_int_new (meets2 h hne) ⟨hd, typeIs_int _ _ _, hQ⟩
end B2
theorem ns_none {K : PySem.W.Frag} {h : Heap} {m : Str → Option Value} {D : Addr} {n : Str} (X : K.In h) (G : h.Ns D m) (e : PySem.W.nsIn K D n = some none) : m n = none := by
  obtain ⟨o, es, ep, ho, hd, _, hf⟩ := G
  unfold PySem.W.nsIn at e
  split at e
  · rename_i c d es' n' sl q
    have z := X _ _ q
    rw [ho] at z; cases z; cases hd
    split at e
    · cases e
    · rename_i he
      rw [← hf]; unfold nsFind findBy
      rw [← Array.find?_toList, he]; rfl
  · cases e
/-- int(t, 2), t of 0 and 1 -/
def qInt2 : List V → Hp → VK → Prop := fun vs H Q => match vs with | [.str x, .int b] => b = 2 ∧ x.cps.toList ≠ [] ∧ (∀ c ∈ x.cps.toList, B2.Is2 c) ∧ Q (.int ((B2.num2 x.cps.toList : Nat) : Int)) H | _ => False
theorem cr_int2 {X : Cx} (nd : PySem.W.nsIn X.K cStatics (Str.ofString "sys.int_max_str_digits") = some none) : CallR X (.type "int") qInt2 := by
  intro pins s σ H vs us Q I r h
  unfold qInt2 at h; split at h
  · obtain ⟨rfl, hne, h2, q⟩ := h
    obtain ⟨u, w', rfl, ⟨t1, rfl⟩, ⟨t2, rfl⟩⟩ := vals2 r
    refine B2.call2 ?_ h2 hne ⟨.int _, H, I.tok _, ⟨_, rfl⟩, q⟩
    obtain ⟨mc, hn, _⟩ := I.nolimit
    exact ⟨mc, hn, ns_none I.kIn hn nd⟩
  · exact h.elim
/-! ### the same rules, the written part named (within a comprehension) -/
section
variable {X : Cx} {K : PySem.W.Frag}
theorem k_ix (hK : X.K = K := by rfl) : IxR X (bIx K) := hK ▸ ix_any
theorem k_len (hK : X.K = K := by rfl) : CallR X (.builtin "len") (qLen K) := hK ▸ cr_len
theorem k_list (hK : X.K = K := by rfl) : CallR X (.type "list") (qList K) := hK ▸ cr_list
theorem k_inL (hK : X.K = K := by rfl) : OpR X (compareOp .In) (bInI K false) := hK ▸ bo_inL
theorem k_niL (hK : X.K = K := by rfl) : OpR X (compareOp .NotIn) (bInI K true) := hK ▸ bo_niL
theorem k_eqD (hu : X.A.units + 64 < cLine) (hK : X.K = K := by rfl) : OpR X (compareOp .Eq) (rEqD K) := hK ▸ op_eqD hu
theorem k_neD (hu : X.A.units + 64 < cLine) (hK : X.K = K := by rfl) : OpR X (compareOp .NotEq) (rNeD K) := hK ▸ op_neD hu
theorem k_index (hK : X.K = K := by rfl) : MtR X "list.index" (qIndex K) := hK ▸ mt_indexI
theorem k_slL (hK : X.K = K := by rfl) : SlR X (rSlL K) := hK ▸ sl_list
theorem k_slT (hK : X.K = K := by rfl) : SlR X (rSlT K) := hK ▸ sl_tup
theorem k_getL (hK : X.K = K := by rfl) : PGet X (gIxL K) := hK ▸ gt_list
theorem ki_list {tg e : Expr} {te : TE} (he : PE X e te) (hK : X.K = K := by rfl) : PIt X tg e (wList K te) := hK ▸ i_list he
theorem ki_tup {tg e : Expr} {te : TE} (he : PE X e te) (hK : X.K = K := by rfl) : PIt X tg e (wTup K te) := hK ▸ i_tup he
theorem ki_enum {e : Expr} {ta : TA} {p pos tpos : Pos} {elts : List Expr} {kk : Nat} (hg : Gl X "enumerate") (hm : X.mg "enumerate" = none) (ha : PA X [e] ta) (hs : starEach [e] X.env = [(false, eval e X.env)] := by rfl) (hK : X.K = K := by rfl) : PIt X (.Tuple elts kk tpos) (.Call (.Name "enumerate" p) [e] [] pos) (wEnum K ta) := hK ▸ i_enum hg hm ha hs
theorem ki_zip {e e2 : Expr} {ta : TA} {p pos tpos : Pos} {elts : List Expr} {kk : Nat} (hg : Gl X "zip") (hm : X.mg "zip" = none) (ha : PA X [e, e2] ta) (hs : starEach [e, e2] X.env = (false, eval e X.env) :: starEach [e2] X.env := by rfl) (hpl : (backTo pos (starEach [e2] X.env)).any (·.1) = false := by rfl) (hK : X.K = K := by rfl) :
    PIt X (.Tuple elts kk tpos) (.Call (.Name "zip" p) [e, e2] [] pos) (wZip K ta) := hK ▸ i_zip hg hm ha hs hpl
theorem k_p2 {i j k : Nat} {x y : Str} {p1 p2 pos : Pos} (hc : X.calm = true) (hN : X.N.Nodup) (hi : X.N[i]? = some x) (hj : X.N[j]? = some y) (hx : Loc X.env.scope x) (hy : Loc X.env.scope y)
    (hf : X.fn x = true ∨ X.env.scope.names.lookup x = some .local := by first | exact .inl rfl | exact .inr rfl | assumption) (hf2 : X.fn y = true ∨ X.env.scope.names.lookup y = some .local := by first | exact .inl rfl | exact .inr rfl | assumption)
    (hn : (assignEach [.Name x p1, .Name y p2] X.env).length = 2 := by rfl) (hst : (assignEach [.Name x p1, .Name y p2] X.env).findIdx? (·.1) = none := by rfl)
    (h1 : (assignEach [.Name x p1, .Name y p2] X.env).map (·.2) = assign (.Name x p1) X.env :: (assignEach [.Name y p2] X.env).map (·.2) := by rfl) (h2 : (assignEach [.Name y p2] X.env).map (·.2) = assign (.Name y p2) X.env :: (assignEach [] X.env).map (·.2) := by rfl) (hK : X.K = K := by rfl) :
    PG X (.Tuple [.Name x p1, .Name y p2] k pos) (gP2 K i j) := hK ▸ g_p2 hc hN hi hj hx hy hf hf2 hn hst h1 h2
theorem k_bm {o e : Expr} {es : List Expr} {to : TE} {t : TA} {name : Str} {apos cpos : Pos} {T id : String} {r : V → List V → Hp → VK → Prop} (pa : PlainAttrs T) (slot : Slot T name id) (hty : typeOf (.builtin id) = pure (.type "method_descriptor")) (hm : MtR X id r) (ho : PE X o to) (ha : PA X (e :: es) t)
    (hbase : attributeBase o name X.env (eval o X.env) = eval o X.env := by rfl)
    (hfew : ((backTo cpos (starEach (e :: es) X.env)).all (fun x => !x.1) && (backToKw cpos (keywordEach [] X.env)).all (fun x => x.1.isSome) && decide ((e :: es).length + ([] : List Keyword).length + (if ([] : List Keyword).isEmpty then 0 else 1) < 30)) = true := by rfl)
    (hline : (apos.endLine == cpos.line) = true := by rfl) (hs : starEach (e :: es) X.env = (false, eval e X.env) :: starEach es X.env := by rfl) (hplain : (backTo cpos (starEach es X.env)).any (·.1) = false := by rfl) (hK : X.K = K := by rfl) :
    PE X (.Call (.Attribute o name apos) (e :: es) [] cpos) (tBM K T r to t) := hK ▸ pe_bm pa slot hty hm ho ha hbase hfew hline hs hplain
end
end Gm
namespace Gm
open PySem PySem.Spec PyProof.Rows L2
section
variable {X : Cx}
theorem swD_true {kx vx : Expr} {gs : List Comprehension} {scope : Scope} {pos py : Pos} {y : Str} {l : Nat} {env : Env} (hk : env.scope.kind = .function) (hy : env.scope.names.lookup y = some .local) (hl : (py.line == pos.line) = true)
    (ha : (scope.names.any fun (n, k) => n == y && (k == .local || k == .cell)) = false) : swapsWith (.DictComp kx vx gs scope pos) (some (.Name y py)) l env = pure true := by
  have ky : env.kindOf y = some .local := hy
  have hb : env.blockKind = .function := by unfold Env.blockKind; rw [hk]; rfl
  unfold swapsWith
  simp only [hb, ky, ha, Expr.pos, hl]
  rfl
theorem ps_setDc {i : Nat} {y : Str} {py : Pos} {kx vx tg iter : Expr} {ifs : List Expr} {scope : Scope} {own : List (Str × Nat)} {pos spos : Pos} {wi : TI} {g : TG} {tt : TT} {tk tv : TE} (hc : X.calm = true) (hN : X.N.Nodup) (hy : X.N[i]? = some y) (hyl : X.env.scope.names.lookup y = some .local)
    (hsw : swapsWith (.DictComp kx vx [⟨tg, iter, ifs, 0⟩] scope pos) (some (.Name y py)) spos.line X.env = pure true) (hi : PI X tg iter wi) (ok : BlkOk X.N X.env.scope scope own)
    (hg : ∀ (s : Shared) (H : Hp) (C : Addr) (cl : List (Str × Addr)) (fp : List Addr), PG (X.blk s H scope (compEnvC scope cl C X.env) fp) tg g)
    (ht : ∀ (s : Shared) (H : Hp) (C : Addr) (cl : List (Str × Addr)) (fp : List Addr), PTs (X.blk s H scope (compEnvC scope cl C X.env) fp) ifs tt)
    (hk : ∀ (s : Shared) (H : Hp) (C : Addr) (cl : List (Str × Addr)) (fp : List Addr), PE (X.blk s H scope (compEnvC scope cl C X.env) fp) kx tk)
    (he : ∀ (s : Shared) (H : Hp) (C : Addr) (cl : List (Str × Addr)) (fp : List Addr), PE (X.blk s H scope (compEnvC scope cl C X.env) fp) vx tv) (hs : ∀ x, foldedSetIterable iter X.env x = pure x := by intro _; rfl) :
    PS X (.Assign [.Name y py] (.DictComp kx vx [⟨tg, iter, ifs, 0⟩] scope pos) spos) (tAsg (tDc wi g tt tk tv (own.map (·.2))) (gName i)) := by
  refine ⟨fun pins s σ H D I h => ?_⟩
  rw [exec_Assign_Name_used _ _ _ _ hsw]
  refine wpAny_bind (wpAny_standAt (wpAny_bind ?_))
  have h : tDc wi g tt tk tv (own.map (·.2)) σ H (fun x H1 => gName i x σ H1 D.nx) := h
  refine wpAny_bind (thn (dc_core (Qf := fun _ s' => SP X pins D .next s') hc hN I hi ok hg ht hk he hs h fun L C s' m H' J q hn f => ?_) fun _ s' z => wpAny_pure (wpAny_pure z))
  refine wpAny_assign_Name (store_ok2 (v := V.ref L) J hN hy (.inl hyl) rfl (fun s2 I2 ⟨a, sb, ha⟩ => ?_) (.inr hyl))
  obtain ⟨f0, f1, f2, f3, f4, f5⟩ := f
  have ne : C ≠ a := by
    rcases ha with z | z
    · rw [z]; exact f1
    · exact fun e => f4 y a z e.symm
  exact ⟨m, hn.sameBut sb ne, fun h3 sb3 => ⟨_, H', I2.turned (t' := s2.toks) (fun b o hb e => (sb3.2 b hb).trans e) f0 f1 f3 f4 f5, q⟩⟩
/-- what a dict comprehension makes of what its turns tell -/
def dcOf (f : Nat → Option (Key × V)) : Nat → List (Key × V)
  | 0 => []
  | n + 1 => match f n with | some (k, v) => putK (dcOf f n) k v | none => dcOf f n
theorem len_putK (kvs : List (Key × V)) (k : Key) (v : V) : (putK kvs k v).length ≤ kvs.length + 1 := by
  unfold putK; split
  · rw [List.length_map]; omega
  · simp
theorem dcOf_len (f : Nat → Option (Key × V)) : ∀ n, (dcOf f n).length ≤ n
  | 0 => Nat.le_refl _
  | n + 1 => by
    have ih := dcOf_len f n
    rw [dcOf]; split
    · exact Nat.le_trans (len_putK ..) (Nat.succ_le_succ ih)
    · omega
abbrev TD := L2.St → Hp → (List (Key × V) → Prop) → Prop
def wDc (wi : TW) (g : TG) (tt : TT) (tk tv : TE) (vs : List Nat) : TD := fun σ H Q => Plain H ∧ wi σ H fun n G Y H1 => Ex H H1 ∧ Plain H1 ∧ n ≤ sizeLine ∧ (∀ H2, Ex H1 H2 → G H2) ∧ ∃ f : Nat → Option (Key × V),
  (∀ i x H2 H3, i < n → Ex H1 H2 → Plain H2 → Y i H2 x H3 → g x (wipe σ vs) H3 fun σ2 H4 => wipe σ2 vs = wipe σ vs ∧ tt σ2 H4 fun b H5 =>
    if b = true then tk σ2 H5 fun y H6 => tv σ2 H6 fun z H7 => (Ex H2 H7 ∧ Plain H7) ∧ ∃ k, y = kV k ∧ f i = some (k, z) else (Ex H2 H5 ∧ Plain H5) ∧ f i = none) ∧ Q (dcOf f n)
def cSetD (i : Nat) (t : TD) : TS := fun D σ H => t σ H fun kvs => ∀ a, H a = none → D.nx (σ.set i (some (.ref a))) (upd H a (.dK kvs))
theorem c_setDc {i : Nat} {y : Str} {py : Pos} {kx vx tg iter : Expr} {ifs : List Expr} {scope : Scope} {own : List (Str × Nat)} {pos spos : Pos} {wi : TW} {g : TG} {tt : TT} {tk tv : TE} (hc : X.calm = true) (hN : X.N.Nodup) (hy : X.N[i]? = some y) (hyl : X.env.scope.names.lookup y = some .local)
    (hsw : swapsWith (.DictComp kx vx [⟨tg, iter, ifs, 0⟩] scope pos) (some (.Name y py)) spos.line X.env = pure true) (hi : PIt X tg iter wi) (ok : BlkOk X.N X.env.scope scope own)
    (hg : ∀ (s : Shared) (H : Hp) (C : Addr) (cl : List (Str × Addr)) (fp : List Addr), PG (X.blk s H scope (compEnvC scope cl C X.env) fp) tg g)
    (ht : ∀ (s : Shared) (H : Hp) (C : Addr) (cl : List (Str × Addr)) (fp : List Addr), PTs (X.blk s H scope (compEnvC scope cl C X.env) fp) ifs tt)
    (hk : ∀ (s : Shared) (H : Hp) (C : Addr) (cl : List (Str × Addr)) (fp : List Addr), PE (X.blk s H scope (compEnvC scope cl C X.env) fp) kx tk)
    (he : ∀ (s : Shared) (H : Hp) (C : Addr) (cl : List (Str × Addr)) (fp : List Addr), PE (X.blk s H scope (compEnvC scope cl C X.env) fp) vx tv) (hs : ∀ x, foldedSetIterable iter X.env x = pure x := by intro _; rfl) :
    PS X (.Assign [.Name y py] (.DictComp kx vx [⟨tg, iter, ifs, 0⟩] scope pos) spos) (cSetD i (wDc wi g tt tk tv (own.map (·.2)))) := by
  refine PS.imp (ps_cut (ps_setDc hc hN hy hyl hsw hi.pi ok (fun s H C cl fp => pg_cl (hg s H C cl fp)) (fun s H C cl fp => pts_cl (ht s H C cl fp)) (fun s H C cl fp => pe_cl (hk s H C cl fp)) (fun s H C cl fp => pe_cl (he s H C cl fp)) hs)) fun D σ H ⟨pl, x⟩ => ⟨_, x, fun J n G Y H1 w ⟨e1, pl1, hn, hG, f, hstep, hq⟩ A hA => ?_⟩
  -- the walk's own W
  refine ⟨fun i m H2 => m = n - i ∧ i ≤ n ∧ H2 A = some (.dK (dcOf f i)) ∧ Ex H1 H2 ∧ Plain H2, ⟨n, by simp, Nat.zero_le _, upd_same, Ex.new hA, pl1.upd⟩, ?_⟩
  rintro i m H2 ⟨rfl, hi, q1, q2, q3⟩
  by_cases hlt : i < n
  · refine .inr ⟨w.goes i H2 hlt (hG _ q2), fun H3 => H3 A = some (.dK (dcOf f (i + 1))) ∧ Ex H1 H3 ∧ Plain H3, fun H' ⟨a, b, c⟩ => ⟨n - (i + 1), by omega, rfl, hlt, a, b, c⟩, fun x H3 hy => ?_⟩
    refine ⟨_, hstep i x H2 H3 hlt q2 q3 (w.yields i H2 x H3 hlt (hG _ q2) hy), fun σ2 H4 ⟨ew, q⟩ => ⟨ew, _, q, fun b H5 q => ?_⟩⟩
    cases b with
    | true =>
      refine ⟨_, q, fun y H6 q => ⟨_, q, fun z H7 ⟨⟨e7, p7⟩, k, ek, ef⟩ => ?_⟩⟩
      refine ⟨_, k, ek, e7 _ _ q1, Nat.lt_of_le_of_lt (dcOf_len f i) (Nat.lt_of_lt_of_le hlt hn), ?_, fun a o q => ?_, p7.upd⟩
      · rw [upd_same, dcOf, ef]
      · rw [upd_ne (ne_of_none q hA)]; exact e7 _ _ (q2 _ _ q)
    | false =>
      obtain ⟨⟨e5, p5⟩, ef⟩ := q
      refine ⟨?_, q2.tr e5, p5⟩
      rw [dcOf, ef]
      exact e5 _ _ q1
  · have en : i = n := by omega
    subst en
    refine .inl ⟨w.stops H2 (hG _ q2), upd H A (.dK (dcOf f i)), Cut.new (e1.fresh hA) (fun a o q => ?_) pl, hq A (e1.fresh hA)⟩
    by_cases za : a = A
    · subst za; rw [upd_same] at q; cases q; exact q1
    · rw [upd_ne za] at q; exact q2 _ _ (e1 _ _ q)
theorem c_tinD {o i : Expr} {td ty : TE} {pos : Pos} (hu : X.A.units + 1 < cLine) (hi : PE X i ty) (ho : PE X o td) (h1 : behindInMarks .In o = false := by rfl) : PT X (.Compare i [.In] [o] pos) (cT (cDIn ty td false)) :=
  PT.imp (pt_cmp (pc_din hu (pe_cl hi) (pe_cl ho)) h1) fun σ H Q x => ⟨_, x, fun v H1 q => ⟨_, q, fun u H2 q => by
    cases u with
    | ref a => obtain ⟨w, d, q⟩ := q; exact ⟨a, w, rfl, d, _, rfl, q⟩
    | _ => exact q.elim⟩⟩
theorem c_tniD {o i : Expr} {td ty : TE} {pos : Pos} (hu : X.A.units + 1 < cLine) (hi : PE X i ty) (ho : PE X o td) (h1 : behindInMarks .NotIn o = false := by rfl) : PT X (.Compare i [.NotIn] [o] pos) (cT (cDIn ty td true)) :=
  PT.imp (pt_cmp (pc_dnotin hu (pe_cl hi) (pe_cl ho)) h1) fun σ H Q x => ⟨_, x, fun v H1 q => ⟨_, q, fun u H2 q => by
    cases u with
    | ref a => obtain ⟨w, d, q⟩ := q; exact ⟨a, w, rfl, d, _, rfl, q⟩
    | _ => exact q.elim⟩⟩
/-! ### step by step -/
theorem sq {t u : TS} {D : Ends} {σ : L2.St} {H : Hp} (h : ∀ R : L2.St → Hp → Prop, R = u D → t { D with nx := R } σ H) : tSeq t u D σ H := h _ rfl
theorem ix_lst {K : PySem.W.Frag} {H : Hp} {p : Addr} {xs : List V} {i : Int} {v : V} {Q : VK} (h : H p = some (.lst xs)) (e : atI xs i = some v) (q : Q v H) : bIx K (.ref p) (.int i) H Q := ⟨xs, v, .inl (SqL.of h), e, q⟩
theorem ix_sql {K : PySem.W.Frag} {H : Hp} {p : Addr} {xs : List V} {i : Int} {v : V} {Q : VK} (h : SqL K H p xs) (e : atI xs i = some v) (q : Q v H) : bIx K (.ref p) (.int i) H Q := ⟨xs, v, .inl h, e, q⟩
theorem ix_sqt {K : PySem.W.Frag} {H : Hp} {p : Addr} {xs : List V} {i : Int} {v : V} {Q : VK} (h : SqT K H p xs) (e : atI xs i = some v) (q : Q v H) : bIx K (.ref p) (.int i) H Q := ⟨xs, v, .inr h, e, q⟩
theorem len_lst {K : PySem.W.Frag} {H : Hp} {p : Addr} {xs : List V} {Q : VK} (h : H p = some (.lst xs)) (q : Q (.int (xs.length : Int)) H) : qLen K [.ref p] H Q := ⟨xs, .inl (SqL.of h), q⟩
theorem len_sql {K : PySem.W.Frag} {H : Hp} {p : Addr} {xs : List V} {Q : VK} (h : SqL K H p xs) (q : Q (.int (xs.length : Int)) H) : qLen K [.ref p] H Q := ⟨xs, .inl h, q⟩
end
/-! ### what the top has written -/
section
variable {K : PySem.W.Frag} {h : Heap} {mg : Str → Option Value} {x : Str} {st : Stmt} {f : Addr} {ps : List Str} {oc kV doc pm cdv ct : Value} {od an : Option Addr} {osl : Array (Option Value)}
theorem mkDef (X : K.In h) (G : h.Ns mainGlobals mg) (a : PySem.W.nsIn K mainGlobals x = some (some (.ref f))) (l : K.lookup f = some ⟨oc, od, .func (PySem.W.fnOf x x (C8.fnArgs st) (C8.fnBody st) (C8.fnScope st) .none kV doc pm an cdv ct), osl⟩) (c : PySem.W.codeIn K cdv x = true) (k : PySem.W.keepIn K (.ref f) = true) :
    C8.Def K mg x st f (PySem.W.fnOf x x (C8.fnArgs st) (C8.fnBody st) (C8.fnScope st) .none kV doc pm an cdv ct) := ⟨⟨_, _, _, _, _, _, _, _, _, _, rfl, l, c⟩, PySem.W.mg_of X G a, k⟩
theorem mkD (X : K.In h) (G : h.Ns mainGlobals mg) (a : PySem.W.nsIn K mainGlobals x = some (some (.ref f))) (l : K.lookup f = some ⟨oc, od, .func (PySem.W.fnOf x x (C8.fnArgs st) (C8.fnBody st) (C8.fnScope st) .none kV doc pm an cdv ct), osl⟩) (c : PySem.W.codeIn K cdv x = true) (k : PySem.W.keepIn K (.ref f) = true)
    (hb : ∀ (kV doc pm : Value) (an : Option Addr) (cdv ct : Value) (us : List Value), us.length = ps.length → bindArgs (PySem.W.fnOf x x (C8.fnArgs st) (C8.fnBody st) (C8.fnScope st) .none kV doc pm an cdv ct) ⟨us, []⟩ = pure (ps.zip us)) : DefD K mg x st ps [] :=
  ⟨f, _, [], mkDef X G a l c k, Binds.all fun us hl => hb kV doc pm an cdv ct us hl, .nil⟩
/-- one keyword-only parameter with a default, called with it or without it -/
theorem mkKw {n : Nat} {y : Str} {D : Addr} {v : V} {u : Value} (X : K.In h) (G : h.Ns mainGlobals mg) (a : PySem.W.nsIn K mainGlobals x = some (some (.ref f))) (l : K.lookup f = some ⟨oc, od, .func (PySem.W.fnOf x x (C8.fnArgs st) (C8.fnBody st) (C8.fnScope st) .none (.ref D) doc pm an cdv ct), osl⟩) (c : PySem.W.codeIn K cdv x = true) (k : PySem.W.keepIn K (.ref f) = true)
    (d : PySem.W.nsIn K D y = some (some u)) (r : RelV v u) (hn : n + 1 = ps.length)
    (h1 : ∀ (D : Addr) (doc pm : Value) (an : Option Addr) (cdv ct : Value) (us ks : List Value), us.length = n → ks.length = 1 → KwChain D ([y].zip ks) (bindArgs (PySem.W.fnOf x x (C8.fnArgs st) (C8.fnBody st) (C8.fnScope st) .none (.ref D) doc pm an cdv ct) ⟨us, []⟩) (ps.zip (us ++ ks)))
    (h2 : ∀ (D : Addr) (doc pm : Value) (an : Option Addr) (cdv ct : Value) (us ws : List Value), us.length = n → ws.length = 1 → bindArgs (PySem.W.fnOf x x (C8.fnArgs st) (C8.fnBody st) (C8.fnScope st) .none (.ref D) doc pm an cdv ct) ⟨us, [y].zip ws⟩ = pure (ps.zip (us ++ ws))) :
    ∃ (f : Addr) (fd : FuncData) (ds : List Value) (g : List Value → List Value → List Value), C8.Def K mg x st f fd ∧ Binds K fd ps ds ∧ Vals [v] ds ∧ KBn K fd ps n [y] g (fun vs zs => vs ++ zs) := by
  have F : FunD K x x (C8.fnArgs st) (C8.fnBody st) (C8.fnScope st) [] [(y, v)] f (PySem.W.fnOf x x (C8.fnArgs st) (C8.fnBody st) (C8.fnScope st) .none (.ref D) doc pm an cdv ct) :=
    ⟨⟨_, _, _, _, _, _, _, _, _, _, rfl, l, c, .inl ⟨rfl, rfl⟩, .inr ⟨D, rfl, fun q hq => by
      have e : q = (y, v) := List.mem_singleton.mp hq
      subst e
      exact ⟨u, d, r⟩⟩⟩, k⟩
  obtain ⟨ds, hv, hb⟩ := F.binds0 n (by simp) hn h1
  exact ⟨f, _, ds, fun us ws => us ++ ws, mkDef X G a l c k, hb, hv, ⟨fun s us ws _ e1 e2 => BindsTo.of_eq (h2 D doc pm an cdv ct us ws e1 e2), fun r1 r2 => Vals.append r1 r2⟩⟩
end
end Gm
namespace K68
open PySem PySem.Spec PyProof.Rows L2 Gm
def topS (i : Nat) : Stmt := PySem.Challenge.pw_gatemill_k68_whole_halves_make_the_table.main.body.getD i (.Pass ⟨0, 0, 0, 0⟩)
abbrev s_need_things : Stmt := topS 8
def n_need_things : List Str := ["things"]
theorem sc_need_things : FnScope n_need_things ["things"] (C8.fnScope s_need_things) := C8.fnScope_by (by decide +kernel)
abbrev s_need_table : Stmt := topS 9
def n_need_table : List Str := ["table", "things"]
theorem sc_need_table : FnScope n_need_table ["table", "things"] (C8.fnScope s_need_table) := C8.fnScope_by (by decide +kernel)
abbrev s_need_thing : Stmt := topS 10
def n_need_thing : List Str := ["things", "at"]
theorem sc_need_thing : FnScope n_need_thing ["things", "at"] (C8.fnScope s_need_thing) := C8.fnScope_by (by decide +kernel)
abbrev s_full_of : Stmt := topS 11
def n_full_of : List Str := ["things"]
theorem sc_full_of : FnScope n_full_of ["things"] (C8.fnScope s_full_of) := C8.fnScope_by (by decide +kernel)
abbrev s_column_of : Stmt := topS 12
def n_column_of : List Str := ["things", "at", "wide", "found", "size"]
theorem sc_column_of : FnScope n_column_of ["things", "at"] (C8.fnScope s_column_of) := C8.fnScope_by (by decide +kernel)
abbrev s_half_of : Stmt := topS 13
def n_half_of : List Str := ["table", "things", "at", "value", "column", "wide", "kept"]
theorem sc_half_of : FnScope n_half_of ["table", "things", "at", "value"] (C8.fnScope s_half_of) := C8.fnScope_by (by decide +kernel)
abbrev s_support_of : Stmt := topS 14
def n_support_of : List Str := ["table", "things", "at"]
theorem sc_support_of : FnScope n_support_of ["table", "things"] (C8.fnScope s_support_of) := C8.fnScope_by (by decide +kernel)
abbrev s_column : Stmt := topS 15
def n_column : List Str := ["things", "at"]
theorem sc_column : FnScope n_column ["things", "at"] (C8.fnScope s_column) := C8.fnScope_by (by decide +kernel)
abbrev s_half : Stmt := topS 16
def n_half : List Str := ["table", "things", "at", "value"]
theorem sc_half : FnScope n_half ["table", "things", "at", "value"] (C8.fnScope s_half) := C8.fnScope_by (by decide +kernel)
abbrev s_hung_on : Stmt := topS 17
def n_hung_on : List Str := ["table", "things"]
theorem sc_hung_on : FnScope n_hung_on ["table", "things"] (C8.fnScope s_hung_on) := C8.fnScope_by (by decide +kernel)
abbrev s_turned : Stmt := topS 18
def n_turned : List Str := ["table", "things", "at", "column_there", "wide"]
theorem sc_turned : FnScope n_turned ["table", "things", "at"] (C8.fnScope s_turned) := C8.fnScope_by (by decide +kernel)
abbrev s_narrowed : Stmt := topS 19
def n_narrowed : List Str := ["table", "things", "some", "at", "found", "row", "there", "k"]
theorem sc_narrowed : FnScope n_narrowed ["table", "things", "some"] (C8.fnScope s_narrowed) := C8.fnScope_by (by decide +kernel)
abbrev s_table_text : Stmt := topS 20
def n_table_text : List Str := ["table", "things", "row"]
theorem sc_table_text : FnScope n_table_text ["table", "things"] (C8.fnScope s_table_text) := C8.fnScope_by (by decide +kernel)
abbrev s_read_table : Stmt := topS 21
def n_read_table : List Str := ["text", "sizes", "things", "sign"]
theorem sc_read_table : FnScope n_read_table ["text"] (C8.fnScope s_read_table) := C8.fnScope_by (by decide +kernel)
abbrev s_law : Stmt := topS 26
def n_law : List Str := ["script", "box", "turn", "wide", "rows", "number", "hung", "k", "high", "low", "there", "whole", "left", "some", "back", "spare", "less", "row"]
theorem sc_law : FnScope n_law ["script"] (C8.fnScope s_law) := C8.fnScope_by (by decide +kernel)
abbrev s__law_box : Stmt := topS 23
def n__law_box : List Str := ["script", "seed", "one"]
theorem sc__law_box : FnScope n__law_box ["script"] (C8.fnScope s__law_box) := C8.fnScope_by (by decide +kernel)
abbrev s__law_take : Stmt := topS 24
def n__law_take : List Str := ["box", "many", "rest", "one", "mixed"]
theorem sc__law_take : FnScope n__law_take ["box", "many"] (C8.fnScope s__law_take) := C8.fnScope_by (by decide +kernel)
abbrev s__law_bit : Stmt := topS 25
def n__law_bit : List Str := ["number", "at"]
theorem sc__law_bit : FnScope n__law_bit ["number", "at"] (C8.fnScope s__law_bit) := C8.fnScope_by (by decide +kernel)
structure Txt (K : PySem.W.Frag) (mg : Str → Option Value) : Prop where
  g_MOST_THINGS : ∃ u, mg "MOST_THINGS" = some u ∧ RelV (.int 10) u
  d_need_things : DefD K mg "need_things" s_need_things ["things"] []
  d_need_table : DefD K mg "need_table" s_need_table ["table", "things"] []
  d_need_thing : DefD K mg "need_thing" s_need_thing ["things", "at"] []
  d_full_of : DefD K mg "full_of" s_full_of ["things"] []
  d_column_of : DefD K mg "column_of" s_column_of ["things", "at"] []
  n_list : mg "list" = none
  d__law_take : DefD K mg "_law_take" s__law_take ["box", "many"] []
  n_int : mg "int" = none
  n_all : mg "all" = none
  z_dig : PySem.W.nsIn K cStatics (Str.ofString "sys.int_max_str_digits") = some none
  d_read_table : DefD K mg "read_table" s_read_table ["text"] []
  n_range : mg "range" = none
  n_len : mg "len" = none
  n_sum : mg "sum" = none
  n_enumerate : mg "enumerate" = none
  n_reversed : mg "reversed" = none
  n_str : mg "str" = none
  d_support_of : DefD K mg "support_of" s_support_of ["table", "things"] []
  d_column : DefD K mg "column" s_column ["things", "at"] []
  d_half : ∃ (f : Addr) (fd : FuncData) (ds : List Value) (g : List Value → List Value → List Value), C8.Def K mg "half" s_half f fd ∧ Binds K fd ["table", "things", "at", "value"] ds ∧ Vals [.int 1] ds ∧ KBn K fd ["table", "things", "at", "value"] 3 ["value"] g (fun vs zs => vs ++ zs)
  d_hung_on : DefD K mg "hung_on" s_hung_on ["table", "things"] []
  d_turned : DefD K mg "turned" s_turned ["table", "things", "at"] []
  d_narrowed : DefD K mg "narrowed" s_narrowed ["table", "things", "some"] []
  d_table_text : DefD K mg "table_text" s_table_text ["table", "things"] []
  d__law_bit : DefD K mg "_law_bit" s__law_bit ["number", "at"] []
  d__law_box : DefD K mg "_law_box" s__law_box ["script"] []
  d_half_of : DefD K mg "half_of" s_half_of ["table", "things", "at", "value"] []
def sp_full_of : Sp := fun vs H Q _ => ∃ n : Nat, vs = [.int n] ∧ n ≤ 10 ∧ Q (.int (M68.full n : Nat)) H
def sp_column_of : Sp := fun vs H Q _ => ∃ n a : Nat, vs = [.int n, .int a] ∧ a < n ∧ n ≤ 10 ∧ Q (.int (M68.col n a : Nat)) H
def hlf (t n a v : Nat) : Nat := if v = 1 then M68.half1 t n a else M68.half0 t n a
def sp_half_of : Sp := fun vs H Q _ => ∃ t n a v : Nat, vs = [.int t, .int n, .int a, .int v] ∧ t < 2 ^ 2 ^ n ∧ a < n ∧ n ≤ 10 ∧ Q (.int (hlf t n a v : Nat)) H
def sp_need_things : Sp := fun vs H Q _ => ∃ n : Nat, vs = [.int n] ∧ n ≤ 10 ∧ Q .non H
def sp_need_table : Sp := fun vs H Q _ => ∃ t n : Nat, vs = [.int t, .int n] ∧ t < 2 ^ 2 ^ n ∧ n ≤ 10 ∧ Q .non H
def sp_need_thing : Sp := fun vs H Q _ => ∃ n a : Nat, vs = [.int n, .int a] ∧ a < n ∧ Q .non H
def supp (t n : Nat) : List Nat := (List.range n).filter fun a => decide (M68.half0 t n a ≠ M68.half1 t n a)
def VN (k : Nat) : V := .int (k : Nat)
def sp_support_of : Sp := fun vs H Q _ => ∃ t n : Nat, vs = [.int t, .int n] ∧ t < 2 ^ 2 ^ n ∧ n ≤ 10 ∧ Plain H ∧ ∀ D, H D = none → Q (.ref D) (upd H D (.lst ((supp t n).map VN)))
def sp_half : Sp := fun vs H Q _ => ∃ t n a v : Nat, vs = [.int t, .int n, .int a, .int v] ∧ t < 2 ^ 2 ^ n ∧ a < n ∧ n ≤ 10 ∧ Q (.int (hlf t n a v : Nat)) H
def sp_turned : Sp := fun vs H Q _ => ∃ t n a : Nat, vs = [.int t, .int n, .int a] ∧ t < 2 ^ 2 ^ n ∧ a < n ∧ n ≤ 10 ∧ Q (.int (M68.turn t n a : Nat)) H
local macro_rules | `(tactic| walk_at "rd") => `(tactic| try simp only [tSeq, tIfS, tNot, cT, cChain, tC, vV, sg, L2.start, List.map_cons, List.map_nil, List.length_cons, List.length_nil, tNext, tNever, tOp, bLe, bLt, bGe, bGt, tRet, tAsg, tDrop, gName, List.set_cons_zero, List.set_cons_succ, List.cons_append, List.nil_append, List.append_nil, List.replicate, tCall, tCons, tNil, cAug, L2.wipe, wRng1, wList, wEnum, tYes, tCB, List.length_map, cUse, bShl, bAnd, bOr, bShr, bEq, bNe, bXor, bSub, bMul, bAdd, bMod, bDiv, tTup, tLst, tSl, tNoPart, tPart, rSlL, qList, bPow, gSub, sSetL, tAugS, tOr, tAnd, tBM, Int.toNat_one, Nat.one_mul, Int.toNat_natCast, decide_eq_true_eq])
theorem q_int {Q : VK} {a b : Int} {H : Hp} (q : Q (.int a) H) (e : b = a) : Q (.int b) H := by rw [e]; exact q
section
variable {P : Program} {w : World} {K : PySem.W.Frag} {mg : Str → Option Value} {base : Heap}
theorem nn (n : Nat) : (0 : Int) ≤ (n : Int) := Int.natCast_nonneg n
theorem shl1 {n : Nat} (h : n ≤ 1024) : CShl 1 (n : Int) := shl_ok (n := 1) (by decide) (by omega)
theorem pow10 {n : Nat} (h : n ≤ 10) : 2 ^ n ≤ 1024 := Nat.pow_le_pow_right (n := 2) (by decide) h
theorem ok_need_things (T : Txt K mg) : C8.Cal P w K mg base 1 "need_things" sp_need_things [] := by
  refine calD T.d_need_things sc_need_things (fun vs H Q E ⟨n, e, _⟩ => by rw [e]; rfl) fun f cdv A outer s H vs Q E hr h => ⟨_, (pss_one (ps_if (pt_not (c_tchain bo_le bo_le pe_int (c_v 0) (C8.pe_gc rfl T.g_MOST_THINGS)))
  (pss_one ps_never)
  pss_nil)), ?_⟩
  obtain ⟨n, rfl, hn, q⟩ := h
  unfold n_need_things
  walk_at "rd"
  rw [if_pos (by omega), if_neg (by simp; omega)]
  exact q
theorem ok_full_of (T : Txt K mg) : C8.Cal P w K mg base 1 "full_of" sp_full_of [] := by
  refine calD T.d_full_of sc_full_of (fun vs H Q E ⟨n, e, _⟩ => by rw [e]; rfl) fun f cdv A outer s H vs Q E hr h => ⟨_, (pss_one (ps_ret (pe_op bo_sub (pe_op bo_shl pe_int (pe_op bo_shl pe_int (c_v 0))) pe_int))), ?_⟩
  obtain ⟨n, rfl, hn, q⟩ := h
  have h1 := pow10 hn
  refine ⟨⟨by decide, shl1 (by omega)⟩, ⟨by decide, ?_⟩, ?_⟩
  · show CShl 1 ((1 * 2 ^ n : Nat) : Int)
    exact shl1 (by omega)
  · show Q (V.int (((1 * 2 ^ (1 * 2 ^ n) : Nat) : Int) - 1)) H
    refine q_int q ?_
    have := Nat.two_pow_pos (2 ^ n)
    unfold M68.full
    rw [Nat.one_mul, Nat.one_mul]
    omega
theorem ok_need_table (T : Txt K mg) : C8.Cal P w K mg base 2 "need_table" sp_need_table [] := by
  have c_need_things := ok_need_things (P := P) (w := w) (base := base) T
  have c_full_of := ok_full_of (P := P) (w := w) (base := base) T
  refine calD T.d_need_table sc_need_table (fun vs H Q E ⟨n, a, e, _⟩ => by rw [e]; rfl) fun f cdv A outer s H vs Q E hr h => ⟨_, (pss_cons (ps_expr (C8.pe_c c_need_things hr (by decide) rfl (pa_cons (c_v 1) pa_nil)))
  (pss_one (ps_if (pt_not (c_tchain bo_le bo_le pe_int (c_v 0) (C8.pe_c c_full_of hr (by decide) rfl (pa_cons (c_v 1) pa_nil))))
  (pss_one ps_never)
  pss_nil))), ?_⟩
  obtain ⟨t, n, rfl, ht, hn, q⟩ := h
  unfold n_need_table
  walk_at "rd"
  refine ⟨n, rfl, hn, ?_⟩
  walk_at "rd"
  rw [if_pos (by omega)]
  refine ⟨n, rfl, hn, ?_⟩
  walk_at "rd"
  have := M68.le_full.mpr ht
  rw [if_neg (by simp; omega)]
  exact q
theorem ok_need_thing (T : Txt K mg) : C8.Cal P w K mg base 1 "need_thing" sp_need_thing [] := by
  refine calD T.d_need_thing sc_need_thing (fun vs H Q E ⟨n, a, e, _⟩ => by rw [e]; rfl) fun f cdv A outer s H vs Q E hr h => ⟨_, (pss_one (ps_if (pt_not (c_tchain bo_le bo_lt pe_int (c_v 1) (c_v 0)))
  (pss_one ps_never)
  pss_nil)), ?_⟩
  obtain ⟨n, a, rfl, ha, q⟩ := h
  unfold n_need_thing
  walk_at "rd"
  rw [if_pos (by omega), if_neg (by simp; omega)]
  exact q
theorem ok_column_of (T : Txt K mg) : C8.Cal P w K mg base 1 "column_of" sp_column_of [] := by
  refine calD T.d_column_of sc_column_of (fun vs H Q E ⟨n, a, e, _⟩ => by rw [e]; rfl) fun f cdv A outer s H vs Q E hr h => ⟨_, (pss_cons (ps_set (i := 2) sc_column_of.nd rfl (Or.inl rfl) (pe_op bo_shl pe_int (c_v 1)))
  (pss_cons (ps_set (i := 3) sc_column_of.nd rfl (Or.inl rfl) (pe_op bo_shl (pe_op bo_sub (pe_op bo_shl pe_int (c_v 2)) pe_int) (c_v 2)))
  (pss_cons (ps_set (i := 4) sc_column_of.nd rfl (Or.inl rfl) (pe_op bo_mul pe_int (c_v 2)))
  (pss_cons (ps_while PassesOwn.never (c_tcmp bo_lt (c_v 4) (pe_op bo_shl pe_int (c_v 0)))
  (pss_cons (c_aug (i := 3) sc_column_of.nd rfl (Or.inl rfl) (pe_op bo_shl (c_v 3) (c_v 4)) (ip_of io_or))
  (pss_one (c_aug (i := 4) sc_column_of.nd rfl (Or.inl rfl) pe_int (ip_of io_shl)))))
  (pss_one (ps_ret (c_v 3))))))), ?_⟩
  obtain ⟨n, a, rfl, ha, hn, q⟩ := h
  have h1 := pow10 hn
  have h2 : 2 ^ a ≤ 1024 := pow10 (by omega)
  unfold n_column_of
  walk_at "rd"
  have e1 : ((2 ^ 2 ^ a : Nat) : Int) - 1 = ((2 ^ 2 ^ a - 1 : Nat) : Int) := by have := Nat.two_pow_pos (2 ^ a); omega
  have e2 : (2 : Int) * ((2 ^ a : Nat) : Int) = ((2 ^ (a + 1) : Nat) : Int) := by rw [Nat.pow_succ]; omega
  have e3 : (2 ^ 2 ^ a - 1) * 2 ^ 2 ^ a = M68.bits (2 ^ (a + 1)) fun r => r.testBit a := M68.col_lo a
  have l1 : 2 ^ 2 ^ a - 1 < 2 ^ 2 ^ a := by have := Nat.two_pow_pos (2 ^ a); omega
  simp only [bShl, bSub, bMul, Int.toNat_natCast, Int.toNat_one, Nat.one_mul, e1, e2, e3]
  refine ⟨⟨by decide, shl1 (by omega)⟩, ⟨by decide, shl1 (by omega)⟩, ⟨nn _, shl_le l1⟩, mulL, ?_⟩
  refine ⟨fun m σ H' => ∃ j, σ = [some (V.int n), some (V.int a), some (V.int (2 ^ a : Nat)), some (V.int (M68.bits (2 ^ j) fun r => r.testBit a : Nat)), some (V.int (2 ^ j : Nat))] ∧ H' = H ∧ a + 1 ≤ j ∧ j ≤ n ∧ m + j = n, ⟨n - (a + 1), a + 1, rfl, rfl, by omega, by omega, by omega⟩, ?_⟩
  rintro m σ H' ⟨j, rfl, rfl, hj, hjn, hm⟩
  have hp : 2 ^ j ≤ 1024 := pow10 (by omega)
  walk_at "rd"
  try simp only [bShl, Int.toNat_natCast, Int.toNat_one, Nat.one_mul]
  refine ⟨⟨by decide, shl1 (by omega)⟩, ?_⟩
  have lt := M68.bits_lt (fun r => r.testBit a) (2 ^ j)
  by_cases hlt : j = n
  · subst hlt
    rw [if_neg (by omega)]
    exact q
  · have hp2 : 2 ^ j < 2 ^ n := Nat.pow_lt_pow_right (by decide) (by omega)
    rw [if_pos (by omega)]
    refine ⟨fun σ' H'' => σ' = [some (V.int n), some (V.int a), some (V.int (2 ^ a : Nat)), some (V.int (M68.bits (2 ^ (j + 1)) fun r => r.testBit a : Nat)), some (V.int (2 ^ (j + 1) : Nat))] ∧ H'' = H', fun σ' H'' ⟨e, e'⟩ => ⟨m - 1, by omega, j + 1, e, e', by omega, by omega, by omega⟩, ?_⟩
    refine ⟨⟨nn _, shl_le lt⟩, ⟨nn _, nn _⟩, ⟨nn _, shl_le (m := 11) (n := 2 ^ j) (k := 1) (by omega)⟩, ?_, rfl⟩
    have d := M68.dbl a j hj
    show [some (V.int n), some (V.int a), some (V.int (2 ^ a : Nat)), some (V.int (((M68.bits (2 ^ j) fun r => r.testBit a) ||| (M68.bits (2 ^ j) fun r => r.testBit a) * 2 ^ 2 ^ j : Nat) : Int)), some (V.int ((2 ^ j * 2 ^ 1 : Nat) : Int))] = _
    rw [d, ← Nat.pow_succ]
theorem hlf_one (t n a : Nat) : hlf t n a 1 = M68.half1 t n a := if_pos rfl
theorem and_lt {x y m : Nat} (h : x < 2 ^ m) : x &&& y < 2 ^ m := Nat.lt_of_le_of_lt Nat.and_le_left h
theorem ok_half_of (T : Txt K mg) : C8.Cal P w K mg base 2 "half_of" sp_half_of [] := by
  have c_column_of := ok_column_of (P := P) (w := w) (base := base) T
  have c_full_of := ok_full_of (P := P) (w := w) (base := base) T
  refine calD T.d_half_of sc_half_of (fun vs H Q E ⟨t, n, a, v, e, _⟩ => by rw [e]; rfl) fun f cdv A outer s H vs Q E hr h => ⟨_, (pss_cons (ps_set (i := 4) sc_half_of.nd rfl (Or.inl rfl) (C8.pe_c c_column_of hr (by decide) rfl (pa_cons (c_v 1) (pa_cons (c_v 2) pa_nil))))
  (pss_cons (ps_set (i := 5) sc_half_of.nd rfl (Or.inl rfl) (pe_op bo_shl pe_int (c_v 2)))
  (pss_cons (ps_if (c_tcmp bo_eq (c_v 3) pe_int)
  (pss_cons (ps_set (i := 6) sc_half_of.nd rfl (Or.inl rfl) (pe_op bo_and (c_v 0) (c_v 4)))
  (pss_one (ps_ret (pe_op bo_or (c_v 6) (pe_op bo_shr (c_v 6) (c_v 5))))))
  pss_nil)
  (pss_cons (ps_set (i := 6) sc_half_of.nd rfl (Or.inl rfl) (pe_op bo_and (c_v 0) (pe_op bo_xor (C8.pe_c c_full_of hr (by decide) rfl (pa_cons (c_v 1) pa_nil)) (c_v 4))))
  (pss_one (ps_ret (pe_op bo_or (c_v 6) (pe_op bo_shl (c_v 6) (c_v 5))))))))), ?_⟩
  obtain ⟨t, n, a, v, rfl, ht, ha, hn, q⟩ := h
  have h1 := pow10 hn
  have h2 : 2 ^ a ≤ 1024 := pow10 (by omega)
  unfold n_half_of
  walk_at "rd"
  refine ⟨n, a, rfl, ha, hn, ?_⟩
  walk_at "rd"
  try simp only [bShl, bAnd, bOr, bShr, bEq, bXor, Int.toNat_natCast, Int.toNat_one, Nat.one_mul]
  refine ⟨⟨by decide, shl1 (by omega)⟩, rfl, ?_⟩
  by_cases hv : v = 1
  · subst hv
    rw [if_pos (by simp)]
    refine ⟨⟨nn _, nn _⟩, ⟨nn _, nn _⟩, ⟨nn _, nn _⟩, ?_⟩
    rw [hlf_one] at q
    exact q
  · rw [if_neg (by simp; omega)]
    refine ⟨n, rfl, hn, ?_⟩
    refine ⟨⟨nn _, nn _⟩, ⟨nn _, nn _⟩, ⟨nn _, shl_le (and_lt ht)⟩, ⟨nn _, nn _⟩, ?_⟩
    unfold hlf at q
    rw [if_neg hv] at q
    exact q
theorem fm_filter {α : Type} (p : Nat → Bool) (g : Nat → α) : ∀ l : List Nat, l.filterMap (fun i => if p i = true then some (g i) else none) = (l.filter p).map g
  | [] => rfl
  | i :: l => by
    have ih := fm_filter p g l
    cases h : p i with
    | true => rw [List.filterMap_cons, List.filter_cons, h]; simp [ih]
    | false => rw [List.filterMap_cons, List.filter_cons, h]; simp [ih]
theorem small_le {n : Nat} (h : n ≤ 100000) : n ≤ sizeLine := Nat.le_trans h (by decide)
theorem ok_support_of (T : Txt K mg) : C8.Cal P w K mg base 3 "support_of" sp_support_of [] := by
  have c_half_of := ok_half_of (P := P) (w := w) (base := base) T
  refine calD T.d_support_of sc_support_of (fun vs H Q E ⟨t, n, e, _⟩ => by rw [e]; rfl) fun f cdv A outer s H vs Q E hr h => ⟨_, (pss_one (ps_ret (c_new (pl_lc (own := [("at", 2)]) (g := (gName 2)) rfl sc_support_of.nd (i_range1 rfl T.n_range (pa_cons (c_v 1) pa_nil)) (blkOk_by (N := n_support_of) (sc := C8.fnScope s_support_of) (by decide +kernel)) (fun _ _ _ _ _ => (pg_name (i := 2) sc_support_of.nd rfl (Or.inl rfl))) (fun _ _ _ _ _ => (pts_one (c_tcmp bo_ne (C8.pe_c c_half_of hr (by decide) rfl (pa_cons (c_v 0) (pa_cons (c_v 1) (pa_cons (c_v 2) (pa_cons pe_int pa_nil))))) (C8.pe_c c_half_of hr (by decide) rfl (pa_cons (c_v 0) (pa_cons (c_v 1) (pa_cons (c_v 2) (pa_cons pe_int pa_nil)))))))) (fun _ _ _ _ _ => (c_v 2)))))), ?_⟩
  obtain ⟨t, n, rfl, ht, hn, pl, q⟩ := h
  unfold n_support_of
  walk_at "rd"
  refine ⟨pl, ?_⟩
  walk_at "rd"
  refine ⟨⟨by omega, by omega⟩, Ex.rfl', pl, small_le (by omega), fun _ _ => trivial, fun i => if decide (M68.half0 t n i ≠ M68.half1 t n i) = true then some (VN i) else none, ?_, ?_⟩
  · rintro i x H2 H3 hi e2 p2 ⟨rfl, rfl⟩
    walk_at "rd"
    refine ⟨trivial, t, n, i, 0, rfl, ht, hi, hn, ?_⟩
    refine ⟨t, n, i, 1, rfl, ht, hi, hn, rfl, ?_⟩
    have e1 : hlf t n i 0 = M68.half0 t n i := rfl
    have e2 : hlf t n i 1 = M68.half1 t n i := rfl
    simp only [e1, e2, V.int.injEq, Int.natCast_inj, ne_eq]
    by_cases z : M68.half0 t n i = M68.half1 t n i
    · simp only [z]
      exact ⟨⟨Ex.rfl', p2⟩, rfl⟩
    · simp only [z]
      exact ⟨⟨Ex.rfl', p2⟩, rfl⟩
  · intro D hD _
    rw [fm_filter]
    exact q D hD
theorem ok_column (T : Txt K mg) : C8.Cal P w K mg base 2 "column" sp_column_of [] := by
  have c_need_things := ok_need_things (P := P) (w := w) (base := base) T
  have c_need_thing := ok_need_thing (P := P) (w := w) (base := base) T
  have c_column_of := ok_column_of (P := P) (w := w) (base := base) T
  refine calD T.d_column sc_column (fun vs H Q E ⟨n, a, e, _⟩ => by rw [e]; rfl) fun f cdv A outer s H vs Q E hr h => ⟨_, (pss_cons (ps_expr (C8.pe_c c_need_things hr (by decide) rfl (pa_cons (c_v 0) pa_nil)))
  (pss_cons (ps_expr (C8.pe_c c_need_thing hr (by decide) rfl (pa_cons (c_v 0) (pa_cons (c_v 1) pa_nil))))
  (pss_one (ps_ret (C8.pe_c c_column_of hr (by decide) rfl (pa_cons (c_v 0) (pa_cons (c_v 1) pa_nil))))))), ?_⟩
  obtain ⟨n, a, rfl, ha, hn, q⟩ := h
  unfold n_column
  walk_at "rd"
  exact ⟨n, rfl, hn, n, a, rfl, ha, n, a, rfl, ha, hn, q⟩
theorem fn_half (T : Txt K mg) {f : Addr} {fd : FuncData} (F : C8.Fun K "half" "half" s_half f fd) : FnOk P w K mg base C8.CX0 3 f fd ["table", "things", "at", "value"] sp_half := by
  have c_need_table := ok_need_table (P := P) (w := w) (base := base) T
  have c_need_thing := ok_need_thing (P := P) (w := w) (base := base) T
  have c_half_of := ok_half_of (P := P) (w := w) (base := base) T
  refine C8.fn0 F sc_half (fun vs H Q E ⟨t, n, a, v, e, _⟩ => by rw [e]; rfl) fun cdv A outer s H vs Q E hr h => ⟨_, (pss_cons (ps_expr (C8.pe_c c_need_table hr (by decide) rfl (pa_cons (c_v 0) (pa_cons (c_v 1) pa_nil))))
  (pss_cons (ps_expr (C8.pe_c c_need_thing hr (by decide) rfl (pa_cons (c_v 1) (pa_cons (c_v 2) pa_nil))))
  (pss_one (ps_ret (C8.pe_c c_half_of hr (by decide) rfl (pa_cons (c_v 0) (pa_cons (c_v 1) (pa_cons (c_v 2) (pa_cons (c_v 3) pa_nil))))))))), ?_⟩
  obtain ⟨t, n, a, v, rfl, ht, ha, hn, q⟩ := h
  unfold n_half
  walk_at "rd"
  exact ⟨t, n, rfl, ht, hn, n, a, rfl, ha, t, n, a, v, rfl, ht, ha, hn, q⟩
theorem ok_hung_on (T : Txt K mg) : C8.Cal P w K mg base 4 "hung_on" sp_support_of [] := by
  have c_need_table := ok_need_table (P := P) (w := w) (base := base) T
  have c_support_of := ok_support_of (P := P) (w := w) (base := base) T
  refine calD T.d_hung_on sc_hung_on (fun vs H Q E ⟨t, n, e, _⟩ => by rw [e]; rfl) fun f cdv A outer s H vs Q E hr h => ⟨_, (pss_cons (ps_expr (C8.pe_c c_need_table hr (by decide) rfl (pa_cons (c_v 0) (pa_cons (c_v 1) pa_nil))))
  (pss_one (ps_ret (C8.pe_c c_support_of hr (by decide) rfl (pa_cons (c_v 0) (pa_cons (c_v 1) pa_nil)))))), ?_⟩
  obtain ⟨t, n, rfl, ht, hn, pl, q⟩ := h
  unfold n_hung_on
  walk_at "rd"
  exact ⟨t, n, rfl, ht, hn, t, n, rfl, ht, hn, pl, q⟩
theorem ok_turned (T : Txt K mg) : C8.Cal P w K mg base 3 "turned" sp_turned [] := by
  have c_need_table := ok_need_table (P := P) (w := w) (base := base) T
  have c_need_thing := ok_need_thing (P := P) (w := w) (base := base) T
  have c_column_of := ok_column_of (P := P) (w := w) (base := base) T
  have c_full_of := ok_full_of (P := P) (w := w) (base := base) T
  refine calD T.d_turned sc_turned (fun vs H Q E ⟨t, n, a, e, _⟩ => by rw [e]; rfl) fun f cdv A outer s H vs Q E hr h => ⟨_, (pss_cons (ps_expr (C8.pe_c c_need_table hr (by decide) rfl (pa_cons (c_v 0) (pa_cons (c_v 1) pa_nil))))
  (pss_cons (ps_expr (C8.pe_c c_need_thing hr (by decide) rfl (pa_cons (c_v 1) (pa_cons (c_v 2) pa_nil))))
  (pss_cons (ps_set (i := 3) sc_turned.nd rfl (Or.inl rfl) (C8.pe_c c_column_of hr (by decide) rfl (pa_cons (c_v 1) (pa_cons (c_v 2) pa_nil))))
  (pss_cons (ps_set (i := 4) sc_turned.nd rfl (Or.inl rfl) (pe_op bo_shl pe_int (c_v 2)))
  (pss_one (ps_ret (pe_op bo_or (pe_op bo_shr (pe_op bo_and (c_v 0) (c_v 3)) (c_v 4)) (pe_op bo_shl (pe_op bo_and (c_v 0) (pe_op bo_xor (C8.pe_c c_full_of hr (by decide) rfl (pa_cons (c_v 1) pa_nil)) (c_v 3))) (c_v 4))))))))), ?_⟩
  obtain ⟨t, n, a, rfl, ht, ha, hn, q⟩ := h
  have h2 : 2 ^ a ≤ 1024 := pow10 (by omega)
  have h1 := pow10 hn
  unfold n_turned
  walk_at "rd"
  refine ⟨t, n, rfl, ht, hn, n, a, rfl, ha, n, a, rfl, ha, hn, ?_⟩
  walk_at "rd"
  try simp only [bShl, bAnd, bOr, bShr, bEq, bXor, Int.toNat_natCast, Int.toNat_one, Nat.one_mul]
  refine ⟨⟨by decide, shl1 (by omega)⟩, ⟨nn _, nn _⟩, ⟨nn _, nn _⟩, n, rfl, hn, ?_⟩
  refine ⟨⟨nn _, nn _⟩, ⟨nn _, nn _⟩, ⟨nn _, shl_le (and_lt ht)⟩, ⟨nn _, nn _⟩, ?_⟩
  exact q
theorem fm_map {α : Type} {f : Nat → Option α} {g : Nat → α} {n : Nat} (h : ∀ k, k < n → f k = some (g k)) : (List.range n).filterMap f = (List.range n).map g := by
  induction n with
  | zero => rfl
  | succ n ih =>
    rw [range_fm_succ, ih (fun k hk => h k (by omega)), h n (by omega), List.range_succ, List.map_append]; rfl
theorem spread_sum : ∀ (l : List Nat) (r : Nat), ((List.range l.length).map fun k => (((r / 2 ^ k % 2) * 2 ^ (l.getD k 0) : Nat) : Int)).sum = ((M68.spread l r : Nat) : Int)
  | [], _ => rfl
  | a :: l, r => by
    have ih := spread_sum l (r / 2)
    rw [List.length_cons, List.range_succ_eq_map, List.map_cons, List.sum_cons, List.map_map]
    have e : ((fun k => (((r / 2 ^ k % 2) * 2 ^ ((a :: l).getD k 0) : Nat) : Int)) ∘ Nat.succ) = fun k => ((((r / 2) / 2 ^ k % 2) * 2 ^ (l.getD k 0) : Nat) : Int) := by
      funext k
      simp only [Function.comp, Nat.succ_eq_add_one, List.getD_cons_succ]
      rw [Nat.pow_succ, Nat.mul_comm (2 ^ k) 2, ← Nat.div_div_eq_div_mul]
    rw [e, ih, M68.spread]
    simp
def sp_narrowed : Sp := fun vs H Q _ => ∃ (t n : Nat) (p : Addr) (l : List Nat), vs = [.int t, .int n, .ref p] ∧ t < 2 ^ 2 ^ n ∧ n ≤ 10 ∧ SqL K H p (l.map VN) ∧ l.length ≤ 10 ∧ (∀ a ∈ l, a < n) ∧ Plain H ∧ Q (.int (M68.nar t l : Nat)) H
theorem ok_narrowed (T : Txt K mg) : C8.Cal P w K mg base 3 "narrowed" (sp_narrowed (K := K)) [] := by
  have c_need_table := ok_need_table (P := P) (w := w) (base := base) T
  have c_need_thing := ok_need_thing (P := P) (w := w) (base := base) T
  refine calD T.d_narrowed sc_narrowed (fun vs H Q E ⟨t, n, a, l, e, _⟩ => by rw [e]; rfl) fun f cdv A outer s H vs Q E hr h => ⟨_, (pss_cons (ps_expr (C8.pe_c c_need_table hr (by decide) rfl (pa_cons (c_v 0) (pa_cons (c_v 1) pa_nil))))
  (pss_cons (c_for PassesOwn.never rfl (ki_list (K := K) (c_v 2)) (pg_name (i := 3) sc_narrowed.nd rfl (Or.inl rfl))
  (pss_one (ps_expr (C8.pe_c c_need_thing hr (by decide) rfl (pa_cons (c_v 1) (pa_cons (c_v 3) pa_nil))))))
  (pss_cons (ps_set (i := 4) sc_narrowed.nd rfl (Or.inl rfl) pe_int)
  (pss_cons (c_for PassesOwn.never rfl (i_range1 rfl T.n_range (pa_cons (pe_op bo_shl pe_int (pe_callB (k_len (K := K)) rfl T.n_len PySem.boot_len (pa_cons (c_v 2) pa_nil))) pa_nil)) (pg_name (i := 5) sc_narrowed.nd rfl (Or.inr rfl))
  (pss_cons (ps_set (i := 6) sc_narrowed.nd rfl (Or.inl rfl) (c_sumS rfl (pl_lc (own := [("k", 7), ("at", 3)]) (g := (gP2 K 7 3)) rfl sc_narrowed.nd (ki_enum (K := K) rfl T.n_enumerate (pa_cons (c_v 2) pa_nil)) (blkOk_by (N := n_narrowed) (sc := C8.fnScope s_narrowed) (by decide +kernel)) (fun _ _ _ _ _ => (k_p2 (K := K) (i := 7) (j := 3) rfl sc_narrowed.nd rfl rfl (Or.inl rfl) (Or.inl rfl))) (fun _ _ _ _ _ => pts_nil) (fun _ _ _ _ _ => (pe_op bo_shl (pe_op bo_and (pe_op bo_shr (c_v 5) (c_v 7)) pe_int) (c_v 3)))) rfl T.n_sum))
  (pss_one (c_aug (i := 4) sc_narrowed.nd rfl (Or.inl rfl) (pe_op bo_shl (pe_op bo_and (pe_op bo_shr (c_v 0) (c_v 6)) pe_int) (c_v 5)) (ip_of io_or)))))
  (pss_one (ps_ret (c_v 4))))))), ?_⟩
  obtain ⟨t, n, p, l, rfl, ht, hn, hs, hl, hb, pl, q⟩ := h
  unfold n_narrowed
  walk_at "rd"
  refine ⟨t, n, rfl, ht, hn, ?_⟩
  have hm : ∀ {i x}, (l.map VN)[i]? = some x → ∃ a, l[i]? = some a ∧ x = VN a := fun {i x} e => by
    rw [List.getElem?_map, Option.map_eq_some_iff] at e
    obtain ⟨a, h1, h2⟩ := e
    exact ⟨a, h1, h2.symm⟩
  have hlm : (l.map VN).length = l.length := List.length_map _
  have hp : 2 ^ l.length ≤ 1024 := pow10 hl
  have hp0 : (0 : Int) ≤ ((2 ^ l.length : Nat) : Int) := nn _
  unfold wFor
  walk_at "rd"
  refine ⟨_, hs, fun i σ H' => (∃ o, σ = [some (V.int t), some (V.int n), some (V.ref p), o, none, none, none, none]) ∧ H' = H, ⟨⟨_, rfl⟩, rfl⟩, fun i σ H' _ ⟨_, e⟩ => by rw [e]; exact hs, ?_, ?_⟩
  · rintro i x σ H1 H2 hi ⟨⟨o, rfl⟩, rfl⟩ ⟨rfl, hx⟩
    obtain ⟨a, ha, rfl⟩ := hm hx
    walk_at "rd"
    exact ⟨n, a, rfl, hb a (List.mem_of_getElem? ha), ⟨_, rfl⟩, rfl⟩
  rintro σ H1 ⟨⟨o, rfl⟩, rfl⟩
  walk_at "rd"
  refine len_sql hs ?_
  rw [hlm]
  walk_at "rd"
  refine ⟨⟨by decide, shl1 (by omega)⟩, ⟨by omega, by omega⟩, ?_⟩
  refine ⟨fun i σ H' => (∃ o o5 o6, σ = [some (V.int t), some (V.int n), some (V.ref p), o, some (V.int (M68.bits i fun r => t.testBit (M68.spread l r) : Nat)), o5, o6, none]) ∧ H' = H1, ⟨⟨_, _, _, rfl⟩, rfl⟩, fun _ _ _ _ _ => trivial, ?_, ?_⟩
  · rintro i x σ H2 H3 hi ⟨⟨o, o5, o6, rfl⟩, rfl⟩ ⟨rfl, rfl⟩
    unfold wLc
    walk_at "rd"
    refine ⟨pl, _, hs, Ex.rfl', pl, small_le (by rw [hlm]; omega), fun H4 e => e.sql hs, fun k => (l[k]?).map fun a => .int (((i / 2 ^ k % 2) * 2 ^ a : Nat) : Int), ?_, ?_⟩
    · rintro k x H4 H5 hk e4 p4 hy
      refine ypair_go hy fun u v T hu hv hT _ => ?_
      cases hu
      obtain ⟨a, ha, rfl⟩ := hm hv
      unfold VN
      walk_at "rd"
      rw [if_pos trivial, Nat.and_one_is_mod]
      exact ⟨trivial, ⟨nn _, nn _⟩, ⟨nn _, by decide⟩, ⟨nn _, shl_le (m := 1) (by omega) (by omega) (by have := hb a (List.mem_of_getElem? ha); omega)⟩, ⟨Ex.new hT, p4.upd⟩, by rw [ha]; rfl⟩
    · rw [hlm, fm_map (g := fun k => V.int (((i / 2 ^ k % 2) * 2 ^ (l.getD k 0) : Nat) : Int)) (fun k hk => by rw [List.getElem?_eq_getElem hk, List.getD_eq_getElem?_getD, List.getElem?_eq_getElem hk]; rfl)]
      refine ⟨(List.range l.length).map fun k => (((i / 2 ^ k % 2) * 2 ^ (l.getD k 0) : Nat) : Int), by rw [List.map_map]; rfl, ?_⟩
      rw [spread_sum]
      walk_at "rd"
      have hw : M68.spread l i < 2 ^ 100000 ∨ True := .inr trivial
      rw [Nat.and_one_is_mod, M68.bit_val, M68.bits_step (fun r => t.testBit (M68.spread l r))]
      exact ⟨⟨nn _, nn _⟩, ⟨nn _, by decide⟩, ⟨nn _, shl_le (m := 1) (by split <;> decide) (by omega) (by omega)⟩, ⟨nn _, nn _⟩, ⟨_, _, _, rfl⟩, trivial⟩
  · rintro σ H2 ⟨⟨o, o5, o6, rfl⟩, rfl⟩
    walk_at "rd"
    exact q
/-- the text of a table -/
def sgn (t r : Nat) : Nat := if t.testBit r = true then 49 else 48
def txt (t n : Nat) : Str := ⟨((List.range (2 ^ n)).map fun i => sgn t (2 ^ n - 1 - i)).toArray⟩
theorem join_ones : ∀ (l : List Nat), (Str.join (Str.ofString "") (l.map fun c => (⟨#[c]⟩ : Str))) = ⟨l.toArray⟩
  | [] => rfl
  | [c] => rfl
  | c :: d :: l => by
    have ih := join_ones (d :: l)
    rw [List.map_cons, List.map_cons]
    rw [List.map_cons] at ih
    show (⟨#[c]⟩ : Str) ++ Str.ofString "" ++ Str.join (Str.ofString "") ((⟨#[d]⟩ : Str) :: l.map fun c => (⟨#[c]⟩ : Str)) = _
    rw [ih]
    show (⟨(#[c] ++ #[]) ++ (d :: l).toArray⟩ : Str) = _
    simp
theorem sum_ones : ∀ m : Nat, ((List.range m).map fun _ => 1).sum = m
  | 0 => rfl
  | m + 1 => by rw [List.range_succ, List.map_append, List.sum_append, sum_ones m]; rfl
def sp_table_text : Sp := fun vs H Q _ => ∃ t n : Nat, vs = [.int t, .int n] ∧ t < 2 ^ 2 ^ n ∧ n ≤ 10 ∧ Plain H ∧ Q (.str (txt t n)) H
theorem ok_table_text (T : Txt K mg) : C8.Cal P w K mg base 3 "table_text" sp_table_text [] := by
  have c_need_table := ok_need_table (P := P) (w := w) (base := base) T
  refine calD T.d_table_text sc_table_text (fun vs H Q E ⟨t, n, e, _⟩ => by rw [e]; rfl) fun f cdv A outer s H vs Q E hr h => ⟨_, (pss_cons (ps_expr (C8.pe_c c_need_table hr (by decide) rfl (pa_cons (c_v 0) (pa_cons (c_v 1) pa_nil))))
  (pss_one (ps_ret (c_joinL pe_str (pl_lc (own := [("row", 2)]) (g := (gName 2)) rfl sc_table_text.nd (i_revRng rfl T.n_reversed rfl T.n_range (pe_op bo_shl pe_int (c_v 1))) (blkOk_by (N := n_table_text) (sc := C8.fnScope s_table_text) (by decide +kernel)) (fun _ _ _ _ _ => (pg_name (i := 2) sc_table_text.nd rfl (Or.inl rfl))) (fun _ _ _ _ _ => pts_nil) (fun _ _ _ _ _ => (pe_callTy cr_str rfl T.n_str PyProof.Rows.boot_str (pa_cons (pe_op bo_and (pe_op bo_shr (c_v 0) (c_v 2)) pe_int) pa_nil)))))))), ?_⟩
  obtain ⟨t, n, rfl, ht, hn, pl, q⟩ := h
  have h1 := pow10 hn
  have h0 : (0 : Int) ≤ ((2 ^ n : Nat) : Int) := nn _
  unfold n_table_text
  walk_at "rd"
  refine ⟨t, n, rfl, ht, hn, ?_⟩
  walk_at "rd"
  unfold cJoin wLc wRevRng
  walk_at "rd"
  refine ⟨pl, ⟨by decide, shl1 (by omega)⟩, ⟨by omega, by omega⟩, Ex.rfl', pl, small_le (by omega), fun _ _ => trivial, fun i => some (.str ⟨#[sgn t (2 ^ n - 1 - i)]⟩), ?_, ?_⟩
  · rintro i x H2 H3 hi e2 p2 ⟨rfl, rfl⟩
    walk_at "rd"
    rw [if_pos trivial, Nat.and_one_is_mod, M68.bit_val]
    refine ⟨trivial, ⟨nn _, nn _⟩, ⟨nn _, by decide⟩, ?_⟩
    unfold sgn
    split
    · exact ⟨by decide, ⟨Ex.rfl', p2⟩, by decide⟩
    · exact ⟨by decide, ⟨Ex.rfl', p2⟩, by decide⟩
  · rw [fm_map (g := fun i => V.str ⟨#[sgn t (2 ^ n - 1 - i)]⟩) fun k _ => rfl]
    refine ⟨((List.range (2 ^ n)).map fun i => sgn t (2 ^ n - 1 - i)).map fun c => (⟨#[c]⟩ : Str), by rw [List.map_map, List.map_map]; rfl, ?_, Ex.rfl', pl, ?_⟩
    · rw [List.map_map, List.map_map]
      have e : (List.map (((fun x => x.length) ∘ fun c => (⟨#[c]⟩ : Str)) ∘ fun i => sgn t (2 ^ n - 1 - i)) (List.range (2 ^ n))).sum = 2 ^ n := by
        have e2 : (((fun x : Str => x.length) ∘ fun c => (⟨#[c]⟩ : Str)) ∘ fun i => sgn t (2 ^ n - 1 - i)) = fun _ => 1 := rfl
        rw [e2]; exact sum_ones _
      rw [e]
      show 2 ^ n + _ * 0 ≤ _
      omega
    · have e : ∀ l : List Nat, Str.join ⟨#[]⟩ (l.map fun c => (⟨#[c]⟩ : Str)) = ⟨l.toArray⟩ := join_ones
      show Q (V.str (Str.join ⟨#[]⟩ _)) H
      rw [e]
      exact q
def szf : Nat → Option (Key × V) := fun i => some (.inl ((2 ^ i : Nat) : Int), .int (i : Int))
theorem sizes_at : ∀ n : Nat, n ≤ 10 → valV (dcOf szf 11) (Sum.inl ((2 ^ n : Nat) : Int) : Key) = some (.int (n : Int))
  | 0, _ => by decide
  | 1, _ => by decide
  | 2, _ => by decide
  | 3, _ => by decide
  | 4, _ => by decide
  | 5, _ => by decide
  | 6, _ => by decide
  | 7, _ => by decide
  | 8, _ => by decide
  | 9, _ => by decide
  | 10, _ => by decide
  | n + 11, h => by omega
theorem txt_sign {t n c : Nat} (h : c ∈ (txt t n).cps.toList) : c = 48 ∨ c = 49 := by
  have h' : c ∈ (List.range (2 ^ n)).map fun i => sgn t (2 ^ n - 1 - i) := by simpa [txt] using h
  obtain ⟨i, _, rfl⟩ := List.mem_map.mp h'
  unfold sgn; split
  · exact .inr rfl
  · exact .inl rfl
theorem num_fold (t : Nat) : ∀ (m a : Nat), ((List.range m).map fun i => sgn t (m - 1 - i)).foldl (fun a c => a * 2 + (c - 48)) a = a * 2 ^ m + t % 2 ^ m
  | 0, a => by simp [Nat.mod_one]
  | m + 1, a => by
    have ih := num_fold t m (a * 2 + (sgn t m - 48))
    rw [List.range_succ_eq_map, List.map_cons, List.foldl_cons, List.map_map]
    have e : ((fun i => sgn t (m + 1 - 1 - i)) ∘ Nat.succ) = fun i => sgn t (m - 1 - i) := by
      funext i; simp only [Function.comp]; congr 1; omega
    rw [e]
    have e0 : m + 1 - 1 - 0 = m := by omega
    rw [e0, ih]
    have b : sgn t m - 48 = t / 2 ^ m % 2 := by rw [M68.bit_val]; unfold sgn; split <;> rfl
    rw [b, Nat.mod_pow_succ, Nat.pow_succ, Nat.add_mul, Nat.mul_assoc, Nat.mul_comm 2 (2 ^ m)]
    have := Nat.mul_comm (2 ^ m) (t / 2 ^ m % 2)
    omega
theorem num_txt {t n : Nat} (ht : t < 2 ^ 2 ^ n) : B2.num2 (txt t n).cps.toList = t := by
  have := num_fold t (2 ^ n) 0
  rw [Nat.zero_mul, Nat.zero_add, Nat.mod_eq_of_lt ht] at this
  exact this
def sp_read_table : Sp := fun vs H Q _ => ∃ t n : Nat, vs = [.str (txt t n)] ∧ t < 2 ^ 2 ^ n ∧ n ≤ 10 ∧ Plain H ∧ ∀ H' p, Ex H H' → Plain H' → H' p = some (.tup [.int t, .int n]) → Q (.ref p) H'
theorem ok_read_table (T : Txt K mg) : C8.Cal P w K mg base 1 "read_table" sp_read_table [] := by
  refine calD T.d_read_table sc_read_table (fun vs H Q E ⟨t, n, e, _⟩ => by rw [e]; rfl) fun f cdv A outer s H vs Q E hr h => ⟨_, (pss_cons (c_setDc (i := 1) (own := [("things", 2)]) (hsw := swD_true rfl rfl rfl (by decide +kernel)) (hy := rfl) (hyl := rfl) (g := (gName 2)) rfl sc_read_table.nd (i_range1 rfl T.n_range (pa_cons (pe_op bo_add (C8.pe_gc rfl T.g_MOST_THINGS) pe_int) pa_nil)) (blkOk_by (N := n_read_table) (sc := C8.fnScope s_read_table) (by decide +kernel)) (fun _ _ _ _ _ => (pg_name (i := 2) sc_read_table.nd rfl (Or.inl rfl))) (fun _ _ _ _ _ => pts_nil) (fun _ _ _ _ _ => (pe_op bo_shl pe_int (c_v 2))) (fun _ _ _ _ _ => (c_v 2)))
  (pss_cons (ps_if (PW.pt (pw_or (c_tniD (hu_of hr) (pe_callB (k_len (K := K)) rfl T.n_len PySem.boot_len (pa_cons (c_v 0) pa_nil)) (c_v 1)) (pw_or1 (pt_not (c_test (c_allL rfl (pl_lc (own := [("sign", 3)]) (g := (gName 3)) rfl sc_read_table.nd (i_str (c_v 0)) (blkOk_by (N := n_read_table) (sc := C8.fnScope s_read_table) (by decide +kernel)) (fun _ _ _ _ _ => (pg_name (i := 3) sc_read_table.nd rfl (Or.inl rfl))) (fun _ _ _ _ _ => pts_nil) (fun _ _ _ _ _ => (c_cmp bo_inS (c_v 3) pe_str (by rfl)))) rfl T.n_all))))))
  (pss_one ps_never)
  pss_nil)
  (pss_one (ps_ret (pe_tup (pa_cons (pe_callTy (cr_int2 T.z_dig) rfl T.n_int PyProof.Rows.boot_int (pa_cons (c_v 0) (pa_cons pe_int pa_nil))) (pa_cons (c_dget (hu_of hr) (c_v 1) (pe_callB (k_len (K := K)) rfl T.n_len PySem.boot_len (pa_cons (c_v 0) pa_nil)) (fun _ _ => rfl)) pa_nil))))))), ?_⟩
  obtain ⟨t, n, rfl, ht, hn, pl, q⟩ := h
  have h1 := pow10 hn
  have h0 : (0 : Int) ≤ ((2 ^ n : Nat) : Int) := nn _
  unfold n_read_table cSetD wDc
  walk_at "rd"
  refine ⟨pl, ⟨by decide, by decide⟩, Ex.rfl', pl, by decide, fun _ _ => trivial, szf, ?_, ?_⟩
  · rintro i x H2 H3 hi e2 p2 ⟨rfl, rfl⟩
    walk_at "rd"
    rw [if_pos trivial]
    have hi' : i < 11 := hi
    exact ⟨trivial, ⟨by decide, shl1 (by omega)⟩, ⟨Ex.rfl', p2⟩, .inl ((2 ^ i : Nat) : Int), rfl, rfl⟩
  · intro D hD
    have hg : DGet (upd H D (.dK (dcOf szf 11))) D (.int ((2 ^ n : Nat) : Int)) (some (.int (n : Int))) := by
      rw [← sizes_at n hn]; exact DGet.k (k := Sum.inl ((2 ^ n : Nat) : Int)) upd_same
    have hlen : (txt t n).length = 2 ^ n := by
      show ((List.range (2 ^ n)).map _).toArray.size = _
      simp
    unfold cDIn cDGet wStr wLc
    walk_at "rd"
    refine ⟨small_le (by omega), some (.int (n : Int)), by rw [hlen]; exact hg, ?_⟩
    walk_at "rd"
    refine ⟨pl.upd, Ex.rfl', pl.upd, small_le (by have e : (txt t n).cps.size = 2 ^ n := hlen; omega), fun _ _ => trivial, fun i => some (.bl true), ?_, ?_⟩
    · rintro i x H2 H3 hi e2 p2 ⟨rfl, c, hc, rfl⟩
      walk_at "rd"
      rw [if_pos trivial]
      refine ⟨trivial, c, rfl, ⟨Ex.rfl', p2⟩, ?_⟩
      have : c = 48 ∨ c = 49 := txt_sign (List.mem_of_getElem? (by rw [Array.getElem?_toList]; exact hc))
      rcases this with rfl | rfl <;> rfl
    · rw [fm_map (g := fun _ => V.bl true) fun _ _ => rfl]
      refine ⟨(List.range (txt t n).cps.size).map fun _ => true, by rw [List.map_map]; rfl, ?_⟩
      have e : ((List.range (txt t n).cps.size).map fun _ => true).all id = true := by rw [List.all_map]; exact List.all_eq_true.mpr fun _ _ => rfl
      rw [e]
      walk_at "rd"
      rw [if_neg (by decide)]
      refine ⟨rfl, fun z => ?_, fun c => txt_sign, ?_⟩
      · have : (txt t n).cps.toList.length = 2 ^ n := by rw [Array.length_toList]; exact hlen
        rw [z] at this
        have p0 := Nat.two_pow_pos n
        rw [List.length_nil] at this; omega
      rw [num_txt ht]
      refine ⟨small_le (by omega), .int (n : Int), by rw [hlen]; exact hg, by decide, fun p hp => ?_⟩
      exact q _ p ((Ex.new hD).tr (Ex.new hp)) (pl.upd.upd) upd_same
def sp_law_bit : Sp := fun vs H Q _ => ∃ t a : Nat, vs = [.int t, .int a] ∧ a ≤ 1024 ∧ Q (.int (if t.testBit a = true then 1 else 0 : Nat)) H
theorem ok_law_bit (T : Txt K mg) : C8.Cal P w K mg base 1 "_law_bit" sp_law_bit [] := by
  refine calD T.d__law_bit sc__law_bit (fun vs H Q E ⟨t, n, e, _⟩ => by rw [e]; rfl) fun f cdv A outer s H vs Q E hr h => ⟨_, (pss_one (ps_ret (pe_op bo_mod (pe_op bo_div (c_v 0) (pe_op bo_shl pe_int (c_v 1))) pe_int))), ?_⟩
  obtain ⟨t, a, rfl, ha, q⟩ := h
  unfold n__law_bit
  walk_at "rd"
  have l : (2 : Nat) ^ a < 2 ^ (a + 1) := Nat.pow_lt_pow_right (by decide) (by omega)
  have p := Nat.two_pow_pos a
  refine ⟨⟨by decide, shl1 ha⟩, wide_div (b := a + 1) (by exact_mod_cast p) (by rw [Int.natAbs_natCast]; exact l) (by omega) (by omega), by decide, ?_⟩
  refine q_int q ?_
  rw [← M68.bit_val]
  simp
/-- the box: what is drawn from -/
def BoxV (l : Addr) (i r sd : Nat) : List V := [.ref l, .int i, .int r, .int sd]
def sp_law_box : Sp := fun vs H Q _ => ∃ (p : Addr) (ns : List Int), vs = [.ref p] ∧ SqL K H p (ns.map V.int) ∧ ns.length ≤ 63 ∧ Plain H ∧ ∀ (l b : Addr) (ms : List Int) (sd : Nat) (H' : Hp), Ex H H' → Plain H' → l ≠ b → sd < 2147483647 → H' l = some (.lst (ms.map V.int)) → ms.length ≤ 63 → H' b = some (.lst (BoxV l 0 0 sd)) → Q (.ref b) H'
theorem ok_law_box (T : Txt K mg) : C8.Cal P w K mg base 1 "_law_box" (sp_law_box (K := K)) [] := by
  refine calD T.d__law_box sc__law_box (fun vs H Q E ⟨t, n, e, _⟩ => by rw [e]; rfl) fun f cdv A outer s H vs Q E hr h => ⟨_, (pss_cons (ps_set (i := 1) sc__law_box.nd rfl (Or.inl rfl) pe_int)
  (pss_cons (c_for PassesOwn.never rfl (ki_list (K := K) (pe_slice (k_slL (K := K)) (c_v 0) po_none (po_some pe_int))) (pg_name (i := 2) sc__law_box.nd rfl (Or.inl rfl))
  (pss_one (ps_set (i := 1) sc__law_box.nd rfl (Or.inl rfl) (pe_op bo_mod (pe_op bo_add (pe_op bo_add (pe_op bo_mul (c_v 1) pe_int) (pe_op bo_mod (c_v 2) pe_int)) pe_int) pe_int))))
  (pss_one (ps_ret (pe_lst (pa_cons (pe_callTy (k_list (K := K)) rfl T.n_list PyProof.Rows.boot_list (pa_cons (pe_slice (k_slL (K := K)) (c_v 0) po_none (po_some pe_int)) pa_nil)) (pa_cons pe_int (pa_cons pe_int (pa_cons (c_v 1) pa_nil))))))))), ?_⟩
  obtain ⟨p, ns, rfl, hs, hl, pl, q⟩ := h
  unfold n__law_box wFor
  walk_at "rd"
  have hcut : ∀ lo hi, ∃ ms : List Int, cutV (ns.map V.int) lo hi = ms.map V.int ∧ ms.length ≤ 63 := fun lo hi => by
    refine ⟨(ns.drop (HT.sIx (ns.map V.int).length 0 lo)).take (HT.sIx (ns.map V.int).length (ns.map V.int).length hi - HT.sIx (ns.map V.int).length 0 lo), ?_, ?_⟩
    · unfold cutV; rw [List.map_take, List.map_drop]
    · rw [List.length_take, List.length_drop]; omega
  obtain ⟨ms, hms, lms⟩ := hcut none (some 63)
  refine ⟨63, rfl, p, _, rfl, hs, fun p1 hp1 => ?_⟩
  rw [hms]
  refine ⟨_, SqL.of upd_same, fun i σ H' => (∃ (sd : Nat) (o : Option V), sd < 2147483647 ∧ σ = [some (V.ref p), some (V.int (sd : Int)), o]) ∧ H' = upd H p1 (.lst (ms.map V.int)), ⟨⟨7919, none, by decide, rfl⟩, rfl⟩, fun i σ H' _ ⟨_, e⟩ => by rw [e]; exact SqL.of upd_same, ?_, ?_⟩
  · rintro i x σ H1 H2 hi ⟨⟨sd, o, hsd, rfl⟩, rfl⟩ ⟨rfl, hx⟩
    rw [List.getElem?_map, Option.map_eq_some_iff] at hx
    obtain ⟨z, _, rfl⟩ := hx
    walk_at "rd"
    refine ⟨mulL, by decide, by decide, ⟨((((sd : Int) * 48271 + z % 1000003 + 11) % 2147483647).toNat), some (V.int z), by omega, ?_⟩, trivial⟩
    rw [Int.toNat_of_nonneg (by omega)]
  · rintro σ H1 ⟨⟨sd, o, hsd, rfl⟩, rfl⟩
    walk_at "rd"
    have e1 : Ex H (upd H p1 (.lst (ms.map V.int))) := Ex.new hp1
    refine ⟨63, rfl, p, _, rfl, e1.sql hs, fun p2 hp2 => ?_⟩
    rw [hms]
    have e2 := Ex.new (o := .lst (ms.map V.int)) hp2
    refine ⟨_, .inl (SqL.of upd_same), fun p3 hp3 => ?_⟩
    have e3 := Ex.new (o := .lst (ms.map V.int)) hp3
    refine ⟨by decide, fun b hb => ?_⟩
    have e4 := Ex.new (o := .lst (BoxV p3 0 0 sd)) hb
    have ne : p3 ≠ b := fun z => by rw [← z, upd_same] at hb; cases hb
    exact q p3 b ms sd _ (((e1.tr e2).tr e3).tr e4) (pl.upd.upd.upd.upd) ne hsd (e4 _ _ upd_same) lms upd_same
def sp_take : Sp := fun vs H Q _ => ∃ (b l : Addr) (ms : List Int) (i r sd m wd : Nat), vs = [.ref b, .int m] ∧ (0 < m ∧ m ≤ 2 ^ wd ∧ wd ≤ 1024) ∧ H b = some (.lst (BoxV l i r sd)) ∧ H l = some (.lst (ms.map V.int)) ∧ l ≠ b ∧ sd < 2147483647 ∧
  ∀ (x i' r' sd' : Nat), x < m → sd' < 2147483647 → Q (.int x) (upd H b (.lst (BoxV l i' r' sd')))
theorem ok_law_take (T : Txt K mg) : C8.Cal P w K mg base 1 "_law_take" (sp_take) [] := by
  refine calD T.d__law_take sc__law_take (fun vs H Q E ⟨t, n, _, _, _, _, _, _, e, _⟩ => by rw [e]; rfl) fun f cdv A outer s H vs Q E hr h => ⟨_, (pss_cons (ps_if (c_tcmp bo_gt (pe_ix (k_ix (K := K)) (c_v 0) pe_int (fun _ _ => rfl)) pe_int)
  (pss_cons (ps_set (i := 2) sc__law_take.nd rfl (Or.inl rfl) (pe_ix (k_ix (K := K)) (c_v 0) pe_int (fun _ _ => rfl)))
  (pss_cons (ps_asg (pe_op bo_div (c_v 2) (c_v 1)) (pg_sub (c_v 0) pe_int st_list))
  (pss_one (ps_ret (pe_op bo_mod (c_v 2) (c_v 1))))))
  pss_nil)
  (pss_cons (ps_set (i := 3) sc__law_take.nd rfl (Or.inl rfl) pe_int)
  (pss_cons (ps_if (c_tcmp bo_lt (pe_ix (k_ix (K := K)) (c_v 0) pe_int (fun _ _ => rfl)) (pe_callB (k_len (K := K)) rfl T.n_len PySem.boot_len (pa_cons (pe_ix (k_ix (K := K)) (c_v 0) pe_int (fun _ _ => rfl)) pa_nil)))
  (pss_one (ps_set (i := 3) sc__law_take.nd rfl (Or.inl rfl) (pe_ix (k_ix (K := K)) (pe_ix (k_ix (K := K)) (c_v 0) pe_int (fun _ _ => rfl)) (pe_ix (k_ix (K := K)) (c_v 0) pe_int (fun _ _ => rfl)) (fun _ _ => rfl))))
  pss_nil)
  (pss_cons (ps_augS (c_v 0) pe_int (k_getL (K := K)) pe_int (ip_of io_add) st_list)
  (pss_cons (ps_if (c_tcmp bo_ge (c_v 3) (pe_op bo_pow pe_int pe_int))
  (pss_cons (ps_asg (pe_op bo_div (c_v 3) (c_v 1)) (pg_sub (c_v 0) pe_int st_list))
  (pss_one (ps_ret (pe_op bo_mod (c_v 3) (c_v 1)))))
  pss_nil)
  (pss_cons (ps_set (i := 4) sc__law_take.nd rfl (Or.inl rfl) (pe_op bo_mod (pe_op bo_add (pe_op bo_add (pe_ix (k_ix (K := K)) (c_v 0) pe_int (fun _ _ => rfl)) (pe_op bo_mul (pe_op bo_mod (c_v 3) pe_int) pe_int)) (pe_op bo_mul (pe_ix (k_ix (K := K)) (c_v 0) pe_int (fun _ _ => rfl)) pe_int)) pe_int))
  (pss_cons (ps_set (i := 4) sc__law_take.nd rfl (Or.inl rfl) (pe_op bo_mod (pe_op bo_add (pe_op bo_add (pe_op bo_mul (c_v 4) (c_v 4)) (pe_op bo_mul pe_int (c_v 4))) pe_int) pe_int))
  (pss_cons (ps_asg (pe_op bo_mod (pe_op bo_add (pe_op bo_add (pe_op bo_mul (c_v 4) pe_int) (pe_op bo_mod (pe_ix (k_ix (K := K)) (c_v 0) pe_int (fun _ _ => rfl)) pe_int)) pe_int) pe_int) (pg_sub (c_v 0) pe_int st_list))
  (pss_one (ps_ret (pe_op bo_mod (pe_op bo_div (pe_ix (k_ix (K := K)) (c_v 0) pe_int (fun _ _ => rfl)) pe_int) (c_v 1)))))))))))), ?_⟩
  obtain ⟨b, l, ms, i, r, sd, m, wd, rfl, ⟨hm0, hm1, hwd⟩, hb, hl, ne, hsd, q⟩ := h
  have hmi : (0 : Int) < m := by omega
  have hmw : CDivW (0 : Int) m := wide_div (b := wd + 1) hmi (by rw [Int.natAbs_natCast]; exact Nat.lt_of_le_of_lt hm1 (Nat.pow_lt_pow_right (by decide) (by omega))) (by omega) (by omega)
  unfold n__law_take
  refine sq fun R hR => ?_
  walk_at "rd"
  refine ix_lst hb rfl ?_
  walk_at "rd"
  by_cases hr0 : (0 : Int) < (r : Int)
  · rw [if_pos hr0]
    refine ix_lst hb rfl ?_
    walk_at "rd"
    refine ⟨hmw, _, 2, hb, rfl, hmi, ?_⟩
    have z := q (r % m) i (r / m) sd (Nat.mod_lt _ hm0) hsd
    exact z
  · rw [if_neg hr0]
    subst hR
    refine sq fun R hR => ?_
    walk_at "rd"
    subst hR
    refine sq fun R hR => ?_
    walk_at "rd"
    refine ix_lst hb rfl ?_
    refine ix_lst hb rfl ?_
    refine len_lst hl ?_
    walk_at "rd"
    -- one: an item, or 0
    have key : ∀ one : Int, R [some (V.ref b), some (V.int m), none, some (V.int one), none] H := by
      intro one
      subst hR
      refine sq fun R hR => ?_
      walk_at "rd"
      refine ⟨BoxV l i r sd, 1, _, SqL.of hb, rfl, rfl, BoxV l i r sd, 1, hb, rfl, ?_⟩
      subst hR
      have hb1 : (upd H b (.lst (BoxV l (i + 1) r sd))) b = some (.lst (BoxV l (i + 1) r sd)) := upd_same
      have hl1 : (upd H b (.lst (BoxV l (i + 1) r sd))) l = some (.lst (ms.map V.int)) := by rw [upd_ne ne]; exact hl
      show (tSeq _ _ : TS) _ _ (upd H b (.lst (BoxV l (i + 1) r sd)))
      refine sq fun R hR => ?_
      walk_at "rd"
      refine ⟨⟨by decide, by decide, by decide⟩, ?_⟩
      by_cases hbig : (10 : Int) ^ (18 : Int).toNat ≤ one
      · rw [if_pos hbig]
        have h1 : (0 : Int) ≤ one := Int.le_trans (by decide) hbig
        refine ⟨hmw, _, 2, hb1, rfl, hmi, ?_⟩
        have z := q (one % m).toNat (i + 1) (one / m).toNat sd (by have := Int.emod_lt_of_pos one hmi; have := Int.emod_nonneg one (Int.ne_of_gt hmi); omega) hsd
        rw [upd_upd]
        have e1 : (((one % m).toNat : Nat) : Int) = one % m := Int.toNat_of_nonneg (Int.emod_nonneg one (Int.ne_of_gt hmi))
        have e2 : (((one / m).toNat : Nat) : Int) = one / m := Int.toNat_of_nonneg (Int.ediv_nonneg h1 (Int.le_of_lt hmi))
        unfold BoxV at z
        rw [e1, e2] at z
        exact z
      · rw [if_neg hbig]
        subst hR
        refine sq fun R hR => ?_
        walk_at "rd"
        refine ix_lst hb1 rfl ?_
        walk_at "rd"
        refine ⟨by decide, mulR, ?_⟩
        refine ix_lst hb1 rfl ?_
        walk_at "rd"
        refine ⟨mulR, by decide, ?_⟩
        generalize hx1 : ((sd : Int) + one % 2147483629 * 69621 + ((i + 1 : Nat) : Int) * 104729) % 2147483587 = x1
        have b1 : 0 ≤ x1 ∧ x1 < 2147483587 := by omega
        subst hR
        refine sq fun R hR => ?_
        walk_at "rd"
        refine ⟨mulR, mulR, by decide, ?_⟩
        generalize hx2 : (x1 * x1 + 40961 * x1 + 77) % 2147483629 = x2
        have b2 : 0 ≤ x2 ∧ x2 < 2147483629 := ⟨by rw [← hx2]; exact Int.emod_nonneg _ (by decide), by rw [← hx2]; exact Int.emod_lt_of_pos _ (by decide)⟩
        subst hR
        refine sq fun R hR => ?_
        walk_at "rd"
        refine ⟨mulR, ?_⟩
        refine ix_lst hb1 rfl ?_
        walk_at "rd"
        refine ⟨by decide, by decide, BoxV l (i + 1) r sd, 3, hb1, rfl, ?_⟩
        generalize hx3 : (x2 * 16807 + (sd : Int) % 8191 + 5) % 2147483587 = x3
        have b3 : 0 ≤ x3 ∧ x3 < 2147483587 := by omega
        subst hR
        have hb2 : (upd (upd H b (.lst (BoxV l (i + 1) r sd))) b (.lst (BoxV l (i + 1) r x3.toNat))) = upd H b (.lst (BoxV l (i + 1) r x3.toNat)) := upd_upd
        have e3 : ((x3.toNat : Nat) : Int) = x3 := Int.toNat_of_nonneg b3.1
        have e4 : List.set (BoxV l (i + 1) r sd) 3 (V.int x3) = BoxV l (i + 1) r x3.toNat := by rw [← e3]; rfl
        rw [e4, hb2]
        walk_at "rd"
        refine ix_lst upd_same rfl ?_
        walk_at "rd"
        refine ⟨wide_div (b := 7) (by decide) (by decide) (by decide) (by decide), hmi, ?_⟩
        have z := q (x3.toNat / 61 % m) (i + 1) r x3.toNat (Nat.mod_lt _ hm0) (by omega)
        have e5 : (((x3.toNat / 61 % m : Nat)) : Int) = ((x3.toNat : Nat) : Int) / 61 % m := by simp
        rw [e5] at z
        exact z
    by_cases hi : (i : Int) < (ms.length : Int)
    · rw [if_pos hi]
      have hi' : i < ms.length := by omega
      refine ix_lst hb rfl ?_
      refine ix_lst hb rfl ?_
      refine ix_lst hl (atI_nat (j := i) (by rw [List.getElem?_map, List.getElem?_eq_getElem hi']; rfl)) ?_
      exact key _
    · rw [if_neg hi]
      exact key 0
end
end K68
namespace K68
open PySem PySem.Spec PyProof.Rows L2 Gm
local macro_rules | `(tactic| walk_at "rd") => `(tactic| try simp only [tSeq, tIfS, tNot, cT, cChain, tC, vV, sg, L2.start, List.map_cons, List.map_nil, List.length_cons, List.length_nil, tNext, tNever, tOp, bLe, bLt, bGe, bGt, tRet, tAsg, tDrop, gName, List.set_cons_zero, List.set_cons_succ, List.cons_append, List.nil_append, List.append_nil, List.replicate, tCall, tCons, tNil, cAug, L2.wipe, wRng1, wList, wEnum, tYes, tCB, List.length_map, cUse, bShl, bAnd, bOr, bShr, bEq, bNe, bXor, bSub, bMul, bAdd, bMod, bDiv, tTup, tLst, tSl, tNoPart, tPart, rSlL, qList, bPow, gSub, sSetL, tAugS, tOr, tAnd, tBM, Int.toNat_one, Nat.one_mul, Int.toNat_natCast, decide_eq_true_eq])
theorem len16 {α : Type} {τ : List α} (h : τ.length = 16) : ∃ a0 a1 a2 a3 a4 a5 a6 a7 a8 a9 a10 a11 a12 a13 a14 a15, τ = [a0, a1, a2, a3, a4, a5, a6, a7, a8, a9, a10, a11, a12, a13, a14, a15] := by
  match τ, h with
  | [a0, a1, a2, a3, a4, a5, a6, a7, a8, a9, a10, a11, a12, a13, a14, a15], _ => exact ⟨a0, a1, a2, a3, a4, a5, a6, a7, a8, a9, a10, a11, a12, a13, a14, a15, rfl⟩
/-- all stands but what stands at b -/
def Kp (b : Addr) (H H' : Hp) : Prop := ∀ a o, a ≠ b → H a = some o → H' a = some o
theorem Kp.rfl' {b : Addr} {H : Hp} : Kp b H H := fun _ _ _ h => h
theorem Kp.tr {b : Addr} {H H1 H2 : Hp} (x : Kp b H H1) (y : Kp b H1 H2) : Kp b H H2 := fun a o n h => y a o n (x a o n h)
theorem Kp.ex {b : Addr} {H H' : Hp} (x : Ex H H') : Kp b H H' := fun a o _ h => x a o h
structure Bx (b l : Addr) (ms : List Int) (H : Hp) : Prop where
  box : ∃ (i r sd : Nat), sd < 2147483647 ∧ H b = some (.lst (BoxV l i r sd))
  scr : H l = some (.lst (ms.map V.int))
  ne : l ≠ b
  pl : Plain H
theorem Bx.ex {b l : Addr} {ms : List Int} {H H' : Hp} (x : Bx b l ms H) (e : Ex H H') (p : Plain H') : Bx b l ms H' :=
  ⟨let ⟨i, r, sd, h1, h2⟩ := x.box; ⟨i, r, sd, h1, e _ _ h2⟩, e _ _ x.scr, x.ne, p⟩
theorem Bx.new {b l : Addr} {ms : List Int} {H : Hp} (x : Bx b l ms H) {p : Addr} {o : HO} (h : H p = none) (h1 : hasDT o = false := by rfl) (h2 : frzOk o = true := by rfl) : Bx b l ms (upd H p o) := x.ex (Ex.new h) (x.pl.upd h1 h2)
theorem Bx.bne {b l : Addr} {ms : List Int} {H : Hp} (x : Bx b l ms H) {p : Addr} (h : H p = none) : p ≠ b := fun z => by
  obtain ⟨i, r, sd, _, h2⟩ := x.box
  rw [z, h2] at h; cases h
theorem take_bx {b l : Addr} {ms : List Int} {H : Hp} {Q : VK} {E : XK} {m wd : Nat} (x : Bx b l ms H) (h0 : 0 < m) (h1 : m ≤ 2 ^ wd) (h2 : wd ≤ 1024) (q : ∀ (v : Nat) (H' : Hp), v < m → Bx b l ms H' → Kp b H H' → (∃ xs, H' = upd H b (.lst xs)) → Q (.int v) H') : sp_take [.ref b, .int m] H Q E := by
  obtain ⟨i, r, sd, hsd, hb⟩ := x.box
  refine ⟨b, l, ms, i, r, sd, m, wd, rfl, ⟨h0, h1, h2⟩, hb, x.scr, x.ne, hsd, fun v i' r' sd' hv hs => q v _ hv ?_ ?_ ⟨_, rfl⟩⟩
  · exact ⟨⟨i', r', sd', hs, upd_same⟩, by rw [upd_ne x.ne]; exact x.scr, x.ne, x.pl.upd⟩
  · intro a o n h; rw [upd_ne n]; exact h
theorem bits_sum (f : Nat → Bool) : ∀ m : Nat, ((List.range m).map fun r => (((if f r = true then 2 ^ r else 0 : Nat)) : Int)).sum = ((M68.bits m f : Nat) : Int)
  | 0 => rfl
  | m + 1 => by
    rw [List.range_succ, List.map_append, List.sum_append, bits_sum f m, M68.bits]
    simp
theorem erase_map {α β : Type} (f : α → β) : ∀ (l : List α) (i : Nat), (l.map f).eraseIdx i = (l.eraseIdx i).map f
  | [], _ => rfl
  | _ :: _, 0 => rfl
  | x :: l, i + 1 => by
    show f x :: (l.map f).eraseIdx i = f x :: (l.eraseIdx i).map f
    rw [erase_map f l i]
theorem erase_perm {α : Type} : ∀ {l : List α} {i : Nat} {a : α}, l[i]? = some a → l.Perm (a :: l.eraseIdx i)
  | [], i, a, h => by simp at h
  | x :: l, 0, a, h => by simp at h; subst h; exact List.Perm.refl _
  | x :: l, i + 1, a, h => by
    simp at h
    exact ((erase_perm h).cons x).trans (List.Perm.swap ..)
theorem mem_supp {t n k : Nat} (hk : k < n) : decide ((k : Int) ∈ (supp t n).map fun a : Nat => (a : Int)) = decide (M68.half0 t n k ≠ M68.half1 t n k) := by
  apply decide_eq_decide.mpr
  rw [List.mem_map]
  constructor
  · rintro ⟨a, ha, e⟩
    have e' : a = k := by omega
    subst e'
    unfold supp at ha
    rw [List.mem_filter] at ha
    exact of_decide_eq_true ha.2
  · intro h
    exact ⟨k, by unfold supp; rw [List.mem_filter]; exact ⟨List.mem_range.mpr hk, decide_eq_true h⟩, rfl⟩
theorem upd_comm {H : Hp} {a c : Addr} {o u : HO} (h : a ≠ c) : upd (upd H a o) c u = upd (upd H c u) a o := by
  funext x; unfold upd
  by_cases h1 : x = a
  · subst h1; simp [h]
  · simp [h1]
theorem Cut0.setL {H Hc : Hp} (c : Cut0 H Hc) {a : Addr} {xs ys : List V} (h : Hc a = some (.lst xs)) : Cut0 H (upd Hc a (.lst ys)) :=
  ⟨c.pl.upd, fun z => (c.cl z).set h (by intros; simp) (by intros; simp), fun b o e i => Imm.set h rfl b o (c.im b o e i) i⟩
section
variable {P : Program} {w : World} {K : PySem.W.Frag} {mg : Str → Option Value} {base : Heap}
def sp_law : Sp := fun vs H Q _ => ∃ (p : Addr) (ns : List Int), vs = [.ref p] ∧ SqL K H p (ns.map V.int) ∧ ns.length ≤ 63 ∧ Plain H ∧ ∀ H', Q (.bl true) H'
theorem fn_law (T : Txt K mg) {f : Addr} {fd : FuncData} (F : C8.Fun K "law" "law" s_law f fd) : FnOk P w K mg base C8.CX0 6 f fd ["script"] (sp_law (K := K)) := by
  obtain ⟨fh, fdh, dsh, gh, Dh, Bh, Vh, KBh⟩ := T.d_half
  have c_half : C8.Cal P w K mg base 3 "half" sp_half [.int 1] := ⟨fh, fdh, _, dsh, fn_half T Dh.fn, Dh.mgf, Dh.kp, Bh, Vh⟩
  have c_half_value : ∃ (f : Addr) (fd : FuncData) (ps : List Str) (g : List Value → List Value → List Value), FnOk P w K mg base C8.CX0 3 f fd ps sp_half ∧ mg "half" = some (.ref f) ∧ PySem.W.keepIn K (.ref f) = true ∧ KBn K fd ps 3 ["value"] g (fun vs zs => vs ++ zs) := ⟨fh, fdh, _, gh, fn_half T Dh.fn, Dh.mgf, Dh.kp, KBh⟩
  have c__law_box := ok_law_box (P := P) (w := w) (base := base) T
  have c__law_take := ok_law_take (P := P) (w := w) (base := base) T
  have c__law_bit := ok_law_bit (P := P) (w := w) (base := base) T
  have c_hung_on := ok_hung_on (P := P) (w := w) (base := base) T
  have c_column := ok_column (P := P) (w := w) (base := base) T
  have c_turned := ok_turned (P := P) (w := w) (base := base) T
  have c_narrowed := ok_narrowed (P := P) (w := w) (base := base) T
  have c_table_text := ok_table_text (P := P) (w := w) (base := base) T
  have c_read_table := ok_read_table (P := P) (w := w) (base := base) T
  refine C8.fn0 F sc_law (fun vs H Q E ⟨t, n, e, _⟩ => by rw [e]; rfl) fun cdv A outer s H vs Q E hr h => ⟨_, (pss_cons (ps_set (i := 1) sc_law.nd rfl (Or.inr rfl) (C8.pe_c c__law_box hr (by decide) rfl (pa_cons (c_v 0) pa_nil)))
  (pss_cons (c_for PassesOwn.never rfl (i_range1 rfl T.n_range (pa_cons pe_int pa_nil)) (pg_name (i := 2) sc_law.nd rfl (Or.inl rfl))
  (pss_cons (ps_set (i := 3) sc_law.nd rfl (Or.inl rfl) (pe_ix (k_ix (K := K)) (pe_lst (pa_cons (C8.pe_c c__law_take hr (by decide) rfl (pa_cons (c_v 1) (pa_cons pe_int pa_nil))) (pa_cons pe_int pa_nil))) (pe_op bo_div (C8.pe_c c__law_take hr (by decide) rfl (pa_cons (c_v 1) (pa_cons pe_int pa_nil))) pe_int) (fun _ _ => rfl)))
  (pss_cons (ps_set (i := 4) sc_law.nd rfl (Or.inl rfl) (pe_op bo_shl pe_int (c_v 3)))
  (pss_cons (ps_set (i := 5) sc_law.nd rfl (Or.inl rfl) (c_sumG rfl (plg_lc (own := [("row", 17)]) (g := (gName 17)) rfl sc_law.nd (i_range1 rfl T.n_range (pa_cons (c_v 4) pa_nil)) (blkOk_by (N := n_law) (sc := C8.fnScope s_law) (by decide +kernel)) (fun _ _ _ _ _ => (pg_name (i := 17) sc_law.nd rfl (Or.inl rfl))) (fun _ _ _ _ _ => pts_nil) (fun _ _ _ _ _ => (pe_op bo_mul (pe_op bo_shl pe_int (c_v 17)) (pe_op bo_mod (C8.pe_c c__law_take hr (by decide) rfl (pa_cons (c_v 1) (pa_cons pe_int pa_nil))) pe_int)))) rfl T.n_sum))
  (pss_cons (ps_if (c_tcmp bo_eq (C8.pe_c c__law_take hr (by decide) rfl (pa_cons (c_v 1) (pa_cons pe_int pa_nil))) pe_int)
  (pss_one (ps_set (i := 5) sc_law.nd rfl (Or.inl rfl) (C8.pe_c c__law_take hr (by decide) rfl (pa_cons (c_v 1) (pa_cons (pe_op bo_shl pe_int (c_v 4)) pa_nil)))))
  pss_nil)
  (pss_cons (ps_set (i := 6) sc_law.nd rfl (Or.inr rfl) (C8.pe_c c_hung_on hr (by decide) rfl (pa_cons (c_v 5) (pa_cons (c_v 3) pa_nil))))
  (pss_cons (c_for PassesOwn.never rfl (i_range1 rfl T.n_range (pa_cons (c_v 3) pa_nil)) (pg_name (i := 7) sc_law.nd rfl (Or.inl rfl))
  (pss_cons (ps_asg (pe_tup (pa_cons (C8.pe_c c_half hr (by decide) rfl (pa_cons (c_v 5) (pa_cons (c_v 3) (pa_cons (c_v 7) pa_nil)))) (pa_cons (c_callN c_half_value hr (by decide) rfl (pa_cons (c_v 5) (pa_cons (c_v 3) (pa_cons (c_v 7) pa_nil))) (pk_cons pe_int pk_nil)) pa_nil))) (k_p2 (K := K) (i := 8) (j := 9) rfl sc_law.nd rfl rfl (Or.inr rfl) (Or.inr rfl)))
  (pss_cons (ps_set (i := 10) sc_law.nd rfl (Or.inr rfl) (C8.pe_c c_column hr (by decide) rfl (pa_cons (c_v 3) (pa_cons (c_v 7) pa_nil))))
  (pss_cons (ps_set (i := 11) sc_law.nd rfl (Or.inl rfl) (c_sumL rfl (pl_lc (own := [("row", 17)]) (g := (gName 17)) rfl sc_law.nd (i_range1 rfl T.n_range (pa_cons (c_v 4) pa_nil)) (blkOk_by (N := n_law) (sc := C8.fnScope s_law) (by decide +kernel)) (fun _ _ _ _ _ => (pg_name (i := 17) sc_law.nd rfl (Or.inl rfl))) (fun _ _ _ _ _ => pts_nil) (fun _ _ _ _ _ => (pe_op bo_mul (pe_op bo_shl pe_int (c_v 17)) (C8.pe_c c__law_bit hr (by decide) rfl (pa_cons (pe_ix (k_ix (K := K)) (pe_lst (pa_cons (c_v 9) (pa_cons (c_v 8) pa_nil))) (C8.pe_c c__law_bit hr (by decide) rfl (pa_cons (c_v 10) (pa_cons (c_v 17) pa_nil))) (fun _ _ => rfl)) (pa_cons (c_v 17) pa_nil)))))) rfl T.n_sum))
  (pss_cons (ps_if (PW.pt (pw_or (c_tcmp bo_ne (c_v 11) (c_v 5)) (pw_or1 (c_tcmp bo_ne (C8.pe_c c_turned hr (by decide) rfl (pa_cons (C8.pe_c c_turned hr (by decide) rfl (pa_cons (c_v 5) (pa_cons (c_v 3) (pa_cons (c_v 7) pa_nil)))) (pa_cons (c_v 3) (pa_cons (c_v 7) pa_nil)))) (c_v 5)))))
  (pss_one (ps_ret pe_bl))
  pss_nil)
  (pss_one (ps_if (PW.pt (pw_or (c_tcmp bo_ne (c_cmp (k_inL (K := K)) (c_v 7) (c_v 6) (by rfl)) (c_cmp bo_ne (c_v 8) (c_v 9))) (pw_or1 (c_tcmp bo_ne (c_cmp (k_inL (K := K)) (c_v 7) (c_v 6) (by rfl)) (c_cmp bo_ne (C8.pe_c c_turned hr (by decide) rfl (pa_cons (c_v 5) (pa_cons (c_v 3) (pa_cons (c_v 7) pa_nil)))) (c_v 5))))))
  (pss_one (ps_ret pe_bl))
  pss_nil)))))))
  (pss_cons (c_setLc (i := 12) (own := [("k", 7)]) (hsw := sw_true rfl rfl rfl (by decide +kernel)) (hy := rfl) (hyl := rfl) (g := (gName 7)) rfl sc_law.nd (i_range1 rfl T.n_range (pa_cons (c_v 3) pa_nil)) (blkOk_by (N := n_law) (sc := C8.fnScope s_law) (by decide +kernel)) (fun _ _ _ _ _ => (pg_name (i := 7) sc_law.nd rfl (Or.inl rfl))) (fun _ _ _ _ _ => pts_nil) (fun _ _ _ _ _ => (c_v 7)))
  (pss_cons (ps_set (i := 13) sc_law.nd rfl (Or.inr rfl) (pe_lst pa_nil))
  (pss_cons (c_for PassesOwn.never rfl (i_range1 rfl T.n_range (pa_cons (c_v 3) pa_nil)) (pg_name (i := 7) sc_law.nd rfl (Or.inl rfl))
  (pss_one (ps_expr (k_bm (K := K) PySem.F.plainAttrs_list PySem.F.slot_list_append PySem.F.type_list_append mt_app (c_v 13) (pa_cons (k_bm (K := K) PySem.F.plainAttrs_list PySem.F.slot_list_pop PySem.F.type_list_pop mt_popA (c_v 12) (pa_cons (C8.pe_c c__law_take hr (by decide) rfl (pa_cons (c_v 1) (pa_cons (pe_callB (k_len (K := K)) rfl T.n_len PySem.boot_len (pa_cons (c_v 12) pa_nil)) pa_nil))) pa_nil)) pa_nil)))))
  (pss_cons (c_setLc (i := 14) (own := [("k", 7)]) (hsw := sw_true rfl rfl rfl (by decide +kernel)) (hy := rfl) (hyl := rfl) (g := (gName 7)) rfl sc_law.nd (i_range1 rfl T.n_range (pa_cons (c_v 3) pa_nil)) (blkOk_by (N := n_law) (sc := C8.fnScope s_law) (by decide +kernel)) (fun _ _ _ _ _ => (pg_name (i := 7) sc_law.nd rfl (Or.inl rfl))) (fun _ _ _ _ _ => pts_nil) (fun _ _ _ _ _ => (k_bm (K := K) PySem.F.plainAttrs_list PySem.F.slot_list_index PySem.F.type_list_index (k_index (K := K)) (c_v 13) (pa_cons (c_v 7) pa_nil))))
  (pss_cons (ps_if (c_tcmp bo_ne (C8.pe_c c_narrowed hr (by decide) rfl (pa_cons (C8.pe_c c_narrowed hr (by decide) rfl (pa_cons (c_v 5) (pa_cons (c_v 3) (pa_cons (c_v 13) pa_nil)))) (pa_cons (c_v 3) (pa_cons (c_v 14) pa_nil)))) (c_v 5))
  (pss_one (ps_ret pe_bl))
  pss_nil)
  (pss_cons (c_setLc (i := 15) (own := [("k", 7)]) (hsw := sw_true rfl rfl rfl (by decide +kernel)) (hy := rfl) (hyl := rfl) (g := (gName 7)) rfl sc_law.nd (i_range1 rfl T.n_range (pa_cons (c_v 3) pa_nil)) (blkOk_by (N := n_law) (sc := C8.fnScope s_law) (by decide +kernel)) (fun _ _ _ _ _ => (pg_name (i := 7) sc_law.nd rfl (Or.inl rfl))) (fun _ _ _ _ _ => (pts_one (c_tcmp (k_inL (K := K)) (c_v 7) (c_v 6) (by rfl)))) (fun _ _ _ _ _ => (c_v 7)))
  (pss_cons (ps_set (i := 16) sc_law.nd rfl (Or.inl rfl) (C8.pe_c c_narrowed hr (by decide) rfl (pa_cons (c_v 5) (pa_cons (c_v 3) (pa_cons (c_v 15) pa_nil)))))
  (pss_cons (ps_if (c_tcmp bo_ne (pe_callB (k_len (K := K)) rfl T.n_len PySem.boot_len (pa_cons (C8.pe_c c_hung_on hr (by decide) rfl (pa_cons (c_v 16) (pa_cons (pe_callB (k_len (K := K)) rfl T.n_len PySem.boot_len (pa_cons (c_v 15) pa_nil)) pa_nil))) pa_nil)) (pe_callB (k_len (K := K)) rfl T.n_len PySem.boot_len (pa_cons (c_v 15) pa_nil)))
  (pss_one (ps_ret pe_bl))
  pss_nil)
  (pss_one (ps_if (c_tcmp (k_neD (K := K) (hu64 hr)) (C8.pe_c c_read_table hr (by decide) rfl (pa_cons (C8.pe_c c_table_text hr (by decide) rfl (pa_cons (c_v 16) (pa_cons (pe_callB (k_len (K := K)) rfl T.n_len PySem.boot_len (pa_cons (c_v 15) pa_nil)) pa_nil))) pa_nil)) (pe_tup (pa_cons (c_v 16) (pa_cons (pe_callB (k_len (K := K)) rfl T.n_len PySem.boot_len (pa_cons (c_v 15) pa_nil)) pa_nil))))
  (pss_one (ps_ret pe_bl))
  pss_nil)))))))))))))))))
  (pss_one (ps_ret pe_bl)))), ?_⟩
  obtain ⟨p, ns, rfl, hs, hl, pl, q⟩ := h
  unfold n_law
  refine sq fun R hR => ?_
  walk_at "rd"
  refine ⟨p, ns, rfl, hs, hl, pl, fun l b ms sd H1 e1 p1 ne hsd hl1 lms hb1 => ?_⟩
  subst hR
  clear hs hl e1 pl H
  refine sq fun R hR => ?_
  refine ⟨⟨by decide, by decide⟩, fun i σ H => Bx b l ms H ∧ ∃ τ, σ = some (.ref p) :: some (.ref b) :: τ ∧ τ.length = 16, ?_, fun _ _ _ _ _ => trivial, ?_, ?_⟩
  · exact ⟨⟨⟨0, 0, sd, hsd, hb1⟩, hl1, ne, p1⟩, _, rfl, rfl⟩
  · clear hb1 hl1 p1 H1 hsd sd ne hR
    rintro i x σ H H' hi ⟨bx, τ, rfl, hτ⟩ ⟨rfl, rfl⟩
    obtain ⟨o_turn, o_wide, o_rows, o_number, o_hung, o_k, o_high, o_low, o_there, o_whole, o_left, o_some, o_back, o_spare, o_less, o_row, rfl⟩ := len16 hτ
    refine sq fun R hR => ?_
    walk_at "rd"
    refine take_bx (m := 8) (wd := 3) bx (by decide) (by decide) (by decide) fun x1 H1 hx1 bx1 k1 _ => ?_
    refine ⟨by decide, fun p1 hp1 => ?_⟩
    have bx2 := bx1.new (o := .lst [.int (x1 : Int), .int 10]) hp1
    refine take_bx (m := 9) (wd := 4) bx2 (by decide) (by decide) (by decide) fun x2 H2 hx2 bx3 k2 _ => ?_
    walk_at "rd"
    refine ⟨wide_div (b := 4) (by decide) (by decide) (by decide) (by decide), ?_⟩
    have hp2 : H2 p1 = some (.lst [.int (x1 : Int), .int 10]) := k2 _ _ (bx1.bne hp1) upd_same
    obtain ⟨n, hn, hat⟩ : ∃ n : Nat, n ≤ 10 ∧ atI [V.int (x1 : Int), V.int 10] ((x2 : Int) / 8) = some (V.int (n : Int)) := by
      have : x2 / 8 = 0 ∨ x2 / 8 = 1 := by omega
      have e : (x2 : Int) / 8 = ((x2 / 8 : Nat) : Int) := by omega
      rcases this with z | z
      · exact ⟨x1, by omega, by rw [e, z]; rfl⟩
      · exact ⟨10, by decide, by rw [e, z]; rfl⟩
    refine ix_lst hp2 hat ?_
    subst hR
    clear hat hp2 bx2 bx1 bx k1 k2 hx1 hx2
    refine sq fun R hR => ?_
    walk_at "rd"
    refine ⟨⟨by decide, shl1 (by omega)⟩, ?_⟩
    subst hR
    refine sq fun R hR => ?_
    have h1 := pow10 hn
    have h0 : (0 : Int) ≤ ((2 ^ n : Nat) : Int) := nn _
    unfold cSumG wLg
    walk_at "rd"
    refine ⟨⟨by omega, by omega⟩, small_le (by omega), fun i ys Hc => Bx b l ms Hc ∧ Cut0 H2 Hc ∧ ∃ (ns : List Int) (v : Nat), ys = ns.map V.int ∧ ns.sum = (v : Int) ∧ v < 2 ^ i, ⟨bx3, Cut0.self bx3.pl, [], 0, rfl, rfl, by decide⟩, fun _ _ _ _ _ _ _ => trivial, ?_, ?_⟩
    · rintro D i ys Hc x H3 hi ⟨bxc, ctc, ns', v, rfl, hv, hlt⟩ hD ⟨rfl, rfl⟩
      obtain ⟨bi, br, bs, hbs, hbb⟩ := bxc.box
      have hbD : b ≠ D := ne_of_none hbb hD
      have hlD : l ≠ D := ne_of_none bxc.scr hD
      walk_at "rd"
      rw [if_pos trivial]
      refine ⟨trivial, ⟨by decide, shl1 (by omega)⟩, b, l, ms, bi, br, bs, 97, 7, rfl, ⟨by decide, by decide, by decide⟩, by rw [upd_ne hbD]; exact hbb, by rw [upd_ne hlD]; exact bxc.scr, bxc.ne, hbs, fun y i1 r1 s1 hy hs1 => ?_⟩
      walk_at "rd"
      refine ⟨by decide, mulR, upd Hc b (.lst (BoxV l i1 r1 s1)), upd_comm hbD.symm, by rw [upd_ne hbD.symm]; exact hD, ?_⟩
      refine ⟨⟨⟨i1, r1, s1, hs1, upd_same⟩, by rw [upd_ne bxc.ne]; exact bxc.scr, bxc.ne, bxc.pl.upd⟩, Cut0.setL ctc hbb, ns' ++ [((2 ^ i : Nat) : Int) * ((y : Int) % 2)], v + 2 ^ i * (y % 2), by rw [List.map_append]; rfl, ?_, ?_⟩
      · rw [List.sum_append, hv]; simp
      · rw [Nat.pow_succ]
        have := Nat.mod_two_eq_zero_or_one y
        rcases this with z | z <;> rw [z] <;> omega
    · rintro ys Hc ⟨bxc, ctc, ns', v, rfl, hv, hlt⟩
      refine ⟨ctc, ns', rfl, ?_⟩
      rw [hv]
      clear hv ctc bx3 ns'
      subst hR
      refine sq fun R hR => ?_
      have key : ∀ (t : Nat) (H' : Hp), t < 2 ^ 2 ^ n → Bx b l ms H' → R [some (V.ref p), some (V.ref b), some (V.int (i : Int)), some (V.int (n : Int)), some (V.int ((2 ^ n : Nat) : Int)), some (V.int (t : Int)), o_hung, o_k, o_high, o_low, o_there, o_whole, o_left, o_some, o_back, o_spare, o_less, o_row] H' := by
        clear hlt v bxc Hc
        intro t H ht bx
        subst hR
        refine sq fun R hR => ?_
        walk_at "rd"
        refine ⟨t, n, rfl, ht, hn, bx.pl, fun hu hhu => ?_⟩
        have bx1 := bx.new (o := .lst ((supp t n).map VN)) hhu
        have hub := bx.bne hhu
        generalize hH1 : upd H hu (.lst ((supp t n).map VN)) = H1 at bx1
        have hu1 : H1 hu = some (.lst ((supp t n).map VN)) := by rw [← hH1]; exact upd_same
        clear hH1 hhu bx H
        subst hR
        refine sq fun R hR => ?_
        refine ⟨⟨by omega, by omega⟩, fun j σ H => Bx b l ms H ∧ H hu = some (.lst ((supp t n).map VN)) ∧ ∃ a7 a8 a9 a10 a11, σ = [some (V.ref p), some (V.ref b), some (V.int (i : Int)), some (V.int (n : Int)), some (V.int ((2 ^ n : Nat) : Int)), some (V.int (t : Int)), some (V.ref hu), a7, a8, a9, a10, a11, o_left, o_some, o_back, o_spare, o_less, o_row], ⟨bx1, hu1, _, _, _, _, _, rfl⟩, fun _ _ _ _ _ => trivial, ?_, ?_⟩
        · clear hR bx1 hu1 H1
          rintro k x σ H H' hk ⟨bx, hhu, a7, a8, a9, a10, a11, rfl⟩ ⟨rfl, rfl⟩
          have hk' : k < n := hk
          refine sq fun R1 hR1 => ?_
          walk_at "rd"
          refine ⟨t, n, k, 1, rfl, ht, hk', hn, ?_⟩
          refine ⟨rfl, rfl, t, n, k, 0, rfl, ht, hk', hn, by decide, fun p1 hp1 => ⟨p1, _, _, rfl, SqT.of upd_same, ?_⟩⟩
          have bx1 := bx.new (o := .tup [.int (hlf t n k 1 : Nat), .int (hlf t n k 0 : Nat)]) hp1
          have hu1 : (upd H' p1 (.tup [.int (hlf t n k 1 : Nat), .int (hlf t n k 0 : Nat)])) hu = some (.lst ((supp t n).map VN)) := Ex.new hp1 _ _ hhu
          generalize upd H' p1 (.tup [.int (hlf t n k 1 : Nat), .int (hlf t n k 0 : Nat)]) = H2 at bx1 hu1
          clear hp1 hhu bx
          subst hR1
          refine sq fun R1 hR1 => ?_
          walk_at "rd"
          refine ⟨n, k, rfl, hk', hn, ?_⟩
          subst hR1
          refine sq fun R1 hR1 => ?_
          unfold cUse wLc
          walk_at "rd"
          refine ⟨bx1.pl, ⟨by omega, by omega⟩, Ex.rfl', bx1.pl, small_le (by omega), fun _ _ => trivial, fun r => some (.int (((if (if (M68.col n k).testBit r = true then (M68.half1 t n k).testBit r else (M68.half0 t n k).testBit r) = true then 2 ^ r else 0 : Nat)) : Int)), ?_, ?_⟩
          · rintro r x H3 H4 hr e3 p3 ⟨rfl, rfl⟩
            walk_at "rd"
            rw [if_pos trivial]
            refine ⟨trivial, ⟨by decide, shl1 (by omega)⟩, by decide, fun p2 hp2 => ⟨M68.col n k, r, rfl, by omega, ?_⟩⟩
            have hat : atI [V.int ((hlf t n k 0 : Nat) : Int), V.int ((hlf t n k 1 : Nat) : Int)] (((if (M68.col n k).testBit r = true then 1 else 0 : Nat)) : Int) = some (V.int ((if (M68.col n k).testBit r = true then M68.half1 t n k else M68.half0 t n k : Nat) : Int)) := by
              cases (M68.col n k).testBit r <;> rfl
            refine ix_lst upd_same hat ⟨_, r, rfl, by omega, ?_⟩
            have e : (if (M68.col n k).testBit r = true then M68.half1 t n k else M68.half0 t n k).testBit r = (if (M68.col n k).testBit r = true then (M68.half1 t n k).testBit r else (M68.half0 t n k).testBit r) := by
              cases (M68.col n k).testBit r <;> rfl
            rw [e]
            generalize (if (M68.col n k).testBit r = true then (M68.half1 t n k).testBit r else (M68.half0 t n k).testBit r) = c
            cases c with
            | true => exact ⟨mulR (by decide) (by decide), ⟨Ex.new hp2, p3.upd⟩, by simp⟩
            | false => exact ⟨mulR (by decide) (by decide), ⟨Ex.new hp2, p3.upd⟩, by simp⟩
          · rw [fm_map (g := fun r => V.int (((if (if (M68.col n k).testBit r = true then (M68.half1 t n k).testBit r else (M68.half0 t n k).testBit r) = true then 2 ^ r else 0 : Nat)) : Int)) fun _ _ => rfl]
            refine ⟨(List.range (2 ^ n)).map fun r => (((if (if (M68.col n k).testBit r = true then (M68.half1 t n k).testBit r else (M68.half0 t n k).testBit r) = true then 2 ^ r else 0 : Nat)) : Int), by rw [List.map_map]; rfl, ?_⟩
            rw [bits_sum (fun r => if (M68.col n k).testBit r = true then (M68.half1 t n k).testBit r else (M68.half0 t n k).testBit r), M68.whole_is ht]
            subst hR1
            have tl := M68.turn_lt ht hk'
            have tt := M68.turn_turn ht hk'
            have hmem : decide ((k : Int) ∈ (supp t n).map fun a : Nat => (a : Int)) = decide (M68.half0 t n k ≠ M68.half1 t n k) := by
              apply decide_eq_decide.mpr
              rw [List.mem_map]
              constructor
              · rintro ⟨a, ha, e⟩
                have e' : a = k := by omega
                subst e'
                unfold supp at ha
                rw [List.mem_filter] at ha
                exact of_decide_eq_true ha.2
              · intro h
                exact ⟨k, by unfold supp; rw [List.mem_filter]; exact ⟨List.mem_range.mpr hk', decide_eq_true h⟩, rfl⟩
            have hsq : SqL K H2 hu (((supp t n).map fun a : Nat => (a : Int)).map V.int) := by rw [List.map_map]; exact SqL.of hu1
            have hang := M68.hang_iff ht hk'
            refine sq fun R1 hR1 => ?_
            walk_at "rd"
            refine ⟨rfl, ?_⟩
            rw [if_neg (by simp)]
            refine ⟨t, n, k, rfl, ht, hk', hn, M68.turn t n k, n, k, rfl, tl, hk', hn, ?_⟩
            rw [tt]
            walk_at "rd"
            refine ⟨rfl, ?_⟩
            rw [if_neg (by simp)]
            subst hR1
            walk_at "rd"
            refine ⟨_, .inl hsq, ?_⟩
            walk_at "rd"
            rw [hmem]
            refine ⟨rfl, rfl, ?_⟩
            have c1 : V.bl (if false = true then !decide (M68.half0 t n k ≠ M68.half1 t n k) else decide (M68.half0 t n k ≠ M68.half1 t n k)) = V.bl !decide (V.int ((hlf t n k 1 : Nat) : Int) = V.int ((hlf t n k 0 : Nat) : Int)) := by
              rw [hlf_one]
              show V.bl (decide (M68.half0 t n k ≠ M68.half1 t n k)) = V.bl !decide (V.int ((M68.half1 t n k : Nat) : Int) = V.int ((M68.half0 t n k : Nat) : Int))
              by_cases z : M68.half0 t n k = M68.half1 t n k
              · simp [z]
              · have z' : ¬ M68.half1 t n k = M68.half0 t n k := fun e => z e.symm
                simp [z, z', Int.natCast_inj]
            have c2 : V.bl (if false = true then !decide (M68.half0 t n k ≠ M68.half1 t n k) else decide (M68.half0 t n k ≠ M68.half1 t n k)) = V.bl !decide (V.int ((M68.turn t n k : Nat) : Int) = V.int ((t : Nat) : Int)) := by
              show V.bl (decide (M68.half0 t n k ≠ M68.half1 t n k)) = V.bl !decide (V.int ((M68.turn t n k : Nat) : Int) = V.int ((t : Nat) : Int))
              by_cases z : M68.half0 t n k = M68.half1 t n k
              · have z' : M68.turn t n k = t := Classical.byContradiction fun e => hang.mpr e z
                simp [z, z', Int.natCast_inj]
              · have z' : ¬ M68.turn t n k = t := hang.mp z
                simp [z, z', Int.natCast_inj]
            rw [if_neg (by rw [c1]; simp)]
            refine ⟨_, .inl hsq, t, n, k, rfl, ht, hk', hn, rfl, rfl, ?_⟩
            rw [hmem, if_neg (by rw [c2]; simp)]
            exact ⟨bx1, hu1, _, _, _, _, _, rfl⟩
        · clear hu1 bx1 H1
          rintro σ H ⟨bx, hhu, a7, a8, a9, a10, a11, rfl⟩
          subst hR
          dsimp only
          refine sq fun R hR => ?_
          unfold cSetL wLc
          walk_at "rd"
          refine ⟨bx.pl, ⟨by omega, by omega⟩, Ex.rfl', bx.pl, small_le (by omega), fun _ _ => trivial, fun i => some (VN i), ?_, fun la hla => ?_⟩
          · rintro i x H2 H3 hi e2 p2 ⟨rfl, rfl⟩
            rw [if_pos trivial]
            exact ⟨trivial, ⟨Ex.rfl', p2⟩, rfl⟩
          rw [fm_map (g := VN) fun _ _ => rfl]
          have bx1 := bx.new (o := .lst ((List.range n).map VN)) hla
          have lab := bx.bne hla
          have hll : l ≠ la := ne_of_none bx.scr hla
          have lah : la ≠ hu := fun z => by rw [z, hhu] at hla; cases hla
          have hu1 := Ex.new (o := .lst ((List.range n).map VN)) hla _ _ hhu
          have la1 : (upd H la (.lst ((List.range n).map VN))) la = some (.lst ((List.range n).map VN)) := upd_same
          generalize upd H la (.lst ((List.range n).map VN)) = H1 at bx1 hu1 la1
          clear bx hhu hla H
          subst hR
          refine sq fun R hR => ?_
          walk_at "rd"
          refine ⟨by decide, fun sa hsa => ?_⟩
          have bx2 := bx1.new (o := .lst []) hsa
          have sab := bx1.bne hsa
          have hls : l ≠ sa := ne_of_none bx1.scr hsa
          have sah : sa ≠ hu := fun z => by rw [z, hu1] at hsa; cases hsa
          have sal : sa ≠ la := fun z => by rw [z, la1] at hsa; cases hsa
          have hu2 := Ex.new (o := .lst []) hsa _ _ hu1
          have la2 := Ex.new (o := .lst []) hsa _ _ la1
          have sa2 : (upd H1 sa (.lst [])) sa = some (.lst []) := upd_same
          generalize upd H1 sa (.lst []) = H2 at bx2 hu2 la2 sa2
          clear bx1 hu1 la1 hsa H1
          subst hR
          refine sq fun R hR => ?_
          refine ⟨⟨by omega, by omega⟩, fun j σ H => Bx b l ms H ∧ H hu = some (.lst ((supp t n).map VN)) ∧ (∃ lf sm : List Nat, H la = some (.lst (lf.map VN)) ∧ H sa = some (.lst (sm.map VN)) ∧ (sm ++ lf).Perm (List.range n) ∧ sm.length = j) ∧ ∃ a7, σ = [some (V.ref p), some (V.ref b), some (V.int (i : Int)), some (V.int (n : Int)), some (V.int ((2 ^ n : Nat) : Int)), some (V.int (t : Int)), some (V.ref hu), a7, a8, a9, a10, a11, some (V.ref la), some (V.ref sa), o_back, o_spare, o_less, o_row], ⟨bx2, hu2, ⟨List.range n, [], la2, sa2, List.Perm.refl _, rfl⟩, _, rfl⟩, fun _ _ _ _ _ => trivial, ?_, ?_⟩
          · clear hR bx2 hu2 la2 sa2 H2
            rintro k x σ H H' hk ⟨bx, hhu, ⟨lf, sm, hla, hsa, hperm, hlen⟩, a7, rfl⟩ ⟨rfl, rfl⟩
            have hk' : k < n := hk
            have hlf : lf.length = n - k := by
              have := hperm.length_eq
              rw [List.length_append, List.length_range] at this
              omega
            walk_at "rd"
            refine ⟨.inl ⟨rfl, _, SqL.of hsa⟩, .inl ⟨rfl, _, SqL.of hla⟩, len_lst hla ?_⟩
            rw [List.length_map]
            refine take_bx (wd := 4) bx (by omega) (by omega) (by decide) fun x1 H1 hx1 bx1 k1 _ => ?_
            have hla1 := k1 _ _ lab hla
            have hsa1 := k1 _ _ sab hsa
            have hhu1 := k1 _ _ hub hhu
            obtain ⟨y, hy⟩ : ∃ y, lf[x1]? = some y := ⟨_, List.getElem?_eq_getElem hx1⟩
            refine ⟨lf.map VN, x1, VN y, hla1, ⟨rfl, by omega⟩, by rw [List.getElem?_map, hy]; rfl, ?_⟩
            have hsa2 : (upd H1 la (.lst ((lf.map VN).eraseIdx x1))) sa = some (.lst (sm.map VN)) := by rw [upd_ne sal]; exact hsa1
            walk_at "rd"
            refine ⟨sm.map VN, hsa2, Nat.lt_of_lt_of_le (by rw [List.length_map]; omega) (small_le (n := 100) (by decide)), ?_⟩
            refine ⟨⟨?_, ?_, bx1.ne, bx1.pl.upd.upd⟩, ?_, ⟨lf.eraseIdx x1, sm ++ [y], ?_, ?_, ?_, ?_⟩, _, rfl⟩
            · obtain ⟨i1, r1, s1, hs1, hb1⟩ := bx1.box
              exact ⟨i1, r1, s1, hs1, by rw [upd_ne sab.symm, upd_ne lab.symm]; exact hb1⟩
            · rw [upd_ne hls, upd_ne hll]; exact bx1.scr
            · rw [upd_ne sah.symm, upd_ne lah.symm]; exact hhu1
            · rw [upd_ne sal.symm, upd_same, erase_map]
            · rw [upd_same, List.map_append]; rfl
            · refine List.Perm.trans ?_ hperm
              rw [List.append_assoc]
              exact List.Perm.append_left sm (erase_perm hy).symm
            · rw [List.length_append, hlen]; rfl
          · clear bx2 hu2 la2 sa2 H2
            rintro σ H ⟨bx, hhu, ⟨lf, sm, hla, hsa, hperm, hlen⟩, a7, rfl⟩
            have hlen' : sm.length = n := hlen
            have hlf : lf = [] := by
              have := hperm.length_eq
              rw [List.length_append, List.length_range] at this
              exact List.length_eq_zero_iff.mp (by omega)
            subst hlf
            rw [List.append_nil] at hperm
            have hnd : sm.Nodup := hperm.nodup_iff.mpr List.nodup_range
            have hrg : ∀ a ∈ sm, a < n := fun a ha => List.mem_range.mp (hperm.mem_iff.mp ha)
            have hin : ∀ k, k < n → k ∈ sm := fun k hk => hperm.mem_iff.mpr (List.mem_range.mpr hk)
            have hix : ∀ k, k < n → sm[sm.idxOf k]? = some k := fun k hk => by
              have h := List.idxOf_lt_length_of_mem (hin k hk)
              rw [List.getElem?_eq_getElem h, List.getElem_idxOf h]
            clear hla lab lah sal hll
            subst hR
            dsimp only
            refine sq fun R hR => ?_
            unfold cSetL wLc
            walk_at "rd"
            refine ⟨bx.pl, ⟨by omega, by omega⟩, Ex.rfl', bx.pl, small_le (by omega), fun _ _ => trivial, fun k => some (VN (sm.idxOf k)), ?_, fun ba hba => ?_⟩
            · rintro k x H2 H3 hk e2 p2 ⟨rfl, rfl⟩
              rw [if_pos trivial]
              refine ⟨trivial, .inl ⟨rfl, _, SqL.of (e2 _ _ hsa)⟩, sm.map (fun a : Nat => (a : Int)), sm.idxOf k, ?_, ?_, ?_, ?_⟩
              · rw [List.map_map]; exact SqL.of (e2 _ _ hsa)
              · rw [List.getElem?_map, hix k hk]; rfl
              · intro m hm z
                rw [List.getElem?_map, Option.map_eq_some_iff] at z
                obtain ⟨a, ha, ea⟩ := z
                have ea' : a = k := by omega
                subst ea'
                have := M68.nodup_ix hnd ha (hix a hk)
                omega
              · exact ⟨⟨Ex.rfl', p2⟩, rfl⟩
            rw [fm_map (g := fun k => VN (sm.idxOf k)) fun _ _ => rfl]
            have hbm : (List.range n).map (fun k => VN (sm.idxOf k)) = ((List.range n).map fun k => sm.idxOf k).map VN := by rw [List.map_map]; rfl
            rw [hbm]
            have bx1 := bx.new (o := .lst (((List.range n).map fun k => sm.idxOf k).map VN)) hba
            have hu1 := Ex.new (o := .lst (((List.range n).map fun k => sm.idxOf k).map VN)) hba _ _ hhu
            have sa1 := Ex.new (o := .lst (((List.range n).map fun k => sm.idxOf k).map VN)) hba _ _ hsa
            have ba1 : (upd H ba (.lst (((List.range n).map fun k => sm.idxOf k).map VN))) ba = some (.lst (((List.range n).map fun k => sm.idxOf k).map VN)) := upd_same
            generalize upd H ba (.lst (((List.range n).map fun k => sm.idxOf k).map VN)) = H1 at bx1 hu1 sa1 ba1
            clear bx hhu hsa hba H hbm
            have hbk : ∀ i, i < n → ∃ k, ((List.range n).map fun k => sm.idxOf k)[i]? = some k ∧ sm[k]? = some i := fun i hi => ⟨sm.idxOf i, by rw [List.getElem?_map, List.getElem?_range hi]; rfl, hix i hi⟩
            have hlb : ((List.range n).map fun k => sm.idxOf k).length = n := by rw [List.length_map, List.length_range]
            have hrb : ∀ a ∈ (List.range n).map fun k => sm.idxOf k, a < n := fun a ha => by
              obtain ⟨k, hk, rfl⟩ := List.mem_map.mp ha
              have := List.idxOf_lt_length_of_mem (hin k (List.mem_range.mp hk))
              omega
            have hnn := M68.nar_nar (some := sm) (back := (List.range n).map fun k => sm.idxOf k) ht hnd hlen' hrg hlb hbk
            have hlt : M68.nar t sm < 2 ^ 2 ^ n := by have := M68.nar_lt t sm; rw [hlen'] at this; exact this
            subst hR
            refine sq fun R hR => ?_
            walk_at "rd"
            refine ⟨t, n, sa, sm, rfl, ht, hn, SqL.of sa1, by omega, hrg, bx1.pl, ?_⟩
            refine ⟨M68.nar t sm, n, ba, _, rfl, hlt, hn, SqL.of ba1, by omega, hrb, bx1.pl, ?_⟩
            rw [hnn]
            walk_at "rd"
            refine ⟨rfl, ?_⟩
            rw [if_neg (by simp)]
            clear hnn hlt hbk hlb hrb hix hin hrg hnd hperm
            subst hR
            refine sq fun R hR => ?_
            unfold cSetL wLc
            walk_at "rd"
            have hsq : ∀ H2, Ex H1 H2 → SqL K H2 hu (((supp t n).map fun a : Nat => (a : Int)).map V.int) := fun H2 e => by rw [List.map_map]; exact SqL.of (e _ _ hu1)
            refine ⟨bx1.pl, ⟨by omega, by omega⟩, Ex.rfl', bx1.pl, small_le (by omega), fun _ _ => trivial, fun k => if decide (M68.half0 t n k ≠ M68.half1 t n k) = true then some (VN k) else none, ?_, fun pa hpa => ?_⟩
            · rintro k x H2 H3 hk e2 p2 ⟨rfl, rfl⟩
              refine ⟨trivial, _, .inl (hsq _ e2), ?_⟩
              have hmem : decide ((k : Int) ∈ (supp t n).map fun a : Nat => (a : Int)) = decide (M68.half0 t n k ≠ M68.half1 t n k) := mem_supp hk
              rw [hmem]
              walk_at "rd"
              by_cases z : M68.half0 t n k = M68.half1 t n k
              · rw [if_neg (by simp [z])]
                exact ⟨⟨Ex.rfl', p2⟩, if_neg fun h => h z⟩
              · rw [if_pos (by simp [z])]
                exact ⟨⟨Ex.rfl', p2⟩, if_pos z⟩
            rw [fm_filter]
            have bx2 := bx1.new (o := .lst ((supp t n).map VN)) hpa
            have pa2 : (upd H1 pa (.lst ((supp t n).map VN))) pa = some (.lst ((supp t n).map VN)) := upd_same
            show R _ (upd H1 pa (.lst ((supp t n).map VN)))
            generalize upd H1 pa (.lst ((supp t n).map VN)) = H2 at bx2 pa2
            clear bx1 hu1 sa1 ba1 hpa hsq H1
            subst hR
            refine sq fun R hR => ?_
            walk_at "rd"
            have hS : ∀ a ∈ supp t n, a < n := fun a ha => by
              unfold supp at ha
              exact List.mem_range.mp (List.mem_filter.mp ha).1
            have hSn : (supp t n).Nodup := List.Pairwise.filter _ List.nodup_range
            have hSl : (supp t n).length ≤ n := by
              have := List.length_filter_le (fun a => decide (M68.half0 t n a ≠ M68.half1 t n a)) (List.range n)
              rw [List.length_range] at this
              exact this
            have hSm : ∀ a, a ∈ supp t n ↔ a < n ∧ M68.half0 t n a ≠ M68.half1 t n a := fun a => by
              unfold supp
              rw [List.mem_filter, List.mem_range]
              exact and_congr_right fun _ => decide_eq_true_iff
            have hh : ∀ j, j < (supp t n).length → M68.half0 (M68.nar t (supp t n)) (supp t n).length j ≠ M68.half1 (M68.nar t (supp t n)) (supp t n).length j := fun j hj => M68.nar_hangs ht hSn hSm hj
            have hz := M68.nar_lt t (supp t n)
            refine ⟨t, n, pa, supp t n, rfl, ht, hn, SqL.of pa2, by omega, hS, bx2.pl, ?_⟩
            generalize M68.nar t (supp t n) = z at hh hz
            generalize hm : (supp t n).length = m at hh hz hSl
            have pl2 := bx2.pl
            have sqp : SqL K H2 pa ((supp t n).map VN) := SqL.of pa2
            have hml : ((supp t n).map VN).length = m := by rw [List.length_map]; exact hm
            subst hR
            refine sq fun R hR => ?_
            walk_at "rd"
            refine len_sql sqp ?_
            rw [hml]
            refine ⟨z, m, rfl, hz, by omega, pl2, fun qa hqa => ?_⟩
            walk_at "rd"
            refine len_lst upd_same ?_
            refine len_sql ((Ex.new hqa).sql sqp) ?_
            have hs2 : (supp z m).length = m := by
              have e : supp z m = List.range m := by
                unfold supp
                rw [List.filter_eq_self]
                intro a ha
                exact decide_eq_true (hh a (List.mem_range.mp ha))
              rw [e, List.length_range]
            rw [hml, List.length_map, hs2]
            walk_at "rd"
            refine ⟨rfl, ?_⟩
            rw [if_neg (by simp)]
            have bx3 := bx2.new (o := .lst ((supp z m).map VN)) hqa
            have sqp3 := (Ex.new (o := .lst ((supp z m).map VN)) hqa).sql sqp
            generalize upd H2 qa (.lst ((supp z m).map VN)) = H3 at bx3 sqp3
            clear bx2 pa2 sqp pl2 hqa hh hs2 H2
            subst hR
            walk_at "rd"
            refine len_sql sqp3 ?_
            rw [hml]
            refine ⟨z, m, rfl, hz, by omega, bx3.pl, ?_⟩
            refine ⟨z, m, rfl, hz, by omega, bx3.pl, fun H4 q1 e4 p4 hq1 => ?_⟩
            walk_at "rd"
            refine len_sql (e4.sql sqp3) ?_
            rw [hml]
            refine ⟨by decide, fun q2 hq2 => ?_⟩
            refine ⟨.tuple [.int z, .int m], .tuple [.int z, .int m], .tup (SqT.of (Ex.new hq2 _ _ hq1)) (.cons (.int _) (.cons (.int _) .nil)), .tup (SqT.of upd_same) (.cons (.int _) (.cons (.int _) .nil)), rfl, rfl, ?_⟩
            have ev : PyData.eqv (.tuple [.int (z : Int), .int (m : Int)]) (.tuple [.int (z : Int), .int (m : Int)]) = true := SeqAt.eqv_refl _ rfl
            rw [ev]
            show (if (!true) = true then _ else _)
            rw [if_neg (by decide)]
            exact ⟨(bx3.ex e4 p4).new hq2, _, rfl, rfl⟩
      walk_at "rd"
      refine take_bx (m := 2) (wd := 1) bxc (by decide) (by decide) (by decide) fun x1 H1 hx1 bx1 k1 _ => ⟨rfl, ?_⟩
      by_cases hx0 : (V.int (x1 : Int)) = V.int 0
      · rw [if_pos hx0]
        refine ⟨⟨by decide, shl1 (by omega)⟩, ?_⟩
        exact take_bx (wd := 2 ^ n) bx1 (Nat.two_pow_pos _) (Nat.le_refl _) (by omega) fun x2 H2 hx2 bx2 k2 _ => key x2 H2 hx2 bx2
      · rw [if_neg hx0]
        exact key v H1 hlt bx1
  · rintro σ H ⟨_, τ, rfl, _⟩
    subst hR
    walk_at "rd"
    exact q H
end
end K68
namespace K68
open PySem PySem.Spec PyProof.Rows L2 Gm
theorem all_mk {l : PySem.W.OpenLaw} {w : World} {K : PySem.W.Frag} {h : Heap} {mg : Str → Option Value} {fa : Addr} (X : K.In h) (G : h.Ns mainGlobals mg) (hfa : mg "law" = some (.ref fa))
    {f1 : Addr} {od1 an1 : Option Addr} {sl1 : Array (Option Value)} {oc1 kV1 dc1 pm1 cd1 ct1 : Value} (a1 : PySem.W.nsIn K mainGlobals "need_things" = some (some (.ref f1))) (l1 : K.lookup f1 = some ⟨oc1, od1, .func (PySem.W.fnOf "need_things" "need_things" (C8.fnArgs s_need_things) (C8.fnBody s_need_things) (C8.fnScope s_need_things) .none kV1 dc1 pm1 an1 cd1 ct1), sl1⟩) (c1 : PySem.W.codeIn K cd1 "need_things" = true) (k1 : PySem.W.keepIn K (.ref f1) = true)
    {f2 : Addr} {od2 an2 : Option Addr} {sl2 : Array (Option Value)} {oc2 kV2 dc2 pm2 cd2 ct2 : Value} (a2 : PySem.W.nsIn K mainGlobals "need_table" = some (some (.ref f2))) (l2 : K.lookup f2 = some ⟨oc2, od2, .func (PySem.W.fnOf "need_table" "need_table" (C8.fnArgs s_need_table) (C8.fnBody s_need_table) (C8.fnScope s_need_table) .none kV2 dc2 pm2 an2 cd2 ct2), sl2⟩) (c2 : PySem.W.codeIn K cd2 "need_table" = true) (k2 : PySem.W.keepIn K (.ref f2) = true)
    {f3 : Addr} {od3 an3 : Option Addr} {sl3 : Array (Option Value)} {oc3 kV3 dc3 pm3 cd3 ct3 : Value} (a3 : PySem.W.nsIn K mainGlobals "need_thing" = some (some (.ref f3))) (l3 : K.lookup f3 = some ⟨oc3, od3, .func (PySem.W.fnOf "need_thing" "need_thing" (C8.fnArgs s_need_thing) (C8.fnBody s_need_thing) (C8.fnScope s_need_thing) .none kV3 dc3 pm3 an3 cd3 ct3), sl3⟩) (c3 : PySem.W.codeIn K cd3 "need_thing" = true) (k3 : PySem.W.keepIn K (.ref f3) = true)
    {f4 : Addr} {od4 an4 : Option Addr} {sl4 : Array (Option Value)} {oc4 kV4 dc4 pm4 cd4 ct4 : Value} (a4 : PySem.W.nsIn K mainGlobals "full_of" = some (some (.ref f4))) (l4 : K.lookup f4 = some ⟨oc4, od4, .func (PySem.W.fnOf "full_of" "full_of" (C8.fnArgs s_full_of) (C8.fnBody s_full_of) (C8.fnScope s_full_of) .none kV4 dc4 pm4 an4 cd4 ct4), sl4⟩) (c4 : PySem.W.codeIn K cd4 "full_of" = true) (k4 : PySem.W.keepIn K (.ref f4) = true)
    {f5 : Addr} {od5 an5 : Option Addr} {sl5 : Array (Option Value)} {oc5 kV5 dc5 pm5 cd5 ct5 : Value} (a5 : PySem.W.nsIn K mainGlobals "column_of" = some (some (.ref f5))) (l5 : K.lookup f5 = some ⟨oc5, od5, .func (PySem.W.fnOf "column_of" "column_of" (C8.fnArgs s_column_of) (C8.fnBody s_column_of) (C8.fnScope s_column_of) .none kV5 dc5 pm5 an5 cd5 ct5), sl5⟩) (c5 : PySem.W.codeIn K cd5 "column_of" = true) (k5 : PySem.W.keepIn K (.ref f5) = true)
    {f6 : Addr} {od6 an6 : Option Addr} {sl6 : Array (Option Value)} {oc6 kV6 dc6 pm6 cd6 ct6 : Value} (a6 : PySem.W.nsIn K mainGlobals "half_of" = some (some (.ref f6))) (l6 : K.lookup f6 = some ⟨oc6, od6, .func (PySem.W.fnOf "half_of" "half_of" (C8.fnArgs s_half_of) (C8.fnBody s_half_of) (C8.fnScope s_half_of) .none kV6 dc6 pm6 an6 cd6 ct6), sl6⟩) (c6 : PySem.W.codeIn K cd6 "half_of" = true) (k6 : PySem.W.keepIn K (.ref f6) = true)
    {f7 : Addr} {od7 an7 : Option Addr} {sl7 : Array (Option Value)} {oc7 kV7 dc7 pm7 cd7 ct7 : Value} (a7 : PySem.W.nsIn K mainGlobals "support_of" = some (some (.ref f7))) (l7 : K.lookup f7 = some ⟨oc7, od7, .func (PySem.W.fnOf "support_of" "support_of" (C8.fnArgs s_support_of) (C8.fnBody s_support_of) (C8.fnScope s_support_of) .none kV7 dc7 pm7 an7 cd7 ct7), sl7⟩) (c7 : PySem.W.codeIn K cd7 "support_of" = true) (k7 : PySem.W.keepIn K (.ref f7) = true)
    {f8 : Addr} {od8 an8 : Option Addr} {sl8 : Array (Option Value)} {oc8 kV8 dc8 pm8 cd8 ct8 : Value} (a8 : PySem.W.nsIn K mainGlobals "column" = some (some (.ref f8))) (l8 : K.lookup f8 = some ⟨oc8, od8, .func (PySem.W.fnOf "column" "column" (C8.fnArgs s_column) (C8.fnBody s_column) (C8.fnScope s_column) .none kV8 dc8 pm8 an8 cd8 ct8), sl8⟩) (c8 : PySem.W.codeIn K cd8 "column" = true) (k8 : PySem.W.keepIn K (.ref f8) = true)
    {f9 : Addr} {od9 an9 : Option Addr} {sl9 : Array (Option Value)} {oc9 kV9 dc9 pm9 cd9 ct9 : Value} (a9 : PySem.W.nsIn K mainGlobals "hung_on" = some (some (.ref f9))) (l9 : K.lookup f9 = some ⟨oc9, od9, .func (PySem.W.fnOf "hung_on" "hung_on" (C8.fnArgs s_hung_on) (C8.fnBody s_hung_on) (C8.fnScope s_hung_on) .none kV9 dc9 pm9 an9 cd9 ct9), sl9⟩) (c9 : PySem.W.codeIn K cd9 "hung_on" = true) (k9 : PySem.W.keepIn K (.ref f9) = true)
    {f10 : Addr} {od10 an10 : Option Addr} {sl10 : Array (Option Value)} {oc10 kV10 dc10 pm10 cd10 ct10 : Value} (a10 : PySem.W.nsIn K mainGlobals "turned" = some (some (.ref f10))) (l10 : K.lookup f10 = some ⟨oc10, od10, .func (PySem.W.fnOf "turned" "turned" (C8.fnArgs s_turned) (C8.fnBody s_turned) (C8.fnScope s_turned) .none kV10 dc10 pm10 an10 cd10 ct10), sl10⟩) (c10 : PySem.W.codeIn K cd10 "turned" = true) (k10 : PySem.W.keepIn K (.ref f10) = true)
    {f11 : Addr} {od11 an11 : Option Addr} {sl11 : Array (Option Value)} {oc11 kV11 dc11 pm11 cd11 ct11 : Value} (a11 : PySem.W.nsIn K mainGlobals "narrowed" = some (some (.ref f11))) (l11 : K.lookup f11 = some ⟨oc11, od11, .func (PySem.W.fnOf "narrowed" "narrowed" (C8.fnArgs s_narrowed) (C8.fnBody s_narrowed) (C8.fnScope s_narrowed) .none kV11 dc11 pm11 an11 cd11 ct11), sl11⟩) (c11 : PySem.W.codeIn K cd11 "narrowed" = true) (k11 : PySem.W.keepIn K (.ref f11) = true)
    {f12 : Addr} {od12 an12 : Option Addr} {sl12 : Array (Option Value)} {oc12 kV12 dc12 pm12 cd12 ct12 : Value} (a12 : PySem.W.nsIn K mainGlobals "table_text" = some (some (.ref f12))) (l12 : K.lookup f12 = some ⟨oc12, od12, .func (PySem.W.fnOf "table_text" "table_text" (C8.fnArgs s_table_text) (C8.fnBody s_table_text) (C8.fnScope s_table_text) .none kV12 dc12 pm12 an12 cd12 ct12), sl12⟩) (c12 : PySem.W.codeIn K cd12 "table_text" = true) (k12 : PySem.W.keepIn K (.ref f12) = true)
    {f13 : Addr} {od13 an13 : Option Addr} {sl13 : Array (Option Value)} {oc13 kV13 dc13 pm13 cd13 ct13 : Value} (a13 : PySem.W.nsIn K mainGlobals "read_table" = some (some (.ref f13))) (l13 : K.lookup f13 = some ⟨oc13, od13, .func (PySem.W.fnOf "read_table" "read_table" (C8.fnArgs s_read_table) (C8.fnBody s_read_table) (C8.fnScope s_read_table) .none kV13 dc13 pm13 an13 cd13 ct13), sl13⟩) (c13 : PySem.W.codeIn K cd13 "read_table" = true) (k13 : PySem.W.keepIn K (.ref f13) = true)
    {f14 : Addr} {od14 an14 : Option Addr} {sl14 : Array (Option Value)} {oc14 kV14 dc14 pm14 cd14 ct14 : Value} (a14 : PySem.W.nsIn K mainGlobals "_law_box" = some (some (.ref f14))) (l14 : K.lookup f14 = some ⟨oc14, od14, .func (PySem.W.fnOf "_law_box" "_law_box" (C8.fnArgs s__law_box) (C8.fnBody s__law_box) (C8.fnScope s__law_box) .none kV14 dc14 pm14 an14 cd14 ct14), sl14⟩) (c14 : PySem.W.codeIn K cd14 "_law_box" = true) (k14 : PySem.W.keepIn K (.ref f14) = true)
    {f15 : Addr} {od15 an15 : Option Addr} {sl15 : Array (Option Value)} {oc15 kV15 dc15 pm15 cd15 ct15 : Value} (a15 : PySem.W.nsIn K mainGlobals "_law_take" = some (some (.ref f15))) (l15 : K.lookup f15 = some ⟨oc15, od15, .func (PySem.W.fnOf "_law_take" "_law_take" (C8.fnArgs s__law_take) (C8.fnBody s__law_take) (C8.fnScope s__law_take) .none kV15 dc15 pm15 an15 cd15 ct15), sl15⟩) (c15 : PySem.W.codeIn K cd15 "_law_take" = true) (k15 : PySem.W.keepIn K (.ref f15) = true)
    {f16 : Addr} {od16 an16 : Option Addr} {sl16 : Array (Option Value)} {oc16 kV16 dc16 pm16 cd16 ct16 : Value} (a16 : PySem.W.nsIn K mainGlobals "_law_bit" = some (some (.ref f16))) (l16 : K.lookup f16 = some ⟨oc16, od16, .func (PySem.W.fnOf "_law_bit" "_law_bit" (C8.fnArgs s__law_bit) (C8.fnBody s__law_bit) (C8.fnScope s__law_bit) .none kV16 dc16 pm16 an16 cd16 ct16), sl16⟩) (c16 : PySem.W.codeIn K cd16 "_law_bit" = true) (k16 : PySem.W.keepIn K (.ref f16) = true)
    {f17 : Addr} {od17 an17 : Option Addr} {sl17 : Array (Option Value)} {oc17 kV17 dc17 pm17 cd17 ct17 : Value} (a17 : PySem.W.nsIn K mainGlobals "law" = some (some (.ref f17))) (l17 : K.lookup f17 = some ⟨oc17, od17, .func (PySem.W.fnOf "law" "law" (C8.fnArgs s_law) (C8.fnBody s_law) (C8.fnScope s_law) .none kV17 dc17 pm17 an17 cd17 ct17), sl17⟩) (c17 : PySem.W.codeIn K cd17 "law" = true) (k17 : PySem.W.keepIn K (.ref f17) = true)
    {f18 D18 : Addr} {od18 an18 : Option Addr} {sl18 : Array (Option Value)} {oc18 dc18 pm18 cd18 ct18 u18 : Value} (a18 : PySem.W.nsIn K mainGlobals "half" = some (some (.ref f18))) (l18 : K.lookup f18 = some ⟨oc18, od18, .func (PySem.W.fnOf "half" "half" (C8.fnArgs s_half) (C8.fnBody s_half) (C8.fnScope s_half) .none (.ref D18) dc18 pm18 an18 cd18 ct18), sl18⟩) (c18 : PySem.W.codeIn K cd18 "half" = true) (k18 : PySem.W.keepIn K (.ref f18) = true) (d18 : PySem.W.nsIn K D18 "value" = some (some u18)) (r18 : RelV (.int 1) u18)
    {u19 : Value} (a19 : PySem.W.nsIn K mainGlobals "MOST_THINGS" = some (some u19)) (r19 : RelV (.int 10) u19)
    (a20 : PySem.W.nsIn K mainGlobals "range" = some none)
    (a21 : PySem.W.nsIn K mainGlobals "len" = some none)
    (a22 : PySem.W.nsIn K mainGlobals "sum" = some none)
    (a23 : PySem.W.nsIn K mainGlobals "enumerate" = some none)
    (a24 : PySem.W.nsIn K mainGlobals "reversed" = some none)
    (a25 : PySem.W.nsIn K mainGlobals "str" = some none)
    (a26 : PySem.W.nsIn K mainGlobals "int" = some none)
    (a27 : PySem.W.nsIn K mainGlobals "all" = some none)
    (a28 : PySem.W.nsIn K mainGlobals "list" = some none)
    (a29 : PySem.W.nsIn K cStatics (Str.ofString "sys.int_max_str_digits") = some none)
    : ∃ fd : FuncData, (∀ (s : Shared) (v : Value), BindsTo s fd ⟨[v], []⟩ [("script", v)]) ∧ ∀ base : Heap, K.In base → base.Ns mainGlobals mg → FnOk l.prog w K mg base C8.CX0 6 fa fd ["script"] (sp_law (K := K)) := by
  have e := hfa.symm.trans (PySem.W.mg_of X G a17)
  cases e
  have T : Txt K mg := {
    d_need_things := mkD X G a1 l1 c1 k1 fun _ _ _ _ _ _ us hl => match us, hl with | [_], _ => rfl,
    d_need_table := mkD X G a2 l2 c2 k2 fun _ _ _ _ _ _ us hl => match us, hl with | [_, _], _ => rfl,
    d_need_thing := mkD X G a3 l3 c3 k3 fun _ _ _ _ _ _ us hl => match us, hl with | [_, _], _ => rfl,
    d_full_of := mkD X G a4 l4 c4 k4 fun _ _ _ _ _ _ us hl => match us, hl with | [_], _ => rfl,
    d_column_of := mkD X G a5 l5 c5 k5 fun _ _ _ _ _ _ us hl => match us, hl with | [_, _], _ => rfl,
    d_half_of := mkD X G a6 l6 c6 k6 fun _ _ _ _ _ _ us hl => match us, hl with | [_, _, _, _], _ => rfl,
    d_support_of := mkD X G a7 l7 c7 k7 fun _ _ _ _ _ _ us hl => match us, hl with | [_, _], _ => rfl,
    d_column := mkD X G a8 l8 c8 k8 fun _ _ _ _ _ _ us hl => match us, hl with | [_, _], _ => rfl,
    d_hung_on := mkD X G a9 l9 c9 k9 fun _ _ _ _ _ _ us hl => match us, hl with | [_, _], _ => rfl,
    d_turned := mkD X G a10 l10 c10 k10 fun _ _ _ _ _ _ us hl => match us, hl with | [_, _, _], _ => rfl,
    d_narrowed := mkD X G a11 l11 c11 k11 fun _ _ _ _ _ _ us hl => match us, hl with | [_, _, _], _ => rfl,
    d_table_text := mkD X G a12 l12 c12 k12 fun _ _ _ _ _ _ us hl => match us, hl with | [_, _], _ => rfl,
    d_read_table := mkD X G a13 l13 c13 k13 fun _ _ _ _ _ _ us hl => match us, hl with | [_], _ => rfl,
    d__law_box := mkD X G a14 l14 c14 k14 fun _ _ _ _ _ _ us hl => match us, hl with | [_], _ => rfl,
    d__law_take := mkD X G a15 l15 c15 k15 fun _ _ _ _ _ _ us hl => match us, hl with | [_, _], _ => rfl,
    d__law_bit := mkD X G a16 l16 c16 k16 fun _ _ _ _ _ _ us hl => match us, hl with | [_, _], _ => rfl,
    d_half := mkKw (n := 3) X G a18 l18 c18 k18 d18 r18 rfl (fun _ _ _ _ _ _ us ks h1 h2 => match us, ks, h1, h2 with | [_, _, _], [_], _, _ => ⟨_, _, _, _, _, _, rfl, rfl, rfl⟩) (fun _ _ _ _ _ _ us ws h1 h2 => match us, ws, h1, h2 with | [_, _, _], [_], _, _ => rfl),
    g_MOST_THINGS := ⟨_, PySem.W.mg_of X G a19, r19⟩,
    n_range := PySem.W.mg_none_of X G a20,
    n_len := PySem.W.mg_none_of X G a21,
    n_sum := PySem.W.mg_none_of X G a22,
    n_enumerate := PySem.W.mg_none_of X G a23,
    n_reversed := PySem.W.mg_none_of X G a24,
    n_str := PySem.W.mg_none_of X G a25,
    n_int := PySem.W.mg_none_of X G a26,
    n_all := PySem.W.mg_none_of X G a27,
    n_list := PySem.W.mg_none_of X G a28,
    z_dig := a29 }
  have F := mkDef (st := s_law) X G a17 l17 c17 k17
  exact ⟨_, fun s v => .of_eq rfl, fun base _ _ => fn_law T F.fn⟩
theorem only_plain {H : Hp} (h : Only H) : Plain H := ⟨fun a o e => by
    rcases h a with z | ⟨ob, xs, z⟩
    · rw [z] at e; cases e
    · rw [z] at e; cases e; rfl, fun a o e => by
    rcases h a with z | ⟨ob, xs, z⟩
    · rw [z] at e; cases e
    · rw [z] at e; cases e; rfl⟩
end K68
open PySem PySem.W PyProof.Rows
set_option maxRecDepth 100000 in
set_option maxHeartbeats 0 in
theorem PySem.Challenge.cw_gatemill_k68_whole_halves_make_the_table_holds : PySem.Challenge.rw_gatemill_k68_whole_halves_make_the_table.Holds := by
  w_on; o_law; k_head; (case hw => w_witness2)
  k_fill
  refine L2.walk_of (l := PySem.Challenge.rw_gatemill_k68_whole_halves_make_the_table) (n := 63) (k := 6) (x := "script") (CX := fun _ => C8.CX0) (sp := fun w => K68.sp_law (K := _)) rfl (by decide) rfl ⟨rfl, by decide, by decide⟩ (fun w h Y => PySem.W.kIn_of Y) ?F (fun _ H a ns hl ho hS => ⟨a, ns, rfl, hS, hl, K68.only_plain ho, fun _ => rfl⟩) (fun _ _ _ _ _ h => h)
  case F =>
    intro w mg fa h KX G hmg
    refine' K68.all_mk KX G hmg ?a1 ?l1 ?c1 ?k1 ?a2 ?l2 ?c2 ?k2 ?a3 ?l3 ?c3 ?k3 ?a4 ?l4 ?c4 ?k4 ?a5 ?l5 ?c5 ?k5 ?a6 ?l6 ?c6 ?k6 ?a7 ?l7 ?c7 ?k7 ?a8 ?l8 ?c8 ?k8 ?a9 ?l9 ?c9 ?k9 ?a10 ?l10 ?c10 ?k10 ?a11 ?l11 ?c11 ?k11 ?a12 ?l12 ?c12 ?k12 ?a13 ?l13 ?c13 ?k13 ?a14 ?l14 ?c14 ?k14 ?a15 ?l15 ?c15 ?k15 ?a16 ?l16 ?c16 ?k16 ?a17 ?l17 ?c17 ?k17 ?a18 ?l18 ?c18 ?k18 ?d18 ?r18 ?a19 ?r19 ?a20 ?a21 ?a22 ?a23 ?a24 ?a25 ?a26 ?a27 ?a28 ?a29
    (case a1 => k_is)
    (case l1 => k_is)
    (case c1 => k_is)
    (case k1 => k_is)
    (case a2 => k_is)
    (case l2 => k_is)
    (case c2 => k_is)
    (case k2 => k_is)
    (case a3 => k_is)
    (case l3 => k_is)
    (case c3 => k_is)
    (case k3 => k_is)
    (case a4 => k_is)
    (case l4 => k_is)
    (case c4 => k_is)
    (case k4 => k_is)
    (case a5 => k_is)
    (case l5 => k_is)
    (case c5 => k_is)
    (case k5 => k_is)
    (case a6 => k_is)
    (case l6 => k_is)
    (case c6 => k_is)
    (case k6 => k_is)
    (case a7 => k_is)
    (case l7 => k_is)
    (case c7 => k_is)
    (case k7 => k_is)
    (case a8 => k_is)
    (case l8 => k_is)
    (case c8 => k_is)
    (case k8 => k_is)
    (case a9 => k_is)
    (case l9 => k_is)
    (case c9 => k_is)
    (case k9 => k_is)
    (case a10 => k_is)
    (case l10 => k_is)
    (case c10 => k_is)
    (case k10 => k_is)
    (case a11 => k_is)
    (case l11 => k_is)
    (case c11 => k_is)
    (case k11 => k_is)
    (case a12 => k_is)
    (case l12 => k_is)
    (case c12 => k_is)
    (case k12 => k_is)
    (case a13 => k_is)
    (case l13 => k_is)
    (case c13 => k_is)
    (case k13 => k_is)
    (case a14 => k_is)
    (case l14 => k_is)
    (case c14 => k_is)
    (case k14 => k_is)
    (case a15 => k_is)
    (case l15 => k_is)
    (case c15 => k_is)
    (case k15 => k_is)
    (case a16 => k_is)
    (case l16 => k_is)
    (case c16 => k_is)
    (case k16 => k_is)
    (case a17 => k_is)
    (case l17 => k_is)
    (case c17 => k_is)
    (case k17 => k_is)
    (case a18 => k_is)
    (case l18 => k_is)
    (case c18 => k_is)
    (case k18 => k_is)
    (case d18 => k_is)
    (case r18 => first | exact rfl | exact ⟨_, rfl⟩)
    (case a19 => k_is)
    (case r19 => first | exact rfl | exact ⟨_, rfl⟩)
    (case a20 => k_is)
    (case a21 => k_is)
    (case a22 => k_is)
    (case a23 => k_is)
    (case a24 => k_is)
    (case a25 => k_is)
    (case a26 => k_is)
    (case a27 => k_is)
    (case a28 => k_is)
    (case a29 => k_is)
