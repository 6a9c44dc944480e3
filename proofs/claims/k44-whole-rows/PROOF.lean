import PyProof.Rows.All
import Wide.All
import OpenK.AllK
import Wide.FinOn
import HandS.ForMost
import HandS.Conv
import HandS.Wide
import HandS.TupAny
import HandS.Zip
import HandS.Flow
import KE.KDictKeyed
import PySem.Challenge.RW_evenpoints_k44_whole_rows_keep_their_bou
set_option Elab.async false
set_option linter.all false
/-! The plain law: how many of N numbers in a row have turned figures below a bound. No program in sight. -/
namespace Ev

/-! ### counting over a row of numbers -/
def pc (P : Nat → Bool) : Nat → Nat
  | 0 => 0
  | n + 1 => pc P n + (if P n = true then 1 else 0)

theorem pc_congr {P Q : Nat → Bool} (h : ∀ n, P n = Q n) : ∀ x, pc P x = pc Q x
  | 0 => rfl
  | x + 1 => by
    show pc P x + _ = pc Q x + _
    rw [pc_congr h x, h x]
theorem pc_or {P Q R : Nat → Bool} (h : ∀ n, P n = (Q n || R n)) (d : ∀ n, Q n = true → R n = true → False) : ∀ x, pc P x = pc Q x + pc R x
  | 0 => rfl
  | x + 1 => by
    show pc P x + _ = (pc Q x + _) + (pc R x + _)
    rw [pc_or h d x, h x]
    have dx := d x
    cases hq : Q x <;> cases hr : R x <;> simp_all <;> omega
theorem pc_true : ∀ x, pc (fun _ => true) x = x
  | 0 => rfl
  | x + 1 => by
    show pc _ x + _ = x + 1
    rw [pc_true x]
    rfl
theorem pc_false : ∀ x, pc (fun _ => false) x = 0
  | 0 => rfl
  | x + 1 => by
    show pc _ x + _ = 0
    rw [pc_false x]
    rfl
theorem pc_step_mono {P : Nat → Bool} (a : Nat) : ∀ N, pc P a ≤ pc P (a + N)
  | 0 => Nat.le_refl _
  | N + 1 => by
    have h := pc_step_mono (P := P) a N
    show pc P a ≤ pc P (a + N) + _
    omega
/-- over a window: P within Q -/
theorem pc_win_le {P Q : Nat → Bool} (a : Nat) : ∀ N, (∀ i, i < N → P (a + i) = true → Q (a + i) = true) → pc P (a + N) + pc Q a ≤ pc Q (a + N) + pc P a
  | 0, _ => by
    show pc P a + pc Q a ≤ pc Q a + pc P a
    omega
  | N + 1, h => by
    have ih := pc_win_le (P := P) (Q := Q) a N fun i hi => h i (by omega)
    have hN := h N (by omega)
    show (pc P (a + N) + (if P (a + N) = true then 1 else 0)) + pc Q a ≤ (pc Q (a + N) + (if Q (a + N) = true then 1 else 0)) + pc P a
    cases hp : P (a + N) <;> cases hq : Q (a + N) <;> simp_all <;> omega
theorem pc_win_len {P : Nat → Bool} (a : Nat) : ∀ N, pc P (a + N) ≤ pc P a + N
  | 0 => Nat.le_refl _
  | N + 1 => by
    have ih := pc_win_len (P := P) a N
    show pc P (a + N) + (if P (a + N) = true then 1 else 0) ≤ _
    split <;> omega
/-- the numbers with one lowest figure -/
theorem pc_res {b d : Nat} (hb : 0 < b) (hd : d < b) (Q : Nat → Bool) : ∀ x, pc (fun n => decide (n % b = d) && Q (n / b)) x = pc Q ((x + (b - 1 - d)) / b)
  | 0 => by
    have e : (0 + (b - 1 - d)) / b = 0 := Nat.div_eq_of_lt (by omega)
    rw [e]
    rfl
  | x + 1 => by
    have ih := pc_res hb hd Q x
    show pc (fun n => decide (n % b = d) && Q (n / b)) x + (if (decide (x % b = d) && Q (x / b)) = true then 1 else 0) = _
    rw [ih]
    have hx := Nat.div_add_mod x b
    have hr := Nat.mod_lt x hb
    generalize x / b = q at *
    generalize x % b = r at *
    by_cases e : r = d
    · have e1 : (x + (b - 1 - d)) / b = q := by
        have z : x + (b - 1 - d) = (r + (b - 1 - d)) + b * q := by omega
        rw [z, Nat.add_mul_div_left _ _ hb, Nat.div_eq_of_lt (by omega)]
        omega
      have e2 : (x + 1 + (b - 1 - d)) / b = q + 1 := by
        have z : x + 1 + (b - 1 - d) = 0 + b * (q + 1) := by
          rw [Nat.mul_add]
          omega
        rw [z, Nat.add_mul_div_left _ _ hb, Nat.zero_div]
        omega
      rw [e1, e2, decide_eq_true e]
      rfl
    · have e0 : (x + 1 + (b - 1 - d)) / b = (x + (b - 1 - d)) / b := by
        by_cases h : r < d
        · have z : x + (b - 1 - d) = (r + (b - 1 - d)) + b * q := by omega
          have z2 : x + 1 + (b - 1 - d) = (r + 1 + (b - 1 - d)) + b * q := by omega
          rw [z, z2, Nat.add_mul_div_left _ _ hb, Nat.add_mul_div_left _ _ hb, Nat.div_eq_of_lt (show r + (b - 1 - d) < b by omega), Nat.div_eq_of_lt (show r + 1 + (b - 1 - d) < b by omega)]
        · have z : x + (b - 1 - d) = (r - d - 1) + b * (q + 1) := by
            rw [Nat.mul_add]
            omega
          have z2 : x + 1 + (b - 1 - d) = (r - d) + b * (q + 1) := by
            rw [Nat.mul_add]
            omega
          rw [z, z2, Nat.add_mul_div_left _ _ hb, Nat.add_mul_div_left _ _ hb, Nat.div_eq_of_lt (show r - d - 1 < b by omega), Nat.div_eq_of_lt (show r - d < b by omega)]
      rw [e0, decide_eq_false e]
      rfl
theorem pc_res1 {b d : Nat} (hb : 0 < b) (hd : d < b) (x : Nat) : pc (fun n => decide (n % b = d)) x = (x + (b - 1 - d)) / b := by
  have h := pc_res hb hd (fun _ => true) x
  rw [pc_true] at h
  rw [← h]
  exact pc_congr (fun n => (Bool.and_true _).symm) x

/-! ### figures turned about -/
/-- an exchange of b figures -/
structure Ex (b : Nat) (e : Nat → Nat) : Prop where
  two : 2 ≤ b
  zero : e 0 = 0
  lt : ∀ d, d < b → e d < b
  one : ∀ c, c < b → ∃ d, d < b ∧ ∀ d', d' < b → (e d' = c ↔ d' = d)
/-- the first m figures, turned about, over b ^ m -/
def R (b : Nat) (e : Nat → Nat) : Nat → Nat → Nat
  | 0, _ => 0
  | m + 1, n => e (n % b) * b ^ m + R b e m (n / b)

section
variable {b : Nat} {e : Nat → Nat} (X : Ex b e)
include X
theorem Ex.pos : 0 < b := by have := X.two; omega
theorem R_lt : ∀ m n, R b e m n < b ^ m
  | 0, n => by
    show 0 < b ^ 0
    exact Nat.one_pos
  | m + 1, n => by
    have h := R_lt m (n / b)
    have h2 := X.lt (n % b) (Nat.mod_lt _ X.pos)
    show e (n % b) * b ^ m + R b e m (n / b) < b ^ (m + 1)
    rw [Nat.pow_succ, Nat.mul_comm (b ^ m) b]
    calc e (n % b) * b ^ m + R b e m (n / b) < e (n % b) * b ^ m + b ^ m := by omega
      _ = (e (n % b) + 1) * b ^ m := by rw [Nat.add_mul, Nat.one_mul]
      _ ≤ b * b ^ m := Nat.mul_le_mul_right _ h2
theorem R_zero : ∀ m, R b e m 0 = 0
  | 0 => rfl
  | m + 1 => by
    show e (0 % b) * b ^ m + R b e m (0 / b) = 0
    rw [Nat.zero_mod, Nat.zero_div, X.zero, R_zero m, Nat.zero_mul]
theorem R_add (k : Nat) : ∀ m n, R b e (m + k) n = R b e m n * b ^ k + R b e k (n / b ^ m)
  | 0, n => by
    rw [Nat.zero_add, Nat.pow_zero, Nat.div_one]
    show _ = 0 * b ^ k + _
    omega
  | m + 1, n => by
    have ih := R_add k m (n / b)
    have e1 : m + 1 + k = (m + k) + 1 := by omega
    rw [e1]
    show e (n % b) * b ^ (m + k) + R b e (m + k) (n / b) = (e (n % b) * b ^ m + R b e m (n / b)) * b ^ k + R b e k (n / b ^ (m + 1))
    rw [ih, Nat.div_div_eq_div_mul, Nat.pow_add, Nat.add_mul, Nat.mul_assoc, Nat.pow_succ, Nat.mul_comm b (b ^ m)]
    omega
theorem R_next (m n : Nat) : R b e (m + 1) n = R b e m n * b + e (n / b ^ m % b) := by
  rw [R_add X 1 m n]
  show _ * b ^ 1 + (e (n / b ^ m % b) * b ^ 0 + 0) = _
  rw [Nat.pow_one, Nat.pow_zero, Nat.mul_one, Nat.add_zero]

/-! ### one lowest figure: how many, where -/
theorem res_win (d : Nat) (hd : d < b) (a N : Nat) : ∃ a' N' : Nat, (a + N + (b - 1 - d)) / b = a' + N' ∧ (a + (b - 1 - d)) / b = a' ∧
    -((b : Int) - 1) ≤ (N' : Int) * b - N ∧ (N' : Int) * b - N ≤ (b : Int) - 1 := by
  have hb := X.pos
  have h1 := Nat.div_add_mod (a + N + (b - 1 - d)) b
  have h2 := Nat.div_add_mod (a + (b - 1 - d)) b
  have r1 := Nat.mod_lt (a + N + (b - 1 - d)) hb
  have r2 := Nat.mod_lt (a + (b - 1 - d)) hb
  have mono : (a + (b - 1 - d)) / b ≤ (a + N + (b - 1 - d)) / b := Nat.div_le_div_right (by omega)
  refine ⟨(a + (b - 1 - d)) / b, (a + N + (b - 1 - d)) / b - (a + (b - 1 - d)) / b, by omega, rfl, ?_⟩
  generalize (a + N + (b - 1 - d)) / b = q1 at *
  generalize (a + (b - 1 - d)) / b = q2 at *
  generalize (a + N + (b - 1 - d)) % b = m1 at *
  generalize (a + (b - 1 - d)) % b = m2 at *
  obtain ⟨k, rfl⟩ : ∃ k, q1 = q2 + k := ⟨q1 - q2, by omega⟩
  rw [Nat.mul_add] at h1
  have e1 : ((q2 + k - q2 : Nat) : Int) * (b : Int) = ((b * k : Nat) : Int) := by
    rw [Nat.add_sub_cancel_left, Int.natCast_mul, Int.mul_comm]
  rw [e1]
  generalize b * k = bk at *
  generalize b * q2 = bq at *
  constructor <;> omega

theorem low_more (c d : Nat) (hd : d < b) (h1 : ∀ d', d' < b → (e d' = c ↔ d' = d)) : ∀ x, pc (fun n => decide (e (n % b) < c + 1)) x = pc (fun n => decide (e (n % b) < c)) x + (x + (b - 1 - d)) / b := fun x => by
  have hb := X.pos
  rw [← pc_res1 hb hd x]
  refine pc_or (fun n => ?_) (fun n p q => ?_) x
  · have h2 := h1 (n % b) (Nat.mod_lt _ hb)
    by_cases p : n % b = d
    · have p' := h2.mpr p
      rw [p', decide_eq_true p, decide_eq_true (Nat.lt_succ_self c), Bool.or_true]
    · have p' : ¬ e (n % b) = c := fun z => p (h2.mp z)
      rw [decide_eq_false p, Bool.or_false]
      exact decide_eq_decide.mpr (by omega)
  · have h2 := h1 (n % b) (Nat.mod_lt _ hb)
    have p' := of_decide_eq_true p
    have q' := h2.mpr (of_decide_eq_true q)
    omega
/-- the numbers whose lowest figure's exchange is below c -/
theorem low_count : ∀ c, c ≤ b → ∀ a N, -((c : Int) * (b - 1)) ≤ ((pc (fun n => decide (e (n % b) < c)) (a + N) : Int) - pc (fun n => decide (e (n % b) < c)) a) * b - (N : Int) * c ∧
    ((pc (fun n => decide (e (n % b) < c)) (a + N) : Int) - pc (fun n => decide (e (n % b) < c)) a) * b - (N : Int) * c ≤ (c : Int) * (b - 1)
  | 0, _, a, N => by
    have z : ∀ x, pc (fun n => decide (e (n % b) < 0)) x = 0 := fun x => (pc_congr (fun n => decide_eq_false (Nat.not_lt_zero _)) x).trans (pc_false x)
    rw [z, z]
    constructor <;> simp
  | c + 1, hc, a, N => by
    have ih := low_count c (by omega) a N
    obtain ⟨d, hd, h1⟩ := X.one c (by omega)
    have hb := X.pos
    have sp := low_more X c d hd h1
    rw [sp, sp]
    obtain ⟨a', N', e1, e2, l, u⟩ := res_win X d hd a N
    rw [e1, e2]
    generalize (pc (fun n => decide (e (n % b) < c)) (a + N) : Nat) = s1 at *
    generalize (pc (fun n => decide (e (n % b) < c)) a : Nat) = s2 at *
    have w : (((s1 + (a' + N') : Nat) : Int) - ((s2 + a' : Nat) : Int)) * b - (N : Int) * ((c + 1 : Nat) : Int) = ((s1 : Int) - s2) * b - (N : Int) * c + ((N' : Int) * b - N) := by
      rw [show (((s1 + (a' + N') : Nat) : Int) - ((s2 + a' : Nat) : Int)) = ((s1 : Int) - s2) + N' by omega, show (((c + 1 : Nat)) : Int) = (c : Int) + 1 by omega, Int.add_mul, Int.mul_add]
      omega
    have w2 : ((c + 1 : Nat) : Int) * ((b : Int) - 1) = (c : Int) * ((b : Int) - 1) + ((b : Int) - 1) := by
      rw [show (((c + 1 : Nat)) : Int) = (c : Int) + 1 by omega, Int.add_mul]
      omega
    rw [w, w2]
    omega
end

/-! ### the turned figures below a bound -/
section
variable {b : Nat} {e : Nat → Nat} (X : Ex b e)
include X
/-- how many of N from a on -/
def Dn (b : Nat) (e : Nat → Nat) (m c a N : Nat) : Int := (pc (fun n => decide (R b e m n < c)) (a + N) : Int) - pc (fun n => decide (R b e m n < c)) a

theorem Dn_all (m a N : Nat) : Dn b e m (b ^ m) a N = N := by
  unfold Dn
  have z : ∀ x, pc (fun n => decide (R b e m n < b ^ m)) x = x := fun x => (pc_congr (fun n => decide_eq_true (R_lt X m n)) x).trans (pc_true x)
  rw [z, z]
  omega
/-- one figure more -/
theorem R_split (m c1 c0 : Nat) (h1 : c1 < b) (h0 : c0 < b ^ m) : ∃ d, d < b ∧ ∀ x, pc (fun n => decide (R b e (m + 1) n < c1 * b ^ m + c0)) x = pc (fun n => decide (e (n % b) < c1)) x + pc (fun n => decide (R b e m n < c0)) ((x + (b - 1 - d)) / b) := by
  obtain ⟨d, hd, hone⟩ := X.one c1 h1
  have hb := X.pos
  refine ⟨d, hd, fun x => ?_⟩
  rw [← pc_res hb hd (fun n => decide (R b e m n < c0)) x]
  refine pc_or (fun n => ?_) (fun n p q => ?_) x
  · have h2 := hone (n % b) (Nat.mod_lt _ hb)
    have hR := R_lt X m (n / b)
    show decide (e (n % b) * b ^ m + R b e m (n / b) < c1 * b ^ m + c0) = _
    generalize R b e m (n / b) = r at *
    rw [← Bool.decide_and, ← Bool.decide_or]
    refine decide_eq_decide.mpr ⟨fun h => ?_, fun h => ?_⟩
    · by_cases p : e (n % b) < c1
      · exact .inl p
      · refine .inr ?_
        by_cases q : e (n % b) = c1
        · rw [q] at h
          exact ⟨h2.mp q, by omega⟩
        · exfalso
          have g : (c1 + 1) * b ^ m ≤ e (n % b) * b ^ m := Nat.mul_le_mul_right _ (by omega)
          rw [Nat.add_mul, Nat.one_mul] at g
          omega
    · rcases h with h | ⟨h, h'⟩
      · have g : (e (n % b) + 1) * b ^ m ≤ c1 * b ^ m := Nat.mul_le_mul_right _ h
        rw [Nat.add_mul, Nat.one_mul] at g
        omega
      · rw [h2.mpr h]
        omega
  · have h2 := hone (n % b) (Nat.mod_lt _ hb)
    have p' := of_decide_eq_true p
    have q' := h2.mpr (of_decide_eq_true (Bool.and_eq_true_iff.mp q).1)
    omega
theorem Dn_step (m c1 c0 a N : Nat) (h1 : c1 < b) (h0 : c0 < b ^ m) : ∃ (a' N' : Nat) (S : Int), Dn b e (m + 1) (c1 * b ^ m + c0) a N = S + Dn b e m c0 a' N' ∧
    (-((c1 : Int) * (b - 1)) ≤ S * b - (N : Int) * c1 ∧ S * b - (N : Int) * c1 ≤ (c1 : Int) * (b - 1)) ∧ -((b : Int) - 1) ≤ (N' : Int) * b - N ∧ (N' : Int) * b - N ≤ (b : Int) - 1 := by
  obtain ⟨d, hd, sp⟩ := R_split X m c1 c0 h1 h0
  obtain ⟨a', N', e1, e2, l, u⟩ := res_win X d hd a N
  refine ⟨a', N', (pc (fun n => decide (e (n % b) < c1)) (a + N) : Int) - pc (fun n => decide (e (n % b) < c1)) a, ?_, low_count X c1 (Nat.le_of_lt h1) a N, l, u⟩
  unfold Dn
  rw [sp, sp, e1, e2]
  omega
/-- whole blocks -/
theorem low_exact : ∀ c, c ≤ b → ∀ a k, pc (fun n => decide (e (n % b) < c)) (a + b * k) = pc (fun n => decide (e (n % b) < c)) a + k * c
  | 0, _, a, k => by
    have z : ∀ x, pc (fun n => decide (e (n % b) < 0)) x = 0 := fun x => (pc_congr (fun n => decide_eq_false (Nat.not_lt_zero _)) x).trans (pc_false x)
    rw [z, z]
    rfl
  | c + 1, hc, a, k => by
    have ih := low_exact c (by omega) a k
    obtain ⟨d, hd, h1⟩ := X.one c (by omega)
    have hb := X.pos
    have sp := low_more X c d hd h1
    rw [sp, sp, ih, show a + b * k + (b - 1 - d) = (a + (b - 1 - d)) + b * k by omega, Nat.add_mul_div_left _ _ hb, Nat.mul_add]
    omega
theorem Dn_block (m c1 c0 a k : Nat) (h1 : c1 < b) (h0 : c0 < b ^ m) : ∃ a' : Nat, Dn b e (m + 1) (c1 * b ^ m + c0) a (b * k) = (k : Int) * c1 + Dn b e m c0 a' k := by
  obtain ⟨d, hd, sp⟩ := R_split X m c1 c0 h1 h0
  refine ⟨(a + (b - 1 - d)) / b, ?_⟩
  unfold Dn
  rw [sp, sp, low_exact X c1 (Nat.le_of_lt h1) a k, show a + b * k + (b - 1 - d) = (a + (b - 1 - d)) + b * k by omega, Nat.add_mul_div_left _ _ X.pos, ← Int.natCast_mul]
  omega
theorem split_c (m c : Nat) (h : c < b ^ (m + 1)) : ∃ c1 c0, c = c1 * b ^ m + c0 ∧ c1 < b ∧ c0 < b ^ m := by
  have hp : 0 < b ^ m := Nat.pow_pos X.pos
  refine ⟨c / b ^ m, c % b ^ m, ?_, ?_, Nat.mod_lt _ hp⟩
  · rw [Nat.mul_comm]
    exact (Nat.div_add_mod c (b ^ m)).symm
  · refine Nat.div_lt_of_lt_mul ?_
    rw [← Nat.pow_succ]
    exact h
theorem ident (S D N N' c1 c0 B b : Int) : (S + D) * (b * B) - N * (c1 * B + c0) = (S * b - N * c1) * B + (D * B - N' * c0) * b + (N' * b - N) * c0 := by
  simp only [Int.add_mul, Int.sub_mul, Int.mul_add, Int.mul_sub, Int.mul_assoc, Int.mul_comm, Int.mul_left_comm]
  omega
/-- the count of a beginning [0, c), as against its size -/
theorem main_bound : ∀ m c, c ≤ b ^ m → ∀ a N, -(((b : Int) - 1) * m * (b ^ m : Nat)) ≤ Dn b e m c a N * (b ^ m : Nat) - (N : Int) * c ∧ Dn b e m c a N * (b ^ m : Nat) - (N : Int) * c ≤ ((b : Int) - 1) * m * (b ^ m : Nat)
  | 0, c, hc, a, N => by
    have hc' : c ≤ 1 := hc
    by_cases z : c = 0
    · subst z
      have z : ∀ x, pc (fun n => decide (R b e 0 n < 0)) x = 0 := fun x => (pc_congr (fun n => decide_eq_false (Nat.not_lt_zero _)) x).trans (pc_false x)
      have q : Dn b e 0 0 a N = 0 := by
        unfold Dn
        rw [z, z]
        rfl
      rw [q]
      constructor <;> simp
    · have z1 : c = b ^ 0 := by
        rw [Nat.pow_zero]
        omega
      rw [z1, Dn_all X]
      constructor <;> simp
  | m + 1, c, hc, a, N => by
    have hb := X.two
    by_cases z : c = b ^ (m + 1)
    · rw [z, Dn_all X]
      have nn : 0 ≤ ((b : Int) - 1) * ((m + 1 : Nat) : Int) * ((b ^ (m + 1) : Nat) : Int) := Int.mul_nonneg (Int.mul_nonneg (by omega) (by omega)) (by omega)
      omega
    · obtain ⟨c1, c0, rfl, h1, h0⟩ := split_c X m c (by omega)
      obtain ⟨a', N', S, eD, ⟨l1, u1⟩, l3, u3⟩ := Dn_step X m c1 c0 a N h1 h0
      obtain ⟨l2, u2⟩ := main_bound m c0 (Nat.le_of_lt h0) a' N'
      rw [eD]
      have ep : ((b ^ (m + 1) : Nat) : Int) = (b : Int) * ((b ^ m : Nat) : Int) := by
        rw [Nat.pow_succ, Nat.mul_comm, Int.natCast_mul]
      have ec : ((c1 * b ^ m + c0 : Nat) : Int) = (c1 : Int) * ((b ^ m : Nat) : Int) + c0 := by
        rw [Int.natCast_add, Int.natCast_mul]
      have hc2 : (c1 : Int) * ((b ^ m : Nat) : Int) + c0 ≤ (b : Int) * ((b ^ m : Nat) : Int) := by
        rw [← ec, ← ep]
        exact Int.ofNat_le.mpr hc
      rw [ep, ec]
      rw [ident X S (Dn b e m c0 a' N') N N' c1 c0 ((b ^ m : Nat) : Int) b]
      generalize hB : ((b ^ m : Nat) : Int) = B at *
      have hB0 : 0 ≤ B := by omega
      have p1 := Int.mul_le_mul_of_nonneg_right u1 hB0
      have p2 := Int.mul_le_mul_of_nonneg_right u2 (show (0 : Int) ≤ b by omega)
      have p3 := Int.mul_le_mul_of_nonneg_right u3 (show (0 : Int) ≤ c0 by omega)
      have q1 := Int.mul_le_mul_of_nonneg_right l1 hB0
      have q2 := Int.mul_le_mul_of_nonneg_right l2 (show (0 : Int) ≤ b by omega)
      have q3 := Int.mul_le_mul_of_nonneg_right l3 (show (0 : Int) ≤ c0 by omega)
      have g := Int.mul_le_mul_of_nonneg_left hc2 (show (0 : Int) ≤ (b : Int) - 1 by omega)
      have ew : ((b : Int) - 1) * ((m + 1 : Nat) : Int) * ((b : Int) * B) = ((b : Int) - 1) * (m : Int) * B * b + ((b : Int) - 1) * ((b : Int) * B) := by
        rw [show ((m + 1 : Nat) : Int) = (m : Int) + 1 by omega, Int.mul_add, Int.mul_one, Int.add_mul, Int.mul_comm (b : Int) B, Int.mul_assoc (((b : Int) - 1) * (m : Int)) B (b : Int)]
      have ex : ((b : Int) - 1) * ((c1 : Int) * B + c0) = (c1 : Int) * ((b : Int) - 1) * B + ((b : Int) - 1) * c0 := by
        rw [Int.mul_add, ← Int.mul_assoc, Int.mul_comm ((b : Int) - 1) (c1 : Int)]
      rw [ex] at g
      rw [ew]
      rw [Int.neg_mul] at q1 q2 q3
      omega
/-- whole blocks: no miss -/
theorem main_net : ∀ m c, c ≤ b ^ m → ∀ a k, Dn b e m c a (b ^ m * k) = (k : Int) * c
  | 0, c, hc, a, k => by
    have hc' : c ≤ 1 := hc
    by_cases z : c = 0
    · subst z
      have z : ∀ x, pc (fun n => decide (R b e 0 n < 0)) x = 0 := fun x => (pc_congr (fun n => decide_eq_false (Nat.not_lt_zero _)) x).trans (pc_false x)
      unfold Dn
      rw [z, z]
      simp
    · have z1 : c = b ^ 0 := by
        rw [Nat.pow_zero]
        omega
      rw [z1, Dn_all X]
      simp
  | m + 1, c, hc, a, k => by
    by_cases z : c = b ^ (m + 1)
    · rw [z, Dn_all X, Int.natCast_mul, Int.mul_comm]
    · obtain ⟨c1, c0, rfl, h1, h0⟩ := split_c X m c (by omega)
      have ek : b ^ (m + 1) * k = b * (b ^ m * k) := by rw [Nat.pow_succ, Nat.mul_comm (b ^ m) b, Nat.mul_assoc]
      obtain ⟨a', h⟩ := Dn_block X m c1 c0 a (b ^ m * k) h1 h0
      rw [ek, h, main_net m c0 (Nat.le_of_lt h0) a' k, ← Int.natCast_mul, ← Int.natCast_mul, ← Int.natCast_mul, ← Int.natCast_add]
      congr 1
      rw [Nat.mul_add, Nat.mul_comm (b ^ m) k, Nat.mul_assoc, Nat.mul_comm (b ^ m) c1]
/-- of b ^ m in a row at most one has just these figures -/
theorem one_only : ∀ m c, c < b ^ m → ∀ a N, N ≤ b ^ m → pc (fun n => decide (R b e m n = c)) (a + N) ≤ pc (fun n => decide (R b e m n = c)) a + 1
  | 0, c, hc, a, N, hN => by
    have h := pc_win_len (P := fun n => decide (R b e 0 n = c)) a N
    rw [Nat.pow_zero] at hN
    omega
  | m + 1, c, hc, a, N, hN => by
    obtain ⟨c1, c0, rfl, h1, h0⟩ := split_c X m c hc
    obtain ⟨d, hd, hone⟩ := X.one c1 h1
    have hb := X.pos
    have sp : ∀ x, pc (fun n => decide (R b e (m + 1) n = c1 * b ^ m + c0)) x = pc (fun n => decide (R b e m n = c0)) ((x + (b - 1 - d)) / b) := fun x => by
      rw [← pc_res hb hd (fun n => decide (R b e m n = c0)) x]
      refine pc_congr (fun n => ?_) x
      have h2 := hone (n % b) (Nat.mod_lt _ hb)
      have hR := R_lt X m (n / b)
      show decide (e (n % b) * b ^ m + R b e m (n / b) = c1 * b ^ m + c0) = _
      generalize R b e m (n / b) = r at *
      rw [← Bool.decide_and]
      refine decide_eq_decide.mpr ⟨fun h => ?_, fun ⟨p, q⟩ => by rw [h2.mpr p, q]⟩
      have q : e (n % b) = c1 := by
        rcases Nat.lt_trichotomy (e (n % b)) c1 with g | g | g
        · have g : (e (n % b) + 1) * b ^ m ≤ c1 * b ^ m := Nat.mul_le_mul_right _ g
          rw [Nat.add_mul, Nat.one_mul] at g
          omega
        · exact g
        · have g : (c1 + 1) * b ^ m ≤ e (n % b) * b ^ m := Nat.mul_le_mul_right _ g
          rw [Nat.add_mul, Nat.one_mul] at g
          omega
      refine ⟨h2.mp q, ?_⟩
      rw [q] at h
      omega
    obtain ⟨a', N', e1, e2, l, u⟩ := res_win X d hd a N
    rw [sp, sp, e1, e2]
    refine one_only m c0 h0 a' N' ?_
    rw [Nat.pow_succ] at hN
    have hB : 0 < b ^ m := Nat.pow_pos hb
    generalize b ^ m = B at *
    refine Nat.le_of_lt_succ (Nat.lt_of_mul_lt_mul_right (a := b) ?_)
    rw [Nat.succ_mul]
    have u' : ((N' * b : Nat) : Int) - N ≤ (b : Int) - 1 := by
      rw [Int.natCast_mul]
      exact u
    omega

/-! ### one side -/
/-- shut and open, from 0 to below T: the miss -/
theorem one_side {L m : Nat} (hm : m ≤ L) {N : Nat} (hN : N ≤ b ^ m) {T : Nat} (hT : T ≤ b ^ L) (a : Nat) (err : Int)
    (herr : ∀ c, c ≤ b ^ m → ∀ a, -(err * (b ^ m : Nat)) ≤ Dn b e m c a N * (b ^ m : Nat) - (N : Int) * c ∧ Dn b e m c a N * (b ^ m : Nat) - (N : Int) * c ≤ err * (b ^ m : Nat)) :
    ((pc (fun n => decide (R b e L n ≤ T)) (a + N) : Int) - pc (fun n => decide (R b e L n ≤ T)) a) * (b ^ L : Nat) - (N : Int) * T ≤ (err + 1) * (b ^ L : Nat) ∧
    (N : Int) * T - ((pc (fun n => decide (R b e L n < T)) (a + N) : Int) - pc (fun n => decide (R b e L n < T)) a) * (b ^ L : Nat) ≤ (err + 1) * (b ^ L : Nat) := by
  obtain ⟨k, rfl⟩ : ∃ k, L = m + k := ⟨L - m, by omega⟩
  have hbk : 0 < b ^ k := Nat.pow_pos X.pos
  have hbm : 0 < b ^ m := Nat.pow_pos X.pos
  have eB : b ^ (m + k) = b ^ m * b ^ k := Nat.pow_add b m k
  by_cases z : T = b ^ (m + k)
  · have h0 := herr 0 (Nat.zero_le _) 0
    have z0 : Dn b e m 0 0 N = 0 := by
      have z : ∀ x, pc (fun n => decide (R b e m n < 0)) x = 0 := fun x => (pc_congr (fun n => decide_eq_false (Nat.not_lt_zero _)) x).trans (pc_false x)
      unfold Dn
      rw [z, z]
      rfl
    rw [z0] at h0
    have err0 : 0 ≤ err * ((b ^ m : Nat) : Int) := by omega
    have err1 : 0 ≤ err := by
      by_cases g : 0 ≤ err
      · exact g
      · exfalso
        have w := Int.mul_lt_mul_of_pos_right (show err < 0 by omega) (show (0 : Int) < ((b ^ m : Nat) : Int) by omega)
        rw [Int.zero_mul] at w
        omega
    have z1 : ∀ x, pc (fun n => decide (R b e (m + k) n ≤ T)) x = x := fun x => (pc_congr (fun n => decide_eq_true (by have := R_lt X (m + k) n; omega)) x).trans (pc_true x)
    have z2 : ∀ x, pc (fun n => decide (R b e (m + k) n < T)) x = x := fun x => (pc_congr (fun n => decide_eq_true (by have := R_lt X (m + k) n; omega)) x).trans (pc_true x)
    have e2 : 0 ≤ (err + 1) * ((b ^ (m + k) : Nat) : Int) := Int.mul_nonneg (by omega) (by omega)
    rw [z1, z1, z2, z2, show (((a + N : Nat) : Int) - (a : Int)) = (N : Int) by omega, z]
    omega
  · have hlt : T < b ^ m * b ^ k := by rw [← eB]; omega
    obtain ⟨c, r, rfl, hc, hr⟩ : ∃ c r, T = c * b ^ k + r ∧ c < b ^ m ∧ r < b ^ k := by
      refine ⟨T / b ^ k, T % b ^ k, ?_, Nat.div_lt_of_lt_mul (by rw [Nat.mul_comm]; exact hlt), Nat.mod_lt T hbk⟩
      rw [Nat.mul_comm]
      exact (Nat.div_add_mod T (b ^ k)).symm
    obtain ⟨l, u⟩ := herr c (Nat.le_of_lt hc) a
    have one := one_only X m c hc a N hN
    -- shut within: below c, or c
    have i1 := pc_win_le (P := fun n => decide (R b e (m + k) n ≤ c * b ^ k + r)) (Q := fun n => decide (R b e m n < c) || decide (R b e m n = c)) a N (fun i _ h => by
      have h := of_decide_eq_true h
      rw [R_add X k m (a + i)] at h
      show (decide (R b e m (a + i) < c) || decide (R b e m (a + i) = c)) = true
      rw [← Bool.decide_or]
      refine decide_eq_true ?_
      by_cases g : R b e m (a + i) ≤ c
      · omega
      · exfalso
        have g : (c + 1) * b ^ k ≤ R b e m (a + i) * b ^ k := Nat.mul_le_mul_right _ (by omega)
        rw [Nat.add_mul, Nat.one_mul] at g
        omega)
    have i2 := pc_win_le (P := fun n => decide (R b e m n < c)) (Q := fun n => decide (R b e (m + k) n < c * b ^ k + r)) a N (fun i _ h => by
      have h := of_decide_eq_true h
      refine decide_eq_true ?_
      rw [R_add X k m (a + i)]
      have hk := R_lt X k ((a + i) / b ^ m)
      have g : (R b e m (a + i) + 1) * b ^ k ≤ c * b ^ k := Nat.mul_le_mul_right _ h
      rw [Nat.add_mul, Nat.one_mul] at g
      omega)
    have sp : ∀ x, pc (fun n => decide (R b e m n < c) || decide (R b e m n = c)) x = pc (fun n => decide (R b e m n < c)) x + pc (fun n => decide (R b e m n = c)) x :=
      pc_or (fun n => rfl) (fun n p q => by
        have p := of_decide_eq_true p
        have q := of_decide_eq_true q
        omega)
    rw [sp, sp] at i1
    unfold Dn at l u
    have eBi : ((b ^ (m + k) : Nat) : Int) = ((b ^ m : Nat) : Int) * ((b ^ k : Nat) : Int) := by rw [eB, Int.natCast_mul]
    rw [eBi]
    generalize hs : (pc (fun n => decide (R b e (m + k) n ≤ c * b ^ k + r)) (a + N) : Int) - (pc (fun n => decide (R b e (m + k) n ≤ c * b ^ k + r)) a : Int) = s at *
    generalize ho : (pc (fun n => decide (R b e (m + k) n < c * b ^ k + r)) (a + N) : Int) - (pc (fun n => decide (R b e (m + k) n < c * b ^ k + r)) a : Int) = o at *
    generalize hA : (pc (fun n => decide (R b e m n < c)) (a + N) : Int) - (pc (fun n => decide (R b e m n < c)) a : Int) = A at *
    have j1 : s ≤ A + 1 := by omega
    have j2 : A ≤ o := by omega
    have eT : ((c * b ^ k + r : Nat) : Int) = (c : Int) * ((b ^ k : Nat) : Int) + (r : Int) := by
      rw [Int.natCast_add, Int.natCast_mul]
    have hN' : (N : Int) ≤ ((b ^ m : Nat) : Int) := Int.ofNat_le.mpr hN
    have hr' : (r : Int) ≤ ((b ^ k : Nat) : Int) := by omega
    have hr0 : (0 : Int) ≤ (r : Int) := by omega
    rw [eT]
    have hM0 : (0 : Int) < ((b ^ m : Nat) : Int) := by omega
    have hK0 : (0 : Int) < ((b ^ k : Nat) : Int) := by omega
    clear hT hlt hc hr i1 i2 one sp hs ho hA herr eBi eT z
    generalize (c : Int) = c at *
    generalize (r : Int) = r at *
    generalize ((b ^ m : Nat) : Int) = M at *
    generalize ((b ^ k : Nat) : Int) = Kk at *
    have n0 : (0 : Int) ≤ (N : Int) := by omega
    generalize (N : Int) = n at *
    have m1 := Int.mul_le_mul_of_nonneg_right j1 (Int.le_of_lt hM0)
    have m2 := Int.mul_le_mul_of_nonneg_right j2 (Int.le_of_lt hM0)
    have m3 := Int.mul_nonneg n0 hr0
    have m4 := Int.mul_le_mul_of_nonneg_left hr' n0
    have m5 := Int.mul_le_mul_of_nonneg_right hN' (Int.le_of_lt hK0)
    constructor
    · have w : s * M - n * c ≤ (err + 1) * M := by
        rw [Int.add_mul, Int.one_mul] at m1 ⊢
        omega
      have w2 := Int.mul_le_mul_of_nonneg_right w (Int.le_of_lt hK0)
      rw [Int.sub_mul, Int.mul_assoc, Int.mul_assoc, Int.mul_assoc] at w2
      rw [Int.mul_add]
      omega
    · have w : n * c - o * M ≤ err * M := by omega
      have w2 := Int.mul_le_mul_of_nonneg_right w (Int.le_of_lt hK0)
      rw [Int.sub_mul, Int.mul_assoc, Int.mul_assoc, Int.mul_assoc] at w2
      rw [Int.mul_add, Int.add_mul, Int.one_mul]
      omega
theorem one_side_any {L m : Nat} (hm : m ≤ L) {N : Nat} (hN : N ≤ b ^ m) {T : Nat} (hT : T ≤ b ^ L) (a : Nat) :
    ((pc (fun n => decide (R b e L n ≤ T)) (a + N) : Int) - pc (fun n => decide (R b e L n ≤ T)) a) * (b ^ L : Nat) - (N : Int) * T ≤ (((b : Int) - 1) * m + 1) * (b ^ L : Nat) ∧
    (N : Int) * T - ((pc (fun n => decide (R b e L n < T)) (a + N) : Int) - pc (fun n => decide (R b e L n < T)) a) * (b ^ L : Nat) ≤ (((b : Int) - 1) * m + 1) * (b ^ L : Nat) :=
  one_side X hm hN hT a _ fun c hc a => main_bound X m c hc a N
theorem one_side_net {L m : Nat} (hm : m ≤ L) {T : Nat} (hT : T ≤ b ^ L) (a : Nat) :
    ((pc (fun n => decide (R b e L n ≤ T)) (a + b ^ m) : Int) - pc (fun n => decide (R b e L n ≤ T)) a) * (b ^ L : Nat) - ((b ^ m : Nat) : Int) * T ≤ (b ^ L : Nat) ∧
    ((b ^ m : Nat) : Int) * T - ((pc (fun n => decide (R b e L n < T)) (a + b ^ m) : Int) - pc (fun n => decide (R b e L n < T)) a) * (b ^ L : Nat) ≤ (b ^ L : Nat) := by
  have h := one_side X hm (Nat.le_refl (b ^ m)) hT a 0 fun c hc a => by
    have g := main_net X m c hc a 1
    rw [Nat.mul_one] at g
    rw [g, Int.mul_comm ((b ^ m : Nat) : Int) (c : Int)]
    simp
  rw [Int.zero_add, Int.one_mul] at h
  exact h
end
end Ev

set_option Elab.async false
set_option linter.all false
set_option maxRecDepth 100000
namespace Ev
open PySem PySem.Spec PyProof.Rows L2
/-! ### the text by places -/
def topS (i : Nat) : Stmt := PySem.Challenge.pw_evenpoints_k44_whole_rows_keep_their_bou.main.body.getD i (.Pass ⟨0, 0, 0, 0⟩)
abbrev sShared : Stmt := topS 4
abbrev sFraction : Stmt := topS 5
abbrev sRaised : Stmt := topS 7
abbrev sFigures : Stmt := topS 8
abbrev sTurned : Stmt := topS 9
abbrev sPoints : Stmt := topS 11
abbrev sDepth : Stmt := topS 12
abbrev sBound : Stmt := topS 13
abbrev sFeed : Stmt := topS 15
abbrev sDraw : Stmt := topS 16
abbrev sExch : Stmt := topS 17
abbrev sRow : Stmt := topS 18
abbrev sPower : Stmt := topS 19
abbrev sBoxes : Stmt := topS 20
abbrev sIsIn : Stmt := topS 21
abbrev sPasses : Stmt := topS 22
abbrev sLeast : Stmt := topS 23
abbrev sEighty : Stmt := topS 24
abbrev sLaw : Stmt := topS 25
abbrev nShared : List Str := ["one", "other"]
abbrev nFraction : List Str := ["top", "bottom", "by"]
abbrev nRaised : List Str := ["base", "k", "found", "turn"]
abbrev nFigures : List Str := ["base", "n", "found"]
abbrev nTurned : List Str := ["base", "exchange", "n", "top", "bottom", "figure"]
abbrev nPoints : List Str := ["row", "begin", "many", "found", "n", "base", "exchange"]
abbrev nDepth : List Str := ["base", "many", "found"]
abbrev nBound : List Str := ["row", "many", "product", "base", "exchange"]
abbrev nFeed : List Str := ["_law_script"]
abbrev nDraw : List Str := ["_law_feed_here", "_law_many", "_law_found", "_law_cell", "_law_stirred"]
abbrev nExch : List Str := ["_law_feed_here", "_law_base", "_law_left", "_law_found", "_law_plain", "_law_k"]
abbrev nRow : List Str := ["_law_feed_here", "_law_most", "_law_some", "_law_bases", "_law_at", "_law_many", "_law_base"]
abbrev nPower : List Str := ["_law_base", "_law_k", "_law_found", "_law_turn"]
abbrev nBoxes : List Str := ["_law_points", "_law_found", "_law_side", "_law_numbers", "_law_longer", "_law_box", "_law_point", "_law_one"]
abbrev nIsIn : List Str := ["_law_point", "_law_box", "_law_shut", "_law_top", "_law_bottom", "_law_high", "_law_under"]
abbrev nPasses : List Str := ["_law_points", "_law_box", "_law_bound", "_law_size", "_law_high", "_law_under", "_law_many", "_law_shut", "_law_free", "_law_above", "_law_lack", "_law_point"]
abbrev nLeast : List Str := ["_law_numbers", "_law_found", "_law_one"]
abbrev nEighty : List Str := ["_law_feed_here", "_law_row_here", "_law_begin", "_law_points", "_law_bound", "_law_sides", "_law_boxes_here", "_law_k", "_law_side", "_law_point", "_law_box"]
abbrev nLaw : List Str := ["_law_script", "_law_feed_here", "_law_turn", "_law_row_here", "_law_begin", "_law_many", "_law_points", "_law_bound", "_law_base", "_law_box"]
theorem scShared : FnScope nShared ["one", "other"] (defScope sShared) := ⟨rfl, rfl, rfl, by decide +kernel, rfl, by decide +kernel, by decide +kernel⟩
theorem scFraction : FnScope nFraction ["top", "bottom"] (defScope sFraction) := ⟨rfl, rfl, rfl, by decide +kernel, rfl, by decide +kernel, by decide +kernel⟩
theorem scRaised : FnScope nRaised ["base", "k"] (defScope sRaised) := ⟨rfl, rfl, rfl, by decide +kernel, rfl, by decide +kernel, by decide +kernel⟩
theorem scFigures : FnScope nFigures ["base", "n"] (defScope sFigures) := ⟨rfl, rfl, rfl, by decide +kernel, rfl, by decide +kernel, by decide +kernel⟩
theorem scTurned : FnScope nTurned ["base", "exchange", "n"] (defScope sTurned) := ⟨rfl, rfl, rfl, by decide +kernel, rfl, by decide +kernel, by decide +kernel⟩
theorem scPoints : FnScope nPoints ["row", "begin", "many"] (defScope sPoints) := ⟨rfl, rfl, rfl, by decide +kernel, rfl, by decide +kernel, by decide +kernel⟩
theorem scDepth : FnScope nDepth ["base", "many"] (defScope sDepth) := ⟨rfl, rfl, rfl, by decide +kernel, rfl, by decide +kernel, by decide +kernel⟩
theorem scBound : FnScope nBound ["row", "many"] (defScope sBound) := ⟨rfl, rfl, rfl, by decide +kernel, rfl, by decide +kernel, by decide +kernel⟩
theorem scFeed : FnScope nFeed ["_law_script"] (defScope sFeed) := ⟨rfl, rfl, rfl, by decide +kernel, rfl, by decide +kernel, by decide +kernel⟩
theorem scDraw : FnScope nDraw ["_law_feed_here", "_law_many"] (defScope sDraw) := ⟨rfl, rfl, rfl, by decide +kernel, rfl, by decide +kernel, by decide +kernel⟩
theorem scExch : FnScope nExch ["_law_feed_here", "_law_base"] (defScope sExch) := ⟨rfl, rfl, rfl, by decide +kernel, rfl, by decide +kernel, by decide +kernel⟩
theorem scRow : FnScope nRow ["_law_feed_here", "_law_most"] (defScope sRow) := ⟨rfl, rfl, rfl, by decide +kernel, rfl, by decide +kernel, by decide +kernel⟩
theorem scPower : FnScope nPower ["_law_base", "_law_k"] (defScope sPower) := ⟨rfl, rfl, rfl, by decide +kernel, rfl, by decide +kernel, by decide +kernel⟩
theorem scBoxes : FnScope nBoxes ["_law_points"] (defScope sBoxes) := ⟨rfl, rfl, rfl, by decide +kernel, rfl, by decide +kernel, by decide +kernel⟩
theorem scIsIn : FnScope nIsIn ["_law_point", "_law_box", "_law_shut"] (defScope sIsIn) := ⟨rfl, rfl, rfl, by decide +kernel, rfl, by decide +kernel, by decide +kernel⟩
theorem scPasses : FnScope nPasses ["_law_points", "_law_box", "_law_bound"] (defScope sPasses) := ⟨rfl, rfl, rfl, by decide +kernel, rfl, by decide +kernel, by decide +kernel⟩
theorem scLeast : FnScope nLeast ["_law_numbers"] (defScope sLeast) := ⟨rfl, rfl, rfl, by decide +kernel, rfl, by decide +kernel, by decide +kernel⟩
theorem scEighty : FnScope nEighty ["_law_feed_here"] (defScope sEighty) := ⟨rfl, rfl, rfl, by decide +kernel, rfl, by decide +kernel, by decide +kernel⟩
theorem scLaw : FnScope nLaw ["_law_script"] (defScope sLaw) := ⟨rfl, rfl, rfl, by decide +kernel, rfl, by decide +kernel, by decide +kernel⟩
end Ev

set_option Elab.async false
set_option linter.all false
set_option maxRecDepth 100000
namespace Ev
open PySem PySem.Spec PyProof.Rows L2
/-! ### heaps -/
/-- all that was tracked is as it was, but at l -/
def Sb (l : Addr) (H H' : Hp) : Prop := ∀ b o, b ≠ l → H b = some o → H' b = some o
theorem Sb.refl (l : Addr) (H : Hp) : Sb l H H := fun _ _ _ h => h
theorem Sb.trans {l : Addr} {H H1 H2 : Hp} (a : Sb l H H1) (b : Sb l H1 H2) : Sb l H H2 := fun c o n h => b c o n (a c o n h)
theorem _root_.L2.Same.sb {l : Addr} {H H' : Hp} (h : Same H H') : Sb l H H' := fun b o _ e => h b o e
theorem same_new {H H1 : Hp} {p : Addr} {o : HO} (s : Same H H1) (hp : H p = none) : Same H (upd H1 p o) := fun b u e => by
  rw [upd_ne (ne_of_none e hp)]
  exact s b u e
theorem sb_new {l : Addr} {H H1 : Hp} {p : Addr} {o : HO} (s : Sb l H H1) (hp : H p = none) : Sb l H (upd H1 p o) := fun b u n e => by
  rw [upd_ne (ne_of_none e hp)]
  exact s b u n e
theorem sb_self {l : Addr} {H H1 : Hp} {o : HO} (s : Sb l H H1) : Sb l H (upd H1 l o) := fun b u n e => by
  rw [upd_ne n]
  exact s b u n e
theorem Sb.free {l p : Addr} {H H1 : Hp} {o : HO} (s : Sb l H H1) (hl : H1 l = some o) (h : H1 p = none) : H p = none := by
  cases q : H p with
  | none => rfl
  | some u =>
    rw [s p u (fun e => by rw [e, hl] at h; cases h) q] at h
    cases h
/-- every tuple stays -/
def Tk (H H' : Hp) : Prop := ∀ a xs, H a = some (.tup xs) → H' a = some (.tup xs)
theorem Tk.refl (H : Hp) : Tk H H := fun _ _ h => h
theorem Tk.trans {H H1 H2 : Hp} (a : Tk H H1) (b : Tk H1 H2) : Tk H H2 := fun c o h => b c o (a c o h)
theorem _root_.L2.Same.tk {H H' : Hp} (s : Same H H') : Tk H H' := fun a _ e => s a _ e
theorem Sb.tk {l : Addr} {H H' : Hp} {xs : List V} (s : Sb l H H') (hl : H l = some (.lst xs)) : Tk H H' := fun a ys e => s a _ (ne_of e hl (fun z => nomatch z)) e
theorem tk_new {H : Hp} {p : Addr} {o : HO} (hp : H p = none) : Tk H (upd H p o) := fun b u e => by
  rw [upd_ne (ne_of_none e hp)]
  exact e
theorem tk_lst {H : Hp} {p : Addr} {o : HO} {xs : List V} (hp : H p = some (.lst xs)) : Tk H (upd H p o) := fun b u e => by
  rw [upd_ne (ne_of e hp (fun z => nomatch z))]
  exact e

/-! ### data: fractions, points, lists of them -/
abbrev Fr := Int × Int
def FrAt (H : Hp) (v : V) (f : Fr) : Prop := ∃ a, v = .ref a ∧ H a = some (.tup [.int f.1, .int f.2])
def PtAt (H : Hp) (v : V) (fs : List Fr) : Prop := ∃ a xs, v = .ref a ∧ H a = some (.tup xs) ∧ Paired (FrAt H) xs fs
theorem FrAt.tk {H H' : Hp} (t : Tk H H') {v : V} {f : Fr} (h : FrAt H v f) : FrAt H' v f := let ⟨a, e, q⟩ := h; ⟨a, e, t _ _ q⟩
theorem PtAt.tk {H H' : Hp} (t : Tk H H') {v : V} {fs : List Fr} (h : PtAt H v fs) : PtAt H' v fs := let ⟨a, xs, e, q, r⟩ := h; ⟨a, xs, e, t _ _ q, L2.Paired.mapP r fun _ _ z => z.tk t⟩
theorem paired_append {α β : Type} {F : α → β → Prop} : ∀ {xs ys : List α} {us ws : List β}, Paired F xs us → Paired F ys ws → Paired F (xs ++ ys) (us ++ ws)
  | _, _, _, _, .nil, s => s
  | _, _, _, _, .cons r t, s => .cons r (paired_append t s)
theorem paired_snoc {α β : Type} {F : α → β → Prop} {xs : List α} {us : List β} {x : α} {u : β} (h : Paired F xs us) (g : F x u) : Paired F (xs ++ [x]) (us ++ [u]) := paired_append h (.cons g .nil)
theorem paired_at {α β : Type} {F : α → β → Prop} : ∀ {xs : List α} {us : List β}, Paired F xs us → ∀ {i : Nat} {x : α}, xs[i]? = some x → ∃ u, us[i]? = some u ∧ F x u
  | _, _, .nil, i, x, e => by simp at e
  | _, _, .cons r t, 0, x, e => by
    simp at e
    subst e
    exact ⟨_, rfl, r⟩
  | _, _, .cons r t, i + 1, x, e => by
    obtain ⟨u, h1, h2⟩ := paired_at t (i := i) (x := x) (by simpa using e)
    exact ⟨u, (by simpa using h1), h2⟩
theorem paired_at' {α β : Type} {F : α → β → Prop} : ∀ {xs : List α} {us : List β}, Paired F xs us → ∀ {i : Nat} {u : β}, us[i]? = some u → ∃ x, xs[i]? = some x ∧ F x u
  | _, _, .nil, i, x, e => by simp at e
  | _, _, .cons r t, 0, x, e => by
    simp at e
    subst e
    exact ⟨_, rfl, r⟩
  | _, _, .cons r t, i + 1, x, e => by
    obtain ⟨u, h1, h2⟩ := paired_at' t (i := i) (u := x) (by simpa using e)
    exact ⟨u, (by simpa using h1), h2⟩
theorem paired_len {α β : Type} {F : α → β → Prop} {xs : List α} {us : List β} (h : Paired F xs us) : xs.length = us.length := Paired.length h
theorem small_line {n : Nat} (h : n ≤ 100000) : n < sizeLine := Nat.lt_of_le_of_lt h (by decide)
end Ev

set_option Elab.async false
set_option linter.all false
set_option maxRecDepth 100000
set_option maxHeartbeats 4000000
namespace Ev
open PySem PySem.Spec PyProof.Rows L2
section
variable {P : Program} {w : World} {K : PySem.W.Frag} {mg : Str → Option Value} {base : Heap}
/-! ### shared -/
def spShared : Sp := fun vs H Q _ => ∃ a b : Nat, vs = [.int a, .int b] ∧ Q (.int ((Nat.gcd a b : Nat) : Int)) H
theorem ok_shared {f : Addr} {fd : FuncData} {k : Nat} (F : Fun K "shared" "shared" sShared f fd) : FnOk P w K mg base CX0 (k + 1) f fd ["one", "other"] spShared := by
  refine F.ok scShared (fun vs H Q E h => ?_) (fun cdv A outer s H vs Q E hr h => ?_)
  · obtain ⟨a, b, rfl, _⟩ := h
    rfl
  · obtain ⟨a, b, rfl, q⟩ := h
    refine ⟨_, pss_cons (ps_while PassesOwn.never (pt_cmpR op_ne (pv 1) pe_int (nomark _))
        (pss_one (ps_par (i := 0) (j := 1) (by rfl) scShared.nd rfl rfl (by decide) rfl rfl (pa_cons (pv 1) (pa_cons (pe_op op_mod (pv 0) (pv 1)) pa_nil)) (by rfl))))
      (pss_one (ps_ret (pv 0))), ?_⟩
    refine ⟨fun m σ H' => ∃ x y : Nat, σ = [some (.int x), some (.int y)] ∧ y = m ∧ Nat.gcd x y = Nat.gcd a b ∧ H = H', ⟨b, a, b, rfl, rfl, rfl, rfl⟩, ?_⟩
    rintro m σ H' ⟨x, y, rfl, rfl, hg, rfl⟩
    refine ⟨.int y, rfl, rfl, _, rfl, ite2 (fun e => ?_) (fun e => ?_)⟩
    · have hy : y ≠ 0 := fun z => by
        subst z
        simp at e
      refine ⟨fun σ' H' => ∃ x' y' : Nat, σ' = [some (.int x'), some (.int y')] ∧ y' < y ∧ Nat.gcd x' y' = Nat.gcd a b ∧ H = H', fun σ' H' ⟨x', y', e1, e2, e3, e4⟩ => ⟨y', e2, x', y', e1, rfl, e3, e4⟩, ?_⟩
      refine ⟨.int y, rfl, .int x, rfl, .int y, rfl, x, y, rfl, rfl, (by show (0 : Int) < y; omega), .int y, .int ((x : Int) % y), rfl, y, x % y, rfl, Nat.mod_lt _ (by omega), ?_, rfl⟩
      rw [← hg, Nat.gcd_comm x y, Nat.gcd_rec y x, Nat.gcd_comm]
    · have hy : y = 0 := by
        have e' : decide (V.int (y : Int) = V.int 0) = true := by simpa using e
        have e2 := V.int.inj (of_decide_eq_true e')
        omega
      subst hy
      rw [Nat.gcd_zero_right] at hg
      refine ⟨.int x, rfl, ?_⟩
      rw [hg]
      exact q
end
end Ev

set_option Elab.async false
set_option linter.all false
set_option maxRecDepth 100000
set_option maxHeartbeats 4000000
namespace Ev
open PySem PySem.Spec PyProof.Rows L2
/-- no name of the text hides these -/
structure Txt (mg : Str → Option Value) : Prop where
  len : mg "len" = none
  range : mg "range" = none
  zip : mg "zip" = none
  abs : mg "abs" = none
  max : mg "max" = none
  min : mg "min" = none
  list : mg "list" = none
  tuple : mg "tuple" = none
  dict : mg "dict" = none
theorem mulOk {i j : Int} (hi : i.natAbs < 2 ^ 250) (hj : j.natAbs < 2 ^ 250) : CMulW i j := wide_mul hi hj (by decide) (by decide) (by decide)
theorem nat_lt {a b k : Nat} (h : a ≤ b) (hb : b < 2 ^ k) : ((a : Int)).natAbs < 2 ^ k := Nat.lt_of_le_of_lt (by omega) hb
section
variable {P : Program} {w : World} {K : PySem.W.Frag} {mg : Str → Option Value} {base : Heap}
/-! ### fraction -/
def spFraction : Sp := fun vs H Q _ => ∃ a b : Nat, vs = [.int a, .int b] ∧ 0 < b ∧ b < 2 ^ 250 ∧
  ∀ H' v (p q : Nat), Same H H' → FrAt H' v ((p : Int), (q : Int)) → p * b = a * q → 0 < q → q ≤ b → p ≤ a → Q v H'
theorem ok_fraction {f fS : Addr} {fd fdS : FuncData} {k : Nat} (F : Fun K "fraction" "fraction" sFraction f fd) (T : Txt mg)
    (FS : Fun K "shared" "shared" sShared fS fdS) (bS : Binds K fdS ["one", "other"] []) (gS : mg "shared" = some (.ref fS)) : FnOk P w K mg base CX0 (k + 2) f fd ["top", "bottom"] spFraction := by
  have GS : FnOk P w K mg base CX0 (k + 1) fS fdS ["one", "other"] spShared := ok_shared FS
  refine F.ok scFraction (fun vs H Q E h => ?_) (fun cdv A outer s H vs Q E hr h => ?_)
  · obtain ⟨a, b, rfl, _⟩ := h
    rfl
  · obtain ⟨a, b, rfl, hb, hb2, q⟩ := h
    refine ⟨_, pss_cons (ps_if (pt_cmpR op_eq (pv 1) pe_int (nomark _)) pss_never pss_nil)
      (pss_cons (ps_set (i := 2) scFraction.nd rfl (.inl rfl) (pe_call GS hr (by rfl) gS FS.kp bS .nil pass0
        (pa_cons (pe_callB call_abs (by rfl) T.abs (by decide +kernel) (pa_cons (pv 0) pa_nil)) (pa_cons (pe_callB call_abs (by rfl) T.abs (by decide +kernel) (pa_cons (pv 1) pa_nil)) pa_nil))))
      (pss_cons (ps_if (pt_cmpR op_lt (pv 1) pe_int (nomark _)) pss_never pss_nil)
      (pss_one (ps_ret (pe_tup (pa_cons (pe_op op_fdivW (pv 0) (pv 2)) (pa_cons (pe_op op_fdivW (pv 1) (pv 2)) pa_nil))))))), ?_⟩
    refine ⟨.int b, rfl, rfl, _, rfl, ite2 (fun e => ?_) (fun _ => ?_)⟩
    · exfalso
      have e2 := V.int.inj (of_decide_eq_true e)
      omega
    refine ⟨.int a, rfl, a, rfl, .int b, rfl, b, rfl, a, b, ?_, ?_⟩
    · rw [if_neg (by omega), if_neg (by omega)]
      rfl
    have hg : 0 < Nat.gcd a b := Nat.gcd_pos_of_pos_right a hb
    have hgb : Nat.gcd a b ≤ b := Nat.gcd_le_right a hb
    refine ⟨.int b, rfl, b, 0, rfl, rfl, _, rfl, ite2 (fun e => ?_) (fun _ => ?_)⟩
    · exfalso
      have e2 := of_decide_eq_true e
      omega
    have dv : ∀ i : Int, CDivW i ((Nat.gcd a b : Nat) : Int) := fun i => wide_div (b := 250) (by omega) (nat_lt hgb hb2) (by decide) (by decide)
    refine ⟨.int a, rfl, .int (Nat.gcd a b : Nat), rfl, a, _, rfl, rfl, dv _, .int b, rfl, .int (Nat.gcd a b : Nat), rfl, b, _, rfl, rfl, dv _, by show 2 ≤ sizeLine; decide, fun p hp => ?_⟩
    obtain ⟨x, hx⟩ := Nat.gcd_dvd_left a b
    obtain ⟨y, hy⟩ := Nat.gcd_dvd_right a b
    have ea : a / Nat.gcd a b = x := by
      conv => lhs; lhs; rw [hx]
      exact Nat.mul_div_cancel_left x hg
    have eb : b / Nat.gcd a b = y := by
      conv => lhs; lhs; rw [hy]
      exact Nat.mul_div_cancel_left y hg
    refine q _ _ x y (same_new (Same.refl H) hp) ⟨p, rfl, ?_⟩ ?_ ?_ ?_ ?_
    · rw [upd_same, ← ea, ← eb]
      rfl
    · generalize Nat.gcd a b = g at *
      subst hx hy
      rw [← Nat.mul_assoc, Nat.mul_comm x g]
    · refine Nat.pos_of_ne_zero fun z => ?_
      rw [z, Nat.mul_zero] at hy
      omega
    · rw [← eb]
      exact Nat.div_le_self _ _
    · rw [← ea]
      exact Nat.div_le_self _ _
/-! ### raised -/
theorem pow_small {b i k : Nat} (hb : 1 ≤ b) (hb2 : b ≤ 16) (h : i ≤ k) (hk : k ≤ 60) : b ^ i < 2 ^ 250 := by
  refine Nat.lt_of_le_of_lt (Nat.pow_le_pow_left hb2 i) (Nat.lt_of_le_of_lt (Nat.pow_le_pow_right (by decide) (Nat.le_trans h hk)) ?_)
  decide +kernel
def spRaised : Sp := fun vs H Q _ => ∃ b k : Nat, vs = [.int b, .int k] ∧ 1 ≤ b ∧ b ≤ 16 ∧ k ≤ 60 ∧ Q (.int ((b ^ k : Nat) : Int)) H
theorem ok_raised {f : Addr} {fd : FuncData} {k : Nat} (F : Fun K "raised" "raised" sRaised f fd) (T : Txt mg) : FnOk P w K mg base CX0 (k + 1) f fd ["base", "k"] spRaised := by
  refine F.ok scRaised (fun vs H Q E h => ?_) (fun cdv A outer s H vs Q E hr h => ?_)
  · obtain ⟨a, b, rfl, _⟩ := h
    rfl
  · obtain ⟨b, n, rfl, hb, hb2, hn, q⟩ := h
    refine ⟨_, pss_cons (ps_set (i := 2) scRaised.nd rfl (.inl rfl) pe_int)
      (pss_cons (ps_for PassesOwn.never rfl (pi_range1 (by rfl) T.range (pa_cons (pv 1) pa_nil)) (pg_name (i := 3) scRaised.nd rfl (.inl rfl))
        (pss_one (ps_set (i := 2) scRaised.nd rfl (.inl rfl) (pe_op op_mulW (pv 2) (pv 0)))))
      (pss_one (ps_ret (pv 2)))), ?_⟩
    refine ⟨.int n, rfl, n, rfl, by omega, by omega, ?_⟩
    rw [Int.toNat_natCast]
    refine for_range (fun i σ H' => ∃ y, σ = [some (.int b), some (.int n), some (.int ((b ^ i : Nat) : Int)), y] ∧ H = H') ⟨none, rfl, rfl⟩ ?_ ?_
    · rintro i σ H' hi ⟨y, rfl, rfl⟩
      refine ⟨.int ((b ^ i : Nat) : Int), rfl, .int b, rfl, _, b, rfl, rfl, mulOk ?_ ?_, some (.int (0 + i)), ?_, rfl⟩
      · exact nat_lt (Nat.le_refl _) (pow_small hb hb2 (Nat.le_of_lt hi) hn)
      · exact nat_lt hb2 (by decide)
      · rw [Nat.pow_succ, Int.natCast_mul]
        rfl
    · rintro σ H' ⟨y, rfl, rfl⟩
      exact ⟨_, rfl, q⟩
/-! ### figures_of -/
def digL (b n k : Nat) : List V := (List.range k).map fun j => V.int ((n / b ^ j % b : Nat) : Int)
theorem digL_len (b n k : Nat) : (digL b n k).length = k := by
  unfold digL
  rw [List.length_map, List.length_range]
theorem digL_succ (b n k : Nat) : digL b n (k + 1) = digL b n k ++ [.int ((n / b ^ k % b : Nat) : Int)] := by
  unfold digL
  rw [List.range_succ, List.map_append]
  rfl
theorem digL_at {b n k i : Nat} {x : V} (h : (digL b n k)[i]? = some x) : i < k ∧ x = .int ((n / b ^ i % b : Nat) : Int) := by
  have hi : i < k := by
    have := (List.getElem?_eq_some_iff.mp h).1
    rw [digL_len] at this
    exact this
  unfold digL at h
  rw [List.getElem?_map, List.getElem?_range hi] at h
  exact ⟨hi, (Option.some.inj h).symm⟩
/-- so many figures a number has -/
structure Figs (b n k : Nat) : Prop where
  lt : n < b ^ k
  least : k ≤ 30
  pow : b ^ k ≤ 2 ^ 34
def spFigures : Sp := fun vs H Q _ => ∃ b n : Nat, vs = [.int b, .int n] ∧ 2 ≤ b ∧ b ≤ 16 ∧ n < 2 ^ 30 ∧
  ∀ H' p k, Same H H' → H p = none → H' p = some (.lst (digL b n k)) → Figs b n k → Q (.ref p) H'
theorem figs_of {b n i : Nat} (hb : 2 ≤ b) (hb2 : b ≤ 16) (hn : n < 2 ^ 30) (h : i = 0 ∨ b ^ (i - 1) ≤ n) : i ≤ 30 ∧ b ^ i ≤ 2 ^ 34 := by
  rcases h with rfl | h
  · exact ⟨by decide, by rw [Nat.pow_zero]; decide⟩
  · by_cases z : i = 0
    · subst z
      exact ⟨by decide, by rw [Nat.pow_zero]; decide⟩
    · obtain ⟨j, rfl⟩ : ∃ j, i = j + 1 := ⟨i - 1, by omega⟩
      rw [Nat.add_sub_cancel] at h
      constructor
      · have h2 : 2 ^ j < 2 ^ 30 := Nat.lt_of_le_of_lt (Nat.le_trans (Nat.pow_le_pow_left hb j) h) hn
        have := (Nat.pow_lt_pow_iff_right (by decide : 1 < 2)).mp h2
        omega
      · rw [Nat.pow_succ]
        have : b ^ j * b ≤ n * 16 := Nat.mul_le_mul h hb2
        omega
theorem ok_figures {f : Addr} {fd : FuncData} {k : Nat} (F : Fun K "figures_of" "figures_of" sFigures f fd) : FnOk P w K mg base CX0 (k + 1) f fd ["base", "n"] spFigures := by
  refine F.ok scFigures (fun vs H Q E h => ?_) (fun cdv A outer s H vs Q E hr h => ?_)
  · obtain ⟨a, b, rfl, _⟩ := h
    rfl
  · obtain ⟨b, n, rfl, hb, hb2, hn, q⟩ := h
    refine ⟨_, pss_cons (ps_set (i := 2) scFigures.nd rfl (.inl rfl) (pe_lst pa_nil))
      (pss_cons (ps_while PassesOwn.never (pt_cmpR op_gt (pv 1) pe_int (nomark _))
        (pss_cons (ps_expr (pe_bm PySem.F.plainAttrs_list PySem.F.slot_list_append PySem.F.type_list_append mt_append (pv 2) (pa_cons (pe_op op_mod (pv 1) (pv 0)) pa_nil)))
        (pss_one (ps_set (i := 1) scFigures.nd rfl (.inl rfl) (pe_op op_fdivW (pv 1) (pv 0))))))
      (pss_one (ps_ret (pv 2)))), ?_⟩
    refine ⟨Nat.zero_le _, fun p hp => ?_⟩
    refine ⟨fun m σ H' => ∃ i : Nat, σ = [some (.int b), some (.int ((n / b ^ i : Nat) : Int)), some (.ref p)] ∧ n / b ^ i = m ∧ (i = 0 ∨ b ^ (i - 1) ≤ n) ∧ Same H H' ∧ H' p = some (.lst (digL b n i)),
      ⟨n, 0, by rw [Nat.pow_zero, Nat.div_one]; rfl, by rw [Nat.pow_zero, Nat.div_one], .inl rfl, same_new (Same.refl H) hp, upd_same⟩, ?_⟩
    rintro m σ H' ⟨i, rfl, rfl, hi, sm, el⟩
    have fg := figs_of hb hb2 hn hi
    refine ⟨_, rfl, _, 0, rfl, rfl, _, rfl, ite2 (fun e => ?_) (fun e => ?_)⟩
    · have hpos : 0 < n / b ^ i := by
        have := of_decide_eq_true e
        omega
      refine ⟨fun σ' H' => σ' = [some (.int b), some (.int ((n / b ^ (i + 1) : Nat) : Int)), some (.ref p)] ∧ Same H H' ∧ H' p = some (.lst (digL b n (i + 1))), fun σ' H' ⟨e1, e2, e3⟩ => ⟨n / b ^ (i + 1), ?_, i + 1, e1, rfl, .inr ?_, e2, e3⟩, ?_⟩
      · rw [Nat.pow_succ, ← Nat.div_div_eq_div_mul]
        exact Nat.div_lt_self hpos hb
      · rw [Nat.add_sub_cancel]
        exact (Nat.one_le_div_iff (Nat.pow_pos (by omega))).mp hpos
      refine ⟨.ref p, rfl, .inl ⟨rfl, _, SqL.of el⟩, _, rfl, .int b, rfl, _, b, rfl, rfl, (by show (0 : Int) < b; omega), p, _, _, rfl, rfl, el, ?_, ?_⟩
      · rw [digL_len]
        exact small_line (by omega)
      refine ⟨_, rfl, .int b, rfl, _, b, rfl, rfl, wide_div (b := 5) (by omega) (nat_lt hb2 (by decide)) (by decide) (by decide), ?_, same_new sm hp, ?_⟩
      · rw [Nat.pow_succ, ← Nat.div_div_eq_div_mul]
        rfl
      · rw [upd_same, digL_succ]
        rfl
    · have hz : n / b ^ i = 0 := by
        by_cases z : n / b ^ i = 0
        · exact z
        · exact absurd (decide_eq_true (Int.natCast_pos.mpr (Nat.pos_of_ne_zero z))) e
      refine ⟨.ref p, rfl, q H' p i sm hp el ⟨?_, fg.1, fg.2⟩⟩
      exact (Nat.div_eq_zero_iff_lt (Nat.pow_pos (by omega))).mp hz
end
end Ev

set_option Elab.async false
set_option linter.all false
set_option maxRecDepth 100000
set_option maxHeartbeats 4000000
namespace Ev
open PySem PySem.Spec PyProof.Rows L2
/-! ### an exchange, a row -/
def eF (es : List Nat) : Nat → Nat := fun d => es.getD d 0
structure IsEx (b : Nat) (es : List Nat) : Prop where
  len : es.length = b
  ex : Ex b (eF es)
  le : b ≤ 16
def exV (es : List Nat) : List V := es.map fun d : Nat => V.int (d : Int)
theorem exV_at {es : List Nat} {d : Nat} (h : d < es.length) : (exV es)[d]? = some (.int ((eF es d : Nat) : Int)) := by
  unfold exV eF
  rw [List.getD_eq_getElem?_getD, List.getElem?_map, List.getElem?_eq_getElem h]
  rfl
/-- f is n turned about -/
def Tn (b : Nat) (es : List Nat) (n : Nat) (f : Fr) : Prop := ∃ p q : Nat, f = ((p : Int), (q : Int)) ∧ p * b ^ 30 = R b (eF es) 30 n * q ∧ 0 < q ∧ q ≤ 2 ^ 34 ∧ p < q
theorem tn_of {b k n p q : Nat} {es : List Nat} (X : IsEx b es) (g : Figs b n k) (h : p * b ^ k = R b (eF es) k n * q) (hq : 0 < q) (hq2 : q ≤ b ^ k) : Tn b es n ((p : Int), (q : Int)) := by
  obtain ⟨j, hj⟩ : ∃ j, 30 = k + j := ⟨30 - k, by have := g.least; omega⟩
  have hb := X.ex.pos
  have z : n / b ^ k = 0 := Nat.div_eq_of_lt g.lt
  refine ⟨p, q, rfl, ?_, hq, Nat.le_trans hq2 g.pow, ?_⟩
  · rw [hj, R_add X.ex j k n, z, R_zero X.ex, Nat.pow_add, ← Nat.mul_assoc, h, Nat.add_zero, Nat.mul_assoc, Nat.mul_assoc, Nat.mul_comm q]
  · have hR := R_lt X.ex k n
    have hB : 0 < b ^ k := Nat.pow_pos hb
    refine Nat.lt_of_mul_lt_mul_right (a := b ^ k) ?_
    rw [h, Nat.mul_comm q]
    exact Nat.mul_lt_mul_of_pos_right hR hq
def PairAt (H : Hp) (v : V) (be : Nat × List Nat) : Prop := ∃ c d, v = .ref c ∧ H c = some (.tup [.int be.1, .ref d]) ∧ H d = some (.tup (exV be.2)) ∧ IsEx be.1 be.2
def RowAt (H : Hp) (a : Addr) (row : List (Nat × List Nat)) : Prop := ∃ xs, H a = some (.tup xs) ∧ Paired (PairAt H) xs row
theorem PairAt.tk {H H' : Hp} (t : Tk H H') {v : V} {be : Nat × List Nat} (h : PairAt H v be) : PairAt H' v be := let ⟨c, d, e, h1, h2, h3⟩ := h; ⟨c, d, e, t _ _ h1, t _ _ h2, h3⟩
theorem RowAt.tk {H H' : Hp} (t : Tk H H') {a : Addr} {row : List (Nat × List Nat)} (h : RowAt H a row) : RowAt H' a row := let ⟨xs, h1, h2⟩ := h; ⟨xs, t _ _ h1, L2.Paired.mapP h2 fun _ _ z => z.tk t⟩
section
variable {P : Program} {w : World} {K : PySem.W.Frag} {mg : Str → Option Value} {base : Heap}
/-! ### turned -/
def spTurned : Sp := fun vs H Q _ => ∃ (b n : Nat) (es : List Nat) (a : Addr), vs = [.int b, .ref a, .int n] ∧ IsEx b es ∧ H a = some (.tup (exV es)) ∧ n < 2 ^ 30 ∧
  ∀ H' v f, Same H H' → FrAt H' v f → Tn b es n f → Q v H'
theorem ok_turned {f fS fF fG : Addr} {fd fdS fdF fdG : FuncData} {k : Nat} (F : Fun K "turned" "turned" sTurned f fd) (T : Txt mg)
    (FS : Fun K "shared" "shared" sShared fS fdS) (bS : Binds K fdS ["one", "other"] []) (gS : mg "shared" = some (.ref fS))
    (FF : Fun K "fraction" "fraction" sFraction fF fdF) (bF : Binds K fdF ["top", "bottom"] []) (gF : mg "fraction" = some (.ref fF))
    (FG : Fun K "figures_of" "figures_of" sFigures fG fdG) (bG : Binds K fdG ["base", "n"] []) (gG : mg "figures_of" = some (.ref fG)) : FnOk P w K mg base CX0 (k + 3) f fd ["base", "exchange", "n"] spTurned := by
  have GF : FnOk P w K mg base CX0 (k + 2) fF fdF ["top", "bottom"] spFraction := ok_fraction FF T FS bS gS
  have GG : FnOk P w K mg base CX0 (k + 2) fG fdG ["base", "n"] spFigures := ok_figures FG
  refine F.ok scTurned (fun vs H Q E h => ?_) (fun cdv A outer s H vs Q E hr h => ?_)
  · obtain ⟨b, n, es, a, rfl, _⟩ := h
    rfl
  · obtain ⟨b, n, es, a, rfl, X, ha, hn, q⟩ := h
    refine ⟨_, pss_cons (ps_set (i := 3) scTurned.nd rfl (.inl rfl) pe_int)
      (pss_cons (ps_set (i := 4) scTurned.nd rfl (.inl rfl) pe_int)
      (pss_cons (ps_for PassesOwn.never rfl (pi_list (pe_call GG hr (by rfl) gG FG.kp bG .nil pass0 (pa_cons (pv 0) (pa_cons (pv 2) pa_nil)))) (pg_name (i := 5) scTurned.nd rfl (.inl rfl))
        (pss_cons (ps_set (i := 3) scTurned.nd rfl (.inl rfl) (pe_op op_add (pe_op op_mulW (pv 3) (pv 0)) (pe_ix ix_tup (pv 1) (pv 5) (fun _ _ => rfl))))
        (pss_one (ps_set (i := 4) scTurned.nd rfl (.inl rfl) (pe_op op_mulW (pv 4) (pv 0))))))
      (pss_one (ps_ret (pe_call GF hr (by rfl) gF FF.kp bF .nil pass0 (pa_cons (pv 3) (pa_cons (pv 4) pa_nil))))))), ?_⟩
    refine ⟨.int b, rfl, .int n, rfl, b, n, rfl, X.ex.two, X.le, hn, fun H1 p kk sm np el fg => ?_⟩
    refine ⟨p, rfl, ⟨_, SqL.of el⟩, for_list (K := K) (a := p) (xs := digL b n kk) (fun i σ H' => ∃ y, σ = [some (.int b), some (.ref a), some (.int n), some (.int ((R b (eF es) i n : Nat) : Int)), some (.int ((b ^ i : Nat) : Int)), y] ∧ H1 = H')
      ⟨none, rfl, rfl⟩ ?_ ?_ ?_⟩
    · rintro i σ H' hi ⟨y, rfl, rfl⟩
      exact SqL.of el
    · rintro i x σ H' hx ⟨y, rfl, rfl⟩
      obtain ⟨hi, rfl⟩ := digL_at hx
      have hb := X.ex.pos
      have hd : n / b ^ i % b < b := Nat.mod_lt _ hb
      have bi : b ^ i ≤ 2 ^ 34 := Nat.le_trans (Nat.pow_le_pow_right hb (Nat.le_of_lt hi)) fg.pow
      have ri := R_lt X.ex i n
      have b16 : ((b : Int)).natAbs < 2 ^ 250 := nat_lt X.le (by decide)
      refine ⟨_, rfl, .int b, rfl, _, b, rfl, rfl, mulOk (nat_lt (show _ ≤ 2 ^ 34 by omega) (by decide)) b16, .ref a, rfl, _, rfl, a, _, _, _, rfl, rfl, SqT.of (sm _ _ ha), atI_nat (exV_at (by rw [X.len]; exact hd)), _, _, rfl, rfl, ?_⟩
      refine ⟨_, rfl, .int b, rfl, _, b, rfl, rfl, mulOk (nat_lt bi (by decide)) b16, some (.int ((n / b ^ i % b : Nat) : Int)), ?_, rfl⟩
      rw [R_next X.ex i n, Nat.pow_succ, Int.natCast_add, Int.natCast_mul, Int.natCast_mul]
      rfl
    · rintro σ H' ⟨y, rfl, rfl⟩
      rw [digL_len]
      have hb := X.ex.pos
      refine ⟨_, rfl, _, rfl, _, _, rfl, Nat.pow_pos hb, Nat.lt_of_le_of_lt fg.pow (by decide), fun H2 v pp qq sm2 fr e1 e2 e3 e4 => ?_⟩
      exact q H2 v _ (sm.trans sm2) fr (tn_of X fg e1 e2 e3)
/-! ### depth_for -/
def depthG (b N : Nat) : Nat → Nat → Nat
  | 0, i => i
  | f + 1, i => if N ≤ b ^ i then i else depthG b N f (i + 1)
def depthF (b N : Nat) : Nat := depthG b N 8 0
theorem depthG_eq {b N m : Nat} (hm : N ≤ b ^ m) : ∀ f i, i ≤ m → m ≤ i + f → (∀ j, i ≤ j → j < m → b ^ j < N) → depthG b N f i = m
  | 0, i, h1, h2, _ => by
    show i = m
    omega
  | f + 1, i, h1, h2, h3 => by
    show (if N ≤ b ^ i then i else depthG b N f (i + 1)) = m
    by_cases e : i = m
    · subst e
      rw [if_pos hm]
    · have h4 := h3 i (Nat.le_refl _) (by omega)
      rw [if_neg (by omega)]
      exact depthG_eq hm f (i + 1) (by omega) (by omega) fun j hj hj2 => h3 j (by omega) hj2
theorem depthG_ge {b N : Nat} : ∀ f i, N ≤ b ^ (i + f) → N ≤ b ^ (depthG b N f i)
  | 0, i, h => h
  | f + 1, i, h => by
    show N ≤ b ^ (if N ≤ b ^ i then i else depthG b N f (i + 1))
    by_cases e : N ≤ b ^ i
    · rw [if_pos e]
      exact e
    · rw [if_neg e]
      exact depthG_ge f (i + 1) (by rw [show i + 1 + f = i + (f + 1) by omega]; exact h)
theorem depthG_le {b N : Nat} : ∀ f i, depthG b N f i ≤ i + f
  | 0, i => Nat.le_refl _
  | f + 1, i => by
    show (if N ≤ b ^ i then i else depthG b N f (i + 1)) ≤ _
    split
    · omega
    · have := depthG_le (b := b) (N := N) f (i + 1)
      omega
theorem depthF_ge {b N : Nat} (hb : 2 ≤ b) (hN : N ≤ 100) : N ≤ b ^ depthF b N := by
  refine depthG_ge 8 0 (Nat.le_trans hN ?_)
  exact Nat.le_trans (by decide : 100 ≤ 2 ^ 8) (Nat.pow_le_pow_left hb 8)
theorem depthF_le {b N : Nat} : depthF b N ≤ 8 := depthG_le 8 0
def spDepth : Sp := fun vs H Q _ => ∃ b N : Nat, vs = [.int b, .int N] ∧ 2 ≤ b ∧ b ≤ 16 ∧ N ≤ 100 ∧ Q (.int ((depthF b N : Nat) : Int)) H
theorem ok_depth {f fR : Addr} {fd fdR : FuncData} {k : Nat} (F : Fun K "depth_for" "depth_for" sDepth f fd) (T : Txt mg)
    (FR : Fun K "raised" "raised" sRaised fR fdR) (bR : Binds K fdR ["base", "k"] []) (gR : mg "raised" = some (.ref fR)) : FnOk P w K mg base CX0 (k + 2) f fd ["base", "many"] spDepth := by
  have GR : FnOk P w K mg base CX0 (k + 1) fR fdR ["base", "k"] spRaised := ok_raised FR T
  refine F.ok scDepth (fun vs H Q E h => ?_) (fun cdv A outer s H vs Q E hr h => ?_)
  · obtain ⟨a, b, rfl, _⟩ := h
    rfl
  · obtain ⟨b, N, rfl, hb, hb2, hN, q⟩ := h
    refine ⟨_, pss_cons (ps_set (i := 2) scDepth.nd rfl (.inl rfl) pe_int)
      (pss_cons (ps_while PassesOwn.never (pt_cmpR op_lt (pe_call GR hr (by rfl) gR FR.kp bR .nil pass0 (pa_cons (pv 0) (pa_cons (pv 2) pa_nil))) (pv 1) (nomark _))
        (pss_one (ps_set (i := 2) scDepth.nd rfl (.inl rfl) (pe_op op_add (pv 2) pe_int))))
      (pss_one (ps_ret (pv 2)))), ?_⟩
    have lo : ∀ i : Nat, b ^ i < N → i < 7 := fun i h => by
      have h2 : 2 ^ i < 2 ^ 7 := Nat.lt_of_le_of_lt (Nat.pow_le_pow_left hb i) (Nat.lt_of_lt_of_le h (Nat.le_trans hN (by decide)))
      exact (Nat.pow_lt_pow_iff_right (by decide : 1 < 2)).mp h2
    refine ⟨fun m σ H' => ∃ i : Nat, σ = [some (.int b), some (.int N), some (.int i)] ∧ i ≤ 7 ∧ 7 - i = m ∧ (∀ j, j < i → b ^ j < N) ∧ H = H', ⟨7, 0, rfl, by decide, rfl, fun j hj => absurd hj (Nat.not_lt_zero j), rfl⟩, ?_⟩
    rintro m σ H' ⟨i, rfl, i7, rfl, hj, rfl⟩
    refine ⟨.int b, rfl, .int i, rfl, b, i, rfl, by omega, hb2, by omega, .int N, rfl, _, N, rfl, rfl, _, rfl, ite2 (fun e => ?_) (fun e => ?_)⟩
    · have e' : b ^ i < N := by
        have := of_decide_eq_true e
        omega
      have i7' := lo i e'
      refine ⟨fun σ' H' => σ' = [some (.int b), some (.int N), some (.int ((i + 1 : Nat) : Int))] ∧ H = H', fun σ' H' ⟨e1, e2⟩ => ⟨7 - (i + 1), by omega, i + 1, e1, by omega, rfl, fun j h => ?_, e2⟩, ?_⟩
      · by_cases z : j = i
        · rw [z]
          exact e'
        · exact hj j (by omega)
      · exact ⟨.int i, rfl, i, 1, rfl, rfl, rfl, rfl⟩
    · have e' : N ≤ b ^ i := by
        by_cases z : N ≤ b ^ i
        · exact z
        · exact absurd (decide_eq_true (by omega)) e
      have hi : depthF b N = i := depthG_eq e' 8 0 (Nat.zero_le _) (by omega) fun j _ h => hj j h
      rw [hi] at q
      exact ⟨.int i, rfl, q⟩
/-! ### row_bound -/
def gB (b N : Nat) : Nat := max 1 ((b - 1) * depthF b N)
def prodF (row : List (Nat × List Nat)) (N : Nat) : Nat := row.foldl (fun p be => p * gB be.1 N) 1
theorem prodF_snoc (row : List (Nat × List Nat)) (be : Nat × List Nat) (N : Nat) : prodF (row ++ [be]) N = prodF row N * gB be.1 N := by
  unfold prodF
  rw [List.foldl_append]
  rfl
theorem gB_le {b N : Nat} (hb : b ≤ 16) : gB b N ≤ 128 := by
  have h : (b - 1) * depthF b N ≤ 15 * 8 := Nat.mul_le_mul (by omega) depthF_le
  unfold gB
  omega
def spBound : Sp := fun vs H Q _ => ∃ (a : Addr) (row : List (Nat × List Nat)) (N : Nat), vs = [.ref a, .int N] ∧ RowAt H a row ∧ row.length ≤ 3 ∧ 1 ≤ N ∧ N ≤ 100 ∧
  ∀ H' v (u d : Nat), Same H H' → FrAt H' v ((u : Int), (d : Int)) → u * N = min N (prodF row N + row.length) * d → 0 < d → d ≤ N → u ≤ N → Q v H'
theorem ok_bound {f fS fF fR fD : Addr} {fd fdS fdF fdR fdD : FuncData} {k : Nat} (F : Fun K "row_bound" "row_bound" sBound f fd) (T : Txt mg)
    (FS : Fun K "shared" "shared" sShared fS fdS) (bS : Binds K fdS ["one", "other"] []) (gS : mg "shared" = some (.ref fS))
    (FF : Fun K "fraction" "fraction" sFraction fF fdF) (bF : Binds K fdF ["top", "bottom"] []) (gF : mg "fraction" = some (.ref fF))
    (FR : Fun K "raised" "raised" sRaised fR fdR) (bR : Binds K fdR ["base", "k"] []) (gR : mg "raised" = some (.ref fR))
    (FD : Fun K "depth_for" "depth_for" sDepth fD fdD) (bD : Binds K fdD ["base", "many"] []) (gD : mg "depth_for" = some (.ref fD)) : FnOk P w K mg base CX0 (k + 3) f fd ["row", "many"] spBound := by
  have GF : FnOk P w K mg base CX0 (k + 2) fF fdF ["top", "bottom"] spFraction := ok_fraction FF T FS bS gS
  have GD : FnOk P w K mg base CX0 (k + 2) fD fdD ["base", "many"] spDepth := ok_depth FD T FR bR gR
  refine F.ok scBound (fun vs H Q E h => ?_) (fun cdv A outer s H vs Q E hr h => ?_)
  · obtain ⟨a, row, N, rfl, _⟩ := h
    rfl
  · obtain ⟨a, row, N, rfl, hrow, h3, h1, h100, q⟩ := h
    refine ⟨_, pss_cons (ps_set (i := 2) scBound.nd rfl (.inl rfl) pe_int)
      (pss_cons (ps_for PassesOwn.never rfl (pi_tup (pv 0)) (pg_tup rfl (pgs_cons (pg_name (i := 3) scBound.nd rfl (.inl rfl)) (pgs_cons (pg_name (i := 4) scBound.nd rfl (.inl rfl)) pgs_nil)))
        (pss_one (ps_set (i := 2) scBound.nd rfl (.inl rfl) (pe_op op_mulW (pv 2) (pe_callB (call_max2 rfl) (by rfl) T.max (by decide +kernel) (pa_cons pe_int (pa_cons (pe_op op_mulW (pe_op op_sub (pv 3) pe_int)
          (pe_call GD hr (by rfl) gD FD.kp bD .nil pass0 (pa_cons (pv 3) (pa_cons (pv 1) pa_nil)))) pa_nil)))))))
      (pss_one (ps_ret (pe_call GF hr (by rfl) gF FF.kp bF .nil pass0 (pa_cons (pe_callB (call_min2 rfl) (by rfl) T.min (by decide +kernel) (pa_cons (pv 1) (pa_cons (pe_op op_add (pv 2) (pe_callB call_len_seq (by rfl) T.len PySem.boot_len (pa_cons (pv 0) pa_nil))) pa_nil))) (pa_cons (pv 1) pa_nil)))))), ?_⟩
    obtain ⟨xs, hxs, hp⟩ := hrow
    have hlen := paired_len hp
    refine ⟨.ref a, rfl, a, rfl, ⟨_, SqT.of hxs⟩, for_tup (K := K) (a := a) (xs := xs) (fun i σ H' => ∃ y3 y4, σ = [some (.ref a), some (.int N), some (.int ((prodF (row.take i) N : Nat) : Int)), y3, y4] ∧ prodF (row.take i) N ≤ 128 ^ i ∧ H = H')
      ⟨none, none, rfl, Nat.le_refl _, rfl⟩ ?_ ?_ ?_⟩
    · rintro i σ H' hi ⟨y3, y4, rfl, _, rfl⟩
      exact SqT.of hxs
    · rintro i x σ H' hx ⟨y3, y4, rfl, hl, rfl⟩
      obtain ⟨be, hbe, c, d, rfl, hc, hd, hex⟩ := paired_at hp hx
      have hi : i < row.length := (List.getElem?_eq_some_iff.mp hbe).1
      have i3 : 128 ^ i ≤ 128 ^ 3 := Nat.pow_le_pow_right (by decide) (by omega)
      have et : row.take (i + 1) = row.take i ++ [be] := by rw [List.take_add_one, hbe]; rfl
      have hg := gB_le (N := N) hex.le
      refine ⟨c, _, rfl, SqT.of hc, rfl, _, _, rfl, _, _, rfl, rfl, ?_⟩
      have b2 := hex.ex.two
      have e1 : ((be.1 : Int) - 1) = ((be.1 - 1 : Nat) : Int) := by omega
      have dl := depthF_le (b := be.1) (N := N)
      have b16 := hex.le
      refine ⟨_, rfl, .int be.1, rfl, be.1, 1, rfl, rfl, .int be.1, rfl, .int N, rfl, be.1, N, rfl, b2, hex.le, h100, _, _, rfl, rfl, ?_, _, _, rfl, _, _, rfl, rfl, ?_, some (.int be.1), some (.ref d), ?_, ?_, rfl⟩
      · rw [e1]
        exact mulOk (nat_lt (show _ ≤ 16 by omega) (by decide)) (nat_lt dl (by decide))
      · refine mulOk (nat_lt (Nat.le_trans hl i3) (by decide)) ?_
        rw [e1, ← Int.natCast_mul]
        have h : (be.1 - 1) * depthF be.1 N ≤ 15 * 8 := Nat.mul_le_mul (by omega) dl
        generalize (be.1 - 1) * depthF be.1 N = z at *
        have : (if (z : Int) > 1 then (z : Int) else 1).natAbs ≤ 128 := by split <;> omega
        exact Nat.lt_of_le_of_lt this (by decide)
      · rw [et, prodF_snoc, Int.natCast_mul]
        show _ = [some (V.ref a), some (V.int N), some (V.int (((prodF (List.take i row) N : Nat) : Int) * ((gB be.1 N : Nat) : Int))), some (V.int be.1), some (V.ref d)]
        have eg : ((gB be.1 N : Nat) : Int) = (if ((be.1 : Int) - 1) * (depthF be.1 N : Int) > 1 then ((be.1 : Int) - 1) * (depthF be.1 N : Int) else 1) := by
          rw [e1, ← Int.natCast_mul]
          unfold gB
          generalize (be.1 - 1) * depthF be.1 N = z at *
          split <;> omega
        rw [eg]
        rfl
      · rw [et, prodF_snoc, Nat.pow_succ]
        exact Nat.mul_le_mul hl hg
    · rintro σ H' ⟨y3, y4, rfl, hl, rfl⟩
      rw [hlen, List.take_length] at hl ⊢
      refine ⟨.int N, rfl, _, rfl, .ref a, rfl, a, _, rfl, .inr (SqT.of hxs), _, _, rfl, rfl, _, _, rfl, .int N, rfl, min N (prodF row N + row.length), N, ?_, h1, Nat.lt_of_le_of_lt h100 (by decide), fun H' v u d sm fr e1 e2 e3 e4 => ?_⟩
      · rw [hlen]
        have : (if ((prodF row N : Nat) : Int) + (row.length : Int) < (N : Int) then ((prodF row N : Nat) : Int) + (row.length : Int) else (N : Int)) = ((min N (prodF row N + row.length) : Nat) : Int) := by
          split <;> omega
        rw [this]
        rfl
      · exact q H' v u d sm fr e1 e2 e3 (by omega)
end
end Ev

set_option Elab.async false
set_option linter.all false
set_option maxRecDepth 100000
set_option maxHeartbeats 4000000
namespace Ev
open PySem PySem.Spec PyProof.Rows L2
/-- pt is point n of the row -/
def PtN (row : List (Nat × List Nat)) (n : Nat) (pt : List Fr) : Prop := Paired (fun be f => Tn be.1 be.2 n f) row pt
section
variable {P : Program} {w : World} {K : PySem.W.Frag} {mg : Str → Option Value} {base : Heap}
/-! ### points_of -/
def spPoints : Sp := fun vs H Q _ => ∃ (a : Addr) (row : List (Nat × List Nat)) (g N : Nat), vs = [.ref a, .int g, .int N] ∧ RowAt H a row ∧ row.length ≤ 3 ∧ N ≤ 100 ∧ g + N ≤ 2 ^ 30 ∧
  ∀ H' p xs pts, Same H H' → H' p = some (.tup xs) → Paired (PtAt H') xs pts → pts.length = N → (∀ i pt, pts[i]? = some pt → PtN row (g + i) pt) → Q (.ref p) H'
theorem ok_points {f fS fF fG fT : Addr} {fd fdS fdF fdG fdT : FuncData} {k : Nat} (F : Fun K "points_of" "points_of" sPoints f fd) (T : Txt mg)
    (FS : Fun K "shared" "shared" sShared fS fdS) (bS : Binds K fdS ["one", "other"] []) (gS : mg "shared" = some (.ref fS))
    (FF : Fun K "fraction" "fraction" sFraction fF fdF) (bF : Binds K fdF ["top", "bottom"] []) (gF : mg "fraction" = some (.ref fF))
    (FG : Fun K "figures_of" "figures_of" sFigures fG fdG) (bG : Binds K fdG ["base", "n"] []) (gG : mg "figures_of" = some (.ref fG))
    (FT : Fun K "turned" "turned" sTurned fT fdT) (bT : Binds K fdT ["base", "exchange", "n"] []) (gT : mg "turned" = some (.ref fT)) : FnOk P w K mg base CX0 (k + 4) f fd ["row", "begin", "many"] spPoints := by
  have GT : FnOk P w K mg base CX0 (k + 3) fT fdT ["base", "exchange", "n"] spTurned := ok_turned FT T FS bS gS FF bF gF FG bG gG
  refine F.ok scPoints (fun vs H Q E h => ?_) (fun cdv A outer s H vs Q E hr h => ?_)
  · obtain ⟨a, row, g, N, rfl, _⟩ := h
    rfl
  · obtain ⟨a, row, g, N, rfl, hrow, h3, hN, hg, q⟩ := h
    refine ⟨_, pss_cons (ps_set (i := 3) scPoints.nd rfl (.inl rfl) (pe_lst pa_nil))
      (pss_cons (ps_for PassesOwn.never rfl (pi_range2 (by rfl) T.range (pa_cons (pv 1) (pa_cons (pe_op op_add (pv 1) (pv 2)) pa_nil))) (pg_name (i := 4) scPoints.nd rfl (.inr rfl))
        (pss_one (ps_expr (pe_bm PySem.F.plainAttrs_list PySem.F.slot_list_append PySem.F.type_list_append mt_append (pv 3)
          (pa_cons (pe_tupleOf (by rfl) T.tuple (pe_lc (own := [("base", 5), ("exchange", 6)]) (g := gTup K 2 (gCons (gName 5) (gCons (gName 6) gNil))) (tt := tYes) rfl scPoints.nd (pi_tup (pv 0)) (blkOk_by (own := [("base", 5), ("exchange", 6)]) (N := nPoints) (sc := defScope sPoints) (by decide +kernel))
            (fun _ _ _ _ _ => pg_tup rfl (pgs_cons (pg_name (i := 5) scPoints.nd rfl (Or.inl rfl)) (pgs_cons (pg_name (i := 6) scPoints.nd rfl (Or.inl rfl)) pgs_nil))) (fun _ _ _ _ _ => pts_nil)
            (fun _ _ _ _ _ => pe_call GT hr (by rfl) gT FT.kp bT .nil pass0 (pa_cons (pv 5) (pa_cons (pv 6) (pa_cons (pv 4) pa_nil)))))) pa_nil)))))
      (pss_one (ps_ret (pe_tupleOf (by rfl) T.tuple (pv 3))))), ?_⟩
    refine ⟨Nat.zero_le _, fun p0 hp0 => ?_⟩
    have tk0 : Same H (upd H p0 (.lst [])) := same_new (Same.refl H) hp0
    refine ⟨.int g, rfl, .int g, rfl, .int N, rfl, g, N, rfl, rfl, g, _, rfl, ⟨by omega, by omega, by omega, by omega⟩, ?_⟩
    have en : ((g : Int) + (N : Int) - (g : Int)).toNat = N := by omega
    rw [en]
    refine for_range (fun i σ H' => ∃ y4, σ = [some (.ref a), some (.int g), some (.int N), some (.ref p0), y4, none, none] ∧ Same H H' ∧ ∃ xs pts, H' p0 = some (.lst xs) ∧ Paired (PtAt H') xs pts ∧ pts.length = i ∧ ∀ j pt, pts[j]? = some pt → PtN row (g + j) pt)
      ⟨none, rfl, tk0, [], [], upd_same, .nil, rfl, fun j pt e => by simp at e⟩ ?_ ?_
    · rintro i σ H1 hi ⟨y4, rfl, sm, xs, pts, hx, hp, hl, hpt⟩
      have hrow1 : RowAt H1 a row := hrow.tk sm.tk
      obtain ⟨rs, hrs, hpr⟩ := hrow1
      have hlr := paired_len hpr
      have hxl := paired_len hp
      -- found.append(..)
      refine ⟨.ref p0, rfl, .inl ⟨rfl, _, SqL.of hx⟩, ?_⟩
      -- the comprehension
      refine ⟨.ref a, rfl, a, rfl, ⟨_, SqT.of hrs⟩, fun D hD => lc_tup (K := K) (a := a) (xs := rs) (fun j H2 => Same H1 H2 ∧ ∃ acc fs, H2 D = some (.lst acc) ∧ Paired (FrAt H2) acc fs ∧ Paired (fun be f => Tn be.1 be.2 (g + i) f) (row.take j) fs)
        ⟨same_new (Same.refl H1) hD, [], [], upd_same, .nil, .nil⟩ ?_ ?_ ?_⟩
      · rintro j H2 hj ⟨s2, _⟩
        exact SqT.of (s2 _ _ hrs)
      · rintro j x H2 hxj ⟨s2, acc, fs, hacc, hfs, htn⟩
        obtain ⟨be, hbe, c, d, rfl, hc, hd, hex⟩ := paired_at hpr hxj
        have hj : j < row.length := (List.getElem?_eq_some_iff.mp hbe).1
        have et : row.take (j + 1) = row.take j ++ [be] := by rw [List.take_add_one, hbe]; rfl
        refine ⟨c, _, rfl, SqT.of (s2 _ _ hc), rfl, _, _, rfl, _, _, rfl, rfl, rfl, ?_⟩
        refine ⟨.int be.1, rfl, .ref d, rfl, .int (g + i), rfl, be.1, g + i, be.2, d, rfl, hex, s2 _ _ hd, by omega, fun H3 v f sm3 fr tn => ?_⟩
        have hl1 := paired_len hfs
        have hl2 := paired_len htn
        refine ⟨acc, sm3 _ _ hacc, small_line ?_, same_new (s2.trans sm3) hD, acc ++ [v], fs ++ [f], upd_same, ?_, ?_⟩
        · rw [hl1, ← hl2, List.length_take]
          omega
        · have t : Tk H2 (upd H3 D (.lst (acc ++ [v]))) := sm3.tk.trans (tk_lst (sm3 _ _ hacc))
          exact paired_snoc (L2.Paired.mapP hfs fun _ _ z => z.tk t) (fr.tk (tk_lst (sm3 _ _ hacc)))
        · rw [et]
          exact paired_snoc htn tn
      · rintro H2 ⟨s2, acc, fs, hacc, hfs, htn⟩
        rw [hlr, List.take_length] at htn
        -- tuple(..)
        refine .inl ⟨D, acc, rfl, SqL.of hacc, fun t ht => ?_⟩
        have s3 : Same H1 (upd H2 t (.tup acc)) := same_new s2 (s2.free ht)
        refine ⟨p0, xs, _, rfl, rfl, s3 _ _ hx, small_line (by omega), ?_⟩
        have t3 : Tk H2 (upd (upd H2 t (.tup acc)) p0 (.lst (xs ++ [.ref t]))) := (tk_new ht).trans (tk_lst (s3 _ _ hx))
        have t1 : Tk H1 (upd (upd H2 t (.tup acc)) p0 (.lst (xs ++ [.ref t]))) := s3.tk.trans (tk_lst (s3 _ _ hx))
        refine ⟨_, rfl, same_new (sm.trans s3) hp0, xs ++ [.ref t], pts ++ [fs], upd_same, paired_snoc (L2.Paired.mapP hp fun _ _ z => z.tk t1) ⟨t, acc, rfl, ?_, L2.Paired.mapP hfs fun _ _ z => z.tk t3⟩, by rw [List.length_append, hl]; rfl, fun j pt e => ?_⟩
        · have nt : t ≠ p0 := fun e => by
            rw [e, s2 _ _ hx] at ht
            cases ht
          rw [upd_ne nt, upd_same]
        · by_cases z : j < pts.length
          · rw [List.getElem?_append_left z] at e
            exact hpt j pt e
          · have ej : j = i := by
              have := (List.getElem?_eq_some_iff.mp e).1
              rw [List.length_append] at this
              simp at this
              omega
            subst ej
            rw [List.getElem?_append_right (by omega), hl, Nat.sub_self] at e
            have e' : fs = pt := Option.some.inj e
            subst e'
            exact htn
    · rintro σ H1 ⟨y4, rfl, sm, xs, pts, hx, hp, hl, hpt⟩
      refine ⟨.ref p0, rfl, .inl ⟨p0, xs, rfl, SqL.of hx, fun t ht => ?_⟩⟩
      exact q _ t xs pts (same_new sm (sm.free ht)) upd_same (L2.Paired.mapP hp fun _ _ z => z.tk (tk_new ht)) hl hpt
end
end Ev

set_option Elab.async false
set_option linter.all false
set_option maxRecDepth 100000
set_option maxHeartbeats 4000000
namespace Ev
open PySem PySem.Spec PyProof.Rows L2
/-! ### the feed -/
def FeedAt (H : Hp) (L S : Addr) (ns : List Int) (k1 k2 k3 : Int) : Prop := H L = some (.lst [.ref S, .int k1, .int k2, .int k3]) ∧ H S = some (.lst (ns.map V.int)) ∧ 0 ≤ k3
def Feed (H : Hp) (L S : Addr) : Prop := ∃ ns k1 k2 k3, FeedAt H L S ns k1 k2 k3
theorem FeedAt.ne {H : Hp} {L S : Addr} {ns : List Int} {k1 k2 k3 : Int} (h : FeedAt H L S ns k1 k2 k3) : S ≠ L := fun e => by
  have h1 := h.1
  rw [← e, h.2.1] at h1
  have h2 := HO.lst.inj (Option.some.inj h1)
  cases ns with
  | nil => cases h2
  | cons n r =>
    rw [List.map_cons] at h2
    have h3 := (List.cons.inj h2).1
    cases h3
theorem FeedAt.set {H : Hp} {L S : Addr} {ns : List Int} {k1 k2 k3 : Int} (h : FeedAt H L S ns k1 k2 k3) (j1 j2 j3 : Int) (h3 : 0 ≤ j3) : FeedAt (upd H L (.lst [.ref S, .int j1, .int j2, .int j3])) L S ns j1 j2 j3 :=
  ⟨upd_same, by rw [upd_ne h.ne]; exact h.2.1, h3⟩
theorem Feed.same {H H' : Hp} {L S : Addr} (h : Feed H L S) (s : Same H H') : Feed H' L S := let ⟨ns, k1, k2, k3, h1, h2, h3⟩ := h; ⟨ns, k1, k2, k3, s _ _ h1, s _ _ h2, h3⟩
theorem Feed.lst {H : Hp} {L S : Addr} (h : Feed H L S) : ∃ xs, H L = some (.lst xs) := let ⟨ns, k1, k2, k3, h1, h2, h3⟩ := h; ⟨_, h1⟩
theorem Feed.lstS {H : Hp} {L S : Addr} (h : Feed H L S) : ∃ xs, H S = some (.lst xs) := let ⟨ns, k1, k2, k3, h1, h2, h3⟩ := h; ⟨_, h2⟩
theorem Feed.neL {H : Hp} {L S l : Addr} (h : Feed H L S) (hl : H l = none) : l ≠ L := fun e => by
  obtain ⟨xs, q⟩ := h.lst
  rw [e, q] at hl
  cases hl
theorem Feed.neS {H : Hp} {L S l : Addr} (h : Feed H L S) (hl : H l = none) : l ≠ S := fun e => by
  obtain ⟨xs, q⟩ := h.lstS
  rw [e, q] at hl
  cases hl
/-- another thing is written -/
theorem Feed.put {H : Hp} {L S l : Addr} {o : HO} (h : Feed H L S) (n1 : l ≠ L) (n2 : l ≠ S) : Feed (upd H l o) L S := by
  obtain ⟨ns, k1, k2, k3, h1, h2, h3⟩ := h
  exact ⟨ns, k1, k2, k3, by rw [upd_ne n1.symm]; exact h1, by rw [upd_ne n2.symm]; exact h2, h3⟩
theorem Feed.new {H : Hp} {L S l : Addr} {o : HO} (h : Feed H L S) (hl : H l = none) : Feed (upd H l o) L S := h.put (h.neL hl) (h.neS hl)
theorem Sb.tkF {L S : Addr} {H H' : Hp} (s : Sb L H H') (h : Feed H L S) : Tk H H' := let ⟨_, e⟩ := h.lst; s.tk e
theorem Sb.freeF {L S p : Addr} {H H1 : Hp} (s : Sb L H H1) (h : Feed H1 L S) (hp : H1 p = none) : H p = none := let ⟨_, e⟩ := h.lst; s.free e hp
/-- what is shown once and used at several ends -/
theorem cut_ {A B : Prop} (f : A → B) (a : A) : B := f a
theorem cutA {α : Type} {N : α → Prop} {B : Prop} (f : (∀ c, N c) → B) (a : ∀ c, N c) : B := f a
section
variable {P : Program} {w : World} {K : PySem.W.Frag} {mg : Str → Option Value} {base : Heap}
def spFeed (K : PySem.W.Frag) : Sp := fun vs H Q _ => ∃ (a : Addr) (ns : List Int), vs = [.ref a] ∧ SqL K H a (ns.map V.int) ∧ ∀ H' L S, Same H H' → Feed H' L S → Q (.ref L) H'
theorem ok_feed {f : Addr} {fd : FuncData} {k : Nat} (F : Fun K "_law_feed" "_law_feed" sFeed f fd) (T : Txt mg) : FnOk P w K mg base CX0 (k + 1) f fd ["_law_script"] (spFeed K) := by
  refine F.ok scFeed (fun vs H Q E h => ?_) (fun cdv A outer s H vs Q E hr h => ?_)
  · obtain ⟨a, ns, rfl, _⟩ := h
    rfl
  · obtain ⟨a, ns, rfl, hS, q⟩ := h
    refine ⟨_, pss_one (ps_ret (pe_lst (pa_cons (pe_callTy call_list_of (by rfl) T.list (by decide +kernel) (pa_cons (pe_slice sl_list (pv 0) po_none (po_some pe_int)) pa_nil)) (pa_cons pe_int (pa_cons pe_int (pa_cons pe_int pa_nil)))))), ?_⟩
    refine ⟨.ref a, rfl, 63, rfl, a, _, rfl, hS, fun p hp => ?_⟩
    have s1 : Same H (upd H p (.lst (cutV (ns.map V.int) none (some 63)))) := same_new (Same.refl H) hp
    refine ⟨p, _, rfl, .inl (SqL.of upd_same), fun l hl => ?_⟩
    have s2 : Same H (upd (upd H p (.lst (cutV (ns.map V.int) none (some 63)))) l (.lst (cutV (ns.map V.int) none (some 63)))) := same_new s1 (s1.free hl)
    refine ⟨by show 4 ≤ sizeLine; decide, fun L hL => ?_⟩
    have nl : l ≠ L := fun e => by
      rw [← e, upd_same] at hL
      cases hL
    obtain ⟨ms, hms⟩ : ∃ ms : List Int, cutV (ns.map V.int) none (some 63) = ms.map V.int := ⟨_, by
      unfold cutV
      rw [← List.map_drop, ← List.map_take]⟩
    refine q _ L l (same_new s2 (s2.free hL)) ⟨ms, 0, 0, 0, upd_same, ?_, by decide⟩
    rw [upd_ne nl, upd_same, hms]
/-! ### draw -/
def spDraw : Sp := fun vs H Q _ => ∃ (L S : Addr) (M : Nat), vs = [.ref L, .int M] ∧ Feed H L S ∧ 0 < M ∧ M < 2 ^ 200 ∧ ∀ H' (d : Nat), Sb L H H' → Feed H' L S → d < M → Q (.int d) H'
theorem emod_nat (x : Int) {M : Nat} (h : 0 < M) : ∃ d : Nat, x % (M : Int) = (d : Int) ∧ d < M := by
  have h1 := Int.emod_nonneg x (show (M : Int) ≠ 0 by omega)
  have h2 := Int.emod_lt_of_pos x (show (0 : Int) < (M : Int) by omega)
  exact ⟨(x % (M : Int)).toNat, by omega, by omega⟩
theorem ok_draw {f : Addr} {fd : FuncData} {k : Nat} (F : Fun K "_law_draw" "_law_draw" sDraw f fd) (T : Txt mg) : FnOk P w K mg base CX0 (k + 1) f fd ["_law_feed_here", "_law_many"] spDraw := by
  refine F.ok scDraw (fun vs H Q E h => ?_) (fun cdv A outer s H vs Q E hr h => ?_)
  · obtain ⟨L, S, M, rfl, _⟩ := h
    rfl
  · obtain ⟨L, S, M, rfl, ⟨ns, k1, k2, k3, hF⟩, hM, hM2, q⟩ := h
    refine ⟨_, pss_cons (ps_asg (pe_op op_add (pe_ix ix_list (pv 0) pe_int (fun _ _ => rfl)) pe_int) (pg_sub (pv 0) pe_int set_list))
      (pss_cons (ps_while PassesOwn.never (PW.pt (pw_and (pt_cmpR op_eq (pe_ix ix_list (pv 0) pe_int (fun _ _ => rfl)) pe_int (nomark _))
          (pw_and1 (pt_cmpR op_lt (pe_ix ix_list (pv 0) pe_int (fun _ _ => rfl)) (pe_callB call_len_seq (by rfl) T.len PySem.boot_len (pa_cons (pe_ix ix_list (pv 0) pe_int (fun _ _ => rfl)) pa_nil)) (nomark _)))))
        (pss_cons (ps_if (pt_cmpR op_ge (pe_callB call_abs (by rfl) T.abs (by decide +kernel) (pa_cons (pe_ix ix_list (pe_ix ix_list (pv 0) pe_int (fun _ _ => rfl)) (pe_ix ix_list (pv 0) pe_int (fun _ _ => rfl)) (fun _ _ => rfl)) pa_nil)) (pe_op op_pow pe_int pe_int) (nomark _))
            (pss_one (ps_asg (pe_callB call_abs (by rfl) T.abs (by decide +kernel) (pa_cons (pe_ix ix_list (pe_ix ix_list (pv 0) pe_int (fun _ _ => rfl)) (pe_ix ix_list (pv 0) pe_int (fun _ _ => rfl)) (fun _ _ => rfl)) pa_nil)) (pg_sub (pv 0) pe_int set_list))) pss_nil)
        (pss_one (ps_asg (pe_op op_add (pe_ix ix_list (pv 0) pe_int (fun _ _ => rfl)) pe_int) (pg_sub (pv 0) pe_int set_list)))))
      (pss_cons (ps_if (pt_cmpR op_gt (pe_ix ix_list (pv 0) pe_int (fun _ _ => rfl)) pe_int (nomark _))
        (pss_cons (ps_set (i := 2) scDraw.nd rfl (.inl rfl) (pe_op op_mod (pe_ix ix_list (pv 0) pe_int (fun _ _ => rfl)) (pv 1)))
        (pss_cons (ps_asg (pe_op op_fdivW (pe_ix ix_list (pv 0) pe_int (fun _ _ => rfl)) (pv 1)) (pg_sub (pv 0) pe_int set_list))
        (pss_one (ps_ret (pv 2))))) pss_nil)
      (pss_cons (ps_set (i := 3) scDraw.nd rfl (.inl rfl) pe_int)
      (pss_cons (ps_if (pt_cmpR op_gt (pe_callB call_len_seq (by rfl) T.len PySem.boot_len (pa_cons (pe_ix ix_list (pv 0) pe_int (fun _ _ => rfl)) pa_nil)) pe_int (nomark _))
        (pss_one (ps_set (i := 3) scDraw.nd rfl (.inl rfl) (pe_ix ix_list (pe_ix ix_list (pv 0) pe_int (fun _ _ => rfl)) (pe_op op_mod (pe_ix ix_list (pv 0) pe_int (fun _ _ => rfl)) (pe_callB call_len_seq (by rfl) T.len PySem.boot_len (pa_cons (pe_ix ix_list (pv 0) pe_int (fun _ _ => rfl)) pa_nil))) (fun _ _ => rfl)))) pss_nil)
      (pss_cons (ps_set (i := 4) scDraw.nd rfl (.inl rfl) (pe_op op_mod (pe_op op_add (pe_op op_add (pe_op op_mul (pe_op op_mod (pv 3) pe_int) pe_int) (pe_op op_mul pe_int (pe_ix ix_list (pv 0) pe_int (fun _ _ => rfl)))) pe_int) pe_int))
      (pss_cons (ps_set (i := 4) scDraw.nd rfl (.inl rfl) (pe_op op_mod (pe_op op_mul (pv 4) (pe_op op_add (pv 4) pe_int)) pe_int))
      (pss_one (ps_ret (pe_op op_mod (pe_op op_mod (pe_op op_mul (pv 4) pe_int) pe_int) (pv 1)))))))))), ?_⟩
    -- feed[1] = feed[1] + 1
    refine ⟨.ref L, rfl, L, _, 1, .int k1, rfl, rfl, SqL.of hF.1, atI_nat (j := 1) rfl, k1, 1, rfl, rfl, .ref L, rfl, L, _, 1, 1, rfl, rfl, hF.1, rfl, ?_⟩
    have hF1 := hF.set (k1 + 1) k2 k3 hF.2.2
    have sb1 : Sb L H (upd H L (.lst [.ref S, .int (k1 + 1), .int k2, .int k3])) := sb_self (Sb.refl L H)
    -- while
    refine ⟨fun m σ H' => ∃ j2 j3, σ = [some (.ref L), some (.int M), none, none, none] ∧ FeedAt H' L S ns (k1 + 1) j2 j3 ∧ ns.length - j3.toNat = m ∧ Sb L H H', ⟨_, k2, k3, rfl, hF1, rfl, sb1⟩, ?_⟩
    rintro m σ H1 ⟨j2, j3, rfl, hG, rfl, sb⟩
    have hLn : (List.map V.int ns).length = ns.length := List.length_map ..
    have ltail : ∀ j : Int, 0 ≤ j → j < ns.length → ∃ z, (ns.map V.int)[j.toNat]? = some (.int z) := fun j h0 h1 => by
      have h2 : j.toNat < ns.length := by omega
      refine ⟨ns[j.toNat], ?_⟩
      rw [List.getElem?_map, List.getElem?_eq_getElem h2]
      rfl
    have atj : ∀ (j : Int) (z : Int), 0 ≤ j → (ns.map V.int)[j.toNat]? = some (.int z) → atI (ns.map V.int) j = some (.int z) := fun j z h0 h1 => at_of (by omega) h1
    by_cases hc : j2 = 0 ∧ j3 < (ns.length : Int)
    · obtain ⟨rfl, h3⟩ := hc
      refine ⟨.ref L, rfl, L, _, 2, .int 0, rfl, rfl, SqL.of hG.1, atI_nat (j := 2) rfl, rfl, _, rfl, ite2 (fun _ => ?_) (fun e => absurd (decide_eq_true rfl) e)⟩
      refine ⟨.ref L, rfl, L, _, 3, .int j3, rfl, rfl, SqL.of hG.1, atI_nat (j := 3) rfl, .ref L, rfl, L, _, 0, .ref S, rfl, rfl, SqL.of hG.1, atI_nat (j := 0) rfl, S, _, rfl, .inl (SqL.of hG.2.1), j3, _, rfl, rfl, _, rfl, ite2 (fun _ => ?_) (fun e => absurd (decide_eq_true (by rw [hLn]; exact h3)) e)⟩
      refine ⟨fun σ' H' => ∃ j2, σ' = [some (.ref L), some (.int M), none, none, none] ∧ FeedAt H' L S ns (k1 + 1) j2 (j3 + 1) ∧ Sb L H H', fun σ' H' ⟨j2, e1, e2, e3⟩ => ⟨_, ?_, j2, j3 + 1, e1, e2, rfl, e3⟩, ?_⟩
      · have := hG.2.2
        omega
      obtain ⟨z, hz⟩ := ltail j3 hG.2.2 h3
      have hz2 := atj j3 z hG.2.2 hz
      refine ⟨.ref L, rfl, L, _, 0, .ref S, rfl, rfl, SqL.of hG.1, atI_nat (j := 0) rfl, .ref L, rfl, L, _, 3, .int j3, rfl, rfl, SqL.of hG.1, atI_nat (j := 3) rfl, S, _, j3, .int z, rfl, rfl, SqL.of hG.2.1, hz2, z, rfl, 10, 18, rfl, rfl, ⟨by decide, by decide, by decide⟩, _, _, rfl, rfl, _, rfl, ite2 (fun _ => ?_) (fun _ => ?_)⟩
      · refine ⟨.ref L, rfl, L, _, 0, .ref S, rfl, rfl, SqL.of hG.1, atI_nat (j := 0) rfl, .ref L, rfl, L, _, 3, .int j3, rfl, rfl, SqL.of hG.1, atI_nat (j := 3) rfl, S, _, j3, .int z, rfl, rfl, SqL.of hG.2.1, hz2, z, rfl, .ref L, rfl, L, _, 2, 2, rfl, rfl, hG.1, rfl, ?_⟩
        have hK := hG.set (k1 + 1) (if z < 0 then -z else z) j3 hG.2.2
        refine ⟨.ref L, rfl, L, _, 3, .int j3, rfl, rfl, SqL.of hK.1, atI_nat (j := 3) rfl, j3, 1, rfl, rfl, .ref L, rfl, L, _, 3, 3, rfl, rfl, hK.1, rfl, ?_⟩
        exact ⟨_, rfl, hK.set (k1 + 1) _ (j3 + 1) (by have := hG.2.2; omega), sb_self (sb_self sb)⟩
      · refine ⟨.ref L, rfl, L, _, 3, .int j3, rfl, rfl, SqL.of hG.1, atI_nat (j := 3) rfl, j3, 1, rfl, rfl, .ref L, rfl, L, _, 3, 3, rfl, rfl, hG.1, rfl, ?_⟩
        exact ⟨_, rfl, hG.set (k1 + 1) _ (j3 + 1) (by have := hG.2.2; omega), sb_self sb⟩
    · apply cut_
      · intro fin
        refine ⟨.ref L, rfl, L, _, 2, .int j2, rfl, rfl, SqL.of hG.1, atI_nat (j := 2) rfl, rfl, _, rfl, ite2 (fun e => ?_) (fun e => fin)⟩
        have e2 := V.int.inj (of_decide_eq_true e)
        refine ⟨.ref L, rfl, L, _, 3, .int j3, rfl, rfl, SqL.of hG.1, atI_nat (j := 3) rfl, .ref L, rfl, L, _, 0, .ref S, rfl, rfl, SqL.of hG.1, atI_nat (j := 0) rfl, S, _, rfl, .inl (SqL.of hG.2.1), j3, _, rfl, rfl, _, rfl, ite2 (fun e' => ?_) (fun e => fin)⟩
        have e3 := of_decide_eq_true e'
        rw [hLn] at e3
        exact absurd ⟨e2, e3⟩ hc
      · refine ⟨.ref L, rfl, L, _, 2, .int j2, rfl, rfl, SqL.of hG.1, atI_nat (j := 2) rfl, j2, 0, rfl, rfl, _, rfl, ite2 (fun e => ?_) (fun e => ?_)⟩
        · obtain ⟨d, ed, hd⟩ := emod_nat j2 hM
          have hMi : (0 : Int) < M := by omega
          refine ⟨.ref L, rfl, L, _, 2, .int j2, rfl, rfl, SqL.of hG.1, atI_nat (j := 2) rfl, .int M, rfl, j2, M, rfl, rfl, hMi, ?_⟩
          refine ⟨.ref L, rfl, L, _, 2, .int j2, rfl, rfl, SqL.of hG.1, atI_nat (j := 2) rfl, .int M, rfl, j2, M, rfl, rfl, wide_div (b := 200) hMi (nat_lt (Nat.le_refl _) hM2) (by decide) (by decide), .ref L, rfl, L, _, 2, 2, rfl, rfl, hG.1, rfl, ?_⟩
          refine ⟨.int (j2 % M), rfl, ?_⟩
          show Q (.int (j2 % M)) _
          rw [ed]
          exact q _ d (sb_self sb) ⟨ns, _, _, _, hG.set (k1 + 1) (j2 / M) j3 hG.2.2⟩ hd
        · -- cell = 0
          apply cutA (α := Int)
          · intro fin
            refine ⟨.ref L, rfl, L, _, 0, .ref S, rfl, rfl, SqL.of hG.1, atI_nat (j := 0) rfl, S, _, rfl, .inl (SqL.of hG.2.1), _, 0, rfl, rfl, _, rfl, ite2 (fun e => ?pos) (fun e => ?neg)⟩
            case pos =>
              have e1 := of_decide_eq_true e
              rw [hLn] at e1
              obtain ⟨d, ed, hd⟩ := emod_nat (k1 + 1) (M := ns.length) (by omega)
              obtain ⟨z, hz⟩ := ltail d (by omega) (by omega)
              refine ⟨.ref L, rfl, L, _, 0, .ref S, rfl, rfl, SqL.of hG.1, atI_nat (j := 0) rfl, .ref L, rfl, L, _, 1, .int (k1 + 1), rfl, rfl, SqL.of hG.1, atI_nat (j := 1) rfl, .ref L, rfl, L, _, 0, .ref S, rfl, rfl, SqL.of hG.1, atI_nat (j := 0) rfl, S, _, rfl, .inl (SqL.of hG.2.1), _, _, rfl, rfl, (by show (0 : Int) < _; rw [hLn]; omega), S, _, d, .int z, rfl, ?_, SqL.of hG.2.1, atj d z (by omega) hz, fin z⟩
              show V.int ((k1 + 1) % (((List.map V.int ns).length : Nat) : Int)) = V.int (d : Int)
              rw [hLn, ed]
            case neg => exact fin 0
          · intro c
            have hMi : (0 : Int) < M := by omega
            have sm1 : ∀ x : Int, -(2 ^ 64) < x % 2147483647 ∧ x % 2147483647 < 2 ^ 64 := fun x => by omega
            refine ⟨.int c, rfl, c, 2147483647, rfl, rfl, (by show (0 : Int) < 2147483647; decide), _, _, rfl, rfl, .inl (sm1 c), .ref L, rfl, L, _, 1, .int (k1 + 1), rfl, rfl, SqL.of hG.1, atI_nat (j := 1) rfl, 7919, _, rfl, rfl, .inl (by decide), _, _, rfl, rfl, _, _, rfl, rfl, _, _, rfl, rfl, (by show (0 : Int) < 2147483629; decide), ?_⟩
            generalize (c % 2147483647 * 48271 + 7919 * (k1 + 1) + 12345) = y
            refine ⟨_, rfl, _, rfl, _, 40692, rfl, rfl, y % 2147483629, _, rfl, rfl, .inl (by omega), _, _, rfl, rfl, (by show (0 : Int) < 2147483587; decide), ?_⟩
            generalize (y % 2147483629 * (y % 2147483629 + 40692)) = u
            obtain ⟨d, ed, hd⟩ := emod_nat (u % 2147483587 * 16807 % 2147483563) hM
            refine ⟨_, rfl, u % 2147483587, _, rfl, rfl, .inl (by omega), _, _, rfl, rfl, (by show (0 : Int) < 2147483563; decide), .int M, rfl, _, M, rfl, rfl, hMi, ?_⟩
            show Q (.int (u % 2147483587 * 16807 % 2147483563 % M)) _
            rw [ed]
            exact q _ d sb ⟨ns, _, _, _, hG⟩ hd
end
end Ev

set_option Elab.async false
set_option linter.all false
set_option maxRecDepth 100000
set_option maxHeartbeats 4000000
namespace Ev
open PySem PySem.Spec PyProof.Rows L2
theorem cutH {N : Hp → Nat → Prop} {B : Prop} (Pre : Hp → Nat → Prop) (f : (∀ H d, Pre H d → N H d) → B) (a : ∀ H d, Pre H d → N H d) : B := f a
section
variable {P : Program} {w : World} {K : PySem.W.Frag} {mg : Str → Option Value} {base : Heap}
theorem seqIx {d n : Nat} (h : d < n) : seqIndex? (d : Int) n = some d := by
  have e : ixN n (d : Int) = some d := by
    unfold ixN
    rw [if_pos (by omega), if_pos (by omega), Int.toNat_natCast]
  exact (ixN_seq e).1
/-! ### power -/
theorem ok_power {f : Addr} {fd : FuncData} {k : Nat} (F : Fun K "_law_power" "_law_power" sPower f fd) (T : Txt mg) : FnOk P w K mg base CX0 (k + 1) f fd ["_law_base", "_law_k"] spRaised := by
  refine F.ok scPower (fun vs H Q E h => ?_) (fun cdv A outer s H vs Q E hr h => ?_)
  · obtain ⟨a, b, rfl, _⟩ := h
    rfl
  · obtain ⟨b, n, rfl, hb, hb2, hn, q⟩ := h
    refine ⟨_, pss_cons (ps_set (i := 2) scPower.nd rfl (.inl rfl) pe_int)
      (pss_cons (ps_for PassesOwn.never rfl (pi_range1 (by rfl) T.range (pa_cons (pv 1) pa_nil)) (pg_name (i := 3) scPower.nd rfl (.inl rfl))
        (pss_one (ps_set (i := 2) scPower.nd rfl (.inl rfl) (pe_op op_mulW (pv 2) (pv 0)))))
      (pss_one (ps_ret (pv 2)))), ?_⟩
    refine ⟨.int n, rfl, n, rfl, by omega, by omega, ?_⟩
    rw [Int.toNat_natCast]
    refine for_range (fun i σ H' => ∃ y, σ = [some (.int b), some (.int n), some (.int ((b ^ i : Nat) : Int)), y] ∧ H = H') ⟨none, rfl, rfl⟩ ?_ ?_
    · rintro i σ H' hi ⟨y, rfl, rfl⟩
      refine ⟨.int ((b ^ i : Nat) : Int), rfl, .int b, rfl, _, b, rfl, rfl, mulOk ?_ ?_, some (.int (0 + i)), ?_, rfl⟩
      · exact nat_lt (Nat.le_refl _) (pow_small hb hb2 (Nat.le_of_lt hi) hn)
      · exact nat_lt hb2 (by decide)
      · rw [Nat.pow_succ, Int.natCast_mul]
        rfl
    · rintro σ H' ⟨y, rfl, rfl⟩
      exact ⟨_, rfl, q⟩
/-! ### exchange -/
theorem exV_len (es : List Nat) : (exV es).length = es.length := List.length_map ..
theorem exV_app (es fs : List Nat) : exV (es ++ fs) = exV es ++ exV fs := List.map_append ..
theorem exV_erase (es : List Nat) (k : Nat) : exV (es.eraseIdx k) = (exV es).eraseIdx k := by
  unfold exV
  induction es generalizing k with
  | nil => simp
  | cons a r ih => cases k with
    | zero => rfl
    | succ k => simp only [List.eraseIdx_cons_succ, List.map_cons, ih]
theorem exV_get {es : List Nat} {d x : Nat} (h : es[d]? = some x) : (exV es)[d]? = some (.int x) := by
  unfold exV
  rw [List.getElem?_map, h]
  rfl
theorem rgV_one (b : Nat) (hb : 1 ≤ b) : rgV 1 b = exV (List.range' 1 (b - 1)) := by
  unfold rgV exV
  rw [show ((b : Int) - 1).toNat = b - 1 by omega, List.range'_eq_map_range, List.map_map]
  refine List.map_congr_left fun i _ => ?_
  show V.int (1 + (i : Int)) = V.int ((1 + i : Nat) : Int)
  rw [Int.natCast_add]
  rfl
theorem range_cons (b : Nat) (hb : 1 ≤ b) : List.range b = 0 :: List.range' 1 (b - 1) := by
  rw [List.range_eq_range']
  obtain ⟨c, rfl⟩ : ∃ c, b = c + 1 := ⟨b - 1, by omega⟩
  rw [List.range'_succ]
  rfl
theorem perm_erase {ms : List Nat} {k x : Nat} (h : ms[k]? = some x) (fs : List Nat) : List.Perm ((fs ++ [x]) ++ ms.eraseIdx k) (fs ++ ms) := by
  rw [List.append_assoc]
  refine List.Perm.append_left fs ?_
  show List.Perm (x :: ms.eraseIdx k) ms
  induction ms generalizing k with
  | nil => simp at h
  | cons a r ih => cases k with
    | zero =>
      have e : a = x := Option.some.inj h
      subst e
      exact List.Perm.refl _
    | succ k =>
      rw [List.eraseIdx_cons_succ]
      refine (List.Perm.swap a x _).trans ?_
      exact List.Perm.cons a (ih (by simpa using h))
theorem isEx_of {b : Nat} {es : List Nat} (hb : 2 ≤ b) (hb2 : b ≤ 16) (p : List.Perm es (List.range b)) (h0 : es[0]? = some 0) : IsEx b es := by
  have hl : es.length = b := by rw [p.length_eq, List.length_range]
  have nd : es.Nodup := p.nodup_iff.mpr List.nodup_range
  have ev : ∀ d (h : d < b), eF es d = es[d]'(by omega) := fun d h => by
    unfold eF
    rw [List.getD_eq_getElem?_getD, List.getElem?_eq_getElem (by omega)]
    rfl
  refine ⟨hl, ⟨hb, ?_, fun d hd => ?_, fun c hc => ?_⟩, hb2⟩
  · unfold eF
    rw [List.getD_eq_getElem?_getD, h0]
    rfl
  · rw [ev d hd]
    have := p.mem_iff.mp (List.getElem_mem (by omega : d < es.length))
    exact List.mem_range.mp this
  · have hm : c ∈ es := p.mem_iff.mpr (List.mem_range.mpr hc)
    obtain ⟨d, hd, e⟩ := List.getElem_of_mem hm
    refine ⟨d, by omega, fun d' hd' => ?_⟩
    rw [ev d' hd']
    constructor
    · intro h
      exact (List.getElem_inj nd).mp (h.trans e.symm)
    · rintro rfl
      exact e
def spExch : Sp := fun vs H Q _ => ∃ (L S : Addr) (b : Nat), vs = [.ref L, .int b] ∧ Feed H L S ∧ 2 ≤ b ∧ b ≤ 16 ∧ ∀ H' p es, Sb L H H' → Feed H' L S → H' p = some (.tup (exV es)) → IsEx b es → Q (.ref p) H'
theorem ok_exch {f fD : Addr} {fd fdD : FuncData} {k : Nat} (F : Fun K "_law_exchange" "_law_exchange" sExch f fd) (T : Txt mg)
    (FD : Fun K "_law_draw" "_law_draw" sDraw fD fdD) (bD : Binds K fdD ["_law_feed_here", "_law_many"] []) (gD : mg "_law_draw" = some (.ref fD)) : FnOk P w K mg base CX0 (k + 2) f fd ["_law_feed_here", "_law_base"] spExch := by
  have GD : FnOk P w K mg base CX0 (k + 1) fD fdD ["_law_feed_here", "_law_many"] spDraw := ok_draw FD T
  refine F.ok scExch (fun vs H Q E h => ?_) (fun cdv A outer s H vs Q E hr h => ?_)
  · obtain ⟨L, S, b, rfl, _⟩ := h
    rfl
  · obtain ⟨L, S, b, rfl, hL, hb, hb2, q⟩ := h
    refine ⟨_, pss_cons (ps_set (i := 2) scExch.nd rfl (.inl rfl) (pe_listRg rfl (by rfl) T.list (prg_2 (by rfl) T.range pe_int (pv 1))))
      (pss_cons (ps_set (i := 3) scExch.nd rfl (.inl rfl) (pe_lst (pa_cons pe_int pa_nil)))
      (pss_cons (ps_set (i := 4) scExch.nd rfl (.inl rfl) (pe_cmpR op_eq (pe_call GD hr (by rfl) gD FD.kp bD .nil pass0 (pa_cons (pv 0) (pa_cons pe_int pa_nil))) pe_int (nomark _)))
      (pss_cons (ps_for PassesOwn.never rfl (pi_range1 (by rfl) T.range (pa_cons (pe_op op_sub (pv 1) pe_int) pa_nil)) (pg_name (i := 5) scExch.nd rfl (.inl rfl))
        (pss_one (ps_expr (pe_bm PySem.F.plainAttrs_list PySem.F.slot_list_append PySem.F.type_list_append mt_append (pv 3)
          (pa_cons (pe_bm PySem.F.plainAttrs_list PySem.F.slot_list_pop PySem.F.type_list_pop mt_popAt (pv 2)
            (pa_cons (pe_ifExp (pt_val (pv 4)) pe_int (pe_call GD hr (by rfl) gD FD.kp bD .nil pass0 (pa_cons (pv 0) (pa_cons (pe_callB call_len_seq (by rfl) T.len PySem.boot_len (pa_cons (pv 2) pa_nil)) pa_nil)))) pa_nil)) pa_nil)))))
      (pss_one (ps_ret (pe_tupleOf (by rfl) T.tuple (pv 3))))))), ?_⟩
    refine ⟨.int b, rfl, 1, b, rfl, rfl, RgOk.of_le (by omega) (by omega) (by omega) (by omega), fun l hl => ?_⟩
    rw [rgV_one b (by omega)]
    have s1 : Same H (upd H l (.lst (exV (List.range' 1 (b - 1))))) := same_new (Same.refl H) hl
    refine ⟨by show 1 ≤ sizeLine; decide, fun p hp => ?_⟩
    have hpH : H p = none := s1.free hp
    have s2 : Same H (upd (upd H l (.lst (exV (List.range' 1 (b - 1))))) p (.lst [.int 0])) := same_new s1 hpH
    have nlp : l ≠ p := fun e => by
      rw [← e, upd_same] at hp
      cases hp
    have nLl : l ≠ L := hL.neL hl
    have nLp : p ≠ L := hL.neL hpH
    have nSl : l ≠ S := hL.neS hl
    have nSp : p ≠ S := hL.neS hpH
    refine ⟨.ref L, rfl, L, S, 3, rfl, hL.same s2, by decide, by decide, fun H1 d sb hF hd => ⟨rfl, ?_⟩⟩
    have hl1 : H1 l = some (.lst (exV (List.range' 1 (b - 1)))) := sb _ _ nLl (by rw [upd_ne nlp, upd_same])
    have hp1 : H1 p = some (.lst (exV [0])) := sb _ _ nLp upd_same
    have sb1 : Sb L H H1 := (L2.Same.sb s2).trans sb
    generalize decide (V.int (d : Int) = V.int 0) = plain
    refine ⟨.int b, rfl, b, 1, rfl, rfl, (b : Int) - 1, rfl, by omega, by omega, ?_⟩
    rw [show ((b : Int) - 1).toNat = b - 1 by omega]
    refine for_range (fun i σ H' => ∃ y, σ = [some (.ref L), some (.int b), some (.ref l), some (.ref p), some (.bl plain), y] ∧ Sb L H H' ∧ Feed H' L S ∧ ∃ fs ms, H' l = some (.lst (exV ms)) ∧ H' p = some (.lst (exV fs)) ∧ List.Perm (fs ++ ms) (List.range b) ∧ fs[0]? = some 0 ∧ fs.length = i + 1)
      ⟨none, rfl, sb1, hF, [0], List.range' 1 (b - 1), hl1, hp1, by rw [range_cons b (by omega)]; exact List.Perm.refl _, rfl, rfl⟩ ?_ ?_
    · rintro i σ H2 hi ⟨y, rfl, sb2, hF2, fs, ms, hl2, hp2, pm, h0, hlen⟩
      have hms : ms.length = b - 1 - i := by
        have := pm.length_eq
        rw [List.length_append, List.length_range] at this
        omega
      refine ⟨.ref p, rfl, .inl ⟨rfl, _, SqL.of hp2⟩, .ref l, rfl, .inl ⟨rfl, _, SqL.of hl2⟩, .bl plain, rfl, plain, rfl, ?_⟩
      apply cutH (fun H3 d => Sb L H H3 ∧ Feed H3 L S ∧ H3 l = some (.lst (exV ms)) ∧ H3 p = some (.lst (exV fs)) ∧ d < ms.length)
      · intro fin
        refine ite2 (fun e => ?pos) (fun e => ?neg)
        case neg =>
          refine ⟨.ref L, rfl, .ref l, rfl, l, _, rfl, .inl (SqL.of hl2), L, S, ms.length, ?_, hF2, by omega, Nat.lt_of_le_of_lt (show ms.length ≤ 16 by omega) (by decide), fun H3 d sb3 hF3 hd => ?_⟩
          · rw [exV_len]
            rfl
          · exact fin H3 d ⟨sb2.trans sb3, hF3, sb3 _ _ nLl hl2, sb3 _ _ nLp hp2, hd⟩
        case pos => exact fin H2 0 ⟨sb2, hF2, hl2, hp2, by omega⟩
      · rintro H3 d ⟨sb3, hF3, hl3, hp3, hd⟩
        have hx : ms[d]? = some ms[d] := List.getElem?_eq_getElem hd
        refine ⟨l, _, d, d, _, rfl, rfl, hl3, by omega, by omega, ?_, exV_get hx, p, _, _, rfl, rfl, by rw [upd_ne nlp.symm]; exact hp3, ?_, ?_⟩
        · rw [exV_len]
          exact seqIx hd
        · rw [exV_len]
          exact small_line (by omega)
        · refine ⟨_, rfl, sb_new (sb_new sb3 hl) hpH, ?_, fs ++ [ms[d]], ms.eraseIdx d, ?_, ?_, (perm_erase hx fs).trans pm, ?_, by rw [List.length_append, hlen]; rfl⟩
          · exact (hF3.put nLl nSl).put nLp nSp
          · rw [upd_ne nlp, upd_same, exV_erase]
          · rw [upd_same, exV_app]
            rfl
          · rw [List.getElem?_append_left (by omega)]
            exact h0
    · rintro σ H2 ⟨y, rfl, sb2, hF2, fs, ms, hl2, hp2, pm, h0, hlen⟩
      have hms : ms = [] := by
        have := pm.length_eq
        rw [List.length_append, List.length_range] at this
        exact List.eq_nil_of_length_eq_zero (by omega)
      subst hms
      rw [List.append_nil] at pm
      refine ⟨.ref p, rfl, .inl ⟨p, _, rfl, SqL.of hp2, fun t ht => ?_⟩⟩
      exact q _ t fs (sb_new sb2 (sb2.freeF hF2 ht)) (hF2.new ht) upd_same (isEx_of hb hb2 pm h0)
end
end Ev

set_option Elab.async false
set_option linter.all false
set_option maxRecDepth 100000
set_option maxHeartbeats 800000
namespace Ev
open PySem PySem.Spec PyProof.Rows L2
/-! ### row -/
def BasesAt (H : Hp) (v : V) : Prop := ∃ c bs, v = .ref c ∧ H c = some (.lst (exV bs)) ∧ bs.length = 4 ∧ ∀ b ∈ bs, 2 ≤ b ∧ b ≤ 16
/-- a display of lists of bases -/
def GoodL (t : TA) (n : Nat) : Prop := ∀ σ H Q, (∀ H' vs, Same H H' → vs.length = n → (∀ v ∈ vs, BasesAt H' v) → Q vs H') → t σ H Q
theorem goodL_nil : GoodL tNil 0 := fun σ H Q h => h H [] (Same.refl H) rfl (fun v hv => nomatch hv)
theorem BasesAt.same {H H' : Hp} {v : V} (h : BasesAt H v) (s : Same H H') : BasesAt H' v := let ⟨c, bs, e, h1, h2⟩ := h; ⟨c, bs, e, s _ _ h1, h2⟩
theorem goodL_cons {t : TA} {n : Nat} {a b c d : Int} (g : GoodL t n) (h : 2 ≤ a ∧ a ≤ 16 ∧ 2 ≤ b ∧ b ≤ 16 ∧ 2 ≤ c ∧ c ≤ 16 ∧ 2 ≤ d ∧ d ≤ 16) :
    GoodL (tCons (tLst (tCons (tC (.int a)) (tCons (tC (.int b)) (tCons (tC (.int c)) (tCons (tC (.int d)) tNil))))) t) (n + 1) := fun σ H Q q => by
  refine ⟨by show 4 ≤ sizeLine; decide, fun p hp => ?_⟩
  refine g σ _ _ fun H' vs s hl hv => ?_
  have e : ([V.int a, V.int b, V.int c, V.int d] : List V) = exV [a.toNat, b.toNat, c.toNat, d.toNat] := by
    show _ = [V.int (a.toNat : Int), V.int (b.toNat : Int), V.int (c.toNat : Int), V.int (d.toNat : Int)]
    rw [show (a.toNat : Int) = a by omega, show (b.toNat : Int) = b by omega, show (c.toNat : Int) = c by omega, show (d.toNat : Int) = d by omega]
  refine q H' (.ref p :: vs) ((same_new (Same.refl H) hp).trans s) (by rw [List.length_cons, hl]) fun v hv' => ?_
  rcases List.mem_cons.mp hv' with rfl | hv'
  · refine ⟨p, _, rfl, s _ _ (by rw [upd_same, e]), rfl, fun x hx => ?_⟩
    simp only [List.mem_cons, List.not_mem_nil, or_false] at hx
    omega
  · exact hv v hv'
theorem rd_setL {t : TA} {n : Nat} {gg : TG} {u : TS} {D : Ends} {σ : L2.St} {H : Hp} (g : GoodL t n) (hn : n ≤ 100)
    (h : ∀ H1 vs p, Same H H1 → vs.length = n → (∀ v ∈ vs, BasesAt H1 v) → H1 p = none → gg (.ref p) σ (upd H1 p (.lst vs)) (u D)) : tSeq (tAsg (tLst t) gg) u D σ H :=
  g σ H _ fun H1 vs s hl hv => ⟨Nat.le_of_lt (small_line (by omega)), fun p hp => h H1 vs p s hl hv hp⟩
theorem rd_catL {t : TA} {n i : Nat} {gg : TG} {u : TS} {D : Ends} {σ : L2.St} {H : Hp} {p1 : Addr} {vs : List V} (hi : σ[i]? = some (some (.ref p1))) (h1 : H p1 = some (.lst vs)) (hl1 : vs.length ≤ 100) (g : GoodL t n) (hn : n ≤ 100)
    (h : ∀ H2 ws p2 p3, Same H H2 → ws.length = n → (∀ v ∈ ws, BasesAt H2 v) → H2 p2 = none → (upd H2 p2 (.lst ws)) p3 = none → gg (.ref p3) σ (upd (upd H2 p2 (.lst ws)) p3 (.lst (vs ++ ws))) (u D)) :
    tSeq (tAsg (tOp rCat (tVar i) (tLst t)) gg) u D σ H := by
  refine ⟨.ref p1, hi, ?_⟩
  refine g σ H _ fun H2 ws s hl hv => ⟨Nat.le_of_lt (small_line (by omega)), fun p2 hp2 => ?_⟩
  have n12 : p1 ≠ p2 := fun e => by
    rw [← e, s _ _ h1] at hp2
    cases hp2
  exact ⟨p1, p2, vs, ws, rfl, rfl, by rw [upd_ne n12]; exact s _ _ h1, upd_same, Nat.le_of_lt (small_line (by omega)), fun p3 hp3 => h H2 ws p2 p3 s hl hv hp2 hp3⟩
theorem cutV_to (xs : List V) (k : Nat) : cutV xs none (some (k : Int)) = xs.take k := by
  unfold cutV
  rw [HT.sIx_nat, HT.sIx_none, List.drop_zero, Nat.sub_zero]
  by_cases h : k ≤ xs.length
  · rw [Nat.min_eq_left h]
  · rw [Nat.min_eq_right (by omega), List.take_length, List.take_of_length_le (by omega)]
theorem cutV_from (xs : List V) (k : Nat) : cutV xs (some (k : Int)) none = xs.drop k := by
  unfold cutV
  rw [HT.sIx_nat, HT.sIx_none]
  by_cases h : k ≤ xs.length
  · rw [Nat.min_eq_left h, List.take_of_length_le (by rw [List.length_drop]; exact Nat.le_refl _)]
  · rw [Nat.min_eq_right (by omega), List.drop_length, List.drop_of_length_le (by omega), List.take_nil]
theorem exV_take (es : List Nat) (k : Nat) : (exV es).take k = exV (es.take k) := (List.map_take ..).symm
theorem exV_drop (es : List Nat) (k : Nat) : (exV es).drop k = exV (es.drop k) := (List.map_drop ..).symm
theorem Feed.neV {H : Hp} {L S c : Addr} {bs : List Nat} (h : Feed H L S) (hc : H c = some (.lst (exV bs))) : c ≠ L := fun e => by
  obtain ⟨ns, k1, k2, k3, h1, h2, h3⟩ := h
  rw [e, h1] at hc
  have h4 := HO.lst.inj (Option.some.inj hc)
  cases bs with
  | nil => cases h4
  | cons b r =>
    have h5 := (List.cons.inj h4).1
    cases h5
section
variable {P : Program} {w : World} {K : PySem.W.Frag} {mg : Str → Option Value} {base : Heap}
def spRow : Sp := fun vs H Q _ => ∃ (L S : Addr) (m : Nat), vs = [.ref L, .int m] ∧ Feed H L S ∧ 1 ≤ m ∧ m ≤ 3 ∧ ∀ H' p row, Sb L H H' → Feed H' L S → RowAt H' p row → 1 ≤ row.length → row.length ≤ m → Q (.ref p) H'
theorem ok_row {f fD fE : Addr} {fd fdD fdE : FuncData} {k : Nat} (F : Fun K "_law_row" "_law_row" sRow f fd) (T : Txt mg)
    (FD : Fun K "_law_draw" "_law_draw" sDraw fD fdD) (bD : Binds K fdD ["_law_feed_here", "_law_many"] []) (gD : mg "_law_draw" = some (.ref fD))
    (FE : Fun K "_law_exchange" "_law_exchange" sExch fE fdE) (bE : Binds K fdE ["_law_feed_here", "_law_base"] []) (gE : mg "_law_exchange" = some (.ref fE)) : FnOk P w K mg base CX0 (k + 3) f fd ["_law_feed_here", "_law_most"] spRow := by
  have GD : FnOk P w K mg base CX0 (k + 2) fD fdD ["_law_feed_here", "_law_many"] spDraw := ok_draw FD T
  have GE : FnOk P w K mg base CX0 (k + 2) fE fdE ["_law_feed_here", "_law_base"] spExch := ok_exch FE T FD bD gD
  refine F.ok scRow (fun vs H Q E h => ?_) (fun cdv A outer s H vs Q E hr h => ?_)
  · obtain ⟨L, S, m, rfl, _⟩ := h
    rfl
  · obtain ⟨L, S, m, rfl, hL, hm, hm3, q⟩ := h
    refine ⟨_, pss_cons (ps_set (i := 2) scRow.nd rfl (.inl rfl) (pe_lst
        (pa_cons (pe_lst (pa_cons pe_int (pa_cons pe_int (pa_cons pe_int (pa_cons pe_int pa_nil)))))
        (pa_cons (pe_lst (pa_cons pe_int (pa_cons pe_int (pa_cons pe_int (pa_cons pe_int pa_nil)))))
        (pa_cons (pe_lst (pa_cons pe_int (pa_cons pe_int (pa_cons pe_int (pa_cons pe_int pa_nil)))))
        (pa_cons (pe_lst (pa_cons pe_int (pa_cons pe_int (pa_cons pe_int (pa_cons pe_int pa_nil)))))
        (pa_cons (pe_lst (pa_cons pe_int (pa_cons pe_int (pa_cons pe_int (pa_cons pe_int pa_nil)))))
        (pa_cons (pe_lst (pa_cons pe_int (pa_cons pe_int (pa_cons pe_int (pa_cons pe_int pa_nil)))))
        (pa_cons (pe_lst (pa_cons pe_int (pa_cons pe_int (pa_cons pe_int (pa_cons pe_int pa_nil))))) pa_nil)))))))))
      (pss_cons (ps_set (i := 2) scRow.nd rfl (.inl rfl) (pe_op op_cat (pv 2) (pe_lst
        (pa_cons (pe_lst (pa_cons pe_int (pa_cons pe_int (pa_cons pe_int (pa_cons pe_int pa_nil)))))
        (pa_cons (pe_lst (pa_cons pe_int (pa_cons pe_int (pa_cons pe_int (pa_cons pe_int pa_nil)))))
        (pa_cons (pe_lst (pa_cons pe_int (pa_cons pe_int (pa_cons pe_int (pa_cons pe_int pa_nil)))))
        (pa_cons (pe_lst (pa_cons pe_int (pa_cons pe_int (pa_cons pe_int (pa_cons pe_int pa_nil)))))
        (pa_cons (pe_lst (pa_cons pe_int (pa_cons pe_int (pa_cons pe_int (pa_cons pe_int pa_nil))))) pa_nil))))))))
      (pss_cons (ps_set (i := 3) scRow.nd rfl (.inl rfl) (pe_ix ix_list (pv 2) (pe_call GD hr (by rfl) gD FD.kp bD .nil pass0 (pa_cons (pv 0) (pa_cons pe_int pa_nil))) (fun _ _ => rfl)))
      (pss_cons (ps_set (i := 4) scRow.nd rfl (.inl rfl) (pe_call GD hr (by rfl) gD FD.kp bD .nil pass0 (pa_cons (pv 0) (pa_cons pe_int pa_nil))))
      (pss_cons (ps_set (i := 5) scRow.nd rfl (.inl rfl) (pe_op op_add pe_int (pe_call GD hr (by rfl) gD FD.kp bD .nil pass0 (pa_cons (pv 0) (pa_cons (pv 1) pa_nil)))))
      (pss_one (ps_ret (pe_tupleOf (by rfl) T.tuple (pe_lc (own := [("_law_base", 6)]) (g := gName 6) (tt := tYes) rfl scRow.nd
          (pi_list (pe_slice sl_list (pe_op op_cat (pe_slice sl_list (pv 3) (po_some (pv 4)) po_none) (pe_slice sl_list (pv 3) po_none (po_some (pv 4)))) po_none (po_some (pv 5))))
          (blkOk_by (own := [("_law_base", 6)]) (N := nRow) (sc := defScope sRow) (by decide +kernel))
          (fun _ _ _ _ _ => pg_name (i := 6) scRow.nd rfl (Or.inl rfl)) (fun _ _ _ _ _ => pts_nil)
          (fun _ _ _ _ _ => pe_tup (pa_cons (pv 6) (pa_cons (pe_call GE hr (by rfl) gE FE.kp bE .nil pass0 (pa_cons (pv 0) (pa_cons (pv 6) pa_nil))) pa_nil))))))))))), ?_⟩
    -- the lists of bases
    refine rd_setL (goodL_cons (goodL_cons (goodL_cons (goodL_cons (goodL_cons (goodL_cons (goodL_cons goodL_nil (by decide)) (by decide)) (by decide)) (by decide)) (by decide)) (by decide)) (by decide)) (by decide) fun H1 vs p1 s1 hl1 hv1 hp1 => ?_
    have s2 : Same H (upd H1 p1 (.lst vs)) := same_new s1 (s1.free hp1)
    have s12 : Same H1 (upd H1 p1 (.lst vs)) := same_new (Same.refl H1) hp1
    refine rd_catL (p1 := p1) (vs := vs) rfl upd_same (by omega) (goodL_cons (goodL_cons (goodL_cons (goodL_cons (goodL_cons goodL_nil (by decide)) (by decide)) (by decide)) (by decide)) (by decide)) (by decide) fun H2 ws p2 p3 s3 hl2 hv2 hp2 hp3 => ?_
    have s4 : Same H2 (upd H2 p2 (.lst ws)) := same_new (Same.refl H2) hp2
    have hb1 : ∀ v ∈ vs ++ ws, BasesAt (upd H2 p2 (.lst ws)) v := fun v hv => by
      rcases List.mem_append.mp hv with hv | hv
      · exact (hv1 v hv).same (s12.trans (s3.trans s4))
      · exact (hv2 v hv).same s4
    have s5 : Same (upd H2 p2 (.lst ws)) (upd (upd H2 p2 (.lst ws)) p3 (.lst (vs ++ ws))) := same_new (Same.refl _) hp3
    have sH : Same H (upd (upd H2 p2 (.lst ws)) p3 (.lst (vs ++ ws))) := s2.trans (s3.trans (s4.trans s5))
    have hF := hL.same sH
    have hb2 : ∀ v ∈ vs ++ ws, BasesAt (upd (upd H2 p2 (.lst ws)) p3 (.lst (vs ++ ws))) v := fun v hv => (hb1 v hv).same s5
    have hp3' : (upd (upd H2 p2 (.lst ws)) p3 (.lst (vs ++ ws))) p3 = some (.lst (vs ++ ws)) := upd_same
    have nL3 : p3 ≠ L := (hL.same (s2.trans (s3.trans s4))).neL hp3
    generalize (upd (upd H2 p2 (.lst ws)) p3 (.lst (vs ++ ws))) = H3 at *
    clear s1 s2 s12 s3 s4 s5 hb1 hv1 hv2
    -- bases
    refine ⟨.ref p3, rfl, .ref L, rfl, L, S, 12, rfl, hF, by decide, by decide, fun H4 d sb4 hF4 hd => ?_⟩
    have hdl : d < (vs ++ ws).length := by
      rw [List.length_append, hl1, hl2]
      exact hd
    obtain ⟨c, bs, hc, hcl, hbl, hbb⟩ := hb2 _ (List.getElem_mem hdl)
    have nLc : c ≠ L := hF.neV hcl
    have hc4 := sb4 _ _ nLc hcl
    refine ⟨p3, _, d, .ref c, rfl, rfl, SqL.of (sb4 _ _ nL3 hp3'), atI_nat ?_, ?_⟩
    · rw [← hc]
      exact List.getElem?_eq_getElem _
    -- at, many
    refine ⟨.ref L, rfl, L, S, 4, rfl, hF4, by decide, by decide, fun H5 d5 sb5 hF5 hd5 => ?_⟩
    refine ⟨.ref L, rfl, .int m, rfl, L, S, m, rfl, hF5, by omega, Nat.lt_of_le_of_lt hm3 (by decide), fun H6 d6 sb6 hF6 hd6 => ⟨1, d6, rfl, rfl, ?_⟩⟩
    have hc6 := sb6 _ _ nLc (sb5 _ _ nLc hc4)
    have sbH : Sb L H H6 := (L2.Same.sb sH).trans (sb4.trans (sb5.trans sb6))
    -- the slices
    refine ⟨.ref c, rfl, .int d5, rfl, d5, rfl, c, _, rfl, SqL.of hc6, fun q1 hq1 => ?_⟩
    have t1 : Same H6 (upd H6 q1 (.lst (cutV (exV bs) (some d5) none))) := same_new (Same.refl H6) hq1
    refine ⟨.ref c, rfl, .int d5, rfl, d5, rfl, c, _, rfl, SqL.of (t1 _ _ hc6), fun q2 hq2 => ?_⟩
    have t2 := same_new (o := .lst (cutV (exV bs) none (some d5))) t1 (t1.free hq2)
    have n12 : q1 ≠ q2 := fun e => by
      rw [← e, upd_same] at hq2
      cases hq2
    refine ⟨q1, q2, _, _, rfl, rfl, by rw [upd_ne n12, upd_same], upd_same, ?_, fun q3 hq3 => ?_⟩
    · have z1 := cutV_length (exV bs) (some d5) none
      have z2 := cutV_length (exV bs) none (some d5)
      rw [exV_len] at z1 z2
      exact Nat.le_of_lt (small_line (by omega))
    have t3 := same_new (o := .lst (cutV (exV bs) (some d5) none ++ cutV (exV bs) none (some d5))) t2 (t2.free hq3)
    refine ⟨.int (1 + d6), rfl, 1 + d6, rfl, q3, _, rfl, SqL.of upd_same, fun q4 hq4 => ?_⟩
    have t4 := same_new (o := .lst (cutV (cutV (exV bs) (some d5) none ++ cutV (exV bs) none (some d5)) none (some (1 + d6)))) t3 (t3.free hq4)
    have es : cutV (cutV (exV bs) (some d5) none ++ cutV (exV bs) none (some d5)) none (some (1 + d6)) = exV ((bs.drop d5 ++ bs.take d5).take (1 + d6)) := by
      rw [cutV_from, cutV_to, show ((1 : Int) + (d6 : Int)) = ((1 + d6 : Nat) : Int) by omega, cutV_to, exV_drop, exV_take, ← exV_app, exV_take]
    rw [es] at t4 ⊢
    have hds : ∀ b ∈ (bs.drop d5 ++ bs.take d5).take (1 + d6), 2 ≤ b ∧ b ≤ 16 := fun b hb => by
      rcases List.mem_append.mp (List.mem_of_mem_take hb) with hb | hb
      · exact hbb b (List.mem_of_mem_drop hb)
      · exact hbb b (List.mem_of_mem_take hb)
    have hdn : ((bs.drop d5 ++ bs.take d5).take (1 + d6)).length = 1 + d6 := by
      rw [List.length_take, List.length_append, List.length_drop, List.length_take]
      omega
    generalize (bs.drop d5 ++ bs.take d5).take (1 + d6) = ds at *
    have hF7 := hF6.same t4
    have sb7 : Sb L H _ := sbH.trans (L2.Same.sb t4)
    have hq4' : (upd (upd (upd (upd H6 q1 (.lst (cutV (exV bs) (some d5) none))) q2 (.lst (cutV (exV bs) none (some d5)))) q3 (.lst (cutV (exV bs) (some d5) none ++ cutV (exV bs) none (some d5)))) q4 (.lst (exV ds))) q4 = some (.lst (exV ds)) := upd_same
    generalize (upd (upd (upd (upd H6 q1 (.lst (cutV (exV bs) (some d5) none))) q2 (.lst (cutV (exV bs) none (some d5)))) q3 (.lst (cutV (exV bs) (some d5) none ++ cutV (exV bs) none (some d5)))) q4 (.lst (exV ds))) = H7 at *
    clear t1 t2 t3 t4 es
    have nL4 : q4 ≠ L := hF7.neV hq4'
    -- the comprehension
    refine ⟨q4, rfl, ⟨_, SqL.of hq4'⟩, fun D hD => ?_⟩
    have nLD : D ≠ L := hF7.neL hD
    have nSD : D ≠ S := hF7.neS hD
    have n4D : q4 ≠ D := ne_of_none hq4' hD
    refine lc_list (K := K) (a := q4) (xs := exV ds) (fun j H8 => Sb L H7 H8 ∧ Feed H8 L S ∧ H8 q4 = some (.lst (exV ds)) ∧ ∃ acc row, H8 D = some (.lst acc) ∧ Paired (PairAt H8) acc row ∧ row.length = j)
      ⟨sb_new (Sb.refl L H7) hD, hF7.put nLD nSD, by rw [upd_ne n4D]; exact hq4', [], [], upd_same, .nil, rfl⟩ ?_ ?_ ?_
    · rintro j H8 hj ⟨_, _, h8, _⟩
      exact SqL.of h8
    · rintro j x H8 hx ⟨sb8, hF8, h8, acc, row, hacc, hp, hrl⟩
      have hj : j < ds.length := by
        have := (List.getElem?_eq_some_iff.mp hx).1
        rw [exV_len] at this
        exact this
      have hb := hds _ (List.getElem_mem hj)
      have ex : x = .int (ds[j] : Nat) := by
        rw [exV_get (List.getElem?_eq_getElem hj)] at hx
        exact (Option.some.inj hx).symm
      subst ex
      generalize ds[j] = b at *
      refine ⟨rfl, ?_⟩
      refine ⟨.int b, rfl, .ref L, rfl, .int b, rfl, L, S, b, rfl, hF8, hb.1, hb.2, fun H9 e9 es9 sb9 hF9 he9 hex => ?_⟩
      refine ⟨by show 2 ≤ sizeLine; decide, fun t ht => ?_⟩
      have hacc9 := sb9 _ _ nLD hacc
      have tD : t ≠ D := fun e => by
        rw [e, hacc9] at ht
        cases ht
      have hal := paired_len hp
      have tk9 : Tk H8 (upd (upd H9 t (.tup [.int b, .ref e9])) D (.lst (acc ++ [.ref t]))) := (sb9.tkF hF8).trans ((tk_new ht).trans (tk_lst (xs := acc) (by rw [upd_ne tD.symm]; exact hacc9)))
      have tk10 : Tk H9 (upd (upd H9 t (.tup [.int b, .ref e9])) D (.lst (acc ++ [.ref t]))) := (tk_new ht).trans (tk_lst (xs := acc) (by rw [upd_ne tD.symm]; exact hacc9))
      refine ⟨acc, by rw [upd_ne tD.symm]; exact hacc9, small_line (by omega), ?_, ?_, ?_, acc ++ [.ref t], row ++ [(b, es9)], upd_same, ?_, ?_⟩
      · have z9 : Sb L H7 H9 := sb8.trans sb9
        exact sb_new (sb_new z9 (z9.freeF hF9 ht)) hD
      · exact (hF9.new ht).put nLD nSD
      · have n4t : q4 ≠ t := fun e => by
          rw [← e, sb9 _ _ nL4 h8] at ht
          cases ht
        rw [upd_ne n4D, upd_ne n4t]
        exact sb9 _ _ nL4 h8
      · refine paired_snoc (L2.Paired.mapP hp fun _ _ z => z.tk tk9) ⟨t, e9, rfl, ?_, tk10 _ _ he9, hex⟩
        rw [upd_ne tD, upd_same]
      · rw [List.length_append, hrl]
        rfl
    · rintro H8 ⟨sb8, hF8, h8, acc, row, hacc, hp, hrl⟩
      rw [exV_len, hdn] at hrl
      refine .inl ⟨D, acc, rfl, SqL.of hacc, fun t ht => ?_⟩
      have z8 : Sb L H H8 := sb7.trans sb8
      exact q _ t row (sb_new z8 (z8.freeF hF8 ht)) (hF8.new ht) ⟨acc, upd_same, L2.Paired.mapP hp fun _ _ z => z.tk (tk_new ht)⟩ (by omega) (by omega)
end
end Ev

set_option Elab.async false
set_option linter.all false
set_option maxRecDepth 100000
set_option maxHeartbeats 1000000
namespace Ev
open PySem PySem.Spec PyProof.Rows L2
/-! ### dict(list of pairs), the keys tuples -/
abbrev KA := List L2.Key × Addr × V
def mergeT (kvs more : List (List L2.Key × V)) : List (List L2.Key × V) := more.foldl (fun acc kv => putK acc kv.1 kv.2) kvs
theorem kt_merge {H : Hp} : ∀ {more : List (List L2.Key × V)} {qs : List (List L2.Key × Addr × Value)} {kvs : List (List L2.Key × V)} {xs : List (List L2.Key × Addr × Value)}, KT H more qs → KT H kvs xs → KT H (mergeT kvs more) (storedAllH xs qs)
  | _, _, _, _, .nil, h => h
  | _, _, kvs, xs, .cons (a := p) (b := q) h t, g => by
    obtain ⟨e1, e2, e3⟩ := h
    have g' := KT.put g p.1 e2 e3
    have r := kt_merge t g'
    show KT H (mergeT (putK kvs p.1 p.2) _) (storedAllH (storedH xs q.1 q.2.1 q.2.2) _)
    rw [← e1]
    exact r
theorem putK_mem {kvs : List (List L2.Key × V)} {k : List L2.Key} {v : V} {x : List L2.Key × V} (h : x ∈ putK kvs k v) : x.1 = k ∨ ∃ y ∈ kvs, x.1 = y.1 := by
  unfold putK at h
  split at h
  · obtain ⟨y, hy, e⟩ := List.mem_map.mp h
    refine .inr ⟨y, hy, ?_⟩
    rw [← e]
    split <;> rfl
  · rcases List.mem_append.mp h with h | h
    · exact .inr ⟨x, h, rfl⟩
    · rw [List.mem_singleton.mp h]
      exact .inl rfl
theorem mergeT_mem : ∀ {more kvs : List (List L2.Key × V)} {x : List L2.Key × V}, x ∈ mergeT kvs more → (∃ y ∈ kvs, x.1 = y.1) ∨ ∃ y ∈ more, x.1 = y.1
  | [], _, x, h => .inl ⟨x, h, rfl⟩
  | p :: r, kvs, x, h => by
    have h' : x ∈ mergeT (putK kvs p.1 p.2) r := h
    rcases mergeT_mem h' with ⟨y, hy, e⟩ | ⟨y, hy, e⟩
    · rcases putK_mem hy with z | ⟨u, hu, z⟩
      · exact .inr ⟨p, List.mem_cons_self, e.trans z⟩
      · exact .inl ⟨u, hu, e.trans z⟩
    · exact .inr ⟨y, List.mem_cons_of_mem _ hy, e⟩
theorem mergeT_len : ∀ (more kvs : List (List L2.Key × V)), (mergeT kvs more).length ≤ kvs.length + more.length
  | [], kvs => Nat.le_refl _
  | p :: r, kvs => by
    have h := mergeT_len r (putK kvs p.1 p.2)
    have more := length_putK kvs p.1 p.2
    show (mergeT (putK kvs p.1 p.2) r).length ≤ _
    rw [List.length_cons]
    omega
section
variable {X : Cx}
/-- the pairs: where each stands, its key, where that stands, its value -/
def PairsT (H : Hp) (ps : List (Addr × KA)) : Prop := ∀ p ∈ ps, H p.1 = some (.tup [.ref p.2.2.1, p.2.2.2]) ∧ H p.2.2.1 = some (.tup (p.2.1.map kV))
theorem pairsT_of {pins : List (Addr × Obj)} {σ : L2.St} {H : Hp} {s : Shared} (I : Inv X pins σ H s) : ∀ {ps : List (Addr × KA)}, PairsT H ps →
    ∃ qs : List (List L2.Key × Addr × Value), KT H (ps.map fun p => (p.2.1, p.2.2.2)) qs ∧ qs.length = ps.length ∧
      ∀ (j : Nat) (q : List L2.Key × Addr × Value), qs[j]? = some q → ∃ p : Addr × KA, ps[j]? = some p ∧ s.heap.IsTuple p.1 #[.ref q.2.1, q.2.2]
  | [], _ => ⟨[], .nil, rfl, fun j q e => by simp at e⟩
  | p :: r, h => by
    obtain ⟨qs, h1, h2, h3⟩ := pairsT_of I (ps := r) fun x hx => h x (List.mem_cons_of_mem _ hx)
    obtain ⟨g1, g2⟩ := h p List.mem_cons_self
    obtain ⟨its, rv, ht, _⟩ := I.tuple (SqT.of g1)
    obtain ⟨u, y, both, ru, ry⟩ := vals2 rv
    subst both
    cases ru
    refine ⟨(p.2.1, p.2.2.1, y) :: qs, .cons ⟨rfl, g2, ry⟩ h1, by rw [List.length_cons, List.length_cons, h2], fun j q e => ?_⟩
    cases j with
    | zero =>
      have e' := Option.some.inj e
      subst e'
      exact ⟨p, rfl, ht⟩
    | succ j =>
      obtain ⟨p', e1, e2⟩ := h3 j q (by simpa using e)
      exact ⟨p', by simpa using e1, e2⟩
theorem call_dictPT (hcalm : X.calm = true) (hu : X.A.units + 2 < cLine) : CallR X (.type "dict") (fun xs H Q => ∃ (a : Addr) (ps : List (Addr × KA)), xs = [.ref a] ∧ SqL X.K H a (ps.map fun p => V.ref p.1) ∧ PairsT H ps ∧
    ∀ d, H d = none → Q (.ref d) (upd H d (.dT (mergeT [] (ps.map fun p => (p.2.1, p.2.2.2)))))) := by
  intro pins s σ H xs us Q I args ask
  obtain ⟨a, ps, rfl, hq, hp, q⟩ := ask
  obtain ⟨u, rfl, rx⟩ := vals1 args
  cases rx
  obtain ⟨its, rv, plain, hz⟩ := I.list hq
  have ei : its = (ps.map (·.1)).map Value.ref := refs_at (by rw [List.map_map]; exact rv)
  rw [List.length_map] at hz
  obtain ⟨qs, kt, hl, hqs⟩ := pairsT_of I hp
  have hlen : its.length = ps.length := by rw [ei, List.length_map, List.length_map]
  let pv : List (Value × Value) := qs.map fun q => (Value.ref q.2.1, q.2.2)
  let Ts : Nat → Addr := fun j => ((ps[j]?).map (·.1)).getD 0
  have hpv : pv.length = qs.length := List.length_map ..
  have P := PairArg.list (prog := X.prog) (w := X.w) a its.toArray Ts pv
  have items : PairItems s.heap its.toArray Ts pv := by
    refine ⟨by rw [List.size_toArray, hpv, hl, hlen], fun j k v hj => ?_⟩
    rw [List.getElem?_map] at hj
    cases hq : qs[j]? with
    | none =>
      rw [hq] at hj
      cases hj
    | some q =>
      rw [hq] at hj
      have e := Option.some.inj hj
      obtain ⟨p, e1, e2⟩ := hqs j q hq
      have eT : Ts j = p.1 := by
        show ((ps[j]?).map (·.1)).getD 0 = p.1
        rw [e1]
        rfl
      have ek : k = Value.ref q.2.1 := (congrArg Prod.fst e).symm
      have ev : v = q.2.2 := (congrArg Prod.snd e).symm
      rw [eT, ek, ev]
      refine ⟨?_, .inl e2⟩
      rw [List.getElem?_toArray, ei, List.getElem?_map, List.getElem?_map, e1]
      rfl
  have keys : ∀ x ∈ qs, (tupleKind (mixKind X.prog X.w)).is s.heap x.1 x.2.1 := by
    have all : ∀ {l : List (List L2.Key × V)} {m : List (List L2.Key × Addr × Value)}, KT H l m → ∀ x ∈ m, (tupleKind (mixKind X.prog X.w)).is s.heap x.1 x.2.1 := by
      intro l m q
      induction q with
      | nil => exact fun x hx => nomatch hx
      | @cons p q ps qs hq t ih =>
        intro x hx
        rcases List.mem_cons.mp hx with rfl | hx
        · exact key_of I.hok (by rw [← hq.1]; exact hq.2.1)
        · exact ih x hx
    exact all kt
  refine call_dict_pairsH (knd := tupleKind (mixKind X.prog X.w)) (ps := qs) P (I.ok.hd hcalm) hu ⟨plain, items⟩ ⟨hpv.symm, fun i key v hrel => ?_⟩ ?_ (by rw [hpv, hl]; exact hz) fun h' tk hd' hk => ?_
  · have hrel : pv[i]? = some (key, v) := hrel
    rw [List.getElem?_map] at hrel
    cases hq : qs[i]? with
    | none =>
      rw [hq] at hrel
      cases hrel
    | some q =>
      rw [hq] at hrel
      have e := Option.some.inj hrel
      have ek : key = Value.ref q.2.1 := (congrArg Prod.fst e).symm
      have ev : v = q.2.2 := (congrArg Prod.snd e).symm
      exact ⟨q.1, q.2.1, by rw [ev], ek⟩
  · intro h' hk x hx
    exact tupleKind_stays.stays (fun b o vs n e _ => hk b o (Nat.ne_of_lt (Heap.lt_size e)) (fun z => nomatch z) e) (keys x hx)
  · have other : (s.heap.objs.size == sysModules) = false := beq_eq_false_iff_ne.mpr (Nat.ne_of_gt I.big)
    have hk' : ∀ b o, s.heap.get? b = some o → h'.get? b = some o := fun b o e => hk b o (fun z => nomatch z) e
    have hlen2 : (mergeT [] (ps.map fun p => (p.2.1, p.2.2.2))).length ≤ sizeLine := by
      refine Nat.le_trans (mergeT_len _ _) ?_
      rw [List.length_nil, Nat.zero_add, List.length_map]
      exact hz
    have free : H s.heap.objs.size = none := I.hok.fresh (Nat.le_refl _)
    obtain ⟨o, es, ep, h1, h2, h3, h4, _, h5⟩ := hd'
    refine ⟨.ref s.heap.objs.size, upd H s.heap.objs.size (.dT (mergeT [] (ps.map fun p => (p.2.1, p.2.2.2)))), I.laid (t' := tk) hk' (Nat.le_refl _) ?_, rfl, q _ free⟩
    refine (show ObjOk X.prog X.w _ _ _ (.dT (mergeT [] (ps.map fun p => (p.2.1, p.2.2.2)))) from ⟨hlen2, other, storedAllH [] qs, KT.keeps (kt_merge kt .nil) fun b ys e => ?_, o, es, ep, h1, h2, h3, h4, h5⟩)
    rw [upd_ne (ne_of_none e free)]
    exact e
end
end Ev

set_option Elab.async false
set_option linter.all false
set_option maxRecDepth 100000
set_option maxHeartbeats 1000000
namespace Ev
open PySem PySem.Spec PyProof.Rows L2
/-! ### whether a point lies in a box -/
/-- a number of a point or a box -/
structure Fb (f : Fr) : Prop where
  n0 : 0 ≤ f.1
  le : f.1 ≤ f.2
  d0 : 0 < f.2
  sm : f.2 ≤ 2 ^ 34
theorem Fb.a1 {f : Fr} (h : Fb f) : f.1.natAbs < 2 ^ 35 := by
  have := h.n0
  have := h.le
  have := h.sm
  omega
theorem Fb.a2 {f : Fr} (h : Fb f) : f.2.natAbs < 2 ^ 35 := by
  have := h.d0
  have := h.sm
  omega
theorem lt250 {x a : Nat} (h : x < 2 ^ a) (ha : a ≤ 250) : x < 2 ^ 250 := Nat.lt_of_lt_of_le h (Nat.pow_le_pow_right (by decide) ha)
def badF (sh : Bool) (p b : Fr) : Bool := decide (b.1 * p.2 < p.1 * b.2) || (!sh && decide (p.1 * b.2 = b.1 * p.2))
def inF (sh : Bool) : List Fr → List Fr → Bool
  | p :: ps, b :: bs => if badF sh p b = true then false else inF sh ps bs
  | _, _ => true
theorem inF_drop {sh : Bool} {pt bx : List Fr} {i : Nat} {p b : Fr} (hp : pt[i]? = some p) (hb : bx[i]? = some b) : inF sh (pt.drop i) (bx.drop i) = if badF sh p b = true then false else inF sh (pt.drop (i + 1)) (bx.drop (i + 1)) := by
  obtain ⟨h1, e1⟩ := List.getElem?_eq_some_iff.mp hp
  obtain ⟨h2, e2⟩ := List.getElem?_eq_some_iff.mp hb
  rw [List.drop_eq_getElem_cons h1, List.drop_eq_getElem_cons h2, e1, e2]
  rfl
section
variable {P : Program} {w : World} {K : PySem.W.Frag} {mg : Str → Option Value} {base : Heap}
def spIsIn : Sp := fun vs H Q _ => ∃ (x y : V) (sh : Bool) (pt bx : List Fr), vs = [x, y, .bl sh] ∧ PtAt H x pt ∧ PtAt H y bx ∧ pt.length = bx.length ∧ (∀ f ∈ pt, Fb f) ∧ (∀ f ∈ bx, Fb f) ∧
  ∀ H', Same H H' → Q (.bl (inF sh pt bx)) H'
theorem ok_isin {f : Addr} {fd : FuncData} {k : Nat} (F : Fun K "_law_is_in" "_law_is_in" sIsIn f fd) (T : Txt mg) : FnOk P w K mg base CX0 (k + 1) f fd ["_law_point", "_law_box", "_law_shut"] spIsIn := by
  refine F.ok scIsIn (fun vs H Q E h => ?_) (fun cdv A outer s H vs Q E hr h => ?_)
  · obtain ⟨x, y, sh, pt, bx, rfl, _⟩ := h
    rfl
  · obtain ⟨x, y, sh, pt, bx, rfl, ⟨a, xs, rfl, hxs, hp⟩, ⟨b, ys, rfl, hys, hb⟩, hl, fp, fb, q⟩ := h
    refine ⟨_, pss_cons (ps_for PassesOwn.never rfl (RZ.pi_zipA (by rfl) T.zip (pa_cons (pv 0) (pa_cons (pv 1) pa_nil)))
        (pg_tup rfl (pgs_cons (pg_tup rfl (pgs_cons (pg_name (i := 3) scIsIn.nd rfl (.inl rfl)) (pgs_cons (pg_name (i := 4) scIsIn.nd rfl (.inl rfl)) pgs_nil)))
          (pgs_cons (pg_tup rfl (pgs_cons (pg_name (i := 5) scIsIn.nd rfl (.inl rfl)) (pgs_cons (pg_name (i := 6) scIsIn.nd rfl (.inl rfl)) pgs_nil))) pgs_nil)))
        (pss_one (ps_if (PW.pt (pw_or (pt_cmpR op_gt (pe_op op_mulW (pv 3) (pv 6)) (pe_op op_mulW (pv 5) (pv 4)) (nomark _))
            (pw_or1 (PW.pt (pw_and (pt_not (pt_val (pv 2))) (pw_and1 (pt_cmpR op_eq (pe_op op_mulW (pv 3) (pv 6)) (pe_op op_mulW (pv 5) (pv 4)) (nomark _))))))))
          (pss_one (ps_ret pe_bl)) pss_nil)))
      (pss_one (ps_ret pe_bl)), ?_⟩
    have l1 := paired_len hp
    have l2 := paired_len hb
    refine ⟨.ref a, rfl, .ref b, rfl, a, b, xs, ys, rfl, .inr ⟨SqT.of hxs, SqT.of hys, ?_⟩⟩
    refine RZ.for_zipT (K := K) (a := a) (b := b) (xs := xs) (ys := ys) (by omega) (fun i σ H' => ∃ y3 y4 y5 y6, σ = [some (.ref a), some (.ref b), some (.bl sh), y3, y4, y5, y6] ∧ Same H H' ∧ inF sh (pt.drop i) (bx.drop i) = inF sh pt bx)
      ⟨none, none, none, none, rfl, Same.refl H, rfl⟩ ?_ ?_ ?_
    · rintro i σ H' ⟨_, _, _, _, _, sm, _⟩
      exact ⟨SqT.of (sm _ _ hxs), SqT.of (sm _ _ hys)⟩
    · rintro i vx vy t σ H' hx hy ⟨y3, y4, y5, y6, rfl, sm, ei⟩ ht
      obtain ⟨p, hpi, c, rfl, hc⟩ := paired_at hp hx
      obtain ⟨g, hgi, d, rfl, hd⟩ := paired_at hb hy
      have Fp := fp p (List.mem_of_getElem? hpi)
      have Fg := fb g (List.mem_of_getElem? hgi)
      have sm2 : Same H (upd H' t (.tup [.ref c, .ref d])) := same_new sm (sm.free ht)
      have m1 : CMulW p.1 g.2 := mulOk (lt250 Fp.a1 (by decide)) (lt250 Fg.a2 (by decide))
      have m2 : CMulW g.1 p.2 := mulOk (lt250 Fg.a1 (by decide)) (lt250 Fp.a2 (by decide))
      rw [inF_drop hpi hgi] at ei
      refine ⟨t, _, rfl, SqT.of upd_same, rfl, _, _, rfl, ⟨c, _, rfl, SqT.of (sm2 _ _ hc), rfl, _, _, rfl, _, _, rfl, rfl, ?_⟩⟩
      refine ⟨_, _, rfl, ⟨d, _, rfl, SqT.of (sm2 _ _ hd), rfl, _, _, rfl, _, _, rfl, rfl, rfl, ?_⟩⟩
      refine ⟨_, rfl, _, rfl, p.1, g.2, rfl, rfl, m1, _, rfl, _, rfl, g.1, p.2, rfl, rfl, m2, _, _, rfl, rfl, _, rfl, ite2 (fun e => ?_) (fun e => ?_)⟩
      · have hbad : badF sh p g = true := by
          unfold badF
          rw [e]
          rfl
        rw [if_pos hbad] at ei
        have := q _ sm2
        rw [← ei] at this
        exact this
      · have e' : decide (g.1 * p.2 < p.1 * g.2) = false := by simpa using e
        refine ⟨.bl sh, rfl, sh, rfl, ite2 (fun e2 => ?_) (fun e2 => ?_)⟩
        · refine ⟨_, rfl, _, rfl, p.1, g.2, rfl, rfl, m1, _, rfl, _, rfl, g.1, p.2, rfl, rfl, m2, rfl, _, rfl, ite2 (fun e3 => ?_) (fun e3 => ?_)⟩
          · have e4 := V.int.inj (of_decide_eq_true e3)
            have hbad : badF sh p g = true := by
              unfold badF
              rw [e2, decide_eq_true e4, Bool.true_and, Bool.or_true]
            rw [if_pos hbad] at ei
            have := q _ sm2
            rw [← ei] at this
            exact this
          · have e4 : ¬ p.1 * g.2 = g.1 * p.2 := fun z => e3 (decide_eq_true (congrArg V.int z))
            have hbad : badF sh p g = false := by
              unfold badF
              rw [e', decide_eq_false e4, Bool.and_false, Bool.or_false]
            rw [hbad, if_neg Bool.false_ne_true] at ei
            exact ⟨_, _, _, _, rfl, sm2, ei⟩
        · have hbad : badF sh p g = false := by
            unfold badF
            have : (!sh) = false := by simpa using e2
            rw [e', this]
            rfl
          rw [hbad, if_neg Bool.false_ne_true] at ei
          exact ⟨_, _, _, _, rfl, sm2, ei⟩
    · rintro σ H' ⟨y3, y4, y5, y6, rfl, sm, ei⟩
      have := q _ sm
      rw [← ei, List.drop_of_length_le (by omega), List.drop_of_length_le (by omega)] at this
      exact this
/-! ### least -/
def spLeast : Sp := fun vs H Q _ => ∃ (a : Addr) (xs : List V) (fs : List Fr), vs = [.ref a] ∧ H a = some (.lst xs) ∧ Paired (FrAt H) xs fs ∧ 1 ≤ xs.length ∧ (∀ f ∈ fs, Fb f) ∧ ∀ v f, v ∈ xs → f ∈ fs → FrAt H v f → Q v H
theorem ok_least {f : Addr} {fd : FuncData} {k : Nat} (F : Fun K "_law_least" "_law_least" sLeast f fd) : FnOk P w K mg base CX0 (k + 1) f fd ["_law_numbers"] spLeast := by
  refine F.ok scLeast (fun vs H Q E h => ?_) (fun cdv A outer s H vs Q E hr h => ?_)
  · obtain ⟨a, xs, fs, rfl, _⟩ := h
    rfl
  · obtain ⟨a, xs, fs, rfl, ha, hp, h1, fb, q⟩ := h
    refine ⟨_, pss_cons (ps_set (i := 1) scLeast.nd rfl (.inl rfl) (pe_ix ix_list (pv 0) pe_int (fun _ _ => rfl)))
      (pss_cons (ps_for PassesOwn.never rfl (pi_list (pv 0)) (pg_name (i := 2) scLeast.nd rfl (.inl rfl))
        (pss_one (ps_if (pt_cmpR op_lt (pe_op op_mulW (pe_ix ix_tup (pv 2) pe_int (fun _ _ => rfl)) (pe_ix ix_tup (pv 1) pe_int (fun _ _ => rfl)))
            (pe_op op_mulW (pe_ix ix_tup (pv 1) pe_int (fun _ _ => rfl)) (pe_ix ix_tup (pv 2) pe_int (fun _ _ => rfl))) (nomark _))
          (pss_one (ps_set (i := 1) scLeast.nd rfl (.inl rfl) (pv 2))) pss_nil)))
      (pss_one (ps_ret (pv 1)))), ?_⟩
    have h0 : xs[0]? = some xs[0] := List.getElem?_eq_getElem (by omega)
    obtain ⟨f0, hf0, r0⟩ := paired_at hp h0
    refine ⟨.ref a, rfl, a, xs, 0, xs[0], rfl, rfl, SqL.of ha, atI_nat (j := 0) h0, ?_⟩
    refine ⟨.ref a, rfl, a, rfl, ⟨_, SqL.of ha⟩, for_list (K := K) (a := a) (xs := xs) (fun i σ H' => ∃ v g y2, σ = [some (.ref a), some v, y2] ∧ v ∈ xs ∧ g ∈ fs ∧ FrAt H v g ∧ H = H')
      ⟨xs[0], f0, none, rfl, List.getElem_mem _, List.mem_of_getElem? hf0, r0, rfl⟩ ?_ ?_ ?_⟩
    · rintro i σ H' hi ⟨_, _, _, _, _, _, _, rfl⟩
      exact SqL.of ha
    · rintro i x σ H' hx ⟨v, g, y2, rfl, hv, hg, ⟨c, rfl, hc⟩, rfl⟩
      obtain ⟨p, hpi, d, rfl, hd⟩ := paired_at hp hx
      have Fp := fb p (List.mem_of_getElem? hpi)
      have Fg := fb g hg
      have m1 : CMulW p.1 g.2 := mulOk (lt250 Fp.a1 (by decide)) (lt250 Fg.a2 (by decide))
      have m2 : CMulW g.1 p.2 := mulOk (lt250 Fg.a1 (by decide)) (lt250 Fp.a2 (by decide))
      refine ⟨.ref d, rfl, d, _, 0, .int p.1, rfl, rfl, SqT.of hd, atI_nat (j := 0) rfl, .ref c, rfl, c, _, 1, .int g.2, rfl, rfl, SqT.of hc, atI_nat (j := 1) rfl, p.1, g.2, rfl, rfl, m1,
        .ref c, rfl, c, _, 0, .int g.1, rfl, rfl, SqT.of hc, atI_nat (j := 0) rfl, .ref d, rfl, d, _, 1, .int p.2, rfl, rfl, SqT.of hd, atI_nat (j := 1) rfl, g.1, p.2, rfl, rfl, m2, _, _, rfl, rfl, _, rfl, ite2 (fun e => ?_) (fun e => ?_)⟩
      · exact ⟨.ref d, rfl, .ref d, p, _, rfl, List.mem_of_getElem? hx, List.mem_of_getElem? hpi, ⟨d, rfl, hd⟩, rfl⟩
      · exact ⟨.ref c, g, _, rfl, hv, hg, ⟨c, rfl, hc⟩, rfl⟩
    · rintro σ H' ⟨v, g, y2, rfl, hv, hg, r, rfl⟩
      exact ⟨v, rfl, q v g hv hg r⟩
end
end Ev

set_option Elab.async false
set_option linter.all false
set_option maxRecDepth 100000
set_option maxHeartbeats 1000000
namespace Ev
open PySem PySem.Spec PyProof.Rows L2
/-! ### passes -/
def szF (bx : List Fr) : Int × Int := bx.foldl (fun s f => (s.1 * f.1, s.2 * f.2)) (1, 1)
theorem szF_snoc (bx : List Fr) (f : Fr) : szF (bx ++ [f]) = ((szF bx).1 * f.1, (szF bx).2 * f.2) := by
  unfold szF
  rw [List.foldl_append]
  rfl
def cntF (sh : Bool) (pts : List (List Fr)) (bx : List Fr) : Nat := pts.countP fun p => inF sh p bx
def aboveF (pts : List (List Fr)) (bx : List Fr) : Int := (cntF true pts bx : Int) * (szF bx).2 - (pts.length : Int) * (szF bx).1
def lackF (pts : List (List Fr)) (bx : List Fr) : Int := (pts.length : Int) * (szF bx).1 - (cntF false pts bx : Int) * (szF bx).2
def passF (pts : List (List Fr)) (bx : List Fr) (u v : Int) : Bool := decide (u * (pts.length : Int) * (szF bx).2 < (if lackF pts bx > aboveF pts bx then lackF pts bx else aboveF pts bx) * v)
theorem abs_mul {x y : Int} {a b : Nat} (hx : x.natAbs ≤ 2 ^ a) (hy : y.natAbs ≤ 2 ^ b) : (x * y).natAbs ≤ 2 ^ (a + b) := by
  rw [Int.natAbs_mul, Nat.pow_add]
  exact Nat.mul_le_mul hx hy
theorem abs_le {x : Int} {a : Nat} (h : x.natAbs ≤ 2 ^ a) (ha : a < 250) : x.natAbs < 2 ^ 250 := Nat.lt_of_le_of_lt h (Nat.pow_lt_pow_right (by decide) ha)
theorem abs_sub {x y : Int} {a : Nat} (hx : x.natAbs ≤ 2 ^ a) (hy : y.natAbs ≤ 2 ^ a) : (x - y).natAbs ≤ 2 ^ (a + 1) := by
  rw [Nat.pow_succ]
  omega
theorem szF_abs {bx : List Fr} (h : ∀ f ∈ bx, Fb f) : (szF bx).1.natAbs ≤ 2 ^ (35 * bx.length) ∧ (szF bx).2.natAbs ≤ 2 ^ (35 * bx.length) := by
  suffices ∀ (l : List Fr) (s : Int × Int) (n : Nat), (∀ f ∈ l, Fb f) → s.1.natAbs ≤ 2 ^ n → s.2.natAbs ≤ 2 ^ n →
      (l.foldl (fun s f => (s.1 * f.1, s.2 * f.2)) s).1.natAbs ≤ 2 ^ (n + 35 * l.length) ∧ (l.foldl (fun s f => (s.1 * f.1, s.2 * f.2)) s).2.natAbs ≤ 2 ^ (n + 35 * l.length) by
    have := this bx (1, 1) 0 h (by decide) (by decide)
    rw [Nat.zero_add] at this
    exact this
  intro l
  induction l with
  | nil => exact fun s n _ h1 h2 => ⟨h1, h2⟩
  | cons f r ih =>
    intro s n hf h1 h2
    have F := hf f List.mem_cons_self
    have := ih (s.1 * f.1, s.2 * f.2) (n + 35) (fun g hg => hf g (List.mem_cons_of_mem _ hg)) (abs_mul h1 (Nat.le_of_lt F.a1)) (abs_mul h2 (Nat.le_of_lt F.a2))
    rw [List.length_cons, show n + 35 * (r.length + 1) = n + 35 + 35 * r.length by omega]
    exact this
section
variable {P : Program} {w : World} {K : PySem.W.Frag} {mg : Str → Option Value} {base : Heap}
def spPasses : Sp := fun vs H Q _ => ∃ (a : Addr) (xs : List V) (y z : V) (pts : List (List Fr)) (bx : List Fr) (u v : Int), vs = [.ref a, y, z] ∧ H a = some (.tup xs) ∧ Paired (PtAt H) xs pts ∧ PtAt H y bx ∧ FrAt H z (u, v) ∧
  pts.length ≤ 100 ∧ bx.length ≤ 3 ∧ (∀ pt ∈ pts, pt.length = bx.length ∧ ∀ f ∈ pt, Fb f) ∧ (∀ f ∈ bx, Fb f) ∧ u.natAbs ≤ 2 ^ 35 ∧ v.natAbs ≤ 2 ^ 35 ∧ ∀ H', Same H H' → Q (.bl (passF pts bx u v)) H'
theorem ok_passes {f fI : Addr} {fd fdI : FuncData} {k : Nat} (F : Fun K "_law_passes" "_law_passes" sPasses f fd) (T : Txt mg)
    (FI : Fun K "_law_is_in" "_law_is_in" sIsIn fI fdI) (bI : Binds K fdI ["_law_point", "_law_box", "_law_shut"] []) (gI : mg "_law_is_in" = some (.ref fI)) : FnOk P w K mg base CX0 (k + 2) f fd ["_law_points", "_law_box", "_law_bound"] spPasses := by
  have GI : FnOk P w K mg base CX0 (k + 1) fI fdI ["_law_point", "_law_box", "_law_shut"] spIsIn := ok_isin FI T
  refine F.ok scPasses (fun vs H Q E h => ?_) (fun cdv A outer s H vs Q E hr h => ?_)
  · obtain ⟨a, xs, y, z, pts, bx, u, v, rfl, _⟩ := h
    rfl
  · obtain ⟨a, xs, y, z, pts, bx, u, v, rfl, hxs, hp, ⟨b, ys, rfl, hys, hb⟩, ⟨c, rfl, hc⟩, hN, h3, fp, fb, hu, hv, q⟩ := h
    refine ⟨_, pss_cons (ps_set (i := 3) scPasses.nd rfl (.inl rfl) (pe_tup (pa_cons pe_int (pa_cons pe_int pa_nil))))
      (pss_cons (ps_for PassesOwn.never rfl (pi_tup (pv 1)) (pg_tup rfl (pgs_cons (pg_name (i := 4) scPasses.nd rfl (.inl rfl)) (pgs_cons (pg_name (i := 5) scPasses.nd rfl (.inl rfl)) pgs_nil)))
        (pss_one (ps_set (i := 3) scPasses.nd rfl (.inl rfl) (pe_tup (pa_cons (pe_op op_mulW (pe_ix ix_tup (pv 3) pe_int (fun _ _ => rfl)) (pv 4)) (pa_cons (pe_op op_mulW (pe_ix ix_tup (pv 3) pe_int (fun _ _ => rfl)) (pv 5)) pa_nil))))))
      (pss_cons (ps_set (i := 6) scPasses.nd rfl (.inl rfl) (pe_callB call_len_seq (by rfl) T.len PySem.boot_len (pa_cons (pv 0) pa_nil)))
      (pss_cons (ps_set (i := 7) scPasses.nd rfl (.inl rfl) (pe_callB call_len_seq (by rfl) T.len PySem.boot_len (pa_cons
        (pe_lc (own := [("_law_point", 11)]) (g := gName 11) (tt := tB (tCall spIsIn [] E0 (tCons (tVar 11) (tCons (tVar 1) (tCons (tC (.bl true)) tNil))))) rfl scPasses.nd (pi_tup (pv 0)) (blkOk_by (own := [("_law_point", 11)]) (N := nPasses) (sc := defScope sPasses) (by decide +kernel))
          (fun _ _ _ _ _ => pg_name (i := 11) scPasses.nd rfl (Or.inl rfl)) (fun _ _ _ _ _ => pts_one (pt_val (pe_call GI hr (by rfl) gI FI.kp bI .nil pass0 (pa_cons (pv 11) (pa_cons (pv 1) (pa_cons pe_bl pa_nil)))))) (fun _ _ _ _ _ => pv 11)) pa_nil)))
      (pss_cons (ps_set (i := 8) scPasses.nd rfl (.inl rfl) (pe_callB call_len_seq (by rfl) T.len PySem.boot_len (pa_cons
        (pe_lc (own := [("_law_point", 11)]) (g := gName 11) (tt := tB (tCall spIsIn [] E0 (tCons (tVar 11) (tCons (tVar 1) (tCons (tC (.bl false)) tNil))))) rfl scPasses.nd (pi_tup (pv 0)) (blkOk_by (own := [("_law_point", 11)]) (N := nPasses) (sc := defScope sPasses) (by decide +kernel))
          (fun _ _ _ _ _ => pg_name (i := 11) scPasses.nd rfl (Or.inl rfl)) (fun _ _ _ _ _ => pts_one (pt_val (pe_call GI hr (by rfl) gI FI.kp bI .nil pass0 (pa_cons (pv 11) (pa_cons (pv 1) (pa_cons pe_bl pa_nil)))))) (fun _ _ _ _ _ => pv 11)) pa_nil)))
      (pss_cons (ps_set (i := 9) scPasses.nd rfl (.inl rfl) (pe_op op_sub (pe_op op_mulW (pv 7) (pe_ix ix_tup (pv 3) pe_int (fun _ _ => rfl))) (pe_op op_mulW (pv 6) (pe_ix ix_tup (pv 3) pe_int (fun _ _ => rfl)))))
      (pss_cons (ps_set (i := 10) scPasses.nd rfl (.inl rfl) (pe_op op_sub (pe_op op_mulW (pv 6) (pe_ix ix_tup (pv 3) pe_int (fun _ _ => rfl))) (pe_op op_mulW (pv 8) (pe_ix ix_tup (pv 3) pe_int (fun _ _ => rfl)))))
      (pss_one (ps_ret (pe_cmpR op_gt (pe_op op_mulW (pe_callB (call_max2 rfl) (by rfl) T.max (by decide +kernel) (pa_cons (pv 9) (pa_cons (pv 10) pa_nil))) (pe_ix ix_tup (pv 2) pe_int (fun _ _ => rfl)))
        (pe_op op_mulW (pe_op op_mulW (pe_ix ix_tup (pv 2) pe_int (fun _ _ => rfl)) (pv 6)) (pe_ix ix_tup (pv 3) pe_int (fun _ _ => rfl))) (nomark _)))))))))), ?_⟩
    have lx := paired_len hp
    have lb := paired_len hb
    refine ⟨by show 2 ≤ sizeLine; decide, fun t0 ht0 => ?_⟩
    refine ⟨.ref b, rfl, b, rfl, ⟨_, SqT.of ((same_new (Same.refl H) ht0) _ _ hys)⟩, ?_⟩
    refine for_tup (K := K) (a := b) (xs := ys) (fun i σ H' => ∃ t y4 y5, σ = [some (.ref a), some (.ref b), some (.ref c), some (.ref t), y4, y5, none, none, none, none, none, none] ∧ Same H H' ∧ H' t = some (.tup [.int (szF (bx.take i)).1, .int (szF (bx.take i)).2]))
      ⟨t0, none, none, rfl, same_new (Same.refl H) ht0, upd_same⟩ ?_ ?_ ?_
    · rintro i σ H' hi ⟨t, y4, y5, rfl, sm, ht⟩
      exact SqT.of (sm _ _ hys)
    · rintro i x σ H' hx ⟨t, y4, y5, rfl, sm, ht⟩
      obtain ⟨g, hg, d, rfl, hd⟩ := paired_at hb hx
      have Fg := fb g (List.mem_of_getElem? hg)
      have hi : i < bx.length := (List.getElem?_eq_some_iff.mp hg).1
      have et : bx.take (i + 1) = bx.take i ++ [g] := by rw [List.take_add_one, hg]; rfl
      obtain ⟨z1, z2⟩ := szF_abs (bx := bx.take i) fun f hf => fb f (List.mem_of_mem_take hf)
      have hl : 35 * (bx.take i).length < 250 := by
        rw [List.length_take]
        omega
      refine ⟨d, _, rfl, SqT.of (sm _ _ hd), rfl, _, _, rfl, _, _, rfl, rfl, ?_⟩
      refine ⟨.ref t, rfl, t, _, 0, .int (szF (bx.take i)).1, rfl, rfl, SqT.of ht, atI_nat (j := 0) rfl, .int g.1, rfl, _, _, rfl, rfl, mulOk (abs_le z1 hl) (lt250 Fg.a1 (by decide)), ?_⟩
      refine ⟨.ref t, rfl, t, _, 1, .int (szF (bx.take i)).2, rfl, rfl, SqT.of ht, atI_nat (j := 1) rfl, .int g.2, rfl, _, _, rfl, rfl, mulOk (abs_le z2 hl) (lt250 Fg.a2 (by decide)), ?_⟩
      refine ⟨by show 2 ≤ sizeLine; decide, fun t2 ht2 => ⟨t2, _, _, rfl, same_new sm (sm.free ht2), ?_⟩⟩
      rw [upd_same, et, szF_snoc]
    · rintro σ H1 ⟨t, y4, y5, rfl, sm, ht⟩
      rw [lb, List.take_length] at ht
      -- many
      refine ⟨.ref a, rfl, a, _, rfl, .inr (SqT.of (sm _ _ hxs)), ?_⟩
      rw [lx]
      -- shut
      refine ⟨.ref a, rfl, a, rfl, ⟨_, SqT.of (sm _ _ hxs)⟩, fun D hD => ?_⟩
      refine lc_tup (K := K) (a := a) (xs := xs) (fun j H2 => Same H1 H2 ∧ ∃ acc, H2 D = some (.lst acc) ∧ acc.length = (pts.take j).countP fun p => inF true p bx)
        ⟨same_new (Same.refl H1) hD, [], upd_same, rfl⟩ ?_ ?_ ?_
      · rintro j H2 hj ⟨s2, _⟩
        exact SqT.of (s2 _ _ (sm _ _ hxs))
      · rintro j x H2 hx ⟨s2, acc, hacc, hal⟩
        obtain ⟨pt, hpt, px⟩ := paired_at hp hx
        obtain ⟨pl, pf⟩ := fp pt (List.mem_of_getElem? hpt)
        have et : pts.take (j + 1) = pts.take j ++ [pt] := by rw [List.take_add_one, hpt]; rfl
        have s02 : Same H H2 := sm.trans s2
        have hj : j < pts.length := (List.getElem?_eq_some_iff.mp hpt).1
        have hcl : (pts.take j).countP (fun p => inF true p bx) ≤ (pts.take j).length := List.countP_le_length
        rw [List.length_take] at hcl
        refine ⟨rfl, x, rfl, .ref b, rfl, x, .ref b, true, pt, bx, rfl, px.tk s02.tk, ⟨b, ys, rfl, s02 _ _ hys, L2.Paired.mapP hb fun _ _ z => z.tk s02.tk⟩, pl, pf, fb, fun H3 s3 => ⟨inF true pt bx, rfl, ite2 (fun e => ?_) (fun e => ?_)⟩⟩
        · refine ⟨x, rfl, acc, s3 _ _ hacc, small_line (by omega), same_new (s2.trans s3) hD, acc ++ [x], upd_same, ?_⟩
          rw [et, List.countP_append, List.countP_singleton, if_pos e, List.length_append, hal]
          rfl
        · refine ⟨s2.trans s3, acc, s3 _ _ hacc, ?_⟩
          rw [et, List.countP_append, List.countP_singleton, if_neg e, hal, Nat.add_zero]
      rintro H2 ⟨s2, acc, hacc, hal⟩
      rw [lx, List.take_length] at hal
      refine ⟨D, acc, rfl, .inl (SqL.of hacc), ?_⟩
      rw [hal]
      clear hal hacc
      have sm2 : Same H H2 := sm.trans s2
      have ht2 := s2 _ _ ht
      clear hD D acc ht s2 sm
      -- free
      refine ⟨.ref a, rfl, a, rfl, ⟨_, SqT.of (sm2 _ _ hxs)⟩, fun D hD => ?_⟩
      refine lc_tup (K := K) (a := a) (xs := xs) (fun j H3 => Same H2 H3 ∧ ∃ acc, H3 D = some (.lst acc) ∧ acc.length = (pts.take j).countP fun p => inF false p bx)
        ⟨same_new (Same.refl H2) hD, [], upd_same, rfl⟩ ?_ ?_ ?_
      · rintro j H3 hj ⟨s2, _⟩
        exact SqT.of (s2 _ _ (sm2 _ _ hxs))
      · rintro j x H3 hx ⟨s2, acc, hacc, hal⟩
        obtain ⟨pt, hpt, px⟩ := paired_at hp hx
        obtain ⟨pl, pf⟩ := fp pt (List.mem_of_getElem? hpt)
        have et : pts.take (j + 1) = pts.take j ++ [pt] := by rw [List.take_add_one, hpt]; rfl
        have s02 : Same H H3 := sm2.trans s2
        have hj : j < pts.length := (List.getElem?_eq_some_iff.mp hpt).1
        have hcl : (pts.take j).countP (fun p => inF false p bx) ≤ (pts.take j).length := List.countP_le_length
        rw [List.length_take] at hcl
        refine ⟨rfl, x, rfl, .ref b, rfl, x, .ref b, false, pt, bx, rfl, px.tk s02.tk, ⟨b, ys, rfl, s02 _ _ hys, L2.Paired.mapP hb fun _ _ z => z.tk s02.tk⟩, pl, pf, fb, fun H4 s3 => ⟨inF false pt bx, rfl, ite2 (fun e => ?_) (fun e => ?_)⟩⟩
        · refine ⟨x, rfl, acc, s3 _ _ hacc, small_line (by omega), same_new (s2.trans s3) hD, acc ++ [x], upd_same, ?_⟩
          rw [et, List.countP_append, List.countP_singleton, if_pos e, List.length_append, hal]
          rfl
        · refine ⟨s2.trans s3, acc, s3 _ _ hacc, ?_⟩
          rw [et, List.countP_append, List.countP_singleton, if_neg e, hal, Nat.add_zero]
      rintro H3 ⟨s2, acc, hacc, hal⟩
      rw [lx, List.take_length] at hal
      refine ⟨D, acc, rfl, .inl (SqL.of hacc), ?_⟩
      rw [hal]
      clear hal hacc
      have sm3 : Same H H3 := sm2.trans s2
      have ht3 := s2 _ _ ht2
      have hc3 := sm3 _ _ hc
      obtain ⟨z1, z2⟩ := szF_abs fb
      have z1' : (szF bx).1.natAbs ≤ 2 ^ 105 := Nat.le_trans z1 (Nat.pow_le_pow_right (by decide) (by omega))
      have z2' : (szF bx).2.natAbs ≤ 2 ^ 105 := Nat.le_trans z2 (Nat.pow_le_pow_right (by decide) (by omega))
      have ct : ∀ sh, ((cntF sh pts bx : Nat) : Int).natAbs ≤ 2 ^ 7 := fun sh => by
        have h : cntF sh pts bx ≤ pts.length := List.countP_le_length
        have : (2 : Nat) ^ 7 = 128 := by decide
        omega
      have nn : ((pts.length : Nat) : Int).natAbs ≤ 2 ^ 7 := by
        have : (2 : Nat) ^ 7 = 128 := by decide
        omega
      have ab : (aboveF pts bx).natAbs ≤ 2 ^ 113 := abs_sub (abs_mul (ct true) z2') (abs_mul nn z1')
      have lk : (lackF pts bx).natAbs ≤ 2 ^ 113 := abs_sub (abs_mul nn z1') (abs_mul (ct false) z2')
      have mx : (if lackF pts bx > aboveF pts bx then lackF pts bx else aboveF pts bx).natAbs ≤ 2 ^ 113 := by
        split
        · exact lk
        · exact ab
      -- above, lack
      refine ⟨.int (cntF true pts bx : Nat), rfl, .ref t, rfl, t, _, 1, .int (szF bx).2, rfl, rfl, SqT.of ht3, atI_nat (j := 1) rfl, _, _, rfl, rfl, mulOk (abs_le (ct true) (by decide)) (abs_le z2' (by decide)), .int (pts.length : Nat), rfl, .ref t, rfl, t, _, 0, .int (szF bx).1, rfl, rfl, SqT.of ht3, atI_nat (j := 0) rfl, _, _, rfl, rfl, mulOk (abs_le nn (by decide)) (abs_le z1' (by decide)), _, _, rfl, rfl, ?_⟩
      refine ⟨.int (pts.length : Nat), rfl, .ref t, rfl, t, _, 0, .int (szF bx).1, rfl, rfl, SqT.of ht3, atI_nat (j := 0) rfl, _, _, rfl, rfl, mulOk (abs_le nn (by decide)) (abs_le z1' (by decide)), .int (cntF false pts bx : Nat), rfl, .ref t, rfl, t, _, 1, .int (szF bx).2, rfl, rfl, SqT.of ht3, atI_nat (j := 1) rfl, _, _, rfl, rfl, mulOk (abs_le (ct false) (by decide)) (abs_le z2' (by decide)), _, _, rfl, rfl, ?_⟩
      refine ⟨.int (aboveF pts bx), rfl, .int (lackF pts bx), rfl, _, _, rfl, .ref c, rfl, c, _, 1, .int v, rfl, rfl, SqT.of hc3, atI_nat (j := 1) rfl, _, _, rfl, rfl, mulOk (abs_le mx (by decide)) (abs_le hv (by decide)), ?_⟩
      refine ⟨.ref c, rfl, c, _, 0, .int u, rfl, rfl, SqT.of hc3, atI_nat (j := 0) rfl, .int (pts.length : Nat), rfl, _, _, rfl, rfl, mulOk (abs_le hu (by decide)) (abs_le nn (by decide)), .ref t, rfl, t, _, 1, .int (szF bx).2, rfl, rfl, SqT.of ht3, atI_nat (j := 1) rfl, _, _, rfl, rfl, mulOk (abs_le (abs_mul hu nn) (by decide)) (abs_le z2' (by decide)), _, _, rfl, rfl, ?_⟩
      exact q _ sm3
end
end Ev

set_option Elab.async false
set_option linter.all false
set_option maxRecDepth 100000
set_option maxHeartbeats 1000000
namespace Ev
open PySem PySem.Spec PyProof.Rows L2
/-! ### a comprehension over a locked dict's keys -/
abbrev KTurn (g : TG) (tt : TT) (te : TE) (vs : List Nat) (σ : L2.St) (D : Addr) (x : V) (Ha : Hp) (N : Hp → Prop) : Prop :=
  g x (wipe σ vs) Ha fun τ Hb => wipe τ vs = wipe σ vs ∧ tt τ Hb fun keep Hc => if keep = true then te τ Hc fun z Hd => ∃ got, Hd D = some (.lst got) ∧ got.length < sizeLine ∧ N (upd Hd D (.lst (got ++ [z]))) else N Hc
theorem lc_keysT {d : Addr} {o : Obj} {kvs : List (List L2.Key × V)} {g : TG} {tt : TT} {te : TE} {vs : List Nat} {σ : L2.St} {H1 : Hp} {D : Addr} {Qd : Hp → Prop} (Pv : Nat → Hp → Prop) (h0 : Pv 0 (upd H1 D (.lst [])))
    (hl : ∀ i Ha, i ≤ kvs.length → Pv i Ha → Ha d = some (.frz o (.dT kvs)))
    (hs : ∀ i k v q Ha, kvs[i]? = some (k, v) → Ha q = some (.tup (k.map kV)) → Pv i Ha → KTurn g tt te vs σ D (.ref q) Ha (Pv (i + 1))) (hd : ∀ Ha, Pv kvs.length Ha → Qd Ha) :
    ∃ Wd : Nat → Nat → Hp → Prop, (∃ n, Wd 0 n (upd H1 D (.lst []))) ∧ ∀ i n Ha, Wd i n Ha → ((Itkt d o kvs).stop i Ha ∧ Qd Ha) ∨
      ((Itkt d o kvs).go i Ha ∧ ∃ N : Hp → Prop, (∀ Hb, N Hb → ∃ n', n' < n ∧ Wd (i + 1) n' Hb) ∧ ∀ x Hb, (Itkt d o kvs).yld i Ha x Hb → KTurn g tt te vs σ D x Hb N) := by
  refine ⟨fun i n Ha => kvs.length - i = n ∧ i ≤ kvs.length ∧ Pv i Ha, ⟨_, rfl, Nat.zero_le _, h0⟩, ?_⟩
  rintro i n Ha ⟨rfl, hi, p⟩
  have locked := hl i Ha hi p
  rcases Nat.lt_or_ge i kvs.length with hlt | hge
  · refine .inr ⟨⟨locked, hlt⟩, Pv (i + 1), fun Hb p' => ⟨_, by omega, rfl, hlt, p'⟩, ?_⟩
    rintro x Hb ⟨rfl, k, v, b, e1, rfl, e3⟩
    exact hs i k v b _ e1 e3 p
  · have e : i = kvs.length := Nat.le_antisymm hi hge
    subst e
    exact .inl ⟨⟨locked, Nat.le_refl _⟩, hd Ha p⟩
/-! ### boxes -/
def BoxOk (pts : List (List Fr)) (s : Nat) (bx : List Fr) : Prop := bx.length = s ∧ ∀ (j : Nat) (f : Fr), bx[j]? = some f → f = (1, 1) ∨ ∃ pt ∈ pts, pt[j]? = some f
theorem boxOk_snoc {pts : List (List Fr)} {s : Nat} {bx : List Fr} {f : Fr} (h : BoxOk pts s bx) (hf : f = (1, 1) ∨ ∃ pt ∈ pts, pt[s]? = some f) : BoxOk pts (s + 1) (bx ++ [f]) := by
  refine ⟨by rw [List.length_append, h.1]; rfl, fun j g hg => ?_⟩
  by_cases hj : j < bx.length
  · rw [List.getElem?_append_left hj] at hg
    exact h.2 j g hg
  · have ej : j = s := by
      have := (List.getElem?_eq_some_iff.mp hg).1
      rw [List.length_append] at this
      have h1 := h.1
      simp at this
      omega
    rw [List.getElem?_append_right (by omega), ej, h.1, Nat.sub_self] at hg
    have e : f = g := Option.some.inj hg
    rw [ej, ← e]
    exact hf
def keyF (f : Fr) : List L2.Key := [.inl f.1, .inl f.2]
/-- the keys of the dict of a side -/
def KeysOk (pts : List (List Fr)) (s : Nat) (kvs : List (List L2.Key × V)) : Prop := ∀ kv ∈ kvs, ∃ f, kv.1 = keyF f ∧ (f = (1, 1) ∨ ∃ pt ∈ pts, pt[s]? = some f)
section
variable {P : Program} {w : World} {K : PySem.W.Frag} {mg : Str → Option Value} {base : Heap}
def spBoxes : Sp := fun vs H Q _ => ∃ (a : Addr) (xs : List V) (pts : List (List Fr)) (s : Nat), vs = [.ref a] ∧ H a = some (.tup xs) ∧ Paired (PtAt H) xs pts ∧ 1 ≤ pts.length ∧ pts.length ≤ 40 ∧ s ≤ 3 ∧ (∀ pt ∈ pts, pt.length = s) ∧
  ∀ H' p ys bxs, Same H H' → H' p = some (.lst ys) → Paired (PtAt H') ys bxs → (∀ bx ∈ bxs, BoxOk pts s bx) → bxs.length ≤ 100000 → Q (.ref p) H'
theorem ok_boxes {f : Addr} {fd : FuncData} {k : Nat} (F : Fun K "_law_boxes" "_law_boxes" sBoxes f fd) (T : Txt mg) : FnOk P w K mg base CX0 (k + 1) f fd ["_law_points"] spBoxes := by
  refine F.ok scBoxes (fun vs H Q E h => ?_) (fun cdv A outer s H vs Q E hr h => ?_)
  · obtain ⟨a, xs, pts, s, rfl, _⟩ := h
    rfl
  · obtain ⟨a, xs, pts, sd, rfl, hxs, hp, h1, h40, h3, hsd, q⟩ := h
    refine ⟨_, pss_cons (ps_set (i := 1) scBoxes.nd rfl (.inl rfl) (pe_lst (pa_cons (pe_tup pa_nil) pa_nil)))
      (pss_cons (ps_for PassesOwn.never rfl (pi_range1 (by rfl) T.range (pa_cons (pe_callB call_len_seq (by rfl) T.len PySem.boot_len (pa_cons (pe_ix ix_tup (pv 0) pe_int (fun _ _ => rfl)) pa_nil)) pa_nil)) (pg_name (i := 2) scBoxes.nd rfl (.inr rfl))
        (pss_cons (ps_set (i := 3) scBoxes.nd rfl (.inl rfl) (pe_callTy (call_dictPT rfl (Nat.lt_of_le_of_lt (Nat.add_le_add_left (by decide : 2 ≤ 64) _) hr.units)) (by rfl) T.dict (by decide +kernel) (pa_cons
          (pe_lc (own := [("_law_point", 6)]) (g := gName 6) (tt := tYes) (te := tTup (tCons (tOp (rIxT K) (tVar 6) (tVar 2)) (tCons (tC (.bl true)) tNil))) rfl scBoxes.nd (pi_tup (pv 0)) (blkOk_by (own := [("_law_point", 6)]) (N := nBoxes) (sc := defScope sBoxes) (by decide +kernel))
            (fun _ _ _ _ _ => pg_name (i := 6) scBoxes.nd rfl (Or.inl rfl)) (fun _ _ _ _ _ => pts_nil) (fun _ _ _ _ _ => pe_tup (pa_cons (pe_ix ix_tup (pv 6) (pv 2) (fun _ _ => rfl)) (pa_cons pe_bl pa_nil)))) pa_nil)))
        (pss_cons (ps_dput (hu_of hr) (pv 3) (pe_tup (pa_cons pe_int (pa_cons pe_int pa_nil))) pe_bl rfl)
        (pss_cons (ps_set (i := 4) scBoxes.nd rfl (.inl rfl) (pe_lst pa_nil))
        (pss_cons (ps_for PassesOwn.never rfl (pi_list (pv 1)) (pg_name (i := 5) scBoxes.nd rfl (.inr rfl))
          (pss_one (ps_expr (pe_bm PySem.F.plainAttrs_list PySem.F.slot_list_extend PySem.F.type_list_extend mt_extend (pv 4) (pa_cons (pe_lock
            (pe_lc (own := [("_law_one", 7)]) (g := gName 7) (tt := tYes) (te := tOp (rCatA K) (tVar 5) (tTup (tCons (tVar 7) tNil))) rfl scBoxes.nd (pi_keys (pv 3)) (blkOk_by (own := [("_law_one", 7)]) (N := nBoxes) (sc := defScope sBoxes) (by decide +kernel))
              (fun _ _ _ _ _ => pg_name (i := 7) scBoxes.nd rfl (Or.inl rfl)) (fun _ _ _ _ _ => pts_nil) (fun _ _ _ _ _ => pe_op op_catA (pv 5) (pe_tup (pa_cons (pv 7) pa_nil))))) pa_nil)))))
        (pss_one (ps_set (i := 1) scBoxes.nd rfl (.inl rfl) (pv 4))))))))
      (pss_one (ps_ret (pv 1)))), ?_⟩
    have lx := paired_len hp
    -- [()]
    refine ⟨Nat.zero_le _, fun e0 he0 => ?_⟩
    have s0 : Same H (upd H e0 (.tup [])) := same_new (Same.refl H) he0
    refine ⟨by show 1 ≤ sizeLine; decide, fun p0 hp0 => ?_⟩
    have s1 : Same H (upd (upd H e0 (.tup [])) p0 (.lst [.ref e0])) := same_new s0 (s0.free hp0)
    have ne0 : e0 ≠ p0 := fun e => by
      rw [← e, upd_same] at hp0
      cases hp0
    -- len(points[0])
    have hx0 : xs[0]? = some xs[0] := List.getElem?_eq_getElem (by omega)
    obtain ⟨pt0, hpt0, b0, xs0, e0', hb0, hp0'⟩ := paired_at hp hx0
    have hl0 : xs0.length = sd := by rw [paired_len hp0', hsd pt0 (List.mem_of_getElem? hpt0)]
    refine ⟨.ref a, rfl, a, xs, 0, .ref b0, rfl, rfl, SqT.of (s1 _ _ hxs), atI_nat (j := 0) (by rw [hx0, e0']), b0, xs0, rfl, .inr (SqT.of (s1 _ _ hb0)), (xs0.length : Int), rfl, by omega, by omega, ?_⟩
    rw [Int.toNat_natCast, hl0]
    refine for_range (fun i σ H' => ∃ p y2 y3 y4 y5, σ = [some (.ref a), some (.ref p), y2, y3, y4, y5, none, none] ∧ Same H H' ∧ ∃ ys bxs, H' p = some (.lst ys) ∧ Paired (PtAt H') ys bxs ∧ (∀ bx ∈ bxs, BoxOk pts i bx) ∧ bxs.length ≤ 41 ^ i)
      ⟨p0, none, none, none, none, rfl, s1, [.ref e0], [[]], upd_same, .cons ⟨e0, [], rfl, by rw [upd_ne ne0, upd_same], .nil⟩ .nil, fun bx hbx => ?_, Nat.le_refl _⟩ ?_ ?_
    · rw [List.mem_singleton.mp hbx]
      exact ⟨rfl, fun j f hf => by simp at hf⟩
    · rintro i σ H1 hi ⟨p, y2, y3, y4, y5, rfl, sm, ys, bxs, hys, hbp, hbo, hbl⟩
      have hxs1 := sm _ _ hxs
      have hp1 : Paired (PtAt H1) xs pts := L2.Paired.mapP hp fun _ _ z => z.tk sm.tk
      -- the pairs
      refine ⟨.ref a, rfl, a, rfl, ⟨_, SqT.of hxs1⟩, fun D hD => ?_⟩
      refine lc_tup (K := K) (a := a) (xs := xs) (fun j H2 => Same H1 H2 ∧ ∃ ps : List (Addr × KA), H2 D = some (.lst (ps.map fun p => V.ref p.1)) ∧ PairsT H2 ps ∧ ps.length = j ∧ ∀ p ∈ ps, ∃ f, p.2.1 = keyF f ∧ ∃ pt ∈ pts, pt[i]? = some f)
        ⟨same_new (Same.refl H1) hD, [], upd_same, (fun p hp => nomatch hp), rfl, (fun p hp => nomatch hp)⟩ ?_ ?_ ?_
      · rintro j H2 hj ⟨s2, _⟩
        exact SqT.of (s2 _ _ hxs1)
      · rintro j x H2 hx ⟨s2, ps, hacc, hps, hpl, hpk⟩
        obtain ⟨pt, hpt, c, zs, rfl, hc, hz⟩ := paired_at hp1 hx
        have hptm := List.mem_of_getElem? hpt
        have hlz : zs.length = sd := by rw [paired_len hz, hsd pt hptm]
        have hzi : zs[i]? = some zs[i] := List.getElem?_eq_getElem (by omega)
        obtain ⟨fr, hfr, d, ed, hd⟩ := paired_at hz hzi
        have hjn : j < xs.length := (List.getElem?_eq_some_iff.mp hx).1
        refine ⟨rfl, .ref c, rfl, .int (0 + i), rfl, c, zs, 0 + i, .ref d, rfl, rfl, SqT.of (s2 _ _ hc), at_of (j := i) (by omega) (by rw [hzi, ed]), by show 2 ≤ sizeLine; decide, fun t ht => ?_⟩
        have nt : t ≠ D := fun e => by
          rw [e, hacc] at ht
          cases ht
        refine ⟨_, by rw [upd_ne nt.symm]; exact hacc, ?_, same_new (same_new s2 (s2.free ht)) hD, ps ++ [(t, keyF fr, d, .bl true)], ?_, ?_, by rw [List.length_append, hpl]; rfl, ?_⟩
        · rw [List.length_map, hpl]
          exact small_line (by omega)
        · rw [upd_same, List.map_append]
          rfl
        · intro p hp
          have tk : Tk H2 (upd (upd H2 t (.tup [.ref d, .bl true])) D (.lst (ps.map (fun p => V.ref p.1) ++ [.ref t]))) := (tk_new ht).trans (tk_lst (by rw [upd_ne nt.symm]; exact hacc))
          rcases List.mem_append.mp hp with hp | hp
          · exact ⟨tk _ _ (hps p hp).1, tk _ _ (hps p hp).2⟩
          · rw [List.mem_singleton.mp hp]
            refine ⟨?_, tk _ _ (s2 _ _ hd)⟩
            show _ = some (HO.tup [V.ref d, V.bl true])
            rw [upd_ne nt, upd_same]
        · intro p hp
          rcases List.mem_append.mp hp with hp | hp
          · exact hpk p hp
          · rw [List.mem_singleton.mp hp]
            exact ⟨fr, rfl, pt, hptm, hfr⟩
      rintro H2 ⟨s2, ps, hacc, hps, hpl, hpk⟩
      -- dict(..)
      refine ⟨D, ps, rfl, SqL.of hacc, hps, fun d hd => ?_⟩
      have s3 : Same H1 (upd H2 d (.dT (mergeT [] (ps.map fun p => (p.2.1, p.2.2.2))))) := same_new s2 (s2.free hd)
      have k3 : KeysOk pts i (mergeT [] (ps.map fun p => (p.2.1, p.2.2.2))) := fun kv hkv => by
        rcases mergeT_mem hkv with ⟨y, hy, _⟩ | ⟨y, hy, e⟩
        · exact nomatch hy
        · obtain ⟨p, hp, rfl⟩ := List.mem_map.mp hy
          obtain ⟨fr, h1, h2⟩ := hpk p hp
          exact ⟨fr, e.trans h1, .inr h2⟩
      have l3 : (mergeT [] (ps.map fun p => (p.2.1, p.2.2.2))).length ≤ 40 := by
        have := mergeT_len (ps.map fun p => (p.2.1, p.2.2.2)) []
        rw [List.length_nil, List.length_map, hpl] at this
        omega
      generalize mergeT [] (ps.map fun p => (p.2.1, p.2.2.2)) = kv0 at *
      -- numbers[1, 1] = True
      refine ⟨.ref d, rfl, by show 2 ≤ sizeLine; decide, fun o ho => ?_⟩
      have nd : d ≠ o := fun e => by
        rw [← e, upd_same] at ho
        cases ho
      refine ⟨d, _, rfl, DPut.t (k := keyF (1, 1)) (kvs := kv0) (by rw [upd_ne nd, upd_same]) upd_same (small_line (by omega)), ?_⟩
      have hdH1 : H1 d = none := s2.free hd
      have s4 : Same H1 (upd (upd (upd H2 d (.dT kv0)) o (.tup [.int 1, .int 1])) d (.dT (putK kv0 (keyF (1, 1)) (.bl true)))) := same_new (same_new s3 (s3.free ho)) hdH1
      have k4 : KeysOk pts i (putK kv0 (keyF (1, 1)) (.bl true)) := fun kv hkv => by
        rcases putK_mem hkv with e | ⟨y, hy, e⟩
        · exact ⟨(1, 1), e, .inl rfl⟩
        · obtain ⟨fr, h1, h2⟩ := k3 y hy
          exact ⟨fr, e.trans h1, h2⟩
      have l4 : (putK kv0 (keyF (1, 1)) (.bl true)).length ≤ 41 := Nat.le_trans (length_putK _ _ _) (by omega)
      have hd4 : (upd (upd (upd H2 d (.dT kv0)) o (.tup [.int 1, .int 1])) d (.dT (putK kv0 (keyF (1, 1)) (.bl true)))) d = some (.dT (putK kv0 (keyF (1, 1)) (.bl true))) := upd_same
      generalize putK kv0 (keyF (1, 1)) (.bl true) = kvs at *
      generalize (upd (upd (upd H2 d (.dT kv0)) o (.tup [.int 1, .int 1])) d (.dT kvs)) = H4 at *
      clear s3 k3 l3 ho nd hd hacc hps hpl hpk s2
      -- longer = []
      refine ⟨Nat.zero_le _, fun r hr0 => ?_⟩
      have hrH1 : H1 r = none := s4.free hr0
      have hys4 : H4 p = some (.lst ys) := s4 _ _ hys
      have npr : p ≠ r := ne_of_none hys4 hr0
      have ndr : d ≠ r := ne_of_none hd4 hr0
      have lbx := paired_len hbp
      refine ⟨.ref p, rfl, p, rfl, ⟨_, SqL.of (by rw [upd_ne npr]; exact hys4)⟩, for_list (K := K) (a := p) (xs := ys) (fun j σ H5 => ∃ y5, σ = [some (.ref a), some (.ref p), some (.int (0 + i)), some (.ref d), some (.ref r), y5, none, none] ∧ Same H4 H5 ∧ ∃ zs cxs, H5 r = some (.lst zs) ∧ Paired (PtAt H5) zs cxs ∧ (∀ bx ∈ cxs, BoxOk pts (i + 1) bx) ∧ cxs.length ≤ j * 41)
        ⟨y5, rfl, same_new (Same.refl H4) hr0, [], [], upd_same, .nil, (fun bx hbx => nomatch hbx), Nat.zero_le _⟩ ?_ ?_ ?_⟩
      · rintro j σ H5 hj ⟨y5, rfl, s5, _⟩
        exact SqL.of (s5 _ _ hys4)
      · rintro j x σ H5 hx ⟨y5, rfl, s5, zs, cxs, hzs, hzp, hzo, hzl⟩
        obtain ⟨bx, hbx, px⟩ := paired_at hbp hx
        have hbm := List.mem_of_getElem? hbx
        have px5 : PtAt H5 x bx := px.tk (s4.trans s5).tk
        obtain ⟨c, cs, rfl, hc, hcp⟩ := px5
        have hd5 : H5 d = some (.dT kvs) := s5 _ _ hd4
        have hjn : j < ys.length := (List.getElem?_eq_some_iff.mp hx).1
        have ndc : c ≠ d := fun e => by
          rw [e, hd5] at hc
          cases hc
        -- longer.extend(..)
        refine ⟨.ref r, rfl, .inl ⟨rfl, _, SqL.of hzs⟩, d, .dT kvs, hd5, trivial, fun od => ?_⟩
        have hl5 : ∀ b u, b ≠ d → H5 b = some u → (upd H5 d (.frz od (.dT kvs))) b = some u := fun b u n e => by
          rw [upd_ne n]
          exact e
        refine ⟨.ref d, rfl, d, od, rfl, .inr ⟨kvs, upd_same, fun D hD => ?_⟩⟩
        have hDd : D ≠ d := fun e => by
          rw [e, upd_same] at hD
          cases hD
        refine lc_keysT (d := d) (o := od) (kvs := kvs) (fun m H6 => Same (upd H5 d (.frz od (.dT kvs))) H6 ∧ ∃ acc dxs, H6 D = some (.lst acc) ∧ Paired (PtAt H6) acc dxs ∧ (∀ bx ∈ dxs, BoxOk pts (i + 1) bx) ∧ dxs.length = m)
          ⟨same_new (Same.refl _) hD, [], [], upd_same, .nil, (fun bx hbx => nomatch hbx), rfl⟩ ?_ ?_ ?_
        · rintro m H6 hm ⟨s6, _⟩
          exact s6 _ _ upd_same
        · rintro m key v g H6 hkv hg ⟨s6, acc, dxs, hacc, hdp, hdo, hdl⟩
          obtain ⟨fr, e1, e2⟩ := k4 _ (List.mem_of_getElem? hkv)
          have e1 : key = keyF fr := e1
          subst e1
          have hmn : m < kvs.length := (List.getElem?_eq_some_iff.mp hkv).1
          have hc6 : H6 c = some (.tup cs) := s6 _ _ (hl5 _ _ ndc hc)
          have hcp6 : Paired (FrAt H6) cs bx := L2.Paired.mapP hcp fun _ _ ⟨b, z1, z2⟩ => ⟨b, z1, s6 _ _ (hl5 _ _ (fun e => by rw [e, hd5] at z2; cases z2) z2)⟩
          have hfr : FrAt H6 (.ref g) fr := ⟨g, rfl, hg⟩
          refine ⟨rfl, .ref c, rfl, .ref g, rfl, by show 1 ≤ sizeLine; decide, fun t ht => ?_⟩
          have nct : c ≠ t := ne_of_none hc6 ht
          have s7 : Same (upd H5 d (.frz od (.dT kvs))) (upd H6 t (.tup [.ref g])) := same_new s6 (s6.free ht)
          have hacc7 : (upd H6 t (.tup [.ref g])) D = some (.lst acc) := by
            rw [upd_ne (ne_of_none hacc ht)]
            exact hacc
          have la := paired_len hdp
          have lc := paired_len hcp
          have bo := boxOk_snoc (hbo bx hbm) e2
          refine ⟨c, t, cs, [.ref g], rfl, rfl, SqT.of (by rw [upd_ne nct]; exact hc6), SqT.of upd_same, ?_, fun z => ?_, (fun _ z => nomatch z), fun hne _ u hu => ?_⟩
          · have := (hbo bx hbm).1
            have h2 : [V.ref g].length = 1 := rfl
            rw [h2]
            exact Nat.le_of_lt (small_line (by omega))
          · -- () + (one,)
            subst z
            cases hcp
            have tk : Tk H6 (upd (upd H6 t (.tup [.ref g])) D (.lst (acc ++ [.ref t]))) := (tk_new ht).trans (tk_lst hacc7)
            have tD : t ≠ D := fun e => by
              rw [← e, upd_same] at hacc7
              cases hacc7
            refine ⟨acc, hacc7, small_line (by omega), same_new s7 hD, acc ++ [.ref t], dxs ++ [[fr]], upd_same, paired_snoc (L2.Paired.mapP hdp fun _ _ z => z.tk tk) ⟨t, [.ref g], rfl, by rw [upd_ne tD, upd_same], .cons (hfr.tk tk) .nil⟩, fun bx hbx => ?_, by rw [List.length_append, hdl]; rfl⟩
            rcases List.mem_append.mp hbx with h | h
            · exact hdo bx h
            · rw [List.mem_singleton.mp h]
              exact bo
          · have hacc8 : (upd (upd H6 t (.tup [.ref g])) u (.tup (cs ++ [.ref g]))) D = some (.lst acc) := by
              rw [upd_ne (ne_of_none hacc7 hu)]
              exact hacc7
            have tk : Tk H6 (upd (upd (upd H6 t (.tup [.ref g])) u (.tup (cs ++ [.ref g]))) D (.lst (acc ++ [.ref u]))) := (tk_new ht).trans ((tk_new hu).trans (tk_lst hacc8))
            have uD : u ≠ D := fun e => by
              rw [← e, upd_same] at hacc8
              cases hacc8
            refine ⟨acc, hacc8, small_line (by omega), same_new (same_new s7 (s7.free hu)) hD, acc ++ [.ref u], dxs ++ [bx ++ [fr]], upd_same, paired_snoc (L2.Paired.mapP hdp fun _ _ z => z.tk tk) ⟨u, cs ++ [.ref g], rfl, by rw [upd_ne uD, upd_same], paired_snoc (L2.Paired.mapP hcp6 fun _ _ z => z.tk tk) (hfr.tk tk)⟩, fun bx hbx => ?_, by rw [List.length_append, hdl]; rfl⟩
            rcases List.mem_append.mp hbx with h | h
            · exact hdo bx h
            · rw [List.mem_singleton.mp h]
              exact bo
        · rintro H6 ⟨s6, acc, dxs, hacc, hdp, hdo, hdl⟩
          refine ⟨s6 _ _ upd_same, ?_⟩
          have s8 : Same H5 (upd H6 d (.dT kvs)) := fun b u e => by
            by_cases hb : b = d
            · rw [hb] at e ⊢
              rw [upd_same, ← hd5]
              exact e
            · rw [upd_ne hb]
              exact s6 _ _ (hl5 _ _ hb e)
          have hr8 : (upd H6 d (.dT kvs)) r = some (.lst zs) := s8 _ _ hzs
          have hD8 : (upd H6 d (.dT kvs)) D = some (.lst acc) := by
            rw [upd_ne hDd]
            exact hacc
          have lz := paired_len hzp
          have la := paired_len hdp
          have b40 : bxs.length ≤ 41 ^ 2 := Nat.le_trans hbl (Nat.pow_le_pow_right (by decide) (by omega))
          refine ⟨r, D, zs, acc, rfl, rfl, hr8, hD8, Nat.le_of_lt (small_line ?_), ?_⟩
          · have : j * 41 ≤ 1681 * 41 := Nat.mul_le_mul_right _ (by
              have : (41 : Nat) ^ 2 = 1681 := by decide
              omega)
            omega
          have tkA : Tk H6 (upd H6 d (.dT kvs)) := fun b ys e => by
            rw [upd_ne (fun z => by rw [z, s6 _ _ upd_same] at e; cases e)]
            exact e
          have tkB : Tk (upd H6 d (.dT kvs)) (upd (upd H6 d (.dT kvs)) r (.lst (zs ++ acc))) := tk_lst hr8
          refine ⟨_, rfl, same_new (s5.trans s8) hr0, zs ++ acc, cxs ++ dxs, upd_same, paired_append (L2.Paired.mapP hzp fun _ _ z => z.tk (s8.tk.trans tkB)) (L2.Paired.mapP hdp fun _ _ z => z.tk (tkA.trans tkB)), fun bx hbx => ?_, ?_⟩
          · rcases List.mem_append.mp hbx with h | h
            · exact hzo bx h
            · exact hdo bx h
          · rw [List.length_append, Nat.succ_mul, hdl]
            omega
      · rintro σ H5 ⟨y5, rfl, s5, zs, cxs, hzs, hzp, hzo, hzl⟩
        refine ⟨.ref r, rfl, r, _, _, _, _, rfl, sm.trans (s4.trans s5), zs, cxs, hzs, hzp, hzo, ?_⟩
        rw [Nat.pow_succ]
        exact Nat.le_trans hzl (Nat.mul_le_mul_right _ (by omega))
    · rintro σ H1 ⟨p, y2, y3, y4, y5, rfl, sm, ys, bxs, hys, hbp, hbo, hbl⟩
      refine ⟨.ref p, rfl, q H1 p ys bxs sm hys hbp hbo (Nat.le_trans hbl ?_)⟩
      exact Nat.le_trans (Nat.pow_le_pow_right (by decide) h3) (by decide)
end
end Ev

set_option Elab.async false
set_option linter.all false
set_option maxRecDepth 100000
set_option maxHeartbeats 1000000
namespace Ev
open PySem PySem.Spec PyProof.Rows L2
/-! ### the plain law over the mirror -/
theorem Tn.fb {b n : Nat} {es : List Nat} {f : Fr} (h : Tn b es n f) : Fb f := by
  obtain ⟨p, q, rfl, _, h1, h2, h3⟩ := h
  exact ⟨by show (0 : Int) ≤ p; omega, by show (p : Int) ≤ q; omega, by show (0 : Int) < q; omega, by show (q : Int) ≤ 2 ^ 34; omega⟩
theorem fb_one : Fb (1, 1) := ⟨by decide, by decide, by decide, by decide⟩
theorem pass_false {pts : List (List Fr)} {bx : List Fr} {u v B : Int} (hA : aboveF pts bx ≤ B * (szF bx).2) (hL : lackF pts bx ≤ B * (szF bx).2) (hu : u * (pts.length : Int) = B * v) (hv : 0 ≤ v) : passF pts bx u v = false := by
  unfold passF
  refine decide_eq_false fun h => ?_
  have hm : (if lackF pts bx > aboveF pts bx then lackF pts bx else aboveF pts bx) ≤ B * (szF bx).2 := by split <;> assumption
  generalize (if lackF pts bx > aboveF pts bx then lackF pts bx else aboveF pts bx) = m at *
  have h1 := Int.mul_le_mul_of_nonneg_right hm hv
  rw [hu, Int.mul_assoc, Int.mul_comm v, ← Int.mul_assoc] at h
  omega
theorem szF_pos {bx : List Fr} (h : ∀ f ∈ bx, Fb f) : 0 ≤ (szF bx).1 ∧ (szF bx).1 ≤ (szF bx).2 ∧ 0 < (szF bx).2 := by
  suffices ∀ (l : List Fr) (s : Int × Int), (∀ f ∈ l, Fb f) → 0 ≤ s.1 → s.1 ≤ s.2 → 0 < s.2 →
      0 ≤ (l.foldl (fun s f => (s.1 * f.1, s.2 * f.2)) s).1 ∧ (l.foldl (fun s f => (s.1 * f.1, s.2 * f.2)) s).1 ≤ (l.foldl (fun s f => (s.1 * f.1, s.2 * f.2)) s).2 ∧ 0 < (l.foldl (fun s f => (s.1 * f.1, s.2 * f.2)) s).2 by
    exact this bx (1, 1) h (by decide) (by decide) (by decide)
  intro l
  induction l with
  | nil => exact fun s _ h1 h2 h3 => ⟨h1, h2, h3⟩
  | cons f r ih =>
    intro s hf h1 h2 h3
    have F := hf f List.mem_cons_self
    refine ih (s.1 * f.1, s.2 * f.2) (fun g hg => hf g (List.mem_cons_of_mem _ hg)) (Int.mul_nonneg h1 F.n0) ?_ (Int.mul_pos h3 F.d0)
    exact Int.le_trans (Int.mul_le_mul_of_nonneg_right h2 F.n0) (Int.mul_le_mul_of_nonneg_left F.le (Int.le_of_lt h3))
/-- no box is missed by more than 1 -/
theorem trivial_miss (pts : List (List Fr)) {bx : List Fr} (h : ∀ f ∈ bx, Fb f) : aboveF pts bx ≤ (pts.length : Int) * (szF bx).2 ∧ lackF pts bx ≤ (pts.length : Int) * (szF bx).2 := by
  obtain ⟨h1, h2, h3⟩ := szF_pos h
  have c : ∀ sh, (cntF sh pts bx : Int) ≤ (pts.length : Int) := fun sh => Int.ofNat_le.mpr List.countP_le_length
  have n0 : (0 : Int) ≤ (pts.length : Int) := by omega
  have a1 := Int.mul_le_mul_of_nonneg_right (c true) (Int.le_of_lt h3)
  have a2 := Int.mul_nonneg n0 h1
  have a3 := Int.mul_le_mul_of_nonneg_left h2 n0
  have a4 := Int.mul_nonneg (show (0 : Int) ≤ (cntF false pts bx : Int) by omega) (Int.le_of_lt h3)
  unfold aboveF lackF
  omega
/-! ### one number of a box -/
def Sd (b : Nat) (f : Fr) (T : Nat) : Prop := ∃ p q : Nat, f = ((p : Int), (q : Int)) ∧ p * b ^ 30 = T * q ∧ 0 < q ∧ T ≤ b ^ 30
theorem sd_one (b : Nat) : Sd b (1, 1) (b ^ 30) := ⟨1, 1, rfl, by rw [Nat.one_mul, Nat.mul_one], by decide, Nat.le_refl _⟩
theorem sd_tn {b n : Nat} {es : List Nat} {f : Fr} (X : IsEx b es) (h : Tn b es n f) : Sd b f (R b (eF es) 30 n) := by
  obtain ⟨p, q, rfl, h1, h2, _, _⟩ := h
  exact ⟨p, q, rfl, h1, h2, Nat.le_of_lt (R_lt X.ex 30 n)⟩
theorem cross {p q t u T Rn B : Nat} (h1 : p * B = T * q) (h2 : t * B = Rn * u) (hq : 0 < q) (hu : 0 < u) (hB : 0 < B) : (p * u < t * q ↔ T < Rn) ∧ (t * q = p * u ↔ Rn = T) := by
  have e1 : p * u * B = T * (q * u) := by rw [Nat.mul_right_comm, h1, Nat.mul_assoc]
  have e2 : t * q * B = Rn * (q * u) := by rw [Nat.mul_right_comm, h2, Nat.mul_assoc, Nat.mul_comm u q]
  have hw : 0 < q * u := Nat.mul_pos hq hu
  constructor
  · constructor
    · intro h
      have := (Nat.mul_lt_mul_right hB).mpr h
      rw [e1, e2] at this
      exact Nat.lt_of_mul_lt_mul_right this
    · intro h
      have := (Nat.mul_lt_mul_right hw).mpr h
      rw [← e1, ← e2] at this
      exact Nat.lt_of_mul_lt_mul_right this
  · constructor
    · intro h
      have : t * q * B = p * u * B := by rw [h]
      rw [e1, e2] at this
      exact Nat.eq_of_mul_eq_mul_right hw this
    · intro h
      have : t * q * B = p * u * B := by rw [e1, e2, h]
      exact Nat.eq_of_mul_eq_mul_right hB this
theorem bad_shut {b n T : Nat} {es : List Nat} {g f : Fr} (X : IsEx b es) (hg : Tn b es n g) (hf : Sd b f T) : badF true g f = decide (T < R b (eF es) 30 n) := by
  obtain ⟨t, u, rfl, h2, hu, _, _⟩ := hg
  obtain ⟨p, q, rfl, h1, hq, _⟩ := hf
  have c := cross h1 h2 hq hu (Nat.pow_pos X.ex.pos)
  unfold badF
  rw [Bool.not_true, Bool.false_and, Bool.or_false]
  refine decide_eq_decide.mpr ?_
  rw [← c.1]
  show ((p : Int) * (u : Int) < (t : Int) * (q : Int)) ↔ _
  rw [← Int.natCast_mul, ← Int.natCast_mul]
  exact Int.ofNat_lt
theorem bad_open {b n T : Nat} {es : List Nat} {g f : Fr} (X : IsEx b es) (hg : Tn b es n g) (hf : Sd b f T) : badF false g f = decide (T ≤ R b (eF es) 30 n) := by
  obtain ⟨t, u, rfl, h2, hu, _, _⟩ := hg
  obtain ⟨p, q, rfl, h1, hq, _⟩ := hf
  have c := cross h1 h2 hq hu (Nat.pow_pos X.ex.pos)
  unfold badF
  rw [Bool.not_false, Bool.true_and, ← Bool.decide_or]
  refine decide_eq_decide.mpr ?_
  have e1 : ((p : Int) * (u : Int) < (t : Int) * (q : Int)) ↔ T < R b (eF es) 30 n := by
    rw [← c.1, ← Int.natCast_mul, ← Int.natCast_mul]
    exact Int.ofNat_lt
  have e2 : ((t : Int) * (q : Int) = (p : Int) * (u : Int)) ↔ R b (eF es) 30 n = T := by
    rw [← c.2, ← Int.natCast_mul, ← Int.natCast_mul]
    exact Int.ofNat_inj
  show ((p : Int) * (u : Int) < (t : Int) * (q : Int) ∨ (t : Int) * (q : Int) = (p : Int) * (u : Int)) ↔ _
  rw [e1, e2]
  omega
theorem cnt_win {α : Type} {P : Nat → Bool} {g : α → Bool} : ∀ (l : List α) (a : Nat), (∀ (i : Nat) x, l[i]? = some x → g x = P (a + i)) → l.countP g + pc P a = pc P (a + l.length)
  | [], a, _ => by
    rw [List.countP_nil, Nat.zero_add]
    rfl
  | x :: r, a, h => by
    have ih := cnt_win r (a + 1) fun i y e => by
      rw [show a + 1 + i = a + (i + 1) by omega]
      exact h (i + 1) y (by simpa using e)
    have h0 : g x = P a := h 0 x rfl
    rw [List.countP_cons, List.length_cons, show a + (r.length + 1) = a + 1 + r.length by omega, ← ih]
    show _ = _ + (pc P a + (if P a = true then 1 else 0))
    rw [h0]
    omega
/-- how many of the points have a number up to T at one side -/
def cS (sh : Bool) (pts : List (List Fr)) (j : Nat) (f : Fr) : Nat := pts.countP fun pt => match pt[j]? with | some g => !badF sh g f | none => false
theorem cS_shut {b a T j : Nat} {es : List Nat} {pts : List (List Fr)} {f : Fr} (X : IsEx b es) (hp : ∀ (i : Nat) pt, pts[i]? = some pt → ∃ g, pt[j]? = some g ∧ Tn b es (a + i) g) (hf : Sd b f T) :
    (cS true pts j f : Int) = (pc (fun n => decide (R b (eF es) 30 n ≤ T)) (a + pts.length) : Int) - pc (fun n => decide (R b (eF es) 30 n ≤ T)) a := by
  have h := cnt_win (P := fun n => decide (R b (eF es) 30 n ≤ T)) (g := fun pt : List Fr => match pt[j]? with | some g => !badF true g f | none => false) pts a fun i pt e => by
    obtain ⟨g, hg, tn⟩ := hp i pt e
    show (match pt[j]? with | some g => !badF true g f | none => false) = _
    rw [hg]
    show (!badF true g f) = _
    rw [bad_shut X tn hf]
    by_cases h : R b (eF es) 30 (a + i) ≤ T
    · rw [decide_eq_true h, decide_eq_false (by omega)]
      rfl
    · rw [decide_eq_false h, decide_eq_true (by omega)]
      rfl
  unfold cS
  omega
theorem cS_open {b a T j : Nat} {es : List Nat} {pts : List (List Fr)} {f : Fr} (X : IsEx b es) (hp : ∀ (i : Nat) pt, pts[i]? = some pt → ∃ g, pt[j]? = some g ∧ Tn b es (a + i) g) (hf : Sd b f T) :
    (cS false pts j f : Int) = (pc (fun n => decide (R b (eF es) 30 n < T)) (a + pts.length) : Int) - pc (fun n => decide (R b (eF es) 30 n < T)) a := by
  have h := cnt_win (P := fun n => decide (R b (eF es) 30 n < T)) (g := fun pt : List Fr => match pt[j]? with | some g => !badF false g f | none => false) pts a fun i pt e => by
    obtain ⟨g, hg, tn⟩ := hp i pt e
    show (match pt[j]? with | some g => !badF false g f | none => false) = _
    rw [hg]
    show (!badF false g f) = _
    rw [bad_open X tn hf]
    by_cases h : R b (eF es) 30 (a + i) < T
    · rw [decide_eq_true h, decide_eq_false (by omega)]
      rfl
    · rw [decide_eq_false h, decide_eq_true (by omega)]
      rfl
  unfold cS
  omega
theorem countP_and {α : Type} (p q : α → Bool) : ∀ l : List α, l.countP p + l.countP q ≤ l.countP (fun x => p x && q x) + l.length
  | [] => Nat.le_refl _
  | x :: r => by
    have ih := countP_and p q r
    rw [List.countP_cons, List.countP_cons, List.countP_cons, List.length_cons]
    cases p x <;> cases q x <;> simp <;> omega
theorem countP_le {α : Type} {p q : α → Bool} : ∀ l : List α, (∀ x ∈ l, p x = true → q x = true) → l.countP p ≤ l.countP q
  | [], _ => Nat.le_refl _
  | x :: r, h => by
    have ih := countP_le r fun y hy => h y (List.mem_cons_of_mem _ hy)
    have hx := h x List.mem_cons_self
    rw [List.countP_cons, List.countP_cons]
    cases hp : p x <;> cases hq : q x <;> simp_all <;> omega
theorem countP_eq {α : Type} {p q : α → Bool} (l : List α) (h : ∀ x ∈ l, p x = q x) : l.countP p = l.countP q :=
  Nat.le_antisymm (countP_le l fun x hx e => by rw [← h x hx]; exact e) (countP_le l fun x hx e => by rw [h x hx]; exact e)
/-! ### one side -/
theorem one_miss {b a T : Nat} {es : List Nat} {pts : List (List Fr)} {f : Fr} {E : Int} (X : IsEx b es) (hp : ∀ (i : Nat) pt, pts[i]? = some pt → ∃ g, pt = [g] ∧ Tn b es (a + i) g) (hf : Sd b f T)
    (h1 : ((pc (fun n => decide (R b (eF es) 30 n ≤ T)) (a + pts.length) : Int) - pc (fun n => decide (R b (eF es) 30 n ≤ T)) a) * (b ^ 30 : Nat) - (pts.length : Int) * T ≤ E * (b ^ 30 : Nat))
    (h2 : (pts.length : Int) * T - ((pc (fun n => decide (R b (eF es) 30 n < T)) (a + pts.length) : Int) - pc (fun n => decide (R b (eF es) 30 n < T)) a) * (b ^ 30 : Nat) ≤ E * (b ^ 30 : Nat)) :
    aboveF pts [f] ≤ E * (szF [f]).2 ∧ lackF pts [f] ≤ E * (szF [f]).2 := by
  have hp' : ∀ (i : Nat) pt, pts[i]? = some pt → ∃ g, pt[0]? = some g ∧ Tn b es (a + i) g := fun i pt e => by
    obtain ⟨g, rfl, tn⟩ := hp i pt e
    exact ⟨g, rfl, tn⟩
  rw [← cS_shut X hp' hf] at h1
  rw [← cS_open X hp' hf] at h2
  have ec : ∀ sh, cntF sh pts [f] = cS sh pts 0 f := fun sh => countP_eq pts fun pt hpt => by
    obtain ⟨i, hi⟩ := List.mem_iff_getElem?.mp hpt
    obtain ⟨g, rfl, _⟩ := hp i pt hi
    show (if badF sh g f = true then false else true) = !badF sh g f
    cases badF sh g f <;> rfl
  obtain ⟨p, q, rfl, h, hq, _⟩ := hf
  have hB : 0 < b ^ 30 := Nat.pow_pos X.ex.pos
  have hz : szF [((p : Int), (q : Int))] = ((p : Int), (q : Int)) := by
    show ((1 : Int) * p, (1 : Int) * q) = _
    rw [Int.one_mul, Int.one_mul]
  unfold aboveF lackF
  rw [hz, ec, ec]
  have hi : (p : Int) * ((b ^ 30 : Nat) : Int) = (T : Int) * q := by
    rw [← Int.natCast_mul, ← Int.natCast_mul, h]
  have hB' : (0 : Int) < ((b ^ 30 : Nat) : Int) := by omega
  have hq' : (0 : Int) ≤ (q : Int) := by omega
  generalize ((b ^ 30 : Nat) : Int) = B at *
  generalize (cS true pts 0 ((p : Int), (q : Int)) : Int) = c at *
  generalize (cS false pts 0 ((p : Int), (q : Int)) : Int) = o at *
  generalize (pts.length : Int) = N at *
  have m1 := Int.mul_le_mul_of_nonneg_right h1 hq'
  have m2 := Int.mul_le_mul_of_nonneg_right h2 hq'
  constructor
  · refine Int.le_of_mul_le_mul_right ?_ hB'
    show (c * (q : Int) - N * (p : Int)) * B ≤ E * (q : Int) * B
    rw [Int.sub_mul, Int.mul_assoc N, hi, Int.mul_right_comm c, Int.mul_right_comm E, ← Int.mul_assoc N]
    rw [Int.sub_mul] at m1
    exact m1
  · refine Int.le_of_mul_le_mul_right ?_ hB'
    show (N * (p : Int) - o * (q : Int)) * B ≤ E * (q : Int) * B
    rw [Int.sub_mul, Int.mul_assoc N, hi, Int.mul_right_comm o, Int.mul_right_comm E, ← Int.mul_assoc N]
    rw [Int.sub_mul] at m2
    exact m2
end Ev

set_option Elab.async false
set_option linter.all false
set_option maxRecDepth 100000
set_option maxHeartbeats 1000000
namespace Ev
open PySem PySem.Spec PyProof.Rows L2
/-! ### rows of one to three sides -/
theorem ptn_at {row : List (Nat × List Nat)} {n j : Nat} {pt : List Fr} {f : Fr} (h : PtN row n pt) (hf : pt[j]? = some f) : ∃ be, row[j]? = some be ∧ Tn be.1 be.2 n f := by
  obtain ⟨be, h1, h2⟩ := paired_at' h hf
  exact ⟨be, h1, h2⟩
theorem box_fb {row : List (Nat × List Nat)} {a s : Nat} {pts : List (List Fr)} {bx : List Fr} (hp : ∀ (i : Nat) pt, pts[i]? = some pt → PtN row (a + i) pt) (hb : BoxOk pts s bx) : ∀ f ∈ bx, Fb f := fun f hf => by
  obtain ⟨j, hj⟩ := List.mem_iff_getElem?.mp hf
  rcases hb.2 j f hj with rfl | ⟨pt, hpt, hpf⟩
  · exact fb_one
  · obtain ⟨i, hi⟩ := List.mem_iff_getElem?.mp hpt
    obtain ⟨be, _, tn⟩ := ptn_at (hp i pt hi) hpf
    exact tn.fb
theorem box_sd {row : List (Nat × List Nat)} {a s j : Nat} {pts : List (List Fr)} {bx : List Fr} {be : Nat × List Nat} {f : Fr} (X : IsEx be.1 be.2) (hp : ∀ (i : Nat) pt, pts[i]? = some pt → PtN row (a + i) pt) (hb : BoxOk pts s bx) (hr : row[j]? = some be) (hf : bx[j]? = some f) :
    ∃ T, T ≤ be.1 ^ 30 ∧ Sd be.1 f T := by
  rcases hb.2 j f hf with rfl | ⟨pt, hpt, hpf⟩
  · exact ⟨_, Nat.le_refl _, sd_one _⟩
  · obtain ⟨i, hi⟩ := List.mem_iff_getElem?.mp hpt
    obtain ⟨be', h1, tn⟩ := ptn_at (hp i pt hi) hpf
    rw [hr] at h1
    cases h1
    exact ⟨_, Nat.le_of_lt (R_lt X.ex 30 _), sd_tn X tn⟩
theorem gB_low : ∀ b, b < 17 → 2 ≤ b → ∀ N, N < 10 → 1 ≤ gB b N ∧ (3 ≤ N → 2 ≤ gB b N) ∧ (7 ≤ N → 3 ≤ gB b N) := by decide +kernel
theorem prod_two {x y : Nat × List Nat} {N : Nat} (hx : IsEx x.1 x.2) (hy : IsEx y.1 y.2) (hN : N ≤ 9) : N ≤ prodF [x, y] N + 2 := by
  have e : prodF [x, y] N = gB x.1 N * gB y.1 N := by
    show 1 * gB x.1 N * gB y.1 N = _
    rw [Nat.one_mul]
  obtain ⟨a1, a2, a3⟩ := gB_low x.1 (by have := hx.le; omega) hx.ex.two N (by omega)
  obtain ⟨b1, b2, b3⟩ := gB_low y.1 (by have := hy.le; omega) hy.ex.two N (by omega)
  rw [e]
  by_cases h3 : 3 ≤ N
  · by_cases h7 : 7 ≤ N
    · have := Nat.mul_le_mul (a3 h7) (b3 h7)
      omega
    · have := Nat.mul_le_mul (a2 h3) (b2 h3)
      omega
  · omega
theorem prod_three {x y z : Nat × List Nat} {N : Nat} (hx : IsEx x.1 x.2) (hy : IsEx y.1 y.2) (hz : IsEx z.1 z.2) (hN : N ≤ 5) : N ≤ prodF [x, y, z] N + 3 := by
  have e : prodF [x, y, z] N = gB x.1 N * gB y.1 N * gB z.1 N := by
    show 1 * gB x.1 N * gB y.1 N * gB z.1 N = _
    rw [Nat.one_mul]
  obtain ⟨a1, a2, a3⟩ := gB_low x.1 (by have := hx.le; omega) hx.ex.two N (by omega)
  obtain ⟨b1, b2, b3⟩ := gB_low y.1 (by have := hy.le; omega) hy.ex.two N (by omega)
  obtain ⟨c1, c2, c3⟩ := gB_low z.1 (by have := hz.le; omega) hz.ex.two N (by omega)
  rw [e]
  by_cases h3 : 3 ≤ N
  · have := Nat.mul_le_mul (Nat.mul_le_mul (a2 h3) (b2 h3)) (c2 h3)
    omega
  · omega
theorem one_list {α : Type} {l : List α} (h : l.length = 1) : ∃ x, l = [x] := by
  match l, h with
  | [x], _ => exact ⟨x, rfl⟩
theorem two_list {α : Type} {l : List α} (h : l.length = 2) : ∃ x y, l = [x, y] := by
  match l, h with
  | [x, y], _ => exact ⟨x, y, rfl⟩
theorem three_list {α : Type} {l : List α} (h : l.length = 3) : ∃ x y z, l = [x, y, z] := by
  match l, h with
  | [x, y, z], _ => exact ⟨x, y, z, rfl⟩
theorem ptn_one {b n : Nat} {es : List Nat} {pt : List Fr} (h : PtN [(b, es)] n pt) : ∃ g, pt = [g] ∧ Tn b es n g := by
  cases h with
  | cons h1 h2 =>
    cases h2
    exact ⟨_, rfl, h1⟩
theorem row_pass {row : List (Nat × List Nat)} {a N u d : Nat} {pts : List (List Fr)} {bx : List Fr} (hrow : ∀ be ∈ row, IsEx be.1 be.2) (hN : N ≤ [40, 9, 5].getD (row.length - 1) 0) (hl : 1 ≤ row.length) (hl3 : row.length ≤ 3)
    (hpl : pts.length = N) (hp : ∀ (i : Nat) pt, pts[i]? = some pt → PtN row (a + i) pt) (hb : BoxOk pts row.length bx) (hu : u * N = min N (prodF row N + row.length) * d) : passF pts bx u d = false := by
  have hfb := box_fb hp hb
  obtain ⟨t1, t2⟩ := trivial_miss pts hfb
  have triv : N ≤ prodF row N + row.length → passF pts bx u d = false := fun h => by
    rw [Nat.min_eq_left h] at hu
    refine pass_false t1 t2 ?_ (by omega)
    rw [hpl, ← Int.natCast_mul, ← Int.natCast_mul, hu]
  by_cases h1 : row.length = 1
  · obtain ⟨be, rfl⟩ := one_list h1
    have X : IsEx be.1 be.2 := hrow be List.mem_cons_self
    have hN : N ≤ 40 := hN
    obtain ⟨f, rfl⟩ := one_list hb.1
    obtain ⟨T, hT, sd⟩ := box_sd (j := 0) X hp hb rfl rfl
    have dg := depthF_ge (N := N) X.ex.two (by omega)
    have dl := depthF_le (b := be.1) (N := N)
    obtain ⟨m1, m2⟩ := one_side_any X.ex (L := 30) (m := depthF be.1 N) (by omega) (N := N) dg hT a
    obtain ⟨o1, o2⟩ := one_miss X (fun i pt e => ptn_one (hp i pt e)) sd (by rw [hpl]; exact m1) (by rw [hpl]; exact m2)
    have zp := (szF_pos hfb).2.2
    have hg : prodF [be] N = gB be.1 N := by
      show 1 * gB be.1 N = _
      rw [Nat.one_mul]
    by_cases hc : N ≤ prodF [be] N + 1
    · exact triv hc
    · have hu' : u * N = (gB be.1 N + 1) * d := by
        rw [hu, hg]
        rw [hg] at hc
        congr 1
        show min N (gB be.1 N + 1) = gB be.1 N + 1
        exact Nat.min_eq_right (by omega)
      have le : ((be.1 : Int) - 1) * (depthF be.1 N : Int) + 1 ≤ ((gB be.1 N + 1 : Nat) : Int) := by
        have b2 := X.ex.two
        rw [show ((be.1 : Int) - 1) = ((be.1 - 1 : Nat) : Int) by omega, ← Int.natCast_mul]
        have : (be.1 - 1) * depthF be.1 N ≤ gB be.1 N := Nat.le_max_right _ _
        omega
      have le2 := Int.mul_le_mul_of_nonneg_right le (Int.le_of_lt zp)
      refine pass_false (B := ((gB be.1 N + 1 : Nat) : Int)) (Int.le_trans o1 le2) (Int.le_trans o2 le2) ?_ (by omega)
      rw [hpl, ← Int.natCast_mul, ← Int.natCast_mul, hu']
  · by_cases h2 : row.length = 2
    · obtain ⟨x, y, rfl⟩ := two_list h2
      exact triv (prod_two (hrow x (by simp)) (hrow y (by simp)) hN)
    · obtain ⟨x, y, z, rfl⟩ := three_list (l := row) (by omega)
      exact triv (prod_three (hrow x (by simp)) (hrow y (by simp)) (hrow z (by simp)) hN)
/-! ### a net's many points -/
theorem net_pass {b a m : Nat} {es : List Nat} {pts : List (List Fr)} {bx : List Fr} (X : IsEx b es) (hm : m ≤ 30) (hpl : pts.length = b ^ m) (hp : ∀ (i : Nat) pt, pts[i]? = some pt → PtN [(b, es)] (a + i) pt) (hb : BoxOk pts 1 bx) : passF pts bx 1 ((b ^ m : Nat) : Int) = false := by
  have hfb := box_fb hp hb
  obtain ⟨f, rfl⟩ := one_list hb.1
  obtain ⟨T, hT, sd⟩ := box_sd (be := (b, es)) (j := 0) X hp hb rfl rfl
  obtain ⟨m1, m2⟩ := one_side_net X.ex (L := 30) (m := m) hm hT a
  obtain ⟨o1, o2⟩ := one_miss (E := 1) X (fun i pt e => ptn_one (hp i pt e)) sd (by rw [hpl, Int.one_mul]; exact m1) (by rw [hpl, Int.one_mul]; exact m2)
  refine pass_false (B := 1) o1 o2 ?_ (by omega)
  rw [hpl]
/-! ### eighty points by 2 and 3 -/
theorem eighty_above {c T1 T2 B1 B2 : Int} (h1 : 0 ≤ T1) (h2 : 0 ≤ T2) (g1 : T1 ≤ B1) (g2 : T2 ≤ B2) (a1 : c * B1 ≤ 80 * T1 + 8 * B1) (a2 : c * B2 ≤ 80 * T2 + 9 * B2) : c * (B1 * B2) - 80 * (T1 * T2) ≤ 58 * (B1 * B2) := by
  have b1 : 0 ≤ B1 := by omega
  have b2 : 0 ≤ B2 := by omega
  have f1 := Int.mul_le_mul_of_nonneg_right a1 b2
  have f2 := Int.mul_le_mul_of_nonneg_right a2 b1
  rw [Int.add_mul, Int.mul_assoc, Int.mul_assoc, Int.mul_assoc] at f1 f2
  rw [Int.mul_comm B2 B1] at f2
  have e3 := Int.mul_le_mul_of_nonneg_right g2 b1
  rw [Int.mul_comm B2 B1] at e3
  have x0 := Int.mul_nonneg b1 b2
  have w0 := Int.mul_nonneg h2 b1
  by_cases h : 2 * T1 ≤ B1
  · have k := Int.mul_le_mul_of_nonneg_right h (show 0 ≤ B2 - T2 by omega)
    rw [Int.mul_sub, Int.mul_sub, Int.mul_assoc, Int.mul_assoc, Int.mul_comm B1 T2] at k
    omega
  · have k := Int.mul_le_mul_of_nonneg_right (show 2 * (B1 - T1) ≤ B1 by omega) h2
    rw [Int.mul_assoc, Int.sub_mul, Int.mul_comm B1 T2] at k
    omega
theorem eighty_lack {o o1 o2 T1 T2 B1 B2 : Int} (h0 : 0 ≤ o) (h1 : 0 ≤ T1) (h2 : 0 ≤ T2) (g1 : T1 ≤ B1) (g2 : T2 ≤ B2) (ho : o1 + o2 - 80 ≤ o) (a1 : 80 * T1 - o1 * B1 ≤ 8 * B1) (a2 : 80 * T2 - o2 * B2 ≤ 9 * B2) : 80 * (T1 * T2) - o * (B1 * B2) ≤ 58 * (B1 * B2) := by
  have b1 : 0 ≤ B1 := by omega
  have b2 : 0 ≤ B2 := by omega
  have f1 := Int.mul_le_mul_of_nonneg_right a1 b2
  have f2 := Int.mul_le_mul_of_nonneg_right a2 b1
  rw [Int.sub_mul, Int.mul_assoc, Int.mul_assoc, Int.mul_assoc] at f1 f2
  rw [Int.mul_comm B2 B1] at f2
  have e3 := Int.mul_le_mul_of_nonneg_right g2 b1
  rw [Int.mul_comm B2 B1] at e3
  have x0 := Int.mul_nonneg b1 b2
  have w0 := Int.mul_nonneg h2 b1
  have ho2 := Int.mul_le_mul_of_nonneg_right ho x0
  rw [Int.sub_mul, Int.add_mul] at ho2
  have o0 := Int.mul_nonneg h0 x0
  by_cases h : 2 * T1 ≤ B1
  · have k := Int.mul_le_mul_of_nonneg_right h h2
    rw [Int.mul_assoc, Int.mul_comm B1 T2] at k
    omega
  · have k := Int.mul_le_mul_of_nonneg_right (show 2 * (B1 - T1) ≤ B1 by omega) (show 0 ≤ B2 - T2 by omega)
    rw [Int.mul_assoc, Int.sub_mul, Int.mul_sub B1, Int.mul_sub T1, Int.mul_comm B1 T2] at k
    omega
theorem ptn_two {x y : Nat × List Nat} {n : Nat} {pt : List Fr} (h : PtN [x, y] n pt) : ∃ g1 g2, pt = [g1, g2] ∧ Tn x.1 x.2 n g1 ∧ Tn y.1 y.2 n g2 := by
  cases h with
  | cons h1 h2 =>
    cases h2 with
    | cons h3 h4 =>
      cases h4
      exact ⟨_, _, rfl, h1, h3⟩
theorem eighty_pass {a u d : Nat} {es1 es2 : List Nat} {pts : List (List Fr)} {bx : List Fr} (X1 : IsEx 2 es1) (X2 : IsEx 3 es2) (hpl : pts.length = 80) (hp : ∀ (i : Nat) pt, pts[i]? = some pt → PtN [(2, es1), (3, es2)] (a + i) pt) (hb : BoxOk pts 2 bx) (hu : u * 80 = 58 * d) : passF pts bx u d = false := by
  obtain ⟨f1, f2, rfl⟩ := two_list hb.1
  obtain ⟨T1, hT1, sd1⟩ := box_sd (be := (2, es1)) (j := 0) X1 hp hb rfl rfl
  obtain ⟨T2, hT2, sd2⟩ := box_sd (be := (3, es2)) (j := 1) X2 hp hb rfl rfl
  obtain ⟨m1, n1⟩ := one_side_any X1.ex (L := 30) (m := 7) (by decide) (N := pts.length) (by rw [hpl]; decide) hT1 a
  obtain ⟨m2, n2⟩ := one_side_any X2.ex (L := 30) (m := 4) (by decide) (N := pts.length) (by rw [hpl]; decide) hT2 a
  have p1 : ∀ (i : Nat) pt, pts[i]? = some pt → ∃ g, pt[0]? = some g ∧ Tn 2 es1 (a + i) g := fun i pt e => by
    obtain ⟨g1, g2, rfl, h1, h2⟩ := ptn_two (hp i pt e)
    exact ⟨g1, rfl, h1⟩
  have p2 : ∀ (i : Nat) pt, pts[i]? = some pt → ∃ g, pt[1]? = some g ∧ Tn 3 es2 (a + i) g := fun i pt e => by
    obtain ⟨g1, g2, rfl, h1, h2⟩ := ptn_two (hp i pt e)
    exact ⟨g2, rfl, h2⟩
  rw [← cS_shut X1 p1 sd1] at m1
  rw [← cS_open X1 p1 sd1] at n1
  rw [← cS_shut X2 p2 sd2] at m2
  rw [← cS_open X2 p2 sd2] at n2
  rw [hpl] at m1 n1 m2 n2
  have ev : ∀ sh, ∀ pt ∈ pts, inF sh pt [f1, f2] = ((match pt[0]? with | some g => !badF sh g f1 | none => false) && (match pt[1]? with | some g => !badF sh g f2 | none => false)) := fun sh pt hpt => by
    obtain ⟨i, hi⟩ := List.mem_iff_getElem?.mp hpt
    obtain ⟨g1, g2, rfl, _, _⟩ := ptn_two (hp i pt hi)
    show (if badF sh g1 f1 = true then false else if badF sh g2 f2 = true then false else true) = (!badF sh g1 f1 && !badF sh g2 f2)
    cases badF sh g1 f1 <;> cases badF sh g2 f2 <;> rfl
  have c1 : cntF true pts [f1, f2] ≤ cS true pts 0 f1 := countP_le pts fun pt hpt e => by
    rw [ev true pt hpt] at e
    exact (Bool.and_eq_true_iff.mp e).1
  have c2 : cntF true pts [f1, f2] ≤ cS true pts 1 f2 := countP_le pts fun pt hpt e => by
    rw [ev true pt hpt] at e
    exact (Bool.and_eq_true_iff.mp e).2
  have c3 : cS false pts 0 f1 + cS false pts 1 f2 ≤ cntF false pts [f1, f2] + 80 := by
    have h := countP_and (fun pt : List Fr => match pt[0]? with | some g => !badF false g f1 | none => false) (fun pt : List Fr => match pt[1]? with | some g => !badF false g f2 | none => false) pts
    rw [hpl] at h
    have e : cntF false pts [f1, f2] = pts.countP fun pt => (match pt[0]? with | some g => !badF false g f1 | none => false) && (match pt[1]? with | some g => !badF false g f2 | none => false) := countP_eq pts fun pt hpt => ev false pt hpt
    rw [e]
    exact h
  obtain ⟨x1, y1, rfl, h1, hq1, _⟩ := sd1
  obtain ⟨x2, y2, rfl, h2, hq2, _⟩ := sd2
  have hz : szF [((x1 : Int), (y1 : Int)), ((x2 : Int), (y2 : Int))] = ((x1 : Int) * x2, (y1 : Int) * y2) := by
    show ((1 : Int) * x1 * x2, (1 : Int) * y1 * y2) = _
    rw [Int.one_mul, Int.one_mul]
  have i1 : (x1 : Int) * ((2 ^ 30 : Nat) : Int) = (T1 : Int) * y1 := by rw [← Int.natCast_mul, ← Int.natCast_mul, h1]
  have i2 : (x2 : Int) * ((3 ^ 30 : Nat) : Int) = (T2 : Int) * y2 := by rw [← Int.natCast_mul, ← Int.natCast_mul, h2]
  have B1 : (0 : Int) < ((2 ^ 30 : Nat) : Int) := by decide +kernel
  have B2 : (0 : Int) < ((3 ^ 30 : Nat) : Int) := by decide +kernel
  have hT1' : (T1 : Int) ≤ ((2 ^ 30 : Nat) : Int) := Int.ofNat_le.mpr hT1
  have hT2' : (T2 : Int) ≤ ((3 ^ 30 : Nat) : Int) := Int.ofNat_le.mpr hT2
  have t1 : (0 : Int) ≤ (T1 : Int) := by omega
  have t2 : (0 : Int) ≤ (T2 : Int) := by omega
  have q1 : (0 : Int) < (y1 : Int) := by omega
  have q2 : (0 : Int) < (y2 : Int) := by omega
  have e8 : (((2 : Nat) : Int) - 1) * ((7 : Nat) : Int) + 1 = 8 := by decide
  have e9 : (((3 : Nat) : Int) - 1) * ((4 : Nat) : Int) + 1 = 9 := by decide
  rw [e8] at m1 n1
  rw [e9] at m2 n2
  generalize ((2 ^ 30 : Nat) : Int) = b1 at *
  generalize ((3 ^ 30 : Nat) : Int) = b2 at *
  have k1 := Int.mul_le_mul_of_nonneg_right (Int.ofNat_le.mpr c1) (Int.le_of_lt B1)
  have k2 := Int.mul_le_mul_of_nonneg_right (Int.ofNat_le.mpr c2) (Int.le_of_lt B2)
  have hA := eighty_above (c := (cntF true pts [((x1 : Int), (y1 : Int)), ((x2 : Int), (y2 : Int))] : Int)) t1 t2 hT1' hT2' (by omega) (by omega)
  have hL := eighty_lack (o := (cntF false pts [((x1 : Int), (y1 : Int)), ((x2 : Int), (y2 : Int))] : Int)) (o1 := (cS false pts 0 ((x1 : Int), (y1 : Int)) : Int)) (o2 := (cS false pts 1 ((x2 : Int), (y2 : Int)) : Int)) (by omega) t1 t2 hT1' hT2' (by omega) n1 n2
  have hB := Int.mul_pos B1 B2
  have hq := Int.mul_pos q1 q2
  have cr : (x1 : Int) * x2 * (b1 * b2) = (T1 : Int) * T2 * ((y1 : Int) * y2) := by
    have e1 : (x1 : Int) * x2 * (b1 * b2) = ((x1 : Int) * b1) * ((x2 : Int) * b2) := by
      simp only [Int.mul_assoc, Int.mul_left_comm, Int.mul_comm]
    rw [e1, i1, i2]
    simp only [Int.mul_assoc, Int.mul_left_comm, Int.mul_comm]
  refine pass_false (B := 58) ?_ ?_ ?_ (by omega)
  · unfold aboveF
    rw [hz, hpl]
    refine Int.le_of_mul_le_mul_right ?_ hB
    show ((cntF true pts _ : Int) * ((y1 : Int) * y2) - 80 * ((x1 : Int) * x2)) * (b1 * b2) ≤ 58 * ((y1 : Int) * y2) * (b1 * b2)
    have := Int.mul_le_mul_of_nonneg_right hA (Int.le_of_lt hq)
    rw [Int.sub_mul, Int.mul_right_comm, Int.mul_assoc 80, ← cr, Int.mul_right_comm 58] at this
    rw [Int.sub_mul, Int.mul_assoc 80]
    exact this
  · unfold lackF
    rw [hz, hpl]
    refine Int.le_of_mul_le_mul_right ?_ hB
    show (80 * ((x1 : Int) * x2) - (cntF false pts _ : Int) * ((y1 : Int) * y2)) * (b1 * b2) ≤ 58 * ((y1 : Int) * y2) * (b1 * b2)
    have := Int.mul_le_mul_of_nonneg_right hL (Int.le_of_lt hq)
    rw [Int.sub_mul, Int.mul_assoc 80, ← cr, Int.mul_right_comm _ (b1 * b2), Int.mul_right_comm 58] at this
    rw [Int.sub_mul, Int.mul_assoc 80]
    exact this
  · rw [hpl]
    have : ((u * 80 : Nat) : Int) = ((58 * d : Nat) : Int) := by rw [hu]
    rw [Int.natCast_mul, Int.natCast_mul] at this
    exact this
theorem isEx_two : IsEx 2 [0, 1] := isEx_of (by decide) (by decide) (List.Perm.refl _) rfl
theorem bound_eighty : min 80 (prodF [(2, [0, 1]), (3, es)] 80 + 2) = 58 := by
  show min 80 (1 * gB 2 80 * gB 3 80 + 2) = 58
  decide +kernel
end Ev

set_option Elab.async false
set_option linter.all false
set_option maxRecDepth 100000
set_option maxHeartbeats 1000000
namespace Ev
open PySem PySem.Spec PyProof.Rows L2
theorem pick3 {x : Int} {d C : Nat} (hd : d < 3) (c : Nat) (hx : x = (c : Int)) (h1 : 1 ≤ c) (h2 : c ≤ C) (hC : 100 ≤ C) : ∃ M : Nat, ([V.int 1, V.int 100, V.int x] : List V)[d]? = some (.int (M : Int)) ∧ 1 ≤ M ∧ M ≤ C := by
  match d, hd with
  | 0, _ => exact ⟨1, rfl, by decide, by omega⟩
  | 1, _ => exact ⟨100, rfl, by decide, hC⟩
  | 2, _ => exact ⟨c, by rw [hx]; rfl, h1, h2⟩
theorem inV_false (n : Nat) : inV (.bl true) (List.replicate n (V.bl false)) = false := by
  unfold inV
  rw [List.any_eq_false]
  intro x hx
  rw [(List.mem_replicate.mp hx).2]
  decide
theorem flat_false (n : Nat) : (List.replicate n (V.bl false)).all flatV = true := by
  rw [List.all_eq_true]
  intro x hx
  rw [(List.mem_replicate.mp hx).2]
  rfl
theorem rep_snoc (n : Nat) : List.replicate n (V.bl false) ++ [V.bl false] = List.replicate (n + 1) (V.bl false) := List.replicate_succ'.symm
theorem Feed.neLen {H : Hp} {L S c : Addr} {xs : List V} (h : Feed H L S) (hc : H c = some (.lst xs)) (hl : xs.length ≠ 4) : c ≠ L := fun e => by
  obtain ⟨ns, k1, k2, k3, h1, h2, h3⟩ := h
  rw [e, h1] at hc
  have h4 := HO.lst.inj (Option.some.inj hc)
  rw [← h4] at hl
  exact hl rfl
/-- the numbers of a side as a list -/
def SideAt (pts : List (List Fr)) (H : Hp) (D : Addr) (v : V) (j : Nat) : Prop := ∃ c xs fs, v = .ref c ∧ c ≠ D ∧ H c = some (.lst xs) ∧ Paired (FrAt H) xs fs ∧ xs.length = 81 ∧ ∀ f ∈ fs, f = (1, 1) ∨ ∃ pt ∈ pts, pt[j]? = some f
theorem SideAt.same {pts : List (List Fr)} {H H' : Hp} {D : Addr} {v : V} {j : Nat} (h : SideAt pts H D v j) (s : Same H H') : SideAt pts H' D v j :=
  let ⟨c, xs, fs, e, n, h1, h2, h3, h4⟩ := h; ⟨c, xs, fs, e, n, s _ _ h1, L2.Paired.mapP h2 fun _ _ z => z.tk s.tk, h3, h4⟩
theorem SideAt.upd {pts : List (List Fr)} {H : Hp} {D : Addr} {o : HO} {xs : List V} {v : V} {j : Nat} (h : SideAt pts H D v j) (hD : H D = some (.lst xs)) : SideAt pts (upd H D o) D v j :=
  let ⟨c, xs, fs, e, n, h1, h2, h3, h4⟩ := h; ⟨c, xs, fs, e, n, by rw [upd_ne n]; exact h1, L2.Paired.mapP h2 fun _ _ z => z.tk (tk_lst hD), h3, h4⟩
theorem boxOk_pair {pts : List (List Fr)} {f g : Fr} (h1 : f = (1, 1) ∨ ∃ pt ∈ pts, pt[0]? = some f) (h2 : g = (1, 1) ∨ ∃ pt ∈ pts, pt[1]? = some g) : BoxOk pts 2 [f, g] := by
  refine ⟨rfl, fun j x hx => ?_⟩
  match j with
  | 0 =>
    cases hx
    exact h1
  | 1 =>
    cases hx
    exact h2
  | j + 2 =>
    simp at hx
/-! ### eighty -/
def lcScope : Expr → Scope
  | .ListComp _ _ sc _ => sc
  | _ => defScope sEighty
def asgVal : Stmt → Expr
  | .Assign _ v _ => v
  | _ => .Constant .none 0 ⟨0, 0, 0, 0⟩
abbrev scSides : Scope := relS (lcScope (asgVal ((defBody sEighty).getD 4 (.Pass ⟨0, 0, 0, 0⟩)))) (defScope sEighty)
section
variable {P : Program} {w : World} {K : PySem.W.Frag} {mg : Str → Option Value} {base : Heap}
def spEighty : Sp := fun vs H Q _ => ∃ (L S : Addr), vs = [.ref L] ∧ Feed H L S ∧ ∀ H', Q (.bl true) H'
theorem ok_eighty {f fS fF fR fD fG fT fP fB fW fE fI fA fL : Addr} {fd fdS fdF fdR fdD fdG fdT fdP fdB fdW fdE fdI fdA fdL : FuncData} {k : Nat} (F : Fun K "_law_eighty_right" "_law_eighty_right" sEighty f fd) (T : Txt mg)
    (FS : Fun K "shared" "shared" sShared fS fdS) (bS : Binds K fdS ["one", "other"] []) (gS : mg "shared" = some (.ref fS))
    (FF : Fun K "fraction" "fraction" sFraction fF fdF) (bF : Binds K fdF ["top", "bottom"] []) (gF : mg "fraction" = some (.ref fF))
    (FR : Fun K "raised" "raised" sRaised fR fdR) (bR : Binds K fdR ["base", "k"] []) (gR : mg "raised" = some (.ref fR))
    (FD : Fun K "depth_for" "depth_for" sDepth fD fdD) (bD : Binds K fdD ["base", "many"] []) (gD : mg "depth_for" = some (.ref fD))
    (FG : Fun K "figures_of" "figures_of" sFigures fG fdG) (bG : Binds K fdG ["base", "n"] []) (gG : mg "figures_of" = some (.ref fG))
    (FT : Fun K "turned" "turned" sTurned fT fdT) (bT : Binds K fdT ["base", "exchange", "n"] []) (gT : mg "turned" = some (.ref fT))
    (FP : Fun K "points_of" "points_of" sPoints fP fdP) (bP : Binds K fdP ["row", "begin", "many"] []) (gP : mg "points_of" = some (.ref fP))
    (FB : Fun K "row_bound" "row_bound" sBound fB fdB) (bB : Binds K fdB ["row", "many"] []) (gB' : mg "row_bound" = some (.ref fB))
    (FW : Fun K "_law_draw" "_law_draw" sDraw fW fdW) (bW : Binds K fdW ["_law_feed_here", "_law_many"] []) (gW : mg "_law_draw" = some (.ref fW))
    (FE : Fun K "_law_exchange" "_law_exchange" sExch fE fdE) (bE : Binds K fdE ["_law_feed_here", "_law_base"] []) (gE : mg "_law_exchange" = some (.ref fE))
    (FI : Fun K "_law_is_in" "_law_is_in" sIsIn fI fdI) (bI : Binds K fdI ["_law_point", "_law_box", "_law_shut"] []) (gI : mg "_law_is_in" = some (.ref fI))
    (FA : Fun K "_law_passes" "_law_passes" sPasses fA fdA) (bA : Binds K fdA ["_law_points", "_law_box", "_law_bound"] []) (gA : mg "_law_passes" = some (.ref fA))
    (FL : Fun K "_law_least" "_law_least" sLeast fL fdL) (bL : Binds K fdL ["_law_numbers"] []) (gL : mg "_law_least" = some (.ref fL)) :
    FnOk P w K mg base CX0 (k + 5) f fd ["_law_feed_here"] spEighty := by
  have GP : FnOk P w K mg base CX0 (k + 4) fP fdP ["row", "begin", "many"] spPoints := ok_points FP T FS bS gS FF bF gF FG bG gG FT bT gT
  have GB : FnOk P w K mg base CX0 (k + 4) fB fdB ["row", "many"] spBound := ok_bound FB T FS bS gS FF bF gF FR bR gR FD bD gD
  have GW : FnOk P w K mg base CX0 (k + 4) fW fdW ["_law_feed_here", "_law_many"] spDraw := ok_draw FW T
  have GE : FnOk P w K mg base CX0 (k + 4) fE fdE ["_law_feed_here", "_law_base"] spExch := ok_exch FE T FW bW gW
  have GA : FnOk P w K mg base CX0 (k + 4) fA fdA ["_law_points", "_law_box", "_law_bound"] spPasses := ok_passes FA T FI bI gI
  have GL : FnOk P w K mg base CX0 (k + 4) fL fdL ["_law_numbers"] spLeast := ok_least FL
  refine F.ok scEighty (fun vs H Q E h => ?_) (fun cdv A outer s H vs Q E hr h => ?_)
  · obtain ⟨L, S, rfl, _⟩ := h
    rfl
  · obtain ⟨L, S, rfl, hL, q⟩ := h
    refine ⟨_, pss_cons (ps_set (i := 1) scEighty.nd rfl (.inl rfl) (pe_tup (pa_cons (pe_tup (pa_cons pe_int (pa_cons (pe_tup (pa_cons pe_int (pa_cons pe_int pa_nil))) pa_nil)))
          (pa_cons (pe_tup (pa_cons pe_int (pa_cons (pe_call GE hr (by rfl) gE FE.kp bE .nil pass0 (pa_cons (pv 0) (pa_cons pe_int pa_nil))) pa_nil))) pa_nil))))
      (pss_cons (ps_set (i := 2) scEighty.nd rfl (.inl rfl) (pe_call GW hr (by rfl) gW FW.kp bW .nil pass0 (pa_cons (pv 0) (pa_cons (pe_ix ix_list (pe_lst (pa_cons pe_int (pa_cons pe_int (pa_cons (pe_op op_sub (pe_op op_pow pe_int pe_int) pe_int) pa_nil))))
          (pe_call GW hr (by rfl) gW FW.kp bW .nil pass0 (pa_cons (pv 0) (pa_cons pe_int pa_nil))) (fun _ _ => rfl)) pa_nil))))
      (pss_cons (ps_set (i := 3) scEighty.nd rfl (.inr rfl) (pe_op op_catA (pe_call GP hr (by rfl) gP FP.kp bP .nil pass0 (pa_cons (pv 1) (pa_cons (pv 2) (pa_cons pe_int pa_nil))))
          (pe_call GP hr (by rfl) gP FP.kp bP .nil pass0 (pa_cons (pv 1) (pa_cons (pe_op op_add (pv 2) pe_int) (pa_cons pe_int pa_nil))))))
      (pss_cons (ps_set (i := 4) scEighty.nd rfl (.inr rfl) (pe_call GB hr (by rfl) gB' FB.kp bB .nil pass0 (pa_cons (pv 1) (pa_cons pe_int pa_nil))))
      (pss_cons (ps_setLc (i := 5) (own := [("_law_side", 8)]) (g := gName 8) (tt := tYes) (te := tOp rCat (tLc (iTup K (tVar 3)) (gName 9) tYes (tOp (rIxT K) (tVar 9) (tVar 8)) [9]) (tLst (tCons (tTup (tCons (tC (.int 1)) (tCons (tC (.int 1)) tNil))) tNil)))
          rfl scEighty.nd rfl rfl (sw_true rfl rfl rfl (by decide +kernel)) (pi_range1 (by rfl) T.range (pa_cons pe_int pa_nil))
          (blkOk_by (own := [("_law_side", 8)]) (N := nEighty) (sc := defScope sEighty) (by decide +kernel)) (fun _ _ _ _ _ => pg_name (i := 8) scEighty.nd rfl (.inr rfl)) (fun _ _ _ _ _ => pts_nil)
          (fun _ _ _ _ _ => pe_op op_cat (pe_lc (own := [("_law_point", 9)]) (g := gName 9) (tt := tYes) (te := tOp (rIxT K) (tVar 9) (tVar 8)) rfl scEighty.nd (pi_tup (pv 3)) (blkOk_by (own := [("_law_point", 9)]) (N := nEighty) (sc := scSides) (by decide +kernel))
              (fun _ _ _ _ _ => pg_name (i := 9) scEighty.nd rfl (.inl rfl)) (fun _ _ _ _ _ => pts_nil) (fun _ _ _ _ _ => pe_ix ix_tup (pv 9) (pv 8) (fun _ _ => rfl)))
            (pe_lst (pa_cons (pe_tup (pa_cons pe_int (pa_cons pe_int pa_nil))) pa_nil))))
      (pss_cons (ps_set (i := 6) scEighty.nd rfl (.inl rfl) (pe_lst (pa_cons (pe_tup (pa_cons (pe_tup (pa_cons pe_int (pa_cons pe_int pa_nil))) (pa_cons (pe_call GL hr (by rfl) gL FL.kp bL .nil pass0 (pa_cons (pe_ix ix_list (pv 5) pe_int (fun _ _ => rfl)) pa_nil)) pa_nil)))
          (pa_cons (pe_tup (pa_cons (pe_call GL hr (by rfl) gL FL.kp bL .nil pass0 (pa_cons (pe_ix ix_list (pv 5) pe_int (fun _ _ => rfl)) pa_nil)) (pa_cons (pe_tup (pa_cons pe_int (pa_cons pe_int pa_nil))) pa_nil))) pa_nil))))
      (pss_cons (ps_for PassesOwn.never rfl (pi_range1 (by rfl) T.range (pa_cons pe_int pa_nil)) (pg_name (i := 7) scEighty.nd rfl (.inl rfl))
          (pss_one (ps_expr (pe_bm PySem.F.plainAttrs_list PySem.F.slot_list_append PySem.F.type_list_append mt_append (pv 6) (pa_cons (pe_tup
            (pa_cons (pe_ix ix_list (pe_ix ix_list (pv 5) pe_int (fun _ _ => rfl)) (pe_call GW hr (by rfl) gW FW.kp bW .nil pass0 (pa_cons (pv 0) (pa_cons pe_int pa_nil))) (fun _ _ => rfl))
            (pa_cons (pe_ix ix_list (pe_ix ix_list (pv 5) pe_int (fun _ _ => rfl)) (pe_call GW hr (by rfl) gW FW.kp bW .nil pass0 (pa_cons (pv 0) (pa_cons pe_int pa_nil))) (fun _ _ => rfl)) pa_nil))) pa_nil)))))
      (pss_one (ps_ret (pe_cmpR op_notIn_seq pe_bl (pe_lc (own := [("_law_box", 10)]) (g := gName 10) (tt := tYes) rfl scEighty.nd (pi_list (pv 6)) (blkOk_by (own := [("_law_box", 10)]) (N := nEighty) (sc := defScope sEighty) (by decide +kernel))
          (fun _ _ _ _ _ => pg_name (i := 10) scEighty.nd rfl (.inl rfl)) (fun _ _ _ _ _ => pts_nil)
          (fun _ _ _ _ _ => pe_call GA hr (by rfl) gA FA.kp bA .nil pass0 (pa_cons (pv 3) (pa_cons (pv 10) (pa_cons (pv 4) pa_nil))))) (by rfl)))))))))), ?_⟩
    -- the row
    refine ⟨by show 2 ≤ sizeLine; decide, fun t1 ht1 => ?_⟩
    have s1 : Same H (upd H t1 (.tup [.int 0, .int 1])) := same_new (Same.refl H) ht1
    refine ⟨by show 2 ≤ sizeLine; decide, fun t2 ht2 => ?_⟩
    have s2 : Same H (upd (upd H t1 (.tup [.int 0, .int 1])) t2 (.tup [.int 2, .ref t1])) := same_new s1 (s1.free ht2)
    have n12 : t1 ≠ t2 := fun e => by
      rw [← e, upd_same] at ht2
      cases ht2
    have g1 : (upd (upd H t1 (.tup [.int 0, .int 1])) t2 (.tup [.int 2, .ref t1])) t1 = some (.tup (exV [0, 1])) := by
      rw [upd_ne n12, upd_same]
      rfl
    have g2 : (upd (upd H t1 (.tup [.int 0, .int 1])) t2 (.tup [.int 2, .ref t1])) t2 = some (.tup [.int 2, .ref t1]) := upd_same
    have hL2 := hL.same s2
    generalize (upd (upd H t1 (.tup [.int 0, .int 1])) t2 (.tup [.int 2, .ref t1])) = H2 at *
    refine ⟨.ref L, rfl, L, S, 3, rfl, hL2, by decide, by decide, fun H3 e3 es sb3 hF3 he3 X3 => ?_⟩
    have tk3 : Tk H2 H3 := sb3.tkF hL2
    refine ⟨by show 2 ≤ sizeLine; decide, fun t3 ht3 => ?_⟩
    refine ⟨by show 2 ≤ sizeLine; decide, fun t4 ht4 => ?_⟩
    have n34 : t3 ≠ t4 := fun e => by
      rw [← e, upd_same] at ht4
      cases ht4
    have s4 : Same H3 (upd (upd H3 t3 (.tup [.int 3, .ref e3])) t4 (.tup [.ref t2, .ref t3])) := same_new (same_new (Same.refl H3) ht3) ((same_new (Same.refl H3) ht3).free ht4)
    have hrow : RowAt (upd (upd H3 t3 (.tup [.int 3, .ref e3])) t4 (.tup [.ref t2, .ref t3])) t4 [(2, [0, 1]), (3, es)] := by
      refine ⟨_, upd_same, .cons ⟨t2, t1, rfl, s4 _ _ (tk3 _ _ g2), s4 _ _ (tk3 _ _ g1), isEx_two⟩ (.cons ⟨t3, e3, rfl, ?_, s4 _ _ he3, X3⟩ .nil)⟩
      rw [upd_ne n34, upd_same]
      rfl
    have hF4 := hF3.same s4
    generalize (upd (upd H3 t3 (.tup [.int 3, .ref e3])) t4 (.tup [.ref t2, .ref t3])) = H4 at *
    clear s1 s2 g1 g2 hL2 sb3 he3 tk3 s4 ht1 ht2 ht3 ht4 n12 n34 hF3
    -- begin
    refine ⟨.ref L, rfl, 10, 9, rfl, rfl, ⟨by decide, by decide, by decide⟩, _, 80, rfl, rfl, by show 3 ≤ sizeLine; decide, fun l5 hl5 => ?_⟩
    have s5 : Same H4 (upd H4 l5 (.lst [.int 1, .int 100, .int (10 ^ (9 : Int).toNat - 80)])) := same_new (Same.refl H4) hl5
    have hF5 := hF4.same s5
    have nl5 : l5 ≠ L := hF4.neL hl5
    refine ⟨.ref L, rfl, L, S, 3, rfl, hF5, by decide, by decide, fun H6 d6 sb6 hF6 hd6 => ?_⟩
    obtain ⟨M, hM, hM1, hM2⟩ := pick3 (x := 10 ^ (9 : Int).toNat - 80) (C := 999999920) hd6 999999920 (by decide +kernel) (by decide) (by decide) (by decide)
    refine ⟨l5, _, d6, .int M, rfl, rfl, SqL.of (sb6 _ _ nl5 upd_same), atI_nat hM, ?_⟩
    refine ⟨L, S, M, rfl, hF6, hM1, Nat.lt_of_le_of_lt hM2 (by decide), fun H7 g sb7 hF7 hg => ?_⟩
    have hrow7 : RowAt H7 t4 [(2, [0, 1]), (3, es)] := hrow.tk (s5.tk.trans ((sb6.tkF hF5).trans (sb7.tkF hF6)))
    clear s5 hF5 nl5 hM sb6 hF6 sb7 hl5 hF4 hrow
    -- points
    refine ⟨.ref t4, rfl, .int g, rfl, t4, _, g, 40, rfl, hrow7, by show 2 ≤ 3; decide, by decide, by omega, fun H8 p8 xs8 pts8 s8 hp8 hpp8 hl8 hn8 => ?_⟩
    refine ⟨.ref t4, rfl, .int g, rfl, _, _, rfl, rfl, t4, _, g + 40, 40, rfl, hrow7.tk s8.tk, by show 2 ≤ 3; decide, by decide, by omega, fun H9 p9 xs9 pts9 s9 hp9 hpp9 hl9 hn9 => ?_⟩
    have lx8 := paired_len hpp8
    have lx9 := paired_len hpp9
    have hp8' := s9 _ _ hp8
    refine ⟨p8, p9, xs8, xs9, rfl, rfl, SqT.of hp8', SqT.of hp9, Nat.le_of_lt (small_line (by omega)), fun z => ?_, fun _ z => ?_, fun _ _ pc hpc => ?_⟩
    · rw [z] at lx8
      simp at lx8
      omega
    · rw [z] at lx9
      simp at lx9
      omega
    have s10 : Same H9 (upd H9 pc (.tup (xs8 ++ xs9))) := same_new (Same.refl H9) hpc
    have hpts : Paired (PtAt (upd H9 pc (.tup (xs8 ++ xs9)))) (xs8 ++ xs9) (pts8 ++ pts9) := paired_append (L2.Paired.mapP hpp8 fun _ _ z => z.tk (s9.tk.trans s10.tk)) (L2.Paired.mapP hpp9 fun _ _ z => z.tk s10.tk)
    have hptl : (pts8 ++ pts9).length = 80 := by rw [List.length_append, hl8, hl9]
    have hptn : ∀ (i : Nat) pt, (pts8 ++ pts9)[i]? = some pt → PtN [(2, [0, 1]), (3, es)] (g + i) pt := fun i pt e => by
      by_cases hi : i < pts8.length
      · rw [List.getElem?_append_left hi] at e
        exact hn8 i pt e
      · rw [List.getElem?_append_right (by omega)] at e
        have := hn9 _ pt e
        rw [hl8, show g + 40 + (i - 40) = g + i by omega] at this
        exact this
    have hpa : (upd H9 pc (.tup (xs8 ++ xs9))) pc = some (.tup (xs8 ++ xs9)) := upd_same
    have hF10 : Feed (upd H9 pc (.tup (xs8 ++ xs9))) L S := hF7.same (s8.trans (s9.trans s10))
    have hrow10 : RowAt (upd H9 pc (.tup (xs8 ++ xs9))) t4 [(2, [0, 1]), (3, es)] := hrow7.tk (s8.trans (s9.trans s10)).tk
    generalize (upd H9 pc (.tup (xs8 ++ xs9))) = H10 at *
    generalize pts8 ++ pts9 = pts at *
    generalize xs8 ++ xs9 = xs at *
    clear s8 s9 s10 hp8 hp8' hp9 hpp8 hpp9 hn8 hn9 hl8 hl9 lx8 lx9 hpc hrow7 hF7
    -- bound
    refine ⟨.ref t4, rfl, t4, _, 80, rfl, hrow10, by show 2 ≤ 3; decide, by decide, by decide, fun H11 v11 u11 d11 s11 hv11 hu11 hd11 hd80 hu80 => ?_⟩
    have hbd : u11 * 80 = 58 * d11 := by
      rw [hu11]
      show min 80 (prodF [(2, [0, 1]), (3, es)] 80 + 2) * d11 = _
      rw [bound_eighty]
    have hpa11 := s11 _ _ hpa
    have hpts11 : Paired (PtAt H11) xs pts := L2.Paired.mapP hpts fun _ _ z => z.tk s11.tk
    have hF11 := hF10.same s11
    have lx := paired_len hpts11
    have hlen2 : ∀ pt ∈ pts, pt.length = 2 ∧ ∀ f ∈ pt, Fb f := fun pt hpt => by
      obtain ⟨i, hi⟩ := List.mem_iff_getElem?.mp hpt
      obtain ⟨a1, a2, rfl, h1, h2⟩ := ptn_two (hptn i pt hi)
      refine ⟨rfl, fun f hf => ?_⟩
      rcases List.mem_cons.mp hf with rfl | hf
      · exact h1.fb
      · rw [List.mem_singleton.mp hf]
        exact h2.fb
    clear hpa hpts hF10 hrow10 s11 hu11
    -- sides
    refine ⟨2, rfl, by decide, by decide, fun D hD => ?_⟩
    have nDL : D ≠ L := hF11.neL hD
    have nDS : D ≠ S := hF11.neS hD
    refine lc_range (lo := 0) (n := 2) (fun j H12 => Same H11 H12 ∧ ∃ acc, H12 D = some (.lst acc) ∧ acc.length = j ∧ ∀ (m : Nat) v, acc[m]? = some v → SideAt pts H12 D v m)
      ⟨same_new (Same.refl H11) hD, [], upd_same, rfl, fun m v e => by simp at e⟩ ?_ ?_
    · rintro j H12 hj ⟨s12, acc, hacc, hal, hside⟩
      refine ⟨rfl, ?_⟩
      -- [point[side] for point in points]
      refine ⟨.ref pc, rfl, pc, rfl, ⟨_, SqT.of (s12 _ _ hpa11)⟩, fun D2 hD2 => ?_⟩
      refine lc_tup (K := K) (a := pc) (xs := xs) (fun m H13 => Same H12 H13 ∧ ∃ acc2 fs, H13 D2 = some (.lst acc2) ∧ Paired (FrAt H13) acc2 fs ∧ fs.length = m ∧ ∀ f ∈ fs, ∃ pt ∈ pts, pt[j]? = some f)
        ⟨same_new (Same.refl H12) hD2, [], [], upd_same, .nil, rfl, (fun f hf => nomatch hf)⟩ ?_ ?_ ?_
      · rintro m H13 hm ⟨s13, _⟩
        exact SqT.of (s13 _ _ (s12 _ _ hpa11))
      · rintro m x H13 hx ⟨s13, acc2, fs, hacc2, hfs, hfl, hff⟩
        obtain ⟨pt, hpt, c, zs, rfl, hc, hz⟩ := paired_at hpts11 hx
        have hptm := List.mem_of_getElem? hpt
        have hlz : zs.length = 2 := by rw [paired_len hz, (hlen2 pt hptm).1]
        have hzj : zs[j]? = some zs[j] := List.getElem?_eq_getElem (by omega)
        obtain ⟨fr, hfr, d, ed, hd⟩ := paired_at hz hzj
        have s13' : Same H11 H13 := s12.trans s13
        have hm80 : m < xs.length := (List.getElem?_eq_some_iff.mp hx).1
        have l2 := paired_len hfs
        refine ⟨rfl, .ref c, rfl, .int (0 + j), rfl, c, zs, 0 + j, .ref d, rfl, rfl, SqT.of (s13' _ _ hc), at_of (j := j) (by omega) (by rw [hzj, ed]), acc2, hacc2, small_line (by omega), same_new s13 hD2, acc2 ++ [.ref d], fs ++ [fr], upd_same, ?_, by rw [List.length_append, hfl]; rfl, fun f hf => ?_⟩
        · exact paired_snoc (L2.Paired.mapP hfs fun _ _ z => z.tk (tk_lst hacc2)) ⟨d, rfl, (tk_lst hacc2) _ _ (s13' _ _ hd)⟩
        · rcases List.mem_append.mp hf with h | h
          · exact hff f h
          · rw [List.mem_singleton.mp h]
            exact ⟨pt, hptm, hfr⟩
      rintro H13 ⟨s13, acc2, fs, hacc2, hfs, hfl, hff⟩
      have l2 := paired_len hfs
      -- [(1, 1)]
      refine ⟨by show 2 ≤ sizeLine; decide, fun t ht => ?_⟩
      have s14 : Same H13 (upd H13 t (.tup [.int 1, .int 1])) := same_new (Same.refl H13) ht
      refine ⟨by show 1 ≤ sizeLine; decide, fun l hl => ?_⟩
      have s15 : Same H13 (upd (upd H13 t (.tup [.int 1, .int 1])) l (.lst [.ref t])) := same_new s14 (s14.free hl)
      have ntl : t ≠ l := fun e => by
        rw [← e, upd_same] at hl
        cases hl
      have ht15 : (upd (upd H13 t (.tup [.int 1, .int 1])) l (.lst [.ref t])) t = some (.tup [.int 1, .int 1]) := by rw [upd_ne ntl, upd_same]
      have hl15 : (upd (upd H13 t (.tup [.int 1, .int 1])) l (.lst [.ref t])) l = some (.lst [.ref t]) := upd_same
      have hacc15 := s15 _ _ hacc2
      generalize (upd (upd H13 t (.tup [.int 1, .int 1])) l (.lst [.ref t])) = H15 at *
      have hl1 : [V.ref t].length = 1 := rfl
      refine ⟨D2, l, acc2, [.ref t], rfl, rfl, hacc15, hl15, Nat.le_of_lt (small_line (by omega)), fun c hc => ?_⟩
      have s16 : Same H12 (upd H15 c (.lst (acc2 ++ [.ref t]))) := (s13.trans s15).trans (same_new (Same.refl H15) hc)
      have hacc16 := s16 _ _ hacc
      have ncD : c ≠ D := fun e => by
        rw [e, s15 _ _ (s13 _ _ hacc)] at hc
        cases hc
      refine ⟨acc, hacc16, small_line (by omega), same_new (s12.trans s16) hD, acc ++ [.ref c], upd_same, by rw [List.length_append, hal]; rfl, fun m v e => ?_⟩
      by_cases hm : m < acc.length
      · rw [List.getElem?_append_left hm] at e
        exact ((hside m v e).same s16).upd hacc16
      · have em : m = j := by
          have := (List.getElem?_eq_some_iff.mp e).1
          rw [List.length_append] at this
          simp at this
          omega
        rw [List.getElem?_append_right (by omega), hal, em, Nat.sub_self] at e
        have e' : V.ref c = v := Option.some.inj e
        rw [em, ← e']
        have tk : Tk H15 (upd (upd H15 c (.lst (acc2 ++ [.ref t]))) D (.lst (acc ++ [.ref c]))) := (tk_new hc).trans (tk_lst hacc16)
        refine ⟨c, acc2 ++ [.ref t], fs ++ [(1, 1)], rfl, ncD, by rw [upd_ne ncD, upd_same], paired_snoc (L2.Paired.mapP hfs fun _ _ z => z.tk (s15.tk.trans tk)) ⟨t, rfl, tk _ _ ht15⟩, by rw [List.length_append]; omega, fun f hf => ?_⟩
        rcases List.mem_append.mp hf with h | h
        · exact .inr (hff f h)
        · exact .inl (List.mem_singleton.mp h)
    rintro H12 ⟨s12, acc, hacc, hal, hside⟩
    obtain ⟨v0, v1, rfl⟩ := two_list hal
    obtain ⟨c0, xs0, fs0, rfl, nc0, hc0, hp0, hx0, hf0⟩ := hside 0 v0 rfl
    obtain ⟨c1, xs1, fs1, rfl, nc1, hc1, hp1, hx1, hf1⟩ := hside 1 v1 rfl
    have hF12 := hF11.same s12
    have hpa12 := s12 _ _ hpa11
    have hpts12 : Paired (PtAt H12) xs pts := L2.Paired.mapP hpts11 fun _ _ z => z.tk s12.tk
    have hv12 := FrAt.tk s12.tk hv11
    have hfb : ∀ (j : Nat) (fs : List Fr), (∀ f ∈ fs, f = (1, 1) ∨ ∃ pt ∈ pts, pt[j]? = some f) → ∀ f ∈ fs, Fb f := fun j fs h f hf => by
      rcases h f hf with rfl | ⟨pt, hpt, e⟩
      · exact fb_one
      · exact (hlen2 pt hpt).2 f (List.mem_of_getElem? e)
    clear hside hF11 hpa11 hpts11 hv11 s12 hD
    have nL0 : c0 ≠ L := hF12.neLen hc0 (by omega)
    have nL1 : c1 ≠ L := hF12.neLen hc1 (by omega)
    -- the first two boxes
    refine ⟨by show 2 ≤ sizeLine; decide, fun t5 ht5 => ?_⟩
    have s5 : Same H12 (upd H12 t5 (.tup [.int 1, .int 1])) := same_new (Same.refl H12) ht5
    refine ⟨.ref D, rfl, D, _, 1, .ref c1, rfl, rfl, SqL.of (s5 _ _ hacc), atI_nat (j := 1) rfl, c1, xs1, fs1, rfl, s5 _ _ hc1, L2.Paired.mapP hp1 fun _ _ z => z.tk s5.tk, by omega, hfb 1 fs1 hf1, fun w1 h1f hw1 hh1 hr1 => ?_⟩
    refine ⟨by show 2 ≤ sizeLine; decide, fun b5 hb5 => ?_⟩
    have s6 : Same H12 (upd (upd H12 t5 (.tup [.int 1, .int 1])) b5 (.tup [.ref t5, w1])) := same_new s5 (s5.free hb5)
    have n5 : t5 ≠ b5 := fun e => by
      rw [← e, upd_same] at hb5
      cases hb5
    have box1 : PtAt (upd (upd H12 t5 (.tup [.int 1, .int 1])) b5 (.tup [.ref t5, w1])) (.ref b5) [(1, 1), h1f] := ⟨b5, _, rfl, upd_same, .cons ⟨t5, rfl, by rw [upd_ne n5, upd_same]⟩ (.cons (hr1.tk (tk_new hb5)) .nil)⟩
    generalize (upd (upd H12 t5 (.tup [.int 1, .int 1])) b5 (.tup [.ref t5, w1])) = H14 at *
    refine ⟨.ref D, rfl, D, _, 0, .ref c0, rfl, rfl, SqL.of (s6 _ _ hacc), atI_nat (j := 0) rfl, c0, xs0, fs0, rfl, s6 _ _ hc0, L2.Paired.mapP hp0 fun _ _ z => z.tk s6.tk, by omega, hfb 0 fs0 hf0, fun w0 h0f hw0 hh0 hr0 => ?_⟩
    refine ⟨by show 2 ≤ sizeLine; decide, fun t6 ht6 => ?_⟩
    refine ⟨by show 2 ≤ sizeLine; decide, fun b6 hb6 => ?_⟩
    have s7 : Same H14 (upd (upd H14 t6 (.tup [.int 1, .int 1])) b6 (.tup [w0, .ref t6])) := same_new (same_new (Same.refl H14) ht6) ((same_new (Same.refl H14) ht6).free hb6)
    have n6 : t6 ≠ b6 := fun e => by
      rw [← e, upd_same] at hb6
      cases hb6
    have box2 : PtAt (upd (upd H14 t6 (.tup [.int 1, .int 1])) b6 (.tup [w0, .ref t6])) (.ref b6) [h0f, (1, 1)] := ⟨b6, _, rfl, upd_same, .cons (hr0.tk ((tk_new ht6).trans (tk_new hb6))) (.cons ⟨t6, rfl, by rw [upd_ne n6, upd_same]⟩ .nil)⟩
    have box1' := box1.tk s7.tk
    have s8 : Same H12 (upd (upd H14 t6 (.tup [.int 1, .int 1])) b6 (.tup [w0, .ref t6])) := s6.trans s7
    generalize (upd (upd H14 t6 (.tup [.int 1, .int 1])) b6 (.tup [w0, .ref t6])) = H16 at *
    clear s5 s6 s7 box1 ht5 hb5 ht6 hb6 n5 n6 hr0 hr1
    refine ⟨by show 2 ≤ sizeLine; decide, fun r hr => ?_⟩
    have hF16 := hF12.same s8
    have nLr : r ≠ L := hF16.neL hr
    have nSr : r ≠ S := hF16.neS hr
    have kD := s8 _ _ hacc
    have k0 := s8 _ _ hc0
    have k1 := s8 _ _ hc1
    have kp0 : Paired (FrAt H16) xs0 fs0 := L2.Paired.mapP hp0 fun _ _ z => z.tk s8.tk
    have kp1 : Paired (FrAt H16) xs1 fs1 := L2.Paired.mapP hp1 fun _ _ z => z.tk s8.tk
    have kpa := s8 _ _ hpa12
    have kpts : Paired (PtAt H16) xs pts := L2.Paired.mapP hpts12 fun _ _ z => z.tk s8.tk
    have kv := hv12.tk s8.tk
    have sbr : Sb L H16 (upd H16 r (.lst [.ref b5, .ref b6])) := sb_new (Sb.refl L H16) hr
    have tkr : Tk H16 (upd H16 r (.lst [.ref b5, .ref b6])) := tk_new hr
    clear hacc hc0 hc1 hp0 hp1 hpa12 hpts12 hv12 hF12 s8
    -- six more
    refine ⟨6, rfl, by decide, by decide, ?_⟩
    refine for_range (fun i σ H' => ∃ y7, σ = [some (.ref L), some (.ref t4), some (.int g), some (.ref pc), some v11, some (.ref D), some (.ref r), y7, none, none, none] ∧ Sb L H16 H' ∧ Tk H16 H' ∧ Feed H' L S ∧ ∃ ys bxs, H' r = some (.lst ys) ∧ Paired (PtAt H') ys bxs ∧ (∀ bx ∈ bxs, BoxOk pts 2 bx) ∧ bxs.length = 2 + i)
      ⟨none, rfl, sbr, tkr, hF16.put nLr nSr, [.ref b5, .ref b6], [[(1, 1), h1f], [h0f, (1, 1)]], upd_same, .cons (box1'.tk tkr) (.cons (box2.tk tkr) .nil), fun bx hbx => ?_, rfl⟩ ?_ ?_
    · rcases List.mem_cons.mp hbx with rfl | hbx
      · exact boxOk_pair (.inl rfl) (hf1 _ hh1)
      · rw [List.mem_singleton.mp hbx]
        exact boxOk_pair (hf0 _ hh0) (.inl rfl)
    · rintro i σ H17 hi ⟨y7, rfl, sb17, tk17, hF17, ys, bxs, hys, hyp, hyo, hyl⟩
      refine ⟨.ref r, rfl, .inl ⟨rfl, _, SqL.of hys⟩, ?_⟩
      have hi6 : i < 6 := hi
      have nDr : D ≠ L := nDL
      refine ⟨.ref D, rfl, D, _, 0, .ref c0, rfl, rfl, SqL.of (sb17 _ _ nDL kD), atI_nat (j := 0) rfl, .ref L, rfl, L, S, 81, rfl, hF17, by decide, by decide, fun H18 d18 sb18 hF18 hd18 => ?_⟩
      have q0 : xs0[d18]? = some xs0[d18] := List.getElem?_eq_getElem (by omega)
      obtain ⟨f0, hf0', r0⟩ := paired_at kp0 q0
      refine ⟨c0, xs0, d18, xs0[d18], rfl, rfl, SqL.of (sb18 _ _ nL0 (sb17 _ _ nL0 k0)), atI_nat q0, ?_⟩
      have tk18 := sb18.tkF hF17
      refine ⟨.ref D, rfl, D, _, 1, .ref c1, rfl, rfl, SqL.of (sb18 _ _ nDL (sb17 _ _ nDL kD)), atI_nat (j := 1) rfl, .ref L, rfl, L, S, 81, rfl, hF18, by decide, by decide, fun H19 d19 sb19 hF19 hd19 => ?_⟩
      have q1 : xs1[d19]? = some xs1[d19] := List.getElem?_eq_getElem (by omega)
      obtain ⟨f1, hf1', r1⟩ := paired_at kp1 q1
      refine ⟨c1, xs1, d19, xs1[d19], rfl, rfl, SqL.of (sb19 _ _ nL1 (sb18 _ _ nL1 (sb17 _ _ nL1 k1))), atI_nat q1, ?_⟩
      have tk19 := sb19.tkF hF18
      refine ⟨by show 2 ≤ sizeLine; decide, fun b hb => ?_⟩
      have hr19 := sb19 _ _ nLr (sb18 _ _ nLr hys)
      have nbr : b ≠ r := fun e => by
        rw [e, hr19] at hb
        cases hb
      have hr20 : (upd H19 b (.tup [xs0[d18], xs1[d19]])) r = some (.lst ys) := by rw [upd_ne nbr.symm]; exact hr19
      have ly := paired_len hyp
      refine ⟨r, ys, _, rfl, rfl, hr20, small_line (by omega), ?_⟩
      have tkA : Tk H16 H19 := tk17.trans (tk18.trans tk19)
      have tkB : Tk H19 (upd (upd H19 b (.tup [xs0[d18], xs1[d19]])) r (.lst (ys ++ [.ref b]))) := (tk_new hb).trans (tk_lst hr20)
      have sbA : Sb L H16 H19 := sb17.trans (sb18.trans sb19)
      refine ⟨_, rfl, sb_new (sb_new sbA (sbA.freeF hF19 hb)) hr, tkA.trans tkB, (hF19.new hb).put nLr nSr, ys ++ [.ref b], bxs ++ [[f0, f1]], upd_same, ?_, fun bx hbx => ?_, by rw [List.length_append, hyl]; rfl⟩
      · exact paired_snoc (L2.Paired.mapP hyp fun _ _ z => z.tk (tk18.trans (tk19.trans tkB))) ⟨b, _, rfl, by rw [upd_ne nbr, upd_same], .cons (r0.tk (tkA.trans tkB)) (.cons (r1.tk (tkA.trans tkB)) .nil)⟩
      · rcases List.mem_append.mp hbx with h | h
        · exact hyo bx h
        · rw [List.mem_singleton.mp h]
          exact boxOk_pair (hf0 _ (List.mem_of_getElem? hf0')) (hf1 _ (List.mem_of_getElem? hf1'))
    · rintro σ H17 ⟨y7, rfl, sb17, tk17, hF17, ys, bxs, hys, hyp, hyo, hyl⟩
      have npL : pc ≠ L := fun e => by
        obtain ⟨zs, hz⟩ := hF16.lst
        rw [← e, kpa] at hz
        cases hz
      refine ⟨.ref r, rfl, r, rfl, ⟨_, SqL.of hys⟩, fun D3 hD3 => ?_⟩
      refine lc_list (K := K) (a := r) (xs := ys) (fun m H18 => Same H17 H18 ∧ H18 D3 = some (.lst (List.replicate m (.bl false))))
        ⟨same_new (Same.refl H17) hD3, upd_same⟩ ?_ ?_ ?_
      · rintro m H18 hm ⟨s18, _⟩
        exact SqL.of (s18 _ _ hys)
      · rintro m x H18 hx ⟨s18, hD18⟩
        obtain ⟨bx, hbx, px⟩ := paired_at hyp hx
        have bo := hyo bx (List.mem_of_getElem? hbx)
        have tk18 : Tk H16 H18 := tk17.trans s18.tk
        have e := eighty_pass isEx_two X3 hptl hptn bo hbd
        have hm8 : m < ys.length := (List.getElem?_eq_some_iff.mp hx).1
        have ly := paired_len hyp
        refine ⟨rfl, .ref pc, rfl, x, rfl, v11, rfl, pc, xs, x, v11, pts, bx, u11, d11, rfl, s18 _ _ (sb17 _ _ npL kpa), L2.Paired.mapP kpts fun _ _ z => z.tk tk18, px.tk s18.tk, kv.tk tk18, by omega, by rw [bo.1]; decide, fun pt hpt => ?_, box_fb hptn bo, by omega, by omega, fun H19 s19 => ?_⟩
        · rw [bo.1]
          exact hlen2 pt hpt
        rw [e]
        refine ⟨_, s19 _ _ hD18, by rw [List.length_replicate]; exact small_line (by omega), same_new (s18.trans s19) hD3, ?_⟩
        rw [upd_same, rep_snoc]
      · rintro H18 ⟨s18, hD18⟩
        refine ⟨D3, _, rfl, .inl (SqL.of hD18), rfl, flat_false _, ?_⟩
        rw [inV_false]
        exact q _
end
end Ev

set_option Elab.async false
set_option linter.all false
set_option maxRecDepth 100000
set_option maxHeartbeats 1000000
namespace Ev
open PySem PySem.Spec PyProof.Rows L2
theorem pick_many {d : Nat} (h : d < 3) : ∃ M : Nat, ([V.int 40, V.int 9, V.int 5] : List V)[d]? = some (.int (M : Int)) ∧ M = [40, 9, 5].getD d 0 ∧ 1 ≤ M ∧ M ≤ 40 := by
  match d, h with
  | 0, _ => exact ⟨40, rfl, rfl, by decide, by decide⟩
  | 1, _ => exact ⟨9, rfl, rfl, by decide, by decide⟩
  | 2, _ => exact ⟨5, rfl, rfl, by decide, by decide⟩
theorem rowAt_ex {H : Hp} {a : Addr} {row : List (Nat × List Nat)} (h : RowAt H a row) : ∀ be ∈ row, IsEx be.1 be.2 := fun be hbe => by
  obtain ⟨xs, _, hp⟩ := h
  obtain ⟨i, hi⟩ := List.mem_iff_getElem?.mp hbe
  obtain ⟨x, _, c, d, _, _, _, X⟩ := paired_at' hp hi
  exact X
theorem ptn_fb {row : List (Nat × List Nat)} {a : Nat} {pts : List (List Fr)} (hp : ∀ (i : Nat) pt, pts[i]? = some pt → PtN row (a + i) pt) : ∀ pt ∈ pts, pt.length = row.length ∧ ∀ f ∈ pt, Fb f := fun pt hpt => by
  obtain ⟨i, hi⟩ := List.mem_iff_getElem?.mp hpt
  refine ⟨(paired_len (hp i pt hi)).symm, fun f hf => ?_⟩
  obtain ⟨j, hj⟩ := List.mem_iff_getElem?.mp hf
  obtain ⟨be, _, tn⟩ := ptn_at (hp i pt hi) hj
  exact tn.fb
section
variable {P : Program} {w : World} {K : PySem.W.Frag} {mg : Str → Option Value} {base : Heap}
def spLaw (K : PySem.W.Frag) : Sp := fun vs H Q _ => ∃ (a : Addr) (ns : List Int), vs = [.ref a] ∧ SqL K H a (ns.map V.int) ∧ ∀ H', Q (.bl true) H'
theorem ok_law {f fS fF fR fD fG fT fP fB fN fW fE fO fX fY fI fA fL fZ : Addr} {fd fdS fdF fdR fdD fdG fdT fdP fdB fdN fdW fdE fdO fdX fdY fdI fdA fdL fdZ : FuncData} {k : Nat} (F : Fun K "law" "law" sLaw f fd) (T : Txt mg)
    (FS : Fun K "shared" "shared" sShared fS fdS) (bS : Binds K fdS ["one", "other"] []) (gS : mg "shared" = some (.ref fS))
    (FF : Fun K "fraction" "fraction" sFraction fF fdF) (bF : Binds K fdF ["top", "bottom"] []) (gF : mg "fraction" = some (.ref fF))
    (FR : Fun K "raised" "raised" sRaised fR fdR) (bR : Binds K fdR ["base", "k"] []) (gR : mg "raised" = some (.ref fR))
    (FD : Fun K "depth_for" "depth_for" sDepth fD fdD) (bD : Binds K fdD ["base", "many"] []) (gD : mg "depth_for" = some (.ref fD))
    (FG : Fun K "figures_of" "figures_of" sFigures fG fdG) (bG : Binds K fdG ["base", "n"] []) (gG : mg "figures_of" = some (.ref fG))
    (FT : Fun K "turned" "turned" sTurned fT fdT) (bT : Binds K fdT ["base", "exchange", "n"] []) (gT : mg "turned" = some (.ref fT))
    (FP : Fun K "points_of" "points_of" sPoints fP fdP) (bP : Binds K fdP ["row", "begin", "many"] []) (gP : mg "points_of" = some (.ref fP))
    (FB : Fun K "row_bound" "row_bound" sBound fB fdB) (bB : Binds K fdB ["row", "many"] []) (gB' : mg "row_bound" = some (.ref fB))
    (FN : Fun K "_law_feed" "_law_feed" sFeed fN fdN) (bN : Binds K fdN ["_law_script"] []) (gN : mg "_law_feed" = some (.ref fN))
    (FW : Fun K "_law_draw" "_law_draw" sDraw fW fdW) (bW : Binds K fdW ["_law_feed_here", "_law_many"] []) (gW : mg "_law_draw" = some (.ref fW))
    (FE : Fun K "_law_exchange" "_law_exchange" sExch fE fdE) (bE : Binds K fdE ["_law_feed_here", "_law_base"] []) (gE : mg "_law_exchange" = some (.ref fE))
    (FO : Fun K "_law_row" "_law_row" sRow fO fdO) (bO : Binds K fdO ["_law_feed_here", "_law_most"] []) (gO : mg "_law_row" = some (.ref fO))
    (FX : Fun K "_law_power" "_law_power" sPower fX fdX) (bX : Binds K fdX ["_law_base", "_law_k"] []) (gX : mg "_law_power" = some (.ref fX))
    (FY : Fun K "_law_boxes" "_law_boxes" sBoxes fY fdY) (bY : Binds K fdY ["_law_points"] []) (gY : mg "_law_boxes" = some (.ref fY))
    (FI : Fun K "_law_is_in" "_law_is_in" sIsIn fI fdI) (bI : Binds K fdI ["_law_point", "_law_box", "_law_shut"] []) (gI : mg "_law_is_in" = some (.ref fI))
    (FA : Fun K "_law_passes" "_law_passes" sPasses fA fdA) (bA : Binds K fdA ["_law_points", "_law_box", "_law_bound"] []) (gA : mg "_law_passes" = some (.ref fA))
    (FL : Fun K "_law_least" "_law_least" sLeast fL fdL) (bL : Binds K fdL ["_law_numbers"] []) (gL : mg "_law_least" = some (.ref fL))
    (FZ : Fun K "_law_eighty_right" "_law_eighty_right" sEighty fZ fdZ) (bZ : Binds K fdZ ["_law_feed_here"] []) (gZ : mg "_law_eighty_right" = some (.ref fZ)) :
    FnOk P w K mg base CX0 (k + 6) f fd ["_law_script"] (spLaw K) := by
  have GP : FnOk P w K mg base CX0 (k + 5) fP fdP ["row", "begin", "many"] spPoints := ok_points FP T FS bS gS FF bF gF FG bG gG FT bT gT
  have GB : FnOk P w K mg base CX0 (k + 5) fB fdB ["row", "many"] spBound := ok_bound FB T FS bS gS FF bF gF FR bR gR FD bD gD
  have GN : FnOk P w K mg base CX0 (k + 5) fN fdN ["_law_script"] (spFeed K) := ok_feed FN T
  have GW : FnOk P w K mg base CX0 (k + 5) fW fdW ["_law_feed_here", "_law_many"] spDraw := ok_draw FW T
  have GE : FnOk P w K mg base CX0 (k + 5) fE fdE ["_law_feed_here", "_law_base"] spExch := ok_exch FE T FW bW gW
  have GO : FnOk P w K mg base CX0 (k + 5) fO fdO ["_law_feed_here", "_law_most"] spRow := ok_row FO T FW bW gW FE bE gE
  have GX : FnOk P w K mg base CX0 (k + 5) fX fdX ["_law_base", "_law_k"] spRaised := ok_power FX T
  have GY : FnOk P w K mg base CX0 (k + 5) fY fdY ["_law_points"] spBoxes := ok_boxes FY T
  have GA : FnOk P w K mg base CX0 (k + 5) fA fdA ["_law_points", "_law_box", "_law_bound"] spPasses := ok_passes FA T FI bI gI
  have GZ : FnOk P w K mg base CX0 (k + 5) fZ fdZ ["_law_feed_here"] spEighty := ok_eighty FZ T FS bS gS FF bF gF FR bR gR FD bD gD FG bG gG FT bT gT FP bP gP FB bB gB' FW bW gW FE bE gE FI bI gI FA bA gA FL bL gL
  refine F.ok scLaw (fun vs H Q E h => ?_) (fun cdv A outer s H vs Q E hr h => ?_)
  · obtain ⟨a, ns, rfl, _⟩ := h
    rfl
  · obtain ⟨a, ns, rfl, hS, q⟩ := h
    refine ⟨_, pss_cons (ps_set (i := 1) scLaw.nd rfl (.inl rfl) (pe_call GN hr (by rfl) gN FN.kp bN .nil pass0 (pa_cons (pv 0) pa_nil)))
      (pss_cons (ps_for PassesOwn.never rfl (pi_range1 (by rfl) T.range (pa_cons pe_int pa_nil)) (pg_name (i := 2) scLaw.nd rfl (.inl rfl))
        (pss_cons (ps_set (i := 3) scLaw.nd rfl (.inl rfl) (pe_call GO hr (by rfl) gO FO.kp bO .nil pass0 (pa_cons (pv 1) (pa_cons pe_int pa_nil))))
        (pss_cons (ps_set (i := 4) scLaw.nd rfl (.inl rfl) (pe_call GW hr (by rfl) gW FW.kp bW .nil pass0 (pa_cons (pv 1) (pa_cons (pe_ix ix_list (pe_lst (pa_cons pe_int (pa_cons pe_int (pa_cons (pe_op op_sub (pe_op op_pow pe_int pe_int) pe_int) pa_nil))))
            (pe_call GW hr (by rfl) gW FW.kp bW .nil pass0 (pa_cons (pv 1) (pa_cons pe_int pa_nil))) (fun _ _ => rfl)) pa_nil))))
        (pss_cons (ps_set (i := 5) scLaw.nd rfl (.inr rfl) (pe_op op_add pe_int (pe_call GW hr (by rfl) gW FW.kp bW .nil pass0 (pa_cons (pv 1) (pa_cons (pe_ix ix_list (pe_lst (pa_cons pe_int (pa_cons pe_int (pa_cons pe_int pa_nil))))
            (pe_op op_sub (pe_callB call_len_seq (by rfl) T.len PySem.boot_len (pa_cons (pv 3) pa_nil)) pe_int) (fun _ _ => rfl)) pa_nil)))))
        (pss_cons (ps_set (i := 6) scLaw.nd rfl (.inr rfl) (pe_call GP hr (by rfl) gP FP.kp bP .nil pass0 (pa_cons (pv 3) (pa_cons (pv 4) (pa_cons (pv 5) pa_nil)))))
        (pss_cons (ps_set (i := 7) scLaw.nd rfl (.inr rfl) (pe_call GB hr (by rfl) gB' FB.kp bB .nil pass0 (pa_cons (pv 3) (pa_cons (pv 5) pa_nil))))
        (pss_one (ps_if (pt_cmpR op_in_seq pe_bl (pe_lc (own := [("_law_box", 9)]) (g := gName 9) (tt := tYes) rfl scLaw.nd (pi_list (pe_call GY hr (by rfl) gY FY.kp bY .nil pass0 (pa_cons (pv 6) pa_nil))) (blkOk_by (own := [("_law_box", 9)]) (N := nLaw) (sc := defScope sLaw) (by decide +kernel))
            (fun _ _ _ _ _ => pg_name (i := 9) scLaw.nd rfl (.inl rfl)) (fun _ _ _ _ _ => pts_nil)
            (fun _ _ _ _ _ => pe_call GA hr (by rfl) gA FA.kp bA .nil pass0 (pa_cons (pv 6) (pa_cons (pv 9) (pa_cons (pv 7) pa_nil))))) (by rfl))
          (pss_one (ps_ret pe_bl)) pss_nil))))))))
      (pss_cons (ps_set (i := 8) scLaw.nd rfl (.inl rfl) (pe_op op_add pe_int (pe_call GW hr (by rfl) gW FW.kp bW .nil pass0 (pa_cons (pv 1) (pa_cons pe_int pa_nil)))))
      (pss_cons (ps_set (i := 3) scLaw.nd rfl (.inl rfl) (pe_tup (pa_cons (pe_tup (pa_cons (pv 8) (pa_cons (pe_call GE hr (by rfl) gE FE.kp bE .nil pass0 (pa_cons (pv 1) (pa_cons (pv 8) pa_nil))) pa_nil))) pa_nil)))
      (pss_cons (ps_set (i := 5) scLaw.nd rfl (.inr rfl) (pe_call GX hr (by rfl) gX FX.kp bX .nil pass0 (pa_cons (pv 8) (pa_cons (pe_op op_add pe_int (pe_call GW hr (by rfl) gW FW.kp bW .nil pass0 (pa_cons (pv 1) (pa_cons pe_int pa_nil)))) pa_nil))))
      (pss_cons (ps_set (i := 6) scLaw.nd rfl (.inr rfl) (pe_call GP hr (by rfl) gP FP.kp bP .nil pass0 (pa_cons (pv 3) (pa_cons (pe_op op_mulW (pv 5) (pe_call GW hr (by rfl) gW FW.kp bW .nil pass0 (pa_cons (pv 1) (pa_cons pe_int pa_nil)))) (pa_cons (pv 5) pa_nil)))))
      (pss_cons (ps_if (pt_cmpR op_in_seq pe_bl (pe_lc (own := [("_law_box", 9)]) (g := gName 9) (tt := tYes) rfl scLaw.nd (pi_list (pe_call GY hr (by rfl) gY FY.kp bY .nil pass0 (pa_cons (pv 6) pa_nil))) (blkOk_by (own := [("_law_box", 9)]) (N := nLaw) (sc := defScope sLaw) (by decide +kernel))
            (fun _ _ _ _ _ => pg_name (i := 9) scLaw.nd rfl (.inl rfl)) (fun _ _ _ _ _ => pts_nil)
            (fun _ _ _ _ _ => pe_call GA hr (by rfl) gA FA.kp bA .nil pass0 (pa_cons (pv 6) (pa_cons (pv 9) (pa_cons (pe_tup (pa_cons pe_int (pa_cons (pv 5) pa_nil))) pa_nil))))) (by rfl))
          (pss_one (ps_ret pe_bl)) pss_nil)
      (pss_one (ps_ret (pe_call GZ hr (by rfl) gZ FZ.kp bZ .nil pass0 (pa_cons (pv 1) pa_nil)))))))))), ?_⟩
    -- the feed
    refine ⟨.ref a, rfl, a, ns, rfl, hS, fun H1 L S s1 hF1 => ?_⟩
    refine ⟨2, rfl, by decide, by decide, ?_⟩
    refine for_range (fun i σ H' => ∃ y2 y3 y4 y5 y6 y7 y8, σ = [some (.ref a), some (.ref L), y2, y3, y4, y5, y6, y7, y8, none] ∧ Feed H' L S)
      ⟨none, none, none, none, none, none, none, rfl, hF1⟩ ?_ ?_
    · rintro i σ H2 hi ⟨y2, y3, y4, y5, y6, y7, y8, rfl, hF2⟩
      -- the row
      refine ⟨.ref L, rfl, L, S, 3, rfl, hF2, by decide, by decide, fun H3 t3 row sb3 hF3 hrow3 hl1 hl3 => ?_⟩
      -- begin
      refine ⟨.ref L, rfl, 10, 9, rfl, rfl, ⟨by decide, by decide, by decide⟩, _, 40, rfl, rfl, by show 3 ≤ sizeLine; decide, fun l5 hl5 => ?_⟩
      have s5 : Same H3 (upd H3 l5 (.lst [.int 1, .int 100, .int (10 ^ (9 : Int).toNat - 40)])) := same_new (Same.refl H3) hl5
      have hF5 := hF3.same s5
      have nl5 : l5 ≠ L := hF3.neL hl5
      refine ⟨.ref L, rfl, L, S, 3, rfl, hF5, by decide, by decide, fun H6 d6 sb6 hF6 hd6 => ?_⟩
      obtain ⟨M, hM, hM1, hM2⟩ := pick3 (x := 10 ^ (9 : Int).toNat - 40) (C := 999999960) hd6 999999960 (by decide +kernel) (by decide) (by decide) (by decide)
      refine ⟨l5, _, d6, .int M, rfl, rfl, SqL.of (sb6 _ _ nl5 upd_same), atI_nat hM, ?_⟩
      refine ⟨L, S, M, rfl, hF6, hM1, Nat.lt_of_le_of_lt hM2 (by decide), fun H7 g sb7 hF7 hg => ?_⟩
      have hrow7 : RowAt H7 t3 row := hrow3.tk (s5.tk.trans ((sb6.tkF hF5).trans (sb7.tkF hF6)))
      clear s5 hF5 nl5 hM sb6 hF6 sb7 hl5 hF3 hrow3 sb3
      -- many
      refine ⟨.ref L, rfl, by show 3 ≤ sizeLine; decide, fun l8 hl8 => ?_⟩
      have s8 : Same H7 (upd H7 l8 (.lst [.int 40, .int 9, .int 5])) := same_new (Same.refl H7) hl8
      obtain ⟨rs, hrs, hrp⟩ := hrow7.tk s8.tk
      have lrs := paired_len hrp
      obtain ⟨C, hC, eC, hC1, hC40⟩ := pick_many (d := row.length - 1) (by omega)
      refine ⟨.ref t3, rfl, t3, rs, rfl, .inr (SqT.of hrs), _, 1, rfl, rfl, l8, _, _, .int C, rfl, rfl, SqL.of upd_same, at_of (j := row.length - 1) (by rw [lrs]; omega) hC, ?_⟩
      refine ⟨L, S, C, rfl, hF7.same s8, hC1, Nat.lt_of_le_of_lt hC40 (by decide), fun H9 d9 sb9 hF9 hd9 => ⟨1, d9, rfl, rfl, ?_⟩⟩
      have hrow9 : RowAt H9 t3 row := (hrow7.tk s8.tk).tk (sb9.tkF (hF7.same s8))
      have eN : (fun i j : Int => V.int (i + j)) 1 (d9 : Int) = V.int ((1 + d9 : Nat) : Int) := congrArg V.int (by omega)
      rw [eN]
      have hN1 : 1 ≤ 1 + d9 := by omega
      have hNC : 1 + d9 ≤ [40, 9, 5].getD (row.length - 1) 0 := by rw [← eC]; omega
      have hN40 : 1 + d9 ≤ 40 := by omega
      generalize 1 + d9 = N at *
      clear hC eC hd9 eN s8 sb9 hrs hrp lrs hrow7 hF7 hl8
      -- points
      refine ⟨.ref t3, rfl, .int g, rfl, .int N, rfl, t3, row, g, N, rfl, hrow9, hl3, by omega, by omega, fun H10 p xs pts s10 hp hpp hpl hpn => ?_⟩
      have lx := paired_len hpp
      have hF10 := hF9.same s10
      -- bound
      refine ⟨.ref t3, rfl, .int N, rfl, t3, row, N, rfl, hrow9.tk s10.tk, hl3, hN1, by omega, fun H11 v11 u11 d11 s11 hv11 hu11 hd11 hdN huN => ?_⟩
      have hex := rowAt_ex hrow9
      have hlen := ptn_fb hpn
      -- boxes
      refine ⟨.ref p, rfl, p, xs, pts, row.length, rfl, s11 _ _ hp, L2.Paired.mapP hpp fun _ _ z => z.tk s11.tk, by omega, by omega, hl3, fun pt hpt => (hlen pt hpt).1, fun H12 r ys bxs s12 hr12 hyp hbo hbl => ?_⟩
      refine ⟨r, rfl, ⟨_, SqL.of hr12⟩, fun D hD => ?_⟩
      have hp12 := s12 _ _ (s11 _ _ hp)
      have hpp12 : Paired (PtAt H12) xs pts := L2.Paired.mapP hpp fun _ _ z => z.tk (s11.trans s12).tk
      have hv12 := FrAt.tk s12.tk hv11
      have hF12 := hF10.same (s11.trans s12)
      have ly := paired_len hyp
      refine lc_list (K := K) (a := r) (xs := ys) (fun m H13 => Same H12 H13 ∧ H13 D = some (.lst (List.replicate m (.bl false))))
        ⟨same_new (Same.refl H12) hD, upd_same⟩ ?_ ?_ ?_
      · rintro m H13 hm ⟨s13, _⟩
        exact SqL.of (s13 _ _ hr12)
      · rintro m x H13 hx ⟨s13, hD13⟩
        obtain ⟨bx, hbx, px⟩ := paired_at hyp hx
        have bo := hbo bx (List.mem_of_getElem? hbx)
        have e := row_pass hex hNC hl1 hl3 hpl hpn bo hu11
        have hm : m < ys.length := (List.getElem?_eq_some_iff.mp hx).1
        refine ⟨rfl, .ref p, rfl, x, rfl, v11, rfl, p, xs, x, v11, pts, bx, u11, d11, rfl, s13 _ _ hp12, L2.Paired.mapP hpp12 fun _ _ z => z.tk s13.tk, px.tk s13.tk, hv12.tk s13.tk, by omega, by rw [bo.1]; exact hl3, fun pt hpt => ?_, box_fb hpn bo, by omega, by omega, fun H14 s14 => ?_⟩
        · rw [bo.1]
          exact hlen pt hpt
        rw [e]
        refine ⟨_, s14 _ _ hD13, by rw [List.length_replicate]; exact small_line (by omega), same_new (s13.trans s14) hD, ?_⟩
        rw [upd_same, rep_snoc]
      · rintro H13 ⟨s13, hD13⟩
        refine ⟨D, _, rfl, .inl (SqL.of hD13), rfl, flat_false _, false, congrArg V.bl (inV_false _), ?_⟩
        exact ⟨_, _, _, _, _, _, _, rfl, hF12.same s13⟩
    · rintro σ H2 ⟨y2, y3, y4, y5, y6, y7, y8, rfl, hF2⟩
      -- base
      refine ⟨.ref L, rfl, L, S, 5, rfl, hF2, by decide, by decide, fun H3 d3 sb3 hF3 hd3 => ⟨2, d3, rfl, rfl, ?_⟩⟩
      have eb : (fun i j : Int => V.int (i + j)) 2 (d3 : Int) = V.int ((2 + d3 : Nat) : Int) := congrArg V.int (by omega)
      rw [eb]
      have hb2 : 2 ≤ 2 + d3 := by omega
      have hb6 : 2 + d3 ≤ 6 := by omega
      generalize 2 + d3 = b at *
      clear eb hd3 sb3
      -- row
      refine ⟨.int b, rfl, .ref L, rfl, .int b, rfl, L, S, b, rfl, hF3, hb2, by omega, fun H4 e4 es sb4 hF4 he4 X => ?_⟩
      refine ⟨by show 2 ≤ sizeLine; decide, fun t5 ht5 => ?_⟩
      refine ⟨by show 1 ≤ sizeLine; decide, fun t6 ht6 => ?_⟩
      have n56 : t5 ≠ t6 := fun e => by
        rw [← e, upd_same] at ht6
        cases ht6
      have s6 : Same H4 (upd (upd H4 t5 (.tup [.int b, .ref e4])) t6 (.tup [.ref t5])) := same_new (same_new (Same.refl H4) ht5) ((same_new (Same.refl H4) ht5).free ht6)
      have hrow : RowAt (upd (upd H4 t5 (.tup [.int b, .ref e4])) t6 (.tup [.ref t5])) t6 [(b, es)] := ⟨_, upd_same, .cons ⟨t5, e4, rfl, by rw [upd_ne n56, upd_same], s6 _ _ he4, X⟩ .nil⟩
      have hF6 := hF4.same s6
      generalize (upd (upd H4 t5 (.tup [.int b, .ref e4])) t6 (.tup [.ref t5])) = H6 at *
      clear s6 n56 ht5 ht6 he4 hF4 sb4
      -- many
      refine ⟨.int b, rfl, .ref L, rfl, L, S, 2, rfl, hF6, by decide, by decide, fun H7 d7 sb7 hF7 hd7 => ⟨1, d7, rfl, rfl, ?_⟩⟩
      have hm30 : 1 + d7 ≤ 30 := by omega
      have hm2 : 1 + d7 ≤ 2 := by omega
      refine ⟨b, 1 + d7, ?_, by omega, by omega, by omega, ?_⟩
      · show [V.int (b : Int), V.int ((1 : Int) + (d7 : Int))] = _
        rw [show ((1 : Int) + (d7 : Int)) = ((1 + d7 : Nat) : Int) by omega]
      have hrow7 := hrow.tk (sb7.tkF hF6)
      have hN36 : b ^ (1 + d7) ≤ 36 := Nat.le_trans (Nat.pow_le_pow_left hb6 _) (Nat.le_trans (Nat.pow_le_pow_right (by decide) hm2) (by decide))
      have hN1 : 1 ≤ b ^ (1 + d7) := Nat.pow_pos (by omega)
      generalize hmm : 1 + d7 = m at *
      -- points
      refine ⟨.ref t6, rfl, .int ((b ^ m : Nat) : Int), rfl, .ref L, rfl, L, S, 1000, rfl, hF7, by decide, by decide, fun H8 d8 sb8 hF8 hd8 => ⟨_, d8, rfl, rfl, mulOk (nat_lt hN36 (by decide)) (nat_lt (Nat.le_of_lt hd8) (by decide)), ?_⟩⟩
      have hrow8 := hrow7.tk (sb8.tkF hF7)
      have hbeg : b ^ m * d8 ≤ 36 * 1000 := Nat.mul_le_mul hN36 (Nat.le_of_lt hd8)
      refine ⟨.int ((b ^ m : Nat) : Int), rfl, t6, _, b ^ m * d8, b ^ m, ?_, hrow8, by show 1 ≤ 3; decide, by omega, by omega, fun H10 p xs pts s10 hp hpp hpl hpn => ?_⟩
      · rw [Int.natCast_mul]
        rfl
      have lx := paired_len hpp
      have hF10 := hF8.same s10
      have hlen := ptn_fb hpn
      -- boxes
      refine ⟨.ref p, rfl, p, xs, pts, 1, rfl, hp, hpp, by omega, by omega, by decide, fun pt hpt => (hlen pt hpt).1, fun H12 r ys bxs s12 hr12 hyp hbo hbl => ?_⟩
      refine ⟨r, rfl, ⟨_, SqL.of hr12⟩, fun D hD => ?_⟩
      have hp12 := s12 _ _ hp
      have hpp12 : Paired (PtAt H12) xs pts := L2.Paired.mapP hpp fun _ _ z => z.tk s12.tk
      have hF12 := hF10.same s12
      have ly := paired_len hyp
      refine lc_list (K := K) (a := r) (xs := ys) (fun m H13 => Same H12 H13 ∧ H13 D = some (.lst (List.replicate m (.bl false))))
        ⟨same_new (Same.refl H12) hD, upd_same⟩ ?_ ?_ ?_
      · rintro j H13 hm ⟨s13, _⟩
        exact SqL.of (s13 _ _ hr12)
      · rintro j x H13 hx ⟨s13, hD13⟩
        obtain ⟨bx, hbx, px⟩ := paired_at hyp hx
        have bo := hbo bx (List.mem_of_getElem? hbx)
        have e := net_pass X hm30 hpl hpn bo
        have hm : j < ys.length := (List.getElem?_eq_some_iff.mp hx).1
        refine ⟨rfl, .ref p, rfl, x, rfl, .int ((b ^ m : Nat) : Int), rfl, by show 2 ≤ sizeLine; decide, fun t ht => ?_⟩
        have s14 : Same H12 (upd H13 t (.tup [.int 1, .int ((b ^ m : Nat) : Int)])) := s13.trans (same_new (Same.refl H13) ht)
        have hD14 : (upd H13 t (.tup [.int 1, .int ((b ^ m : Nat) : Int)])) D = some (.lst (List.replicate j (.bl false))) := (same_new (Same.refl H13) ht) _ _ hD13
        refine ⟨p, xs, x, .ref t, pts, bx, 1, ((b ^ m : Nat) : Int), rfl, s14 _ _ hp12, L2.Paired.mapP hpp12 fun _ _ z => z.tk s14.tk, px.tk s14.tk, ⟨t, rfl, upd_same⟩, by omega, by rw [bo.1]; decide, fun pt hpt => ?_, box_fb hpn bo, by decide, by omega, fun H15 s15 => ?_⟩
        · rw [bo.1]
          exact hlen pt hpt
        rw [e]
        refine ⟨_, s15 _ _ hD14, by rw [List.length_replicate]; exact small_line (by omega), same_new (s14.trans s15) hD, ?_⟩
        rw [upd_same, rep_snoc]
      · rintro H13 ⟨s13, hD13⟩
        refine ⟨D, _, rfl, .inl (SqL.of hD13), rfl, flat_false _, false, congrArg V.bl (inV_false _), ?_⟩
        exact ⟨.ref L, rfl, L, S, rfl, hF12.same s13, fun H' => q H'⟩
end
end Ev

namespace Ev
open PySem PySem.Spec PyProof.Rows L2
/-! ### what the top has left -/
theorem all_mk {l : PySem.W.OpenLaw} {w : World} {K : PySem.W.Frag} {h : Heap} {mg : Str → Option Value} {fa fS fF fR fD fG fT fP fB fN fW fE fO fX fY fI fA fL fZ fQ : Addr} (X : K.In h) (G : h.Ns mainGlobals mg) (hfa : mg "law" = some (.ref fa))
    {odS anS odF anF odR anR odD anD odG anG odT anT odP anP odB anB odN anN odW anW odE anE odO anO odX anX odY anY odI anI odA anA odL anL odZ anZ odQ anQ : Option Addr} {slS slF slR slD slG slT slP slB slN slW slE slO slX slY slI slA slL slZ slQ : Array (Option Value)}
    {ocS kVS dcS pmS cdS ctS ocF kVF dcF pmF cdF ctF ocR kVR dcR pmR cdR ctR ocD kVD dcD pmD cdD ctD ocG kVG dcG pmG cdG ctG ocT kVT dcT pmT cdT ctT ocP kVP dcP pmP cdP ctP ocB kVB dcB pmB cdB ctB ocN kVN dcN pmN cdN ctN ocW kVW dcW pmW cdW ctW ocE kVE dcE pmE cdE ctE ocO kVO dcO pmO cdO ctO ocX kVX dcX pmX cdX ctX ocY kVY dcY pmY cdY ctY ocI kVI dcI pmI cdI ctI ocA kVA dcA pmA cdA ctA ocL kVL dcL pmL cdL ctL ocZ kVZ dcZ pmZ cdZ ctZ ocQ kVQ dcQ pmQ cdQ ctQ : Value}
    (aS : PySem.W.nsIn K mainGlobals "shared" = some (some (.ref fS))) (lS : K.lookup fS = some ⟨ocS, odS, .func (PySem.W.fnOf "shared" "shared" (defArgs sShared) (defBody sShared) (defScope sShared) .none kVS dcS pmS anS cdS ctS), slS⟩) (cS : PySem.W.codeIn K cdS "shared" = true) (kS : PySem.W.keepIn K (.ref fS) = true)
    (aF : PySem.W.nsIn K mainGlobals "fraction" = some (some (.ref fF))) (lF : K.lookup fF = some ⟨ocF, odF, .func (PySem.W.fnOf "fraction" "fraction" (defArgs sFraction) (defBody sFraction) (defScope sFraction) .none kVF dcF pmF anF cdF ctF), slF⟩) (cF : PySem.W.codeIn K cdF "fraction" = true) (kF : PySem.W.keepIn K (.ref fF) = true)
    (aR : PySem.W.nsIn K mainGlobals "raised" = some (some (.ref fR))) (lR : K.lookup fR = some ⟨ocR, odR, .func (PySem.W.fnOf "raised" "raised" (defArgs sRaised) (defBody sRaised) (defScope sRaised) .none kVR dcR pmR anR cdR ctR), slR⟩) (cR : PySem.W.codeIn K cdR "raised" = true) (kR : PySem.W.keepIn K (.ref fR) = true)
    (aD : PySem.W.nsIn K mainGlobals "depth_for" = some (some (.ref fD))) (lD : K.lookup fD = some ⟨ocD, odD, .func (PySem.W.fnOf "depth_for" "depth_for" (defArgs sDepth) (defBody sDepth) (defScope sDepth) .none kVD dcD pmD anD cdD ctD), slD⟩) (cD : PySem.W.codeIn K cdD "depth_for" = true) (kD : PySem.W.keepIn K (.ref fD) = true)
    (aG : PySem.W.nsIn K mainGlobals "figures_of" = some (some (.ref fG))) (lG : K.lookup fG = some ⟨ocG, odG, .func (PySem.W.fnOf "figures_of" "figures_of" (defArgs sFigures) (defBody sFigures) (defScope sFigures) .none kVG dcG pmG anG cdG ctG), slG⟩) (cG : PySem.W.codeIn K cdG "figures_of" = true) (kG : PySem.W.keepIn K (.ref fG) = true)
    (aT : PySem.W.nsIn K mainGlobals "turned" = some (some (.ref fT))) (lT : K.lookup fT = some ⟨ocT, odT, .func (PySem.W.fnOf "turned" "turned" (defArgs sTurned) (defBody sTurned) (defScope sTurned) .none kVT dcT pmT anT cdT ctT), slT⟩) (cT : PySem.W.codeIn K cdT "turned" = true) (kT : PySem.W.keepIn K (.ref fT) = true)
    (aP : PySem.W.nsIn K mainGlobals "points_of" = some (some (.ref fP))) (lP : K.lookup fP = some ⟨ocP, odP, .func (PySem.W.fnOf "points_of" "points_of" (defArgs sPoints) (defBody sPoints) (defScope sPoints) .none kVP dcP pmP anP cdP ctP), slP⟩) (cP : PySem.W.codeIn K cdP "points_of" = true) (kP : PySem.W.keepIn K (.ref fP) = true)
    (aB : PySem.W.nsIn K mainGlobals "row_bound" = some (some (.ref fB))) (lB : K.lookup fB = some ⟨ocB, odB, .func (PySem.W.fnOf "row_bound" "row_bound" (defArgs sBound) (defBody sBound) (defScope sBound) .none kVB dcB pmB anB cdB ctB), slB⟩) (cB : PySem.W.codeIn K cdB "row_bound" = true) (kB : PySem.W.keepIn K (.ref fB) = true)
    (aN : PySem.W.nsIn K mainGlobals "_law_feed" = some (some (.ref fN))) (lN : K.lookup fN = some ⟨ocN, odN, .func (PySem.W.fnOf "_law_feed" "_law_feed" (defArgs sFeed) (defBody sFeed) (defScope sFeed) .none kVN dcN pmN anN cdN ctN), slN⟩) (cN : PySem.W.codeIn K cdN "_law_feed" = true) (kN : PySem.W.keepIn K (.ref fN) = true)
    (aW : PySem.W.nsIn K mainGlobals "_law_draw" = some (some (.ref fW))) (lW : K.lookup fW = some ⟨ocW, odW, .func (PySem.W.fnOf "_law_draw" "_law_draw" (defArgs sDraw) (defBody sDraw) (defScope sDraw) .none kVW dcW pmW anW cdW ctW), slW⟩) (cW : PySem.W.codeIn K cdW "_law_draw" = true) (kW : PySem.W.keepIn K (.ref fW) = true)
    (aE : PySem.W.nsIn K mainGlobals "_law_exchange" = some (some (.ref fE))) (lE : K.lookup fE = some ⟨ocE, odE, .func (PySem.W.fnOf "_law_exchange" "_law_exchange" (defArgs sExch) (defBody sExch) (defScope sExch) .none kVE dcE pmE anE cdE ctE), slE⟩) (cE : PySem.W.codeIn K cdE "_law_exchange" = true) (kE : PySem.W.keepIn K (.ref fE) = true)
    (aO : PySem.W.nsIn K mainGlobals "_law_row" = some (some (.ref fO))) (lO : K.lookup fO = some ⟨ocO, odO, .func (PySem.W.fnOf "_law_row" "_law_row" (defArgs sRow) (defBody sRow) (defScope sRow) .none kVO dcO pmO anO cdO ctO), slO⟩) (cO : PySem.W.codeIn K cdO "_law_row" = true) (kO : PySem.W.keepIn K (.ref fO) = true)
    (aX : PySem.W.nsIn K mainGlobals "_law_power" = some (some (.ref fX))) (lX : K.lookup fX = some ⟨ocX, odX, .func (PySem.W.fnOf "_law_power" "_law_power" (defArgs sPower) (defBody sPower) (defScope sPower) .none kVX dcX pmX anX cdX ctX), slX⟩) (cX : PySem.W.codeIn K cdX "_law_power" = true) (kX : PySem.W.keepIn K (.ref fX) = true)
    (aY : PySem.W.nsIn K mainGlobals "_law_boxes" = some (some (.ref fY))) (lY : K.lookup fY = some ⟨ocY, odY, .func (PySem.W.fnOf "_law_boxes" "_law_boxes" (defArgs sBoxes) (defBody sBoxes) (defScope sBoxes) .none kVY dcY pmY anY cdY ctY), slY⟩) (cY : PySem.W.codeIn K cdY "_law_boxes" = true) (kY : PySem.W.keepIn K (.ref fY) = true)
    (aI : PySem.W.nsIn K mainGlobals "_law_is_in" = some (some (.ref fI))) (lI : K.lookup fI = some ⟨ocI, odI, .func (PySem.W.fnOf "_law_is_in" "_law_is_in" (defArgs sIsIn) (defBody sIsIn) (defScope sIsIn) .none kVI dcI pmI anI cdI ctI), slI⟩) (cI : PySem.W.codeIn K cdI "_law_is_in" = true) (kI : PySem.W.keepIn K (.ref fI) = true)
    (aA : PySem.W.nsIn K mainGlobals "_law_passes" = some (some (.ref fA))) (lA : K.lookup fA = some ⟨ocA, odA, .func (PySem.W.fnOf "_law_passes" "_law_passes" (defArgs sPasses) (defBody sPasses) (defScope sPasses) .none kVA dcA pmA anA cdA ctA), slA⟩) (cA : PySem.W.codeIn K cdA "_law_passes" = true) (kA : PySem.W.keepIn K (.ref fA) = true)
    (aL : PySem.W.nsIn K mainGlobals "_law_least" = some (some (.ref fL))) (lL : K.lookup fL = some ⟨ocL, odL, .func (PySem.W.fnOf "_law_least" "_law_least" (defArgs sLeast) (defBody sLeast) (defScope sLeast) .none kVL dcL pmL anL cdL ctL), slL⟩) (cL : PySem.W.codeIn K cdL "_law_least" = true) (kL : PySem.W.keepIn K (.ref fL) = true)
    (aZ : PySem.W.nsIn K mainGlobals "_law_eighty_right" = some (some (.ref fZ))) (lZ : K.lookup fZ = some ⟨ocZ, odZ, .func (PySem.W.fnOf "_law_eighty_right" "_law_eighty_right" (defArgs sEighty) (defBody sEighty) (defScope sEighty) .none kVZ dcZ pmZ anZ cdZ ctZ), slZ⟩) (cZ : PySem.W.codeIn K cdZ "_law_eighty_right" = true) (kZ : PySem.W.keepIn K (.ref fZ) = true)
    (aQ : PySem.W.nsIn K mainGlobals "law" = some (some (.ref fQ))) (lQ : K.lookup fQ = some ⟨ocQ, odQ, .func (PySem.W.fnOf "law" "law" (defArgs sLaw) (defBody sLaw) (defScope sLaw) .none kVQ dcQ pmQ anQ cdQ ctQ), slQ⟩) (cQ : PySem.W.codeIn K cdQ "law" = true) (kQ : PySem.W.keepIn K (.ref fQ) = true)
    (z0 : PySem.W.nsIn K mainGlobals "len" = some none) (z1 : PySem.W.nsIn K mainGlobals "range" = some none) (z2 : PySem.W.nsIn K mainGlobals "zip" = some none) (z3 : PySem.W.nsIn K mainGlobals "abs" = some none) (z4 : PySem.W.nsIn K mainGlobals "max" = some none) (z5 : PySem.W.nsIn K mainGlobals "min" = some none) (z6 : PySem.W.nsIn K mainGlobals "list" = some none) (z7 : PySem.W.nsIn K mainGlobals "tuple" = some none) (z8 : PySem.W.nsIn K mainGlobals "dict" = some none) :
    ∃ fd : FuncData, (∀ (s : Shared) (v : Value), BindsTo s fd ⟨[v], []⟩ [("_law_script", v)]) ∧ ∀ base : Heap, K.In base → base.Ns mainGlobals mg → FnOk l.prog w K mg base CX0 6 fa fd ["_law_script"] (spLaw K) := by
  have e := hfa.symm.trans (PySem.W.mg_of X G aQ)
  cases e
  have T : Txt mg := ⟨PySem.W.mg_none_of X G z0, PySem.W.mg_none_of X G z1, PySem.W.mg_none_of X G z2, PySem.W.mg_none_of X G z3, PySem.W.mg_none_of X G z4, PySem.W.mg_none_of X G z5, PySem.W.mg_none_of X G z6, PySem.W.mg_none_of X G z7, PySem.W.mg_none_of X G z8⟩
  have FS := fun_mk (st := sShared) lS cS kS
  have bS := FS.binds (ps := ["one", "other"]) fun _ _ _ _ _ _ us hl => match us, hl with | [_, _], _ => rfl
  have gS := PySem.W.mg_of X G aS
  have FF := fun_mk (st := sFraction) lF cF kF
  have bF := FF.binds (ps := ["top", "bottom"]) fun _ _ _ _ _ _ us hl => match us, hl with | [_, _], _ => rfl
  have gF := PySem.W.mg_of X G aF
  have FR := fun_mk (st := sRaised) lR cR kR
  have bR := FR.binds (ps := ["base", "k"]) fun _ _ _ _ _ _ us hl => match us, hl with | [_, _], _ => rfl
  have gR := PySem.W.mg_of X G aR
  have FD := fun_mk (st := sDepth) lD cD kD
  have bD := FD.binds (ps := ["base", "many"]) fun _ _ _ _ _ _ us hl => match us, hl with | [_, _], _ => rfl
  have gD := PySem.W.mg_of X G aD
  have FG := fun_mk (st := sFigures) lG cG kG
  have bG := FG.binds (ps := ["base", "n"]) fun _ _ _ _ _ _ us hl => match us, hl with | [_, _], _ => rfl
  have gG := PySem.W.mg_of X G aG
  have FT := fun_mk (st := sTurned) lT cT kT
  have bT := FT.binds (ps := ["base", "exchange", "n"]) fun _ _ _ _ _ _ us hl => match us, hl with | [_, _, _], _ => rfl
  have gT := PySem.W.mg_of X G aT
  have FP := fun_mk (st := sPoints) lP cP kP
  have bP := FP.binds (ps := ["row", "begin", "many"]) fun _ _ _ _ _ _ us hl => match us, hl with | [_, _, _], _ => rfl
  have gP := PySem.W.mg_of X G aP
  have FB := fun_mk (st := sBound) lB cB kB
  have bB := FB.binds (ps := ["row", "many"]) fun _ _ _ _ _ _ us hl => match us, hl with | [_, _], _ => rfl
  have gB := PySem.W.mg_of X G aB
  have FN := fun_mk (st := sFeed) lN cN kN
  have bN := FN.binds (ps := ["_law_script"]) fun _ _ _ _ _ _ us hl => match us, hl with | [_], _ => rfl
  have gN := PySem.W.mg_of X G aN
  have FW := fun_mk (st := sDraw) lW cW kW
  have bW := FW.binds (ps := ["_law_feed_here", "_law_many"]) fun _ _ _ _ _ _ us hl => match us, hl with | [_, _], _ => rfl
  have gW := PySem.W.mg_of X G aW
  have FE := fun_mk (st := sExch) lE cE kE
  have bE := FE.binds (ps := ["_law_feed_here", "_law_base"]) fun _ _ _ _ _ _ us hl => match us, hl with | [_, _], _ => rfl
  have gE := PySem.W.mg_of X G aE
  have FO := fun_mk (st := sRow) lO cO kO
  have bO := FO.binds (ps := ["_law_feed_here", "_law_most"]) fun _ _ _ _ _ _ us hl => match us, hl with | [_, _], _ => rfl
  have gO := PySem.W.mg_of X G aO
  have FX := fun_mk (st := sPower) lX cX kX
  have bX := FX.binds (ps := ["_law_base", "_law_k"]) fun _ _ _ _ _ _ us hl => match us, hl with | [_, _], _ => rfl
  have gX := PySem.W.mg_of X G aX
  have FY := fun_mk (st := sBoxes) lY cY kY
  have bY := FY.binds (ps := ["_law_points"]) fun _ _ _ _ _ _ us hl => match us, hl with | [_], _ => rfl
  have gY := PySem.W.mg_of X G aY
  have FI := fun_mk (st := sIsIn) lI cI kI
  have bI := FI.binds (ps := ["_law_point", "_law_box", "_law_shut"]) fun _ _ _ _ _ _ us hl => match us, hl with | [_, _, _], _ => rfl
  have gI := PySem.W.mg_of X G aI
  have FA := fun_mk (st := sPasses) lA cA kA
  have bA := FA.binds (ps := ["_law_points", "_law_box", "_law_bound"]) fun _ _ _ _ _ _ us hl => match us, hl with | [_, _, _], _ => rfl
  have gA := PySem.W.mg_of X G aA
  have FL := fun_mk (st := sLeast) lL cL kL
  have bL := FL.binds (ps := ["_law_numbers"]) fun _ _ _ _ _ _ us hl => match us, hl with | [_], _ => rfl
  have gL := PySem.W.mg_of X G aL
  have FZ := fun_mk (st := sEighty) lZ cZ kZ
  have bZ := FZ.binds (ps := ["_law_feed_here"]) fun _ _ _ _ _ _ us hl => match us, hl with | [_], _ => rfl
  have gZ := PySem.W.mg_of X G aZ
  have FQ := fun_mk (st := sLaw) lQ cQ kQ
  exact ⟨PySem.W.fnOf "law" "law" (defArgs sLaw) (defBody sLaw) (defScope sLaw) .none kVQ dcQ pmQ anQ cdQ ctQ, fun s v => .of_eq rfl, fun base _ _ =>
    ok_law (k := 0) FQ T FS bS gS FF bF gF FR bR gR FD bD gD FG bG gG FT bT gT FP bP gP FB bB gB FN bN gN FW bW gW FE bE gE FO bO gO FX bX gX FY bY gY FI bI gI FA bA gA FL bL gL FZ bZ gZ⟩
end Ev
open PySem PySem.W PyProof.Rows in
set_option maxRecDepth 100000 in
set_option maxHeartbeats 0 in
theorem PySem.Challenge.cw_evenpoints_k44_whole_rows_keep_their_bou_holds : PySem.Challenge.rw_evenpoints_k44_whole_rows_keep_their_bou.Holds := by
  w_on; o_law; k_head; (case hw => w_witness2)
  k_fill
  refine L2.walk_of (l := PySem.Challenge.rw_evenpoints_k44_whole_rows_keep_their_bou) (n := 63) (k := 6) (x := "_law_script") (CX := fun _ => L2.CX0) (sp := fun w => Ev.spLaw _) rfl (by decide) rfl ⟨rfl, by decide, by decide⟩ (fun w h Y => PySem.W.kIn_of Y) ?F (fun _ _ a ns hl _ hS => ⟨a, ns, rfl, hS, fun _ => rfl⟩) (fun _ _ _ _ _ h => h)
  case F =>
    intro w mg fa h KX G hmg
    refine' Ev.all_mk KX G hmg ?aS ?lS ?cS ?kS ?aF ?lF ?cF ?kF ?aR ?lR ?cR ?kR ?aD ?lD ?cD ?kD ?aG ?lG ?cG ?kG ?aT ?lT ?cT ?kT ?aP ?lP ?cP ?kP ?aB ?lB ?cB ?kB ?aN ?lN ?cN ?kN ?aW ?lW ?cW ?kW ?aE ?lE ?cE ?kE ?aO ?lO ?cO ?kO ?aX ?lX ?cX ?kX ?aY ?lY ?cY ?kY ?aI ?lI ?cI ?kI ?aA ?lA ?cA ?kA ?aL ?lL ?cL ?kL ?aZ ?lZ ?cZ ?kZ ?aQ ?lQ ?cQ ?kQ ?z0 ?z1 ?z2 ?z3 ?z4 ?z5 ?z6 ?z7 ?z8
    (case aS => k_is)
    (case lS => k_is)
    (case cS => k_is)
    (case kS => k_is)
    (case aF => k_is)
    (case lF => k_is)
    (case cF => k_is)
    (case kF => k_is)
    (case aR => k_is)
    (case lR => k_is)
    (case cR => k_is)
    (case kR => k_is)
    (case aD => k_is)
    (case lD => k_is)
    (case cD => k_is)
    (case kD => k_is)
    (case aG => k_is)
    (case lG => k_is)
    (case cG => k_is)
    (case kG => k_is)
    (case aT => k_is)
    (case lT => k_is)
    (case cT => k_is)
    (case kT => k_is)
    (case aP => k_is)
    (case lP => k_is)
    (case cP => k_is)
    (case kP => k_is)
    (case aB => k_is)
    (case lB => k_is)
    (case cB => k_is)
    (case kB => k_is)
    (case aN => k_is)
    (case lN => k_is)
    (case cN => k_is)
    (case kN => k_is)
    (case aW => k_is)
    (case lW => k_is)
    (case cW => k_is)
    (case kW => k_is)
    (case aE => k_is)
    (case lE => k_is)
    (case cE => k_is)
    (case kE => k_is)
    (case aO => k_is)
    (case lO => k_is)
    (case cO => k_is)
    (case kO => k_is)
    (case aX => k_is)
    (case lX => k_is)
    (case cX => k_is)
    (case kX => k_is)
    (case aY => k_is)
    (case lY => k_is)
    (case cY => k_is)
    (case kY => k_is)
    (case aI => k_is)
    (case lI => k_is)
    (case cI => k_is)
    (case kI => k_is)
    (case aA => k_is)
    (case lA => k_is)
    (case cA => k_is)
    (case kA => k_is)
    (case aL => k_is)
    (case lL => k_is)
    (case cL => k_is)
    (case kL => k_is)
    (case aZ => k_is)
    (case lZ => k_is)
    (case cZ => k_is)
    (case kZ => k_is)
    (case aQ => k_is)
    (case lQ => k_is)
    (case cQ => k_is)
    (case kQ => k_is)
    (case z0 => k_is)
    (case z1 => k_is)
    (case z2 => k_is)
    (case z3 => k_is)
    (case z4 => k_is)
    (case z5 => k_is)
    (case z6 => k_is)
    (case z7 => k_is)
    (case z8 => k_is)
