/- Words and walks of my own: what each function of the program and of the library that the law reaches comes to, for every input that its callers hand it (file 2 of 5). Conditions: none but those that each theorem names. -/
import Derived.Test.YtpjildchnelinaaGw0
import Derived.Laws.IdiomStrings
import Derived.Carry
import Derived.Below
import Derived.Test.YtpjildchnelinaaRows
import Derived.KernelRfl
set_option linter.unusedVariables false
set_option linter.unnecessarySimpa false
set_option linter.unusedSimpArgs false
set_option linter.unusedSectionVars false
namespace Go.Gw
theorem mod_succ (y j : Nat) : y % 65536 ^ (j + 1) = y % 65536 ^ j + y / 65536 ^ j % 65536 * 65536 ^ j := by
  rw [Nat.pow_succ, Nat.mod_mul, Nat.mul_comm (65536 ^ j)]
theorem times_step {n m i j c z xi yj Z0 y s : Nat} (h : n + c * 65536 ^ (i + j) = Z0 + xi * (y % 65536 ^ j) * 65536 ^ i) (hm : m + z * 65536 ^ (i + j) = n + s % 65536 * 65536 ^ (i + j)) (hs : s = z + xi * yj + c) (hy : yj = y / 65536 ^ j % 65536) :
    m + s / 65536 * 65536 ^ (i + (j + 1)) = Z0 + xi * (y % 65536 ^ (j + 1)) * 65536 ^ i := by
  rw [mod_succ, ← hy, show i + (j + 1) = (i + j) + 1 by omega, Nat.pow_succ 65536 (i + j), Nat.mul_comm (65536 ^ (i + j)) 65536, ← Nat.mul_assoc]
  have e : s / 65536 * 65536 + s % 65536 = s := by omega
  have e1 : s * 65536 ^ (i + j) = s / 65536 * 65536 * 65536 ^ (i + j) + s % 65536 * 65536 ^ (i + j) := by rw [← Nat.add_mul, e]
  have e2 : s * 65536 ^ (i + j) = z * 65536 ^ (i + j) + xi * yj * 65536 ^ (i + j) + c * 65536 ^ (i + j) := by rw [hs, Nat.add_mul, Nat.add_mul]
  have e3 : xi * (y % 65536 ^ j + yj * 65536 ^ j) * 65536 ^ i = xi * (y % 65536 ^ j) * 65536 ^ i + xi * yj * 65536 ^ (i + j) := by
    rw [Nat.mul_add, Nat.add_mul, Nat.pow_add]
    congr 1
    rw [Nat.mul_assoc, Nat.mul_assoc, Nat.mul_comm (65536 ^ j), Nat.mul_assoc]
  rw [e3]
  omega
theorem ripple_step {n m k c z T s : Nat} (h : n + c * 65536 ^ k = T) (hm : m + z * 65536 ^ k = n + s % 65536 * 65536 ^ k) (hs : s = z + c) : m + s / 65536 * 65536 ^ (k + 1) = T := by
  rw [Nat.pow_succ, Nat.mul_comm (65536 ^ k) 65536, ← Nat.mul_assoc]
  have e : s / 65536 * 65536 + s % 65536 = s := by omega
  have e1 : s * 65536 ^ k = s / 65536 * 65536 * 65536 ^ k + s % 65536 * 65536 ^ k := by rw [← Nat.add_mul, e]
  have e2 : s * 65536 ^ k = z * 65536 ^ k + c * 65536 ^ k := by rw [hs, Nat.add_mul]
  omega
theorem times_next {x y i : Nat} : x % 65536 ^ i * y + x / 65536 ^ i % 65536 * y * 65536 ^ i = x % 65536 ^ (i + 1) * y := by
  rw [mod_succ, Nat.add_mul, Nat.mul_assoc, Nat.mul_assoc, Nat.mul_comm y]
theorem times_lt {x y i : Nat} (hi : i ≤ 8) (hx : x < 65536 ^ 8) (hy : y < 65536 ^ 8) : x % 65536 ^ i * y < 65536 ^ 16 := by
  have h1 : x % 65536 ^ i ≤ x := Nat.mod_le _ _
  have h2 : x % 65536 ^ i * y ≤ x * y := Nat.mul_le_mul_right _ h1
  have h3 : x * y < 65536 ^ 8 * 65536 ^ 8 := Nat.mul_lt_mul_of_lt_of_le hx (Nat.le_of_lt hy) (by decide)
  rw [← Nat.pow_add] at h3
  exact Nat.lt_of_le_of_lt h2 h3
/-- a bit of a number, out of its digits -/
theorem bit_of (x b : Nat) : x / 65536 ^ (b / 16) % 65536 / 2 ^ (b % 16) % 2 = x / 2 ^ b % 2 := by
  have e : (65536 : Nat) ^ (b / 16) = 2 ^ (16 * (b / 16)) := by rw [Nat.pow_mul]
  have h := Nat.mod_lt b (show 0 < 16 by decide)
  have e2 : (65536 : Nat) = 2 ^ (b % 16) * 2 ^ (16 - b % 16) := by rw [← Nat.pow_add, show b % 16 + (16 - b % 16) = 16 by omega]
  have e3 : ∀ n : Nat, n % 65536 / 2 ^ (b % 16) % 2 = n / 2 ^ (b % 16) % 2 := fun n => by
    conv => lhs; rw [e2]
    rw [Nat.mod_mul_right_div_self]
    refine Nat.mod_mod_of_dvd _ ?_
    refine ⟨2 ^ (15 - b % 16), ?_⟩
    rw [show 16 - b % 16 = 15 - b % 16 + 1 by omega, Nat.pow_succ, Nat.mul_comm]
  rw [e3, e, Nat.div_div_eq_div_mul, ← Nat.pow_add, show 16 * (b / 16) + b % 16 = b by omega]
theorem over_q {a y b : Nat} (hy : 0 < y) : (2 * a + b) / y = if y ≤ 2 * (a % y) + b then (if 2 * (a % y) + b < 2 * y then 2 * (a / y) + 1 else (2 * a + b) / y) else 2 * (a / y) := by
  have h := Nat.mod_add_div a y
  have hm := Nat.mod_lt a hy
  have e : 2 * a + b = (2 * (a % y) + b) + y * (2 * (a / y)) := by
    rw [Nat.mul_left_comm y 2]
    omega
  split
  · split
    · rw [e, Nat.add_mul_div_left _ _ hy, show (2 * (a % y) + b) / y = 1 from ?_]
      · omega
      · refine Nat.div_eq_of_lt_le (by omega) (by omega)
    · rfl
  · rw [e, Nat.add_mul_div_left _ _ hy, Nat.div_eq_of_lt (by omega)]
    omega
theorem over_r {a y b : Nat} (hy : 0 < y) (hb : b ≤ 1) : (2 * a + b) % y = if y ≤ 2 * (a % y) + b then 2 * (a % y) + b - y else 2 * (a % y) + b := by
  have h := Nat.mod_add_div a y
  have hm := Nat.mod_lt a hy
  have e : 2 * a + b = (2 * (a % y) + b) + y * (2 * (a / y)) := by
    rw [Nat.mul_left_comm y 2]
    omega
  rw [e, Nat.add_mul_mod_self_left]
  split
  · rw [Nat.mod_eq_sub_mod (by omega), Nat.mod_eq_of_lt (by omega)]
  · exact Nat.mod_eq_of_lt (by omega)
theorem half_bit (x b : Nat) : x / 2 ^ b = 2 * (x / 2 ^ (b + 1)) + x / 2 ^ b % 2 := by
  rw [Nat.pow_succ, ← Nat.div_div_eq_div_mul]
  omega
/-- the next bit of a quotient does not run over its digit -/
theorem bit_room (Q b : Nat) : Q * 2 ^ (b + 1) / 65536 ^ (b / 16) % 65536 + 2 ^ (b % 16) < 65536 := by
  have h := Nat.mod_lt b (show 0 < 16 by decide)
  have e : (65536 : Nat) ^ (b / 16) = 2 ^ (16 * (b / 16)) := by rw [Nat.pow_mul]
  have e1 : (2 : Nat) ^ (b + 1) = 2 ^ (b % 16 + 1) * 2 ^ (16 * (b / 16)) := by rw [← Nat.pow_add, show b % 16 + 1 + 16 * (b / 16) = b + 1 by omega]
  have e2 : (65536 : Nat) = 2 ^ (b % 16 + 1) * 2 ^ (15 - b % 16) := by rw [← Nat.pow_add, show b % 16 + 1 + (15 - b % 16) = 16 by omega]
  rw [e, e1, ← Nat.mul_assoc, Nat.mul_div_cancel _ (Nat.pow_pos (by decide))]
  have e3 : Q * 2 ^ (b % 16 + 1) % 65536 = 2 ^ (b % 16 + 1) * (Q % 2 ^ (15 - b % 16)) := by
    conv => lhs; rw [e2]
    rw [Nat.mul_comm Q, Nat.mul_mod_mul_left]
  rw [e3]
  have h4 : Q % 2 ^ (15 - b % 16) + 1 ≤ 2 ^ (15 - b % 16) := Nat.mod_lt _ (Nat.pow_pos (by decide))
  have h5 := Nat.mul_le_mul_left (2 ^ (b % 16 + 1)) h4
  rw [← e2, Nat.mul_add, Nat.mul_one] at h5
  have h6 : (2 : Nat) ^ (b % 16 + 1) = 2 * 2 ^ (b % 16) := by rw [Nat.pow_succ, Nat.mul_comm]
  have h7 : 0 < (2 : Nat) ^ (b % 16) := Nat.pow_pos (by decide)
  omega
theorem bit_val (b : Nat) : 2 ^ (b % 16) * 65536 ^ (b / 16) = 2 ^ b := by
  have e : (65536 : Nat) ^ (b / 16) = 2 ^ (16 * (b / 16)) := by rw [Nat.pow_mul]
  rw [e, ← Nat.pow_add, show b % 16 + 16 * (b / 16) = b by omega]
/-- an int64 out of a long number -/
def fitsN (below : Bool) (n : Nat) : Int × Bool :=
  if 18446744073709551616 ≤ n then (0, false)
  else if below = true ∧ 0 < n then (if 9223372036854775808 < n then (0, false) else (-(n : Int), true))
  else if 9223372036854775807 < n then (0, false) else ((n : Int), true)
end Go.Gw
namespace Go.Gw
theorem arr_len {pre : List Value} {D : List Int} {k : IntKind} {m : Nat} (hl : D.length = m) : (pre ++ D.map (vI k)).length = pre.length + m := by simp [hl]
theorem arr_one {pre : List Value} {D : List Int} {k : IntKind} (h : pre.all (·.oneCell') = true) : (pre ++ D.map (vI k)).all (·.oneCell') = true := by
  rw [List.all_append, h, Bool.true_and, List.all_map]
  exact List.all_eq_true.2 fun x _ => rfl
theorem arr_same {pre pre' : List Value} {D D' : List Int} {k : IntKind} {m : Nat} (hp : pre.length = pre'.length) (hl : D.length = m) (hl' : D'.length = m) : (pre ++ D.map (vI k)).length = (pre' ++ D'.map (vI k)).length := by simp [hl, hl', hp]
theorem arr_len1 {a : Value} {D : List Int} {k : IntKind} {m : Nat} (hl : D.length = m) : ([a] ++ D.map (vI k)).length = m + 1 := by simp [hl]
theorem arr_len0 {D : List Int} {k : IntKind} {m : Nat} (hl : D.length = m) : ([] ++ D.map (vI k)).length = m := by simp [hl]
section
variable [Dfs]
variable {P : Program} {N : Nat} {E : List (Nat × Value)} {w : World} {o : Oper}
theorem R.negx {t : TypeId} {x : Operand} {k : IntKind} {n : Int} (ho : o.op = .unOp .neg t x) (hx : opv E x = some (.int k n)) (h : Ok k (-n)) : R P N E o w (.int k (-n)) w := by
  have := R.neg (P := P) (N := N) (w := w) ho hx
  rwa [wrap_ok h] at this
end
structure GLong where
  Below : Bool
  N : Nat
def kLong : Kd GLong where
  sz := 17
  K := fun z x cs => ∃ (b : Bool) (n : Nat), b = x.Below ∧ n = x.N ∧ n < 65536 ^ 16 ∧ cs = [.bool b] ++ (digs 16 n).map (vI .u64)
  len := fun h => by
    obtain ⟨b, n, _, _, _, rfl⟩ := h
    rw [arr_len (digs_len 16 _)]
    rfl
  mono := fun hl h => h
  one := fun h => by
    obtain ⟨b, n, _, _, _, rfl⟩ := h
    intro u hu
    exact List.all_eq_true.1 (arr_one rfl) u hu
  pos := by decide
theorem kLong_flat {z z' : PH} {x : GLong} {cs : List Value} (h : kLong.K z x cs) : kLong.K z' x cs := h
theorem digs_all {k n : Nat} : ∀ (i : Nat) d, (digs k n)[i]? = some d → 0 ≤ d ∧ d ≤ 65535 := fun i d h => digs_bd h
/-- sums of long numbers -/
def UpI (x y k n c : Nat) : Prop := n < 65536 ^ k ∧ n + (x / 65536 ^ k + y / 65536 ^ k + c) * 65536 ^ k = x + y
theorem UpI.zero (x y : Nat) : UpI x y 0 0 0 := by
  unfold UpI
  simp
theorem div_succ (x k : Nat) : x / 65536 ^ (k + 1) = x / 65536 ^ k / 65536 := by rw [Nat.div_div_eq_div_mul, Nat.pow_succ]
theorem UpI.step {x y k n c s : Nat} (h : UpI x y k n c) (hs : s = x / 65536 ^ k % 65536 + y / 65536 ^ k % 65536 + c) : UpI x y (k + 1) (n + s % 65536 * 65536 ^ k) (s / 65536) := by
  obtain ⟨h1, h2⟩ := h
  unfold UpI
  rw [div_succ, div_succ, Nat.pow_succ]
  generalize 65536 ^ k = P at *
  generalize x / P = a at *
  generalize y / P = b at *
  have hm : s % 65536 * P ≤ 65535 * P := Nat.mul_le_mul_right _ (by omega)
  constructor
  · omega
  · rw [← h2, Nat.mul_comm P 65536, ← Nat.mul_assoc, Nat.add_assoc, ← Nat.add_mul]
    congr 2
    omega
theorem UpI.done {x y n c : Nat} (h : UpI x y 16 n c) (hxy : x + y < 65536 ^ 16) : n = x + y := by
  obtain ⟨h1, h2⟩ := h
  generalize (65536 : Nat) ^ 16 = P at *
  rcases Nat.eq_zero_or_pos (x / P + y / P + c) with h0 | h0
  · rw [h0] at h2; omega
  · have := Nat.mul_le_mul_right P h0
    omega
/-- differences -/
def DownI (x y k n b : Nat) : Prop := n < 65536 ^ k ∧ b ≤ 1 ∧ n + x / 65536 ^ k * 65536 ^ k + y = x + (y / 65536 ^ k + b) * 65536 ^ k
theorem DownI.zero (x y : Nat) : DownI x y 0 0 0 := by
  unfold DownI
  simp
theorem DownI.step {x y k n b s : Nat} (h : DownI x y k n b) (hs : s + y / 65536 ^ k % 65536 + b = x / 65536 ^ k % 65536 + 65536) : DownI x y (k + 1) (n + s % 65536 * 65536 ^ k) (1 - s / 65536) := by
  obtain ⟨h1, h0, h2⟩ := h
  unfold DownI
  rw [div_succ, div_succ, Nat.pow_succ]
  generalize 65536 ^ k = P at *
  generalize x / P = a at *
  generalize hb : y / P = d at *
  have hm : s % 65536 * P ≤ 65535 * P := Nat.mul_le_mul_right _ (by omega)
  refine ⟨by omega, by omega, ?_⟩
  have e1 : a / 65536 * (P * 65536) = a / 65536 * 65536 * P := by rw [Nat.mul_comm P, Nat.mul_assoc]
  have e2 : (d / 65536 + (1 - s / 65536)) * (P * 65536) = (d / 65536 + (1 - s / 65536)) * 65536 * P := by rw [Nat.mul_comm P, Nat.mul_assoc]
  have e3 : (s % 65536 + a / 65536 * 65536 + (d + b)) * P = ((d / 65536 + (1 - s / 65536)) * 65536 + a) * P := by
    congr 1
    omega
  rw [Nat.add_mul, Nat.add_mul, Nat.add_mul _ a] at e3
  rw [e1, e2]
  omega
theorem DownI.done {x y n b : Nat} (h : DownI x y 16 n b) (hx : x < 65536 ^ 16) (hy : y < 65536 ^ 16) (hxy : y ≤ x) : n = x - y := by
  obtain ⟨h1, h0, h2⟩ := h
  rw [Nat.div_eq_of_lt hx, Nat.div_eq_of_lt hy] at h2
  generalize (65536 : Nat) ^ 16 = P at *
  rcases (by omega : b = 0 ∨ b = 1) with rfl | rfl <;> omega
/-- a digit stored where the number had none -/
theorem put_new {n k : Nat} {v : Int} (hk : k < 16) (hn : n < 65536 ^ k) (h0 : 0 ≤ v) (h1 : v ≤ 65535) : (digs 16 n).set k v = digs 16 (n + v.toNat * 65536 ^ k) := by
  refine digs_set' hk h0 ?_ (by omega)
  rw [Nat.div_eq_of_lt hn]
  simp
theorem cmp_lt {x y k : Nat} (h : x / 65536 ^ (k + 1) = y / 65536 ^ (k + 1)) (h1 : x / 65536 ^ k % 65536 < y / 65536 ^ k % 65536) : cmpN x y = -1 := by
  unfold cmpN
  rw [if_pos (digs_lt h h1)]
theorem cmp_gt {x y k : Nat} (h : x / 65536 ^ (k + 1) = y / 65536 ^ (k + 1)) (h1 : y / 65536 ^ k % 65536 < x / 65536 ^ k % 65536) : cmpN x y = 1 := by
  unfold cmpN
  have := digs_lt h.symm h1
  rw [if_neg (by omega), if_pos this]
theorem cmp_eq {x y : Nat} (h : x / 65536 ^ 0 = y / 65536 ^ 0) : cmpN x y = 0 := by
  unfold cmpN
  simp at h
  rw [if_neg (by omega), if_neg (by omega)]
theorem put_new_s {n k s : Nat} {v : Int} (hk : k < 16) (hn : n < 65536 ^ k) (hv : v = ((s % 65536 : Nat) : Int)) : (digs 16 n).set k v = digs 16 (n + s % 65536 * 65536 ^ k) := by
  rw [put_new hk hn (by omega) (by omega), hv]
  rfl
end Go.Gw
namespace Go.Gw
theorem mul_digs {a b : Int} (h1 : 0 ≤ a) (h2 : a ≤ 65535) (h3 : 0 ≤ b) (h4 : b ≤ 65535) : 0 ≤ a * b ∧ a * b ≤ 4294836225 := by
  refine ⟨Int.mul_nonneg h1 h3, ?_⟩
  have := Int.mul_le_mul h2 h4 h3 (by omega : (0 : Int) ≤ 65535)
  omega
theorem ripple_done {n c k T : Nat} (h : n + c * 65536 ^ k = T) (hT : T < 65536 ^ 16) (hk : k = 16 ∨ c = 0) : n = T := by
  rcases hk with rfl | rfl
  · rcases Nat.eq_zero_or_pos c with rfl | h0
    · omega
    · have := Nat.mul_le_mul_right (65536 ^ 16) h0
      omega
  · omega
theorem over_step_lt {x y b : Nat} (hy : 0 < y) (h : 2 * (x / 2 ^ (b + 1) % y) + x / 2 ^ b % 2 < y) : x / 2 ^ b % y = 2 * (x / 2 ^ (b + 1) % y) + x / 2 ^ b % 2 ∧ x / 2 ^ b / y * 2 ^ b = x / 2 ^ (b + 1) / y * 2 ^ (b + 1) := by
  have h1 := over_r (a := x / 2 ^ (b + 1)) (b := x / 2 ^ b % 2) hy (by omega)
  have h2 := over_q (a := x / 2 ^ (b + 1)) (b := x / 2 ^ b % 2) hy
  rw [← half_bit, if_neg (by omega)] at h1 h2
  refine ⟨h1, ?_⟩
  rw [h2, Nat.pow_succ 2 b, Nat.mul_comm (2 ^ b), ← Nat.mul_assoc, Nat.mul_comm 2]
theorem over_step_ge {x y b : Nat} (hy : 0 < y) (h : y ≤ 2 * (x / 2 ^ (b + 1) % y) + x / 2 ^ b % 2) : x / 2 ^ b % y = 2 * (x / 2 ^ (b + 1) % y) + x / 2 ^ b % 2 - y ∧ x / 2 ^ b / y * 2 ^ b = x / 2 ^ (b + 1) / y * 2 ^ (b + 1) + 2 ^ b := by
  have h1 := over_r (a := x / 2 ^ (b + 1)) (b := x / 2 ^ b % 2) hy (by omega)
  have h2 := over_q (a := x / 2 ^ (b + 1)) (b := x / 2 ^ b % 2) hy
  have hm := Nat.mod_lt (x / 2 ^ (b + 1)) hy
  rw [← half_bit, if_pos (by omega)] at h1 h2
  rw [if_pos (by omega)] at h2
  refine ⟨h1, ?_⟩
  rw [h2, Nat.add_mul, Nat.one_mul, Nat.pow_succ 2 b, Nat.mul_comm (2 ^ b), ← Nat.mul_assoc, Nat.mul_comm 2]
theorem cmp_ge {x y : Nat} (h : 0 ≤ cmpN x y) : y ≤ x := by
  unfold cmpN at h
  refine Decidable.byContradiction fun hn => ?_
  rw [if_pos (by omega)] at h
  omega
theorem cmp_nge {x y : Nat} (h : ¬ 0 ≤ cmpN x y) : x < y := by
  unfold cmpN at h
  refine Decidable.byContradiction fun hn => h ?_
  rw [if_neg hn]
  split <;> omega
theorem dig_ne {n t : Nat} (h : n / 65536 ^ (4 + t) % 65536 ≠ 0) : 18446744073709551616 ≤ n := by
  refine Decidable.byContradiction fun hn => h ?_
  have : (65536 : Nat) ^ 4 ≤ 65536 ^ (4 + t) := Nat.pow_le_pow_right (by decide) (by omega)
  rw [Nat.div_eq_of_lt (by omega)]
theorem dig_zero {n t : Nat} (h : n / 65536 ^ 4 % 65536 ^ t = 0) (h1 : n / 65536 ^ (4 + t) % 65536 = 0) : n / 65536 ^ 4 % 65536 ^ (t + 1) = 0 := by
  rw [mod_succ, h, Nat.div_div_eq_div_mul, ← Nat.pow_add, h1, Nat.zero_mul]
theorem dig_small {n : Nat} (h : n / 65536 ^ 4 % 65536 ^ 12 = 0) (hn : n < 65536 ^ 16) : n < 18446744073709551616 := by
  have h1 : n / 65536 ^ 4 < 65536 ^ 12 := Nat.div_lt_of_lt_mul (by rw [← Nat.pow_add]; exact hn)
  rw [Nat.mod_eq_of_lt h1] at h
  omega
/-- the least digit with more, which does not run over -/
theorem put_add {n i v : Nat} {y : Int} (hi : i < 16) (e : y = ((n / 65536 ^ i % 65536 + v : Nat) : Int)) (hv : n / 65536 ^ i % 65536 + v < 65536) : (digs 16 n).set i y = digs 16 (n + v * 65536 ^ i) := by
  rw [e, digs_set 16 n i v hi hv]
section
variable [Dfs]
variable {P : Program} {N : Nat} {E : List (Nat × Value)} {w : World} {o : Oper}
theorem R.shrN (j : Nat) {t t' : TypeId} {x y : Operand} {k k' : IntKind} {m n : Int} (ho : o.op = .binOp .shr t x y t') (hx : opv E x = some (.int k m)) (hy : opv E y = some (.int k' n)) (hn : n = j) (hj : j ≤ k.bits) (hm : 0 ≤ m) : R P N E o w (.int k ((m.toNat / 2 ^ j : Nat) : Int)) w := by
  have := R.shr (P := P) (N := N) (w := w) ho hx hy (by omega)
  rw [hn, Int.toNat_natCast, Nat.min_eq_left hj] at this
  have e : ((m.toNat / 2 ^ j : Nat) : Int) = m / 2 ^ j := by
    rw [Int.natCast_ediv, Int.toNat_of_nonneg hm]
    push_cast
    rfl
  rw [e]
  exact this
theorem R.shl1 (j : Nat) {t t' : TypeId} {x y : Operand} {k' : IntKind} {n : Int} (ho : o.op = .binOp .shl t x y t') (hx : opv E x = some (.int .u64 1)) (hy : opv E y = some (.int k' n)) (hn : n = j) (hj : j < 64) : R P N E o w (.int .u64 ((2 ^ j : Nat) : Int)) w := by
  have := R.shl (P := P) (N := N) (w := w) ho hx hy (by omega)
  rw [hn, Int.toNat_natCast, Nat.min_eq_left (show j ≤ IntKind.u64.bits by show j ≤ 64; omega)] at this
  have h1 : (2 : Nat) ^ j ≤ 2 ^ 63 := Nat.pow_le_pow_right (by decide) (by omega)
  rw [wrap_ok (k := .u64) (n := 1 * 2 ^ j) (ok_u64 ?_)] at this
  · rw [Int.one_mul] at this
    push_cast
    exact this
  · have e : (1 : Int) * 2 ^ j = ((2 ^ j : Nat) : Int) := by rw [Int.one_mul]; push_cast; rfl
    rw [e]
    exact ⟨Int.natCast_nonneg _, Int.ofNat_le.2 (by omega : 2 ^ j ≤ 18446744073709551615)⟩
end
theorem vtup2i {k : IntKind} {a b : Int} {v : Value} (h : a = b) : Value.tuple #[.int k a, v] = Value.tuple #[.int k b, v] := by rw [h]
end Go.Gw
namespace Go.Gw
def mulDivS (a b d : Int) : Int × Bool := if d = 0 then (0, false) else fitsN (!((!(decide (a < 0) == decide (b < 0))) == decide (d < 0))) (a.natAbs * b.natAbs / d.natAbs)
theorem mulDivS_zero {a b d : Int} (h : d = 0) : mulDivS a b d = (0, false) := by
  unfold mulDivS
  rw [if_pos h]
theorem mulDivS_of {a b d : Int} (h : ¬ d = 0) : mulDivS a b d = fitsN (!((!(decide (a < 0) == decide (b < 0))) == decide (d < 0))) (a.natAbs * b.natAbs / d.natAbs) := by
  unfold mulDivS
  rw [if_neg h]
theorem mulDivS_pos {a b d : Int} (h0 : 0 ≤ a) (h1 : 0 ≤ b) (h2 : 0 < d) (h3 : a * b / d ≤ 9223372036854775807) : mulDivS a b d = (a * b / d, true) := by
  rw [mulDivS_of (by omega), decide_eq_false (by omega), decide_eq_false (by omega), decide_eq_false (by omega)]
  have e : ((a.natAbs * b.natAbs / d.natAbs : Nat) : Int) = a * b / d := by
    rw [Int.natCast_ediv, Int.natCast_mul, Int.natAbs_of_nonneg h0, Int.natAbs_of_nonneg h1, Int.natAbs_of_nonneg (by omega)]
  rw [← e] at h3 ⊢
  generalize a.natAbs * b.natAbs / d.natAbs = n at *
  unfold fitsN
  rw [if_neg (by omega), if_neg (by simp), if_neg (by omega)]
theorem tax_bd {n t : Int} (h0 : 0 ≤ n) (h1 : n ≤ 160000000000000) (h2 : 0 ≤ t) (h3 : t ≤ 5000) : 0 ≤ n * t ∧ n * t ≤ 800000000000000000 := by
  refine ⟨Int.mul_nonneg h0 h2, ?_⟩
  have := Int.mul_le_mul h1 h3 h2 (by omega : (0 : Int) ≤ 160000000000000)
  omega
end Go.Gw
namespace Go.Gw
open Go.RowKit
section
variable [Dfs]
variable {P : Program} {N : Nat} {ops : Array Oper} {Q : Exit → Act → World → Prop} {l : List Oper} {E : List (Nat × Value)} {w : World} {o : Oper} {d : Nat}
theorem R.ifeql {t t' u : TypeId} {ms : Array (String × TypeId)} {v : Value} {x y : Operand} (ho : o.op = .binOp .eql t x y t') (hx : opv E x = some (.iface u v)) (hy : opv E y = some .nilIface) (hu : P.underlying t = some (.interface ms)) : R P N E o w (.bool false) w := fun q hq => by
  have h0 := eqn_if (P := P) (w := w) (d := 9999) (u := u) (v := v) hu
  have h : (Op.equal t (.iface u v) .nilIface).run P w = .ok false w := h0
  simp [execOp, ho, hq.op hx, hq.op hy, eqGuard, binOp, h]
theorem method_direct {n : Nat} {t : TypeId} {v : Value} {name : String} {f : FuncId} {fs : Array Field} (hm : (P.info? t).bind (fun i => (i.methods.find? (·.name == name)).map fun m => (m.path.toList, m.func)) = some ([], some (f, false))) (hu : P.underlying t = some (.struct fs)) : (method (n + 1) t v name).run P w = .ok (f, v) w := by
  obtain ⟨i, h1, h2⟩ := Option.bind_eq_some_iff.1 hm
  obtain ⟨m, h3, h4⟩ := Option.map_eq_some_iff.1 h2
  simp only [Prod.mk.injEq] at h4
  unfold method
  simp [typeInfo, h1, h3, h4.1, h4.2, follow, receiverAt, run_underlying hu, Place.get]
theorem W.invoke {f : FuncId} {fn : Func} {xr : Operand} {name : String} {t : TypeId} {x : Value} {ars : Array Operand} {ts : Array TypeId} {vs : List Value} {R : Value → World → Prop} {fs : Array Field} (hg : wnt ops E o = some true) (hd : o.dst = some d) (hN : Nat.blt d N = true) (ho : o.op = .call { callee := .invoke xr name, args := ars, argTypes := ts })
    (hx : opv E xr = some (.iface t x)) (hvs : opvs E ars.toList = some vs) (hm : (P.info? t).bind (fun i => (i.methods.find? (·.name == name)).map fun m => (m.path.toList, m.func)) = some ([], some (f, false))) (hu : P.underlying t = some (.struct fs))
    (hf : P.funcs[f]? = some fn) (hname : (fn.name == "runtime.NumGoroutine") = false) (hb : fn.body.isSome = true) (hc : Calls P f (x :: vs).toArray w (Ret R)) (h : ∀ v w', R v w' → W P N ops Q l ((d, v) :: E) w') : W P N ops Q (o :: l) E w := by
  refine W.enters hg hd hN (fun a ha => ?_) hc (fun _ h => h) (fun v w' hv => h v w' hv) (fun c w' hc => (show False from hc).elim)
  have h1 : fn.name ≠ "runtime.NumGoroutine" := by simpa using hname
  obtain ⟨c, hcb⟩ := Option.isSome_iff_exists.1 hb
  have he : (callFunc f (x :: vs).toArray).run P w = .ok (.enter f (x :: vs).toArray) w := by simp [callFunc, hf, h1, hcb]
  have hargs : ars.map a.eval = vs.toArray := by
    have := ha.ops hvs
    rw [← this]
    apply Array.ext'
    simp
  have hxe := ha.op hx
  have hme := method_direct (P := P) (w := w) (v := x) (n := P.types.size + Made.depth - 1) hm hu
  rw [show P.types.size + Made.depth - 1 + 1 = P.types.size + Made.depth by unfold Made.depth; omega] at hme
  have hex : (#[Value.iface t x] ++ vs.toArray).extract 1 (#[Value.iface t x] ++ vs.toArray).size = vs.toArray := by
    apply Array.ext'
    simp
  have hcat : #[x] ++ vs.toArray = (x :: vs).toArray := by
    apply Array.ext'
    simp
  unfold execOp
  simp only [ho, resolve, hxe, hargs, Sem.run_bind, Sem.run_pure, Result.andThen_ok, Go.invoke]
  rw [show (#[Value.iface t x] ++ vs.toArray)[0]? = some (Value.iface t x) by simp]
  simp only [hex]
  unfold callMethod
  have hp : Sem.run P program w = .ok P w := by first | rfl | simp [program]
  simp only [Sem.run_bind, hp, Result.andThen_ok, hme, hcat, he]
end
end Go.Gw
namespace Go.Gw
def fit1 (v : GV1) (least dear : Int) : Bool := decide (1 ≤ v.Order ∧ v.Order ≤ 1099511627776 ∧ 0 ≤ v.Item ∧ v.Item ≤ 65535 ∧ least ≤ v.Qty ∧ v.Qty ≤ 10000 ∧ 0 ≤ v.Price ∧ v.Price ≤ dear)
def fit2 (v : GV2) : Bool := fit1 v.V1 (-10000) 100000000 && decide (0 ≤ v.Cur ∧ v.Cur ≤ 3)
def fit3 (v : GV3) : Bool := fit2 v.V2 && decide (0 ≤ v.V2.V1.Qty) && decide (0 ≤ v.Tax ∧ v.Tax ≤ 5000)
def fit4 (v : GV4) : Bool := fit3 v.V3 && whoB v.Who.data.toList
def fit5 (v : GV5) : Bool := fit4 v.V4 && decide (0 ≤ v.Stamp ∧ v.Stamp ≤ 1099511627776)
def ev1 (v : GV1) : GEvent := ⟨v.Kind, v.Order, v.Item, v.Qty, v.Price, 0, 0, ⟨#[]⟩, 0, ⟨#[]⟩⟩
def ev2 (v : GV2) : GEvent := { ev1 v.V1 with Cur := v.Cur }
def ev3 (v : GV3) : GEvent := { ev2 v.V2 with Tax := v.Tax }
def ev4 (v : GV4) : GEvent := { ev3 v.V3 with Who := v.Who }
def ev5 (v : GV5) : GEvent := { ev4 v.V4 with Stamp := v.Stamp, Note := v.Note }
def liftE (e : GEvent) : GV5 := ⟨⟨⟨⟨⟨e.Kind, e.Order, e.Item, e.Qty, e.Price⟩, e.Cur⟩, e.Tax⟩, e.Who⟩, e.Stamp, e.Note⟩
def fieldsP (e : GEvent) : Prop := (1 ≤ e.Order ∧ e.Order ≤ 1099511627776) ∧ (0 ≤ e.Item ∧ e.Item ≤ 65535) ∧ (0 ≤ e.Qty ∧ e.Qty ≤ 10000) ∧ (0 ≤ e.Price ∧ e.Price ≤ 100000000) ∧ (0 ≤ e.Cur ∧ e.Cur ≤ 3) ∧ (0 ≤ e.Tax ∧ e.Tax ≤ 5000) ∧ (0 ≤ e.Stamp ∧ e.Stamp ≤ 1099511627776)
instance (e : GEvent) : Decidable (fieldsP e) := by unfold fieldsP; infer_instance
/-- an event of version 4 or 5 -/
def checkE (v : Int) (e : GEvent) : Int :=
  if e.Kind < 1 ∨ lastE v < e.Kind then 31
  else if 16 < e.Who.size ∨ 120 < e.Note.size then 24
  else if fieldsP e ∧ (v = 4 → e.Stamp = 0 ∧ e.Note.size = 0) ∧ whoB e.Who.data.toList = true then 0 else 32
theorem fit5_lift (e : GEvent) : fit5 (liftE e) = (decide (fieldsP e) && whoB e.Who.data.toList) := by
  unfold fit5 fit4 fit3 fit2 fit1 liftE fieldsP
  rw [Bool.eq_iff_iff]
  simp only [Bool.and_eq_true, decide_eq_true_eq]
  grind
theorem whoB_drop {l : List UInt8} {k : Nat} {y : UInt8} (h : l[k]? = some y) : whoB (l.drop k) = (decide (y.toNat = 45 ∨ 48 ≤ y.toNat ∧ y.toNat ≤ 57 ∨ 97 ≤ y.toNat ∧ y.toNat ≤ 122) && whoB (l.drop (k + 1))) := all_drop h
theorem checkE_31 {v : Int} {e : GEvent} (h : e.Kind < 1 ∨ lastE v < e.Kind) : checkE v e = 31 := by
  unfold checkE
  rw [if_pos h]
theorem checkE_24 {v : Int} {e : GEvent} (h : ¬ (e.Kind < 1 ∨ lastE v < e.Kind)) (h1 : 16 < e.Who.size ∨ 120 < e.Note.size) : checkE v e = 24 := by
  unfold checkE
  rw [if_neg h, if_pos h1]
theorem checkE_32 {v : Int} {e : GEvent} (h : ¬ (e.Kind < 1 ∨ lastE v < e.Kind)) (h1 : ¬ (16 < e.Who.size ∨ 120 < e.Note.size)) (h2 : ¬ (fieldsP e ∧ (v = 4 → e.Stamp = 0 ∧ e.Note.size = 0) ∧ whoB e.Who.data.toList = true)) : checkE v e = 32 := by
  unfold checkE
  rw [if_neg h, if_neg h1, if_neg h2]
theorem checkE_0 {v : Int} {e : GEvent} (h : ¬ (e.Kind < 1 ∨ lastE v < e.Kind)) (h1 : ¬ (16 < e.Who.size ∨ 120 < e.Note.size)) (h2 : fieldsP e) (h3 : v = 4 → e.Stamp = 0 ∧ e.Note.size = 0) (h4 : whoB e.Who.data.toList = true) : checkE v e = 0 := by
  unfold checkE
  rw [if_neg h, if_neg h1, if_pos ⟨h2, h3, h4⟩]
def placeE (who : ByteArray) : GEvent := ⟨1, 1, 0, 0, 0, 0, 0, who, 0, ⟨#[]⟩⟩
/-- a right name -/
def nameB (who : ByteArray) : Bool := decide (who.size ≤ 16) && whoB who.data.toList
theorem placeE_ok {v : Int} {who : ByteArray} (hv : v = 4 ∨ v = 5) : checkE v (placeE who) = 0 ↔ nameB who = true := by
  have h31 : ¬ ((placeE who).Kind < 1 ∨ lastE v < (placeE who).Kind) := by
    rcases hv with rfl | rfl
    · show ¬ ((1 : Int) < 1 ∨ lastE 4 < 1); decide
    · show ¬ ((1 : Int) < 1 ∨ lastE 5 < 1); decide
  have hf : fieldsP (placeE who) := by
    unfold fieldsP
    simp only [placeE]
    decide
  have hn : (placeE who).Note.size = 0 := rfl
  have hs : (placeE who).Stamp = 0 := rfl
  have hw : (placeE who).Who = who := rfl
  unfold nameB
  rw [Bool.and_eq_true, decide_eq_true_eq]
  constructor
  · intro h
    unfold checkE at h
    rw [if_neg h31] at h
    split at h
    · omega
    · rename_i h1
      split at h
      · rename_i h2
        rw [hw] at h1 h2
        exact ⟨by omega, h2.2.2⟩
      · omega
  · rintro ⟨h1, h2⟩
    exact checkE_0 h31 (by rw [hw, hn]; omega) hf (fun _ => ⟨hs, hn⟩) h2
end Go.Gw
namespace Go.Gw
def boundP (s : GState) : Prop := (1 ≤ s.Order ∧ s.Order ≤ 1099511627776) ∧ (0 ≤ s.Status ∧ s.Status ≤ 5) ∧ (0 ≤ s.Cur ∧ s.Cur ≤ 3) ∧ (0 ≤ s.Tax ∧ s.Tax ≤ 5000) ∧ (0 ≤ s.Refunded ∧ s.Refunded ≤ s.Paid) ∧ (0 ≤ s.Events ∧ s.Events ≤ 1099511627776) ∧ (0 ≤ s.Refused ∧ s.Refused ≤ s.Events) ∧ (0 ≤ s.Stamp ∧ s.Stamp ≤ 1099511627776)
instance (s : GState) : Decidable (boundP s) := by unfold boundP; infer_instance
def boundB (s : GState) : Bool := decide (boundP s) && linesOk s.Lines && nameB s.Who
theorem linesOk_spec {ls : List GLine} (h : linesOk ls = true) : ls.length ≤ 16 ∧ lokB (-1) ls = true := by
  unfold linesOk at h
  rw [Bool.and_eq_true, decide_eq_true_eq] at h
  exact h
theorem boundB_spec {s : GState} (h : boundB s = true) : boundP s ∧ (s.Lines.length ≤ 16 ∧ lokB (-1) s.Lines = true) ∧ nameB s.Who = true := by
  unfold boundB at h
  rw [Bool.and_eq_true, Bool.and_eq_true, decide_eq_true_eq] at h
  exact ⟨h.1.1, linesOk_spec h.1.2, h.2⟩
theorem boundB_p {s : GState} (h : ¬ boundP s) : boundB s = false := by
  unfold boundB
  rw [decide_eq_false h]
  rfl
theorem boundB_l {s : GState} (h : linesOk s.Lines = false) : boundB s = false := by
  unfold boundB
  rw [h, Bool.and_false]
  rfl
theorem boundB_n {s : GState} (h : nameB s.Who = false) : boundB s = false := by
  unfold boundB
  rw [h, Bool.and_false]
theorem boundB_go {s : GState} (h : boundP s) (h1 : linesOk s.Lines = true) : boundB s = nameB s.Who := by
  unfold boundB
  rw [decide_eq_true h, h1]
  rfl
def priorP (s : GState) : Prop := (s.Status = 2 → s.Prior = 1 ∨ s.Prior = 3) ∧ (¬ s.Status = 2 → s.Prior = 0)
instance (s : GState) : Decidable (priorP s) := by unfold priorP; infer_instance
def fullB (s : GState) : Bool := decide (0 < s.Paid ∧ s.Paid = dueS s)
def standB (s : GState) : Bool :=
  if standsS s = 0 then decide (s.Lines.length = 0 ∧ s.Cur = 0 ∧ s.Tax = 0 ∧ s.Stamp = 0 ∧ s.Who.data.toList = [] ∧ s.Refused = s.Events)
  else if standsS s = 1 then untB s.Lines && decide (s.Refunded = 0) && !fullB s
  else if standsS s = 3 then fullB s && !wholeB s.Lines
  else if standsS s = 4 then fullB s && wholeB s.Lines
  else untB s.Lines
def validS (s : GState) : Bool := boundB s && decide (s.Paid ≤ dueS s) && decide (priorP s) && standB s
theorem validS_b {s : GState} (h : boundB s = false) : validS s = false := by
  unfold validS
  rw [h]
  rfl
theorem validS_d {s : GState} (h : ¬ s.Paid ≤ dueS s) : validS s = false := by
  unfold validS
  rw [decide_eq_false h, Bool.and_false]
  rfl
theorem validS_p {s : GState} (h : ¬ priorP s) : validS s = false := by
  unfold validS
  rw [decide_eq_false h, Bool.and_false]
  rfl
theorem validS_go {s : GState} (h : boundB s = true) (h1 : s.Paid ≤ dueS s) (h2 : priorP s) : validS s = standB s := by
  unfold validS
  rw [h, decide_eq_true h1, decide_eq_true h2]
  rfl
theorem standB_0 {s : GState} (h : standsS s = 0) : standB s = decide (s.Lines.length = 0 ∧ s.Cur = 0 ∧ s.Tax = 0 ∧ s.Stamp = 0 ∧ s.Who.data.toList = [] ∧ s.Refused = s.Events) := by
  unfold standB
  rw [if_pos h]
theorem standB_1 {s : GState} (h : standsS s = 1) : standB s = (untB s.Lines && decide (s.Refunded = 0) && !fullB s) := by
  unfold standB
  rw [if_neg (by omega), if_pos h]
theorem standB_3 {s : GState} (h : standsS s = 3) : standB s = (fullB s && !wholeB s.Lines) := by
  unfold standB
  rw [if_neg (by omega), if_neg (by omega), if_pos h]
theorem standB_4 {s : GState} (h : standsS s = 4) : standB s = (fullB s && wholeB s.Lines) := by
  unfold standB
  rw [if_neg (by omega), if_neg (by omega), if_neg (by omega), if_pos h]
theorem standB_5 {s : GState} (h0 : ¬ standsS s = 0) (h1 : ¬ standsS s = 1) (h3 : ¬ standsS s = 3) (h4 : ¬ standsS s = 4) : standB s = untB s.Lines := by
  unfold standB
  rw [if_neg h0, if_neg h1, if_neg h3, if_neg h4]
theorem netL_nil {ls : List GLine} (h : ls.length = 0) : netL ls = 0 := by
  rw [List.length_eq_zero_iff.1 h]
  rfl
end Go.Gw
namespace Go.Gw
abbrev lowV : List Int := [0, 1, 1, 0, 0, 0, 0, 0, 0, 0, 0]
abbrev highV : List Int := [0, 10, 1099511627776, 65535, 10000, 100000000, 3, 5000, 0, 1099511627776, 0]
theorem last45 {v : Int} (hv : v = 4 ∨ v = 5) : lastE v ≤ 10 := by
  rcases hv with rfl | rfl <;> decide
theorem chk_at {v : Int} {e : GEvent} {k : Nat} {y : Int} (hv : v = 4 ∨ v = 5) (h1 : 1 ≤ k) (h2 : k ≤ 10) (hK : ¬ (e.Kind < 1 ∨ lastE v < e.Kind)) (hy : (numsE e)[k]? = some y) (hf : fieldsP e) (h4 : v = 4 → e.Stamp = 0 ∧ e.Note.size = 0) :
    (hasE v < (k : Int) → y = 0) ∧ (∀ l, lowV[k]? = some l → l ≤ y) ∧ (∀ h, highV[k]? = some h → y ≤ h) := by
  have hl := last45 hv
  unfold fieldsP at hf
  have hh4 : hasE 4 = 8 := rfl
  have hh5 : hasE 5 = 10 := rfl
  have hk : k = 1 ∨ k = 2 ∨ k = 3 ∨ k = 4 ∨ k = 5 ∨ k = 6 ∨ k = 7 ∨ k = 8 ∨ k = 9 ∨ k = 10 := by omega
  rcases hk with rfl | rfl | rfl | rfl | rfl | rfl | rfl | rfl | rfl | rfl <;>
  · simp [numsE] at hy
    refine ⟨fun hh => ?_, fun l hll => ?_, fun h hhh => ?_⟩
    · rcases hv with rfl | rfl <;> simp_all <;> omega
    · simp at hll; omega
    · simp at hhh; omega
theorem chk_all {v : Int} {e : GEvent} (hv : v = 4 ∨ v = 5) (h : ∀ (j : Nat) (y l hh : Int), 1 ≤ j → j < 11 → (numsE e)[j]? = some y → lowV[j]? = some l → highV[j]? = some hh → (l ≤ y ∧ y ≤ hh) ∧ (hasE v < (j : Int) → y = 0)) : fieldsP e ∧ (v = 4 → e.Stamp = 0) := by
  have h2 := h 2 _ _ _ (by decide) (by decide) rfl rfl rfl
  have h3 := h 3 _ _ _ (by decide) (by decide) rfl rfl rfl
  have h4 := h 4 _ _ _ (by decide) (by decide) rfl rfl rfl
  have h5 := h 5 _ _ _ (by decide) (by decide) rfl rfl rfl
  have h6 := h 6 _ _ _ (by decide) (by decide) rfl rfl rfl
  have h7 := h 7 _ _ _ (by decide) (by decide) rfl rfl rfl
  have h9 := h 9 _ _ _ (by decide) (by decide) rfl rfl rfl
  refine ⟨⟨h2.1, h3.1, h4.1, h5.1, h6.1, h7.1, h9.1⟩, fun hv4 => h9.2 ?_⟩
  subst hv4
  decide
theorem size_nil {s : ByteArray} (h : s.data.toList = []) : s.size = 0 := by
  have : s.data.toList.length = s.size := by simp
  rw [← this, h]
  rfl
theorem nil_size {s : ByteArray} (h : s.size = 0) : s.data.toList = [] := by
  have : s.data.toList.length = s.size := by simp
  exact List.length_eq_zero_iff.1 (by omega)
theorem due_nil {s : GState} (h : s.Lines.length = 0) : dueS s = 0 := by
  unfold dueS
  rw [netL_nil h]
  simp
end Go.Gw
namespace Go.Gw
open Go.RowKit
section
variable [Dfs]
variable {P : Program} {N : Nat} {ops : Array Oper} {Q : Exit → Act → World → Prop} {l : List Oper} {E : List (Nat × Value)} {w w0 : World} {o : Oper} {d : Nat} {Z : List PH}
theorem reps_bytes {z : PH} : ∀ (xs : List UInt8), Reps kU8 z xs (xs.map fun b => Value.int .u8 (b.toNat : Int))
  | [] => rfl
  | x :: r => ⟨[.int .u8 (x.toNat : Int)], r.map fun b => Value.int .u8 (b.toNat : Int), rfl, rfl, reps_bytes r⟩
theorem W.strBytes {s t e : Nat} {x : Operand} {u : ByteArray} (hg : wnt ops E o = some true) (hd : o.dst = some d) (hN : Nat.blt d N = true) (ho : o.op = .convert s t x) (hx : opv E x = some (.string u)) (hs : P.underlying s = some .string) (ht : P.underlying t = some (.slice e)) (he : P.underlying e = some (.int .u8)) (hu : u.size ≤ 9223372036854775807) (hH : Has w0 w Z)
    (h : ∀ A c z w', Has w0 w' (z :: Z) → Row kU8 z A u.data.toList → u.data.toList.length ≤ c → W P N ops Q l ((d, .slice A u.data.toList.length c) :: E) w') : W P N ops Q (o :: l) E w := by
  have hrun := run_bytes_of_string (P := P) w s t e u hs ht he
  have hcap : u.size ≤ grownCap w u.size 0 e := grownCap_ge _ _ _ _
  have hlen : u.data.toList.length = u.size := by simp
  refine W.val (w' := w.drew.alloc (.cells (bytesRow u (grownCap w u.size 0 e)) e ((bytesRow u (grownCap w u.size 0 e)).size, (bytesRow u (grownCap w u.size 0 e)).size + 1))) (v := .slice (some ⟨w.heap.size, 0, none⟩) u.data.toList.length (grownCap w u.size 0 e)) hg hd hN (fun a ha => ?_) (h _ _ (pt w.heap.size (.cells (bytesRow u (grownCap w u.size 0 e)) e ((bytesRow u (grownCap w u.size 0 e)).size, (bytesRow u (grownCap w u.size 0 e)).size + 1))) _ ?_ ?_ ?_)
  · rw [hlen]
    simp [execOp, ho, ha.op hx, hrun]
  · exact hH.drew.alloc _
  · refine ⟨by omega, ?_⟩
    right
    refine ⟨_, _, rfl, reps_bytes _, fun k v hv => ?_⟩
    have hk : (bytesRow u (grownCap w u.size 0 e))[k]? = some v := by
      unfold bytesRow
      have hlt : k < u.data.size := by
        have := (List.getElem?_eq_some_iff.1 hv).1
        simpa using this
      rw [Array.getElem?_append_left (by simpa using hlt)]
      rw [Array.getElem?_map]
      rw [List.getElem?_map] at hv
      simpa using hv
    have := At.pt w.heap.size (bytesRow u (grownCap w u.size 0 e)) e ((bytesRow u (grownCap w u.size 0 e)).size, (bytesRow u (grownCap w u.size 0 e)).size + 1) k v (by simpa using hk)
    exact this
  · rw [hlen]; exact hcap
theorem R.buildD {t e m : Nat} {ps : Array (Nat × Operand)} {pv : List (Nat × Value)} {zv : Value} {k : IntKind} (D : List Int) (ho : o.op = .build t ps) (hx : pvs E ps.toList = some pv) (hz : (P.info? t).bind (·.zero) = some zv) (hzs : zv.cells.toList.length = m) (hu : P.underlying t = some (.array m e)) (hsz : (P.info? e).map (·.size) = some 1)
    (hD : pv = (List.range' 0 m).zip (D.map (vI k))) (hl : D.length = m) : R P N E o w (.agg (D.map (vI k)).toArray) w := by
  have hpl : pv.length = m := by rw [hD]; simp [hl]
  have e2 : pv.map (·.2) = D.map (vI k) := by rw [hD]; exact List.map_snd_zip (by simp [hl])
  have e1 : pv.map (·.1) = List.range' 0 m := by rw [hD]; exact List.map_fst_zip (by simp [hl])
  have := fill_all pv [] zv.cells.toList (by rw [e1, hpl]; rfl) (by rw [hpl, hzs]) (fun p hp => by
    have h3 : p.2 ∈ pv.map (·.2) := List.mem_map_of_mem hp
    rw [e2] at h3
    obtain ⟨q, _, hq⟩ := List.mem_map.1 h3
    rw [← hq]; rfl)
  rw [List.nil_append, List.nil_append, e2] at this
  exact R.buildA (sz := 1) ho hx hz rfl hu hsz this
def setL (pl : Nat → Option (Nat × Nat)) (n : Nat) (cs : List Value) : List (Nat × Value) → Option (List Value)
  | [] => some cs
  | (i, v) :: r => match pl i with
    | some (off, 1) => bif Nat.blt off n && v.oneCell' then setL pl n (cs.set off v) r else none
    | _ => none
theorem one_cells {v : Value} (h : v.oneCell' = true) : v.cells.toList = [v] := by
  have : v.cells = #[v] := by cases v <;> first | rfl | simp [Value.oneCell'] at h
  rw [this]
theorem putL_set {cs : List Value} {k : Nat} {v : Value} (h : k < cs.length) : putL cs k [v] = cs.set k v := by
  unfold putL
  rw [List.set_eq_take_append_cons_drop, if_pos h]
  simp
theorem fill_set (pl : Nat → Option (Nat × Nat)) : ∀ (ps : List (Nat × Value)) (n : Nat) (cs : List Value) {ds : List Value}, cs.length = n → setL pl n cs ps = some ds → fillL pl cs ps = some ds
  | [], n, cs, ds, hn, h => h
  | (i, v) :: r, n, cs, ds, hn, h => by
    unfold setL at h
    unfold fillL
    split at h
    · rename_i off hp
      cases hb : (Nat.blt off n && v.oneCell') with
      | false => rw [hb] at h; cases h
      | true =>
        rw [hb] at h
        have hb1 : off < n ∧ v.oneCell' = true := by
          rw [Bool.and_eq_true] at hb
          exact ⟨by simpa using hb.1, hb.2⟩
        have hc := one_cells hb1.2
        rw [hp]
        simp only [hc, List.length_singleton]
        have e : (Nat.beq 1 1 && Nat.ble (off + 1) cs.length) = true := by
          rw [hn]
          have : Nat.ble (off + 1) n = true := Nat.ble_eq_true_of_le hb1.1
          rw [this]
          rfl
        rw [e]
        simp only [cond_true]
        rw [putL_set (by omega)]
        exact fill_set pl r n _ (by simpa using hn) h
    · cases h
theorem R.buildS {t : Nat} {ps : Array (Nat × Operand)} {pv : List (Nat × Value)} {zv : Value} {pl : List (Nat × Nat)} {cs zs : List Value} (n : Nat) (ho : o.op = .build t ps) (hx : pvs E ps.toList = some pv) (hz : (P.info? t).bind (·.zero) = some zv) (hzs : zv.cells.toList = zs) (hn : zs.length = n)
    (hu : (P.underlying t).map (fun d => match d with | .struct _ => true | _ => false) = some true) (hp : (flds P t).mapM (fun f => (P.info? f.type).map fun i => (f.offset, i.size)) = some pl) (hc : setL (pl[·]?) n zs pv = some cs) : R P N E o w (.agg cs.toArray) w :=
  R.build ho hx hz hzs hu hp (fill_set _ pv n zs hn hc)
end
end Go.Gw
namespace Go.Gw
def numsS (s : GState) : List Int := [s.Order, s.Status, s.Prior, s.Cur, s.Tax, s.Paid, s.Refunded, s.Events, s.Refused, s.Stamp]
def numFs : Int → List Int → List GField
  | _, [] => []
  | t, v :: r => (if v = 0 then [] else [⟨t, false, v, []⟩]) ++ numFs (t + 1) r
def textFs (t : Int) (b : List UInt8) : List GField := if b.length = 0 then [] else [⟨t, true, 0, b⟩]
def lineFs : Int → List GLine → List GField
  | _, [] => []
  | t, l :: r => ⟨t, true, 0, lineT l⟩ :: lineFs (t + 1) r
def fieldsS (s : GState) : List GField := numFs 1 (numsS s) ++ textFs 11 s.Who.data.toList ++ lineFs 12 s.Lines
def encS (s : GState) : List UInt8 × Int := if validS s = true then encodeF (fieldsS s) else ([], 40)
theorem numFs_take : ∀ {D : List Int} {t : Int} {k : Nat} {y : Int}, D[k]? = some y → numFs t (D.take (k + 1)) = numFs t (D.take k) ++ (if y = 0 then [] else [⟨t + k, false, y, []⟩])
  | [], t, k, y, h => by simp at h
  | v :: r, t, 0, y, h => by
    simp at h
    subst h
    simp [numFs]
  | v :: r, t, k + 1, y, h => by
    have h1 : r[k]? = some y := by simpa using h
    rw [List.take_succ_cons, numFs, numFs_take h1, List.take_succ_cons, numFs, List.append_assoc]
    congr 3
    rw [show t + 1 + (k : Int) = t + ((k + 1 : Nat) : Int) by omega]
theorem lineFs_take : ∀ {D : List GLine} {t : Int} {k : Nat} {y : GLine}, D[k]? = some y → lineFs t (D.take (k + 1)) = lineFs t (D.take k) ++ [⟨t + k, true, 0, lineT y⟩]
  | [], t, k, y, h => by simp at h
  | v :: r, t, 0, y, h => by
    simp at h
    subst h
    simp [lineFs]
  | v :: r, t, k + 1, y, h => by
    have h1 : r[k]? = some y := by simpa using h
    rw [List.take_succ_cons, lineFs, lineFs_take h1, List.take_succ_cons, lineFs]
    rw [show t + 1 + (k : Int) = t + ((k + 1 : Nat) : Int) by omega]
    rfl
def TagsIn (fs : List GField) (m : Int) : Prop := ∀ f ∈ fs, 0 ≤ f.Tag ∧ f.Tag ≤ m
theorem TagsIn.nil (m : Int) : TagsIn [] m := fun f h => by cases h
theorem TagsIn.app {fs gs : List GField} {m n : Int} (h : TagsIn fs m) (hm : m ≤ n) (hg : TagsIn gs n) : TagsIn (fs ++ gs) n := fun f hf => by
  rcases List.mem_append.1 hf with h1 | h1
  · exact ⟨(h f h1).1, Int.le_trans (h f h1).2 hm⟩
  · exact hg f h1
theorem TagsIn.last {fs : List GField} {m : Int} (h : TagsIn fs m) (h0 : 0 ≤ m) : lastTag fs ≤ m := by
  unfold lastTag
  split
  · rename_i f hf
    exact (h f (List.mem_of_getLast? hf)).2
  · exact h0
theorem addF_n {fs : List GField} {t v : Int} (hl : lastTag fs ≤ t - 1) (h1 : 1 ≤ t) (h2 : t ≤ 31) : addF (fs, 0) ⟨t, false, v, []⟩ = (fs ++ (if v = 0 then [] else [⟨t, false, v, []⟩]), 0) := by
  by_cases hv : v = 0
  · rw [if_pos hv, List.append_nil]
    refine addF_22 rfl ?_
    unfold checkF
    rw [if_neg (by simp only; omega), if_neg (by simp only; omega), if_pos (by simp [hv])]
  · rw [if_neg hv]
    refine addF_ok rfl ?_
    unfold checkF
    rw [if_neg (by simp only; omega), if_neg (by simp only; omega), if_neg (by simp [hv]), if_neg (by simp)]
theorem addF_t {fs : List GField} {t : Int} {b : List UInt8} (hl : lastTag fs ≤ t - 1) (h1 : 1 ≤ t) (h2 : t ≤ 31) (hb : b.length ≤ 200) : addF (fs, 0) ⟨t, true, 0, b⟩ = (fs ++ textFs t b, 0) := by
  unfold textFs
  by_cases hv : b.length = 0
  · rw [if_pos hv, List.append_nil]
    refine addF_22 rfl ?_
    unfold checkF
    rw [if_neg (by simp only; omega), if_neg (by simp only; omega), if_pos (by simp [List.length_eq_zero_iff.1 hv])]
  · rw [if_neg hv]
    refine addF_ok rfl ?_
    unfold checkF
    rw [if_neg (by simp only; omega), if_neg (by simp only; omega), if_neg (by simp; intro h; exact hv (by rw [h]; rfl)), if_neg (by simp only; omega)]
theorem encv_pos (u : Nat) : 0 < (encv u).length := by
  rw [encv]
  split <;> simp
theorem lineT_len {l : GLine} (h0 : 0 ≤ l.Item ∧ l.Item ≤ 9223372036854775807) (h1 : 0 ≤ l.Price ∧ l.Price ≤ 9223372036854775807) (h2 : 0 ≤ l.Qty ∧ l.Qty ≤ 9223372036854775807) (h3 : 0 ≤ l.Shipped ∧ l.Shipped ≤ 9223372036854775807) : 0 < (lineT l).length ∧ (lineT l).length ≤ 40 := by
  have a := encv_len (u := l.Item.toNat) (by omega)
  have b := encv_len (u := l.Price.toNat) (by omega)
  have c := encv_len (u := l.Qty.toNat) (by omega)
  have d := encv_len (u := l.Shipped.toNat) (by omega)
  have p := encv_pos l.Item.toNat
  unfold lineT encL
  simp only [List.map_cons, List.map_nil, List.flatten_cons, List.flatten_nil, List.length_append, List.append_nil]
  omega
theorem textFs_one {t : Int} {b : List UInt8} (h : 0 < b.length) : textFs t b = [⟨t, true, 0, b⟩] := by
  unfold textFs
  rw [if_neg (by omega)]
theorem TagsIn.num {fs : List GField} {t v : Int} (h : TagsIn fs (t - 1)) (ht : 0 ≤ t) : TagsIn (fs ++ (if v = 0 then [] else [⟨t, false, v, []⟩])) t := by
  refine h.app (by omega) ?_
  split
  · exact TagsIn.nil _
  · intro f hf
    rw [List.mem_singleton.1 hf]
    exact ⟨ht, Int.le_refl _⟩
theorem TagsIn.text {fs : List GField} {t : Int} {b : List UInt8} (h : TagsIn fs (t - 1)) (ht : 0 ≤ t) : TagsIn (fs ++ textFs t b) t := by
  refine h.app (by omega) ?_
  unfold textFs
  split
  · exact TagsIn.nil _
  · intro f hf
    rw [List.mem_singleton.1 hf]
    exact ⟨ht, Int.le_refl _⟩
/-- what a valid state bears -/
theorem validS_spec {s : GState} (h : validS s = true) : boundP s ∧ (s.Lines.length ≤ 16 ∧ lokB (-1) s.Lines = true) ∧ nameB s.Who = true ∧ s.Paid ≤ dueS s ∧ priorP s ∧ standB s = true := by
  unfold validS at h
  simp only [Bool.and_eq_true, decide_eq_true_eq] at h
  obtain ⟨⟨⟨h1, h2⟩, h3⟩, h4⟩ := h
  obtain ⟨a, b, c⟩ := boundB_spec h1
  exact ⟨a, b, c, h2, h3, h4⟩
theorem nums_nn {s : GState} (h : validS s = true) {k : Nat} {y : Int} (hy : (numsS s)[k]? = some y) : 0 ≤ y := by
  obtain ⟨a, b, c, d, e, f⟩ := validS_spec h
  unfold boundP at a
  unfold priorP at e
  have hk : k < 10 := by
    have := (List.getElem?_eq_some_iff.1 hy).1
    simpa [numsS] using this
  have hm : y ∈ numsS s := List.mem_of_getElem? hy
  unfold numsS at hm
  simp only [List.mem_cons, List.not_mem_nil, or_false] at hm
  by_cases hs : s.Status = 2
  · have := e.1 hs
    omega
  · have := e.2 hs
    omega
theorem name_len {w : ByteArray} (h : nameB w = true) : w.data.toList.length ≤ 16 := by
  unfold nameB at h
  rw [Bool.and_eq_true, decide_eq_true_eq] at h
  have : w.data.toList.length = w.size := by simp
  omega
theorem bytes_sz {z : PH} {A : Option Addr} {xs : List UInt8} (h : Row kU8 z A xs) : (⟨xs.toArray⟩ : ByteArray).size ≤ 9223372036854775807 := by
  have := h.len
  have e : (⟨xs.toArray⟩ : ByteArray).size = xs.length := by simp [ByteArray.size]
  omega
end Go.Gw
namespace Go.Gw
abbrev zeroS : GState := ⟨0, 0, 0, 0, 0, [], 0, 0, 0, 0, 0, ⟨#[]⟩⟩
structure DS where
  nums : List Int
  who : ByteArray
  ls : List GLine
  gap : Bool
  ok : Bool
def decGo : List GField → DS → Option DS
  | [], d => some d
  | f :: r, d =>
    if f.Tag ≤ 10 then (if f.Text = true then none else decGo r { d with nums := d.nums.set f.Tag.toNat ((clampN f.Num.toNat : Nat) : Int) })
    else if (11 < f.Tag ∧ f.Tag ≠ 12 + (d.ls.length : Int)) ∨ 27 < f.Tag then decGo r { d with gap := true }
    else if f.Text = false then none
    else if f.Tag = 11 then decGo r { d with who := ⟨f.Bytes.toArray⟩ }
    else decGo r { d with ls := d.ls ++ [(lineS f.Bytes).1], ok := d.ok && (lineS f.Bytes).2 }
def initD : DS := ⟨List.replicate 11 0, ⟨#[]⟩, [], false, true⟩
def nth (l : List Int) (i : Nat) : Int := l.getD i 0
def stateD (d : DS) : GState := ⟨nth d.nums 1, nth d.nums 2, nth d.nums 3, nth d.nums 4, nth d.nums 5, d.ls, nth d.nums 6, nth d.nums 7, nth d.nums 8, nth d.nums 9, nth d.nums 10, d.who⟩
def outD (o : Option DS) : GState × Int :=
  match o with
  | none => (zeroS, 33)
  | some d => if d.gap = true then (zeroS, 20) else if d.ok = true ∧ validS (stateD d) = true then (stateD d, 0) else (zeroS, 40)
def decS (b : List UInt8) : GState × Int := if (decFs b).2.2 ≠ 0 then (zeroS, ((decFs b).2.2 : Int)) else outD (decGo (decFs b).1 initD)
variable {fs : List GField} {k : Nat} {f : GField} {d : DS}
theorem go_form (h : fs[k]? = some f) (h1 : f.Tag ≤ 10) (h2 : f.Text = true) : decGo (fs.drop k) d = none := by
  rw [drop_get h, decGo, if_pos h1, if_pos h2]
theorem go_num (h : fs[k]? = some f) (h1 : f.Tag ≤ 10) (h2 : f.Text = false) : decGo (fs.drop k) d = decGo (fs.drop (k + 1)) { d with nums := d.nums.set f.Tag.toNat ((clampN f.Num.toNat : Nat) : Int) } := by
  rw [drop_get h, decGo, if_pos h1, if_neg (by rw [h2]; simp)]
theorem go_gap (h : fs[k]? = some f) (h1 : ¬ f.Tag ≤ 10) (h2 : (11 < f.Tag ∧ f.Tag ≠ 12 + (d.ls.length : Int)) ∨ 27 < f.Tag) : decGo (fs.drop k) d = decGo (fs.drop (k + 1)) { d with gap := true } := by
  rw [drop_get h, decGo, if_neg h1, if_pos h2]
theorem go_form2 (h : fs[k]? = some f) (h1 : ¬ f.Tag ≤ 10) (h2 : ¬ ((11 < f.Tag ∧ f.Tag ≠ 12 + (d.ls.length : Int)) ∨ 27 < f.Tag)) (h3 : f.Text = false) : decGo (fs.drop k) d = none := by
  rw [drop_get h, decGo, if_neg h1, if_neg h2, if_pos h3]
theorem go_who (h : fs[k]? = some f) (h1 : ¬ f.Tag ≤ 10) (h2 : ¬ ((11 < f.Tag ∧ f.Tag ≠ 12 + (d.ls.length : Int)) ∨ 27 < f.Tag)) (h3 : f.Text = true) (h4 : f.Tag = 11) : decGo (fs.drop k) d = decGo (fs.drop (k + 1)) { d with who := ⟨f.Bytes.toArray⟩ } := by
  rw [drop_get h, decGo, if_neg h1, if_neg h2, if_neg (by rw [h3]; simp), if_pos h4]
theorem go_line (h : fs[k]? = some f) (h1 : ¬ f.Tag ≤ 10) (h2 : ¬ ((11 < f.Tag ∧ f.Tag ≠ 12 + (d.ls.length : Int)) ∨ 27 < f.Tag)) (h3 : f.Text = true) (h4 : ¬ f.Tag = 11) : decGo (fs.drop k) d = decGo (fs.drop (k + 1)) { d with ls := d.ls ++ [(lineS f.Bytes).1], ok := d.ok && (lineS f.Bytes).2 } := by
  rw [drop_get h, decGo, if_neg h1, if_neg h2, if_neg (by rw [h3]; simp), if_neg h4]
theorem decS_err {b : List UInt8} (h : (decFs b).2.2 ≠ 0) : decS b = (zeroS, ((decFs b).2.2 : Int)) := by
  unfold decS
  rw [if_pos h]
theorem decS_none {b : List UInt8} (h : (decFs b).2.2 = 0) (h1 : decGo (decFs b).1 initD = none) : decS b = (zeroS, 33) := by
  unfold decS
  rw [if_neg (by omega), h1]
  rfl
theorem decS_gap {b : List UInt8} {d : DS} (h : (decFs b).2.2 = 0) (h1 : decGo (decFs b).1 initD = some d) (h2 : d.gap = true) : decS b = (zeroS, 20) := by
  unfold decS outD
  rw [if_neg (by omega), h1]
  simp only
  rw [if_pos h2]
theorem decS_bad {b : List UInt8} {d : DS} (h : (decFs b).2.2 = 0) (h1 : decGo (decFs b).1 initD = some d) (h2 : d.gap = false) (h3 : ¬ (d.ok = true ∧ validS (stateD d) = true)) : decS b = (zeroS, 40) := by
  unfold decS outD
  rw [if_neg (by omega), h1]
  simp only
  rw [if_neg (by rw [h2]; simp), if_neg h3]
theorem decS_ok {b : List UInt8} {d : DS} (h : (decFs b).2.2 = 0) (h1 : decGo (decFs b).1 initD = some d) (h2 : d.gap = false) (h3 : d.ok = true ∧ validS (stateD d) = true) : decS b = (stateD d, 0) := by
  unfold decS outD
  rw [if_neg (by omega), h1]
  simp only
  rw [if_neg (by rw [h2]; simp), if_pos h3]
theorem nth_of {l : List Int} {i : Nat} {y : Int} (h : l[i]? = some y) : nth l i = y := by
  unfold nth
  rw [List.getD_eq_getElem?_getD, h]
  rfl
/-- the fields of a record that was read -/
def Good (f : GField) : Prop := 1 ≤ f.Tag ∧ f.Tag ≤ 31 ∧ (f.Text = true → f.Bytes ≠ [])
theorem nextF_good {b : List UInt8} {last : Int} (h : (nextF b last).1 = 0) : Good (nextF b last).2.1 := by
  have hok := nextF_ok h
  refine ⟨hok.2.2.2.1, hok.2.2.2.2, fun ht => ?_⟩
  by_cases a1 : (decv b).2.2 = 0
  · by_cases a2 : (decv b).1 < 2 ∨ (decv b).1 > 63
    · rw [nextF_20 a1 a2] at h; simp at h
    · by_cases a3 : ((decv b).1 : Int) / 2 ≤ last
      · rw [nextF_21 a1 a2 a3] at h; simp at h
      · by_cases a4 : (decv (b.drop (decv b).2.1)).2.2 = 0
        · by_cases a5 : (decv (b.drop (decv b).2.1)).1 = 0
          · rw [nextF_22 a1 a2 a3 a4 a5] at h; simp at h
          · by_cases a6 : (decv b).1 % 2 = 0
            · rw [nextF_num a1 a2 a3 a4 a5 a6] at ht; simp at ht
            · by_cases a7 : (decv (b.drop (decv b).2.1)).1 > 200
              · rw [nextF_23 a1 a2 a3 a4 a5 a6 a7] at h; simp at h
              · by_cases a8 : (decv (b.drop (decv b).2.1)).1 > b.length - (decv b).2.1 - (decv (b.drop (decv b).2.1)).2.1
                · rw [nextF_10 a1 a2 a3 a4 a5 a6 a7 a8] at h; simp at h
                · rw [nextF_text a1 a2 a3 a4 a5 a6 a7 a8]
                  intro hn
                  have hl := congrArg List.length hn
                  simp only [List.length_take, List.length_drop, List.length_nil] at hl
                  omega
        · rw [nextF_e2 a1 a2 a3 a4] at h; exact absurd h a4
  · rw [nextF_e1 a1] at h; exact absurd h a1
theorem decLoop_good : ∀ (n : Nat) (b : List UInt8) (k : Nat) (last : Int) (fs : List GField), (∀ f ∈ fs, Good f) → ∀ f ∈ (decLoop n b k last fs).1, Good f
  | 0, _, _, _, _, h => h
  | n + 1, b, k, last, fs, h => by
    rw [decLoop]
    split
    · split
      · intro f hf; cases hf
      · rename_i hne
        refine decLoop_good n b _ _ _ fun f hf => ?_
        rcases List.mem_append.1 hf with h1 | h1
        · exact h f h1
        · rw [List.mem_singleton.1 h1]
          exact nextF_good (by omega)
    · exact h
theorem decFs_good {b : List UInt8} {f : GField} (h : f ∈ (decFs b).1) : Good f := by
  unfold decFs at h
  split at h
  · cases h
  · exact decLoop_good _ _ _ _ _ (fun f hf => by cases hf) f h
end Go.Gw
namespace Go.Gw
theorem byTag_cons (f : GField) (r : List GField) : byTag (f :: r) = (f.Tag, f) :: byTag r := rfl
/-- the map holds what is left, from tag t on -/
def RelC (fs : List GField) (t : Int) (fs' : List GField) (d : DS) (bad : Int) : Prop :=
  TagsUp fs' ∧ (∀ f ∈ fs', t ≤ f.Tag ∧ (f.Text = true → f.Bytes ≠ [])) ∧ (bad = 0 ∧ decGo fs initD = decGo fs' d ∨ bad = 33 ∧ decGo fs initD = none)
theorem RelC.start {b : List UInt8} : RelC (decFs b).1 1 (decFs b).1 ⟨[0, 0, 0, 0, 0, 0, 0, 0, 0, 0, 0], ⟨#[]⟩, [], false, true⟩ 0 :=
  ⟨decFs_up b, fun f hf => ⟨(decFs_good hf).1, (decFs_good hf).2.2⟩, .inl ⟨rfl, rfl⟩⟩
theorem later {t : Int} {f : GField} {r : List GField} (h : TagsUp (f :: r)) (hf : f.Tag = t) : ∀ g ∈ r, t + 1 ≤ g.Tag := fun g hg => by
  have := (List.pairwise_cons.1 h).1 g hg
  omega
/-- what a take finds -/
theorem take_cases {fs : List GField} {t bad bad' : Int} {text : Bool} {f : GField} {m' : List (Int × GField)} (hu : TagsUp fs) (ht : ∀ g ∈ fs, t ≤ g.Tag) (h : takeF (byTag fs) bad t text = (f, m', bad')) :
    (f = GField.none ∧ m' = byTag fs ∧ bad' = bad ∧ ∀ g ∈ fs, t + 1 ≤ g.Tag) ∨
    (∃ r, fs = f :: r ∧ f.Tag = t ∧ f.Text = text ∧ m' = byTag r ∧ bad' = bad) ∨
    (∃ g r, fs = g :: r ∧ g.Tag = t ∧ ¬ g.Text = text ∧ f = GField.none ∧ m' = byTag r ∧ bad' = 33) := by
  cases fs with
  | nil =>
    left
    have h0 : takeF (byTag []) bad t text = (GField.none, byTag [], bad) := takeF_none rfl
    rw [h0] at h
    simp only [Prod.mk.injEq] at h
    exact ⟨h.1.symm, h.2.1.symm, h.2.2.symm, fun g hg => by cases hg⟩
  | cons g r =>
    by_cases hg : g.Tag = t
    · have ha : assoc t (byTag (g :: r)) = some g := by rw [byTag_cons, assoc, if_pos hg]
      have he : eraseK t (byTag (g :: r)) = byTag r := by rw [byTag_cons, eraseK, if_pos hg]
      by_cases hx : g.Text = text
      · rw [takeF_ok ha hx, he] at h
        simp only [Prod.mk.injEq] at h
        obtain ⟨rfl, rfl, rfl⟩ := h
        exact .inr (.inl ⟨r, rfl, hg, hx, rfl, rfl⟩)
      · rw [takeF_bad ha hx, he] at h
        simp only [Prod.mk.injEq] at h
        obtain ⟨rfl, rfl, rfl⟩ := h
        exact .inr (.inr ⟨g, r, rfl, hg, hx, rfl, rfl, rfl⟩)
    · have hall : ∀ q ∈ g :: r, t + 1 ≤ q.Tag := fun q hq => by
        have h1 := ht g (by simp)
        rcases List.mem_cons.1 hq with rfl | hq
        · omega
        · have := (List.pairwise_cons.1 hu).1 q hq
          omega
      have h0 : takeF (byTag (g :: r)) bad t text = (GField.none, byTag (g :: r), bad) := takeF_none (assoc_none fun q hq => by have := hall q hq; omega)
      rw [h0] at h
      simp only [Prod.mk.injEq] at h
      exact .inl ⟨h.1.symm, h.2.1.symm, h.2.2.symm, hall⟩
theorem set_same {l : List Int} {i : Nat} {v : Int} (h : l[i]? = some v) : l.set i v = l := by
  apply List.ext_getElem?
  intro j
  rw [List.getElem?_set]
  by_cases hj : i = j
  · subst hj
    have hl := (List.getElem?_eq_some_iff.1 h).1
    rw [if_pos rfl, if_pos hl, h]
  · rw [if_neg hj]
variable {fs fs' : List GField} {t bad bad' : Int} {d : DS} {f : GField} {m' : List (Int × GField)}
theorem RelC.num (h : RelC fs t fs' d bad) (h1 : t ≤ 10) (h2 : d.nums[t.toNat]? = some 0) (hT : takeF (byTag fs') bad t false = (f, m', bad')) :
    ∃ fs'', m' = byTag fs'' ∧ RelC fs (t + 1) fs'' { d with nums := d.nums.set t.toNat ((clampN f.Num.toNat : Nat) : Int) } bad' := by
  obtain ⟨hu, ht, hd⟩ := h
  rcases take_cases hu (fun g hg => (ht g hg).1) hT with ⟨rfl, rfl, rfl, ha⟩ | ⟨r, rfl, hg, hx, rfl, rfl⟩ | ⟨g, r, rfl, hg, hx, rfl, rfl, rfl⟩
  · refine ⟨_, rfl, hu, fun g hg => ⟨ha g hg, (ht g hg).2⟩, ?_⟩
    have : d.nums.set t.toNat ((clampN GField.none.Num.toNat : Nat) : Int) = d.nums := set_same h2
    rw [this]
    exact hd
  · refine ⟨_, rfl, (List.pairwise_cons.1 hu).2, fun g hg' => ⟨later hu hg g hg', (ht g (by simp [hg'])).2⟩, ?_⟩
    rcases hd with ⟨h3, h4⟩ | h3
    · left
      refine ⟨h3, h4.trans ?_⟩
      rw [decGo, if_pos (by omega), if_neg (by rw [hx]; simp), hg]
    · exact .inr h3
  · refine ⟨_, rfl, (List.pairwise_cons.1 hu).2, fun q hq => ⟨later hu hg q hq, (ht q (by simp [hq])).2⟩, .inr ⟨rfl, ?_⟩⟩
    rcases hd with ⟨h3, h4⟩ | h3
    · rw [h4, decGo, if_pos (by omega), if_pos (by simpa using hx)]
    · exact h3.2
theorem RelC.who (h : RelC fs 11 fs' d bad) (h2 : d.who = ⟨#[]⟩) (hT : takeF (byTag fs') bad 11 true = (f, m', bad')) :
    ∃ fs'', m' = byTag fs'' ∧ RelC fs 12 fs'' { d with who := ⟨f.Bytes.toArray⟩ } bad' := by
  obtain ⟨hu, ht, hd⟩ := h
  rcases take_cases hu (fun g hg => (ht g hg).1) hT with ⟨rfl, rfl, rfl, ha⟩ | ⟨r, rfl, hg, hx, rfl, rfl⟩ | ⟨g, r, rfl, hg, hx, rfl, rfl, rfl⟩
  · refine ⟨_, rfl, hu, fun g hg => ⟨ha g hg, (ht g hg).2⟩, ?_⟩
    have : (⟨GField.none.Bytes.toArray⟩ : ByteArray) = d.who := h2.symm
    rw [this]
    exact hd
  · refine ⟨_, rfl, (List.pairwise_cons.1 hu).2, fun g hg' => ⟨later hu hg g hg', (ht g (by simp [hg'])).2⟩, ?_⟩
    rcases hd with ⟨h3, h4⟩ | h3
    · left
      refine ⟨h3, h4.trans ?_⟩
      rw [decGo, if_neg (by omega), if_neg (by omega), if_neg (by rw [hx]; simp), if_pos hg]
    · exact .inr h3
  · refine ⟨_, rfl, (List.pairwise_cons.1 hu).2, fun q hq => ⟨later hu hg q hq, (ht q (by simp [hq])).2⟩, .inr ⟨rfl, ?_⟩⟩
    rcases hd with ⟨h3, h4⟩ | h3
    · rw [h4, decGo, if_neg (by omega), if_neg (by omega), if_pos (by simpa using hx)]
    · exact h3.2
/-- a line more -/
theorem RelC.line (h : RelC fs t fs' d bad) (h1 : t = 12 + (d.ls.length : Int)) (h2 : t ≤ 27) (hT : takeF (byTag fs') bad t true = (f, m', bad')) (hb : f.Bytes ≠ []) :
    ∃ fs'', m' = byTag fs'' ∧ RelC fs (t + 1) fs'' { d with ls := d.ls ++ [(lineS f.Bytes).1], ok := d.ok && (lineS f.Bytes).2 } bad' := by
  obtain ⟨hu, ht, hd⟩ := h
  rcases take_cases hu (fun g hg => (ht g hg).1) hT with ⟨rfl, _, _, _⟩ | ⟨r, rfl, hg, hx, rfl, rfl⟩ | ⟨g, r, rfl, hg, hx, rfl, _, _⟩
  · exact absurd rfl hb
  · refine ⟨_, rfl, (List.pairwise_cons.1 hu).2, fun g hg' => ⟨later hu hg g hg', (ht g (by simp [hg'])).2⟩, ?_⟩
    rcases hd with ⟨h3, h4⟩ | h3
    · left
      refine ⟨h3, h4.trans ?_⟩
      rw [decGo, if_neg (by omega), if_neg (by omega), if_neg (by rw [hx]; simp), if_neg (by omega)]
    · exact .inr h3
  · exact absurd rfl hb
theorem go_gaps : ∀ {fs : List GField} {d : DS}, (∀ f ∈ fs, ¬ f.Tag ≤ 10 ∧ ((11 < f.Tag ∧ f.Tag ≠ 12 + (d.ls.length : Int)) ∨ 27 < f.Tag)) → decGo fs d = some (if fs = [] then d else { d with gap := true })
  | [], d, _ => rfl
  | f :: r, d, h => by
    have h1 := h f (by simp)
    rw [decGo, if_neg h1.1, if_pos h1.2, go_gaps (d := { d with gap := true }) (fun g hg => h g (by simp [hg]))]
    split <;> simp
/-- the error at the end -/
def errC (bad : Int) (m : List (Int × GField)) : Int := if bad ≠ 0 then bad else if m.length = 0 then 0 else 20
def EndC (fs : List GField) (d : DS) (e : Int) : Prop := (e = 33 ∧ decGo fs initD = none) ∨ (e = 20 ∧ ∃ d', decGo fs initD = some d' ∧ d'.gap = true) ∨ (e = 0 ∧ decGo fs initD = some d)
theorem RelC.last (h : RelC fs t fs' d bad) (h1 : 12 ≤ t) (h2 : 27 < t ∨ ∀ g ∈ fs', 12 + (d.ls.length : Int) < g.Tag) : EndC fs d (errC bad (byTag fs')) := by
  obtain ⟨hu, ht, hd⟩ := h
  rcases hd with ⟨rfl, h4⟩ | ⟨rfl, h4⟩
  · have hg := go_gaps (fs := fs') (d := d) (fun f hf => by
      have a := (ht f hf).1
      rcases h2 with h2 | h2
      · exact ⟨by omega, .inr (by omega)⟩
      · have := h2 f hf
        exact ⟨by omega, .inl ⟨by omega, by omega⟩⟩)
    unfold errC
    rw [if_neg (by simp)]
    by_cases hn : fs' = []
    · rw [if_pos hn] at hg
      rw [if_pos (by rw [hn]; rfl)]
      exact .inr (.inr ⟨rfl, h4.trans hg⟩)
    · rw [if_neg hn] at hg
      rw [if_neg (by unfold byTag; simpa using hn)]
      exact .inr (.inl ⟨rfl, _, h4.trans hg, rfl⟩)
  · unfold errC
    rw [if_pos (by simp)]
    exact .inl ⟨rfl, h4⟩
/-- no line more -/
theorem RelC.stop (h : RelC fs t fs' d bad) (h1 : t = 12 + (d.ls.length : Int)) (h2 : t ≤ 27) (hT : takeF (byTag fs') bad t true = (f, m', bad')) (hb : f.Bytes = []) :
    EndC fs d (errC bad' m') := by
  have h' := h
  obtain ⟨hu, ht, hd⟩ := h
  rcases take_cases hu (fun g hg => (ht g hg).1) hT with ⟨rfl, rfl, rfl, ha⟩ | ⟨r, rfl, hg, hx, rfl, rfl⟩ | ⟨g, r, rfl, hg, hx, rfl, rfl, rfl⟩
  · exact h'.last (by omega) (.inr fun g hg => by have := ha g hg; omega)
  · exact absurd hb ((ht f (by simp)).2 hx)
  · unfold errC
    rw [if_pos (by simp)]
    refine .inl ⟨rfl, ?_⟩
    rcases hd with ⟨h3, h4⟩ | h3
    · rw [h4, decGo, if_neg (by omega), if_neg (by omega), if_pos (by simpa using hx)]
    · exact h3.2
theorem decS_end {b : List UInt8} {d : DS} {e : Int} (h : (decFs b).2.2 = 0) (hE : EndC (decFs b).1 d e) (he : e ≠ 0) : decS b = (zeroS, e) := by
  rcases hE with ⟨rfl, h1⟩ | ⟨rfl, d', h1, h2⟩ | ⟨rfl, _⟩
  · exact decS_none h h1
  · exact decS_gap h h1 h2
  · exact absurd rfl he
theorem decS_good {b : List UInt8} {d : DS} {e : Int} (hE : EndC (decFs b).1 d e) (he : e = 0) : decGo (decFs b).1 initD = some d := by
  rcases hE with ⟨rfl, h1⟩ | ⟨rfl, d', h1, h2⟩ | ⟨_, h1⟩
  · cases he
  · cases he
  · exact h1
end Go.Gw
namespace Go.Gw
abbrev headS : GState := ⟨7, 0, 0, 0, 0, [], 0, 0, 0, 0, 0, ⟨#[]⟩⟩
theorem head_valid : validS headS = true := by decide +kernel
theorem head_enc : encS headS = ([2, 7], 0) := by
  unfold encS
  rw [if_pos head_valid]
  have hf : fieldsS headS = [⟨1, false, 7, []⟩] := by rfl
  have hp : putF ⟨1, false, 7, []⟩ = [2, 7] := by
    unfold putF
    rw [if_neg (by simp)]
    show encv 2 ++ encv 7 = [2, 7]
    rw [encv_lt (by decide), encv_lt (by decide)]
    rfl
  have hc : checkF ⟨1, false, 7, []⟩ 0 = 0 := by decide
  have he : encFs [⟨1, false, 7, []⟩] 0 [] = (0, [2, 7]) := by
    rw [encFs, if_neg (by rw [hc]; decide), hp]
    rfl
  unfold encodeF
  rw [hf, he]
  rfl
theorem head_dec : decS [2, 7] = (headS, 0) := by
  have hf : decFs [2, 7] = ([⟨1, false, 7, []⟩], 0, 0) := by rfl
  have hg : decGo [⟨1, false, 7, []⟩] initD = some ⟨[0, 7, 0, 0, 0, 0, 0, 0, 0, 0, 0], ⟨#[]⟩, [], false, true⟩ := by rfl
  exact decS_ok (d := ⟨[0, 7, 0, 0, 0, 0, 0, 0, 0, 0, 0], ⟨#[]⟩, [], false, true⟩) (by rw [hf]) (by rw [hf]; exact hg) rfl ⟨rfl, head_valid⟩
theorem sameB_refl (s : GState) : sameB s s = true := sameB_true ⟨rfl, rfl, rfl, rfl, rfl, rfl, rfl, rfl, rfl, rfl, rfl, rfl⟩
end Go.Gw
namespace Go.Gw
open Go.RowKit
theorem Has.below {w w' : World} (h : Has w w' [hp w]) : Below w.heap.size w w' :=
  ⟨h.os, h.tape, h.output, h.size, fun k hk => by
    have hs := h.sub (hp w) (by simp)
    cases ho : w.heap[k]? with
    | none => rw [Array.getElem?_eq_none_iff] at ho; omega
    | some o => exact hs k o ho⟩
/-- a row of bytes, as the statement reads it -/
def BytesRow (w : World) (a : Option Addr) (len cap : Nat) (zs : List Int) : Prop :=
  (a = none ∧ len = 0 ∧ cap = 0 ∧ zs = []) ∨
  ∃ x, a = some x ∧ len ≤ cap ∧ cap ≤ maxLen ∧ zs.length = cap ∧ (∀ i, i < zs.length → w.cell? (x.add i) = some (.int .u8 (zs.getD i 0))) ∧ ∀ n ∈ zs, (Lit.int .u8 n).wf = true
theorem wf_u8 {n : Int} (h : (Lit.int .u8 n).wf = true) : 0 ≤ n ∧ n ≤ 255 := by
  simp [Lit.wf, IntKind.min, IntKind.max, IntKind.bits, IntKind.signed] at h
  omega
theorem reps_u8 {z : PH} : ∀ (zs : List Int), (∀ n ∈ zs, (Lit.int .u8 n).wf = true) → Reps kU8 z (zs.map fun n => UInt8.ofNat n.toNat) (zs.map fun n => Value.int .u8 n)
  | [], _ => rfl
  | n :: r, h => by
    have hn := wf_u8 (h n (by simp))
    exact ⟨[.int .u8 n], r.map fun n => Value.int .u8 n, rfl, kU8_mk (by omega), reps_u8 r fun m hm => h m (by simp [hm])⟩
theorem BytesRow.row {w : World} {a : Option Addr} {len cap : Nat} {zs : List Int} (h : BytesRow w a len cap zs) : ∃ bs : List UInt8, len = bs.length ∧ bs.length ≤ cap ∧ Row kU8 (hp w) a bs := by
  rcases h with ⟨rfl, rfl, rfl, rfl⟩ | ⟨x, rfl, hl, hm, hz, hc, hw⟩
  · exact ⟨[], rfl, Nat.le_refl _, Row.nil _ _ _⟩
  · have hlen : ((zs.take len).map fun n => UInt8.ofNat n.toNat).length = len := by simp; omega
    have hmx : cap ≤ 9223372036854775807 := by unfold maxLen at hm; omega
    refine ⟨(zs.take len).map fun n => UInt8.ofNat n.toNat, hlen.symm, by omega, by omega, .inr ⟨x, _, rfl, reps_u8 (zs.take len) (fun n hn => hw n (List.mem_of_mem_take hn)), fun k u hu => ?_⟩⟩
    rw [List.getElem?_map, List.getElem?_take] at hu
    split at hu
    · rename_i hk
      have hkz : k < zs.length := by omega
      have h1 := hc k hkz
      rw [cellz_hp, h1]
      rw [List.getElem?_eq_getElem hkz] at hu
      rw [List.getD_eq_getElem?_getD, List.getElem?_eq_getElem hkz]
      simpa using hu
    · cases hu
end Go.Gw
set_option maxRecDepth 100000
set_option maxHeartbeats 4000000
namespace Go.Proofs
open Go Go.Gw
theorem Try.sz3 : (Try.prog.info? 3).map (·.size) = some 1 := by kernel_rfl
theorem Try.pl3 : plain Try.prog 3 = true := by kernel_rfl
theorem Try.inf3 : (Try.prog.info? 3).map (fun i => (i.zero, i.size, i.bytes)) = some (some (.int .i64 0), 1, 8) := by kernel_rfl
theorem Try.sz4 : (Try.prog.info? 4).map (·.size) = some 1 := by kernel_rfl
theorem Try.pl4 : plain Try.prog 4 = true := by kernel_rfl
theorem Try.sz5 : (Try.prog.info? 5).map (·.size) = some 1 := by kernel_rfl
theorem Try.pl5 : plain Try.prog 5 = true := by kernel_rfl
theorem Try.inf5 : (Try.prog.info? 5).map (fun i => (i.zero, i.size, i.bytes)) = some (some (.int .u8 0), 1, 1) := by kernel_rfl
theorem Try.sz9 : (Try.prog.info? 9).map (·.size) = some 1 := by kernel_rfl
theorem Try.pl9 : plain Try.prog 9 = true := by kernel_rfl
theorem Try.sz22 : (Try.prog.info? 22).map (·.size) = some 1 := by kernel_rfl
theorem Try.pl22 : plain Try.prog 22 = true := by kernel_rfl
theorem Try.sz25 : (Try.prog.info? 25).map (·.size) = some 1 := by kernel_rfl
theorem Try.pl25 : plain Try.prog 25 = true := by kernel_rfl
theorem Try.sz26 : (Try.prog.info? 26).map (·.size) = some 1 := by kernel_rfl
theorem Try.pl26 : plain Try.prog 26 = true := by kernel_rfl
theorem Try.sz28 : (Try.prog.info? 28).map (·.size) = some 12 := by kernel_rfl
theorem Try.pl28 : plain Try.prog 28 = false := by kernel_rfl
theorem Try.zr28 : (Try.prog.info? 28).bind (·.zero) = some (.agg #[.int .i64 0, .int .i64 0, .int .i64 0, .int .i64 0, .int .i64 0, .slice none 0 0, .int .i64 0, .int .i64 0, .int .i64 0, .int .i64 0, .int .i64 0, .string ⟨#[]⟩]) := by kernel_rfl
theorem Try.sz31 : (Try.prog.info? 31).map (·.size) = some 1 := by kernel_rfl
theorem Try.pl31 : plain Try.prog 31 = true := by kernel_rfl
theorem Try.zr31 : (Try.prog.info? 31).bind (·.zero) = some (.int .i64 0) := by kernel_rfl
theorem Try.sz37 : (Try.prog.info? 37).map (·.size) = some 4 := by kernel_rfl
theorem Try.pl37 : plain Try.prog 37 = false := by kernel_rfl
theorem Try.zr37 : (Try.prog.info? 37).bind (·.zero) = some (.agg #[.int .i64 0, .int .i64 0, .int .i64 0, .int .i64 0]) := by kernel_rfl
theorem Try.inf37 : (Try.prog.info? 37).map (fun i => (i.zero, i.size, i.bytes)) = some (some (.agg #[.int .i64 0, .int .i64 0, .int .i64 0, .int .i64 0]), 4, 32) := by kernel_rfl
theorem Try.sz72 : (Try.prog.info? 72).map (·.size) = some 1 := by kernel_rfl
theorem Try.pl72 : plain Try.prog 72 = true := by kernel_rfl
theorem Try.zr72 : (Try.prog.info? 72).bind (·.zero) = some (.slice none 0 0) := by kernel_rfl
theorem Try.sz75 : (Try.prog.info? 75).map (·.size) = some 1 := by kernel_rfl
theorem Try.pl75 : plain Try.prog 75 = true := by kernel_rfl
theorem Try.sz77 : (Try.prog.info? 77).map (·.size) = some 4 := by kernel_rfl
theorem Try.pl77 : plain Try.prog 77 = false := by kernel_rfl
theorem Try.zr77 : (Try.prog.info? 77).bind (·.zero) = some (.agg #[.int .i64 0, .bool false, .int .u64 0, .slice none 0 0]) := by kernel_rfl
theorem Try.inf77 : (Try.prog.info? 77).map (fun i => (i.zero, i.size, i.bytes)) = some (some (.agg #[.int .i64 0, .bool false, .int .u64 0, .slice none 0 0]), 4, 48) := by kernel_rfl
theorem Try.sz82 : (Try.prog.info? 82).map (·.size) = some 1 := by kernel_rfl
theorem Try.pl82 : plain Try.prog 82 = true := by kernel_rfl
theorem Try.zr82 : (Try.prog.info? 82).bind (·.zero) = some (.pointer none) := by kernel_rfl
theorem Try.sz115 : (Try.prog.info? 115).map (·.size) = some 1 := by kernel_rfl
theorem Try.pl115 : plain Try.prog 115 = true := by kernel_rfl
theorem Try.sz117 : (Try.prog.info? 117).map (·.size) = some 10 := by kernel_rfl
theorem Try.pl117 : plain Try.prog 117 = false := by kernel_rfl
theorem Try.zr117 : (Try.prog.info? 117).bind (·.zero) = some (.agg #[.int .i64 0, .int .i64 0, .int .i64 0, .int .i64 0, .int .i64 0, .int .i64 0, .int .i64 0, .string ⟨#[]⟩, .int .i64 0, .string ⟨#[]⟩]) := by kernel_rfl
theorem Try.zr123 : (Try.prog.info? 123).bind (·.zero) = some (.agg #[.int .i64 0, .int .i64 0, .int .i64 0, .int .i64 0, .int .i64 0, .int .i64 0, .int .i64 0, .int .i64 0, .int .i64 0, .int .i64 0]) := by kernel_rfl
theorem Try.sz136 : (Try.prog.info? 136).map (·.size) = some 1 := by kernel_rfl
theorem Try.pl136 : plain Try.prog 136 = true := by kernel_rfl
theorem Try.zr138 : (Try.prog.info? 138).bind (·.zero) = some (.agg #[.map none, .int .i64 0]) := by kernel_rfl
theorem Try.zr140 : (Try.prog.info? 140).bind (·.zero) = some (.agg #[.int .i64 0, .int .i64 0, .int .i64 0, .int .i64 0]) := by kernel_rfl
theorem Try.zr156 : (Try.prog.info? 156).bind (·.zero) = some (.agg #[.slice none 0 0, .int .i64 0]) := by kernel_rfl
theorem Try.zr165 : (Try.prog.info? 165).bind (·.zero) = some (.agg #[.slice none 0 0, .int .i64 0]) := by kernel_rfl
theorem Try.sz179 : (Try.prog.info? 179).map (·.size) = some 16 := by kernel_rfl
theorem Try.sz181 : (Try.prog.info? 181).map (·.size) = some 17 := by kernel_rfl
theorem Try.pl181 : plain Try.prog 181 = false := by kernel_rfl
theorem Try.zr181 : (Try.prog.info? 181).bind (·.zero) = some (.agg #[.bool false, .int .u64 0, .int .u64 0, .int .u64 0, .int .u64 0, .int .u64 0, .int .u64 0, .int .u64 0, .int .u64 0, .int .u64 0, .int .u64 0, .int .u64 0, .int .u64 0, .int .u64 0, .int .u64 0, .int .u64 0, .int .u64 0]) := by kernel_rfl
theorem Try.sz222 : (Try.prog.info? 222).map (·.size) = some 5 := by kernel_rfl
theorem Try.pl222 : plain Try.prog 222 = false := by kernel_rfl
theorem Try.zr222 : (Try.prog.info? 222).bind (·.zero) = some (.agg #[.int .i64 0, .int .i64 0, .int .i64 0, .int .i64 0, .int .i64 0]) := by kernel_rfl
theorem Try.sz224 : (Try.prog.info? 224).map (·.size) = some 6 := by kernel_rfl
theorem Try.pl224 : plain Try.prog 224 = false := by kernel_rfl
theorem Try.zr224 : (Try.prog.info? 224).bind (·.zero) = some (.agg #[.int .i64 0, .int .i64 0, .int .i64 0, .int .i64 0, .int .i64 0, .int .i64 0]) := by kernel_rfl
theorem Try.sz226 : (Try.prog.info? 226).map (·.size) = some 7 := by kernel_rfl
theorem Try.pl226 : plain Try.prog 226 = false := by kernel_rfl
theorem Try.zr226 : (Try.prog.info? 226).bind (·.zero) = some (.agg #[.int .i64 0, .int .i64 0, .int .i64 0, .int .i64 0, .int .i64 0, .int .i64 0, .int .i64 0]) := by kernel_rfl
theorem Try.sz228 : (Try.prog.info? 228).map (·.size) = some 8 := by kernel_rfl
theorem Try.pl228 : plain Try.prog 228 = false := by kernel_rfl
theorem Try.zr228 : (Try.prog.info? 228).bind (·.zero) = some (.agg #[.int .i64 0, .int .i64 0, .int .i64 0, .int .i64 0, .int .i64 0, .int .i64 0, .int .i64 0, .string ⟨#[]⟩]) := by kernel_rfl
theorem Try.sz230 : (Try.prog.info? 230).map (·.size) = some 10 := by kernel_rfl
theorem Try.pl230 : plain Try.prog 230 = false := by kernel_rfl
theorem Try.zr230 : (Try.prog.info? 230).bind (·.zero) = some (.agg #[.int .i64 0, .int .i64 0, .int .i64 0, .int .i64 0, .int .i64 0, .int .i64 0, .int .i64 0, .string ⟨#[]⟩, .int .i64 0, .string ⟨#[]⟩]) := by kernel_rfl
theorem Try.plc28 : (flds Try.prog 28).mapM (fun f => (Try.prog.info? f.type).map fun i => (f.offset, i.size)) = some [(0, 1), (1, 1), (2, 1), (3, 1), (4, 1), (5, 1), (6, 1), (7, 1), (8, 1), (9, 1), (10, 1), (11, 1)] := by kernel_rfl
theorem Try.plc37 : (flds Try.prog 37).mapM (fun f => (Try.prog.info? f.type).map fun i => (f.offset, i.size)) = some [(0, 1), (1, 1), (2, 1), (3, 1)] := by kernel_rfl
theorem Try.plc77 : (flds Try.prog 77).mapM (fun f => (Try.prog.info? f.type).map fun i => (f.offset, i.size)) = some [(0, 1), (1, 1), (2, 1), (3, 1)] := by kernel_rfl
theorem Try.plc117 : (flds Try.prog 117).mapM (fun f => (Try.prog.info? f.type).map fun i => (f.offset, i.size)) = some [(0, 1), (1, 1), (2, 1), (3, 1), (4, 1), (5, 1), (6, 1), (7, 1), (8, 1), (9, 1)] := by kernel_rfl
theorem Try.plc138 : (flds Try.prog 138).mapM (fun f => (Try.prog.info? f.type).map fun i => (f.offset, i.size)) = some [(0, 1), (1, 1)] := by kernel_rfl
theorem Try.plc156 : (flds Try.prog 156).mapM (fun f => (Try.prog.info? f.type).map fun i => (f.offset, i.size)) = some [(0, 1), (1, 1)] := by kernel_rfl
theorem Try.plc165 : (flds Try.prog 165).mapM (fun f => (Try.prog.info? f.type).map fun i => (f.offset, i.size)) = some [(0, 1), (1, 1)] := by kernel_rfl
theorem Try.plc181 : (flds Try.prog 181).mapM (fun f => (Try.prog.info? f.type).map fun i => (f.offset, i.size)) = some [(0, 1), (1, 16)] := by kernel_rfl
theorem Try.plc222 : (flds Try.prog 222).mapM (fun f => (Try.prog.info? f.type).map fun i => (f.offset, i.size)) = some [(0, 1), (1, 1), (2, 1), (3, 1), (4, 1)] := by kernel_rfl
theorem Try.plc224 : (flds Try.prog 224).mapM (fun f => (Try.prog.info? f.type).map fun i => (f.offset, i.size)) = some [(0, 5), (5, 1)] := by kernel_rfl
theorem Try.plc226 : (flds Try.prog 226).mapM (fun f => (Try.prog.info? f.type).map fun i => (f.offset, i.size)) = some [(0, 6), (6, 1)] := by kernel_rfl
theorem Try.plc228 : (flds Try.prog 228).mapM (fun f => (Try.prog.info? f.type).map fun i => (f.offset, i.size)) = some [(0, 7), (7, 1)] := by kernel_rfl
theorem Try.plc230 : (flds Try.prog 230).mapM (fun f => (Try.prog.info? f.type).map fun i => (f.offset, i.size)) = some [(0, 8), (8, 1), (9, 1)] := by kernel_rfl
theorem Try.mixed : Try.prog.follows .mixedOrders = true := by kernel_rfl
theorem Try.nm7 : (Try.f7.name == "runtime.NumGoroutine") = false := by kernel_rfl
theorem Try.bd7 : Try.f7.body.isSome = true := by kernel_rfl
theorem Try.nm8 : (Try.f8.name == "runtime.NumGoroutine") = false := by kernel_rfl
theorem Try.bd8 : Try.f8.body.isSome = true := by kernel_rfl
theorem Try.nm9 : (Try.f9.name == "runtime.NumGoroutine") = false := by kernel_rfl
theorem Try.bd9 : Try.f9.body.isSome = true := by kernel_rfl
theorem Try.nm10 : (Try.f10.name == "runtime.NumGoroutine") = false := by kernel_rfl
theorem Try.bd10 : Try.f10.body.isSome = true := by kernel_rfl
theorem Try.nm11 : (Try.f11.name == "runtime.NumGoroutine") = false := by kernel_rfl
theorem Try.bd11 : Try.f11.body.isSome = true := by kernel_rfl
theorem Try.nm12 : (Try.f12.name == "runtime.NumGoroutine") = false := by kernel_rfl
theorem Try.bd12 : Try.f12.body.isSome = true := by kernel_rfl
theorem Try.nm26 : (Try.f26.name == "runtime.NumGoroutine") = false := by kernel_rfl
theorem Try.bd26 : Try.f26.body.isSome = true := by kernel_rfl
theorem Try.nm27 : (Try.f27.name == "runtime.NumGoroutine") = false := by kernel_rfl
theorem Try.bd27 : Try.f27.body.isSome = true := by kernel_rfl
theorem Try.nm28 : (Try.f28.name == "runtime.NumGoroutine") = false := by kernel_rfl
theorem Try.bd28 : Try.f28.body.isSome = true := by kernel_rfl
theorem Try.nm29 : (Try.f29.name == "runtime.NumGoroutine") = false := by kernel_rfl
theorem Try.bd29 : Try.f29.body.isSome = true := by kernel_rfl
theorem Try.nm30 : (Try.f30.name == "runtime.NumGoroutine") = false := by kernel_rfl
theorem Try.bd30 : Try.f30.body.isSome = true := by kernel_rfl
theorem Try.nm31 : (Try.f31.name == "runtime.NumGoroutine") = false := by kernel_rfl
theorem Try.bd31 : Try.f31.body.isSome = true := by kernel_rfl
theorem Try.nm32 : (Try.f32.name == "runtime.NumGoroutine") = false := by kernel_rfl
theorem Try.bd32 : Try.f32.body.isSome = true := by kernel_rfl
theorem Try.nm33 : (Try.f33.name == "runtime.NumGoroutine") = false := by kernel_rfl
theorem Try.bd33 : Try.f33.body.isSome = true := by kernel_rfl
theorem Try.nm34 : (Try.f34.name == "runtime.NumGoroutine") = false := by kernel_rfl
theorem Try.bd34 : Try.f34.body.isSome = true := by kernel_rfl
theorem Try.nm35 : (Try.f35.name == "runtime.NumGoroutine") = false := by kernel_rfl
theorem Try.bd35 : Try.f35.body.isSome = true := by kernel_rfl
theorem Try.nm36 : (Try.f36.name == "runtime.NumGoroutine") = false := by kernel_rfl
theorem Try.bd36 : Try.f36.body.isSome = true := by kernel_rfl
theorem Try.nm37 : (Try.f37.name == "runtime.NumGoroutine") = false := by kernel_rfl
theorem Try.bd37 : Try.f37.body.isSome = true := by kernel_rfl
theorem Try.nm38 : (Try.f38.name == "runtime.NumGoroutine") = false := by kernel_rfl
theorem Try.bd38 : Try.f38.body.isSome = true := by kernel_rfl
theorem Try.nm39 : (Try.f39.name == "runtime.NumGoroutine") = false := by kernel_rfl
theorem Try.bd39 : Try.f39.body.isSome = true := by kernel_rfl
theorem Try.nm64 : (Try.f64.name == "runtime.NumGoroutine") = false := by kernel_rfl
theorem Try.bd64 : Try.f64.body.isSome = true := by kernel_rfl
theorem Try.nm68 : (Try.f68.name == "runtime.NumGoroutine") = false := by kernel_rfl
theorem Try.bd68 : Try.f68.body.isSome = true := by kernel_rfl
theorem Try.nm69 : (Try.f69.name == "runtime.NumGoroutine") = false := by kernel_rfl
theorem Try.bd69 : Try.f69.body.isSome = true := by kernel_rfl
theorem Try.nm70 : (Try.f70.name == "runtime.NumGoroutine") = false := by kernel_rfl
theorem Try.bd70 : Try.f70.body.isSome = true := by kernel_rfl
theorem Try.nm71 : (Try.f71.name == "runtime.NumGoroutine") = false := by kernel_rfl
theorem Try.bd71 : Try.f71.body.isSome = true := by kernel_rfl
theorem Try.nm72 : (Try.f72.name == "runtime.NumGoroutine") = false := by kernel_rfl
theorem Try.bd72 : Try.f72.body.isSome = true := by kernel_rfl
theorem Try.nm73 : (Try.f73.name == "runtime.NumGoroutine") = false := by kernel_rfl
theorem Try.bd73 : Try.f73.body.isSome = true := by kernel_rfl
theorem Try.nm74 : (Try.f74.name == "runtime.NumGoroutine") = false := by kernel_rfl
theorem Try.bd74 : Try.f74.body.isSome = true := by kernel_rfl
theorem Try.nm75 : (Try.f75.name == "runtime.NumGoroutine") = false := by kernel_rfl
theorem Try.bd75 : Try.f75.body.isSome = true := by kernel_rfl
theorem Try.nm76 : (Try.f76.name == "runtime.NumGoroutine") = false := by kernel_rfl
theorem Try.bd76 : Try.f76.body.isSome = true := by kernel_rfl
theorem Try.nm77 : (Try.f77.name == "runtime.NumGoroutine") = false := by kernel_rfl
theorem Try.bd77 : Try.f77.body.isSome = true := by kernel_rfl
theorem Try.nm78 : (Try.f78.name == "runtime.NumGoroutine") = false := by kernel_rfl
theorem Try.bd78 : Try.f78.body.isSome = true := by kernel_rfl
theorem Try.nm79 : (Try.f79.name == "runtime.NumGoroutine") = false := by kernel_rfl
theorem Try.bd79 : Try.f79.body.isSome = true := by kernel_rfl
theorem Try.nm80 : (Try.f80.name == "runtime.NumGoroutine") = false := by kernel_rfl
theorem Try.bd80 : Try.f80.body.isSome = true := by kernel_rfl
theorem Try.nm81 : (Try.f81.name == "runtime.NumGoroutine") = false := by kernel_rfl
theorem Try.bd81 : Try.f81.body.isSome = true := by kernel_rfl
theorem Try.nm82 : (Try.f82.name == "runtime.NumGoroutine") = false := by kernel_rfl
theorem Try.bd82 : Try.f82.body.isSome = true := by kernel_rfl
theorem Try.nm83 : (Try.f83.name == "runtime.NumGoroutine") = false := by kernel_rfl
theorem Try.bd83 : Try.f83.body.isSome = true := by kernel_rfl
theorem Try.nm84 : (Try.f84.name == "runtime.NumGoroutine") = false := by kernel_rfl
theorem Try.bd84 : Try.f84.body.isSome = true := by kernel_rfl
theorem Try.nm85 : (Try.f85.name == "runtime.NumGoroutine") = false := by kernel_rfl
theorem Try.bd85 : Try.f85.body.isSome = true := by kernel_rfl
theorem Try.nm86 : (Try.f86.name == "runtime.NumGoroutine") = false := by kernel_rfl
theorem Try.bd86 : Try.f86.body.isSome = true := by kernel_rfl
theorem Try.nm93 : (Try.f93.name == "runtime.NumGoroutine") = false := by kernel_rfl
theorem Try.bd93 : Try.f93.body.isSome = true := by kernel_rfl
theorem Try.nm94 : (Try.f94.name == "runtime.NumGoroutine") = false := by kernel_rfl
theorem Try.bd94 : Try.f94.body.isSome = true := by kernel_rfl
theorem Try.nm95 : (Try.f95.name == "runtime.NumGoroutine") = false := by kernel_rfl
theorem Try.bd95 : Try.f95.body.isSome = true := by kernel_rfl
theorem Try.nm96 : (Try.f96.name == "runtime.NumGoroutine") = false := by kernel_rfl
theorem Try.bd96 : Try.f96.body.isSome = true := by kernel_rfl
theorem Try.nm97 : (Try.f97.name == "runtime.NumGoroutine") = false := by kernel_rfl
theorem Try.bd97 : Try.f97.body.isSome = true := by kernel_rfl
theorem Try.nm98 : (Try.f98.name == "runtime.NumGoroutine") = false := by kernel_rfl
theorem Try.bd98 : Try.f98.body.isSome = true := by kernel_rfl
theorem Try.nm99 : (Try.f99.name == "runtime.NumGoroutine") = false := by kernel_rfl
theorem Try.bd99 : Try.f99.body.isSome = true := by kernel_rfl
theorem Try.nm100 : (Try.f100.name == "runtime.NumGoroutine") = false := by kernel_rfl
theorem Try.bd100 : Try.f100.body.isSome = true := by kernel_rfl
theorem Try.nm101 : (Try.f101.name == "runtime.NumGoroutine") = false := by kernel_rfl
theorem Try.bd101 : Try.f101.body.isSome = true := by kernel_rfl
theorem Try.nm102 : (Try.f102.name == "runtime.NumGoroutine") = false := by kernel_rfl
theorem Try.bd102 : Try.f102.body.isSome = true := by kernel_rfl
theorem Try.nm103 : (Try.f103.name == "runtime.NumGoroutine") = false := by kernel_rfl
theorem Try.bd103 : Try.f103.body.isSome = true := by kernel_rfl
theorem Try.nm104 : (Try.f104.name == "runtime.NumGoroutine") = false := by kernel_rfl
theorem Try.bd104 : Try.f104.body.isSome = true := by kernel_rfl
theorem Try.nm105 : (Try.f105.name == "runtime.NumGoroutine") = false := by kernel_rfl
theorem Try.bd105 : Try.f105.body.isSome = true := by kernel_rfl
theorem Try.nm106 : (Try.f106.name == "runtime.NumGoroutine") = false := by kernel_rfl
theorem Try.bd106 : Try.f106.body.isSome = true := by kernel_rfl
theorem Try.nm107 : (Try.f107.name == "runtime.NumGoroutine") = false := by kernel_rfl
theorem Try.bd107 : Try.f107.body.isSome = true := by kernel_rfl
theorem Try.nm110 : (Try.f110.name == "runtime.NumGoroutine") = false := by kernel_rfl
theorem Try.bd110 : Try.f110.body.isSome = true := by kernel_rfl
theorem Try.nm123 : (Try.f123.name == "runtime.NumGoroutine") = false := by kernel_rfl
theorem Try.bd123 : Try.f123.body.isSome = true := by kernel_rfl
theorem Try.nm124 : (Try.f124.name == "runtime.NumGoroutine") = false := by kernel_rfl
theorem Try.bd124 : Try.f124.body.isSome = true := by kernel_rfl
theorem Try.nm125 : (Try.f125.name == "runtime.NumGoroutine") = false := by kernel_rfl
theorem Try.bd125 : Try.f125.body.isSome = true := by kernel_rfl
theorem Try.nm126 : (Try.f126.name == "runtime.NumGoroutine") = false := by kernel_rfl
theorem Try.bd126 : Try.f126.body.isSome = true := by kernel_rfl
theorem Try.nm127 : (Try.f127.name == "runtime.NumGoroutine") = false := by kernel_rfl
theorem Try.bd127 : Try.f127.body.isSome = true := by kernel_rfl
theorem Try.nm128 : (Try.f128.name == "runtime.NumGoroutine") = false := by kernel_rfl
theorem Try.bd128 : Try.f128.body.isSome = true := by kernel_rfl
theorem Try.nm129 : (Try.f129.name == "runtime.NumGoroutine") = false := by kernel_rfl
theorem Try.bd129 : Try.f129.body.isSome = true := by kernel_rfl
theorem Try.nm130 : (Try.f130.name == "runtime.NumGoroutine") = false := by kernel_rfl
theorem Try.bd130 : Try.f130.body.isSome = true := by kernel_rfl
theorem Try.nm131 : (Try.f131.name == "runtime.NumGoroutine") = false := by kernel_rfl
theorem Try.bd131 : Try.f131.body.isSome = true := by kernel_rfl
theorem Try.nm132 : (Try.f132.name == "runtime.NumGoroutine") = false := by kernel_rfl
theorem Try.bd132 : Try.f132.body.isSome = true := by kernel_rfl
theorem Try.nm133 : (Try.f133.name == "runtime.NumGoroutine") = false := by kernel_rfl
theorem Try.bd133 : Try.f133.body.isSome = true := by kernel_rfl
theorem Try.nm145 : (Try.f145.name == "runtime.NumGoroutine") = false := by kernel_rfl
theorem Try.bd145 : Try.f145.body.isSome = true := by kernel_rfl
theorem Try.nm149 : (Try.f149.name == "runtime.NumGoroutine") = false := by kernel_rfl
theorem Try.bd149 : Try.f149.body.isSome = true := by kernel_rfl
theorem Try.nm150 : (Try.f150.name == "runtime.NumGoroutine") = false := by kernel_rfl
theorem Try.bd150 : Try.f150.body.isSome = true := by kernel_rfl
theorem Try.nm151 : (Try.f151.name == "runtime.NumGoroutine") = false := by kernel_rfl
theorem Try.bd151 : Try.f151.body.isSome = true := by kernel_rfl
theorem Try.nm159 : (Try.f159.name == "runtime.NumGoroutine") = false := by kernel_rfl
theorem Try.bd159 : Try.f159.body.isSome = true := by kernel_rfl
theorem Try.nm184 : (Try.f184.name == "runtime.NumGoroutine") = false := by kernel_rfl
theorem Try.bd184 : Try.f184.body.isSome = true := by kernel_rfl
theorem Try.nm189 : (Try.f189.name == "runtime.NumGoroutine") = false := by kernel_rfl
theorem Try.bd189 : Try.f189.body.isSome = true := by kernel_rfl
theorem Try.nm190 : (Try.f190.name == "runtime.NumGoroutine") = false := by kernel_rfl
theorem Try.bd190 : Try.f190.body.isSome = true := by kernel_rfl
theorem Try.nm191 : (Try.f191.name == "runtime.NumGoroutine") = false := by kernel_rfl
theorem Try.bd191 : Try.f191.body.isSome = true := by kernel_rfl
theorem Try.nm192 : (Try.f192.name == "runtime.NumGoroutine") = false := by kernel_rfl
theorem Try.bd192 : Try.f192.body.isSome = true := by kernel_rfl
theorem Try.nm194 : (Try.f194.name == "runtime.NumGoroutine") = false := by kernel_rfl
theorem Try.bd194 : Try.f194.body.isSome = true := by kernel_rfl
theorem Try.nm195 : (Try.f195.name == "runtime.NumGoroutine") = false := by kernel_rfl
theorem Try.bd195 : Try.f195.body.isSome = true := by kernel_rfl
theorem Try.nm198 : (Try.f198.name == "runtime.NumGoroutine") = false := by kernel_rfl
theorem Try.bd198 : Try.f198.body.isSome = true := by kernel_rfl
theorem Try.nm199 : (Try.f199.name == "runtime.NumGoroutine") = false := by kernel_rfl
theorem Try.bd199 : Try.f199.body.isSome = true := by kernel_rfl
theorem Try.nm202 : (Try.f202.name == "runtime.NumGoroutine") = false := by kernel_rfl
theorem Try.bd202 : Try.f202.body.isSome = true := by kernel_rfl
theorem Try.nm203 : (Try.f203.name == "runtime.NumGoroutine") = false := by kernel_rfl
theorem Try.bd203 : Try.f203.body.isSome = true := by kernel_rfl
theorem Try.nm204 : (Try.f204.name == "runtime.NumGoroutine") = false := by kernel_rfl
theorem Try.bd204 : Try.f204.body.isSome = true := by kernel_rfl
theorem Try.nm205 : (Try.f205.name == "runtime.NumGoroutine") = false := by kernel_rfl
theorem Try.bd205 : Try.f205.body.isSome = true := by kernel_rfl
end Go.Proofs
namespace Go.Proofs.Gw
open Go Go.Gw Go.Proofs Go.RowKit
theorem eq_Line (x0 y0 : Int) (x1 y1 : Int) (x2 y2 : Int) (x3 y3 : Int) (w : World) : (Op.equalIn 10000 37 (.agg #[.int .i64 x0, .int .i64 x1, .int .i64 x2, .int .i64 x3]) (.agg #[.int .i64 y0, .int .i64 y1, .int .i64 y2, .int .i64 y3])).run Try.prog w = .ok (decide (x0 = y0 ∧ x1 = y1 ∧ x2 = y2 ∧ x3 = y3)) w := by
  refine eqA (d := 9999) Try.underlying37 (by kernel_rfl) ?_
  refine eqfc (by rfl) (by go_simp; rfl) (by go_simp; rfl) (by go_simp) (Bool.beq_eq_decide_eq _ _) ?_
  refine eqfc (by rfl) (by go_simp; rfl) (by go_simp; rfl) (by go_simp) (Bool.beq_eq_decide_eq _ _) ?_
  refine eqfc (by rfl) (by go_simp; rfl) (by go_simp; rfl) (by go_simp) (Bool.beq_eq_decide_eq _ _) ?_
  exact eqf1 (by rfl) (by go_simp; rfl) (by go_simp; rfl) (by go_simp) (Bool.beq_eq_decide_eq _ _)
theorem eqg_Line : Try.prog.eqGuardType Try.prog.depth 37 = false := by kernel_rfl
theorem eq_Event (x0 y0 : Int) (x1 y1 : Int) (x2 y2 : Int) (x3 y3 : Int) (x4 y4 : Int) (x5 y5 : Int) (x6 y6 : Int) (x7 y7 : ByteArray) (x8 y8 : Int) (x9 y9 : ByteArray) (w : World) : (Op.equalIn 10000 117 (.agg #[.int .i64 x0, .int .i64 x1, .int .i64 x2, .int .i64 x3, .int .i64 x4, .int .i64 x5, .int .i64 x6, .string x7, .int .i64 x8, .string x9]) (.agg #[.int .i64 y0, .int .i64 y1, .int .i64 y2, .int .i64 y3, .int .i64 y4, .int .i64 y5, .int .i64 y6, .string y7, .int .i64 y8, .string y9])).run Try.prog w = .ok (decide (x0 = y0 ∧ x1 = y1 ∧ x2 = y2 ∧ x3 = y3 ∧ x4 = y4 ∧ x5 = y5 ∧ x6 = y6 ∧ x7.data.toList = y7.data.toList ∧ x8 = y8 ∧ x9.data.toList = y9.data.toList)) w := by
  refine eqA (d := 9999) Try.underlying117 (by kernel_rfl) ?_
  refine eqfc (by rfl) (by go_simp; rfl) (by go_simp; rfl) (by go_simp) (Bool.beq_eq_decide_eq _ _) ?_
  refine eqfc (by rfl) (by go_simp; rfl) (by go_simp; rfl) (by go_simp) (Bool.beq_eq_decide_eq _ _) ?_
  refine eqfc (by rfl) (by go_simp; rfl) (by go_simp; rfl) (by go_simp) (Bool.beq_eq_decide_eq _ _) ?_
  refine eqfc (by rfl) (by go_simp; rfl) (by go_simp; rfl) (by go_simp) (Bool.beq_eq_decide_eq _ _) ?_
  refine eqfc (by rfl) (by go_simp; rfl) (by go_simp; rfl) (by go_simp) (Bool.beq_eq_decide_eq _ _) ?_
  refine eqfc (by rfl) (by go_simp; rfl) (by go_simp; rfl) (by go_simp) (Bool.beq_eq_decide_eq _ _) ?_
  refine eqfc (by rfl) (by go_simp; rfl) (by go_simp; rfl) (by go_simp) (Bool.beq_eq_decide_eq _ _) ?_
  refine eqfc (by rfl) (by go_simp; rfl) (by go_simp; rfl) (by go_simp) (beq_bytes _ _) ?_
  refine eqfc (by rfl) (by go_simp; rfl) (by go_simp; rfl) (by go_simp) (Bool.beq_eq_decide_eq _ _) ?_
  exact eqf1 (by rfl) (by go_simp; rfl) (by go_simp; rfl) (by go_simp) (beq_bytes _ _)
theorem eqg_Event : Try.prog.eqGuardType Try.prog.depth 117 = false := by kernel_rfl
end Go.Proofs.Gw
namespace Go.Proofs.Gw
open Go Go.Gw Go.Proofs Go.RowKit
set_option maxRecDepth 100000 in
set_option maxHeartbeats 1000000 in
theorem reader_Err {br rm : Nat} {m : List (Int × GField)} {bad : Int} {zb zm y : PH} (w0 w : World) (Z : List PH) (hH0 : Has w0 w (zb :: zm :: Z)) (hBr : Blk zb br 138 [.map (some rm), .int .i64 bad]) (hM : Mp kvI (VS kField y) zm rm m) : Calls Try.prog 38 #[.pointer (some ⟨br, 0, none⟩)] w (Ret fun v w' => v = .int .i64 (if bad ≠ 0 then bad else if m.length = 0 then 0 else 20) ∧ Has w0 w' (zb :: zm :: Z)) := by
  refine fnstartP (N := 23) Try.func38 rfl Try.ntmps38 (Nat.le_of_ble_eq_true rfl) (CW.seq (CW.region rfl (W.val rfl rfl rfl (R.assign rfl rfl) (W.nil (EX.then_n (CW.seq (CW.block ?_)))))))
  refine CW.seq (CW.region rfl (W.val rfl rfl rfl (R.move rfl rfl) (W.val rfl rfl rfl (R.peql_r_some rfl rfl rfl Try.underlying82 rfl) (W.val rfl rfl rfl (R.assign rfl rfl) (W.nil (EX.then_n (CW.cond_f rfl ?_)))))))
  refine CW.seq (CW.region rfl (W.val rfl rfl rfl (R.move rfl rfl) (W.val rfl rfl rfl (R.nilCheck rfl rfl) (W.val rfl rfl rfl (R.fa0 1 rfl rfl Try.underlying138 rfl Try.sz31 rfl) (W.ldk rfl rfl rfl rfl rfl Try.pl31 hH0 m0 hBr rfl (W.val rfl rfl rfl (R.neq rfl rfl rfl) (W.val rfl rfl rfl (R.assign rfl rfl) ?_)))))))
  refine W.nil (EX.then_n ?_)
  refine CW.cond rfl (fun hc1 => ?_) (fun hc1 => ?_)
  replace hc1 := of_ndec_t hc1
  refine CW.seq (CW.region rfl (W.val rfl rfl rfl (R.move rfl rfl) (W.val rfl rfl rfl (R.nilCheck rfl rfl) (W.val rfl rfl rfl (R.fa0 1 rfl rfl Try.underlying138 rfl Try.sz31 rfl) (W.ldk rfl rfl rfl rfl rfl Try.pl31 hH0 m0 hBr rfl (W.val rfl rfl rfl (R.assign rfl rfl) (W.nil ?_)))))))
  refine EX.then_n (CW.ret (EX.blk_ret (EX.then_ret (EX.retP Try.results38 (.cons (.tmp rfl) RVs.nil) ?_))))
  have hH1 := hH0.f1
  have hH2 := hH1.f1
  refine ⟨?_, hH2⟩
  rw [if_pos (by omega)]; rfl
  replace hc1 := of_ndec_f hc1
  refine CW.seq (CW.region rfl (W.val rfl rfl rfl (R.move rfl rfl) (W.val rfl rfl rfl (R.nilCheck rfl rfl) (W.val rfl rfl rfl (R.fa0 0 rfl rfl Try.underlying138 rfl Try.sz136 rfl) (W.ldk rfl rfl rfl rfl rfl Try.pl136 hH0 m0 hBr rfl (W.len_map rfl rfl rfl rfl rfl Try.underlying136 hH0 m1 hM (W.val rfl rfl rfl (R.gtr rfl rfl rfl) ?_)))))))
  refine W.val rfl rfl rfl (R.assign rfl rfl) (W.nil (EX.then_n ?_))
  refine CW.cond rfl (fun hc2 => ?_) (fun hc2 => ?_)
  replace hc2 := of_decide_eq_true hc2
  refine CW.seq (CW.region rfl (W.val rfl rfl rfl (R.assign rfl rfl) (W.nil (EX.then_n (CW.ret (EX.blk_ret (EX.then_ret ?_)))))))
  refine EX.retP Try.results38 (.cons (.tmp rfl) RVs.nil) ?_
  have hH3 := hH0.f1
  have hH4 := hH3.f1
  refine ⟨?_, hH4⟩
  rw [if_neg (by omega), if_neg (by omega)]; rfl
  replace hc2 := of_decide_eq_false hc2
  refine CW.skip (EX.blk_n (EX.then_n (CW.seq (CW.region rfl (W.val rfl rfl rfl (R.assign rfl rfl) (W.nil (EX.then_n ?_)))))))
  refine CW.ret (EX.retP Try.results38 (.cons (.tmp rfl) RVs.nil) ?_)
  have hH5 := hH0.f1
  have hH6 := hH5.f1
  refine ⟨?_, hH6⟩
  rw [if_neg (by omega), if_pos (by omega)]; rfl

end Go.Proofs.Gw
namespace Go.Proofs.Gw
open Go Go.Gw Go.Proofs Go.RowKit
set_option maxRecDepth 100000 in
set_option maxHeartbeats 1000000 in
theorem reader_take {br rm : Nat} {m : List (Int × GField)} {bad : Int} {zb zm y : PH} (tag : Int) (text : Bool) (w0 w : World) (Z : List PH) (hH0 : Has w0 w (zb :: zm :: Z)) (hBr : Blk zb br 138 [.map (some rm), .int .i64 bad]) (hM : Mp kvI (VS kField y) zm rm m) : Calls Try.prog 82 #[.pointer (some ⟨br, 0, none⟩), .int .i64 tag, .bool text] w (Ret fun v w' => ∃ zb' zm' cs, v = .agg cs.toArray ∧ kField.K y (takeF m bad tag text).1 cs ∧ Has w0 w' (zb' :: zm' :: Z) ∧ Blk zb' br 138 [.map (some rm), .int .i64 (takeF m bad tag text).2.2] ∧ Mp kvI (VS kField y) zm' rm (takeF m bad tag text).2.1) := by
  refine fnstartP (N := 38) Try.func82 rfl Try.ntmps82 (Nat.le_of_ble_eq_true rfl) (CW.seq (CW.region rfl ?_))
  refine W.alloc rfl rfl rfl rfl Try.zr77 rfl hH0 (fun b1 zb1 w1 hH1 hB1 => ?_)
  refine W.nil (EX.then_n (CW.seq (CW.seq (CW.region rfl (W.val rfl rfl rfl (R.move rfl rfl) (W.val rfl rfl rfl (R.peql_r_some rfl rfl rfl Try.underlying82 rfl) (W.nil ?_)))))))
  refine EX.then_n (CW.cond_f rfl (CW.skip (EX.then_n (CW.seq (CW.region rfl (W.val rfl rfl rfl (R.move rfl rfl) (W.val rfl rfl rfl (R.nilCheck rfl rfl) ?_)))))))
  refine W.val rfl rfl rfl (R.fa0 0 rfl rfl Try.underlying138 rfl Try.sz136 rfl) (W.ldk rfl rfl rfl rfl rfl Try.pl136 hH1 m1 hBr rfl (W.val rfl rfl rfl (R.move rfl rfl) ?_))
  refine W.lookup goodInt rfl rfl rfl rfl rfl rfl Try.underlying136 Try.underlying3 Try.zr77 hH1 m2 hM (fun b2 v1 hs1 hV1 => ?_) (fun hn1 => ?_)
  obtain ⟨cs1, rfl, hK1⟩ := hV1
  have hK2 := hK1
  obtain ⟨A1, c1, rfl, hb1, hb2, hb3, hb4, hl1, hr1⟩ := hK2
  have hlen1 := hr1.len
  have hK3 : kField.K y b2 _ := hK1
  refine W.val rfl rfl rfl (R.move rfl rfl) (W.val rfl rfl rfl (R.extract rfl rfl rfl) (W.val rfl rfl rfl (R.extract rfl rfl rfl) ?_))
  refine W.alloc rfl rfl rfl rfl Try.zr77 rfl hH1 (fun b3 zb2 w2 hH2 hB2 => ?_)
  refine W.sg0 rfl rfl rfl rfl rfl Try.sz77 rfl (by rfl) hH2 hB2 (fun zb3 w3 hH3 hB3 => ?_)
  refine W.val rfl rfl rfl (R.assign rfl rfl) (W.nil (EX.then_n (CW.seq (CW.seq (CW.region rfl (W.val rfl rfl rfl (R.move rfl rfl) (W.val rfl rfl rfl (R.not rfl rfl) ?_)))))))
  refine W.nil (EX.then_n (CW.cond_f rfl (CW.skip (EX.then_n (CW.seq (CW.region rfl (W.val rfl rfl rfl (R.move rfl rfl) ?_)))))))
  refine W.val rfl rfl rfl (R.nilCheck rfl rfl) (W.val rfl rfl rfl (R.fa0 0 rfl rfl Try.underlying138 rfl Try.sz136 rfl) (W.ldk rfl rfl rfl rfl rfl Try.pl136 hH3 m2 hBr rfl (W.val rfl rfl rfl (R.move rfl rfl) ?_)))
  have hH4 := hH3.f3
  refine W.delete goodInt rfl rfl rfl rfl rfl Try.underlying136 Try.underlying3 hH4 hM hs1 (fun z1 w4 hH5 hM1 => ?_)
  refine W.nil (EX.then_n (CW.seq (CW.seq (CW.region rfl (W.val rfl rfl rfl (R.fa0 1 rfl rfl Try.underlying77 rfl Try.sz4 rfl) (W.ldk rfl rfl rfl rfl rfl Try.pl4 hH5 m1 hB3 rfl (W.val rfl rfl rfl (R.move rfl rfl) ?_)))))))
  refine W.val rfl rfl rfl (R.bneq rfl rfl rfl Try.underlying4) (W.nil (EX.then_n ?_))
  refine CW.cond rfl (fun hc1 => ?_) (fun hc1 => ?_)
  replace hc1 := of_bneq_t hc1
  refine CW.seq (CW.region rfl (W.val rfl rfl rfl (R.move rfl rfl) (W.val rfl rfl rfl (R.nilCheck rfl rfl) (W.val rfl rfl rfl (R.fa0 1 rfl rfl Try.underlying138 rfl Try.sz31 rfl) ?_))))
  have hH6 := hH5.f3
  refine W.storeLoc rfl rfl rfl rfl rfl Try.sz31 rfl (Nat.le_of_ble_eq_true rfl) hH6 hBr (fun zb4 w5 hH7 hB4 => ?_)
  refine W.nil (EX.then_n (CW.seq (CW.region rfl (W.val rfl rfl rfl (R.build rfl rfl Try.zr77 rfl (by rw [Try.underlying77]; rfl) Try.plc77 rfl) ?_))))
  have hH8 := hH7.f3
  refine W.sg0 rfl rfl rfl rfl rfl Try.sz77 rfl (by rfl) hH8 hB1 (fun zb5 w6 hH9 hB5 => ?_)
  refine W.nil (EX.then_n (CW.ret (EX.then_ret (EX.retP Try.results82 (.cons (.agg rfl (fun w => run_isAgg_struct Try.underlying77 w) (by exact Try.sz77) (fun k u hk => hH9.cell m0 (hB5.at_ k u hk))) RVs.nil) ?_))))
  have hH10 := hH9.drop
  have hH11 := hH10.f2
  have hH12 := hH11.drop
  have hH13 := hH12.f1
  have hH14 := hH13.f1
  rw [takeF_bad hs1 (by assumption)]
  exact ⟨_, _, _, rfl, kF_none _, hH14, hB4, hM1⟩
  replace hc1 := of_bneq_f hc1
  refine CW.skip (EX.then_n (CW.seq (CW.region rfl (W.lg0 rfl rfl rfl rfl rfl Try.pl77 (by rw [Try.underlying77]; rfl) (by exact Try.sz77) hH5 m1 hB3 ?_))))
  have hH15 := hH5.f2
  refine W.sg0 rfl rfl rfl rfl rfl Try.sz77 rfl (by rfl) hH15 hB1 (fun zb6 w7 hH16 hB6 => ?_)
  refine W.nil (EX.then_n (CW.ret (EX.retP Try.results82 (.cons (.agg rfl (fun w => run_isAgg_struct Try.underlying77 w) (by exact Try.sz77) (fun k u hk => hH16.cell m0 (hB6.at_ k u hk))) RVs.nil) ?_)))
  have hH17 := hH16.drop
  have hH18 := hH17.f1
  have hH19 := hH18.drop
  have hH20 := hH19.f1
  rw [takeF_ok hs1 (by assumption)]
  exact ⟨_, _, _, rfl, hK3, hH20, hBr, hM1⟩
  refine W.val rfl rfl rfl (R.move rfl rfl) (W.val rfl rfl rfl (R.extract rfl rfl rfl) (W.val rfl rfl rfl (R.extract rfl rfl rfl) ?_))
  refine W.alloc rfl rfl rfl rfl Try.zr77 rfl hH1 (fun b4 zb7 w8 hH21 hB7 => ?_)
  refine W.sg0 rfl rfl rfl rfl rfl Try.sz77 rfl (by rfl) hH21 hB7 (fun zb8 w9 hH22 hB8 => ?_)
  refine W.val rfl rfl rfl (R.assign rfl rfl) (W.nil (EX.then_n (CW.seq (CW.seq (CW.region rfl (W.val rfl rfl rfl (R.move rfl rfl) (W.val rfl rfl rfl (R.not rfl rfl) ?_)))))))
  refine W.nil (EX.then_n (CW.cond_t rfl (CW.seq (CW.region rfl (W.lg0 rfl rfl rfl rfl rfl Try.pl77 (by rw [Try.underlying77]; rfl) (by exact Try.sz77) hH22 m0 hB8 ?_)))))
  have hH23 := hH22.f1
  refine W.sg0 rfl rfl rfl rfl rfl Try.sz77 rfl (by rfl) hH23 hB1 (fun zb9 w10 hH24 hB9 => ?_)
  refine W.nil (EX.then_n (CW.ret (EX.then_ret (EX.retP Try.results82 (.cons (.agg rfl (fun w => run_isAgg_struct Try.underlying77 w) (by exact Try.sz77) (fun k u hk => hH24.cell m0 (hB9.at_ k u hk))) RVs.nil) ?_))))
  have hH25 := hH24.drop
  have hH26 := hH25.drop
  have hH27 := hH26.f1
  have hH28 := hH27.f1
  rw [takeF_none hn1]
  exact ⟨_, _, _, rfl, kF_none _, hH28, hBr, hM⟩

end Go.Proofs.Gw
namespace Go.Proofs.Gw
open Go Go.Gw Go.Proofs Go.RowKit
set_option maxRecDepth 100000 in
set_option maxHeartbeats 1000000 in
theorem reader_Text {br rm : Nat} {m : List (Int × GField)} {bad : Int} {zb zm y : PH} (tag : Int) (w0 w : World) (Z : List PH) (hH0 : Has w0 w (zb :: zm :: Z)) (hBr : Blk zb br 138 [.map (some rm), .int .i64 bad]) (hM : Mp kvI (VS kField y) zm rm m) : Calls Try.prog 36 #[.pointer (some ⟨br, 0, none⟩), .int .i64 tag] w (Ret fun v w' => ∃ f m' bad' zb' zm' A c, takeF m bad tag true = (f, m', bad') ∧ v = .slice A f.Bytes.length c ∧ f.Bytes.length ≤ c ∧ Row kU8 y A f.Bytes ∧ Has w0 w' (zb' :: zm' :: Z) ∧ Blk zb' br 138 [.map (some rm), .int .i64 bad'] ∧ Mp kvI (VS kField y) zm' rm m') := by
  refine fnstartP (N := 9) Try.func36 rfl Try.ntmps36 (Nat.le_of_ble_eq_true rfl) (CW.seq (CW.region rfl (W.val rfl rfl rfl (R.assign rfl rfl) (W.nil (EX.then_n (CW.seq (CW.region rfl ?_)))))))
  refine W.val rfl rfl rfl (R.move rfl rfl) (W.val rfl rfl rfl (R.move rfl rfl) ?_)
  have hH2 := hH0.f1
  have hH3 := hH2.f1
  refine W.call rfl rfl rfl rfl rfl Try.func82 Try.nm82 Try.bd82 (reader_take _ _ _ _ _ hH3 hBr hM) ?_
  rintro _ w1 ⟨zb1, zm1, cs1, rfl, hK1, hH1, hB1, hM1⟩
  have hK2 := hK1
  obtain ⟨A1, c1, rfl, hb1, hb2, hb3, hb4, hl1, hr1⟩ := hK2
  have hlen1 := hr1.len
  have hK3 : kField.K y _ _ := hK1
  refine W.val rfl rfl rfl (R.field rfl rfl Try.underlying77 rfl Try.pl22 rfl) (W.val rfl rfl rfl (R.assign rfl rfl) (W.nil (EX.then_n (CW.ret (EX.retP Try.results36 (.cons (.tmp rfl) RVs.nil) ?_)))))
  have hH4 := hH1.f1
  have hH5 := hH4.f1
  exact ⟨_, _, _, _, _, _, _, rfl, rfl, hl1, hr1, hH5, hB1, hM1⟩

end Go.Proofs.Gw
namespace Go.Proofs.Gw
open Go Go.Gw Go.Proofs Go.RowKit
set_option maxRecDepth 100000 in
set_option maxHeartbeats 1000000 in
theorem reader_Num {br rm : Nat} {m : List (Int × GField)} {bad : Int} {zb zm y : PH} (tag : Int) (w0 w : World) (Z : List PH) (hH0 : Has w0 w (zb :: zm :: Z)) (hBr : Blk zb br 138 [.map (some rm), .int .i64 bad]) (hM : Mp kvI (VS kField y) zm rm m) : Calls Try.prog 35 #[.pointer (some ⟨br, 0, none⟩), .int .i64 tag] w (Ret fun v w' => ∃ zb' zm', v = .int .u64 (takeF m bad tag false).1.Num ∧ 0 ≤ (takeF m bad tag false).1.Num ∧ (takeF m bad tag false).1.Num ≤ 18446744073709551615 ∧ Has w0 w' (zb' :: zm' :: Z) ∧ Blk zb' br 138 [.map (some rm), .int .i64 (takeF m bad tag false).2.2] ∧ Mp kvI (VS kField y) zm' rm (takeF m bad tag false).2.1) := by
  refine fnstartP (N := 9) Try.func35 rfl Try.ntmps35 (Nat.le_of_ble_eq_true rfl) (CW.seq (CW.region rfl (W.val rfl rfl rfl (R.assign rfl rfl) (W.nil (EX.then_n (CW.seq (CW.region rfl ?_)))))))
  refine W.val rfl rfl rfl (R.move rfl rfl) (W.val rfl rfl rfl (R.move rfl rfl) ?_)
  have hH2 := hH0.f1
  have hH3 := hH2.f1
  refine W.call rfl rfl rfl rfl rfl Try.func82 Try.nm82 Try.bd82 (reader_take _ _ _ _ _ hH3 hBr hM) ?_
  rintro _ w1 ⟨zb1, zm1, cs1, rfl, hK1, hH1, hB1, hM1⟩
  have hK2 := hK1
  obtain ⟨A1, c1, rfl, hb1, hb2, hb3, hb4, hl1, hr1⟩ := hK2
  have hlen1 := hr1.len
  have hK3 : kField.K y _ _ := hK1
  refine W.val rfl rfl rfl (R.field rfl rfl Try.underlying77 rfl Try.pl75 rfl) (W.val rfl rfl rfl (R.assign rfl rfl) (W.nil (EX.then_n (CW.ret (EX.retP Try.results35 (.cons (.tmp rfl) RVs.nil) ?_)))))
  have hH4 := hH1.f1
  have hH5 := hH4.f1
  exact ⟨_, _, rfl, by omega, by omega, hH5, hB1, hM1⟩

end Go.Proofs.Gw
namespace Go.Proofs.Gw
open Go Go.Gw Go.Proofs Go.RowKit
set_option maxRecDepth 100000 in
set_option maxHeartbeats 1000000 in
theorem canon_small (u : Int) (w0 : World) (h0 : 0 ≤ u) (h1 : u ≤ 18446744073709551615) : Calls Try.prog 34 #[.int .u64 u] w0 (Ret fun v w' => v = .int .i64 ((clampN u.toNat : Int)) ∧ Has w0 w' [hp w0]) := by
  refine fnstart (N := 6) Try.func34 rfl Try.ntmps34 (Nat.le_of_ble_eq_true rfl) ?_
  have hH0 : Has w0 w0 [hp w0] := Has.refl w0
  refine CW.seq (CW.region rfl (W.val rfl rfl rfl (R.assign rfl rfl) (W.nil (EX.then_n (CW.seq (CW.region rfl (W.val rfl rfl rfl (R.move rfl rfl) ?_)))))))
  refine W.val rfl rfl rfl (R.mini rfl rfl rfl) (W.val rfl rfl rfl (R.convx rfl rfl (by rw [Try.underlying75]; rfl) Try.underlying3 (ok_i64 (by omega))) (W.val rfl rfl rfl (R.assign rfl rfl) (W.nil (EX.then_n (CW.ret (EX.ret1 Try.results34 rfl ?_))))))
  have hH1 := hH0.upto1
  refine ⟨?_, hH1⟩
  refine vint ?_; unfold clampN; omega

end Go.Proofs.Gw
namespace Go.Proofs.Gw
open Go Go.Gw Go.Proofs Go.RowKit
set_option maxRecDepth 100000 in
set_option maxHeartbeats 1000000 in
theorem canon_num {br rm : Nat} {m : List (Int × GField)} {bad : Int} {zb zm y : PH} {bv : Nat} {zv : PH} (tag : Int) (w0 w : World) (Z : List PH) (hH0 : Has w0 w (zb :: zm :: Z)) (hBr : Blk zb br 138 [.map (some rm), .int .i64 bad]) (hM : Mp kvI (VS kField y) zm rm m) (hmv : zv ∈ Z) (hBv : Blk zv bv 82 [.pointer (some ⟨br, 0, none⟩)]) : Calls Try.prog 33 #[.int .i64 tag, .pointer (some ⟨bv, 0, none⟩)] w (Ret fun v w' => ∃ f m' bad' zb' zm', takeF m bad tag false = (f, m', bad') ∧ v = .int .i64 ((clampN f.Num.toNat : Nat) : Int) ∧ Has w0 w' (zb' :: zm' :: Z) ∧ Blk zb' br 138 [.map (some rm), .int .i64 bad'] ∧ Mp kvI (VS kField y) zm' rm m') := by
  refine fnstartP (N := 8) Try.func33 rfl Try.ntmps33 (Nat.le_of_ble_eq_true rfl) (CW.seq (CW.region rfl (W.val rfl rfl rfl (R.assign rfl rfl) (W.nil (EX.then_n (CW.seq (CW.region rfl ?_)))))))
  refine W.ld0 rfl rfl rfl rfl rfl Try.pl82 hH0 (List.mem_cons_of_mem _ (List.mem_cons_of_mem _ hmv)) hBv rfl (W.val rfl rfl rfl (R.move rfl rfl) ?_)
  have hH2 := hH0.f1
  have hH3 := hH2.f1
  refine W.call rfl rfl rfl rfl rfl Try.func35 Try.nm35 Try.bd35 (reader_Num _ _ _ _ hH3 hBr hM) ?_
  rintro _ w1 ⟨zb1, zm1, rfl, hn01, hn11, hH1, hB1, hM1⟩
  refine W.call rfl rfl rfl rfl rfl Try.func34 Try.nm34 Try.bd34 (canon_small _ w1 (by omega) (by omega)) ?_
  rintro v2 w2 ⟨rfl, hH4⟩
  have hH5 := hH1.c0 hH4
  refine W.val rfl rfl rfl (R.assign rfl rfl) (W.nil (EX.then_n (CW.ret (EX.retP Try.results33 (.cons (.tmp rfl) RVs.nil) ?_))))
  have hH6 := hH5.f1
  have hH7 := hH6.f1
  exact ⟨_, _, _, _, _, rfl, rfl, hH7, hB1, hM1⟩

end Go.Proofs.Gw
namespace Go.Proofs.Gw
open Go Go.Gw Go.Proofs Go.RowKit
set_option maxRecDepth 100000 in
set_option maxHeartbeats 1000000 in
theorem varint_Decode (Ab : Option Addr) (cb : Nat) (b : List UInt8) (w0 : World) (lb : b.length ≤ cb) (hb : Row kU8 (hp w0) Ab b) : Calls Try.prog 83 #[.slice Ab b.length cb] w0 (Ret fun v w' => v = .tuple #[.int .u64 (((decv b).1 : Int)), .int .i64 (((decv b).2.1 : Int)), .int .i64 (((decv b).2.2 : Int))] ∧ Has w0 w' [hp w0]) := by
  refine fnstart (N := 41) Try.func83 rfl Try.ntmps83 (Nat.le_of_ble_eq_true rfl) ?_
  have hH0 : Has w0 w0 [hp w0] := Has.refl w0
  have hlb := hb.len
  refine CW.seq (CW.region rfl (W.val rfl rfl rfl (R.assign rfl rfl) (W.val rfl rfl rfl (R.assign rfl rfl) (W.val rfl rfl rfl (R.assign rfl rfl) (W.nil (EX.then_n (CW.seq ?_)))))))
  refine CW.region rfl (W.val rfl rfl rfl (R.assign rfl rfl) (W.nil (EX.then_n (CW.seq (CW.seq (CW.region rfl (W.val rfl rfl rfl (R.move rfl rfl) ?_)))))))
  refine W.val rfl rfl rfl (R.len_slice rfl rfl Try.underlying22) (W.val rfl rfl rfl (R.move rfl rfl) (W.nil (EX.then_n (CW.block ?_))))
  obtain ⟨I1, hI1⟩ : ∃ I : Nat → List (Nat × Value) → World → Prop, I = (fun n_ D_ w_ => ∃ (k : Nat), D_ = [(10, .int .i64 (k : Int)), (5, .int .u64 (lowv (b.take k) : Int))] ∧ n_ = b.length - k ∧ Has w0 w_ [(hp w0)] ∧ (k ≤ b.length) ∧ (k ≤ 9) ∧ (Hi b k)) := ⟨_, rfl⟩
  refine CW.loop3 [2, 3, 4, 5, 6, 7, 10, 11, 12, 13, 14, 15, 16, 17, 18, 19, 20, 21, 22, 23, 24, 25, 26, 27, 28, 29, 30, 31, 32, 33, 34, 35, 36, 37, 38, 39, 40] I1 _ _ ?_ (by rw [hI1]; exact ⟨0, rfl, rfl, hH0, by omega, by omega, Hi.zero b⟩) ?_
  exact ⟨lk_int rfl (by first | rfl | omega), lk_int rfl (by first | rfl | omega), trivial⟩
  intro n1 D w1 hn1
  rw [hI1] at hn1
  obtain ⟨k, rfl, hme1, hH1, hk, hk9, hi⟩ := hn1
  refine CW.seq (CW.region rfl (W.val rfl rfl rfl (R.lss rfl rfl rfl) (W.nil (EX.then_n (CW.seq ?_)))))
  refine CW.cond rfl (fun hc1 => ?_) (fun hc1 => ?_)
  replace hc1 := of_decide_eq_true hc1
  refine CW.skip (EX.then_n (CW.seq (CW.block (CW.seq (CW.region rfl (W.val rfl rfl rfl (R.move rfl rfl) ?_))))))
  refine W.indexRow rfl rfl rfl rfl rfl rfl Try.underlying22 Try.sz5 hb (by omega) (by omega) (fun q1 cs1 y1 hy1 hK1 hat1 => ?_)
  try simp only [Int.toNat_natCast, Int.reduceToNat] at hy1
  have hK2 := hK1
  obtain rfl := hK2
  have hlt1 := y1.toNat_lt
  refine W.la0 rfl rfl rfl rfl rfl Try.pl5 hH1 m0 hat1 rfl (W.val rfl rfl rfl (R.assign rfl rfl) (W.val rfl rfl rfl (R.assign rfl rfl) (W.nil (EX.then_n (CW.seq (CW.seq (CW.region rfl ?_)))))))
  refine W.val rfl rfl rfl (R.move rfl rfl) (W.val rfl rfl rfl (R.eql rfl rfl rfl) (W.val rfl rfl rfl (R.move rfl rfl) ?_))
  refine W.split (d := 17) rfl (fun hc2 => ?_) (fun hc2 => ?_)
  replace hc2 := of_decide_eq_true hc2
  refine W.val rfl rfl rfl (R.move rfl rfl) (W.val rfl rfl rfl (R.gtr rfl rfl rfl) (W.val rfl rfl rfl (R.pick_t rfl rfl rfl) (W.nil (EX.then_n ?_))))
  refine CW.cond rfl (fun hc3 => ?_) (fun hc3 => ?_)
  replace hc3 := of_decide_eq_true hc3
  refine CW.seq (CW.region rfl (W.val rfl rfl rfl (R.assign rfl rfl) (W.val rfl rfl rfl (R.assign rfl rfl) (W.val rfl rfl rfl (R.assign rfl rfl) (W.nil (EX.then_n (CW.ret ?_)))))))
  refine EX.then_ret (EX.blk_ret (EX.then_ret (EX.then_ret (EX.blk_ret (EX.then_ret (EX.ret3 Try.results83 rfl rfl rfl ?_))))))
  have hH2 := hH1.upto1
  refine ⟨?_, hH2⟩
  obtain rfl : k = 9 := by omega
  rw [decv_wide hi hy1 (by omega)]; rfl
  replace hc3 := of_decide_eq_false hc3
  refine CW.skip (EX.then_n (CW.seq (CW.region rfl (W.val rfl rfl rfl (R.move rfl rfl) (W.val rfl rfl rfl (R.move rfl rfl) ?_)))))
  refine W.bitsU (· &&& ·) rfl rfl rfl rfl rfl rfl rfl (ok_u8 (by omega)) (ok_u8 (by omega)) (.inl ⟨rfl, rfl⟩) (fun r1 hr1 hr2 hr3 => ?_)
  replace hr3 : r1 ≤ 255 := hr3
  have hand : r1 = ((y1.toNat % 128 : Nat) : Int) := by rw [hr1, show Int.toNat 127 = 2 ^ 7 - 1 from rfl, Nat.and_two_pow_sub_one_eq_mod]; simp
  subst hand
  refine W.val rfl rfl rfl (R.convx rfl rfl (by rw [Try.underlying5]; rfl) Try.underlying75 (ok_u64 (by omega))) (W.val rfl rfl rfl (R.move rfl rfl) (W.val rfl rfl rfl (R.mulx rfl rfl rfl (ok_i64 (by omega))) ?_))
  have hsh := shift_lt (c := y1.toNat % 128) (k := k) (by omega) (by omega) (by omega)
  refine W.val rfl rfl rfl (R.shl rfl rfl rfl (by omega)) ?_
  refine W.re (d := 27) (v := .int .u64 (((y1.toNat % 128 * 2 ^ (7 * k) : Nat)) : Int)) rfl (vint (by
    exact shl_nat hsh (by omega))) ?_
  have hlo : lowv (b.take k) < 18446744073709551616 := Nat.lt_of_lt_of_le (lowv_take_lt b k) (Nat.le_trans (Nat.pow_le_pow_right (by decide) hk9) (by decide))
  refine W.bitsU (· ||| ·) rfl rfl rfl rfl rfl rfl rfl (ok_u64 (by omega)) (ok_u64 (by omega)) (.inr (.inl ⟨rfl, rfl⟩)) (fun r2 hr4 hr5 hr6 => ?_)
  replace hr6 : r2 ≤ 18446744073709551615 := hr6
  replace hr4 : r2 = ((lowv (b.take (k + 1)) : Nat) : Int) := by
    rw [hr4, Int.toNat_natCast, Int.toNat_natCast, or_shift (by rw [← pow7]; exact lowv_take_lt b k), lowv_take hy1, pow7]
  subst hr4
  refine W.val rfl rfl rfl (R.assign rfl rfl) (W.nil (EX.then_n (CW.seq (CW.seq (CW.region rfl (W.val rfl rfl rfl (R.move rfl rfl) (W.val rfl rfl rfl (R.geq rfl rfl rfl) ?_)))))))
  refine W.nil (EX.then_n ?_)
  refine CW.cond rfl (fun hc4 => ?_) (fun hc4 => ?_)
  replace hc4 := of_decide_eq_true hc4
  refine CW.exit (EX.then_exit (EX.blk_here (EX.then_n (CW.region rfl (W.val rfl rfl rfl (R.addx rfl rfl rfl (ok_i64 (by omega))) (W.val rfl rfl rfl (R.move rfl rfl) (W.nil ?_)))))))
  have hH3 := hH1.upto1
  refine EX.back4 _ _ rfl ?_ (by rw [hI1]; exact ⟨k + 1, rfl, rfl, hH3, by omega, by omega, hi.succ hy1 (by omega)⟩) ?_
  exact ⟨lk_int rfl (by first | rfl | omega), lk_int rfl (by first | rfl | omega), trivial⟩
  omega
  replace hc4 := of_decide_eq_false hc4
  refine CW.skip (EX.then_n (CW.seq (CW.seq (CW.region rfl (W.val rfl rfl rfl (R.move rfl rfl) (W.val rfl rfl rfl (R.eql rfl rfl rfl) (W.val rfl rfl rfl (R.move rfl rfl) ?_)))))))
  refine W.split (d := 33) rfl (fun hc5 => ?_) (fun hc5 => ?_)
  replace hc5 := of_decide_eq_true hc5
  refine W.val rfl rfl rfl (R.move rfl rfl) (W.val rfl rfl rfl (R.gtr rfl rfl rfl) (W.val rfl rfl rfl (R.pick_t rfl rfl rfl) (W.nil (EX.then_n ?_))))
  refine CW.cond rfl (fun hc6 => ?_) (fun hc6 => ?_)
  replace hc6 := of_decide_eq_true hc6
  refine CW.seq (CW.region rfl (W.val rfl rfl rfl (R.assign rfl rfl) (W.val rfl rfl rfl (R.assign rfl rfl) (W.val rfl rfl rfl (R.assign rfl rfl) (W.nil (EX.then_n (CW.ret ?_)))))))
  refine EX.then_ret (EX.blk_ret (EX.then_ret (EX.then_ret (EX.blk_ret (EX.then_ret (EX.ret3 Try.results83 rfl rfl rfl ?_))))))
  have hH4 := hH1.upto1
  refine ⟨?_, hH4⟩
  rw [decv_long hi (by omega) (hy1.trans (congrArg some (u8_eq (y := 0) (by simp; omega)))) (by omega)]; rfl
  replace hc6 := of_decide_eq_false hc6
  refine CW.skip (EX.then_n (CW.seq (CW.region rfl (W.val rfl rfl rfl (R.move rfl rfl) (W.val rfl rfl rfl (R.move rfl rfl) (W.val rfl rfl rfl (R.addx rfl rfl rfl (ok_i64 (by omega))) (W.val rfl rfl rfl (R.assign rfl rfl) ?_)))))))
  refine W.val rfl rfl rfl (R.assign rfl rfl) (W.val rfl rfl rfl (R.assign rfl rfl) (W.nil (EX.then_n (CW.ret (EX.blk_ret (EX.then_ret (EX.then_ret ?_)))))))
  refine EX.blk_ret (EX.then_ret (EX.ret3 Try.results83 rfl rfl rfl ?_))
  have hH5 := hH1.upto1
  refine ⟨?_, hH5⟩
  rw [decv_ok hi (by omega) hy1 (by omega) (by omega) (by omega)]; rfl
  replace hc5 := of_decide_eq_false hc5
  refine W.off rfl rfl rfl (W.off rfl rfl rfl (W.val rfl rfl rfl (R.pick_f rfl rfl rfl) (W.nil (EX.then_n (CW.cond_f rfl (CW.skip (EX.then_n ?_)))))))
  refine CW.seq (CW.region rfl (W.val rfl rfl rfl (R.move rfl rfl) (W.val rfl rfl rfl (R.move rfl rfl) (W.val rfl rfl rfl (R.addx rfl rfl rfl (ok_i64 (by omega))) (W.val rfl rfl rfl (R.assign rfl rfl) (W.val rfl rfl rfl (R.assign rfl rfl) (W.val rfl rfl rfl (R.assign rfl rfl) ?_)))))))
  refine W.nil (EX.then_n (CW.ret (EX.blk_ret (EX.then_ret (EX.then_ret (EX.blk_ret (EX.then_ret ?_)))))))
  refine EX.ret3 Try.results83 rfl rfl rfl ?_
  have hH6 := hH1.upto1
  refine ⟨?_, hH6⟩
  rw [decv_ok hi (by omega) hy1 (by omega) (by omega) (by omega)]; rfl
  replace hc2 := of_decide_eq_false hc2
  refine W.off rfl rfl rfl (W.off rfl rfl rfl (W.val rfl rfl rfl (R.pick_f rfl rfl rfl) (W.nil (EX.then_n (CW.cond_f rfl (CW.skip (EX.then_n ?_)))))))
  refine CW.seq (CW.region rfl (W.val rfl rfl rfl (R.move rfl rfl) (W.val rfl rfl rfl (R.move rfl rfl) ?_)))
  refine W.bitsU (· &&& ·) rfl rfl rfl rfl rfl rfl rfl (ok_u8 (by omega)) (ok_u8 (by omega)) (.inl ⟨rfl, rfl⟩) (fun r3 hr7 hr8 hr9 => ?_)
  replace hr9 : r3 ≤ 255 := hr9
  have hand : r3 = ((y1.toNat % 128 : Nat) : Int) := by rw [hr7, show Int.toNat 127 = 2 ^ 7 - 1 from rfl, Nat.and_two_pow_sub_one_eq_mod]; simp
  subst hand
  refine W.val rfl rfl rfl (R.convx rfl rfl (by rw [Try.underlying5]; rfl) Try.underlying75 (ok_u64 (by omega))) (W.val rfl rfl rfl (R.move rfl rfl) (W.val rfl rfl rfl (R.mulx rfl rfl rfl (ok_i64 (by omega))) ?_))
  have hsh := shift_lt (c := y1.toNat % 128) (k := k) (by omega) (by omega) (by omega)
  refine W.val rfl rfl rfl (R.shl rfl rfl rfl (by omega)) ?_
  refine W.re (d := 27) (v := .int .u64 (((y1.toNat % 128 * 2 ^ (7 * k) : Nat)) : Int)) rfl (vint (by
    exact shl_nat hsh (by omega))) ?_
  have hlo : lowv (b.take k) < 18446744073709551616 := Nat.lt_of_lt_of_le (lowv_take_lt b k) (Nat.le_trans (Nat.pow_le_pow_right (by decide) hk9) (by decide))
  refine W.bitsU (· ||| ·) rfl rfl rfl rfl rfl rfl rfl (ok_u64 (by omega)) (ok_u64 (by omega)) (.inr (.inl ⟨rfl, rfl⟩)) (fun r4 hr10 hr11 hr12 => ?_)
  replace hr12 : r4 ≤ 18446744073709551615 := hr12
  replace hr10 : r4 = ((lowv (b.take (k + 1)) : Nat) : Int) := by
    rw [hr10, Int.toNat_natCast, Int.toNat_natCast, or_shift (by rw [← pow7]; exact lowv_take_lt b k), lowv_take hy1, pow7]
  subst hr10
  refine W.val rfl rfl rfl (R.assign rfl rfl) (W.nil (EX.then_n (CW.seq (CW.seq (CW.region rfl (W.val rfl rfl rfl (R.move rfl rfl) (W.val rfl rfl rfl (R.geq rfl rfl rfl) ?_)))))))
  refine W.nil (EX.then_n ?_)
  refine CW.cond rfl (fun hc7 => ?_) (fun hc7 => ?_)
  replace hc7 := of_decide_eq_true hc7
  refine CW.exit (EX.then_exit (EX.blk_here (EX.then_n (CW.region rfl (W.val rfl rfl rfl (R.addx rfl rfl rfl (ok_i64 (by omega))) (W.val rfl rfl rfl (R.move rfl rfl) (W.nil ?_)))))))
  have hH7 := hH1.upto1
  refine EX.back4 _ _ rfl ?_ (by rw [hI1]; exact ⟨k + 1, rfl, rfl, hH7, by omega, by omega, hi.succ hy1 (by omega)⟩) ?_
  exact ⟨lk_int rfl (by first | rfl | omega), lk_int rfl (by first | rfl | omega), trivial⟩
  omega
  replace hc7 := of_decide_eq_false hc7
  refine CW.skip (EX.then_n (CW.seq (CW.seq (CW.region rfl (W.val rfl rfl rfl (R.move rfl rfl) (W.val rfl rfl rfl (R.eql rfl rfl rfl) (W.val rfl rfl rfl (R.move rfl rfl) ?_)))))))
  refine W.split (d := 33) rfl (fun hc8 => ?_) (fun hc8 => ?_)
  replace hc8 := of_decide_eq_true hc8
  refine W.val rfl rfl rfl (R.move rfl rfl) (W.val rfl rfl rfl (R.gtr rfl rfl rfl) (W.val rfl rfl rfl (R.pick_t rfl rfl rfl) (W.nil (EX.then_n ?_))))
  refine CW.cond rfl (fun hc9 => ?_) (fun hc9 => ?_)
  replace hc9 := of_decide_eq_true hc9
  refine CW.seq (CW.region rfl (W.val rfl rfl rfl (R.assign rfl rfl) (W.val rfl rfl rfl (R.assign rfl rfl) (W.val rfl rfl rfl (R.assign rfl rfl) (W.nil (EX.then_n (CW.ret ?_)))))))
  refine EX.then_ret (EX.blk_ret (EX.then_ret (EX.then_ret (EX.blk_ret (EX.then_ret (EX.ret3 Try.results83 rfl rfl rfl ?_))))))
  have hH8 := hH1.upto1
  refine ⟨?_, hH8⟩
  rw [decv_long hi (by omega) (hy1.trans (congrArg some (u8_eq (y := 0) (by simp; omega)))) (by omega)]; rfl
  replace hc9 := of_decide_eq_false hc9
  refine CW.skip (EX.then_n (CW.seq (CW.region rfl (W.val rfl rfl rfl (R.move rfl rfl) (W.val rfl rfl rfl (R.move rfl rfl) (W.val rfl rfl rfl (R.addx rfl rfl rfl (ok_i64 (by omega))) (W.val rfl rfl rfl (R.assign rfl rfl) ?_)))))))
  refine W.val rfl rfl rfl (R.assign rfl rfl) (W.val rfl rfl rfl (R.assign rfl rfl) (W.nil (EX.then_n (CW.ret (EX.blk_ret (EX.then_ret (EX.then_ret ?_)))))))
  refine EX.blk_ret (EX.then_ret (EX.ret3 Try.results83 rfl rfl rfl ?_))
  have hH9 := hH1.upto1
  refine ⟨?_, hH9⟩
  rw [decv_ok hi (by omega) hy1 (by omega) (by omega) (by omega)]; rfl
  replace hc8 := of_decide_eq_false hc8
  refine W.off rfl rfl rfl (W.off rfl rfl rfl (W.val rfl rfl rfl (R.pick_f rfl rfl rfl) (W.nil (EX.then_n (CW.cond_f rfl (CW.skip (EX.then_n ?_)))))))
  refine CW.seq (CW.region rfl (W.val rfl rfl rfl (R.move rfl rfl) (W.val rfl rfl rfl (R.move rfl rfl) (W.val rfl rfl rfl (R.addx rfl rfl rfl (ok_i64 (by omega))) (W.val rfl rfl rfl (R.assign rfl rfl) (W.val rfl rfl rfl (R.assign rfl rfl) (W.val rfl rfl rfl (R.assign rfl rfl) ?_)))))))
  refine W.nil (EX.then_n (CW.ret (EX.blk_ret (EX.then_ret (EX.then_ret (EX.blk_ret (EX.then_ret ?_)))))))
  refine EX.ret3 Try.results83 rfl rfl rfl ?_
  have hH10 := hH1.upto1
  refine ⟨?_, hH10⟩
  rw [decv_ok hi (by omega) hy1 (by omega) (by omega) (by omega)]; rfl
  replace hc1 := of_decide_eq_false hc1
  refine CW.exit (EX.then_exit (EX.then_exit (EX.blk_here (EX.then_n (CW.seq (CW.region rfl (W.val rfl rfl rfl (R.assign rfl rfl) ?_)))))))
  refine W.val rfl rfl rfl (R.assign rfl rfl) (W.val rfl rfl rfl (R.assign rfl rfl) (W.nil (EX.then_n (CW.ret (EX.ret3 Try.results83 rfl rfl rfl ?_)))))
  have hH11 := hH1.upto1
  refine ⟨?_, hH11⟩
  obtain rfl : k = b.length := by omega
  rw [decv_short hi (by omega)]; rfl

end Go.Proofs.Gw
namespace Go.Proofs.Gw
open Go Go.Gw Go.Proofs Go.RowKit
set_option maxRecDepth 100000 in
set_option maxHeartbeats 1000000 in
theorem canon_unline (Ab : Option Addr) (cb : Nat) (b : List UInt8) (w0 : World) (lb : b.length ≤ cb) (hb : Row kU8 (hp w0) Ab b) : Calls Try.prog 37 #[.slice Ab b.length cb] w0 (Ret fun v w' => ∃ (cs0 : List Value), v = .tuple #[.agg cs0.toArray, .bool ((lineS b).2)] ∧ Has w0 w' [hp w0] ∧ kLine.K emp ((lineS b).1) cs0) := by
  refine fnstart (N := 41) Try.func37 rfl Try.ntmps37 (Nat.le_of_ble_eq_true rfl) ?_
  have hH0 : Has w0 w0 [hp w0] := Has.refl w0
  have hlb := hb.len
  refine CW.seq (CW.region rfl ?_)
  refine W.alloc rfl rfl rfl rfl Try.zr37 rfl hH0 (fun b1 zb1 w1 hH1 hB1 => ?_)
  refine W.val rfl rfl rfl (R.assign rfl rfl) (W.nil (EX.then_n (CW.seq (CW.region rfl ?_))))
  refine W.alloc rfl rfl rfl rfl Try.zr140 rfl hH1 (fun b2 zb2 w2 hH2 hB2 => ?_)
  obtain ⟨D1, hD1⟩ : ∃ D : List Int, D = List.replicate 4 (0 : Int) := ⟨_, rfl⟩
  have hB3 : Blk zb2 b2 140 ([] ++ D1.map (vI .i64)) := by rw [hD1]; exact hB2
  have hDl1 : D1.length = 4 := by rw [hD1]; rfl
  have hDb1 : ∀ (i : Nat) d, D1[i]? = some d → (-9223372036854775808 : Int) ≤ d ∧ d ≤ 9223372036854775807 := by rw [hD1]; exact rep_bd (by decide)
  refine W.nil (EX.then_n (CW.seq (CW.seq (CW.region rfl (W.val rfl rfl rfl (R.move rfl rfl) (W.nil (EX.then_n ?_)))))))
  refine CW.block ?_
  have hH3 := hH2.f2
  have hH4 := hH3.f2
  have hH5 := hH4.f2
  obtain ⟨I1, hI1⟩ : ∃ I : Nat → List (Nat × Value) → World → Prop, I = (fun n_ D_ w_ => ∃ (k : Nat) (B : Option Addr) (cc : Nat) (bs : List UInt8) (D : List Int) (zv : PH), D_ = [(9, .int .i64 (k : Int)), (0, .slice B bs.length cc)] ∧ n_ = 4 - k ∧ Has w0 w_ [zv, zb1, (hp w0)] ∧ (k ≤ 4) ∧ (Row kU8 (hp w0) B bs) ∧ (bs.length ≤ cc) ∧ (nums 4 b = after (D.take k) (nums (4 - k) bs)) ∧ (D.length = 4) ∧ (∀ (i : Nat) d, D[i]? = some d → (-9223372036854775808 : Int) ≤ d ∧ d ≤ 9223372036854775807) ∧ (Blk zv b2 140 ([] ++ D.map (vI .i64)))) := ⟨_, rfl⟩
  refine CW.loop3 [0, 3, 5, 6, 7, 8, 9, 10, 11, 12, 13, 14, 15, 16, 17, 18, 19, 20, 21, 22, 23, 24, 25, 26, 27, 28] I1 _ _ ?_ (by rw [hI1]; exact ⟨0, _, _, _, D1, _, rfl, rfl, hH5, by omega, hb, lb, (after_nil _).symm, hDl1, hDb1, hB3⟩) ?_
  exact ⟨lk_int rfl (by first | rfl | omega), rfl, trivial⟩
  intro n1 D w3 hn1
  rw [hI1] at hn1
  obtain ⟨k, B, cc, bs, D, zv, rfl, hme1, hH6, hk, hbs, hlc, he, hDl, hDb, hBv⟩ := hn1
  have hbl := hbs.len
  refine CW.seq (CW.region rfl (W.val rfl rfl rfl (R.lss rfl rfl rfl) (W.nil (EX.then_n (CW.seq ?_)))))
  refine CW.cond rfl (fun hc1 => ?_) (fun hc1 => ?_)
  replace hc1 := of_decide_eq_true hc1
  refine CW.skip (EX.then_n (CW.seq (CW.block (CW.seq (CW.region rfl (W.val rfl rfl rfl (R.move rfl rfl) (W.val rfl rfl rfl (R.assign rfl rfl) ?_)))))))
  refine W.nil (EX.then_n (CW.seq (CW.region rfl (W.val rfl rfl rfl (R.move rfl rfl) (W.call rfl rfl rfl rfl rfl Try.func83 Try.nm83 Try.bd83 (varint_Decode _ _ _ w3 hlc (hbs.mono (hH6.le m2))) ?_)))))
  rintro v1 w4 ⟨rfl, hH7⟩
  have hH8 := hH6.c0 hH7
  have hdv := decv_all bs
  refine W.val rfl rfl rfl (R.move rfl rfl) (W.val rfl rfl rfl (R.extract rfl rfl rfl) (W.val rfl rfl rfl (R.extract rfl rfl rfl) (W.val rfl rfl rfl (R.extract rfl rfl rfl) (W.val rfl rfl rfl (R.assign rfl rfl) (W.val rfl rfl rfl (R.assign rfl rfl) (W.val rfl rfl rfl (R.assign rfl rfl) (W.nil ?_)))))))
  refine EX.then_n (CW.seq (CW.seq (CW.region rfl (W.val rfl rfl rfl (R.move rfl rfl) (W.val rfl rfl rfl (R.neq rfl rfl rfl) (W.nil (EX.then_n ?_)))))))
  refine CW.cond rfl (fun hc2 => ?_) (fun hc2 => ?_)
  replace hc2 := of_ndec_t hc2
  refine CW.seq (CW.region rfl (W.val rfl rfl rfl (R.build rfl rfl Try.zr37 rfl (by rw [Try.underlying37]; rfl) Try.plc37 rfl) ?_))
  have hH9 := hH8.f1
  refine W.sg0 rfl rfl rfl rfl rfl Try.sz37 rfl (by rfl) hH9 hB1 (fun zb3 w5 hH10 hB4 => ?_)
  refine W.val rfl rfl rfl (R.assign rfl rfl) (W.nil (EX.then_n (CW.ret (EX.then_ret (EX.blk_ret (EX.then_ret (EX.then_ret ?_)))))))
  refine EX.blk_ret (EX.then_ret (EX.retV Try.results37 (.cons (.agg rfl (fun w => run_isAgg_struct Try.underlying37 w) (by exact Try.sz37) (fun k u hk => hH10.cell m0 (hB4.at_ k u hk))) (.cons (.tmp rfl) RVs.nil)) ?_))
  have hH11 := hH10.f2
  have hH12 := hH11.upto1
  rw [lineS_bad (he.trans (nums_bad (by omega) (by omega)))]
  refine ⟨_, ?_, hH12, ⟨rfl, (by first | omega | decide | (dsimp only [GField.none]; omega)), (by first | omega | decide | (dsimp only [GField.none]; omega)), (by first | omega | decide | (dsimp only [GField.none]; omega)), (by first | omega | decide | (dsimp only [GField.none]; omega)), (by first | omega | decide | (dsimp only [GField.none]; omega)), (by first | omega | decide | (dsimp only [GField.none]; omega)), (by first | omega | decide | (dsimp only [GField.none]; omega)), (by first | omega | decide | (dsimp only [GField.none]; omega))⟩⟩
  rfl
  replace hc2 := of_ndec_f hc2
  refine CW.skip (EX.then_n (CW.seq (CW.region rfl (W.val rfl rfl rfl (R.move rfl rfl) (W.val rfl rfl rfl (R.move rfl rfl) (W.call rfl rfl rfl rfl rfl Try.func34 Try.nm34 Try.bd34 (canon_small _ w4 (by omega) (by omega)) ?_))))))
  rintro v2 w6 ⟨rfl, hH13⟩
  have hH14 := hH8.c0 hH13
  have hcl : clampN (((decv bs).1 : Int)).toNat ≤ 4611686018427387904 := by unfold clampN; omega
  refine W.idxA (D := D) 0 rfl rfl rfl rfl rfl rfl (fun j => by rw [Nat.zero_add]) Try.underlying140 Try.sz3 hDl (by omega) (by omega) (fun y1 hy1 => ?_)
  have hab1 := hDb _ _ hy1
  try simp only [Int.toNat_natCast, Int.reduceToNat] at hy1
  refine W.stA 0 rfl rfl rfl rfl rfl Try.sz3 rfl (Nat.lt_of_lt_of_eq (m := 4) (by omega) (Eq.symm hDl)) hH14 hBv (fun zb4 w7 D2 hD2 hDl2 hH15 hB5 => ?_)
  replace hDl2 := hDl2.trans hDl
  have hDb2 := arr_bd hD2 hDb (by omega)
  refine W.nil (EX.then_n (CW.region rfl (W.val rfl rfl rfl (R.move rfl rfl) (W.val rfl rfl rfl (R.move rfl rfl) ?_))))
  refine W.slice _ _ rfl rfl rfl rfl rfl (.inr ⟨_, _, rfl, rfl⟩) (.inl ⟨rfl, rfl⟩) Try.underlying22 Try.sz5 hbs hlc (by omega) (by omega) (by omega) (fun B1 c1 ys1 hys1 hyl1 hr1 hl1 => ?_)
  rw [drop_tail, Int.toNat_natCast] at hys1
  refine W.val rfl rfl rfl (R.assign rfl rfl) (W.nil (EX.blk_n (EX.then_n (CW.region rfl (W.val rfl rfl rfl (R.addx rfl rfl rfl (ok_i64 (by omega))) (W.val rfl rfl rfl (R.move rfl rfl) (W.nil ?_)))))))
  have hH16 := hH15.f2
  have hH17 := hH16.f2
  have hH18 := hH17.f2
  have hH19 := hH18.upto3
  refine EX.back4 _ _ rfl ?_ (by rw [hI1]; exact ⟨k + 1, _, _, ys1, _, _, rfl, rfl, hH19, by omega, hr1, hl1, by rw [he, nums_go (by omega) (by omega), hD2]; simp only [Int.toNat_natCast]; rw [take_set_succ (by omega), hys1], hDl2, hDb2, hB5⟩) ?_
  exact ⟨lk_int rfl (by first | rfl | omega), rfl, trivial⟩
  omega
  replace hc1 := of_decide_eq_false hc1
  refine CW.exit (EX.then_exit (EX.then_exit (EX.blk_here (EX.then_n (CW.seq (CW.region rfl ?_))))))
  refine W.idxA (D := D) 0 rfl rfl rfl rfl rfl rfl (fun j => by rw [Nat.zero_add]) Try.underlying140 Try.sz3 hDl (by omega) (by omega) (fun y2 hy2 => ?_)
  have hab2 := hDb _ _ hy2
  try simp only [Int.toNat_natCast, Int.reduceToNat] at hy2
  refine W.load rfl rfl rfl rfl rfl Try.pl3 hH6 m0 (Blk.arr 0 rfl hBv (by first | exact hy2 | (simp only [Int.toNat_natCast, Int.reduceToNat]; exact hy2))) ?_
  refine W.idxA (D := D) 0 rfl rfl rfl rfl rfl rfl (fun j => by rw [Nat.zero_add]) Try.underlying140 Try.sz3 hDl (by omega) (by omega) (fun y3 hy3 => ?_)
  have hab3 := hDb _ _ hy3
  try simp only [Int.toNat_natCast, Int.reduceToNat] at hy3
  refine W.load rfl rfl rfl rfl rfl Try.pl3 hH6 m0 (Blk.arr 0 rfl hBv (by first | exact hy3 | (simp only [Int.toNat_natCast, Int.reduceToNat]; exact hy3))) ?_
  refine W.idxA (D := D) 0 rfl rfl rfl rfl rfl rfl (fun j => by rw [Nat.zero_add]) Try.underlying140 Try.sz3 hDl (by omega) (by omega) (fun y4 hy4 => ?_)
  have hab4 := hDb _ _ hy4
  try simp only [Int.toNat_natCast, Int.reduceToNat] at hy4
  refine W.load rfl rfl rfl rfl rfl Try.pl3 hH6 m0 (Blk.arr 0 rfl hBv (by first | exact hy4 | (simp only [Int.toNat_natCast, Int.reduceToNat]; exact hy4))) ?_
  refine W.idxA (D := D) 0 rfl rfl rfl rfl rfl rfl (fun j => by rw [Nat.zero_add]) Try.underlying140 Try.sz3 hDl (by omega) (by omega) (fun y5 hy5 => ?_)
  have hab5 := hDb _ _ hy5
  try simp only [Int.toNat_natCast, Int.reduceToNat] at hy5
  refine W.load rfl rfl rfl rfl rfl Try.pl3 hH6 m0 (Blk.arr 0 rfl hBv (by first | exact hy5 | (simp only [Int.toNat_natCast, Int.reduceToNat]; exact hy5))) (W.val rfl rfl rfl (R.build rfl rfl Try.zr37 rfl (by rw [Try.underlying37]; rfl) Try.plc37 rfl) (W.val rfl rfl rfl (R.move rfl rfl) (W.val rfl rfl rfl (R.len_slice rfl rfl Try.underlying22) (W.val rfl rfl rfl (R.eql rfl rfl rfl) ?_))))
  have hH20 := hH6.f1
  refine W.sg0 rfl rfl rfl rfl rfl Try.sz37 rfl (by rfl) hH20 hB1 (fun zb5 w8 hH21 hB6 => ?_)
  refine W.val rfl rfl rfl (R.assign rfl rfl) (W.nil (EX.then_n (CW.ret (EX.retV Try.results37 (.cons (.agg rfl (fun w => run_isAgg_struct Try.underlying37 w) (by exact Try.sz37) (fun k u hk => hH21.cell m0 (hB6.at_ k u hk))) (.cons (.tmp rfl) RVs.nil)) ?_))))
  have hH22 := hH21.f2
  have hH23 := hH22.upto1
  obtain rfl : k = 4 := by omega
  rw [lineS_four he hDl hy2 hy3 hy4 hy5]
  refine ⟨_, ?_, hH23, ⟨rfl, (by first | omega | decide | (dsimp only [GField.none]; omega)), (by first | omega | decide | (dsimp only [GField.none]; omega)), (by first | omega | decide | (dsimp only [GField.none]; omega)), (by first | omega | decide | (dsimp only [GField.none]; omega)), (by first | omega | decide | (dsimp only [GField.none]; omega)), (by first | omega | decide | (dsimp only [GField.none]; omega)), (by first | omega | decide | (dsimp only [GField.none]; omega)), (by first | omega | decide | (dsimp only [GField.none]; omega))⟩⟩
  rfl

end Go.Proofs.Gw
namespace Go.Proofs.Gw
open Go Go.Gw Go.Proofs Go.RowKit
set_option maxRecDepth 100000 in
set_option maxHeartbeats 1000000 in
theorem order_within (x : Int) (lo : Int) (hi : Int) (w0 : World) : Calls Try.prog 103 #[.int .i64 x, .int .i64 lo, .int .i64 hi] w0 (Ret fun v w' => v = .bool (decide (lo ≤ x ∧ x ≤ hi)) ∧ Has w0 w' [hp w0]) := by
  refine fnstart (N := 15) Try.func103 rfl Try.ntmps103 (Nat.le_of_ble_eq_true rfl) ?_
  have hH0 : Has w0 w0 [hp w0] := Has.refl w0
  refine CW.seq (CW.region rfl (W.val rfl rfl rfl (R.assign rfl rfl) (W.nil (EX.then_n (CW.seq (CW.region rfl (W.val rfl rfl rfl (R.move rfl rfl) ?_)))))))
  refine W.val rfl rfl rfl (R.move rfl rfl) (W.val rfl rfl rfl (R.leq rfl rfl rfl) (W.val rfl rfl rfl (R.move rfl rfl) ?_))
  refine W.split (d := 10) rfl (fun hc1 => ?_) (fun hc1 => ?_)
  replace hc1 := of_decide_eq_true hc1
  refine W.val rfl rfl rfl (R.move rfl rfl) (W.val rfl rfl rfl (R.move rfl rfl) (W.val rfl rfl rfl (R.leq rfl rfl rfl) (W.val rfl rfl rfl (R.pick_t rfl rfl rfl) (W.val rfl rfl rfl (R.assign rfl rfl) (W.nil (EX.then_n (CW.ret ?_)))))))
  refine EX.ret1 Try.results103 rfl ?_
  have hH1 := hH0.upto1
  refine ⟨?_, hH1⟩
  refine vbool (decide_eq_decide.2 ⟨fun h => by omega, fun h => by omega⟩)
  replace hc1 := of_decide_eq_false hc1
  refine W.off rfl rfl rfl (W.off rfl rfl rfl (W.off rfl rfl rfl (W.val rfl rfl rfl (R.pick_f rfl rfl rfl) (W.val rfl rfl rfl (R.assign rfl rfl) (W.nil (EX.then_n (CW.ret ?_)))))))
  refine EX.ret1 Try.results103 rfl ?_
  have hH2 := hH0.upto1
  refine ⟨?_, hH2⟩
  refine vbool (decide_eq_false (by omega)).symm

end Go.Proofs.Gw
namespace Go.Proofs.Gw
open Go Go.Gw Go.Proofs Go.RowKit
set_option maxRecDepth 100000 in
set_option maxHeartbeats 1000000 in
theorem order_lined (Als : Option Addr) (cls : Nat) (ls : List GLine) (w0 : World) (lls : ls.length ≤ cls) (hls : Row kLine (hp w0) Als ls) : Calls Try.prog 104 #[.slice Als ls.length cls] w0 (Ret fun v w' => v = .bool (linesOk ls) ∧ Has w0 w' [hp w0]) := by
  refine fnstart (N := 53) Try.func104 rfl Try.ntmps104 (Nat.le_of_ble_eq_true rfl) ?_
  have hH0 : Has w0 w0 [hp w0] := Has.refl w0
  refine CW.seq (CW.region rfl (W.val rfl rfl rfl (R.assign rfl rfl) (W.nil (EX.then_n (CW.seq (CW.seq (CW.region rfl ?_)))))))
  refine W.val rfl rfl rfl (R.move rfl rfl) (W.val rfl rfl rfl (R.len_slice rfl rfl Try.underlying26) (W.val rfl rfl rfl (R.gtr rfl rfl rfl) (W.nil (EX.then_n ?_))))
  refine CW.cond rfl (fun hc1 => ?_) (fun hc1 => ?_)
  replace hc1 := of_decide_eq_true hc1
  refine CW.seq (CW.region rfl (W.val rfl rfl rfl (R.assign rfl rfl) (W.nil (EX.then_n (CW.ret (EX.then_ret (EX.ret1 Try.results104 rfl ?_)))))))
  have hH1 := hH0.upto1
  refine ⟨?_, hH1⟩
  refine vbool ?_; unfold linesOk; rw [decide_eq_false (by omega)]; rfl
  replace hc1 := of_decide_eq_false hc1
  refine CW.skip (EX.then_n (CW.seq (CW.seq (CW.region rfl (W.val rfl rfl rfl (R.move rfl rfl) (W.val rfl rfl rfl (R.len_slice rfl rfl Try.underlying26) (W.val rfl rfl rfl (R.move rfl rfl) ?_)))))))
  refine W.nil (EX.then_n (CW.block ?_))
  obtain ⟨I1, hI1⟩ : ∃ I : Nat → List (Nat × Value) → World → Prop, I = (fun n_ D_ w_ => ∃ (k : Nat) (bf : Int), D_ = [(10, .int .i64 (k : Int))] ∧ n_ = ls.length - k ∧ Has w0 w_ [(hp w0)] ∧ (k ≤ ls.length) ∧ (lokB (-1) ls = lokB bf (ls.drop k)) ∧ (-1 ≤ bf ∧ (k = 0 → bf = -1)) ∧ (∀ {y : GLine}, ls[((k : Int) - 1).toNat]? = some y → k = 0 ∨ y.Item = bf)) := ⟨_, rfl⟩
  refine CW.loop3 [2, 3, 4, 10, 11, 12, 13, 14, 15, 16, 17, 18, 19, 20, 21, 22, 23, 24, 25, 26, 27, 28, 29, 30, 31, 32, 33, 34, 35, 36, 37, 38, 39, 40, 41, 42, 43, 44, 45, 46, 47, 48, 49, 50, 51, 52] I1 _ _ ?_ (by rw [hI1]; exact ⟨0, (-1), rfl, rfl, hH0, by omega, rfl, by omega, by intros; left; rfl⟩) ?_
  exact ⟨lk_int rfl (by first | rfl | omega), trivial⟩
  intro n1 D w1 hn1
  rw [hI1] at hn1
  obtain ⟨k, bf, rfl, hme1, hH2, hk, he, hb0, hbf⟩ := hn1
  refine CW.seq (CW.region rfl (W.val rfl rfl rfl (R.lss rfl rfl rfl) (W.nil (EX.then_n (CW.seq ?_)))))
  refine CW.cond rfl (fun hc2 => ?_) (fun hc2 => ?_)
  replace hc2 := of_decide_eq_true hc2
  refine CW.skip (EX.then_n (CW.seq (CW.block (CW.seq (CW.region rfl (W.val rfl rfl rfl (R.move rfl rfl) ?_))))))
  refine W.indexRow rfl rfl rfl rfl rfl rfl Try.underlying26 Try.sz37 hls (by omega) (by omega) (fun q1 cs1 y1 hy1 hK1 hat1 => ?_)
  try simp only [Int.toNat_natCast, Int.reduceToNat] at hy1
  have hK2 := hK1
  obtain ⟨rfl, hb1, hb2, hb3, hb4, hb5, hb6, hb7, hb8⟩ := hK2
  refine W.lga rfl rfl rfl rfl rfl Try.pl37 (by rw [Try.underlying37]; rfl) (by exact Try.sz37) hH2 m0 hat1 ?_
  refine W.alloc rfl rfl rfl rfl Try.zr37 rfl hH2 (fun b1 zb1 w2 hH3 hB1 => ?_)
  refine W.val rfl rfl rfl (R.assign rfl rfl) ?_
  refine W.sg0 rfl rfl rfl rfl rfl Try.sz37 rfl (by rfl) hH3 hB1 (fun zb2 w3 hH4 hB2 => ?_)
  refine W.nil (EX.then_n (CW.seq (CW.seq ?_)))
  have hH5 := hH4.drew
  refine CW.draw (fun w => Sub zb2 w ∧ Sub (hp w0) w ∧ True) [] #[false, false, false, false, false, false, false, false, false, false, false, false, false] Try.mixed rfl rfl ⟨hH5.sub _ m0, hH5.sub _ m1, trivial⟩ (WA.pure (i := 0) #[true, false, false, false, false, false, false, false, false, false, false, false, false] (blind_then (blind_then (blind_blk (blind_then (blind_then (blind_blk (blind_then (blind_body _ _)))))))) rfl (by kernel_rfl) rfl rfl rfl (fun _ => R.move rfl rfl) (WA.pure (i := 1) #[true, true, false, false, false, false, false, false, false, false, false, false, false] (blind_then (blind_then (blind_blk (blind_then (blind_then (blind_blk (blind_then (blind_body _ _)))))))) rfl (by kernel_rfl) rfl rfl rfl (fun _ => R.gtr rfl rfl rfl) (WA.pure (i := 2) #[true, true, true, false, false, false, false, false, false, false, false, false, false] (blind_then (blind_then (blind_blk (blind_then (blind_then (blind_blk (blind_then (blind_body _ _)))))))) rfl (by kernel_rfl) rfl rfl rfl (fun _ => R.move rfl rfl) ?_)))
  refine WA.split (d := 17) rfl (fun hc3 => ?_) (fun hc3 => ?_)
  replace hc3 := of_decide_eq_true hc3
  refine WA.pure (i := 3) #[true, true, true, true, false, false, false, false, false, false, false, false, false] (blind_then (blind_then (blind_blk (blind_then (blind_then (blind_blk (blind_then (blind_body _ _)))))))) rfl (by kernel_rfl) rfl rfl rfl (fun _ => R.fa0 0 rfl rfl Try.underlying37 rfl Try.sz3 rfl) (WA.take (i := 4) #[true, true, true, true, true, false, false, false, false, false, false, false, false] (blind_then (blind_then (blind_blk (blind_then (blind_then (blind_blk (blind_then (blind_body _ _)))))))) rfl (by kernel_rfl) rfl rfl rfl (fun _ hw => R.load rfl rfl Try.pl3 (cellz_le hw.1 (hB2.at_ 0 _ rfl))) ⟨hH5.sub _ m0, hH5.sub _ m1, trivial⟩ (WA.pure (i := 5) #[true, true, true, true, true, true, false, false, false, false, false, false, false] (blind_then (blind_then (blind_blk (blind_then (blind_then (blind_blk (blind_then (blind_body _ _)))))))) rfl (by kernel_rfl) rfl rfl rfl (fun _ => R.move rfl rfl) (WA.pure (i := 6) #[true, true, true, true, true, true, true, false, false, false, false, false, false] (blind_then (blind_then (blind_blk (blind_then (blind_then (blind_blk (blind_then (blind_body _ _)))))))) rfl (by kernel_rfl) rfl rfl rfl (fun _ => R.move rfl rfl) (WA.pure (i := 7) #[true, true, true, true, true, true, true, true, false, false, false, false, false] (blind_then (blind_then (blind_blk (blind_then (blind_then (blind_blk (blind_then (blind_body _ _)))))))) rfl (by kernel_rfl) rfl rfl rfl (fun _ => R.subx rfl rfl rfl (ok_i64 (by omega))) ?_))))
  refine WA.indexRow (i := 8) #[true, true, true, true, true, true, true, true, true, false, false, false, false] (blind_then (blind_then (blind_blk (blind_then (blind_then (blind_blk (blind_then (blind_body _ _)))))))) rfl (by kernel_rfl) rfl rfl rfl rfl rfl rfl Try.underlying26 Try.sz37 hls (by omega) (by omega) (fun q2 cs2 y2 hy2 hK3 hat2 => ?_)
  try simp only [Int.toNat_natCast, Int.reduceToNat] at hy2
  have hK4 := hK3
  obtain ⟨rfl, hb9, hb10, hb11, hb12, hb13, hb14, hb15, hb16⟩ := hK4
  have hit := hbf hy2
  refine WA.pure (i := 9) #[true, true, true, true, true, true, true, true, true, true, false, false, false] (blind_then (blind_then (blind_blk (blind_then (blind_then (blind_blk (blind_then (blind_body _ _)))))))) rfl (by kernel_rfl) rfl rfl rfl (fun _ => R.fa0 0 rfl rfl Try.underlying37 rfl Try.sz3 rfl) (WA.take (i := 10) #[true, true, true, true, true, true, true, true, true, true, true, false, false] (blind_then (blind_then (blind_blk (blind_then (blind_then (blind_blk (blind_then (blind_body _ _)))))))) rfl (by kernel_rfl) rfl rfl rfl (fun _ hw => R.load rfl rfl Try.pl3 (cellz_le hw.2.1 (hat2 0 _ rfl))) ⟨hH5.sub _ m0, hH5.sub _ m1, trivial⟩ (WA.pure (i := 11) #[true, true, true, true, true, true, true, true, true, true, true, true, false] (blind_then (blind_then (blind_blk (blind_then (blind_then (blind_blk (blind_then (blind_body _ _)))))))) rfl (by kernel_rfl) rfl rfl rfl (fun _ => R.leq rfl rfl rfl) (WA.pure (i := 12) #[true, true, true, true, true, true, true, true, true, true, true, true, true] (blind_then (blind_then (blind_blk (blind_then (blind_then (blind_blk (blind_then (blind_body _ _)))))))) rfl (by kernel_rfl) rfl rfl rfl (fun _ => R.pick_t rfl rfl rfl) (WA.done (by kernel_rfl) (EX.then_n ?_)))))
  refine CW.cond rfl (fun hc4 => ?_) (fun hc4 => ?_)
  replace hc4 := of_decide_eq_true hc4
  refine CW.seq (CW.region rfl (W.val rfl rfl rfl (R.assign rfl rfl) (W.nil (EX.then_n (CW.ret (EX.then_ret (EX.blk_ret ?_)))))))
  refine EX.then_ret (EX.then_ret (EX.blk_ret (EX.then_ret (EX.ret1 Try.results104 rfl ?_))))
  have hH6 := hH5.f1
  have hH7 := hH6.upto1
  refine ⟨?_, hH7⟩
  refine vbool ?_; unfold linesOk; rw [he, lokB_drop hy1, show decide (lok bf y1) = false from decide_eq_false (by unfold lok; omega)]; simp
  replace hc4 := of_decide_eq_false hc4
  refine CW.skip (EX.then_n (CW.seq (CW.region rfl (W.val rfl rfl rfl (R.fa0 0 rfl rfl Try.underlying37 rfl Try.sz3 rfl) (W.ldk rfl rfl rfl rfl rfl Try.pl3 hH5 m0 hB2 rfl (W.call rfl rfl rfl rfl rfl Try.func103 Try.nm103 Try.bd103 (order_within _ _ _ (w3.drew) ) ?_))))))
  rintro v1 w4 ⟨rfl, hH8⟩
  have hH9 := hH5.c0 hH8
  refine W.val rfl rfl rfl (R.not rfl rfl) (W.val rfl rfl rfl (R.move rfl rfl) ?_)
  refine W.split (d := 32) rfl (fun hc5 => ?_) (fun hc5 => ?_)
  replace hc5 := of_not_t hc5
  replace hc5 := of_decide_eq_false hc5
  refine W.off rfl rfl rfl (W.off rfl rfl rfl (W.off rfl rfl rfl (W.off rfl rfl rfl (W.val rfl rfl rfl (R.pick_t rfl rfl rfl) (W.val rfl rfl rfl (R.move rfl rfl) (W.off rfl rfl rfl (W.off rfl rfl rfl ?_)))))))
  refine W.off rfl rfl rfl (W.off rfl rfl rfl (W.val rfl rfl rfl (R.pick_t rfl rfl rfl) (W.val rfl rfl rfl (R.move rfl rfl) (W.off rfl rfl rfl (W.off rfl rfl rfl (W.off rfl rfl rfl (W.off rfl rfl rfl ?_)))))))
  refine W.off rfl rfl rfl (W.off rfl rfl rfl (W.val rfl rfl rfl (R.pick_t rfl rfl rfl) (W.nil (EX.then_n (CW.cond_t rfl (CW.seq (CW.region rfl ?_)))))))
  refine W.val rfl rfl rfl (R.assign rfl rfl) (W.nil (EX.then_n (CW.ret (EX.blk_ret (EX.then_ret (EX.then_ret (EX.blk_ret ?_)))))))
  refine EX.then_ret (EX.ret1 Try.results104 rfl ?_)
  have hH10 := hH9.f1
  have hH11 := hH10.upto1
  refine ⟨?_, hH11⟩
  refine vbool ?_; unfold linesOk; rw [he, lokB_drop hy1, show decide (lok bf y1) = false from decide_eq_false (by unfold lok; omega)]; simp
  replace hc5 := of_not_f hc5
  replace hc5 := of_decide_eq_true hc5
  refine W.val rfl rfl rfl (R.fa0 1 rfl rfl Try.underlying37 rfl Try.sz3 rfl) (W.ldk rfl rfl rfl rfl rfl Try.pl3 hH9 m0 hB2 rfl (W.call rfl rfl rfl rfl rfl Try.func103 Try.nm103 Try.bd103 (order_within _ _ _ w4 ) ?_))
  rintro v2 w5 ⟨rfl, hH12⟩
  have hH13 := hH9.c0 hH12
  refine W.val rfl rfl rfl (R.not rfl rfl) (W.val rfl rfl rfl (R.pick_f rfl rfl rfl) (W.val rfl rfl rfl (R.move rfl rfl) ?_))
  refine W.split (d := 38) rfl (fun hc6 => ?_) (fun hc6 => ?_)
  replace hc6 := of_not_t hc6
  replace hc6 := of_decide_eq_false hc6
  refine W.off rfl rfl rfl (W.off rfl rfl rfl (W.off rfl rfl rfl (W.off rfl rfl rfl (W.val rfl rfl rfl (R.pick_t rfl rfl rfl) (W.val rfl rfl rfl (R.move rfl rfl) (W.off rfl rfl rfl (W.off rfl rfl rfl ?_)))))))
  refine W.off rfl rfl rfl (W.off rfl rfl rfl (W.off rfl rfl rfl (W.off rfl rfl rfl (W.val rfl rfl rfl (R.pick_t rfl rfl rfl) (W.nil (EX.then_n (CW.cond_t rfl ?_)))))))
  refine CW.seq (CW.region rfl (W.val rfl rfl rfl (R.assign rfl rfl) (W.nil (EX.then_n (CW.ret (EX.blk_ret (EX.then_ret ?_)))))))
  refine EX.then_ret (EX.blk_ret (EX.then_ret (EX.ret1 Try.results104 rfl ?_)))
  have hH14 := hH13.f1
  have hH15 := hH14.upto1
  refine ⟨?_, hH15⟩
  refine vbool ?_; unfold linesOk; rw [he, lokB_drop hy1, show decide (lok bf y1) = false from decide_eq_false (by unfold lok; omega)]; simp
  replace hc6 := of_not_f hc6
  replace hc6 := of_decide_eq_true hc6
  refine W.val rfl rfl rfl (R.fa0 2 rfl rfl Try.underlying37 rfl Try.sz3 rfl) (W.ldk rfl rfl rfl rfl rfl Try.pl3 hH13 m0 hB2 rfl (W.call rfl rfl rfl rfl rfl Try.func103 Try.nm103 Try.bd103 (order_within _ _ _ w5 ) ?_))
  rintro v3 w6 ⟨rfl, hH16⟩
  have hH17 := hH13.c0 hH16
  refine W.val rfl rfl rfl (R.not rfl rfl) (W.val rfl rfl rfl (R.pick_f rfl rfl rfl) (W.val rfl rfl rfl (R.move rfl rfl) ?_))
  refine W.split (d := 44) rfl (fun hc7 => ?_) (fun hc7 => ?_)
  replace hc7 := of_not_t hc7
  replace hc7 := of_decide_eq_false hc7
  refine W.off rfl rfl rfl (W.off rfl rfl rfl (W.off rfl rfl rfl (W.off rfl rfl rfl (W.off rfl rfl rfl (W.off rfl rfl rfl (W.val rfl rfl rfl (R.pick_t rfl rfl rfl) (W.nil ?_)))))))
  refine EX.then_n (CW.cond_t rfl (CW.seq (CW.region rfl (W.val rfl rfl rfl (R.assign rfl rfl) (W.nil (EX.then_n (CW.ret ?_)))))))
  refine EX.blk_ret (EX.then_ret (EX.then_ret (EX.blk_ret (EX.then_ret (EX.ret1 Try.results104 rfl ?_)))))
  have hH18 := hH17.f1
  have hH19 := hH18.upto1
  refine ⟨?_, hH19⟩
  refine vbool ?_; unfold linesOk; rw [he, lokB_drop hy1, show decide (lok bf y1) = false from decide_eq_false (by unfold lok; omega)]; simp
  replace hc7 := of_not_f hc7
  replace hc7 := of_decide_eq_true hc7
  refine W.val rfl rfl rfl (R.fa0 3 rfl rfl Try.underlying37 rfl Try.sz3 rfl) (W.ldk rfl rfl rfl rfl rfl Try.pl3 hH17 m0 hB2 rfl (W.val rfl rfl rfl (R.fa0 2 rfl rfl Try.underlying37 rfl Try.sz3 rfl) (W.ldk rfl rfl rfl rfl rfl Try.pl3 hH17 m0 hB2 rfl (W.call rfl rfl rfl rfl rfl Try.func103 Try.nm103 Try.bd103 (order_within _ _ _ w6 ) ?_))))
  rintro v4 w7 ⟨rfl, hH20⟩
  have hH21 := hH17.c0 hH20
  refine W.val rfl rfl rfl (R.not rfl rfl) (W.val rfl rfl rfl (R.pick_f rfl rfl rfl) (W.nil (EX.then_n ?_)))
  refine CW.cond rfl (fun hc8 => ?_) (fun hc8 => ?_)
  replace hc8 := of_not_t hc8
  replace hc8 := of_decide_eq_false hc8
  refine CW.seq (CW.region rfl (W.val rfl rfl rfl (R.assign rfl rfl) (W.nil (EX.then_n (CW.ret (EX.blk_ret (EX.then_ret ?_)))))))
  refine EX.then_ret (EX.blk_ret (EX.then_ret (EX.ret1 Try.results104 rfl ?_)))
  have hH22 := hH21.f1
  have hH23 := hH22.upto1
  refine ⟨?_, hH23⟩
  refine vbool ?_; unfold linesOk; rw [he, lokB_drop hy1, show decide (lok bf y1) = false from decide_eq_false (by unfold lok; omega)]; simp
  replace hc8 := of_not_f hc8
  replace hc8 := of_decide_eq_true hc8
  refine CW.skip (EX.blk_n (EX.then_n (CW.region rfl (W.val rfl rfl rfl (R.addx rfl rfl rfl (ok_i64 (by omega))) (W.val rfl rfl rfl (R.move rfl rfl) (W.nil ?_))))))
  have hH24 := hH21.f1
  have hH25 := hH24.upto1
  refine EX.back4 _ _ rfl ?_ (by rw [hI1]; exact ⟨k + 1, y1.Item, rfl, rfl, hH25, by omega, he.trans (by rw [lokB_drop hy1, show decide (lok bf y1) = true from decide_eq_true (by unfold lok; omega), Bool.true_and]), by omega, fun {y} h => by right; rw [show ((↑(k + 1) : Int) - 1).toNat = k by omega, hy1] at h; cases h; rfl⟩) ?_
  exact ⟨lk_int rfl (by first | rfl | omega), trivial⟩
  omega
  replace hc3 := of_decide_eq_false hc3
  refine WA.off (i := 3) #[true, true, true, true, false, false, false, false, false, false, false, false, false] (blind_then (blind_then (blind_blk (blind_then (blind_then (blind_blk (blind_then (blind_body _ _)))))))) rfl (by kernel_rfl) rfl rfl rfl (WA.off (i := 4) #[true, true, true, true, true, false, false, false, false, false, false, false, false] (blind_then (blind_then (blind_blk (blind_then (blind_then (blind_blk (blind_then (blind_body _ _)))))))) rfl (by kernel_rfl) rfl rfl rfl (WA.off (i := 5) #[true, true, true, true, true, true, false, false, false, false, false, false, false] (blind_then (blind_then (blind_blk (blind_then (blind_then (blind_blk (blind_then (blind_body _ _)))))))) rfl (by kernel_rfl) rfl rfl rfl (WA.off (i := 6) #[true, true, true, true, true, true, true, false, false, false, false, false, false] (blind_then (blind_then (blind_blk (blind_then (blind_then (blind_blk (blind_then (blind_body _ _)))))))) rfl (by kernel_rfl) rfl rfl rfl (WA.off (i := 7) #[true, true, true, true, true, true, true, true, false, false, false, false, false] (blind_then (blind_then (blind_blk (blind_then (blind_then (blind_blk (blind_then (blind_body _ _)))))))) rfl (by kernel_rfl) rfl rfl rfl (WA.off (i := 8) #[true, true, true, true, true, true, true, true, true, false, false, false, false] (blind_then (blind_then (blind_blk (blind_then (blind_then (blind_blk (blind_then (blind_body _ _)))))))) rfl (by kernel_rfl) rfl rfl rfl (WA.off (i := 9) #[true, true, true, true, true, true, true, true, true, true, false, false, false] (blind_then (blind_then (blind_blk (blind_then (blind_then (blind_blk (blind_then (blind_body _ _)))))))) rfl (by kernel_rfl) rfl rfl rfl (WA.off (i := 10) #[true, true, true, true, true, true, true, true, true, true, true, false, false] (blind_then (blind_then (blind_blk (blind_then (blind_then (blind_blk (blind_then (blind_body _ _)))))))) rfl (by kernel_rfl) rfl rfl rfl ?_)))))))
  refine WA.off (i := 11) #[true, true, true, true, true, true, true, true, true, true, true, true, false] (blind_then (blind_then (blind_blk (blind_then (blind_then (blind_blk (blind_then (blind_body _ _)))))))) rfl (by kernel_rfl) rfl rfl rfl (WA.pure (i := 12) #[true, true, true, true, true, true, true, true, true, true, true, true, true] (blind_then (blind_then (blind_blk (blind_then (blind_then (blind_blk (blind_then (blind_body _ _)))))))) rfl (by kernel_rfl) rfl rfl rfl (fun _ => R.pick_f rfl rfl rfl) (WA.done (by kernel_rfl) (EX.then_n (CW.cond_f rfl (CW.skip (EX.then_n (CW.seq ?_)))))))
  refine CW.region rfl (W.val rfl rfl rfl (R.fa0 0 rfl rfl Try.underlying37 rfl Try.sz3 rfl) (W.ldk rfl rfl rfl rfl rfl Try.pl3 hH5 m0 hB2 rfl (W.call rfl rfl rfl rfl rfl Try.func103 Try.nm103 Try.bd103 (order_within _ _ _ (w3.drew) ) ?_)))
  rintro v5 w8 ⟨rfl, hH26⟩
  have hH27 := hH5.c0 hH26
  refine W.val rfl rfl rfl (R.not rfl rfl) (W.val rfl rfl rfl (R.move rfl rfl) ?_)
  refine W.split (d := 32) rfl (fun hc9 => ?_) (fun hc9 => ?_)
  replace hc9 := of_not_t hc9
  replace hc9 := of_decide_eq_false hc9
  refine W.off rfl rfl rfl (W.off rfl rfl rfl (W.off rfl rfl rfl (W.off rfl rfl rfl (W.val rfl rfl rfl (R.pick_t rfl rfl rfl) (W.val rfl rfl rfl (R.move rfl rfl) (W.off rfl rfl rfl (W.off rfl rfl rfl ?_)))))))
  refine W.off rfl rfl rfl (W.off rfl rfl rfl (W.val rfl rfl rfl (R.pick_t rfl rfl rfl) (W.val rfl rfl rfl (R.move rfl rfl) (W.off rfl rfl rfl (W.off rfl rfl rfl (W.off rfl rfl rfl (W.off rfl rfl rfl ?_)))))))
  refine W.off rfl rfl rfl (W.off rfl rfl rfl (W.val rfl rfl rfl (R.pick_t rfl rfl rfl) (W.nil (EX.then_n (CW.cond_t rfl (CW.seq (CW.region rfl ?_)))))))
  refine W.val rfl rfl rfl (R.assign rfl rfl) (W.nil (EX.then_n (CW.ret (EX.blk_ret (EX.then_ret (EX.then_ret (EX.blk_ret ?_)))))))
  refine EX.then_ret (EX.ret1 Try.results104 rfl ?_)
  have hH28 := hH27.f1
  have hH29 := hH28.upto1
  refine ⟨?_, hH29⟩
  refine vbool ?_; unfold linesOk; rw [he, lokB_drop hy1, show decide (lok bf y1) = false from decide_eq_false (by unfold lok; omega)]; simp
  replace hc9 := of_not_f hc9
  replace hc9 := of_decide_eq_true hc9
  refine W.val rfl rfl rfl (R.fa0 1 rfl rfl Try.underlying37 rfl Try.sz3 rfl) (W.ldk rfl rfl rfl rfl rfl Try.pl3 hH27 m0 hB2 rfl (W.call rfl rfl rfl rfl rfl Try.func103 Try.nm103 Try.bd103 (order_within _ _ _ w8 ) ?_))
  rintro v6 w9 ⟨rfl, hH30⟩
  have hH31 := hH27.c0 hH30
  refine W.val rfl rfl rfl (R.not rfl rfl) (W.val rfl rfl rfl (R.pick_f rfl rfl rfl) (W.val rfl rfl rfl (R.move rfl rfl) ?_))
  refine W.split (d := 38) rfl (fun hc10 => ?_) (fun hc10 => ?_)
  replace hc10 := of_not_t hc10
  replace hc10 := of_decide_eq_false hc10
  refine W.off rfl rfl rfl (W.off rfl rfl rfl (W.off rfl rfl rfl (W.off rfl rfl rfl (W.val rfl rfl rfl (R.pick_t rfl rfl rfl) (W.val rfl rfl rfl (R.move rfl rfl) (W.off rfl rfl rfl (W.off rfl rfl rfl ?_)))))))
  refine W.off rfl rfl rfl (W.off rfl rfl rfl (W.off rfl rfl rfl (W.off rfl rfl rfl (W.val rfl rfl rfl (R.pick_t rfl rfl rfl) (W.nil (EX.then_n (CW.cond_t rfl ?_)))))))
  refine CW.seq (CW.region rfl (W.val rfl rfl rfl (R.assign rfl rfl) (W.nil (EX.then_n (CW.ret (EX.blk_ret (EX.then_ret ?_)))))))
  refine EX.then_ret (EX.blk_ret (EX.then_ret (EX.ret1 Try.results104 rfl ?_)))
  have hH32 := hH31.f1
  have hH33 := hH32.upto1
  refine ⟨?_, hH33⟩
  refine vbool ?_; unfold linesOk; rw [he, lokB_drop hy1, show decide (lok bf y1) = false from decide_eq_false (by unfold lok; omega)]; simp
  replace hc10 := of_not_f hc10
  replace hc10 := of_decide_eq_true hc10
  refine W.val rfl rfl rfl (R.fa0 2 rfl rfl Try.underlying37 rfl Try.sz3 rfl) (W.ldk rfl rfl rfl rfl rfl Try.pl3 hH31 m0 hB2 rfl (W.call rfl rfl rfl rfl rfl Try.func103 Try.nm103 Try.bd103 (order_within _ _ _ w9 ) ?_))
  rintro v7 w10 ⟨rfl, hH34⟩
  have hH35 := hH31.c0 hH34
  refine W.val rfl rfl rfl (R.not rfl rfl) (W.val rfl rfl rfl (R.pick_f rfl rfl rfl) (W.val rfl rfl rfl (R.move rfl rfl) ?_))
  refine W.split (d := 44) rfl (fun hc11 => ?_) (fun hc11 => ?_)
  replace hc11 := of_not_t hc11
  replace hc11 := of_decide_eq_false hc11
  refine W.off rfl rfl rfl (W.off rfl rfl rfl (W.off rfl rfl rfl (W.off rfl rfl rfl (W.off rfl rfl rfl (W.off rfl rfl rfl (W.val rfl rfl rfl (R.pick_t rfl rfl rfl) (W.nil ?_)))))))
  refine EX.then_n (CW.cond_t rfl (CW.seq (CW.region rfl (W.val rfl rfl rfl (R.assign rfl rfl) (W.nil (EX.then_n (CW.ret ?_)))))))
  refine EX.blk_ret (EX.then_ret (EX.then_ret (EX.blk_ret (EX.then_ret (EX.ret1 Try.results104 rfl ?_)))))
  have hH36 := hH35.f1
  have hH37 := hH36.upto1
  refine ⟨?_, hH37⟩
  refine vbool ?_; unfold linesOk; rw [he, lokB_drop hy1, show decide (lok bf y1) = false from decide_eq_false (by unfold lok; omega)]; simp
  replace hc11 := of_not_f hc11
  replace hc11 := of_decide_eq_true hc11
  refine W.val rfl rfl rfl (R.fa0 3 rfl rfl Try.underlying37 rfl Try.sz3 rfl) (W.ldk rfl rfl rfl rfl rfl Try.pl3 hH35 m0 hB2 rfl (W.val rfl rfl rfl (R.fa0 2 rfl rfl Try.underlying37 rfl Try.sz3 rfl) (W.ldk rfl rfl rfl rfl rfl Try.pl3 hH35 m0 hB2 rfl (W.call rfl rfl rfl rfl rfl Try.func103 Try.nm103 Try.bd103 (order_within _ _ _ w10 ) ?_))))
  rintro v8 w11 ⟨rfl, hH38⟩
  have hH39 := hH35.c0 hH38
  refine W.val rfl rfl rfl (R.not rfl rfl) (W.val rfl rfl rfl (R.pick_f rfl rfl rfl) (W.nil (EX.then_n ?_)))
  refine CW.cond rfl (fun hc12 => ?_) (fun hc12 => ?_)
  replace hc12 := of_not_t hc12
  replace hc12 := of_decide_eq_false hc12
  refine CW.seq (CW.region rfl (W.val rfl rfl rfl (R.assign rfl rfl) (W.nil (EX.then_n (CW.ret (EX.blk_ret (EX.then_ret ?_)))))))
  refine EX.then_ret (EX.blk_ret (EX.then_ret (EX.ret1 Try.results104 rfl ?_)))
  have hH40 := hH39.f1
  have hH41 := hH40.upto1
  refine ⟨?_, hH41⟩
  refine vbool ?_; unfold linesOk; rw [he, lokB_drop hy1, show decide (lok bf y1) = false from decide_eq_false (by unfold lok; omega)]; simp
  replace hc12 := of_not_f hc12
  replace hc12 := of_decide_eq_true hc12
  refine CW.skip (EX.blk_n (EX.then_n (CW.region rfl (W.val rfl rfl rfl (R.addx rfl rfl rfl (ok_i64 (by omega))) (W.val rfl rfl rfl (R.move rfl rfl) (W.nil ?_))))))
  have hH42 := hH39.f1
  have hH43 := hH42.upto1
  refine EX.back4 _ _ rfl ?_ (by rw [hI1]; exact ⟨k + 1, y1.Item, rfl, rfl, hH43, by omega, he.trans (by rw [lokB_drop hy1, show decide (lok bf y1) = true from decide_eq_true (by unfold lok; omega), Bool.true_and]), by omega, fun {y} h => by right; rw [show ((↑(k + 1) : Int) - 1).toNat = k by omega, hy1] at h; cases h; rfl⟩) ?_
  exact ⟨lk_int rfl (by first | rfl | omega), trivial⟩
  omega
  replace hc2 := of_decide_eq_false hc2
  refine CW.exit (EX.then_exit (EX.then_exit (EX.blk_here (EX.then_n (CW.seq (CW.region rfl (W.val rfl rfl rfl (R.assign rfl rfl) ?_)))))))
  refine W.nil (EX.then_n (CW.ret (EX.ret1 Try.results104 rfl ?_)))
  have hH44 := hH2.upto1
  refine ⟨?_, hH44⟩
  obtain rfl : k = ls.length := by omega
  refine vbool ?_; unfold linesOk; rw [decide_eq_true (by omega), he, List.drop_length]; rfl

end Go.Proofs.Gw
namespace Go.Proofs.Gw
open Go Go.Gw Go.Proofs Go.RowKit
set_option maxRecDepth 100000 in
set_option maxHeartbeats 1000000 in
theorem schema_ev1 (v_ : GV1) (csv_ : List Value) (w0 : World) (hv_ : kV1.K (hp w0) v_ csv_) : Calls Try.prog 184 #[.agg csv_.toArray] w0 (Ret fun v w' => ∃ (cs0 : List Value), v = .agg cs0.toArray ∧ Has w0 w' [hp w0] ∧ kEvent.K emp (⟨v_.Kind, v_.Order, v_.Item, v_.Qty, v_.Price, 0, 0, ⟨#[]⟩, 0, ⟨#[]⟩⟩) cs0) := by
  refine fnstart (N := 14) Try.func184 rfl Try.ntmps184 (Nat.le_of_ble_eq_true rfl) ?_
  have hH0 : Has w0 w0 [hp w0] := Has.refl w0
  have hK1 := hv_
  obtain ⟨rfl, hb1, hb2, hb3, hb4, hb5, hb6, hb7, hb8, hb9, hb10⟩ := hK1
  refine CW.seq (CW.region rfl ?_)
  refine W.box rfl rfl rfl rfl rfl rfl hH0 (fun b1 zb1 w1 hH1 hB1 => ?_)
  refine W.alloc rfl rfl rfl rfl Try.zr117 rfl hH1 (fun b2 zb2 w2 hH2 hB2 => ?_)
  refine W.nil (EX.then_n (CW.seq (CW.region rfl (W.val rfl rfl rfl (R.fa0 0 rfl rfl Try.underlying222 rfl Try.sz115 rfl) (W.ldk rfl rfl rfl rfl rfl Try.pl115 hH2 m1 hB1 rfl (W.val rfl rfl rfl (R.fa0 1 rfl rfl Try.underlying222 rfl Try.sz3 rfl) (W.ldk rfl rfl rfl rfl rfl Try.pl3 hH2 m1 hB1 rfl ?_)))))))
  refine W.val rfl rfl rfl (R.fa0 2 rfl rfl Try.underlying222 rfl Try.sz3 rfl) (W.ldk rfl rfl rfl rfl rfl Try.pl3 hH2 m1 hB1 rfl (W.val rfl rfl rfl (R.fa0 3 rfl rfl Try.underlying222 rfl Try.sz3 rfl) (W.ldk rfl rfl rfl rfl rfl Try.pl3 hH2 m1 hB1 rfl (W.val rfl rfl rfl (R.fa0 4 rfl rfl Try.underlying222 rfl Try.sz3 rfl) (W.ldk rfl rfl rfl rfl rfl Try.pl3 hH2 m1 hB1 rfl (W.val rfl rfl rfl (R.build rfl rfl Try.zr117 rfl (by rw [Try.underlying117]; rfl) Try.plc117 rfl) ?_))))))
  refine W.sg0 rfl rfl rfl rfl rfl Try.sz117 rfl (by rfl) hH2 hB2 (fun zb3 w3 hH3 hB3 => ?_)
  refine W.nil (EX.then_n (CW.ret (EX.retV Try.results184 (.cons (.agg rfl (fun w => run_isAgg_struct Try.underlying117 w) (by exact Try.sz117) (fun k u hk => hH3.cell m0 (hB3.at_ k u hk))) RVs.nil) ?_)))
  have hH4 := hH3.f2
  have hH5 := hH4.upto1
  refine ⟨_, ?_, hH5, ⟨rfl, (by first | omega | decide | (dsimp only [GField.none]; omega)), (by first | omega | decide | (dsimp only [GField.none]; omega)), (by first | omega | decide | (dsimp only [GField.none]; omega)), (by first | omega | decide | (dsimp only [GField.none]; omega)), (by first | omega | decide | (dsimp only [GField.none]; omega)), (by first | omega | decide | (dsimp only [GField.none]; omega)), (by first | omega | decide | (dsimp only [GField.none]; omega)), (by first | omega | decide | (dsimp only [GField.none]; omega)), (by first | omega | decide | (dsimp only [GField.none]; omega)), (by first | omega | decide | (dsimp only [GField.none]; omega)), (by first | omega | decide | (dsimp only [GField.none]; omega)), (by first | omega | decide | (dsimp only [GField.none]; omega)), (by first | omega | decide | (dsimp only [GField.none]; omega)), (by first | omega | decide | (dsimp only [GField.none]; omega)), (Nat.le_of_ble_eq_true rfl), (by first | omega | decide | (dsimp only [GField.none]; omega)), (by first | omega | decide | (dsimp only [GField.none]; omega)), (Nat.le_of_ble_eq_true rfl)⟩⟩
  rfl

end Go.Proofs.Gw
namespace Go.Proofs.Gw
open Go Go.Gw Go.Proofs Go.RowKit
set_option maxRecDepth 100000 in
set_option maxHeartbeats 1000000 in
theorem schema_ev2 (v_ : GV2) (csv_ : List Value) (w0 : World) (hv_ : kV2.K (hp w0) v_ csv_) : Calls Try.prog 191 #[.agg csv_.toArray] w0 (Ret fun v w' => ∃ (cs0 : List Value), v = .agg cs0.toArray ∧ Has w0 w' [hp w0] ∧ kEvent.K emp (⟨v_.V1.Kind, v_.V1.Order, v_.V1.Item, v_.V1.Qty, v_.V1.Price, v_.Cur, 0, ⟨#[]⟩, 0, ⟨#[]⟩⟩) cs0) := by
  refine fnstart (N := 11) Try.func191 rfl Try.ntmps191 (Nat.le_of_ble_eq_true rfl) ?_
  have hH0 : Has w0 w0 [hp w0] := Has.refl w0
  have hK1 := hv_
  obtain ⟨rfl, hb1, hb2, hb3, hb4, hb5, hb6, hb7, hb8, hb9, hb10, hb11, hb12⟩ := hK1
  refine CW.seq (CW.region rfl ?_)
  refine W.box rfl rfl rfl rfl rfl rfl hH0 (fun b1 zb1 w1 hH1 hB1 => ?_)
  refine W.alloc rfl rfl rfl rfl Try.zr117 rfl hH1 (fun b2 zb2 w2 hH2 hB2 => ?_)
  refine W.nil (EX.then_n (CW.seq (CW.region rfl (W.val rfl rfl rfl (R.fa0 0 rfl rfl Try.underlying224 rfl Try.sz222 rfl) (W.lgk rfl rfl rfl rfl rfl Try.pl222 (by rw [Try.underlying222]; rfl) Try.sz222 hH2 m1 hB1 rfl rfl ?_)))))
  refine W.call rfl rfl rfl rfl rfl Try.func184 Try.nm184 Try.bd184 (schema_ev1 (⟨_, _, _, _, _⟩ : GV1) _ w2 ⟨rfl, (by first | omega | decide | (dsimp only [GField.none]; omega)), (by first | omega | decide | (dsimp only [GField.none]; omega)), (by first | omega | decide | (dsimp only [GField.none]; omega)), (by first | omega | decide | (dsimp only [GField.none]; omega)), (by first | omega | decide | (dsimp only [GField.none]; omega)), (by first | omega | decide | (dsimp only [GField.none]; omega)), (by first | omega | decide | (dsimp only [GField.none]; omega)), (by first | omega | decide | (dsimp only [GField.none]; omega)), (by first | omega | decide | (dsimp only [GField.none]; omega)), (by first | omega | decide | (dsimp only [GField.none]; omega))⟩) ?_
  rintro v1 w3 ⟨cs01, rfl, hH3, hK01⟩
  have hH4 := hH2.c0 hH3
  have hK2 := hK01
  obtain ⟨rfl, hb13, hb14, hb15, hb16, hb17, hb18, hb19, hb20, hb21, hb22, hb23, hb24, hb25, hb26, hb27, hb28, hb29, hb30⟩ := hK2
  refine W.alloc rfl rfl rfl rfl Try.zr117 rfl hH4 (fun b3 zb3 w4 hH5 hB3 => ?_)
  refine W.sg0 rfl rfl rfl rfl rfl Try.sz117 rfl (by rfl) hH5 hB3 (fun zb4 w5 hH6 hB4 => ?_)
  refine W.nil (EX.then_n (CW.seq (CW.region rfl (W.val rfl rfl rfl (R.fa0 5 rfl rfl Try.underlying224 rfl Try.sz3 rfl) (W.ldk rfl rfl rfl rfl rfl Try.pl3 hH6 m2 hB1 rfl (W.val rfl rfl rfl (R.fa0 5 rfl rfl Try.underlying117 rfl Try.sz3 rfl) ?_))))))
  refine W.storeLoc rfl rfl rfl rfl rfl Try.sz3 rfl (Nat.le_of_ble_eq_true rfl) hH6 hB4 (fun zb5 w6 hH7 hB5 => ?_)
  refine W.nil (EX.then_n (CW.seq (CW.region rfl (W.lg0 rfl rfl rfl rfl rfl Try.pl117 (by rw [Try.underlying117]; rfl) (by exact Try.sz117) hH7 m0 hB5 ?_))))
  have hH8 := hH7.f1
  refine W.sg0 rfl rfl rfl rfl rfl Try.sz117 rfl (by rfl) hH8 hB2 (fun zb6 w7 hH9 hB6 => ?_)
  refine W.nil (EX.then_n (CW.ret (EX.retV Try.results191 (.cons (.agg rfl (fun w => run_isAgg_struct Try.underlying117 w) (by exact Try.sz117) (fun k u hk => hH9.cell m0 (hB6.at_ k u hk))) RVs.nil) ?_)))
  have hH10 := hH9.f3
  have hH11 := hH10.upto1
  refine ⟨_, ?_, hH11, ⟨rfl, (by first | omega | decide | (dsimp only [GField.none]; omega)), (by first | omega | decide | (dsimp only [GField.none]; omega)), (by first | omega | decide | (dsimp only [GField.none]; omega)), (by first | omega | decide | (dsimp only [GField.none]; omega)), (by first | omega | decide | (dsimp only [GField.none]; omega)), (by first | omega | decide | (dsimp only [GField.none]; omega)), (by first | omega | decide | (dsimp only [GField.none]; omega)), (by first | omega | decide | (dsimp only [GField.none]; omega)), (by first | omega | decide | (dsimp only [GField.none]; omega)), (by first | omega | decide | (dsimp only [GField.none]; omega)), (by first | omega | decide | (dsimp only [GField.none]; omega)), (by first | omega | decide | (dsimp only [GField.none]; omega)), (by first | omega | decide | (dsimp only [GField.none]; omega)), (by first | omega | decide | (dsimp only [GField.none]; omega)), hb27, (by first | omega | decide | (dsimp only [GField.none]; omega)), (by first | omega | decide | (dsimp only [GField.none]; omega)), hb30⟩⟩
  rfl

end Go.Proofs.Gw
namespace Go.Proofs.Gw
open Go Go.Gw Go.Proofs Go.RowKit
set_option maxRecDepth 100000 in
set_option maxHeartbeats 1000000 in
theorem schema_ev3 (v_ : GV3) (csv_ : List Value) (w0 : World) (hv_ : kV3.K (hp w0) v_ csv_) : Calls Try.prog 194 #[.agg csv_.toArray] w0 (Ret fun v w' => ∃ (cs0 : List Value), v = .agg cs0.toArray ∧ Has w0 w' [hp w0] ∧ kEvent.K emp (⟨v_.V2.V1.Kind, v_.V2.V1.Order, v_.V2.V1.Item, v_.V2.V1.Qty, v_.V2.V1.Price, v_.V2.Cur, v_.Tax, ⟨#[]⟩, 0, ⟨#[]⟩⟩) cs0) := by
  refine fnstart (N := 11) Try.func194 rfl Try.ntmps194 (Nat.le_of_ble_eq_true rfl) ?_
  have hH0 : Has w0 w0 [hp w0] := Has.refl w0
  have hK1 := hv_
  obtain ⟨rfl, hb1, hb2, hb3, hb4, hb5, hb6, hb7, hb8, hb9, hb10, hb11, hb12, hb13, hb14⟩ := hK1
  refine CW.seq (CW.region rfl ?_)
  refine W.box rfl rfl rfl rfl rfl rfl hH0 (fun b1 zb1 w1 hH1 hB1 => ?_)
  refine W.alloc rfl rfl rfl rfl Try.zr117 rfl hH1 (fun b2 zb2 w2 hH2 hB2 => ?_)
  refine W.nil (EX.then_n (CW.seq (CW.region rfl (W.val rfl rfl rfl (R.fa0 0 rfl rfl Try.underlying226 rfl Try.sz224 rfl) (W.lgk rfl rfl rfl rfl rfl Try.pl224 (by rw [Try.underlying224]; rfl) Try.sz224 hH2 m1 hB1 rfl rfl ?_)))))
  refine W.call rfl rfl rfl rfl rfl Try.func191 Try.nm191 Try.bd191 (schema_ev2 (⟨⟨_, _, _, _, _⟩, _⟩ : GV2) _ w2 ⟨rfl, (by first | omega | decide | (dsimp only [GField.none]; omega)), (by first | omega | decide | (dsimp only [GField.none]; omega)), (by first | omega | decide | (dsimp only [GField.none]; omega)), (by first | omega | decide | (dsimp only [GField.none]; omega)), (by first | omega | decide | (dsimp only [GField.none]; omega)), (by first | omega | decide | (dsimp only [GField.none]; omega)), (by first | omega | decide | (dsimp only [GField.none]; omega)), (by first | omega | decide | (dsimp only [GField.none]; omega)), (by first | omega | decide | (dsimp only [GField.none]; omega)), (by first | omega | decide | (dsimp only [GField.none]; omega)), (by first | omega | decide | (dsimp only [GField.none]; omega)), (by first | omega | decide | (dsimp only [GField.none]; omega))⟩) ?_
  rintro v1 w3 ⟨cs01, rfl, hH3, hK01⟩
  have hH4 := hH2.c0 hH3
  have hK2 := hK01
  obtain ⟨rfl, hb15, hb16, hb17, hb18, hb19, hb20, hb21, hb22, hb23, hb24, hb25, hb26, hb27, hb28, hb29, hb30, hb31, hb32⟩ := hK2
  refine W.alloc rfl rfl rfl rfl Try.zr117 rfl hH4 (fun b3 zb3 w4 hH5 hB3 => ?_)
  refine W.sg0 rfl rfl rfl rfl rfl Try.sz117 rfl (by rfl) hH5 hB3 (fun zb4 w5 hH6 hB4 => ?_)
  refine W.nil (EX.then_n (CW.seq (CW.region rfl (W.val rfl rfl rfl (R.fa0 6 rfl rfl Try.underlying226 rfl Try.sz3 rfl) (W.ldk rfl rfl rfl rfl rfl Try.pl3 hH6 m2 hB1 rfl (W.val rfl rfl rfl (R.fa0 6 rfl rfl Try.underlying117 rfl Try.sz3 rfl) ?_))))))
  refine W.storeLoc rfl rfl rfl rfl rfl Try.sz3 rfl (Nat.le_of_ble_eq_true rfl) hH6 hB4 (fun zb5 w6 hH7 hB5 => ?_)
  refine W.nil (EX.then_n (CW.seq (CW.region rfl (W.lg0 rfl rfl rfl rfl rfl Try.pl117 (by rw [Try.underlying117]; rfl) (by exact Try.sz117) hH7 m0 hB5 ?_))))
  have hH8 := hH7.f1
  refine W.sg0 rfl rfl rfl rfl rfl Try.sz117 rfl (by rfl) hH8 hB2 (fun zb6 w7 hH9 hB6 => ?_)
  refine W.nil (EX.then_n (CW.ret (EX.retV Try.results194 (.cons (.agg rfl (fun w => run_isAgg_struct Try.underlying117 w) (by exact Try.sz117) (fun k u hk => hH9.cell m0 (hB6.at_ k u hk))) RVs.nil) ?_)))
  have hH10 := hH9.f3
  have hH11 := hH10.upto1
  refine ⟨_, ?_, hH11, ⟨rfl, (by first | omega | decide | (dsimp only [GField.none]; omega)), (by first | omega | decide | (dsimp only [GField.none]; omega)), (by first | omega | decide | (dsimp only [GField.none]; omega)), (by first | omega | decide | (dsimp only [GField.none]; omega)), (by first | omega | decide | (dsimp only [GField.none]; omega)), (by first | omega | decide | (dsimp only [GField.none]; omega)), (by first | omega | decide | (dsimp only [GField.none]; omega)), (by first | omega | decide | (dsimp only [GField.none]; omega)), (by first | omega | decide | (dsimp only [GField.none]; omega)), (by first | omega | decide | (dsimp only [GField.none]; omega)), (by first | omega | decide | (dsimp only [GField.none]; omega)), (by first | omega | decide | (dsimp only [GField.none]; omega)), (by first | omega | decide | (dsimp only [GField.none]; omega)), (by first | omega | decide | (dsimp only [GField.none]; omega)), hb29, (by first | omega | decide | (dsimp only [GField.none]; omega)), (by first | omega | decide | (dsimp only [GField.none]; omega)), hb32⟩⟩
  rfl

end Go.Proofs.Gw
namespace Go.Proofs.Gw
open Go Go.Gw Go.Proofs Go.RowKit
set_option maxRecDepth 100000 in
set_option maxHeartbeats 1000000 in
theorem schema_ev4 (v_ : GV4) (csv_ : List Value) (w0 : World) (hv_ : kV4.K (hp w0) v_ csv_) : Calls Try.prog 198 #[.agg csv_.toArray] w0 (Ret fun v w' => ∃ (cs0 : List Value), v = .agg cs0.toArray ∧ Has w0 w' [hp w0] ∧ kEvent.K emp (⟨v_.V3.V2.V1.Kind, v_.V3.V2.V1.Order, v_.V3.V2.V1.Item, v_.V3.V2.V1.Qty, v_.V3.V2.V1.Price, v_.V3.V2.Cur, v_.V3.Tax, v_.Who, 0, ⟨#[]⟩⟩) cs0) := by
  refine fnstart (N := 11) Try.func198 rfl Try.ntmps198 (Nat.le_of_ble_eq_true rfl) ?_
  have hH0 : Has w0 w0 [hp w0] := Has.refl w0
  have hK1 := hv_
  obtain ⟨rfl, hb1, hb2, hb3, hb4, hb5, hb6, hb7, hb8, hb9, hb10, hb11, hb12, hb13, hb14, hb15⟩ := hK1
  refine CW.seq (CW.region rfl ?_)
  refine W.box rfl rfl rfl rfl rfl rfl hH0 (fun b1 zb1 w1 hH1 hB1 => ?_)
  refine W.alloc rfl rfl rfl rfl Try.zr117 rfl hH1 (fun b2 zb2 w2 hH2 hB2 => ?_)
  refine W.nil (EX.then_n (CW.seq (CW.region rfl (W.val rfl rfl rfl (R.fa0 0 rfl rfl Try.underlying228 rfl Try.sz226 rfl) (W.lgk rfl rfl rfl rfl rfl Try.pl226 (by rw [Try.underlying226]; rfl) Try.sz226 hH2 m1 hB1 rfl rfl ?_)))))
  refine W.call rfl rfl rfl rfl rfl Try.func194 Try.nm194 Try.bd194 (schema_ev3 (⟨⟨⟨_, _, _, _, _⟩, _⟩, _⟩ : GV3) _ w2 ⟨rfl, (by first | omega | decide | (dsimp only [GField.none]; omega)), (by first | omega | decide | (dsimp only [GField.none]; omega)), (by first | omega | decide | (dsimp only [GField.none]; omega)), (by first | omega | decide | (dsimp only [GField.none]; omega)), (by first | omega | decide | (dsimp only [GField.none]; omega)), (by first | omega | decide | (dsimp only [GField.none]; omega)), (by first | omega | decide | (dsimp only [GField.none]; omega)), (by first | omega | decide | (dsimp only [GField.none]; omega)), (by first | omega | decide | (dsimp only [GField.none]; omega)), (by first | omega | decide | (dsimp only [GField.none]; omega)), (by first | omega | decide | (dsimp only [GField.none]; omega)), (by first | omega | decide | (dsimp only [GField.none]; omega)), (by first | omega | decide | (dsimp only [GField.none]; omega)), (by first | omega | decide | (dsimp only [GField.none]; omega))⟩) ?_
  rintro v1 w3 ⟨cs01, rfl, hH3, hK01⟩
  have hH4 := hH2.c0 hH3
  have hK2 := hK01
  obtain ⟨rfl, hb16, hb17, hb18, hb19, hb20, hb21, hb22, hb23, hb24, hb25, hb26, hb27, hb28, hb29, hb30, hb31, hb32, hb33⟩ := hK2
  refine W.alloc rfl rfl rfl rfl Try.zr117 rfl hH4 (fun b3 zb3 w4 hH5 hB3 => ?_)
  refine W.sg0 rfl rfl rfl rfl rfl Try.sz117 rfl (by rfl) hH5 hB3 (fun zb4 w5 hH6 hB4 => ?_)
  refine W.nil (EX.then_n (CW.seq (CW.region rfl (W.val rfl rfl rfl (R.fa0 7 rfl rfl Try.underlying228 rfl Try.sz9 rfl) (W.ldk rfl rfl rfl rfl rfl Try.pl9 hH6 m2 hB1 rfl (W.val rfl rfl rfl (R.fa0 7 rfl rfl Try.underlying117 rfl Try.sz9 rfl) ?_))))))
  refine W.storeLoc rfl rfl rfl rfl rfl Try.sz9 rfl (Nat.le_of_ble_eq_true rfl) hH6 hB4 (fun zb5 w6 hH7 hB5 => ?_)
  refine W.nil (EX.then_n (CW.seq (CW.region rfl (W.lg0 rfl rfl rfl rfl rfl Try.pl117 (by rw [Try.underlying117]; rfl) (by exact Try.sz117) hH7 m0 hB5 ?_))))
  have hH8 := hH7.f1
  refine W.sg0 rfl rfl rfl rfl rfl Try.sz117 rfl (by rfl) hH8 hB2 (fun zb6 w7 hH9 hB6 => ?_)
  refine W.nil (EX.then_n (CW.ret (EX.retV Try.results198 (.cons (.agg rfl (fun w => run_isAgg_struct Try.underlying117 w) (by exact Try.sz117) (fun k u hk => hH9.cell m0 (hB6.at_ k u hk))) RVs.nil) ?_)))
  have hH10 := hH9.f3
  have hH11 := hH10.upto1
  refine ⟨_, ?_, hH11, ⟨rfl, (by first | omega | decide | (dsimp only [GField.none]; omega)), (by first | omega | decide | (dsimp only [GField.none]; omega)), (by first | omega | decide | (dsimp only [GField.none]; omega)), (by first | omega | decide | (dsimp only [GField.none]; omega)), (by first | omega | decide | (dsimp only [GField.none]; omega)), (by first | omega | decide | (dsimp only [GField.none]; omega)), (by first | omega | decide | (dsimp only [GField.none]; omega)), (by first | omega | decide | (dsimp only [GField.none]; omega)), (by first | omega | decide | (dsimp only [GField.none]; omega)), (by first | omega | decide | (dsimp only [GField.none]; omega)), (by first | omega | decide | (dsimp only [GField.none]; omega)), (by first | omega | decide | (dsimp only [GField.none]; omega)), (by first | omega | decide | (dsimp only [GField.none]; omega)), (by first | omega | decide | (dsimp only [GField.none]; omega)), hb15, (by first | omega | decide | (dsimp only [GField.none]; omega)), (by first | omega | decide | (dsimp only [GField.none]; omega)), hb33⟩⟩
  rfl

end Go.Proofs.Gw
namespace Go.Proofs.Gw
open Go Go.Gw Go.Proofs Go.RowKit
set_option maxRecDepth 100000 in
set_option maxHeartbeats 1000000 in
theorem schema_ev5 (v_ : GV5) (csv_ : List Value) (w0 : World) (hv_ : kV5.K (hp w0) v_ csv_) : Calls Try.prog 203 #[.agg csv_.toArray] w0 (Ret fun v w' => ∃ (cs0 : List Value), v = .agg cs0.toArray ∧ Has w0 w' [hp w0] ∧ kEvent.K emp (⟨v_.V4.V3.V2.V1.Kind, v_.V4.V3.V2.V1.Order, v_.V4.V3.V2.V1.Item, v_.V4.V3.V2.V1.Qty, v_.V4.V3.V2.V1.Price, v_.V4.V3.V2.Cur, v_.V4.V3.Tax, v_.V4.Who, v_.Stamp, v_.Note⟩) cs0) := by
  refine fnstart (N := 14) Try.func203 rfl Try.ntmps203 (Nat.le_of_ble_eq_true rfl) ?_
  have hH0 : Has w0 w0 [hp w0] := Has.refl w0
  have hK1 := hv_
  obtain ⟨rfl, hb1, hb2, hb3, hb4, hb5, hb6, hb7, hb8, hb9, hb10, hb11, hb12, hb13, hb14, hb15, hb16, hb17, hb18⟩ := hK1
  refine CW.seq (CW.region rfl ?_)
  refine W.box rfl rfl rfl rfl rfl rfl hH0 (fun b1 zb1 w1 hH1 hB1 => ?_)
  refine W.alloc rfl rfl rfl rfl Try.zr117 rfl hH1 (fun b2 zb2 w2 hH2 hB2 => ?_)
  refine W.nil (EX.then_n (CW.seq (CW.region rfl (W.val rfl rfl rfl (R.fa0 0 rfl rfl Try.underlying230 rfl Try.sz228 rfl) (W.lgk rfl rfl rfl rfl rfl Try.pl228 (by rw [Try.underlying228]; rfl) Try.sz228 hH2 m1 hB1 rfl rfl ?_)))))
  refine W.call rfl rfl rfl rfl rfl Try.func198 Try.nm198 Try.bd198 (schema_ev4 (⟨⟨⟨⟨_, _, _, _, _⟩, _⟩, _⟩, _⟩ : GV4) _ w2 ⟨rfl, (by first | omega | decide | (dsimp only [GField.none]; omega)), (by first | omega | decide | (dsimp only [GField.none]; omega)), (by first | omega | decide | (dsimp only [GField.none]; omega)), (by first | omega | decide | (dsimp only [GField.none]; omega)), (by first | omega | decide | (dsimp only [GField.none]; omega)), (by first | omega | decide | (dsimp only [GField.none]; omega)), (by first | omega | decide | (dsimp only [GField.none]; omega)), (by first | omega | decide | (dsimp only [GField.none]; omega)), (by first | omega | decide | (dsimp only [GField.none]; omega)), (by first | omega | decide | (dsimp only [GField.none]; omega)), (by first | omega | decide | (dsimp only [GField.none]; omega)), (by first | omega | decide | (dsimp only [GField.none]; omega)), (by first | omega | decide | (dsimp only [GField.none]; omega)), (by first | omega | decide | (dsimp only [GField.none]; omega)), hb15⟩) ?_
  rintro v1 w3 ⟨cs01, rfl, hH3, hK01⟩
  have hH4 := hH2.c0 hH3
  have hK2 := hK01
  obtain ⟨rfl, hb19, hb20, hb21, hb22, hb23, hb24, hb25, hb26, hb27, hb28, hb29, hb30, hb31, hb32, hb33, hb34, hb35, hb36⟩ := hK2
  refine W.alloc rfl rfl rfl rfl Try.zr117 rfl hH4 (fun b3 zb3 w4 hH5 hB3 => ?_)
  refine W.sg0 rfl rfl rfl rfl rfl Try.sz117 rfl (by rfl) hH5 hB3 (fun zb4 w5 hH6 hB4 => ?_)
  refine W.nil (EX.then_n (CW.seq (CW.region rfl (W.val rfl rfl rfl (R.fa0 8 rfl rfl Try.underlying230 rfl Try.sz3 rfl) (W.ldk rfl rfl rfl rfl rfl Try.pl3 hH6 m2 hB1 rfl (W.val rfl rfl rfl (R.fa0 8 rfl rfl Try.underlying117 rfl Try.sz3 rfl) ?_))))))
  refine W.storeLoc rfl rfl rfl rfl rfl Try.sz3 rfl (Nat.le_of_ble_eq_true rfl) hH6 hB4 (fun zb5 w6 hH7 hB5 => ?_)
  refine W.nil (EX.then_n (CW.seq (CW.region rfl (W.val rfl rfl rfl (R.fa0 9 rfl rfl Try.underlying230 rfl Try.sz9 rfl) (W.ldk rfl rfl rfl rfl rfl Try.pl9 hH7 m2 hB1 rfl (W.val rfl rfl rfl (R.fa0 9 rfl rfl Try.underlying117 rfl Try.sz9 rfl) ?_))))))
  refine W.storeLoc rfl rfl rfl rfl rfl Try.sz9 rfl (Nat.le_of_ble_eq_true rfl) hH7 hB5 (fun zb6 w7 hH8 hB6 => ?_)
  refine W.nil (EX.then_n (CW.seq (CW.region rfl (W.lg0 rfl rfl rfl rfl rfl Try.pl117 (by rw [Try.underlying117]; rfl) (by exact Try.sz117) hH8 m0 hB6 ?_))))
  have hH9 := hH8.f1
  refine W.sg0 rfl rfl rfl rfl rfl Try.sz117 rfl (by rfl) hH9 hB2 (fun zb7 w8 hH10 hB7 => ?_)
  refine W.nil (EX.then_n (CW.ret (EX.retV Try.results203 (.cons (.agg rfl (fun w => run_isAgg_struct Try.underlying117 w) (by exact Try.sz117) (fun k u hk => hH10.cell m0 (hB7.at_ k u hk))) RVs.nil) ?_)))
  have hH11 := hH10.f3
  have hH12 := hH11.upto1
  refine ⟨_, ?_, hH12, ⟨rfl, (by first | omega | decide | (dsimp only [GField.none]; omega)), (by first | omega | decide | (dsimp only [GField.none]; omega)), (by first | omega | decide | (dsimp only [GField.none]; omega)), (by first | omega | decide | (dsimp only [GField.none]; omega)), (by first | omega | decide | (dsimp only [GField.none]; omega)), (by first | omega | decide | (dsimp only [GField.none]; omega)), (by first | omega | decide | (dsimp only [GField.none]; omega)), (by first | omega | decide | (dsimp only [GField.none]; omega)), (by first | omega | decide | (dsimp only [GField.none]; omega)), (by first | omega | decide | (dsimp only [GField.none]; omega)), (by first | omega | decide | (dsimp only [GField.none]; omega)), (by first | omega | decide | (dsimp only [GField.none]; omega)), (by first | omega | decide | (dsimp only [GField.none]; omega)), (by first | omega | decide | (dsimp only [GField.none]; omega)), hb33, (by first | omega | decide | (dsimp only [GField.none]; omega)), (by first | omega | decide | (dsimp only [GField.none]; omega)), hb18⟩⟩
  rfl

end Go.Proofs.Gw
namespace Go.Proofs.Gw
open Go Go.Gw Go.Proofs Go.RowKit
set_option maxRecDepth 100000 in
set_option maxHeartbeats 1000000 in
theorem schema_within (x : Int) (lo : Int) (hi : Int) (w0 : World) : Calls Try.prog 190 #[.int .i64 x, .int .i64 lo, .int .i64 hi] w0 (Ret fun v w' => v = .bool (decide (lo ≤ x ∧ x ≤ hi)) ∧ Has w0 w' [hp w0]) := by
  refine fnstart (N := 15) Try.func190 rfl Try.ntmps190 (Nat.le_of_ble_eq_true rfl) ?_
  have hH0 : Has w0 w0 [hp w0] := Has.refl w0
  refine CW.seq (CW.region rfl (W.val rfl rfl rfl (R.assign rfl rfl) (W.nil (EX.then_n (CW.seq (CW.region rfl (W.val rfl rfl rfl (R.move rfl rfl) ?_)))))))
  refine W.val rfl rfl rfl (R.move rfl rfl) (W.val rfl rfl rfl (R.leq rfl rfl rfl) (W.val rfl rfl rfl (R.move rfl rfl) ?_))
  refine W.split (d := 10) rfl (fun hc1 => ?_) (fun hc1 => ?_)
  replace hc1 := of_decide_eq_true hc1
  refine W.val rfl rfl rfl (R.move rfl rfl) (W.val rfl rfl rfl (R.move rfl rfl) (W.val rfl rfl rfl (R.leq rfl rfl rfl) (W.val rfl rfl rfl (R.pick_t rfl rfl rfl) (W.val rfl rfl rfl (R.assign rfl rfl) (W.nil (EX.then_n (CW.ret ?_)))))))
  refine EX.ret1 Try.results190 rfl ?_
  have hH1 := hH0.upto1
  refine ⟨?_, hH1⟩
  refine vbool ?_
  first
    | (exact (decide_eq_true (by omega)).symm)
    | (exact (decide_eq_false (by omega)).symm)
    | (exact decide_eq_decide.2 ⟨fun h => by omega, fun h => by omega⟩)
  replace hc1 := of_decide_eq_false hc1
  refine W.off rfl rfl rfl (W.off rfl rfl rfl (W.off rfl rfl rfl (W.val rfl rfl rfl (R.pick_f rfl rfl rfl) (W.val rfl rfl rfl (R.assign rfl rfl) (W.nil (EX.then_n (CW.ret ?_)))))))
  refine EX.ret1 Try.results190 rfl ?_
  have hH2 := hH0.upto1
  refine ⟨?_, hH2⟩
  refine vbool ?_
  first
    | (exact (decide_eq_true (by omega)).symm)
    | (exact (decide_eq_false (by omega)).symm)
    | (exact decide_eq_decide.2 ⟨fun h => by omega, fun h => by omega⟩)

end Go.Proofs.Gw
namespace Go.Proofs.Gw
open Go Go.Gw Go.Proofs Go.RowKit
set_option maxRecDepth 100000 in
set_option maxHeartbeats 1000000 in
theorem schema_core (v_ : GV1) (csv_ : List Value) (least : Int) (dear : Int) (w0 : World) (hv_ : kV1.K (hp w0) v_ csv_) : Calls Try.prog 189 #[.agg csv_.toArray, .int .i64 least, .int .i64 dear] w0 (Ret fun v w' => v = .bool (fit1 v_ least dear) ∧ Has w0 w' [hp w0]) := by
  refine fnstart (N := 27) Try.func189 rfl Try.ntmps189 (Nat.le_of_ble_eq_true rfl) ?_
  have hH0 : Has w0 w0 [hp w0] := Has.refl w0
  have hK1 := hv_
  obtain ⟨rfl, hb1, hb2, hb3, hb4, hb5, hb6, hb7, hb8, hb9, hb10⟩ := hK1
  refine CW.seq (CW.region rfl ?_)
  refine W.box rfl rfl rfl rfl rfl rfl hH0 (fun b1 zb1 w1 hH1 hB1 => ?_)
  refine W.val rfl rfl rfl (R.assign rfl rfl) (W.nil (EX.then_n (CW.seq (CW.region rfl (W.val rfl rfl rfl (R.fa0 1 rfl rfl Try.underlying222 rfl Try.sz3 rfl) (W.ldk rfl rfl rfl rfl rfl Try.pl3 hH1 m0 hB1 rfl (W.call rfl rfl rfl rfl rfl Try.func190 Try.nm190 Try.bd190 (schema_within _ _ _ w1 ) ?_)))))))
  rintro v1 w2 ⟨rfl, hH2⟩
  have hH3 := hH1.c0 hH2
  refine W.val rfl rfl rfl (R.move rfl rfl) ?_
  refine W.split (d := 10) rfl (fun hc1 => ?_) (fun hc1 => ?_)
  replace hc1 := of_decide_eq_true hc1
  refine W.val rfl rfl rfl (R.fa0 2 rfl rfl Try.underlying222 rfl Try.sz3 rfl) (W.ldk rfl rfl rfl rfl rfl Try.pl3 hH3 m0 hB1 rfl (W.call rfl rfl rfl rfl rfl Try.func190 Try.nm190 Try.bd190 (schema_within _ _ _ w2 ) ?_))
  rintro v2 w3 ⟨rfl, hH4⟩
  have hH5 := hH3.c0 hH4
  refine W.val rfl rfl rfl (R.pick_t rfl rfl rfl) (W.val rfl rfl rfl (R.move rfl rfl) ?_)
  refine W.split (d := 15) rfl (fun hc2 => ?_) (fun hc2 => ?_)
  replace hc2 := of_decide_eq_true hc2
  refine W.val rfl rfl rfl (R.fa0 3 rfl rfl Try.underlying222 rfl Try.sz3 rfl) (W.ldk rfl rfl rfl rfl rfl Try.pl3 hH5 m0 hB1 rfl (W.val rfl rfl rfl (R.move rfl rfl) (W.call rfl rfl rfl rfl rfl Try.func190 Try.nm190 Try.bd190 (schema_within _ _ _ w3 ) ?_)))
  rintro v3 w4 ⟨rfl, hH6⟩
  have hH7 := hH5.c0 hH6
  refine W.val rfl rfl rfl (R.pick_t rfl rfl rfl) (W.val rfl rfl rfl (R.move rfl rfl) ?_)
  refine W.split (d := 21) rfl (fun hc3 => ?_) (fun hc3 => ?_)
  replace hc3 := of_decide_eq_true hc3
  refine W.val rfl rfl rfl (R.fa0 4 rfl rfl Try.underlying222 rfl Try.sz3 rfl) (W.ldk rfl rfl rfl rfl rfl Try.pl3 hH7 m0 hB1 rfl (W.val rfl rfl rfl (R.move rfl rfl) (W.call rfl rfl rfl rfl rfl Try.func190 Try.nm190 Try.bd190 (schema_within _ _ _ w4 ) ?_)))
  rintro v4 w5 ⟨rfl, hH8⟩
  have hH9 := hH7.c0 hH8
  refine W.val rfl rfl rfl (R.pick_t rfl rfl rfl) (W.val rfl rfl rfl (R.assign rfl rfl) (W.nil (EX.then_n (CW.ret (EX.ret1 Try.results189 rfl ?_)))))
  have hH10 := hH9.f1
  have hH11 := hH10.upto1
  refine ⟨?_, hH11⟩
  refine vbool ?_
  unfold fit1
  first
    | (exact (decide_eq_true (by omega)).symm)
    | (exact (decide_eq_false (by omega)).symm)
    | (exact decide_eq_decide.2 ⟨fun h => by omega, fun h => by omega⟩)
  replace hc3 := of_decide_eq_false hc3
  refine W.off rfl rfl rfl (W.off rfl rfl rfl (W.off rfl rfl rfl (W.off rfl rfl rfl (W.val rfl rfl rfl (R.pick_f rfl rfl rfl) (W.val rfl rfl rfl (R.assign rfl rfl) (W.nil (EX.then_n ?_)))))))
  refine CW.ret (EX.ret1 Try.results189 rfl ?_)
  have hH12 := hH7.f1
  have hH13 := hH12.upto1
  refine ⟨?_, hH13⟩
  refine vbool ?_
  unfold fit1
  first
    | (exact (decide_eq_true (by omega)).symm)
    | (exact (decide_eq_false (by omega)).symm)
    | (exact decide_eq_decide.2 ⟨fun h => by omega, fun h => by omega⟩)
  replace hc2 := of_decide_eq_false hc2
  refine W.off rfl rfl rfl (W.off rfl rfl rfl (W.off rfl rfl rfl (W.off rfl rfl rfl (W.val rfl rfl rfl (R.pick_f rfl rfl rfl) (W.val rfl rfl rfl (R.move rfl rfl) (W.off rfl rfl rfl (W.off rfl rfl rfl ?_)))))))
  refine W.off rfl rfl rfl (W.off rfl rfl rfl (W.val rfl rfl rfl (R.pick_f rfl rfl rfl) (W.val rfl rfl rfl (R.assign rfl rfl) (W.nil (EX.then_n (CW.ret (EX.ret1 Try.results189 rfl ?_)))))))
  have hH14 := hH5.f1
  have hH15 := hH14.upto1
  refine ⟨?_, hH15⟩
  refine vbool ?_
  unfold fit1
  first
    | (exact (decide_eq_true (by omega)).symm)
    | (exact (decide_eq_false (by omega)).symm)
    | (exact decide_eq_decide.2 ⟨fun h => by omega, fun h => by omega⟩)
  replace hc1 := of_decide_eq_false hc1
  refine W.off rfl rfl rfl (W.off rfl rfl rfl (W.off rfl rfl rfl (W.val rfl rfl rfl (R.pick_f rfl rfl rfl) (W.val rfl rfl rfl (R.move rfl rfl) (W.off rfl rfl rfl (W.off rfl rfl rfl (W.off rfl rfl rfl ?_)))))))
  refine W.off rfl rfl rfl (W.val rfl rfl rfl (R.pick_f rfl rfl rfl) (W.val rfl rfl rfl (R.move rfl rfl) (W.off rfl rfl rfl (W.off rfl rfl rfl (W.off rfl rfl rfl (W.off rfl rfl rfl (W.val rfl rfl rfl (R.pick_f rfl rfl rfl) ?_)))))))
  refine W.val rfl rfl rfl (R.assign rfl rfl) (W.nil (EX.then_n (CW.ret (EX.ret1 Try.results189 rfl ?_))))
  have hH16 := hH3.f1
  have hH17 := hH16.upto1
  refine ⟨?_, hH17⟩
  refine vbool ?_
  unfold fit1
  first
    | (exact (decide_eq_true (by omega)).symm)
    | (exact (decide_eq_false (by omega)).symm)
    | (exact decide_eq_decide.2 ⟨fun h => by omega, fun h => by omega⟩)

end Go.Proofs.Gw
namespace Go.Proofs.Gw
open Go Go.Gw Go.Proofs Go.RowKit
set_option maxRecDepth 100000 in
set_option maxHeartbeats 1000000 in
theorem schema_fits2 (v_ : GV2) (csv_ : List Value) (w0 : World) (hv_ : kV2.K (hp w0) v_ csv_) : Calls Try.prog 192 #[.agg csv_.toArray] w0 (Ret fun v w' => v = .bool (fit2 v_) ∧ Has w0 w' [hp w0]) := by
  refine fnstart (N := 11) Try.func192 rfl Try.ntmps192 (Nat.le_of_ble_eq_true rfl) ?_
  have hH0 : Has w0 w0 [hp w0] := Has.refl w0
  have hK1 := hv_
  obtain ⟨rfl, hb1, hb2, hb3, hb4, hb5, hb6, hb7, hb8, hb9, hb10, hb11, hb12⟩ := hK1
  refine CW.seq (CW.region rfl ?_)
  refine W.box rfl rfl rfl rfl rfl rfl hH0 (fun b1 zb1 w1 hH1 hB1 => ?_)
  refine W.val rfl rfl rfl (R.assign rfl rfl) (W.nil (EX.then_n (CW.seq (CW.region rfl (W.val rfl rfl rfl (R.fa0 0 rfl rfl Try.underlying224 rfl Try.sz222 rfl) (W.lgk rfl rfl rfl rfl rfl Try.pl222 (by rw [Try.underlying222]; rfl) Try.sz222 hH1 m0 hB1 rfl rfl ?_))))))
  refine W.call rfl rfl rfl rfl rfl Try.func189 Try.nm189 Try.bd189 (schema_core (⟨_, _, _, _, _⟩ : GV1) _ _ _ w1 ⟨rfl, (by first | omega | decide | (dsimp only [GField.none]; omega)), (by first | omega | decide | (dsimp only [GField.none]; omega)), (by first | omega | decide | (dsimp only [GField.none]; omega)), (by first | omega | decide | (dsimp only [GField.none]; omega)), (by first | omega | decide | (dsimp only [GField.none]; omega)), (by first | omega | decide | (dsimp only [GField.none]; omega)), (by first | omega | decide | (dsimp only [GField.none]; omega)), (by first | omega | decide | (dsimp only [GField.none]; omega)), (by first | omega | decide | (dsimp only [GField.none]; omega)), (by first | omega | decide | (dsimp only [GField.none]; omega))⟩) ?_
  rintro v1 w2 ⟨rfl, hH2⟩
  have hH3 := hH1.c0 hH2
  refine W.val rfl rfl rfl (R.move rfl rfl) ?_
  refine W.split (d := 6) rfl (fun hc1 => ?_) (fun hc1 => ?_)
  try subst hc1
  refine W.val rfl rfl rfl (R.fa0 5 rfl rfl Try.underlying224 rfl Try.sz3 rfl) (W.ldk rfl rfl rfl rfl rfl Try.pl3 hH3 m0 hB1 rfl (W.call rfl rfl rfl rfl rfl Try.func190 Try.nm190 Try.bd190 (schema_within _ _ _ w2 ) ?_))
  rintro v2 w3 ⟨rfl, hH4⟩
  have hH5 := hH3.c0 hH4
  refine W.val rfl rfl rfl (R.pick_t rfl rfl rfl) (W.val rfl rfl rfl (R.assign rfl rfl) (W.nil (EX.then_n (CW.ret (EX.ret1 Try.results192 rfl ?_)))))
  have hH6 := hH5.f1
  have hH7 := hH6.upto1
  refine ⟨?_, hH7⟩
  refine vbool ?_
  unfold fit2
  first
    | (rw [show fit1 v_.V1 (-10000) 100000000 = false from hc1]; rfl)
    | (rw [show fit1 v_.V1 (-10000) 100000000 = true from hc1]; rfl)
  try subst hc1
  refine W.off rfl rfl rfl (W.off rfl rfl rfl (W.off rfl rfl rfl (W.val rfl rfl rfl (R.pick_f rfl rfl rfl) (W.val rfl rfl rfl (R.assign rfl rfl) (W.nil (EX.then_n (CW.ret ?_)))))))
  refine EX.ret1 Try.results192 rfl ?_
  have hH8 := hH3.f1
  have hH9 := hH8.upto1
  refine ⟨?_, hH9⟩
  refine vbool ?_
  unfold fit2
  first
    | (rw [show fit1 v_.V1 (-10000) 100000000 = false from hc1]; rfl)
    | (rw [show fit1 v_.V1 (-10000) 100000000 = true from hc1]; rfl)

end Go.Proofs.Gw
namespace Go.Proofs.Gw
open Go Go.Gw Go.Proofs Go.RowKit
set_option maxRecDepth 100000 in
set_option maxHeartbeats 1000000 in
theorem schema_fits3 (v_ : GV3) (csv_ : List Value) (w0 : World) (hv_ : kV3.K (hp w0) v_ csv_) : Calls Try.prog 195 #[.agg csv_.toArray] w0 (Ret fun v w' => v = .bool (fit3 v_) ∧ Has w0 w' [hp w0]) := by
  refine fnstart (N := 18) Try.func195 rfl Try.ntmps195 (Nat.le_of_ble_eq_true rfl) ?_
  have hH0 : Has w0 w0 [hp w0] := Has.refl w0
  have hK1 := hv_
  obtain ⟨rfl, hb1, hb2, hb3, hb4, hb5, hb6, hb7, hb8, hb9, hb10, hb11, hb12, hb13, hb14⟩ := hK1
  refine CW.seq (CW.region rfl ?_)
  refine W.box rfl rfl rfl rfl rfl rfl hH0 (fun b1 zb1 w1 hH1 hB1 => ?_)
  refine W.val rfl rfl rfl (R.assign rfl rfl) (W.nil (EX.then_n (CW.seq (CW.region rfl (W.val rfl rfl rfl (R.fa0 0 rfl rfl Try.underlying226 rfl Try.sz224 rfl) (W.lgk rfl rfl rfl rfl rfl Try.pl224 (by rw [Try.underlying224]; rfl) Try.sz224 hH1 m0 hB1 rfl rfl ?_))))))
  refine W.call rfl rfl rfl rfl rfl Try.func192 Try.nm192 Try.bd192 (schema_fits2 (⟨⟨_, _, _, _, _⟩, _⟩ : GV2) _ w1 ⟨rfl, (by first | omega | decide | (dsimp only [GField.none]; omega)), (by first | omega | decide | (dsimp only [GField.none]; omega)), (by first | omega | decide | (dsimp only [GField.none]; omega)), (by first | omega | decide | (dsimp only [GField.none]; omega)), (by first | omega | decide | (dsimp only [GField.none]; omega)), (by first | omega | decide | (dsimp only [GField.none]; omega)), (by first | omega | decide | (dsimp only [GField.none]; omega)), (by first | omega | decide | (dsimp only [GField.none]; omega)), (by first | omega | decide | (dsimp only [GField.none]; omega)), (by first | omega | decide | (dsimp only [GField.none]; omega)), (by first | omega | decide | (dsimp only [GField.none]; omega)), (by first | omega | decide | (dsimp only [GField.none]; omega))⟩) ?_
  rintro v1 w2 ⟨rfl, hH2⟩
  have hH3 := hH1.c0 hH2
  refine W.val rfl rfl rfl (R.move rfl rfl) ?_
  refine W.split (d := 6) rfl (fun hc1 => ?_) (fun hc1 => ?_)
  try subst hc1
  refine W.val rfl rfl rfl (R.fa0 0 rfl rfl Try.underlying226 rfl Try.sz224 rfl) (W.val rfl rfl rfl (R.fa1 0 rfl rfl Try.underlying224 rfl Try.sz222 rfl) (W.val rfl rfl rfl (R.fa1 3 rfl rfl Try.underlying222 rfl Try.sz3 rfl) (W.ldk rfl rfl rfl rfl rfl Try.pl3 hH3 m0 hB1 rfl (W.val rfl rfl rfl (R.geq rfl rfl rfl) (W.val rfl rfl rfl (R.pick_t rfl rfl rfl) (W.val rfl rfl rfl (R.move rfl rfl) ?_))))))
  refine W.split (d := 13) rfl (fun hc2 => ?_) (fun hc2 => ?_)
  replace hc2 := of_decide_eq_true hc2
  refine W.val rfl rfl rfl (R.fa0 6 rfl rfl Try.underlying226 rfl Try.sz3 rfl) (W.ldk rfl rfl rfl rfl rfl Try.pl3 hH3 m0 hB1 rfl (W.call rfl rfl rfl rfl rfl Try.func190 Try.nm190 Try.bd190 (schema_within _ _ _ w2 ) ?_))
  rintro v2 w3 ⟨rfl, hH4⟩
  have hH5 := hH3.c0 hH4
  refine W.val rfl rfl rfl (R.pick_t rfl rfl rfl) (W.val rfl rfl rfl (R.assign rfl rfl) (W.nil (EX.then_n (CW.ret (EX.ret1 Try.results195 rfl ?_)))))
  have hH6 := hH5.f1
  have hH7 := hH6.upto1
  refine ⟨?_, hH7⟩
  refine vbool ?_
  unfold fit3
  first
    | (rw [show fit2 v_.V2 = false from hc1]; rfl)
    | (rw [show fit2 v_.V2 = true from hc1, decide_eq_false hc2]; rfl)
    | (rw [show fit2 v_.V2 = true from hc1, decide_eq_true hc2]; rfl)
  replace hc2 := of_decide_eq_false hc2
  refine W.off rfl rfl rfl (W.off rfl rfl rfl (W.off rfl rfl rfl (W.val rfl rfl rfl (R.pick_f rfl rfl rfl) (W.val rfl rfl rfl (R.assign rfl rfl) (W.nil (EX.then_n (CW.ret ?_)))))))
  refine EX.ret1 Try.results195 rfl ?_
  have hH8 := hH3.f1
  have hH9 := hH8.upto1
  refine ⟨?_, hH9⟩
  refine vbool ?_
  unfold fit3
  first
    | (rw [show fit2 v_.V2 = false from hc1]; rfl)
    | (rw [show fit2 v_.V2 = true from hc1, decide_eq_false hc2]; rfl)
    | (rw [show fit2 v_.V2 = true from hc1, decide_eq_true hc2]; rfl)
  try subst hc1
  refine W.off rfl rfl rfl (W.off rfl rfl rfl (W.off rfl rfl rfl (W.off rfl rfl rfl (W.off rfl rfl rfl (W.val rfl rfl rfl (R.pick_f rfl rfl rfl) (W.val rfl rfl rfl (R.move rfl rfl) (W.off rfl rfl rfl ?_)))))))
  refine W.off rfl rfl rfl (W.off rfl rfl rfl (W.val rfl rfl rfl (R.pick_f rfl rfl rfl) (W.val rfl rfl rfl (R.assign rfl rfl) (W.nil (EX.then_n (CW.ret (EX.ret1 Try.results195 rfl ?_)))))))
  have hH10 := hH3.f1
  have hH11 := hH10.upto1
  refine ⟨?_, hH11⟩
  refine vbool ?_
  unfold fit3
  first
    | (rw [show fit2 v_.V2 = false from hc1]; rfl)
    | (rw [show fit2 v_.V2 = true from hc1, decide_eq_false hc2]; rfl)
    | (rw [show fit2 v_.V2 = true from hc1, decide_eq_true hc2]; rfl)

end Go.Proofs.Gw
namespace Go.Proofs.Gw
open Go Go.Gw Go.Proofs Go.RowKit
set_option maxRecDepth 100000 in
set_option maxHeartbeats 1000000 in
theorem schema_plain (s : ByteArray) (w0 : World) (hs : s.size ≤ 9223372036854775807) : Calls Try.prog 202 #[.string s] w0 (Ret fun v w' => v = .bool (whoB s.data.toList) ∧ Has w0 w' [hp w0]) := by
  refine fnstart (N := 32) Try.func202 rfl Try.ntmps202 (Nat.le_of_ble_eq_true rfl) ?_
  have hH0 : Has w0 w0 [hp w0] := Has.refl w0
  refine CW.seq (CW.region rfl (W.val rfl rfl rfl (R.assign rfl rfl) (W.nil (EX.then_n (CW.seq (CW.seq (CW.region rfl ?_)))))))
  refine W.val rfl rfl rfl (R.move rfl rfl) (W.val rfl rfl rfl (R.len_string rfl rfl Try.underlying9) (W.val rfl rfl rfl (R.move rfl rfl) (W.nil (EX.then_n (CW.block ?_)))))
  obtain ⟨I1, hI1⟩ : ∃ I : Nat → List (Nat × Value) → World → Prop, I = (fun n_ D_ w_ => ∃ (k : Nat), D_ = [(7, .int .i64 (k : Int))] ∧ n_ = s.size - k ∧ Has w0 w_ [(hp w0)] ∧ (k ≤ s.size) ∧ (whoB s.data.toList = whoB (s.data.toList.drop k))) := ⟨_, rfl⟩
  refine CW.loop3 [2, 3, 4, 7, 8, 9, 10, 11, 12, 13, 14, 15, 16, 17, 18, 19, 20, 21, 22, 23, 24, 25, 26, 27, 28, 29, 30, 31] I1 _ _ ?_ (by rw [hI1]; exact ⟨0, rfl, rfl, hH0, by omega, rfl⟩) ?_
  exact ⟨lk_int rfl (by first | rfl | omega), trivial⟩
  intro n1 D w1 hn1
  rw [hI1] at hn1
  obtain ⟨k, rfl, hme1, hH1, hk, he⟩ := hn1
  refine CW.seq (CW.region rfl (W.val rfl rfl rfl (R.lss rfl rfl rfl) (W.nil (EX.then_n (CW.seq ?_)))))
  refine CW.cond rfl (fun hc1 => ?_) (fun hc1 => ?_)
  replace hc1 := of_decide_eq_true hc1
  refine CW.skip (EX.then_n (CW.seq (CW.block (CW.seq (CW.region rfl (W.val rfl rfl rfl (R.move rfl rfl) (W.val rfl rfl rfl (R.assign rfl rfl) ?_)))))))
  refine W.nil (EX.then_n (CW.seq (CW.region rfl (W.val rfl rfl rfl (R.move rfl rfl) (W.val rfl rfl rfl (R.move rfl rfl) ?_)))))
  obtain ⟨y1, hy1⟩ : ∃ y, s.data.toList[k]? = some y := ⟨_, List.getElem?_eq_getElem (by rw [show s.data.toList.length = s.size by simp]; omega)⟩
  have hlt1 := y1.toNat_lt
  refine W.val rfl rfl rfl (R.indexS rfl rfl rfl Try.underlying9 (by omega) (by first | exact hy1 | (simp only [Int.toNat_natCast]; exact hy1))) (W.val rfl rfl rfl (R.assign rfl rfl) (W.nil (EX.then_n (CW.seq (CW.region rfl (W.val rfl rfl rfl (R.move rfl rfl) (W.val rfl rfl rfl (R.neq rfl rfl rfl) ?_)))))))
  refine W.val rfl rfl rfl (R.move rfl rfl) ?_
  refine W.split (d := 15) rfl (fun hc2 => ?_) (fun hc2 => ?_)
  replace hc2 := of_ndec_t hc2
  refine W.val rfl rfl rfl (R.move rfl rfl) (W.val rfl rfl rfl (R.lss rfl rfl rfl) (W.val rfl rfl rfl (R.move rfl rfl) ?_))
  refine W.split (d := 18) rfl (fun hc3 => ?_) (fun hc3 => ?_)
  replace hc3 := of_decide_eq_true hc3
  refine W.off rfl rfl rfl (W.off rfl rfl rfl (W.val rfl rfl rfl (R.pick_t rfl rfl rfl) (W.val rfl rfl rfl (R.pick_t rfl rfl rfl) (W.val rfl rfl rfl (R.move rfl rfl) (W.val rfl rfl rfl (R.move rfl rfl) (W.val rfl rfl rfl (R.lss rfl rfl rfl) (W.val rfl rfl rfl (R.move rfl rfl) ?_)))))))
  refine W.split (d := 26) rfl (fun hc4 => ?_) (fun hc4 => ?_)
  replace hc4 := of_decide_eq_true hc4
  refine W.off rfl rfl rfl (W.off rfl rfl rfl (W.val rfl rfl rfl (R.pick_t rfl rfl rfl) (W.val rfl rfl rfl (R.pick_t rfl rfl rfl) (W.nil (EX.then_n (CW.cond_t rfl (CW.seq ?_)))))))
  refine CW.region rfl (W.val rfl rfl rfl (R.assign rfl rfl) (W.nil (EX.then_n (CW.ret (EX.blk_ret (EX.then_ret (EX.then_ret ?_)))))))
  refine EX.blk_ret (EX.then_ret (EX.ret1 Try.results202 rfl ?_))
  have hH2 := hH1.upto1
  refine ⟨?_, hH2⟩
  refine vbool ?_
  rw [he, whoB_drop hy1, decide_eq_false (by omega), Bool.false_and]
  replace hc4 := of_decide_eq_false hc4
  refine W.val rfl rfl rfl (R.move rfl rfl) (W.val rfl rfl rfl (R.gtr rfl rfl rfl) (W.val rfl rfl rfl (R.pick_f rfl rfl rfl) (W.val rfl rfl rfl (R.pick_t rfl rfl rfl) (W.nil (EX.then_n ?_)))))
  refine CW.cond rfl (fun hc5 => ?_) (fun hc5 => ?_)
  replace hc5 := of_decide_eq_true hc5
  refine CW.seq (CW.region rfl (W.val rfl rfl rfl (R.assign rfl rfl) (W.nil (EX.then_n (CW.ret (EX.blk_ret (EX.then_ret ?_)))))))
  refine EX.then_ret (EX.blk_ret (EX.then_ret (EX.ret1 Try.results202 rfl ?_)))
  have hH3 := hH1.upto1
  refine ⟨?_, hH3⟩
  refine vbool ?_
  rw [he, whoB_drop hy1, decide_eq_false (by omega), Bool.false_and]
  replace hc5 := of_decide_eq_false hc5
  refine CW.skip (EX.blk_n (EX.then_n (CW.region rfl (W.val rfl rfl rfl (R.addx rfl rfl rfl (ok_i64 (by omega))) (W.val rfl rfl rfl (R.move rfl rfl) (W.nil ?_))))))
  have hH4 := hH1.upto1
  refine EX.back4 _ _ rfl ?_ (by rw [hI1]; exact ⟨k + 1, rfl, rfl, hH4, by omega, he.trans (by rw [whoB_drop hy1, decide_eq_true (by omega), Bool.true_and])⟩) ?_
  exact ⟨lk_int rfl (by first | rfl | omega), trivial⟩
  omega
  replace hc3 := of_decide_eq_false hc3
  refine W.val rfl rfl rfl (R.move rfl rfl) (W.val rfl rfl rfl (R.gtr rfl rfl rfl) (W.val rfl rfl rfl (R.pick_f rfl rfl rfl) (W.val rfl rfl rfl (R.pick_t rfl rfl rfl) (W.val rfl rfl rfl (R.move rfl rfl) ?_))))
  refine W.split (d := 23) rfl (fun hc6 => ?_) (fun hc6 => ?_)
  replace hc6 := of_decide_eq_true hc6
  refine W.val rfl rfl rfl (R.move rfl rfl) (W.val rfl rfl rfl (R.lss rfl rfl rfl) (W.val rfl rfl rfl (R.move rfl rfl) ?_))
  refine W.split (d := 26) rfl (fun hc7 => ?_) (fun hc7 => ?_)
  replace hc7 := of_decide_eq_true hc7
  refine W.off rfl rfl rfl (W.off rfl rfl rfl (W.val rfl rfl rfl (R.pick_t rfl rfl rfl) (W.val rfl rfl rfl (R.pick_t rfl rfl rfl) (W.nil (EX.then_n (CW.cond_t rfl (CW.seq ?_)))))))
  refine CW.region rfl (W.val rfl rfl rfl (R.assign rfl rfl) (W.nil (EX.then_n (CW.ret (EX.blk_ret (EX.then_ret (EX.then_ret ?_)))))))
  refine EX.blk_ret (EX.then_ret (EX.ret1 Try.results202 rfl ?_))
  have hH5 := hH1.upto1
  refine ⟨?_, hH5⟩
  refine vbool ?_
  rw [he, whoB_drop hy1, decide_eq_false (by omega), Bool.false_and]
  replace hc7 := of_decide_eq_false hc7
  refine W.val rfl rfl rfl (R.move rfl rfl) (W.val rfl rfl rfl (R.gtr rfl rfl rfl) (W.val rfl rfl rfl (R.pick_f rfl rfl rfl) (W.val rfl rfl rfl (R.pick_t rfl rfl rfl) (W.nil (EX.then_n ?_)))))
  refine CW.cond rfl (fun hc8 => ?_) (fun hc8 => ?_)
  replace hc8 := of_decide_eq_true hc8
  refine CW.seq (CW.region rfl (W.val rfl rfl rfl (R.assign rfl rfl) (W.nil (EX.then_n (CW.ret (EX.blk_ret (EX.then_ret ?_)))))))
  refine EX.then_ret (EX.blk_ret (EX.then_ret (EX.ret1 Try.results202 rfl ?_)))
  have hH6 := hH1.upto1
  refine ⟨?_, hH6⟩
  refine vbool ?_
  rw [he, whoB_drop hy1, decide_eq_false (by omega), Bool.false_and]
  replace hc8 := of_decide_eq_false hc8
  refine CW.skip (EX.blk_n (EX.then_n (CW.region rfl (W.val rfl rfl rfl (R.addx rfl rfl rfl (ok_i64 (by omega))) (W.val rfl rfl rfl (R.move rfl rfl) (W.nil ?_))))))
  have hH7 := hH1.upto1
  refine EX.back4 _ _ rfl ?_ (by rw [hI1]; exact ⟨k + 1, rfl, rfl, hH7, by omega, he.trans (by rw [whoB_drop hy1, decide_eq_true (by omega), Bool.true_and])⟩) ?_
  exact ⟨lk_int rfl (by first | rfl | omega), trivial⟩
  omega
  replace hc6 := of_decide_eq_false hc6
  refine W.off rfl rfl rfl (W.off rfl rfl rfl (W.off rfl rfl rfl (W.off rfl rfl rfl (W.off rfl rfl rfl (W.off rfl rfl rfl (W.val rfl rfl rfl (R.pick_f rfl rfl rfl) (W.nil ?_)))))))
  refine EX.then_n (CW.cond_f rfl (CW.skip (EX.blk_n (EX.then_n (CW.region rfl (W.val rfl rfl rfl (R.addx rfl rfl rfl (ok_i64 (by omega))) (W.val rfl rfl rfl (R.move rfl rfl) ?_)))))))
  refine W.nil ?_
  have hH8 := hH1.upto1
  refine EX.back4 _ _ rfl ?_ (by rw [hI1]; exact ⟨k + 1, rfl, rfl, hH8, by omega, he.trans (by rw [whoB_drop hy1, decide_eq_true (by omega), Bool.true_and])⟩) ?_
  exact ⟨lk_int rfl (by first | rfl | omega), trivial⟩
  omega
  replace hc2 := of_ndec_f hc2
  refine W.off rfl rfl rfl (W.off rfl rfl rfl (W.off rfl rfl rfl (W.off rfl rfl rfl (W.off rfl rfl rfl (W.off rfl rfl rfl (W.val rfl rfl rfl (R.pick_f rfl rfl rfl) (W.val rfl rfl rfl (R.move rfl rfl) ?_)))))))
  refine W.off rfl rfl rfl (W.off rfl rfl rfl (W.off rfl rfl rfl (W.off rfl rfl rfl (W.off rfl rfl rfl (W.off rfl rfl rfl (W.val rfl rfl rfl (R.pick_f rfl rfl rfl) (W.nil ?_)))))))
  refine EX.then_n (CW.cond_f rfl (CW.skip (EX.blk_n (EX.then_n (CW.region rfl (W.val rfl rfl rfl (R.addx rfl rfl rfl (ok_i64 (by omega))) (W.val rfl rfl rfl (R.move rfl rfl) ?_)))))))
  refine W.nil ?_
  have hH9 := hH1.upto1
  refine EX.back4 _ _ rfl ?_ (by rw [hI1]; exact ⟨k + 1, rfl, rfl, hH9, by omega, he.trans (by rw [whoB_drop hy1, decide_eq_true (by omega), Bool.true_and])⟩) ?_
  exact ⟨lk_int rfl (by first | rfl | omega), trivial⟩
  omega
  replace hc1 := of_decide_eq_false hc1
  refine CW.exit (EX.then_exit (EX.then_exit (EX.blk_here (EX.then_n (CW.seq (CW.region rfl (W.val rfl rfl rfl (R.assign rfl rfl) ?_)))))))
  refine W.nil (EX.then_n (CW.ret (EX.ret1 Try.results202 rfl ?_)))
  have hH10 := hH1.upto1
  refine ⟨?_, hH10⟩
  refine vbool ?_
  rw [he, List.drop_of_length_le (by simp; omega)]; rfl

end Go.Proofs.Gw
namespace Go.Proofs.Gw
open Go Go.Gw Go.Proofs Go.RowKit
set_option maxRecDepth 100000 in
set_option maxHeartbeats 1000000 in
theorem schema_fits4 (v_ : GV4) (csv_ : List Value) (w0 : World) (hv_ : kV4.K (hp w0) v_ csv_) : Calls Try.prog 199 #[.agg csv_.toArray] w0 (Ret fun v w' => v = .bool (fit4 v_) ∧ Has w0 w' [hp w0]) := by
  refine fnstart (N := 11) Try.func199 rfl Try.ntmps199 (Nat.le_of_ble_eq_true rfl) ?_
  have hH0 : Has w0 w0 [hp w0] := Has.refl w0
  have hK1 := hv_
  obtain ⟨rfl, hb1, hb2, hb3, hb4, hb5, hb6, hb7, hb8, hb9, hb10, hb11, hb12, hb13, hb14, hb15⟩ := hK1
  refine CW.seq (CW.region rfl ?_)
  refine W.box rfl rfl rfl rfl rfl rfl hH0 (fun b1 zb1 w1 hH1 hB1 => ?_)
  refine W.val rfl rfl rfl (R.assign rfl rfl) (W.nil (EX.then_n (CW.seq (CW.region rfl (W.val rfl rfl rfl (R.fa0 0 rfl rfl Try.underlying228 rfl Try.sz226 rfl) (W.lgk rfl rfl rfl rfl rfl Try.pl226 (by rw [Try.underlying226]; rfl) Try.sz226 hH1 m0 hB1 rfl rfl ?_))))))
  refine W.call rfl rfl rfl rfl rfl Try.func195 Try.nm195 Try.bd195 (schema_fits3 (⟨⟨⟨_, _, _, _, _⟩, _⟩, _⟩ : GV3) _ w1 ⟨rfl, (by first | omega | decide | (dsimp only [GField.none]; omega)), (by first | omega | decide | (dsimp only [GField.none]; omega)), (by first | omega | decide | (dsimp only [GField.none]; omega)), (by first | omega | decide | (dsimp only [GField.none]; omega)), (by first | omega | decide | (dsimp only [GField.none]; omega)), (by first | omega | decide | (dsimp only [GField.none]; omega)), (by first | omega | decide | (dsimp only [GField.none]; omega)), (by first | omega | decide | (dsimp only [GField.none]; omega)), (by first | omega | decide | (dsimp only [GField.none]; omega)), (by first | omega | decide | (dsimp only [GField.none]; omega)), (by first | omega | decide | (dsimp only [GField.none]; omega)), (by first | omega | decide | (dsimp only [GField.none]; omega)), (by first | omega | decide | (dsimp only [GField.none]; omega)), (by first | omega | decide | (dsimp only [GField.none]; omega))⟩) ?_
  rintro v1 w2 ⟨rfl, hH2⟩
  have hH3 := hH1.c0 hH2
  refine W.val rfl rfl rfl (R.move rfl rfl) ?_
  refine W.split (d := 6) rfl (fun hc1 => ?_) (fun hc1 => ?_)
  try subst hc1
  refine W.val rfl rfl rfl (R.fa0 7 rfl rfl Try.underlying228 rfl Try.sz9 rfl) (W.ldk rfl rfl rfl rfl rfl Try.pl9 hH3 m0 hB1 rfl (W.call rfl rfl rfl rfl rfl Try.func202 Try.nm202 Try.bd202 (schema_plain _ w2 hb15) ?_))
  rintro v2 w3 ⟨rfl, hH4⟩
  have hH5 := hH3.c0 hH4
  refine W.val rfl rfl rfl (R.pick_t rfl rfl rfl) (W.val rfl rfl rfl (R.assign rfl rfl) (W.nil (EX.then_n (CW.ret (EX.ret1 Try.results199 rfl ?_)))))
  have hH6 := hH5.f1
  have hH7 := hH6.upto1
  refine ⟨?_, hH7⟩
  refine vbool ?_
  unfold fit4
  first
    | (rw [show fit3 v_.V3 = false from hc1]; rfl)
    | (rw [show fit3 v_.V3 = true from hc1]; rfl)
  try subst hc1
  refine W.off rfl rfl rfl (W.off rfl rfl rfl (W.off rfl rfl rfl (W.val rfl rfl rfl (R.pick_f rfl rfl rfl) (W.val rfl rfl rfl (R.assign rfl rfl) (W.nil (EX.then_n (CW.ret ?_)))))))
  refine EX.ret1 Try.results199 rfl ?_
  have hH8 := hH3.f1
  have hH9 := hH8.upto1
  refine ⟨?_, hH9⟩
  refine vbool ?_
  unfold fit4
  first
    | (rw [show fit3 v_.V3 = false from hc1]; rfl)
    | (rw [show fit3 v_.V3 = true from hc1]; rfl)

end Go.Proofs.Gw
namespace Go.Proofs.Gw
open Go Go.Gw Go.Proofs Go.RowKit
set_option maxRecDepth 100000 in
set_option maxHeartbeats 1000000 in
theorem schema_fits5 (v_ : GV5) (csv_ : List Value) (w0 : World) (hv_ : kV5.K (hp w0) v_ csv_) : Calls Try.prog 204 #[.agg csv_.toArray] w0 (Ret fun v w' => v = .bool (fit5 v_) ∧ Has w0 w' [hp w0]) := by
  refine fnstart (N := 11) Try.func204 rfl Try.ntmps204 (Nat.le_of_ble_eq_true rfl) ?_
  have hH0 : Has w0 w0 [hp w0] := Has.refl w0
  have hK1 := hv_
  obtain ⟨rfl, hb1, hb2, hb3, hb4, hb5, hb6, hb7, hb8, hb9, hb10, hb11, hb12, hb13, hb14, hb15, hb16, hb17, hb18⟩ := hK1
  refine CW.seq (CW.region rfl ?_)
  refine W.box rfl rfl rfl rfl rfl rfl hH0 (fun b1 zb1 w1 hH1 hB1 => ?_)
  refine W.val rfl rfl rfl (R.assign rfl rfl) (W.nil (EX.then_n (CW.seq (CW.region rfl (W.val rfl rfl rfl (R.fa0 0 rfl rfl Try.underlying230 rfl Try.sz228 rfl) (W.lgk rfl rfl rfl rfl rfl Try.pl228 (by rw [Try.underlying228]; rfl) Try.sz228 hH1 m0 hB1 rfl rfl ?_))))))
  refine W.call rfl rfl rfl rfl rfl Try.func199 Try.nm199 Try.bd199 (schema_fits4 (⟨⟨⟨⟨_, _, _, _, _⟩, _⟩, _⟩, _⟩ : GV4) _ w1 ⟨rfl, (by first | omega | decide | (dsimp only [GField.none]; omega)), (by first | omega | decide | (dsimp only [GField.none]; omega)), (by first | omega | decide | (dsimp only [GField.none]; omega)), (by first | omega | decide | (dsimp only [GField.none]; omega)), (by first | omega | decide | (dsimp only [GField.none]; omega)), (by first | omega | decide | (dsimp only [GField.none]; omega)), (by first | omega | decide | (dsimp only [GField.none]; omega)), (by first | omega | decide | (dsimp only [GField.none]; omega)), (by first | omega | decide | (dsimp only [GField.none]; omega)), (by first | omega | decide | (dsimp only [GField.none]; omega)), (by first | omega | decide | (dsimp only [GField.none]; omega)), (by first | omega | decide | (dsimp only [GField.none]; omega)), (by first | omega | decide | (dsimp only [GField.none]; omega)), (by first | omega | decide | (dsimp only [GField.none]; omega)), hb15⟩) ?_
  rintro v1 w2 ⟨rfl, hH2⟩
  have hH3 := hH1.c0 hH2
  refine W.val rfl rfl rfl (R.move rfl rfl) ?_
  refine W.split (d := 6) rfl (fun hc1 => ?_) (fun hc1 => ?_)
  try subst hc1
  refine W.val rfl rfl rfl (R.fa0 8 rfl rfl Try.underlying230 rfl Try.sz3 rfl) (W.ldk rfl rfl rfl rfl rfl Try.pl3 hH3 m0 hB1 rfl (W.call rfl rfl rfl rfl rfl Try.func190 Try.nm190 Try.bd190 (schema_within _ _ _ w2 ) ?_))
  rintro v2 w3 ⟨rfl, hH4⟩
  have hH5 := hH3.c0 hH4
  refine W.val rfl rfl rfl (R.pick_t rfl rfl rfl) (W.val rfl rfl rfl (R.assign rfl rfl) (W.nil (EX.then_n (CW.ret (EX.ret1 Try.results204 rfl ?_)))))
  have hH6 := hH5.f1
  have hH7 := hH6.upto1
  refine ⟨?_, hH7⟩
  refine vbool ?_
  unfold fit5
  first
    | (rw [show fit4 v_.V4 = false from hc1]; rfl)
    | (rw [show fit4 v_.V4 = true from hc1]; rfl)
  try subst hc1
  refine W.off rfl rfl rfl (W.off rfl rfl rfl (W.off rfl rfl rfl (W.val rfl rfl rfl (R.pick_f rfl rfl rfl) (W.val rfl rfl rfl (R.assign rfl rfl) (W.nil (EX.then_n (CW.ret ?_)))))))
  refine EX.ret1 Try.results204 rfl ?_
  have hH8 := hH3.f1
  have hH9 := hH8.upto1
  refine ⟨?_, hH9⟩
  refine vbool ?_
  unfold fit5
  first
    | (rw [show fit4 v_.V4 = false from hc1]; rfl)
    | (rw [show fit4 v_.V4 = true from hc1]; rfl)

end Go.Proofs.Gw
namespace Go.Proofs.Gw
open Go Go.Gw Go.Proofs Go.RowKit
set_option maxRecDepth 100000 in
set_option maxHeartbeats 1000000 in
theorem schema_last5 (v_ : GV5) (csv_ : List Value) (w0 : World) (hv_ : kV5.K (hp w0) v_ csv_) : Calls Try.prog 205 #[.agg csv_.toArray] w0 (Ret fun v w' => v = .int .i64 (10) ∧ Has w0 w' [hp w0]) := by
  refine fnstart (N := 3) Try.func205 rfl Try.ntmps205 (Nat.le_of_ble_eq_true rfl) ?_
  have hH0 : Has w0 w0 [hp w0] := Has.refl w0
  have hK1 := hv_
  obtain ⟨rfl, hb1, hb2, hb3, hb4, hb5, hb6, hb7, hb8, hb9, hb10, hb11, hb12, hb13, hb14, hb15, hb16, hb17, hb18⟩ := hK1
  refine CW.seq (CW.region rfl ?_)
  refine W.box rfl rfl rfl rfl rfl rfl hH0 (fun b1 zb1 w1 hH1 hB1 => ?_)
  refine W.val rfl rfl rfl (R.assign rfl rfl) (W.nil (EX.then_n (CW.seq (CW.region rfl (W.val rfl rfl rfl (R.assign rfl rfl) (W.nil (EX.then_n ?_)))))))
  refine CW.ret (EX.ret1 Try.results205 rfl ?_)
  have hH2 := hH1.f1
  have hH3 := hH2.upto1
  refine ⟨?_, hH3⟩
  rfl

end Go.Proofs.Gw
namespace Go.Proofs.Gw
open Go Go.Gw Go.Proofs Go.RowKit
set_option maxRecDepth 100000 in
set_option maxHeartbeats 1000000 in
theorem schema_Lift (e : GEvent) (cse : List Value) (w0 : World) (he : kEvent.K (hp w0) e cse) : Calls Try.prog 159 #[.agg cse.toArray] w0 (Ret fun v w' => ∃ (cs0 : List Value), v = .agg cs0.toArray ∧ Has w0 w' [hp w0] ∧ kV5.K emp (⟨⟨⟨⟨⟨e.Kind, e.Order, e.Item, e.Qty, e.Price⟩, e.Cur⟩, e.Tax⟩, e.Who⟩, e.Stamp, e.Note⟩) cs0) := by
  refine fnstart (N := 30) Try.func159 rfl Try.ntmps159 (Nat.le_of_ble_eq_true rfl) ?_
  have hH0 : Has w0 w0 [hp w0] := Has.refl w0
  have hK1 := he
  obtain ⟨rfl, hb1, hb2, hb3, hb4, hb5, hb6, hb7, hb8, hb9, hb10, hb11, hb12, hb13, hb14, hb15, hb16, hb17, hb18⟩ := hK1
  refine CW.seq (CW.region rfl ?_)
  refine W.box rfl rfl rfl rfl rfl rfl hH0 (fun b1 zb1 w1 hH1 hB1 => ?_)
  refine W.alloc rfl rfl rfl rfl Try.zr230 rfl hH1 (fun b2 zb2 w2 hH2 hB2 => ?_)
  refine W.nil (EX.then_n (CW.seq (CW.region rfl (W.val rfl rfl rfl (R.fa0 0 rfl rfl Try.underlying117 rfl Try.sz115 rfl) (W.ldk rfl rfl rfl rfl rfl Try.pl115 hH2 m1 hB1 rfl (W.val rfl rfl rfl (R.fa0 1 rfl rfl Try.underlying117 rfl Try.sz3 rfl) (W.ldk rfl rfl rfl rfl rfl Try.pl3 hH2 m1 hB1 rfl ?_)))))))
  refine W.val rfl rfl rfl (R.fa0 2 rfl rfl Try.underlying117 rfl Try.sz3 rfl) (W.ldk rfl rfl rfl rfl rfl Try.pl3 hH2 m1 hB1 rfl (W.val rfl rfl rfl (R.fa0 3 rfl rfl Try.underlying117 rfl Try.sz3 rfl) (W.ldk rfl rfl rfl rfl rfl Try.pl3 hH2 m1 hB1 rfl (W.val rfl rfl rfl (R.fa0 4 rfl rfl Try.underlying117 rfl Try.sz3 rfl) (W.ldk rfl rfl rfl rfl rfl Try.pl3 hH2 m1 hB1 rfl (W.val rfl rfl rfl (R.build rfl rfl Try.zr222 rfl (by rw [Try.underlying222]; rfl) Try.plc222 rfl) (W.re (d := 14) (v := .agg ([_, _, _, _, _] : List Value).toArray) rfl rfl ?_)))))))
  refine W.alloc rfl rfl rfl rfl Try.zr222 rfl hH2 (fun b3 zb3 w3 hH3 hB3 => ?_)
  refine W.sg0 rfl rfl rfl rfl rfl Try.sz222 rfl (by rfl) hH3 hB3 (fun zb4 w4 hH4 hB4 => ?_)
  refine W.nil (EX.then_n (CW.seq (CW.region rfl (W.lg0 rfl rfl rfl rfl rfl Try.pl222 (by rw [Try.underlying222]; rfl) (by exact Try.sz222) hH4 m0 hB4 (W.val rfl rfl rfl (R.fa0 5 rfl rfl Try.underlying117 rfl Try.sz3 rfl) (W.ldk rfl rfl rfl rfl rfl Try.pl3 hH4 m2 hB1 rfl (W.val rfl rfl rfl (R.build rfl rfl Try.zr224 rfl (by rw [Try.underlying224]; rfl) Try.plc224 rfl) ?_)))))))
  refine W.re (d := 18) (v := .agg ([_, _, _, _, _, _] : List Value).toArray) rfl rfl (W.val rfl rfl rfl (R.fa0 6 rfl rfl Try.underlying117 rfl Try.sz3 rfl) (W.ldk rfl rfl rfl rfl rfl Try.pl3 hH4 m2 hB1 rfl (W.val rfl rfl rfl (R.build rfl rfl Try.zr226 rfl (by rw [Try.underlying226]; rfl) Try.plc226 rfl) (W.re (d := 21) (v := .agg ([_, _, _, _, _, _, _] : List Value).toArray) rfl rfl (W.val rfl rfl rfl (R.fa0 7 rfl rfl Try.underlying117 rfl Try.sz9 rfl) (W.ldk rfl rfl rfl rfl rfl Try.pl9 hH4 m2 hB1 rfl (W.val rfl rfl rfl (R.build rfl rfl Try.zr228 rfl (by rw [Try.underlying228]; rfl) Try.plc228 rfl) ?_)))))))
  refine W.re (d := 24) (v := .agg ([_, _, _, _, _, _, _, _] : List Value).toArray) rfl rfl (W.val rfl rfl rfl (R.fa0 8 rfl rfl Try.underlying117 rfl Try.sz3 rfl) (W.ldk rfl rfl rfl rfl rfl Try.pl3 hH4 m2 hB1 rfl (W.val rfl rfl rfl (R.fa0 9 rfl rfl Try.underlying117 rfl Try.sz9 rfl) (W.ldk rfl rfl rfl rfl rfl Try.pl9 hH4 m2 hB1 rfl (W.val rfl rfl rfl (R.build rfl rfl Try.zr230 rfl (by rw [Try.underlying230]; rfl) Try.plc230 rfl) (W.re (d := 29) (v := .agg ([_, _, _, _, _, _, _, _, _, _] : List Value).toArray) rfl rfl ?_))))))
  have hH5 := hH4.f1
  refine W.sg0 rfl rfl rfl rfl rfl Try.sz230 rfl (by rfl) hH5 hB2 (fun zb5 w5 hH6 hB5 => ?_)
  refine W.nil (EX.then_n (CW.ret (EX.retV Try.results159 (.cons (.agg rfl (fun w => run_isAgg_struct Try.underlying230 w) (by exact Try.sz230) (fun k u hk => hH6.cell m0 (hB5.at_ k u hk))) RVs.nil) ?_)))
  have hH7 := hH6.f3
  have hH8 := hH7.upto1
  refine ⟨_, ?_, hH8, ⟨rfl, (by first | omega | decide | (dsimp only [GField.none]; omega)), (by first | omega | decide | (dsimp only [GField.none]; omega)), (by first | omega | decide | (dsimp only [GField.none]; omega)), (by first | omega | decide | (dsimp only [GField.none]; omega)), (by first | omega | decide | (dsimp only [GField.none]; omega)), (by first | omega | decide | (dsimp only [GField.none]; omega)), (by first | omega | decide | (dsimp only [GField.none]; omega)), (by first | omega | decide | (dsimp only [GField.none]; omega)), (by first | omega | decide | (dsimp only [GField.none]; omega)), (by first | omega | decide | (dsimp only [GField.none]; omega)), (by first | omega | decide | (dsimp only [GField.none]; omega)), (by first | omega | decide | (dsimp only [GField.none]; omega)), (by first | omega | decide | (dsimp only [GField.none]; omega)), (by first | omega | decide | (dsimp only [GField.none]; omega)), hb15, (by first | omega | decide | (dsimp only [GField.none]; omega)), (by first | omega | decide | (dsimp only [GField.none]; omega)), hb18⟩⟩
  rfl

end Go.Proofs.Gw
namespace Go.Proofs.Gw
open Go Go.Gw Go.Proofs Go.RowKit
set_option maxRecDepth 100000 in
set_option maxHeartbeats 1000000 in
theorem schema_typed (v_ : Int) (e : GEvent) (cse : List Value) (w0 : World) (he : kEvent.K (hp w0) e cse) (hv : v_ = 5) : Calls Try.prog 145 #[.int .i64 v_, .agg cse.toArray] w0 (Ret fun v w' => ∃ (cs0 : List Value), v = .iface 230 (.agg cs0.toArray) ∧ Has w0 w' [hp w0] ∧ kV5.K emp (⟨⟨⟨⟨⟨e.Kind, e.Order, e.Item, e.Qty, e.Price⟩, e.Cur⟩, e.Tax⟩, e.Who⟩, e.Stamp, e.Note⟩) cs0) := by
  refine fnstart (N := 39) Try.func145 rfl Try.ntmps145 (Nat.le_of_ble_eq_true rfl) ?_
  have hH0 : Has w0 w0 [hp w0] := Has.refl w0
  have hK1 := he
  obtain ⟨rfl, hb1, hb2, hb3, hb4, hb5, hb6, hb7, hb8, hb9, hb10, hb11, hb12, hb13, hb14, hb15, hb16, hb17, hb18⟩ := hK1
  subst hv
  refine CW.seq (CW.region rfl ?_)
  refine W.box rfl rfl rfl rfl rfl rfl hH0 (fun b1 zb1 w1 hH1 hB1 => ?_)
  refine W.val rfl rfl rfl (R.assign rfl rfl) (W.nil (EX.then_n (CW.seq (CW.region rfl (W.lg0 rfl rfl rfl rfl rfl Try.pl117 (by rw [Try.underlying117]; rfl) (by exact Try.sz117) hH1 m0 hB1 (W.call rfl rfl rfl rfl rfl Try.func159 Try.nm159 Try.bd159 (schema_Lift e _ w1 (he.mono (hH1.le m1))) ?_))))))
  rintro v1 w2 ⟨cs01, rfl, hH2, hK01⟩
  have hH3 := hH1.c0 hH2
  have hK2 := hK01
  obtain ⟨rfl, hb19, hb20, hb21, hb22, hb23, hb24, hb25, hb26, hb27, hb28, hb29, hb30, hb31, hb32, hb33, hb34, hb35, hb36⟩ := hK2
  refine W.alloc rfl rfl rfl rfl Try.zr230 rfl hH3 (fun b2 zb2 w3 hH4 hB2 => ?_)
  refine W.sg0 rfl rfl rfl rfl rfl Try.sz230 rfl (by rfl) hH4 hB2 (fun zb3 w4 hH5 hB3 => ?_)
  refine W.nil (EX.then_n (CW.seq (CW.seq (CW.region rfl (W.val rfl rfl rfl (R.move rfl rfl) (W.nil (EX.then_n ?_)))))))
  refine CW.block (CW.seq (CW.region rfl (W.val rfl rfl rfl (R.eql rfl rfl rfl) (W.val rfl rfl rfl (R.assign rfl rfl) (W.nil (EX.then_n ?_))))))
  refine CW.cond rfl (fun hc1 => ?_) (fun hc1 => ?_)
  replace hc1 := of_decide_eq_true hc1
  exfalso
  omega
  replace hc1 := of_decide_eq_false hc1
  refine CW.seq (CW.region rfl (W.val rfl rfl rfl (R.eql rfl rfl rfl) (W.val rfl rfl rfl (R.assign rfl rfl) (W.nil (EX.then_n ?_)))))
  refine CW.cond rfl (fun hc2 => ?_) (fun hc2 => ?_)
  replace hc2 := of_decide_eq_true hc2
  exfalso
  omega
  replace hc2 := of_decide_eq_false hc2
  refine CW.seq (CW.region rfl (W.val rfl rfl rfl (R.eql rfl rfl rfl) (W.val rfl rfl rfl (R.assign rfl rfl) (W.nil (EX.then_n ?_)))))
  refine CW.cond rfl (fun hc3 => ?_) (fun hc3 => ?_)
  replace hc3 := of_decide_eq_true hc3
  exfalso
  omega
  replace hc3 := of_decide_eq_false hc3
  refine CW.seq (CW.region rfl (W.val rfl rfl rfl (R.eql rfl rfl rfl) (W.val rfl rfl rfl (R.assign rfl rfl) (W.nil (EX.then_n ?_)))))
  refine CW.cond rfl (fun hc4 => ?_) (fun hc4 => ?_)
  replace hc4 := of_decide_eq_true hc4
  exfalso
  omega
  replace hc4 := of_decide_eq_false hc4
  refine CW.seq (CW.region rfl (W.val rfl rfl rfl (R.eql rfl rfl rfl) (W.val rfl rfl rfl (R.assign rfl rfl) (W.nil (EX.then_n ?_)))))
  refine CW.cond rfl (fun hc5 => ?_) (fun hc5 => ?_)
  replace hc5 := of_decide_eq_true hc5
  refine CW.seq (CW.region rfl (W.lg0 rfl rfl rfl rfl rfl Try.pl230 (by rw [Try.underlying230]; rfl) (by exact Try.sz230) hH5 m0 hB3 (W.val rfl rfl rfl (R.makeInterface rfl rfl Try.underlying230 rfl) (W.val rfl rfl rfl (R.assign rfl rfl) (W.nil (EX.then_n (CW.ret ?_)))))))
  refine EX.blk_ret (EX.then_ret (EX.ret1 Try.results145 rfl ?_))
  have hH6 := hH5.f2
  have hH7 := hH6.upto1
  refine ⟨_, ?_, hH7, hK01⟩
  rfl
  replace hc5 := of_decide_eq_false hc5
  exfalso
  omega

end Go.Proofs.Gw
namespace Go.Proofs.Gw
open Go Go.Gw Go.Proofs Go.RowKit
set_option maxRecDepth 100000 in
set_option maxHeartbeats 1000000 in
theorem schema_Check (v_ : Int) (e : GEvent) (cse : List Value) (w0 : World) (he : kEvent.K (hp w0) e cse) (hv : v_ = 5) : Calls Try.prog 110 #[.int .i64 v_, .agg cse.toArray] w0 (Ret fun v w' => v = .int .i64 (checkE 5 e) ∧ Has w0 w' [hp w0]) := by
  refine fnstart (N := 44) Try.func110 rfl Try.ntmps110 (Nat.le_of_ble_eq_true rfl) ?_
  have hH0 : Has w0 w0 [hp w0] := Has.refl w0
  have hK1 := he
  obtain ⟨rfl, hb1, hb2, hb3, hb4, hb5, hb6, hb7, hb8, hb9, hb10, hb11, hb12, hb13, hb14, hb15, hb16, hb17, hb18⟩ := hK1
  subst hv
  have h5 : lastE 5 = 10 := rfl
  have hfl := fit5_lift e
  refine CW.seq (CW.region rfl ?_)
  refine W.box rfl rfl rfl rfl rfl rfl hH0 (fun b1 zb1 w1 hH1 hB1 => ?_)
  refine W.val rfl rfl rfl (R.assign rfl rfl) (W.nil (EX.then_n (CW.seq (CW.region rfl (W.val rfl rfl rfl (R.move rfl rfl) (W.lg0 rfl rfl rfl rfl rfl Try.pl117 (by rw [Try.underlying117]; rfl) (by exact Try.sz117) hH1 m0 hB1 (W.call rfl rfl rfl rfl rfl Try.func145 Try.nm145 Try.bd145 (schema_typed _ e _ w1 (he.mono (hH1.le m1)) rfl) ?_)))))))
  rintro v1 w2 ⟨cs01, rfl, hH2, hK01⟩
  have hH3 := hH1.c0 hH2
  have hK2 := hK01
  obtain ⟨rfl, hb19, hb20, hb21, hb22, hb23, hb24, hb25, hb26, hb27, hb28, hb29, hb30, hb31, hb32, hb33, hb34, hb35, hb36⟩ := hK2
  refine W.val rfl rfl rfl (R.assign rfl rfl) (W.nil (EX.then_n (CW.seq (CW.block (CW.seq (CW.region rfl (W.val rfl rfl rfl (R.move rfl rfl) ?_)))))))
  refine W.val rfl rfl rfl (R.ifeql rfl rfl rfl Try.underlying206) (W.val rfl rfl rfl (R.assign rfl rfl) (W.nil (EX.then_n (CW.cond_f rfl (CW.seq ?_)))))
  have hH4 := hH3.drew
  refine CW.draw (fun w => Sub zb1 w ∧ True) [] #[false, false, false, false, false, false, false, false, false, false, false] Try.mixed rfl rfl ⟨hH4.sub _ m0, trivial⟩ (WA.pure (i := 0) #[true, false, false, false, false, false, false, false, false, false, false] (blind_then (blind_blk (blind_then (blind_body _ _)))) rfl (by kernel_rfl) rfl rfl rfl (fun _ => R.fa0 0 rfl rfl Try.underlying117 rfl Try.sz115 rfl) (WA.take (i := 1) #[true, true, false, false, false, false, false, false, false, false, false] (blind_then (blind_blk (blind_then (blind_body _ _)))) rfl (by kernel_rfl) rfl rfl rfl (fun _ hw => R.load rfl rfl Try.pl115 (cellz_le hw.1 (hB1.at_ 0 _ rfl))) ⟨hH4.sub _ m0, trivial⟩ (WA.pure (i := 2) #[true, true, true, false, false, false, false, false, false, false, false] (blind_then (blind_blk (blind_then (blind_body _ _)))) rfl (by kernel_rfl) rfl rfl rfl (fun _ => R.lss rfl rfl rfl) (WA.pure (i := 3) #[true, true, true, true, false, false, false, false, false, false, false] (blind_then (blind_blk (blind_then (blind_body _ _)))) rfl (by kernel_rfl) rfl rfl rfl (fun _ => R.move rfl rfl) ?_))))
  refine WA.split (d := 16) rfl (fun hc1 => ?_) (fun hc1 => ?_)
  replace hc1 := of_decide_eq_true hc1
  refine WA.off (i := 4) #[true, true, true, true, true, false, false, false, false, false, false] (blind_then (blind_blk (blind_then (blind_body _ _)))) rfl (by kernel_rfl) rfl rfl rfl (WA.off (i := 5) #[true, true, true, true, true, true, false, false, false, false, false] (blind_then (blind_blk (blind_then (blind_body _ _)))) rfl (by kernel_rfl) rfl rfl rfl (WA.off (i := 6) #[true, true, true, true, true, true, true, false, false, false, false] (blind_then (blind_blk (blind_then (blind_body _ _)))) rfl (by kernel_rfl) rfl rfl rfl (WA.one (i := 7) #[true, true, true, true, true, true, true, true, false, false, false] rfl (by kernel_rfl) rfl (W.off rfl rfl rfl (W.nil (EX.wa ⟨hH4.sub _ m0, trivial⟩ (WA.off (i := 8) #[true, true, true, true, true, true, true, true, true, false, false] (blind_then (blind_blk (blind_then (blind_body _ _)))) rfl (by kernel_rfl) rfl rfl rfl ?_)))))))
  refine WA.pure (i := 9) #[true, true, true, true, true, true, true, true, true, true, false] (blind_then (blind_blk (blind_then (blind_body _ _)))) rfl (by kernel_rfl) rfl rfl rfl (fun _ => R.pick_t rfl rfl rfl) (WA.pure (i := 10) #[true, true, true, true, true, true, true, true, true, true, true] (blind_then (blind_blk (blind_then (blind_body _ _)))) rfl (by kernel_rfl) rfl rfl rfl (fun _ => R.assign rfl rfl) (WA.done (by kernel_rfl) (EX.then_n (CW.cond_t rfl (CW.seq (CW.region rfl (W.val rfl rfl rfl (R.assign rfl rfl) ?_)))))))
  refine W.nil (EX.then_n (CW.ret (EX.blk_ret (EX.then_ret (EX.ret1 Try.results110 rfl ?_)))))
  have hH5 := hH4.f1
  have hH6 := hH5.upto1
  refine ⟨?_, hH6⟩
  rw [checkE_31 (by omega)]
  replace hc1 := of_decide_eq_false hc1
  refine WA.pure (i := 4) #[true, true, true, true, true, false, false, false, false, false, false] (blind_then (blind_blk (blind_then (blind_body _ _)))) rfl (by kernel_rfl) rfl rfl rfl (fun _ => R.fa0 0 rfl rfl Try.underlying117 rfl Try.sz115 rfl) (WA.take (i := 5) #[true, true, true, true, true, true, false, false, false, false, false] (blind_then (blind_blk (blind_then (blind_body _ _)))) rfl (by kernel_rfl) rfl rfl rfl (fun _ hw => R.load rfl rfl Try.pl115 (cellz_le hw.1 (hB1.at_ 0 _ rfl))) ⟨hH4.sub _ m0, trivial⟩ (WA.pure (i := 6) #[true, true, true, true, true, true, true, false, false, false, false] (blind_then (blind_blk (blind_then (blind_body _ _)))) rfl (by kernel_rfl) rfl rfl rfl (fun _ => R.move rfl rfl) (WA.one (i := 7) #[true, true, true, true, true, true, true, true, false, false, false] rfl (by kernel_rfl) rfl (W.invoke rfl rfl rfl rfl rfl rfl (by kernel_rfl) Try.underlying230 Try.func205 Try.nm205 Try.bd205 (schema_last5 _ _ (w2.drew) hK01) ?_))))
  rintro v2 w3 ⟨rfl, hH7⟩
  have hH8 := hH4.c0 hH7
  refine W.nil (EX.wa ⟨hH8.sub _ m0, trivial⟩ (WA.pure (i := 8) #[true, true, true, true, true, true, true, true, true, false, false] (blind_then (blind_blk (blind_then (blind_body _ _)))) rfl (by kernel_rfl) rfl rfl rfl (fun _ => R.gtr rfl rfl rfl) (WA.pure (i := 9) #[true, true, true, true, true, true, true, true, true, true, false] (blind_then (blind_blk (blind_then (blind_body _ _)))) rfl (by kernel_rfl) rfl rfl rfl (fun _ => R.pick_f rfl rfl rfl) (WA.pure (i := 10) #[true, true, true, true, true, true, true, true, true, true, true] (blind_then (blind_blk (blind_then (blind_body _ _)))) rfl (by kernel_rfl) rfl rfl rfl (fun _ => R.assign rfl rfl) (WA.done (by kernel_rfl) (EX.then_n ?_))))))
  refine CW.cond rfl (fun hc2 => ?_) (fun hc2 => ?_)
  replace hc2 := of_decide_eq_true hc2
  refine CW.seq (CW.region rfl (W.val rfl rfl rfl (R.assign rfl rfl) (W.nil (EX.then_n (CW.ret (EX.blk_ret (EX.then_ret ?_)))))))
  refine EX.ret1 Try.results110 rfl ?_
  have hH9 := hH8.f1
  have hH10 := hH9.upto1
  refine ⟨?_, hH10⟩
  rw [checkE_31 (by omega)]
  replace hc2 := of_decide_eq_false hc2
  refine CW.seq (CW.region rfl (W.val rfl rfl rfl (R.fa0 7 rfl rfl Try.underlying117 rfl Try.sz9 rfl) (W.ldk rfl rfl rfl rfl rfl Try.pl9 hH8 m0 hB1 rfl (W.val rfl rfl rfl (R.len_string rfl rfl Try.underlying9) (W.val rfl rfl rfl (R.gtr rfl rfl rfl) (W.val rfl rfl rfl (R.move rfl rfl) ?_))))))
  refine W.split (d := 28) rfl (fun hc3 => ?_) (fun hc3 => ?_)
  replace hc3 := of_decide_eq_true hc3
  refine W.off rfl rfl rfl (W.off rfl rfl rfl (W.off rfl rfl rfl (W.off rfl rfl rfl (W.val rfl rfl rfl (R.pick_t rfl rfl rfl) (W.val rfl rfl rfl (R.assign rfl rfl) (W.nil (EX.then_n ?_)))))))
  refine CW.cond_t rfl (CW.seq (CW.region rfl (W.val rfl rfl rfl (R.assign rfl rfl) (W.nil (EX.then_n (CW.ret (EX.blk_ret ?_)))))))
  refine EX.then_ret (EX.ret1 Try.results110 rfl ?_)
  have hH11 := hH8.f1
  have hH12 := hH11.upto1
  refine ⟨?_, hH12⟩
  rw [checkE_24 (by omega) (by omega)]
  replace hc3 := of_decide_eq_false hc3
  refine W.val rfl rfl rfl (R.fa0 9 rfl rfl Try.underlying117 rfl Try.sz9 rfl) (W.ldk rfl rfl rfl rfl rfl Try.pl9 hH8 m0 hB1 rfl (W.val rfl rfl rfl (R.len_string rfl rfl Try.underlying9) (W.val rfl rfl rfl (R.gtr rfl rfl rfl) (W.val rfl rfl rfl (R.pick_f rfl rfl rfl) (W.val rfl rfl rfl (R.assign rfl rfl) (W.nil (EX.then_n ?_)))))))
  refine CW.cond rfl (fun hc4 => ?_) (fun hc4 => ?_)
  replace hc4 := of_decide_eq_true hc4
  refine CW.seq (CW.region rfl (W.val rfl rfl rfl (R.assign rfl rfl) (W.nil (EX.then_n (CW.ret (EX.blk_ret (EX.then_ret ?_)))))))
  refine EX.ret1 Try.results110 rfl ?_
  have hH13 := hH8.f1
  have hH14 := hH13.upto1
  refine ⟨?_, hH14⟩
  rw [checkE_24 (by omega) (by omega)]
  replace hc4 := of_decide_eq_false hc4
  refine CW.seq ?_
  have hH15 := hH8.drew
  refine CW.draw (fun w => Sub zb1 w ∧ True) [] #[false, false, false, false, false, false, false, false, false, false] Try.mixed rfl rfl ⟨hH15.sub _ m0, trivial⟩ (WA.pure (i := 0) #[true, false, false, false, false, false, false, false, false, false] (blind_then (blind_blk (blind_then (blind_body _ _)))) rfl (by kernel_rfl) rfl rfl rfl (fun _ => R.move rfl rfl) (WA.one (i := 1) #[true, true, false, false, false, false, false, false, false, false] rfl (by kernel_rfl) rfl (W.invoke rfl rfl rfl rfl rfl rfl (by kernel_rfl) Try.underlying230 Try.func204 Try.nm204 Try.bd204 (schema_fits5 _ _ (w3.drew) hK01) ?_)))
  rintro v3 w4 ⟨rfl, hH16⟩
  have hH17 := hH15.c0 hH16
  refine W.nil (EX.wa ⟨hH17.sub _ m0, trivial⟩ (WA.pure (i := 2) #[true, true, true, false, false, false, false, false, false, false] (blind_then (blind_blk (blind_then (blind_body _ _)))) rfl (by kernel_rfl) rfl rfl rfl (fun _ => R.not rfl rfl) (WA.pure (i := 3) #[true, true, true, true, false, false, false, false, false, false] (blind_then (blind_blk (blind_then (blind_body _ _)))) rfl (by kernel_rfl) rfl rfl rfl (fun _ => R.move rfl rfl) ?_)))
  refine WA.split (d := 38) rfl (fun hc5 => ?_) (fun hc5 => ?_)
  replace hc5 := of_not_t hc5
  try subst hc5
  have h0 : fit5 (liftE e) = false := hc5
  rw [hfl] at h0
  have hbad : ¬ (fieldsP e ∧ ((5 : Int) = 4 → e.Stamp = 0 ∧ e.Note.size = 0) ∧ whoB e.Who.data.toList = true) := fun h => by
    rw [decide_eq_true h.1, h.2.2] at h0
    cases h0
  refine WA.off (i := 4) #[true, true, true, true, true, false, false, false, false, false] (blind_then (blind_blk (blind_then (blind_body _ _)))) rfl (by kernel_rfl) rfl rfl rfl (WA.off (i := 6) #[true, true, true, true, true, false, true, false, false, false] (blind_then (blind_blk (blind_then (blind_body _ _)))) rfl (by kernel_rfl) rfl rfl rfl (WA.one (i := 5) #[true, true, true, true, true, true, true, false, false, false] rfl (by kernel_rfl) rfl (W.off rfl rfl rfl (W.nil (EX.wa ⟨hH17.sub _ m0, trivial⟩ (WA.off (i := 7) #[true, true, true, true, true, true, true, true, false, false] (blind_then (blind_blk (blind_then (blind_body _ _)))) rfl (by kernel_rfl) rfl rfl rfl (WA.pure (i := 8) #[true, true, true, true, true, true, true, true, true, false] (blind_then (blind_blk (blind_then (blind_body _ _)))) rfl (by kernel_rfl) rfl rfl rfl (fun _ => R.pick_t rfl rfl rfl) ?_)))))))
  refine WA.pure (i := 9) #[true, true, true, true, true, true, true, true, true, true] (blind_then (blind_blk (blind_then (blind_body _ _)))) rfl (by kernel_rfl) rfl rfl rfl (fun _ => R.assign rfl rfl) (WA.done (by kernel_rfl) (EX.then_n (CW.cond_t rfl (CW.seq (CW.region rfl (W.val rfl rfl rfl (R.assign rfl rfl) (W.nil ?_)))))))
  refine EX.then_n (CW.ret (EX.blk_ret (EX.then_ret (EX.ret1 Try.results110 rfl ?_))))
  have hH18 := hH17.f1
  have hH19 := hH18.upto1
  refine ⟨?_, hH19⟩
  rw [checkE_32 (by omega) (by omega) hbad]
  replace hc5 := of_not_f hc5
  try subst hc5
  have h0 : fit5 (liftE e) = true := hc5
  rw [hfl, Bool.and_eq_true, decide_eq_true_eq] at h0
  have hgood := h0
  refine WA.pure (i := 4) #[true, true, true, true, true, false, false, false, false, false] (blind_then (blind_blk (blind_then (blind_body _ _)))) rfl (by kernel_rfl) rfl rfl rfl (fun _ => R.move rfl rfl) (WA.take (i := 6) #[true, true, true, true, true, false, true, false, false, false] (blind_then (blind_blk (blind_then (blind_body _ _)))) rfl (by kernel_rfl) rfl rfl rfl (fun _ hw => R.loadAgg rfl rfl (run_isAgg_struct Try.underlying117) (by exact Try.sz117) (hB1.at_.le hw.1)) ⟨hH17.sub _ m0, trivial⟩ (WA.one (i := 5) #[true, true, true, true, true, true, true, false, false, false] rfl (by kernel_rfl) rfl (W.invoke rfl rfl rfl rfl rfl rfl (by kernel_rfl) Try.underlying230 Try.func203 Try.nm203 Try.bd203 (schema_ev5 _ _ w4 hK01) ?_)))
  rintro v4 w5 ⟨cs02, rfl, hH20, hK02⟩
  have hH21 := hH17.c0 hH20
  have hK3 := hK02
  obtain ⟨rfl, hb37, hb38, hb39, hb40, hb41, hb42, hb43, hb44, hb45, hb46, hb47, hb48, hb49, hb50, hb51, hb52, hb53, hb54⟩ := hK3
  refine W.nil (EX.wa ⟨hH21.sub _ m0, trivial⟩ (WA.pure (i := 7) #[true, true, true, true, true, true, true, true, false, false] (blind_then (blind_blk (blind_then (blind_body _ _)))) rfl (by kernel_rfl) rfl rfl rfl (fun _ => R.aneq rfl rfl rfl eqg_Event (eq_Event _ _ _ _ _ _ _ _ _ _ _ _ _ _ _ _ _ _ _ _)) (WA.pure (i := 8) #[true, true, true, true, true, true, true, true, true, false] (blind_then (blind_blk (blind_then (blind_body _ _)))) rfl (by kernel_rfl) rfl rfl rfl (fun _ => R.pick_f rfl rfl rfl) (WA.pure (i := 9) #[true, true, true, true, true, true, true, true, true, true] (blind_then (blind_blk (blind_then (blind_body _ _)))) rfl (by kernel_rfl) rfl rfl rfl (fun _ => R.assign rfl rfl) (WA.done (by kernel_rfl) (EX.then_n ?_))))))
  refine CW.cond rfl (fun hc6 => ?_) (fun hc6 => ?_)
  replace hc6 := of_ndec_t hc6
  exfalso
  exact hc6 ⟨rfl, rfl, rfl, rfl, rfl, rfl, rfl, rfl, rfl, rfl⟩
  replace hc6 := of_ndec_f hc6
  refine CW.skip (EX.blk_n (EX.then_n (CW.seq (CW.region rfl (W.val rfl rfl rfl (R.assign rfl rfl) (W.nil (EX.then_n ?_)))))))
  refine CW.ret (EX.ret1 Try.results110 rfl ?_)
  have hH22 := hH21.f1
  have hH23 := hH22.upto1
  refine ⟨?_, hH23⟩
  rw [checkE_0 (by omega) (by omega) hgood.1 (fun h => by omega) hgood.2]

end Go.Proofs.Gw
namespace Go.Proofs.Gw
open Go Go.Gw Go.Proofs Go.RowKit
set_option maxRecDepth 100000 in
set_option maxHeartbeats 1000000 in
theorem order_named (who : ByteArray) (w0 : World) (hwho : who.size ≤ 9223372036854775807) : Calls Try.prog 105 #[.string who] w0 (Ret fun v w' => v = .bool (nameB who) ∧ Has w0 w' [hp w0]) := by
  refine fnstart (N := 7) Try.func105 rfl Try.ntmps105 (Nat.le_of_ble_eq_true rfl) ?_
  have hH0 : Has w0 w0 [hp w0] := Has.refl w0
  refine CW.seq (CW.region rfl (W.val rfl rfl rfl (R.assign rfl rfl) (W.nil (EX.then_n (CW.seq (CW.region rfl (W.val rfl rfl rfl (R.move rfl rfl) ?_)))))))
  refine W.val rfl rfl rfl (R.build rfl rfl Try.zr117 rfl (by rw [Try.underlying117]; rfl) Try.plc117 rfl) (W.re (d := 4) (v := .agg ([_, _, _, _, _, _, _, _, _, _] : List Value).toArray) rfl rfl ?_)
  refine W.call rfl rfl rfl rfl rfl Try.func110 Try.nm110 Try.bd110 (schema_Check _ (⟨_, _, _, _, _, _, _, _, _, _⟩ : GEvent) _ w0 ⟨rfl, (by first | omega | decide | (dsimp only [GField.none]; omega)), (by first | omega | decide | (dsimp only [GField.none]; omega)), (by first | omega | decide | (dsimp only [GField.none]; omega)), (by first | omega | decide | (dsimp only [GField.none]; omega)), (by first | omega | decide | (dsimp only [GField.none]; omega)), (by first | omega | decide | (dsimp only [GField.none]; omega)), (by first | omega | decide | (dsimp only [GField.none]; omega)), (by first | omega | decide | (dsimp only [GField.none]; omega)), (by first | omega | decide | (dsimp only [GField.none]; omega)), (by first | omega | decide | (dsimp only [GField.none]; omega)), (by first | omega | decide | (dsimp only [GField.none]; omega)), (by first | omega | decide | (dsimp only [GField.none]; omega)), (by first | omega | decide | (dsimp only [GField.none]; omega)), (by first | omega | decide | (dsimp only [GField.none]; omega)), hwho, (by first | omega | decide | (dsimp only [GField.none]; omega)), (by first | omega | decide | (dsimp only [GField.none]; omega)), (Nat.le_of_ble_eq_true rfl)⟩ rfl) ?_
  rintro v1 w1 ⟨rfl, hH1⟩
  have hH2 := hH0.c0 hH1
  refine W.val rfl rfl rfl (R.eql rfl rfl rfl) (W.val rfl rfl rfl (R.assign rfl rfl) (W.nil (EX.then_n (CW.ret (EX.ret1 Try.results105 rfl ?_)))))
  have hH3 := hH2.upto1
  refine ⟨?_, hH3⟩
  refine vbool ?_
  have h := placeE_ok (v := 5) (who := who) (.inr rfl)
  show decide (checkE 5 (placeE who) = 0) = _
  cases hn : nameB who with
  | true => exact decide_eq_true (h.2 hn)
  | false => exact decide_eq_false (fun hh => by rw [h.1 hh] at hn; cases hn)

end Go.Proofs.Gw
namespace Go.Proofs.Gw
open Go Go.Gw Go.Proofs Go.RowKit
set_option maxRecDepth 100000 in
set_option maxHeartbeats 1000000 in
theorem order_bounded (s : GState) (css : List Value) (w0 : World) (hs : kState.K (hp w0) s css) : Calls Try.prog 84 #[.agg css.toArray] w0 (Ret fun v w' => v = .bool (boundB s) ∧ Has w0 w' [hp w0]) := by
  refine fnstart (N := 55) Try.func84 rfl Try.ntmps84 (Nat.le_of_ble_eq_true rfl) ?_
  have hH0 : Has w0 w0 [hp w0] := Has.refl w0
  have hK1 := hs
  obtain ⟨A1, c1, rfl, hb1, hb2, hb3, hb4, hb5, hb6, hb7, hb8, hb9, hb10, hb11, hb12, hb13, hb14, hb15, hb16, hb17, hb18, hb19, hb20, hb21, hl1, hr1⟩ := hK1
  have hlen1 := hr1.len
  refine CW.seq (CW.region rfl ?_)
  refine W.box rfl rfl rfl rfl rfl rfl hH0 (fun b1 zb1 w1 hH1 hB1 => ?_)
  refine W.val rfl rfl rfl (R.assign rfl rfl) (W.nil (EX.then_n (CW.seq (CW.region rfl (W.val rfl rfl rfl (R.fa0 0 rfl rfl Try.underlying28 rfl Try.sz3 rfl) (W.ldk rfl rfl rfl rfl rfl Try.pl3 hH1 m0 hB1 rfl (W.call rfl rfl rfl rfl rfl Try.func103 Try.nm103 Try.bd103 (order_within _ _ _ w1 ) ?_)))))))
  rintro v1 w2 ⟨rfl, hH2⟩
  have hH3 := hH1.c0 hH2
  refine W.val rfl rfl rfl (R.move rfl rfl) ?_
  refine W.split (d := 6) rfl (fun hc1 => ?_) (fun hc1 => ?_)
  replace hc1 := of_decide_eq_true hc1
  refine W.val rfl rfl rfl (R.fa0 1 rfl rfl Try.underlying28 rfl Try.sz25 rfl) (W.ldk rfl rfl rfl rfl rfl Try.pl25 hH3 m0 hB1 rfl (W.call rfl rfl rfl rfl rfl Try.func103 Try.nm103 Try.bd103 (order_within _ _ _ w2 ) ?_))
  rintro v2 w3 ⟨rfl, hH4⟩
  have hH5 := hH3.c0 hH4
  refine W.val rfl rfl rfl (R.pick_t rfl rfl rfl) (W.val rfl rfl rfl (R.move rfl rfl) ?_)
  refine W.split (d := 11) rfl (fun hc2 => ?_) (fun hc2 => ?_)
  replace hc2 := of_decide_eq_true hc2
  refine W.val rfl rfl rfl (R.fa0 3 rfl rfl Try.underlying28 rfl Try.sz3 rfl) (W.ldk rfl rfl rfl rfl rfl Try.pl3 hH5 m0 hB1 rfl (W.call rfl rfl rfl rfl rfl Try.func103 Try.nm103 Try.bd103 (order_within _ _ _ w3 ) ?_))
  rintro v3 w4 ⟨rfl, hH6⟩
  have hH7 := hH5.c0 hH6
  refine W.val rfl rfl rfl (R.pick_t rfl rfl rfl) (W.val rfl rfl rfl (R.move rfl rfl) ?_)
  refine W.split (d := 16) rfl (fun hc3 => ?_) (fun hc3 => ?_)
  replace hc3 := of_decide_eq_true hc3
  refine W.val rfl rfl rfl (R.fa0 4 rfl rfl Try.underlying28 rfl Try.sz3 rfl) (W.ldk rfl rfl rfl rfl rfl Try.pl3 hH7 m0 hB1 rfl (W.call rfl rfl rfl rfl rfl Try.func103 Try.nm103 Try.bd103 (order_within _ _ _ w4 ) ?_))
  rintro v4 w5 ⟨rfl, hH8⟩
  have hH9 := hH7.c0 hH8
  refine W.val rfl rfl rfl (R.pick_t rfl rfl rfl) (W.val rfl rfl rfl (R.move rfl rfl) ?_)
  refine W.split (d := 21) rfl (fun hc4 => ?_) (fun hc4 => ?_)
  replace hc4 := of_decide_eq_true hc4
  refine W.val rfl rfl rfl (R.fa0 5 rfl rfl Try.underlying28 rfl Try.sz26 rfl) (W.ldk rfl rfl rfl rfl rfl Try.pl26 hH9 m0 hB1 rfl (W.call rfl rfl rfl rfl rfl Try.func104 Try.nm104 Try.bd104 (order_lined _ _ _ w5 hl1 (hr1.mono (hH9.le m1))) ?_))
  rintro v5 w6 ⟨rfl, hH10⟩
  have hH11 := hH9.c0 hH10
  refine W.val rfl rfl rfl (R.pick_t rfl rfl rfl) (W.val rfl rfl rfl (R.move rfl rfl) ?_)
  refine W.split (d := 26) rfl (fun hc5 => ?_) (fun hc5 => ?_)
  try subst hc5
  refine W.val rfl rfl rfl (R.fa0 7 rfl rfl Try.underlying28 rfl Try.sz3 rfl) (W.ldk rfl rfl rfl rfl rfl Try.pl3 hH11 m0 hB1 rfl (W.val rfl rfl rfl (R.fa0 6 rfl rfl Try.underlying28 rfl Try.sz3 rfl) (W.ldk rfl rfl rfl rfl rfl Try.pl3 hH11 m0 hB1 rfl (W.call rfl rfl rfl rfl rfl Try.func103 Try.nm103 Try.bd103 (order_within _ _ _ w6 ) ?_))))
  rintro v6 w7 ⟨rfl, hH12⟩
  have hH13 := hH11.c0 hH12
  refine W.val rfl rfl rfl (R.pick_t rfl rfl rfl) (W.val rfl rfl rfl (R.move rfl rfl) ?_)
  refine W.split (d := 33) rfl (fun hc6 => ?_) (fun hc6 => ?_)
  replace hc6 := of_decide_eq_true hc6
  refine W.val rfl rfl rfl (R.fa0 8 rfl rfl Try.underlying28 rfl Try.sz3 rfl) (W.ldk rfl rfl rfl rfl rfl Try.pl3 hH13 m0 hB1 rfl (W.call rfl rfl rfl rfl rfl Try.func103 Try.nm103 Try.bd103 (order_within _ _ _ w7 ) ?_))
  rintro v7 w8 ⟨rfl, hH14⟩
  have hH15 := hH13.c0 hH14
  refine W.val rfl rfl rfl (R.pick_t rfl rfl rfl) (W.val rfl rfl rfl (R.move rfl rfl) ?_)
  refine W.split (d := 38) rfl (fun hc7 => ?_) (fun hc7 => ?_)
  replace hc7 := of_decide_eq_true hc7
  refine W.val rfl rfl rfl (R.fa0 9 rfl rfl Try.underlying28 rfl Try.sz3 rfl) (W.ldk rfl rfl rfl rfl rfl Try.pl3 hH15 m0 hB1 rfl (W.val rfl rfl rfl (R.fa0 8 rfl rfl Try.underlying28 rfl Try.sz3 rfl) (W.ldk rfl rfl rfl rfl rfl Try.pl3 hH15 m0 hB1 rfl (W.call rfl rfl rfl rfl rfl Try.func103 Try.nm103 Try.bd103 (order_within _ _ _ w8 ) ?_))))
  rintro v8 w9 ⟨rfl, hH16⟩
  have hH17 := hH15.c0 hH16
  refine W.val rfl rfl rfl (R.pick_t rfl rfl rfl) (W.val rfl rfl rfl (R.move rfl rfl) ?_)
  refine W.split (d := 45) rfl (fun hc8 => ?_) (fun hc8 => ?_)
  replace hc8 := of_decide_eq_true hc8
  refine W.val rfl rfl rfl (R.fa0 10 rfl rfl Try.underlying28 rfl Try.sz3 rfl) (W.ldk rfl rfl rfl rfl rfl Try.pl3 hH17 m0 hB1 rfl (W.call rfl rfl rfl rfl rfl Try.func103 Try.nm103 Try.bd103 (order_within _ _ _ w9 ) ?_))
  rintro v9 w10 ⟨rfl, hH18⟩
  have hH19 := hH17.c0 hH18
  refine W.val rfl rfl rfl (R.pick_t rfl rfl rfl) (W.val rfl rfl rfl (R.move rfl rfl) ?_)
  refine W.split (d := 50) rfl (fun hc9 => ?_) (fun hc9 => ?_)
  replace hc9 := of_decide_eq_true hc9
  refine W.val rfl rfl rfl (R.fa0 11 rfl rfl Try.underlying28 rfl Try.sz9 rfl) (W.ldk rfl rfl rfl rfl rfl Try.pl9 hH19 m0 hB1 rfl (W.call rfl rfl rfl rfl rfl Try.func105 Try.nm105 Try.bd105 (order_named _ w10 hb21) ?_))
  rintro v10 w11 ⟨rfl, hH20⟩
  have hH21 := hH19.c0 hH20
  refine W.val rfl rfl rfl (R.pick_t rfl rfl rfl) (W.val rfl rfl rfl (R.assign rfl rfl) (W.nil (EX.then_n (CW.ret (EX.ret1 Try.results84 rfl ?_)))))
  have hH22 := hH21.f1
  have hH23 := hH22.upto1
  refine ⟨?_, hH23⟩
  refine vbool ?_
  first
    | exact (boundB_p (by unfold boundP; omega)).symm
    | exact (boundB_l (by assumption)).symm
    | exact (boundB_go (by unfold boundP; omega) (by assumption)).symm
  replace hc9 := of_decide_eq_false hc9
  refine W.off rfl rfl rfl (W.off rfl rfl rfl (W.off rfl rfl rfl (W.val rfl rfl rfl (R.pick_f rfl rfl rfl) (W.val rfl rfl rfl (R.assign rfl rfl) (W.nil (EX.then_n (CW.ret ?_)))))))
  refine EX.ret1 Try.results84 rfl ?_
  have hH24 := hH19.f1
  have hH25 := hH24.upto1
  refine ⟨?_, hH25⟩
  refine vbool ?_
  first
    | exact (boundB_p (by unfold boundP; omega)).symm
    | exact (boundB_l (by assumption)).symm
    | exact (boundB_go (by unfold boundP; omega) (by assumption)).symm
  replace hc8 := of_decide_eq_false hc8
  refine W.off rfl rfl rfl (W.off rfl rfl rfl (W.off rfl rfl rfl (W.val rfl rfl rfl (R.pick_f rfl rfl rfl) (W.val rfl rfl rfl (R.move rfl rfl) (W.off rfl rfl rfl (W.off rfl rfl rfl (W.off rfl rfl rfl ?_)))))))
  refine W.val rfl rfl rfl (R.pick_f rfl rfl rfl) (W.val rfl rfl rfl (R.assign rfl rfl) (W.nil (EX.then_n (CW.ret (EX.ret1 Try.results84 rfl ?_)))))
  have hH26 := hH17.f1
  have hH27 := hH26.upto1
  refine ⟨?_, hH27⟩
  refine vbool ?_
  first
    | exact (boundB_p (by unfold boundP; omega)).symm
    | exact (boundB_l (by assumption)).symm
    | exact (boundB_go (by unfold boundP; omega) (by assumption)).symm
  replace hc7 := of_decide_eq_false hc7
  refine W.off rfl rfl rfl (W.off rfl rfl rfl (W.off rfl rfl rfl (W.off rfl rfl rfl (W.off rfl rfl rfl (W.val rfl rfl rfl (R.pick_f rfl rfl rfl) (W.val rfl rfl rfl (R.move rfl rfl) (W.off rfl rfl rfl ?_)))))))
  refine W.off rfl rfl rfl (W.off rfl rfl rfl (W.val rfl rfl rfl (R.pick_f rfl rfl rfl) (W.val rfl rfl rfl (R.move rfl rfl) (W.off rfl rfl rfl (W.off rfl rfl rfl (W.off rfl rfl rfl (W.val rfl rfl rfl (R.pick_f rfl rfl rfl) ?_)))))))
  refine W.val rfl rfl rfl (R.assign rfl rfl) (W.nil (EX.then_n (CW.ret (EX.ret1 Try.results84 rfl ?_))))
  have hH28 := hH15.f1
  have hH29 := hH28.upto1
  refine ⟨?_, hH29⟩
  refine vbool ?_
  first
    | exact (boundB_p (by unfold boundP; omega)).symm
    | exact (boundB_l (by assumption)).symm
    | exact (boundB_go (by unfold boundP; omega) (by assumption)).symm
  replace hc6 := of_decide_eq_false hc6
  refine W.off rfl rfl rfl (W.off rfl rfl rfl (W.off rfl rfl rfl (W.val rfl rfl rfl (R.pick_f rfl rfl rfl) (W.val rfl rfl rfl (R.move rfl rfl) (W.off rfl rfl rfl (W.off rfl rfl rfl (W.off rfl rfl rfl ?_)))))))
  refine W.off rfl rfl rfl (W.off rfl rfl rfl (W.val rfl rfl rfl (R.pick_f rfl rfl rfl) (W.val rfl rfl rfl (R.move rfl rfl) (W.off rfl rfl rfl (W.off rfl rfl rfl (W.off rfl rfl rfl (W.val rfl rfl rfl (R.pick_f rfl rfl rfl) ?_)))))))
  refine W.val rfl rfl rfl (R.move rfl rfl) (W.off rfl rfl rfl (W.off rfl rfl rfl (W.off rfl rfl rfl (W.val rfl rfl rfl (R.pick_f rfl rfl rfl) (W.val rfl rfl rfl (R.assign rfl rfl) (W.nil (EX.then_n ?_)))))))
  refine CW.ret (EX.ret1 Try.results84 rfl ?_)
  have hH30 := hH13.f1
  have hH31 := hH30.upto1
  refine ⟨?_, hH31⟩
  refine vbool ?_
  first
    | exact (boundB_p (by unfold boundP; omega)).symm
    | exact (boundB_l (by assumption)).symm
    | exact (boundB_go (by unfold boundP; omega) (by assumption)).symm
  try subst hc5
  refine W.off rfl rfl rfl (W.off rfl rfl rfl (W.off rfl rfl rfl (W.off rfl rfl rfl (W.off rfl rfl rfl (W.val rfl rfl rfl (R.pick_f rfl rfl rfl) (W.val rfl rfl rfl (R.move rfl rfl) (W.off rfl rfl rfl ?_)))))))
  refine W.off rfl rfl rfl (W.off rfl rfl rfl (W.val rfl rfl rfl (R.pick_f rfl rfl rfl) (W.val rfl rfl rfl (R.move rfl rfl) (W.off rfl rfl rfl (W.off rfl rfl rfl (W.off rfl rfl rfl (W.off rfl rfl rfl ?_)))))))
  refine W.off rfl rfl rfl (W.val rfl rfl rfl (R.pick_f rfl rfl rfl) (W.val rfl rfl rfl (R.move rfl rfl) (W.off rfl rfl rfl (W.off rfl rfl rfl (W.off rfl rfl rfl (W.val rfl rfl rfl (R.pick_f rfl rfl rfl) (W.val rfl rfl rfl (R.move rfl rfl) ?_)))))))
  refine W.off rfl rfl rfl (W.off rfl rfl rfl (W.off rfl rfl rfl (W.val rfl rfl rfl (R.pick_f rfl rfl rfl) (W.val rfl rfl rfl (R.assign rfl rfl) (W.nil (EX.then_n (CW.ret ?_)))))))
  refine EX.ret1 Try.results84 rfl ?_
  have hH32 := hH11.f1
  have hH33 := hH32.upto1
  refine ⟨?_, hH33⟩
  refine vbool ?_
  first
    | exact (boundB_p (by unfold boundP; omega)).symm
    | exact (boundB_l (by assumption)).symm
    | exact (boundB_go (by unfold boundP; omega) (by assumption)).symm
  replace hc4 := of_decide_eq_false hc4
  refine W.off rfl rfl rfl (W.off rfl rfl rfl (W.off rfl rfl rfl (W.val rfl rfl rfl (R.pick_f rfl rfl rfl) (W.val rfl rfl rfl (R.move rfl rfl) (W.off rfl rfl rfl (W.off rfl rfl rfl (W.off rfl rfl rfl ?_)))))))
  refine W.off rfl rfl rfl (W.off rfl rfl rfl (W.val rfl rfl rfl (R.pick_f rfl rfl rfl) (W.val rfl rfl rfl (R.move rfl rfl) (W.off rfl rfl rfl (W.off rfl rfl rfl (W.off rfl rfl rfl (W.val rfl rfl rfl (R.pick_f rfl rfl rfl) ?_)))))))
  refine W.val rfl rfl rfl (R.move rfl rfl) (W.off rfl rfl rfl (W.off rfl rfl rfl (W.off rfl rfl rfl (W.off rfl rfl rfl (W.off rfl rfl rfl (W.val rfl rfl rfl (R.pick_f rfl rfl rfl) (W.val rfl rfl rfl (R.move rfl rfl) ?_)))))))
  refine W.off rfl rfl rfl (W.off rfl rfl rfl (W.off rfl rfl rfl (W.val rfl rfl rfl (R.pick_f rfl rfl rfl) (W.val rfl rfl rfl (R.move rfl rfl) (W.off rfl rfl rfl (W.off rfl rfl rfl (W.off rfl rfl rfl ?_)))))))
  refine W.val rfl rfl rfl (R.pick_f rfl rfl rfl) (W.val rfl rfl rfl (R.assign rfl rfl) (W.nil (EX.then_n (CW.ret (EX.ret1 Try.results84 rfl ?_)))))
  have hH34 := hH9.f1
  have hH35 := hH34.upto1
  refine ⟨?_, hH35⟩
  refine vbool ?_
  first
    | exact (boundB_p (by unfold boundP; omega)).symm
    | exact (boundB_l (by assumption)).symm
    | exact (boundB_go (by unfold boundP; omega) (by assumption)).symm
  replace hc3 := of_decide_eq_false hc3
  refine W.off rfl rfl rfl (W.off rfl rfl rfl (W.off rfl rfl rfl (W.val rfl rfl rfl (R.pick_f rfl rfl rfl) (W.val rfl rfl rfl (R.move rfl rfl) (W.off rfl rfl rfl (W.off rfl rfl rfl (W.off rfl rfl rfl ?_)))))))
  refine W.val rfl rfl rfl (R.pick_f rfl rfl rfl) (W.val rfl rfl rfl (R.move rfl rfl) (W.off rfl rfl rfl (W.off rfl rfl rfl (W.off rfl rfl rfl (W.off rfl rfl rfl (W.off rfl rfl rfl (W.val rfl rfl rfl (R.pick_f rfl rfl rfl) ?_)))))))
  refine W.val rfl rfl rfl (R.move rfl rfl) (W.off rfl rfl rfl (W.off rfl rfl rfl (W.off rfl rfl rfl (W.val rfl rfl rfl (R.pick_f rfl rfl rfl) (W.val rfl rfl rfl (R.move rfl rfl) (W.off rfl rfl rfl (W.off rfl rfl rfl ?_)))))))
  refine W.off rfl rfl rfl (W.off rfl rfl rfl (W.off rfl rfl rfl (W.val rfl rfl rfl (R.pick_f rfl rfl rfl) (W.val rfl rfl rfl (R.move rfl rfl) (W.off rfl rfl rfl (W.off rfl rfl rfl (W.off rfl rfl rfl ?_)))))))
  refine W.val rfl rfl rfl (R.pick_f rfl rfl rfl) (W.val rfl rfl rfl (R.move rfl rfl) (W.off rfl rfl rfl (W.off rfl rfl rfl (W.off rfl rfl rfl (W.val rfl rfl rfl (R.pick_f rfl rfl rfl) (W.val rfl rfl rfl (R.assign rfl rfl) (W.nil ?_)))))))
  refine EX.then_n (CW.ret (EX.ret1 Try.results84 rfl ?_))
  have hH36 := hH7.f1
  have hH37 := hH36.upto1
  refine ⟨?_, hH37⟩
  refine vbool ?_
  first
    | exact (boundB_p (by unfold boundP; omega)).symm
    | exact (boundB_l (by assumption)).symm
    | exact (boundB_go (by unfold boundP; omega) (by assumption)).symm
  replace hc2 := of_decide_eq_false hc2
  refine W.off rfl rfl rfl (W.off rfl rfl rfl (W.off rfl rfl rfl (W.val rfl rfl rfl (R.pick_f rfl rfl rfl) (W.val rfl rfl rfl (R.move rfl rfl) (W.off rfl rfl rfl (W.off rfl rfl rfl (W.off rfl rfl rfl ?_)))))))
  refine W.val rfl rfl rfl (R.pick_f rfl rfl rfl) (W.val rfl rfl rfl (R.move rfl rfl) (W.off rfl rfl rfl (W.off rfl rfl rfl (W.off rfl rfl rfl (W.val rfl rfl rfl (R.pick_f rfl rfl rfl) (W.val rfl rfl rfl (R.move rfl rfl) (W.off rfl rfl rfl ?_)))))))
  refine W.off rfl rfl rfl (W.off rfl rfl rfl (W.off rfl rfl rfl (W.off rfl rfl rfl (W.val rfl rfl rfl (R.pick_f rfl rfl rfl) (W.val rfl rfl rfl (R.move rfl rfl) (W.off rfl rfl rfl (W.off rfl rfl rfl ?_)))))))
  refine W.off rfl rfl rfl (W.val rfl rfl rfl (R.pick_f rfl rfl rfl) (W.val rfl rfl rfl (R.move rfl rfl) (W.off rfl rfl rfl (W.off rfl rfl rfl (W.off rfl rfl rfl (W.off rfl rfl rfl (W.off rfl rfl rfl ?_)))))))
  refine W.val rfl rfl rfl (R.pick_f rfl rfl rfl) (W.val rfl rfl rfl (R.move rfl rfl) (W.off rfl rfl rfl (W.off rfl rfl rfl (W.off rfl rfl rfl (W.val rfl rfl rfl (R.pick_f rfl rfl rfl) (W.val rfl rfl rfl (R.move rfl rfl) (W.off rfl rfl rfl ?_)))))))
  refine W.off rfl rfl rfl (W.off rfl rfl rfl (W.val rfl rfl rfl (R.pick_f rfl rfl rfl) (W.val rfl rfl rfl (R.assign rfl rfl) (W.nil (EX.then_n (CW.ret (EX.ret1 Try.results84 rfl ?_)))))))
  have hH38 := hH5.f1
  have hH39 := hH38.upto1
  refine ⟨?_, hH39⟩
  refine vbool ?_
  first
    | exact (boundB_p (by unfold boundP; omega)).symm
    | exact (boundB_l (by assumption)).symm
    | exact (boundB_go (by unfold boundP; omega) (by assumption)).symm
  replace hc1 := of_decide_eq_false hc1
  refine W.off rfl rfl rfl (W.off rfl rfl rfl (W.off rfl rfl rfl (W.val rfl rfl rfl (R.pick_f rfl rfl rfl) (W.val rfl rfl rfl (R.move rfl rfl) (W.off rfl rfl rfl (W.off rfl rfl rfl (W.off rfl rfl rfl ?_)))))))
  refine W.val rfl rfl rfl (R.pick_f rfl rfl rfl) (W.val rfl rfl rfl (R.move rfl rfl) (W.off rfl rfl rfl (W.off rfl rfl rfl (W.off rfl rfl rfl (W.val rfl rfl rfl (R.pick_f rfl rfl rfl) (W.val rfl rfl rfl (R.move rfl rfl) (W.off rfl rfl rfl ?_)))))))
  refine W.off rfl rfl rfl (W.off rfl rfl rfl (W.val rfl rfl rfl (R.pick_f rfl rfl rfl) (W.val rfl rfl rfl (R.move rfl rfl) (W.off rfl rfl rfl (W.off rfl rfl rfl (W.off rfl rfl rfl (W.off rfl rfl rfl ?_)))))))
  refine W.off rfl rfl rfl (W.val rfl rfl rfl (R.pick_f rfl rfl rfl) (W.val rfl rfl rfl (R.move rfl rfl) (W.off rfl rfl rfl (W.off rfl rfl rfl (W.off rfl rfl rfl (W.val rfl rfl rfl (R.pick_f rfl rfl rfl) (W.val rfl rfl rfl (R.move rfl rfl) ?_)))))))
  refine W.off rfl rfl rfl (W.off rfl rfl rfl (W.off rfl rfl rfl (W.off rfl rfl rfl (W.off rfl rfl rfl (W.val rfl rfl rfl (R.pick_f rfl rfl rfl) (W.val rfl rfl rfl (R.move rfl rfl) (W.off rfl rfl rfl ?_)))))))
  refine W.off rfl rfl rfl (W.off rfl rfl rfl (W.val rfl rfl rfl (R.pick_f rfl rfl rfl) (W.val rfl rfl rfl (R.move rfl rfl) (W.off rfl rfl rfl (W.off rfl rfl rfl (W.off rfl rfl rfl (W.val rfl rfl rfl (R.pick_f rfl rfl rfl) ?_)))))))
  refine W.val rfl rfl rfl (R.assign rfl rfl) (W.nil (EX.then_n (CW.ret (EX.ret1 Try.results84 rfl ?_))))
  have hH40 := hH3.f1
  have hH41 := hH40.upto1
  refine ⟨?_, hH41⟩
  refine vbool ?_
  first
    | exact (boundB_p (by unfold boundP; omega)).symm
    | exact (boundB_l (by assumption)).symm
    | exact (boundB_go (by unfold boundP; omega) (by assumption)).symm

end Go.Proofs.Gw
namespace Go.Proofs.Gw
open Go Go.Gw Go.Proofs Go.RowKit
set_option maxRecDepth 100000 in
set_option maxHeartbeats 1000000 in
theorem num_signed (u : Int) (below : Bool) (w0 : World) (h0 : 0 ≤ u) (h1 : u ≤ 9223372036854775807) (hb : below = false) : Calls Try.prog 133 #[.int .u64 u, .bool below] w0 (Ret fun v w' => v = .tuple #[.int .i64 (u), .bool (true)] ∧ Has w0 w' [hp w0]) := by
  refine fnstart (N := 24) Try.func133 rfl Try.ntmps133 (Nat.le_of_ble_eq_true rfl) ?_
  have hH0 : Has w0 w0 [hp w0] := Has.refl w0
  subst hb
  refine CW.seq (CW.region rfl (W.val rfl rfl rfl (R.assign rfl rfl) (W.val rfl rfl rfl (R.assign rfl rfl) (W.nil (EX.then_n (CW.seq (CW.block ?_)))))))
  refine CW.seq (CW.region rfl (W.val rfl rfl rfl (R.move rfl rfl) (W.val rfl rfl rfl (R.move rfl rfl) ?_)))
  refine W.split (d := 8) rfl (fun hc1 => ?_) (fun hc1 => ?_)
  try subst hc1
  exfalso
  simp at hc1
  try subst hc1
  refine W.off rfl rfl rfl (W.off rfl rfl rfl (W.val rfl rfl rfl (R.pick_f rfl rfl rfl) (W.val rfl rfl rfl (R.assign rfl rfl) (W.nil (EX.then_n (CW.cond_f rfl (CW.seq ?_)))))))
  refine CW.region rfl (W.val rfl rfl rfl (R.move rfl rfl) (W.val rfl rfl rfl (R.not rfl rfl) (W.val rfl rfl rfl (R.move rfl rfl) ?_)))
  refine W.split (d := 18) rfl (fun hc2 => ?_) (fun hc2 => ?_)
  replace hc2 := of_not_t hc2
  try subst hc2
  refine W.val rfl rfl rfl (R.move rfl rfl) (W.val rfl rfl rfl (R.lss rfl rfl rfl) (W.val rfl rfl rfl (R.pick_t rfl rfl rfl) (W.val rfl rfl rfl (R.assign rfl rfl) (W.nil (EX.then_n ?_)))))
  refine CW.cond rfl (fun hc3 => ?_) (fun hc3 => ?_)
  replace hc3 := of_decide_eq_true hc3
  refine CW.seq (CW.region rfl (W.val rfl rfl rfl (R.move rfl rfl) (W.val rfl rfl rfl (R.convx rfl rfl (by rw [Try.underlying75]; rfl) Try.underlying2 (ok_i64 (by omega))) (W.val rfl rfl rfl (R.assign rfl rfl) (W.val rfl rfl rfl (R.assign rfl rfl) (W.nil (EX.then_n ?_)))))))
  refine CW.ret (EX.blk_ret (EX.then_ret (EX.ret2 Try.results133 rfl rfl ?_)))
  have hH1 := hH0.upto1
  refine ⟨?_, hH1⟩
  rfl
  replace hc3 := of_decide_eq_false hc3
  exfalso
  omega
  replace hc2 := of_not_f hc2
  try subst hc2
  exfalso
  simp at hc2

end Go.Proofs.Gw
namespace Go.Proofs.Gw
open Go Go.Gw Go.Proofs Go.RowKit
set_option maxRecDepth 100000 in
set_option maxHeartbeats 1000000 in
theorem num_size (x : Int) (w0 : World) (h0 : 0 ≤ x) (h1 : x ≤ 9223372036854775807) : Calls Try.prog 130 #[.int .i64 x] w0 (Ret fun v w' => v = .tuple #[.int .u64 (x), .bool (false)] ∧ Has w0 w' [hp w0]) := by
  refine fnstart (N := 11) Try.func130 rfl Try.ntmps130 (Nat.le_of_ble_eq_true rfl) ?_
  have hH0 : Has w0 w0 [hp w0] := Has.refl w0
  refine CW.seq (CW.region rfl (W.val rfl rfl rfl (R.assign rfl rfl) (W.val rfl rfl rfl (R.assign rfl rfl) (W.nil (EX.then_n (CW.seq (CW.seq ?_)))))))
  refine CW.region rfl (W.val rfl rfl rfl (R.move rfl rfl) (W.val rfl rfl rfl (R.lss rfl rfl rfl) (W.nil (EX.then_n ?_))))
  refine CW.cond rfl (fun hc1 => ?_) (fun hc1 => ?_)
  replace hc1 := of_decide_eq_true hc1
  exfalso
  omega
  replace hc1 := of_decide_eq_false hc1
  refine CW.skip (EX.then_n (CW.seq (CW.region rfl (W.val rfl rfl rfl (R.move rfl rfl) (W.val rfl rfl rfl (R.convx rfl rfl (by rw [Try.underlying2]; rfl) Try.underlying75 (ok_u64 (by omega))) (W.val rfl rfl rfl (R.assign rfl rfl) (W.val rfl rfl rfl (R.assign rfl rfl) ?_)))))))
  refine W.nil (EX.then_n (CW.ret (EX.ret2 Try.results130 rfl rfl ?_)))
  have hH1 := hH0.upto1
  refine ⟨?_, hH1⟩
  rfl

end Go.Proofs.Gw
namespace Go.Proofs.Gw
open Go Go.Gw Go.Proofs Go.RowKit
set_option maxRecDepth 100000 in
set_option maxHeartbeats 1000000 in
theorem bits_Div64 (hi : Int) (lo : Int) (y : Int) (w0 : World) (hh : hi = 0) (h0 : 0 ≤ lo) (h1 : lo ≤ 18446744073709551615) (hy : 0 < y) (hy1 : y ≤ 18446744073709551615) : Calls Try.prog 132 #[.int .u64 hi, .int .u64 lo, .int .u64 y] w0 (Ret fun v w' => v = .tuple #[.int .u64 (lo / y), .int .u64 (lo % y)] ∧ Has w0 w' [hp w0]) := by
  refine fnstart (N := 135) Try.func132 rfl Try.ntmps132 (Nat.le_of_ble_eq_true rfl) ?_
  have hH0 : Has w0 w0 [hp w0] := Has.refl w0
  subst hh
  refine CW.seq (CW.region rfl (W.val rfl rfl rfl (R.assign rfl rfl) (W.val rfl rfl rfl (R.assign rfl rfl) (W.nil (EX.then_n (CW.seq (CW.seq ?_)))))))
  refine CW.region rfl (W.val rfl rfl rfl (R.move rfl rfl) (W.val rfl rfl rfl (R.eql rfl rfl rfl) (W.nil (EX.then_n ?_))))
  refine CW.cond rfl (fun hc1 => ?_) (fun hc1 => ?_)
  replace hc1 := of_decide_eq_true hc1
  exfalso
  omega
  replace hc1 := of_decide_eq_false hc1
  refine CW.skip (EX.then_n (CW.seq (CW.seq (CW.region rfl (W.val rfl rfl rfl (R.move rfl rfl) (W.val rfl rfl rfl (R.move rfl rfl) (W.val rfl rfl rfl (R.leq rfl rfl rfl) ?_)))))))
  refine W.nil (EX.then_n ?_)
  refine CW.cond rfl (fun hc2 => ?_) (fun hc2 => ?_)
  replace hc2 := of_decide_eq_true hc2
  exfalso
  omega
  replace hc2 := of_decide_eq_false hc2
  refine CW.skip (EX.then_n (CW.seq (CW.seq (CW.region rfl (W.val rfl rfl rfl (R.move rfl rfl) (W.val rfl rfl rfl (R.eql rfl rfl rfl) (W.nil ?_)))))))
  refine EX.then_n ?_
  refine CW.cond rfl (fun hc3 => ?_) (fun hc3 => ?_)
  replace hc3 := of_decide_eq_true hc3
  refine CW.seq ?_
  have hH1 := hH0.drew
  refine CW.draw (fun _ => True) [] #[false, false, false, false, false, false, false, false] Try.mixed rfl rfl trivial (WA.pure (i := 0) #[true, false, false, false, false, false, false, false] (blind_then (blind_then (blind_body _ _))) rfl (by kernel_rfl) rfl rfl rfl (fun _ => R.move rfl rfl) (WA.pure (i := 1) #[true, true, false, false, false, false, false, false] (blind_then (blind_then (blind_body _ _))) rfl (by kernel_rfl) rfl rfl rfl (fun _ => R.move rfl rfl) (WA.pure (i := 2) #[true, true, true, false, false, false, false, false] (blind_then (blind_then (blind_body _ _))) rfl (by kernel_rfl) rfl rfl rfl (fun _ => R.quo rfl rfl rfl (by omega) (by omega) (ok_u64 (by omega))) (WA.pure (i := 3) #[true, true, true, true, false, false, false, false] (blind_then (blind_then (blind_body _ _))) rfl (by kernel_rfl) rfl rfl rfl (fun _ => R.move rfl rfl) (WA.pure (i := 4) #[true, true, true, true, true, false, false, false] (blind_then (blind_then (blind_body _ _))) rfl (by kernel_rfl) rfl rfl rfl (fun _ => R.move rfl rfl) (WA.pure (i := 5) #[true, true, true, true, true, true, false, false] (blind_then (blind_then (blind_body _ _))) rfl (by kernel_rfl) rfl rfl rfl (fun _ => R.rem rfl rfl rfl (by omega) (by omega)) (WA.pure (i := 6) #[true, true, true, true, true, true, true, false] (blind_then (blind_then (blind_body _ _))) rfl (by kernel_rfl) rfl rfl rfl (fun _ => R.assign rfl rfl) ?_)))))))
  refine WA.pure (i := 7) #[true, true, true, true, true, true, true, true] (blind_then (blind_then (blind_body _ _))) rfl (by kernel_rfl) rfl rfl rfl (fun _ => R.assign rfl rfl) (WA.done (by kernel_rfl) (EX.then_n (CW.ret (EX.then_ret (EX.ret2 Try.results132 rfl rfl ?_)))))
  have hH2 := hH1.upto1
  refine ⟨?_, hH2⟩
  rfl
  replace hc3 := of_decide_eq_false hc3
  exfalso
  simp at hc3

end Go.Proofs.Gw
namespace Go.Proofs.Gw
open Go Go.Gw Go.Proofs Go.RowKit
set_option maxRecDepth 100000 in
set_option maxHeartbeats 1000000 in
theorem bits_Mul64 (x : Int) (y : Int) (w0 : World) (h0 : 0 ≤ x) (h1 : x ≤ 18446744073709551615) (h2 : 0 ≤ y) (h3 : y ≤ 18446744073709551615) : Calls Try.prog 131 #[.int .u64 x, .int .u64 y] w0 (Ret fun v w' => v = .tuple #[.int .u64 (x * y / 18446744073709551616), .int .u64 (x * y % 18446744073709551616)] ∧ Has w0 w' [hp w0]) := by
  refine fnstart (N := 51) Try.func131 rfl Try.ntmps131 (Nat.le_of_ble_eq_true rfl) ?_
  have hH0 : Has w0 w0 [hp w0] := Has.refl w0
  refine CW.seq (CW.region rfl (W.val rfl rfl rfl (R.assign rfl rfl) (W.val rfl rfl rfl (R.assign rfl rfl) (W.nil (EX.then_n (CW.seq (CW.region rfl ?_)))))))
  refine W.val rfl rfl rfl (R.move rfl rfl) ?_
  refine W.bitsU (· &&& ·) rfl rfl rfl rfl rfl rfl rfl (ok_u64 (by omega)) (ok_u64 (by omega)) (.inl ⟨rfl, rfl⟩) (fun r1 hr1 hr2 hr3 => ?_)
  replace hr3 : r1 ≤ 18446744073709551615 := hr3
  rw [and32 (by omega)] at hr1
  refine W.val rfl rfl rfl (R.assign rfl rfl) (W.nil (EX.then_n (CW.seq (CW.region rfl (W.val rfl rfl rfl (R.move rfl rfl) (W.val rfl rfl rfl (R.shrc 32 4294967296 rfl rfl rfl (by decide) rfl) (W.val rfl rfl rfl (R.assign rfl rfl) ?_)))))))
  refine W.nil (EX.then_n (CW.seq (CW.region rfl (W.val rfl rfl rfl (R.move rfl rfl) ?_))))
  refine W.bitsU (· &&& ·) rfl rfl rfl rfl rfl rfl rfl (ok_u64 (by omega)) (ok_u64 (by omega)) (.inl ⟨rfl, rfl⟩) (fun r2 hr4 hr5 hr6 => ?_)
  replace hr6 : r2 ≤ 18446744073709551615 := hr6
  rw [and32 (by omega)] at hr4
  refine W.val rfl rfl rfl (R.assign rfl rfl) (W.nil (EX.then_n (CW.seq (CW.region rfl (W.val rfl rfl rfl (R.move rfl rfl) (W.val rfl rfl rfl (R.shrc 32 4294967296 rfl rfl rfl (by decide) rfl) (W.val rfl rfl rfl (R.assign rfl rfl) ?_)))))))
  refine W.nil (EX.then_n (CW.seq (CW.region rfl ?_)))
  have q0 := mulw (a := r1) (b := r2) (by omega) (by omega) (by omega) (by omega)
  have q1 := mulw (a := x / 4294967296) (b := r2) (by omega) (by omega) (by omega) (by omega)
  have q2 := mulw (a := r1) (b := y / 4294967296) (by omega) (by omega) (by omega) (by omega)
  have q3 := mulw (a := x / 4294967296) (b := y / 4294967296) (by omega) (by omega) (by omega) (by omega)
  refine W.val rfl rfl rfl (R.move rfl rfl) (W.val rfl rfl rfl (R.move rfl rfl) (W.val rfl rfl rfl (R.mulx rfl rfl rfl (ok_u64 (by omega))) (W.val rfl rfl rfl (R.assign rfl rfl) (W.nil (EX.then_n (CW.seq (CW.region rfl ?_)))))))
  refine W.val rfl rfl rfl (R.move rfl rfl) (W.val rfl rfl rfl (R.move rfl rfl) (W.val rfl rfl rfl (R.mulx rfl rfl rfl (ok_u64 (by omega))) (W.val rfl rfl rfl (R.move rfl rfl) (W.val rfl rfl rfl (R.shrc 32 4294967296 rfl rfl rfl (by decide) rfl) (W.val rfl rfl rfl (R.addx rfl rfl rfl (ok_u64 (by omega))) (W.val rfl rfl rfl (R.assign rfl rfl) (W.nil ?_)))))))
  refine EX.then_n (CW.seq (CW.region rfl (W.val rfl rfl rfl (R.move rfl rfl) ?_)))
  refine W.bitsU (· &&& ·) rfl rfl rfl rfl rfl rfl rfl (ok_u64 (by omega)) (ok_u64 (by omega)) (.inl ⟨rfl, rfl⟩) (fun r3 hr7 hr8 hr9 => ?_)
  replace hr9 : r3 ≤ 18446744073709551615 := hr9
  rw [and32 (by omega)] at hr7
  refine W.val rfl rfl rfl (R.assign rfl rfl) (W.nil (EX.then_n (CW.seq (CW.region rfl (W.val rfl rfl rfl (R.move rfl rfl) (W.val rfl rfl rfl (R.shrc 32 4294967296 rfl rfl rfl (by decide) rfl) (W.val rfl rfl rfl (R.assign rfl rfl) ?_)))))))
  refine W.nil (EX.then_n (CW.seq (CW.region rfl (W.val rfl rfl rfl (R.move rfl rfl) (W.val rfl rfl rfl (R.move rfl rfl) (W.val rfl rfl rfl (R.move rfl rfl) (W.val rfl rfl rfl (R.mulx rfl rfl rfl (ok_u64 (by omega))) ?_)))))))
  refine W.val rfl rfl rfl (R.addx rfl rfl rfl (ok_u64 (by omega))) (W.val rfl rfl rfl (R.assign rfl rfl) (W.nil (EX.then_n (CW.seq (CW.region rfl (W.val rfl rfl rfl (R.move rfl rfl) (W.val rfl rfl rfl (R.move rfl rfl) ?_)))))))
  refine W.val rfl rfl rfl (R.mulx rfl rfl rfl (ok_u64 (by omega))) (W.val rfl rfl rfl (R.move rfl rfl) (W.val rfl rfl rfl (R.addx rfl rfl rfl (ok_u64 (by omega))) (W.val rfl rfl rfl (R.move rfl rfl) (W.val rfl rfl rfl (R.shrc 32 4294967296 rfl rfl rfl (by decide) rfl) (W.val rfl rfl rfl (R.addx rfl rfl rfl (ok_u64 (by omega))) (W.val rfl rfl rfl (R.assign rfl rfl) (W.nil ?_)))))))
  refine EX.then_n (CW.seq (CW.region rfl (W.val rfl rfl rfl (R.move rfl rfl) (W.val rfl rfl rfl (R.move rfl rfl) (W.val rfl rfl rfl (R.mul rfl rfl rfl) (W.val rfl rfl rfl (R.assign rfl rfl) (W.nil ?_)))))))
  refine EX.then_n (CW.ret (EX.ret2 Try.results131 rfl rfl ?_))
  have hH1 := hH0.upto1
  refine ⟨?_, hH1⟩
  rw [← mulhi h0 h1 h2 h3 hr1 rfl hr4 rfl, hr7, IntKind.wrap_u64]

end Go.Proofs.Gw
namespace Go.Proofs.Gw
open Go Go.Gw Go.Proofs Go.RowKit
set_option maxRecDepth 100000 in
set_option maxHeartbeats 1000000 in
theorem num_MulDiv (a : Int) (b : Int) (d : Int) (w0 : World) (a0 : 0 ≤ a) (a1 : a ≤ 9223372036854775807) (b0 : 0 ≤ b) (b1 : b ≤ 9223372036854775807) (d0 : 0 < d) (d1 : d ≤ 9223372036854775807) (hab : a * b ≤ 18446744073709551615) (hq : a * b / d ≤ 9223372036854775807) : Calls Try.prog 107 #[.int .i64 a, .int .i64 b, .int .i64 d] w0 (Ret fun v w' => v = .tuple #[.int .i64 (a * b / d), .bool (true)] ∧ Has w0 w' [hp w0]) := by
  refine fnstart (N := 58) Try.func107 rfl Try.ntmps107 (Nat.le_of_ble_eq_true rfl) ?_
  have hH0 : Has w0 w0 [hp w0] := Has.refl w0
  have p0 : 0 ≤ a * b := Int.mul_nonneg a0 b0
  have q0 : 0 ≤ a * b / d := Int.ediv_nonneg p0 (by omega)
  refine CW.seq (CW.region rfl (W.val rfl rfl rfl (R.assign rfl rfl) (W.val rfl rfl rfl (R.assign rfl rfl) (W.nil (EX.then_n (CW.seq (CW.region rfl ?_)))))))
  refine W.val rfl rfl rfl (R.move rfl rfl) (W.call rfl rfl rfl rfl rfl Try.func130 Try.nm130 Try.bd130 (num_size _ w0 (by omega) (by omega)) ?_)
  rintro v1 w1 ⟨rfl, hH1⟩
  have hH2 := hH0.c0 hH1
  refine W.val rfl rfl rfl (R.move rfl rfl) (W.val rfl rfl rfl (R.extract rfl rfl rfl) (W.val rfl rfl rfl (R.extract rfl rfl rfl) (W.val rfl rfl rfl (R.assign rfl rfl) (W.val rfl rfl rfl (R.assign rfl rfl) (W.nil (EX.then_n (CW.seq ?_)))))))
  refine CW.region rfl (W.val rfl rfl rfl (R.move rfl rfl) (W.call rfl rfl rfl rfl rfl Try.func130 Try.nm130 Try.bd130 (num_size _ w1 (by omega) (by omega)) ?_))
  rintro v2 w2 ⟨rfl, hH3⟩
  have hH4 := hH2.c0 hH3
  refine W.val rfl rfl rfl (R.move rfl rfl) (W.val rfl rfl rfl (R.extract rfl rfl rfl) (W.val rfl rfl rfl (R.extract rfl rfl rfl) (W.val rfl rfl rfl (R.assign rfl rfl) (W.val rfl rfl rfl (R.assign rfl rfl) (W.nil (EX.then_n (CW.seq ?_)))))))
  refine CW.region rfl (W.val rfl rfl rfl (R.move rfl rfl) (W.call rfl rfl rfl rfl rfl Try.func130 Try.nm130 Try.bd130 (num_size _ w2 (by omega) (by omega)) ?_))
  rintro v3 w3 ⟨rfl, hH5⟩
  have hH6 := hH4.c0 hH5
  refine W.val rfl rfl rfl (R.move rfl rfl) (W.val rfl rfl rfl (R.extract rfl rfl rfl) (W.val rfl rfl rfl (R.extract rfl rfl rfl) (W.val rfl rfl rfl (R.assign rfl rfl) (W.val rfl rfl rfl (R.assign rfl rfl) (W.nil (EX.then_n (CW.seq ?_)))))))
  refine CW.region rfl (W.val rfl rfl rfl (R.move rfl rfl) (W.val rfl rfl rfl (R.move rfl rfl) (W.call rfl rfl rfl rfl rfl Try.func131 Try.nm131 Try.bd131 (bits_Mul64 _ _ w3 (by omega) (by omega) (by omega) (by omega)) ?_)))
  rintro v4 w4 ⟨rfl, hH7⟩
  have hH8 := hH6.c0 hH7
  refine W.val rfl rfl rfl (R.move rfl rfl) (W.val rfl rfl rfl (R.extract rfl rfl rfl) ?_)
  refine W.re (d := 37) (v := .int .u64 0) rfl (vint (by
    omega)) ?_
  refine W.val rfl rfl rfl (R.extract rfl rfl rfl) ?_
  refine W.re (d := 38) (v := .int .u64 (a * b)) rfl (vint (by
    omega)) ?_
  refine W.val rfl rfl rfl (R.assign rfl rfl) (W.val rfl rfl rfl (R.assign rfl rfl) (W.nil (EX.then_n (CW.seq (CW.seq (CW.region rfl (W.val rfl rfl rfl (R.move rfl rfl) ?_)))))))
  refine W.val rfl rfl rfl (R.move rfl rfl) (W.val rfl rfl rfl (R.geq rfl rfl rfl) (W.nil (EX.then_n ?_)))
  refine CW.cond rfl (fun hc1 => ?_) (fun hc1 => ?_)
  replace hc1 := of_decide_eq_true hc1
  exfalso
  omega
  replace hc1 := of_decide_eq_false hc1
  refine CW.skip (EX.then_n (CW.seq (CW.region rfl (W.val rfl rfl rfl (R.move rfl rfl) (W.val rfl rfl rfl (R.move rfl rfl) (W.val rfl rfl rfl (R.move rfl rfl) (W.call rfl rfl rfl rfl rfl Try.func132 Try.nm132 Try.bd132 (bits_Div64 _ _ _ w4 (by omega) (by omega) (by omega) (by omega) (by omega)) ?_)))))))
  rintro v5 w5 ⟨rfl, hH9⟩
  have hH10 := hH8.c0 hH9
  refine W.val rfl rfl rfl (R.move rfl rfl) (W.val rfl rfl rfl (R.extract rfl rfl rfl) (W.val rfl rfl rfl (R.extract rfl rfl rfl) (W.val rfl rfl rfl (R.assign rfl rfl) (W.val rfl rfl rfl (R.assign rfl rfl) (W.nil (EX.then_n (CW.seq ?_)))))))
  refine CW.region rfl (W.val rfl rfl rfl (R.move rfl rfl) (W.val rfl rfl rfl (R.move rfl rfl) (W.val rfl rfl rfl (R.move rfl rfl) (W.val rfl rfl rfl (R.bneq rfl rfl rfl Try.underlying4) (W.val rfl rfl rfl (R.move rfl rfl) (W.val rfl rfl rfl (R.bneq rfl rfl rfl Try.underlying4) (W.call rfl rfl rfl rfl rfl Try.func133 Try.nm133 Try.bd133 (num_signed _ _ w5 (by omega) (by omega) rfl) ?_)))))))
  rintro v6 w6 ⟨rfl, hH11⟩
  have hH12 := hH10.c0 hH11
  refine W.val rfl rfl rfl (R.extract rfl rfl rfl) (W.val rfl rfl rfl (R.extract rfl rfl rfl) (W.val rfl rfl rfl (R.assign rfl rfl) (W.val rfl rfl rfl (R.assign rfl rfl) (W.nil (EX.then_n (CW.ret (EX.ret2 Try.results107 rfl rfl ?_)))))))
  have hH13 := hH12.upto1
  refine ⟨?_, hH13⟩
  rfl

end Go.Proofs.Gw
namespace Go.Proofs.Gw
open Go Go.Gw Go.Proofs Go.RowKit
set_option maxRecDepth 100000 in
set_option maxHeartbeats 1000000 in
theorem order_net (s : GState) (css : List Value) (w0 : World) (hs : kState.K (hp w0) s css) (hl16 : s.Lines.length ≤ 16) (hL : lokB (-1) s.Lines = true) : Calls Try.prog 106 #[.agg css.toArray] w0 (Ret fun v w' => v = .int .i64 (netL s.Lines) ∧ Has w0 w' [hp w0]) := by
  refine fnstart (N := 22) Try.func106 rfl Try.ntmps106 (Nat.le_of_ble_eq_true rfl) ?_
  have hH0 : Has w0 w0 [hp w0] := Has.refl w0
  have hK1 := hs
  obtain ⟨A1, c1, rfl, hb1, hb2, hb3, hb4, hb5, hb6, hb7, hb8, hb9, hb10, hb11, hb12, hb13, hb14, hb15, hb16, hb17, hb18, hb19, hb20, hb21, hl1, hr1⟩ := hK1
  have hlen1 := hr1.len
  refine CW.seq (CW.region rfl ?_)
  refine W.box rfl rfl rfl rfl rfl rfl hH0 (fun b1 zb1 w1 hH1 hB1 => ?_)
  refine W.val rfl rfl rfl (R.assign rfl rfl) (W.nil (EX.then_n (CW.seq (CW.region rfl (W.val rfl rfl rfl (R.assign rfl rfl) (W.nil (EX.then_n ?_)))))))
  refine CW.seq (CW.seq (CW.region rfl (W.val rfl rfl rfl (R.fa0 5 rfl rfl Try.underlying28 rfl Try.sz26 rfl) (W.ldk rfl rfl rfl rfl rfl Try.pl26 hH1 m0 hB1 rfl (W.val rfl rfl rfl (R.len_slice rfl rfl Try.underlying26) (W.val rfl rfl rfl (R.move rfl rfl) (W.nil ?_)))))))
  refine EX.then_n (CW.block ?_)
  have hH2 := hH1.f1
  have hH3 := hH2.f1
  obtain ⟨I1, hI1⟩ : ∃ I : Nat → List (Nat × Value) → World → Prop, I = (fun n_ D_ w_ => ∃ (k : Nat) (n : Int), D_ = [(9, .int .i64 (k : Int)), (3, .int .i64 n)] ∧ n_ = s.Lines.length - k ∧ Has w0 w_ [zb1, (hp w0)] ∧ (k ≤ s.Lines.length) ∧ (n + netL (s.Lines.drop k) = netL s.Lines) ∧ (0 ≤ n ∧ n ≤ 10000000000000 * k)) := ⟨_, rfl⟩
  refine CW.loop3 [3, 5, 9, 10, 11, 12, 13, 14, 15, 16, 17, 18, 19, 20] I1 _ _ ?_ (by rw [hI1]; exact ⟨0, 0, rfl, rfl, hH3, by omega, by simp, by omega⟩) ?_
  exact ⟨lk_int rfl (by first | rfl | omega), lk_int rfl (by first | rfl | omega), trivial⟩
  intro n1 D w2 hn1
  rw [hI1] at hn1
  obtain ⟨k, n, rfl, hme1, hH4, hk, he, hn⟩ := hn1
  refine CW.seq (CW.region rfl (W.val rfl rfl rfl (R.lss rfl rfl rfl) (W.nil (EX.then_n (CW.seq ?_)))))
  refine CW.cond rfl (fun hc1 => ?_) (fun hc1 => ?_)
  replace hc1 := of_decide_eq_true hc1
  refine CW.skip (EX.then_n (CW.seq (CW.block (CW.seq (CW.region rfl ?_)))))
  refine W.indexRow rfl rfl rfl rfl rfl rfl Try.underlying26 Try.sz37 hr1 (by omega) (by omega) (fun q1 cs1 y1 hy1 hK2 hat1 => ?_)
  try simp only [Int.toNat_natCast, Int.reduceToNat] at hy1
  have hK3 := hK2
  obtain ⟨rfl, hb22, hb23, hb24, hb25, hb26, hb27, hb28, hb29⟩ := hK3
  have hlo := lokB_get hL hy1
  have hmb := lok_mul hlo
  have hnd := netL_drop hy1
  refine W.lga rfl rfl rfl rfl rfl Try.pl37 (by rw [Try.underlying37]; rfl) (by exact Try.sz37) hH4 m1 hat1 ?_
  refine W.alloc rfl rfl rfl rfl Try.zr37 rfl hH4 (fun b2 zb2 w3 hH5 hB2 => ?_)
  refine W.sg0 rfl rfl rfl rfl rfl Try.sz37 rfl (by rfl) hH5 hB2 (fun zb3 w4 hH6 hB3 => ?_)
  refine W.nil (EX.then_n (CW.region rfl (W.val rfl rfl rfl (R.move rfl rfl) (W.val rfl rfl rfl (R.fa0 2 rfl rfl Try.underlying37 rfl Try.sz3 rfl) (W.ldk rfl rfl rfl rfl rfl Try.pl3 hH6 m0 hB3 rfl (W.val rfl rfl rfl (R.fa0 1 rfl rfl Try.underlying37 rfl Try.sz3 rfl) (W.ldk rfl rfl rfl rfl rfl Try.pl3 hH6 m0 hB3 rfl ?_)))))))
  refine W.val rfl rfl rfl (R.mulx rfl rfl rfl (ok_i64 (by omega))) (W.val rfl rfl rfl (R.addx rfl rfl rfl (ok_i64 (by omega))) (W.val rfl rfl rfl (R.assign rfl rfl) (W.nil (EX.blk_n (EX.then_n (CW.region rfl (W.val rfl rfl rfl (R.addx rfl rfl rfl (ok_i64 (by omega))) ?_)))))))
  refine W.val rfl rfl rfl (R.move rfl rfl) (W.nil ?_)
  have hH7 := hH6.f2
  have hH8 := hH7.f2
  have hH9 := hH8.upto2
  refine EX.back4 _ _ rfl ?_ (by rw [hI1]; exact ⟨k + 1, n + y1.Qty * y1.Price, rfl, rfl, hH9, by omega, by omega, by omega⟩) ?_
  exact ⟨lk_int rfl (by first | rfl | omega), lk_int rfl (by first | rfl | omega), trivial⟩
  omega
  replace hc1 := of_decide_eq_false hc1
  refine CW.exit (EX.then_exit (EX.then_exit (EX.blk_here (EX.then_n (CW.seq (CW.region rfl (W.val rfl rfl rfl (R.move rfl rfl) ?_)))))))
  refine W.val rfl rfl rfl (R.assign rfl rfl) (W.nil (EX.then_n (CW.ret (EX.ret1 Try.results106 rfl ?_))))
  have hH10 := hH4.f1
  have hH11 := hH10.upto1
  refine ⟨?_, hH11⟩
  obtain rfl : k = s.Lines.length := by omega
  rw [List.drop_length, netL] at he
  refine vint ?_; omega

end Go.Proofs.Gw
namespace Go.Proofs.Gw
open Go Go.Gw Go.Proofs Go.RowKit
set_option maxRecDepth 100000 in
set_option maxHeartbeats 1000000 in
theorem order_due (s : GState) (css : List Value) (w0 : World) (hs : kState.K (hp w0) s css) (hl16 : s.Lines.length ≤ 16) (hL : lokB (-1) s.Lines = true) (ht0 : 0 ≤ s.Tax) (ht1 : s.Tax ≤ 5000) : Calls Try.prog 85 #[.agg css.toArray] w0 (Ret fun v w' => v = .int .i64 (dueS s) ∧ Has w0 w' [hp w0]) := by
  refine fnstart (N := 18) Try.func85 rfl Try.ntmps85 (Nat.le_of_ble_eq_true rfl) ?_
  have hH0 : Has w0 w0 [hp w0] := Has.refl w0
  have hK1 := hs
  obtain ⟨A1, c1, rfl, hb1, hb2, hb3, hb4, hb5, hb6, hb7, hb8, hb9, hb10, hb11, hb12, hb13, hb14, hb15, hb16, hb17, hb18, hb19, hb20, hb21, hl1, hr1⟩ := hK1
  have hlen1 := hr1.len
  refine CW.seq (CW.region rfl ?_)
  refine W.box rfl rfl rfl rfl rfl rfl hH0 (fun b1 zb1 w1 hH1 hB1 => ?_)
  refine W.val rfl rfl rfl (R.assign rfl rfl) (W.nil (EX.then_n (CW.seq (CW.region rfl ?_))))
  have hnb := netL_bd hL
  have htb := tax_bd (n := netL s.Lines) (t := s.Tax) (by omega) (by omega) ht0 ht1
  --  := mulDivS_pos (a := netL s.Lines) (b := s.Tax) (d := 10000) (by omega) (by omega) (by omega) (by omega)
  refine W.lg0 rfl rfl rfl rfl rfl Try.pl28 (by rw [Try.underlying28]; rfl) (by exact Try.sz28) hH1 m0 hB1 (W.call rfl rfl rfl rfl rfl Try.func106 Try.nm106 Try.bd106 (order_net s _ w1 (hs.mono (hH1.le m1)) hl16 hL) ?_)
  rintro v1 w2 ⟨rfl, hH2⟩
  have hH3 := hH1.c0 hH2
  refine W.val rfl rfl rfl (R.assign rfl rfl) (W.nil (EX.then_n (CW.seq (CW.region rfl (W.val rfl rfl rfl (R.move rfl rfl) (W.val rfl rfl rfl (R.fa0 4 rfl rfl Try.underlying28 rfl Try.sz3 rfl) (W.ldk rfl rfl rfl rfl rfl Try.pl3 hH3 m0 hB1 rfl ?_)))))))
  refine W.call rfl rfl rfl rfl rfl Try.func107 Try.nm107 Try.bd107 (num_MulDiv _ _ _ w2 (by omega) (by omega) (by omega) (by omega) (by omega) (by omega) (by omega) (by omega)) ?_
  rintro v2 w3 ⟨rfl, hH4⟩
  have hH5 := hH3.c0 hH4
  refine W.val rfl rfl rfl (R.move rfl rfl) (W.val rfl rfl rfl (R.extract rfl rfl rfl) (W.val rfl rfl rfl (R.extract rfl rfl rfl) (W.val rfl rfl rfl (R.assign rfl rfl) (W.val rfl rfl rfl (R.assign rfl rfl) (W.nil (EX.then_n (CW.seq ?_)))))))
  refine CW.region rfl (W.val rfl rfl rfl (R.move rfl rfl) (W.val rfl rfl rfl (R.move rfl rfl) (W.val rfl rfl rfl (R.addx rfl rfl rfl (ok_i64 (by omega))) (W.val rfl rfl rfl (R.assign rfl rfl) (W.nil (EX.then_n (CW.ret ?_)))))))
  refine EX.ret1 Try.results85 rfl ?_
  have hH6 := hH5.f1
  have hH7 := hH6.upto1
  refine ⟨?_, hH7⟩
  unfold dueS
  refine vint ?_
  omega

end Go.Proofs.Gw
namespace Go.Proofs.Gw
open Go Go.Gw Go.Proofs Go.RowKit
set_option maxRecDepth 100000 in
set_option maxHeartbeats 1000000 in
theorem order_shipped (s : GState) (css : List Value) (w0 : World) (hs : kState.K (hp w0) s css) : Calls Try.prog 86 #[.agg css.toArray] w0 (Ret fun v w' => v = .tuple #[.bool (untB s.Lines), .bool (wholeB s.Lines)] ∧ Has w0 w' [hp w0]) := by
  refine fnstart (N := 30) Try.func86 rfl Try.ntmps86 (Nat.le_of_ble_eq_true rfl) ?_
  have hH0 : Has w0 w0 [hp w0] := Has.refl w0
  have hK1 := hs
  obtain ⟨A1, c1, rfl, hb1, hb2, hb3, hb4, hb5, hb6, hb7, hb8, hb9, hb10, hb11, hb12, hb13, hb14, hb15, hb16, hb17, hb18, hb19, hb20, hb21, hl1, hr1⟩ := hK1
  have hlen1 := hr1.len
  refine CW.seq (CW.region rfl ?_)
  refine W.box rfl rfl rfl rfl rfl rfl hH0 (fun b1 zb1 w1 hH1 hB1 => ?_)
  refine W.val rfl rfl rfl (R.assign rfl rfl) (W.val rfl rfl rfl (R.assign rfl rfl) (W.nil (EX.then_n (CW.seq (CW.region rfl (W.val rfl rfl rfl (R.assign rfl rfl) (W.val rfl rfl rfl (R.assign rfl rfl) ?_)))))))
  refine W.nil (EX.then_n (CW.seq (CW.seq (CW.region rfl (W.val rfl rfl rfl (R.fa0 5 rfl rfl Try.underlying28 rfl Try.sz26 rfl) (W.ldk rfl rfl rfl rfl rfl Try.pl26 hH1 m0 hB1 rfl (W.val rfl rfl rfl (R.len_slice rfl rfl Try.underlying26) ?_)))))))
  refine W.val rfl rfl rfl (R.move rfl rfl) (W.nil (EX.then_n (CW.block ?_)))
  have hH2 := hH1.f1
  have hH3 := hH2.f1
  obtain ⟨I1, hI1⟩ : ∃ I : Nat → List (Nat × Value) → World → Prop, I = (fun n_ D_ w_ => ∃ (k : Nat) (na : Bool) (al : Bool), D_ = [(9, .int .i64 (k : Int)), (2, .bool na), (3, .bool al)] ∧ n_ = s.Lines.length - k ∧ Has w0 w_ [zb1, (hp w0)] ∧ (k ≤ s.Lines.length) ∧ (untB s.Lines = (na && untB (s.Lines.drop k))) ∧ (wholeB s.Lines = (al && wholeB (s.Lines.drop k)))) := ⟨_, rfl⟩
  refine CW.loop3 [2, 3, 5, 9, 10, 11, 12, 13, 14, 15, 16, 17, 18, 19, 20, 21, 22, 23, 24, 25, 26, 27] I1 _ _ ?_ (by rw [hI1]; exact ⟨0, true, true, rfl, rfl, hH3, by omega, rfl, rfl⟩) ?_
  exact ⟨lk_int rfl (by first | rfl | omega), rfl, rfl, trivial⟩
  intro n1 D w2 hn1
  rw [hI1] at hn1
  obtain ⟨k, na, al, rfl, hme1, hH4, hk, h1, h2⟩ := hn1
  refine CW.seq (CW.region rfl (W.val rfl rfl rfl (R.lss rfl rfl rfl) (W.nil (EX.then_n (CW.seq ?_)))))
  refine CW.cond rfl (fun hc1 => ?_) (fun hc1 => ?_)
  replace hc1 := of_decide_eq_true hc1
  refine CW.skip (EX.then_n (CW.seq (CW.block (CW.seq (CW.region rfl ?_)))))
  refine W.indexRow rfl rfl rfl rfl rfl rfl Try.underlying26 Try.sz37 hr1 (by omega) (by omega) (fun q1 cs1 y1 hy1 hK2 hat1 => ?_)
  try simp only [Int.toNat_natCast, Int.reduceToNat] at hy1
  have hK3 := hK2
  obtain ⟨rfl, hb22, hb23, hb24, hb25, hb26, hb27, hb28, hb29⟩ := hK3
  refine W.lga rfl rfl rfl rfl rfl Try.pl37 (by rw [Try.underlying37]; rfl) (by exact Try.sz37) hH4 m1 hat1 ?_
  refine W.alloc rfl rfl rfl rfl Try.zr37 rfl hH4 (fun b2 zb2 w3 hH5 hB2 => ?_)
  refine W.sg0 rfl rfl rfl rfl rfl Try.sz37 rfl (by rfl) hH5 hB2 (fun zb3 w4 hH6 hB3 => ?_)
  refine W.nil (EX.then_n (CW.seq (CW.region rfl (W.val rfl rfl rfl (R.move rfl rfl) (W.val rfl rfl rfl (R.move rfl rfl) ?_)))))
  refine W.split (d := 14) rfl (fun hc2 => ?_) (fun hc2 => ?_)
  try subst hc2
  refine W.val rfl rfl rfl (R.fa0 3 rfl rfl Try.underlying37 rfl Try.sz3 rfl) (W.ldk rfl rfl rfl rfl rfl Try.pl3 hH6 m0 hB3 rfl (W.val rfl rfl rfl (R.eql rfl rfl rfl) (W.val rfl rfl rfl (R.pick_t rfl rfl rfl) (W.val rfl rfl rfl (R.assign rfl rfl) (W.nil (EX.then_n (CW.region rfl ?_)))))))
  refine W.val rfl rfl rfl (R.move rfl rfl) (W.val rfl rfl rfl (R.move rfl rfl) ?_)
  refine W.split (d := 20) rfl (fun hc3 => ?_) (fun hc3 => ?_)
  try subst hc3
  refine W.val rfl rfl rfl (R.fa0 3 rfl rfl Try.underlying37 rfl Try.sz3 rfl) (W.ldk rfl rfl rfl rfl rfl Try.pl3 hH6 m0 hB3 rfl (W.val rfl rfl rfl (R.fa0 2 rfl rfl Try.underlying37 rfl Try.sz3 rfl) (W.ldk rfl rfl rfl rfl rfl Try.pl3 hH6 m0 hB3 rfl (W.val rfl rfl rfl (R.eql rfl rfl rfl) (W.val rfl rfl rfl (R.pick_t rfl rfl rfl) (W.val rfl rfl rfl (R.assign rfl rfl) (W.nil ?_)))))))
  refine EX.blk_n (EX.then_n (CW.region rfl (W.val rfl rfl rfl (R.addx rfl rfl rfl (ok_i64 (by omega))) (W.val rfl rfl rfl (R.move rfl rfl) (W.nil ?_)))))
  have hH7 := hH6.f2
  have hH8 := hH7.f2
  have hH9 := hH8.upto2
  refine EX.back4 _ _ rfl ?_ (by rw [hI1]; exact ⟨k + 1, decide (y1.Shipped = 0), decide (y1.Shipped = y1.Qty), rfl, rfl, hH9, by omega, by rw [h1, untB_drop hy1]; simp, by rw [h2, wholeB_drop hy1]; simp⟩) ?_
  exact ⟨lk_int rfl (by first | rfl | omega), rfl, rfl, trivial⟩
  omega
  try subst hc3
  refine W.off rfl rfl rfl (W.off rfl rfl rfl (W.off rfl rfl rfl (W.off rfl rfl rfl (W.off rfl rfl rfl (W.val rfl rfl rfl (R.pick_f rfl rfl rfl) (W.val rfl rfl rfl (R.assign rfl rfl) (W.nil ?_)))))))
  refine EX.blk_n (EX.then_n (CW.region rfl (W.val rfl rfl rfl (R.addx rfl rfl rfl (ok_i64 (by omega))) (W.val rfl rfl rfl (R.move rfl rfl) (W.nil ?_)))))
  have hH10 := hH6.f2
  have hH11 := hH10.f2
  have hH12 := hH11.upto2
  refine EX.back4 _ _ rfl ?_ (by rw [hI1]; exact ⟨k + 1, decide (y1.Shipped = 0), false, rfl, rfl, hH12, by omega, by rw [h1, untB_drop hy1]; simp, by rw [h2, wholeB_drop hy1]; simp⟩) ?_
  exact ⟨lk_int rfl (by first | rfl | omega), rfl, rfl, trivial⟩
  omega
  try subst hc2
  refine W.off rfl rfl rfl (W.off rfl rfl rfl (W.off rfl rfl rfl (W.val rfl rfl rfl (R.pick_f rfl rfl rfl) (W.val rfl rfl rfl (R.assign rfl rfl) (W.nil (EX.then_n (CW.region rfl ?_)))))))
  refine W.val rfl rfl rfl (R.move rfl rfl) (W.val rfl rfl rfl (R.move rfl rfl) ?_)
  refine W.split (d := 20) rfl (fun hc4 => ?_) (fun hc4 => ?_)
  try subst hc4
  refine W.val rfl rfl rfl (R.fa0 3 rfl rfl Try.underlying37 rfl Try.sz3 rfl) (W.ldk rfl rfl rfl rfl rfl Try.pl3 hH6 m0 hB3 rfl (W.val rfl rfl rfl (R.fa0 2 rfl rfl Try.underlying37 rfl Try.sz3 rfl) (W.ldk rfl rfl rfl rfl rfl Try.pl3 hH6 m0 hB3 rfl (W.val rfl rfl rfl (R.eql rfl rfl rfl) (W.val rfl rfl rfl (R.pick_t rfl rfl rfl) (W.val rfl rfl rfl (R.assign rfl rfl) (W.nil ?_)))))))
  refine EX.blk_n (EX.then_n (CW.region rfl (W.val rfl rfl rfl (R.addx rfl rfl rfl (ok_i64 (by omega))) (W.val rfl rfl rfl (R.move rfl rfl) (W.nil ?_)))))
  have hH13 := hH6.f2
  have hH14 := hH13.f2
  have hH15 := hH14.upto2
  refine EX.back4 _ _ rfl ?_ (by rw [hI1]; exact ⟨k + 1, false, decide (y1.Shipped = y1.Qty), rfl, rfl, hH15, by omega, by rw [h1, untB_drop hy1]; simp, by rw [h2, wholeB_drop hy1]; simp⟩) ?_
  exact ⟨lk_int rfl (by first | rfl | omega), rfl, rfl, trivial⟩
  omega
  try subst hc4
  refine W.off rfl rfl rfl (W.off rfl rfl rfl (W.off rfl rfl rfl (W.off rfl rfl rfl (W.off rfl rfl rfl (W.val rfl rfl rfl (R.pick_f rfl rfl rfl) (W.val rfl rfl rfl (R.assign rfl rfl) (W.nil ?_)))))))
  refine EX.blk_n (EX.then_n (CW.region rfl (W.val rfl rfl rfl (R.addx rfl rfl rfl (ok_i64 (by omega))) (W.val rfl rfl rfl (R.move rfl rfl) (W.nil ?_)))))
  have hH16 := hH6.f2
  have hH17 := hH16.f2
  have hH18 := hH17.upto2
  refine EX.back4 _ _ rfl ?_ (by rw [hI1]; exact ⟨k + 1, false, false, rfl, rfl, hH18, by omega, by rw [h1, untB_drop hy1]; simp, by rw [h2, wholeB_drop hy1]; simp⟩) ?_
  exact ⟨lk_int rfl (by first | rfl | omega), rfl, rfl, trivial⟩
  omega
  replace hc1 := of_decide_eq_false hc1
  refine CW.exit (EX.then_exit (EX.then_exit (EX.blk_here (EX.then_n (CW.seq (CW.region rfl (W.val rfl rfl rfl (R.move rfl rfl) ?_)))))))
  refine W.val rfl rfl rfl (R.move rfl rfl) (W.val rfl rfl rfl (R.assign rfl rfl) (W.val rfl rfl rfl (R.assign rfl rfl) (W.nil (EX.then_n (CW.ret (EX.ret2 Try.results86 rfl rfl ?_))))))
  have hH19 := hH4.f1
  have hH20 := hH19.upto1
  refine ⟨?_, hH20⟩
  obtain rfl : k = s.Lines.length := by omega
  rw [List.drop_length] at h1 h2
  rw [h1, h2, show untB [] = true from rfl, show wholeB [] = true from rfl, Bool.and_true, Bool.and_true]

end Go.Proofs.Gw
