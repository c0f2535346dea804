import PyProof.Rows.All
import Wide.All
import OpenK.AllK
import Wide.FinOn
import PySem.Challenge.RW_nn0030_01
set_option Elab.async false
set_option maxRecDepth 100000
set_option maxHeartbeats 4000000
set_option linter.unusedVariables false
namespace Mine
/-- the limbs of a number, base b, from the least on -/
noncomputable def lm (b : Nat) (x : Nat) : List Nat := if h : x = 0 ∨ b ≤ 1 then [] else (x % b) :: lm b (x / b)
termination_by x
decreasing_by
  have h1 : 0 < x := by lia
  exact Nat.div_lt_self h1 (by lia)
theorem lm_zero (b : Nat) : lm b 0 = [] := by rw [lm]; simp
theorem lm_pos {b x : Nat} (hb : 1 < b) (hx : 0 < x) : lm b x = (x % b) :: lm b (x / b) := by
  rw [lm, dif_neg (by lia)]
noncomputable def val (b : Nat) : List Nat → Nat
  | [] => 0
  | d :: r => d + b * val b r
theorem val_lm {b : Nat} (hb : 1 < b) (x : Nat) : val b (lm b x) = x := by
  induction x using Nat.strongRecOn with
  | ind x ih =>
    rcases Nat.eq_zero_or_pos x with rfl | hx
    · rw [lm_zero]; rfl
    · rw [lm_pos hb hx]
      show x % b + b * val b (lm b (x / b)) = x
      rw [ih _ (Nat.div_lt_self hx hb)]
      exact Nat.mod_add_div x b
theorem lm_nil {b x : Nat} (hb : 1 < b) : lm b x = [] ↔ x = 0 := by
  constructor
  · intro h
    have := val_lm hb x
    rw [h] at this
    exact this.symm
  · rintro rfl; exact lm_zero b
theorem lm_inj {b x y : Nat} (hb : 1 < b) (h : lm b x = lm b y) : x = y := by
  rw [← val_lm hb x, h, val_lm hb y]
theorem lm_lt {b : Nat} (hb : 1 < b) (x : Nat) : ∀ d ∈ lm b x, d < b := by
  induction x using Nat.strongRecOn with
  | ind x ih =>
    intro d hd
    rcases Nat.eq_zero_or_pos x with rfl | hx
    · rw [lm_zero] at hd; cases hd
    · rw [lm_pos hb hx] at hd
      rcases List.mem_cons.mp hd with rfl | hd
      · exact Nat.mod_lt _ (by exact Nat.le_of_lt ‹_›)
      · exact ih _ (Nat.div_lt_self hx hb) d hd
/-- the length -/
theorem len_le {b : Nat} (hb : 1 < b) : ∀ (n x : Nat), (lm b x).length ≤ n ↔ x < b ^ n := by
  intro n
  induction n with
  | zero =>
    intro x
    simp only [Nat.pow_zero, Nat.le_zero, List.length_eq_zero_iff, lm_nil hb]
    lia
  | succ n ih =>
    intro x
    rcases Nat.eq_zero_or_pos x with rfl | hx
    · rw [lm_zero]; simp; exact Nat.pow_pos (by exact Nat.le_of_lt ‹_›)
    · rw [lm_pos hb hx, List.length_cons, Nat.succ_le_succ_iff, ih, Nat.pow_succ, Nat.div_lt_iff_lt_mul (by exact Nat.le_of_lt ‹_›)]
theorem lt_len {b : Nat} (hb : 1 < b) (n x : Nat) : n < (lm b x).length ↔ b ^ n ≤ x := by
  have := len_le hb n x
  lia
theorem lt_pow_len {b : Nat} (hb : 1 < b) (x : Nat) : x < b ^ (lm b x).length := (len_le hb _ x).mp (Nat.le_refl _)
theorem pow_len_le {b : Nat} (hb : 1 < b) {x : Nat} (hx : 0 < x) : b ^ ((lm b x).length - 1) ≤ x := by
  have h : 0 < (lm b x).length := by
    rcases Nat.eq_zero_or_pos (lm b x).length with h | h
    · exact absurd ((lm_nil hb).mp (List.length_eq_zero_iff.mp h)) (by lia)
    · exact h
  exact (lt_len hb _ x).mp (by omega)
theorem len_lt64 {b x : Nat} (hb : 1 < b) (hx : x < 2 ^ 64) : (lm b x).length ≤ 64 := by
  rw [len_le hb]
  exact Nat.lt_of_lt_of_le hx (Nat.pow_le_pow_left (by assumption) 64)
/-- the digits -/
theorem lm_get {b : Nat} (hb : 1 < b) : ∀ (i x : Nat), i < (lm b x).length → (lm b x)[i]? = some (x / b ^ i % b) := by
  intro i
  induction i with
  | zero =>
    intro x h
    rcases Nat.eq_zero_or_pos x with rfl | hx
    · rw [lm_zero] at h; exact absurd h (Nat.not_lt_zero _)
    · rw [lm_pos hb hx]; simp
  | succ i ih =>
    intro x h
    rcases Nat.eq_zero_or_pos x with rfl | hx
    · rw [lm_zero] at h; exact absurd h (Nat.not_lt_zero _)
    · rw [lm_pos hb hx] at h ⊢
      rw [List.getElem?_cons_succ, ih _ (by simpa using h), Nat.div_div_eq_div_mul, Nat.pow_succ, Nat.mul_comm b]
theorem dig_zero {b : Nat} (hb : 1 < b) (i x : Nat) (h : (lm b x).length ≤ i) : x / b ^ i = 0 := Nat.div_eq_of_lt ((len_le hb i x).mp h)
/-- the first n digits -/
noncomputable def dg (b n v : Nat) : List Nat := (List.range n).map fun j => v / b ^ j % b
theorem dg_length (b n v : Nat) : (dg b n v).length = n := by simp [dg]
theorem dg_succ (b n v : Nat) : dg b (n + 1) v = dg b n v ++ [v / b ^ n % b] := by
  simp [dg, List.range_succ]
theorem dg_zero (b v : Nat) : dg b 0 v = [] := rfl
theorem dg_get (b n v i : Nat) (h : i < n) : (dg b n v)[i]? = some (v / b ^ i % b) := by
  simp [dg, h]
theorem dg_len {b : Nat} (hb : 1 < b) (v : Nat) : dg b (lm b v).length v = lm b v := by
  apply List.ext_getElem?
  intro i
  by_cases h : i < (lm b v).length
  · rw [dg_get _ _ _ _ h, lm_get hb _ _ h]
  · rw [List.getElem?_eq_none (by rw [dg_length]; lia), List.getElem?_eq_none (by omega)]
/-- n digits with the last not nought are the limbs -/
theorem dg_lm {b n v : Nat} (hb : 1 < b) (h1 : v < b ^ n) (h2 : n = 0 ∨ b ^ (n - 1) ≤ v) : dg b n v = lm b v := by
  have hn : (lm b v).length = n := by
    have a := (len_le hb n v).mpr h1
    rcases h2 with rfl | h2
    · lia
    · have := (lt_len hb (n - 1) v).mpr h2
      lia
  rw [← dg_len hb v, hn]
/-- trailing noughts struck -/
noncomputable def strip : List Nat → List Nat
  | [] => []
  | d :: r => match strip r with
    | [] => if d = 0 then [] else [d]
    | s => d :: s
theorem strip_snoc0 : ∀ l : List Nat, strip (l ++ [0]) = strip l
  | [] => rfl
  | d :: r => by
    show (match strip (r ++ [0]) with | [] => if d = 0 then [] else [d] | s => d :: s) = _
    rw [strip_snoc0 r]
    rfl
theorem strip_snoc {c : Nat} (hc : c ≠ 0) : ∀ l : List Nat, strip (l ++ [c]) = l ++ [c]
  | [] => by simp [strip, hc]
  | d :: r => by
    show (match strip (r ++ [c]) with | [] => if d = 0 then [] else [d] | s => d :: s) = _
    rw [strip_snoc hc r]
    cases h : r ++ [c] with
    | nil => simp at h
    | cons x y => simp [← h]
theorem strip_dg {b : Nat} (hb : 1 < b) (v : Nat) : ∀ n, v < b ^ n → strip (dg b n v) = lm b v
  | 0, h => by
    have : v = 0 := by simpa using h
    subst this
    rw [lm_zero]; rfl
  | n + 1, h => by
    rw [dg_succ]
    by_cases h0 : v / b ^ n = 0
    · rw [h0, Nat.zero_mod, strip_snoc0]
      refine strip_dg hb v n ?_
      rcases Nat.lt_or_ge v (b ^ n) with h | h
      · exact h
      · have := Nat.div_pos h (Nat.pow_pos (by exact Nat.le_of_lt ‹_›)); lia
    · have hlt : v / b ^ n < b := by
        rw [Nat.div_lt_iff_lt_mul (Nat.pow_pos (by exact Nat.le_of_lt ‹_›)), Nat.mul_comm, ← Nat.pow_succ]; exact h
      rw [Nat.mod_eq_of_lt hlt, strip_snoc h0, ← Nat.mod_eq_of_lt hlt, ← dg_succ]
      refine dg_lm hb h (.inr ?_)
      have hp : 0 < b ^ n := Nat.pow_pos (by exact Nat.le_of_lt ‹_›)
      rcases Nat.lt_or_ge v (b ^ n) with h | h
      · exact absurd (Nat.div_eq_of_lt h) h0
      · exact h
theorem strip_lm {b : Nat} (hb : 1 < b) (v : Nat) : strip (lm b v) = lm b v := by
  have := strip_dg hb v _ (lt_pow_len hb v)
  rwa [dg_len hb] at this

theorem idx_le {b i x : Nat} (hb : 1 < b) (hx : x < 2 ^ 64) (h : i = 0 ∨ b ^ (i - 1) ≤ x) : i ≤ 64 := by
  rcases h with rfl | h
  · decide
  · have h1 : 2 ^ (i - 1) ≤ b ^ (i - 1) := Nat.pow_le_pow_left hb _
    have h2 : 2 ^ (i - 1) < 2 ^ 64 := by lia
    have := (Nat.pow_lt_pow_iff_right (a := 2) (by decide)).mp h2
    lia
theorem div_succ (x b i : Nat) : x / b ^ (i + 1) = x / b ^ i / b := by rw [Nat.pow_succ, Nat.div_div_eq_div_mul]

theorem strip_take {l : List Nat} {e : Nat} (h : l[e]? = some 0) : strip (l.take (e + 1)) = strip (l.take e) := by
  rw [List.take_add_one, h]
  exact strip_snoc0 _
theorem strip_take' {l : List Nat} {e d : Nat} (h : l[e]? = some d) (hd : d ≠ 0) : strip (l.take (e + 1)) = l.take (e + 1) := by
  rw [List.take_add_one, h]
  exact strip_snoc hd _
/-- how two numbers stand -/
noncomputable def cmp3 (x y : Nat) : Int := if x < y then -1 else if x = y then 0 else 1
theorem div_step (b x i : Nat) : x / b ^ i = x / b ^ (i + 1) * b + x / b ^ i % b := by
  rw [div_succ]
  have := Nat.div_add_mod (x / b ^ i) b
  rw [Nat.mul_comm] at this
  exact this.symm
theorem cmp_dig {b x y i : Nat} (hb : 0 < b) (h : x / b ^ (i + 1) = y / b ^ (i + 1)) (hlt : x / b ^ i % b < y / b ^ i % b) : x < y := by
  have h1 := div_step b x i
  have h2 := div_step b y i
  rw [h] at h1
  have h3 : x / b ^ i < y / b ^ i := by omega
  exact Nat.lt_of_not_le fun hle => Nat.not_lt_of_le (Nat.div_le_div_right hle) h3
theorem bl_eq {x k : Nat} (h1 : 2 ^ k ≤ x) (h2 : x < 2 ^ (k + 1)) : x.log2 = k := by
  have h0 : x ≠ 0 := by have := Nat.pow_pos (n := k) (show 0 < 2 by decide); lia
  have a := (Nat.le_log2 h0).mpr h1
  have b := (Nat.log2_lt h0).mpr h2
  lia
theorem top_log {w x : Nat} (hw : 1 ≤ w) (hx : 0 < x) : x.log2 = ((lm (2 ^ w) x).length - 1) * w + (x / (2 ^ w) ^ ((lm (2 ^ w) x).length - 1)).log2 := by
  have hb : 1 < 2 ^ w := by have := Nat.pow_le_pow_right (n := 2) (by decide) hw; assumption
  have h1 := pow_len_le hb hx
  generalize (lm (2 ^ w) x).length - 1 = k at *
  have hp : 0 < (2 ^ w) ^ k := Nat.pow_pos (by exact Nat.le_of_lt ‹_›)
  have hq : x / (2 ^ w) ^ k ≠ 0 := by have := Nat.div_pos h1 hp; lia
  apply bl_eq
  · rw [Nat.pow_add, Nat.mul_comm k w, Nat.pow_mul]
    calc (2 ^ w) ^ k * 2 ^ (x / (2 ^ w) ^ k).log2 ≤ (2 ^ w) ^ k * (x / (2 ^ w) ^ k) := Nat.mul_le_mul_left _ (Nat.log2_self_le hq)
      _ ≤ x := Nat.mul_div_le _ _
  · rw [Nat.add_assoc, Nat.pow_add, Nat.mul_comm k w, Nat.pow_mul]
    have := Nat.lt_log2_self (n := x / (2 ^ w) ^ k)
    rw [Nat.div_lt_iff_lt_mul hp] at this
    rw [Nat.mul_comm]; exact this

theorem bit_in (n x k : Nat) (hn : 0 < n) : x / (2 ^ n) ^ (k / n) % 2 ^ n / 2 ^ (k % n) % 2 ^ 1 = x / 2 ^ k % 2 := by
  have hr : k % n < n := Nat.mod_lt _ hn
  have e1 : (2 : Nat) ^ n = 2 ^ (k % n) * 2 ^ (n - k % n) := by rw [← Nat.pow_add]; congr 1; lia
  have e2 : (2 : Nat) ^ k = (2 ^ n) ^ (k / n) * 2 ^ (k % n) := by
    rw [← Nat.pow_mul, ← Nat.pow_add, Nat.div_add_mod]
  rw [e2, ← Nat.div_div_eq_div_mul]
  generalize x / (2 ^ n) ^ (k / n) = y
  rw [e1, Nat.mod_mul_right_div_self, Nat.pow_one, Nat.mod_mod_of_dvd]
  exact Nat.dvd_trans (by rw [Nat.pow_one]; exact Nat.dvd_refl 2) (Nat.pow_dvd_pow 2 (show 1 ≤ n - k % n by lia))
theorem bit_out {n x k : Nat} (hb : 1 < 2 ^ n) (hn : 0 < n) (h : (lm (2 ^ n) x).length ≤ k / n) : x / 2 ^ k = 0 := by
  have h1 := (len_le hb _ x).mp h
  refine Nat.div_eq_of_lt (Nat.lt_of_lt_of_le h1 ?_)
  rw [← Nat.pow_mul]
  exact Nat.pow_le_pow_right (by decide) (Nat.mul_div_le k n)
theorem dg_mod {b : Nat} (hb : 1 < b) (s m x : Nat) (h : m ≤ s) : dg b m (x % b ^ s) = dg b m x := by
  apply List.ext_getElem?
  intro i
  by_cases hi : i < m
  · rw [dg_get _ _ _ _ hi, dg_get _ _ _ _ hi]
    have e : b ^ s = b ^ i * b ^ (s - i) := by rw [← Nat.pow_add]; congr 1; lia
    rw [e, Nat.mod_mul_right_div_self, Nat.mod_mod_of_dvd]
    exact ⟨b ^ (s - i - 1), by rw [← Nat.pow_succ']; congr 1; lia⟩
  · rw [List.getElem?_eq_none (by rw [dg_length]; lia), List.getElem?_eq_none (by rw [dg_length]; omega)]
theorem dg_take (b n v k : Nat) (h : k ≤ n) : (dg b n v).take k = dg b k v := by
  simp [dg, ← List.map_take, List.take_range, Nat.min_eq_left h]
theorem strip_take_lm {b : Nat} (hb : 1 < b) (x s : Nat) : strip ((lm b x).take s) = lm b (x % b ^ s) := by
  rcases Nat.le_total s (lm b x).length with h | h
  · have e : (lm b x).take s = dg b s x := by
      rw [← dg_take b _ x s h, dg_len hb]
    rw [e, ← dg_mod hb s s x (Nat.le_refl _)]
    exact strip_dg hb _ _ (Nat.mod_lt _ (Nat.pow_pos (by exact Nat.le_of_lt ‹_›)))
  · rw [List.take_of_length_le h, strip_lm hb, Nat.mod_eq_of_lt ((len_le hb s x).mp h)]
theorem drop_lm {b : Nat} (hb : 1 < b) (x : Nat) : ∀ s : Nat, (lm b x).drop s = lm b (x / b ^ s) := by
  intro s
  induction s generalizing x with
  | zero => rw [List.drop_zero, Nat.pow_zero, Nat.div_one]
  | succ s ih =>
    rcases Nat.eq_zero_or_pos x with rfl | hx
    · rw [lm_zero, List.drop_nil, Nat.zero_div, lm_zero]
    · rw [lm_pos hb hx, List.drop_succ_cons, ih, Nat.div_div_eq_div_mul, Nat.pow_succ, Nat.mul_comm b]
/-- the carry of a sum -/
noncomputable def cr (b i x y : Nat) : Nat := (x % b ^ i + y % b ^ i) / b ^ i
theorem mod_succ_eq (b i x : Nat) : x % b ^ (i + 1) = b ^ i * (x / b ^ i % b) + x % b ^ i := by
  rw [Nat.pow_succ, Nat.mod_mul]; lia
theorem add_carry {b : Nat} (hb : 1 < b) (i x y : Nat) : cr b i x y + (x / b ^ i % b + y / b ^ i % b) = (x % b ^ (i + 1) + y % b ^ (i + 1)) / b ^ i := by
  have hp : 0 < b ^ i := Nat.pow_pos (by exact Nat.le_of_lt ‹_›)
  rw [mod_succ_eq, mod_succ_eq, cr]
  rw [show b ^ i * (x / b ^ i % b) + x % b ^ i + (b ^ i * (y / b ^ i % b) + y % b ^ i) = (x % b ^ i + y % b ^ i) + b ^ i * (x / b ^ i % b + y / b ^ i % b) by rw [Nat.mul_add]; lia]
  rw [Nat.add_mul_div_left _ _ hp]
theorem add_dig {b : Nat} (hb : 1 < b) (i x y : Nat) : (cr b i x y + (x / b ^ i % b + y / b ^ i % b)) % b = (x + y) / b ^ i % b := by
  have hp : 0 < b ^ i := Nat.pow_pos (by exact Nat.le_of_lt ‹_›)
  rw [add_carry hb]
  have h1 : (x + y) % b ^ (i + 1) = (x % b ^ (i + 1) + y % b ^ (i + 1)) % b ^ (i + 1) := Nat.add_mod _ _ _
  have h2 : ∀ z : Nat, z / b ^ i % b = z % b ^ (i + 1) / b ^ i := fun z => by rw [Nat.pow_succ, Nat.mod_mul_right_div_self]
  rw [h2, h2 (x + y), h1]
theorem add_next {b : Nat} (hb : 1 < b) (i x y : Nat) : (cr b i x y + (x / b ^ i % b + y / b ^ i % b)) / b = cr b (i + 1) x y := by
  rw [add_carry hb, Nat.div_div_eq_div_mul, ← Nat.pow_succ]; rfl
theorem cr_le {b : Nat} (hb : 1 < b) (i x y : Nat) : cr b i x y ≤ 1 := by
  have hp : 0 < b ^ i := Nat.pow_pos (by exact Nat.le_of_lt ‹_›)
  have h1 := Nat.mod_lt x hp
  have h2 := Nat.mod_lt y hp
  have : cr b i x y < 2 := by
    rw [cr, Nat.div_lt_iff_lt_mul hp]; lia
  lia
theorem cr_zero (b x y : Nat) : cr b 0 x y = 0 := by simp [cr, Nat.mod_one]
theorem cr_end {b : Nat} (hb : 1 < b) {n x y : Nat} (hx : x < b ^ n) (hy : y < b ^ n) : cr b n x y = (x + y) / b ^ n := by
  rw [cr, Nat.mod_eq_of_lt hx, Nat.mod_eq_of_lt hy]
/-- the borrow of a difference -/
noncomputable def bw (b i x y : Nat) : Nat := if x % b ^ i < y % b ^ i then 1 else 0
theorem floor_one {P a b r : Nat} (hP : 0 < P) (h : P * a + r = P * b) (h1 : 0 < r) (h2 : r < 2 * P) : a + 1 = b := by
  rcases Nat.lt_trichotomy (a + 1) b with h3 | h3 | h3
  · have : P * (a + 2) ≤ P * b := Nat.mul_le_mul_left _ h3
    rw [Nat.mul_add] at this
    lia
  · exact h3
  · have : P * b ≤ P * a := Nat.mul_le_mul_left _ (by lia)
    lia
theorem floor_zero {P a b r : Nat} (hP : 0 < P) (h : P * a + r = P * b) (h2 : r < P) : a = b := by
  rcases Nat.lt_trichotomy a b with h3 | h3 | h3
  · have : P * (a + 1) ≤ P * b := Nat.mul_le_mul_left _ h3
    rw [Nat.mul_add] at this
    lia
  · exact h3
  · have : P * (b + 1) ≤ P * a := Nat.mul_le_mul_left _ h3
    rw [Nat.mul_add] at this
    lia
theorem sub_floor {b : Nat} (hb : 1 < b) (i : Nat) {x y : Nat} (h : y ≤ x) : ((x - y) / b ^ i : Nat) = (x / b ^ i : Nat) - (bw b i x y : Int) - (y / b ^ i : Nat) := by
  have hp : 0 < b ^ i := Nat.pow_pos (by exact Nat.le_of_lt ‹_›)
  unfold bw
  generalize b ^ i = P at *
  have h1 := Nat.mod_lt x hp
  have h2 := Nat.mod_lt y hp
  have h3 := Nat.mod_lt (x - y) hp
  have e1 := Nat.div_add_mod x P
  have e2 := Nat.div_add_mod y P
  have e3 := Nat.div_add_mod (x - y) P
  generalize x / P = qx at *
  generalize y / P = qy at *
  generalize (x - y) / P = qd at *
  generalize x % P = xi at *
  generalize y % P = yi at *
  generalize (x - y) % P = di at *
  have e4 : P * (qd + qy) = P * qd + P * qy := Nat.mul_add _ _ _
  split
  · rename_i hlt
    have := floor_one (a := qd + qy) (b := qx) (r := di + yi - xi) hp (by lia) (by lia) (by lia)
    lia
  · rename_i hlt
    rcases Nat.lt_or_ge (di + yi) xi with hh | hh
    · have := floor_zero (a := qx) (b := qd + qy) (r := xi - di - yi) hp (by grind -ring -splitIte) (by lia)
      lia
    · have := floor_zero (a := qd + qy) (b := qx) (r := di + yi - xi) hp (by grind -ring -splitIte) (by lia)
      lia
/-- the limb of a difference -/
noncomputable def lb (b i x y : Nat) : Int := (x / b ^ i % b : Nat) - (bw b i x y : Int) - (y / b ^ i % b : Nat)
theorem sub_dig {b : Nat} (hb : 1 < b) (i : Nat) {x y : Nat} (h : y ≤ x) : (((x - y) / b ^ i % b : Nat) : Int) = if lb b i x y < 0 then lb b i x y + b else lb b i x y := by
  have h1 := sub_floor hb i h
  have hx := Nat.mod_lt (x / b ^ i) (show 0 < b by (exact Nat.le_of_lt ‹_›))
  have hy := Nat.mod_lt (y / b ^ i) (show 0 < b by (exact Nat.le_of_lt ‹_›))
  have hd := Nat.mod_lt ((x - y) / b ^ i) (show 0 < b by (exact Nat.le_of_lt ‹_›))
  have ex := Nat.div_add_mod (x / b ^ i) b
  have ey := Nat.div_add_mod (y / b ^ i) b
  have ed := Nat.div_add_mod ((x - y) / b ^ i) b
  have hw : bw b i x y ≤ 1 := by unfold bw; split <;> decide
  unfold lb
  generalize bw b i x y = w at *
  generalize x / b ^ i = X at *
  generalize y / b ^ i = Y at *
  generalize (x - y) / b ^ i = D at *
  generalize X % b = rx at *
  generalize Y % b = ry at *
  generalize D % b = rd at *
  generalize X / b = qx at *
  generalize Y / b = qy at *
  generalize D / b = qd at *
  have key : (b : Int) * qd + rd = (b * qx + rx) - w - (b * qy + ry) := by
    have a1 : ((b * qd + rd : Nat) : Int) = ((b * qx + rx : Nat) : Int) - w - ((b * qy + ry : Nat) : Int) := by rw [ed, ex, ey]; exact h1
    simpa using a1
  have k2 : (b : Int) * ((qx : Int) - qy - qd) = rd - (rx - w - ry) := by
    rw [Int.mul_sub, Int.mul_sub]; lia
  generalize (qx : Int) - qy - qd = z at *
  have hz : z = 0 ∨ z = 1 := by
    rcases Int.lt_trichotomy z 0 with hz | hz | hz
    · have : (b : Int) * z ≤ b * (-1) := Int.mul_le_mul_of_nonneg_left (by lia) (by lia)
      lia
    · exact .inl hz
    · by_cases h2 : z = 1
      · exact .inr h2
      · have : (b : Int) * 2 ≤ b * z := Int.mul_le_mul_of_nonneg_left (by lia) (by omega)
        lia
  rcases hz with rfl | rfl
  · rw [if_neg (by lia)]; lia
  · rw [if_pos (by lia)]; lia
theorem sub_next {b : Nat} (hb : 1 < b) (i : Nat) (x y : Nat) : bw b (i + 1) x y = if lb b i x y < 0 then 1 else 0 := by
  have hp : 0 < b ^ i := Nat.pow_pos (by exact Nat.le_of_lt ‹_›)
  have h1 := Nat.mod_lt x hp
  have h2 := Nat.mod_lt y hp
  have e1 := mod_succ_eq b i x
  have e2 := mod_succ_eq b i y
  have hiff : x % b ^ (i + 1) < y % b ^ (i + 1) ↔ lb b i x y < 0 := by
    rw [e1, e2]
    unfold lb bw
    generalize x / b ^ i % b = ax
    generalize y / b ^ i % b = ay
    generalize x % b ^ i = xi at *
    generalize y % b ^ i = yi at *
    generalize b ^ i = P at *
    rcases Nat.lt_trichotomy ax ay with h | h | h
    · have : P * (ax + 1) ≤ P * ay := Nat.mul_le_mul_left _ h
      rw [Nat.mul_add] at this
      split <;> constructor <;> intro _ <;> lia
    · subst h
      split <;> constructor <;> intro _ <;> lia
    · have : P * (ay + 1) ≤ P * ax := Nat.mul_le_mul_left _ h
      rw [Nat.mul_add] at this
      split <;> constructor <;> intro _ <;> lia
  unfold bw at *
  by_cases h : lb b i x y < 0
  · rw [if_pos (hiff.mpr h), if_pos h]
  · rw [if_neg (fun h' => h (hiff.mp h')), if_neg h]
theorem lm_split {b : Nat} (hb : 1 < b) {z s : Nat} (h : b ^ s ≤ z) : lm b z = dg b s z ++ lm b (z / b ^ s) := by
  have hl := (lt_len hb s z).mpr h
  rw [← drop_lm hb z s, ← dg_take b (lm b z).length z s (by exact Nat.le_of_lt ‹_›), dg_len hb, List.take_append_drop]
theorem dg_add {b : Nat} (hb : 1 < b) (s x y : Nat) : dg b s (x + y * b ^ s) = dg b s x := by
  rw [← dg_mod hb s s (x + y * b ^ s) (Nat.le_refl _), Nat.add_mul_mod_self_right, dg_mod hb s s x (Nat.le_refl _)]
theorem dg_pad {b : Nat} (hb : 1 < b) (s x : Nat) (h : (lm b x).length ≤ s) : dg b s x = lm b x ++ List.replicate (s - (lm b x).length) 0 := by
  apply List.ext_getElem?
  intro i
  by_cases hi : i < (lm b x).length
  · rw [dg_get _ _ _ _ (by exact Nat.lt_of_lt_of_le ‹_› ‹_›), List.getElem?_append_left hi, lm_get hb _ _ hi]
  · rw [List.getElem?_append_right (by lia)]
    by_cases hs : i < s
    · rw [dg_get _ _ _ _ hs, List.getElem?_replicate, if_pos (by lia), dig_zero hb _ _ (by omega), Nat.zero_mod]
    · rw [List.getElem?_eq_none (by rw [dg_length]; lia), List.getElem?_eq_none (by rw [List.length_replicate]; lia)]
theorem add_at_lm {b : Nat} (hb : 1 < b) {s x y : Nat} (hy : 0 < x / b ^ s + y) : lm b (x + y * b ^ s) = dg b s x ++ lm b (x / b ^ s + y) := by
  have hp : 0 < b ^ s := Nat.pow_pos (by exact Nat.le_of_lt ‹_›)
  have e : (x + y * b ^ s) / b ^ s = x / b ^ s + y := Nat.add_mul_div_right _ _ hp
  have h : b ^ s ≤ x + y * b ^ s := by
    rcases Nat.lt_or_ge (x + y * b ^ s) (b ^ s) with h | h
    · rw [Nat.div_eq_of_lt h] at e; lia
    · exact h
  rw [lm_split hb h, dg_add hb, e]
/-- the digits of q from place k on, noughts below -/
noncomputable def dd (b n k q : Nat) : List Nat := (List.range n).map fun j => if j < k then 0 else q / b ^ j % b
theorem dd_length (b n k q : Nat) : (dd b n k q).length = n := by simp [dd]
theorem dd_top (b n q : Nat) : dd b n n q = List.replicate n 0 := by
  apply List.ext_getElem?
  intro i
  by_cases hi : i < n
  · simp [dd, hi]
  · rw [List.getElem?_eq_none (by rw [dd_length]; lia), List.getElem?_eq_none (by rw [List.length_replicate]; omega)]
theorem dd_zero (b n q : Nat) : dd b n 0 q = dg b n q := by simp [dd, dg]
theorem dd_set (b n k q : Nat) (h : k < n) : (dd b n (k + 1) q).set k (q / b ^ k % b) = dd b n k q := by
  apply List.ext_getElem?
  intro i
  rw [List.getElem?_set]
  by_cases hk : k = i
  · subst hk
    rw [if_pos rfl, dd_length, if_pos h]
    simp [dd, h]
  · rw [if_neg hk]
    by_cases hi : i < n
    · simp only [dd, List.getElem?_map, List.getElem?_range hi, Option.map_some]
      by_cases h1 : i < k
      · rw [if_pos h1, if_pos (by lia)]
      · rw [if_neg h1, if_neg (by lia)]
    · rw [List.getElem?_eq_none (by rw [dd_length]; lia), List.getElem?_eq_none (by rw [dd_length]; omega)]
theorem long_div {b l x k : Nat} (hb : 1 < b) (hl : 0 < l) : (x / b ^ (k + 1) % l * b + x / b ^ k % b) / l = x / l / b ^ k % b ∧ (x / b ^ (k + 1) % l * b + x / b ^ k % b) % l = x / b ^ k % l := by
  have e1 : x / b ^ (k + 1) = x / b ^ k / b := div_succ x b k
  have e2 : x / l / b ^ k = x / b ^ k / l := by rw [Nat.div_div_eq_div_mul, Nat.mul_comm, ← Nat.div_div_eq_div_mul]
  rw [e1, e2]
  generalize x / b ^ k = X
  have hd := Nat.mod_lt X (show 0 < b by (exact Nat.le_of_lt ‹_›))
  have hr := Nat.mod_lt (X / b) hl
  have ex := Nat.div_add_mod X b
  have ey := Nat.div_add_mod (X / b) l
  generalize X % b = dgt at *
  generalize X / b = Y at *
  generalize Y % l = r at *
  generalize Y / l = q at *
  have hX : X = r * b + dgt + l * (q * b) := by
    rw [← ex, ← ey, Nat.mul_add, Nat.mul_comm b r, Nat.mul_left_comm b l q, Nat.mul_comm b q]; lia
  have ht : r * b + dgt < b * l := by
    have : (r + 1) * b ≤ l * b := Nat.mul_le_mul_right _ hr
    rw [Nat.add_mul, Nat.mul_comm l b] at this
    lia
  have hlt : (r * b + dgt) / l < b := by rw [Nat.div_lt_iff_lt_mul hl]; exact ht
  rw [hX]
  constructor
  · rw [Nat.add_mul_div_left _ _ hl, Nat.add_mul_mod_self_right, Nat.mod_eq_of_lt hlt]
  · rw [Nat.add_mul_mod_self_left]
/-- shifting up: the carry -/
noncomputable def sc (b f i x : Nat) : Nat := x % b ^ i * 2 ^ f / b ^ i
theorem sc_lt {b : Nat} (hb : 1 < b) (f i x : Nat) : sc b f i x < 2 ^ f := by
  have hp : 0 < b ^ i := Nat.pow_pos (by exact Nat.le_of_lt ‹_›)
  rw [sc, Nat.div_lt_iff_lt_mul hp, Nat.mul_comm]
  exact Nat.mul_lt_mul_of_pos_left (Nat.mod_lt _ hp) (Nat.pow_pos (by decide))
theorem sc_step {b : Nat} (hb : 1 < b) (f i x : Nat) : (sc b f i x + x / b ^ i % b * 2 ^ f) % b = x * 2 ^ f / b ^ i % b ∧ (sc b f i x + x / b ^ i % b * 2 ^ f) / b = sc b f (i + 1) x := by
  have hp : 0 < b ^ i := Nat.pow_pos (by exact Nat.le_of_lt ‹_›)
  have e : sc b f i x + x / b ^ i % b * 2 ^ f = x % b ^ (i + 1) * 2 ^ f / b ^ i := by
    rw [mod_succ_eq, sc, Nat.add_mul, Nat.mul_assoc, Nat.add_comm (b ^ i * _), Nat.add_mul_div_left _ _ hp]
  rw [e]
  constructor
  · have h2 : ∀ z : Nat, z / b ^ i % b = z % b ^ (i + 1) / b ^ i := fun z => by rw [Nat.pow_succ, Nat.mod_mul_right_div_self]
    rw [h2, h2 (x * 2 ^ f)]
    have : x % b ^ (i + 1) * 2 ^ f % b ^ (i + 1) = x * 2 ^ f % b ^ (i + 1) := by
      rw [Nat.mul_mod, Nat.mod_mod, ← Nat.mul_mod]
    rw [this]
  · rw [Nat.div_div_eq_div_mul, ← Nat.pow_succ]; rfl
theorem sc_zero (b f x : Nat) : sc b f 0 x = 0 := by simp [sc, Nat.mod_one]
theorem dg_zeros {b : Nat} (hb : 1 < b) (s z : Nat) : dg b s (z * b ^ s) = List.replicate s 0 := by
  have := dg_add hb s 0 z
  rw [Nat.zero_add] at this
  rw [this, dg_pad hb s 0 (by rw [lm_zero]; exact Nat.zero_le _), lm_zero]; rfl
theorem dig_up {b : Nat} (hb : 1 < b) (s i z : Nat) : z * b ^ s / b ^ (s + i) = z / b ^ i := by
  have hp : 0 < b ^ s := Nat.pow_pos (by exact Nat.le_of_lt ‹_›)
  rw [Nat.pow_add, ← Nat.div_div_eq_div_mul, Nat.mul_div_cancel _ hp]
theorem sh_pow (n k : Nat) : (2 : Nat) ^ k = 2 ^ (k % n) * (2 ^ n) ^ (k / n) := by
  rw [← Nat.pow_mul, ← Nat.pow_add, Nat.add_comm, Nat.div_add_mod]
/-- shifting down -/
theorem down_dig {n f y : Nat} (hf : f < n) : (y % 2 ^ n / 2 ^ f + y / 2 ^ n % 2 ^ n * 2 ^ (n - f)) % 2 ^ n = y / 2 ^ f % 2 ^ n := by
  have e1 : (2 : Nat) ^ n = 2 ^ f * 2 ^ (n - f) := by rw [← Nat.pow_add]; congr 1; lia
  have hpf : 0 < 2 ^ f := Nat.pow_pos (by decide)
  have ey := Nat.div_add_mod y (2 ^ n)
  have e2 : y / 2 ^ f = y % 2 ^ n / 2 ^ f + y / 2 ^ n * 2 ^ (n - f) := by
    have : y = y % 2 ^ n + 2 ^ f * (y / 2 ^ n * 2 ^ (n - f)) := by
      rw [Nat.mul_left_comm, ← e1, Nat.mul_comm (y / 2 ^ n)]; lia
    calc y / 2 ^ f = (y % 2 ^ n + 2 ^ f * (y / 2 ^ n * 2 ^ (n - f))) / 2 ^ f := by rw [← this]
      _ = _ := Nat.add_mul_div_left _ _ hpf
  rw [e2, Nat.add_mod, Nat.add_mod (y % 2 ^ n / 2 ^ f) (y / 2 ^ n * 2 ^ (n - f))]
  congr 2
  rw [Nat.mul_mod, Nat.mod_mod, ← Nat.mul_mod]
theorem down_lt {n f y : Nat} (hf : f < n) : y % 2 ^ n / 2 ^ f < 2 ^ (n - f) := by
  have e1 : (2 : Nat) ^ n = 2 ^ (n - f) * 2 ^ f := by rw [← Nat.pow_add]; congr 1; lia
  rw [Nat.div_lt_iff_lt_mul (Nat.pow_pos (by decide)), ← e1]
  exact Nat.mod_lt _ (Nat.pow_pos (by omega))
theorem down_at (n k i x : Nat) (hn : 0 < n) : x / (2 ^ n) ^ (k / n + i) / 2 ^ (k % n) = x / 2 ^ k / (2 ^ n) ^ i := by
  rw [Nat.div_div_eq_div_mul, Nat.div_div_eq_div_mul, Nat.pow_add, sh_pow n k]
  congr 1
  rw [Nat.mul_comm, Nat.mul_assoc]

/-- the noughts at the end -/
noncomputable def tz (x : Nat) : Nat := if h : x = 0 ∨ x % 2 = 1 then 0 else tz (x / 2) + 1
termination_by x
decreasing_by lia
theorem tz_odd {x : Nat} (h : x % 2 = 1) : tz x = 0 := by rw [tz, dif_pos (.inr h)]
theorem tz_even {x : Nat} (h0 : 0 < x) (h : x % 2 = 0) : tz x = tz (x / 2) + 1 := by rw [tz, dif_neg (by lia)]
theorem tz_two {x : Nat} (h : 0 < x) : tz (2 * x) = tz x + 1 := by
  rw [tz_even (by lia) (by lia), Nat.mul_div_cancel_left _ (by decide)]
theorem tz_pow (k : Nat) {x : Nat} (h : 0 < x) : tz (2 ^ k * x) = k + tz x := by
  induction k with
  | zero => rw [Nat.pow_zero, Nat.one_mul, Nat.zero_add]
  | succ k ih =>
    rw [Nat.pow_succ, Nat.mul_comm (2 ^ k), Nat.mul_assoc, tz_two (Nat.mul_pos (Nat.pow_pos (by decide)) h), ih]
    lia
theorem tz_spec {x : Nat} (h : 0 < x) : ∃ o, x = 2 ^ tz x * o ∧ o % 2 = 1 := by
  induction x using Nat.strongRecOn with
  | ind x ih =>
    rcases Nat.mod_two_eq_zero_or_one x with h2 | h2
    · obtain ⟨o, ho, ho2⟩ := ih (x / 2) (by lia) (by lia)
      refine ⟨o, ?_, ho2⟩
      rw [tz_even h h2, Nat.pow_succ, Nat.mul_comm (2 ^ _) 2, Nat.mul_assoc, ← ho]
      lia
    · exact ⟨x, by rw [tz_odd h2]; lia, h2⟩
theorem tz_limb {w q d : Nat} (hd : 0 < d) (hlt : d < 2 ^ w) : tz (q * 2 ^ w + d) = tz d := by
  obtain ⟨o, ho, ho2⟩ := tz_spec hd
  have hop : 0 < o := by lia
  have hle : 2 ^ tz d ≤ d := by
    have : 2 ^ tz d * 1 ≤ 2 ^ tz d * o := Nat.mul_le_mul_left _ hop
    rw [Nat.mul_one, ← ho] at this
    exact this
  have htw : tz d < w := by
    have : 2 ^ tz d < 2 ^ w := by lia
    exact (Nat.pow_lt_pow_iff_right (by decide)).mp this
  have e : q * 2 ^ w + d = 2 ^ tz d * (q * 2 ^ (w - tz d) + o) := by
    rw [Nat.mul_add, ← ho, Nat.mul_left_comm, ← Nat.pow_add, show tz d + (w - tz d) = w by lia]
  rw [e, tz_pow _ (by lia)]
  have e2 : 2 ^ (w - tz d) = 2 * 2 ^ (w - tz d - 1) := by rw [← Nat.pow_succ']; congr 1; lia
  have : (q * 2 ^ (w - tz d) + o) % 2 = 1 := by
    rw [e2, Nat.mul_left_comm, Nat.mul_add_mod]; exact ho2
  rw [tz_odd this]
  rfl
theorem tz_at {w x i : Nat} (hw : 1 ≤ w) (hz : x % (2 ^ w) ^ i = 0) (hd : 0 < x / (2 ^ w) ^ i % 2 ^ w) : tz x = i * w + tz (x / (2 ^ w) ^ i % 2 ^ w) := by
  have e := Nat.div_add_mod x ((2 ^ w) ^ i)
  rw [hz, Nat.add_zero] at e
  have hlt : x / (2 ^ w) ^ i % 2 ^ w < 2 ^ w := Nat.mod_lt _ (Nat.pow_pos (by decide))
  have e2 := Nat.div_add_mod (x / (2 ^ w) ^ i) (2 ^ w)
  have hy : 0 < x / (2 ^ w) ^ i := by
    rcases Nat.eq_zero_or_pos (x / (2 ^ w) ^ i) with h | h
    · rw [h, Nat.zero_mod] at hd; lia
    · exact h
  have e3 : tz x = i * w + tz (x / (2 ^ w) ^ i) := by
    have h := tz_pow (i * w) hy
    rw [Nat.mul_comm i w, Nat.pow_mul, e] at h
    rw [h, Nat.mul_comm]
  rw [e3, ← tz_limb (q := x / (2 ^ w) ^ i / 2 ^ w) hd hlt, Nat.mul_comm (_ / _) (2 ^ w), e2]
theorem and_low (x : Nat) (h : 0 < x) : x &&& (x - 1) = x - 2 ^ tz x := by
  induction x using Nat.strongRecOn with
  | ind x ih =>
    have hdiv : (x &&& (x - 1)) / 2 = x / 2 &&& (x - 1) / 2 := Nat.and_div_two
    have hmod : (x &&& (x - 1)) % 2 = 0 := by
      have := @Nat.and_mod_two_eq_one x (x - 1)
      rcases Nat.mod_two_eq_zero_or_one (x &&& (x - 1)) with h | h
      · exact h
      · have := this.mp h; lia
    have hx := Nat.div_add_mod (x &&& (x - 1)) 2
    rw [hmod, hdiv, Nat.add_zero] at hx
    rcases Nat.mod_two_eq_zero_or_one x with h2 | h2
    · have e : (x - 1) / 2 = x / 2 - 1 := by lia
      rw [e, ih (x / 2) (by lia) (by lia)] at hx
      rw [← hx, tz_even h h2, Nat.pow_succ]
      omega
    · have e : (x - 1) / 2 = x / 2 := by (grind -ring -splitIte)
      rw [e, Nat.and_self] at hx
      rw [← hx, tz_odd h2]
      grind -ring -splitIte
theorem two_tz_le {x : Nat} (h : 0 < x) : 2 ^ tz x ≤ x := by
  obtain ⟨o, ho, ho2⟩ := tz_spec h
  have : 2 ^ tz x * 1 ≤ 2 ^ tz x * o := Nat.mul_le_mul_left _ (by lia)
  rw [Nat.mul_one, ← ho] at this
  exact this
/-- the whole root -/
noncomputable def irtF (k n : Nat) : Nat → Nat
  | 0 => 0
  | m + 1 => if (m + 1) ^ k ≤ n then m + 1 else irtF k n m
noncomputable def irt (k n : Nat) : Nat := irtF k n n
theorem irtF_spec {k n : Nat} (hk : 0 < k) : ∀ m, (irtF k n m) ^ k ≤ n ∧ irtF k n m ≤ m ∧ ∀ r, irtF k n m < r → r ≤ m → n < r ^ k
  | 0 => ⟨by rw [irtF, Nat.zero_pow hk]; exact Nat.zero_le _, Nat.le_refl _, fun r h1 h2 => by rw [irtF] at h1; lia⟩
  | m + 1 => by
    rw [irtF]
    by_cases h : (m + 1) ^ k ≤ n
    · rw [if_pos h]; exact ⟨h, Nat.le_refl _, fun r h1 h2 => by lia⟩
    · rw [if_neg h]
      obtain ⟨a, b, c⟩ := irtF_spec hk m
      refine ⟨a, by lia, fun r h1 h2 => ?_⟩
      by_cases hr : r = m + 1
      · subst hr; lia
      · exact c r h1 (by lia)
theorem le_pow_self {k r : Nat} (hk : 0 < k) : r ≤ r ^ k := by
  rcases Nat.eq_zero_or_pos r with rfl | h
  · exact Nat.zero_le _
  · have := Nat.pow_le_pow_right h hk
    rwa [Nat.pow_one] at this
theorem irt_le {k : Nat} (hk : 0 < k) (n : Nat) : (irt k n) ^ k ≤ n := (irtF_spec hk n).1
theorem irt_lt {k : Nat} (hk : 0 < k) (n : Nat) : n < (irt k n + 1) ^ k := by
  obtain ⟨a, b, c⟩ := irtF_spec (n := n) hk n
  by_cases h : irt k n + 1 ≤ n
  · exact c _ (Nat.lt_succ_self _) h
  · have := le_pow_self (r := irt k n + 1) hk
    lia
theorem pow_mono {k a b : Nat} (h : a ≤ b) : a ^ k ≤ b ^ k := Nat.pow_le_pow_left h k
theorem irt_of {k n r : Nat} (hk : 0 < k) (h1 : r ^ k ≤ n) (h2 : n < (r + 1) ^ k) : r = irt k n := by
  have a := irt_le hk n
  have b := irt_lt hk n
  rcases Nat.lt_trichotomy r (irt k n) with h | h | h
  · have := pow_mono (k := k) (show r + 1 ≤ irt k n from h); lia
  · exact h
  · have := pow_mono (k := k) (show irt k n + 1 ≤ r from h); lia
theorem irt_le_self {k : Nat} (hk : 0 < k) (n : Nat) : irt k n ≤ n := (irtF_spec hk n).2.1
/-- the whole square root -/
noncomputable abbrev isq (n : Nat) : Nat := irt 2 n
theorem isq_le (n : Nat) : isq n * isq n ≤ n := by have := irt_le (k := 2) (by decide) n; rwa [Nat.pow_two] at this
theorem isq_lt (n : Nat) : n < (isq n + 1) * (isq n + 1) := by have := irt_lt (k := 2) (by decide) n; rwa [Nat.pow_two] at this
theorem isq_of {n r : Nat} (h1 : r * r ≤ n) (h2 : n < (r + 1) * (r + 1)) : r = isq n := irt_of (by decide) (by rwa [Nat.pow_two]) (by rwa [Nat.pow_two])
theorem isq_of2 {n r : Nat} (h1 : r * r ≤ n) (h2 : n ≤ r * r + 2 * r) : r = isq n := isq_of h1 (by
  have : (r + 1) * (r + 1) = r * r + 2 * r + 1 := by rw [Nat.add_mul, Nat.mul_add]; lia
  lia)
theorem isq_rest (n : Nat) : n - isq n * isq n ≤ 2 * isq n := by
  have := isq_lt n
  have e : (isq n + 1) * (isq n + 1) = isq n * isq n + 2 * isq n + 1 := by rw [Nat.add_mul, Nat.mul_add]; lia
  lia
theorem isq_zero : isq 0 = 0 := rfl
/-- one pair of bits more -/
theorem isq_pair (y d : Nat) (hd : d < 4) : isq (4 * y + d) = if 4 * isq y + 1 ≤ 4 * (y - isq y * isq y) + d then 2 * isq y + 1 else 2 * isq y := by
  have h1 := isq_le y
  have h2 := isq_rest y
  generalize isq y = r at *
  have e1 : (2 * r + 1) * (2 * r + 1) = 4 * (r * r) + 4 * r + 1 := by
    rw [Nat.add_mul, Nat.mul_add, Nat.mul_assoc, Nat.mul_left_comm r 2 r]; lia
  have e2 : 2 * r * (2 * r) = 4 * (r * r) := by rw [Nat.mul_assoc, Nat.mul_left_comm r 2 r]; lia
  symm
  split
  · apply isq_of2 <;> lia
  · apply isq_of2 <;> lia
/-- the halves of a root -/
theorem isq_halves {P m l up s q u R E x : Nat} (hP : 0 < P) (hm : m < P) (hl : l < P) (hs : isq up = s) (hn : P ≤ 2 * s) (hq : (m + (up - s * s) * P) / (2 * s) = q) (hu' : (m + (up - s * s) * P) % (2 * s) = u)
    (hR' : R = q + s * P) (hE' : E = l + u * P) (hx' : x = up * (P * P) + m * P + l) :
    (q ≤ P) ∧ (q * q ≤ E → isq x = R ∧ x - R * R = E - q * q) ∧ (E < q * q → isq x = R - 1 ∧ 1 ≤ R ∧ q * q + 1 ≤ E + 2 * R ∧ x - (R - 1) * (R - 1) = E + 2 * R - (q * q + 1)) := by
  have h1 := isq_le up
  have h2 := isq_rest up
  rw [hs] at h1 h2
  have hsp : 0 < 2 * s := by (exact Nat.lt_of_lt_of_le ‹_› ‹_›)
  have hdm : 2 * s * q + u = m + (up - s * s) * P := by rw [← hq, ← hu']; exact Nat.div_add_mod _ _
  have hu : u < 2 * s := by rw [← hu']; exact Nat.mod_lt _ hsp
  clear hq hu'
  obtain ⟨r, hr⟩ : ∃ r, r = up - s * s := ⟨_, rfl⟩
  rw [← hr] at hdm h2
  have hup : up = s * s + r := by (grind -ring -splitIte)
  clear hr h1 hs
  have hrP : r * P ≤ 2 * s * P := Nat.mul_le_mul_right _ h2
  have hqP : q ≤ P := by
    have h3 : 2 * s * q < 2 * s * (P + 1) := by rw [Nat.mul_add]; lia
    have := Nat.lt_of_mul_lt_mul_left h3
    lia
  have hx : x + q * q = R * R + E := by
    have e2 : R * R = q * q + 2 * s * q * P + s * s * (P * P) := by
      rw [hR', Nat.add_mul, Nat.mul_add, Nat.mul_add]
      have a1 : q * (s * P) = s * q * P := by rw [← Nat.mul_assoc, Nat.mul_comm q s]
      have a2 : s * P * q = s * q * P := by rw [Nat.mul_right_comm]
      have a3 : s * P * (s * P) = s * s * (P * P) := Nat.mul_mul_mul_comm _ _ _ _
      rw [a1, a2, a3, Nat.mul_assoc 2 s q, Nat.mul_assoc 2 (s * q) P]; lia
    have e3 : (2 * s * q + u) * P = (m + r * P) * P := by rw [hdm]
    rw [Nat.add_mul, Nat.add_mul, Nat.mul_assoc r P P] at e3
    rw [hx', hup, e2, hE', Nat.add_mul]
    lia
  have hE : E + 1 ≤ 2 * s * P := by
    have h3 : (u + 1) * P ≤ 2 * s * P := Nat.mul_le_mul_right _ hu
    rw [Nat.add_mul] at h3
    lia
  have h2R : 2 * R = 2 * s * P + 2 * q := by rw [hR', Nat.mul_add, Nat.mul_assoc]; lia
  clear hx' hE' hup hdm hrP h2
  refine ⟨hqP, fun h => ?_, fun h => ?_⟩
  · have h3 : R = isq x := isq_of2 (by omega) (by lia)
    exact ⟨h3.symm, by omega⟩
  · have hq1 : 1 ≤ q := by
      rcases Nat.eq_zero_or_pos q with h0 | h0
      · rw [h0] at h; lia
      · exact h0
    have hqq : q * q + 1 ≤ 2 * s * P + 2 * q := by
      have a : (q - 1) * (q - 1) ≤ P * P := Nat.mul_le_mul (by lia) (by omega)
      have b : P * P ≤ 2 * s * P := Nat.mul_le_mul_right _ hn
      have c : q * q + 1 = (q - 1) * (q - 1) + 2 * q := by
        obtain ⟨t, ht⟩ : ∃ t, q = t + 1 := ⟨q - 1, by lia⟩
        rw [ht, Nat.add_sub_cancel, Nat.add_mul, Nat.mul_add]; lia
      lia
    have hR1 : 1 ≤ R := by lia
    have e : R * R + 1 = (R - 1) * (R - 1) + 2 * R := by
      obtain ⟨t, ht⟩ : ∃ t, R = t + 1 := ⟨R - 1, by lia⟩
      rw [ht, Nat.add_sub_cancel, Nat.add_mul, Nat.mul_add]; omega
    have h3 : R - 1 = isq x := isq_of2 (by lia) (by omega)
    exact ⟨h3.symm, hR1, by lia, by lia⟩
/-- a root of a number with noughts behind -/
theorem isq_shift (x h : Nat) : isq (x * (2 ^ h * 2 ^ h)) / 2 ^ h = isq x := by
  have hp : 0 < 2 ^ h := Nat.pow_pos (by decide)
  generalize 2 ^ h = P at *
  have a := isq_le (x * (P * P))
  have b := isq_lt (x * (P * P))
  generalize isq (x * (P * P)) = r at *
  have e := Nat.div_add_mod r P
  have hm := Nat.mod_lt r hp
  generalize r / P = q at *
  generalize r % P = t at *
  have hq : P * q * (P * q) = q * q * (P * P) := by rw [Nat.mul_mul_mul_comm, Nat.mul_comm]
  apply isq_of
  · have : P * q * (P * q) ≤ r * r := Nat.mul_le_mul (by lia) (by omega)
    rw [hq] at this
    exact Nat.le_of_mul_le_mul_right (Nat.le_trans this a) (Nat.mul_pos hp hp)
  · have h1 : r + 1 ≤ P * (q + 1) := by rw [Nat.mul_add]; lia
    have h2 : (r + 1) * (r + 1) ≤ P * (q + 1) * (P * (q + 1)) := Nat.mul_le_mul h1 h1
    have h3 : P * (q + 1) * (P * (q + 1)) = (q + 1) * (q + 1) * (P * P) := by rw [Nat.mul_mul_mul_comm, Nat.mul_comm]
    rw [h3] at h2
    exact Nat.lt_of_mul_lt_mul_right (Nat.lt_of_lt_of_le b h2)
theorem amgm (s d : Nat) : ∀ m : Nat, (m + 1) * (s * (s + d) ^ m) ≤ s ^ (m + 1) + m * (s + d) ^ (m + 1)
  | 0 => by simp
  | m + 1 => by
    have ih := Nat.mul_le_mul_right (s + d) (amgm s d m)
    obtain ⟨e, he⟩ : ∃ e, (s + d) ^ (m + 1) = s ^ (m + 1) + e := ⟨(s + d) ^ (m + 1) - s ^ (m + 1), by have := Nat.pow_le_pow_left (show s ≤ s + d by lia) (m + 1); omega⟩
    have h1 : (m + 1) * (s * (s + d) ^ m) * (s + d) = (m + 1) * (s * (s + d) ^ (m + 1)) := by
      rw [Nat.pow_succ, Nat.mul_assoc, Nat.mul_assoc]
    have h2 : (s ^ (m + 1) + m * (s + d) ^ (m + 1)) * (s + d) = s ^ (m + 1) * (s + d) + m * (s + d) ^ (m + 1 + 1) := by
      rw [Nat.add_mul, Nat.pow_succ _ (m + 1), Nat.mul_assoc]
    rw [h1, h2] at ih
    have h3 : s ^ (m + 1) * (s + d) + s * (s + d) ^ (m + 1) ≤ s ^ (m + 1 + 1) + (s + d) ^ (m + 1 + 1) := by
      rw [Nat.pow_succ _ (m + 1), Nat.pow_succ (s + d) (m + 1), he, Nat.add_mul, Nat.mul_add, Nat.mul_add, Nat.mul_add, Nat.mul_comm s (s ^ (m + 1)), Nat.mul_comm s e]
      lia
    rw [Nat.add_mul (m + 1) 1, Nat.one_mul]
    have h4 : (m + 1) * (s + d) ^ (m + 1 + 1) = m * (s + d) ^ (m + 1 + 1) + (s + d) ^ (m + 1 + 1) := by rw [Nat.add_mul, Nat.one_mul]
    lia
/-- the next guess is not below the root -/
theorem newton_ge {k x r : Nat} (hk : 2 ≤ k) (hr0 : 0 < r) (hr : irt k x ≤ r) : irt k x ≤ (r * (k - 1) + x / r ^ (k - 1)) / k := by
  have hl := irt_le (show 0 < k by (exact Nat.le_of_lt ‹_›)) x
  generalize irt k x = s at *
  obtain ⟨d, rfl⟩ : ∃ d, r = s + d := ⟨r - s, by (grind -ring -splitIte)⟩
  obtain ⟨m, rfl⟩ : ∃ m, k = m + 1 := ⟨k - 1, by lia⟩
  rw [Nat.add_sub_cancel]
  have ha := amgm s d m
  have hp : 0 < (s + d) ^ m := Nat.pow_pos hr0
  rw [Nat.le_div_iff_mul_le (by exact Nat.le_of_lt ‹_›)]
  rcases Nat.le_total (s * (m + 1)) ((s + d) * m) with h | h
  · exact Nat.le_trans h (Nat.le_add_right _ _)
  · have h1 : s * (m + 1) - (s + d) * m ≤ x / (s + d) ^ m := by
      rw [Nat.le_div_iff_mul_le hp, Nat.sub_mul]
      have e1 : s * (m + 1) * (s + d) ^ m = (m + 1) * (s * (s + d) ^ m) := by rw [Nat.mul_comm s (m + 1), Nat.mul_assoc]
      have e2 : (s + d) * m * (s + d) ^ m = m * (s + d) ^ (m + 1) := by rw [Nat.mul_comm (s + d) m, Nat.mul_assoc, Nat.pow_succ, Nat.mul_comm (s + d)]
      omega
    omega
/-- a guess that stays is the root -/
theorem newton_stop {k x r : Nat} (hk : 2 ≤ k) (hr0 : 0 < r) (hr : irt k x ≤ r) (h : r ≤ (r * (k - 1) + x / r ^ (k - 1)) / k) : r = irt k x := by
  have hl := irt_lt (show 0 < k by (exact Nat.le_of_lt ‹_›)) x
  have hp : 0 < r ^ (k - 1) := Nat.pow_pos hr0
  rw [Nat.le_div_iff_mul_le (by exact Nat.le_of_lt ‹_›)] at h
  have e : r * k = r * (k - 1) + r := by
    obtain ⟨m, rfl⟩ : ∃ m, k = m + 1 := ⟨k - 1, by lia⟩
    rw [Nat.add_sub_cancel, Nat.mul_add, Nat.mul_one]
  have h2 : r ≤ x / r ^ (k - 1) := by lia
  rw [Nat.le_div_iff_mul_le hp, Nat.mul_comm, ← Nat.pow_succ, show (k - 1).succ = k by lia] at h2
  have h3 : r ^ k < (irt k x + 1) ^ k := by lia
  have := (Nat.pow_lt_pow_iff_left (by lia)).mp h3
  lia
theorem irt_pos {k x : Nat} (hk : 0 < k) (hx : 0 < x) : 0 < irt k x := by
  have := irt_lt hk x
  rcases Nat.eq_zero_or_pos (irt k x) with h | h
  · rw [h, Nat.zero_add, Nat.one_pow] at this; lia
  · exact h
theorem irt_le_of {k x r : Nat} (hk : 0 < k) (h : x < r ^ k) : irt k x < r := by
  have := irt_le hk x
  exact (Nat.pow_lt_pow_iff_left (by lia)).mp (Nat.lt_of_le_of_lt this h)
/-- no small divisor -/
noncomputable def isP (p : Nat) : Prop := 2 ≤ p ∧ ∀ d, 2 ≤ d → d < p → d * d ≤ p → ¬ p % d = 0
theorem isP_div : ∀ k : Nat, 2 ≤ k → ∃ q j, isP q ∧ k = j * q := by
  intro k
  induction k using Nat.strongRecOn with
  | ind k ih =>
    intro hk
    by_cases h : ∃ d, 2 ≤ d ∧ d < k ∧ k % d = 0
    · obtain ⟨d, h1, h2, h3⟩ := h
      obtain ⟨q, j, hq, hj⟩ := ih d h2 h1
      refine ⟨q, k / d * j, hq, ?_⟩
      have := Nat.div_add_mod k d
      rw [h3, Nat.add_zero] at this
      rw [Nat.mul_assoc, ← hj, Nat.mul_comm]; exact this.symm
    · refine ⟨k, 1, ⟨hk, fun d h1 h2 _ h3 => h ⟨d, h1, h2, h3⟩⟩, by lia⟩
/-- two powers alike -/
theorem pow_pow : ∀ (t b r e k : Nat), e + k ≤ t → 0 < e → 0 < k → 0 < b → 0 < r → b ^ e = r ^ k → ∃ c e' k', b = c ^ k' ∧ r = c ^ e' ∧ k * e' = e * k'
  | 0, b, r, e, k, ht, he, hk, hb, hr, h => by lia
  | t + 1, b, r, e, k, ht, he, hk, hb, hr, h => by
    rcases Nat.lt_trichotomy e k with hlt | heq | hgt
    · have hd : r ^ e ∣ b ^ e := by rw [h, show k = e + (k - e) by lia, Nat.pow_add]; exact Nat.dvd_mul_right _ _
      obtain ⟨s, hs⟩ := (Nat.pow_dvd_pow_iff (by lia)).mp hd
      have hs0 : 0 < s := by
        rcases Nat.eq_zero_or_pos s with h0 | h0
        · rw [h0, Nat.mul_zero] at hs; lia
        · exact h0
      have h2 : s ^ e = r ^ (k - e) := by
        rw [hs, Nat.mul_pow, show k = e + (k - e) by lia, Nat.pow_add] at h
        have := Nat.eq_of_mul_eq_mul_left (Nat.pow_pos hr) h
        exact this
      obtain ⟨c, e', k', h3, h4, h5⟩ := pow_pow t s r e (k - e) (by lia) he (by lia) hs0 hr h2
      refine ⟨c, e', e' + k', ?_, h4, ?_⟩
      · rw [hs, Nat.pow_add, ← h3, ← h4]
      · rw [Nat.mul_add, ← h5, ← Nat.add_mul]; congr 1; lia
    · subst heq
      have := (Nat.pow_left_inj (by lia)).mp h
      exact ⟨b, 1, 1, by rw [Nat.pow_one], by rw [Nat.pow_one, this], rfl⟩
    · have hd : b ^ k ∣ r ^ k := by rw [← h, show e = k + (e - k) by lia, Nat.pow_add]; exact Nat.dvd_mul_right _ _
      obtain ⟨s, hs⟩ := (Nat.pow_dvd_pow_iff (by lia)).mp hd
      have hs0 : 0 < s := by
        rcases Nat.eq_zero_or_pos s with h0 | h0
        · rw [h0, Nat.mul_zero] at hs; lia
        · exact h0
      have h2 : b ^ (e - k) = s ^ k := by
        rw [hs, Nat.mul_pow, show e = k + (e - k) by lia, Nat.pow_add] at h
        have := Nat.eq_of_mul_eq_mul_left (Nat.pow_pos hb) h
        exact this
      obtain ⟨c, e', k', h3, h4, h5⟩ := pow_pow t b s (e - k) k (by lia) (by lia) hk hb hs0 h2
      refine ⟨c, k' + e', k', h3, ?_, ?_⟩
      · rw [hs, Nat.pow_add, ← h3, ← h4]
      · rw [Nat.mul_add, h5, ← Nat.add_mul]; congr 1; lia
/-- what is no power -/
noncomputable def noPow (b : Nat) : Prop := 2 ≤ b ∧ ∀ k, 2 ≤ k → ∀ r, r ^ k ≠ b
theorem pow_pos_of {r k b : Nat} (hb : 2 ≤ b) (h : r ^ k = b) : 0 < r ∨ k = 0 := by
  rcases Nat.eq_zero_or_pos r with h0 | h0
  · rcases Nat.eq_zero_or_pos k with h1 | h1
    · exact .inr h1
    · rw [h0, Nat.zero_pow h1] at h; lia
  · exact .inl h0
theorem noPow_max {b e r k : Nat} (hb : noPow b) (he : 0 < e) (hk : 0 < k) (hr : 0 < r) (h : b ^ e = r ^ k) : k ≤ e := by
  obtain ⟨c, e', k', h1, h2, h3⟩ := pow_pow (e + k) b r e k (Nat.le_refl _) he hk (by have := hb.1; (exact Nat.le_of_lt ‹_›)) hr h
  have hk1 : k' = 1 := by
    rcases Nat.lt_or_ge k' 2 with h4 | h4
    · rcases Nat.eq_zero_or_pos k' with h5 | h5
      · rw [h5, Nat.pow_zero] at h1; have := hb.1; lia
      · lia
    · exact absurd h1.symm (hb.2 k' h4 c)
  subst hk1
  have he' : 0 < e' := by
    rcases Nat.eq_zero_or_pos e' with h5 | h5
    · rw [h5, Nat.mul_zero] at h3; lia
    · exact h5
  have : k * 1 ≤ k * e' := Nat.mul_le_mul_left _ he'
  lia
/-- no root of prime order: no power -/
theorem noPow_of {b : Nat} (hb : 2 ≤ b) (h : ∀ q, isP q → ∀ r, r ^ q ≠ b) : noPow b := by
  refine ⟨hb, fun k hk r e => ?_⟩
  obtain ⟨q, j, hq, hj⟩ := isP_div k hk
  refine h q hq (r ^ j) ?_
  rw [← Nat.pow_mul, ← hj, e]
theorem big_no {b q r : Nat} (hb : 2 ≤ b) (hq : b < 2 ^ q) : r ^ q ≠ b := by
  intro e
  rcases Nat.lt_or_ge r 2 with h | h
  · have : r ^ q ≤ 1 ^ q := Nat.pow_le_pow_left (by lia) q
    rw [Nat.one_pow] at this; lia
  · have : 2 ^ q ≤ r ^ q := Nat.pow_le_pow_left h q
    lia
end Mine
open PySem PySem.Calls PySem.W PyProof.Rows
namespace Mine
/-- pure values -/
inductive PV where
  | int (i : Int)
  | bool (b : Bool)
  | lst (xs : List Int)
  | bls (xs : List Bool)
  | pair (a b : PV)
  | fn (f : Addr)
  | box

noncomputable abbrev Led := List (Addr × Obj)
noncomputable abbrev tupOf (vs : List Value) : Obj := { cls := .type "tuple", data := .seq vs.toArray }

inductive Rep (T : Led) : Value → PV → Prop
  | int {i : Int} {t : Tok} : Rep T (.int i t) (.int i)
  | bool {b : Bool} : Rep T (.bool b) (.bool b)
  | lst {a : Addr} {its : List Value} {n : Nat} {xs : List Int} (h : (a, listOf its.toArray n) ∈ T) (hi : IntsAre its xs) : Rep T (.ref a) (.lst xs)
  | bls {a : Addr} {n : Nat} {xs : List Bool} (h : (a, listOf (xs.map Value.bool).toArray n) ∈ T) : Rep T (.ref a) (.bls xs)
  | pair {a : Addr} {v w : Value} {p q : PV} (h : (a, tupOf [v, w]) ∈ T) (h1 : Rep T v p) (h2 : Rep T w q) : Rep T (.ref a) (.pair p q)
  | fn {f : Addr} : Rep T (.ref f) (.fn f)

theorem Rep.mono {T T' : Led} {v : Value} {p : PV} (h : Rep T v p) (hs : ∀ q ∈ T, q ∈ T') : Rep T' v p := by
  induction h with
  | int => exact .int
  | bool => exact .bool
  | lst h hi => exact .lst (hs _ h) hi
  | bls h => exact .bls (hs _ h)
  | pair h _ _ i1 i2 => exact .pair (hs _ h) i1 i2
  | fn => exact .fn

inductive RepL (T : Led) : List Value → List PV → Prop
  | nil : RepL T [] []
  | cons {v : Value} {p : PV} {vs : List Value} {ps : List PV} (h : Rep T v p) (hr : RepL T vs ps) : RepL T (v :: vs) (p :: ps)
theorem RepL.mono {T T' : Led} {vs : List Value} {ps : List PV} (h : RepL T vs ps) (hs : ∀ q ∈ T, q ∈ T') : RepL T' vs ps := by
  induction h with
  | nil => exact .nil
  | cons h _ ih => exact .cons (h.mono hs) ih

/-- the world -/
structure Wd where
  prog : Program
  w : World
  K : Frag
  p : Program
  loose : List Str
  mean : ExcName → Option Value
  mg : Str → Option Value
  mb : Str → Option Value

/-- a frame -/
structure Fx where
  dp : Nat
  un : Nat
  gd : Option (List Code)
  cn : Str
  cs : Scope
  L : Addr
  a : Addr
  ccd : Value
  cl : List (Str × Addr)
  outer : List Env
  A₀ : Around
  base : Heap
  h₀ : Heap

noncomputable abbrev Fx.A (X : Fx) : Around := ktrTop X.dp X.un X.gd X.cn X.cs X.L X.a X.ccd X.cl X.outer
noncomputable abbrev Fx.env (X : Fx) : Env := envX X.cn X.cs X.L X.a X.ccd X.cl

structure Fx.Ok (W : Wd) (d : Nat) (X : Fx) : Prop where
  below : Below X.A₀ X.base X.outer X.h₀
  kin : W.K.In X.h₀
  top : Top W.p W.loose W.mean W.mg W.mb X.h₀
  kind : X.cs.kind = .function
  room : X.dp + d < recursionLimit
  units : X.un + 8 * d + 200 < cLine

theorem Fx.Ok.mono {W : Wd} {d d' : Nat} {X : Fx} (h : X.Ok W d) (hd : d' ≤ d) : X.Ok W d' :=
  ⟨h.below, h.kin, h.top, h.kind, by have := h.room; lia, by have := h.units; lia⟩

noncomputable def off (as : List Addr) (T : Led) : Led := T.filter fun p => !as.contains p.1
theorem mem_off {as : List Addr} {T : Led} {p : Addr × Obj} : p ∈ off as T ↔ p ∈ T ∧ p.1 ∉ as := by
  simp [off]
theorem off_mono {as : List Addr} {T T' : Led} (hs : ∀ q ∈ T, q ∈ T') : ∀ q ∈ off as T, q ∈ off as T' := fun q h =>
  mem_off.mpr ⟨hs _ (mem_off.mp h).1, (mem_off.mp h).2⟩
theorem off_sub {as : List Addr} {T : Led} : ∀ q ∈ off as T, q ∈ T := fun _ h => (mem_off.mp h).1

/-- the state: plain names, cells, the one list that is stored into -/
structure G where
  σ : List (Str × PV)
  κ : List (Str × PV) := []
  o : Option (Str × PV) := none

inductive OwnRep (T : Led) : List Addr → Value → PV → Prop
  | lst {a : Addr} {its : List Value} {n : Nat} {xs : List Int} (h : (a, listOf its.toArray n) ∈ T) (hi : IntsAre its xs) : OwnRep T [a] (.ref a) (.lst xs)
  | bls {a : Addr} {n : Nat} {xs : List Bool} (h : (a, listOf (xs.map Value.bool).toArray n) ∈ T) : OwnRep T [a] (.ref a) (.bls xs)
  | box {a b : Addr} {its : List Value} {n k : Nat} {xs : List Int} {x : Int} {t : Tok} (h : (a, listOf [Value.ref b, Value.int x t].toArray n) ∈ T) (h2 : (b, listOf its.toArray k) ∈ T)
      (hi : IntsAre its xs) (hp : ∀ y ∈ xs, 0 ≤ y) (h0 : 0 ≤ x) (hne : a ≠ b) (hlen : xs.length ≤ 30) : OwnRep T [a, b] (.ref a) .box
theorem OwnRep.mono {T T' : Led} {as : List Addr} {v : Value} {p : PV} (h : OwnRep T as v p) (hs : ∀ q ∈ T, q ∈ T') : OwnRep T' as v p := by
  cases h with
  | lst h hi => exact .lst (hs _ h) hi
  | bls h => exact .bls (hs _ h)
  | box h h2 hi hp h0 hne hlen => exact .box (hs _ h) (hs _ h2) hi hp h0 hne hlen

noncomputable def OwnO (T : Led) (m : Str → Option Value) : List Addr → Option (Str × PV) → Prop
  | as, none => as = []
  | as, some (x, p) => ∃ v, m x = some v ∧ OwnRep T as v p
theorem OwnO.mono {T T' : Led} {m : Str → Option Value} {as : List Addr} {o : Option (Str × PV)} (h : OwnO T m as o) (hs : ∀ q ∈ T, q ∈ T') : OwnO T' m as o := by
  cases o with
  | none => exact h
  | some xp => obtain ⟨v, h1, h2⟩ := h; exact ⟨v, h1, h2.mono hs⟩

noncomputable def Rl (T : Led) (σ : List (Str × PV)) (m : Str → Option Value) : Prop := ∀ y p, σ.lookup y = some p → ∃ v, m y = some v ∧ Rep T v p
theorem Rl.mono {T T' : Led} {σ : List (Str × PV)} {m : Str → Option Value} (h : Rl T σ m) (hs : ∀ q ∈ T, q ∈ T') : Rl T' σ m := fun y p e =>
  let ⟨v, h1, h2⟩ := h y p e; ⟨v, h1, h2.mono hs⟩

theorem mem_of_look {α : Type} {x : Str} {c : α} : ∀ {l : List (Str × α)}, l.lookup x = some c → (x, c) ∈ l
  | [], h => by cases h
  | (y, e) :: r, h => by
    rw [List.lookup_cons] at h
    by_cases hy : (x == y) = true
    · rw [hy] at h; cases h; rw [eq_of_beq hy]; exact .head _
    · simp only [Bool.not_eq_true] at hy
      rw [hy] at h
      exact .tail _ (mem_of_look h)
noncomputable def Cl (T : Led) (cl : List (Str × Addr)) (as : List Addr) (κ : List (Str × PV)) : Prop :=
  (∀ xc ∈ cl, ∃ ob v, (xc.2, ob) ∈ T ∧ ob.data = .cell v ∧ (∀ p, κ.lookup xc.1 = some p → ∃ u, v = some u ∧ Rep (off as T) u p)) ∧ (∀ x p, κ.lookup x = some p → (cl.lookup x).isSome = true) ∧ (cl.map (·.2)).Nodup
theorem Cl.mono {T T' : Led} {cl : List (Str × Addr)} {as : List Addr} {κ : List (Str × PV)} (h : Cl T cl as κ) (hs : ∀ q ∈ T, q ∈ T') : Cl T' cl as κ :=
  ⟨fun xc e => let ⟨ob, v, h1, h2, h3⟩ := h.1 xc e; ⟨ob, v, hs _ h1, h2, fun p hp => let ⟨u, e1, e2⟩ := h3 p hp; ⟨u, e1, e2.mono (off_mono hs)⟩⟩, h.2⟩

noncomputable def St (X : Fx) (N₀ : Led) (g : G) (m : Str → Option Value) (T : Led) : Prop :=
  ∃ as, OwnO T m as g.o ∧ (∀ a ∈ as, a ∉ X.cl.map (·.2)) ∧ (∀ p ∈ N₀, p ∈ off (X.cl.map (·.2) ++ as) T) ∧ Rl (off (X.cl.map (·.2) ++ as) T) g.σ m ∧ Cl T X.cl (X.cl.map (·.2) ++ as) g.κ
theorem St.mono {X : Fx} {N₀ : Led} {g : G} {m : Str → Option Value} {T T' : Led} (h : St X N₀ g m T) (hs : ∀ q ∈ T, q ∈ T') : St X N₀ g m T' := by
  obtain ⟨as, h1, h2, h3, h4, h5⟩ := h
  exact ⟨as, h1.mono hs, h2, fun p hp => off_mono hs _ (h3 p hp), h4.mono (off_mono hs), h5.mono hs⟩
theorem St.base {X : Fx} {N₀ : Led} {g : G} {m : Str → Option Value} {T : Led} (h : St X N₀ g m T) : ∀ p ∈ N₀, p ∈ T := by
  obtain ⟨as, h1, h2, h3, h4, h5⟩ := h
  exact fun p hp => off_sub _ (h3 p hp)

/-- what an expression's end hands on -/
noncomputable abbrev Back (X : Fx) (m : Str → Option Value) (T : Led) (s : Shared) (Q : PV → Prop) (QQ : Value → Shared → Prop) : Prop :=
  ∀ v p h' tk' T', Fr X.h₀ X.L h' m → News X.h₀ X.L h' T' → (∀ q ∈ T, q ∈ T') → Rep T' v p → Q p → QQ v { s with heap := h', toks := tk' }
noncomputable abbrev NoE : Value → Shared → Prop := fun _ _ => False

/-- a def's contract -/
noncomputable def Ct (W : Wd) (d : Nat) (f : Addr) (ps : List PV) (R : PV → Prop) : Prop :=
  ∀ (X : Fx) (s : Shared) (m : Str → Option Value) (T : Led) (vs : List Value) (QQ : Value → Shared → Prop), X.Ok W d → Fr X.h₀ X.L s.heap m → News X.h₀ X.L s.heap T → RepL T vs ps →
    Back X m T s R QQ → wpAny (model W.prog W.w) X.A (call (.ref f) vs) QQ NoE s
theorem Ct.mono {W : Wd} {d d' : Nat} {f : Addr} {ps : List PV} {R R' : PV → Prop} (h : Ct W d f ps R) (hd : d ≤ d') (hR : ∀ p, R p → R' p) : Ct W d' f ps R' := by
  intro X s m T vs QQ ok F N hr hb
  exact h X s m T vs QQ (ok.mono hd) F N hr fun v p h' tk' T' F' N' hs hp hRp => hb v p h' tk' T' F' N' hs hp (hR p hRp)

noncomputable def EV (W : Wd) (d : Nat) (X : Fx) (e : PySem.Expr) (g : G) (Q : PV → Prop) : Prop :=
  X.Ok W d → ∀ (s : Shared) (m : Str → Option Value) (T : Led) (QQ : Value → Shared → Prop), Fr X.h₀ X.L s.heap m → News X.h₀ X.L s.heap T → ∀ {N₀ : Led}, St X N₀ g m T →
    Back X m T s Q QQ → wpAny (model W.prog W.w) X.A (eval e X.env) QQ NoE s
/-- a test -/
noncomputable def TV (W : Wd) (d : Nat) (X : Fx) (e : PySem.Expr) (g : G) (Q : Bool → Prop) : Prop :=
  X.Ok W d → ∀ (s : Shared) (m : Str → Option Value) (T : Led) (QQ : Bool → Shared → Prop), Fr X.h₀ X.L s.heap m → News X.h₀ X.L s.heap T → ∀ {N₀ : Led}, St X N₀ g m T →
    (∀ b h' tk' T', Fr X.h₀ X.L h' m → News X.h₀ X.L h' T' → (∀ q ∈ T, q ∈ T') → Q b → QQ b { s with heap := h', toks := tk' }) → wpAny (model W.prog W.w) X.A (isTrue e X.env (eval e X.env)) QQ NoE s
/-- an operation on values at hand -/
noncomputable def OV (W : Wd) (d : Nat) (X : Fx) (t : List Value → Sem Value) (ps : List PV) (Q : PV → Prop) : Prop :=
  X.Ok W d → ∀ (s : Shared) (m : Str → Option Value) (T : Led) (vs : List Value) (QQ : Value → Shared → Prop), Fr X.h₀ X.L s.heap m → News X.h₀ X.L s.heap T → RepL T vs ps →
    Back X m T s Q QQ → wpAny (model W.prog W.w) X.A (t vs) QQ NoE s
noncomputable abbrev two (f : Value → Value → Sem Value) : List Value → Sem Value
  | [a, b] => f a b
  | _ => .unsupported ""
noncomputable abbrev one (f : Value → Sem Value) : List Value → Sem Value
  | [a] => f a
  | _ => .unsupported ""

section
variable {W : Wd} {d : Nat} {X : Fx} {g : G} {Q : PV → Prop}

theorem EV.mono {e : PySem.Expr} {Q' : PV → Prop} (h : EV W d X e g Q) (hQ : ∀ p, Q p → Q' p) : EV W d X e g Q' := by
  intro ok s m T QQ F N N₀ S hb
  exact h ok s m T QQ F N S fun v p h' tk' T' F' N' hs hr hq => hb v p h' tk' T' F' N' hs hr (hQ p hq)

theorem EV.int {i : Int} {k : Nat} {pos : Pos} (h : Q (.int i)) : EV W d X (.Constant (.int i) k pos) g Q := by
  intro ok s m T QQ F N N₀ S hb
  exact wpAny_Constant_int (hb _ _ _ _ _ F N (fun _ h => h) .int h)
theorem EV.tt {b : Bool} {k : Nat} {pos : Pos} (h : Q (.bool b)) : EV W d X (.Constant (.bool b) k pos) g Q := by
  intro ok s m T QQ F N N₀ S hb
  exact wpAny_Constant_bool (hb _ _ _ _ _ F N (fun _ h => h) .bool h)

theorem EV.name {x : Str} {pos : Pos} {p : PV} (hl : g.σ.lookup x = some p) (h : Q p) (hk : X.env.kindOf x = some .local := by rfl) (hd : (x == ("__debug__" : Str)) = false := by decide) :
    EV W d X (.Name x pos) g Q := by
  intro ok s m T QQ F N N₀ S hb
  obtain ⟨as, h1, h2, h3, h4, h5⟩ := S
  obtain ⟨v, hm, hr⟩ := h4 x p hl
  exact nameX_L F hm (hb _ _ _ _ _ F N (fun _ h => h) (hr.mono off_sub) h) ok.kind hk hd
theorem OwnRep.rep {T : Led} {as : List Addr} {v : Value} {p : PV} (h : OwnRep T as v p) (hp : p ≠ .box) : Rep T v p := by
  cases h with
  | lst h hi => exact .lst h hi
  | bls h => exact .bls h
  | box => exact absurd rfl hp
theorem EV.own {x : Str} {pos : Pos} {p : PV} (hl : g.o = some (x, p)) (h : Q p) (hp : p ≠ .box := by nofun) (hk : X.env.kindOf x = some .local := by rfl) (hd : (x == ("__debug__" : Str)) = false := by decide) :
    EV W d X (.Name x pos) g Q := by
  intro ok s m T QQ F N N₀ S hb
  obtain ⟨as, h1, h2, h3, h4, h5⟩ := S
  rw [hl] at h1
  obtain ⟨v, hm, hr⟩ := h1
  exact nameX_L F hm (hb _ _ _ _ _ F N (fun _ h => h) (hr.rep hp) h) ok.kind hk hd
theorem EV.cell {x : Str} {pos : Pos} {p : PV} (hl : g.κ.lookup x = some p) (h : Q p) (hk : X.env.kindOf x = some .cell := by rfl) (hd : (x == ("__debug__" : Str)) = false := by decide) :
    EV W d X (.Name x pos) g Q := by
  intro ok s m T QQ F N N₀ S hb
  obtain ⟨as, h1, h2, h3, h4, h5⟩ := S
  obtain ⟨c, hc⟩ := Option.isSome_iff_exists.mp (h5.2.1 x p hl)
  obtain ⟨ob, v, hm, hd', hv⟩ := h5.1 _ (mem_of_look hc)
  obtain ⟨u, rfl, hr⟩ := hv p hl
  exact nameX_C N hc hm hd' (hb _ _ _ _ _ F N (fun _ h => h) (hr.mono off_sub) h) ok.kind hk hd

theorem EV.glob {x : Str} {pos : Pos} {f : Addr} (hl : nsIn W.K mainGlobals x = some (some (.ref f))) (h : Q (.fn f)) (hk : X.env.kindOf x = some .globalImplicit := by rfl) (hd : (x == ("__debug__" : Str)) = false := by decide) :
    EV W d X (.Name x pos) g Q := by
  intro ok s m T QQ F N N₀ S hb
  exact nameX_K F ok.kin (topRead_of ok.top) hl (hb _ _ _ _ _ F N (fun _ h => h) .fn h) ok.kind hk hd

theorem EV.binop {l r : PySem.Expr} {op : Operator} {pos : Pos} (h : EV W d X l g fun a => EV W d X r g fun b => OV W d X (two (binaryOp op)) [a, b] Q) : EV W d X (.BinOp l op r pos) g Q := by
  intro ok s m T QQ F N N₀ S hb
  refine wpAny_BinOp (h ok s m T _ F N S fun a p h1 t1 T1 F1 N1 hs1 r1 q1 => ?_)
  refine q1 ok _ m T1 _ F1 N1 (S.mono hs1) fun b p2 h2 t2 T2 F2 N2 hs2 r2 q2 => ?_
  exact q2 ok _ m T2 [a, b] QQ F2 N2 (.cons (r1.mono hs2) (.cons r2 .nil)) fun v p h' tk' T' F' N' hs hr hq => hb v p h' tk' T' F' N' (fun q hq => hs _ (hs2 _ (hs1 _ hq))) hr hq
theorem EV.unop {x : PySem.Expr} {op : UnaryOp} {pos : Pos} (h : EV W d X x g fun a => OV W d X (one (unaryOp op)) [a] Q) : EV W d X (.UnaryOp op x pos) g Q := by
  intro ok s m T QQ F N N₀ S hb
  refine wpAny_UnaryOp (h ok s m T _ F N S fun a p h1 t1 T1 F1 N1 hs1 r1 q1 => ?_)
  exact q1 ok _ m T1 [a] QQ F1 N1 (.cons r1 .nil) fun v p h' tk' T' F' N' hs hr hq => hb v p h' tk' T' F' N' (fun q hq => hs _ (hs1 _ hq)) hr hq
theorem EV.cmp {l r : PySem.Expr} {op : CmpOp} {pos : Pos} (h : EV W d X l g fun a => EV W d X r g fun b => OV W d X (two (compareOp op)) [a, b] Q)
    (hm : behindInMarks op r = false := by with_unfolding_all rfl) : EV W d X (.Compare l [op] [r] pos) g Q := by
  intro ok s m T QQ F N N₀ S hb
  refine wpAny_Compare1 (h ok s m T _ F N S fun a p h1 t1 T1 F1 N1 hs1 r1 q1 => ?_) hm
  refine q1 ok _ m T1 _ F1 N1 (S.mono hs1) fun b p2 h2 t2 T2 F2 N2 hs2 r2 q2 => ?_
  exact q2 ok _ m T2 [a, b] QQ F2 N2 (.cons (r1.mono hs2) (.cons r2 .nil)) fun v p h' tk' T' F' N' hs hr hq => hb v p h' tk' T' F' N' (fun q hq => hs _ (hs2 _ (hs1 _ hq))) hr hq

theorem EV.ite {test a b : PySem.Expr} {pos : Pos} (h : TV W d X test g fun c => if c = true then EV W d X a g Q else EV W d X b g Q) : EV W d X (.IfExp test a b pos) g Q := by
  intro ok s m T QQ F N N₀ S hb
  refine wpAny_IfExp (h ok s m T _ F N S fun c h1 t1 T1 F1 N1 hs1 q1 => ?_)
  cases c with
  | true => exact q1 ok _ m T1 QQ F1 N1 (S.mono hs1) fun v p h' tk' T' F' N' hs hr hq => hb v p h' tk' T' F' N' (fun q hq => hs _ (hs1 _ hq)) hr hq
  | false => exact q1 ok _ m T1 QQ F1 N1 (S.mono hs1) fun v p h' tk' T' F' N' hs hr hq => hb v p h' tk' T' F' N' (fun q hq => hs _ (hs1 _ hq)) hr hq

theorem truthy_rep {s : Shared} {A : Around} {v : Value} {b : Bool} {T : Led} {QQ : Bool → Shared → Prop} (hr : Rep T v (.bool b)) (h : QQ b s) : wpAny (model W.prog W.w) A (truthy v) QQ NoE s := by
  cases hr
  exact wpAny_truthy_bool h
theorem TV.cmp {l r : PySem.Expr} {op : CmpOp} {pos : Pos} {Q : Bool → Prop} (h : EV W d X l g fun a => EV W d X r g fun b => OV W d X (two (compareOp op)) [a, b] fun p => ∃ c, p = .bool c ∧ Q c)
    (hm : behindInMarks op r = false := by with_unfolding_all rfl) : TV W d X (.Compare l [op] [r] pos) g Q := by
  intro ok s m T QQ F N N₀ S hb
  refine wpAny_isTrue_Compare1 (h ok s m T _ F N S fun a p h1 t1 T1 F1 N1 hs1 r1 q1 => ?_) hm
  refine q1 ok _ m T1 _ F1 N1 (S.mono hs1) fun b p2 h2 t2 T2 F2 N2 hs2 r2 q2 => ?_
  refine q2 ok _ m T2 [a, b] _ F2 N2 (.cons (r1.mono hs2) (.cons r2 .nil)) fun v p h' tk' T' F' N' hs hr hq => ?_
  obtain ⟨c, rfl, hc⟩ := hq
  exact truthy_rep hr (hb c h' tk' T' F' N' (fun q hq => hs _ (hs2 _ (hs1 _ hq))) hc)
theorem TV.val {e : PySem.Expr} {Q : Bool → Prop} (h : EV W d X e g fun p => ∃ c, p = .bool c ∧ Q c)
    (he : ∀ env : Env, isTrue e env (eval e env) = (do let v ← eval e env; standAt e.pos; holding [v] (truthy v)) := by intro _; rfl) : TV W d X e g Q := by
  intro ok s m T QQ F N N₀ S hb
  refine isTrue_plain (h ok s m T _ F N S fun v p h1 t1 T1 F1 N1 hs1 r1 q1 => ?_) (he _)
  obtain ⟨c, rfl, hc⟩ := q1
  exact truthy_rep r1 (hb c h1 t1 T1 F1 N1 hs1 hc)
theorem TV.not {x : PySem.Expr} {pos : Pos} {Q : Bool → Prop} (h : TV W d X x g fun c => Q (!c)) : TV W d X (.UnaryOp .Not x pos) g Q := by
  intro ok s m T QQ F N N₀ S hb
  exact isTrue_not (h ok s m T _ F N S fun c h1 t1 T1 F1 N1 hs1 q1 => hb _ h1 t1 T1 F1 N1 hs1 q1)
theorem TV.and_nil {pos : Pos} {Q : Bool → Prop} (h : Q true) : TV W d X (.BoolOp .And [] pos) g Q := by
  intro ok s m T QQ F N N₀ S hb
  exact isTrue_and_nil (hb _ _ _ _ F N (fun _ h => h) h)
theorem TV.or_nil {pos : Pos} {Q : Bool → Prop} (h : Q false) : TV W d X (.BoolOp .Or [] pos) g Q := by
  intro ok s m T QQ F N N₀ S hb
  exact isTrue_or_nil (hb _ _ _ _ F N (fun _ h => h) h)
theorem TV.and {x : PySem.Expr} {rest : List PySem.Expr} {pos : Pos} {Q : Bool → Prop} (h : TV W d X x g fun c => if c = true then TV W d X (.BoolOp .And rest pos) g Q else Q false) : TV W d X (.BoolOp .And (x :: rest) pos) g Q := by
  intro ok s m T QQ F N N₀ S hb
  refine isTrue_and (h ok s m T _ F N S fun c h1 t1 T1 F1 N1 hs1 q1 => ?_)
  cases c with
  | false => exact hb _ _ _ _ F1 N1 hs1 q1
  | true => exact q1 ok _ m T1 QQ F1 N1 (S.mono hs1) fun b h' tk' T' F' N' hs hq => hb b h' tk' T' F' N' (fun q hq => hs _ (hs1 _ hq)) hq
theorem TV.or {x : PySem.Expr} {rest : List PySem.Expr} {pos : Pos} {Q : Bool → Prop} (h : TV W d X x g fun c => if c = true then Q true else TV W d X (.BoolOp .Or rest pos) g Q) : TV W d X (.BoolOp .Or (x :: rest) pos) g Q := by
  intro ok s m T QQ F N N₀ S hb
  refine isTrue_or (h ok s m T _ F N S fun c h1 t1 T1 F1 N1 hs1 q1 => ?_)
  cases c with
  | true => exact hb _ _ _ _ F1 N1 hs1 q1
  | false => exact q1 ok _ m T1 QQ F1 N1 (S.mono hs1) fun b h' tk' T' F' N' hs hq => hb b h' tk' T' F' N' (fun q hq => hs _ (hs1 _ hq)) hq
end
/-- arguments in a row -/
noncomputable def ES (W : Wd) (d : Nat) (X : Fx) (pos : Pos) (es : List PySem.Expr) (g : G) (Q : List PV → Prop) : Prop :=
  X.Ok W d → ∀ (s : Shared) (m : Str → Option Value) (T : Led) (QQ : List Value → Shared → Prop), Fr X.h₀ X.L s.heap m → News X.h₀ X.L s.heap T → ∀ {N₀ : Led}, St X N₀ g m T →
    (∀ vs ps h' tk' T', Fr X.h₀ X.L h' m → News X.h₀ X.L h' T' → (∀ q ∈ T, q ∈ T') → RepL T' vs ps → Q ps → QQ vs { s with heap := h', toks := tk' }) → wpAny (model W.prog W.w) X.A (spliced (backTo pos (starEach es X.env))) QQ NoE s

theorem IsL_of {X : Fx} {h : Heap} {T : Led} {a : Addr} {its : List Value} {n : Nat} (N : News X.h₀ X.L h T) (hm : (a, listOf its.toArray n) ∈ T) : h.IsList a its.toArray := ⟨_, (N _ hm).1, rfl, n, rfl⟩
theorem IsT_of {X : Fx} {h : Heap} {T : Led} {a : Addr} {vs : List Value} (N : News X.h₀ X.L h T) (hm : (a, tupOf vs) ∈ T) : IsTup h a vs.toArray := ⟨_, (N _ hm).1, rfl, _, rfl⟩
theorem IntsAre.get? {vs : List Value} {ns : List Int} (h : IntsAre vs ns) : ∀ {k : Nat} {i : Int}, ns[k]? = some i → ∃ t, vs[k]? = some (.int i t) := by
  induction h with
  | nil => intro k i h; simp at h
  | cons n t h ih =>
    intro k i hk
    cases k with
    | zero => simp at hk; subst hk; exact ⟨t, rfl⟩
    | succ k => simpa using ih (by simpa using hk)

section
variable {W : Wd} {d : Nat} {X : Fx} {g : G} {Q : PV → Prop}
theorem ES.nil {pos : Pos} {Q : List PV → Prop} (h : Q []) : ES W d X pos [] g Q := by
  intro ok s m T QQ F N N₀ S hb
  exact spliced_none (hb _ _ _ _ _ F N (fun _ h => h) .nil h)
theorem ES.cons {pos : Pos} {e : PySem.Expr} {rest : List PySem.Expr} {Q : List PV → Prop} (h : EV W d X e g fun p => ES W d X pos rest g fun ps => Q (p :: ps))
    (he : ∀ env : Env, starEach (e :: rest) env = (false, eval e env) :: starEach rest env := by intro _; rfl) : ES W d X pos (e :: rest) g Q := by
  intro ok s m T QQ F N N₀ S hb
  refine spliced_more (h ok s m T _ F N S fun v p h1 t1 T1 F1 N1 hs1 r1 q1 => ?_) (he _)
  exact q1 ok _ m T1 _ F1 N1 (S.mono hs1) fun vs ps h' tk' T' F' N' hs hr hq => hb (v :: vs) (p :: ps) h' tk' T' F' N' (fun q hq => hs _ (hs1 _ hq)) (.cons (r1.mono hs) hr) hq

theorem EV.call {x : Str} {fpos pos : Pos} {e : PySem.Expr} {rest : List PySem.Expr}
    (h : EV W d X (.Name x fpos) g fun p => ∃ a, p = .fn a ∧ keepIn W.K (.ref a) = true ∧ ES W d X pos (e :: rest) g fun ps => ∃ R, Ct W d a ps R ∧ ∀ r, R r → Q r)
    (he : ∀ env : Env, starEach (e :: rest) env = (false, eval e env) :: starEach rest env := by intro _; rfl)
    (hp : ∀ env : Env, (backTo pos (starEach rest env)).any (·.1) = false := by intro _; rfl)
    (hc : ∀ env : Env, eval (.Call (.Name x fpos) (e :: rest) [] pos) env = (do callWith pos (← eval (.Name x fpos) env) [] (backTo pos (starEach (e :: rest) env)) (backToKw pos (keywordEach [] env))) := by intro _; rfl) :
    EV W d X (.Call (.Name x fpos) (e :: rest) [] pos) g Q := by
  intro ok s m T QQ F N N₀ S hb
  refine Call_ (h ok s m T _ F N S fun v p h1 t1 T1 F1 N1 hs1 r1 q1 => ?_) (hc _)
  obtain ⟨a, rfl, hka, q1⟩ := q1
  cases r1
  refine callWith_K ok.kin hka (q1 ok { s with heap := h1, toks := t1 } m T1 _ F1 N1 (S.mono hs1) fun vs ps h' tk' T' F' N' hs hr hq => ?_) (he _) (hp _)
  obtain ⟨R, hf, hR⟩ := hq
  refine ⟨ok.kin.keeps F'.keep, ?_⟩
  exact hf X { s with heap := h', toks := tk' } m T' vs QQ ok F' N' hr fun v p h2 t2 T2 F2 N2 hs2 hr2 hq2 => hb v p h2 t2 T2 F2 N2 (fun q hq => hs2 _ (hs _ (hs1 _ hq))) hr2 (hR _ hq2)

/-! operations -/
theorem OV.of2 {t : List Value → Sem Value} {p q : PV} (H : ∀ (ok : X.Ok W d) (s : Shared) (m : Str → Option Value) (T : Led) (v w : Value) (QQ : Value → Shared → Prop), Fr X.h₀ X.L s.heap m → News X.h₀ X.L s.heap T → Rep T v p → Rep T w q →
    Back X m T s Q QQ → wpAny (model W.prog W.w) X.A (t [v, w]) QQ NoE s) : OV W d X t [p, q] Q := by
  intro ok s m T vs QQ F N hr hb
  cases hr with | cons h1 hr => cases hr with | cons h2 hr => cases hr; exact H ok s m T _ _ QQ F N h1 h2 hb
theorem OV.of1 {t : List Value → Sem Value} {p : PV} (H : ∀ (ok : X.Ok W d) (s : Shared) (m : Str → Option Value) (T : Led) (v : Value) (QQ : Value → Shared → Prop), Fr X.h₀ X.L s.heap m → News X.h₀ X.L s.heap T → Rep T v p →
    Back X m T s Q QQ → wpAny (model W.prog W.w) X.A (t [v]) QQ NoE s) : OV W d X t [p] Q := by
  intro ok s m T vs QQ F N hr hb
  cases hr with | cons h1 hr => cases hr; exact H ok s m T _ QQ F N h1 hb
theorem OV.ii {t : List Value → Sem Value} {a b : Int} (H : ∀ (s : Shared) (m : Str → Option Value) (T : Led) (u v : Tok) (QQ : Value → Shared → Prop), (∀ p t tk, Rep T (.int p t) (.int p) → Q (.int p) → QQ (.int p t) { s with toks := tk }) →
    (∀ c tk, Q (.bool c) → QQ (.bool c) { s with toks := tk }) → wpAny (model W.prog W.w) X.A (t [.int a u, .int b v]) QQ NoE s) : OV W d X t [.int a, .int b] Q := by
  refine OV.of2 fun ok s m T v w QQ F N h1 h2 hb => ?_
  cases h1; cases h2
  exact H s m T _ _ QQ (fun p t tk hr hq => hb _ _ _ _ T F N (fun _ h => h) hr hq) fun c tk hq => hb _ _ _ _ T F N (fun _ h => h) .bool hq

theorem OV.add {a b : Int} (h : Q (.int (a + b))) : OV W d X (two (binaryOp .Add)) [.int a, .int b] Q :=
  OV.ii fun s m T u v QQ hb _ => add_int (hb _ _ _ .int h)
theorem OV.sub {a b : Int} (h : Q (.int (a - b))) : OV W d X (two (binaryOp .Sub)) [.int a, .int b] Q :=
  OV.ii fun s m T u v QQ hb _ => sub_int (hb _ _ _ .int h)
theorem OV.mul {a b : Int} (hm : IntMulOk a b) (h : Q (.int (a * b))) : OV W d X (two (binaryOp .Mult)) [.int a, .int b] Q :=
  OV.ii fun s m T u v QQ hb _ => mul_int (hb _ _ _ .int h) hm
theorem noPy {a b : Int} (h0 : 0 < b) (h1 : b < 2 ^ 64) : Builtin.divisionGoesByPylong a b = false := by
  refine PyProof.noPylong_of_log2 ?_
  have h2 : b.natAbs < 2 ^ 64 := by omega
  have h3 : b.natAbs.log2 < 64 := (Nat.log2_lt (by grind -ring -splitIte)).mpr h2
  lia
theorem OV.fdiv {a b : Int} (h0 : 0 < b) (h1 : b < 2 ^ 64) (h : Q (.int (a / b))) : OV W d X (two (binaryOp .FloorDiv)) [.int a, .int b] Q :=
  OV.ii fun s m T u v QQ hb _ => floordiv_int (by lia) (by rw [Int.fdiv_eq_ediv_of_nonneg _ (by lia)]; exact hb _ _ _ .int h) (.inl (noPy h0 h1))
theorem OV.mod {a b : Int} (h0 : 0 < b) (h : Q (.int (a % b))) : OV W d X (two (binaryOp .Mod)) [.int a, .int b] Q :=
  OV.ii fun s m T u v QQ hb _ => mod_int' (by lia) (by rw [Int.fmod_eq_emod_of_nonneg _ (by lia)]; exact hb _ _ _ .int h)
theorem OV.shl {a n : Int} (h0 : 0 ≤ n) (h1 : n ≤ 1000000) (ha : a.natAbs < 2 ^ 64) (h : Q (.int (a * 2 ^ n.toNat))) : OV W d X (two (binaryOp .LShift)) [.int a, .int n] Q :=
  OV.ii fun s m T u v QQ hb _ => lshift_int_small h0 h1 ha (hb _ _ _ .int h)
theorem OV.shr {a n : Int} (h0 : 0 ≤ n) (h : Q (.int (a / 2 ^ n.toNat))) : OV W d X (two (binaryOp .RShift)) [.int a, .int n] Q :=
  OV.ii fun s m T u v QQ hb _ => rshift_int h0 (by rw [Int.fdiv_eq_ediv_of_nonneg _ (Int.le_of_lt (Int.pow_pos (by decide)))]; exact hb _ _ _ .int h)
theorem OV.band {a b : Int} (h : Q (.int (Builtin.bitAnd a b))) : OV W d X (two (binaryOp .BitAnd)) [.int a, .int b] Q :=
  OV.ii fun s m T u v QQ hb _ => and_int (hb _ _ _ .int h)
theorem OV.bor {a b : Int} (h : Q (.int (Builtin.bitOr a b))) : OV W d X (two (binaryOp .BitOr)) [.int a, .int b] Q :=
  OV.ii fun s m T u v QQ hb _ => or_int (hb _ _ _ .int h)
theorem OV.iadd {a b : Int} (h : Q (.int (a + b))) : OV W d X (two (inplaceOp .Add)) [.int a, .int b] Q :=
  OV.ii fun s m T u v QQ hb _ => iadd_int (hb _ _ _ .int h)
theorem OV.isub {a b : Int} (h : Q (.int (a - b))) : OV W d X (two (inplaceOp .Sub)) [.int a, .int b] Q :=
  OV.ii fun s m T u v QQ hb _ => isub_int (hb _ _ _ .int h)
theorem OV.imod {a b : Int} (h0 : 0 < b) (h : Q (.int (a % b))) : OV W d X (two (inplaceOp .Mod)) [.int a, .int b] Q :=
  OV.ii fun s m T u v QQ hb _ => imod_int (by omega) (by rw [Int.fmod_eq_emod_of_nonneg _ (by omega)]; exact hb _ _ _ .int h)
theorem OV.ishr {a n : Int} (h0 : 0 ≤ n) (h : Q (.int (a / 2 ^ n.toNat))) : OV W d X (two (inplaceOp .RShift)) [.int a, .int n] Q :=
  OV.ii fun s m T u v QQ hb _ => irshift_int h0 (by rw [Int.fdiv_eq_ediv_of_nonneg _ (Int.le_of_lt (Int.pow_pos (by decide)))]; exact hb _ _ _ .int h)
theorem OV.ibor {a b : Int} (h : Q (.int (Builtin.bitOr a b))) : OV W d X (two (inplaceOp .BitOr)) [.int a, .int b] Q :=
  OV.ii fun s m T u v QQ hb _ => ior_int (hb _ _ _ .int h)
theorem OV.neg {a : Int} (h : Q (.int (-a))) : OV W d X (one (unaryOp .USub)) [.int a] Q := by
  refine OV.of1 fun ok s m T v QQ F N h1 hb => ?_
  cases h1
  exact neg_int (hb _ _ _ _ T F N (fun _ h => h) .int h)
theorem OV.lt {a b : Int} (h : Q (.bool (decide (a < b)))) : OV W d X (two (compareOp .Lt)) [.int a, .int b] Q := OV.ii fun s m T u v QQ _ hb => lt_int (hb _ _ h)
theorem OV.le {a b : Int} (h : Q (.bool (decide (a ≤ b)))) : OV W d X (two (compareOp .LtE)) [.int a, .int b] Q := OV.ii fun s m T u v QQ _ hb => le_int (hb _ _ h)
theorem OV.gt {a b : Int} (h : Q (.bool (decide (b < a)))) : OV W d X (two (compareOp .Gt)) [.int a, .int b] Q := OV.ii fun s m T u v QQ _ hb => gt_int (hb _ _ h)
theorem OV.ge {a b : Int} (h : Q (.bool (decide (b ≤ a)))) : OV W d X (two (compareOp .GtE)) [.int a, .int b] Q := OV.ii fun s m T u v QQ _ hb => ge_int (hb _ _ h)
theorem beq_dec (a b : Int) : (a == b) = decide (a = b) := by by_cases h : a = b <;> simp [h]
theorem bne_dec (a b : Int) : (a != b) = decide (a ≠ b) := by by_cases h : a = b <;> simp [h]
theorem OV.eq {a b : Int} (h : Q (.bool (decide (a = b)))) : OV W d X (two (compareOp .Eq)) [.int a, .int b] Q := OV.ii fun s m T u v QQ _ hb => eq_int (by rw [beq_dec]; exact hb _ _ h)
theorem OV.ne {a b : Int} (h : Q (.bool (decide (a ≠ b)))) : OV W d X (two (compareOp .NotEq)) [.int a, .int b] Q := OV.ii fun s m T u v QQ _ hb => ne_int (by rw [bne_dec]; exact hb _ _ h)
theorem OV.eqL {xs ys : List Int} (h : Q (.bool (decide (xs = ys)))) : OV W d X (two (compareOp .Eq)) [.lst xs, .lst ys] Q := by
  refine OV.of2 fun ok s m T v w QQ F N h1 h2 hb => ?_
  cases h1 with | lst m1 i1 => cases h2 with | lst m2 i2 =>
  exact ke_eq_ints (IsL_of N m1) (IsL_of N m2) i1 i2 (by have := ok.units; show X.un + 64 < cLine; lia) (hb _ _ _ _ T F N (fun _ h => h) .bool h)
theorem OV.neL {xs ys : List Int} (h : Q (.bool (decide (xs ≠ ys)))) : OV W d X (two (compareOp .NotEq)) [.lst xs, .lst ys] Q := by
  refine OV.of2 fun ok s m T v w QQ F N h1 h2 hb => ?_
  cases h1 with | lst m1 i1 => cases h2 with | lst m2 i2 =>
  refine ke_ne_ints (IsL_of N m1) (IsL_of N m2) i1 i2 (by have := ok.units; show X.un + 64 < cLine; omega) ?_
  have e : (!decide (xs = ys)) = decide (xs ≠ ys) := by by_cases h : xs = ys <;> simp [h]
  rw [e]
  exact hb _ _ _ _ T F N (fun _ h => h) .bool h
theorem OV.cat {xs ys : List Int} (hl : xs.length + ys.length ≤ 1000000) (h : Q (.lst (xs ++ ys))) : OV W d X (two (binaryOp .Add)) [.lst xs, .lst ys] Q := by
  refine OV.of2 fun ok s m T v w QQ F N h1 h2 hb => ?_
  cases h1 with | lst m1 i1 => cases h2 with | lst m2 i2 =>
  exact add_lists_ints F N (IsL_of N m1) (IsL_of N m2) i1 i2 (fun h' F' N' hi => hb _ _ _ _ _ F' N' (fun _ h => .tail _ h) (.lst (n := 0) (.head _) hi) h) (by rw [sizeLine_eq]; lia)
theorem foldl_rep (v : Value) : ∀ (n : Nat) (acc : Array Value), List.foldl (fun x1 x2 => x1 ++ x2) acc (List.replicate n #[v]) = acc ++ (List.replicate n v).toArray
  | 0, acc => by simp
  | n + 1, acc => by
    rw [List.replicate_succ, List.foldl_cons, foldl_rep v n]
    apply Array.toList_inj.mp
    simp [List.replicate_succ]
theorem intsAre_rep (i : Int) (t : Tok) : ∀ n : Nat, IntsAre (List.replicate n (.int i t)) (List.replicate n i)
  | 0 => .nil
  | n + 1 => .cons i t (intsAre_rep i t n)
theorem OV.rep {i n : Int} (h0 : 0 ≤ n) (hl : n ≤ 1000000) (h : Q (.lst (List.replicate n.toNat i))) : OV W d X (two (binaryOp .Mult)) [.lst [i], .int n] Q := by
  refine OV.of2 fun ok s m T v w QQ F N h1 h2 hb => ?_
  cases h2
  cases h1 with | lst m1 i1 =>
  cases i1 with | cons _ t i1 =>
  cases i1
  refine mul_list F N (N _ m1).1 (by lia) (by lia) (by simp; lia) fun h' F' N' => ?_
  have e : List.foldl (fun x1 x2 => x1 ++ x2) #[] (List.replicate (if ([Value.int i t].toArray).isEmpty = true then 0 else n.toNat) [Value.int i t].toArray) = (List.replicate n.toNat (Value.int i t)).toArray := by
    have := foldl_rep (.int i t) n.toNat #[]
    simpa using this
  rw [e] at N'
  exact hb _ _ _ _ _ F' N' (fun _ h => .tail _ h) (.lst (n := 0) (.head _) (intsAre_rep i t _)) h
theorem OV.repB {i : Bool} {n : Int} (h0 : 0 ≤ n) (hl : n ≤ 1000000) (h : Q (.bls (List.replicate n.toNat i))) : OV W d X (two (binaryOp .Mult)) [.bls [i], .int n] Q := by
  refine OV.of2 fun ok s m T v w QQ F N h1 h2 hb => ?_
  cases h2
  cases h1 with | bls m1 =>
  refine mul_list F N (N _ m1).1 (by omega) (by omega) (by simp; omega) fun h' F' N' => ?_
  have e : List.foldl (fun x1 x2 => x1 ++ x2) #[] (List.replicate (if ((List.map Value.bool [i]).toArray).isEmpty = true then 0 else n.toNat) (List.map Value.bool [i]).toArray) = (List.map Value.bool (List.replicate n.toNat i)).toArray := by
    have := foldl_rep (.bool i) n.toNat #[]
    simpa using this
  rw [e] at N'
  exact hb _ _ _ _ _ F' N' (fun _ h => .tail _ h) (.bls (n := 0) (.head _)) h
end
section
variable {W : Wd} {d : Nat} {X : Fx} {g : G} {Q : PV → Prop}
/-- a built-in function's name -/
theorem bname {x : Str} {pos : Pos} {v : Value} {s : Shared} {m : Str → Option Value} {QQ : Value → Shared → Prop} (ok : X.Ok W d) (F : Fr X.h₀ X.L s.heap m) (hl : nsIn W.K mainGlobals x = some none) (hv : bootBuiltins x = some v) (hn : x ≠ "__name__") (h : QQ v s)
    (hk : X.env.kindOf x = some .globalImplicit) (hd : (x == ("__debug__" : Str)) = false := by decide) : wpAny (model W.prog W.w) X.A (eval (.Name x pos) X.env) QQ NoE s :=
  nameX_B F ok.kin (topRead_of ok.top) hl hv hn h ok.kind hk hd

theorem EV.len {fpos pos : Pos} {e : PySem.Expr} (hl : nsIn W.K mainGlobals (Str.ofString "len") = some none) (h : EV W d X e g fun p => ∃ xs, p = .lst xs ∧ xs.length < 2 ^ 62 ∧ Q (.int xs.length))
    (hk : X.env.kindOf (Str.ofString "len") = some .globalImplicit := by rfl)
    (he : ∀ env : Env, starEach [e] env = [(false, eval e env)] := by intro _; rfl)
    (hc : ∀ env : Env, eval (.Call (.Name (Str.ofString "len") fpos) [e] [] pos) env = (do callWith pos (← eval (.Name (Str.ofString "len") fpos) env) [] (backTo pos (starEach [e] env)) (backToKw pos (keywordEach [] env))) := by intro _; rfl) :
    EV W d X (.Call (.Name (Str.ofString "len") fpos) [e] [] pos) g Q := by
  intro ok s m T QQ F N N₀ S hb
  refine Call_ (bname ok F hl (v := .builtin "len") (by boot_by_name) (by decide) ?_ hk) (hc _)
  rw [he]
  refine Calls.callWith_builtin rfl (Calls.evalArgs_plain (Calls.spliced_cons (h ok s m T _ F N S fun v p h1 t1 T1 F1 N1 hs1 r1 q1 => Calls.spliced_nil ?_)))
  obtain ⟨xs, rfl, hlt, hq⟩ := q1
  cases r1 with | lst hm hi =>
  have hlen := hi.length
  refine len_list (IsL_of N1 hm) (by rw [List.size_toArray, hlen]; lia) ?_
  rw [List.size_toArray, hlen]
  exact hb _ _ _ _ T1 F1 N1 hs1 .int hq

theorem EV.bitlen {apos pos : Pos} {o : PySem.Expr} {pl : Env → Sem Bool} (h : EV W d X o g fun p => ∃ i, p = .int i ∧ Q (.int (Builtin.Int.intBits i)))
    (he : ∀ env : Env, eval (.Call (.Attribute o (Str.ofString "bit_length") apos) [] [] pos) env = (do
      let ov ← eval o env
      standAt apos.atName
      let (f, first) ← holding [ov] (getMethod ov (Str.ofString "bit_length") (pl env))
      callWith pos f first (backTo pos (starEach [] env)) []) := by intro _; rfl) :
    EV W d X (.Call (.Attribute o (Str.ofString "bit_length") apos) [] [] pos) g Q := by
  intro ok s m T QQ F N N₀ S hb
  refine MethodCall_ (pl := pl X.env) (h ok s m T _ F N S fun v p h1 t1 T1 F1 N1 hs1 r1 q1 => ?_) (he _)
  obtain ⟨i, rfl, hq⟩ := q1
  cases r1
  refine getMethod_int_bit_length ?_
  refine callWith_method0 (call_int_bit_length ?_)
  exact hb _ _ _ _ T1 F1 N1 hs1 .int hq

theorem EV.list {fpos pos : Pos} {e : PySem.Expr} (hl : nsIn W.K mainGlobals (Str.ofString "list") = some none) (h : EV W d X e g fun p => ∃ xs, p = .lst xs ∧ xs.length ≤ 1000000 ∧ Q (.lst xs))
    (hk : X.env.kindOf (Str.ofString "list") = some .globalImplicit := by rfl)
    (he : ∀ env : Env, starEach [e] env = [(false, eval e env)] := by intro _; rfl)
    (hc : ∀ env : Env, eval (.Call (.Name (Str.ofString "list") fpos) [e] [] pos) env = (do callWith pos (← eval (.Name (Str.ofString "list") fpos) env) [] (backTo pos (starEach [e] env)) (backToKw pos (keywordEach [] env))) := by intro _; rfl) :
    EV W d X (.Call (.Name (Str.ofString "list") fpos) [e] [] pos) g Q := by
  intro ok s m T QQ F N N₀ S hb
  refine Call_ (bname ok F hl (v := .type "list") (by boot_by_name) (by decide) ?_ hk) (hc _)
  rw [he]
  refine PySem.callWith_type rfl (Calls.evalArgs_plain (Calls.spliced_cons (h ok s m T _ F N S fun v p h1 t1 T1 F1 N1 hs1 r1 q1 => Calls.spliced_nil ?_)))
  obtain ⟨xs, rfl, hlt, hq⟩ := q1
  cases r1 with | lst hm hi =>
  refine list_copyK F1 N1 (IsL_of N1 hm) (fun D c h' F' N' _ => ?_) (by rw [List.size_toArray, hi.length, sizeLine_eq]; lia)
  exact hb _ _ _ _ _ F' N' (fun q hq => .tail _ (hs1 _ hq)) (.lst (.head _) hi) hq

theorem EV.item {value slice : PySem.Expr} {pos : Pos} (h : EV W d X value g fun p => EV W d X slice g fun q => (∃ xs k, p = .lst xs ∧ q = .int k ∧ xs.length ≤ 1000000 ∧ 0 ≤ k ∧ ∃ x, xs[k.toNat]? = some x ∧ Q (.int x)))
    (hs : ∀ (a : Addr) (k : Int) (u : Tok), subscripted slice false (.ref a) (.int k u) = operate [.ref a, .int k u] (getItem (.ref a) (.int k u)) := by intro _ _ _; with_unfolding_all rfl) :
    EV W d X (.Subscript value slice pos) g Q := by
  intro ok s m T QQ F N N₀ S hb
  refine Subscript_ (h ok s m T _ F N S fun v p h1 t1 T1 F1 N1 hs1 r1 q1 => ?_)
  refine q1 ok _ m T1 _ F1 N1 (S.mono hs1) fun v2 p2 h2 t2 T2 F2 N2 hs2 r2 q2 => ?_
  obtain ⟨xs, k, rfl, rfl, hlen, h0, x, hx, hq⟩ := q2
  cases r2
  cases r1.mono hs2 with | lst hm hi =>
  obtain ⟨t, ht⟩ := IntsAre.get? hi hx
  have hlt : k.toNat < xs.length := by
    rcases Nat.lt_or_ge k.toNat xs.length with h | h
    · exact h
    · rw [List.getElem?_eq_none h] at hx; cases hx
  exact tail_any (IsL_of N2 hm).typeIs slot_list_getitem.lookup (wpAny_getItem_list (IsL_of N2 hm) h0 (by lia) (by simpa using ht) (hb _ _ _ _ T2 F2 N2 (fun q hq => hs2 _ (hs1 _ hq)) .int hq)) (hs _ _ _)
theorem EV.itemB {value slice : PySem.Expr} {pos : Pos} (h : EV W d X value g fun p => EV W d X slice g fun q => (∃ xs k, p = .bls xs ∧ q = .int k ∧ xs.length ≤ 1000000 ∧ 0 ≤ k ∧ ∃ x, xs[k.toNat]? = some x ∧ Q (.bool x)))
    (hs : ∀ (a : Addr) (k : Int) (u : Tok), subscripted slice false (.ref a) (.int k u) = operate [.ref a, .int k u] (getItem (.ref a) (.int k u)) := by intro _ _ _; with_unfolding_all rfl) :
    EV W d X (.Subscript value slice pos) g Q := by
  intro ok s m T QQ F N N₀ S hb
  refine Subscript_ (h ok s m T _ F N S fun v p h1 t1 T1 F1 N1 hs1 r1 q1 => ?_)
  refine q1 ok _ m T1 _ F1 N1 (S.mono hs1) fun v2 p2 h2 t2 T2 F2 N2 hs2 r2 q2 => ?_
  obtain ⟨xs, k, rfl, rfl, hlen, h0, x, hx, hq⟩ := q2
  cases r2
  cases r1.mono hs2 with | bls hm =>
  have hlt : k.toNat < xs.length := by
    rcases Nat.lt_or_ge k.toNat xs.length with h | h
    · exact h
    · rw [List.getElem?_eq_none h] at hx; cases hx
  exact tail_any (IsL_of N2 hm).typeIs slot_list_getitem.lookup (wpAny_getItem_list (x := .bool x) (IsL_of N2 hm) h0 (by lia) (by simp [hx]) (hb _ _ _ _ T2 F2 N2 (fun q hq => hs2 _ (hs1 _ hq)) .bool hq)) (hs _ _ _)
/-- xs[-1] -/
theorem EV.last {value slice : PySem.Expr} {pos : Pos} (h : EV W d X value g fun p => EV W d X slice g fun q => (∃ xs x, p = .lst xs ∧ q = .int (-1) ∧ xs.length ≤ 1000000 ∧ xs.getLast? = some x ∧ Q (.int x)))
    (hs : ∀ (a : Addr) (k : Int) (u : Tok), subscripted slice false (.ref a) (.int k u) = operate [.ref a, .int k u] (getItem (.ref a) (.int k u)) := by intro _ _ _; with_unfolding_all rfl) :
    EV W d X (.Subscript value slice pos) g Q := by
  intro ok s m T QQ F N N₀ S hb
  refine Subscript_ (h ok s m T _ F N S fun v p h1 t1 T1 F1 N1 hs1 r1 q1 => ?_)
  refine q1 ok _ m T1 _ F1 N1 (S.mono hs1) fun v2 p2 h2 t2 T2 F2 N2 hs2 r2 q2 => ?_
  obtain ⟨xs, x, rfl, rfl, hlen, hx, hq⟩ := q2
  cases r2
  cases r1.mono hs2 with | @lst _ its _ _ hm hi =>
  rw [List.getLast?_eq_getElem?] at hx
  obtain ⟨t, ht⟩ := IntsAre.get? hi hx
  have hne : 0 < xs.length := by
    rcases Nat.eq_zero_or_pos xs.length with h | h
    · rw [List.length_eq_zero_iff.mp h] at hx; simp at hx
    · exact h
  have hl := hi.length
  refine tail_any (IsL_of N2 hm).typeIs slot_list_getitem.lookup (wpAny_getItem_list_neg (IsL_of N2 hm) (by decide) (by rw [List.size_toArray]; lia) (by decide) ?_ (hb _ _ _ _ T2 F2 N2 (fun q hq => hs2 _ (hs1 _ hq)) (.int (t := t)) hq)) (hs _ _ _)
  rw [List.size_toArray]
  have e : ((-1 : Int) + (its.length : Int)).toNat = xs.length - 1 := by lia
  rw [e]
  simpa using ht
theorem EV.fst {value slice : PySem.Expr} {pos : Pos} (h : EV W d X value g fun p => EV W d X slice g fun q => (∃ a b, p = .pair a b ∧ q = .int 0 ∧ Q a))
    (hs : ∀ (a : Addr) (k : Int) (u : Tok), subscripted slice false (.ref a) (.int k u) = operate [.ref a, .int k u] (getItem (.ref a) (.int k u)) := by intro _ _ _; with_unfolding_all rfl) :
    EV W d X (.Subscript value slice pos) g Q := by
  intro ok s m T QQ F N N₀ S hb
  refine Subscript_ (h ok s m T _ F N S fun v p h1 t1 T1 F1 N1 hs1 r1 q1 => ?_)
  refine q1 ok _ m T1 _ F1 N1 (S.mono hs1) fun v2 p2 h2 t2 T2 F2 N2 hs2 r2 q2 => ?_
  obtain ⟨a, b, rfl, rfl, hq⟩ := q2
  cases r2
  cases r1.mono hs2 with | pair hm ha hb' =>
  exact item_tupleT (j := 0) (IsT_of N2 hm) (by decide) (by decide) rfl rfl (hb _ _ _ _ T2 F2 N2 (fun q hq => hs2 _ (hs1 _ hq)) ha hq) (hs _ _ _)
theorem EV.snd {value slice : PySem.Expr} {pos : Pos} (h : EV W d X value g fun p => EV W d X slice g fun q => (∃ a b, p = .pair a b ∧ q = .int 1 ∧ Q b))
    (hs : ∀ (a : Addr) (k : Int) (u : Tok), subscripted slice false (.ref a) (.int k u) = operate [.ref a, .int k u] (getItem (.ref a) (.int k u)) := by intro _ _ _; with_unfolding_all rfl) :
    EV W d X (.Subscript value slice pos) g Q := by
  intro ok s m T QQ F N N₀ S hb
  refine Subscript_ (h ok s m T _ F N S fun v p h1 t1 T1 F1 N1 hs1 r1 q1 => ?_)
  refine q1 ok _ m T1 _ F1 N1 (S.mono hs1) fun v2 p2 h2 t2 T2 F2 N2 hs2 r2 q2 => ?_
  obtain ⟨a, b, rfl, rfl, hq⟩ := q2
  cases r2
  cases r1.mono hs2 with | pair hm ha hb' =>
  exact item_tupleT (j := 1) (IsT_of N2 hm) (by decide) (by decide) rfl rfl (hb _ _ _ _ T2 F2 N2 (fun q hq => hs2 _ (hs1 _ hq)) hb' hq) (hs _ _ _)

noncomputable abbrev sliceOk (slice : PySem.Expr) : Prop := ∀ (a b : Addr), subscripted slice false (.ref a) (.ref b) = operate [.ref b, .ref a] (getItem (.ref a) (.ref b))
noncomputable abbrev tempOk (value : PySem.Expr) : Prop := ∀ (a : Addr) (r : Value), letTemporaryGo value (.ref a) r = pure ()
theorem EV.upto {value u : PySem.Expr} {p pos : Pos} (h : EV W d X value g fun a => EV W d X u g fun b => ∃ xs k, a = .lst xs ∧ b = .int k ∧ xs.length ≤ 1000000 ∧ 0 ≤ k ∧ Q (.lst (xs.take k.toNat)))
    (hs : sliceOk (.Slice none (some u) none p) := by intro _ _; with_unfolding_all rfl) (ht : tempOk value := by intro _ _; with_unfolding_all rfl) : EV W d X (.Subscript value (.Slice none (some u) none p) pos) g Q := by
  intro ok s m T QQ F N N₀ S hb
  refine Subscript_ (h ok s m T _ F N S fun v pv h1 t1 T1 F1 N1 hs1 r1 q1 => ?_)
  refine wpAny_Slice (evalPart_none_step (evalPart_some_step (q1 ok _ m T1 _ F1 N1 (S.mono hs1) fun v2 p2 h2 t2 T2 F2 N2 hs2 r2 q2 => evalPart_none_step ?_)))
  obtain ⟨xs, k, rfl, rfl, hlen, h0, hq⟩ := q2
  cases r2
  cases r1.mono hs2 with | lst hm hi =>
  refine kmk_slice_ints (s := { s with heap := h2, toks := t2 }) (c := (xs.take k.toNat).length) F2 N2 (IsL_of N2 hm) .none (.int _ _) hi (kmk_upto hi h0) rfl (fun D ws h' F' N' _ hi' _ _ => ?_) (hs _ _) (ht _) (kmk_sz hi (by rw [sizeLine_eq]; lia))
  exact hb _ _ _ _ _ F' N' (fun q hq => .tail _ (hs2 _ (hs1 _ hq))) (.lst (.head _) hi') hq
theorem EV.from {value u : PySem.Expr} {p pos : Pos} (h : EV W d X value g fun a => EV W d X u g fun b => ∃ xs k, a = .lst xs ∧ b = .int k ∧ xs.length ≤ 1000000 ∧ 0 ≤ k ∧ Q (.lst (xs.drop k.toNat)))
    (hs : sliceOk (.Slice (some u) none none p) := by intro _ _; with_unfolding_all rfl) (ht : tempOk value := by intro _ _; with_unfolding_all rfl) : EV W d X (.Subscript value (.Slice (some u) none none p) pos) g Q := by
  intro ok s m T QQ F N N₀ S hb
  refine Subscript_ (h ok s m T _ F N S fun v pv h1 t1 T1 F1 N1 hs1 r1 q1 => ?_)
  refine wpAny_Slice (evalPart_some_step (q1 ok _ m T1 _ F1 N1 (S.mono hs1) fun v2 p2 h2 t2 T2 F2 N2 hs2 r2 q2 => evalPart_none_step (evalPart_none_step ?_)))
  obtain ⟨xs, k, rfl, rfl, hlen, h0, hq⟩ := q2
  cases r2
  cases r1.mono hs2 with | lst hm hi =>
  refine kmk_slice_ints (s := { s with heap := h2, toks := t2 }) (c := (xs.drop k.toNat).length) F2 N2 (IsL_of N2 hm) (.int _ _) .none hi (kmk_from hi h0) rfl (fun D ws h' F' N' _ hi' _ _ => ?_) (hs _ _) (ht _) (kmk_sz hi (by rw [sizeLine_eq]; omega))
  exact hb _ _ _ _ _ F' N' (fun q hq => .tail _ (hs2 _ (hs1 _ hq))) (.lst (.head _) hi') hq
theorem EV.whole {value : PySem.Expr} {p pos : Pos} (h : EV W d X value g fun a => ∃ xs, a = .lst xs ∧ xs.length ≤ 1000000 ∧ Q (.lst xs))
    (hs : sliceOk (.Slice none none none p) := by intro _ _; with_unfolding_all rfl) (ht : tempOk value := by intro _ _; with_unfolding_all rfl) : EV W d X (.Subscript value (.Slice none none none p) pos) g Q := by
  intro ok s m T QQ F N N₀ S hb
  refine Subscript_ (h ok s m T _ F N S fun v pv h1 t1 T1 F1 N1 hs1 r1 q1 => ?_)
  refine wpAny_Slice (evalPart_none_step (evalPart_none_step (evalPart_none_step ?_)))
  obtain ⟨xs, rfl, hlen, hq⟩ := q1
  cases r1 with | lst hm hi =>
  refine kmk_slice_ints (s := { s with heap := h1, toks := t1 }) (c := xs.length) F1 N1 (IsL_of N1 hm) .none .none hi (kmk_all hi) rfl (fun D ws h' F' N' _ hi' _ _ => ?_) (hs _ _) (ht _) (kmk_sz hi (by rw [sizeLine_eq]; omega))
  exact hb _ _ _ _ _ F' N' (fun q hq => .tail _ (hs1 _ hq)) (.lst (.head _) hi') hq
theorem EV.rev {value k : PySem.Expr} {p pos : Pos} {ops : Addr → Addr → List Value} (h : EV W d X value g fun a => EV W d X k g fun b => ∃ xs, a = .lst xs ∧ b = .int (-1) ∧ xs.length ≤ 1000000 ∧ Q (.lst xs.reverse))
    (hs : ∀ (a b : Addr), subscripted (.Slice none none (some k) p) false (.ref a) (.ref b) = operate (ops a b) (getItem (.ref a) (.ref b)) := by intro _ _; with_unfolding_all rfl) (ht : tempOk value := by intro _ _; with_unfolding_all rfl) : EV W d X (.Subscript value (.Slice none none (some k) p) pos) g Q := by
  intro ok s m T QQ F N N₀ S hb
  refine Subscript_ (h ok s m T _ F N S fun v pv h1 t1 T1 F1 N1 hs1 r1 q1 => ?_)
  refine wpAny_Slice (evalPart_none_step (evalPart_none_step (evalPart_some_step (q1 ok _ m T1 _ F1 N1 (S.mono hs1) fun v2 p2 h2 t2 T2 F2 N2 hs2 r2 q2 => ?_))))
  obtain ⟨xs, rfl, rfl, hlen, hq⟩ := q2
  cases r2
  cases r1.mono hs2 with | lst hm hi =>
  refine krv_ints (s := { s with heap := h2, toks := t2 }) F2 N2 (IsL_of N2 hm) (.int _ _) hi (fun D ws h' F' N' _ hi' _ => ?_) (hs _ _) (ht _) (kmk_sz hi (by rw [sizeLine_eq]; omega))
  exact hb _ _ _ _ _ F' N' (fun q hq => .tail _ (hs2 _ (hs1 _ hq))) (.lst (.head _) hi') hq

theorem EV.nil {pos : Pos} (h : Q (.lst [])) : EV W d X (.List [] pos) g Q := by
  intro ok s m T QQ F N N₀ S hb
  refine List_ (spliced_none (newList_K F N (fun l h' F' N' _ => hb _ _ _ _ _ F' N' (fun q hq => .tail _ hq) (.lst (its := []) (.head _) .nil) h) (by rw [sizeLine_eq]; simp)))
theorem EV.disp1 {e : PySem.Expr} {pos : Pos} (h : EV W d X e g fun p => ∃ i, p = .int i ∧ Q (.lst [i])) (he : ∀ env : Env, starEach [e] env = [(false, eval e env)] := by intro _; rfl) : EV W d X (.List [e] pos) g Q := by
  intro ok s m T QQ F N N₀ S hb
  refine List_ ?_
  rw [he]
  refine Calls.spliced_cons (h ok s m T _ F N S fun v p h1 t1 T1 F1 N1 hs1 r1 q1 => Calls.spliced_nil ?_)
  obtain ⟨i, rfl, hq⟩ := q1
  cases r1
  exact newList_K F1 N1 (fun l h' F' N' _ => hb _ _ _ _ _ F' N' (fun q hq => .tail _ (hs1 _ hq)) (.lst (its := [_]) (.head _) (.cons _ _ .nil)) hq) (by rw [sizeLine_eq]; simp)
theorem EV.dispB {e : PySem.Expr} {pos : Pos} (h : EV W d X e g fun p => ∃ i, p = .bool i ∧ Q (.bls [i])) (he : ∀ env : Env, starEach [e] env = [(false, eval e env)] := by intro _; rfl) : EV W d X (.List [e] pos) g Q := by
  intro ok s m T QQ F N N₀ S hb
  refine List_ ?_
  rw [he]
  refine Calls.spliced_cons (h ok s m T _ F N S fun v p h1 t1 T1 F1 N1 hs1 r1 q1 => Calls.spliced_nil ?_)
  obtain ⟨i, rfl, hq⟩ := q1
  cases r1
  exact newList_K F1 N1 (fun l h' F' N' _ => hb _ _ _ _ _ F' N' (fun q hq => .tail _ (hs1 _ hq)) (.bls (xs := [i]) (.head _)) hq) (by rw [sizeLine_eq]; simp)
theorem EV.tup {a b : PySem.Expr} {k : Nat} {pos : Pos} (h : ES W d X pos [a, b] g fun ps => ∃ p q, ps = [p, q] ∧ Q (.pair p q)) : EV W d X (.Tuple [a, b] k pos) g Q := by
  intro ok s m T QQ F N N₀ S hb
  refine Tuple_ (h ok s m T _ F N S fun vs ps h1 t1 T1 F1 N1 hs1 r1 q1 => ?_)
  obtain ⟨p, q, rfl, hq⟩ := q1
  cases r1 with | cons ra r1 => cases r1 with | cons rb r1 =>
  cases r1
  exact newTuple_N F1 N1 (fun h' F' N' => hb _ _ _ _ _ F' N' (fun q hq => .tail _ (hs1 _ hq)) (.pair (.head _) (ra.mono fun _ h => .tail _ h) (rb.mono fun _ h => .tail _ h)) hq) (by rw [sizeLine_eq]; simp)

theorem EV.or1 {e : PySem.Expr} {pos : Pos} (h : EV W d X e g Q) : EV W d X (.BoolOp .Or [e] pos) g Q := by
  intro ok s m T QQ F N N₀ S hb
  exact BoolOp_one (h ok s m T _ F N S hb)
theorem EV.or {e₁ e₂ : PySem.Expr} {rest : List PySem.Expr} {pos : Pos} (h : EV W d X e₁ g fun p => ∃ c, p = .bool c ∧ if c = true then Q (.bool true) else EV W d X (.BoolOp .Or (e₂ :: rest) pos) g Q) : EV W d X (.BoolOp .Or (e₁ :: e₂ :: rest) pos) g Q := by
  intro ok s m T QQ F N N₀ S hb
  refine BoolOp_or (h ok s m T _ F N S fun v p h1 t1 T1 F1 N1 hs1 r1 q1 => ?_)
  obtain ⟨c, rfl, hq⟩ := q1
  cases r1
  refine wpAny_truthy_bool ?_
  cases c with
  | true => exact hb _ _ _ _ T1 F1 N1 hs1 .bool hq
  | false => exact hq ok _ m T1 QQ F1 N1 (S.mono hs1) fun v p h' tk' T' F' N' hs hr hq => hb v p h' tk' T' F' N' (fun q hq => hs _ (hs1 _ hq)) hr hq
end
noncomputable def setL (x : Str) (p : PV) : List (Str × PV) → List (Str × PV)
  | [] => [(x, p)]
  | (y, q) :: r => if y = x then (y, p) :: r else (y, q) :: setL x p r
theorem bne_of {y x : Str} (h : ¬ y = x) : (y == x) = false := beq_eq_false_iff_ne.mpr h
theorem lookup_setL (x : Str) (p : PV) (y : Str) : ∀ σ : List (Str × PV), (setL x p σ).lookup y = if y = x then some p else σ.lookup y
  | [] => by
    show (List.lookup y [(x, p)]) = _
    rw [List.lookup_cons]
    by_cases h : y = x
    · simp [h]
    · rw [bne_of h, if_neg h]
  | (z, q) :: r => by
    unfold setL
    by_cases hz : z = x
    · subst hz
      rw [if_pos rfl, List.lookup_cons, List.lookup_cons]
      by_cases h : y = z
      · simp [h]
      · rw [bne_of h, if_neg h]
    · rw [if_neg hz, List.lookup_cons, List.lookup_cons, lookup_setL x p y r]
      by_cases h : y = z
      · subst h; simp [hz]
      · rw [bne_of h]
noncomputable def keepL (ns : List Str) (σ : List (Str × PV)) : List (Str × PV) := ns.filterMap fun n => (σ.lookup n).map fun p => (n, p)
theorem lookup_keepL (y : Str) (p : PV) (σ : List (Str × PV)) : ∀ ns : List Str, (keepL ns σ).lookup y = some p → σ.lookup y = some p
  | [], h => by simp [keepL] at h
  | n :: r, h => by
    unfold keepL at h
    rw [List.filterMap_cons] at h
    cases e : σ.lookup n with
    | none => rw [e] at h; exact lookup_keepL y p σ r h
    | some q =>
      rw [e] at h
      simp only [Option.map_some, List.lookup_cons] at h
      by_cases hy : (y == n) = true
      · rw [hy] at h; simp at h; rw [eq_of_beq hy, e, h]
      · simp only [Bool.not_eq_true] at hy
        rw [hy] at h
        exact lookup_keepL y p σ r h

noncomputable abbrev G.put (g : G) (x : Str) (p : PV) : G := { g with σ := setL x p g.σ }
noncomputable abbrev G.keep (g : G) (ns : List Str) : G := { g with σ := keepL ns g.σ }
noncomputable abbrev G.putC (g : G) (x : Str) (p : PV) : G := { g with κ := setL x p g.κ }
noncomputable def PV.plain : PV → Bool
  | .int _ | .bool _ | .fn _ => true
  | _ => false
theorem Rep.any {T T' : Led} {v : Value} {p : PV} (h : Rep T v p) (hp : p.plain = true) : Rep T' v p := by
  cases h <;> first | exact .int | exact .bool | exact .fn | (cases hp)

noncomputable def NSC (o : Obj) : Prop := (∀ xs n, o.data ≠ .seq xs n) ∧ ∀ v, o.data ≠ .cell v
theorem Rep.off {T : Led} {as : List Addr} {v : Value} {p : PV} (h : Rep T v p) (hn : ∀ q ∈ T, q.1 ∈ as → ∀ xs n, q.2.data ≠ .seq xs n) : Rep (off as T) v p := by
  induction h with
  | int => exact .int
  | bool => exact .bool
  | lst h hi => exact .lst (mem_off.mpr ⟨h, fun ha => hn _ h ha _ _ rfl⟩) hi
  | bls h => exact .bls (mem_off.mpr ⟨h, fun ha => hn _ h ha _ _ rfl⟩)
  | pair h _ _ i1 i2 => exact .pair (mem_off.mpr ⟨h, fun ha => hn _ h ha _ _ rfl⟩) i1 i2
  | fn => exact .fn
theorem off_off {as bs : List Addr} {T : Led} {p : Addr × Obj} (h : p ∈ off bs (off as T)) : p ∈ off as (off bs T) :=
  mem_off.mpr ⟨mem_off.mpr ⟨(mem_off.mp (mem_off.mp h).1).1, (mem_off.mp h).2⟩, (mem_off.mp (mem_off.mp h).1).2⟩
theorem fun_of {X : Fx} {h : Heap} {T : Led} (N : News X.h₀ X.L h T) {a : Addr} {o o' : Obj} (h1 : (a, o) ∈ T) (h2 : (a, o') ∈ T) : o = o' :=
  Option.some.inj ((N _ h1).1.symm.trans (N _ h2).1)

section
variable {X : Fx} {N₀ : Led} {g : G} {m : Str → Option Value} {T : Led} {h : Heap}
theorem St.cellOff (S : St X N₀ g m T) (N : News X.h₀ X.L h T) : ∀ q ∈ T, q.1 ∈ X.cl.map (·.2) → ∀ xs n, q.2.data ≠ .seq xs n := by
  obtain ⟨as, h1, h2, h3, h4, h5⟩ := S
  rintro ⟨a, o⟩ hq hc xs n hd
  obtain ⟨xc, hm, rfl⟩ := List.mem_map.mp hc
  obtain ⟨ob, v, hb, hv, _⟩ := h5.1 xc hm
  have := fun_of N hq hb
  subst this
  rw [hv] at hd
  cases hd
theorem St.le {g' : G} (S : St X N₀ g m T) (hσ : ∀ y p, g'.σ.lookup y = some p → g.σ.lookup y = some p) (hκ : ∀ y p, g'.κ.lookup y = some p → g.κ.lookup y = some p) (ho : g'.o = g.o) : St X N₀ g' m T := by
  obtain ⟨as, h1, h2, h3, h4, h5, h6, h7⟩ := S
  exact ⟨as, ho ▸ h1, h2, h3, fun y p e => h4 y p (hσ y p e), fun xc hx => let ⟨ob, v, a, b, c⟩ := h5 xc hx; ⟨ob, v, a, b, fun p hp => c p (hκ _ _ hp)⟩, fun x p e => h6 x p (hκ x p e), h7⟩
theorem St.keep (S : St X N₀ g m T) (ns : List Str) : St X N₀ (g.keep ns) m T := S.le (fun y p e => lookup_keepL y p _ ns e) (fun _ _ e => e) rfl
theorem St.less {N₁ : Led} (S : St X N₀ g m T) (hs : ∀ q ∈ N₁, q ∈ N₀) : St X N₁ g m T := by
  obtain ⟨as, h1, h2, h3, h4, h5⟩ := S
  exact ⟨as, h1, h2, fun p hp => h3 p (hs p hp), h4, h5⟩
/-- a name is bound to a value -/
theorem St.put {x : Str} {v : Value} {p : PV} (S : St X N₀ g m T) (N : News X.h₀ X.L h T) (hr : Rep T v p) (ho : g.o = none) : St X N₀ (g.put x p) (fun y => if y = x then some v else m y) T := by
  have hc := S.cellOff N
  obtain ⟨as, h1, h2, h3, h4, h5⟩ := S
  rw [ho] at h1
  have h1' : as = [] := h1
  subst h1'
  refine ⟨[], by show OwnO T _ [] g.o; rw [ho]; rfl, h2, h3, fun y q e => ?_, h5⟩
  rw [lookup_setL] at e
  show ∃ v', (if y = x then some v else m y) = some v' ∧ _
  by_cases hy : y = x
  · rw [if_pos hy] at e ⊢
    cases e
    exact ⟨v, rfl, hr.off fun q hq ha => hc q hq (by simpa using ha)⟩
  · rw [if_neg hy] at e ⊢
    exact h4 y q e
theorem St.putP {x : Str} {v : Value} {p : PV} (S : St X N₀ g m T) (hr : Rep T v p) (hp : p.plain = true) (ho : ∀ y q, g.o = some (y, q) → y ≠ x) : St X N₀ (g.put x p) (fun y => if y = x then some v else m y) T := by
  obtain ⟨as, h1, h2, h3, h4, h5⟩ := S
  refine ⟨as, ?_, h2, h3, fun y q e => ?_, h5⟩
  · show OwnO T _ as g.o
    cases hg : g.o with
    | none => rw [hg] at h1; exact h1
    | some yq =>
      obtain ⟨y, q⟩ := yq
      rw [hg] at h1
      obtain ⟨u, hu, hq⟩ := h1
      exact ⟨u, by show (if y = x then some v else m y) = some u; rw [if_neg (ho y q hg)]; exact hu, hq⟩
  · rw [lookup_setL] at e
    show ∃ v', (if y = x then some v else m y) = some v' ∧ _
    by_cases hy : y = x
    · rw [if_pos hy] at e ⊢
      cases e
      exact ⟨v, rfl, hr.any hp⟩
    · rw [if_neg hy] at e ⊢
      exact h4 y q e
/-- the owned list goes to the others -/
theorem St.release {x : Str} {p : PV} (S : St X N₀ g m T) (N : News X.h₀ X.L h T) (ho : g.o = some (x, p)) (hp : p ≠ .box) : St X N₀ { g with σ := setL x p g.σ, o := none } m T := by
  have hc := S.cellOff N
  obtain ⟨as, h1, h2, h3, h4, h5⟩ := S
  rw [ho] at h1
  obtain ⟨v, hm, hr⟩ := h1
  have hsub : ∀ q ∈ off (X.cl.map (·.2) ++ as) T, q ∈ off (X.cl.map (·.2) ++ []) T := fun q hq => mem_off.mpr ⟨(mem_off.mp hq).1, fun ha => (mem_off.mp hq).2 (by simp at ha ⊢; exact .inl ha)⟩
  refine ⟨[], rfl, fun _ ha => (by cases ha), fun q hq => hsub _ (h3 q hq), fun y q e => ?_, fun xc hx => ?_, h5.2⟩
  · rw [lookup_setL] at e
    by_cases hy : y = x
    · rw [if_pos hy] at e
      cases e
      exact ⟨v, hy ▸ hm, (hr.rep hp).off fun q hq ha => hc q hq (by simpa using ha)⟩
    · rw [if_neg hy] at e
      obtain ⟨u, a, b⟩ := h4 y q e
      exact ⟨u, a, b.mono hsub⟩
  · obtain ⟨ob, v, a, b, c⟩ := h5.1 xc hx
    exact ⟨ob, v, a, b, fun p hp => let ⟨u, d, e⟩ := c p hp; ⟨u, d, e.mono hsub⟩⟩
/-- a fresh list is taken as the owned one -/
theorem St.take {x : Str} {a : Addr} {ob : Obj} {p : PV} (S : St X N₀ g m T) (ho : g.o = none) (hlt : ∀ q ∈ T, q.1 < a) (hr : OwnRep ((a, ob) :: T) [a] (.ref a) p) (hx : g.σ.lookup x = none) :
    St X N₀ { g with o := some (x, p) } (fun y => if y = x then some (.ref a) else m y) ((a, ob) :: T) := by
  obtain ⟨as, h1, h2, h3, h4, h5⟩ := S
  rw [ho] at h1
  have h1' : as = [] := h1
  subst h1'
  have hca : a ∉ X.cl.map (·.2) := fun hc => by
    obtain ⟨xc, hm, e⟩ := List.mem_map.mp hc
    obtain ⟨ob', v, hb, _, _⟩ := h5.1 xc hm
    have h9 := hlt _ hb
    rw [← e] at h9
    exact Nat.lt_irrefl _ h9
  have hsub : ∀ q ∈ off (X.cl.map (·.2) ++ []) T, q ∈ off (X.cl.map (·.2) ++ [a]) ((a, ob) :: T) := fun q hq => mem_off.mpr ⟨.tail _ (mem_off.mp hq).1, fun ha => by
    rcases List.mem_append.mp ha with ha | ha
    · exact (mem_off.mp hq).2 (by simpa using ha)
    · have := hlt _ (mem_off.mp hq).1
      rw [List.mem_singleton.mp ha] at this
      exact absurd this (Nat.lt_irrefl _)⟩
  refine ⟨[a], ⟨.ref a, by simp, hr⟩, fun b hb => ?_, fun q hq => hsub _ (h3 q hq), fun y q e => ?_, fun xc hx => ?_, h5.2⟩
  · rw [List.mem_singleton.mp hb]; exact hca
  · have hy : y ≠ x := fun hy => by rw [hy, hx] at e; cases e
    obtain ⟨u, c, d⟩ := h4 y q e
    exact ⟨u, by show (if y = x then _ else m y) = _; rw [if_neg hy]; exact c, d.mono hsub⟩
  · obtain ⟨ob', v, c, d, f⟩ := h5.1 xc hx
    exact ⟨ob', v, .tail _ c, d, fun p hp => let ⟨u, i, j⟩ := f p hp; ⟨u, i, j.mono hsub⟩⟩
/-- the owned list is turned -/
theorem St.turn {x : Str} {a : Addr} {ob : Obj} {p q : PV} (S : St X N₀ g m T) (ho : g.o = some (x, p)) (hm : m x = some (.ref a)) (ha : ∀ as v, OwnRep T as v p → v = .ref a → as = [a])
    (hr : OwnRep ((a, ob) :: off [a] T) [a] (.ref a) q) : St X N₀ { g with o := some (x, q) } m ((a, ob) :: off [a] T) := by
  obtain ⟨as, h1, h2, h3, h4, h5⟩ := S
  rw [ho] at h1
  obtain ⟨v, hv, hp⟩ := h1
  rw [hm] at hv
  have hv' : v = .ref a := (Option.some.inj hv).symm
  have has := ha as v hp hv'
  subst has
  have hsub : ∀ q ∈ off (X.cl.map (·.2) ++ [a]) T, q ∈ off (X.cl.map (·.2) ++ [a]) ((a, ob) :: off [a] T) := fun q hq => mem_off.mpr ⟨.tail _ (mem_off.mpr ⟨(mem_off.mp hq).1, fun hc => (mem_off.mp hq).2 (List.mem_append_right _ hc)⟩), (mem_off.mp hq).2⟩
  refine ⟨[a], ⟨.ref a, hm, hr⟩, h2, fun q hq => hsub _ (h3 q hq), fun y q e => let ⟨u, c, d⟩ := h4 y q e; ⟨u, c, d.mono hsub⟩, fun xc hx => ?_, h5.2⟩
  obtain ⟨ob', w, c, d, f⟩ := h5.1 xc hx
  refine ⟨ob', w, .tail _ (mem_off.mpr ⟨c, fun hc => ?_⟩), d, fun p hp => let ⟨u, i, j⟩ := f p hp; ⟨u, i, j.mono hsub⟩⟩
  exact h2 a (List.mem_singleton.mpr rfl) (List.mem_singleton.mp hc ▸ List.mem_map_of_mem hx)
/-- entries that are neither lists, tuples nor cells are let go -/
theorem St.offI {N₁ : Led} {wr : List Addr} (S : St X N₀ g m T) (hn : ∀ p ∈ T, p.1 ∈ wr → NSC p.2) (hN : ∀ p ∈ N₁, p ∈ N₀ ∧ p.1 ∉ wr) : St X N₁ g m (off wr T) := by
  obtain ⟨as, h1, h2, h3, h4, h5⟩ := S
  have hn' : ∀ bs, ∀ q ∈ off bs T, q.1 ∈ wr → ∀ xs n, q.2.data ≠ .seq xs n := fun bs q hq hw => (hn q (off_sub _ hq) hw).1
  refine ⟨as, ?_, h2, fun p hp => off_off (as := X.cl.map (·.2) ++ as) (bs := wr) (by
      have := h3 p (hN p hp).1
      exact mem_off.mpr ⟨this, (hN p hp).2⟩), fun y q e => let ⟨u, c, d⟩ := h4 y q e; ⟨u, c, (d.off (hn' _)).mono fun _ hz => off_off hz⟩, fun xc hx => ?_, h5.2⟩
  · cases hg : g.o with
    | none => rw [hg] at h1; exact h1
    | some yq =>
      obtain ⟨yn, q⟩ := yq
      rw [hg] at h1
      obtain ⟨v, hv, hr⟩ := h1
      refine ⟨v, hv, ?_⟩
      have ok : ∀ a o, (a, o) ∈ T → (∃ xs n, o.data = .seq xs n) → (a, o) ∈ off wr T := fun a o hm ⟨xs, n, hd⟩ => mem_off.mpr ⟨hm, fun hw => (hn _ hm hw).1 xs n hd⟩
      cases hr with
      | lst h hi => exact .lst (ok _ _ h ⟨_, _, rfl⟩) hi
      | bls h => exact .bls (ok _ _ h ⟨_, _, rfl⟩)
      | box h h2' hi hp h0 hne hlen => exact .box (ok _ _ h ⟨_, _, rfl⟩) (ok _ _ h2' ⟨_, _, rfl⟩) hi hp h0 hne hlen
  · obtain ⟨ob, v, c, d, f⟩ := h5.1 xc hx
    exact ⟨ob, v, mem_off.mpr ⟨c, fun hw => (hn _ c hw).2 _ d⟩, d, fun p hp => let ⟨u, i, j⟩ := f p hp; ⟨u, i, (j.off (hn' _)).mono fun _ hz => off_off hz⟩⟩
end
noncomputable abbrev Nx (X : Fx) (N₀ : Led) (s : Shared) (Q : G → Prop) (QQ : Flow → Shared → Prop) : Prop :=
  ∀ h' tk' m' T' g', Fr X.h₀ X.L h' m' → News X.h₀ X.L h' T' → St X N₀ g' m' T' → Q g' → QQ .next { s with heap := h', toks := tk' }
noncomputable abbrev Rt (X : Fx) (N₀ : Led) (s : Shared) (R : PV → Prop) (QQ : Flow → Shared → Prop) : Prop :=
  ∀ v p h' tk' m' T', Fr X.h₀ X.L h' m' → News X.h₀ X.L h' T' → (∀ q ∈ N₀, q ∈ T') → Rep T' v p → R p → QQ (.ret v) { s with heap := h', toks := tk' }
noncomputable def SV (W : Wd) (d : Nat) (X : Fx) (b : List Stmt) (g : G) (R : PV → Prop) (Q : G → Prop) : Prop :=
  X.Ok W d → ∀ (s : Shared) (m : Str → Option Value) (T : Led) (QQ : Flow → Shared → Prop), Fr X.h₀ X.L s.heap m → News X.h₀ X.L s.heap T → ∀ {N₀ : Led}, St X N₀ g m T → Nx X N₀ s Q QQ → Rt X N₀ s R QQ →
    wpAny (model W.prog W.w) X.A (execs b X.env) QQ NoE s
noncomputable def S1 (W : Wd) (d : Nat) (X : Fx) (b : Stmt) (g : G) (R : PV → Prop) (Q : G → Prop) : Prop :=
  X.Ok W d → ∀ (s : Shared) (m : Str → Option Value) (T : Led) (QQ : Flow → Shared → Prop), Fr X.h₀ X.L s.heap m → News X.h₀ X.L s.heap T → ∀ {N₀ : Led}, St X N₀ g m T → Nx X N₀ s Q QQ → Rt X N₀ s R QQ →
    wpAny (model W.prog W.w) X.A (exec b X.env) QQ NoE s

section
variable {W : Wd} {d : Nat} {X : Fx} {g : G} {R : PV → Prop} {Q : G → Prop}

theorem SV.nil (h : Q g) : SV W d X [] g R Q := by
  intro ok s m T QQ F N N₀ S hn hr
  exact wpAny_execs_nil (hn _ _ _ _ _ F N S h)
theorem SV.cons {st : Stmt} {rest : List Stmt} (h : S1 W d X st g R fun g' => SV W d X rest g' R Q) : SV W d X (st :: rest) g R Q := by
  intro ok s m T QQ F N N₀ S hn hr
  refine wpAny_execs_cons (h ok s m T _ F N S (fun h1 t1 m1 T1 g1 F1 N1 S1 q1 => ?_) fun v p h1 t1 m1 T1 F1 N1 hs1 r1 q1 => hr v p h1 t1 m1 T1 F1 N1 hs1 r1 q1)
  exact q1 ok _ m1 T1 QQ F1 N1 S1 hn hr
theorem SV.mono {b : List Stmt} {Q' : G → Prop} (h : SV W d X b g R Q) (hQ : ∀ g, Q g → Q' g) : SV W d X b g R Q' := by
  intro ok s m T QQ F N N₀ S hn hr
  exact h ok s m T QQ F N S (fun h1 t1 m1 T1 g1 F1 N1 S1 q1 => hn h1 t1 m1 T1 g1 F1 N1 S1 (hQ _ q1)) hr

theorem S1.ret {e : PySem.Expr} {pos : Pos} (h : EV W d X e g R) : S1 W d X (.Return (some e) pos) g R Q := by
  intro ok s m T QQ F N N₀ S hn hr
  exact wpAny_Return_some (h ok s m T _ F N S fun v p h1 t1 T1 F1 N1 hs1 r1 q1 => hr v p h1 t1 m T1 F1 N1 (fun q hq => hs1 _ (S.base q hq)) r1 q1)
theorem S1.ite {test : PySem.Expr} {a b : List Stmt} {pos : Pos} (h : TV W d X test g fun c => if c = true then SV W d X a g R Q else SV W d X b g R Q) : S1 W d X (.If test a b pos) g R Q := by
  intro ok s m T QQ F N N₀ S hn hr
  refine wpAny_If (h ok s m T _ F N S fun c h1 t1 T1 F1 N1 hs1 q1 => ?_)
  cases c with
  | true => exact q1 ok _ m T1 QQ F1 N1 (S.mono hs1) hn hr
  | false => exact q1 ok _ m T1 QQ F1 N1 (S.mono hs1) hn hr

theorem store_to {x : Str} {v : Value} {s : Shared} {m : Str → Option Value} {T : Led} {QQ : Unit → Shared → Prop} (ok : X.Ok W d) (F : Fr X.h₀ X.L s.heap m) (N : News X.h₀ X.L s.heap T) (hk : X.env.kindOf x = some .local)
    (h : ∀ h' tk, Fr X.h₀ X.L h' (fun y => if y = x then some v else m y) → News X.h₀ X.L h' T → QQ () { s with heap := h', toks := tk }) : wpAny (model W.prog W.w) X.A (storeName X.env x v) QQ NoE s :=
  storeX_L F N (fun h' F' N' => h h' _ F' N') ok.kind hk

theorem S1.assign {x : Str} {xp pos : Pos} {e : PySem.Expr} (h : EV W d X e g fun p => Q (g.put x p)) (ho : g.o = none := by rfl) (hk : X.env.kindOf x = some .local := by rfl)
    (hs : ∀ env : Env, swapsWith e (some (.Name x xp)) pos.line env = pure false := by intro _; rfl) : S1 W d X (.Assign [.Name x xp] e pos) g R Q := by
  intro ok s m T QQ F N N₀ S hn hr
  refine wpAny_Assign_Name (h ok s m T _ F N S fun v p h1 t1 T1 F1 N1 hs1 r1 q1 => ?_) (hs _)
  exact store_to ok F1 N1 hk fun h' tk F' N' => hn _ _ _ _ _ F' N' ((S.mono hs1).put N1 r1 ho) q1
/-- the same where a list is owned: a plain value -/
theorem S1.assignP {x : Str} {xp pos : Pos} {e : PySem.Expr} (h : EV W d X e g fun p => p.plain = true ∧ Q (g.put x p)) (ho : ∀ y q, g.o = some (y, q) → y ≠ x) (hk : X.env.kindOf x = some .local := by rfl)
    (hs : ∀ env : Env, swapsWith e (some (.Name x xp)) pos.line env = pure false := by intro _; rfl) : S1 W d X (.Assign [.Name x xp] e pos) g R Q := by
  intro ok s m T QQ F N N₀ S hn hr
  refine wpAny_Assign_Name (h ok s m T _ F N S fun v p h1 t1 T1 F1 N1 hs1 r1 q1 => ?_) (hs _)
  exact store_to ok F1 N1 hk fun h' tk F' N' => hn _ _ _ _ _ F' N' ((S.mono hs1).putP r1 q1.1 ho) q1.2

theorem S1.aug {x : Str} {xp pos : Pos} {op : Operator} {e : PySem.Expr} {a : PV} (hl : g.σ.lookup x = some a) (h : EV W d X e g fun b => OV W d X (two (inplaceOp op)) [a, b] fun p => p.plain = true ∧ Q (g.put x p))
    (ho : ∀ y q, g.o = some (y, q) → y ≠ x) (hk : X.env.kindOf x = some .local := by rfl) : S1 W d X (.AugAssign (.Name x xp) op e pos) g R Q := by
  intro ok s m T QQ F N N₀ S hn hr
  have S0 := S
  obtain ⟨as, h1, h2, h3, h4, h5⟩ := S0
  obtain ⟨v, hm, hrv⟩ := h4 x a hl
  refine wpAny_AugAssign_Name (wpAny_loadName_local ok.kind hk F.ns hm ?_)
  refine h ok s m T _ F N S fun v2 p2 h2 t2 T2 F2 N2 hs2 r2 q2 => ?_
  refine q2 ok _ m T2 [v, v2] _ F2 N2 (.cons ((hrv.mono off_sub).mono hs2) (.cons r2 .nil)) fun v3 p3 h3 t3 T3 F3 N3 hs3 r3 q3 => ?_
  exact store_to ok F3 N3 hk fun h' tk F' N' => hn _ _ _ _ _ F' N' (((S.mono hs2).mono hs3).putP r3 q3.1 ho) q3.2

/-- unpacking a pair -/
theorem unpack2 {x y : Str} {xp yp tp : Pos} {k : Nat} {v : Value} {p q : PV} {s : Shared} {m : Str → Option Value} {T N₀ : Led} {QQ : Unit → Shared → Prop} (ok : X.Ok W d) (F : Fr X.h₀ X.L s.heap m) (N : News X.h₀ X.L s.heap T)
    (S : St X N₀ g m T) (ho : g.o = none) (hr : Rep T v (.pair p q)) (hx : X.env.kindOf x = some .local) (hy : X.env.kindOf y = some .local)
    (h : ∀ h' tk m', Fr X.h₀ X.L h' m' → News X.h₀ X.L h' T → St X N₀ ((g.put x p).put y q) m' T → QQ () { s with heap := h', toks := tk }) :
    wpAny (model W.prog W.w) X.A (assign (.Tuple [.Name x xp, .Name y yp] k tp) X.env v) QQ NoE s := by
  cases hr with | pair hm ha hb =>
  refine unpackN_ F N (IsT_of N hm) rfl rfl rfl fun h' F' N' => ?_
  refine assignInOrder_cons (assign_Name (store_to ok F' N' hx fun h2 t2 F2 N2 => ?_))
  refine assignInOrder_cons (assign_Name (store_to ok F2 N2 hy fun h3 t3 F3 N3 => ?_))
  exact assignInOrder_nil (h _ _ _ F3 N3 ((S.put N ha ho).put N hb ho))
theorem S1.assign2 {x y : Str} {xp yp tp pos : Pos} {k : Nat} {e : PySem.Expr} (h : EV W d X e g fun r => ∃ p q, r = .pair p q ∧ Q ((g.put x p).put y q)) (ho : g.o = none := by rfl)
    (hx : X.env.kindOf x = some .local := by rfl) (hy : X.env.kindOf y = some .local := by rfl)
    (hs : ∀ env : Env, swapsWithSole [.Tuple [.Name x xp, .Name y yp] k tp] e pos.line env = pure false := by intro _; rfl)
    (hw : swappedStores [.Tuple [.Name x xp, .Name y yp] k tp] e X.env = pure none := by rfl) :
    S1 W d X (.Assign [.Tuple [.Name x xp, .Name y yp] k tp] e pos) g R Q := by
  intro ok s m T QQ F N N₀ S hn hr
  refine Assign_Tuple (h ok s m T _ F N S fun v p h1 t1 T1 F1 N1 hs1 r1 q1 => ?_) (hs _) hw
  obtain ⟨a, b, rfl, hq⟩ := q1
  exact unpack2 ok F1 N1 (S.mono hs1) ho r1 hx hy fun h' tk m' F' N' S' => hn _ _ _ _ _ F' N' S' hq

theorem S1.assign2s {x y : Str} {xp yp tp pos : Pos} {k : Nat} {e : PySem.Expr} (h : EV W d X e g fun r => ∃ p q, r = .pair p q ∧ Q ((g.put y q).put x p)) (ho : g.o = none := by rfl)
    (hx : X.env.kindOf x = some .local := by rfl) (hy : X.env.kindOf y = some .local := by rfl)
    (hs : ∀ env : Env, swapsWithSole [.Tuple [.Name x xp, .Name y yp] k tp] e pos.line env = pure false := by intro _; rfl)
    (hw : swappedStores [.Tuple [.Name x xp, .Name y yp] k tp] e X.env = pure (some [x, y]) := by kernel_rfl) :
    S1 W d X (.Assign [.Tuple [.Name x xp, .Name y yp] k tp] e pos) g R Q := by
  intro ok s m T QQ F N N₀ S hn hr
  refine Assign_Tuple_swapped (names := [x, y]) (h ok s m T _ F N S fun v p h1 t1 T1 F1 N1 hs1 r1 q1 => ?_) (hs _) hw
  obtain ⟨a, b, rfl, hq⟩ := q1
  cases r1 with | pair hm ha hb =>
  refine unpackItemsN_ F1 N1 (IsT_of N1 hm) rfl rfl fun h' F' N' => ?_
  refine assignInOrder_cons (bindName_ (store_to ok F' N' hy fun h2 t2 F2 N2 => ?_))
  refine assignInOrder_cons (bindName_ (store_to ok F2 N2 hx fun h3 t3 F3 N3 => ?_))
  exact assignInOrder_nil (hn _ _ _ _ _ F3 N3 (((S.mono hs1).put N1 hb ho).put N1 ha ho) hq)

/-- an expression that makes a fresh list -/
noncomputable def NV (W : Wd) (d : Nat) (X : Fx) (e : PySem.Expr) (g : G) (Q : PV → Prop) : Prop :=
  X.Ok W d → ∀ (s : Shared) (m : Str → Option Value) (T : Led) (QQ : Value → Shared → Prop), Fr X.h₀ X.L s.heap m → News X.h₀ X.L s.heap T → ∀ {N₀ : Led}, St X N₀ g m T →
    (∀ a ob p h' tk' T', Fr X.h₀ X.L h' m → News X.h₀ X.L h' ((a, ob) :: T') → (∀ q ∈ T, q ∈ T') → (∀ q ∈ T', q.1 < a) → OwnRep [(a, ob)] [a] (.ref a) p → Q p → QQ (.ref a) { s with heap := h', toks := tk' }) →
    wpAny (model W.prog W.w) X.A (eval e X.env) QQ NoE s
theorem NV.nil {pos : Pos} {Q : PV → Prop} (h : Q (.lst [])) : NV W d X (.List [] pos) g Q := by
  intro ok s m T QQ F N N₀ S hb
  refine List_ (spliced_none (newList_K F N (fun l h' F' N' hl => hb _ _ _ _ _ _ F' N' (fun q hq => hq) hl (.lst (its := []) (.head _) .nil) h) (by rw [sizeLine_eq]; simp)))
theorem NV.rep {e : PySem.Expr} {c : Int} {k : Nat} {p1 p2 pos : Pos} {Q : PV → Prop} (h : EV W d X e g fun p => ∃ n, p = .int n ∧ 0 ≤ n ∧ n ≤ 1000000 ∧ Q (.lst (List.replicate n.toNat c))) :
    NV W d X (.BinOp (.List [.Constant (.int c) k p1] p2) .Mult e pos) g Q := by
  intro ok s m T QQ F N N₀ S hb
  refine wpAny_BinOp (EV.disp1 (EV.int ⟨c, rfl, rfl⟩) (fun _ => rfl) (Q := fun p => p = .lst [c]) ok s m T _ F N S fun v p h1 t1 T1 F1 N1 hs1 r1 q1 => ?_)
  refine h ok _ m T1 _ F1 N1 (S.mono hs1) fun v2 p2 h2 t2 T2 F2 N2 hs2 r2 q2 => ?_
  subst q1
  obtain ⟨n, rfl, h0, hl, hq⟩ := q2
  cases r2
  cases r1.mono hs2 with | lst m1 i1 =>
  cases i1 with | cons _ t i1 =>
  cases i1
  refine mul_list (s := { s with heap := h2, toks := t2 }) F2 N2 (N2 _ m1).1 (by lia) (by lia) (by simp; lia) fun h' F' N' => ?_
  have e : List.foldl (fun x1 x2 => x1 ++ x2) #[] (List.replicate (if ([Value.int c t].toArray).isEmpty = true then 0 else n.toNat) [Value.int c t].toArray) = (List.replicate n.toNat (Value.int c t)).toArray := by
    have := foldl_rep (.int c t) n.toNat #[]
    simpa using this
  rw [e] at N'
  exact hb _ _ _ _ _ _ F' N' (fun q hq => hs2 _ (hs1 _ hq)) (fun q hq => Heap.lt_size (N2 _ hq).1) (.lst (n := 0) (.head _) (intsAre_rep c t _)) hq
theorem NV.repB {e : PySem.Expr} {c : Bool} {k : Nat} {p1 p2 pos : Pos} {Q : PV → Prop} (h : EV W d X e g fun p => ∃ n, p = .int n ∧ 0 ≤ n ∧ n ≤ 1000000 ∧ Q (.bls (List.replicate n.toNat c))) :
    NV W d X (.BinOp (.List [.Constant (.bool c) k p1] p2) .Mult e pos) g Q := by
  intro ok s m T QQ F N N₀ S hb
  refine wpAny_BinOp (EV.dispB (EV.tt ⟨c, rfl, rfl⟩) (fun _ => rfl) (Q := fun p => p = .bls [c]) ok s m T _ F N S fun v p h1 t1 T1 F1 N1 hs1 r1 q1 => ?_)
  refine h ok _ m T1 _ F1 N1 (S.mono hs1) fun v2 p2 h2 t2 T2 F2 N2 hs2 r2 q2 => ?_
  subst q1
  obtain ⟨n, rfl, h0, hl, hq⟩ := q2
  cases r2
  cases r1.mono hs2 with | bls m1 =>
  refine mul_list (s := { s with heap := h2, toks := t2 }) F2 N2 (N2 _ m1).1 (by omega) (by omega) (by simp; omega) fun h' F' N' => ?_
  have e : List.foldl (fun x1 x2 => x1 ++ x2) #[] (List.replicate (if ((List.map Value.bool [c]).toArray).isEmpty = true then 0 else n.toNat) (List.map Value.bool [c]).toArray) = (List.map Value.bool (List.replicate n.toNat c)).toArray := by
    have := foldl_rep (.bool c) n.toNat #[]
    simpa using this
  rw [e] at N'
  exact hb _ _ _ _ _ _ F' N' (fun q hq => hs2 _ (hs1 _ hq)) (fun q hq => Heap.lt_size (N2 _ hq).1) (.bls (n := 0) (.head _)) hq
theorem OwnRep.up {T : Led} {as : List Addr} {v : Value} {p : PV} {a : Addr} {ob : Obj} (h : OwnRep [(a, ob)] as v p) : OwnRep ((a, ob) :: T) as v p := h.mono fun q hq => (List.mem_singleton.mp hq) ▸ .head _

/-- x = a fresh list, to be stored into -/
theorem S1.own {x : Str} {xp pos : Pos} {e : PySem.Expr} (h : NV W d X e g fun p => Q { g with o := some (x, p) }) (ho : g.o = none := by rfl) (hx : g.σ.lookup x = none := by rfl) (hk : X.env.kindOf x = some .local := by rfl)
    (hs : ∀ env : Env, swapsWith e (some (.Name x xp)) pos.line env = pure false := by intro _; rfl) : S1 W d X (.Assign [.Name x xp] e pos) g R Q := by
  intro ok s m T QQ F N N₀ S hn hr
  refine wpAny_Assign_Name (h ok s m T _ F N S fun a ob p h1 t1 T1 F1 N1 hs1 hlt r1 q1 => ?_) (hs _)
  exact store_to ok F1 N1 hk fun h' tk F' N' => hn _ _ _ _ _ F' N' ((S.mono hs1).take ho hlt r1.up hx) q1

/-- a state with one more plain thing said of the freshest list -/
theorem St.take2 {N₀ : Led} {m : Str → Option Value} {T T' : Led} {x : Str} {a : Addr} {ob : Obj} {p : PV} (S : St X N₀ g m T') (ho : g.o = none) (hlt : ∀ q ∈ T', q.1 < a) (hr : OwnRep [(a, ob)] [a] (.ref a) p) (hx : g.σ.lookup x = none) (hs : ∀ q ∈ (a, ob) :: T', q ∈ T) :
    St X N₀ { g with o := some (x, p) } (fun y => if y = x then some (.ref a) else m y) T := (S.take ho hlt hr.up hx).mono hs

/-- found, y = (a fresh list, a plain value) -/
theorem S1.own2 {x y : Str} {xp yp tp vp pos : Pos} {k kv : Nat} {e₁ e₂ : PySem.Expr}
    (h : NV W d X e₁ g fun p => EV W d X e₂ g fun q => q.plain = true ∧ Q { (g.put y q) with o := some (x, p) }) (ho : g.o = none := by rfl) (hxn : ∀ q, (g.put y q).σ.lookup x = none := by intro _; rfl)
    (hx : X.env.kindOf x = some .local := by rfl) (hy : X.env.kindOf y = some .local := by rfl)
    (hs : ∀ env : Env, swapsWithSole [.Tuple [.Name x xp, .Name y yp] k tp] (.Tuple [e₁, e₂] kv vp) pos.line env = pure false := by intro _; rfl)
    (hw : swappedStores [.Tuple [.Name x xp, .Name y yp] k tp] (.Tuple [e₁, e₂] kv vp) X.env = pure (some [x, y]) := by kernel_rfl)
    (he : ∀ env : Env, starEach [e₁, e₂] env = [(false, eval e₁ env), (false, eval e₂ env)] := by intro _; rfl) :
    S1 W d X (.Assign [.Tuple [.Name x xp, .Name y yp] k tp] (.Tuple [e₁, e₂] kv vp) pos) g R Q := by
  intro ok s m T QQ F N N₀ S hn hr
  refine Assign_Tuple_swapped (names := [x, y]) (Tuple_ ?_) (hs _) hw
  rw [he]
  refine Calls.spliced_cons (h ok s m T _ F N S fun a ob p h1 t1 T1 F1 N1 hs1 hlt r1 q1 => ?_)
  refine Calls.spliced_cons (q1 ok _ m ((a, ob) :: T1) _ F1 N1 (S.mono fun q hq => .tail _ (hs1 _ hq)) fun v2 p2 h2 t2 T2 F2 N2 hs2 r2 q2 => Calls.spliced_nil ?_)
  refine newTuple_N F2 N2 (fun h3 F3 N3 => ?_) (by rw [sizeLine_eq]; simp)
  refine unpackItemsN_ F3 N3 ⟨_, (N3 _ (.head _)).1, rfl, _, rfl⟩ rfl rfl fun h' F' N' => ?_
  refine assignInOrder_cons (bindName_ (store_to ok F' N' hy fun h4 t4 F4 N4 => ?_))
  refine assignInOrder_cons (bindName_ (store_to ok F4 N4 hx fun h5 t5 F5 N5 => ?_))
  refine assignInOrder_nil (hn _ _ _ _ _ F5 N5 (St.take2 ((S.mono hs1).putP (r2.any (T' := T1) q2.1) q2.1 (fun y q e => by rw [ho] at e; cases e)) ho hlt r1 (hxn _) (fun q hq => .tail _ (hs2 _ hq))) q2.2)
/-- found, y, z = (a fresh list, two plain values) -/
theorem S1.own3 {x y z : Str} {xp yp zp tp vp pos : Pos} {k kv : Nat} {e₁ e₂ e₃ : PySem.Expr}
    (h : NV W d X e₁ g fun p => EV W d X e₂ g fun q => EV W d X e₃ g fun r => q.plain = true ∧ r.plain = true ∧ Q { ((g.put z r).put y q) with o := some (x, p) }) (ho : g.o = none := by rfl) (hxn : ∀ q r, ((g.put z r).put y q).σ.lookup x = none := by intro _ _; rfl)
    (hx : X.env.kindOf x = some .local := by rfl) (hy : X.env.kindOf y = some .local := by rfl) (hz : X.env.kindOf z = some .local := by rfl)
    (hs : ∀ env : Env, swapsWithSole [.Tuple [.Name x xp, .Name y yp, .Name z zp] k tp] (.Tuple [e₁, e₂, e₃] kv vp) pos.line env = pure false := by intro _; rfl)
    (hw : swappedStores [.Tuple [.Name x xp, .Name y yp, .Name z zp] k tp] (.Tuple [e₁, e₂, e₃] kv vp) X.env = pure (some [x, y, z]) := by kernel_rfl)
    (he : ∀ env : Env, starEach [e₁, e₂, e₃] env = [(false, eval e₁ env), (false, eval e₂ env), (false, eval e₃ env)] := by intro _; rfl) :
    S1 W d X (.Assign [.Tuple [.Name x xp, .Name y yp, .Name z zp] k tp] (.Tuple [e₁, e₂, e₃] kv vp) pos) g R Q := by
  intro ok s m T QQ F N N₀ S hn hr
  refine Assign_Tuple_swapped (names := [x, y, z]) (Tuple_ ?_) (hs _) hw
  rw [he]
  refine Calls.spliced_cons (h ok s m T _ F N S fun a ob p h1 t1 T1 F1 N1 hs1 hlt r1 q1 => ?_)
  refine Calls.spliced_cons (q1 ok _ m ((a, ob) :: T1) _ F1 N1 (S.mono fun q hq => .tail _ (hs1 _ hq)) fun v2 p2 h2 t2 T2 F2 N2 hs2 r2 q2 => ?_)
  refine Calls.spliced_cons (q2 ok _ m T2 _ F2 N2 (S.mono fun q hq => hs2 _ (.tail _ (hs1 _ hq))) fun v3 p3 h3 t3 T3 F3 N3 hs3 r3 q3 => Calls.spliced_nil ?_)
  refine newTuple_N F3 N3 (fun h4 F4 N4 => ?_) (by rw [sizeLine_eq]; simp)
  refine unpackItemsN_ F4 N4 ⟨_, (N4 _ (.head _)).1, rfl, _, rfl⟩ rfl rfl fun h' F' N' => ?_
  refine assignInOrder_cons (bindName_ (store_to ok F' N' hz fun h5 t5 F5 N5 => ?_))
  refine assignInOrder_cons (bindName_ (store_to ok F5 N5 hy fun h6 t6 F6 N6 => ?_))
  refine assignInOrder_cons (bindName_ (store_to ok F6 N6 hx fun h7 t7 F7 N7 => ?_))
  have hno : ∀ (y : Str) (q : PV), g.o = some (y, q) → False := fun y q e => by rw [ho] at e; cases e
  refine assignInOrder_nil (hn _ _ _ _ _ F7 N7 (St.take2 (((S.mono hs1).putP (r3.any (T' := T1) q3.2.1) q3.2.1 (fun y q e => (hno y q e).elim)).putP (r2.any (T' := T1) q3.1) q3.1 (fun y q e => (hno y q e).elim)) ho hlt r1 (hxn _ _) (fun q hq => .tail _ (hs3 _ (hs2 _ hq)))) q3.2.2)

/-- found.append(e) -/
theorem S1.append {x : Str} {xp ap pos cpos : Pos} {e : PySem.Expr} {xs : List Int} {pl : Env → Sem Bool} (ho : g.o = some (x, .lst xs)) (hlen : xs.length ≤ 1000000)
    (h : EV W d X e g fun p => ∃ i, p = .int i ∧ Q { g with o := some (x, .lst (xs ++ [i])) }) (hk : X.env.kindOf x = some .local := by rfl) (hd : (x == ("__debug__" : Str)) = false := by decide)
    (hi : interactive X.env = false := by rfl) (hs : ∀ env : Env, swapsWith (.Call (.Attribute (.Name x xp) (Str.ofString "append") ap) [e] [] cpos) none pos.line env = pure false := by intro _; rfl)
    (he : ∀ env : Env, starEach [e] env = [(false, eval e env)] := by intro _; rfl)
    (hc : ∀ env : Env, eval (.Call (.Attribute (.Name x xp) (Str.ofString "append") ap) [e] [] cpos) env = (do
      let ov ← eval (.Name x xp) env
      standAt ap.atName
      let (f, first) ← holding [ov] (getMethod ov (Str.ofString "append") (pl env))
      callWith cpos f first (backTo cpos (starEach [e] env)) []) := by intro _; rfl) :
    S1 W d X (.Expr (.Call (.Attribute (.Name x xp) (Str.ofString "append") ap) [e] [] cpos) pos) g R Q := by
  intro ok s m T QQ F N N₀ S hn hr
  have S0 := S
  obtain ⟨as, h1, h2, h3, h4, h5⟩ := S0
  rw [ho] at h1
  obtain ⟨v, hm, hrv⟩ := h1
  cases hrv with | @lst a its n _ hmem hints =>
  refine wpAny_Expr ?_ hi (hs _)
  refine MethodCall_ (pl := pl X.env) ?_ (hc _)
  refine nameX_L F hm ?_ ok.kind hk hd
  refine getMethod_append_N N hmem ?_
  rw [he]
  refine Calls.callWith_builtin rfl (Calls.evalArgs_plain (Calls.spliced_cons (h ok s m T _ F N S fun v2 p2 h2' t2 T2 F2 N2 hs2 r2 q2 => Calls.spliced_nil ?_)))
  obtain ⟨i, rfl, hq⟩ := q2
  cases r2 with | @int _ tk =>
  have N3 : News X.h₀ X.L h2' ((a, PySem.W.listOf its.toArray n) :: off [a] T2) := fun q hq => by
    rcases List.mem_cons.mp hq with rfl | hq
    · exact N2 _ (hs2 _ hmem)
    · exact N2 _ (off_sub _ hq)
  refine append_K (its := its.toArray) F2 N3 (Upd.head fun q hq e => (mem_off.mp hq).2 (by rw [e]; exact .head _)) (fun h' F' N' => ?_) (by rw [List.size_toArray, hints.length, sizeLine_eq]; lia)
  have e1 : its.toArray.push (Value.int i tk) = (its ++ [Value.int i tk]).toArray := by simp
  rw [e1] at N'
  refine hn _ _ _ _ _ F' N' (((S.mono hs2).turn ho hm (fun as v hr hv => ?_) (.lst (.head _) (hints.append (.cons i tk .nil))))) hq
  cases hr; cases hv; rfl
end
section
variable {W : Wd} {d : Nat} {X : Fx} {g : G} {R : PV → Prop} {Q : G → Prop}

theorem ki_some {α : Type} : ∀ {l : List Value} {k : Nat} {v : Value}, k < l.length → ki_setL l k v = some (l.set k v)
  | [], _, _, h => absurd h (Nat.not_lt_zero _)
  | _ :: _, 0, _, _ => rfl
  | x :: r, k + 1, v, h => by
    have := ki_some (α := α) (l := r) (k := k) (v := v) (Nat.lt_of_succ_lt_succ h)
    simp [ki_setL, this]

/-- found[i] = e, found a list of ints -/
theorem S1.seti {x : Str} {xp sp pos : Pos} {e i : PySem.Expr} {xs : List Int} (ho : g.o = some (x, .lst xs)) (hlen : xs.length ≤ 1000000)
    (h : EV W d X e g fun p => EV W d X i g fun q => ∃ v k, p = .int v ∧ q = .int k ∧ 0 ≤ k ∧ k < xs.length ∧ Q { g with o := some (x, .lst (xs.set k.toNat v)) }) (hk : X.env.kindOf x = some .local := by rfl) (hd : (x == ("__debug__" : Str)) = false := by decide)
    (hs : ∀ env : Env, swapsWith e (some (.Subscript (.Name x xp) i sp)) pos.line env = pure false := by intro _; rfl) :
    S1 W d X (.Assign [.Subscript (.Name x xp) i sp] e pos) g R Q := by
  intro ok s m T QQ F N N₀ S hn hr
  have S0 := S
  obtain ⟨as, h1, h2, h3, h4, h5⟩ := S0
  rw [ho] at h1
  obtain ⟨v, hm, hrv⟩ := h1
  cases hrv with | @lst a its n _ hmem hints =>
  refine wpAny_Assign_Subscript (h ok s m T _ F N S fun v1 p1 h1' t1 T1 F1 N1 hs1 r1 q1 => ?_) (hs _)
  refine nameX_L F1 hm ?_ ok.kind hk hd
  refine q1 ok _ m T1 _ F1 N1 (S.mono hs1) fun v2 p2 h2' t2 T2 F2 N2 hs2 r2 q2 => ?_
  obtain ⟨v, k, rfl, rfl, h0, hlt, hq⟩ := q2
  cases r1 with | @int _ tk =>
  cases r2
  have N3 : News X.h₀ X.L h2' ((a, PySem.W.listOf its.toArray n) :: off [a] T2) := fun q hq => by
    rcases List.mem_cons.mp hq with rfl | hq
    · exact N2 _ (hs2 _ (hs1 _ hmem))
    · exact N2 _ (off_sub _ hq)
  have hl := hints.length
  refine ki_set (its := its.toArray) (q := its.set k.toNat (.int v tk)) F2 N3 h0 (by lia) (ki_some (α := Unit) (by show k.toNat < its.length; lia)) (Upd.head fun q hq e => (mem_off.mp hq).2 (by rw [e]; exact .head _)) fun h' F' N' => ?_
  refine hn _ _ _ _ _ F' N' ((((S.mono hs1).mono hs2).turn ho hm (fun as v hr hv => ?_) (.lst (.head _) (ints_set hints _)))) hq
  cases hr; cases hv; rfl
theorem setB {xs : List Bool} {k : Nat} {b : Bool} : (xs.map Value.bool).set k (.bool b) = (xs.set k b).map Value.bool := by
  induction xs generalizing k with
  | nil => rfl
  | cons x r ih => cases k with
    | zero => rfl
    | succ k => show Value.bool x :: (r.map Value.bool).set k (.bool b) = Value.bool x :: (r.set k b).map Value.bool; rw [ih]
theorem S1.setB {x : Str} {xp sp pos : Pos} {e i : PySem.Expr} {xs : List Bool} (ho : g.o = some (x, .bls xs)) (hlen : xs.length ≤ 1000000)
    (h : EV W d X e g fun p => EV W d X i g fun q => ∃ v k, p = .bool v ∧ q = .int k ∧ 0 ≤ k ∧ k < xs.length ∧ Q { g with o := some (x, .bls (xs.set k.toNat v)) }) (hk : X.env.kindOf x = some .local := by rfl) (hd : (x == ("__debug__" : Str)) = false := by decide)
    (hs : ∀ env : Env, swapsWith e (some (.Subscript (.Name x xp) i sp)) pos.line env = pure false := by intro _; rfl) :
    S1 W d X (.Assign [.Subscript (.Name x xp) i sp] e pos) g R Q := by
  intro ok s m T QQ F N N₀ S hn hr
  have S0 := S
  obtain ⟨as, h1, h2, h3, h4, h5⟩ := S0
  rw [ho] at h1
  obtain ⟨v, hm, hrv⟩ := h1
  cases hrv with | @bls a n _ hmem =>
  refine wpAny_Assign_Subscript (h ok s m T _ F N S fun v1 p1 h1' t1 T1 F1 N1 hs1 r1 q1 => ?_) (hs _)
  refine nameX_L F1 hm ?_ ok.kind hk hd
  refine q1 ok _ m T1 _ F1 N1 (S.mono hs1) fun v2 p2 h2' t2 T2 F2 N2 hs2 r2 q2 => ?_
  obtain ⟨v, k, rfl, rfl, h0, hlt, hq⟩ := q2
  cases r1
  cases r2
  have N3 : News X.h₀ X.L h2' ((a, PySem.W.listOf (xs.map Value.bool).toArray n) :: off [a] T2) := fun q hq => by
    rcases List.mem_cons.mp hq with rfl | hq
    · exact N2 _ (hs2 _ (hs1 _ hmem))
    · exact N2 _ (off_sub _ hq)
  refine ki_set (its := (xs.map Value.bool).toArray) (q := (xs.set k.toNat v).map Value.bool) F2 N3 h0 (by lia) (by rw [← Mine.setB]; exact ki_some (α := Unit) (by rw [List.length_map]; lia)) (Upd.head fun q hq e => (mem_off.mp hq).2 (by rw [e]; exact .head _)) fun h' F' N' => ?_
  refine hn _ _ _ _ _ F' N' ((((S.mono hs1).mono hs2).turn ho hm (fun as v hr hv => ?_) (.bls (.head _)))) hq
  cases hr; cases hv; rfl

theorem S1.while {test : PySem.Expr} {body : List Stmt} {pos : Pos} (ns : List Str) (I : G → Prop) (μ : G → Nat) (h0 : I (g.keep ns))
    (turn : ∀ g, I g → TV W d X test g fun b => if b = true then SV W d X body g R (fun g' => I (g'.keep ns) ∧ μ (g'.keep ns) < μ g) else Q g) : S1 W d X (.While test body [] pos) g R Q := by
  intro ok s m T QQ F N N₀ S hn hr
  refine While_inv2 (n₀ := μ (g.keep ns)) (fun n m nx => ∃ g, μ g = n ∧ I g ∧ St X N₀ g m nx) F N ⟨_, rfl, h0, S.keep ns⟩ ?_ PassesOwn.never
  rintro n m₁ T₁ h₁ tk₁ F₁ N₁ ⟨g₁, rfl, hI, S₁⟩
  refine turn g₁ hI ok _ m₁ T₁ _ F₁ N₁ S₁ fun b h2 t2 T2 F2 N2 hs2 q2 => ?_
  cases b with
  | false =>
    rw [if_neg (by decide)] at q2 ⊢
    exact hn _ _ _ _ _ F2 N2 (S₁.mono hs2) q2
  | true =>
    rw [if_pos rfl] at q2 ⊢
    refine q2 ok _ m₁ T2 _ F2 N2 (S₁.mono hs2) (fun h3 t3 m3 T3 g3 F3 N3 S3 q3 => ?_) fun v p h3 t3 m3 T3 F3 N3 hs3 r3 q3 => hr v p h3 t3 m3 T3 F3 N3 hs3 r3 q3
    exact ⟨h3, t3, m3, T3, _, rfl, F3, N3, q3.2, _, rfl, q3.1, S3.keep ns⟩

/-- the turns of a for over ints -/
theorem for_core {x : Str} {body : List Stmt} {s : Shared} {m : Str → Option Value} {T N₁ : Led} {QQ : Flow → Shared → Prop} {I : Addr} {fp wr : List Addr} {n : Nat} {P : Nat → Value → Prop} {Sh : Nat → Heap → Prop} {g : G}
    (ok : X.Ok W d) (ns : List Str) (J : Nat → G → Prop) (pv : Nat → PV) (Wk : Walks W.prog W.w X.A I fp wr n P Sh) (hLf : X.L ∉ fp) (hwr : ∀ b ∈ wr, X.h₀.get? b = none) (hst : Sh 0 s.heap)
    (F : Fr X.h₀ X.L s.heap m) (N : News X.h₀ X.L s.heap T) (S : St X N₁ g m T) (hT : ∀ p ∈ T, p.1 ∉ wr)
    (hdata : ∀ i h, Sh i h → ∀ b ∈ wr, ∃ o, h.get? b = some o ∧ NSC o) (hfp : ∀ b ∈ fp, b ∈ wr ∨ ∃ o, (b, o) ∈ N₁) (hP : ∀ i v, i < n → P i v → ∀ T, Rep T v (pv i)) (hpl : ∀ i, (pv i).plain = true)
    (ho : ∀ g' i, J i g' → ∀ y q, g'.o = some (y, q) → y ≠ x) (h0 : J 0 (g.keep ns))
    (turn : ∀ i g', i < n → J i g' → SV W d X body (g'.put x (pv i)) R (fun g2 => J (i + 1) (g2.keep ns))) (hn : ∀ h' tk' m' T' g', Fr X.h₀ X.L h' m' → News X.h₀ X.L h' T' → St X N₁ g' m' T' → J n g' → QQ .next { s with heap := h', toks := tk' })
    (hr : Rt X N₁ s R QQ) : LoopAtV W.prog W.w X.A X.h₀ X.env x body QQ NoE (.ref I) s := by
  refine ⟨I, fp, wr, n, P, Sh, m, T, fun i m T => ∃ g, J i g ∧ St X N₁ g m T, rfl, Wk, hLf, hwr, hT, hst, F, N, ⟨_, h0, S.keep ns⟩, ?_, ?_⟩
  · rintro i v m₁ T₁ s₁ own ⟨h1, t1, rfl⟩ hi hPi ⟨g₁, hJ, S₁⟩ hoff hown hownget hall hst1 F₁ N₁'
    have hN : ∀ p ∈ N₁, p ∈ T₁ := S₁.base
    have S₁0 := S₁
    obtain ⟨as, h1', h2', h3', h4', h5'⟩ := S₁0
    have S₂ : St X (own ++ N₁) g₁ m₁ (own ++ T₁) := by
      have hup : ∀ q ∈ T₁, q ∈ own ++ T₁ := fun q hq => List.mem_append_right _ hq
      refine ⟨as, h1'.mono hup, h2', fun p hp => ?_, h4'.mono (off_mono hup), h5'.mono hup⟩
      rcases List.mem_append.mp hp with hp | hp
      · refine mem_off.mpr ⟨List.mem_append_left _ hp, fun ha => ?_⟩
        rcases hfp _ (hown p hp) with hw | ⟨o, hb⟩
        · rcases List.mem_append.mp ha with hc | hc
          · obtain ⟨xc, hm, e⟩ := List.mem_map.mp hc
            obtain ⟨ob, v, hb, _, _⟩ := h5'.1 xc hm
            exact hoff _ hb (e ▸ hw)
          · cases hg : g₁.o with
            | none => rw [hg] at h1'; rw [show as = [] from h1'] at hc; cases hc
            | some yq =>
              obtain ⟨y, q⟩ := yq
              rw [hg] at h1'
              obtain ⟨u, hu, hrr⟩ := h1'
              cases hrr with
              | lst hm hi => rw [List.mem_singleton.mp hc] at hw; exact hoff _ hm hw
              | bls hm => rw [List.mem_singleton.mp hc] at hw; exact hoff _ hm hw
              | box hm hm2 _ _ _ _ _ =>
                rcases List.mem_cons.mp hc with hc | hc
                · rw [hc] at hw; exact hoff _ hm hw
                · rw [List.mem_singleton.mp hc] at hw; exact hoff _ hm2 hw
        · exact (mem_off.mp (h3' _ hb)).2 ha
      · exact off_mono hup _ (h3' p hp)
    have S₃ : St X (own ++ N₁) (g₁.put x (pv i)) (fun y => if y = x then some v else m₁ y) (own ++ T₁) := S₂.putP (hP i v hi hPi _) (hpl i) (ho g₁ i hJ)
    refine turn i g₁ hi hJ ok _ _ (own ++ T₁) _ F₁ N₁' S₃ (fun h3 t3 m3 T3 g3 F3 N3 S3 q3 => ?_) fun v p h3 t3 m3 T3 F3 N3 hs3 r3 q3 => ?_
    · have hOwn : ∀ p ∈ own, p ∈ T3 := fun p hp => S3.base p (List.mem_append_left _ hp)
      have hns : ∀ p ∈ T3, p.1 ∈ wr → NSC p.2 := fun p hp hw => by
        obtain ⟨o, hget, hnsc⟩ := hdata _ _ hst1 _ hw
        have hm := hOwn _ (hall _ (Wk.sub _ hw) (hwr _ hw) o hget)
        have := fun_of N3 hm (show (p.1, p.2) ∈ T3 from hp)
        rw [← this]; exact hnsc
      refine LoopStepV.next (LoopStepU.intro (news₂ := off wr T3) F3 (fun p hp => ?_) (fun p hp => (mem_off.mp hp).2) ⟨_, q3, (S3.keep ns).offI hns fun p hp => ⟨List.mem_append_right _ hp, hoff _ (hN _ hp)⟩⟩)
      rcases List.mem_append.mp hp with hp | hp
      · exact N3 _ (hOwn _ hp)
      · exact N3 _ (off_sub _ hp)
    · exact LoopStepV.ret (hr v p h3 t3 m3 T3 F3 N3 (fun q hq => hs3 q (List.mem_append_right _ hq)) r3 q3)
  · rintro h' tk m' T' F' N' _ ⟨g', hJ, S'⟩
    exact hn h' tk m' T' g' F' N' S' hJ

theorem range_iter_new {h : Heap} {a b : Addr} {x l c : Int} (e : IsRangeIter h a x l c) : ∃ o, h.get? a = some o ∧ NSC o := ⟨_, e, ⟨fun _ _ h => (by cases h), fun _ h => (by cases h)⟩⟩

/-- the turns of a range -/
theorem range_turns {x : Str} {body : List Stmt} {s : Shared} {m : Str → Option Value} {T N₀ : Led} {QQ : Flow → Shared → Prop} {r : Addr} {a b c : Int} {t u v : Tok} {n : Nat} {g : G}
    (ok : X.Ok W d) (ns : List Str) (J : Nat → G → Prop) (hrg : IsRange s.heap r a b c t u v) (hsm : Builtin.Range.small a b c = true) (hsz : Builtin.Range.rangeSize a b c = (n : Int))
    (F : Fr X.h₀ X.L s.heap m) (N : News X.h₀ X.L s.heap T) (S : St X N₀ g m T)
    (ho : ∀ g' i, J i g' → ∀ y q, g'.o = some (y, q) → y ≠ x) (h0 : J 0 (g.keep ns))
    (turn : ∀ i g', i < n → J i g' → SV W d X body (g'.put x (.int (a + i * c))) R (fun g2 => J (i + 1) (g2.keep ns))) (hn : Nx X N₀ s (J n) QQ)
    (hr : Rt X N₀ s R QQ) : wpAny (model W.prog W.w) X.A (pyIter (.ref r)) (fun it s₂ => LoopAtV W.prog W.w X.A X.h₀ X.env x body QQ NoE it s₂) NoE s := by
  refine wpAny_pyIter_range hrg hsm ?_
  have Wk : Walks W.prog W.w X.A s.heap.objs.size [s.heap.objs.size] [s.heap.objs.size] n (fun i v => i < n ∧ ∃ t, v = .int (a + i * c) t)
      (fun i h => IsRangeIter h s.heap.objs.size (a + (i : Nat) * c) ((n : Int) - (i : Nat)) c) := (Walks.range rfl _ a c n).bound
  refine for_core (N₁ := N₀) ok ns J (fun i => .int (a + i * c)) Wk ?_ ?_ (by show IsRangeIter _ _ _ _ _; rw [hsz]; simpa using Heap.get?_push_size _ rfl) (F.push _) (fun p hp => ⟨Heap.get?_push_of_some _ (N p hp).1, (N p hp).2⟩) S ?_ ?_ (fun b hb => .inl hb) (fun i v hi hp T => ?_) (fun _ => rfl) ho h0 turn ?_ ?_
  · intro hm
    exact absurd F.ns.lt ((List.mem_singleton.mp hm) ▸ Nat.lt_irrefl _)
  · intro b hb
    rw [List.mem_singleton.mp hb]
    exact next_is_new F
  · intro p hp hI
    exact absurd (Heap.lt_size (N p hp).1) ((List.mem_singleton.mp hI) ▸ Nat.lt_irrefl _)
  · intro i h hS b hb
    rw [List.mem_singleton.mp hb]
    exact range_iter_new (b := b) hS
  · obtain ⟨_, t, rfl⟩ := hp
    exact .int
  · intro h' tk' m' T' g' F' N' S' hJ
    exact hn h' tk' m' T' g' F' N' S' hJ
  · intro v p h' tk' m' T' F' N' hs hrr hq
    exact hr v p h' tk' m' T' F' N' hs hrr hq

theorem rsize_up (a b : Int) : Builtin.Range.rangeSize a b 1 = ((b - a).toNat : Int) := rangeSize_nat a b
noncomputable abbrev small62 (a : Int) : Prop := -(2 ^ 62) ≤ a ∧ a < 2 ^ 62

/-- for x in range(b) -/
theorem S1.for1 {x : Str} {xp rp cp pos : Pos} {e : PySem.Expr} {body : List Stmt} (ns : List Str) (b : Int) (J : Nat → G → Prop) (hl : nsIn W.K mainGlobals (Str.ofString "range") = some none)
    (h : EV W d X e g fun p => p = .int b) (hb : small62 b) (ho : ∀ g' i, J i g' → ∀ y q, g'.o = some (y, q) → y ≠ x := by intro g' i h y q e; simp_all) (h0 : J 0 (g.keep ns))
    (turn : ∀ (i : Nat) g', (i : Int) < b → J i g' → SV W d X body (g'.put x (.int i)) R (fun g2 => J (i + 1) (g2.keep ns))) (hq : ∀ g', J b.toNat g' → Q g')
    (hk : X.env.kindOf (Str.ofString "range") = some .globalImplicit := by rfl) (hx : X.env.kindOf x = some .local := by rfl)
    (he : ∀ env : Env, starEach [e] env = [(false, eval e env)] := by intro _; rfl)
    (hs : ∀ env : Env, ∀ x, foldedSetIterable (.Call (.Name (Str.ofString "range") rp) [e] [] cp) env x = pure x := by intro _ _; rfl)
    (hc : ∀ env : Env, eval (.Call (.Name (Str.ofString "range") rp) [e] [] cp) env = (do callWith cp (← eval (.Name (Str.ofString "range") rp) env) [] (backTo cp (starEach [e] env)) (backToKw cp (keywordEach [] env))) := by intro _; rfl) :
    S1 W d X (.For (.Name x xp) (.Call (.Name (Str.ofString "range") rp) [e] [] cp) body [] pos) g R Q := by
  intro ok s m T QQ F N N₀ S hn hr
  refine For_invV X.h₀ hx (by show (X.cs.kind == .class || (X.cs.kind == .module && X.L != mainGlobals)) = false; rw [ok.kind]; rfl) ?_ (hs _) PassesOwn.never
  refine Call_ (bname ok F hl (v := .type "range") (by boot_by_name) (by decide) ?_ hk) (hc _)
  rw [he]
  refine PySem.callWith_type rfl (Calls.evalArgs_plain (Calls.spliced_cons (h ok s m T _ F N S fun v p h1 t1 T1 F1 N1 hs1 r1 q1 => Calls.spliced_nil ?_)))
  subst q1
  cases r1
  refine range1_rows F1 N1 fun h2 t2 _ _ _ hrg F2 N2 _ => ?_
  refine range_turns (n := b.toNat) ok ns J hrg (small_one (by decide) (by decide) hb.1 hb.2) (by rw [rsize_up]; simp) F2 N2 (S.mono hs1) ho h0 (fun i g' hi hJ => ?_) (fun h' tk' m' T' g' F' N' S' hJ => hn h' tk' m' T' g' F' N' S' (hq _ hJ)) (fun v p h' tk' m' T' F' N' hs hrr hq => hr v p h' tk' m' T' F' N' hs hrr hq)
  have := turn i g' (by lia) hJ
  simpa using this
/-- for x in range(a, b) -/
theorem S1.for2 {x : Str} {xp rp cp pos : Pos} {e e' : PySem.Expr} {body : List Stmt} (ns : List Str) (a b : Int) (J : Nat → G → Prop) (hl : nsIn W.K mainGlobals (Str.ofString "range") = some none)
    (h : EV W d X e g fun p => p = .int a ∧ EV W d X e' g fun p => p = .int b) (ha : small62 a) (hb : small62 b) (ho : ∀ g' i, J i g' → ∀ y q, g'.o = some (y, q) → y ≠ x := by intro g' i h y q e; simp_all) (h0 : J 0 (g.keep ns))
    (turn : ∀ (i : Nat) g', a + i < b → J i g' → SV W d X body (g'.put x (.int (a + i))) R (fun g2 => J (i + 1) (g2.keep ns))) (hq : ∀ g', J (b - a).toNat g' → Q g')
    (hk : X.env.kindOf (Str.ofString "range") = some .globalImplicit := by rfl) (hx : X.env.kindOf x = some .local := by rfl)
    (he : ∀ env : Env, starEach [e, e'] env = [(false, eval e env), (false, eval e' env)] := by intro _; rfl)
    (hs : ∀ env : Env, ∀ x, foldedSetIterable (.Call (.Name (Str.ofString "range") rp) [e, e'] [] cp) env x = pure x := by intro _ _; rfl)
    (hc : ∀ env : Env, eval (.Call (.Name (Str.ofString "range") rp) [e, e'] [] cp) env = (do callWith cp (← eval (.Name (Str.ofString "range") rp) env) [] (backTo cp (starEach [e, e'] env)) (backToKw cp (keywordEach [] env))) := by intro _; rfl) :
    S1 W d X (.For (.Name x xp) (.Call (.Name (Str.ofString "range") rp) [e, e'] [] cp) body [] pos) g R Q := by
  intro ok s m T QQ F N N₀ S hn hr
  refine For_invV X.h₀ hx (by show (X.cs.kind == .class || (X.cs.kind == .module && X.L != mainGlobals)) = false; rw [ok.kind]; rfl) ?_ (hs _) PassesOwn.never
  refine Call_ (bname ok F hl (v := .type "range") (by boot_by_name) (by decide) ?_ hk) (hc _)
  rw [he]
  refine PySem.callWith_type rfl (Calls.evalArgs_plain (Calls.spliced_cons (h ok s m T _ F N S fun v p h1 t1 T1 F1 N1 hs1 r1 q1 => ?_)))
  obtain ⟨rfl, q1⟩ := q1
  cases r1
  refine Calls.spliced_cons (q1 ok _ m T1 _ F1 N1 (S.mono hs1) fun v2 p2 h2 t2 T2 F2 N2 hs2 r2 q2 => Calls.spliced_nil ?_)
  subst q2
  cases r2
  refine range2_rows F2 N2 fun h3 t3 _ _ _ hrg F3 N3 _ => ?_
  refine range_turns (n := (b - a).toNat) ok ns J hrg (small_one ha.1 ha.2 hb.1 hb.2) (by rw [rsize_up]) F3 N3 ((S.mono hs1).mono hs2) ho h0 (fun i g' hi hJ => ?_) (fun h' tk' m' T' g' F' N' S' hJ => hn h' tk' m' T' g' F' N' S' (hq _ hJ)) (fun v p h' tk' m' T' F' N' hs hrr hq => hr v p h' tk' m' T' F' N' hs hrr hq)
  have := turn i g' (by omega) hJ
  simpa using this
/-- for x in range(a, -1, -1) -/
theorem S1.forD {x : Str} {xp rp cp pos : Pos} {e e' e'' : PySem.Expr} {body : List Stmt} (ns : List Str) (a : Int) (J : Nat → G → Prop) (hl : nsIn W.K mainGlobals (Str.ofString "range") = some none)
    (h : EV W d X e g fun p => p = .int a ∧ EV W d X e' g fun p => p = .int (-1) ∧ EV W d X e'' g fun p => p = .int (-1)) (ha : small62 a) (ho : ∀ g' i, J i g' → ∀ y q, g'.o = some (y, q) → y ≠ x := by intro g' i h y q e; simp_all) (h0 : J 0 (g.keep ns))
    (turn : ∀ (i : Nat) g', (i : Int) ≤ a → J i g' → SV W d X body (g'.put x (.int (a - i))) R (fun g2 => J (i + 1) (g2.keep ns))) (hq : ∀ g', J (a + 1).toNat g' → Q g')
    (hk : X.env.kindOf (Str.ofString "range") = some .globalImplicit := by rfl) (hx : X.env.kindOf x = some .local := by rfl)
    (he : ∀ env : Env, starEach [e, e', e''] env = [(false, eval e env), (false, eval e' env), (false, eval e'' env)] := by intro _; rfl)
    (hs : ∀ env : Env, ∀ x, foldedSetIterable (.Call (.Name (Str.ofString "range") rp) [e, e', e''] [] cp) env x = pure x := by intro _ _; rfl)
    (hc : ∀ env : Env, eval (.Call (.Name (Str.ofString "range") rp) [e, e', e''] [] cp) env = (do callWith cp (← eval (.Name (Str.ofString "range") rp) env) [] (backTo cp (starEach [e, e', e''] env)) (backToKw cp (keywordEach [] env))) := by intro _; rfl) :
    S1 W d X (.For (.Name x xp) (.Call (.Name (Str.ofString "range") rp) [e, e', e''] [] cp) body [] pos) g R Q := by
  intro ok s m T QQ F N N₀ S hn hr
  refine For_invV X.h₀ hx (by show (X.cs.kind == .class || (X.cs.kind == .module && X.L != mainGlobals)) = false; rw [ok.kind]; rfl) ?_ (hs _) PassesOwn.never
  refine Call_ (bname ok F hl (v := .type "range") (by boot_by_name) (by decide) ?_ hk) (hc _)
  rw [he]
  refine PySem.callWith_type rfl (Calls.evalArgs_plain (Calls.spliced_cons (h ok s m T _ F N S fun v p h1 t1 T1 F1 N1 hs1 r1 q1 => ?_)))
  obtain ⟨rfl, q1⟩ := q1
  cases r1
  refine Calls.spliced_cons (q1 ok _ m T1 _ F1 N1 (S.mono hs1) fun v2 p2 h2 t2 T2 F2 N2 hs2 r2 q2 => ?_)
  obtain ⟨rfl, q2⟩ := q2
  cases r2
  refine Calls.spliced_cons (q2 ok _ m T2 _ F2 N2 ((S.mono hs1).mono hs2) fun v3 p3 h3 t3 T3 F3 N3 hs3 r3 q3 => Calls.spliced_nil ?_)
  subst q3
  cases r3
  refine range3_rows F3 N3 (by decide) (fun h4 t4 _ _ _ hrg F4 N4 _ => ?_) (.inl (PyProof.noPylong_of_log2 (by decide +kernel)))
  refine range_turns (n := (a + 1).toNat) ok ns J hrg (small_down ha.1 ha.2 (by decide) (by decide)) (by rw [rangeSize_downNat]; lia) F4 N4 (((S.mono hs1).mono hs2).mono hs3) ho h0 (fun i g' hi hJ => ?_) (fun h' tk' m' T' g' F' N' S' hJ => hn h' tk' m' T' g' F' N' S' (hq _ hJ)) (fun v p h' tk' m' T' F' N' hs hrr hq => hr v p h' tk' m' T' F' N' hs hrr hq)
  have := turn i g' (by lia) hJ
  have e : a + (i : Int) * -1 = a - i := by lia
  rw [e]
  exact this

theorem list_iter_nsc {h : Heap} {a l : Addr} {i : Nat} (e : h.IsListIter a l i) : ∃ o, h.get? a = some o ∧ NSC o := by
  obtain ⟨o, ho, _, hd⟩ := e
  exact ⟨o, ho, ⟨fun _ _ h => (by rw [hd] at h; cases h), fun _ h => (by rw [hd] at h; cases h)⟩⟩
theorem rev_iter_nsc {h : Heap} {a l : Addr} {i : Int} (e : h.IsRevIter a l i) : ∃ o, h.get? a = some o ∧ NSC o := by
  obtain ⟨o, ho, _, hd⟩ := e
  exact ⟨o, ho, ⟨fun _ _ h => (by rw [hd] at h; cases h), fun _ h => (by rw [hd] at h; cases h)⟩⟩


/-- for x in a list of ints (no list is owned, or another one) -/
theorem S1.forL {x : Str} {xp pos : Pos} {e : PySem.Expr} {body : List Stmt} (ns : List Str) (xs : List Int) (J : Nat → G → Prop)
    (h : EV W d X e g fun p => p = .lst xs) (hg : g.o = none) (ho : ∀ g' i, J i g' → ∀ y q, g'.o = some (y, q) → y ≠ x := by intro g' i h y q e; simp_all) (h0 : J 0 (g.keep ns))
    (turn : ∀ (i : Nat) v g', xs[i]? = some v → J i g' → SV W d X body (g'.put x (.int v)) R (fun g2 => J (i + 1) (g2.keep ns))) (hq : ∀ g', J xs.length g' → Q g')
    (hx : X.env.kindOf x = some .local := by rfl)
    (hs : ∀ env : Env, ∀ x, foldedSetIterable e env x = pure x := by intro _ _; rfl) :
    S1 W d X (.For (.Name x xp) e body [] pos) g R Q := by
  intro ok s m T QQ F N N₀ S hn hr
  refine For_invV X.h₀ hx (by show (X.cs.kind == .class || (X.cs.kind == .module && X.L != mainGlobals)) = false; rw [ok.kind]; rfl) ?_ (hs _) PassesOwn.never
  refine h ok s m T _ F N S fun v p h1 t1 T1 F1 N1 hs1 r1 q1 => ?_
  subst q1
  have S1 := S.mono hs1
  have hc := S1.cellOff N1
  cases r1 with | @lst l its k _ hm hi =>
  have hlsize : l < h1.objs.size := Heap.lt_size (N1 _ hm).1
  refine wpAny_pyIter_list (s := { s with heap := h1, toks := t1 }) (IsL_of N1 hm) ?_
  have W0 := Walks.list (prog := W.prog) (w := W.w) (A := X.A) rfl h1.objs.size l (Nat.ne_of_lt hlsize) its.toArray
  have hlen : its.toArray.size = xs.length := by rw [List.size_toArray, hi.length]
  rw [hlen] at W0
  have S2 : St X ((l, PySem.W.listOf its.toArray k) :: N₀) g m T1 := by
    obtain ⟨as, a1, a2, a3, a4, a5⟩ := S1
    refine ⟨as, a1, a2, fun q hq => ?_, a4, a5⟩
    rcases List.mem_cons.mp hq with rfl | hq
    · rw [hg] at a1
      have a1' : as = [] := a1
      subst a1'
      exact mem_off.mpr ⟨hm, fun hz => hc _ hm (by simpa using hz) _ _ rfl⟩
    · exact a3 q hq
  refine for_core (R := R) (N₁ := (l, PySem.W.listOf its.toArray k) :: N₀) ok ns (fun i g => J i g) (fun i => .int (xs[i]?.getD 0)) W0 ?_ ?_ ⟨⟨_, Heap.get?_push_size _ rfl, rfl, rfl⟩, (IsL_of N1 hm).at fun o e => Heap.get?_push_of_some _ e⟩ (F1.push _) (fun p hp => ⟨Heap.get?_push_of_some _ (N1 p hp).1, (N1 p hp).2⟩) S2 ?_ ?_ ?_ (fun i v hi' hp T => ?_) (fun _ => rfl) ho h0 (fun i g' hi' hJ => ?_) ?_ ?_
  · intro hm'
    rcases List.mem_cons.mp hm' with e | e
    · exact absurd F1.ns.lt (e ▸ Nat.lt_irrefl _)
    · exact (N1 _ hm).2.1 (List.mem_singleton.mp e).symm
  · intro b hb
    rw [List.mem_singleton.mp hb]
    exact next_is_new F1
  · intro p hp hI
    exact absurd (Heap.lt_size (N1 p hp).1) ((List.mem_singleton.mp hI) ▸ Nat.lt_irrefl _)
  · intro i h hS b hb
    rw [List.mem_singleton.mp hb]
    exact list_iter_nsc hS.1
  · intro b hb
    rcases List.mem_cons.mp hb with e | e
    · exact .inl (e ▸ List.mem_singleton.mpr rfl)
    · refine .inr ⟨PySem.W.listOf its.toArray k, ?_⟩
      rw [List.mem_singleton.mp e]
      exact List.mem_cons_self
  · obtain ⟨t, ht⟩ := IntsAre.get? hi (List.getElem?_eq_getElem hi')
    have e1 : its[i]? = some v := by simpa using hp
    rw [ht] at e1
    cases e1
    rw [List.getElem?_eq_getElem hi']
    exact .int
  · have e1 := List.getElem?_eq_getElem hi'
    have := turn i _ g' e1 hJ
    rw [e1]
    exact this
  · intro h' tk' m' T' g' F' N' S' hJ
    exact hn h' tk' m' T' g' F' N' (S'.less fun q hq => .tail _ hq) (hq _ hJ)
  · intro v p h' tk' m' T' F' N' hs hrr hq
    exact hr v p h' tk' m' T' F' N' (fun q hq => hs q (.tail _ hq)) hrr hq
/-- for x in reversed(xs) -/
theorem S1.forRev {x : Str} {xp rp cp pos : Pos} {e : PySem.Expr} {body : List Stmt} (ns : List Str) (xs : List Int) (J : Nat → G → Prop) (hl : nsIn W.K mainGlobals (Str.ofString "reversed") = some none)
    (h : EV W d X e g fun p => p = .lst xs) (hg : g.o = none) (ho : ∀ g' i, J i g' → ∀ y q, g'.o = some (y, q) → y ≠ x := by intro g' i h y q e; simp_all) (h0 : J 0 (g.keep ns))
    (turn : ∀ (i : Nat) v g', i < xs.length → xs[xs.length - 1 - i]? = some v → J i g' → SV W d X body (g'.put x (.int v)) R (fun g2 => J (i + 1) (g2.keep ns))) (hq : ∀ g', J xs.length g' → Q g')
    (hk : X.env.kindOf (Str.ofString "reversed") = some .globalImplicit := by rfl) (hx : X.env.kindOf x = some .local := by rfl)
    (he : ∀ env : Env, starEach [e] env = [(false, eval e env)] := by intro _; rfl)
    (hs : ∀ env : Env, ∀ x, foldedSetIterable (.Call (.Name (Str.ofString "reversed") rp) [e] [] cp) env x = pure x := by intro _ _; rfl)
    (hc : ∀ env : Env, eval (.Call (.Name (Str.ofString "reversed") rp) [e] [] cp) env = (do callWith cp (← eval (.Name (Str.ofString "reversed") rp) env) [] (backTo cp (starEach [e] env)) (backToKw cp (keywordEach [] env))) := by intro _; rfl) :
    S1 W d X (.For (.Name x xp) (.Call (.Name (Str.ofString "reversed") rp) [e] [] cp) body [] pos) g R Q := by
  intro ok s m T QQ F N N₀ S hn hr
  refine For_invV X.h₀ hx (by show (X.cs.kind == .class || (X.cs.kind == .module && X.L != mainGlobals)) = false; rw [ok.kind]; rfl) ?_ (hs _) PassesOwn.never
  refine Call_ (bname ok F hl (v := .type "reversed") (by boot_by_name) (by decide) ?_ hk) (hc _)
  rw [he]
  refine PySem.callWith_type rfl (Calls.evalArgs_plain (Calls.spliced_cons (h ok s m T _ F N S fun v p h1 t1 T1 F1 N1 hs1 r1 q1 => Calls.spliced_nil ?_)))
  subst q1
  have S1 := S.mono hs1
  have hc := S1.cellOff N1
  cases r1 with | @lst l its k _ hm hi =>
  have hlsize : l < h1.objs.size := Heap.lt_size (N1 _ hm).1
  refine call_reversed_list (s := { s with heap := h1, toks := t1 }) (IsL_of N1 hm) ?_
  have hri : (h1.push (revObj l ((its.toArray.size : Int) - 1))).IsRevIter h1.objs.size l ((its.toArray.size : Int) - 1) := ⟨_, Heap.get?_push_size _ rfl, rfl, rfl⟩
  refine wpAny_pyIter_revIter (s := { s with heap := h1.push (revObj l ((its.toArray.size : Int) - 1)), toks := t1 }) hri ?_
  have W0 := Walks.listRev (prog := W.prog) (w := W.w) (A := X.A) rfl h1.objs.size l (Nat.ne_of_lt hlsize) its.toArray
  have hlen : its.toArray.size = xs.length := by rw [List.size_toArray, hi.length]
  have S2 : St X ((l, PySem.W.listOf its.toArray k) :: N₀) g m T1 := by
    obtain ⟨as, a1, a2, a3, a4, a5⟩ := S1
    refine ⟨as, a1, a2, fun q hq => ?_, a4, a5⟩
    rcases List.mem_cons.mp hq with rfl | hq
    · rw [hg] at a1
      have a1' : as = [] := a1
      subst a1'
      exact mem_off.mpr ⟨hm, fun hz => hc _ hm (by simpa using hz) _ _ rfl⟩
    · exact a3 q hq
  refine for_core (R := R) (N₁ := (l, PySem.W.listOf its.toArray k) :: N₀) ok ns (fun i g => J i g) (fun i => .int (xs[xs.length - 1 - i]?.getD 0)) W0 ?_ ?_ ⟨Nat.zero_le _, by simpa using hri, (IsL_of N1 hm).at fun o e => Heap.get?_push_of_some _ e⟩ (F1.push _) (fun p hp => ⟨Heap.get?_push_of_some _ (N1 p hp).1, (N1 p hp).2⟩) S2 ?_ ?_ ?_ (fun i v hi' hp T => ?_) (fun _ => rfl) ho h0 (fun i g' hi' hJ => ?_) ?_ ?_
  · intro hm'
    rcases List.mem_cons.mp hm' with e | e
    · exact absurd F1.ns.lt (e ▸ Nat.lt_irrefl _)
    · exact (N1 _ hm).2.1 (List.mem_singleton.mp e).symm
  · intro b hb
    rw [List.mem_singleton.mp hb]
    exact next_is_new F1
  · intro p hp hI
    exact absurd (Heap.lt_size (N1 p hp).1) ((List.mem_singleton.mp hI) ▸ Nat.lt_irrefl _)
  · intro i h hS b hb
    rw [List.mem_singleton.mp hb]
    exact rev_iter_nsc hS.2.1
  · intro b hb
    rcases List.mem_cons.mp hb with e | e
    · exact .inl (e ▸ List.mem_singleton.mpr rfl)
    · refine .inr ⟨PySem.W.listOf its.toArray k, ?_⟩
      rw [List.mem_singleton.mp e]
      exact List.mem_cons_self
  · rw [hlen] at hi' hp
    have hlt : xs.length - 1 - i < xs.length := by omega
    obtain ⟨t, ht⟩ := IntsAre.get? hi (List.getElem?_eq_getElem hlt)
    have e1 : its[xs.length - 1 - i]? = some v := by simpa using hp
    rw [ht] at e1
    cases e1
    rw [List.getElem?_eq_getElem hlt]
    exact .int
  · rw [hlen] at hi'
    have hlt : xs.length - 1 - i < xs.length := by omega
    have e1 := List.getElem?_eq_getElem hlt
    have := turn i _ g' hi' e1 hJ
    rw [e1]
    exact this
  · intro h' tk' m' T' g' F' N' S' hJ
    rw [hlen] at hJ
    exact hn h' tk' m' T' g' F' N' (S'.less fun q hq => .tail _ hq) (hq _ hJ)
  · intro v p h' tk' m' T' F' N' hs hrr hq
    exact hr v p h' tk' m' T' F' N' (fun q hq => hs q (.tail _ hq)) hrr hq
end
section
variable {W : Wd} {d : Nat} {X : Fx} {g : G} {R : PV → Prop} {Q : G → Prop}

/-- for x, y in enumerate(xs) -/
theorem S1.forEnum {x y : Str} {xp yp tp rp cp pos : Pos} {k : Nat} {e : PySem.Expr} {body : List Stmt} (ns : List Str) (xs : List Int) (J : Nat → G → Prop) (hl : nsIn W.K mainGlobals (Str.ofString "enumerate") = some none)
    (h : EV W d X e g fun p => p = .lst xs) (hg : g.o = none) (ho : ∀ g' i, J i g' → g'.o = none) (h0 : J 0 (g.keep ns))
    (turn : ∀ (i : Nat) v g', xs[i]? = some v → J i g' → SV W d X body ((g'.put x (.int i)).put y (.int v)) R (fun g2 => J (i + 1) (g2.keep ns))) (hq : ∀ g', J xs.length g' → Q g')
    (hk : X.env.kindOf (Str.ofString "enumerate") = some .globalImplicit := by rfl) (hx : X.env.kindOf x = some .local := by rfl) (hy : X.env.kindOf y = some .local := by rfl)
    (he : ∀ env : Env, starEach [e] env = [(false, eval e env)] := by intro _; rfl)
    (hs : ∀ env : Env, ∀ x, foldedSetIterable (.Call (.Name (Str.ofString "enumerate") rp) [e] [] cp) env x = pure x := by intro _ _; rfl)
    (hc : ∀ env : Env, eval (.Call (.Name (Str.ofString "enumerate") rp) [e] [] cp) env = (do callWith cp (← eval (.Name (Str.ofString "enumerate") rp) env) [] (backTo cp (starEach [e] env)) (backToKw cp (keywordEach [] env))) := by intro _; rfl) :
    S1 W d X (.For (.Tuple [.Name x xp, .Name y yp] k tp) (.Call (.Name (Str.ofString "enumerate") rp) [e] [] cp) body [] pos) g R Q := by
  intro ok s m T QQ F N N₀ S hn hr
  refine For_turns (h₀ := X.h₀) F ?_ (hs _) PassesOwn.never
  refine Call_ (bname ok F hl (v := .type "enumerate") (by boot_by_name) (by decide) ?_ hk) (hc _)
  rw [he]
  refine PySem.callWith_type rfl (Calls.evalArgs_plain (Calls.spliced_cons (h ok s m T _ F N S fun v p h1 t1 T1 F1 N1 hs1 r1 q1 => Calls.spliced_nil ?_)))
  subst q1
  have S1 := S.mono hs1
  have hcell := S1.cellOff N1
  cases r1 with | @lst l its kk _ hm hi =>
  have hlsize : l < h1.objs.size := Heap.lt_size (N1 _ hm).1
  refine call_enumerate_list (s := { s with heap := h1, toks := t1 }) (IsL_of N1 hm) fun h' hE hI hsz hkeep => ?_
  refine wpAny_pyIter_enum (s := { s with heap := h', toks := t1 }) hE ?_
  have hlen : its.toArray.size = xs.length := by rw [List.size_toArray, hi.length]
  have hN2 : X.h₀.get? h1.objs.size = none := next_is_new F1
  have hN3 : X.h₀.get? (h1.objs.size + 1) = none := by
    cases q : X.h₀.get? (h1.objs.size + 1) with
    | none => rfl
    | some o => exact absurd (Nat.lt_of_succ_lt (Heap.lt_size (F1.keep _ _ q))) (Nat.lt_irrefl _)
  have S2 : St X ((l, PySem.W.listOf its.toArray kk) :: N₀) g m T1 := by
    obtain ⟨as, a1, a2, a3, a4, a5⟩ := S1
    refine ⟨as, a1, a2, fun q hq => ?_, a4, a5⟩
    rcases List.mem_cons.mp hq with rfl | hq
    · rw [hg] at a1
      have a1' : as = [] := a1
      subst a1'
      exact mem_off.mpr ⟨hm, fun hz => hcell _ hm (by simpa using hz) _ _ rfl⟩
    · exact a3 q hq
  have Wk := (WalksT.enumerate (prog := W.prog) (w := W.w) (A := X.A) rfl (h1.objs.size + 1) h1.objs.size l (Nat.succ_ne_self _) (Nat.ne_of_lt (Nat.lt_succ_of_lt hlsize)) (Nat.ne_of_lt hlsize) its.toArray).toU
  have F2 : Fr X.h₀ X.L h' m := F1.keeps hkeep
  have N2 : News X.h₀ X.L h' T1 := fun p hp => ⟨hkeep _ _ (N1 p hp).1, (N1 p hp).2⟩
  refine ⟨h1.objs.size + 1, _, _, its.toArray.size, _, _, _, m, T1, fun i m T => ∃ g, J i g ∧ St X ((l, PySem.W.listOf its.toArray kk) :: N₀) g m T, rfl, KTurns.ofWalksU Wk, ?_, ?_, ?_, ⟨⟨_, hE⟩, hI, (IsL_of N1 hm).at fun o e => hkeep _ _ e⟩, F2, N2, ⟨_, h0, S2.keep ns⟩, ?_, ?_⟩
  · intro hI'
    rcases List.mem_cons.mp hI' with e | hI'
    · have h7 : @LT.lt Nat _ X.L h1.objs.size := F1.ns.lt
      have e' : @Eq Nat X.L (h1.objs.size + 1) := e
      lia
    · rcases List.mem_cons.mp hI' with e | hI'
      · have h7 : @LT.lt Nat _ X.L h1.objs.size := F1.ns.lt
        have e' : @Eq Nat X.L h1.objs.size := e
        lia
      · exact (N1 _ hm).2.1 (List.mem_singleton.mp hI').symm
  · intro b hb
    rcases List.mem_cons.mp hb with e | hb
    · rw [e]; exact hN3
    · rw [List.mem_singleton.mp hb]; exact hN2
  · intro p hp hb
    have hlt : @LT.lt Nat _ p.1 h1.objs.size := Heap.lt_size (N1 p hp).1
    rcases List.mem_cons.mp hb with e | hb
    · have e' : @Eq Nat p.1 (h1.objs.size + 1) := e
      lia
    · have e' : @Eq Nat p.1 h1.objs.size := List.mem_singleton.mp hb
      lia
  · rintro i v m₁ T₁ h2 t2 own hi' ⟨Tt, vals, rfl, ⟨tk, xv, hxv, rfl⟩, hT⟩ ⟨g₁, hJ, S₁⟩ hoff hown hownget hall hst1 F₁ N₁'
    have hN : ∀ p ∈ ((l, PySem.W.listOf its.toArray kk) :: N₀), p ∈ T₁ := S₁.base
    have hgo := ho g₁ i hJ
    have S₁0 := S₁
    obtain ⟨as, h1', h2', h3', h4', h5'⟩ := S₁0
    rw [hgo] at h1'
    have has : as = [] := h1'
    subst has
    have S₂ : St X (own ++ ((l, PySem.W.listOf its.toArray kk) :: N₀)) g₁ m₁ (own ++ T₁) := by
      have hup : ∀ q ∈ T₁, q ∈ own ++ T₁ := fun q hq => List.mem_append_right _ hq
      refine ⟨[], by rw [hgo]; rfl, h2', fun p hp => ?_, h4'.mono (off_mono hup), h5'.mono hup⟩
      rcases List.mem_append.mp hp with hp | hp
      · refine mem_off.mpr ⟨List.mem_append_left _ hp, fun ha => ?_⟩
        rw [List.append_nil] at ha
        obtain ⟨xc, hm', e⟩ := List.mem_map.mp ha
        obtain ⟨ob, v, hb, hcd, _⟩ := h5'.1 xc hm'
        have hq := hown p hp
        rcases List.mem_cons.mp hq with hq | hq
        · exact hoff _ hb (by show xc.2 ∈ _; rw [e, hq]; exact List.mem_cons_self)
        · rcases List.mem_cons.mp hq with hq | hq
          · exact hoff _ hb (by show xc.2 ∈ _; rw [e, hq]; exact List.mem_cons_of_mem _ List.mem_cons_self)
          · have hq' := List.mem_singleton.mp hq
            have h3 := h3' _ List.mem_cons_self
            refine (mem_off.mp h3).2 ?_
            rw [List.append_nil]
            exact List.mem_map.mpr ⟨xc, hm', e.trans hq'⟩
      · exact off_mono hup _ (h3' p hp)
    have hxi : i < xs.length := by lia
    obtain ⟨t', ht'⟩ := IntsAre.get? hi (List.getElem?_eq_getElem hxi)
    have hxv' : xv = .int xs[i] t' := by
      have : its[i]? = some xv := by simpa using hxv
      rw [ht'] at this
      exact (Option.some.inj this).symm
    subst hxv'
    refine unpackN_ F₁ N₁' hT rfl rfl rfl fun h3 F3 N3 => ?_
    refine assignInOrder_cons (assign_Name (store_to ok F3 N3 hx fun h4 t4 F4 N4 => ?_))
    refine assignInOrder_cons (assign_Name (store_to ok F4 N4 hy fun h5 t5 F5 N5 => ?_))
    have hno : ∀ (z : Str) (y : Str) (q : PV), g₁.o = some (y, q) → y ≠ z := fun z y q e => by rw [hgo] at e; cases e
    have S₃ := (S₂.putP (x := x) (v := .int i tk) (p := .int i) .int rfl (hno x)).putP (x := y) (v := .int xs[i] t') (p := .int xs[i]) .int rfl (hno y)
    refine assignInOrder_nil (turn i _ g₁ (List.getElem?_eq_getElem hxi) hJ ok _ _ (own ++ T₁) _ F5 N5 S₃ (fun h3 t3 m3 T3 g3 F3 N3 S3 q3 => ?_) fun v p h3 t3 m3 T3 F3 N3 hs3 r3 q3 => ?_)
    · have hOwn : ∀ p ∈ own, p ∈ T3 := fun p hp => S3.base p (List.mem_append_left _ hp)
      have hns : ∀ p ∈ T3, p.1 ∈ [h1.objs.size + 1, h1.objs.size] → NSC p.2 := fun p hp hw => by
        have hget : ∃ o, h2.get? p.1 = some o ∧ NSC o := by
          rcases List.mem_cons.mp hw with e | e
          · rw [e]
            obtain ⟨⟨old, hE'⟩, _⟩ := hst1
            exact ⟨_, hE', ⟨fun _ _ h => (by cases h), fun _ h => (by cases h)⟩⟩
          · rw [List.mem_singleton.mp e]
            exact list_iter_nsc hst1.2.1
        obtain ⟨o, hget, hnsc⟩ := hget
        have hnone : X.h₀.get? p.1 = none := by
          rcases List.mem_cons.mp hw with e | e
          · rw [e]; exact hN3
          · rw [List.mem_singleton.mp e]; exact hN2
        have hm := hOwn _ (hall p.1 (Wk.sub _ hw) hnone o hget)
        have := fun_of N3 hm (show (p.1, p.2) ∈ T3 from hp)
        rw [← this]; exact hnsc
      refine LoopStepV.next (LoopStepU.intro (news₂ := off [h1.objs.size + 1, h1.objs.size] T3) F3 (fun p hp => ?_) (fun p hp => (mem_off.mp hp).2) ⟨_, q3, (S3.keep ns).offI hns fun p hp => ⟨List.mem_append_right _ hp, hoff _ (hN _ hp)⟩⟩)
      rcases List.mem_append.mp hp with hp | hp
      · exact N3 _ (hOwn _ hp)
      · exact N3 _ (off_sub _ hp)
    · exact LoopStepV.ret (hr v p h3 t3 m3 T3 F3 N3 (fun q hq => hs3 q (List.mem_append_right _ (.tail _ hq))) r3 q3)
  · rintro h' tk m' T' F' N' _ ⟨g', hJ, S'⟩
    rw [hlen] at hJ
    exact hn h' tk m' T' g' F' N' (S'.less fun q hq => .tail _ hq) (hq _ hJ)

/-- for x in y, y a name that holds a list of ints; a list may be owned -/
theorem S1.forN {x y : Str} {xp yp pos : Pos} {body : List Stmt} (ns : List Str) (xs : List Int) (J : Nat → G → Prop)
    (hl : g.σ.lookup y = some (.lst xs)) (ho : ∀ g' i, J i g' → ∀ y q, g'.o = some (y, q) → y ≠ x := by intro g' i h y q e; simp_all) (h0 : J 0 (g.keep ns))
    (turn : ∀ (i : Nat) v g', xs[i]? = some v → J i g' → SV W d X body (g'.put x (.int v)) R (fun g2 => J (i + 1) (g2.keep ns))) (hq : ∀ g', J xs.length g' → Q g')
    (hx : X.env.kindOf x = some .local := by rfl) (hy : X.env.kindOf y = some .local := by rfl) (hd : (y == ("__debug__" : Str)) = false := by decide)
    (hs : ∀ env : Env, ∀ x, foldedSetIterable (.Name y yp) env x = pure x := by intro _ _; rfl) :
    S1 W d X (.For (.Name x xp) (.Name y yp) body [] pos) g R Q := by
  intro ok s m T QQ F N N₀ S hn hr
  refine For_invV X.h₀ hx (by show (X.cs.kind == .class || (X.cs.kind == .module && X.L != mainGlobals)) = false; rw [ok.kind]; rfl) ?_ (hs _) PassesOwn.never
  have S0 := S
  obtain ⟨as, b1, b2, b3, b4, b5⟩ := S0
  obtain ⟨v, hmv, hrv⟩ := b4 y _ hl
  refine nameX_L F hmv ?_ ok.kind hy hd
  cases hrv with | @lst l its k _ hm hi =>
  have hm' := off_sub _ hm
  have hlsize : l < s.heap.objs.size := Heap.lt_size (N _ hm').1
  refine wpAny_pyIter_list (IsL_of N hm') ?_
  have W0 := Walks.list (prog := W.prog) (w := W.w) (A := X.A) rfl s.heap.objs.size l (Nat.ne_of_lt hlsize) its.toArray
  have hlen : its.toArray.size = xs.length := by rw [List.size_toArray, hi.length]
  rw [hlen] at W0
  have S2 : St X ((l, PySem.W.listOf its.toArray k) :: N₀) g m T := by
    refine ⟨as, b1, b2, fun q hq => ?_, b4, b5⟩
    rcases List.mem_cons.mp hq with rfl | hq
    · exact hm
    · exact b3 q hq
  refine for_core (R := R) (N₁ := (l, PySem.W.listOf its.toArray k) :: N₀) ok ns (fun i g => J i g) (fun i => .int (xs[i]?.getD 0)) W0 ?_ ?_ ⟨⟨_, Heap.get?_push_size _ rfl, rfl, rfl⟩, (IsL_of N hm').at fun o e => Heap.get?_push_of_some _ e⟩ (F.push _) (fun p hp => ⟨Heap.get?_push_of_some _ (N p hp).1, (N p hp).2⟩) S2 ?_ ?_ ?_ (fun i v hi' hp T => ?_) (fun _ => rfl) ho h0 (fun i g' hi' hJ => ?_) ?_ ?_
  · intro hm''
    rcases List.mem_cons.mp hm'' with e | e
    · exact absurd F.ns.lt (e ▸ Nat.lt_irrefl _)
    · exact (N _ hm').2.1 (List.mem_singleton.mp e).symm
  · intro b hb
    rw [List.mem_singleton.mp hb]
    exact next_is_new F
  · intro p hp hI
    exact absurd (Heap.lt_size (N p hp).1) ((List.mem_singleton.mp hI) ▸ Nat.lt_irrefl _)
  · intro i h hS b hb
    rw [List.mem_singleton.mp hb]
    exact list_iter_nsc hS.1
  · intro b hb
    rcases List.mem_cons.mp hb with e | e
    · exact .inl (e ▸ List.mem_singleton.mpr rfl)
    · refine .inr ⟨PySem.W.listOf its.toArray k, ?_⟩
      rw [List.mem_singleton.mp e]
      exact List.mem_cons_self
  · obtain ⟨t, ht⟩ := IntsAre.get? hi (List.getElem?_eq_getElem hi')
    have e1 : its[i]? = some v := by simpa using hp
    rw [ht] at e1
    cases e1
    rw [List.getElem?_eq_getElem hi']
    exact .int
  · have e1 := List.getElem?_eq_getElem hi'
    have := turn i _ g' e1 hJ
    rw [e1]
    exact this
  · intro h' tk' m' T' g' F' N' S' hJ
    exact hn h' tk' m' T' g' F' N' (S'.less fun q hq => .tail _ hq) (hq _ hJ)
  · intro v p h' tk' m' T' F' N' hs hrr hq
    exact hr v p h' tk' m' T' F' N' (fun q hq => hs q (.tail _ hq)) hrr hq
end
theorem look_app {α : Type} (y : Str) : ∀ l l' : List (Str × α), (l ++ l').lookup y = (l.lookup y).or (l'.lookup y)
  | [], _ => rfl
  | (z, q) :: r, l' => by
    rw [List.cons_append, List.lookup_cons, List.lookup_cons, look_app y r l']
    cases (y == z) <;> rfl
theorem look_none {α : Type} {y : Str} : ∀ {l : List (Str × α)}, y ∉ l.map (·.1) → l.lookup y = none
  | [], _ => rfl
  | (z, q) :: r, h => by
    have hy : ¬ y = z := fun e => h (by rw [e]; exact List.mem_cons_self)
    rw [List.lookup_cons, bne_of hy]
    exact look_none fun hm => h (List.mem_cons_of_mem _ hm)
theorem look_rev {α : Type} (y : Str) : ∀ l : List (Str × α), (l.map (·.1)).Nodup → l.reverse.lookup y = l.lookup y
  | [], _ => rfl
  | (z, q) :: r, h => by
    rw [List.map_cons, List.nodup_cons] at h
    rw [List.reverse_cons, look_app, look_rev y r h.2]
    by_cases hy : y = z
    · subst hy
      rw [look_none h.1, List.lookup_cons, List.lookup_cons]
      simp
    · rw [List.lookup_cons, List.lookup_cons, bne_of hy]
      show (List.lookup y r).or none = List.lookup y r
      cases List.lookup y r <;> rfl
theorem zip_rep {T : Led} {y : Str} {p : PV} : ∀ {xs : List Str} {vs : List Value} {ps : List PV}, RepL T vs ps → (xs.zip ps).lookup y = some p → ∃ v, (xs.zip vs).lookup y = some v ∧ Rep T v p
  | [], _, _, _, h => by cases h
  | _ :: _, _, _, .nil, h => by cases h
  | x :: xs, _, _, .cons (v := v) (p := q) h1 hr, h => by
    rw [List.zip_cons_cons, List.lookup_cons] at h ⊢
    cases hy : (y == x) with
    | true => rw [hy] at h; cases h; exact ⟨_, rfl, h1⟩
    | false => rw [hy] at h; exact zip_rep hr h
theorem RepL.length {T : Led} {vs : List Value} {ps : List PV} (h : RepL T vs ps) : vs.length = ps.length := by
  induction h with
  | nil => rfl
  | cons _ _ ih => rw [List.length_cons, List.length_cons, ih]

noncomputable abbrev Fx.into (X : Fx) (qual : Str) (scope : Scope) (L' f : Addr) (cdv : Value) (g : Heap) : Fx := ⟨X.dp + 1, X.un + 3, X.gd, qual, scope, L', f, cdv, [], X.env :: X.outer, X.A, X.base, g⟩

theorem Ct.mk {W : Wd} {d : Nat} {f : Addr} {ps : List PV} {R : PV → Prop} {name qual : Str} {params : Arguments} {body : List Stmt} {scope : Scope} {dV kV doc pm cdv ct oc : Value} {an od : Option Addr} {osl : Array (Option Value)}
    (ho : W.K.lookup f = some ⟨oc, od, .func (fnOf name qual params body scope dV kV doc pm an cdv ct), osl⟩) (hcd : codeIn W.K cdv qual = true) (xs : List Str)
    (hbind : ∀ (s : Shared) (vs : List Value), vs.length = ps.length → BindsTo s (fnOf name qual params body scope dV kV doc pm an cdv ct) ⟨vs, []⟩ (xs.zip vs)) (hnd : xs.Nodup) (hlx : xs.length = ps.length) (hloc : ∀ x ∈ xs, scope.names.lookup x = some .local)
    (hco : scope.isCoroutine = false) (hgen : scope.isGenerator = false) (hk : scope.kind = .function) (hcell : ∀ x ∈ scope.names, x.2 ≠ .cell)
    (h : ∀ (dp un : Nat) (gd : Option (List Code)) (L' : Addr) (outer : List Env) (A₀ : Around) (base g : Heap), SV W d ⟨dp, un, gd, qual, scope, L', f, cdv, [], outer, A₀, base, g⟩ body ⟨xs.zip ps, [], none⟩ R fun _ => False) : Ct W (d + 1) f ps R := by
  intro X s m T vs QQ ok F N hr hb
  have hlen := hr.length
  refine wpAny_call (code_def ok.below F ok.kin N ok.top rfl rfl ok.kind ho hcd (by have := ok.room; show X.dp < recursionLimit; lia) (hbind s vs hlen) ?_ ?_ hco hgen hk hcell)
  · rintro ⟨y, v⟩ hy
    exact hloc y (List.of_mem_zip hy).1
  · intro g L' h₁ FG F' N' B' X' T'
    refine wpAny_mono (h (X.dp + 1) (X.un + 3) X.gd L' (X.env :: X.outer) X.A X.base g ⟨B', X', T', hk, by have := ok.room; show X.dp + 1 + d < recursionLimit; lia, by have := ok.units; show X.un + 3 + 8 * d + 200 < cLine; lia⟩
      { s with heap := h₁, toks := s.toks + (xs.zip vs).length } _ T _ F' N' (N₀ := T) ⟨[], rfl, fun _ h => (by cases h), fun q hq => mem_off.mpr ⟨hq, fun h => (by cases h)⟩, fun y p hy => ?_, ⟨fun _ h => (by cases h), fun _ _ h => (by cases h), List.nodup_nil⟩⟩
      (fun _ _ _ _ _ _ _ _ q => q.elim) fun v p h' tk' m' T2 F2 N2 hs2 r2 q2 => ?_) (fun _ _ x => x) fun _ _ x => x.elim
    · obtain ⟨v, hv, hrp⟩ := zip_rep hr hy
      refine ⟨v, ?_, ?_⟩
      · have hz : ((xs.zip vs).map (·.1)).Nodup := by rw [List.map_fst_zip (by lia)]; exact hnd
        show (xs.zip vs).reverse.lookup y = some v
        rw [look_rev y _ hz]; exact hv
      · have e : off (([] : List (Str × Addr)).map (·.2) ++ []) T = T := by simp [off]
        show Rep (off (([] : List (Str × Addr)).map (·.2) ++ []) T) v p
        rw [e]; exact hrp
    · exact leaveK_ F2 N2 fun F3 N3 => hb v p h' tk' T2 F3 N3 hs2 r2 q2
section
variable {W : Wd} {d : Nat} {X : Fx} {g : G} {R : PV → Prop} {Q : G → Prop}
/-- the turns of a for over ints -/
theorem for_core2 {x : Str} {body : List Stmt} {s : Shared} {m : Str → Option Value} {T N₁ : Led} {QQ : Flow → Shared → Prop} {I : Addr} {fp wr : List Addr} {n : Nat} {P : Nat → Value → Prop} {Sh : Nat → Heap → Prop} {g : G}
    (ok : X.Ok W d) (ns : List Str) (J : Nat → G → Prop) (pv : Nat → PV) (Wk : Walks W.prog W.w X.A I fp wr n P Sh) (hLf : X.L ∉ fp) (hwr : ∀ b ∈ wr, X.h₀.get? b = none) (hst : Sh 0 s.heap)
    (F : Fr X.h₀ X.L s.heap m) (N : News X.h₀ X.L s.heap T) (S : St X N₁ g m T) (hT : ∀ p ∈ T, p.1 ∉ wr)
    (hdata : ∀ i h, Sh i h → ∀ b ∈ wr, ∃ o, h.get? b = some o ∧ NSC o) (hfp : ∀ b ∈ fp, b ∈ wr ∨ (∃ o, (b, o) ∈ N₁) ∨ X.h₀.get? b ≠ none) (hP : ∀ i v, i < n → P i v → ∀ T, Rep T v (pv i)) (hpl : ∀ i, (pv i).plain = true)
    (ho : ∀ g' i, J i g' → ∀ y q, g'.o = some (y, q) → y ≠ x) (h0 : J 0 (g.keep ns))
    (turn : ∀ i g', i < n → J i g' → SV W d X body (g'.put x (pv i)) R (fun g2 => J (i + 1) (g2.keep ns))) (hn : ∀ h' tk' m' T' g', Fr X.h₀ X.L h' m' → News X.h₀ X.L h' T' → St X N₁ g' m' T' → J n g' → QQ .next { s with heap := h', toks := tk' })
    (hr : Rt X N₁ s R QQ) : LoopAtV W.prog W.w X.A X.h₀ X.env x body QQ NoE (.ref I) s := by
  refine ⟨I, fp, wr, n, P, Sh, m, T, fun i m T => ∃ g, J i g ∧ St X N₁ g m T, rfl, Wk, hLf, hwr, hT, hst, F, N, ⟨_, h0, S.keep ns⟩, ?_, ?_⟩
  · rintro i v m₁ T₁ s₁ own ⟨h1, t1, rfl⟩ hi hPi ⟨g₁, hJ, S₁⟩ hoff hown hownget hall hst1 F₁ N₁'
    have hN : ∀ p ∈ N₁, p ∈ T₁ := S₁.base
    have hlow : ∀ p ∈ own, X.h₀.get? p.1 = none := fun p hp => (N₁' _ (List.mem_append_left _ hp)).2.2
    have S₁0 := S₁
    obtain ⟨as, h1', h2', h3', h4', h5'⟩ := S₁0
    have S₂ : St X (own ++ N₁) g₁ m₁ (own ++ T₁) := by
      have hup : ∀ q ∈ T₁, q ∈ own ++ T₁ := fun q hq => List.mem_append_right _ hq
      refine ⟨as, h1'.mono hup, h2', fun p hp => ?_, h4'.mono (off_mono hup), h5'.mono hup⟩
      rcases List.mem_append.mp hp with hp | hp
      · refine mem_off.mpr ⟨List.mem_append_left _ hp, fun ha => ?_⟩
        rcases hfp _ (hown p hp) with hw | ⟨o, hb⟩ | hne
        · rcases List.mem_append.mp ha with hc | hc
          · obtain ⟨xc, hm, e⟩ := List.mem_map.mp hc
            obtain ⟨ob, v, hb, _, _⟩ := h5'.1 xc hm
            exact hoff _ hb (e ▸ hw)
          · cases hg : g₁.o with
            | none => rw [hg] at h1'; rw [show as = [] from h1'] at hc; cases hc
            | some yq =>
              obtain ⟨y, q⟩ := yq
              rw [hg] at h1'
              obtain ⟨u, hu, hrr⟩ := h1'
              cases hrr with
              | lst hm hi => rw [List.mem_singleton.mp hc] at hw; exact hoff _ hm hw
              | bls hm => rw [List.mem_singleton.mp hc] at hw; exact hoff _ hm hw
              | box hm hm2 _ _ _ _ _ =>
                rcases List.mem_cons.mp hc with hc | hc
                · rw [hc] at hw; exact hoff _ hm hw
                · rw [List.mem_singleton.mp hc] at hw; exact hoff _ hm2 hw
        · exact (mem_off.mp (h3' _ hb)).2 ha
        · have hpt := hlow p hp
          exact absurd hpt hne
      · exact off_mono hup _ (h3' p hp)
    have S₃ : St X (own ++ N₁) (g₁.put x (pv i)) (fun y => if y = x then some v else m₁ y) (own ++ T₁) := S₂.putP (hP i v hi hPi _) (hpl i) (ho g₁ i hJ)
    refine turn i g₁ hi hJ ok _ _ (own ++ T₁) _ F₁ N₁' S₃ (fun h3 t3 m3 T3 g3 F3 N3 S3 q3 => ?_) fun v p h3 t3 m3 T3 F3 N3 hs3 r3 q3 => ?_
    · have hOwn : ∀ p ∈ own, p ∈ T3 := fun p hp => S3.base p (List.mem_append_left _ hp)
      have hns : ∀ p ∈ T3, p.1 ∈ wr → NSC p.2 := fun p hp hw => by
        obtain ⟨o, hget, hnsc⟩ := hdata _ _ hst1 _ hw
        have hm := hOwn _ (hall _ (Wk.sub _ hw) (hwr _ hw) o hget)
        have := fun_of N3 hm (show (p.1, p.2) ∈ T3 from hp)
        rw [← this]; exact hnsc
      refine LoopStepV.next (LoopStepU.intro (news₂ := off wr T3) F3 (fun p hp => ?_) (fun p hp => (mem_off.mp hp).2) ⟨_, q3, (S3.keep ns).offI hns fun p hp => ⟨List.mem_append_right _ hp, hoff _ (hN _ hp)⟩⟩)
      rcases List.mem_append.mp hp with hp | hp
      · exact N3 _ (hOwn _ hp)
      · exact N3 _ (off_sub _ hp)
    · exact LoopStepV.ret (hr v p h3 t3 m3 T3 F3 N3 (fun q hq => hs3 q (List.mem_append_right _ hq)) r3 q3)
  · rintro h' tk m' T' F' N' _ ⟨g', hJ, S'⟩
    exact hn h' tk m' T' g' F' N' S' hJ


/-- for x in a tuple of the module -/
theorem S1.forT {x y : Str} {xp yp pos : Pos} {body : List Stmt} {c : Addr} {its : List Value} {n : Nat} {o : Obj} (ns : List Str) (xs : List Int) (J : Nat → G → Prop)
    (hl : nsIn W.K mainGlobals y = some (some (.ref c))) (hc : W.K.lookup c = some o) (ho1 : o.cls = .type "tuple") (ho2 : o.data = .seq its.toArray n) (hi : IntsAre its xs)
    (ho : ∀ g' i, J i g' → ∀ y q, g'.o = some (y, q) → y ≠ x := by intro g' i h y q e; simp_all) (h0 : J 0 (g.keep ns))
    (turn : ∀ (i : Nat) v g', xs[i]? = some v → J i g' → SV W d X body (g'.put x (.int v)) R (fun g2 => J (i + 1) (g2.keep ns))) (hq : ∀ g', J xs.length g' → Q g')
    (hk : X.env.kindOf y = some .globalImplicit := by rfl) (hx : X.env.kindOf x = some .local := by rfl) (hd : (y == ("__debug__" : Str)) = false := by decide)
    (hs : ∀ env : Env, ∀ x, foldedSetIterable (.Name y yp) env x = pure x := by intro _ _; rfl) :
    S1 W d X (.For (.Name x xp) (.Name y yp) body [] pos) g R Q := by
  intro ok s m T QQ F N N₀ S hn hr
  refine For_invV X.h₀ hx (by show (X.cs.kind == .class || (X.cs.kind == .module && X.L != mainGlobals)) = false; rw [ok.kind]; rfl) ?_ (hs _) PassesOwn.never
  refine nameX_K F ok.kin (topRead_of ok.top) hl ?_ ok.kind hk hd
  have hg0 := ok.kin c o hc
  have hg1 := F.keep c o hg0
  have ht : s.heap.IsTuple c its.toArray := ⟨o, hg1, ho1, n, ho2⟩
  have hlt := Heap.lt_size hg1
  refine wpAny_pyIter_tuple ht ?_
  have W0 := Walks.tuple (prog := W.prog) (w := W.w) (A := X.A) rfl s.heap.objs.size c (Nat.ne_of_lt hlt) its.toArray
  have hlen : its.toArray.size = xs.length := by rw [List.size_toArray, hi.length]
  rw [hlen] at W0
  refine for_core2 (R := R) (N₁ := N₀) ok ns (fun i g => J i g) (fun i => .int (xs[i]?.getD 0)) W0 ?_ ?_ ⟨⟨_, Heap.get?_push_size _ rfl, rfl, rfl⟩, ht.push _⟩ (F.push _) (fun p hp => ⟨Heap.get?_push_of_some _ (N p hp).1, (N p hp).2⟩) S ?_ ?_ ?_ (fun i v hi' hp T => ?_) (fun _ => rfl) ho h0 (fun i g' hi' hJ => ?_) ?_ ?_
  · intro hm'
    rcases List.mem_cons.mp hm' with e | e
    · exact absurd F.ns.lt (e ▸ Nat.lt_irrefl _)
    · rw [← List.mem_singleton.mp e] at hg0
      exact absurd (Heap.lt_size hg0) (Nat.not_lt_of_le F.above)
  · intro b hb
    rw [List.mem_singleton.mp hb]
    exact next_is_new F
  · intro p hp hI
    exact absurd (Heap.lt_size (N p hp).1) ((List.mem_singleton.mp hI) ▸ Nat.lt_irrefl _)
  · rintro i h ⟨⟨o', h1, _, h3⟩, _⟩ b hb
    rw [List.mem_singleton.mp hb]
    exact ⟨o', h1, ⟨fun _ _ e => (by rw [h3] at e; cases e), fun _ e => (by rw [h3] at e; cases e)⟩⟩
  · intro b hb
    rcases List.mem_cons.mp hb with e | e
    · exact .inl (e ▸ List.mem_singleton.mpr rfl)
    · refine .inr (.inr ?_)
      rw [List.mem_singleton.mp e, hg0]; exact fun h => (by cases h)
  · obtain ⟨t, ht⟩ := IntsAre.get? hi (List.getElem?_eq_getElem hi')
    have e1 : its[i]? = some v := by simpa using hp
    rw [ht] at e1
    cases e1
    rw [List.getElem?_eq_getElem hi']
    exact .int
  · have e1 := List.getElem?_eq_getElem hi'
    have := turn i _ g' e1 hJ
    rw [e1]
    exact this
  · intro h' tk' m' T' g' F' N' S' hJ
    exact hn h' tk' m' T' g' F' N' S' (hq _ hJ)
  · intro v p h' tk' m' T' F' N' hs hrr hq
    exact hr v p h' tk' m' T' F' N' hs hrr hq
end
section
variable {W : Wd} {d : Nat} {X : Fx} {g : G} {R : PV → Prop} {Q : G → Prop}
theorem S1.forD1 {x : Str} {xp rp cp pos : Pos} {e e' e'' : PySem.Expr} {body : List Stmt} (ns : List Str) (a : Int) (J : Nat → G → Prop) (hl : nsIn W.K mainGlobals (Str.ofString "range") = some none)
    (h : EV W d X e g fun p => p = .int a ∧ EV W d X e' g fun p => p = .int 1 ∧ EV W d X e'' g fun p => p = .int (-1)) (ha : small62 a) (ho : ∀ g' i, J i g' → ∀ y q, g'.o = some (y, q) → y ≠ x := by intro g' i h y q e; simp_all) (h0 : J 0 (g.keep ns))
    (turn : ∀ (i : Nat) g', (i : Int) + 1 < a → J i g' → SV W d X body (g'.put x (.int (a - i))) R (fun g2 => J (i + 1) (g2.keep ns))) (hq : ∀ g', J (a - 1).toNat g' → Q g')
    (hk : X.env.kindOf (Str.ofString "range") = some .globalImplicit := by rfl) (hx : X.env.kindOf x = some .local := by rfl)
    (he : ∀ env : Env, starEach [e, e', e''] env = [(false, eval e env), (false, eval e' env), (false, eval e'' env)] := by intro _; rfl)
    (hs : ∀ env : Env, ∀ x, foldedSetIterable (.Call (.Name (Str.ofString "range") rp) [e, e', e''] [] cp) env x = pure x := by intro _ _; rfl)
    (hc : ∀ env : Env, eval (.Call (.Name (Str.ofString "range") rp) [e, e', e''] [] cp) env = (do callWith cp (← eval (.Name (Str.ofString "range") rp) env) [] (backTo cp (starEach [e, e', e''] env)) (backToKw cp (keywordEach [] env))) := by intro _; rfl) :
    S1 W d X (.For (.Name x xp) (.Call (.Name (Str.ofString "range") rp) [e, e', e''] [] cp) body [] pos) g R Q := by
  intro ok s m T QQ F N N₀ S hn hr
  refine For_invV X.h₀ hx (by show (X.cs.kind == .class || (X.cs.kind == .module && X.L != mainGlobals)) = false; rw [ok.kind]; rfl) ?_ (hs _) PassesOwn.never
  refine Call_ (bname ok F hl (v := .type "range") (by boot_by_name) (by decide) ?_ hk) (hc _)
  rw [he]
  refine PySem.callWith_type rfl (Calls.evalArgs_plain (Calls.spliced_cons (h ok s m T _ F N S fun v p h1 t1 T1 F1 N1 hs1 r1 q1 => ?_)))
  obtain ⟨rfl, q1⟩ := q1
  cases r1
  refine Calls.spliced_cons (q1 ok _ m T1 _ F1 N1 (S.mono hs1) fun v2 p2 h2 t2 T2 F2 N2 hs2 r2 q2 => ?_)
  obtain ⟨rfl, q2⟩ := q2
  cases r2
  refine Calls.spliced_cons (q2 ok _ m T2 _ F2 N2 ((S.mono hs1).mono hs2) fun v3 p3 h3 t3 T3 F3 N3 hs3 r3 q3 => Calls.spliced_nil ?_)
  subst q3
  cases r3
  refine range3_rows F3 N3 (by decide) (fun h4 t4 _ _ _ hrg F4 N4 _ => ?_) (.inl (PyProof.noPylong_of_log2 (by decide +kernel)))
  refine range_turns (n := (a - 1).toNat) ok ns J hrg (small_down ha.1 ha.2 (by decide) (by decide)) (by rw [rangeSize_downNat]) F4 N4 (((S.mono hs1).mono hs2).mono hs3) ho h0 (fun i g' hi hJ => ?_) (fun h' tk' m' T' g' F' N' S' hJ => hn h' tk' m' T' g' F' N' S' (hq _ hJ)) (fun v p h' tk' m' T' F' N' hs hrr hq => hr v p h' tk' m' T' F' N' hs hrr hq)
  have := turn i g' (by omega) hJ
  have e : a + (i : Int) * -1 = a - i := by lia
  rw [e]
  exact this
end
section
variable {W : Wd} {d : Nat} {X : Fx} {g : G} {R : PV → Prop} {Q : G → Prop}
theorem nodup_inj {β : Type} {f : Str × Addr → β} {cl : List (Str × Addr)} (h : (cl.map f).Nodup) {a b : Str × Addr} (ha : a ∈ cl) (hb : b ∈ cl) (e : f a = f b) : a = b := by
  induction cl with
  | nil => cases ha
  | cons z r ih =>
    rw [List.map_cons, List.nodup_cons] at h
    rcases List.mem_cons.mp ha with ha | ha <;> rcases List.mem_cons.mp hb with hb | hb
    · rw [ha, hb]
    · rw [ha] at e; exact absurd (e ▸ List.mem_map_of_mem (f := f) hb) h.1
    · rw [hb] at e; exact absurd (e ▸ List.mem_map_of_mem (f := f) ha) h.1
    · exact ih h.2 ha hb
/-- a plain value stored in a cell -/
theorem St.cell {x : Str} {c : Addr} {o' : Obj} {v : Value} {p : PV} {N₀ T : Led} {m : Str → Option Value} (S : St X N₀ g m T) (hnn : (X.cl.map (·.1)).Nodup) (hc : X.cl.lookup x = some c) (hd' : o'.data = .cell (some v)) (hr : Rep [] v p) :
    St X N₀ { g with κ := setL x p g.κ } m ((c, o') :: off [c] T) := by
  obtain ⟨as, h1, h2, h3, h4, h5⟩ := S
  have hcm : c ∈ X.cl.map (·.2) := List.mem_map_of_mem (mem_of_look hc)
  have hnc : ∀ q ∈ T, q.1 ≠ c → q ∈ (c, o') :: off [c] T := fun q hq hne => .tail _ (mem_off.mpr ⟨hq, fun hz => hne (List.mem_singleton.mp hz)⟩)
  have hoff : ∀ q ∈ off (X.cl.map (·.2) ++ as) T, q ∈ off (X.cl.map (·.2) ++ as) ((c, o') :: off [c] T) := fun q hq => by
    obtain ⟨a, b⟩ := mem_off.mp hq
    exact mem_off.mpr ⟨hnc q a fun e => b (List.mem_append_left _ (e ▸ hcm)), b⟩
  refine ⟨as, ?_, h2, fun q hq => hoff q (h3 q hq), h4.mono hoff, ?_, ?_, h5.2.2⟩
  · cases hg : g.o with
    | none => rw [hg] at h1; exact h1
    | some yq =>
      obtain ⟨y, q⟩ := yq
      rw [hg] at h1
      obtain ⟨u, hu, hrr⟩ := h1
      refine ⟨u, hu, ?_⟩
      have hne : ∀ a ∈ as, a ≠ c := fun a ha e => h2 a ha (e ▸ hcm)
      cases hrr with
      | lst hm hi => exact .lst (hnc _ hm (hne _ (.head _))) hi
      | bls hm => exact .bls (hnc _ hm (hne _ (.head _)))
      | box hm hm2 a1 a2 a3 a4 a5 => exact .box (hnc _ hm (hne _ (.head _))) (hnc _ hm2 (hne _ (.tail _ (.head _)))) a1 a2 a3 a4 a5
  · intro xc hxc
    by_cases he : xc.2 = c
    · have hx : xc = (x, c) := nodup_inj h5.2.2 hxc (mem_of_look hc) he
      subst hx
      refine ⟨o', some v, .head _, hd', fun q hq => ⟨v, rfl, ?_⟩⟩
      have hq' : (setL x p g.κ).lookup x = some q := hq
      rw [lookup_setL, if_pos rfl] at hq'
      cases hq'
      exact hr.mono fun _ h => (by cases h)
    · obtain ⟨ob, w, a, b, cc⟩ := h5.1 xc hxc
      refine ⟨ob, w, hnc _ a he, b, fun q hq => ?_⟩
      have hq' : (setL x p g.κ).lookup xc.1 = some q := hq
      rw [lookup_setL] at hq'
      have hxx : xc.1 ≠ x := by
        intro e
        have := nodup_inj hnn hxc (mem_of_look hc) e
        exact he (by rw [this])
      rw [if_neg hxx] at hq'
      obtain ⟨u, e1, e2⟩ := cc q hq'
      exact ⟨u, e1, e2.mono hoff⟩
  · intro y q hq
    have hq' : (setL x p g.κ).lookup y = some q := hq
    rw [lookup_setL] at hq'
    by_cases e : y = x
    · subst e; rw [hc]; rfl
    · rw [if_neg e] at hq'; exact h5.2.1 y q hq'
theorem store_toC {x : Str} {c : Addr} {v : Value} {p : PV} {s : Shared} {m : Str → Option Value} {N₀ T : Led} {QQ : Unit → Shared → Prop} (ok : X.Ok W d) (F : Fr X.h₀ X.L s.heap m) (N : News X.h₀ X.L s.heap T) (S : St X N₀ g m T)
    (hnn : (X.cl.map (·.1)).Nodup) (hc : X.cl.lookup x = some c) (hk : X.env.kindOf x = some .cell) (hr : Rep [] v p)
    (h : ∀ h' tk T', Fr X.h₀ X.L h' m → News X.h₀ X.L h' T' → St X N₀ { g with κ := setL x p g.κ } m T' → QQ () { s with heap := h', toks := tk }) : wpAny (model W.prog W.w) X.A (storeName X.env x v) QQ NoE s := by
  obtain ⟨ob, w, hm, hd, _⟩ := S.choose_spec.2.2.2.2.1 _ (mem_of_look hc)
  have N3 : News X.h₀ X.L s.heap ((c, ob) :: off [c] T) := fun q hq => by
    rcases List.mem_cons.mp hq with rfl | hq
    · exact N _ hm
    · exact N _ (off_sub _ hq)
  refine storeX_C F N3 hc (UpdF.head fun q hq e => (mem_off.mp hq).2 (by rw [e]; exact .head _)) hd (fun h' o' F' N' hd' => ?_) ok.kind hk
  exact h h' _ _ F' N' (S.cell hnn hc hd' hr)
/-- a plain value given to a name that is a cell -/
theorem S1.assignC {x : Str} {xp pos : Pos} {e : PySem.Expr} {c : Addr} (hc : X.cl.lookup x = some c) (h : EV W d X e g fun p => p.plain = true ∧ Q { g with κ := setL x p g.κ }) (hnn : (X.cl.map (·.1)).Nodup := by decide) (hk : X.env.kindOf x = some .cell := by rfl)
    (hs : ∀ env : Env, swapsWith e (some (.Name x xp)) pos.line env = pure false := by intro _; rfl) : S1 W d X (.Assign [.Name x xp] e pos) g R Q := by
  intro ok s m T QQ F N N₀ S hn hr
  refine wpAny_Assign_Name (h ok s m T _ F N S fun v p h1 t1 T1 F1 N1 hs1 r1 q1 => ?_) (hs _)
  exact store_toC ok F1 N1 (S.mono hs1) hnn hc hk (r1.any q1.1) fun h' tk T' F' N' S' => hn _ _ _ _ _ F' N' S' q1.2
end
/-- a contract of a def whose one parameter is a cell -/
theorem Ct.mkC {W : Wd} {d : Nat} {f : Addr} {x : Str} {p₀ : PV} {R : PV → Prop} {name qual : Str} {params : Arguments} {body : List Stmt} {scope : Scope} {dV kV doc pm cdv ct oc : Value} {an od : Option Addr} {osl : Array (Option Value)}
    (ho : W.K.lookup f = some ⟨oc, od, .func (fnOf name qual params body scope dV kV doc pm an cdv ct), osl⟩) (hcd : codeIn W.K cdv qual = true)
    (hbind : ∀ (s : Shared) (v : Value), BindsTo s (fnOf name qual params body scope dV kV doc pm an cdv ct) ⟨[v], []⟩ [(x, v)]) (hloc : scope.names.lookup x = some .cell) (hcl : ∀ n, cellsFrom n scope.names [] = [(x, n)])
    (hkx : ∀ L', (envOfC qual scope L' f cdv).kindOf x = some .cell)
    (hco : scope.isCoroutine = false) (hgen : scope.isGenerator = false) (hk : scope.kind = .function)
    (h : ∀ (dp un : Nat) (gd : Option (List Code)) (L' : Addr) (outer : List Env) (A₀ : Around) (base g : Heap), SV W d ⟨dp, un, gd, qual, scope, L', f, cdv, [(x, L' + 1)], outer, A₀, base, g⟩ body ⟨[], [(x, p₀)], none⟩ R fun _ => False) : Ct W (d + 1) f [p₀] R := by
  intro X s m T vs QQ ok F N hr hb
  cases hr
  rename_i v vs2 hv hr
  cases hr
  refine wpAny_call (code_defC ok.below F ok.kin N ok.top rfl rfl ok.kind ho hcd (by have := ok.room; show X.dp < recursionLimit; lia) (hbind s v) (by simp [hloc]) (by rw [hcl]; simp) ?_ hco hgen hk)
  intro g L' h₁ tk cells FG F' N' Y B' X' T' hlt
  rw [hcl] at Y
  obtain ⟨o, rfl, hd⟩ := Y.one
  have hcm : bindC (envOfC qual scope L' f cdv).kindOf [(x, v)] (fun _ => none) x = some v := by
    show (if (envOfC qual scope L' f cdv).kindOf x = some NameKind.local then (fun _ => none) else fun y => if y = x then some v else none) x = some v
    rw [hkx, if_neg (by decide)]
    simp
  rw [hcm] at hd
  have he : envOfC qual scope L' f cdv = envX qual scope L' f cdv [(x, L' + 1)] := by unfold envOfC envX; rw [hcl]
  rw [he]
  have hup : ∀ q ∈ T, q ∈ off [L' + 1] ((L' + 1, o) :: T) := fun q hq => mem_off.mpr ⟨.tail _ hq, fun hz => by have := hlt q hq; rw [List.mem_singleton.mp hz] at this; exact absurd (Nat.lt_of_succ_lt this) (Nat.lt_irrefl _)⟩
  refine wpAny_mono (h (X.dp + 1) (X.un + 3) X.gd L' (X.env :: X.outer) X.A X.base g ⟨B', X', T', hk, by have := ok.room; show X.dp + 1 + d < recursionLimit; lia, by have := ok.units; show X.un + 3 + 8 * d + 200 < cLine; lia⟩
    { s with heap := h₁, toks := tk } _ ((L' + 1, o) :: T) _ F' N' (N₀ := T) ⟨[], rfl, fun _ h => (by cases h), fun q hq => hup q hq, fun y p hy => (by cases hy), ⟨fun xc hx => ?_, fun y p hy => ?_, ?_⟩⟩
    (fun _ _ _ _ _ _ _ _ q => q.elim) fun v p h' tk' m' T2 F2 N2 hs2 r2 q2 => ?_) (fun _ _ x => x) fun _ _ x => x.elim
  · rw [List.mem_singleton.mp hx]
    refine ⟨o, some v, .head _, hd, fun q hq => ⟨v, rfl, ?_⟩⟩
    have : q = p₀ := by simpa using hq.symm
    subst this
    exact hv.mono hup
  · have : y = x := by
      by_cases e : y = x
      · exact e
      · exfalso
        have hy' : [(x, p₀)].lookup y = some p := hy
        rw [List.lookup_cons, beq_eq_false_iff_ne.mpr e] at hy'
        cases hy'
    subst this
    simp
  · simp
  · exact leaveK_ F2 N2 fun F3 N3 => hb v p h' tk' T2 F3 N3 hs2 r2 q2
/-- an expression of a block: ints and truths of the turn's name and of the cells -/
noncomputable def CV (W : Wd) (X : Fx) (scope : Scope) (cl : List (Str × Addr)) (κ : List (Str × PV)) (x : Str) (i : Int) (e : PySem.Expr) (P : PV → Prop) : Prop :=
  ∀ (C : Addr) (s : Shared) (m₃ : Str → Option Value) (u : Tok) (E : Value → Shared → Prop) (QQ : Value → Shared → Prop), s.heap.Ns C m₃ → m₃ x = some (.int i u) →
    (∀ y p, κ.lookup y = some p → ∃ c v, cl.lookup y = some c ∧ s.heap.IsCell c (some v) ∧ Rep [] v p) → (∀ v p tk, Rep [] v p → P p → QQ v { s with toks := tk }) →
    wpAny (model W.prog W.w) X.A (eval e (compEnvC scope cl C X.env)) QQ E s
section
variable {W : Wd} {X : Fx} {scope : Scope} {cl : List (Str × Addr)} {κ : List (Str × PV)} {x : Str} {i : Int} {P : PV → Prop}
theorem CV.turn {pos : Pos} (h : P (.int i)) (hs : scope.names.lookup x = some .local) (hk : scope.kind = .function) (hb : (x == ("__debug__" : Str)) = false := by decide) : CV W X scope cl κ x i (.Name x pos) P := by
  intro C s m₃ u E QQ hn hx hc hb'
  exact wpAny_Name (wpAny_loadName_local hk (lookup_relabel_local hs) hn hx (hb' _ _ _ .int h)) hb
theorem CV.cell {y : Str} {p : PV} {pos : Pos} (hy : κ.lookup y = some p) (h : P p) (hs : (compEnvC scope cl 0 X.env).kindOf y = some .cell) (hk : scope.kind = .function) (hb : (y == ("__debug__" : Str)) = false := by decide) : CV W X scope cl κ x i (.Name y pos) P := by
  intro C s m₃ u E QQ hn hx hc hb'
  obtain ⟨c, v, h1, h2, h3⟩ := hc y p hy
  exact wpAny_Name (wpAny_loadName_cell hk hs h1 h2 (hb' _ _ s.toks h3 h)) hb
theorem CV.int {j : Int} {k : Nat} {pos : Pos} (h : P (.int j)) : CV W X scope cl κ x i (.Constant (.int j) k pos) P := by
  intro C s m₃ u E QQ hn hx hc hb'
  exact wpAny_Constant_int (hb' _ _ _ .int h)
theorem CV.mod {l r : PySem.Expr} {pos : Pos} (h : CV W X scope cl κ x i l fun a => CV W X scope cl κ x i r fun b => ∃ j k, a = .int j ∧ b = .int k ∧ 0 < k ∧ P (.int (j % k))) : CV W X scope cl κ x i (.BinOp l .Mod r pos) P := by
  intro C s m₃ u E QQ hn hx hc hb'
  refine wpAny_BinOp (h C s m₃ u _ _ hn hx hc fun v p tk hr hp => ?_)
  refine hp C _ m₃ u _ _ hn hx hc fun v2 p2 tk2 hr2 hp2 => ?_
  obtain ⟨j, k, rfl, rfl, hk, hq⟩ := hp2
  cases hr; cases hr2
  exact mod_int' (by lia) (by rw [Int.fmod_eq_emod_of_nonneg _ (by lia)]; exact hb' _ _ _ .int hq)
theorem CV.mul {l r : PySem.Expr} {pos : Pos} (h : CV W X scope cl κ x i l fun a => CV W X scope cl κ x i r fun b => ∃ j k, a = .int j ∧ b = .int k ∧ IntMulOk j k ∧ P (.int (j * k))) : CV W X scope cl κ x i (.BinOp l .Mult r pos) P := by
  intro C s m₃ u E QQ hn hx hc hb'
  refine wpAny_BinOp (h C s m₃ u _ _ hn hx hc fun v p tk hr hp => ?_)
  refine hp C _ m₃ u _ _ hn hx hc fun v2 p2 tk2 hr2 hp2 => ?_
  obtain ⟨j, k, rfl, rfl, hk, hq⟩ := hp2
  cases hr; cases hr2
  exact mul_int (hb' _ _ _ .int hq) hk
theorem CV.eq {l r : PySem.Expr} {pos : Pos} (h : CV W X scope cl κ x i l fun a => CV W X scope cl κ x i r fun b => ∃ j k, a = .int j ∧ b = .int k ∧ P (.bool (decide (j = k)))) (hm : behindInMarks .Eq r = false := by with_unfolding_all rfl) : CV W X scope cl κ x i (.Compare l [.Eq] [r] pos) P := by
  intro C s m₃ u E QQ hn hx hc hb'
  refine wpAny_Compare1 (h C s m₃ u _ _ hn hx hc fun v p tk hr hp => ?_) hm
  refine hp C _ m₃ u _ _ hn hx hc fun v2 p2 tk2 hr2 hp2 => ?_
  obtain ⟨j, k, rfl, rfl, hq⟩ := hp2
  cases hr; cases hr2
  exact eq_int (by rw [beq_dec]; exact hb' _ _ _ .bool hq)
theorem CV.test_le {l r : PySem.Expr} {pos : Pos} {C : Addr} {s : Shared} {m₃ : Str → Option Value} {u : Tok} {E : Value → Shared → Prop} {b : Bool} (h : CV W X scope cl κ x i l fun a => CV W X scope cl κ x i r fun b' => ∃ j k, a = .int j ∧ b' = .int k ∧ decide (j ≤ k) = b)
    (hn : s.heap.Ns C m₃) (hx : m₃ x = some (.int i u)) (hc : ∀ y p, κ.lookup y = some p → ∃ c v, cl.lookup y = some c ∧ s.heap.IsCell c (some v) ∧ Rep [] v p) (hm : behindInMarks .LtE r = false := by with_unfolding_all rfl) :
    wpAny (model W.prog W.w) X.A (isTrue (.Compare l [.LtE] [r] pos) (compEnvC scope cl C X.env) (eval (.Compare l [.LtE] [r] pos) (compEnvC scope cl C X.env))) (fun ok s₄ => ok = b ∧ Keeps s s₄) E s := by
  refine wpAny_isTrue_Compare1 (h C s m₃ u _ _ hn hx hc fun v p tk hr hp => ?_) hm
  refine hp C _ m₃ u _ _ hn hx hc fun v2 p2 tk2 hr2 hp2 => ?_
  obtain ⟨j, k, rfl, rfl, hq⟩ := hp2
  cases hr; cases hr2
  exact le_int (wpAny_truthy_bool ⟨hq, _, _, rfl, fun _ _ e => e⟩)
theorem CV.test_eq {l r : PySem.Expr} {pos : Pos} {C : Addr} {s : Shared} {m₃ : Str → Option Value} {u : Tok} {E : Value → Shared → Prop} {b : Bool} (h : CV W X scope cl κ x i l fun a => CV W X scope cl κ x i r fun b' => ∃ j k, a = .int j ∧ b' = .int k ∧ decide (j = k) = b)
    (hn : s.heap.Ns C m₃) (hx : m₃ x = some (.int i u)) (hc : ∀ y p, κ.lookup y = some p → ∃ c v, cl.lookup y = some c ∧ s.heap.IsCell c (some v) ∧ Rep [] v p) (hm : behindInMarks .Eq r = false := by with_unfolding_all rfl) :
    wpAny (model W.prog W.w) X.A (isTrue (.Compare l [.Eq] [r] pos) (compEnvC scope cl C X.env) (eval (.Compare l [.Eq] [r] pos) (compEnvC scope cl C X.env))) (fun ok s₄ => ok = b ∧ Keeps s s₄) E s := by
  refine wpAny_isTrue_Compare1 (h C s m₃ u _ _ hn hx hc fun v p tk hr hp => ?_) hm
  refine hp C _ m₃ u _ _ hn hx hc fun v2 p2 tk2 hr2 hp2 => ?_
  obtain ⟨j, k, rfl, rfl, hq⟩ := hp2
  cases hr; cases hr2
  exact eq_int (by rw [beq_dec]; exact wpAny_truthy_bool ⟨hq, _, _, rfl, fun _ _ e => e⟩)
end
/-- ints one after another -/
noncomputable def irange (a : Int) : Nat → List Int
  | 0 => []
  | n + 1 => a :: irange (a + 1) n
noncomputable def onInt (f : Int → Bool) : Value → Bool
  | .int i _ => f i
  | _ => false
theorem pairB {tst fb : Int → Bool} : ∀ {n : Nat} {a : Int} {vs ys : List Value}, vs.length = n → (∀ (j : Nat) v, vs[j]? = some v → ∃ t, v = Value.int (a + j) t) → Paired (fun v y => ∃ i u, v = Value.int i u ∧ y = .bool (fb i)) (vs.filter (onInt tst)) ys → ys = (((irange a n).filter tst).map fb).map Value.bool
  | 0, a, vs, ys, hl, h, hp => by
    cases vs with
    | nil => cases hp; rfl
    | cons v r => cases hl
  | n + 1, a, vs, ys, hl, h, hp => by
    cases vs with
    | nil => cases hl
    | cons v r =>
      obtain ⟨t, hv⟩ := h 0 v rfl
      subst hv
      have h' : ∀ (j : Nat) v, r[j]? = some v → ∃ t, v = Value.int (a + 1 + j) t := fun j v e => by
        obtain ⟨t, ht⟩ := h (j + 1) v e
        exact ⟨t, by rw [ht]; congr 1; lia⟩
      have ha : onInt tst (Value.int (a + ((0 : Nat) : Int)) t) = tst a := by show tst _ = _; congr 1; lia
      rw [irange, List.filter_cons] at *
      rw [ha] at hp
      cases ht : tst a with
      | true =>
        rw [ht, if_pos rfl] at hp
        cases hp with
        | cons h1 h2 =>
          obtain ⟨i, u, e1, rfl⟩ := h1
          cases e1
          rw [if_pos rfl, pairB (by simpa using hl) h' h2]
          show _ = Value.bool (fb a) :: _
          congr 2
          congr 1
          omega
      | false =>
        rw [ht, if_neg (by decide)] at hp
        rw [if_neg (by decide)]
        exact pairB (by simpa using hl) h' hp
theorem pairI {tst : Int → Bool} {fi : Int → Int} : ∀ {n : Nat} {a : Int} {vs ys : List Value}, vs.length = n → (∀ (j : Nat) v, vs[j]? = some v → ∃ t, v = Value.int (a + j) t) → Paired (fun v y => ∃ i u t, v = Value.int i u ∧ y = .int (fi i) t) (vs.filter (onInt tst)) ys → IntsAre ys (((irange a n).filter tst).map fi)
  | 0, a, vs, ys, hl, h, hp => by
    cases vs with
    | nil => cases hp; exact .nil
    | cons v r => cases hl
  | n + 1, a, vs, ys, hl, h, hp => by
    cases vs with
    | nil => cases hl
    | cons v r =>
      obtain ⟨t, hv⟩ := h 0 v rfl
      subst hv
      have h' : ∀ (j : Nat) v, r[j]? = some v → ∃ t, v = Value.int (a + 1 + j) t := fun j v e => by
        obtain ⟨t, ht⟩ := h (j + 1) v e
        exact ⟨t, by rw [ht]; congr 1; omega⟩
      have ha : onInt tst (Value.int (a + ((0 : Nat) : Int)) t) = tst a := by show tst _ = _; congr 1; omega
      rw [irange, List.filter_cons] at *
      rw [ha] at hp
      cases ht : tst a with
      | true =>
        rw [ht, if_pos rfl] at hp
        cases hp with
        | cons h1 h2 =>
          obtain ⟨i, u, w, e1, rfl⟩ := h1
          cases e1
          rw [if_pos rfl]
          have e2 : fi (a + ((0 : Nat) : Int)) = fi a := by congr 1; omega
          rw [e2]
          exact .cons _ _ (pairI (by simpa using hl) h' h2)
      | false =>
        rw [ht, if_neg (by decide)] at hp
        rw [if_neg (by decide)]
        exact pairI (by simpa using hl) h' hp
section
variable {W : Wd} {d : Nat} {X : Fx} {g : G} {R : PV → Prop} {Q : PV → Prop}
/-- the cells of a block that closes over some cells -/
theorem cells_at {N₀ T : Led} {m : Str → Option Value} {h h' : Heap} {cl : List (Str × Addr)} {κ' : List (Str × PV)} (S : St X N₀ g m T) (N : News X.h₀ X.L h T) (hnn : (X.cl.map (·.1)).Nodup)
    (hκ : ∀ y p, κ'.lookup y = some p → g.κ.lookup y = some p ∧ p.plain = true ∧ cl.lookup y = X.cl.lookup y) (hk : ∀ q ∈ T, h'.get? q.1 = some q.2) :
    ∀ y p, κ'.lookup y = some p → ∃ c v, cl.lookup y = some c ∧ h'.IsCell c (some v) ∧ Rep [] v p := by
  intro y p hy
  obtain ⟨as, h1, h2, h3, h4, h5⟩ := S
  obtain ⟨e1, e2, e3⟩ := hκ y p hy
  obtain ⟨c, hc⟩ := Option.isSome_iff_exists.mp (h5.2.1 y p e1)
  obtain ⟨ob, v, a, b, cc⟩ := h5.1 _ (mem_of_look hc)
  obtain ⟨u, rfl, hr⟩ := cc p e1
  exact ⟨c, u, by rw [e3, hc], ⟨ob, hk _ a, b⟩, hr.any e2⟩
/-- what the tests of a block say -/
noncomputable def TstV (W : Wd) (X : Fx) (scope : Scope) (cl : List (Str × Addr)) (κ : List (Str × PV)) (x : Str) (i : Int) (ifs : List PySem.Expr) (b : Bool) : Prop :=
  ∀ (C : Addr) (s : Shared) (m₃ : Str → Option Value) (u : Tok) (E : Value → Shared → Prop), s.heap.Ns C m₃ → m₃ x = some (.int i u) →
    (∀ y p, κ.lookup y = some p → ∃ c v, cl.lookup y = some c ∧ s.heap.IsCell c (some v) ∧ Rep [] v p) →
    wpAny (model W.prog W.w) X.A (forIn ifs true fun c r => if r = true then do let ok ← isTrue c (compEnvC scope cl C X.env) (eval c (compEnvC scope cl C X.env)); pure (ForInStep.yield ok) else pure (ForInStep.yield r))
      (fun ok s₄ => ok = b ∧ Keeps s s₄) E s
theorem TstV.nil {scope : Scope} {cl : List (Str × Addr)} {κ : List (Str × PV)} {x : Str} {i : Int} : TstV W X scope cl κ x i [] true := fun C s m₃ u E hn hx hc =>
  wpAny_tests_nil ⟨rfl, _, _, rfl, fun _ _ e => e⟩
theorem TstV.le {scope : Scope} {cl : List (Str × Addr)} {κ : List (Str × PV)} {x : Str} {i : Int} {l r : PySem.Expr} {pos : Pos} {b : Bool} (h : CV W X scope cl κ x i l fun a => CV W X scope cl κ x i r fun b' => ∃ j k, a = .int j ∧ b' = .int k ∧ decide (j ≤ k) = b)
    (hm : behindInMarks .LtE r = false := by with_unfolding_all rfl) : TstV W X scope cl κ x i [.Compare l [.LtE] [r] pos] b := fun C s m₃ u E hn hx hc => wpAny_tests_one (CV.test_le h hn hx hc hm)
theorem TstV.eq {scope : Scope} {cl : List (Str × Addr)} {κ : List (Str × PV)} {x : Str} {i : Int} {l r : PySem.Expr} {pos : Pos} {b : Bool} (h : CV W X scope cl κ x i l fun a => CV W X scope cl κ x i r fun b' => ∃ j k, a = .int j ∧ b' = .int k ∧ decide (j = k) = b)
    (hm : behindInMarks .Eq r = false := by with_unfolding_all rfl) : TstV W X scope cl κ x i [.Compare l [.Eq] [r] pos] b := fun C s m₃ u E hn hx hc => wpAny_tests_one (CV.test_eq h hn hx hc hm)
theorem comp_core {x : Str} {px rp cp pos : Pos} {elt e e' : PySem.Expr} {ifs : List PySem.Expr} {scope : Scope} (cl : List (Str × Addr)) (κ' : List (Str × PV)) (a b : Int) (tst : Int → Bool) (Fv : Int → PV → Prop)
    (p : PV) (hl : nsIn W.K mainGlobals (Str.ofString "range") = some none)
    (h : EV W d X e g fun p => p = .int a ∧ EV W d X e' g fun p => p = .int b) (ha : small62 a) (hb : small62 b)
    (hnn : (X.cl.map (·.1)).Nodup) (hκ : ∀ y p, κ'.lookup y = some p → g.κ.lookup y = some p ∧ p.plain = true ∧ cl.lookup y = X.cl.lookup y)
    (hsz : (b - a).toNat ≤ 100000)
    (ht : ∀ i, a ≤ i → i < b → TstV W X scope cl κ' x i ifs (tst i)) (he' : ∀ i, a ≤ i → i < b → tst i = true → CV W X scope cl κ' x i elt (Fv i))
    (hr : ∀ (vs ys : List Value), vs.length = (b - a).toNat → (∀ (j : Nat) v, vs[j]? = some v → ∃ t, v = Value.int (a + j) t) → Paired (fun v y => ∃ i u q, v = Value.int i u ∧ Rep [] y q ∧ Fv i q) (vs.filter (onInt tst)) ys → ∀ (D : Addr) (n : Nat), Rep [(D, listOf ys.toArray n)] (.ref D) p)
    (hQ : Q p)
    (hclos : closureFor scope X.env = pure cl) (hcell : ∀ y ∈ scope.names, y.2 ≠ .cell) (hkind : scope.kind = .function)
    (hnames : ∀ y ∈ scope.names, y.2 = .local → scope.names.lookup y.1 = some .local) (hx : scope.names.lookup x = some .local)
    (hk : X.env.kindOf (Str.ofString "range") = some .globalImplicit)
    (hev : ∀ env : Env, starEach [e, e'] env = [(false, eval e env), (false, eval e' env)] := by intro _; rfl)
    (hs : ∀ env : Env, ∀ x, foldedSetIterable (.Call (.Name (Str.ofString "range") rp) [e, e'] [] cp) env x = pure x := by intro _ _; rfl)
    (hc : ∀ env : Env, eval (.Call (.Name (Str.ofString "range") rp) [e, e'] [] cp) env = (do callWith cp (← eval (.Name (Str.ofString "range") rp) env) [] (backTo cp (starEach [e, e'] env)) (backToKw cp (keywordEach [] env))) := by intro _; rfl) :
    EV W d X (.ListComp elt [⟨.Name x px, .Call (.Name (Str.ofString "range") rp) [e, e'] [] cp, ifs, 0⟩] scope pos) g Q := by
  intro ok s m T QQ F N N₀ S hback
  refine wpAny_ListComp_free (onInt tst) (fun v y => ∃ i u q, v = Value.int i u ∧ Rep [] y q ∧ Fv i q) hclos hcell hkind hnames hx ?_ (hs _)
  refine Call_ (bname ok F hl (v := .type "range") (by boot_by_name) (by decide) ?_ hk) (hc _)
  rw [hev]
  refine PySem.callWith_type rfl (Calls.evalArgs_plain (Calls.spliced_cons (h ok s m T _ F N S fun v p h1 t1 T1 F1 N1 hs1 r1 q1 => ?_)))
  obtain ⟨rfl, q1⟩ := q1
  cases r1
  refine Calls.spliced_cons (q1 ok _ m T1 _ F1 N1 (S.mono hs1) fun v2 p2 h2 t2 T2 F2 N2 hs2 r2 q2 => Calls.spliced_nil ?_)
  subst q2
  cases r2
  refine range2_rows F2 N2 fun h4 t4 _ _ _ hrg F4 N4 _ => ?_
  refine wpAny_pyIter_range hrg (small_one ha.1 ha.2 hb.1 hb.2) ?_
  generalize hn : (b - a).toNat = n at *
  have hsize : Builtin.Range.rangeSize a b 1 = (n : Int) := by rw [rsize_up, hn]
  have S2 := (S.mono hs1).mono hs2
  refine ⟨_, _, _, n, _, _, rfl, (Walks.range rfl h4.objs.size a 1 n).bound, by rw [sizeLine_eq]; (grind -ring -splitIte), by show IsRangeIter _ _ _ _ _; rw [hsize]; simpa using Heap.get?_push_size _ rfl, ?_, ⟨?_, ?_⟩, ?_⟩
  · intro b hb
    rw [List.mem_singleton.mp hb]
    show _ < (h4.push _).objs.size
    rw [Heap.size_push]; exact Nat.lt_succ_self _
  · rintro C i v s₃ m₃ E' hC ⟨hi, t, rfl⟩ hns hmx hkeep htk
    refine ht (a + i * 1) (by lia) (by lia) C s₃ m₃ t E' hns hmx (cells_at S2 N2 hnn hκ fun q hq => ?_)
    have hg := (N4 q hq).1
    refine hkeep _ _ (fun hz => ?_) (Heap.get?_push_of_some _ hg)
    rw [List.mem_singleton.mp hz] at hg
    exact absurd (Heap.lt_size hg) (Nat.lt_irrefl _)
  · rintro C i v s₃ m₃ E' hC ⟨hi, t, rfl⟩ hp hns hmx hkeep htk
    refine he' (a + i * 1) (by omega) (by omega) hp C s₃ m₃ t E' _ hns hmx (cells_at S2 N2 hnn hκ fun q hq => ?_) fun v p tk hr hp => ⟨⟨_, _, _, rfl, hr, hp⟩, _, _, rfl, fun _ _ e => e⟩
    have hg := (N4 q hq).1
    refine hkeep _ _ (fun hz => ?_) (Heap.get?_push_of_some _ hg)
    rw [List.mem_singleton.mp hz] at hg
    exact absurd (Heap.lt_size hg) (Nat.lt_irrefl _)
  · intro D h' tk ys vs hD hlD hplD hlen hP hF hkeep
    obtain ⟨k, hD'⟩ := hplD
    have hup : ∀ b o, h4.get? b = some o → h'.get? b = some o := fun b o e => hkeep b o (fun hz => by
      rw [List.mem_singleton.mp hz] at e; exact absurd (Heap.lt_size e) (Nat.lt_irrefl _)) (Heap.get?_push_of_some _ e)
    have hrr := hr vs ys.toList hlen (fun j v hv => by obtain ⟨_, t, ht⟩ := hP j v hv; exact ⟨t, by rw [ht]; congr 1; lia⟩) hF D k
    have hD4 : h4.get? D = none := by
      cases e : h4.get? D with
      | none => rfl
      | some o => rw [Heap.get?_push_of_some _ e] at hD; cases hD
    refine hback _ p _ _ ((D, listOf ys.toList.toArray k) :: T2) (F4.keeps hup) (fun q hq => ?_) (fun q hq => .tail _ (hs2 _ (hs1 _ hq))) (hrr.mono fun q hq => by rw [List.mem_singleton.mp hq]; exact .head _) hQ
    rcases List.mem_cons.mp hq with rfl | hq
    · refine ⟨by simpa using hD', fun e => ?_, ?_⟩
      · obtain ⟨o, ho⟩ : ∃ o, h4.get? X.L = some o := by obtain ⟨o, _, _, ho, _⟩ := F4.ns; exact ⟨_, ho⟩
        rw [show D = X.L from e, ho] at hD4; cases hD4
      · cases e : X.h₀.get? D with
        | none => rfl
        | some o => rw [F4.keep _ _ e] at hD4; cases hD4
    · exact ⟨hup _ _ (N4 q hq).1, (N4 q hq).2⟩
end
section
variable {W : Wd} {d : Nat} {X : Fx} {g : G} {R : PV → Prop} {Q : PV → Prop}
theorem boolsAre : ∀ bs : List Bool, LSm.BoolsAre (bs.map Value.bool) bs
  | [] => .nil
  | b :: r => .cons b (boolsAre r)
theorem EV.any {fpos pos : Pos} {e : PySem.Expr} (hl : nsIn W.K mainGlobals (Str.ofString "any") = some none) (h : EV W d X e g fun p => ∃ xs, p = .bls xs ∧ Q (.bool (xs.any id)))
    (hk : X.env.kindOf (Str.ofString "any") = some .globalImplicit := by rfl)
    (he : ∀ env : Env, starEach [e] env = [(false, eval e env)] := by intro _; rfl)
    (hc : ∀ env : Env, eval (.Call (.Name (Str.ofString "any") fpos) [e] [] pos) env = (do callWith pos (← eval (.Name (Str.ofString "any") fpos) env) [] (backTo pos (starEach [e] env)) (backToKw pos (keywordEach [] env))) := by intro _; rfl) :
    EV W d X (.Call (.Name (Str.ofString "any") fpos) [e] [] pos) g Q := by
  intro ok s m T QQ F N N₀ S hb
  refine Call_ (bname ok F hl (v := .builtin "any") (by boot_by_name) (by decide) ?_ hk) (hc _)
  rw [he]
  refine Calls.callWith_builtin rfl (Calls.evalArgs_plain (Calls.spliced_cons (h ok s m T _ F N S fun v p h1 t1 T1 F1 N1 hs1 r1 q1 => Calls.spliced_nil ?_)))
  obtain ⟨xs, rfl, hq⟩ := q1
  cases r1 with | bls hm =>
  exact LSm.any_bools F1 N1 rfl (IsL_of N1 hm) (boolsAre xs) fun h' tk F' N' => hb _ _ _ _ T1 F' N' hs1 .bool hq
theorem EV.compB {x : Str} {px rp cp pos : Pos} {elt e e' : PySem.Expr} {ifs : List PySem.Expr} {scope : Scope} (cl : List (Str × Addr)) (κ' : List (Str × PV)) (a b : Int) (tst fb : Int → Bool)
    (hl : nsIn W.K mainGlobals (Str.ofString "range") = some none)
    (h : EV W d X e g fun p => p = .int a ∧ EV W d X e' g fun p => p = .int b) (ha : small62 a) (hb : small62 b)
    (hnn : (X.cl.map (·.1)).Nodup) (hκ : ∀ y p, κ'.lookup y = some p → g.κ.lookup y = some p ∧ p.plain = true ∧ cl.lookup y = X.cl.lookup y)
    (hsz : (b - a).toNat ≤ 100000)
    (ht : ∀ i, a ≤ i → i < b → TstV W X scope cl κ' x i ifs (tst i)) (he' : ∀ i, a ≤ i → i < b → tst i = true → CV W X scope cl κ' x i elt fun p => p = .bool (fb i))
    (hQ : Q (.bls (((irange a (b - a).toNat).filter tst).map fb)))
    (hclos : closureFor scope X.env = pure cl := by with_unfolding_all rfl) (hcell : ∀ y ∈ scope.names, y.2 ≠ .cell := by decide) (hkind : scope.kind = .function := by rfl)
    (hnames : ∀ y ∈ scope.names, y.2 = .local → scope.names.lookup y.1 = some .local := by decide) (hx : scope.names.lookup x = some .local := by rfl)
    (hk : X.env.kindOf (Str.ofString "range") = some .globalImplicit := by rfl)
    (hev : ∀ env : Env, starEach [e, e'] env = [(false, eval e env), (false, eval e' env)] := by intro _; rfl)
    (hs : ∀ env : Env, ∀ x, foldedSetIterable (.Call (.Name (Str.ofString "range") rp) [e, e'] [] cp) env x = pure x := by intro _ _; rfl)
    (hc : ∀ env : Env, eval (.Call (.Name (Str.ofString "range") rp) [e, e'] [] cp) env = (do callWith cp (← eval (.Name (Str.ofString "range") rp) env) [] (backTo cp (starEach [e, e'] env)) (backToKw cp (keywordEach [] env))) := by intro _; rfl) :
    EV W d X (.ListComp elt [⟨.Name x px, .Call (.Name (Str.ofString "range") rp) [e, e'] [] cp, ifs, 0⟩] scope pos) g Q := by
  refine comp_core cl κ' a b tst (fun i p => p = .bool (fb i)) _ hl h ha hb hnn hκ hsz ht he' (fun vs ys h1 h2 h3 D n => ?_) hQ hclos hcell hkind hnames hx hk hev hs hc
  have h4 := pairB (tst := tst) (fb := fb) h1 h2 (h3.mono fun v y ⟨i, u, q, e1, e2, e3⟩ => ⟨i, u, e1, by subst e3; cases e2; rfl⟩)
  rw [h4]
  exact .bls (.head _)
theorem EV.compI {x : Str} {px rp cp pos : Pos} {elt e e' : PySem.Expr} {ifs : List PySem.Expr} {scope : Scope} (cl : List (Str × Addr)) (κ' : List (Str × PV)) (a b : Int) (tst : Int → Bool) (fi : Int → Int)
    (hl : nsIn W.K mainGlobals (Str.ofString "range") = some none)
    (h : EV W d X e g fun p => p = .int a ∧ EV W d X e' g fun p => p = .int b) (ha : small62 a) (hb : small62 b)
    (hnn : (X.cl.map (·.1)).Nodup) (hκ : ∀ y p, κ'.lookup y = some p → g.κ.lookup y = some p ∧ p.plain = true ∧ cl.lookup y = X.cl.lookup y)
    (hsz : (b - a).toNat ≤ 100000)
    (ht : ∀ i, a ≤ i → i < b → TstV W X scope cl κ' x i ifs (tst i)) (he' : ∀ i, a ≤ i → i < b → tst i = true → CV W X scope cl κ' x i elt fun p => p = .int (fi i))
    (hQ : Q (.lst (((irange a (b - a).toNat).filter tst).map fi)))
    (hclos : closureFor scope X.env = pure cl := by with_unfolding_all rfl) (hcell : ∀ y ∈ scope.names, y.2 ≠ .cell := by decide) (hkind : scope.kind = .function := by rfl)
    (hnames : ∀ y ∈ scope.names, y.2 = .local → scope.names.lookup y.1 = some .local := by decide) (hx : scope.names.lookup x = some .local := by rfl)
    (hk : X.env.kindOf (Str.ofString "range") = some .globalImplicit := by rfl)
    (hev : ∀ env : Env, starEach [e, e'] env = [(false, eval e env), (false, eval e' env)] := by intro _; rfl)
    (hs : ∀ env : Env, ∀ x, foldedSetIterable (.Call (.Name (Str.ofString "range") rp) [e, e'] [] cp) env x = pure x := by intro _ _; rfl)
    (hc : ∀ env : Env, eval (.Call (.Name (Str.ofString "range") rp) [e, e'] [] cp) env = (do callWith cp (← eval (.Name (Str.ofString "range") rp) env) [] (backTo cp (starEach [e, e'] env)) (backToKw cp (keywordEach [] env))) := by intro _; rfl) :
    EV W d X (.ListComp elt [⟨.Name x px, .Call (.Name (Str.ofString "range") rp) [e, e'] [] cp, ifs, 0⟩] scope pos) g Q := by
  refine comp_core cl κ' a b tst (fun i p => p = .int (fi i)) _ hl h ha hb hnn hκ hsz ht he' (fun vs ys h1 h2 h3 D n => ?_) hQ hclos hcell hkind hnames hx hk hev hs hc
  have h4 := pairI (tst := tst) (fi := fi) h1 h2 (h3.mono fun v y ⟨i, u, q, e1, e2, e3⟩ => by subst e3; cases e2; exact ⟨i, u, _, e1, rfl⟩)
  exact .lst (.head _) h4
theorem mem_irange {i : Int} : ∀ {n : Nat} {a : Int}, i ∈ irange a n ↔ a ≤ i ∧ i < a + n
  | 0, a => by rw [irange]; constructor <;> intro h; · cases h
               · lia
  | n + 1, a => by
    rw [irange, List.mem_cons, mem_irange]
    lia
end
section
variable {W : Wd} {d : Nat} {X : Fx} {g : G} {R : PV → Prop} {Q : PV → Prop}
theorem comp_core1 {x : Str} {px rp cp pos : Pos} {elt e : PySem.Expr} {ifs : List PySem.Expr} {scope : Scope} (cl : List (Str × Addr)) (κ' : List (Str × PV)) (b : Int) (tst : Int → Bool) (Fv : Int → PV → Prop)
    (p : PV) (hl : nsIn W.K mainGlobals (Str.ofString "range") = some none)
    (h : EV W d X e g fun p => p = .int b) (hb : small62 b)
    (hnn : (X.cl.map (·.1)).Nodup) (hκ : ∀ y p, κ'.lookup y = some p → g.κ.lookup y = some p ∧ p.plain = true ∧ cl.lookup y = X.cl.lookup y)
    (hsz : b.toNat ≤ 100000)
    (ht : ∀ i, 0 ≤ i → i < b → TstV W X scope cl κ' x i ifs (tst i)) (he' : ∀ i, 0 ≤ i → i < b → tst i = true → CV W X scope cl κ' x i elt (Fv i))
    (hr : ∀ (vs ys : List Value), vs.length = b.toNat → (∀ (j : Nat) v, vs[j]? = some v → ∃ t, v = Value.int (0 + j) t) → Paired (fun v y => ∃ i u q, v = Value.int i u ∧ Rep [] y q ∧ Fv i q) (vs.filter (onInt tst)) ys → ∀ (D : Addr) (n : Nat), Rep [(D, listOf ys.toArray n)] (.ref D) p)
    (hQ : Q p)
    (hclos : closureFor scope X.env = pure cl) (hcell : ∀ y ∈ scope.names, y.2 ≠ .cell) (hkind : scope.kind = .function)
    (hnames : ∀ y ∈ scope.names, y.2 = .local → scope.names.lookup y.1 = some .local) (hx : scope.names.lookup x = some .local)
    (hk : X.env.kindOf (Str.ofString "range") = some .globalImplicit)
    (hev : ∀ env : Env, starEach [e] env = [(false, eval e env)] := by intro _; rfl)
    (hs : ∀ env : Env, ∀ x, foldedSetIterable (.Call (.Name (Str.ofString "range") rp) [e] [] cp) env x = pure x := by intro _ _; rfl)
    (hc : ∀ env : Env, eval (.Call (.Name (Str.ofString "range") rp) [e] [] cp) env = (do callWith cp (← eval (.Name (Str.ofString "range") rp) env) [] (backTo cp (starEach [e] env)) (backToKw cp (keywordEach [] env))) := by intro _; rfl) :
    EV W d X (.ListComp elt [⟨.Name x px, .Call (.Name (Str.ofString "range") rp) [e] [] cp, ifs, 0⟩] scope pos) g Q := by
  intro ok s m T QQ F N N₀ S hback
  refine wpAny_ListComp_free (onInt tst) (fun v y => ∃ i u q, v = Value.int i u ∧ Rep [] y q ∧ Fv i q) hclos hcell hkind hnames hx ?_ (hs _)
  refine Call_ (bname ok F hl (v := .type "range") (by boot_by_name) (by decide) ?_ hk) (hc _)
  rw [hev]
  refine PySem.callWith_type rfl (Calls.evalArgs_plain (Calls.spliced_cons (h ok s m T _ F N S fun v p h2 t2 T2 F2 N2 hs2 r2 q2 => Calls.spliced_nil ?_)))
  subst q2
  cases r2
  refine range1_rows F2 N2 fun h4 t4 _ _ _ hrg F4 N4 _ => ?_
  refine wpAny_pyIter_range hrg (small_one (by decide) (by decide) hb.1 hb.2) ?_
  generalize hn : b.toNat = n at *
  have hsize : Builtin.Range.rangeSize 0 b 1 = (n : Int) := by rw [rsize_up]; simp [hn]
  have S2 := S.mono hs2
  refine ⟨_, _, _, n, _, _, rfl, (Walks.range rfl h4.objs.size 0 1 n).bound, by rw [sizeLine_eq]; lia, by show IsRangeIter _ _ _ _ _; rw [hsize]; simpa using Heap.get?_push_size _ rfl, ?_, ⟨?_, ?_⟩, ?_⟩
  · intro b hb
    rw [List.mem_singleton.mp hb]
    show _ < (h4.push _).objs.size
    rw [Heap.size_push]; exact Nat.lt_succ_self _
  · rintro C i v s₃ m₃ E' hC ⟨hi, t, rfl⟩ hns hmx hkeep htk
    refine ht (0 + i * 1) (by lia) (by lia) C s₃ m₃ t E' hns hmx (cells_at S2 N2 hnn hκ fun q hq => ?_)
    have hg := (N4 q hq).1
    refine hkeep _ _ (fun hz => ?_) (Heap.get?_push_of_some _ hg)
    rw [List.mem_singleton.mp hz] at hg
    exact absurd (Heap.lt_size hg) (Nat.lt_irrefl _)
  · rintro C i v s₃ m₃ E' hC ⟨hi, t, rfl⟩ hp hns hmx hkeep htk
    refine he' (0 + i * 1) (by omega) (by omega) hp C s₃ m₃ t E' _ hns hmx (cells_at S2 N2 hnn hκ fun q hq => ?_) fun v p tk hr hp => ⟨⟨_, _, _, rfl, hr, hp⟩, _, _, rfl, fun _ _ e => e⟩
    have hg := (N4 q hq).1
    refine hkeep _ _ (fun hz => ?_) (Heap.get?_push_of_some _ hg)
    rw [List.mem_singleton.mp hz] at hg
    exact absurd (Heap.lt_size hg) (Nat.lt_irrefl _)
  · intro D h' tk ys vs hD hlD hplD hlen hP hF hkeep
    obtain ⟨k, hD'⟩ := hplD
    have hup : ∀ b o, h4.get? b = some o → h'.get? b = some o := fun b o e => hkeep b o (fun hz => by
      rw [List.mem_singleton.mp hz] at e; exact absurd (Heap.lt_size e) (Nat.lt_irrefl _)) (Heap.get?_push_of_some _ e)
    have hrr := hr vs ys.toList hlen (fun j v hv => by obtain ⟨_, t, ht⟩ := hP j v hv; exact ⟨t, by rw [ht]; congr 1; lia⟩) hF D k
    have hD4 : h4.get? D = none := by
      cases e : h4.get? D with
      | none => rfl
      | some o => rw [Heap.get?_push_of_some _ e] at hD; cases hD
    refine hback _ p _ _ ((D, listOf ys.toList.toArray k) :: T2) (F4.keeps hup) (fun q hq => ?_) (fun q hq => .tail _ (hs2 _ hq)) (hrr.mono fun q hq => by rw [List.mem_singleton.mp hq]; exact .head _) hQ
    rcases List.mem_cons.mp hq with rfl | hq
    · refine ⟨by simpa using hD', fun e => ?_, ?_⟩
      · obtain ⟨o, ho⟩ : ∃ o, h4.get? X.L = some o := by obtain ⟨o, _, _, ho, _⟩ := F4.ns; exact ⟨_, ho⟩
        rw [show D = X.L from e, ho] at hD4; cases hD4
      · cases e : X.h₀.get? D with
        | none => rfl
        | some o => rw [F4.keep _ _ e] at hD4; cases hD4
    · exact ⟨hup _ _ (N4 q hq).1, (N4 q hq).2⟩

theorem EV.compI1 {x : Str} {px rp cp pos : Pos} {elt e : PySem.Expr} {ifs : List PySem.Expr} {scope : Scope} (cl : List (Str × Addr)) (κ' : List (Str × PV)) (b : Int) (tst : Int → Bool) (fi : Int → Int)
    (hl : nsIn W.K mainGlobals (Str.ofString "range") = some none)
    (h : EV W d X e g fun p => p = .int b) (hb : small62 b)
    (hnn : (X.cl.map (·.1)).Nodup) (hκ : ∀ y p, κ'.lookup y = some p → g.κ.lookup y = some p ∧ p.plain = true ∧ cl.lookup y = X.cl.lookup y)
    (hsz : b.toNat ≤ 100000)
    (ht : ∀ i, 0 ≤ i → i < b → TstV W X scope cl κ' x i ifs (tst i)) (he' : ∀ i, 0 ≤ i → i < b → tst i = true → CV W X scope cl κ' x i elt fun p => p = .int (fi i))
    (hQ : Q (.lst (((irange 0 b.toNat).filter tst).map fi)))
    (hclos : closureFor scope X.env = pure cl := by with_unfolding_all rfl) (hcell : ∀ y ∈ scope.names, y.2 ≠ .cell := by decide) (hkind : scope.kind = .function := by rfl)
    (hnames : ∀ y ∈ scope.names, y.2 = .local → scope.names.lookup y.1 = some .local := by decide) (hx : scope.names.lookup x = some .local := by rfl)
    (hk : X.env.kindOf (Str.ofString "range") = some .globalImplicit := by rfl)
    (hev : ∀ env : Env, starEach [e] env = [(false, eval e env)] := by intro _; rfl)
    (hs : ∀ env : Env, ∀ x, foldedSetIterable (.Call (.Name (Str.ofString "range") rp) [e] [] cp) env x = pure x := by intro _ _; rfl)
    (hc : ∀ env : Env, eval (.Call (.Name (Str.ofString "range") rp) [e] [] cp) env = (do callWith cp (← eval (.Name (Str.ofString "range") rp) env) [] (backTo cp (starEach [e] env)) (backToKw cp (keywordEach [] env))) := by intro _; rfl) :
    EV W d X (.ListComp elt [⟨.Name x px, .Call (.Name (Str.ofString "range") rp) [e] [] cp, ifs, 0⟩] scope pos) g Q := by
  refine comp_core1 cl κ' b tst (fun i p => p = .int (fi i)) _ hl h hb hnn hκ hsz ht he' (fun vs ys h1 h2 h3 D n => ?_) hQ hclos hcell hkind hnames hx hk hev hs hc
  have h4 := pairI (tst := tst) (fi := fi) h1 h2 (h3.mono fun v y ⟨i, u, q, e1, e2, e3⟩ => by subst e3; cases e2; exact ⟨i, u, _, e1, rfl⟩)
  exact .lst (.head _) h4
end
noncomputable abbrev Pw : Program := PySem.Challenge.pw_nn0030_01
noncomputable def keepI : List Nat := [1, 2, 3, 4, 5, 6, 7, 8, 9, 10, 11, 12, 13, 14, 15, 16, 18, 19, 20, 21, 22, 23, 24, 25, 26, 27, 28, 29, 30, 31, 33, 34, 35, 36, 37, 38, 39, 40, 41, 42, 43, 44]
noncomputable def Qv : Program := view Pw keepI
noncomputable def oDef (i : Nat) (md : Value) (c : Addr) : Obj := match Pw.main.body[i]? with
  | some (.FunctionDef n ps b _ _ _ sc _ _ _) => { cls := .type "function", data := .func { name := n, qualname := n, params := ps, body := .stmts b, scope := sc, globals := 3, closure := [], defaults := .none, kwdefaults := .none, pyModule := md, code := .ref c } }
  | _ => { cls := .none }
noncomputable def fileS : Str := Str.ofString "/claim/cut.py"
noncomputable def oCode (n : Str) (t c u line argc : Nat) : Obj := { cls := .type "code", data := .fields #[.str n t, .str n (t + 1), .str fileS (t + 2), .int line 0, .int argc 0, .int 0 0, .int 0 0, .int 3 0, .ref (c - 5), .bool true, .int 181 0, .ref (c - 4), .none, .ref (c - 3), .ref (c - 2), .ref (c - 1), .int u 0, .int line 0, .str fileS (u + 1)] }
noncomputable def oCode0 (n : Str) (t c u line argc : Nat) : Obj := { cls := .type "code", data := .fields #[.str n t, .str n (t + 1), .str fileS (t + 2), .int line 0, .int argc 0, .int 0 0, .int 0 0, .int 3 0, .ref (c - 3), .bool true, .int 181 0, .ref (c - 2), .none, .none, .none, .ref (c - 1), .int u 0, .int line 0, .str fileS (u + 1)] }
noncomputable def cell (P : Params) (x : String) (k : Nat) (v : Value) : DictEntry := { hash := PyData.keyHash P (Str.ofString x), key := .str (Str.ofString x) k, val := v }
noncomputable def dMain (P : Params) : Array DictEntry := #[
  cell P "__name__" 165 (.str (Str.ofString "law_nn0030_01") 551),
  cell P "__doc__" 166 (.none),
  cell P "__package__" 167 (.none),
  cell P "__loader__" 168 (.builtin "__main__.__loader__#\x6fpaque"),
  cell P "__spec__" 169 (.none),
  cell P "__annotations__" 170 (.ref 6),
  cell P "__builtins__" 171 (.ref 4),
  cell P "__file__" 173 (.str (Str.ofString "/claim/cut.py") 172),
  cell P "__cached__" 174 (.none),
  cell P "GmpError" 208 (.ref 24),
  cell P "DivisionByZero" 224 (.ref 37),
  cell P "OutOfRange" 240 (.ref 49),
  cell P "normal" 248 (.ref 58),
  cell P "nat_of" 258 (.ref 65),
  cell P "compare" 267 (.ref 72),
  cell P "add" 280 (.ref 79),
  cell P "sub" 294 (.ref 86),
  cell P "add_at" 304 (.ref 93),
  cell P "divrem_limb" 316 (.ref 100),
  cell P "shift_left" 331 (.ref 107),
  cell P "shift_right" 346 (.ref 114),
  cell P "bits" 354 (.ref 121),
  cell P "bit" 363 (.ref 128),
  cell P "split" 371 (.ref 135),
  cell P "trailing" 381 (.ref 142),
  cell P "SMALL_MODULI" 392 (.ref 143),
  cell P "sqrt_small" 401 (.ref 150),
  cell P "sqrt_plain" 413 (.ref 157),
  cell P "sqrt_two_limbs" 424 (.ref 164),
  cell P "sqrt_halves" 446 (.ref 171),
  cell P "sqrt_rem" 461 (.ref 178),
  cell P "power_of_nat" 473 (.ref 185),
  cell P "root_rem" 490 (.ref 192),
  cell P "square_rests" 499 (.ref 199),
  cell P "may_be_square" 508 (.ref 206),
  cell P "is_square" 519 (.ref 213),
  cell P "next_small_prime" 525 (.ref 218),
  cell P "power_of" 540 (.ref 225),
  cell P "is_power" 550 (.ref 232),
  cell P "_law_limbs" 561 (.ref 239),
  cell P "_law_number" 571 (.ref 246),
  cell P "_law_mul" 580 (.ref 253),
  cell P "_law_divrem" 591 (.ref 260),
  cell P "_law_pow" 601 (.ref 267),
  cell P "_law_take" 609 (.ref 274),
  cell P "_law_box" 615 (.ref 279),
  cell P "_law_root" 625 (.ref 286),
  cell P "_law_is_exact" 634 (.ref 293),
  cell P "_law_drawn" 645 (.ref 300),
  cell P "_law_exponent" 653 (.ref 307),
  cell P "law" 659 (.ref 312)]
noncomputable def Kf (P : Params) : Frag := [
  (3, ⟨.type "dict", none, .dict (dMain P) 51, #[]⟩),
  (57, oCode (Str.ofString "normal") 241 57 246 8 1),
  (58, oDef 4 (.str (Str.ofString "gmp.limbs") 187) 57),
  (64, oCode (Str.ofString "nat_of") 249 64 256 13 2),
  (65, oDef 5 (.str (Str.ofString "gmp.limbs") 187) 64),
  (71, oCode (Str.ofString "compare") 259 71 265 21 2),
  (72, oDef 6 (.str (Str.ofString "gmp.limbs") 187) 71),
  (78, oCode (Str.ofString "add") 268 78 278 28 3),
  (79, oDef 7 (.str (Str.ofString "gmp.limbs") 187) 78),
  (85, oCode (Str.ofString "sub") 281 85 292 43 3),
  (86, oDef 8 (.str (Str.ofString "gmp.limbs") 187) 85),
  (92, oCode (Str.ofString "add_at") 295 92 302 52 4),
  (93, oDef 9 (.str (Str.ofString "gmp.limbs") 187) 92),
  (99, oCode (Str.ofString "divrem_limb") 305 99 314 58 3),
  (100, oDef 10 (.str (Str.ofString "gmp.limbs") 187) 99),
  (106, oCode (Str.ofString "shift_left") 317 106 329 67 3),
  (107, oDef 11 (.str (Str.ofString "gmp.limbs") 187) 106),
  (113, oCode (Str.ofString "shift_right") 332 113 344 79 3),
  (114, oDef 12 (.str (Str.ofString "gmp.limbs") 187) 113),
  (120, oCode (Str.ofString "bits") 347 120 352 86 2),
  (121, oDef 13 (.str (Str.ofString "gmp.limbs") 187) 120),
  (127, oCode (Str.ofString "bit") 355 127 361 88 3),
  (128, oDef 14 (.str (Str.ofString "gmp.limbs") 187) 127),
  (134, oCode (Str.ofString "split") 364 134 369 90 2),
  (135, oDef 15 (.str (Str.ofString "gmp.limbs") 187) 134),
  (141, oCode (Str.ofString "trailing") 372 141 379 92 2),
  (142, oDef 16 (.str (Str.ofString "gmp.limbs") 187) 141),
  (143, { cls := .type "tuple", data := .seq #[.int 3 384, .int 5 385, .int 7 386, .int 11 387, .int 13 388, .int 17 389, .int 31 390, .int 63 391] }),
  (149, oCode (Str.ofString "sqrt_small") 393 149 399 99 1),
  (150, oDef 19 (.str (Str.ofString "gmp.roots") 382) 149),
  (156, oCode (Str.ofString "sqrt_plain") 402 156 411 112 2),
  (157, oDef 20 (.str (Str.ofString "gmp.roots") 382) 156),
  (163, oCode (Str.ofString "sqrt_two_limbs") 414 163 422 123 2),
  (164, oDef 21 (.str (Str.ofString "gmp.roots") 382) 163),
  (170, oCode (Str.ofString "sqrt_halves") 425 170 444 129 6),
  (171, oDef 22 (.str (Str.ofString "gmp.roots") 382) 170),
  (177, oCode (Str.ofString "sqrt_rem") 447 177 459 146 5),
  (178, oDef 23 (.str (Str.ofString "gmp.roots") 382) 177),
  (184, oCode (Str.ofString "power_of_nat") 462 184 471 157 4),
  (185, oDef 24 (.str (Str.ofString "gmp.roots") 382) 184),
  (191, oCode (Str.ofString "root_rem") 474 191 488 164 5),
  (192, oDef 25 (.str (Str.ofString "gmp.roots") 382) 191),
  (198, oCode (Str.ofString "square_rests") 491 198 497 180 1),
  (199, oDef 26 (.str (Str.ofString "gmp.roots") 382) 198),
  (205, oCode (Str.ofString "may_be_square") 500 205 506 185 2),
  (206, oDef 27 (.str (Str.ofString "gmp.roots") 382) 205),
  (212, oCode (Str.ofString "is_square") 509 212 517 192 5),
  (213, oDef 28 (.str (Str.ofString "gmp.roots") 382) 212),
  (217, oCode0 (Str.ofString "next_small_prime") 520 217 523 196 1),
  (218, oDef 29 (.str (Str.ofString "gmp.roots") 382) 217),
  (224, oCode (Str.ofString "power_of") 526 224 538 201 4),
  (225, oDef 30 (.str (Str.ofString "gmp.roots") 382) 224),
  (231, oCode (Str.ofString "is_power") 541 231 548 214 4),
  (232, oDef 31 (.str (Str.ofString "gmp.roots") 382) 231),
  (238, oCode (Str.ofString "_law_limbs") 553 238 559 217 2),
  (239, oDef 33 (.str (Str.ofString "law_nn0030_01") 551) 238),
  (245, oCode (Str.ofString "_law_number") 562 245 569 223 2),
  (246, oDef 34 (.str (Str.ofString "law_nn0030_01") 551) 245),
  (252, oCode (Str.ofString "_law_mul") 572 252 578 228 3),
  (253, oDef 35 (.str (Str.ofString "law_nn0030_01") 551) 252),
  (259, oCode (Str.ofString "_law_divrem") 581 259 589 230 3),
  (260, oDef 36 (.str (Str.ofString "law_nn0030_01") 551) 259),
  (266, oCode (Str.ofString "_law_pow") 592 266 599 233 2),
  (267, oDef 37 (.str (Str.ofString "law_nn0030_01") 551) 266),
  (273, oCode (Str.ofString "_law_take") 602 273 607 238 2),
  (274, oDef 38 (.str (Str.ofString "law_nn0030_01") 551) 273),
  (278, oCode0 (Str.ofString "_law_box") 610 278 613 243 1),
  (279, oDef 39 (.str (Str.ofString "law_nn0030_01") 551) 278),
  (285, oCode (Str.ofString "_law_root") 616 285 623 248 2),
  (286, oDef 40 (.str (Str.ofString "law_nn0030_01") 551) 285),
  (292, oCode (Str.ofString "_law_is_exact") 626 292 632 254 2),
  (293, oDef 41 (.str (Str.ofString "law_nn0030_01") 551) 292),
  (299, oCode (Str.ofString "_law_drawn") 635 299 643 257 2),
  (300, oDef 42 (.str (Str.ofString "law_nn0030_01") 551) 299),
  (306, oCode (Str.ofString "_law_exponent") 646 306 651 268 1),
  (307, oDef 43 (.str (Str.ofString "law_nn0030_01") 551) 306),
  (311, oCode0 (Str.ofString "law") 654 311 657 273 1),
  (312, oDef 44 (.str (Str.ofString "law_nn0030_01") 551) 311)]
noncomputable def addrs : List Addr := [3, 57, 58, 64, 65, 71, 72, 78, 79, 85, 86, 92, 93, 99, 100, 106, 107, 113, 114, 120, 121, 127, 128, 134, 135, 141, 142, 143, 149, 150, 156, 157, 163, 164, 170, 171, 177, 178, 184, 185, 191, 192, 198, 199, 205, 206, 212, 213, 217, 218, 224, 225, 231, 232, 238, 239, 245, 246, 252, 253, 259, 260, 266, 267, 273, 274, 278, 279, 285, 286, 292, 293, 299, 300, 306, 307, 311, 312]
theorem addrs_eq (P : Params) : addrs = (Kf P).map (·.1) := by kernel_rfl
noncomputable abbrev HH : Hook := kHook Kf addrs addrs_eq
noncomputable abbrev WH (w : World) (mean : ExcName → Option Value) (mg mb : Str → Option Value) : Wd :=
  ⟨PySem.Challenge.rw_nn0030_01.row.prog, w, Kf w.params, Qv, looseW Qv [], mean, mg, mb⟩
theorem ns_normal (P : Params) : nsIn (Kf P) mainGlobals (Str.ofString "normal") = some (some (.ref 58)) := by kernel_rfl
theorem kp_normal (P : Params) : keepIn (Kf P) (.ref 58) = true := by kernel_rfl
theorem ns_nat_of (P : Params) : nsIn (Kf P) mainGlobals (Str.ofString "nat_of") = some (some (.ref 65)) := by kernel_rfl
theorem kp_nat_of (P : Params) : keepIn (Kf P) (.ref 65) = true := by kernel_rfl
theorem ns_compare (P : Params) : nsIn (Kf P) mainGlobals (Str.ofString "compare") = some (some (.ref 72)) := by kernel_rfl
theorem kp_compare (P : Params) : keepIn (Kf P) (.ref 72) = true := by kernel_rfl
theorem ns_add (P : Params) : nsIn (Kf P) mainGlobals (Str.ofString "add") = some (some (.ref 79)) := by kernel_rfl
theorem kp_add (P : Params) : keepIn (Kf P) (.ref 79) = true := by kernel_rfl
theorem ns_sub (P : Params) : nsIn (Kf P) mainGlobals (Str.ofString "sub") = some (some (.ref 86)) := by kernel_rfl
theorem kp_sub (P : Params) : keepIn (Kf P) (.ref 86) = true := by kernel_rfl
theorem ns_add_at (P : Params) : nsIn (Kf P) mainGlobals (Str.ofString "add_at") = some (some (.ref 93)) := by kernel_rfl
theorem kp_add_at (P : Params) : keepIn (Kf P) (.ref 93) = true := by kernel_rfl
theorem ns_divrem_limb (P : Params) : nsIn (Kf P) mainGlobals (Str.ofString "divrem_limb") = some (some (.ref 100)) := by kernel_rfl
theorem kp_divrem_limb (P : Params) : keepIn (Kf P) (.ref 100) = true := by kernel_rfl
theorem ns_shift_left (P : Params) : nsIn (Kf P) mainGlobals (Str.ofString "shift_left") = some (some (.ref 107)) := by kernel_rfl
theorem kp_shift_left (P : Params) : keepIn (Kf P) (.ref 107) = true := by kernel_rfl
theorem ns_shift_right (P : Params) : nsIn (Kf P) mainGlobals (Str.ofString "shift_right") = some (some (.ref 114)) := by kernel_rfl
theorem kp_shift_right (P : Params) : keepIn (Kf P) (.ref 114) = true := by kernel_rfl
theorem ns_bits (P : Params) : nsIn (Kf P) mainGlobals (Str.ofString "bits") = some (some (.ref 121)) := by kernel_rfl
theorem kp_bits (P : Params) : keepIn (Kf P) (.ref 121) = true := by kernel_rfl
theorem ns_bit (P : Params) : nsIn (Kf P) mainGlobals (Str.ofString "bit") = some (some (.ref 128)) := by kernel_rfl
theorem kp_bit (P : Params) : keepIn (Kf P) (.ref 128) = true := by kernel_rfl
theorem ns_split (P : Params) : nsIn (Kf P) mainGlobals (Str.ofString "split") = some (some (.ref 135)) := by kernel_rfl
theorem kp_split (P : Params) : keepIn (Kf P) (.ref 135) = true := by kernel_rfl
theorem ns_trailing (P : Params) : nsIn (Kf P) mainGlobals (Str.ofString "trailing") = some (some (.ref 142)) := by kernel_rfl
theorem kp_trailing (P : Params) : keepIn (Kf P) (.ref 142) = true := by kernel_rfl
theorem ns_sqrt_small (P : Params) : nsIn (Kf P) mainGlobals (Str.ofString "sqrt_small") = some (some (.ref 150)) := by kernel_rfl
theorem kp_sqrt_small (P : Params) : keepIn (Kf P) (.ref 150) = true := by kernel_rfl
theorem ns_sqrt_plain (P : Params) : nsIn (Kf P) mainGlobals (Str.ofString "sqrt_plain") = some (some (.ref 157)) := by kernel_rfl
theorem kp_sqrt_plain (P : Params) : keepIn (Kf P) (.ref 157) = true := by kernel_rfl
theorem ns_sqrt_two_limbs (P : Params) : nsIn (Kf P) mainGlobals (Str.ofString "sqrt_two_limbs") = some (some (.ref 164)) := by kernel_rfl
theorem kp_sqrt_two_limbs (P : Params) : keepIn (Kf P) (.ref 164) = true := by kernel_rfl
theorem ns_sqrt_halves (P : Params) : nsIn (Kf P) mainGlobals (Str.ofString "sqrt_halves") = some (some (.ref 171)) := by kernel_rfl
theorem kp_sqrt_halves (P : Params) : keepIn (Kf P) (.ref 171) = true := by kernel_rfl
theorem ns_sqrt_rem (P : Params) : nsIn (Kf P) mainGlobals (Str.ofString "sqrt_rem") = some (some (.ref 178)) := by kernel_rfl
theorem kp_sqrt_rem (P : Params) : keepIn (Kf P) (.ref 178) = true := by kernel_rfl
theorem ns_power_of_nat (P : Params) : nsIn (Kf P) mainGlobals (Str.ofString "power_of_nat") = some (some (.ref 185)) := by kernel_rfl
theorem kp_power_of_nat (P : Params) : keepIn (Kf P) (.ref 185) = true := by kernel_rfl
theorem ns_root_rem (P : Params) : nsIn (Kf P) mainGlobals (Str.ofString "root_rem") = some (some (.ref 192)) := by kernel_rfl
theorem kp_root_rem (P : Params) : keepIn (Kf P) (.ref 192) = true := by kernel_rfl
theorem ns_square_rests (P : Params) : nsIn (Kf P) mainGlobals (Str.ofString "square_rests") = some (some (.ref 199)) := by kernel_rfl
theorem kp_square_rests (P : Params) : keepIn (Kf P) (.ref 199) = true := by kernel_rfl
theorem ns_may_be_square (P : Params) : nsIn (Kf P) mainGlobals (Str.ofString "may_be_square") = some (some (.ref 206)) := by kernel_rfl
theorem kp_may_be_square (P : Params) : keepIn (Kf P) (.ref 206) = true := by kernel_rfl
theorem ns_is_square (P : Params) : nsIn (Kf P) mainGlobals (Str.ofString "is_square") = some (some (.ref 213)) := by kernel_rfl
theorem kp_is_square (P : Params) : keepIn (Kf P) (.ref 213) = true := by kernel_rfl
theorem ns_next_small_prime (P : Params) : nsIn (Kf P) mainGlobals (Str.ofString "next_small_prime") = some (some (.ref 218)) := by kernel_rfl
theorem kp_next_small_prime (P : Params) : keepIn (Kf P) (.ref 218) = true := by kernel_rfl
theorem ns_power_of (P : Params) : nsIn (Kf P) mainGlobals (Str.ofString "power_of") = some (some (.ref 225)) := by kernel_rfl
theorem kp_power_of (P : Params) : keepIn (Kf P) (.ref 225) = true := by kernel_rfl
theorem ns_is_power (P : Params) : nsIn (Kf P) mainGlobals (Str.ofString "is_power") = some (some (.ref 232)) := by kernel_rfl
theorem kp_is_power (P : Params) : keepIn (Kf P) (.ref 232) = true := by kernel_rfl
theorem ns_law_limbs (P : Params) : nsIn (Kf P) mainGlobals (Str.ofString "_law_limbs") = some (some (.ref 239)) := by kernel_rfl
theorem kp_law_limbs (P : Params) : keepIn (Kf P) (.ref 239) = true := by kernel_rfl
theorem ns_law_number (P : Params) : nsIn (Kf P) mainGlobals (Str.ofString "_law_number") = some (some (.ref 246)) := by kernel_rfl
theorem kp_law_number (P : Params) : keepIn (Kf P) (.ref 246) = true := by kernel_rfl
theorem ns_law_mul (P : Params) : nsIn (Kf P) mainGlobals (Str.ofString "_law_mul") = some (some (.ref 253)) := by kernel_rfl
theorem kp_law_mul (P : Params) : keepIn (Kf P) (.ref 253) = true := by kernel_rfl
theorem ns_law_divrem (P : Params) : nsIn (Kf P) mainGlobals (Str.ofString "_law_divrem") = some (some (.ref 260)) := by kernel_rfl
theorem kp_law_divrem (P : Params) : keepIn (Kf P) (.ref 260) = true := by kernel_rfl
theorem ns_law_pow (P : Params) : nsIn (Kf P) mainGlobals (Str.ofString "_law_pow") = some (some (.ref 267)) := by kernel_rfl
theorem kp_law_pow (P : Params) : keepIn (Kf P) (.ref 267) = true := by kernel_rfl
theorem ns_law_take (P : Params) : nsIn (Kf P) mainGlobals (Str.ofString "_law_take") = some (some (.ref 274)) := by kernel_rfl
theorem kp_law_take (P : Params) : keepIn (Kf P) (.ref 274) = true := by kernel_rfl
theorem ns_law_box (P : Params) : nsIn (Kf P) mainGlobals (Str.ofString "_law_box") = some (some (.ref 279)) := by kernel_rfl
theorem kp_law_box (P : Params) : keepIn (Kf P) (.ref 279) = true := by kernel_rfl
theorem ns_law_root (P : Params) : nsIn (Kf P) mainGlobals (Str.ofString "_law_root") = some (some (.ref 286)) := by kernel_rfl
theorem kp_law_root (P : Params) : keepIn (Kf P) (.ref 286) = true := by kernel_rfl
theorem ns_law_is_exact (P : Params) : nsIn (Kf P) mainGlobals (Str.ofString "_law_is_exact") = some (some (.ref 293)) := by kernel_rfl
theorem kp_law_is_exact (P : Params) : keepIn (Kf P) (.ref 293) = true := by kernel_rfl
theorem ns_law_drawn (P : Params) : nsIn (Kf P) mainGlobals (Str.ofString "_law_drawn") = some (some (.ref 300)) := by kernel_rfl
theorem kp_law_drawn (P : Params) : keepIn (Kf P) (.ref 300) = true := by kernel_rfl
theorem ns_law_exponent (P : Params) : nsIn (Kf P) mainGlobals (Str.ofString "_law_exponent") = some (some (.ref 307)) := by kernel_rfl
theorem kp_law_exponent (P : Params) : keepIn (Kf P) (.ref 307) = true := by kernel_rfl
theorem ns_law (P : Params) : nsIn (Kf P) mainGlobals (Str.ofString "law") = some (some (.ref 312)) := by kernel_rfl
theorem nb_len (P : Params) : nsIn (Kf P) mainGlobals (Str.ofString "len") = some none := by kernel_rfl
theorem nb_range (P : Params) : nsIn (Kf P) mainGlobals (Str.ofString "range") = some none := by kernel_rfl
theorem nb_list (P : Params) : nsIn (Kf P) mainGlobals (Str.ofString "list") = some none := by kernel_rfl
theorem nb_reversed (P : Params) : nsIn (Kf P) mainGlobals (Str.ofString "reversed") = some none := by kernel_rfl
theorem nb_enumerate (P : Params) : nsIn (Kf P) mainGlobals (Str.ofString "enumerate") = some none := by kernel_rfl
theorem nb_abs (P : Params) : nsIn (Kf P) mainGlobals (Str.ofString "abs") = some none := by kernel_rfl
theorem nb_any (P : Params) : nsIn (Kf P) mainGlobals (Str.ofString "any") = some none := by kernel_rfl
theorem nb_repr (P : Params) : nsIn (Kf P) mainGlobals (Str.ofString "repr") = some none := by kernel_rfl
theorem nb_sorted (P : Params) : nsIn (Kf P) mainGlobals (Str.ofString "sorted") = some none := by kernel_rfl
theorem nb_set (P : Params) : nsIn (Kf P) mainGlobals (Str.ofString "set") = some none := by kernel_rfl
noncomputable def fnL : List (Str × Addr) := [(Str.ofString "normal", 58), (Str.ofString "nat_of", 65), (Str.ofString "compare", 72), (Str.ofString "add", 79), (Str.ofString "sub", 86), (Str.ofString "add_at", 93), (Str.ofString "divrem_limb", 100), (Str.ofString "shift_left", 107), (Str.ofString "shift_right", 114), (Str.ofString "bits", 121), (Str.ofString "bit", 128), (Str.ofString "split", 135), (Str.ofString "trailing", 142), (Str.ofString "sqrt_small", 150), (Str.ofString "sqrt_plain", 157), (Str.ofString "sqrt_two_limbs", 164), (Str.ofString "sqrt_halves", 171), (Str.ofString "sqrt_rem", 178), (Str.ofString "power_of_nat", 185), (Str.ofString "root_rem", 192), (Str.ofString "square_rests", 199), (Str.ofString "may_be_square", 206), (Str.ofString "is_square", 213), (Str.ofString "next_small_prime", 218), (Str.ofString "power_of", 225), (Str.ofString "is_power", 232), (Str.ofString "_law_limbs", 239), (Str.ofString "_law_number", 246), (Str.ofString "_law_mul", 253), (Str.ofString "_law_divrem", 260), (Str.ofString "_law_pow", 267), (Str.ofString "_law_take", 274), (Str.ofString "_law_box", 279), (Str.ofString "_law_root", 286), (Str.ofString "_law_is_exact", 293), (Str.ofString "_law_drawn", 300), (Str.ofString "_law_exponent", 307)]
theorem fns (P : Params) : (fnL.all fun p => (nsIn (Kf P) mainGlobals p.1 == some (some (.ref p.2))) && keepIn (Kf P) (.ref p.2)) = true := by kernel_rfl
theorem lookup_mem {x : Str} {f : Addr} : ∀ {l : List (Str × Addr)}, l.lookup x = some f → (x, f) ∈ l
  | [], h => by cases h
  | (y, v) :: r, h => by
    rw [List.lookup_cons] at h
    by_cases e : x = y
    · subst e; rw [beq_self_eq_true] at h; cases h; exact List.mem_cons_self
    · rw [beq_eq_false_iff_ne.mpr e] at h; exact List.mem_cons_of_mem _ (lookup_mem h)
theorem fn_of {x : Str} {f : Addr} (P : Params) (h : fnL.lookup x = some f) : nsIn (Kf P) mainGlobals x = some (some (.ref f)) ∧ keepIn (Kf P) (.ref f) = true := by
  have := List.all_eq_true.mp (fns P) _ (lookup_mem h)
  rw [Bool.and_eq_true] at this
  exact ⟨eq_of_beq this.1, this.2⟩
theorem EV.callG {w : World} {mean : ExcName → Option Value} {mg mb : Str → Option Value} {d : Nat} {X : Fx} {g : G} {Q : PV → Prop} {x : Str} {f : Addr} {fpos pos : Pos} {e : PySem.Expr} {rest : List PySem.Expr} (hx : fnL.lookup x = some f)
    (h : ES (WH w mean mg mb) d X pos (e :: rest) g fun ps => ∃ R, Ct (WH w mean mg mb) d f ps R ∧ ∀ r, R r → Q r) (hk : X.env.kindOf x = some .globalImplicit := by rfl)
    (he : ∀ env : Env, starEach (e :: rest) env = (false, eval e env) :: starEach rest env := by intro _; rfl)
    (hp : ∀ env : Env, (backTo pos (starEach rest env)).any (·.1) = false := by intro _; rfl)
    (hc : ∀ env : Env, eval (.Call (.Name x fpos) (e :: rest) [] pos) env = (do callWith pos (← eval (.Name x fpos) env) [] (backTo pos (starEach (e :: rest) env)) (backToKw pos (keywordEach [] env))) := by intro _; rfl) :
    EV (WH w mean mg mb) d X (.Call (.Name x fpos) (e :: rest) [] pos) g Q := by
  have a := fn_of w.params hx
  refine EV.call (EV.glob a.1 ⟨f, rfl, a.2, h⟩ hk ?_) he hp hc
  have h2 : (fnL.all fun p => !(p.1 == ("__debug__" : Str))) = true := by kernel_rfl
  have := List.all_eq_true.mp h2 _ (lookup_mem hx)
  simpa using this
noncomputable def zs (l : List Nat) : List Int := l.map fun (n : Nat) => (n : Int)
theorem zs_length (l : List Nat) : (zs l).length = l.length := List.length_map ..
theorem zs_get {l : List Nat} {i d : Nat} (h : l[i]? = some d) : (zs l)[i]? = some (d : Int) := by simp [zs, h]
theorem zs_app (l r : List Nat) : zs (l ++ r) = zs l ++ zs r := by simp [zs]
theorem zs_inj {l r : List Nat} : zs l = zs r ↔ l = r := by
  constructor
  · intro h
    exact (List.map_inj_right (fun a b e => by exact_mod_cast e)).mp h
  · rintro rfl; rfl
noncomputable abbrev LZ (w x : Nat) : PV := .lst (zs (lm (2 ^ w) x))
theorem ite_dec {p : Prop} [Decidable p] {A B : Prop} (h1 : p → A) (h2 : ¬p → B) : if decide p = true then A else B := by
  by_cases h : p
  · rw [if_pos (decide_eq_true h)]; exact h1 h
  · rw [if_neg (by simpa using h)]; exact h2 h
theorem ite_decn {p : Prop} [Decidable p] {A B : Prop} (h1 : ¬p → A) (h2 : p → B) : if (!decide p) = true then A else B := by
  by_cases h : p
  · rw [if_neg (by simp [h])]; exact h2 h
  · rw [if_pos (by simp [h])]; exact h1 h
theorem ite_tt {A B : Prop} (h : A) : if true = true then A else B := by rw [if_pos rfl]; exact h
theorem ite_ff {A B : Prop} (h : B) : if false = true then A else B := by rw [if_neg (by decide)]; exact h
theorem pow2_gt {w : Nat} (h : 1 ≤ w) : 1 < 2 ^ w := by
  have := Nat.pow_le_pow_right (n := 2) (by decide) h
  assumption
theorem lz_len {w x : Nat} (h : 1 ≤ w) (hx : x < 2 ^ 64) : (zs (lm (2 ^ w) x)).length ≤ 64 := by
  rw [zs_length]; exact len_lt64 (pow2_gt h) hx

theorem vs0 {vs : List Value} {n : Nat} (h : vs.length = n + 1) : ∃ a r, vs = a :: r ∧ r.length = n := by
  cases vs with
  | nil => cases h
  | cons a r => exact ⟨a, r, rfl, Nat.succ.inj h⟩
theorem vs1 {vs : List Value} (h : vs.length = 1) : ∃ a, vs = [a] := by
  obtain ⟨a, r, rfl, h2⟩ := vs0 h
  exact ⟨a, by rw [List.eq_nil_of_length_eq_zero h2]⟩
theorem vs2 {vs : List Value} (h : vs.length = 2) : ∃ a b, vs = [a, b] := by
  obtain ⟨a, x, rfl, h2⟩ := vs0 h
  obtain ⟨b, rfl⟩ := vs1 h2
  exact ⟨a, b, rfl⟩
theorem vs3 {vs : List Value} (h : vs.length = 3) : ∃ a b c, vs = [a, b, c] := by
  obtain ⟨a, x, rfl, h2⟩ := vs0 h
  obtain ⟨b, c, rfl⟩ := vs2 h2
  exact ⟨a, b, c, rfl⟩
theorem vs4 {vs : List Value} (h : vs.length = 4) : ∃ a b c d, vs = [a, b, c, d] := by
  obtain ⟨a, x, rfl, h2⟩ := vs0 h
  obtain ⟨b, c, d, rfl⟩ := vs3 h2
  exact ⟨a, b, c, d, rfl⟩
theorem vs5 {vs : List Value} (h : vs.length = 5) : ∃ a b c d e, vs = [a, b, c, d, e] := by
  obtain ⟨a, x, rfl, h2⟩ := vs0 h
  obtain ⟨b, c, d, e, rfl⟩ := vs4 h2
  exact ⟨a, b, c, d, e, rfl⟩
theorem vs6 {vs : List Value} (h : vs.length = 6) : ∃ a b c d e f, vs = [a, b, c, d, e, f] := by
  obtain ⟨a, x, rfl, h2⟩ := vs0 h
  obtain ⟨b, c, d, e, f, rfl⟩ := vs5 h2
  exact ⟨a, b, c, d, e, f, rfl⟩
section
variable {W : Wd} {d : Nat} {X : Fx} {g : G} {Q : PV → Prop}
theorem OV.addN (a b : Nat) {a' b' : Int} (ea : a' = a) (eb : b' = b) (h : Q (.int (a + b : Nat))) : OV W d X (two (binaryOp .Add)) [.int a', .int b'] Q := by
  subst ea; subst eb; exact OV.add (by simpa using h)
theorem OV.iaddN (a b : Nat) {a' b' : Int} (ea : a' = a) (eb : b' = b) (h : Q (.int (a + b : Nat))) : OV W d X (two (inplaceOp .Add)) [.int a', .int b'] Q := by
  subst ea; subst eb; exact OV.iadd (by simpa using h)
theorem OV.subN (a b : Nat) {a' b' : Int} (ea : a' = a) (eb : b' = b) (hl : b ≤ a) (h : Q (.int (a - b : Nat))) : OV W d X (two (binaryOp .Sub)) [.int a', .int b'] Q := by
  subst ea; subst eb; exact OV.sub (by rw [← Int.ofNat_sub hl]; exact h)
theorem OV.isubN (a b : Nat) {a' b' : Int} (ea : a' = a) (eb : b' = b) (hl : b ≤ a) (h : Q (.int (a - b : Nat))) : OV W d X (two (inplaceOp .Sub)) [.int a', .int b'] Q := by
  subst ea; subst eb; exact OV.isub (by rw [← Int.ofNat_sub hl]; exact h)
theorem mulOk {a b : Nat} (h : a < 2 ^ 64 ∨ b < 2 ^ 64) : IntMulOk (a : Int) b :=
  h.elim (fun h => .of_left (intBits_le (by assumption))) fun h => .of_right (intBits_le (by assumption))
theorem OV.mulN (a b : Nat) {a' b' : Int} (ea : a' = a) (eb : b' = b) (hl : a < 2 ^ 64 ∨ b < 2 ^ 64) (h : Q (.int (a * b : Nat))) : OV W d X (two (binaryOp .Mult)) [.int a', .int b'] Q := by
  subst ea; subst eb; exact OV.mul (mulOk hl) (by rw [← Int.natCast_mul]; exact h)
theorem OV.fdivN (a b : Nat) {a' b' : Int} (ea : a' = a) (eb : b' = b) (h0 : 0 < b) (h1 : b < 2 ^ 64) (h : Q (.int (a / b : Nat))) : OV W d X (two (binaryOp .FloorDiv)) [.int a', .int b'] Q := by
  subst ea; subst eb; exact OV.fdiv (by lia) (by lia) (by rw [← Int.natCast_ediv]; exact h)
theorem OV.modN (a b : Nat) {a' b' : Int} (ea : a' = a) (eb : b' = b) (h0 : 0 < b) (h : Q (.int (a % b : Nat))) : OV W d X (two (binaryOp .Mod)) [.int a', .int b'] Q := by
  subst ea; subst eb; exact OV.mod (by lia) (by rw [← Int.natCast_emod]; exact h)
theorem OV.imodN (a b : Nat) {a' b' : Int} (ea : a' = a) (eb : b' = b) (h0 : 0 < b) (h : Q (.int (a % b : Nat))) : OV W d X (two (inplaceOp .Mod)) [.int a', .int b'] Q := by
  subst ea; subst eb; exact OV.imod (by omega) (by rw [← Int.natCast_emod]; exact h)
theorem pow_cast (n : Nat) : (2 : Int) ^ n = ((2 ^ n : Nat) : Int) := by rw [Int.natCast_pow]; rfl
theorem OV.shlN (a n : Nat) {a' n' : Int} (ea : a' = a) (en : n' = n) (h0 : n ≤ 1000000) (h1 : a < 2 ^ 64) (h : Q (.int (a * 2 ^ n : Nat))) : OV W d X (two (binaryOp .LShift)) [.int a', .int n'] Q := by
  subst ea; subst en; exact OV.shl (by lia) (by lia) (by assumption) (by rw [Int.toNat_natCast, pow_cast, ← Int.natCast_mul]; exact h)
theorem OV.shrN (a n : Nat) {a' n' : Int} (ea : a' = a) (en : n' = n) (h : Q (.int (a / 2 ^ n : Nat))) : OV W d X (two (binaryOp .RShift)) [.int a', .int n'] Q := by
  subst ea; subst en; exact OV.shr (by lia) (by rw [Int.toNat_natCast, pow_cast, ← Int.natCast_ediv]; exact h)
theorem OV.ishrN (a n : Nat) {a' n' : Int} (ea : a' = a) (en : n' = n) (h : Q (.int (a / 2 ^ n : Nat))) : OV W d X (two (inplaceOp .RShift)) [.int a', .int n'] Q := by
  subst ea; subst en; exact OV.ishr (by omega) (by rw [Int.toNat_natCast, pow_cast, ← Int.natCast_ediv]; exact h)
theorem band_mask (a w : Nat) : Builtin.bitAnd (a : Int) ((2 ^ w - 1 : Nat) : Int) = ((a % 2 ^ w : Nat) : Int) := by
  rw [bitAnd_pp (by omega) (by lia), Int.toNat_natCast, Int.toNat_natCast, Nat.and_two_pow_sub_one_eq_mod]
theorem OV.maskN (a w : Nat) {a' b' : Int} (ea : a' = a) (eb : b' = ((2 ^ w - 1 : Nat) : Int)) (h : Q (.int (a % 2 ^ w : Nat))) : OV W d X (two (binaryOp .BitAnd)) [.int a', .int b'] Q := by
  subst ea; subst eb; exact OV.band (by rw [band_mask]; exact h)
theorem and_apart {a b k : Nat} (h : b < 2 ^ k) : b &&& (a * 2 ^ k) = 0 := by
  apply Nat.eq_of_testBit_eq
  intro j
  rw [Nat.testBit_and, Nat.zero_testBit]
  by_cases hj : j < k
  · rw [Nat.testBit_mul_two_pow]
    simp
    intros
    lia
  · rw [Nat.testBit_lt_two_pow (Nat.lt_of_lt_of_le h (Nat.pow_le_pow_right (by decide) (by lia)))]
    simp
theorem bor_apart {a b k : Nat} (h : b < 2 ^ k) : Builtin.bitOr (b : Int) ((a * 2 ^ k : Nat) : Int) = ((b + a * 2 ^ k : Nat) : Int) := by
  rw [bitOr_and, bitAnd_pp (by lia) (by omega), Int.toNat_natCast, Int.toNat_natCast, and_apart h]
  lia
theorem OV.borN (b a k : Nat) {b' a' : Int} (eb : b' = b) (ea : a' = ((a * 2 ^ k : Nat) : Int)) (hl : b < 2 ^ k) (h : Q (.int (b + a * 2 ^ k : Nat))) : OV W d X (two (binaryOp .BitOr)) [.int b', .int a'] Q := by
  subst ea; subst eb; exact OV.bor (by rw [bor_apart hl]; exact h)
theorem OV.borN' (b a k : Nat) {b' a' : Int} (eb : b' = b) (ea : a' = ((a * 2 ^ k : Nat) : Int)) (hl : b < 2 ^ k) (h : Q (.int (b + a * 2 ^ k : Nat))) : OV W d X (two (binaryOp .BitOr)) [.int a', .int b'] Q := by
  subst ea; subst eb; exact OV.bor (by rw [bitOr_comm, bor_apart hl]; exact h)
theorem OV.iborN (b a k : Nat) {b' a' : Int} (eb : b' = b) (ea : a' = ((a * 2 ^ k : Nat) : Int)) (hl : b < 2 ^ k) (h : Q (.int (b + a * 2 ^ k : Nat))) : OV W d X (two (inplaceOp .BitOr)) [.int b', .int a'] Q := by
  subst ea; subst eb; exact OV.ibor (by rw [bor_apart hl]; exact h)
/-- the number of bits -/
noncomputable def bl (x : Nat) : Nat := if x = 0 then 0 else x.log2 + 1
theorem intBits_bl (x : Nat) : Builtin.Int.intBits (x : Int) = bl x := by
  unfold Builtin.Int.intBits bl
  by_cases h : x = 0
  · subst h; rfl
  · have h1 : ((x : Int) == 0) = false := by simp; exact h
    rw [h1, if_neg h]
    simp
/-- a while with a falling ghost -/
theorem S1.loop {R : PV → Prop} {Q : G → Prop} {test : PySem.Expr} {body : List Stmt} {pos : Pos} (ns : List Str) (I : Nat → G → Prop) (n₀ : Nat) (h0 : I n₀ (g.keep ns))
    (turn : ∀ n g, I n g → TV W d X test g fun b => if b = true then SV W d X body g R (fun g' => ∃ n', n' < n ∧ I n' (g'.keep ns)) else Q g) : S1 W d X (.While test body [] pos) g R Q := by
  intro ok s m T QQ F N N₀ S hn hr
  refine While_inv2 (n₀ := n₀) (fun n m nx => ∃ g, I n g ∧ St X N₀ g m nx) F N ⟨_, h0, S.keep ns⟩ ?_ PassesOwn.never
  rintro n m₁ T₁ h₁ tk₁ F₁ N₁ ⟨g₁, hI, S₁⟩
  refine turn n g₁ hI ok _ m₁ T₁ _ F₁ N₁ S₁ fun b h2 t2 T2 F2 N2 hs2 q2 => ?_
  cases b with
  | false =>
    rw [if_neg (by decide)] at q2 ⊢
    exact hn _ _ _ _ _ F2 N2 (S₁.mono hs2) q2
  | true =>
    rw [if_pos rfl] at q2 ⊢
    refine q2 ok _ m₁ T2 _ F2 N2 (S₁.mono hs2) (fun h3 t3 m3 T3 g3 F3 N3 S3 q3 => ?_) fun v p h3 t3 m3 T3 F3 N3 hs3 r3 q3 => hr v p h3 t3 m3 T3 F3 N3 hs3 r3 q3
    obtain ⟨n', hn', hI'⟩ := q3
    exact ⟨h3, t3, m3, T3, n', rfl, F3, N3, hn', _, hI', S3.keep ns⟩
end
theorem cpos {a : Nat} (h : 0 < (a : Int)) : 0 < a := Int.natCast_pos.mp h
theorem czero {a : Nat} (h : ¬ 0 < (a : Int)) : a = 0 := by
  rcases Nat.eq_zero_or_pos a with h' | h'
  · exact h'
  · exact absurd (Int.natCast_pos.mpr h') h
theorem clt {a b : Nat} (h : (a : Int) < b) : a < b := Int.ofNat_lt.mp h
theorem cge {a b : Nat} (h : ¬ (a : Int) < b) : b ≤ a := Nat.le_of_not_lt fun h' => h (Int.ofNat_lt.mpr h')
theorem cle {a b : Nat} (h : (a : Int) ≤ b) : a ≤ b := Int.ofNat_le.mp h
theorem cgt {a b : Nat} (h : ¬ (a : Int) ≤ b) : b < a := Nat.lt_of_not_le fun h' => h (Int.ofNat_le.mpr h')
theorem S1.via {W : Wd} {d : Nat} {X : Fx} {g : G} {R : PV → Prop} {Q : G → Prop} {st : Stmt} (Q1 : G → Prop) (h : S1 W d X st g R Q1) (hq : ∀ g, Q1 g → Q g) : S1 W d X st g R Q := by
  intro ok s m T QQ F N N₀ S hn hr
  exact h ok s m T QQ F N S (fun h1 t1 m1 T1 g1 F1 N1 S1 q1 => hn h1 t1 m1 T1 g1 F1 N1 S1 (hq _ q1)) hr
theorem callok {W : Wd} {d d' : Nat} {f : Addr} {ps : List PV} {R Q : PV → Prop} (h : Ct W d' f ps R) (hq : ∀ r, R r → Q r) (hd : d' ≤ d := by decide) : ∃ R, Ct W d f ps R ∧ ∀ r, R r → Q r := ⟨R, h.mono hd (fun _ h => h), hq⟩
theorem zs_take (l : List Nat) (k : Nat) : (zs l).take k = zs (l.take k) := by simp [zs, List.map_take]
theorem zs_drop (l : List Nat) (k : Nat) : (zs l).drop k = zs (l.drop k) := by simp [zs, List.map_drop]
theorem zs_rep (k : Nat) : List.replicate k (0 : Int) = zs (List.replicate k 0) := by simp [zs]
theorem zs_set (l : List Nat) (k v : Nat) : (zs l).set k (v : Int) = zs (l.set k v) := by simp [zs, List.map_set]
theorem band_low {x : Nat} (h : 0 < x) : Builtin.bitAnd (x : Int) (-(x : Int)) = ((2 ^ tz x : Nat) : Int) := by
  have e : (Builtin.bitNot (-(x : Int))).toNat = x - 1 := by unfold Builtin.bitNot; lia
  rw [bitAnd_pn (by lia) (by lia), e, Int.toNat_natCast, and_low x h]
  have := two_tz_le h
  omega
theorem bl_pow (t : Nat) : bl (2 ^ t) = t + 1 := by
  have : (2 : Nat) ^ t ≠ 0 := by have := Nat.pow_pos (n := t) (show 0 < 2 by decide); lia
  rw [bl, if_neg this, Nat.log2_two_pow]
theorem one_lz {n : Nat} (hw : 1 ≤ n) : PV.lst [1] = LZ n 1 := by
  have hB := pow2_gt hw
  show _ = PV.lst (zs (lm (2 ^ n) 1))
  rw [lm_pos hB (by decide), Nat.mod_eq_of_lt hB, Nat.div_eq_of_lt hB, lm_zero]; rfl
theorem nil_lz (n : Nat) : PV.lst [] = LZ n 0 := by
  show _ = PV.lst (zs (lm (2 ^ n) 0))
  rw [lm_zero]; rfl
theorem lt_bl (x : Nat) : x < 2 ^ bl x := by
  rw [bl]
  split
  · lia
  · exact Nat.lt_log2_self
theorem bl_le {x k : Nat} (h : x < 2 ^ k) : bl x ≤ k := by
  rw [bl]
  split
  · lia
  · rename_i h0
    have := (Nat.log2_lt h0).mpr h
    assumption
theorem le_bl {x : Nat} (h : 0 < x) : 2 ^ (bl x - 1) ≤ x := by
  rw [bl, if_neg (by lia), Nat.add_sub_cancel]
  exact Nat.log2_self_le (by omega)
theorem SV.at {W : Wd} {d : Nat} {X : Fx} {g : G} {R : PV → Prop} {Q : G → Prop} {b : List Stmt} (g' : G) (e : g.keep (g'.σ.map (·.1)) = g') (h : SV W d X b g' R Q) : SV W d X b g R Q := by
  intro ok s m T QQ F N N₀ S hn hr
  exact h ok s m T QQ F N (e ▸ S.keep _) hn hr
section
variable {W : Wd} {d : Nat} {X : Fx} {g : G} {N₀ T : Led} {m : Str → Option Value} {R : PV → Prop}
/-- the box at hand -/
theorem St.box {x : Str} (S : St X N₀ g m T) (ho : g.o = some (x, .box)) : ∃ a b, m x = some (.ref a) ∧ OwnRep T [a, b] (.ref a) .box ∧ ∀ T', OwnRep T' [a, b] (.ref a) .box → (∀ q ∈ off [a, b] T, q ∈ T') → St X N₀ g m T' := by
  obtain ⟨as, h1, h2, h3, h4, h5⟩ := S
  rw [ho] at h1
  obtain ⟨v, hv, hp⟩ := h1
  cases hp with | @box a b its n k xs x t e1 e2 e3 e4 e5 e6 e7 =>
  refine ⟨a, b, hv, .box e1 e2 e3 e4 e5 e6 e7, fun T' hr hk => ?_⟩
  have hsub : ∀ q ∈ off (X.cl.map (·.2) ++ [a, b]) T, q ∈ off (X.cl.map (·.2) ++ [a, b]) T' := fun q hq => mem_off.mpr ⟨hk q (mem_off.mpr ⟨(mem_off.mp hq).1, fun hz => (mem_off.mp hq).2 (List.mem_append_right _ hz)⟩), (mem_off.mp hq).2⟩
  refine ⟨[a, b], by rw [ho]; exact ⟨_, hv, hr⟩, h2, fun q hq => hsub q (h3 q hq), fun y q e => let ⟨u, c, d⟩ := h4 y q e; ⟨u, c, d.mono hsub⟩, fun xc hx => ?_, h5.2⟩
  obtain ⟨ob', w, c, dd, f⟩ := h5.1 xc hx
  exact ⟨ob', w, hk _ (mem_off.mpr ⟨c, fun hc => h2 _ hc (List.mem_map_of_mem hx)⟩), dd, fun p hp => let ⟨u, i, j⟩ := f p hp; ⟨u, i, j.mono hsub⟩⟩
/-- the number in the box -/
theorem EV.box1 {x : Str} {xp p pos : Pos} {k : Nat} {Q : PV → Prop} (ho : g.o = some (x, .box)) (h : ∀ i, 0 ≤ i → Q (.int i)) (hk : X.env.kindOf x = some .local := by rfl) (hd : (x == ("__debug__" : Str)) = false := by decide)
    (hs : ∀ (a : Addr) (k' : Int) (u : Tok), subscripted (.Constant (.int 1) k p) false (.ref a) (.int k' u) = operate [.ref a, .int k' u] (getItem (.ref a) (.int k' u)) := by intro _ _ _; with_unfolding_all rfl) :
    EV W d X (.Subscript (.Name x xp) (.Constant (.int 1) k p) pos) g Q := by
  intro ok s m T QQ F N N₀ S hb
  obtain ⟨a, b, hm, hr, _⟩ := S.box ho
  cases hr with | @box _ _ its n k xs x t e1 e2 e3 e4 e5 e6 e7 =>
  refine Subscript_ (nameX_L F hm (wpAny_Constant_int ?_) ok.kind hk hd)
  exact tail_any (IsL_of N e1).typeIs slot_list_getitem.lookup (wpAny_getItem_list (IsL_of N e1) (by decide) (by simp) (by rfl) (hb _ _ _ _ T F N (fun _ h => h) .int (h _ e5))) (hs _ _ _)
/-- box[1] = e -/
theorem S1.setbox1 {x : Str} {xp p sp pos : Pos} {k : Nat} {e : PySem.Expr} {Q : G → Prop} (ho : g.o = some (x, .box))
    (h : EV W d X e g fun p => ∃ i, p = .int i ∧ 0 ≤ i ∧ Q g) (hk : X.env.kindOf x = some .local := by rfl) (hd : (x == ("__debug__" : Str)) = false := by decide)
    (hs : ∀ env : Env, swapsWith e (some (.Subscript (.Name x xp) (.Constant (.int 1) k p) sp)) pos.line env = pure false := by intro _; rfl) :
    S1 W d X (.Assign [.Subscript (.Name x xp) (.Constant (.int 1) k p) sp] e pos) g R Q := by
  intro ok s m T QQ F N N₀ S hn hr
  refine wpAny_Assign_Subscript (h ok s m T _ F N S fun v1 p1 h1' t1 T1 F1 N1 hs1 r1 q1 => ?_) (hs _)
  obtain ⟨i, rfl, hi, hq⟩ := q1
  cases r1 with | @int _ tk =>
  obtain ⟨a, b, hm, hrr, hT⟩ := (S.mono hs1).box ho
  cases hrr with | @box _ _ its n k xs x t e1 e2 e3 e4 e5 e6 e7 =>
  refine nameX_L F1 hm (wpAny_Constant_int ?_) ok.kind hk hd
  have N3 : News X.h₀ X.L h1' ((a, PySem.W.listOf [Value.ref b, Value.int x t].toArray n) :: off [a] T1) := fun q hq => by
    rcases List.mem_cons.mp hq with rfl | hq
    · exact N1 _ e1
    · exact N1 _ (off_sub _ hq)
  refine ki_set (its := [Value.ref b, Value.int x t].toArray) (q := [Value.ref b, Value.int i tk]) F1 N3 (by decide) (by decide) rfl (Upd.head fun q hq e => (mem_off.mp hq).2 (by rw [e]; exact .head _)) fun h' F' N' => ?_
  refine hn _ _ _ _ _ F' N' (hT _ (.box (.head _) (.tail _ (mem_off.mpr ⟨e2, fun hz => e6 (List.mem_singleton.mp hz).symm⟩)) e3 e4 hi e6 e7) fun q hq => ?_) hq
  refine .tail _ (mem_off.mpr ⟨(mem_off.mp hq).1, fun hz => (mem_off.mp hq).2 ?_⟩)
  rw [List.mem_singleton.mp hz]; exact .head _
end
/-- the box stays where it is -/
noncomputable def Pin (g : G) (m : Str → Option Value) (T T' : Led) : Prop := ∀ x a b, g.o = some (x, .box) → m x = some (.ref a) → OwnRep T [a, b] (.ref a) .box → OwnRep T' [a, b] (.ref a) .box
theorem Pin.of {g : G} {m : Str → Option Value} {T T' : Led} (h : ∀ q ∈ T, q ∈ T') : Pin g m T T' := fun x a b _ _ hr => hr.mono h
theorem Pin.trans {g : G} {m : Str → Option Value} {T T' T'' : Led} (h : Pin g m T T') (h' : Pin g m T' T'') : Pin g m T T'' := fun x a b e1 e2 hr => h' x a b e1 e2 (h x a b e1 e2 hr)
/-- an expression that may store into the box; its value is plain -/
noncomputable def EM (W : Wd) (d : Nat) (X : Fx) (e : PySem.Expr) (g : G) (Q : PV → Prop) : Prop :=
  X.Ok W d → ∀ (s : Shared) (m : Str → Option Value) (T : Led) (QQ : Value → Shared → Prop), Fr X.h₀ X.L s.heap m → News X.h₀ X.L s.heap T → ∀ {N₀ : Led}, St X N₀ g m T →
    (∀ v p h' tk' T', Fr X.h₀ X.L h' m → News X.h₀ X.L h' T' → St X N₀ g m T' → Pin g m T T' → Rep [] v p → Q p → QQ v { s with heap := h', toks := tk' }) → wpAny (model W.prog W.w) X.A (eval e X.env) QQ NoE s
/-- a contract of a def that takes the box first -/
noncomputable def CtB (W : Wd) (d : Nat) (f : Addr) (ps : List PV) (R : PV → Prop) : Prop :=
  ∀ (X : Fx) (s : Shared) (m : Str → Option Value) (T : Led) (a b : Addr) (vs : List Value) (QQ : Value → Shared → Prop), X.Ok W d → Fr X.h₀ X.L s.heap m → News X.h₀ X.L s.heap T → OwnRep T [a, b] (.ref a) .box → RepL [] vs ps →
    (∀ v p h' tk' T', Fr X.h₀ X.L h' m → News X.h₀ X.L h' T' → (∀ q ∈ off [a, b] T, q ∈ T') → OwnRep T' [a, b] (.ref a) .box → Rep [] v p → R p → QQ v { s with heap := h', toks := tk' }) →
    wpAny (model W.prog W.w) X.A (call (.ref f) (.ref a :: vs)) QQ NoE s
theorem CtB.mono {W : Wd} {d d' : Nat} {f : Addr} {ps : List PV} {R R' : PV → Prop} (h : CtB W d f ps R) (hd : d ≤ d') (hR : ∀ p, R p → R' p) : CtB W d' f ps R' := by
  intro X s m T a b vs QQ ok F N hb hr hk
  exact h X s m T a b vs QQ (ok.mono hd) F N hb hr fun v p h' tk' T' F' N' h1 h2 h3 h4 => hk v p h' tk' T' F' N' h1 h2 h3 (hR p h4)
/-- a block whose return hands on the box -/
noncomputable def SB (W : Wd) (d : Nat) (X : Fx) (body : List Stmt) (g : G) (R : PV → Prop) : Prop :=
  X.Ok W d → ∀ (s : Shared) (m : Str → Option Value) (T : Led) (QQ : Flow → Shared → Prop), Fr X.h₀ X.L s.heap m → News X.h₀ X.L s.heap T → ∀ {N₀ : Led}, St X N₀ g m T →
    (∀ v p h' tk' m' T', Fr X.h₀ X.L h' m' → News X.h₀ X.L h' T' → (∀ q ∈ N₀, q ∈ T') → Pin g m T T' → Rep [] v p → R p → QQ (.ret v) { s with heap := h', toks := tk' }) →
    wpAny (model W.prog W.w) X.A (execs body X.env) QQ NoE s
theorem box_fun {X : Fx} {h : Heap} {T : Led} {a b b' : Addr} (N : News X.h₀ X.L h T) (h1 : OwnRep T [a, b] (.ref a) .box) (h2 : OwnRep T [a, b'] (.ref a) .box) : b = b' := by
  cases h1 with | @box _ _ its n k xs x t e1 e2 e3 e4 e5 e6 e7 =>
  cases h2 with | @box _ _ its' n' k' xs' x' t' f1 f2 f3 f4 f5 f6 f7 =>
  have := fun_of N e1 f1
  have h4 := congrArg (fun o : Obj => match o.data with | .seq xs _ => xs.toList | _ => []) this
  have h5 : [Value.ref b, Value.int x t] = [Value.ref b', Value.int x' t'] := h4
  injection h5 with h6
  injection h6
section
variable {W : Wd} {d : Nat} {X : Fx} {g : G} {R : PV → Prop} {Q : PV → Prop}
theorem EM.of {e : PySem.Expr} (h : EV W d X e g fun p => p.plain = true ∧ Q p) : EM W d X e g Q := by
  intro ok s m T QQ F N N₀ S hb
  exact h ok s m T _ F N S fun v p h1 t1 T1 F1 N1 hs1 r1 q1 => hb v p h1 t1 T1 F1 N1 (S.mono hs1) (.of hs1) (r1.any q1.1) q1.2
theorem EM.binop {l r : PySem.Expr} {op : Operator} {pos : Pos} (h : EM W d X l g fun a => EM W d X r g fun b => OV W d X (two (binaryOp op)) [a, b] fun p => p.plain = true ∧ Q p) : EM W d X (.BinOp l op r pos) g Q := by
  intro ok s m T QQ F N N₀ S hb
  refine wpAny_BinOp (h ok s m T _ F N S fun a p h1 t1 T1 F1 N1 S1 p1 r1 q1 => ?_)
  refine q1 ok _ m T1 _ F1 N1 S1 fun b p2 h2 t2 T2 F2 N2 S2 p2' r2 q2 => ?_
  exact q2 ok _ m T2 [a, b] QQ F2 N2 (.cons (r1.mono fun _ h => (by cases h)) (.cons (r2.mono fun _ h => (by cases h)) .nil)) fun v p h' tk' T' F' N' hs hr hq => hb v p h' tk' T' F' N' (S2.mono hs) (p1.trans (p2'.trans (.of hs))) (hr.any hq.1) hq.2
theorem EM.ite {test a b : PySem.Expr} {pos : Pos} (h : TV W d X test g fun c => if c = true then EM W d X a g Q else EM W d X b g Q) : EM W d X (.IfExp test a b pos) g Q := by
  intro ok s m T QQ F N N₀ S hb
  refine wpAny_IfExp (h ok s m T _ F N S fun c h1 t1 T1 F1 N1 hs1 q1 => ?_)
  cases c with
  | true => exact q1 ok _ m T1 QQ F1 N1 (S.mono hs1) fun v p h' tk' T' F' N' S' pp hr hq => hb v p h' tk' T' F' N' S' (.trans (.of hs1) pp) hr hq
  | false => exact q1 ok _ m T1 QQ F1 N1 (S.mono hs1) fun v p h' tk' T' F' N' S' pp hr hq => hb v p h' tk' T' F' N' S' (.trans (.of hs1) pp) hr hq
/-- f(box, e) -/
theorem EM.callB {x fn : Str} {fpos bp pos : Pos} {e : PySem.Expr} (ho : g.o = some (x, .box))
    (h : EV W d X (.Name fn fpos) g fun p => ∃ f, p = .fn f ∧ keepIn W.K (.ref f) = true ∧ EM W d X e g fun q => ∃ R, CtB W d f [q] R ∧ ∀ r, R r → Q r)
    (hk : X.env.kindOf x = some .local := by rfl) (hd : (x == ("__debug__" : Str)) = false := by decide)
    (he : ∀ env : Env, starEach [.Name x bp, e] env = (false, eval (.Name x bp) env) :: (false, eval e env) :: [] := by intro _; rfl)
    (he1 : ∀ env : Env, starEach [e] env = (false, eval e env) :: [] := by intro _; rfl)
    (hp : ∀ env : Env, (backTo pos (starEach [e] env)).any (·.1) = false := by intro _; rfl)
    (hc : ∀ env : Env, eval (.Call (.Name fn fpos) [.Name x bp, e] [] pos) env = (do callWith pos (← eval (.Name fn fpos) env) [] (backTo pos (starEach [.Name x bp, e] env)) (backToKw pos (keywordEach [] env))) := by intro _; rfl) :
    EM W d X (.Call (.Name fn fpos) [.Name x bp, e] [] pos) g Q := by
  intro ok s m T QQ F N N₀ S hb
  refine Call_ (h ok s m T _ F N S fun v p h1 t1 T1 F1 N1 hs1 r1 q1 => ?_) (hc _)
  obtain ⟨f, rfl, hka, q1⟩ := q1
  cases r1
  have S1 := S.mono hs1
  obtain ⟨a, b, hm, hrb, hT⟩ := S1.box ho
  refine callWith_K ok.kin hka (spliced_more (nameX_L F1 hm ?_ ok.kind hk hd) (by rw [he, he1])) (by rw [he, he1]) (hp _)
  refine spliced_more (q1 ok _ m T1 _ F1 N1 S1 fun v2 p2 h2 t2 T2 F2 N2 S2 pp2 r2 q2 => ?_) (he1 _)
  refine spliced_none ?_
  obtain ⟨R, hf, hR⟩ := q2
  obtain ⟨a', b', hm', hrb', hT'⟩ := S2.box ho
  rw [hm] at hm'
  cases hm'
  refine ⟨ok.kin.keeps F2.keep, ?_⟩
  refine hf X _ m T2 a b' [v2] QQ ok F2 N2 hrb' (.cons r2 .nil) fun v3 p3 h3 t3 T3 F3 N3 hs3 hrb3 r3 q3 => ?_
  refine hb v3 p3 h3 t3 T3 F3 N3 (hT' T3 hrb3 hs3) (.trans (.of hs1) (pp2.trans fun y a2 b2 e1 e2 hr2 => ?_)) r3 (hR _ q3)
  rw [ho] at e1
  cases e1
  rw [hm] at e2
  cases e2
  have : b2 = b' := box_fun N2 hr2 hrb'
  rw [this]
  exact hrb3
theorem SB.assign {y : Str} {yp pos : Pos} {e : PySem.Expr} {rest : List Stmt} {x : Str} (ho : g.o = some (x, .box)) (hxy : x ≠ y) (h : EM W d X e g fun p => p.plain = true ∧ SB W d X rest (g.put y p) R) (hk : X.env.kindOf y = some .local := by rfl)
    (hs : ∀ env : Env, swapsWith e (some (.Name y yp)) pos.line env = pure false := by intro _; rfl) : SB W d X (.Assign [.Name y yp] e pos :: rest) g R := by
  intro ok s m T QQ F N N₀ S hr
  refine wpAny_execs_cons (wpAny_Assign_Name (h ok s m T _ F N S fun v p h1 t1 T1 F1 N1 S1 pp1 r1 q1 => ?_) (hs _))
  refine store_to ok F1 N1 hk fun h' tk F' N' => ?_
  have hno : ∀ z q, g.o = some (z, q) → z ≠ y := fun z q e => by rw [ho] at e; cases e; exact hxy
  refine q1.2 ok _ _ T1 QQ F' N' (S1.putP (r1.mono fun _ h => (by cases h)) q1.1 hno) fun v2 p2 h2 t2 m2 T2 F2 N2 hs2 pp2 r2 q2 => hr v2 p2 h2 t2 m2 T2 F2 N2 hs2 (pp1.trans fun z a b e1 e2 hz => ?_) r2 q2
  refine pp2 z a b e1 ?_ hz
  have : z ≠ y := hno _ _ e1
  show (if z = y then _ else m z) = _
  rw [if_neg this]; exact e2
theorem SB.ret {e : PySem.Expr} {pos : Pos} {rest : List Stmt} (h : EM W d X e g R) : SB W d X (.Return (some e) pos :: rest) g R := by
  intro ok s m T QQ F N N₀ S hr
  refine wpAny_execs_cons (wpAny_Return_some (h ok s m T _ F N S fun v p h1 t1 T1 F1 N1 S1 pp1 r1 q1 => ?_))
  exact hr v p h1 t1 m T1 F1 N1 S1.base pp1 r1 q1
theorem SB.ifret {test e : PySem.Expr} {pos rp : Pos} {rest : List Stmt} (h : TV W d X test g fun c => if c = true then EM W d X e g R else SB W d X rest g R) : SB W d X (.If test [.Return (some e) rp] [] pos :: rest) g R := by
  intro ok s m T QQ F N N₀ S hr
  refine wpAny_execs_cons (wpAny_If (h ok s m T _ F N S fun c h1 t1 T1 F1 N1 hs1 q1 => ?_))
  cases c with
  | true =>
    refine wpAny_execs_cons (wpAny_Return_some (q1 ok _ m T1 _ F1 N1 (S.mono hs1) fun v p h2 t2 T2 F2 N2 S2 pp2 r2 q2 => ?_))
    exact hr v p h2 t2 m T2 F2 N2 S2.base (.trans (.of hs1) pp2) r2 q2
  | false =>
    refine wpAny_execs_nil ?_
    exact q1 ok _ m T1 QQ F1 N1 (S.mono hs1) fun v p h2 t2 m2 T2 F2 N2 hs2 pp2 r2 q2 => hr v p h2 t2 m2 T2 F2 N2 hs2 (.trans (.of hs1) pp2) r2 q2
theorem SB.setbox1 {x : Str} {xp p sp pos : Pos} {k : Nat} {e : PySem.Expr} {rest : List Stmt} (ho : g.o = some (x, .box))
    (h : EV W d X e g fun p => ∃ i, p = .int i ∧ 0 ≤ i ∧ SB W d X rest g R) (hk : X.env.kindOf x = some .local := by rfl) (hd : (x == ("__debug__" : Str)) = false := by decide)
    (hs : ∀ env : Env, swapsWith e (some (.Subscript (.Name x xp) (.Constant (.int 1) k p) sp)) pos.line env = pure false := by intro _; rfl) :
    SB W d X (.Assign [.Subscript (.Name x xp) (.Constant (.int 1) k p) sp] e pos :: rest) g R := by
  intro ok s m T QQ F N N₀ S hr
  refine wpAny_execs_cons (wpAny_Assign_Subscript (h ok s m T _ F N S fun v1 p1 h1' t1 T1 F1 N1 hs1 r1 q1 => ?_) (hs _))
  obtain ⟨i, rfl, hi, hq⟩ := q1
  cases r1 with | @int _ tk =>
  obtain ⟨a, b, hm, hrr0, hT⟩ := (S.mono hs1).box ho
  have hrr := hrr0
  cases hrr with | @box _ _ its n k xs x t e1 e2 e3 e4 e5 e6 e7 =>
  refine nameX_L F1 hm (wpAny_Constant_int ?_) ok.kind hk hd
  have N3 : News X.h₀ X.L h1' ((a, PySem.W.listOf [Value.ref b, Value.int x t].toArray n) :: off [a] T1) := fun q hq => by
    rcases List.mem_cons.mp hq with rfl | hq
    · exact N1 _ e1
    · exact N1 _ (off_sub _ hq)
  refine ki_set (its := [Value.ref b, Value.int x t].toArray) (q := [Value.ref b, Value.int i tk]) F1 N3 (by decide) (by decide) rfl (Upd.head fun q hq e => (mem_off.mp hq).2 (by rw [e]; exact .head _)) fun h' F' N' => ?_
  have hnew : OwnRep ((a, PySem.W.listOf [Value.ref b, Value.int i tk].toArray (n + 0)) :: off [a] T1) [a, b] (.ref a) .box := .box (.head _) (.tail _ (mem_off.mpr ⟨e2, fun hz => e6 (List.mem_singleton.mp hz).symm⟩)) e3 e4 hi e6 e7
  refine hq ok _ m _ QQ F' N' (hT _ hnew fun q hq => ?_) fun v2 p2 h2 t2 m2 T2 F2 N2 hs2 pp2 r2 q2 => hr v2 p2 h2 t2 m2 T2 F2 N2 hs2 (.trans (.of hs1) (.trans (fun z a2 b2 z1 z2 hz => ?_) pp2)) r2 q2
  · refine .tail _ (mem_off.mpr ⟨(mem_off.mp hq).1, fun hz => (mem_off.mp hq).2 ?_⟩)
    rw [List.mem_singleton.mp hz]; exact .head _
  · rw [ho] at z1
    cases z1
    rw [hm] at z2
    cases z2
    rw [box_fun N1 hz hrr0]
    exact hnew
end
/-- a contract of a def over the box -/
theorem CtB.mk {W : Wd} {d : Nat} {f : Addr} {ps : List PV} {R : PV → Prop} {name qual : Str} {params : Arguments} {body : List Stmt} {scope : Scope} {dV kV doc pm cdv ct oc : Value} {an od : Option Addr} {osl : Array (Option Value)}
    (ho : W.K.lookup f = some ⟨oc, od, .func (fnOf name qual params body scope dV kV doc pm an cdv ct), osl⟩) (hcd : codeIn W.K cdv qual = true) (bx : Str) (xs : List Str)
    (hbind : ∀ (s : Shared) (u : Value) (vs : List Value), vs.length = ps.length → BindsTo s (fnOf name qual params body scope dV kV doc pm an cdv ct) ⟨u :: vs, []⟩ ((bx, u) :: xs.zip vs)) (hnd : (bx :: xs).Nodup) (hlx : xs.length = ps.length) (hloc : ∀ x ∈ bx :: xs, scope.names.lookup x = some .local)
    (hco : scope.isCoroutine = false) (hgen : scope.isGenerator = false) (hk : scope.kind = .function) (hcell : ∀ x ∈ scope.names, x.2 ≠ .cell)
    (h : ∀ (dp un : Nat) (gd : Option (List Code)) (L' : Addr) (outer : List Env) (A₀ : Around) (base g : Heap), SB W d ⟨dp, un, gd, qual, scope, L', f, cdv, [], outer, A₀, base, g⟩ body ⟨xs.zip ps, [], some (bx, .box)⟩ R) : CtB W (d + 1) f ps R := by
  intro X s m T a b vs QQ ok F N hrb hr hb
  have hlen := hr.length
  refine wpAny_call (code_def ok.below F ok.kin N ok.top rfl rfl ok.kind ho hcd (by have := ok.room; show X.dp < recursionLimit; lia) (hbind s (.ref a) vs hlen) ?_ ?_ hco hgen hk hcell)
  · rintro ⟨y, v⟩ hy
    refine hloc y ?_
    rcases List.mem_cons.mp hy with e | hy
    · cases e; exact .head _
    · exact .tail _ (List.of_mem_zip hy).1
  · intro g L' h₁ FG F' N' B' X' T'
    have hz : (((bx, Value.ref a) :: xs.zip vs).map (·.1)).Nodup := by rw [List.map_cons, List.map_fst_zip (by lia)]; exact hnd
    have hnb : bx ∉ xs := (List.nodup_cons.mp hnd).1
    refine wpAny_mono (h (X.dp + 1) (X.un + 3) X.gd L' (X.env :: X.outer) X.A X.base g ⟨B', X', T', hk, by have := ok.room; show X.dp + 1 + d < recursionLimit; lia, by have := ok.units; show X.un + 3 + 8 * d + 200 < cLine; lia⟩
      { s with heap := h₁, toks := s.toks + ((bx, Value.ref a) :: xs.zip vs).length } _ T _ F' N' (N₀ := off [a, b] T) ⟨[a, b], ⟨.ref a, ?_, hrb⟩, fun _ _ h => (by cases h), fun q hq => hq, fun y p hy => ?_, ⟨fun _ h => (by cases h), fun _ _ h => (by cases h), List.nodup_nil⟩⟩
      fun v p h' tk' m' T2 F2 N2 hs2 pp2 r2 q2 => ?_) (fun _ _ x => x) fun _ _ x => x.elim
    · show ((bx, Value.ref a) :: xs.zip vs).reverse.lookup bx = _
      rw [look_rev bx _ hz, List.lookup_cons, beq_self_eq_true]
    · obtain ⟨v, hv, hrp⟩ := zip_rep hr hy
      refine ⟨v, ?_, hrp.mono fun _ h => (by cases h)⟩
      show ((bx, Value.ref a) :: xs.zip vs).reverse.lookup y = _
      rw [look_rev y _ hz, List.lookup_cons]
      have hyb : (y == bx) = false := beq_eq_false_iff_ne.mpr fun e => by
        subst e
        exact hnb (List.of_mem_zip (mem_of_look hv)).1
      rw [hyb]; exact hv
    · refine leaveK_ F2 N2 fun F3 N3 => hb v p h' tk' T2 F3 N3 hs2 (pp2 bx a b rfl ?_ hrb) r2 q2
      show ((bx, Value.ref a) :: xs.zip vs).reverse.lookup bx = _
      rw [look_rev bx _ hz, List.lookup_cons, beq_self_eq_true]
section
variable {W : Wd} {d : Nat} {X : Fx} {g : G} {R : PV → Prop} {Q : PV → Prop}
/-- box[0] -/
theorem box0 {x : Str} {xp p pos : Pos} {k : Nat} {s : Shared} {m : Str → Option Value} {T : Led} {a b : Addr} {v : Value} {n : Nat} {QQ : Value → Shared → Prop} (ok : X.Ok W d) (F : Fr X.h₀ X.L s.heap m) (N : News X.h₀ X.L s.heap T) (hm : m x = some (.ref a))
    (he : (a, PySem.W.listOf [Value.ref b, v].toArray n) ∈ T) (h : ∀ tk, QQ (.ref b) { s with toks := tk }) (hk : X.env.kindOf x = some .local) (hd : (x == ("__debug__" : Str)) = false)
    (hs : ∀ (a : Addr) (k' : Int) (u : Tok), subscripted (.Constant (.int 0) k p) false (.ref a) (.int k' u) = operate [.ref a, .int k' u] (getItem (.ref a) (.int k' u)) := by intro _ _ _; with_unfolding_all rfl) :
    wpAny (model W.prog W.w) X.A (eval (.Subscript (.Name x xp) (.Constant (.int 0) k p) pos) X.env) QQ NoE s := by
  refine Subscript_ (nameX_L F hm (wpAny_Constant_int ?_) ok.kind hk hd)
  exact tail_any (IsL_of N he).typeIs slot_list_getitem.lookup (wpAny_getItem_list (IsL_of N he) (by decide) (by simp) (by rfl) (h _)) (hs _ _ _)
/-- if len(box[0]) > 0: return box[0].pop(0) % many -/
theorem SB.take {x y : Str} {fp xp p0 sp lp zp tp xp2 p02 sp2 ap zp2 cp yp bp rp pos : Pos} {k1 k2 k3 k4 : Nat} {rest : List Stmt} {j : Int} {pl : Env → Sem Bool} (ho : g.o = some (x, .box)) (hy : g.σ.lookup y = some (.int j)) (hj : 0 < j)
    (hl : nsIn W.K mainGlobals (Str.ofString "len") = some none) (hR : ∀ i, 0 ≤ i → i < j → R (.int i)) (hrest : SB W d X rest g R)
    (hk : X.env.kindOf x = some .local := by rfl) (hky : X.env.kindOf y = some .local := by rfl) (hd : (x == ("__debug__" : Str)) = false := by decide) (hdy : (y == ("__debug__" : Str)) = false := by decide)
    (hkl : X.env.kindOf (Str.ofString "len") = some .globalImplicit := by rfl)
    (hm : behindInMarks .Gt (.Constant (.int 0) k2 zp) = false := by with_unfolding_all rfl)
    (he : ∀ env : Env, starEach [.Subscript (.Name x xp) (.Constant (.int 0) k1 p0) sp] env = [(false, eval (.Subscript (.Name x xp) (.Constant (.int 0) k1 p0) sp) env)] := by intro _; rfl)
    (he0 : ∀ env : Env, starEach [.Constant (.int 0) k4 zp2] env = [(false, eval (.Constant (.int 0) k4 zp2) env)] := by intro _; rfl)
    (hc : ∀ env : Env, eval (.Call (.Name (Str.ofString "len") fp) [.Subscript (.Name x xp) (.Constant (.int 0) k1 p0) sp] [] lp) env = (do callWith lp (← eval (.Name (Str.ofString "len") fp) env) [] (backTo lp (starEach [.Subscript (.Name x xp) (.Constant (.int 0) k1 p0) sp] env)) (backToKw lp (keywordEach [] env))) := by intro _; rfl)
    (hcp : ∀ env : Env, eval (.Call (.Attribute (.Subscript (.Name x xp2) (.Constant (.int 0) k3 p02) sp2) (Str.ofString "pop") ap) [.Constant (.int 0) k4 zp2] [] cp) env = (do
      let ov ← eval (.Subscript (.Name x xp2) (.Constant (.int 0) k3 p02) sp2) env
      standAt ap.atName
      let (f, first) ← holding [ov] (getMethod ov (Str.ofString "pop") (pl env))
      callWith cp f first (backTo cp (starEach [.Constant (.int 0) k4 zp2] env)) []) := by intro _; rfl) :
    SB W d X (.If (.Compare (.Call (.Name (Str.ofString "len") fp) [.Subscript (.Name x xp) (.Constant (.int 0) k1 p0) sp] [] lp) [.Gt] [.Constant (.int 0) k2 zp] tp)
      [.Return (some (.BinOp (.Call (.Attribute (.Subscript (.Name x xp2) (.Constant (.int 0) k3 p02) sp2) (Str.ofString "pop") ap) [.Constant (.int 0) k4 zp2] [] cp) .Mod (.Name y yp) bp)) rp] [] pos :: rest) g R := by
  intro ok s m T QQ F N N₀ S hr
  obtain ⟨a, b, hma, hrb, hT⟩ := S.box ho
  have hrb0 := hrb
  cases hrb with | @box _ _ its n k xs v t e1 e2 e3 e4 e5 e6 e7 =>
  have hil := e3.length
  refine wpAny_execs_cons (wpAny_If (wpAny_isTrue_Compare1 ?_ hm))
  refine Call_ (bname ok F hl (v := .builtin "len") (by boot_by_name) (by decide) ?_ hkl) (hc _)
  rw [he]
  refine Calls.callWith_builtin rfl (Calls.evalArgs_plain (Calls.spliced_cons (box0 ok F N hma e1 (fun tk => Calls.spliced_nil ?_) hk hd)))
  refine len_list (IsL_of N e2) (by rw [List.size_toArray]; omega) ?_
  refine wpAny_Constant_int ?_
  refine gt_int (wpAny_truthy_bool ?_)
  cases its with
  | nil =>
    show wpAny _ _ (execs [] _) _ _ _
    refine wpAny_execs_nil ?_
    exact hrest ok _ m T QQ F N S fun v2 p2 h2 t2 m2 T2 F2 N2 hs2 pp2 r2 q2 => hr v2 p2 h2 t2 m2 T2 F2 N2 hs2 pp2 r2 q2
  | cons w q =>
    cases e3 with | cons w tw e3 =>
    rename_i ys
    have hw0 : 0 ≤ w := e4 w (.head _)
    rw [if_pos (by simp)]
    refine wpAny_execs_cons (wpAny_Return_some (wpAny_BinOp ?_))
    refine MethodCall_ (pl := pl X.env) (box0 ok F N hma e1 (fun tk2 => ?_) hk hd) (hcp _)
    refine kl_method N e2 PySem.F.slot_list_pop PySem.F.type_list_pop ?_
    rw [he0]
    refine Calls.callWith_builtin rfl (Calls.evalArgs_plain (Calls.spliced_cons (wpAny_Constant_int (pos := zp2) (k := k4) (Calls.spliced_nil ?_))))
    have N3 : News X.h₀ X.L s.heap ((b, PySem.W.listOf (Value.int w tw :: q).toArray k) :: off [b] T) := fun z hz => by
      rcases List.mem_cons.mp hz with rfl | hz
      · exact N _ e2
      · exact N _ (off_sub _ hz)
    refine kl_popAt (its := (Value.int w tw :: q).toArray) (k := 0) (p := []) (q := q) (y := .int w tw) F N3 rfl (by simp [seqIndex?]) rfl (Upd.head fun z hz e => (mem_off.mp hz).2 (by rw [e]; exact .head _)) (by rw [sizeLine_eq]; simp at hil e7 ⊢; lia) fun h' F' N' => ?_
    have hnew : OwnRep ((b, PySem.W.listOf ([] ++ q).toArray (k + 1)) :: off [b] T) [a, b] (.ref a) .box := .box (.tail _ (mem_off.mpr ⟨e1, fun hz => e6 (List.mem_singleton.mp hz)⟩)) (.head _) e3 (fun y hy => e4 y (.tail _ hy)) e5 e6 (by simp at e7; lia)
    have S' := hT _ hnew fun z hz => .tail _ (mem_off.mpr ⟨(mem_off.mp hz).1, fun hb => (mem_off.mp hz).2 (by rw [List.mem_singleton.mp hb]; exact .tail _ (.head _))⟩)
    refine EV.name (Q := fun p => p = .int j) hy rfl hky hdy ok _ m _ _ F' N' S' fun v2 p2 h2 t2 T2 F2 N2 hs2 r2 q2 => ?_
    subst q2
    cases r2
    refine mod_int' (by lia) ?_
    rw [Int.fmod_eq_emod_of_nonneg _ (by lia)]
    refine hr _ (.int (w % j)) _ _ m T2 F2 N2 (fun z hz => hs2 _ (S'.base z hz)) (fun z a2 b2 z1 z2 hz => ?_) .int (hR _ (Int.emod_nonneg _ (by omega)) (Int.emod_lt_of_pos _ hj))
    rw [ho] at z1
    cases z1
    rw [hma] at z2
    cases z2
    rw [box_fun N hz hrb0]
    exact hnew.mono hs2
end
section
variable {W : Wd} {d : Nat} {X : Fx} {g : G} {R : PV → Prop}
/-- f(e1, e2), where the arguments may store into the box -/
theorem EM.call2 {fn : Str} {fpos pos : Pos} {e1 e2 : PySem.Expr} {Q : PV → Prop}
    (h : EV W d X (.Name fn fpos) g fun p => ∃ f, p = .fn f ∧ keepIn W.K (.ref f) = true ∧ EM W d X e1 g fun a => EM W d X e2 g fun b => ∃ R, Ct W d f [a, b] R ∧ ∀ r, R r → r.plain = true ∧ Q r)
    (he : ∀ env : Env, starEach [e1, e2] env = (false, eval e1 env) :: starEach [e2] env := by intro _; rfl)
    (he1 : ∀ env : Env, starEach [e2] env = (false, eval e2 env) :: [] := by intro _; rfl)
    (hp : ∀ env : Env, (backTo pos (starEach [e2] env)).any (·.1) = false := by intro _; rfl)
    (hc : ∀ env : Env, eval (.Call (.Name fn fpos) [e1, e2] [] pos) env = (do callWith pos (← eval (.Name fn fpos) env) [] (backTo pos (starEach [e1, e2] env)) (backToKw pos (keywordEach [] env))) := by intro _; rfl) :
    EM W d X (.Call (.Name fn fpos) [e1, e2] [] pos) g Q := by
  intro ok s m T QQ F N N₀ S hb
  refine Call_ (h ok s m T _ F N S fun v p h1 t1 T1 F1 N1 hs1 r1 q1 => ?_) (hc _)
  obtain ⟨f, rfl, hka, q1⟩ := q1
  cases r1
  refine callWith_K ok.kin hka (spliced_more (q1 ok _ m T1 _ F1 N1 (S.mono hs1) fun va pa ha ta Ta Fa Na Sa ppa ra qa => ?_) (he _)) (he _) (hp _)
  refine spliced_more (qa ok _ m Ta _ Fa Na Sa fun v2 p2 h2 t2 T2 F2 N2 S2 pp2 r2 q2 => ?_) (he1 _)
  refine spliced_none ?_
  obtain ⟨R, hf, hR⟩ := q2
  refine ⟨ok.kin.keeps F2.keep, ?_⟩
  refine hf X _ m T2 [va, v2] QQ ok F2 N2 (.cons (ra.mono fun _ h => (by cases h)) (.cons (r2.mono fun _ h => (by cases h)) .nil)) fun v3 p3 h3 t3 T3 F3 N3 hs3 r3 q3 => ?_
  exact hb v3 p3 h3 t3 T3 F3 N3 (S2.mono hs3) (.trans (.of hs1) (ppa.trans (pp2.trans (.of hs3)))) (r3.any (hR _ q3).1) (hR _ q3).2
/-- x = e, where e may store into the box -/
theorem S1.assignM {x b : Str} {xp pos : Pos} {e : PySem.Expr} {Q : G → Prop} (ho : g.o = some (b, .box)) (hxy : b ≠ x) (h : EM W d X e g fun p => p.plain = true ∧ Q (g.put x p)) (hk : X.env.kindOf x = some .local := by rfl)
    (hs : ∀ env : Env, swapsWith e (some (.Name x xp)) pos.line env = pure false := by intro _; rfl) : S1 W d X (.Assign [.Name x xp] e pos) g R Q := by
  intro ok s m T QQ F N N₀ S hn hr
  refine wpAny_Assign_Name (h ok s m T _ F N S fun v p h1 t1 T1 F1 N1 S1 pp1 r1 q1 => ?_) (hs _)
  have hno : ∀ z q, g.o = some (z, q) → z ≠ x := fun z q e => by rw [ho] at e; cases e; exact hxy
  exact store_to ok F1 N1 hk fun h' tk F' N' => hn _ _ _ _ _ F' N' (S1.putP (r1.mono fun _ h => (by cases h)) q1.1 hno) q1.2
/-- the same into a cell -/
theorem S1.assignMC {x : Str} {xp pos : Pos} {e : PySem.Expr} {c : Addr} {Q : G → Prop} (hc : X.cl.lookup x = some c) (h : EM W d X e g fun p => p.plain = true ∧ Q { g with κ := setL x p g.κ }) (hnn : (X.cl.map (·.1)).Nodup) (hk : X.env.kindOf x = some .cell := by rfl)
    (hs : ∀ env : Env, swapsWith e (some (.Name x xp)) pos.line env = pure false := by intro _; rfl) : S1 W d X (.Assign [.Name x xp] e pos) g R Q := by
  intro ok s m T QQ F N N₀ S hn hr
  refine wpAny_Assign_Name (h ok s m T _ F N S fun v p h1 t1 T1 F1 N1 S1 pp1 r1 q1 => ?_) (hs _)
  exact store_toC ok F1 N1 S1 hnn hc hk r1 fun h' tk T' F' N' S' => hn _ _ _ _ _ F' N' S' q1.2
end
section
variable {W : Wd} {d : Nat} {X : Fx} {g : G} {R : PV → Prop} {Q : G → Prop}
/-- for x in ys[:c], whatever is owned -/
theorem S1.forSl {x y : Str} {xp yp sp p pos cp : Pos} {kc : Nat} {body : List Stmt} {l0 : Addr} {its : List Value} (ns : List Str) (xs : List Int) (c : Nat) (J : Nat → G → Prop)
    (hy : g.σ.lookup y = some (.fn l0)) (hL : X.h₀.IsList l0 its.toArray) (hi0 : IntsAre its xs) (hxs : xs.length ≤ 1000000) (ho : ∀ g' i, J i g' → ∀ y q, g'.o = some (y, q) → y ≠ x) (h0 : J 0 (g.keep ns))
    (turn : ∀ (i : Nat) v g', (xs.take c)[i]? = some v → J i g' → SV W d X body (g'.put x (.int v)) R (fun g2 => J (i + 1) (g2.keep ns))) (hq : ∀ g', J (xs.take c).length g' → Q g')
    (hky : X.env.kindOf y = some .local := by rfl) (hdy : (y == ("__debug__" : Str)) = false := by decide) (hx : X.env.kindOf x = some .local := by rfl)
    (hsl : sliceOk (.Slice none (some (.Constant (.int c) kc cp)) none sp) := by intro _ _; with_unfolding_all rfl) (htm : tempOk (.Name y yp) := by intro _ _; with_unfolding_all rfl)
    (hs : ∀ env : Env, ∀ x, foldedSetIterable (.Subscript (.Name y yp) (.Slice none (some (.Constant (.int c) kc cp)) none sp) p) env x = pure x := by intro _ _; rfl) :
    S1 W d X (.For (.Name x xp) (.Subscript (.Name y yp) (.Slice none (some (.Constant (.int c) kc cp)) none sp) p) body [] pos) g R Q := by
  intro ok s m T QQ F N N₀ S hn hr
  refine For_invV X.h₀ hx (by show (X.cs.kind == .class || (X.cs.kind == .module && X.L != mainGlobals)) = false; rw [ok.kind]; rfl) ?_ (hs _) PassesOwn.never
  refine Subscript_ (EV.name (Q := fun p => p = .fn l0) hy rfl hky hdy ok s m T _ F N S fun v pv h1 t1 T1 F1 N1 hs1 r1 q1 => ?_)
  subst q1
  have S1 := S.mono hs1
  cases r1
  have hL1 : h1.IsList l0 its.toArray := hL.at fun o e => F1.keep _ _ e
  refine wpAny_Slice (evalPart_none_step (evalPart_some_step (wpAny_Constant_int (evalPart_none_step ?_))))
  have hup0 := kmk_upto (y := (c : Int)) hi0 (by lia)
  rw [Int.toNat_natCast] at hup0
  refine kmk_slice_ints (c := (xs.take c).length) F1 N1 hL1 .none (.int _ _) hi0 hup0 rfl (fun l ws h2 F2 N2 hlt hws _ _ => ?_) (hsl _ _) (htm _) (kmk_sz hi0 (by rw [sizeLine_eq]; lia))
  generalize hk0 : 0 = k at N2
  have hlsize : l < h2.objs.size := Heap.lt_size (N2 _ (List.Mem.head _)).1
  refine wpAny_pyIter_list (IsL_of N2 (.head _)) ?_
  have W0 := Walks.list (prog := W.prog) (w := W.w) (A := X.A) rfl h2.objs.size l (Nat.ne_of_lt hlsize) ws.toArray
  have hlen : ws.toArray.size = (xs.take c).length := by rw [List.size_toArray, hws.length]
  rw [hlen] at W0
  have S2 : St X ((l, PySem.W.listOf ws.toArray k) :: N₀) g m ((l, PySem.W.listOf ws.toArray k) :: T1) := by
    obtain ⟨as, a1, a2, a3, a4, a5⟩ := S1
    have hup : ∀ q ∈ T1, q ∈ (l, PySem.W.listOf ws.toArray k) :: T1 := fun q hq => .tail _ hq
    have hlas : l ∉ X.cl.map (·.2) ++ as := by
      intro hz
      rcases List.mem_append.mp hz with hz | hz
      · obtain ⟨xc, hm', e⟩ := List.mem_map.mp hz
        obtain ⟨ob, v, hb, _⟩ := a5.1 xc hm'
        have := hlt _ hb
        rw [e] at this
        exact absurd this (Nat.lt_irrefl _)
      · cases hg : g.o with
        | none => rw [hg] at a1; rw [show as = [] from a1] at hz; cases hz
        | some yq =>
          obtain ⟨yn, yp⟩ := yq
          rw [hg] at a1
          obtain ⟨u, hu, hrr⟩ := a1
          cases hrr with
          | lst hm hi => rw [List.mem_singleton.mp hz] at hlt; exact absurd (hlt _ hm) (Nat.lt_irrefl _)
          | bls hm => rw [List.mem_singleton.mp hz] at hlt; exact absurd (hlt _ hm) (Nat.lt_irrefl _)
          | box hm hm2 _ _ _ _ _ =>
            rcases List.mem_cons.mp hz with hz | hz
            · rw [hz] at hlt; exact absurd (hlt _ hm) (Nat.lt_irrefl _)
            · rw [List.mem_singleton.mp hz] at hlt; exact absurd (hlt _ hm2) (Nat.lt_irrefl _)
    refine ⟨as, a1.mono hup, a2, fun q hq => ?_, a4.mono (off_mono hup), a5.mono hup⟩
    rcases List.mem_cons.mp hq with rfl | hq
    · exact mem_off.mpr ⟨.head _, hlas⟩
    · exact off_mono hup _ (a3 q hq)
  refine for_core (R := R) (N₁ := (l, PySem.W.listOf ws.toArray k) :: N₀) ok ns (fun i g => J i g) (fun i => .int ((xs.take c)[i]?.getD 0)) W0 ?_ ?_ ⟨⟨_, Heap.get?_push_size _ rfl, rfl, rfl⟩, (IsL_of N2 (.head _)).at fun o e => Heap.get?_push_of_some _ e⟩ (F2.push _) (fun p hp => ⟨Heap.get?_push_of_some _ (N2 p hp).1, (N2 p hp).2⟩) S2 ?_ ?_ ?_ (fun i v hi' hp T => ?_) (fun _ => rfl) ho h0 (fun i g' hi' hJ => ?_) ?_ ?_
  · intro hm'
    rcases List.mem_cons.mp hm' with e | e
    · exact absurd F2.ns.lt (e ▸ Nat.lt_irrefl _)
    · exact (N2 _ (List.Mem.head _)).2.1 (List.mem_singleton.mp e).symm
  · intro b hb
    rw [List.mem_singleton.mp hb]
    exact next_is_new F2
  · intro p hp hI
    exact absurd (Heap.lt_size (N2 p hp).1) ((List.mem_singleton.mp hI) ▸ Nat.lt_irrefl _)
  · intro i h hS b hb
    rw [List.mem_singleton.mp hb]
    exact list_iter_nsc hS.1
  · intro b hb
    rcases List.mem_cons.mp hb with e | e
    · exact .inl (e ▸ List.mem_singleton.mpr rfl)
    · refine .inr ⟨PySem.W.listOf ws.toArray k, ?_⟩
      rw [List.mem_singleton.mp e]
      exact List.mem_cons_self
  · obtain ⟨t, ht⟩ := IntsAre.get? hws (List.getElem?_eq_getElem hi')
    have e1 : ws[i]? = some v := by simpa using hp
    rw [ht] at e1
    cases e1
    rw [List.getElem?_eq_getElem hi']
    exact .int
  · have e1 := List.getElem?_eq_getElem hi'
    have := turn i _ g' e1 hJ
    rw [e1]
    exact this
  · intro h' tk' m' T' g' F' N' S' hJ
    exact hn h' tk' m' T' g' F' N' (S'.less fun q hq => .tail _ hq) (hq _ hJ)
  · intro v p h' tk' m' T' F' N' hs hrr hq
    exact hr v p h' tk' m' T' F' N' (fun q hq => hs q (.tail _ hq)) hrr hq
end
section
variable {W : Wd} {d : Nat} {X : Fx} {g : G} {R : PV → Prop}
noncomputable def iabs (i : Int) : Int := if i < 0 then -i else i
theorem iabs_nonneg (i : Int) : 0 ≤ iabs i := by unfold iabs; split <;> lia
/-- abs(x) in a block -/
theorem abs_elt {x : Str} {fp np cp : Pos} {scope : Scope} {cl : List (Str × Addr)} {C : Addr} {s : Shared} {m m₃ : Str → Option Value} {i : Int} {u : Tok} {E : Value → Shared → Prop} {QQ : Value → Shared → Prop} (ok : X.Ok W d) (F : Fr X.h₀ X.L s.heap m)
    (hl : nsIn W.K mainGlobals (Str.ofString "abs") = some none) (hn : s.heap.Ns C m₃) (hx : m₃ x = some (.int i u)) (hs : scope.names.lookup x = some .local) (hk : scope.kind = .function)
    (hka : (compEnvC scope cl C X.env).kindOf (Str.ofString "abs") = some .globalImplicit) (h : ∀ t tk, QQ (.int (iabs i) t) { s with toks := tk }) (hb : (x == ("__debug__" : Str)) = false := by decide)
    (he : ∀ env : Env, starEach [.Name x np] env = [(false, eval (.Name x np) env)] := by intro _; rfl)
    (hc : ∀ env : Env, eval (.Call (.Name (Str.ofString "abs") fp) [.Name x np] [] cp) env = (do callWith cp (← eval (.Name (Str.ofString "abs") fp) env) [] (backTo cp (starEach [.Name x np] env)) (backToKw cp (keywordEach [] env))) := by intro _; rfl) :
    wpAny (model W.prog W.w) X.A (eval (.Call (.Name (Str.ofString "abs") fp) [.Name x np] [] cp) (compEnvC scope cl C X.env)) QQ E s := by
  have T := topRead_of ok.top
  refine Call_ (Name_function_global hk hka (loadGlobal_builtin (env := compEnvC scope cl C X.env) (v := .builtin "abs") (T.g.keeps F.keep) (mg_none_of ok.kin T.g hl) (T.b.keeps F.keep) ((T.builtins _ (by decide)).trans (by boot_by_name)) ?_) (by decide)) (hc _)
  rw [he]
  refine Calls.callWith_builtin rfl (Calls.evalArgs_plain (Calls.spliced_cons (wpAny_Name (wpAny_loadName_local hk (lookup_relabel_local hs) hn hx (Calls.spliced_nil ?_)) hb)))
  exact call_abs_int fun t tk => h t tk
/-- a fresh box is taken as the owned one -/
theorem St.takeBox {N₀ T T' : Led} {m : Str → Option Value} {x : Str} {a b : Addr} (S : St X N₀ g m T) (ho : g.o = none) (ha : ∀ q ∈ T, q.1 ≠ a) (hb : ∀ q ∈ T, q.1 ≠ b) (hT : ∀ q ∈ T, q ∈ T') (hr : OwnRep T' [a, b] (.ref a) .box) (hx : g.σ.lookup x = none) :
    St X N₀ { g with o := some (x, .box) } (fun y => if y = x then some (.ref a) else m y) T' := by
  obtain ⟨as, h1, h2, h3, h4, h5⟩ := S
  rw [ho] at h1
  have h1' : as = [] := h1
  subst h1'
  have hab : ∀ q ∈ T, q.1 ∉ [a, b] := fun q hq hz => by
    rcases List.mem_cons.mp hz with e | e
    · exact ha q hq e
    · exact hb q hq (List.mem_singleton.mp e)
  have hca : ∀ c ∈ [a, b], c ∉ X.cl.map (·.2) := fun c hc hz => by
    obtain ⟨xc, hm, e⟩ := List.mem_map.mp hz
    obtain ⟨ob', v, hbm, _, _⟩ := h5.1 xc hm
    exact hab _ hbm (by rw [show ((xc.2, ob').1) = c from e]; exact hc)
  have hsub : ∀ q ∈ off (X.cl.map (·.2) ++ []) T, q ∈ off (X.cl.map (·.2) ++ [a, b]) T' := fun q hq => mem_off.mpr ⟨hT _ (mem_off.mp hq).1, fun hz => by
    rcases List.mem_append.mp hz with hz | hz
    · exact (mem_off.mp hq).2 (by simpa using hz)
    · exact hab _ (mem_off.mp hq).1 hz⟩
  refine ⟨[a, b], ⟨.ref a, by simp, hr⟩, hca, fun q hq => hsub _ (h3 q hq), fun y q e => ?_, fun xc hx => ?_, h5.2⟩
  · have hy : y ≠ x := fun hy => by rw [hy, hx] at e; cases e
    obtain ⟨u, c, d⟩ := h4 y q e
    exact ⟨u, by show (if y = x then _ else m y) = _; rw [if_neg hy]; exact c, d.mono hsub⟩
  · obtain ⟨ob', v, c, d, f⟩ := h5.1 xc hx
    exact ⟨ob', v, hT _ c, d, fun p hp => let ⟨u, i, j⟩ := f p hp; ⟨u, i, j.mono hsub⟩⟩
theorem pairAbs {vs ys : List Value} {ms : List Int} (hm : IntsAre vs ms) (hp : Paired (fun v y => ∃ i t u, v = Value.int i t ∧ y = Value.int (iabs i) u) vs ys) : IntsAre ys (ms.map iabs) := by
  induction hm generalizing ys with
  | nil => cases hp; exact .nil
  | cons i t hm ih =>
    cases hp with
    | cons h1 h2 =>
      obtain ⟨j, t', u, e, rfl⟩ := h1
      cases e
      exact .cons _ _ (ih h2)
/-- box = [[abs(z) for z in ys[:30]], 17] -/
theorem S1.boxnew {x y z : Str} {xp fp np cp zp yp cpp sp p lp kp dp pos : Pos} {k1 k2 : Nat} {scope : Scope} {xs : List Int} {l0 : Addr} {its : List Value} {Q : G → Prop} (ho : g.o = none) (hy : g.σ.lookup y = some (.fn l0)) (hL : X.h₀.IsList l0 its.toArray) (hi0 : IntsAre its xs) (hxs : xs.length ≤ 1000000) (hxn : g.σ.lookup x = none)
    (hl : nsIn W.K mainGlobals (Str.ofString "abs") = some none) (hQ : Q { g with o := some (x, .box) })
    (hclos : closureFor scope X.env = pure [] := by with_unfolding_all rfl) (hcell : ∀ y ∈ scope.names, y.2 ≠ .cell := by decide) (hkind : scope.kind = .function := by rfl)
    (hnames : ∀ y ∈ scope.names, y.2 = .local → scope.names.lookup y.1 = some .local := by decide) (hz : scope.names.lookup z = some .local := by rfl)
    (hka : ∀ C, (compEnvC scope [] C X.env).kindOf (Str.ofString "abs") = some .globalImplicit := by intro _; rfl)
    (hk : X.env.kindOf x = some .local := by rfl) (hky : X.env.kindOf y = some .local := by rfl) (hdy : (y == ("__debug__" : Str)) = false := by decide) (hdz : (z == ("__debug__" : Str)) = false := by decide)
    (hsl : sliceOk (.Slice none (some (.Constant (.int 30) k1 cpp)) none sp) := by intro _ _; with_unfolding_all rfl) (htm : tempOk (.Name y yp) := by intro _ _; with_unfolding_all rfl)
    (hfs : ∀ env : Env, ∀ x, foldedSetIterable (.Subscript (.Name y yp) (.Slice none (some (.Constant (.int 30) k1 cpp)) none sp) p) env x = pure x := by intro _ _; rfl)
    (he : ∀ env : Env, starEach [.ListComp (.Call (.Name (Str.ofString "abs") fp) [.Name z np] [] cp) [⟨.Name z zp, .Subscript (.Name y yp) (.Slice none (some (.Constant (.int 30) k1 cpp)) none sp) p, [], 0⟩] scope lp, .Constant (.int 17) k2 kp] env =
      [(false, eval (.ListComp (.Call (.Name (Str.ofString "abs") fp) [.Name z np] [] cp) [⟨.Name z zp, .Subscript (.Name y yp) (.Slice none (some (.Constant (.int 30) k1 cpp)) none sp) p, [], 0⟩] scope lp) env), (false, eval (.Constant (.int 17) k2 kp) env)] := by intro _; rfl)
    (hea : ∀ env : Env, starEach [.Name z np] env = [(false, eval (.Name z np) env)] := by intro _; rfl)
    (hca : ∀ env : Env, eval (.Call (.Name (Str.ofString "abs") fp) [.Name z np] [] cp) env = (do callWith cp (← eval (.Name (Str.ofString "abs") fp) env) [] (backTo cp (starEach [.Name z np] env)) (backToKw cp (keywordEach [] env))) := by intro _; rfl)
    (hs : ∀ env : Env, swapsWith (.List [.ListComp (.Call (.Name (Str.ofString "abs") fp) [.Name z np] [] cp) [⟨.Name z zp, .Subscript (.Name y yp) (.Slice none (some (.Constant (.int 30) k1 cpp)) none sp) p, [], 0⟩] scope lp, .Constant (.int 17) k2 kp] dp) (some (.Name x xp)) pos.line env = pure false := by intro _; rfl) :
    S1 W d X (.Assign [.Name x xp] (.List [.ListComp (.Call (.Name (Str.ofString "abs") fp) [.Name z np] [] cp) [⟨.Name z zp, .Subscript (.Name y yp) (.Slice none (some (.Constant (.int 30) k1 cpp)) none sp) p, [], 0⟩] scope lp, .Constant (.int 17) k2 kp] dp) pos) g R Q := by
  intro ok s m T QQ F N N₀ S hn hr
  refine wpAny_Assign_Name (List_ ?_) (hs _)
  rw [he]
  refine Calls.spliced_cons (wpAny_ListComp_free (fun _ => true) (fun v y => ∃ i t u, v = Value.int i t ∧ y = Value.int (iabs i) u) hclos hcell hkind hnames hz ?_ (hfs _))
  refine Subscript_ (EV.name (Q := fun p => p = .fn l0) hy rfl hky hdy ok s m T _ F N S fun v pv h1 t1 T1 F1 N1 hs1 r1 q1 => ?_)
  subst q1
  have S1 := S.mono hs1
  cases r1
  have hL1 : h1.IsList l0 its.toArray := hL.at fun o e => F1.keep _ _ e
  refine wpAny_Slice (evalPart_none_step (evalPart_some_step (wpAny_Constant_int (evalPart_none_step ?_))))
  have hup0 := kmk_upto (y := (30 : Int)) hi0 (by decide)
  refine kmk_slice_ints (c := (xs.take 30).length) F1 N1 hL1 .none (.int _ _) hi0 hup0 rfl (fun l ws h2 F2 N2 hlt hws _ _ => ?_) (hsl _ _) (htm _) (kmk_sz hi0 (by rw [sizeLine_eq]; lia))
  have hws' : IntsAre ws (xs.take 30) := hws
  have hwl : ws.length = (xs.take 30).length := hws'.length
  have h30 : ws.length ≤ 30 := by rw [hwl, List.length_take]; lia
  have hlsize : l < h2.objs.size := Heap.lt_size (N2 _ (List.Mem.head _)).1
  refine wpAny_pyIter_list (IsL_of N2 (.head _)) ?_
  refine ⟨_, _, _, _, _, _, rfl, Walks.list (prog := W.prog) (w := W.w) (A := X.A) rfl h2.objs.size l (Nat.ne_of_lt hlsize) ws.toArray, by rw [sizeLine_eq, List.size_toArray]; (grind -ring -splitIte), ⟨⟨_, Heap.get?_push_size _ rfl, rfl, rfl⟩, (IsL_of N2 (.head _)).at fun o e => Heap.get?_push_of_some _ e⟩, ?_, ⟨?_, ?_⟩, ?_⟩
  · intro b hb
    show b < (h2.push _).objs.size
    rw [Heap.size_push]
    rcases List.mem_cons.mp hb with e | e
    · rw [e]; exact Nat.lt_succ_self _
    · rw [List.mem_singleton.mp e]; exact Nat.lt_succ_of_lt hlsize
  · intro C i v s₃ m₃ E' hC hP hns hmx hkeep htk
    exact wpAny_tests_nil ⟨rfl, _, _, rfl, fun _ _ e => e⟩
  · intro C i v s₃ m₃ E' hC hP _ hns hmx hkeep htk
    have hP' : ws[i]? = some v := by simpa using hP
    have hil : i < (xs.take 30).length := by
      rw [← hwl]
      rcases Nat.lt_or_ge i ws.length with h | h
      · exact h
      · rw [List.getElem?_eq_none h] at hP'; cases hP'
    obtain ⟨t, ht⟩ := IntsAre.get? hws' (List.getElem?_eq_getElem hil)
    rw [ht] at hP'
    cases hP'
    have F3 : Fr X.h₀ X.L s₃.heap m := F2.keeps fun b o e => hkeep b o (fun hz => by rw [List.mem_singleton.mp hz] at e; exact absurd (Heap.lt_size e) (Nat.lt_irrefl _)) (Heap.get?_push_of_some _ e)
    exact abs_elt ok F3 hl hns hmx hz hkind (hka C) (fun t tk => ⟨⟨_, _, _, rfl, rfl⟩, _, _, rfl, fun _ _ e => e⟩) hdz hea hca
  · intro D h' tk ys vs hD hlD hplD hlen hP hF hkeep
    obtain ⟨k, hD'⟩ := hplD
    have hup : ∀ b o, h2.get? b = some o → h'.get? b = some o := fun b o e => hkeep b o (fun hz => by
      rw [List.mem_singleton.mp hz] at e; exact absurd (Heap.lt_size e) (Nat.lt_irrefl _)) (Heap.get?_push_of_some _ e)
    have hD2 : h2.get? D = none := by
      cases e : h2.get? D with
      | none => rfl
      | some o => rw [Heap.get?_push_of_some _ e] at hD; cases hD
    have hvs : vs = ws := by
      apply List.ext_getElem?
      intro j
      rcases Nat.lt_or_ge j vs.length with h | h
      · have e := hP j _ (List.getElem?_eq_getElem h)
        rw [List.getElem?_eq_getElem h]
        have e' : ws[j]? = some vs[j] := by simpa using e
        exact e'.symm
      · rw [List.getElem?_eq_none h, List.getElem?_eq_none (by rw [List.size_toArray] at hlen; lia)]
    subst hvs
    have hft : vs.filter (fun _ => true) = vs := List.filter_eq_self.mpr fun _ _ => rfl
    rw [hft] at hF
    have hya := pairAbs hws' hF
    have hN' : News X.h₀ X.L h' ((D, PySem.W.listOf ys.toList.toArray k) :: T1) := fun q hq => by
      rcases List.mem_cons.mp hq with rfl | hq
      · refine ⟨by simpa using hD', fun e => ?_, ?_⟩
        · obtain ⟨o, ho⟩ : ∃ o, h2.get? X.L = some o := by obtain ⟨o, _, _, ho, _⟩ := F2.ns; exact ⟨_, ho⟩
          rw [show D = X.L from e, ho] at hD2; cases hD2
        · cases e : X.h₀.get? D with
          | none => rfl
          | some o => rw [F2.keep _ _ e] at hD2; cases hD2
      · have := N2 q (.tail _ hq)
        exact ⟨hup _ _ this.1, this.2⟩
    refine Calls.spliced_cons (wpAny_Constant_int (pos := kp) (k := k2) (Calls.spliced_nil ?_))
    refine newList_K (F2.keeps hup) hN' (fun a h3 F3 N3 hla => ?_) (by rw [sizeLine_eq]; simp)
    refine store_to ok F3 N3 hk fun h4 tk4 F4 N4 => hn _ _ _ _ _ F4 N4 (S1.takeBox ho (b := D) (fun q hq e => ?_) (fun q hq e => ?_) (fun q hq => .tail _ (.tail _ hq)) (.box (.head _) (.tail _ (.head _)) hya ?_ (by decide) ?_ ?_) hxn) hQ
    · have := hla _ (List.Mem.tail _ hq)
      rw [e] at this
      exact absurd this (Nat.lt_irrefl _)
    · have := (N2 q (.tail _ hq)).1
      rw [e, hD2] at this
      cases this
    · intro y hy
      obtain ⟨i, _, rfl⟩ := List.mem_map.mp hy
      exact iabs_nonneg i
    · intro e
      have := hla _ (List.Mem.head _)
      rw [e] at this
      exact absurd this (Nat.lt_irrefl _)
    · rw [List.length_map]; lia
end
/-- a contract of a def that gives back a fresh box -/
noncomputable def CtN (W : Wd) (d : Nat) (f : Addr) (ps : List PV) (l0 : Addr) (its : List Value) : Prop :=
  ∀ (X : Fx) (s : Shared) (m : Str → Option Value) (T : Led) (vs : List Value) (QQ : Value → Shared → Prop), X.Ok W d → Fr X.h₀ X.L s.heap m → News X.h₀ X.L s.heap T → RepL T vs ps → X.h₀.IsList l0 its.toArray →
    (∀ a b h' tk' T', Fr X.h₀ X.L h' m → News X.h₀ X.L h' T' → (∀ q ∈ T, q ∈ T') → (∀ q ∈ T, q.1 ≠ a ∧ q.1 ≠ b) → OwnRep T' [a, b] (.ref a) .box → QQ (.ref a) { s with heap := h', toks := tk' }) →
    wpAny (model W.prog W.w) X.A (call (.ref f) vs) QQ NoE s
noncomputable def SN (W : Wd) (d : Nat) (X : Fx) (body : List Stmt) (g : G) : Prop :=
  X.Ok W d → ∀ (s : Shared) (m : Str → Option Value) (T : Led) (QQ : Flow → Shared → Prop), Fr X.h₀ X.L s.heap m → News X.h₀ X.L s.heap T → ∀ {N₀ : Led}, St X N₀ g m T →
    (∀ a b h' tk' m' T', Fr X.h₀ X.L h' m' → News X.h₀ X.L h' T' → (∀ q ∈ N₀, q ∈ T') → (∀ q ∈ N₀, q.1 ≠ a ∧ q.1 ≠ b) → OwnRep T' [a, b] (.ref a) .box → QQ (.ret (.ref a)) { s with heap := h', toks := tk' }) →
    wpAny (model W.prog W.w) X.A (execs body X.env) QQ NoE s
section
variable {W : Wd} {d : Nat} {X : Fx} {g : G}
theorem SN.cons {st : Stmt} {rest : List Stmt} (h : S1 W d X st g (fun _ => False) fun g' => SN W d X rest g') : SN W d X (st :: rest) g := by
  intro ok s m T QQ F N N₀ S hr
  refine wpAny_execs_cons (h ok s m T _ F N S (fun h1 t1 m1 T1 g1 F1 N1 S1 q1 => ?_) fun v p h1 t1 m1 T1 F1 N1 hs1 r1 q1 => q1.elim)
  exact q1 ok _ m1 T1 QQ F1 N1 S1 fun a b h' tk' m' T' => hr a b h' tk' m' T'
theorem SN.ret {x : Str} {xp pos : Pos} {rest : List Stmt} (ho : g.o = some (x, .box)) (hk : X.env.kindOf x = some .local := by rfl) (hd : (x == ("__debug__" : Str)) = false := by decide) : SN W d X (.Return (some (.Name x xp)) pos :: rest) g := by
  intro ok s m T QQ F N N₀ S hr
  have S0 := S
  obtain ⟨as, h1, h2, h3, h4, h5⟩ := S0
  rw [ho] at h1
  obtain ⟨v, hm, hrv⟩ := h1
  have hrv0 := hrv
  cases hrv with | @box a b its n k xs y t e1 e2 e3 e4 e5 e6 e7 =>
  refine wpAny_execs_cons (wpAny_Return_some (nameX_L F hm ?_ ok.kind hk hd))
  refine hr a b _ _ m T F N S.base (fun q hq => ?_) hrv0
  have := (mem_off.mp (h3 q hq)).2
  exact ⟨fun e => this (List.mem_append_right _ (by rw [e]; exact .head _)), fun e => this (List.mem_append_right _ (by rw [e]; exact .tail _ (.head _)))⟩
end
theorem CtN.mk {W : Wd} {d : Nat} {f l0 : Addr} {its : List Value} {ps : List PV} {name qual : Str} {params : Arguments} {body : List Stmt} {scope : Scope} {dV kV doc pm cdv ct oc : Value} {an od : Option Addr} {osl : Array (Option Value)}
    (ho : W.K.lookup f = some ⟨oc, od, .func (fnOf name qual params body scope dV kV doc pm an cdv ct), osl⟩) (hcd : codeIn W.K cdv qual = true) (xs : List Str)
    (hbind : ∀ (s : Shared) (vs : List Value), vs.length = ps.length → BindsTo s (fnOf name qual params body scope dV kV doc pm an cdv ct) ⟨vs, []⟩ (xs.zip vs)) (hnd : xs.Nodup) (hlx : xs.length = ps.length) (hloc : ∀ x ∈ xs, scope.names.lookup x = some .local)
    (hco : scope.isCoroutine = false) (hgen : scope.isGenerator = false) (hk : scope.kind = .function) (hcell : ∀ x ∈ scope.names, x.2 ≠ .cell)
    (h : ∀ (dp un : Nat) (gd : Option (List Code)) (L' : Addr) (outer : List Env) (A₀ : Around) (base g : Heap), g.IsList l0 its.toArray → SN W d ⟨dp, un, gd, qual, scope, L', f, cdv, [], outer, A₀, base, g⟩ body ⟨xs.zip ps, [], none⟩) : CtN W (d + 1) f ps l0 its := by
  intro X s m T vs QQ ok F N hr hL hb
  have hlen := hr.length
  refine wpAny_call (code_def ok.below F ok.kin N ok.top rfl rfl ok.kind ho hcd (by have := ok.room; show X.dp < recursionLimit; lia) (hbind s vs hlen) ?_ ?_ hco hgen hk hcell)
  · rintro ⟨y, v⟩ hy
    exact hloc y (List.of_mem_zip hy).1
  · intro g L' h₁ FG F' N' B' X' T'
    refine wpAny_mono (h (X.dp + 1) (X.un + 3) X.gd L' (X.env :: X.outer) X.A X.base g (hL.at fun o e => FG.keep _ _ e) ⟨B', X', T', hk, by have := ok.room; show X.dp + 1 + d < recursionLimit; lia, by have := ok.units; show X.un + 3 + 8 * d + 200 < cLine; lia⟩
      { s with heap := h₁, toks := s.toks + (xs.zip vs).length } _ T _ F' N' (N₀ := T) ⟨[], rfl, fun _ h => (by cases h), fun q hq => mem_off.mpr ⟨hq, fun h => (by cases h)⟩, fun y p hy => ?_, ⟨fun _ h => (by cases h), fun _ _ h => (by cases h), List.nodup_nil⟩⟩
      fun a b h' tk' m' T2 F2 N2 hs2 hab r2 => ?_) (fun _ _ x => x) fun _ _ x => x.elim
    · obtain ⟨v, hv, hrp⟩ := zip_rep hr hy
      refine ⟨v, ?_, ?_⟩
      · have hz : ((xs.zip vs).map (·.1)).Nodup := by rw [List.map_fst_zip (by lia)]; exact hnd
        show (xs.zip vs).reverse.lookup y = some v
        rw [look_rev y _ hz]; exact hv
      · have e : off (([] : List (Str × Addr)).map (·.2) ++ []) T = T := by simp [off]
        show Rep (off (([] : List (Str × Addr)).map (·.2) ++ []) T) v p
        rw [e]; exact hrp
    · exact leaveK_ F2 N2 fun F3 N3 => hb a b h' tk' T2 F3 N3 hs2 hab r2
section
variable {W : Wd} {d : Nat} {X : Fx} {g : G} {R : PV → Prop}
theorem EV.abs {fpos pos : Pos} {e : PySem.Expr} {Q : PV → Prop} (hl : nsIn W.K mainGlobals (Str.ofString "abs") = some none) (h : EV W d X e g fun p => ∃ i, p = .int i ∧ Q (.int (iabs i)))
    (hk : X.env.kindOf (Str.ofString "abs") = some .globalImplicit := by rfl)
    (he : ∀ env : Env, starEach [e] env = [(false, eval e env)] := by intro _; rfl)
    (hc : ∀ env : Env, eval (.Call (.Name (Str.ofString "abs") fpos) [e] [] pos) env = (do callWith pos (← eval (.Name (Str.ofString "abs") fpos) env) [] (backTo pos (starEach [e] env)) (backToKw pos (keywordEach [] env))) := by intro _; rfl) :
    EV W d X (.Call (.Name (Str.ofString "abs") fpos) [e] [] pos) g Q := by
  intro ok s m T QQ F N N₀ S hb
  refine Call_ (bname ok F hl (v := .builtin "abs") (by boot_by_name) (by decide) ?_ hk) (hc _)
  rw [he]
  refine Calls.callWith_builtin rfl (Calls.evalArgs_plain (Calls.spliced_cons (h ok s m T _ F N S fun v p h1 t1 T1 F1 N1 hs1 r1 q1 => Calls.spliced_nil ?_)))
  obtain ⟨i, rfl, hq⟩ := q1
  cases r1
  exact call_abs_int fun t tk => hb _ _ _ _ T1 F1 N1 hs1 .int hq
/-- x = f(y), where f gives back a fresh box -/
theorem S1.callN {x fn : Str} {xp fpos cpos pos : Pos} {e : PySem.Expr} {l0 : Addr} {its : List Value} {Q : G → Prop} (ho : g.o = none) (hL : X.h₀.IsList l0 its.toArray) (hxn : g.σ.lookup x = none)
    (h : EV W d X (.Name fn fpos) g fun p => ∃ f, p = .fn f ∧ keepIn W.K (.ref f) = true ∧ EV W d X e g fun q => CtN W d f [q] l0 its) (hQ : Q { g with o := some (x, .box) })
    (hk : X.env.kindOf x = some .local := by rfl)
    (he1 : ∀ env : Env, starEach [e] env = (false, eval e env) :: starEach [] env := by intro _; rfl)
    (hp : ∀ env : Env, (backTo cpos (starEach [] env)).any (·.1) = false := by intro _; rfl)
    (hc : ∀ env : Env, eval (.Call (.Name fn fpos) [e] [] cpos) env = (do callWith cpos (← eval (.Name fn fpos) env) [] (backTo cpos (starEach [e] env)) (backToKw cpos (keywordEach [] env))) := by intro _; rfl)
    (hs : ∀ env : Env, swapsWith (.Call (.Name fn fpos) [e] [] cpos) (some (.Name x xp)) pos.line env = pure false := by intro _; rfl) :
    S1 W d X (.Assign [.Name x xp] (.Call (.Name fn fpos) [e] [] cpos) pos) g R Q := by
  intro ok s m T QQ F N N₀ S hn hr
  refine wpAny_Assign_Name (Call_ (h ok s m T _ F N S fun v p h1 t1 T1 F1 N1 hs1 r1 q1 => ?_) (hc _)) (hs _)
  obtain ⟨f, rfl, hka, q1⟩ := q1
  cases r1
  refine callWith_K ok.kin hka (spliced_more (q1 ok _ m T1 _ F1 N1 (S.mono hs1) fun v2 p2 h2 t2 T2 F2 N2 hs2 r2 q2 => ?_) (he1 _)) (he1 _) (hp _)
  refine spliced_none ?_
  refine ⟨ok.kin.keeps F2.keep, ?_⟩
  refine q2 X _ m T2 [v2] _ ok F2 N2 (.cons r2 .nil) hL fun a b h3 t3 T3 F3 N3 hs3 hab r3 => ?_
  exact store_to ok F3 N3 hk fun h' tk F' N' => hn _ _ _ _ _ F' N' (((S.mono hs1).mono hs2).takeBox ho (fun q hq => (hab q hq).1) (fun q hq => (hab q hq).2) hs3 r3 hxn) hQ
end
section
variable {W : Wd} {d : Nat} {X : Fx} {g : G} {R : PV → Prop} {Q : G → Prop}
/-- the turns of a for over ints -/
theorem for_coreC {x : Str} {px : Pos} {cx : Addr} {body : List Stmt} {s : Shared} {m : Str → Option Value} {T N₁ : Led} {QQ : Flow → Shared → Prop} {I : Addr} {fp wr : List Addr} {n : Nat} {P : Nat → Value → Prop} {Sh : Nat → Heap → Prop} {g : G}
    (ok : X.Ok W d) (hcx : X.cl.lookup x = some cx) (hnn : (X.cl.map (·.1)).Nodup) (hkx : X.env.kindOf x = some .cell) (ns : List Str) (J : Nat → G → Prop) (pv : Nat → PV) (Wk : Walks W.prog W.w X.A I fp wr n P Sh) (hLf : X.L ∉ fp) (hwr : ∀ b ∈ wr, X.h₀.get? b = none) (hst : Sh 0 s.heap)
    (F : Fr X.h₀ X.L s.heap m) (N : News X.h₀ X.L s.heap T) (S : St X N₁ g m T) (hT : ∀ p ∈ T, p.1 ∉ wr)
    (hdata : ∀ i h, Sh i h → ∀ b ∈ wr, ∃ o, h.get? b = some o ∧ NSC o) (hfp : ∀ b ∈ fp, b ∈ wr ∨ ∃ o, (b, o) ∈ N₁) (hP : ∀ i v, i < n → P i v → ∀ T, Rep T v (pv i)) (hpl : ∀ i, (pv i).plain = true)
    (h0 : J 0 (g.keep ns))
    (turn : ∀ i g', i < n → J i g' → SV W d X body { g' with κ := setL x (pv i) g'.κ } R (fun g2 => J (i + 1) (g2.keep ns))) (hn : ∀ h' tk' m' T' g', Fr X.h₀ X.L h' m' → News X.h₀ X.L h' T' → St X N₁ g' m' T' → J n g' → QQ .next { s with heap := h', toks := tk' })
    (hr : Rt X N₁ s R QQ) : TurnsAt W.prog W.w X.A X.h₀ X.env (.Name x px) body QQ NoE (.ref I) s := by
  refine ⟨I, fp, wr, n, _, _, Sh, m, T, fun i m T => ∃ g, J i g ∧ St X N₁ g m T, rfl, KTurns.ofWalks Wk (fun i v s Q E st q => by unfold letOwnedTupleGo; exact wpAny_pure q), hLf, hwr, hT, hst, F, N, ⟨_, h0, S.keep ns⟩, ?_, ?_⟩
  · rintro i v m₁ T₁ h1 t1 own hi hPi ⟨g₁, hJ, S₁⟩ hoff hown hownget hall hst1 F₁ N₁'
    have hN : ∀ p ∈ N₁, p ∈ T₁ := S₁.base
    have S₁0 := S₁
    obtain ⟨as, h1', h2', h3', h4', h5'⟩ := S₁0
    have S₂ : St X (own ++ N₁) g₁ m₁ (own ++ T₁) := by
      have hup : ∀ q ∈ T₁, q ∈ own ++ T₁ := fun q hq => List.mem_append_right _ hq
      refine ⟨as, h1'.mono hup, h2', fun p hp => ?_, h4'.mono (off_mono hup), h5'.mono hup⟩
      rcases List.mem_append.mp hp with hp | hp
      · refine mem_off.mpr ⟨List.mem_append_left _ hp, fun ha => ?_⟩
        rcases hfp _ (hown p hp) with hw | ⟨o, hb⟩
        · rcases List.mem_append.mp ha with hc | hc
          · obtain ⟨xc, hm, e⟩ := List.mem_map.mp hc
            obtain ⟨ob, v, hb, _, _⟩ := h5'.1 xc hm
            exact hoff _ hb (e ▸ hw)
          · cases hg : g₁.o with
            | none => rw [hg] at h1'; rw [show as = [] from h1'] at hc; cases hc
            | some yq =>
              obtain ⟨y, q⟩ := yq
              rw [hg] at h1'
              obtain ⟨u, hu, hrr⟩ := h1'
              cases hrr with
              | lst hm hi => rw [List.mem_singleton.mp hc] at hw; exact hoff _ hm hw
              | bls hm => rw [List.mem_singleton.mp hc] at hw; exact hoff _ hm hw
              | box hm hm2 _ _ _ _ _ =>
                rcases List.mem_cons.mp hc with hc | hc
                · rw [hc] at hw; exact hoff _ hm hw
                · rw [List.mem_singleton.mp hc] at hw; exact hoff _ hm2 hw
        · exact (mem_off.mp (h3' _ hb)).2 ha
      · exact off_mono hup _ (h3' p hp)
    refine wpAny_assign_Name (store_toC ok F₁ N₁' S₂ hnn hcx hkx (hP i v hi hPi []) fun h9 t9 T9 F9 N9 S₃ => ?_)
    refine turn i g₁ hi hJ ok _ _ T9 _ F9 N9 S₃ (fun h3 t3 m3 T3 g3 F3 N3 S3 q3 => ?_) fun v p h3 t3 m3 T3 F3 N3 hs3 r3 q3 => ?_
    · have hOwn : ∀ p ∈ own, p ∈ T3 := fun p hp => S3.base p (List.mem_append_left _ hp)
      have hns : ∀ p ∈ T3, p.1 ∈ wr → NSC p.2 := fun p hp hw => by
        obtain ⟨o, hget, hnsc⟩ := hdata _ _ hst1 _ hw
        have hm := hOwn _ (hall _ (Wk.sub _ hw) (hwr _ hw) o hget)
        have := fun_of N3 hm (show (p.1, p.2) ∈ T3 from hp)
        rw [← this]; exact hnsc
      refine LoopStepV.next (LoopStepU.intro (news₂ := off wr T3) F3 (fun p hp => ?_) (fun p hp => (mem_off.mp hp).2) ⟨_, q3, (S3.keep ns).offI hns fun p hp => ⟨List.mem_append_right _ hp, hoff _ (hN _ hp)⟩⟩)
      rcases List.mem_append.mp hp with hp | hp
      · exact N3 _ (hOwn _ hp)
      · exact N3 _ (off_sub _ hp)
    · exact LoopStepV.ret (hr v p h3 t3 m3 T3 F3 N3 (fun q hq => hs3 q (List.mem_append_right _ hq)) r3 q3)
  · rintro h' tk m' T' F' N' _ ⟨g', hJ, S'⟩
    exact hn h' tk m' T' g' F' N' S' hJ

theorem range_turnsC {x : Str} {px : Pos} {cx : Addr} {body : List Stmt} {s : Shared} {m : Str → Option Value} {T N₀ : Led} {QQ : Flow → Shared → Prop} {r : Addr} {a b c : Int} {t u v : Tok} {n : Nat} {g : G}
    (ok : X.Ok W d) (hcx : X.cl.lookup x = some cx) (hnn : (X.cl.map (·.1)).Nodup) (hkx : X.env.kindOf x = some .cell) (ns : List Str) (J : Nat → G → Prop) (hrg : IsRange s.heap r a b c t u v) (hsm : Builtin.Range.small a b c = true) (hsz : Builtin.Range.rangeSize a b c = (n : Int))
    (F : Fr X.h₀ X.L s.heap m) (N : News X.h₀ X.L s.heap T) (S : St X N₀ g m T)
    (h0 : J 0 (g.keep ns))
    (turn : ∀ i g', i < n → J i g' → SV W d X body { g' with κ := setL x (.int (a + i * c)) g'.κ } R (fun g2 => J (i + 1) (g2.keep ns))) (hn : Nx X N₀ s (J n) QQ)
    (hr : Rt X N₀ s R QQ) : wpAny (model W.prog W.w) X.A (pyIter (.ref r)) (fun it s₂ => TurnsAt W.prog W.w X.A X.h₀ X.env (.Name x px) body QQ NoE it s₂) NoE s := by
  refine wpAny_pyIter_range hrg hsm ?_
  have Wk : Walks W.prog W.w X.A s.heap.objs.size [s.heap.objs.size] [s.heap.objs.size] n (fun i v => i < n ∧ ∃ t, v = .int (a + i * c) t)
      (fun i h => IsRangeIter h s.heap.objs.size (a + (i : Nat) * c) ((n : Int) - (i : Nat)) c) := (Walks.range rfl _ a c n).bound
  refine for_coreC (N₁ := N₀) ok hcx hnn hkx ns J (fun i => .int (a + i * c)) Wk ?_ ?_ (by show IsRangeIter _ _ _ _ _; rw [hsz]; simpa using Heap.get?_push_size _ rfl) (F.push _) (fun p hp => ⟨Heap.get?_push_of_some _ (N p hp).1, (N p hp).2⟩) S ?_ ?_ (fun b hb => .inl hb) (fun i v hi hp T => ?_) (fun _ => rfl) h0 turn ?_ ?_
  · intro hm
    exact absurd F.ns.lt ((List.mem_singleton.mp hm) ▸ Nat.lt_irrefl _)
  · intro b hb
    rw [List.mem_singleton.mp hb]
    exact next_is_new F
  · intro p hp hI
    exact absurd (Heap.lt_size (N p hp).1) ((List.mem_singleton.mp hI) ▸ Nat.lt_irrefl _)
  · intro i h hS b hb
    rw [List.mem_singleton.mp hb]
    exact range_iter_new (b := b) hS
  · obtain ⟨_, t, rfl⟩ := hp
    exact .int
  · intro h' tk' m' T' g' F' N' S' hJ
    exact hn h' tk' m' T' g' F' N' S' hJ
  · intro v p h' tk' m' T' F' N' hs hrr hq
    exact hr v p h' tk' m' T' F' N' hs hrr hq

theorem S1.forC {x : Str} {cx : Addr} {xp rp cp pos : Pos} {e e' : PySem.Expr} {body : List Stmt} (hcx : X.cl.lookup x = some cx) (hnn : (X.cl.map (·.1)).Nodup) (ns : List Str) (a b : Int) (J : Nat → G → Prop) (hl : nsIn W.K mainGlobals (Str.ofString "range") = some none)
    (h : EV W d X e g fun p => p = .int a ∧ EV W d X e' g fun p => p = .int b) (ha : small62 a) (hb : small62 b) (h0 : J 0 (g.keep ns))
    (turn : ∀ (i : Nat) g', a + i < b → J i g' → SV W d X body { g' with κ := setL x (.int (a + i)) g'.κ } R (fun g2 => J (i + 1) (g2.keep ns))) (hq : ∀ g', J (b - a).toNat g' → Q g')
    (hk : X.env.kindOf (Str.ofString "range") = some .globalImplicit := by rfl) (hx : X.env.kindOf x = some .cell := by rfl)
    (he : ∀ env : Env, starEach [e, e'] env = [(false, eval e env), (false, eval e' env)] := by intro _; rfl)
    (hs : ∀ env : Env, ∀ x, foldedSetIterable (.Call (.Name (Str.ofString "range") rp) [e, e'] [] cp) env x = pure x := by intro _ _; rfl)
    (hc : ∀ env : Env, eval (.Call (.Name (Str.ofString "range") rp) [e, e'] [] cp) env = (do callWith cp (← eval (.Name (Str.ofString "range") rp) env) [] (backTo cp (starEach [e, e'] env)) (backToKw cp (keywordEach [] env))) := by intro _; rfl) :
    S1 W d X (.For (.Name x xp) (.Call (.Name (Str.ofString "range") rp) [e, e'] [] cp) body [] pos) g R Q := by
  intro ok s m T QQ F N N₀ S hn hr
  refine For_turns (h₀ := X.h₀) F ?_ (hs _) PassesOwn.never
  refine Call_ (bname ok F hl (v := .type "range") (by boot_by_name) (by decide) ?_ hk) (hc _)
  rw [he]
  refine PySem.callWith_type rfl (Calls.evalArgs_plain (Calls.spliced_cons (h ok s m T _ F N S fun v p h1 t1 T1 F1 N1 hs1 r1 q1 => ?_)))
  obtain ⟨rfl, q1⟩ := q1
  cases r1
  refine Calls.spliced_cons (q1 ok _ m T1 _ F1 N1 (S.mono hs1) fun v2 p2 h2 t2 T2 F2 N2 hs2 r2 q2 => Calls.spliced_nil ?_)
  subst q2
  cases r2
  refine range2_rows F2 N2 fun h3 t3 _ _ _ hrg F3 N3 _ => ?_
  refine range_turnsC (n := (b - a).toNat) ok hcx hnn hx ns J hrg (small_one ha.1 ha.2 hb.1 hb.2) (by rw [rsize_up]) F3 N3 ((S.mono hs1).mono hs2) h0 (fun i g' hi hJ => ?_) (fun h' tk' m' T' g' F' N' S' hJ => hn h' tk' m' T' g' F' N' S' (hq _ hJ)) (fun v p h' tk' m' T' F' N' hs hrr hq => hr v p h' tk' m' T' F' N' hs hrr hq)
  have := turn i g' (by omega) hJ
  simpa using this
end
section
variable {W : Wd} {d : Nat} {X : Fx} {g : G}
/-- repr(a) != repr(b) of two truths -/
theorem TV.reprNe {f1 f2 c1 c2 pos : Pos} {a b : PySem.Expr} {Q : Bool → Prop} (hl : nsIn W.K mainGlobals (Str.ofString "repr") = some none)
    (h : EV W d X a g fun p => ∃ u, p = .bool u ∧ EV W d X b g fun q => ∃ v, q = .bool v ∧ Q (decide (u ≠ v)))
    (hk : X.env.kindOf (Str.ofString "repr") = some .globalImplicit := by rfl)
    (hm : behindInMarks .NotEq (.Call (.Name (Str.ofString "repr") f2) [b] [] c2) = false := by with_unfolding_all rfl)
    (hea : ∀ env : Env, starEach [a] env = [(false, eval a env)] := by intro _; rfl) (heb : ∀ env : Env, starEach [b] env = [(false, eval b env)] := by intro _; rfl)
    (hca : ∀ env : Env, eval (.Call (.Name (Str.ofString "repr") f1) [a] [] c1) env = (do callWith c1 (← eval (.Name (Str.ofString "repr") f1) env) [] (backTo c1 (starEach [a] env)) (backToKw c1 (keywordEach [] env))) := by intro _; rfl)
    (hcb : ∀ env : Env, eval (.Call (.Name (Str.ofString "repr") f2) [b] [] c2) env = (do callWith c2 (← eval (.Name (Str.ofString "repr") f2) env) [] (backTo c2 (starEach [b] env)) (backToKw c2 (keywordEach [] env))) := by intro _; rfl) :
    TV W d X (.Compare (.Call (.Name (Str.ofString "repr") f1) [a] [] c1) [.NotEq] [.Call (.Name (Str.ofString "repr") f2) [b] [] c2] pos) g Q := by
  intro ok s m T QQ F N N₀ S hb
  refine wpAny_isTrue_Compare1 ?_ hm
  refine Call_ (bname ok F hl (v := .builtin "repr") (by boot_by_name) (by decide) ?_ hk) (hca _)
  rw [hea]
  refine Calls.callWith_builtin rfl (Calls.evalArgs_plain (Calls.spliced_cons (h ok s m T _ F N S fun v p h1 t1 T1 F1 N1 hs1 r1 q1 => Calls.spliced_nil ?_)))
  obtain ⟨u, rfl, q1⟩ := q1
  cases r1
  refine PySem.P.repr_of_bool ?_
  refine Call_ (bname ok F1 hl (v := .builtin "repr") (by boot_by_name) (by decide) ?_ hk) (hcb _)
  rw [heb]
  refine Calls.callWith_builtin rfl (Calls.evalArgs_plain (Calls.spliced_cons (q1 ok _ m T1 _ F1 N1 (S.mono hs1) fun v2 p2 h2 t2 T2 F2 N2 hs2 r2 q2 => Calls.spliced_nil ?_)))
  obtain ⟨v, rfl, q2⟩ := q2
  cases r2
  refine PySem.P.repr_of_bool ?_
  refine PyProof.Rows.ne_str (wpAny_truthy_bool ?_)
  have e : ((if u = true then Str.ofString "True" else Str.ofString "False") != (if v = true then Str.ofString "True" else Str.ofString "False")) = decide (u ≠ v) := by cases u <;> cases v <;> decide
  rw [e]
  exact hb _ _ _ T2 F2 N2 (fun q hq => hs2 _ (hs1 _ hq)) q2
end
section
variable {W : Wd} {d : Nat} {X : Fx} {g : G}
theorem OV.neB {Q : PV → Prop} {a b : Bool} (h : Q (.bool (decide (a ≠ b)))) : OV W d X (two (compareOp .NotEq)) [.bool a, .bool b] Q := by
  refine OV.of2 fun ok s m T v w QQ F N h1 h2 hb => ?_
  cases h1; cases h2
  refine PySem.SeqAt.RcNeAt.bool_bool a b W.prog W.w _ _ ?_
  have e : (!(a == b)) = decide (a ≠ b) := by cases a <;> cases b <;> rfl
  rw [e]
  exact hb _ _ _ _ T F N (fun _ h => h) .bool h
theorem St.freeze {N₀ T : Led} {m : Str → Option Value} {x : Str} (S : St X N₀ g m T) (ho : g.o = some (x, .box)) :
    ∃ a b N₁, (∀ q ∈ N₀, q ∈ N₁) ∧ OwnRep N₁ [a, b] (.ref a) .box ∧ (∀ q ∈ N₀, q.1 ∉ X.cl.map (·.2) ++ [a, b]) ∧ (∀ c ∈ [a, b], c ∉ X.cl.map (·.2)) ∧ St X N₁ ⟨setL x (.fn a) g.σ, g.κ, none⟩ m T := by
  obtain ⟨as, h1, h2, h3, h4, h5⟩ := S
  rw [ho] at h1
  obtain ⟨v, hv, hp⟩ := h1
  cases hp with | @box a b its n k xs x' t e1 e2 e3 e4 e5 e6 e7 =>
  have hsub : ∀ q ∈ off (X.cl.map (·.2) ++ [a, b]) T, q ∈ off (X.cl.map (·.2) ++ []) T := fun q hq => mem_off.mpr ⟨(mem_off.mp hq).1, fun ha => (mem_off.mp hq).2 (by simp at ha ⊢; exact .inl ha)⟩
  have hbx : ∀ c o, c ∈ [a, b] → (c, o) ∈ T → (c, o) ∈ off (X.cl.map (·.2) ++ []) T := fun c o hc hm => mem_off.mpr ⟨hm, fun hz => h2 c hc (by simpa using hz)⟩
  refine ⟨a, b, (a, PySem.W.listOf [Value.ref b, Value.int x' t].toArray n) :: (b, PySem.W.listOf its.toArray k) :: N₀, fun q hq => .tail _ (.tail _ hq), .box (.head _) (.tail _ (.head _)) e3 e4 e5 e6 e7, fun q hq => (mem_off.mp (h3 q hq)).2, h2, ?_⟩
  refine ⟨[], rfl, fun _ h => (by cases h), fun q hq => ?_, fun y q e => ?_, fun xc hx => ?_, h5.2⟩
  · rcases List.mem_cons.mp hq with rfl | hq
    · exact hbx _ _ (.head _) e1
    · rcases List.mem_cons.mp hq with rfl | hq
      · exact hbx _ _ (.tail _ (.head _)) e2
      · exact hsub _ (h3 q hq)
  · rw [lookup_setL] at e
    by_cases hy : y = x
    · rw [if_pos hy] at e
      cases e
      exact ⟨_, hy ▸ hv, .fn⟩
    · rw [if_neg hy] at e
      obtain ⟨u, c, d⟩ := h4 y q e
      exact ⟨u, c, d.mono hsub⟩
  · obtain ⟨ob, v, c, d, f⟩ := h5.1 xc hx
    exact ⟨ob, v, c, d, fun p hp => let ⟨u, i, j⟩ := f p hp; ⟨u, i, j.mono hsub⟩⟩
theorem St.thaw {N₀ N₁ T : Led} {m : Str → Option Value} {x : Str} {a b : Addr} (S : St X N₁ g m T) (hN : ∀ q ∈ N₀, q ∈ N₁) (hr : OwnRep N₁ [a, b] (.ref a) .box) (h0 : ∀ q ∈ N₀, q.1 ∉ X.cl.map (·.2) ++ [a, b]) (h2 : ∀ c ∈ [a, b], c ∉ X.cl.map (·.2))
    (hx : g.σ.lookup x = some (.fn a)) : St X N₀ ⟨[], [], some (x, .box)⟩ m T := by
  have hb := S.base
  obtain ⟨as, h1, h2', h3, h4, h5⟩ := S
  obtain ⟨v, hm, hv⟩ := h4 x _ hx
  cases hv
  refine ⟨[a, b], ⟨_, hm, hr.mono hb⟩, h2, fun q hq => mem_off.mpr ⟨hb _ (hN q hq), h0 q hq⟩, fun y q e => (by cases e), fun xc hxc => ?_, fun y q e => (by cases e), h5.2.2⟩
  obtain ⟨ob, v, c, d, _⟩ := h5.1 xc hxc
  exact ⟨ob, v, c, d, fun p hp => (by cases hp)⟩
/-- the box lies still while a block runs; at its end all other names are forgotten -/
theorem SV.freeze {x : Str} {rest : List Stmt} {R : PV → Prop} {Q : G → Prop} (ho : g.o = some (x, .box))
    (h : ∀ a, SV W d X rest ⟨setL x (.fn a) g.σ, g.κ, none⟩ R fun g' => g'.σ.lookup x = some (.fn a) ∧ Q ⟨[], [], some (x, .box)⟩) : SV W d X rest g R Q := by
  intro ok s m T QQ F N N₀ S hn hr
  obtain ⟨a, b, N₁, hN, hrb, h0, h2, S1⟩ := S.freeze ho
  refine h a ok s m T QQ F N S1 (fun h' tk' m' T' g' F' N' S' q' => ?_) fun v p h' tk' m' T' F' N' hs hrr hq => hr v p h' tk' m' T' F' N' (fun q hq' => hs q (hN q hq')) hrr hq
  exact hn h' tk' m' T' _ F' N' (S'.thaw hN hrb h0 h2 q'.1) q'.2
end
theorem CtN.mono {W : Wd} {d d' : Nat} {f l0 : Addr} {its : List Value} {ps : List PV} (h : CtN W d f ps l0 its) (hd : d ≤ d') : CtN W d' f ps l0 its := by
  intro X s m T vs QQ ok F N hr hL hb
  exact h X s m T vs QQ (ok.mono hd) F N hr hL hb
section
variable {W : Wd} {d : Nat} {X : Fx} {g : G}
theorem TV.mono {e : PySem.Expr} {Q Q' : Bool → Prop} (h : TV W d X e g Q) (hq : ∀ b, Q b → Q' b) : TV W d X e g Q' := by
  intro ok s m T QQ F N N₀ S hb
  exact h ok s m T QQ F N S fun b h' tk' T' F' N' hs hqb => hb b h' tk' T' F' N' hs (hq b hqb)
/-- an if whose test is false -/
theorem S1.skip {test : PySem.Expr} {body : List Stmt} {pos : Pos} {R : PV → Prop} {Q : G → Prop} (h : TV W d X test g fun c => c = false) (hq : Q g) : S1 W d X (.If test body [] pos) g R Q :=
  S1.ite (h.mono fun c e => by subst e; rw [if_neg (by decide)]; exact SV.nil hq)
end
/-- the walk of the law's body, whatever its frame -/
noncomputable def LawWalk (W : Wd) (d : Nat) (f l0 : Addr) (its : List Value) (R : PV → Prop) : Prop :=
  ∀ {name qual : Str} {params : Arguments} {body : List Stmt} {scope : Scope} {dV kV doc pm cdv ct oc : Value} {an od : Option Addr} {osl : Array (Option Value)},
    W.K.lookup f = some ⟨oc, od, .func (fnOf name qual params body scope dV kV doc pm an cdv ct), osl⟩ → ∀ (qual' : Str) (f' : Addr) (cdv' : Value) (dp un : Nat) (gd : Option (List Code)) (L' : Addr) (outer : List Env) (A₀ : Around) (base g : Heap), g.IsList l0 its.toArray →
    SV W d ⟨dp, un, gd, qual', scope, L', f', cdv', [(Str.ofString "modulus", L' + 1 + 1), (Str.ofString "n", L' + 1)], outer, A₀, base, g⟩ body ⟨[(Str.ofString "script", .fn l0)], [], none⟩ R fun _ => False
theorem LawWalk.mk {W : Wd} {d : Nat} {f l0 : Addr} {its : List Value} {R : PV → Prop} {name qual : Str} {params : Arguments} {body : List Stmt} {scope : Scope} {dV kV doc pm cdv ct oc : Value} {an od : Option Addr} {osl : Array (Option Value)}
    (ho : W.K.lookup f = some ⟨oc, od, .func (fnOf name qual params body scope dV kV doc pm an cdv ct), osl⟩)
    (h : ∀ (qual' : Str) (f' : Addr) (cdv' : Value) (dp un : Nat) (gd : Option (List Code)) (L' : Addr) (outer : List Env) (A₀ : Around) (base g : Heap), g.IsList l0 its.toArray →
      SV W d ⟨dp, un, gd, qual', scope, L', f', cdv', [(Str.ofString "modulus", L' + 1 + 1), (Str.ofString "n", L' + 1)], outer, A₀, base, g⟩ body ⟨[(Str.ofString "script", .fn l0)], [], none⟩ R fun _ => False) : LawWalk W d f l0 its R := by
  intro name' qual2 params' body' scope' dV' kV' doc' pm' cdv2 ct' oc' an' od' osl' ho'
  rw [ho] at ho'
  injection ho' with h1
  injection h1 with _ _ h2 _
  injection h2 with h3
  have hb : body = body' := by injection h3 with a1 a2 a3 a4; injection a4
  have hs : scope = scope' := by injection h3
  subst hb; subst hs
  exact h
/-- the true places below i -/
noncomputable def tI (bs : List Bool) : Nat → List Int
  | 0 => []
  | i + 1 => tI bs i ++ if bs.getD i false = true then [(i : Int)] else []
theorem intsAre_snoc {vs : List Value} {ns : List Int} (h : IntsAre vs ns) (n : Int) (t : Tok) : IntsAre (vs ++ [.int n t]) (ns ++ [n]) := by
  induction h with
  | nil => exact .cons n t .nil
  | cons m u h ih => exact .cons m u ih
noncomputable abbrev clst (ys : List Value) : Obj := { cls := .type "list", data := .seq ys.toArray ys.length }
section
variable {prog : Program} {w : World} {A : Around} {E : Value → Shared → Prop} {env : Env}
theorem enum_block {iter : PySem.Expr} {a b : Str} {pa pb pn pt tp : Pos} {kk : Nat} {scope : Scope} {cl : List (Str × Addr)} {pos : Pos} {s₂ : Shared} {e it l : Addr} {bs : List Bool} {RR : Value → Addr → Result → Shared → Prop}
    (hh : A.handled = none) (hei : e ≠ it) (hle : l ≠ e) (hli : l ≠ it) (hsz : bs.length ≤ sizeLine)
    (hE : IsEnum s₂.heap e it 0 .none) (hI : s₂.heap.IsListIter it l 0) (hL : s₂.heap.IsList l (bs.map Value.bool).toArray)
    (hcell : ∀ y ∈ scope.names, y.2 ≠ .cell) (hkind : scope.kind = .function) (hxa : scope.names.lookup a = some .local) (hxb : scope.names.lookup b = some .local) (hab : ¬ a = b)
    (hda : (a == ("__debug__" : Str)) = false) (hdb : (b == ("__debug__" : Str)) = false)
    (hit : ∀ env : Env, isTrue (.Name b pt) env (eval (.Name b pt) env) = (do let v ← eval (.Name b pt) env; standAt (PySem.Expr.Name b pt).pos; holding [v] (truthy v)))
    (hRR : ∀ D C h tk m' ys, (∀ c o, c ≠ e → c ≠ it → s₂.heap.get? c = some o → h.get? c = some o) → h.get? D = some (clst ys) → IntsAre ys (tI bs bs.length) → h.Ns C m' → s₂.heap.get? C = none → s₂.heap.get? D = none → C ≠ D → RR (.ref D) C (.ok .next) { s₂ with heap := h, toks := tk }) :
    wpAny (model prog w) A (newList []) (fun acc s₃ => wpAny (model prog w) A (newFunctionEnv scope env.globals cl [] env.qual none .none (some env)) (fun cenv s₄ =>
      codeAny (model prog w) A (.compStart (.ListComp (.Name a pn) [⟨.Tuple [.Name a pa, .Name b pb] kk tp, iter, [.Name b pt], 0⟩] scope pos) 0 (.ref e) acc { cenv with scope := relabel scope env }) (RR acc cenv.locals) s₄) E s₃) E s₂ := by
  refine wpAny_newObj_type (wpAny_newFunctionEnv hcell (by intro y hy; simp at hy) (fun h₁ hns₁ hsb₁ => ?_) hkind)
  dsimp only at hns₁ hsb₁ ⊢
  generalize hH2 : s₂.heap.push { cls := .type "list", dict := none, data := .seq ([] : List Value).toArray } = H2 at hns₁ hsb₁ ⊢
  have hC : H2.objs.size = s₂.heap.objs.size + 1 := by rw [← hH2, Heap.size_push]
  have hDC : s₂.heap.objs.size ≠ H2.objs.size := by rw [hC]; exact Nat.ne_of_lt (Nat.lt_succ_self _)
  have below : ∀ b, b < s₂.heap.objs.size → b ≠ H2.objs.size ∧ b ≠ s₂.heap.objs.size := fun b hb => ⟨by rw [hC]; exact Nat.ne_of_lt (Nat.lt_succ_of_lt hb), Nat.ne_of_lt hb⟩
  have old : ∀ b o, s₂.heap.get? b = some o → h₁.get? b = some o := fun b o e => hsb₁.extBut b o (below b (Heap.lt_size e)).1 (Heap.get?_push_of_some _ (hH2 ▸ Heap.get?_push_of_some _ e))
  have hacc : h₁.get? s₂.heap.objs.size = some (clst []) := hsb₁.extBut _ _ hDC (Heap.get?_push_of_some _ (hH2 ▸ Heap.get?_push_size _ rfl))
  have fresh : ∀ a, s₂.heap.objs.size ≤ a → s₂.heap.get? a = none := fun a ha => by
    cases e : s₂.heap.get? a with
    | none => rfl
    | some o' => exact absurd (Heap.lt_size e) (Nat.not_lt.mpr ha)
  have hel : e < s₂.heap.objs.size := Heap.lt_size hE
  have hil : it < s₂.heap.objs.size := by obtain ⟨o, ho, _⟩ := hI; exact Heap.lt_size ho
  have hll : l < s₂.heap.objs.size := by obtain ⟨o, ho, _⟩ := hL; exact Heap.lt_size ho
  have hsize : (bs.map Value.bool).toArray.size = bs.length := by simp
  have Wk := KTurns.ofWalksU (elts := [.Name a pa, .Name b pb]) (k := kk) (pos := tp) (WalksT.enumerate (prog := prog) (w := w) (A := A) hh e it l hei hle hli (bs.map Value.bool).toArray).toU
  rw [hsize] at Wk
  have loop : ∀ s₃ : Shared, s₃ = { s₂ with heap := h₁, toks := s₂.toks + ([] : List (Str × Value)).length } →
      codeAny (model prog w) A (.compLoop (.ListComp (.Name a pn) [⟨.Tuple [.Name a pa, .Name b pb] kk tp, iter, [.Name b pt], 0⟩] scope pos) 0 (.ref e) (.ref s₂.heap.objs.size) (compEnvC scope cl H2.objs.size env))
        (RR (.ref s₂.heap.objs.size) H2.objs.size) s₃ := by
    rintro s₃ rfl
    refine kct_loop
      (fun k s' => ∃ h' tk i ys m', s' = { s₂ with heap := h', toks := tk } ∧ i ≤ bs.length ∧ k = bs.length + 1 - i ∧ ys.length ≤ i ∧ IntsAre ys (tI bs i) ∧ ((∃ old, IsEnum h' e it i old) ∧ h'.IsListIter it l i ∧ h'.IsList l (bs.map Value.bool).toArray) ∧
        (∀ c o, c ≠ e → c ≠ it → s₂.heap.get? c = some o → h'.get? c = some o) ∧ h'.Ns H2.objs.size m' ∧ h'.get? s₂.heap.objs.size = some (clst ys)) ?_ (bs.length + 1)
      ⟨h₁, _, 0, [], _, rfl, Nat.zero_le _, rfl, Nat.le_refl _, .nil, ⟨⟨_, old _ _ hE⟩, hI.at fun o e => old _ o e, hL.at fun o e => old _ o e⟩, fun c o _ _ h => old c o h, hns₁, hacc⟩
    rintro k s' ⟨h', tk, i, ys, m', rfl, hi, rfl, hyl, hys, hst, hkeep, hn', hD'⟩
    by_cases hlt : i < bs.length
    · refine Wk.item i _ _ _ hlt hst fun v h₂ tk₂ hMd hk₂ => ?_
      refine Wk.go i v _ _ _ hMd fun h₃ hP hst₃ hk₃ => ?_
      obtain ⟨T, vals, rfl, ⟨t, x, hx, rfl⟩, hT⟩ := hP
      have hxv : x = .bool (bs.getD i false) := by
        have : (bs.map Value.bool)[i]? = some x := by simpa using hx
        rw [List.getElem?_map, List.getElem?_eq_getElem hlt] at this
        rw [List.getD_eq_getElem?_getD, List.getElem?_eq_getElem hlt]
        exact (Option.some.inj this).symm
      subst hxv
      have up₃ : ∀ c o, c ≠ e → c ≠ it → h'.get? c = some o → h₃.get? c = some o := fun c o h1 h2 e => hk₃ c o (by simp [h1, h2]) (hk₂ c o (by simp [h1, h2]) e)
      have hCe : H2.objs.size ≠ e := Ne.symm (below e hel).1
      have hCi : H2.objs.size ≠ it := Ne.symm (below it hil).1
      have hDe : s₂.heap.objs.size ≠ e := Ne.symm (below e hel).2
      have hDi : s₂.heap.objs.size ≠ it := Ne.symm (below it hil).2
      refine kcp_assign (env := compEnvC scope cl H2.objs.size env) hh hT (lookup_relabel_local hxa) (lookup_relabel_local hxb) (by simp [compEnvC, relabel, hkind]) (hn'.at' fun o e => up₃ _ o hCe hCi e) fun h₄ tk₄ hn₄ hs₄ => ?_
      have up : ∀ c o, c ≠ e → c ≠ it → c ≠ H2.objs.size → h'.get? c = some o → h₄.get? c = some o := fun c o h1 h2 h3 e => hs₄ c o h3 (up₃ c o h1 h2 e)
      have hst₄ : (∃ old, IsEnum h₄ e it ((i + 1 : Nat) : Int) old) ∧ h₄.IsListIter it l (i + 1) ∧ h₄.IsList l (bs.map Value.bool).toArray := by
        obtain ⟨⟨old, ho⟩, h2, h3⟩ := hst₃
        exact ⟨⟨old, hs₄ _ _ (Ne.symm hCe) ho⟩, h2.at fun o e => hs₄ _ o (Ne.symm hCi) e, h3.at fun o e => hs₄ _ o (below l hll).1 e⟩
      have hkeep₄ : ∀ c o, c ≠ e → c ≠ it → s₂.heap.get? c = some o → h₄.get? c = some o := fun c o h1 h2 e => up c o h1 h2 (below c (Heap.lt_size e)).1 (hkeep c o h1 h2 e)
      have hD₄ : h₄.get? s₂.heap.objs.size = some (clst ys) := up _ _ hDe hDi hDC hD'
      rw [hit]
      refine wpAny_bind (wpAny_Name (wpAny_loadName_local hkind (lookup_relabel_local hxb) hn₄ (by show (if b = b then _ else _) = _; rw [if_pos rfl]) ?_) hdb)
      refine wpAny_bind (wpAny_standAt (wpAny_pure ?_))
      by_cases hb : bs.getD i false = true
      case neg =>
        rw [if_neg hb]
        refine ⟨bs.length + 1 - (i + 1), by (grind -ring -splitIte), h₄, _, i + 1, ys, _, rfl, hlt, rfl, Nat.le_succ_of_le hyl, ?_, hst₄, hkeep₄, hn₄, hD₄⟩
        show IntsAre ys (tI bs i ++ if bs.getD i false = true then [(i : Int)] else [])
        rw [if_neg hb, List.append_nil]; exact hys
      case pos =>
        rw [if_pos hb]
        refine wpAny_Name (wpAny_loadName_local hkind (lookup_relabel_local hxa) hn₄ (by show (if a = b then _ else if a = a then _ else _) = _; rw [if_neg hab, if_pos rfl]) ?_) hda
        refine append_at (hsz := by show ys.toArray.size ≤ sizeLine; rw [List.size_toArray]; exact Nat.le_trans hyl (Nat.le_trans hi hsz)) hD₄ fun h₆ hs₆ hD₆ => ?_
        refine ⟨bs.length + 1 - (i + 1), by omega, h₆, _, i + 1, ys ++ [.int i t], _, rfl, hlt, rfl, by rw [List.length_append, List.length_singleton]; exact Nat.succ_le_succ hyl, ?_, ?_, fun c o h1 h2 e => hs₆.extBut c o (below c (Heap.lt_size e)).2 (hkeep₄ c o h1 h2 e), hn₄.sameBut hs₆ (Ne.symm hDC), ?_⟩
        · show IntsAre (ys ++ [.int i t]) (tI bs i ++ if bs.getD i false = true then [(i : Int)] else [])
          rw [if_pos hb]; exact intsAre_snoc hys _ _
        · obtain ⟨⟨old, ho⟩, h2, h3⟩ := hst₄
          exact ⟨⟨old, hs₆.extBut _ _ (Ne.symm hDe) ho⟩, h2.at fun o e => hs₆.extBut _ o (Ne.symm hDi) e, h3.at fun o e => hs₆.extBut _ o (below l hll).2 e⟩
        · exact hD₆.trans (congrArg some (LCg.lst_snoc ys _))
    · have hin : i = bs.length := Nat.le_antisymm hi (Nat.not_lt.mp hlt)
      subst hin
      refine Wk.done _ _ _ hst fun h₂ tk₂ hk₂ => ?_
      have hup : ∀ c o, c ≠ e → c ≠ it → h'.get? c = some o → h₂.get? c = some o := fun c o h1 h2 e => hk₂ c o (by simp [h1, h2]) e
      exact hRR _ _ h₂ tk₂ _ ys (fun c o h1 h2 e => hup c o h1 h2 (hkeep c o h1 h2 e)) (hup _ _ (Ne.symm (below e hel).2) (Ne.symm (below it hil).2) hD') hys (hn'.at' fun o e => hup _ o (Ne.symm (below _ hel).1) (Ne.symm (below it hil).1) e) (fresh _ (by rw [hC]; exact Nat.le_succ _)) (fresh _ (Nat.le_refl _)) (Ne.symm hDC)
  refine codeAny_compStart_list (loop _ rfl) (wpAny_pyIter_enum (old _ _ hE) (loop _ rfl))
end
section
variable {W : Wd} {d : Nat} {X : Fx} {g : G} {Q : PV → Prop}
/-- [a for a, b in enumerate(e) if b], e a list of truths -/
theorem EV.compEnum {a b : Str} {pa pb pn pt tp rp cp pos : Pos} {kk : Nat} {e : PySem.Expr} {scope : Scope} (bs : List Bool) (hl : nsIn W.K mainGlobals (Str.ofString "enumerate") = some none)
    (h : EV W d X e g fun p => p = .bls bs) (hlen : bs.length ≤ 1000000) (hQ : Q (.lst (tI bs bs.length)))
    (hclos : closureFor scope X.env = pure [] := by with_unfolding_all rfl) (hcell : ∀ y ∈ scope.names, y.2 ≠ .cell := by decide) (hkind : scope.kind = .function := by rfl)
    (hnames : ∀ y ∈ scope.names, y.2 = .local → scope.names.lookup y.1 = some .local := by decide) (hxa : scope.names.lookup a = some .local := by rfl) (hxb : scope.names.lookup b = some .local := by rfl) (hab : ¬ a = b := by decide)
    (hda : (a == ("__debug__" : Str)) = false := by decide) (hdb : (b == ("__debug__" : Str)) = false := by decide)
    (hk : X.env.kindOf (Str.ofString "enumerate") = some .globalImplicit := by rfl)
    (hit : ∀ env : Env, isTrue (.Name b pt) env (eval (.Name b pt) env) = (do let v ← eval (.Name b pt) env; standAt (PySem.Expr.Name b pt).pos; holding [v] (truthy v)) := by intro _; rfl)
    (he : ∀ env : Env, starEach [e] env = [(false, eval e env)] := by intro _; rfl)
    (hs : ∀ env : Env, ∀ x, foldedSetIterable (.Call (.Name (Str.ofString "enumerate") rp) [e] [] cp) env x = pure x := by intro _ _; rfl)
    (hc : ∀ env : Env, eval (.Call (.Name (Str.ofString "enumerate") rp) [e] [] cp) env = (do callWith cp (← eval (.Name (Str.ofString "enumerate") rp) env) [] (backTo cp (starEach [e] env)) (backToKw cp (keywordEach [] env))) := by intro _; rfl) :
    EV W d X (.ListComp (.Name a pn) [⟨.Tuple [.Name a pa, .Name b pb] kk tp, .Call (.Name (Str.ofString "enumerate") rp) [e] [] cp, [.Name b pt], 0⟩] scope pos) g Q := by
  intro ok s m T QQ F N N₀ S hb
  rw [eval_ListComp]
  refine wpAny_comprehension_free (use := none) rfl (hs _) hclos hkind hnames ?_
  refine Call_ (bname ok F hl (v := .type "enumerate") (by boot_by_name) (by decide) ?_ hk) (hc _)
  rw [he]
  refine PySem.callWith_type rfl (Calls.evalArgs_plain (Calls.spliced_cons (h ok s m T _ F N S fun v p h1 t1 T1 F1 N1 hs1 r1 q1 => Calls.spliced_nil ?_)))
  subst q1
  cases r1 with | @bls l n _ hm =>
  have hlsize : l < h1.objs.size := Heap.lt_size (N1 _ hm).1
  refine call_enumerate_list (s := { s with heap := h1, toks := t1 }) (IsL_of N1 hm) fun h' hE hI hsz hkeep => ?_
  refine wpAny_pyIter_enum (s := { s with heap := h', toks := t1 }) hE ?_
  refine enum_block (A := X.A) (env := X.env) (bs := bs) rfl (Nat.succ_ne_self _) (Nat.ne_of_lt (Nat.lt_succ_of_lt hlsize)) (Nat.ne_of_lt hlsize) (by rw [sizeLine_eq]; lia) hE hI ((IsL_of N1 hm).at fun o e => hkeep _ _ e) hcell hkind hxa hxb hab hda hdb hit ?_
  intro D C h2 tk m' ys hup hD hys hn hC hD0 hCD
  have up : ∀ c o, h1.get? c = some o → h2.get? c = some o := fun c o e => hup c o (fun q => by rw [q] at e; exact absurd (Heap.lt_size e) (Nat.not_lt_of_le (Nat.le_succ _))) (fun q => by rw [q] at e; exact absurd (Heap.lt_size e) (Nat.lt_irrefl _)) (hkeep c o e)
  have new : ∀ c, h'.get? c = none → h1.get? c = none := fun c hc => by
    cases e : h1.get? c with
    | none => rfl
    | some o => rw [hkeep _ _ e] at hc; cases hc
  refine ⟨m', hn, fun h3 hs3 => ?_⟩
  have up3 : ∀ c o, h1.get? c = some o → h3.get? c = some o := fun c o e => hs3.extBut c o (fun q => by rw [q, new C hC] at e; cases e) (up c o e)
  have hD1 := new D hD0
  refine hb (.ref D) _ _ _ ((D, listOf ys.toArray ys.length) :: T1) (F1.keeps up3) (fun q hq => ?_) (fun q hq => .tail _ (hs1 _ hq)) (.lst (.head _) hys) hQ
  rcases List.mem_cons.mp hq with rfl | hq
  · refine ⟨hs3.extBut _ _ (Ne.symm hCD) hD, fun e => ?_, ?_⟩
    · obtain ⟨o, ho⟩ : ∃ o, h1.get? X.L = some o := by obtain ⟨o, _, _, ho, _⟩ := F1.ns; exact ⟨_, ho⟩
      rw [show D = X.L from e, ho] at hD1; cases hD1
    · cases e : X.h₀.get? D with
      | none => rfl
      | some o => rw [F1.keep _ _ e] at hD1; cases hD1
  · exact ⟨up3 _ _ (N1 q hq).1, (N1 q hq).2⟩
end
noncomputable def iterOk (place : Array Nat) : Bool := (List.range (place.size + 1)).all fun i => SetTable.below place (if i = 0 then 0 else place.getD (i - 1) 0 + 1) == i
noncomputable abbrev setObj (es : Array (Int × Value)) (ep : Nat) (t : SetTable) : Obj := { cls := .type "set", dict := none, data := .set es ep t, slots := #[] }
noncomputable abbrev itObj (slot i : Nat) (a : Addr) (n ep : Nat) : Obj := { cls := .type "set_iterator", dict := none, data := .fields #[.int slot 0, .int i 0, .ref a, .int n 0, .int ep 0], slots := #[] }
noncomputable abbrev byTxt (w : World) : Bool := w.params.followText "set-order"
noncomputable def ordOf (w : World) (a : Addr) (ep : Nat) (es : Array (Int × Value)) : Array (Int × Value) := if byTxt w = true then pickOrder (w.params.setOrder a ep) es else es
noncomputable def slotOf (w : World) (place : Array Nat) (i : Nat) : Nat := if byTxt w = true then 0 else if i = 0 then 0 else place.getD (i - 1) 0 + 1
/-- a table that can be walked -/
noncomputable def TabOk (w : World) (n : Nat) (t : SetTable) : Prop := t.fits n = true ∧ (byTxt w = false → t.plain = true ∧ t.led = true ∧ iterOk t.place = true)
theorem pick_go {α : Type} (next : Nat → Nat) : ∀ (fuel k : Nat) (left : List α) (out : Array α), left.length = fuel → List.Perm (pickOrder.go next fuel k left out).toList (out.toList ++ left)
  | 0, k, left, out, h => by
    have : left = [] := List.length_eq_zero_iff.mp h
    subst this
    simp [pickOrder.go]
  | fuel + 1, k, left, out, h => by
    unfold pickOrder.go
    have hlt : next k % left.length < left.length := Nat.mod_lt _ (by lia)
    rw [List.getElem?_eq_getElem hlt]
    dsimp only
    refine (pick_go next fuel (k + 1) _ _ ?_).trans ?_
    · rw [List.length_eraseIdx_of_lt hlt]; lia
    · rw [Array.toList_push, List.append_assoc]
      refine List.Perm.append_left _ ?_
      show List.Perm (left[next k % left.length] :: left.eraseIdx (next k % left.length)) left
      generalize next k % left.length = j at hlt
      rw [List.eraseIdx_eq_take_drop_succ]
      refine List.perm_middle.symm.trans ?_
      rw [← List.drop_eq_getElem_cons hlt, List.take_append_drop]
theorem pick_perm {α : Type} (next : Nat → Nat) (xs : Array α) : List.Perm (pickOrder next xs).toList xs.toList := by
  have := pick_go next xs.size 0 xs.toList #[] (by simp)
  simpa [pickOrder] using this
theorem ord_perm (w : World) (a : Addr) (ep : Nat) (es : Array (Int × Value)) : List.Perm (ordOf w a ep es).toList es.toList := by
  unfold ordOf
  split
  · exact pick_perm _ _
  · exact .rfl
theorem ord_size (w : World) (a : Addr) (ep : Nat) (es : Array (Int × Value)) : (ordOf w a ep es).size = es.size := by
  have := (ord_perm w a ep es).length_eq
  simpa using this
theorem iterOk_at {place : Array Nat} (h : iterOk place = true) {i : Nat} (hi : i ≤ place.size) : SetTable.below place (if i = 0 then 0 else place.getD (i - 1) 0 + 1) = i := by
  have := List.all_eq_true.mp h i (List.mem_range.mpr (by lia))
  simpa using this
section
variable {prog : Program} {w : World} {A : Around} {E : Value → Shared → Prop} {s : Shared}
theorem setWalk_txt {a : Addr} {es : Array (Int × Value)} {ep : Nat} {t : SetTable} {Q : Array (Int × Value) → Shared → Prop} (ho : s.heap.get? a = some (setObj es ep t)) (hf : t.fits es.size = true) (hb : byTxt w = true)
    (h : Q (pickOrder (w.params.setOrder a ep) es) s) : wpAny (model prog w) A (setWalk a) Q E s := by
  unfold setWalk
  refine wpAny_bind (wpAny_setState_of ho rfl hf ?_)
  dsimp only
  unfold setsByText
  refine wpAny_bind (wpAny_bind (wpAny_askSetting (wpAny_pure ?_)))
  show wpAny _ _ (if byTxt w = true then _ else _) _ _ _
  rw [if_pos hb]
  exact wpAny_bind (wpAny_askSetting (wpAny_pure h))
theorem setNext_at {a : Addr} {es : Array (Int × Value)} {ep : Nat} {t : SetTable} {i : Nat} {Q : Option (Value × Nat) → Shared → Prop} (ho : s.heap.get? a = some (setObj es ep t)) (ht : TabOk w es.size t) (hi : i ≤ es.size)
    (h : Q ((ordOf w a ep es)[i]?.map fun e => (e.2, slotOf w t.place (i + 1))) s) : wpAny (model prog w) A (setNext a (slotOf w t.place i) i ep) Q E s := by
  obtain ⟨hf, hp⟩ := ht
  have hsz : t.place.size = es.size := by
    simp only [SetTable.fits, Bool.and_eq_true, beq_iff_eq] at hf; exact hf.1
  unfold setNext
  refine wpAny_bind (wpAny_setState_of ho rfl hf ?_)
  dsimp only
  unfold setsByText
  refine wpAny_bind (wpAny_bind (wpAny_askSetting (wpAny_pure ?_)))
  show wpAny _ _ (if byTxt w = true then _ else _) _ _ _
  by_cases hb : byTxt w = true
  · rw [if_pos hb]
    rw [if_neg (by simp)]
    refine wpAny_bind (setWalk_txt ho hf hb (wpAny_pure ?_))
    have e1 : ordOf w a ep es = pickOrder (w.params.setOrder a ep) es := by unfold ordOf; rw [if_pos hb]
    have e2 : ∀ j, slotOf w t.place j = 0 := fun j => by unfold slotOf; rw [if_pos hb]
    rw [e1, e2] at h
    rw [e2]
    exact h
  · rw [if_neg hb]
    have hb' : byTxt w = false := by simpa using hb
    obtain ⟨h1, h2, h3⟩ := hp hb'
    refine wpAny_ite_split (fun hab => ?_) (fun _ => ?_)
    · exfalso
      have : (!t.plain && decide (es.size > 1)) = true := hab
      rw [h1] at this; simp at this
    refine wpAny_bind ?_
    show wpAny _ _ (if (!t.led && !es.isEmpty) = true then unsupported _ else pure ()) _ _ _
    rw [h2, if_neg (by simp)]
    refine wpAny_pure ?_
    have e1 : ordOf w a ep es = es := by unfold ordOf; rw [if_neg hb]
    have e2 : ∀ j, slotOf w t.place j = if j = 0 then 0 else t.place.getD (j - 1) 0 + 1 := fun j => by unfold slotOf; rw [if_neg hb]
    rw [e2, iterOk_at h3 (by lia)]
    rw [e1, e2] at h
    refine wpAny_pure ?_
    by_cases hlt : i < es.size
    · have g1 : es[i]? = some es[i] := Array.getElem?_eq_getElem hlt
      have g2 : t.place[i]? = some t.place[i] := Array.getElem?_eq_getElem (by omega)
      rw [g1] at h ⊢
      rw [g2]
      have g3 : t.place.getD (i + 1 - 1) 0 = t.place[i] := by rw [Nat.add_sub_cancel, Array.getD_eq_getD_getElem?, g2]; rfl
      rw [if_neg (Nat.succ_ne_zero _), g3] at h
      exact h
    · have g1 : es[i]? = none := Array.getElem?_eq_none (by lia)
      rw [g1] at h ⊢
      exact h
end
theorem slot_si_next : Slot "set_iterator" "__next__" "set_iterator.__next__" :=
  .of (owner := "set_iterator") (n := "__next__") (by rw [typeLookup_type, builtinLookup_eq_fast]; kernel_rfl) (by decide +kernel) (by decide +kernel) (by decide +kernel)
    (by first | exact .inl (by decide +kernel) | exact .inr (by decide +kernel)) (by rw [isSubtype_type]; kernel_rfl)
theorem entry_si_next : entryFor table "set_iterator.__next__" = some Builtin.«set_iterator.__next__» := entryFor_of_tree (by kernel_rfl)
theorem owner_si : Manifest.owners.lookup (String.ofList ['r', 'o', 't', 'a', 'r', 'e', 't', 'i', '_', 't', 'e', 's'].reverse) = some Manifest.sig_set_iterator := by kernel_rfl
theorem args_si_next (a : Value) : argsOk "set_iterator.__next__" ⟨[a], []⟩ := by
  unfold argsOk; rw [signature?_of (id := "set_iterator.__next__") (n := ['_', '_', 't', 'x', 'e', 'n', '_', '_']) (o := ['r', 'o', 't', 'a', 'r', 'e', 't', 'i', '_', 't', 'e', 's']) (by kernel_rfl) owner_si]; kernel_rfl
theorem slot_si_iter : Slot "set_iterator" "__iter__" "set_iterator.__iter__" :=
  .of (owner := "set_iterator") (n := "__iter__") (by rw [typeLookup_type, builtinLookup_eq_fast]; kernel_rfl) (by decide +kernel) (by decide +kernel) (by decide +kernel)
    (by first | exact .inl (by decide +kernel) | exact .inr (by decide +kernel)) (by rw [isSubtype_type]; kernel_rfl)
theorem args_si_iter (a : Value) : argsOk "set_iterator.__iter__" ⟨[a], []⟩ := by
  unfold argsOk; rw [signature?_of (id := "set_iterator.__iter__") (n := ['_', '_', 'r', 'e', 't', 'i', '_', '_']) (o := ['r', 'o', 't', 'a', 'r', 'e', 't', 'i', '_', 't', 'e', 's']) (by kernel_rfl) owner_si]; kernel_rfl
theorem entry_si_iter : entryFor table "set_iterator.__iter__" = some Builtin.«dict_keyiterator.__iter__» :=
  entryFor_alias (id' := "dict_keyiterator.__iter__") (by kernel_rfl) (by first | rfl | decide +kernel | (unfold String.splitOn; simp +decide [String.splitOnAux])) (by decide +kernel) (by kernel_rfl)
theorem entry_set_iter : entryFor table "set.__iter__" = some Builtin.«frozenset.__iter__» :=
  entryFor_alias (id' := "frozenset.__iter__") (by kernel_rfl) (by first | rfl | decide +kernel | (unfold String.splitOn; simp +decide [String.splitOnAux])) (by decide +kernel) (by kernel_rfl)
section
variable {prog : Program} {w : World} {A : Around} {E : Value → Shared → Prop} {s : Shared} {a : Addr} {es : Array (Int × Value)} {ep : Nat} {t : SetTable}
theorem setDrawn_no {Q : Bool → Shared → Prop} (ho : s.heap.get? a = some (setObj es ep t)) (ht : TabOk w es.size t) (h : Q false s) : wpAny (model prog w) A (setDrawn a) Q E s := by
  unfold setDrawn
  refine wpAny_bind (wpAny_setState_of ho rfl ht.1 ?_)
  dsimp only
  unfold setsByText
  refine wpAny_bind (wpAny_bind (wpAny_askSetting (wpAny_pure ?_)))
  refine wpAny_pure ?_
  show Q (!byTxt w && (!t.plain && decide (es.size > 1))) s
  have e : (!byTxt w && (!t.plain && decide (es.size > 1))) = false := by
    by_cases hb : byTxt w = true
    · rw [hb]; rfl
    · have hb' : byTxt w = false := by simpa using hb
      rw [(ht.2 hb').1]; simp
  rw [e]; exact h
theorem pyIter_set {Q : Value → Shared → Prop} (ho : s.heap.get? a = some (setObj es ep t)) (ht : TabOk w es.size t)
    (h : Q (.ref s.heap.objs.size) { s with heap := s.heap.push (itObj (slotOf w t.place 0) 0 a es.size ep) }) : wpAny (model prog w) A (pyIter (.ref a)) Q E s := by
  have hT : s.TypeIs (.ref a) "set" := ⟨_, ho, rfl⟩
  refine wpAny_pyIter_slot hT PySem.F.slot_set_iter (wpAny_call_entry PySem.F.slot_set_iter hT entry_set_iter ?_ (PySem.F.args_set_iter_1 _))
  unfold Builtin.«frozenset.__iter__» Builtin.Frozenset.slot0 slotArgs
  simp only [List.isEmpty_nil, Bool.not_true, Bool.false_eq_true, ↓reduceIte, bind_assoc, List.length_nil, bne_self_eq_false]
  unfold Builtin.Frozenset.addrOf Builtin.Frozenset.sizeOf
  refine wpAny_bind (wpAny_pure ?_)
  try dsimp only
  refine wpAny_bind (wpAny_pure ?_)
  refine wpAny_bind (wpAny_bind (wpAny_setEntries_of ho rfl ht.1 (wpAny_pure ?_)))
  refine wpAny_bind (setDrawn_no ho ht ?_)
  rw [if_neg (by decide)]
  refine wpAny_bind (wpAny_pure ?_)
  refine wpAny_bind (wpAny_setEpoch_of ho rfl ht.1 ?_)
  refine wpAny_bind (wpAny_newObj_type (wpAny_pure ⟨_, rfl, "set_iterator", _, ⟨_, Heap.get?_push_size _ rfl, rfl⟩, slot_si_next.lookup, ?_⟩))
  have e : slotOf w t.place 0 = 0 := by unfold slotOf; split <;> rfl
  rw [e] at h
  exact h
theorem hint_set {Q : Bool → Shared → Prop} (hT : s.TypeIs (.ref a) "set") (h : Q false s) : wpAny (model prog w) A (Builtin.List.listLengthHint (.ref a)) Q E s := by
  unfold Builtin.List.listLengthHint
  refine wpAny_bind (wpAny_specialOf hT PySem.F.slot_set_len.lookup ?_)
  generalize hid : ("set.__len__" : String) = id0
  wp_delta
  rw [show splitId id0 = some ("set", "__len__") from by subst hid; decide +kernel]
  subst hid
  refine wpAny_bind (wpAny_isInstance (T := "set") (b := true) hT (by rw [isSubtype_type]; kernel_rfl) ?_)
  refine wpAny_ite_split (fun hab => absurd hab (by decide)) (fun _ => ?_)
  refine wpAny_ite_split (fun _ => ?_) (fun hab => absurd (by decide +kernel) hab)
  refine wpAny_bind (wpAny_typeOf hT ?_)
  exact wpAny_pure h
theorem pyNext_item {it : Addr} {i : Nat} {x : Int × Value} {Q : Option Value → Shared → Prop} (hne : a ≠ it) (ho : s.heap.get? a = some (setObj es ep t)) (ht : TabOk w es.size t)
    (hit : s.heap.get? it = some (itObj (slotOf w t.place i) i a es.size ep)) (hx : (ordOf w a ep es)[i]? = some x)
    (hQ : ∀ h', h'.get? it = some (itObj (slotOf w t.place (i + 1)) (i + 1) a es.size ep) → Heap.SameBut it s.heap h' → Q (some x.2) { s with heap := h' }) :
    wpAny (model prog w) A (pyNext (.ref it)) Q E s := by
  have hT : s.TypeIs (.ref it) "set_iterator" := ⟨_, hit, rfl⟩
  have hi : i < es.size := by
    rcases Nat.lt_or_ge i es.size with h | h
    · exact h
    · rw [Array.getElem?_eq_none (by rw [ord_size]; exact h)] at hx; cases hx
  unfold pyNext
  refine wpAny_bind (wpAny_attempt (wpAny_callSpecial?_slot (name := Str.ofString "__next__") hT slot_si_next
    (wpAny_call_entry slot_si_next hT entry_si_next ?_ (args_si_next _))))
  unfold Builtin.«set_iterator.__next__» slotArgs
  simp only [List.isEmpty_nil, Bool.not_true, Bool.false_eq_true, ↓reduceIte, bind_assoc, List.length_nil, bne_self_eq_false]
  refine wpAny_bind (wpAny_pure ?_)
  refine wpAny_bind (wpAny_fieldsOf hit rfl ?_)
  show wpAny _ _ (setEntries a >>= _) _ _ _
  refine wpAny_bind (wpAny_setEntries_of ho rfl ht.1 ?_)
  rw [if_neg (by simp)]
  show wpAny _ _ (setNext a ((slotOf w t.place i : Nat) : Int).toNat ((i : Nat) : Int).toNat ((ep : Nat) : Int).toNat >>= _) _ _ _
  rw [Int.toNat_natCast, Int.toNat_natCast, Int.toNat_natCast]
  refine wpAny_bind (setNext_at ho ht (by exact Nat.le_of_lt ‹_›) ?_)
  rw [hx]
  show wpAny _ _ (setField (.ref it) 0 (rawInt (slotOf w t.place (i + 1))) >>= _) _ _ _
  refine wpAny_bind (wpAny_setField_rec hit (by simp) fun h1 hg1 hs1 => ?_)
  refine wpAny_bind (wpAny_setField_rec hg1 (by simp) fun h2 hg2 hs2 => ?_)
  refine wpAny_pure ⟨x.2, rfl, wpAny_pure (hQ h2 ?_ (hs1.trans hs2))⟩
  rw [hg2]
  simp [rawInt]
theorem pyNext_end {it : Addr} {Q : Option Value → Shared → Prop} (hh : A.handled = none) (hne : a ≠ it) (ho : s.heap.get? a = some (setObj es ep t)) (ht : TabOk w es.size t)
    (hit : s.heap.get? it = some (itObj (slotOf w t.place es.size) es.size a es.size ep))
    (hQ : ∀ h', Heap.ExtBut it s.heap h' → Q none { s with heap := h' }) :
    wpAny (model prog w) A (pyNext (.ref it)) Q E s := by
  have hT : s.TypeIs (.ref it) "set_iterator" := ⟨_, hit, rfl⟩
  unfold pyNext
  refine wpAny_bind (wpAny_attempt (wpAny_callSpecial?_slot (name := Str.ofString "__next__") hT slot_si_next
    (wpAny_call_entry slot_si_next hT entry_si_next ?_ (args_si_next _))))
  unfold Builtin.«set_iterator.__next__» slotArgs
  simp only [List.isEmpty_nil, Bool.not_true, Bool.false_eq_true, ↓reduceIte, bind_assoc, List.length_nil, bne_self_eq_false]
  refine wpAny_bind (wpAny_pure ?_)
  refine wpAny_bind (wpAny_fieldsOf hit rfl ?_)
  show wpAny _ _ (setEntries a >>= _) _ _ _
  refine wpAny_bind (wpAny_setEntries_of ho rfl ht.1 ?_)
  rw [if_neg (by simp)]
  show wpAny _ _ (setNext a ((slotOf w t.place es.size : Nat) : Int).toNat ((es.size : Nat) : Int).toNat ((ep : Nat) : Int).toNat >>= _) _ _ _
  rw [Int.toNat_natCast, Int.toNat_natCast, Int.toNat_natCast]
  refine wpAny_bind (setNext_at ho ht (Nat.le_refl _) ?_)
  rw [Array.getElem?_eq_none (by rw [ord_size]; exact Nat.le_refl _)]
  show wpAny _ _ (setField (.ref it) 2 .none >>= _) _ _ _
  refine wpAny_bind (wpAny_setField_rec hit (by simp) fun h1 hg1 hs1 => ?_)
  show wpAny _ _ (newExc (.type "StopIteration") [] >>= _) _ _ _
  refine wpAny_bind ?_
  simp only [newExc, newTuple]
  refine wpAny_bind (wpAny_newObj_type ?_ (by size_fits))
  refine wpAny_bind (m := firstArgMember _ _) (wpAny_of_eq (a := Value.none) (by first | rfl | (simp only [firstArgMember]; rfl)) ?_)
  refine wpAny_newObj_type ?_ (by size_fits)
  simp only [raiseNew]
  refine wpAny_bind (wpAny_handled ?_)
  first | rw [show A.in1.handled = none from hh] | rw [hh]
  refine wpAny_bind (wpAny_pure (wpAny_throw ?_))
  refine wpAny_bind (wpAny_isInstance (T := "StopIteration") (b := true) ⟨_, Heap.get?_push_size _ rfl, rfl⟩ isSubtype_stop ?_)
  exact wpAny_pure (hQ _ ((hs1.extBut.push _).push _))
theorem pyIter_si {it : Addr} {sl i n : Nat} {Q : Value → Shared → Prop} (hit : s.heap.get? it = some (itObj sl i a n ep)) (h : Q (.ref it) s) : wpAny (model prog w) A (pyIter (.ref it)) Q E s := by
  have hT : s.TypeIs (.ref it) "set_iterator" := ⟨_, hit, rfl⟩
  refine wpAny_pyIter_slot hT slot_si_iter (wpAny_call_entry slot_si_iter hT entry_si_iter ?_ (args_si_iter _))
  show wpAny _ _ (ret (.ref it)) _ _ s
  exact wpAny_pure ⟨_, rfl, "set_iterator", _, hT, slot_si_next.lookup, h⟩
end
theorem walks_set {prog : Program} {w : World} {A : Around} {a it : Addr} {es : Array (Int × Value)} {ep : Nat} {t : SetTable} (hh : A.handled = none) (hne : a ≠ it) (ht : TabOk w es.size t) :
    Walks prog w A it [it, a] [it] es.size (fun i v => ∃ x, (ordOf w a ep es)[i]? = some x ∧ v = x.2) (fun i h => h.get? it = some (itObj (slotOf w t.place i) i a es.size ep) ∧ h.get? a = some (setObj es ep t)) where
  sub := fun b hb => by simp at hb; simp [hb]
  frame := fun _ _ _ st hk => ⟨hk it (by simp) _ st.1, hk a (by simp) _ st.2⟩
  item := fun i s Q E hi st hQ => by
    have hlt : i < (ordOf w a ep es).size := by rw [ord_size]; exact hi
    have hx : (ordOf w a ep es)[i]? = some (ordOf w a ep es)[i] := Array.getElem?_eq_getElem hlt
    refine pyNext_item hne st.2 ht st.1 hx fun h' hg hs' => ?_
    exact hQ _ h' s.toks ⟨_, hx, rfl⟩ ⟨hg, hs'.extBut _ _ hne st.2⟩ fun b o hb e => hs'.extBut b o (fun h => hb (by simp [h])) e
  done := fun s Q E st hQ => pyNext_end hh hne st.2 ht st.1 fun h' he' => hQ h' s.toks fun b o hb e => he' b o (fun h => hb (by simp [h])) e
  self := fun _ _ _ _ st hQ => pyIter_si st.1 hQ
theorem src_set {prog : Program} {w : World} {a : Addr} {es : Array (Int × Value)} {ep : Nat} {t : SetTable} (ht : TabOk w es.size t) :
    KdlSrc prog w "set" a a es.size (fun i v => ∃ x, (ordOf w a ep es)[i]? = some x ∧ v = x.2) (fun h => h.get? a = some (setObj es ep t)) where
  type := fun _ hm => ⟨_, hm, rfl⟩
  there := fun _ hm => ⟨Heap.lt_size hm, Heap.lt_size hm⟩
  keep := fun _ _ hm hk => hk a (.inl rfl) _ hm
  notList := by decide
  notTuple := by decide
  hint := fun _ _ _ _ hm hq => hint_set ⟨_, hm, rfl⟩ hq
  iter := fun _ _ hh hm => ⟨_, _, (fun _ _ hq => pyIter_set hm ht hq), walks_set hh (Nat.ne_of_lt (Heap.lt_size hm)) ht, ⟨Heap.get?_push_size _ rfl, Heap.get?_push_of_some _ hm⟩⟩
/-- the entries are ints beside themselves -/
noncomputable def IntEs (es : List (Int × Value)) : Prop := ∀ e ∈ es, ∃ t, e.2 = .int e.1 t
theorem intEs_are : ∀ {es : List (Int × Value)}, IntEs es → IntsAre (es.map (·.2)) (es.map (·.1))
  | [], _ => .nil
  | e :: r, h => by
    obtain ⟨t, ht⟩ := h e (.head _)
    rw [List.map_cons, List.map_cons, ht]
    exact .cons _ _ (intEs_are fun x hx => h x (.tail _ hx))
theorem list_eq_of {vs ws : List Value} (hl : vs.length = ws.length) (h : ∀ (j : Nat) (v : Value), vs[j]? = some v → ws[j]? = some v) : vs = ws := by
  refine List.ext_getElem? fun j => ?_
  rcases Nat.lt_or_ge j vs.length with hj | hj
  · have e := List.getElem?_eq_getElem hj
    rw [e, h j _ e]
  · rw [List.getElem?_eq_none hj, List.getElem?_eq_none (by lia)]
section
variable {prog : Program} {w : World} {A : Around} {E : Value → Shared → Prop} {s : Shared} {a : Addr} {es : Array (Int × Value)} {ep : Nat} {t : SetTable}
theorem sorted_set {h₀ : Heap} {L : Addr} {m : Str → Option Value} {news : List (Addr × Obj)} {Q : Value → Shared → Prop} (hh : A.handled = none) (F : Fr h₀ L s.heap m) (N : News h₀ L s.heap news)
    (ho : s.heap.get? a = some (setObj es ep t)) (ht : TabOk w es.size t) (hi : IntEs es.toList) (h64 : es.size < 64)
    (h : ∀ (D : Addr) (h' : Heap) (tk : Nat) (vs' : List Value) (ns' : List Int) (c : Nat), Fr h₀ L h' m → News h₀ L h' ((D, PySem.W.listOf vs'.toArray c) :: news) → IntsAre vs' ns' → ns'.Perm (es.toList.map (·.1)) → ns'.Pairwise (· ≤ ·) → Q (.ref D) { s with heap := h', toks := tk }) :
    wpAny (model prog w) A (call (.builtin "sorted") [.ref a]) Q E s := by
  refine kdu_sorted (src_set ht) hh F N ho (by rw [sizeLine_eq]; lia) fun D h' tk vs F' N' hlt hl hv => ?_
  have hp := ord_perm w a ep es
  have hvs : vs = (ordOf w a ep es).toList.map (·.2) := by
    refine list_eq_of (by rw [hl, List.length_map, Array.length_toList, ord_size]) fun j v e => ?_
    obtain ⟨x, hx, rfl⟩ := hv j v e
    rw [List.getElem?_map, Array.getElem?_toList, hx]; rfl
  have hio : IntEs (ordOf w a ep es).toList := fun e he => hi e (hp.mem_iff.mp he)
  have hI := intEs_are hio
  rw [← hvs] at hI
  have hoL := (N' _ (List.Mem.head _)).1
  refine wpAny_call_entry slot_list_sort ⟨_, hoL, rfl⟩ entry_list_sort (list_sort_tree (n := 0) hoL hI (by rw [hl]; exact h64) fun out ns' a1 a2 a3 => ⟨_, rfl, ?_⟩) (args_list_sort _)
  obtain ⟨c, hc⟩ := sortedHeap_at (out := out) (vs := vs) (n := 0) hoL
  have hD := (N' _ (List.Mem.head _)).2
  have up : ∀ b o, b ≠ D → h'.get? b = some o → (sortedHeap h' D vs out).get? b = some o := fun b o hb e => (sortedHeap_old hb (Heap.lt_size e)).trans e
  refine h D _ tk out.toList ns' c ⟨F'.ns.at' fun o e => up _ o (fun q => hD.1 q.symm) e, fun b o e => up b o (fun q => by rw [q, hD.2] at e; cases e) (F'.keep b o e), F'.above⟩ (fun p hp' => ?_) a1 (a2.trans (hp.map _)) a3
  rcases List.mem_cons.mp hp' with rfl | hp'
  · exact ⟨by simpa using hc, hD.1, hD.2⟩
  · exact ⟨up _ _ (Nat.ne_of_lt (hlt p hp')) (N' p (List.mem_cons_of_mem _ hp')).1, (N' p (List.mem_cons_of_mem _ hp')).2⟩
end
/-- the values are let go -/
noncomputable def er (es : Array (Int × Value)) : Array (Int × Value) := (es.toList.map fun e => (e.1, Value.none)).toArray
theorem er_toList (es : Array (Int × Value)) : (er es).toList = es.toList.map fun e => (e.1, Value.none) := by unfold er; simp
theorem er_size (es : Array (Int × Value)) : (er es).size = es.size := by unfold er; simp
theorem er_ext {a b : Array (Int × Value)} (h : a.toList = b.toList) : a = b := Array.toList_inj.mp h
theorem er_insert (es : Array (Int × Value)) (p : Nat) (h : Int) (x : Value) : SetTable.insertAt (er es) p (h, Value.none) = er (SetTable.insertAt es p (h, x)) := by
  apply er_ext
  rw [er_toList, SetTable.toList_insertAt, SetTable.toList_insertAt, er_toList]
  simp [List.map_take, List.map_drop]
theorem er_push (es : Array (Int × Value)) (h : Int) (x : Value) : (er es).push (h, Value.none) = er (es.push (h, x)) := by
  apply er_ext
  rw [er_toList]
  simp [er]
theorem layNew_er (t : SetTable) (es : Array (Int × Value)) (h : Int) (x : Value) : layNew t (er es) h .none = (er (layNew t es h x).1, (layNew t es h x).2) := by
  unfold layNew
  split
  · rename_i slot wd e
    dsimp only
    rw [er_insert es _ h x, er_size]
  · rw [er_push es h x, er_size]
theorem er_map (es : Array (Int × Value)) : (er es).map (·.1) = es.map (·.1) := by
  apply Array.toList_inj.mp
  rw [Array.toList_map, Array.toList_map, er_toList, List.map_map]
  rfl
theorem er_pick (order : Array Nat) (es : Array (Int × Value)) : order.filterMap ((er es)[·]?) = er (order.filterMap (es[·]?)) := by
  apply er_ext
  rw [er_toList, Array.toList_filterMap, Array.toList_filterMap, List.map_filterMap]
  congr 1
  funext i
  rw [← Array.getElem?_toList, er_toList, List.getElem?_map, Array.getElem?_toList]
theorem relayAll_er (t : SetTable) (es : Array (Int × Value)) (wanted : Nat) : relayAll t (er es) wanted = (er (relayAll t es wanted).1, (relayAll t es wanted).2) := by
  unfold relayAll
  rw [er_map, er_size]
  split
  · dsimp only
    rw [er_pick, er_size]
    split <;> rfl
  · rfl
noncomputable def sstep (st : Array (Int × Value) × SetTable) (h : Int) : Array (Int × Value) × SetTable :=
  if st.1.toList.any (·.1 == h) then st else
    let L := layNew st.2 st.1 h .none
    if !L.2.2.1 && L.2.1.tooFull then
      let R := relayAll L.2.1 L.1 (SetTable.grown L.1.size)
      (R.1, R.2.1)
    else (L.1, L.2.1)
/-- one more element, plainly -/
noncomputable def nstep (es : Array (Int × Value)) (t : SetTable) (h : Int) (x : Value) : Array (Int × Value) × SetTable :=
  let L := layNew t es h x
  if !L.2.2.1 && L.2.1.tooFull then
    let R := relayAll L.2.1 L.1 (SetTable.grown L.1.size)
    (R.1, R.2.1)
  else (L.1, L.2.1)
theorem sstep_new {es : Array (Int × Value)} {t : SetTable} {h : Int} {x : Value} (hn : es.toList.any (·.1 == h) = false) : sstep (er es, t) h = (er (nstep es t h x).1, (nstep es t h x).2) := by
  unfold sstep nstep
  have e : (er es).toList.any (·.1 == h) = false := by rw [er_toList, List.any_map]; exact hn
  dsimp only
  rw [e, layNew_er t es h x]
  dsimp only
  rw [if_neg (by decide), er_size, relayAll_er]
  split <;> rfl
theorem nstep_perm (es : Array (Int × Value)) (t : SetTable) (h : Int) (x : Value) : List.Perm (nstep es t h x).1.toList (es.push (h, x)).toList := by
  unfold nstep
  dsimp only
  split
  · exact (relayAll_perm _ _ _).trans (layNew_perm t es h x)
  · exact layNew_perm t es h x
theorem nstep_fits (es : Array (Int × Value)) (t : SetTable) (h : Int) (x : Value) : (nstep es t h x).2.fits (nstep es t h x).1.size = true := by
  unfold nstep
  dsimp only
  split
  · exact relayAll_fits _ _ _
  · exact layNew_fits t es h x
noncomputable def SmE (es : List (Int × Value)) : Prop := ∀ e ∈ es, ∃ t, e.2 = .int e.1 t ∧ hashInt e.1 = e.1
theorem SmE.ints {es : List (Int × Value)} (h : SmE es) : IntEs es := fun e he => let ⟨t, h1, _⟩ := h e he; ⟨t, h1⟩
section
variable {prog : Program} {w : World} {A : Around} {E : Value → Shared → Prop} {s : Shared} {a : Addr} {es : Array (Int × Value)} {ep : Nat} {t : SetTable}
theorem SmE.elems {es : List (Int × Value)} (h : SmE es) : ElemsOf (intKind prog w) es := fun e he => by
  obtain ⟨u, h1, h2⟩ := h e he
  refine ⟨⟨e.1, ?_, ?_⟩, ?_⟩
  · rw [h1]; exact intKind_is _ _ _ _
  · exact h2.symm
  · rw [h1]; rfl
theorem SmE.find {es : List (Int × Value)} (h : SmE es) (k : Int) : es.any (·.1 == k) = es.any (fun e => (intKind prog w).is k e.2) := by
  have e : ∀ e ∈ es, ((e.1 == k) = (intKind prog w).is k e.2) := fun e he => by
    obtain ⟨u, h1, h2⟩ := h e he
    rw [h1]
    show (e.1 == k) = Value.isInt k (.int e.1 u)
    simp [Value.isInt]
  induction es with
  | nil => rfl
  | cons x r ih =>
    rw [List.any_cons, List.any_cons, e x (.head _), ih (fun y hy => h y (.tail _ hy)) fun y hy => e y (.tail _ hy)]
theorem add_exact {k : Int} {tk : Tok} {Q : Bool → Shared → Prop} (ho : s.heap.get? a = some (setObj es ep t)) (hs : SmE es.toList) (hf : t.fits es.size = true) (hroom : es.size + 1 < scanBound) (hk : hashInt k = k)
    (h : ∀ h' es' ep' t' b, Heap.SameBut a s.heap h' → h'.get? a = some (setObj es' ep' t') → (er es', t') = sstep (er es, t) k → SmE es'.toList → t'.fits es'.size = true →
      (es'.toList.map (·.1)).Perm (if (es.toList.any (·.1 == k)) = true then es.toList.map (·.1) else es.toList.map (·.1) ++ [k]) → Q b { s with heap := h' }) :
    wpAny (model prog w) A (setAddHashed a (.int k tk) ((intKind prog w).hash k)) Q E s := by
  have hkey : (intKind prog w).is k (.int k tk) = true := intKind_is _ _ _ _
  have hsc : (Value.int k tk).scannable = true := rfl
  have hel := hs.elems (prog := prog) (w := w)
  have hb : es.size < scanBound := by (exact Nat.le_of_lt ‹_›)
  unfold setAddHashed setAddHashedIn
  refine wpAny_holding (wpAny_bind (wpAny_setState_of ho rfl hf ?_))
  dsimp only
  rw [byScan_of hsc hb hel]
  simp only [↓reduceIte]
  unfold setAddByScan
  refine wpAny_bind ?_
  refine wpAny_bind (wpAny_rule ?_)
  refine wpAny_bind (wpAny_setScan_of hkey ho rfl hf hel ?_)
  have hfd := hs.find (prog := prog) (w := w) k
  cases hr : List.findIdx? (fun e => (intKind prog w).is k e.2) es.toList with
  | some j =>
    dsimp only
    obtain ⟨hj, hpj, _⟩ := List.findIdx?_eq_some_iff_getElem.mp hr
    have hany : es.toList.any (·.1 == k) = true := by rw [hfd]; exact List.any_eq_true.mpr ⟨_, List.getElem_mem hj, hpj⟩
    refine wpAny_pure (wpAny_pure ?_)
    have e : s = { s with heap := s.heap } := by cases s; rfl
    rw [e]
    refine h s.heap es ep t _ (Heap.SameBut.refl a s.heap) ho ?_ hs hf (by rw [if_pos hany])
    unfold sstep
    have e2 : (er es).toList.any (·.1 == k) = true := by rw [er_toList, List.any_map]; exact hany
    dsimp only
    rw [if_pos e2]
  | none =>
    dsimp only
    have hany : es.toList.any (·.1 == k) = false := by
      rw [hfd, List.any_eq_false]
      intro x hx
      have := List.findIdx?_eq_none_iff.mp hr x hx
      simp [this]
    have hgw : ∀ (b : Bool) {s₁ : Shared} {Q' : Unit → Shared → Prop}, Q' () s₁ → wpAny (model prog w) A (match b with | true => rule "set.scan.the-table-gave-way" | false => pure ()) Q' E s₁ :=
      fun b s₁ Q' hq => by cases b <;> first | exact wpAny_pure hq | exact wpAny_rule hq
    have hst := sstep_new (t := t) (x := Value.int k tk) hany
    have hnp := nstep_perm es t k (.int k tk)
    have hnf := nstep_fits es t k (.int k tk)
    have hsm : ∀ l : List (Int × Value), List.Perm l (es.push (k, Value.int k tk)).toList → SmE l := fun l p e he => by
      have := p.mem_iff.mp he
      rw [Array.toList_push] at this
      rcases List.mem_append.mp this with h1 | h1
      · exact hs e h1
      · rw [List.mem_singleton.mp h1]; exact ⟨tk, rfl, hk⟩
    have hend : ∀ h' es' ep' t' b, Heap.SameBut a s.heap h' → h'.get? a = some (setObj es' ep' t') → (es', t') = nstep es t k (.int k tk) → Q b { s with heap := h' } := by
      intro h' es' ep' t' b hsb hg he
      rw [← he] at hst hnp hnf
      refine h h' es' ep' t' b hsb hg hst.symm (hsm _ hnp) hnf ?_
      rw [hany, if_neg (by decide)]
      have := hnp.map (·.1)
      rw [Array.toList_push, List.map_append] at this
      exact this
    have hperm := layNew_perm t es k (.int k tk)
    have hfits := layNew_fits t es k (.int k tk)
    unfold nstep at hend
    have hkh : (intKind prog w).hash k = k := hk
    rw [hkh]
    generalize hL : layNew t es k (.int k tk) = L at hperm hfits hend ⊢
    obtain ⟨es1, t1, wasDummy, gave⟩ := L
    dsimp only at hperm hfits hend ⊢
    have hb1' : es1.size < scanBound := by
      rw [← Array.length_toList, hperm.length_eq]; simp; omega
    refine wpAny_bind (hgw _ ?_)
    have tail : ∀ g : Bool → Sem Unit, (∀ (b : Bool) (s₁ : Shared) (Q' : Unit → Shared → Prop), Q' () s₁ → wpAny (model prog w) A (g b) Q' E s₁) → wpAny (model prog w) A (do
        storeSet a es1 t1
        if (!wasDummy && t1.tooFull) = true then do
            g (relayAll t1 es1 (SetTable.grown es1.size)).2.2
            storeSet a (relayAll t1 es1 (SetTable.grown es1.size)).1 (relayAll t1 es1 (SetTable.grown es1.size)).2.1
            pure (some true)
          else pure (some true)) (fun r s' => ∀ b, Q b s' ∧ r = some true) E s := by
      intro gg hgg
      refine wpAny_bind (wpAny_storeSet_of ho rfl ?_ (fits_of_scanBound hb1'))
      have hg1 : (s.heap.update a (Obj.putSet es1 t1)).get? a = some (setObj es1 (ep + 1) t1) := by
        have := Heap.get?_update_self (Obj.putSet es1 t1) ho (by rw [putSet_of es1 t1 rfl]; rfl)
        rw [putSet_of es1 t1 rfl] at this; exact this
      have hsb1 := Heap.SameBut.update s.heap a (Obj.putSet es1 t1)
      by_cases hc : (!wasDummy && t1.tooFull) = true
      · rw [if_pos hc] at hend ⊢
        have hp2 := relayAll_perm t1 es1 (SetTable.grown es1.size)
        generalize hR : relayAll t1 es1 (SetTable.grown es1.size) = R at hend hp2 ⊢
        obtain ⟨es2, t2, g2⟩ := R
        dsimp only at hend hp2 ⊢
        have hsz : es2.size = es1.size := by rw [← Array.length_toList, hp2.length_eq, Array.length_toList]
        refine wpAny_bind (hgg _ _ _ ?_)
        refine wpAny_bind (wpAny_storeSet_of hg1 rfl ?_ (fits_of_scanBound (by rw [hsz]; exact hb1')))
        refine wpAny_pure fun b => ⟨?_, rfl⟩
        refine hend _ es2 (ep + 1 + 1) t2 b (hsb1.trans (Heap.SameBut.update _ a _)) ?_ rfl
        have := Heap.get?_update_self (Obj.putSet es2 t2) hg1 (by rw [putSet_of es2 t2 rfl]; rfl)
        rw [putSet_of es2 t2 rfl] at this; exact this
      · rw [if_neg hc] at hend ⊢
        exact wpAny_pure fun b => ⟨hend _ es1 (ep + 1) t1 b hsb1 hg1 rfl, rfl⟩
    refine wpAny_ite_split (fun _ => ?_) (fun _ => ?_)
    · refine wpAny_bind ?_
      rw [hashByValue_scannable 8 hsc]
      refine wpAny_pure ?_
      refine wpAny_mono (tail _ ?_) (fun r s' hrr => ?_) fun _ _ e => e
      · intro b s₁ Q' hq; cases b <;> first | exact wpAny_pure hq | exact wpAny_rule hq
      · have hr2 := (hrr true).2
        subst hr2
        exact wpAny_pure (hrr _).1
    · refine wpAny_bind (wpAny_pure ?_)
      refine wpAny_mono (tail _ ?_) (fun r s' hrr => ?_) fun _ _ e => e
      · intro b s₁ Q' hq; cases b <;> first | exact wpAny_pure hq | exact wpAny_rule hq
      · have hr2 := (hrr true).2
        subst hr2
        exact wpAny_pure (hrr _).1
end
/-- the set behind i adds -/
noncomputable def simV (led : Bool) (val : Nat → Int) (i : Nat) : Array (Int × Value) × SetTable := (List.range i).foldl (fun st j => sstep st (val j)) (#[], .fresh 0 0 led)
theorem simV_succ (led : Bool) (val : Nat → Int) (i : Nat) : simV led val (i + 1) = sstep (simV led val i) (val i) := by
  unfold simV; rw [List.range_succ, List.foldl_append]; rfl
theorem any_perm {σ τ : List Int} (p : List.Perm σ τ) (k : Int) : σ.any (· == k) = τ.any (· == k) := by
  rw [Bool.eq_iff_iff, List.any_eq_true, List.any_eq_true]
  exact ⟨fun ⟨x, h1, h2⟩ => ⟨x, p.mem_iff.mp h1, h2⟩, fun ⟨x, h1, h2⟩ => ⟨x, p.mem_iff.mpr h1, h2⟩⟩
noncomputable def SInv (led : Bool) (val : Nat → Int) (S : Addr) (i : Nat) (h : Heap) : Prop :=
  ∃ es ep t, h.get? S = some (setObj es ep t) ∧ (er es, t) = simV led val i ∧ SmE es.toList ∧ t.fits es.size = true ∧ (es.toList.map (·.1)).Perm (firstMet val i)
section
variable {prog : Program} {w : World} {A : Around} {R : Result → Shared → Prop} {I : Addr} {fp wr : List Addr} {n : Nat} {P : Nat → Value → Prop} {St : Nat → Heap → Prop}
theorem set_loop (W : Walks prog w A.in1 I fp wr n P St) (S : Addr) (hSf : S ∉ fp) (led : Bool) (val : Nat → Int) (hval : ∀ i v, P i v → ∃ t, v = .int (val i) t) (hhash : ∀ i, i < n → hashInt (val i) = val i) (hb : n + 1 < scanBound) :
    ∀ (k i : Nat) (s : Shared), n - i = k → i ≤ n → St i s.heap → SInv led val S i s.heap →
      (∀ h' tk, (∀ b o, b ∉ S :: wr → s.heap.get? b = some o → h'.get? b = some o) → SInv led val S n h' → R (.ok (.ret .none)) { s with heap := h', toks := tk }) →
      codeAny (model prog w) A (.builtin "set.update.loop" ⟨[.ref S, .ref I], []⟩) R s := by
  have hSw : S ∉ wr := fun h => hSf (W.sub _ h)
  have hsub : ∀ b, b ∉ S :: wr → b ∉ wr := fun b hb h => hb (List.mem_cons_of_mem _ h)
  intro k
  induction k with
  | zero =>
    intro i s hk hi hst hS hR
    have hin : i = n := by lia
    subst hin
    refine codeAny_builtin F.entry_set_update_loop ?_
    rw [Around.under_plainId F.plain_set_update_loop _]
    show wpAny _ A.in1 (pyNext (.ref I) >>= _) _ _ s
    refine wpAny_bind (W.done s _ _ hst fun h' tk hm => ?_)
    show wpAny _ A.in1 (ret Value.none) _ _ _
    obtain ⟨es, ep, t, h1, h2⟩ := hS
    exact wpAny_pure (hR h' tk (fun b o hb => hm b o (hsub b hb)) ⟨es, ep, t, hm S _ hSw h1, h2⟩)
  | succ k ih =>
    intro i s hk hi hst hS hR
    have hlt : i < n := by omega
    refine codeAny_builtin F.entry_set_update_loop ?_
    rw [Around.under_plainId F.plain_set_update_loop _]
    show wpAny _ A.in1 (pyNext (.ref I) >>= _) _ _ s
    refine wpAny_bind (W.item i s _ _ hlt hst fun v h1 tk1 hP hst' hm => ?_)
    obtain ⟨u, rfl⟩ := hval i v hP
    obtain ⟨es, ep, t, hg, he, hs, hf, hp⟩ := hS
    have hlen : es.size ≤ i := by
      have := hp.length_eq
      rw [List.length_map, Array.length_toList] at this
      rw [this]; exact firstMet_length_le val i
    show wpAny _ A.in1 (holding [Value.int (val i) u] (setAdd S (.int (val i) u)) >>= _) _ _ _
    refine wpAny_bind (wpAny_holding ?_)
    unfold setAdd
    refine wpAny_holding ?_
    refine wpAny_bind ((intKind prog w).pyHash (k := val i) (intKind_is _ _ _ _) ?_)
    refine add_exact (s := { s with heap := h1, toks := tk1 + 1 }) (hm S _ hSw hg) hs hf (by lia) (hhash i hlt) fun h' es' ep' t' b hsb hg' he' hs' hf' hp' => ?_
    refine wpAny_pure ⟨plainId_quiet F.plain_set_update_loop _, ih (i + 1) _ (by grind -ring -splitIte) hlt (W.frame _ _ _ hst' fun b hb o e => ?_) ⟨es', ep', t', hg', ?_, hs', hf', ?_⟩ fun h'' tk'' hm'' hS'' => ?_⟩
    · show h'.get? b = some o
      rw [hsb.2 b (fun h : b = S => hSf (by rw [← h]; exact hb))]; exact e
    · rw [he', simV_succ, ← he]
    · rw [firstMet_succ]
      have ha : es.toList.any (·.1 == val i) = (firstMet val i).any (· == val i) := by
        rw [← any_perm hp (val i), List.any_map]; rfl
      rw [ha] at hp'
      refine hp'.trans ?_
      unfold step_dedup
      split
      · exact hp
      · exact hp.append_right _
    · refine hR h'' tk'' (fun b o hb e => hm'' b o hb ?_) hS''
      show h'.get? b = some o
      rw [hsb.2 b (fun h : b = S => hb (by rw [h]; exact List.mem_cons_self))]
      exact hm b o (hsub b hb) e
end
section
variable {prog : Program} {w : World} {A : Around} {E : Value → Shared → Prop} {s : Shared}
theorem set_new (a : Value) {Q₁ : Value → Shared → Prop} (h : Q₁ (.ref s.heap.objs.size) { s with heap := s.heap.push (setObj #[] 0 (.fresh 0 0 (!byTxt w))) }) :
    codeAny (model prog w) A (.call (.builtin "set.__new__") ⟨[.type "set", a], []⟩) (wants Q₁ E) s := by
  refine codeAny_of_tree ?_
  show wpAny _ A.in1 (do checkBuiltinCall "set.__new__" ⟨[.type "set", a], []⟩; again (.builtin "set.__new__" ⟨[.type "set", a], []⟩)) _ _ s
  refine wpAny_bind (wpAny_of_eq (PySem.F.newCall_set_1 a) (wpAny_pure ⟨plainId_quiet PySem.F.plain_set_new _, codeAny_builtin PySem.F.entry_set_new ?_⟩))
  rw [Around.under_plainId PySem.F.plain_set_new _]
  unfold Builtin.«set.__new__» Builtin.Frozenset.newClass
  have hsub := PySem.sub_set_self
  obtain ⟨hp, g, d, tk, os⟩ := s
  dsimp only
  wp_walk
  refine wpAny_askSetting (wpAny_pure ?_)
  dsimp only
  simp only [newObj]
  refine wpAny_bind (wpAny_alloc (wpAny_pure ?_))
  exact wpAny_pure h
/-- set(xs), xs a list of small ints -/
theorem call_set {l : Addr} {items : Array Value} {ns : List Int} {Q : Value → Shared → Prop}
    (hh : A.handled = none) (hl : s.heap.IsList l items) (hi : IntsAre items.toList ns) (hb : items.size + 1 < scanBound) (hhash : ∀ i, i < items.size → hashInt (ns.getD i 0) = ns.getD i 0)
    (h : ∀ (h' : Heap) (tk : Nat), SInv (!byTxt w) (fun i => ns.getD i 0) s.heap.objs.size items.size h' → (∀ b o, b < s.heap.objs.size → s.heap.get? b = some o → h'.get? b = some o) → Q (.ref s.heap.objs.size) { s with heap := h', toks := tk }) :
    wpAny (model prog w) A (call (.type "set") [.ref l]) Q E s := by
  have ft := PySem.F.called_set
  obtain ⟨c, tl, hmro⟩ := ft.mro
  have hmade := ft.made
  have hsub := ft.sub
  refine wpAny_call (codeAny_of_tree ?_)
  show wpAny _ _ (callAny (.type "set") _) _ _ _
  refine wpAny_pure ⟨Code.quiet_builtin _ (by decide +kernel), codeAny_builtin PySem.F.entry_type_call ?_⟩
  rw [Around.under_plain (weight_type_call_type "set" [.ref l] []) rfl]
  have h1 := ft.notType
  have h2 := ft.canCreate
  have hct := PySem.F.typeCall_set_1 (.ref l)
  repeat (any_goals (first | assumption | wp_step))
  refine codeAny_mono (set_new (.ref l) (E := E) (Q₁ := fun obj s₁ => obj = .ref s.heap.objs.size ∧ s₁ = { s with heap := s.heap.push (setObj #[] 0 (.fresh 0 0 (!byTxt w))) }) ⟨rfl, rfl⟩) fun r s₁ hr => ?_
  cases r with
  | error e => exact hr
  | ok fl =>
    cases fl with
    | ret obj =>
      obtain ⟨rfl, rfl⟩ := hr
      have hS : (s.heap.push (setObj #[] 0 (.fresh 0 0 (!byTxt w)))).get? s.heap.objs.size = some (setObj #[] 0 (.fresh 0 0 (!byTxt w))) := Heap.get?_push_size _ rfl
      have hT : Shared.TypeIs { s with heap := s.heap.push (setObj #[] 0 (.fresh 0 0 (!byTxt w))) } (.ref s.heap.objs.size) "set" := ⟨_, hS, rfl⟩
      have hli := ft.init.lookup
      have hbi := ft.init.bind (.ref s.heap.objs.size)
      repeat (any_goals (first | assumption | wp_step))
      refine codeAny_mono (codeAny_call_builtin (R := wants (fun r s₂ => r = .none ∧ ∃ h' tk, s₂ = { s with heap := h', toks := tk } ∧
          SInv (!byTxt w) (fun i => ns.getD i 0) s.heap.objs.size items.size h' ∧ (∀ b o, b < s.heap.objs.size → s.heap.get? b = some o → h'.get? b = some o)) E) ft.init.plain PySem.F.entry_set_init (check_set_init_1 hT ?_)) fun r₂ s₂ hr₂ => ?_
      · have hl1 : (s.heap.push (setObj #[] 0 (.fresh 0 0 (!byTxt w)))).IsList l items := hl.push _
        have hT1 : Shared.TypeIs { s with heap := s.heap.push (setObj #[] 0 (.fresh 0 0 (!byTxt w))) } (.ref l) "list" := hl1.typeIs
        have hlS : l < s.heap.objs.size := by obtain ⟨o, ho, _⟩ := hl; exact Heap.lt_size ho
        have hsls := PySem.F.sub_list_set
        have hslf := PySem.F.sub_list_frozenset
        have hne : (Value.type "list" == Value.type "dict") = false := by decide
        obtain ⟨ol, hol, hcl, nl, hdl⟩ := id hl1
        obtain ⟨ocls, odict, odata, oslots⟩ := ol
        simp only at hcl hdl
        subst hcl; subst hdl
        unfold Builtin.«set.__init__» noKeywords Builtin.Frozenset.updateFrom
        generalize hPI : pyIter = PI
        wp_walk
        subst hPI
        refine wpAny_pyIter_list hl1 ?_
        refine wpAny_bind (wpAny_runValue ?_)
        have hneI : l ≠ (s.heap.push (setObj #[] 0 (.fresh 0 0 (!byTxt w)))).objs.size := by
          rw [Heap.size_push]; exact Nat.ne_of_lt (Nat.lt_succ_of_lt hlS)
        have hSf : s.heap.objs.size ∉ [(s.heap.push (setObj #[] 0 (.fresh 0 0 (!byTxt w)))).objs.size, l] := by
          rw [Heap.size_push]; simp only [List.mem_cons, List.mem_singleton, List.not_mem_nil, or_false, not_or]
          exact ⟨Nat.ne_of_lt (Nat.lt_succ_self _), Nat.ne_of_gt hlS⟩
        have hval : ∀ (i : Nat) (v : Value), items[i]? = some v → ∃ t, v = .int ((fun i => ns.getD i 0) i) t := fun i v hv =>
          PyProof.Rows.IntsAre.int_at hi i v (by rw [Array.getElem?_toList]; exact hv)
        have hh3 : A.in1.in1.in1.handled = none := by simp [hh]
        refine set_loop (Walks.list hh3 _ l hneI items) s.heap.objs.size hSf (!byTxt w) (fun i => ns.getD i 0) hval hhash hb (items.size - 0) 0 _ (by lia) (Nat.zero_le _)
          ⟨⟨_, Heap.get?_push_size _ rfl, rfl, rfl⟩, (hl1.push _)⟩ ⟨#[], 0, .fresh 0 0 (!byTxt w), Heap.get?_push_of_some _ hS, rfl, fun _ h => (by simp at h), rfl, .nil⟩ fun h' tk' hm hS' => ?_
        refine wpAny_pure ?_
        show wpAny _ _ (ret Value.none) _ _ _
        refine wpAny_pure ⟨rfl, h', tk', rfl, hS', fun b o hb e => ?_⟩
        have hb1 : b ≠ s.heap.objs.size := Nat.ne_of_lt hb
        have hb2 : b ≠ (s.heap.push (setObj #[] 0 (.fresh 0 0 (!byTxt w)))).objs.size := by
          rw [Heap.size_push]; exact Nat.ne_of_lt (Nat.lt_succ_of_lt hb)
        exact hm b o (by simp only [List.mem_cons, List.mem_singleton, List.not_mem_nil, or_false, not_or]; exact ⟨hb1, hb2⟩) (Heap.get?_push_of_some _ (Heap.get?_push_of_some _ e))
      · cases r₂ with
        | error e => exact hr₂
        | ok fl₂ =>
          cases fl₂ with
          | ret r =>
            obtain ⟨rfl, h', tk, rfl, hS', hk'⟩ := hr₂
            repeat (any_goals (first | assumption | wp_step))
            exact h _ _ hS' hk'
          | _ => exact hr₂.elim
    | _ => exact hr.elim
end
section
variable {W : Wd} {d : Nat} {X : Fx} {g : G} {Q : PV → Prop}
theorem any_of_getD {xs : List Int} {P : Int → Prop} (h : ∀ x ∈ xs, P x) {i : Nat} (hi : i < xs.length) : P (xs.getD i 0) := by
  have e : xs.getD i 0 = xs[i] := by simp [hi]
  rw [e]; exact h _ (List.getElem_mem hi)
/-- sorted(set(e)) -/
theorem EV.sortedSet {f1 f2 c1 c2 : Pos} {e : PySem.Expr} (xs out : List Int) (hl1 : nsIn W.K mainGlobals (Str.ofString "sorted") = some none) (hl2 : nsIn W.K mainGlobals (Str.ofString "set") = some none)
    (h : EV W d X e g fun p => p = .lst xs) (hlen : xs.length < 64) (hhash : ∀ x ∈ xs, hashInt x = x)
    (htab : (simV true (fun i => xs.getD i 0) xs.length).2.plain = true ∧ (simV true (fun i => xs.getD i 0) xs.length).2.led = true ∧ iterOk (simV true (fun i => xs.getD i 0) xs.length).2.place = true)
    (hout : out.Perm (firstMet (fun i => xs.getD i 0) xs.length)) (hsort : out.Pairwise (· ≤ ·)) (hQ : Q (.lst out))
    (hk1 : X.env.kindOf (Str.ofString "sorted") = some .globalImplicit := by rfl) (hk2 : X.env.kindOf (Str.ofString "set") = some .globalImplicit := by rfl)
    (he1 : ∀ env : Env, starEach [.Call (.Name (Str.ofString "set") f2) [e] [] c2] env = [(false, eval (.Call (.Name (Str.ofString "set") f2) [e] [] c2) env)] := by intro _; rfl)
    (he2 : ∀ env : Env, starEach [e] env = [(false, eval e env)] := by intro _; rfl)
    (hc1 : ∀ env : Env, eval (.Call (.Name (Str.ofString "sorted") f1) [.Call (.Name (Str.ofString "set") f2) [e] [] c2] [] c1) env = (do callWith c1 (← eval (.Name (Str.ofString "sorted") f1) env) [] (backTo c1 (starEach [.Call (.Name (Str.ofString "set") f2) [e] [] c2] env)) (backToKw c1 (keywordEach [] env))) := by intro _; rfl)
    (hc2 : ∀ env : Env, eval (.Call (.Name (Str.ofString "set") f2) [e] [] c2) env = (do callWith c2 (← eval (.Name (Str.ofString "set") f2) env) [] (backTo c2 (starEach [e] env)) (backToKw c2 (keywordEach [] env))) := by intro _; rfl) :
    EV W d X (.Call (.Name (Str.ofString "sorted") f1) [.Call (.Name (Str.ofString "set") f2) [e] [] c2] [] c1) g Q := by
  intro ok s m T QQ F N N₀ S hb
  refine Call_ (bname ok F hl1 (v := .builtin "sorted") (by boot_by_name) (by decide) ?_ hk1) (hc1 _)
  rw [he1]
  refine Calls.callWith_builtin rfl (Calls.evalArgs_plain (Calls.spliced_cons ?_))
  refine Call_ (bname ok F hl2 (v := .type "set") (by boot_by_name) (by decide) ?_ hk2) (hc2 _)
  rw [he2]
  refine PySem.callWith_type rfl (Calls.evalArgs_plain (Calls.spliced_cons (h ok s m T _ F N S fun v p h1 t1 T1 F1 N1 hs1 r1 q1 => Calls.spliced_nil ?_)))
  subst q1
  cases r1 with | @lst l its n _ hm hi =>
  have hil := hi.length
  have hsz : its.toArray.size = xs.length := by rw [List.size_toArray, hil]
  refine call_set (s := { s with heap := h1, toks := t1 }) (w := W.w) (ns := xs) rfl (IsL_of N1 hm) (by simpa using hi) (by rw [hsz]; unfold scanBound; lia) (fun i hlt => any_of_getD hhash (by rw [← hsz]; exact hlt)) fun h2 t2 hS hk => ?_
  rw [hsz] at hS
  obtain ⟨es, ep, t, hg, he, hsm, hf, hp⟩ := hS
  have hle : es.size ≤ xs.length := by
    have := hp.length_eq
    rw [List.length_map, Array.length_toList] at this
    rw [this]; exact firstMet_length_le _ _
  have up : ∀ b o, h1.get? b = some o → h2.get? b = some o := fun b o e => hk b o (Heap.lt_size e) e
  have F2 : Fr X.h₀ X.L h2 m := F1.keeps up
  have N2 : News X.h₀ X.L h2 T1 := fun q hq => ⟨up _ _ (N1 q hq).1, (N1 q hq).2⟩
  refine Calls.spliced_nil ?_
  have ht : TabOk W.w es.size t := by
    refine ⟨hf, fun hb => ?_⟩
    have e2 : t = (simV true (fun i => xs.getD i 0) xs.length).2 := by
      rw [hb] at he
      exact congrArg Prod.snd he
    rw [e2]; exact htab
  refine sorted_set (s := { s with heap := h2, toks := t2 }) rfl F2 N2 hg ht hsm.ints (by lia) fun D h3 t3 vs' ns' c F3 N3 hi3 hp3 hs3 => ?_
  have : ns' = out := ksm_same (hp3.trans (hp.trans hout.symm)) hs3 hsort
  subst this
  exact hb _ _ _ _ _ F3 N3 (fun q hq => .tail _ (hs1 _ hq)) (.lst (.head _) hi3) hQ
end
/-- one step -/
local macro_rules | `(tactic| k_memK) => `(tactic| first
  | with_reducible refine SV.nil ?_
  | with_reducible refine SV.cons ?_
  | with_reducible refine S1.ret ?_
  | with_reducible refine S1.ite ?_
  | with_reducible refine EV.int ?_
  | with_reducible refine EV.tt ?_
  | ((with_reducible show EV _ _ _ (.Name _ _) _ _); first | refine EV.name rfl ?_ | refine EV.own rfl ?_ | refine EV.cell rfl ?_)
  | ((with_reducible show S1 _ _ _ (.Assign [.Name _ _] _ _) _ _ _); refine S1.assign ?_)
  | with_reducible refine EV.binop ?_
  | with_reducible refine EV.unop ?_
  | ((with_reducible show EV _ _ _ (.Compare _ _ _ _) _ _); refine EV.cmp ?_)
  | ((with_reducible show TV _ _ _ (.Compare _ _ _ _) _ _); refine TV.cmp ?_)
  | with_reducible refine OV.neg ?_
  | with_reducible refine OV.lt ?_
  | with_reducible refine OV.le ?_
  | with_reducible refine OV.gt ?_
  | with_reducible refine OV.ge ?_
  | with_reducible refine OV.eq ?_
  | with_reducible refine OV.ne ?_
  | with_reducible refine OV.eqL ?_
  | with_reducible refine OV.neL ?_
  | ((with_reducible show ES _ _ _ _ (_ :: _) _ _); refine ES.cons ?_)
  | with_reducible refine ES.nil ?_
  | with_reducible refine TV.and ?_
  | with_reducible refine TV.or ?_
  | with_reducible refine TV.not ?_
  | with_reducible refine TV.and_nil ?_
  | with_reducible refine TV.or_nil ?_
  | with_reducible refine EV.ite ?_
  | with_reducible refine EV.tup ?_
  | with_reducible refine EV.nil ?_
  | ((with_reducible show EV _ _ _ (.Call (.Name (Str.ofString "len") _) _ _ _) _ _); refine EV.len (nb_len _) ?_)
  | ((with_reducible show EV _ _ _ (.Call (.Name _ _) _ _ _) _ _); first | refine EV.callG rfl ?_ | refine EV.call (EV.name rfl ⟨_, rfl, kp_law_mul _, ?_⟩) | refine EV.call (EV.name rfl ⟨_, rfl, kp_law_divrem _, ?_⟩))
  | ((with_reducible show EV _ _ _ (.Subscript _ (.Slice none (some _) none _) _) _ _); refine EV.upto ?_)
  | ((with_reducible show EV _ _ _ (.Subscript _ (.Slice (some _) none none _) _) _ _); refine EV.from ?_)
  | ((with_reducible show EV _ _ _ (.Subscript _ (.Slice none none none _) _) _ _); refine EV.whole ?_)
  | ((with_reducible show EV _ _ _ (.Subscript _ (.Slice none none (some _) _) _) _ _); refine EV.rev ?_)
  | ((with_reducible show S1 _ _ _ (.Assign [.Tuple [.Name _ _, .Name _ _] _ _] (.Tuple _ _ _) _) _ _ _); refine S1.assign2s ?_)
  | ((with_reducible show S1 _ _ _ (.Assign [.Tuple [.Name _ _, .Name _ _] _ _] (.Call _ _ _ _) _) _ _ _); refine S1.assign2 ?_)
  | ((with_reducible show EV _ _ _ (.List [.Constant (.int _) _ _] _) _ _); refine EV.disp1 (EV.int ⟨_, rfl, ?_⟩))
  | ((with_reducible show EV _ _ _ (.Subscript (.Call _ _ _ _) (.Constant (.int 0) _ _) _) _ _); refine EV.fst ?_)
  | ((with_reducible show EV _ _ _ (.Subscript (.Call _ _ _ _) (.Constant (.int 1) _ _) _) _ _); refine EV.snd ?_)
  | with_reducible refine And.intro rfl ?_
  | with_reducible refine ite_ff ?_
  | with_reducible refine ite_tt ?_
  | with_reducible refine ⟨_, rfl, ?_⟩
  | with_reducible refine ⟨_, _, rfl, rfl, ?_⟩
  | with_reducible refine ⟨_, _, rfl, ?_⟩
  | fail "stuck")
local macro_rules | `(tactic| k_allIn) => `(tactic| repeat' k_memK)

section
variable (w : World) (mean : ExcName → Option Value) (mg mb : Str → Option Value)
theorem ct_law_pow (b k : Nat) (h : b ^ k < 2 ^ 64) (hb : b < 2 ^ 64) (hk : k < 1000) : Ct (WH w mean mg mb) 1 267 [.int b, .int k] (fun r => r = .int (b ^ k : Nat)) := by
  refine Ct.mk rfl rfl [Str.ofString "base", Str.ofString "many"] ?_ (by decide) rfl (by decide) rfl rfl rfl (by decide) ?_
  · intro s vs hl
    obtain ⟨_, _, rfl⟩ := vs2 hl; exact BindsTo.of_eq rfl
  · intro dp un gd L' outer A₀ base g
    iterate 4 k_memK
    refine S1.for1 [Str.ofString "base", Str.ofString "many", Str.ofString "found"] k (fun i g' => g' = ⟨[(Str.ofString "base", .int b), (Str.ofString "many", .int k), (Str.ofString "found", .int (b ^ i : Nat))], [], none⟩) (nb_range _) ?_ ?_ ?_ ?_ ?_ ?_
    · k_memK; rfl
    · constructor <;> lia
    · rintro g' i rfl y q e; cases e
    · rfl
    · rintro i g' hi rfl
      iterate 5 k_memK
      refine OV.mulN (b ^ i) b rfl rfl (.inr hb) ?_
      k_memK
      rw [Nat.pow_succ]; rfl
    · rintro g' rfl
      iterate 3 k_memK
      rfl
theorem ct_law_limbs (n x : Nat) (hw : 1 ≤ n) (hw2 : n ≤ 63) (hx : x < 2 ^ 64) : Ct (WH w mean mg mb) 1 239 [.int x, .int n] (fun r => r = LZ n x) := by
  have hB := pow2_gt hw
  have hB2 : 2 ^ n < 2 ^ 64 := Nat.pow_lt_pow_right (by decide) (by lia)
  refine Ct.mk rfl rfl [Str.ofString "number", Str.ofString "w"] ?_ (by decide) rfl (by decide) rfl rfl rfl (by decide) ?_
  · intro s vs hl
    obtain ⟨_, _, rfl⟩ := vs2 hl; exact BindsTo.of_eq rfl
  · intro dp un gd L' outer A₀ base g
    refine SV.cons (S1.own (NV.nil (SV.cons ?_)))
    refine S1.loop [Str.ofString "number", Str.ofString "w"] (fun k g' => ∃ i, g' = ⟨[(Str.ofString "number", .int (x / (2 ^ n) ^ i : Nat)), (Str.ofString "w", .int n)], [], some (Str.ofString "found", .lst (zs (dg (2 ^ n) i x)))⟩ ∧ k = x / (2 ^ n) ^ i ∧ (i = 0 ∨ (2 ^ n) ^ (i - 1) ≤ x)) x ⟨0, ?_, ?_, .inl rfl⟩ ?_
    · rw [Nat.pow_zero, Nat.div_one]; rfl
    · rw [Nat.pow_zero, Nat.div_one]
    · rintro k g' ⟨i, rfl, rfl, hi⟩
      have hi64 := idx_le hB hx hi
      iterate 4 k_memK
      refine ⟨_, rfl, ite_dec (fun h => ?_) (fun h => ?_)⟩
      · have hp := cpos h
        refine SV.cons (S1.append rfl (by rw [zs_length, dg_length]; lia) ?_)
        iterate 5 k_memK
        refine OV.shlN 1 n rfl rfl (by lia) (by decide) ?_
        refine OV.modN (x / (2 ^ n) ^ i) (1 * 2 ^ n) rfl rfl (by lia) ?_
        refine ⟨_, rfl, SV.cons (S1.assignP ?_ ?_)⟩
        · iterate 3 k_memK
          refine OV.shrN (x / (2 ^ n) ^ i) n rfl rfl ⟨rfl, SV.nil ⟨x / (2 ^ n) ^ (i + 1), ?_, i + 1, ?_, rfl, .inr ?_⟩⟩
          · rw [div_succ]; exact Nat.div_lt_self hp (by omega)
          · rw [div_succ, dg_succ, zs_app, Nat.one_mul]; rfl
          · rcases Nat.lt_or_ge x ((2 ^ n) ^ i) with h | h
            · rw [Nat.div_eq_of_lt h] at hp; lia
            · exact h
        · rintro y q e; cases e; decide
      · have h0 := czero h
        iterate 3 k_memK
        have hlt : x < (2 ^ n) ^ i := by
          rcases Nat.lt_or_ge x ((2 ^ n) ^ i) with h | h
          · exact h
          · have := Nat.div_pos h (Nat.pow_pos (by exact Nat.le_of_lt ‹_›)); omega
        rw [dg_lm hB hlt hi]
end
section
variable (w : World) (mean : ExcName → Option Value) (mg mb : Str → Option Value)
theorem ct_law_number (n x : Nat) (hw : 1 ≤ n) (hw2 : n ≤ 63) (hx : x < 2 ^ 64) : Ct (WH w mean mg mb) 1 246 [LZ n x, .int n] (fun r => r = .int x) := by
  have hB := pow2_gt hw
  have hl := lz_len hw hx
  refine Ct.mk rfl rfl [Str.ofString "limbs", Str.ofString "w"] ?_ (by decide) rfl (by decide) rfl rfl rfl (by decide) ?_
  · intro s vs hl
    obtain ⟨_, _, rfl⟩ := vs2 hl; exact BindsTo.of_eq rfl
  · intro dp un gd L' outer A₀ base g
    iterate 4 k_memK
    refine S1.forL [Str.ofString "limbs", Str.ofString "w", Str.ofString "found"] (zs (lm (2 ^ n) x)).reverse (fun i g' => g' = ⟨[(Str.ofString "limbs", LZ n x), (Str.ofString "w", .int n), (Str.ofString "found", .int (x / (2 ^ n) ^ ((lm (2 ^ n) x).length - i) : Nat))], [], none⟩) ?_ rfl ?_ ?_ ?_ ?_
    · k_allIn
      exact ⟨by lia, rfl⟩
    · rintro g' i rfl y q e; cases e
    · show _ = _
      rw [Nat.sub_zero, dig_zero hB _ _ (Nat.le_refl _)]; rfl
    · rintro i v g' hv rfl
      have hi : i < (lm (2 ^ n) x).length := by
        rcases Nat.lt_or_ge i (lm (2 ^ n) x).length with h | h
        · exact h
        · rw [List.getElem?_eq_none (by rw [List.length_reverse, zs_length]; exact h)] at hv; cases hv
      rw [List.getElem?_reverse (by rw [zs_length]; exact hi), zs_length] at hv
      have hj : (lm (2 ^ n) x).length - 1 - i < (lm (2 ^ n) x).length := by omega
      rw [zs_get (lm_get hB _ _ hj)] at hv
      cases hv
      have hq : x / (2 ^ n) ^ ((lm (2 ^ n) x).length - i) < 2 ^ 64 := Nat.lt_of_le_of_lt (Nat.div_le_self _ _) hx
      iterate 6 k_memK
      refine OV.shlN _ n rfl rfl (by lia) hq ?_
      k_memK
      refine OV.addN _ _ rfl rfl ?_
      k_memK
      show _ = _
      have e : x / (2 ^ n) ^ ((lm (2 ^ n) x).length - (i + 1)) = x / (2 ^ n) ^ ((lm (2 ^ n) x).length - i) * 2 ^ n + x / (2 ^ n) ^ ((lm (2 ^ n) x).length - 1 - i) % 2 ^ n := by
        have := div_step (2 ^ n) x ((lm (2 ^ n) x).length - 1 - i)
        rw [show (lm (2 ^ n) x).length - 1 - i + 1 = (lm (2 ^ n) x).length - i by lia] at this
        rw [show (lm (2 ^ n) x).length - (i + 1) = (lm (2 ^ n) x).length - 1 - i by lia]
        exact this
      rw [e]
      rfl
    · rintro g' rfl
      k_allIn
      rw [List.length_reverse, zs_length, Nat.sub_self, Nat.pow_zero, Nat.div_one]
theorem ct_nat_of (n x : Nat) (hw : 1 ≤ n) (hw2 : n ≤ 63) (hx : x < 2 ^ 64) : Ct (WH w mean mg mb) 1 65 [.int x, .int n] (fun r => r = LZ n x) := by
  have hB := pow2_gt hw
  have hB2 : 2 ^ n < 2 ^ 64 := Nat.pow_lt_pow_right (by decide) (by lia)
  refine Ct.mk rfl rfl [Str.ofString "number", Str.ofString "w"] ?_ (by decide) rfl (by decide) rfl rfl rfl (by decide) ?_
  · intro s vs hl
    obtain ⟨_, _, rfl⟩ := vs2 hl; exact BindsTo.of_eq rfl
  · intro dp un gd L' outer A₀ base g
    k_allIn
    refine ite_dec (fun h => absurd h (by lia)) (fun _ => SV.nil (SV.cons ?_))
    refine S1.own2 ?_
    refine NV.nil ?_
    iterate 4 k_memK
    refine OV.shlN 1 n rfl rfl (by lia) (by decide) ?_
    k_memK
    refine OV.subN (1 * 2 ^ n) 1 rfl rfl (by lia) ⟨rfl, SV.cons ?_⟩
    rw [Nat.one_mul]
    refine S1.loop [Str.ofString "number", Str.ofString "w", Str.ofString "mask"] (fun k g' => ∃ i, g' = ⟨[(Str.ofString "number", .int (x / (2 ^ n) ^ i : Nat)), (Str.ofString "w", .int n), (Str.ofString "mask", .int (2 ^ n - 1 : Nat))], [], some (Str.ofString "found", .lst (zs (dg (2 ^ n) i x)))⟩ ∧ k = x / (2 ^ n) ^ i ∧ (i = 0 ∨ (2 ^ n) ^ (i - 1) ≤ x)) x ⟨0, ?_, ?_, .inl rfl⟩ ?_
    · rw [Nat.pow_zero, Nat.div_one]; rfl
    · rw [Nat.pow_zero, Nat.div_one]
    · rintro k g' ⟨i, rfl, rfl, hi⟩
      have hi64 := idx_le hB hx hi
      k_allIn
      refine ite_dec (fun h => ?_) (fun h => ?_)
      · have hp := cpos h
        refine SV.cons (S1.append rfl (by rw [zs_length, dg_length]; lia) ?_)
        k_memK; k_memK; k_memK
        refine OV.maskN (x / (2 ^ n) ^ i) n rfl rfl ⟨_, rfl, SV.cons (S1.aug rfl ?_ ?_)⟩
        · k_memK
          refine OV.ishrN (x / (2 ^ n) ^ i) n rfl rfl ⟨rfl, SV.nil ⟨x / (2 ^ n) ^ (i + 1), ?_, i + 1, ?_, rfl, .inr ?_⟩⟩
          · rw [div_succ]; exact Nat.div_lt_self hp (by omega)
          · rw [div_succ, dg_succ, zs_app]; rfl
          · rcases Nat.lt_or_ge x ((2 ^ n) ^ i) with h | h
            · rw [Nat.div_eq_of_lt h] at hp; lia
            · exact h
        · rintro y q e; cases e; decide
      · have h0 := czero h
        k_allIn
        have hlt : x < (2 ^ n) ^ i := by
          rcases Nat.lt_or_ge x ((2 ^ n) ^ i) with h | h
          · exact h
          · have := Nat.div_pos h (Nat.pow_pos (by exact Nat.le_of_lt ‹_›)); omega
        rw [dg_lm hB hlt hi]
theorem ct_normal (xs : List Nat) (hl : xs.length ≤ 1000) : Ct (WH w mean mg mb) 1 58 [.lst (zs xs)] (fun r => r = .lst (zs (strip xs))) := by
  refine Ct.mk rfl rfl [Str.ofString "a"] ?_ (by decide) rfl (by decide) rfl rfl rfl (by decide) ?_
  · intro s vs hl
    obtain ⟨_, rfl⟩ := vs1 hl; exact BindsTo.of_eq rfl
  · intro dp un gd L' outer A₀ base g
    k_allIn
    refine ⟨by rw [zs_length]; lia, ?_⟩
    rw [zs_length]
    k_memK
    refine S1.loop [Str.ofString "a", Str.ofString "end"] (fun k g' => g' = ⟨[(Str.ofString "a", .lst (zs xs)), (Str.ofString "end", .int k)], [], none⟩ ∧ k ≤ xs.length ∧ strip (xs.take k) = strip xs) xs.length ⟨rfl, Nat.le_refl _, by rw [List.take_length]⟩ ?_
    rintro k g' ⟨rfl, hk, hs⟩
    k_allIn
    have fin : ∀ k, strip (xs.take k) = strip xs → (k = 0 ∨ ∃ j d, k = j + 1 ∧ xs[j]? = some d ∧ d ≠ 0) → xs.take k = strip xs := by
      rintro k hs (rfl | ⟨j, d, rfl, hj, hd⟩)
      · rw [← hs, List.take_zero]; rfl
      · rw [← hs, strip_take' hj hd]
    refine ite_dec (fun h => ?_) (fun h => ?_)
    · obtain ⟨j, rfl⟩ : ∃ j, k = j + 1 := ⟨k - 1, by have := cpos h; lia⟩
      have hj : j < xs.length := by assumption
      k_memK; k_memK
      refine EV.item ?_
      k_allIn
      refine OV.subN (j + 1) 1 rfl rfl (by lia) ?_
      refine ⟨_, _, rfl, rfl, by rw [zs_length]; lia, by lia, _, zs_get (List.getElem?_eq_getElem (by simpa using hj)), ?_⟩
      k_allIn
      have hget : xs[j]? = some xs[j] := List.getElem?_eq_getElem hj
      refine ite_dec (fun h => ?_) (fun h => ?_)
      · k_memK; k_memK
        refine SV.cons (S1.aug rfl ?_ (by rintro y q e; cases e))
        k_memK
        refine OV.isubN (j + 1) 1 rfl rfl (by lia) ⟨rfl, SV.nil ⟨j, by lia, rfl, by (exact Nat.le_of_lt ‹_›), ?_⟩⟩
        rw [← hs]
        refine (strip_take ?_).symm
        rw [hget]
        have h0 : xs[j] = 0 := by simpa using h
        rw [h0]
      · k_allIn
        refine ⟨by rw [zs_length]; omega, by lia, ?_⟩
        have h0 : xs[j] ≠ 0 := by simpa using h
        rw [Int.toNat_natCast, ← fin (j + 1) hs (.inr ⟨j, _, rfl, hget, h0⟩)]
        simp [zs, List.map_take]
    · k_allIn
      refine ⟨by rw [zs_length]; omega, by lia, ?_⟩
      have h0 := czero h
      subst h0
      rw [Int.toNat_natCast, ← fin 0 hs (.inl rfl)]
      rfl
end
section
variable (w : World) (mean : ExcName → Option Value) (mg mb : Str → Option Value)

theorem ct_compare (n x y : Nat) (hw : 1 ≤ n) (hx : x < 2 ^ 64) (hy : y < 2 ^ 64) : Ct (WH w mean mg mb) 1 72 [LZ n x, LZ n y] (fun r => r = .int (cmp3 x y)) := by
  have hB := pow2_gt hw
  have hlx := lz_len hw hx
  have hly := lz_len hw hy
  have lx := zs_length (lm (2 ^ n) x)
  have ly := zs_length (lm (2 ^ n) y)
  have lenlt : (lm (2 ^ n) x).length < (lm (2 ^ n) y).length → x < y := fun h => by
    have a := (len_le hB (lm (2 ^ n) x).length x).mp (Nat.le_refl _)
    have b := (lt_len hB (lm (2 ^ n) x).length y).mp h
    exact Nat.lt_of_lt_of_le ‹_› ‹_›
  have lengt : (lm (2 ^ n) y).length < (lm (2 ^ n) x).length → y < x := fun h => by
    have a := (len_le hB (lm (2 ^ n) y).length y).mp (Nat.le_refl _)
    have b := (lt_len hB (lm (2 ^ n) y).length x).mp h
    exact Nat.lt_of_lt_of_le ‹_› ‹_›
  refine Ct.mk rfl rfl [Str.ofString "a", Str.ofString "b"] ?_ (by decide) rfl (by decide) rfl rfl rfl (by decide) ?_
  · intro s vs hl
    obtain ⟨_, _, rfl⟩ := vs2 hl; exact BindsTo.of_eq rfl
  · intro dp un gd L' outer A₀ base g
    k_allIn
    refine ⟨by lia, ?_⟩
    k_allIn
    refine ⟨by lia, ?_⟩
    k_allIn
    refine ite_dec (fun hne => ?_) (fun heq => ?_)
    · k_allIn
      refine ⟨by omega, ?_⟩
      k_allIn
      refine ⟨by omega, ?_⟩
      k_allIn
      refine ite_dec (fun h => ?_) (fun h => ?_)
      · k_allIn
        have := lenlt (by lia)
        rw [cmp3, if_pos this]
      · k_allIn
        have := lengt (by lia)
        rw [cmp3, if_neg (by lia), if_neg (by lia)]
    · have hlen : (lm (2 ^ n) x).length = (lm (2 ^ n) y).length := by lia
      k_memK; k_memK
      refine S1.forD [Str.ofString "a", Str.ofString "b"] ((lm (2 ^ n) x).length - 1 : Int) (fun i g' => g' = ⟨[(Str.ofString "a", LZ n x), (Str.ofString "b", LZ n y)], [], none⟩ ∧ x / (2 ^ n) ^ ((lm (2 ^ n) x).length - i) = y / (2 ^ n) ^ ((lm (2 ^ n) x).length - i)) (nb_range _) ?_ ?_ ?_ ?_ ?_ ?_
      · k_allIn
        refine ⟨by lia, ?_⟩
        k_memK
        refine OV.sub ⟨by rw [lx], ?_⟩
        k_memK; k_memK; k_memK
        refine ⟨rfl, ?_⟩
        k_memK; k_memK; k_memK; rfl
      · constructor <;> (grind -ring -splitIte)
      · rintro g' i ⟨rfl, _⟩ y q e; cases e
      · refine ⟨rfl, ?_⟩
        rw [Nat.sub_zero, dig_zero hB _ _ (Nat.le_refl _), hlen, dig_zero hB _ _ (Nat.le_refl _)]
      · rintro i g' hi ⟨rfl, hd⟩
        have hj : (lm (2 ^ n) x).length - 1 - i < (lm (2 ^ n) x).length := by (grind -ring -splitIte)
        have e1 : ((lm (2 ^ n) x).length - 1 - (i : Int)).toNat = (lm (2 ^ n) x).length - 1 - i := by lia
        have gx := zs_get (lm_get hB _ _ hj)
        have gy := zs_get (lm_get hB ((lm (2 ^ n) x).length - 1 - i) y (by omega))
        have e2 : (lm (2 ^ n) x).length - i = (lm (2 ^ n) x).length - 1 - i + 1 := by (grind -ring -splitIte)
        rw [e2] at hd
        iterate 3 k_memK
        refine EV.item ?_
        k_allIn
        refine ⟨by lia, by omega, _, by rw [e1]; exact gx, ?_⟩
        refine EV.item ?_
        k_allIn
        refine ⟨by lia, by omega, _, by rw [e1]; exact gy, ?_⟩
        k_allIn
        refine ite_dec (fun h => ?_) (fun h => ?_)
        · iterate 4 k_memK
          refine EV.item ?_
          k_allIn
          refine ⟨by omega, by omega, _, by rw [e1]; exact gx, ?_⟩
          refine EV.item ?_
          k_allIn
          refine ⟨by omega, by omega, _, by rw [e1]; exact gy, ?_⟩
          k_allIn
          refine ite_dec (fun h' => ?_) (fun h' => ?_)
          · k_allIn
            rw [cmp3, if_pos (cmp_dig (by exact Nat.le_of_lt ‹_›) hd (clt h'))]
          · k_allIn
            have := cmp_dig (by exact Nat.le_of_lt ‹_›) hd.symm (Nat.lt_of_le_of_ne (cge h') fun e => h (by rw [e]))
            rw [cmp3, if_neg (by lia), if_neg (by lia)]
        · k_allIn
          rw [show (lm (2 ^ n) x).length - (i + 1) = (lm (2 ^ n) x).length - 1 - i by lia, div_step (2 ^ n) x, div_step (2 ^ n) y, hd]
          have : x / (2 ^ n) ^ ((lm (2 ^ n) x).length - 1 - i) % 2 ^ n = y / (2 ^ n) ^ ((lm (2 ^ n) x).length - 1 - i) % 2 ^ n := by
            have := Classical.not_not.mp h
            exact Int.ofNat.inj this
          rw [this]
      · rintro g' ⟨rfl, hd⟩
        rw [show (lm (2 ^ n) x).length - ((lm (2 ^ n) x).length - 1 + 1 : Int).toNat = 0 by lia, Nat.pow_zero, Nat.div_one, Nat.div_one] at hd
        k_allIn
        rw [cmp3, if_neg (by lia), if_pos hd]
theorem ct_bits (n x : Nat) (hw : 1 ≤ n) (hw2 : n ≤ 63) (hx : x < 2 ^ 64) : Ct (WH w mean mg mb) 1 121 [LZ n x, .int n] (fun r => r = .int (bl x)) := by
  have hB := pow2_gt hw
  have hlx := lz_len hw hx
  have lx := zs_length (lm (2 ^ n) x)
  refine Ct.mk rfl rfl [Str.ofString "a", Str.ofString "w"] ?_ (by decide) rfl (by decide) rfl rfl rfl (by decide) ?_
  · intro s vs hl
    obtain ⟨_, _, rfl⟩ := vs2 hl; exact BindsTo.of_eq rfl
  · intro dp un gd L' outer A₀ base g
    k_allIn
    refine ⟨by lia, ?_⟩
    k_allIn
    rw [lx]
    refine ite_dec (fun h => ?_) (fun h => ?_)
    · have hp := cpos h
      have hx0 : 0 < x := by
        rcases Nat.eq_zero_or_pos x with rfl | h
        · rw [lm_zero] at hp; exact absurd hp (Nat.lt_irrefl _)
        · exact h
      k_allIn
      refine ⟨by lia, ?_⟩
      rw [lx]
      k_memK
      refine OV.subN _ 1 rfl rfl (by assumption) ?_
      k_memK
      refine OV.mulN _ n rfl rfl (.inr (by lia)) ?_
      refine EV.bitlen (EV.last ?_)
      k_allIn
      refine ⟨zs (lm (2 ^ n) x), ((x / (2 ^ n) ^ ((lm (2 ^ n) x).length - 1) % 2 ^ n : Nat) : Int), rfl, rfl, by lia, ?_, _, rfl, ?_⟩
      · rw [List.getLast?_eq_getElem?, lx]
        exact zs_get (lm_get hB _ _ (by lia))
      · rw [intBits_bl]
        refine OV.addN _ _ rfl rfl ?_
        have h1 := pow_len_le hB hx0
        have h2 := lt_pow_len hB x
        have hq := Nat.div_pos h1 (Nat.pow_pos (by exact Nat.le_of_lt ‹_›))
        have hlt : x / (2 ^ n) ^ ((lm (2 ^ n) x).length - 1) < 2 ^ n := by
          rw [Nat.div_lt_iff_lt_mul (Nat.pow_pos (by exact Nat.le_of_lt ‹_›)), Nat.mul_comm, ← Nat.pow_succ, Nat.succ_eq_add_one, show (lm (2 ^ n) x).length - 1 + 1 = (lm (2 ^ n) x).length by lia]
          exact h2
        rw [Nat.mod_eq_of_lt hlt, bl, bl, if_neg (by lia), if_neg (by lia), top_log hw hx0, Nat.add_assoc]
    · have h0 := czero h
      have : x = 0 := (lm_nil hB).mp (List.length_eq_zero_iff.mp h0)
      subst this
      k_allIn
      rfl
end
section
variable (w : World) (mean : ExcName → Option Value) (mg mb : Str → Option Value)
theorem ct_bit (n x k : Nat) (hw : 1 ≤ n) (hw2 : n ≤ 63) (hx : x < 2 ^ 64) : Ct (WH w mean mg mb) 1 128 [LZ n x, .int k, .int n] (fun r => r = .int (x / 2 ^ k % 2 : Nat)) := by
  have hB := pow2_gt hw
  have hlx := lz_len hw hx
  have lx := zs_length (lm (2 ^ n) x)
  refine Ct.mk rfl rfl [Str.ofString "a", Str.ofString "n", Str.ofString "w"] ?_ (by decide) rfl (by decide) rfl rfl rfl (by decide) ?_
  · intro s vs hl
    obtain ⟨_, _, _, rfl⟩ := vs3 hl; exact BindsTo.of_eq rfl
  · intro dp un gd L' outer A₀ base g
    k_allIn
    refine OV.fdivN k n rfl rfl (by assumption) (by lia) ?_
    k_allIn
    refine ⟨by lia, ?_⟩
    rw [lx]
    k_allIn
    refine ite_dec (fun h => ?_) (fun h => ?_)
    · have hk := clt h
      k_memK; k_memK
      refine EV.item ?_
      k_allIn
      refine OV.fdivN k n rfl rfl (by assumption) (by lia) ?_
      refine ⟨_, _, rfl, rfl, by lia, Int.natCast_nonneg _, _, zs_get (lm_get hB _ _ (by rw [Int.toNat_natCast]; exact hk)), ?_⟩
      k_allIn
      refine OV.modN k n rfl rfl (by assumption) ?_
      rw [Int.toNat_natCast]
      refine OV.shrN _ (k % n) rfl rfl ?_
      k_memK
      refine OV.maskN _ 1 rfl rfl ?_
      rw [bit_in n x k (by assumption)]
    · k_allIn
      rw [bit_out hB (by assumption) (cge h)]
      rfl
theorem ct_split (n x k : Nat) (hw : 1 ≤ n) (hx : x < 2 ^ 64) : Ct (WH w mean mg mb) 2 135 [LZ n x, .int k] (fun r => r = .pair (LZ n (x % (2 ^ n) ^ k)) (LZ n (x / (2 ^ n) ^ k))) := by
  have hB := pow2_gt hw
  have hlx := lz_len hw hx
  have lx := zs_length (lm (2 ^ n) x)
  refine Ct.mk rfl rfl [Str.ofString "a", Str.ofString "spot"] ?_ (by decide) rfl (by decide) rfl rfl rfl (by decide) ?_
  · intro s vs hl
    obtain ⟨_, _, rfl⟩ := vs2 hl; exact BindsTo.of_eq rfl
  · intro dp un gd L' outer A₀ base g
    k_allIn
    k_allIn
    refine ⟨by lia, by lia, ?_⟩
    k_allIn
    rw [Int.toNat_natCast, zs_take]
    refine callok (ct_normal w mean mg mb ((lm (2 ^ n) x).take k) (by rw [List.length_take]; lia)) ?_
    rintro _ rfl
    k_allIn
    refine ⟨by omega, by omega, ?_⟩
    k_allIn
    rw [Int.toNat_natCast, zs_drop, strip_take_lm hB, drop_lm hB]
theorem ct_law_mul (n x y : Nat) (hw : 1 ≤ n) (hw2 : n ≤ 63) (hx : x < 2 ^ 64) (hy : y < 2 ^ 64) (hxy : x * y < 2 ^ 64) : Ct (WH w mean mg mb) 2 253 [LZ n x, LZ n y, .int n] (fun r => r = LZ n (x * y)) := by
  refine Ct.mk rfl rfl [Str.ofString "a", Str.ofString "b", Str.ofString "w"] ?_ (by decide) rfl (by decide) rfl rfl rfl (by decide) ?_
  · intro s vs hl
    obtain ⟨_, _, _, rfl⟩ := vs3 hl; exact BindsTo.of_eq rfl
  · intro dp un gd L' outer A₀ base g
    k_allIn
    k_allIn
    k_allIn
    refine callok (ct_law_number w mean mg mb n x hw hw2 hx) ?_
    rintro _ rfl
    k_allIn
    refine callok (ct_law_number w mean mg mb n y hw hw2 hy) ?_
    rintro _ rfl
    refine OV.mulN x y rfl rfl (.inl hx) ?_
    k_allIn
    refine callok (ct_law_limbs w mean mg mb n (x * y) hw hw2 hxy) ?_
    rintro _ rfl
    rfl
theorem ct_law_divrem (n x y : Nat) (hw : 1 ≤ n) (hw2 : n ≤ 63) (hx : x < 2 ^ 64) (hy : y < 2 ^ 64) (h0 : 0 < y) : Ct (WH w mean mg mb) 2 260 [LZ n x, LZ n y, .int n] (fun r => r = .pair (LZ n (x / y)) (LZ n (x % y))) := by
  refine Ct.mk rfl rfl [Str.ofString "a", Str.ofString "b", Str.ofString "w"] ?_ (by decide) rfl (by decide) rfl rfl rfl (by decide) ?_
  · intro s vs hl
    obtain ⟨_, _, _, rfl⟩ := vs3 hl; exact BindsTo.of_eq rfl
  · intro dp un gd L' outer A₀ base g
    refine SV.cons (S1.assign2s ?_)
    k_allIn
    k_allIn
    refine callok (ct_law_number w mean mg mb n x hw hw2 hx) ?_
    rintro _ rfl
    k_allIn
    k_allIn
    refine callok (ct_law_number w mean mg mb n y hw hw2 hy) ?_
    rintro _ rfl
    k_allIn
    k_allIn
    refine OV.fdivN x y rfl rfl h0 hy ?_
    k_allIn
    refine callok (ct_law_limbs w mean mg mb n (x / y) hw hw2 (Nat.lt_of_le_of_lt (Nat.div_le_self _ _) hx)) ?_
    rintro _ rfl
    k_allIn
    k_allIn
    refine OV.modN x y rfl rfl h0 ?_
    k_allIn
    refine callok (ct_law_limbs w mean mg mb n (x % y) hw hw2 (Nat.lt_of_le_of_lt (Nat.mod_le _ _) hx)) ?_
    rintro _ rfl
    k_allIn
    rfl
end
section
variable (w : World) (mean : ExcName → Option Value) (mg mb : Str → Option Value)

theorem ct_add (n x y : Nat) (hw : 1 ≤ n) (hw2 : n ≤ 63) (hx : x < 2 ^ 64) (hy : y < 2 ^ 64) (hxy : x + y < 2 ^ 64) : Ct (WH w mean mg mb) 1 79 [LZ n x, LZ n y, .int n] (fun r => r = LZ n (x + y)) := by
  have hB := pow2_gt hw
  have hlx := lz_len hw hx
  have hly := lz_len hw hy
  have lx := zs_length (lm (2 ^ n) x)
  have ly := zs_length (lm (2 ^ n) y)
  refine Ct.mk rfl rfl [Str.ofString "a", Str.ofString "b", Str.ofString "w"] ?_ (by decide) rfl (by decide) rfl rfl rfl (by decide) ?_
  · intro s vs hl
    obtain ⟨_, _, _, rfl⟩ := vs3 hl; exact BindsTo.of_eq rfl
  · intro dp un gd L' outer A₀ base g
    refine SV.cons (S1.via (fun g' => ∃ p q, p + q = x + y ∧ p < 2 ^ 64 ∧ q < 2 ^ 64 ∧ (lm (2 ^ n) q).length ≤ (lm (2 ^ n) p).length ∧ g' = ⟨[(Str.ofString "a", LZ n p), (Str.ofString "b", LZ n q), (Str.ofString "w", .int n)], [], none⟩) ?_ ?_)
    · k_allIn
      refine ⟨by lia, ?_⟩
      k_allIn
      refine ⟨by lia, ?_⟩
      k_allIn
      refine ite_dec (fun h => ?_) (fun h => ?_)
      · refine SV.cons (S1.assign2s ?_)
        iterate 9 k_memK
        exact ⟨y, x, Nat.add_comm y x, hy, hx, by lia, rfl⟩
      · exact SV.nil ⟨x, y, rfl, hx, hy, by lia, rfl⟩
    · rintro _ ⟨p, q, hpq, hp, hq, hlen, rfl⟩
      clear hlx hly lx ly
      have hlp := lz_len hw hp
      have hlq := lz_len hw hq
      have lp := zs_length (lm (2 ^ n) p)
      have lq := zs_length (lm (2 ^ n) q)
      rw [← hpq]
      rw [← hpq] at hxy
      have hqn : q < (2 ^ n) ^ (lm (2 ^ n) p).length := (len_le hB _ _).mp hlen
      have hpn := lt_pow_len hB p
      refine SV.cons ?_
      refine S1.own3 ?_
      refine NV.nil ?_
      iterate 5 k_memK
      refine OV.shlN 1 n rfl rfl (by lia) (by decide) ?_
      k_memK
      refine OV.subN (1 * 2 ^ n) 1 rfl rfl (by lia) ⟨rfl, rfl, SV.cons ?_⟩
      rw [Nat.one_mul]
      refine S1.via (fun g' => g' = ⟨[(Str.ofString "a", LZ n p), (Str.ofString "b", LZ n q), (Str.ofString "w", .int n), (Str.ofString "mask", .int (2 ^ n - 1 : Nat)), (Str.ofString "carry", .int (cr (2 ^ n) (lm (2 ^ n) q).length p q))], [], some (Str.ofString "found", .lst (zs (dg (2 ^ n) (lm (2 ^ n) q).length (p + q))))⟩) ?_ ?_
      · refine S1.for1 [Str.ofString "a", Str.ofString "b", Str.ofString "w", Str.ofString "mask", Str.ofString "carry"] ((lm (2 ^ n) q).length : Int) (fun i g' => g' = ⟨[(Str.ofString "a", LZ n p), (Str.ofString "b", LZ n q), (Str.ofString "w", .int n), (Str.ofString "mask", .int (2 ^ n - 1 : Nat)), (Str.ofString "carry", .int (cr (2 ^ n) i p q))], [], some (Str.ofString "found", .lst (zs (dg (2 ^ n) i (p + q))))⟩) (nb_range _) ?_ ?_ ?_ ?_ ?_ ?_
        · k_allIn
          exact ⟨by lia, by rw [lq]⟩
        · constructor <;> lia
        · rintro g' i rfl y q e; cases e; decide
        · show _ = _
          rw [cr_zero]; rfl
        · rintro i g' hi rfl
          have hi' := clt hi
          refine SV.cons (S1.aug rfl ?_ ?_)
          · k_memK
            refine EV.item ?_
            k_allIn
            refine ⟨by lia, Int.natCast_nonneg _, _, zs_get (lm_get hB _ _ (by rw [Int.toNat_natCast]; (exact Nat.lt_of_lt_of_le ‹_› ‹_›))), ?_⟩
            rw [Int.toNat_natCast]
            refine EV.item ?_
            k_allIn
            refine ⟨by lia, Int.natCast_nonneg _, _, zs_get (lm_get hB _ _ (by rw [Int.toNat_natCast]; omega)), ?_⟩
            rw [Int.toNat_natCast]
            refine OV.addN _ _ rfl rfl ?_
            refine OV.iaddN _ _ rfl rfl ⟨rfl, ?_⟩
            refine SV.cons (S1.append rfl (by rw [zs_length, dg_length]; lia) ?_)
            k_memK; k_memK; k_memK
            refine OV.maskN _ n rfl rfl ⟨_, rfl, SV.cons (S1.aug rfl ?_ ?_)⟩
            · k_memK
              refine OV.ishrN _ n rfl rfl ⟨rfl, SV.nil ?_⟩
              rw [add_dig hB, add_next hB, dg_succ, zs_app]; rfl
            · rintro y q e; cases e; decide
          · rintro y q e; cases e; decide
        · rintro g' rfl
          rw [Int.toNat_natCast]
      · rintro _ rfl
        refine SV.cons ?_
        refine S1.via (fun g' => g' = ⟨[(Str.ofString "a", LZ n p), (Str.ofString "b", LZ n q), (Str.ofString "w", .int n), (Str.ofString "mask", .int (2 ^ n - 1 : Nat)), (Str.ofString "carry", .int (cr (2 ^ n) (lm (2 ^ n) p).length p q))], [], some (Str.ofString "found", .lst (zs (dg (2 ^ n) (lm (2 ^ n) p).length (p + q))))⟩) ?_ ?_
        · refine S1.for2 [Str.ofString "a", Str.ofString "b", Str.ofString "w", Str.ofString "mask", Str.ofString "carry"] ((lm (2 ^ n) q).length : Int) ((lm (2 ^ n) p).length : Int) (fun i g' => g' = ⟨[(Str.ofString "a", LZ n p), (Str.ofString "b", LZ n q), (Str.ofString "w", .int n), (Str.ofString "mask", .int (2 ^ n - 1 : Nat)), (Str.ofString "carry", .int (cr (2 ^ n) ((lm (2 ^ n) q).length + i) p q))], [], some (Str.ofString "found", .lst (zs (dg (2 ^ n) ((lm (2 ^ n) q).length + i) (p + q))))⟩) (nb_range _) ?_ ?_ ?_ ?_ ?_ ?_ ?_
          · k_allIn
            refine ⟨by omega, by rw [lq], ?_⟩
            k_allIn
            exact ⟨by lia, by rw [lp]⟩
          · constructor <;> omega
          · constructor <;> lia
          · rintro g' i rfl y q e; cases e; decide
          · rfl
          · rintro i g' hi rfl
            have hi' : (lm (2 ^ n) q).length + i < (lm (2 ^ n) p).length := by lia
            have e1 : ((lm (2 ^ n) q).length + (i : Int)).toNat = (lm (2 ^ n) q).length + i := by lia
            have hz : q / (2 ^ n) ^ ((lm (2 ^ n) q).length + i) % 2 ^ n = 0 := by rw [dig_zero hB _ _ (by lia), Nat.zero_mod]
            have a1 := add_dig hB ((lm (2 ^ n) q).length + i) p q
            have a2 := add_next hB ((lm (2 ^ n) q).length + i) p q
            rw [hz, Nat.add_zero] at a1 a2
            refine SV.cons (S1.aug rfl ?_ ?_)
            · refine EV.item ?_
              k_allIn
              refine ⟨by omega, by lia, _, zs_get (lm_get hB _ _ (by rw [e1]; exact hi')), ?_⟩
              rw [e1]
              refine OV.iaddN _ _ rfl rfl ⟨rfl, ?_⟩
              refine SV.cons (S1.append rfl (by rw [zs_length, dg_length]; lia) ?_)
              k_memK; k_memK; k_memK
              refine OV.maskN _ n rfl rfl ⟨_, rfl, SV.cons (S1.aug rfl ?_ ?_)⟩
              · k_memK
                refine OV.ishrN _ n rfl rfl ⟨rfl, SV.nil ?_⟩
                rw [a1, a2, ← Nat.add_assoc, dg_succ, zs_app]; rfl
              · rintro y q e; cases e; decide
            · rintro y q e; cases e; decide
          · rintro g' rfl
            rw [show (((lm (2 ^ n) p).length : Int) - (lm (2 ^ n) q).length).toNat = (lm (2 ^ n) p).length - (lm (2 ^ n) q).length by lia, Nat.add_sub_cancel' hlen]
        · rintro _ rfl
          rw [cr_end hB hpn hqn]
          have hle1 := cr_le hB (lm (2 ^ n) p).length p q
          rw [cr_end hB hpn hqn] at hle1
          k_allIn
          refine ite_dec (fun h => ?_) (fun h => ?_)
          · have hc := cpos h
            refine SV.cons (S1.append rfl (by rw [zs_length, dg_length]; lia) ?_)
            k_allIn
            have h1 : (p + q) / (2 ^ n) ^ (lm (2 ^ n) p).length % 2 ^ n = (p + q) / (2 ^ n) ^ (lm (2 ^ n) p).length := Nat.mod_eq_of_lt (by grind -ring -splitIte)
            have h2 := dg_succ (2 ^ n) (lm (2 ^ n) p).length (p + q)
            rw [h1] at h2
            have h3 : dg (2 ^ n) ((lm (2 ^ n) p).length + 1) (p + q) = lm (2 ^ n) (p + q) := by
              have hpp : 0 < (2 ^ n) ^ (lm (2 ^ n) p).length := Nat.pow_pos (by exact Nat.le_of_lt ‹_›)
              refine dg_lm hB ?_ (.inr ?_)
              · rw [Nat.pow_succ]
                have : (2 ^ n) ^ (lm (2 ^ n) p).length * 2 ≤ (2 ^ n) ^ (lm (2 ^ n) p).length * 2 ^ n := Nat.mul_le_mul_left _ hB
                lia
              · rw [Nat.add_sub_cancel]
                rcases Nat.lt_or_ge (p + q) ((2 ^ n) ^ (lm (2 ^ n) p).length) with h | h
                · rw [Nat.div_eq_of_lt h] at hc; lia
                · exact h
            show _ = PV.lst (zs (lm (2 ^ n) (p + q)))
            rw [← h3, h2, zs_app]; rfl
          · have hc := czero h
            k_allIn
            have hlt : p + q < (2 ^ n) ^ (lm (2 ^ n) p).length := by
              rcases Nat.lt_or_ge (p + q) ((2 ^ n) ^ (lm (2 ^ n) p).length) with h | h
              · exact h
              · have := Nat.div_pos h (Nat.pow_pos (by exact Nat.le_of_lt ‹_›)); omega
            rw [dg_lm hB hlt]
            rcases Nat.eq_zero_or_pos p with rfl | h
            · left; rw [lm_zero]; rfl
            · right; exact Nat.le_trans (pow_len_le hB h) (Nat.le_add_right _ _)
end
section
variable (w : World) (mean : ExcName → Option Value) (mg mb : Str → Option Value)

theorem ct_sub (n x y : Nat) (hw : 1 ≤ n) (hw2 : n ≤ 63) (hx : x < 2 ^ 64) (hyx : y ≤ x) : Ct (WH w mean mg mb) 2 86 [LZ n x, LZ n y, .int n] (fun r => r = LZ n (x - y)) := by
  have hB := pow2_gt hw
  have hy : y < 2 ^ 64 := by lia
  have hlx := lz_len hw hx
  have hly := lz_len hw hy
  have lx := zs_length (lm (2 ^ n) x)
  have ly := zs_length (lm (2 ^ n) y)
  have hxn := lt_pow_len hB x
  refine Ct.mk rfl rfl [Str.ofString "a", Str.ofString "b", Str.ofString "w"] ?_ (by decide) rfl (by decide) rfl rfl rfl (by decide) ?_
  · intro s vs hl
    obtain ⟨_, _, _, rfl⟩ := vs3 hl; exact BindsTo.of_eq rfl
  · intro dp un gd L' outer A₀ base g
    k_memK; k_memK; k_memK
    k_allIn
    refine callok (ct_compare w mean mg mb n x y hw hx hy) ?_
    rintro _ rfl
    k_allIn
    refine ite_dec (fun h => absurd h ?_) (fun _ => SV.nil (SV.cons ?_))
    · rw [cmp3, if_neg (by lia)]; split <;> decide
    refine S1.own3 ?_
    refine NV.nil ?_
    iterate 4 k_memK
    refine OV.shlN 1 n rfl rfl (by lia) (by decide) ⟨rfl, rfl, SV.cons ?_⟩
    rw [Nat.one_mul]
    refine S1.for1 [Str.ofString "a", Str.ofString "b", Str.ofString "w", Str.ofString "base", Str.ofString "borrow"] ((lm (2 ^ n) x).length : Int) (fun i g' => g' = ⟨[(Str.ofString "a", LZ n x), (Str.ofString "b", LZ n y), (Str.ofString "w", .int n), (Str.ofString "base", .int (2 ^ n : Nat)), (Str.ofString "borrow", .int (bw (2 ^ n) i x y))], [], some (Str.ofString "found", .lst (zs (dg (2 ^ n) i (x - y))))⟩) (nb_range _) ?_ ?_ ?_ ?_ ?_ ?_
    · k_allIn
      exact ⟨by lia, by rw [lx]⟩
    · constructor <;> lia
    · rintro g' i rfl y q e; cases e; decide
    · show _ = _
      rw [show bw (2 ^ n) 0 x y = 0 by simp [bw, Nat.mod_one]]; rfl
    · rintro i g' hi rfl
      have hi' := clt hi
      refine SV.cons (S1.assignP ?_ ?_)
      · k_memK; k_memK
        refine EV.item ?_
        k_allIn
        refine ⟨by lia, Int.natCast_nonneg _, _, zs_get (lm_get hB _ _ (by rw [Int.toNat_natCast]; omega)), ?_⟩
        rw [Int.toNat_natCast]
        k_memK
        refine OV.sub ?_
        refine EV.mono (Q := fun b => b = PV.int (y / (2 ^ n) ^ i % 2 ^ n : Nat)) ?_ ?_
        · k_allIn
          refine ⟨by lia, ?_⟩
          rw [ly]
          k_allIn
          refine ite_dec (fun h => ?_) (fun h => ?_)
          · refine EV.item ?_
            k_allIn
            refine ⟨by lia, Int.natCast_nonneg _, _, zs_get (lm_get hB _ _ (by rw [Int.toNat_natCast]; exact clt h)), ?_⟩
            rw [Int.toNat_natCast]
          · k_allIn
            rw [dig_zero hB _ _ (cge h), Nat.zero_mod]
            rfl
        · rintro _ rfl
          refine OV.sub ⟨rfl, ?_⟩
          rw [show ((x / (2 ^ n) ^ i % 2 ^ n : Nat) : Int) - (bw (2 ^ n) i x y : Int) - ((y / (2 ^ n) ^ i % 2 ^ n : Nat) : Int) = lb (2 ^ n) i x y from rfl]
          have e1 := sub_dig hB i hyx
          have e2 := sub_next hB i x y
          refine SV.cons (S1.assignP (EV.mono (Q := fun p => p = .int (bw (2 ^ n) (i + 1) x y)) ?_ ?_) ?_)
          · k_allIn
            rw [e2]
            refine ite_dec (fun h => ?_) (fun h => ?_)
            · rw [if_pos h]; k_memK; rfl
            · rw [if_neg h]; k_memK; rfl
          · rintro _ rfl
            refine ⟨rfl, SV.cons (S1.append rfl (by rw [zs_length, dg_length]; lia) (EV.mono (Q := fun p => p = .int ((x - y) / (2 ^ n) ^ i % 2 ^ n : Nat)) ?_ ?_))⟩
            · k_allIn
              rw [e1]
              refine ite_dec (fun h => ?_) (fun h => ?_)
              · rw [if_pos h]
                k_allIn
                refine OV.add ?_
                rfl
              · rw [if_neg h]
                k_allIn
                rfl
            · rintro _ rfl
              refine ⟨_, rfl, SV.nil ?_⟩
              rw [dg_succ, zs_app]; rfl
          · rintro y q e; cases e; decide
      · rintro y q e; cases e; decide
    · rintro g' rfl
      rw [Int.toNat_natCast]
      k_memK; k_memK
      k_allIn
      refine callok (ct_normal w mean mg mb (dg (2 ^ n) (lm (2 ^ n) x).length (x - y)) (by rw [dg_length]; lia)) ?_
      rintro _ rfl
      rw [strip_dg hB _ _ (by lia)]
end
section
variable (w : World) (mean : ExcName → Option Value) (mg mb : Str → Option Value)

theorem ct_add_at (n x y k : Nat) (hw : 1 ≤ n) (hw2 : n ≤ 63) (hx : x < 2 ^ 64) (hy : y < 2 ^ 64) (hk : k ≤ 1000) (hxy : x + y * (2 ^ n) ^ k < 2 ^ 64) : Ct (WH w mean mg mb) 2 93 [LZ n x, LZ n y, .int k, .int n] (fun r => r = LZ n (x + y * (2 ^ n) ^ k)) := by
  have hB := pow2_gt hw
  have hlx := lz_len hw hx
  have hly := lz_len hw hy
  have lx := zs_length (lm (2 ^ n) x)
  have ly := zs_length (lm (2 ^ n) y)
  refine Ct.mk rfl rfl [Str.ofString "a", Str.ofString "b", Str.ofString "spot", Str.ofString "w"] ?_ (by decide) rfl (by decide) rfl rfl rfl (by decide) ?_
  · intro s vs hl
    obtain ⟨_, _, _, _, rfl⟩ := vs4 hl; exact BindsTo.of_eq rfl
  · intro dp un gd L' outer A₀ base g
    k_allIn
    refine ⟨by lia, ?_⟩
    rw [ly]
    k_allIn
    refine ite_dec (fun h => ?_) (fun h => ?_)
    · have h0 : y = 0 := (lm_nil hB).mp (List.length_eq_zero_iff.mp (by lia))
      subst h0
      k_allIn
      refine ⟨by lia, ?_⟩
      rw [Nat.zero_mul, Nat.add_zero]
    · have hyp : 0 < y := by
        rcases Nat.eq_zero_or_pos y with rfl | h'
        · rw [lm_zero] at h; exact absurd rfl h
        · exact h'
      k_allIn
      refine ⟨by lia, ?_⟩
      rw [lx]
      k_allIn
      refine ite_dec (fun hge => ?_) (fun hlt => ?_)
      · have hge' := cle hge
        k_memK; k_memK; k_memK; k_memK; k_memK; k_memK
        refine EV.disp1 ?_
        k_allIn
        refine ⟨by omega, ?_⟩
        rw [lx]
        refine OV.subN k (lm (2 ^ n) x).length rfl rfl hge' ?_
        refine OV.rep (by omega) (by lia) ?_
        rw [Int.toNat_natCast, zs_rep]
        refine OV.cat (by rw [lx, zs_length, List.length_replicate]; lia) ?_
        k_memK
        rw [← zs_app, ← dg_pad hB k x hge']
        refine OV.cat (by rw [zs_length, dg_length]; lia) ?_
        show _ = PV.lst (zs (lm (2 ^ n) (x + y * (2 ^ n) ^ k)))
        rw [← zs_app, add_at_lm hB (Nat.lt_of_lt_of_le hyp (Nat.le_add_left _ _)), dig_zero hB k x hge', Nat.zero_add]
      · have hlt' := cgt hlt
        k_memK; k_memK; k_memK
        k_allIn
        refine ⟨by lia, by lia, ?_⟩
        k_allIn
        refine ⟨by omega, by omega, ?_⟩
        k_allIn
        rw [Int.toNat_natCast, zs_drop, drop_lm hB, zs_take]
        have hs : x / (2 ^ n) ^ k + y < 2 ^ 64 := by
          have hp : 0 < (2 ^ n) ^ k := Nat.pow_pos (by exact Nat.le_of_lt ‹_›)
          have e : (x + y * (2 ^ n) ^ k) / (2 ^ n) ^ k = x / (2 ^ n) ^ k + y := Nat.add_mul_div_right _ _ hp
          rw [← e]
          exact Nat.lt_of_le_of_lt (Nat.div_le_self _ _) hxy
        refine callok (ct_add w mean mg mb n (x / (2 ^ n) ^ k) y hw hw2 (by lia) hy hs) ?_
        rintro _ rfl
        have hls := lz_len hw hs
        refine OV.cat (by rw [zs_length, List.length_take]; lia) ?_
        show _ = PV.lst (zs (lm (2 ^ n) (x + y * (2 ^ n) ^ k)))
        rw [← zs_app, add_at_lm hB (Nat.lt_of_lt_of_le hyp (Nat.le_add_left _ _)), ← dg_take _ (lm (2 ^ n) x).length x k (by exact Nat.le_of_lt ‹_›), dg_len hB]
theorem ct_divrem_limb (n x l : Nat) (hw : 1 ≤ n) (hw2 : n ≤ 63) (hx : x < 2 ^ 64) (hl : 0 < l) (hl2 : l < 2 ^ 64) : Ct (WH w mean mg mb) 2 100 [LZ n x, .int l, .int n] (fun r => r = .pair (LZ n (x / l)) (.int (x % l : Nat))) := by
  have hB := pow2_gt hw
  have hlx := lz_len hw hx
  have lx := zs_length (lm (2 ^ n) x)
  refine Ct.mk rfl rfl [Str.ofString "a", Str.ofString "limb", Str.ofString "w"] ?_ (by decide) rfl (by decide) rfl rfl rfl (by decide) ?_
  · intro s vs hl
    obtain ⟨_, _, _, rfl⟩ := vs3 hl; exact BindsTo.of_eq rfl
  · intro dp un gd L' outer A₀ base g
    k_allIn
    refine ite_dec (fun h => absurd h (by lia)) (fun _ => SV.nil (SV.cons ?_))
    refine S1.own2 ?_
    refine NV.rep ?_
    k_allIn
    refine ⟨by lia, ?_⟩
    rw [lx]
    refine ⟨_, rfl, by lia, by lia, ?_⟩
    rw [Int.toNat_natCast]
    k_memK
    refine ⟨rfl, SV.cons ?_⟩
    refine S1.forD [Str.ofString "a", Str.ofString "limb", Str.ofString "w", Str.ofString "rest"] ((lm (2 ^ n) x).length - 1 : Int) (fun i g' => g' = ⟨[(Str.ofString "a", LZ n x), (Str.ofString "limb", .int l), (Str.ofString "w", .int n), (Str.ofString "rest", .int (x / (2 ^ n) ^ ((lm (2 ^ n) x).length - i) % l : Nat))], [], some (Str.ofString "found", .lst (zs (dd (2 ^ n) (lm (2 ^ n) x).length ((lm (2 ^ n) x).length - i) (x / l))))⟩) (nb_range _) ?_ ?_ ?_ ?_ ?_ ?_
    · k_allIn
      refine ⟨by omega, ?_⟩
      k_memK
      refine OV.sub ⟨by rw [lx], ?_⟩
      k_memK; k_memK; k_memK
      refine ⟨rfl, ?_⟩
      k_memK; k_memK; k_memK; rfl
    · constructor <;> lia
    · rintro g' i rfl y q e; cases e; decide
    · show _ = _
      rw [Nat.sub_zero, dig_zero hB _ _ (Nat.le_refl _), Nat.zero_mod, dd_top, ← zs_rep]; rfl
    · rintro i g' hi rfl
      have hj : (lm (2 ^ n) x).length - 1 - i < (lm (2 ^ n) x).length := by omega
      have e1 : ((lm (2 ^ n) x).length - 1 - (i : Int)).toNat = (lm (2 ^ n) x).length - 1 - i := by lia
      have e2 : (lm (2 ^ n) x).length - i = (lm (2 ^ n) x).length - 1 - i + 1 := by lia
      have e3 : (lm (2 ^ n) x).length - (i + 1) = (lm (2 ^ n) x).length - 1 - i := by lia
      rw [e2, e3]
      have hrest := Nat.mod_lt (x / (2 ^ n) ^ ((lm (2 ^ n) x).length - 1 - i + 1)) hl
      obtain ⟨d1, d2⟩ := long_div (x := x) (k := (lm (2 ^ n) x).length - 1 - i) hB hl
      rw [Nat.add_comm (x / (2 ^ n) ^ ((lm (2 ^ n) x).length - 1 - i + 1) % l * 2 ^ n)] at d1 d2
      have hdg : x / (2 ^ n) ^ ((lm (2 ^ n) x).length - 1 - i) % 2 ^ n < 2 ^ n := Nat.mod_lt _ (by exact Nat.le_of_lt ‹_›)
      refine SV.cons (S1.assignP ?_ ?_)
      · iterate 4 k_memK
        refine OV.shlN _ n rfl rfl (by lia) (by lia) ?_
        refine EV.item ?_
        k_allIn
        refine ⟨by lia, by omega, _, by rw [e1]; exact zs_get (lm_get hB _ _ hj), ?_⟩
        refine OV.borN' _ _ n rfl rfl hdg ⟨rfl, ?_⟩
        refine SV.cons ?_
        refine S1.seti rfl (by rw [zs_length, dd_length]; lia) ?_
        k_memK; k_memK; k_memK
        refine OV.fdivN _ l rfl rfl hl hl2 ?_
        rw [d1]
        k_memK
        refine ⟨_, _, rfl, rfl, by omega, by rw [zs_length, dd_length]; lia, ?_⟩
        rw [e1, zs_set, dd_set _ _ _ _ hj]
        refine SV.cons (S1.aug rfl ?_ ?_)
        · k_memK
          refine OV.imodN _ l rfl rfl hl ⟨rfl, SV.nil ?_⟩
          rw [d2]; rfl
        · rintro y q e; cases e; decide
      · rintro y q e; cases e; decide
    · rintro g' rfl
      rw [show (lm (2 ^ n) x).length - ((lm (2 ^ n) x).length - 1 + 1 : Int).toNat = 0 by lia, dd_zero, Nat.pow_zero, Nat.div_one]
      k_allIn
      k_allIn
      refine callok (ct_normal w mean mg mb (dg (2 ^ n) (lm (2 ^ n) x).length (x / l)) (by rw [dg_length]; lia)) ?_
      rintro _ rfl
      k_allIn
      rw [strip_dg hB _ _ (Nat.lt_of_le_of_lt (Nat.div_le_self _ _) (lt_pow_len hB x))]
end
section
variable (w : World) (mean : ExcName → Option Value) (mg mb : Str → Option Value)

theorem ct_shift_left (n x k : Nat) (hw : 1 ≤ n) (hw2 : n ≤ 63) (hx : x < 2 ^ 64) (hk : k ≤ 1000) (hxk : x * 2 ^ k < 2 ^ 64) : Ct (WH w mean mg mb) 1 107 [LZ n x, .int k, .int n] (fun r => r = LZ n (x * 2 ^ k)) := by
  have hB := pow2_gt hw
  have hlx := lz_len hw hx
  have lx := zs_length (lm (2 ^ n) x)
  have hsk : k / n ≤ 1000 := Nat.le_trans (Nat.div_le_self _ _) hk
  have hf : k % n < n := Nat.mod_lt _ (by assumption)
  have hv : x * 2 ^ k = x * 2 ^ (k % n) * (2 ^ n) ^ (k / n) := by rw [sh_pow n k, Nat.mul_assoc]
  generalize hs9 : k / n = s at *
  generalize hf9 : k % n = f at *
  refine Ct.mk rfl rfl [Str.ofString "a", Str.ofString "n", Str.ofString "w"] ?_ (by decide) rfl (by decide) rfl rfl rfl (by decide) ?_
  · intro s vs hl
    obtain ⟨_, _, _, rfl⟩ := vs3 hl; exact BindsTo.of_eq rfl
  · intro dp un gd L' outer A₀ base g
    k_allIn
    refine ⟨by lia, ?_⟩
    rw [lx]
    k_allIn
    refine ite_dec (fun h => ?_) (fun h => ?_)
    · have h0 : x = 0 := (lm_nil hB).mp (List.length_eq_zero_iff.mp (by lia))
      subst h0
      k_allIn
      show _ = PV.lst (zs (lm (2 ^ n) (0 * 2 ^ k)))
      rw [Nat.zero_mul, lm_zero]; rfl
    · have hxp : 0 < x := by
        rcases Nat.eq_zero_or_pos x with rfl | h'
        · rw [lm_zero] at h; exact absurd rfl h
        · exact h'
      refine SV.nil (SV.cons (S1.assign2s ?_))
      k_allIn
      refine OV.fdivN k n rfl rfl (by assumption) (by lia) ?_
      rw [hs9]
      k_allIn
      refine OV.modN k n rfl rfl (by assumption) ?_
      rw [hf9]
      k_memK; k_memK; k_memK; k_memK
      refine S1.own3 ?_
      refine NV.rep ?_
      k_allIn
      refine ⟨Int.natCast_nonneg _, by lia, ?_⟩
      rw [Int.toNat_natCast]
      iterate 5 k_memK
      refine OV.shlN 1 n rfl rfl (by lia) (by decide) ?_
      k_memK
      refine OV.subN (1 * 2 ^ n) 1 rfl rfl (by lia) ⟨rfl, rfl, SV.cons ?_⟩
      rw [Nat.one_mul]
      refine S1.forN [Str.ofString "a", Str.ofString "w", Str.ofString "few", Str.ofString "mask", Str.ofString "carry"] (zs (lm (2 ^ n) x)) (fun i g' => g' = ⟨[(Str.ofString "a", LZ n x), (Str.ofString "w", .int n), (Str.ofString "few", .int f), (Str.ofString "mask", .int (2 ^ n - 1 : Nat)), (Str.ofString "carry", .int (sc (2 ^ n) f i x))], [], some (Str.ofString "found", .lst (zs (dg (2 ^ n) (s + i) (x * 2 ^ k))))⟩) rfl ?_ ?_ ?_ ?_
      · rintro g' i rfl y q e; cases e; decide
      · show _ = _
        rw [sc_zero, hv, Nat.add_zero, dg_zeros hB, ← zs_rep]; rfl
      · rintro i v g' hv' rfl
        have hi : i < (lm (2 ^ n) x).length := by
          rcases Nat.lt_or_ge i (lm (2 ^ n) x).length with h | h
          · exact h
          · rw [List.getElem?_eq_none (by rw [lx]; exact h)] at hv'; cases hv'
        rw [zs_get (lm_get hB _ _ hi)] at hv'
        cases hv'
        have hd : x / (2 ^ n) ^ i % 2 ^ n < 2 ^ 64 := Nat.lt_of_lt_of_le (Nat.mod_lt _ (by exact Nat.le_of_lt ‹_›)) (Nat.pow_le_pow_right (by decide) (by lia))
        have hs := sc_lt hB f i x
        obtain ⟨s1, s2⟩ := sc_step hB f i x
        refine SV.cons (S1.aug rfl ?_ ?_)
        · k_memK; k_memK; k_memK
          refine OV.shlN _ f rfl rfl (by lia) hd ?_
          refine OV.iborN _ _ f rfl rfl hs ⟨rfl, ?_⟩
          refine SV.cons ?_
          refine S1.append rfl (by rw [zs_length, dg_length]; lia) ?_
          k_memK; k_memK; k_memK
          refine OV.maskN _ n rfl rfl ⟨_, rfl, SV.cons (S1.aug rfl ?_ ?_)⟩
          · k_memK
            refine OV.ishrN _ n rfl rfl ⟨rfl, SV.nil ?_⟩
            rw [s1, s2, ← Nat.add_assoc, dg_succ, zs_app, hv, dig_up hB]; rfl
          · rintro y q e; cases e; decide
        · rintro y q e; cases e; decide
      · rintro g' rfl
        rw [lx]
        have hxn := lt_pow_len hB x
        have hsc : sc (2 ^ n) f (lm (2 ^ n) x).length x = x * 2 ^ f / (2 ^ n) ^ (lm (2 ^ n) x).length := by rw [sc, Nat.mod_eq_of_lt hxn]
        have hlt := sc_lt hB f (lm (2 ^ n) x).length x
        have hpl : 0 < (lm (2 ^ n) x).length := by lia
        have hlow : (2 ^ n) ^ (s + (lm (2 ^ n) x).length - 1) ≤ x * 2 ^ k := by
          rw [show s + (lm (2 ^ n) x).length - 1 = (lm (2 ^ n) x).length - 1 + s by lia, Nat.pow_add, hv]
          refine Nat.mul_le_mul_right _ (Nat.le_trans (pow_len_le hB hxp) ?_)
          exact Nat.le_mul_of_pos_right _ (Nat.pow_pos (by decide))
        have hdiv : x * 2 ^ k / (2 ^ n) ^ (s + (lm (2 ^ n) x).length) = sc (2 ^ n) f (lm (2 ^ n) x).length x := by
          rw [hv, dig_up hB, hsc]
        have hpw : (2 : Nat) ^ f ≤ 2 ^ n := Nat.pow_le_pow_right (by decide) (by exact Nat.le_of_lt ‹_›)
        have hpp : 0 < (2 ^ n) ^ (s + (lm (2 ^ n) x).length) := Nat.pow_pos (by exact Nat.le_of_lt ‹_›)
        rw [← hdiv] at hlt ⊢
        k_allIn
        refine ite_dec (fun h => ?_) (fun h => ?_)
        · have hc := cpos h
          refine SV.cons ?_
          refine S1.append rfl (by rw [zs_length, dg_length]; lia) ?_
          k_allIn
          have h1 : x * 2 ^ k / (2 ^ n) ^ (s + (lm (2 ^ n) x).length) % 2 ^ n = x * 2 ^ k / (2 ^ n) ^ (s + (lm (2 ^ n) x).length) := Nat.mod_eq_of_lt (by exact Nat.lt_of_lt_of_le ‹_› ‹_›)
          have h2 := dg_succ (2 ^ n) (s + (lm (2 ^ n) x).length) (x * 2 ^ k)
          rw [h1] at h2
          have h3 : dg (2 ^ n) (s + (lm (2 ^ n) x).length + 1) (x * 2 ^ k) = lm (2 ^ n) (x * 2 ^ k) := by
            refine dg_lm hB ?_ (.inr ?_)
            · rw [Nat.pow_succ', ← Nat.div_lt_iff_lt_mul hpp]; (exact Nat.lt_of_lt_of_le ‹_› ‹_›)
            · rw [Nat.add_sub_cancel]
              rcases Nat.lt_or_ge (x * 2 ^ k) ((2 ^ n) ^ (s + (lm (2 ^ n) x).length)) with h | h
              · rw [Nat.div_eq_of_lt h] at hc; lia
              · exact h
          show _ = PV.lst (zs (lm (2 ^ n) (x * 2 ^ k)))
          rw [← h3, h2, zs_app]; rfl
        · have hc := czero h
          k_allIn
          have hlt2 : x * 2 ^ k < (2 ^ n) ^ (s + (lm (2 ^ n) x).length) := by
            rcases Nat.lt_or_ge (x * 2 ^ k) ((2 ^ n) ^ (s + (lm (2 ^ n) x).length)) with h | h
            · exact h
            · have := Nat.div_pos h hpp; lia
          rw [dg_lm hB hlt2 (.inr hlow)]
theorem ct_shift_right (n x k : Nat) (hw : 1 ≤ n) (hw2 : n ≤ 63) (hx : x < 2 ^ 64) (hk : k ≤ 1000) : Ct (WH w mean mg mb) 2 114 [LZ n x, .int k, .int n] (fun r => r = LZ n (x / 2 ^ k)) := by
  have hB := pow2_gt hw
  have hB2 : 2 ^ n < 2 ^ 64 := Nat.pow_lt_pow_right (by decide) (by lia)
  have hlx := lz_len hw hx
  have lx := zs_length (lm (2 ^ n) x)
  have hsk : k / n ≤ 1000 := Nat.le_trans (Nat.div_le_self _ _) hk
  have hf : k % n < n := Nat.mod_lt _ (by assumption)
  have hlt : x / 2 ^ k < (2 ^ n) ^ ((lm (2 ^ n) x).length - k / n) := by
    have hxn := lt_pow_len hB x
    rw [sh_pow n k, Nat.mul_comm, ← Nat.div_div_eq_div_mul]
    refine Nat.lt_of_le_of_lt (Nat.div_le_self _ _) ?_
    rcases Nat.le_total (k / n) (lm (2 ^ n) x).length with h | h
    · rw [Nat.div_lt_iff_lt_mul (Nat.pow_pos (by exact Nat.le_of_lt ‹_›)), ← Nat.pow_add, Nat.sub_add_cancel h]
      exact hxn
    · rw [dig_zero hB _ _ h]
      exact Nat.pow_pos (by exact Nat.le_of_lt ‹_›)
  have hdown := fun i => down_at n k i x (by assumption)
  generalize hs9 : k / n = s at *
  generalize hf9 : k % n = f at *
  refine Ct.mk rfl rfl [Str.ofString "a", Str.ofString "n", Str.ofString "w"] ?_ (by decide) rfl (by decide) rfl rfl rfl (by decide) ?_
  · intro s vs hl
    obtain ⟨_, _, _, rfl⟩ := vs3 hl; exact BindsTo.of_eq rfl
  · intro dp un gd L' outer A₀ base g
    refine SV.cons (S1.assign2s ?_)
    k_allIn
    refine OV.fdivN k n rfl rfl (by assumption) (by omega) ?_
    rw [hs9]
    k_allIn
    refine OV.modN k n rfl rfl (by assumption) ?_
    rw [hf9]
    k_memK; k_memK; k_memK; k_memK
    refine S1.own2 ?_
    refine NV.nil ?_
    iterate 4 k_memK
    refine OV.shlN 1 n rfl rfl (by omega) (by omega) ?_
    k_memK
    refine OV.subN (1 * 2 ^ n) 1 rfl rfl (by lia) ⟨rfl, SV.cons ?_⟩
    rw [Nat.one_mul]
    refine S1.for2 [Str.ofString "a", Str.ofString "w", Str.ofString "few", Str.ofString "mask"] s ((lm (2 ^ n) x).length : Int) (fun i g' => g' = ⟨[(Str.ofString "a", LZ n x), (Str.ofString "w", .int n), (Str.ofString "few", .int f), (Str.ofString "mask", .int (2 ^ n - 1 : Nat))], [], some (Str.ofString "found", .lst (zs (dg (2 ^ n) i (x / 2 ^ k))))⟩) (nb_range _) ?_ ?_ ?_ ?_ ?_ ?_ ?_
    · k_allIn
      exact ⟨by omega, by rw [lx]⟩
    · constructor <;> lia
    · constructor <;> lia
    · rintro g' i rfl y q e; cases e; decide
    · rfl
    · rintro i g' hi rfl
      have hi' : s + i < (lm (2 ^ n) x).length := by (grind -ring -splitIte)
      have e1 : (s + (i : Int)).toNat = s + i := by lia
      have hd0 : (0 : Int) ≤ s + (i : Int) := by lia
      have hab : x / (2 ^ n) ^ (s + i) / 2 ^ n % 2 ^ n < 2 ^ n := Nat.mod_lt _ (by exact Nat.le_of_lt ‹_›)
      refine SV.cons ?_
      refine S1.assignP ?_ ?_
      · refine EV.mono (Q := fun b => b = PV.int (x / (2 ^ n) ^ (s + i) / 2 ^ n % 2 ^ n : Nat)) ?_ ?_
        · k_allIn
          refine OV.addN (s + i) 1 (by lia) rfl ?_
          k_allIn
          refine ⟨by lia, ?_⟩
          rw [lx]
          k_allIn
          refine ite_dec (fun h => ?_) (fun h => ?_)
          · refine EV.item ?_
            k_allIn
            refine OV.addN (s + i) 1 (by omega) rfl ?_
            refine ⟨_, _, rfl, rfl, by lia, Int.natCast_nonneg _, _, zs_get (lm_get hB _ _ (by rw [Int.toNat_natCast]; exact clt h)), ?_⟩
            rw [Int.toNat_natCast, div_succ]
          · k_allIn
            rw [← div_succ, dig_zero hB _ _ (cge h), Nat.zero_mod]
            rfl
        · rintro _ rfl
          refine ⟨rfl, SV.cons ?_⟩
          refine S1.append rfl (by rw [zs_length, dg_length]; lia) ?_
          k_memK; k_memK; k_memK
          refine EV.item ?_
          k_allIn
          refine ⟨by omega, hd0, _, by rw [e1]; exact zs_get (lm_get hB _ _ hi'), ?_⟩
          k_memK
          refine OV.shrN _ f rfl rfl ?_
          iterate 5 k_memK
          refine OV.subN n f rfl rfl (by exact Nat.le_of_lt ‹_›) ?_
          refine OV.shlN _ (n - f) rfl rfl (by lia) (Nat.lt_trans hab hB2) ?_
          refine OV.borN _ _ (n - f) rfl rfl (down_lt hf) ?_
          k_memK
          refine OV.maskN _ n rfl rfl ⟨_, rfl, SV.nil ?_⟩
          rw [down_dig hf, hdown i, dg_succ, zs_app]; rfl
      · rintro y q e; cases e; decide
    · rintro g' rfl
      k_allIn
      k_allIn
      have e1 : (((lm (2 ^ n) x).length : Int) - s).toNat = (lm (2 ^ n) x).length - s := by lia
      rw [e1]
      refine callok (ct_normal w mean mg mb _ (by rw [dg_length]; lia)) ?_
      rintro _ rfl
      rw [strip_dg hB _ _ hlt]
theorem ct_trailing (n x : Nat) (hw : 1 ≤ n) (hw2 : n ≤ 63) (hx : x < 2 ^ 64) (h0 : 0 < x) : Ct (WH w mean mg mb) 1 142 [LZ n x, .int n] (fun r => r = .int (tz x)) := by
  have hB := pow2_gt hw
  have hlx := lz_len hw hx
  have lx := zs_length (lm (2 ^ n) x)
  refine Ct.mk rfl rfl [Str.ofString "a", Str.ofString "w"] ?_ (by decide) rfl (by decide) rfl rfl rfl (by decide) ?_
  · intro s vs hl
    obtain ⟨_, _, rfl⟩ := vs2 hl; exact BindsTo.of_eq rfl
  · intro dp un gd L' outer A₀ base g
    refine SV.cons ?_
    refine S1.forEnum [Str.ofString "a", Str.ofString "w"] (zs (lm (2 ^ n) x)) (fun i g' => g' = ⟨[(Str.ofString "a", LZ n x), (Str.ofString "w", .int n)], [], none⟩ ∧ x % (2 ^ n) ^ i = 0) (nb_enumerate _) ?_ rfl ?_ ?_ ?_ ?_
    · k_memK; rfl
    · rintro g' i ⟨rfl, _⟩; rfl
    · exact ⟨rfl, by rw [Nat.pow_zero, Nat.mod_one]⟩
    · rintro i v g' hv ⟨rfl, hz⟩
      have hi : i < (lm (2 ^ n) x).length := by
        rcases Nat.lt_or_ge i (lm (2 ^ n) x).length with h | h
        · exact h
        · rw [List.getElem?_eq_none (by rw [lx]; exact h)] at hv; cases hv
      rw [zs_get (lm_get hB _ _ hi)] at hv
      cases hv
      k_allIn
      refine ite_dec (fun h => ?_) (fun h => ?_)
      · have hd := cpos h
        iterate 7 k_memK
        refine OV.mulN i n rfl rfl (.inr (by lia)) ?_
        refine EV.bitlen ?_
        k_allIn
        refine OV.band ?_
        rw [band_low hd]
        refine ⟨_, rfl, ?_⟩
        rw [intBits_bl, bl_pow]
        refine OV.addN (i * n) _ rfl rfl ?_
        k_memK
        refine OV.subN _ 1 rfl rfl (by lia) ?_
        rw [tz_at hw hz hd]
        congr 2
      · have hd := czero h
        k_allIn
        rw [mod_succ_eq, hd, hz]; rfl
    · rintro g' ⟨rfl, hz⟩
      rw [lx, Nat.mod_eq_of_lt (lt_pow_len hB x)] at hz
      omega
end
section
variable (w : World) (mean : ExcName → Option Value) (mg mb : Str → Option Value)

/-- the digit at hand -/
noncomputable def dgt (k : Nat) : Nat := if k = 0 then 0 else 4 ^ (k - 1)
theorem dgt_pos {k : Nat} : 0 < dgt k ↔ 0 < k := by
  unfold dgt
  split
  · lia
  · have := Nat.pow_pos (n := k - 1) (show 0 < 4 by decide); lia
theorem dgt_next (k : Nat) : dgt (k + 1) / 2 ^ 2 = dgt k := by
  unfold dgt
  rw [if_neg (by lia), Nat.add_sub_cancel]
  split
  · subst_vars; rfl
  · obtain ⟨j, rfl⟩ : ∃ j, k = j + 1 := ⟨k - 1, by lia⟩
    rw [Nat.add_sub_cancel, Nat.pow_succ]; lia
theorem four_pow (t : Nat) : (4 : Nat) ^ t = 2 ^ t * 2 ^ t := by
  rw [show (4 : Nat) = 2 * 2 from rfl, Nat.mul_pow]
theorem small_sq (R t : Nat) : (R + 2 ^ t) * (R + 2 ^ t) = R * R + (R * 2 ^ (t + 1) + dgt (t + 1)) := by
  have : dgt (t + 1) = 2 ^ t * 2 ^ t := by rw [dgt, if_neg (by omega), Nat.add_sub_cancel, four_pow]
  rw [this, Nat.add_mul, Nat.mul_add, Nat.mul_add, Nat.pow_succ, Nat.mul_comm (2 ^ t) R, ← Nat.mul_assoc]; lia
theorem ct_sqrt_small (N : Nat) (hN : N < 2 ^ 60) : Ct (WH w mean mg mb) 1 150 [.int N] (fun r => r = .int (isq N)) := by
  refine Ct.mk rfl rfl [Str.ofString "n"] ?_ (by decide) rfl (by decide) rfl rfl rfl (by decide) ?_
  · intro s vs hl
    obtain ⟨_, rfl⟩ := vs1 hl; exact BindsTo.of_eq rfl
  · intro dp un gd L' outer A₀ base g
    iterate 4 k_memK
    refine S1.loop [Str.ofString "n", Str.ofString "digit"] (fun k g' => ∃ j, g' = ⟨[(Str.ofString "n", .int N), (Str.ofString "digit", .int (4 ^ j : Nat))], [], none⟩ ∧ k = N + 1 - 4 ^ j) N ⟨0, rfl, by lia⟩ ?_
    rintro k g' ⟨j, rfl, rfl⟩
    iterate 4 k_memK
    refine OV.mulN (4 ^ j) 4 rfl rfl (.inr (by decide)) ?_
    k_allIn
    refine ite_dec (fun h => ?_) (fun h => ?_)
    · have h4 := cle h
      k_allIn
      refine OV.mulN (4 ^ j) 4 rfl rfl (.inr (by decide)) ?_
      refine SV.nil ⟨N + 1 - 4 ^ (j + 1), ?_, j + 1, ?_, rfl⟩
      · rw [Nat.pow_succ]; have := Nat.pow_pos (n := j) (show 0 < 4 by decide); omega
      · rw [Nat.pow_succ]; rfl
    · have h4 := cgt h
      iterate 4 k_memK
      refine S1.loop [Str.ofString "n", Str.ofString "digit", Str.ofString "found"] (fun k g' => ∃ R, g' = ⟨[(Str.ofString "n", .int (N - R * R : Nat)), (Str.ofString "digit", .int (dgt k)), (Str.ofString "found", .int (R * 2 ^ k : Nat))], [], none⟩ ∧ R * R ≤ N ∧ N < (R + 2 ^ k) * (R + 2 ^ k)) (j + 1) ⟨0, ?_, Nat.zero_le _, ?_⟩ ?_
      · rw [Nat.zero_mul, Nat.zero_mul, dgt, if_neg (by lia), Nat.add_sub_cancel]; rfl
      · rw [Nat.zero_add, ← four_pow, Nat.pow_succ]; exact h4
      · rintro k g' ⟨R, rfl, h1, h2⟩
        k_allIn
        refine ite_dec (fun h => ?_) (fun h => ?_)
        · have hk := dgt_pos.mp (cpos h)
          obtain ⟨t, rfl⟩ : ∃ t, k = t + 1 := ⟨k - 1, by lia⟩
          have hsq := small_sq R t
          have hhalf : R * 2 ^ (t + 1) / 2 ^ 1 = R * 2 ^ t := by
            rw [Nat.pow_succ, ← Nat.mul_assoc, Nat.pow_one]; exact Nat.mul_div_cancel _ (by decide)
          have hd : dgt (t + 1) = 2 ^ t * 2 ^ t := by rw [dgt, if_neg (by lia), Nat.add_sub_cancel, four_pow]
          iterate 7 k_memK
          refine OV.addN (R * 2 ^ (t + 1)) (dgt (t + 1)) rfl rfl ?_
          k_allIn
          refine ite_dec (fun h => ?_) (fun h => ?_)
          · have hge := cle h
            k_allIn
            refine OV.subN (N - R * R) (R * 2 ^ (t + 1)) rfl rfl (by omega) ?_
            k_memK
            refine OV.subN _ (dgt (t + 1)) rfl rfl (by omega) ?_
            k_allIn
            refine OV.shrN (R * 2 ^ (t + 1)) 1 rfl rfl ?_
            k_memK
            refine OV.addN _ (dgt (t + 1)) rfl rfl ?_
            k_allIn
            refine OV.shrN (dgt (t + 1)) 2 rfl rfl ?_
            refine SV.nil ⟨t, by lia, R + 2 ^ t, ?_, by omega, ?_⟩
            · rw [dgt_next, hhalf, hd, hsq, ← Nat.add_mul, ← hd, show N - (R * R + (R * 2 ^ (t + 1) + dgt (t + 1))) = N - R * R - R * 2 ^ (t + 1) - dgt (t + 1) by lia]; rfl
            · rw [show R + 2 ^ t + 2 ^ t = R + 2 ^ (t + 1) by rw [Nat.pow_succ]; lia]; exact h2
          · have hlt := cgt h
            k_allIn
            refine OV.shrN (R * 2 ^ (t + 1)) 1 rfl rfl ?_
            k_allIn
            refine OV.shrN (dgt (t + 1)) 2 rfl rfl ?_
            refine SV.nil ⟨t, by omega, R, ?_, h1, by omega⟩
            rw [dgt_next, hhalf]; rfl
        · have hk : k = 0 := by
            rcases Nat.eq_zero_or_pos k with h0 | h0
            · exact h0
            · exact absurd (Int.natCast_pos.mpr (dgt_pos.mpr h0)) h
          subst hk
          k_allIn
          rw [Nat.pow_zero, Nat.mul_one]
          rw [← isq_of h1 (by simpa using h2)]
theorem ct_sqrt_two_limbs (n x : Nat) (hw : 1 ≤ n) (hw2 : n ≤ 63) (hx : x < 2 ^ 60) : Ct (WH w mean mg mb) 2 164 [LZ n x, .int n] (fun r => r = .pair (LZ n (isq x)) (LZ n (x - isq x * isq x))) := by
  have hB := pow2_gt hw
  have hx64 : x < 2 ^ 64 := by lia
  have hl := lz_len hw hx64
  have lx := zs_length (lm (2 ^ n) x)
  have hr : isq x ≤ x := irt_le_self (by decide) x
  have hrr := isq_le x
  refine Ct.mk rfl rfl [Str.ofString "a", Str.ofString "w"] ?_ (by decide) rfl (by decide) rfl rfl rfl (by decide) ?_
  · intro s vs hl
    obtain ⟨_, _, rfl⟩ := vs2 hl; exact BindsTo.of_eq rfl
  · intro dp un gd L' outer A₀ base g
    iterate 4 k_memK
    refine S1.forRev [Str.ofString "a", Str.ofString "w", Str.ofString "n"] (zs (lm (2 ^ n) x)) (fun i g' => g' = ⟨[(Str.ofString "a", LZ n x), (Str.ofString "w", .int n), (Str.ofString "n", .int (x / (2 ^ n) ^ ((lm (2 ^ n) x).length - i) : Nat))], [], none⟩) (nb_reversed _) ?_ rfl ?_ ?_ ?_ ?_
    · k_memK; rfl
    · rintro g' i rfl y q e; cases e
    · show _ = _
      rw [Nat.sub_zero, dig_zero hB _ _ (Nat.le_refl _)]; rfl
    · rintro i v g' hi hv rfl
      rw [lx] at hi hv
      have hj : (lm (2 ^ n) x).length - 1 - i < (lm (2 ^ n) x).length := by omega
      rw [zs_get (lm_get hB _ _ hj)] at hv
      cases hv
      have hq : x / (2 ^ n) ^ ((lm (2 ^ n) x).length - i) < 2 ^ 64 := Nat.lt_of_le_of_lt (Nat.div_le_self _ _) hx64
      iterate 6 k_memK
      refine OV.shlN _ n rfl rfl (by lia) hq ?_
      k_memK
      refine OV.addN _ _ rfl rfl ?_
      k_memK
      show _ = _
      have e : x / (2 ^ n) ^ ((lm (2 ^ n) x).length - (i + 1)) = x / (2 ^ n) ^ ((lm (2 ^ n) x).length - i) * 2 ^ n + x / (2 ^ n) ^ ((lm (2 ^ n) x).length - 1 - i) % 2 ^ n := by
        have := div_step (2 ^ n) x ((lm (2 ^ n) x).length - 1 - i)
        rw [show (lm (2 ^ n) x).length - 1 - i + 1 = (lm (2 ^ n) x).length - i by (grind -ring -splitIte)] at this
        rw [show (lm (2 ^ n) x).length - (i + 1) = (lm (2 ^ n) x).length - 1 - i by lia]
        exact this
      rw [e]
      rfl
    · rintro g' rfl
      rw [lx, Nat.sub_self, Nat.pow_zero, Nat.div_one]
      k_memK; k_memK
      k_allIn
      refine callok (ct_sqrt_small w mean mg mb x hx) ?_
      rintro _ rfl
      k_allIn
      k_allIn
      refine callok (ct_nat_of w mean mg mb n (isq x) hw hw2 (by lia)) ?_
      rintro _ rfl
      k_memK
      k_allIn
      refine OV.mulN (isq x) (isq x) rfl rfl (.inl (by omega)) ?_
      refine OV.subN x (isq x * isq x) rfl rfl hrr ?_
      k_allIn
      refine callok (ct_nat_of w mean mg mb n (x - isq x * isq x) hw hw2 (by omega)) ?_
      rintro _ rfl
      k_allIn
      rfl
end
section
variable (w : World) (mean : ExcName → Option Value) (mg mb : Str → Option Value)

theorem pair_step (x q : Nat) : x / 4 ^ q = 4 * (x / 4 ^ (q + 1)) + (2 * (x / 2 ^ (2 * q + 1) % 2) + x / 2 ^ (2 * q) % 2) := by
  rw [show (4 : Nat) ^ (q + 1) = 4 ^ q * 4 from Nat.pow_succ .., show (2 : Nat) ^ (2 * q + 1) = 2 ^ (2 * q) * 2 from Nat.pow_succ .., Nat.pow_mul, show (2 : Nat) ^ 2 = 4 from rfl, ← Nat.div_div_eq_div_mul, ← Nat.div_div_eq_div_mul]
  lia
theorem cmp3_ge {x y : Nat} : (cmp3 x y ≥ 0) ↔ y ≤ x := by
  unfold cmp3
  split
  · constructor <;> intro h <;> lia
  · split <;> constructor <;> intro h <;> lia
theorem ct_sqrt_plain (n x : Nat) (hw : 1 ≤ n) (hw2 : n ≤ 63) (hx : x < 2 ^ 60) : Ct (WH w mean mg mb) 3 157 [LZ n x, .int n] (fun r => r = .pair (LZ n (isq x)) (LZ n (x - isq x * isq x))) := by
  have hB := pow2_gt hw
  have hx64 : x < 2 ^ 64 := by lia
  have hlb := lt_bl x
  have hble := bl_le hx
  obtain ⟨p, hp⟩ : ∃ p, p = (bl x + 1) / 2 := ⟨_, rfl⟩
  have hp0 : x / 4 ^ p = 0 := by
    apply Nat.div_eq_of_lt
    rw [show (4 : Nat) = 2 ^ 2 from rfl, ← Nat.pow_mul]
    exact Nat.lt_of_lt_of_le hlb (Nat.pow_le_pow_right (by decide) (by lia))
  refine Ct.mk rfl rfl [Str.ofString "a", Str.ofString "w"] ?_ (by decide) rfl (by decide) rfl rfl rfl (by decide) ?_
  · intro s vs hl
    obtain ⟨_, _, rfl⟩ := vs2 hl; exact BindsTo.of_eq rfl
  · intro dp un gd L' outer A₀ base g
    refine SV.cons (S1.assign2s ?_)
    k_allIn
    rw [nil_lz n]
    refine S1.forD [Str.ofString "a", Str.ofString "w", Str.ofString "root", Str.ofString "rest"] ((p : Int) - 1) (fun i g' => g' = ⟨[(Str.ofString "a", LZ n x), (Str.ofString "w", .int n), (Str.ofString "root", LZ n (isq (x / 4 ^ (p - i)))), (Str.ofString "rest", LZ n (x / 4 ^ (p - i) - isq (x / 4 ^ (p - i)) * isq (x / 4 ^ (p - i))))], [], none⟩) (nb_range _) ?_ ?_ ?_ ?_ ?_ ?_
    · k_allIn
      refine callok (ct_bits w mean mg mb n x hw hw2 hx64) ?_
      rintro _ rfl
      k_allIn
      k_allIn
      refine OV.addN (bl x) (1) rfl rfl  ?_
      k_allIn
      k_allIn
      refine OV.fdivN (bl x + 1) (2) rfl rfl (by decide) (by decide) ?_
      k_allIn
      refine OV.sub ?_
      rw [← hp]
      k_allIn
      rfl
    · constructor <;> lia
    · rintro g' i rfl y q e; cases e
    · show _ = _
      rw [Nat.sub_zero, hp0, isq_zero]; rfl
    · rintro i g' hi rfl
      have hip : i < p := by (grind -ring -splitIte)
      rw [show (p : Int) - 1 - i = ((p - 1 - i : Nat) : Int) by lia, show p - i = (p - 1 - i) + 1 by lia, show p - (i + 1) = p - 1 - i by lia]
      have hq0 : 2 * (p - 1 - i) ≤ 60 := by lia
      generalize p - 1 - i = q at *
      have hst := pair_step x q
      have hb1 : x / 2 ^ (2 * q + 1) % 2 < 2 := Nat.mod_lt _ (by decide)
      have hb0 : x / 2 ^ (2 * q) % 2 < 2 := Nat.mod_lt _ (by omega)
      have hxq : x / 4 ^ q < 2 ^ 60 := Nat.lt_of_le_of_lt (Nat.div_le_self _ _) hx
      generalize hd1 : x / 2 ^ (2 * q + 1) % 2 = d1 at *
      generalize hd0 : x / 2 ^ (2 * q) % 2 = d0 at *
      generalize hy : x / 4 ^ (q + 1) = y at *
      have hir := isq_rest y
      have hil := isq_le y
      have hpair := isq_pair y (2 * d1 + d0) (by lia)
      rw [← hst] at hpair
      have hiy : isq y ≤ y := irt_le_self (by decide) y
      rw [hst] at hxq ⊢
      rw [hst] at hpair
      generalize hs : isq y = s at *
      generalize hr : y - s * s = r at *
      k_allIn
      refine callok (ct_shift_left w mean mg mb n r 2 hw hw2 (by lia) (by decide) (by lia)) ?_
      rintro _ rfl
      k_allIn
      k_allIn
      refine OV.mulN (2) (q) rfl rfl (by lia) ?_
      k_allIn
      k_allIn
      refine OV.addN (2 * q) (1) rfl rfl  ?_
      k_allIn
      refine callok (ct_bit w mean mg mb n x (2 * q + 1) hw hw2 hx64) ?_
      rintro _ rfl
      k_allIn
      rw [hd1]
      k_allIn
      refine OV.mulN (2) (d1) rfl rfl (by lia) ?_
      k_allIn
      k_allIn
      refine OV.mulN (2) (q) rfl rfl (by omega) ?_
      k_allIn
      refine callok (ct_bit w mean mg mb n x (2 * q) hw hw2 hx64) ?_
      rintro _ rfl
      k_allIn
      rw [hd0]
      k_allIn
      refine OV.addN (2 * d1) (d0) rfl rfl  ?_
      k_allIn
      refine callok (ct_nat_of w mean mg mb n (2 * d1 + d0) hw hw2 (by lia)) ?_
      rintro _ rfl
      k_allIn
      refine callok (ct_add w mean mg mb n (r * 2 ^ 2) (2 * d1 + d0) hw hw2 (by omega) (by omega) (by lia)) ?_
      rintro _ rfl
      k_allIn
      refine callok (ct_shift_left w mean mg mb n s 2 hw hw2 (by lia) (by omega) (by lia)) ?_
      rintro _ rfl
      k_allIn
      rw [one_lz hw]
      refine callok (ct_add w mean mg mb n (s * 2 ^ 2) 1 hw hw2 (by omega) (by decide) (by lia)) ?_
      rintro _ rfl
      k_allIn
      refine callok (ct_shift_left w mean mg mb n s 1 hw hw2 (by omega) (by decide) (by lia)) ?_
      rintro _ rfl
      k_allIn
      refine callok (ct_compare w mean mg mb n (r * 2 ^ 2 + (2 * d1 + d0)) (s * 2 ^ 2 + 1) hw (by omega) (by omega)) ?_
      rintro _ rfl
      k_allIn
      refine ite_dec (fun h => ?_) (fun h => ?_)
      · have hle := cmp3_ge.mp h
        k_allIn
        refine callok (ct_sub w mean mg mb n (r * 2 ^ 2 + (2 * d1 + d0)) (s * 2 ^ 2 + 1) hw hw2 (by omega) (by omega)) ?_
        rintro _ rfl
        k_allIn
        rw [one_lz hw]
        refine callok (ct_add w mean mg mb n (s * 2 ^ 1) 1 hw hw2 (by omega) (by omega) (by lia)) ?_
        rintro _ rfl
        k_allIn
        rw [if_pos (by grind -ring -splitIte)] at hpair
        have e1 : (2 * s + 1) * (2 * s + 1) = 4 * (s * s) + 4 * s + 1 := by
          rw [Nat.add_mul, Nat.mul_add, Nat.mul_assoc, Nat.mul_left_comm s 2 s]; lia
        rw [hpair, show s * 2 ^ 1 + 1 = 2 * s + 1 by lia, show r * 2 ^ 2 + (2 * d1 + d0) - (s * 2 ^ 2 + 1) = 4 * y + (2 * d1 + d0) - (2 * s + 1) * (2 * s + 1) by lia]; rfl
      · have hle : ¬ _ := fun h' => h (cmp3_ge.mpr h')
        k_allIn
        rw [if_neg (by grind -ring -splitIte)] at hpair
        have e1 : 2 * s * (2 * s) = 4 * (s * s) := by
          rw [Nat.mul_assoc, Nat.mul_left_comm s 2 s]; lia
        rw [hpair, show s * 2 ^ 1 = 2 * s by lia, show r * 2 ^ 2 + (2 * d1 + d0) = 4 * y + (2 * d1 + d0) - 2 * s * (2 * s) by lia]; rfl
    · rintro g' rfl
      rw [show ((p : Int) - 1 + 1).toNat = p by lia, Nat.sub_self, Nat.pow_zero, Nat.div_one]
      k_allIn
      rfl
end
section
variable (w : World) (mean : ExcName → Option Value) (mg mb : Str → Option Value)

theorem halves_facts {n part size x : Nat} (hn : 1 ≤ n) (hp : 1 ≤ part) (h4 : 4 * part ≤ size) (h1 : x < (2 ^ n) ^ size) (h2 : (2 ^ n) ^ size ≤ 4 * x) :
    x / (2 ^ n) ^ (2 * part) < (2 ^ n) ^ (size - 2 * part) ∧ (2 ^ n) ^ (size - 2 * part) ≤ 4 * (x / (2 ^ n) ^ (2 * part)) ∧ (2 ^ n) ^ part ≤ 2 * isq (x / (2 ^ n) ^ (2 * part)) ∧ (2 ^ n) ^ (2 * part) = (2 ^ n) ^ part * (2 ^ n) ^ part := by
  have hQ : 0 < (2 ^ n) ^ (2 * part) := Nat.pow_pos (Nat.pow_pos (by decide))
  have e : (2 ^ n) ^ size = (2 ^ n) ^ (size - 2 * part) * (2 ^ n) ^ (2 * part) := by rw [← Nat.pow_add, Nat.sub_add_cancel (by lia)]
  have ePP : (2 ^ n) ^ (2 * part) = (2 ^ n) ^ part * (2 ^ n) ^ part := by rw [← Nat.pow_add]; congr 1; lia
  have hM : ∃ M, (2 ^ n) ^ (size - 2 * part) = 4 * M := by
    have : 2 ≤ n * (size - 2 * part) := by
      have := Nat.mul_le_mul hn (show 2 ≤ size - 2 * part by lia); omega
    refine ⟨2 ^ (n * (size - 2 * part) - 2), ?_⟩
    rw [← Nat.pow_mul, show (4 : Nat) = 2 ^ 2 from rfl, ← Nat.pow_add]; congr 1; (grind -ring -splitIte)
  have hE : ∃ T, (2 ^ n) ^ part = 2 * T := by
    have : 1 ≤ n * part := Nat.mul_le_mul hn hp
    refine ⟨2 ^ (n * part - 1), ?_⟩
    rw [← Nat.pow_mul, ← Nat.pow_succ']; congr 1; (grind -ring -splitIte)
  have hle : (2 ^ n) ^ part * (2 ^ n) ^ part ≤ (2 ^ n) ^ (size - 2 * part) := by
    rw [← ePP]; exact Nat.pow_le_pow_right (Nat.pow_pos (by decide)) (by lia)
  have hl := isq_lt (x / (2 ^ n) ^ (2 * part))
  rw [e] at h1 h2
  obtain ⟨M, hM⟩ := hM
  obtain ⟨T, hE⟩ := hE
  generalize isq (x / (2 ^ n) ^ (2 * part)) = s at *
  have hup : M ≤ x / (2 ^ n) ^ (2 * part) := by
    rw [Nat.le_div_iff_mul_le hQ]
    rw [hM, Nat.mul_assoc] at h2
    lia
  refine ⟨by rw [Nat.div_lt_iff_lt_mul hQ]; exact h1, by lia, ?_, ePP⟩
  rw [hE] at hle ⊢
  have h3 : T * T < (s + 1) * (s + 1) := by
    have : 2 * T * (2 * T) = 4 * (T * T) := by rw [Nat.mul_assoc, Nat.mul_left_comm T 2 T]; lia
    lia
  have h4 : T < s + 1 := by
    rcases Nat.lt_or_ge T (s + 1) with h | h
    · exact h
    · have := Nat.mul_le_mul h h; (grind -ring -splitIte)
  lia
theorem halves_bounds {P up x mi la s r : Nat} (hPp : 0 < P) (hupx : up * (P * P) ≤ x) (hx : x < 2 ^ 40) (hmm : mi < P) (hll : la < P) (hsu : s ≤ up) (hr : r ≤ up) (hir : r ≤ 2 * s) (f3 : P ≤ 2 * s) :
    0 < s ∧ s < 2 ^ 40 ∧ P * P < 2 ^ 40 ∧ P < 2 ^ 40 ∧ s * P < 2 ^ 40 ∧ mi + r * P < 2 ^ 50 ∧ ∀ u, u < 2 * s → la + u * P < 2 ^ 50 := by
  have hPP : 0 < P * P := Nat.mul_pos hPp hPp
  have hPle : P ≤ P * P := Nat.le_mul_of_pos_right _ hPp
  have hup0 : 0 < up := by lia
  have hPx : P * P ≤ up * (P * P) := Nat.le_mul_of_pos_left _ hup0
  have hux : up ≤ up * (P * P) := Nat.le_mul_of_pos_right _ hPP
  have hsP : s * P ≤ up * (P * P) := Nat.mul_le_mul hsu hPle
  have hrP : r * P ≤ up * (P * P) := Nat.mul_le_mul hr hPle
  refine ⟨by lia, by lia, by lia, by lia, by lia, by lia, fun u hu => ?_⟩
  have huP : u * P ≤ 2 * s * P := Nat.mul_le_mul_right _ (by exact Nat.le_of_lt ‹_›)
  rw [Nat.mul_assoc] at huP
  lia
noncomputable def HSt (n t : Nat) : Prop := ∀ (x size : Nat), size ≤ 2 * t → size % 2 = 0 → 0 < size → x < 2 ^ 40 → x < (2 ^ n) ^ size → (2 ^ n) ^ size ≤ 4 * x → Ct (WH w mean mg mb) (t + 4) 171 [LZ n x, .int size, .int n, .int 4, .fn 253, .fn 260] (fun r => r = .pair (LZ n (isq x)) (LZ n (x - isq x * isq x)))
theorem halves_step (n : Nat) (hw : 1 ≤ n) (hw2 : n ≤ 63) (t : Nat) (ih : HSt w mean mg mb n t) : HSt w mean mg mb n (t + 1) := by
  intro x size hs he h0 hx h1 h2
  have hB := pow2_gt hw
  have hx64 : x < 2 ^ 64 := by lia
  have hsz : size ≤ 42 := by
    rcases Nat.lt_or_ge 42 size with h | h
    · have a : 2 ^ size ≤ (2 ^ n) ^ size := Nat.pow_le_pow_left (by assumption) _
      have b : 2 ^ 42 ≤ 2 ^ size := Nat.pow_le_pow_right (by decide) (by exact Nat.le_of_lt ‹_›)
      lia
    · exact h
  refine Ct.mk rfl rfl [Str.ofString "a", Str.ofString "size", Str.ofString "w", Str.ofString "least", Str.ofString "mul", Str.ofString "divrem"] ?_ (by decide) rfl (by decide) rfl rfl rfl (by decide) ?_
  · intro s vs hl
    obtain ⟨_, _, _, _, _, _, rfl⟩ := vs6 hl; exact BindsTo.of_eq rfl
  · intro dp un gd L' outer A₀ base g
    k_allIn
    refine ite_dec (fun h => ?_) (fun h => ?_)
    · k_allIn
      refine callok (ct_sqrt_two_limbs w mean mg mb n x hw hw2 (by lia)) ?_ (by lia)
      rintro _ rfl
      k_allIn
      rfl
    · k_allIn
      refine ite_dec (fun h => ?_) (fun h => ?_)
      · k_allIn
        refine callok (ct_sqrt_plain w mean mg mb n x hw hw2 (by omega)) ?_ (by lia)
        rintro _ rfl
        k_allIn
        rfl
      · have h4 : 4 < size := by (grind -ring -splitIte)
        k_allIn
        k_allIn
        refine OV.fdivN (size) (4) rfl rfl (by decide) (by decide) ?_
        k_allIn
        obtain ⟨part, hp⟩ : ∃ part, part = size / 4 := ⟨_, rfl⟩
        rw [← hp]
        obtain ⟨f1, f2, f3, f4⟩ := halves_facts (part := part) hw (by lia) (by lia) h1 h2
        obtain ⟨P, hP⟩ : ∃ P, P = (2 ^ n) ^ part := ⟨_, rfl⟩
        have hPp : 0 < P := by rw [hP]; exact Nat.pow_pos (Nat.pow_pos (by decide))
        rw [← hP] at f3 f4
        k_allIn
        refine OV.mulN (2) (part) rfl rfl (by lia) ?_
        k_allIn
        refine callok (ct_split w mean mg mb n x (2 * part) hw hx64) ?_ (by lia)
        rintro _ rfl
        k_memK
        refine SV.at ⟨[(Str.ofString "w", .int n), (Str.ofString "least", .int 4), (Str.ofString "mul", .fn 253), (Str.ofString "divrem", .fn 260), (Str.ofString "size", .int size), (Str.ofString "part", .int part), (Str.ofString "lower", LZ n (x % (2 ^ n) ^ (2 * part))), (Str.ofString "upper", LZ n (x / (2 ^ n) ^ (2 * part)))], [], none⟩ rfl ?_
        k_allIn
        rw [f4] at f1 f2 f3 ⊢
        refine callok (ct_split w mean mg mb n (x % (P * P)) part hw (Nat.lt_of_le_of_lt (Nat.mod_le _ _) hx64)) ?_ (by omega)
        rintro _ rfl
        k_allIn
        rw [← hP]
        have hxe : x = x / (P * P) * (P * P) + x % (P * P) / P * P + x % (P * P) % P := by
          have a := Nat.div_add_mod x (P * P)
          have b := Nat.div_add_mod (x % (P * P)) P
          rw [Nat.mul_comm] at a b
          lia
        have hmm : x % (P * P) / P < P := by rw [Nat.div_lt_iff_lt_mul hPp]; exact Nat.mod_lt _ (Nat.mul_pos hPp hPp)
        have hll : x % (P * P) % P < P := Nat.mod_lt _ hPp
        generalize x / (P * P) = up at *
        generalize x % (P * P) / P = mi at *
        generalize x % (P * P) % P = la at *
        have hupx : up * (P * P) ≤ x := by lia
        have hPP : 0 < P * P := Nat.mul_pos hPp hPp
        have hup40 : up < 2 ^ 40 := Nat.lt_of_le_of_lt (Nat.le_trans (Nat.le_mul_of_pos_right _ hPP) hupx) hx
        k_allIn
        refine OV.mulN (2) (part) rfl rfl (by lia) ?_
        k_allIn
        k_allIn
        refine OV.subN (size) (2 * part) rfl rfl (by lia) ?_
        k_allIn
        refine callok (ih up (size - 2 * part) (by lia) (by lia) (by lia) hup40 f1 f2) ?_ (by lia)
        rintro _ rfl
        k_memK
        have hil := isq_le up
        have hir := isq_rest up
        have hiu : isq up ≤ up := irt_le_self (by decide) up
        obtain ⟨s, hs9⟩ : ∃ s, s = isq up := ⟨_, rfl⟩
        obtain ⟨r, hr9⟩ : ∃ r, r = up - s * s := ⟨_, rfl⟩
        rw [← hs9] at hil hir hiu f3 ⊢
        rw [← hr9] at hir ⊢
        obtain ⟨hs0, hs40, hPP40, hP40, hsP, hM, hU⟩ := halves_bounds (r := r) hPp hupx hx hmm hll hiu (by grind -ring -splitIte) hir f3
        refine SV.at ⟨[(Str.ofString "w", .int n), (Str.ofString "mul", .fn 253), (Str.ofString "divrem", .fn 260), (Str.ofString "part", .int part), (Str.ofString "last", LZ n la), (Str.ofString "middle", LZ n mi), (Str.ofString "root", LZ n s), (Str.ofString "rest", LZ n r)], [], none⟩ rfl ?_
        k_allIn
        refine callok (ct_add_at w mean mg mb n mi r part hw hw2 (by lia) (by lia) (by lia) (by rw [← hP]; lia)) ?_ (by lia)
        rintro _ rfl
        k_allIn
        rw [← hP]
        refine callok (ct_shift_left w mean mg mb n s 1 hw hw2 (by lia) (by decide) (by lia)) ?_ (by lia)
        rintro _ rfl
        k_allIn
        rw [show s * 2 ^ 1 = 2 * s by lia]
        refine callok (ct_law_divrem w mean mg mb n (mi + r * P) (2 * s) hw hw2 (by omega) (by lia) (by lia)) ?_ (by omega)
        rintro _ rfl
        k_memK
        obtain ⟨q, hq⟩ : ∃ q, q = (mi + r * P) / (2 * s) := ⟨_, rfl⟩
        obtain ⟨u, hu⟩ : ∃ u, u = (mi + r * P) % (2 * s) := ⟨_, rfl⟩
        rw [← hq, ← hu]
        have hu2 : u < 2 * s := by rw [hu]; exact Nat.mod_lt _ (by lia)
        rw [hr9] at hq hu
        have key := isq_halves (P := P) (m := mi) (l := la) (up := up) (s := s) (q := q) (u := u) (R := q + s * P) (E := la + u * P) (x := x) hPp hmm hll hs9.symm f3 hq.symm hu.symm rfl rfl hxe
        obtain ⟨k1, k2, k3⟩ := key
        have huP : u * P ≤ 2 * s * P := Nat.mul_le_mul_right _ (by exact Nat.le_of_lt ‹_›)
        rw [Nat.mul_assoc] at huP
        have hqq : q * q ≤ P * P := Nat.mul_le_mul k1 k1
        refine SV.at ⟨[(Str.ofString "w", .int n), (Str.ofString "mul", .fn 253), (Str.ofString "part", .int part), (Str.ofString "last", LZ n la), (Str.ofString "root", LZ n s), (Str.ofString "told", LZ n q), (Str.ofString "left", LZ n u)], [], none⟩ rfl ?_
        k_allIn
        refine callok (ct_add_at w mean mg mb n q s part hw hw2 (by grind -ring -splitIte) (by lia) (by lia) (by rw [← hP]; lia)) ?_ (by lia)
        rintro _ rfl
        k_allIn
        rw [← hP]
        refine callok (ct_add_at w mean mg mb n la u part hw hw2 (by lia) (by lia) (by omega) (by rw [← hP]; lia)) ?_ (by omega)
        rintro _ rfl
        rw [← hP]
        refine SV.at ⟨[(Str.ofString "w", .int n), (Str.ofString "mul", .fn 253), (Str.ofString "root", LZ n (q + s * P)), (Str.ofString "rest", LZ n (la + u * P)), (Str.ofString "told", LZ n q)], [], none⟩ rfl ?_
        k_allIn
        refine callok (ct_law_mul w mean mg mb n q q hw hw2 (by omega) (by omega) (by grind -ring -splitIte)) ?_ (by omega)
        rintro _ rfl
        k_allIn
        refine callok (ct_compare w mean mg mb n (la + u * P) (q * q) hw (by omega) (by omega)) ?_ (by lia)
        rintro _ rfl
        k_allIn
        refine ite_dec (fun h => ?_) (fun h => ?_)
        · have hge := cmp3_ge.mp h
          obtain ⟨g1, g2⟩ := k2 hge
          k_allIn
          refine callok (ct_sub w mean mg mb n (la + u * P) (q * q) hw hw2 (by lia) hge) ?_ (by omega)
          rintro _ rfl
          k_allIn
          rw [g1, g2]
        · have hlt : ¬ _ := fun h' => h (cmp3_ge.mpr h')
          obtain ⟨g1, g2, g3, g4⟩ := k3 (by grind -ring -splitIte)
          k_allIn
          refine callok (ct_shift_left w mean mg mb n (q + s * P) 1 hw hw2 (by omega) (by decide) (by lia)) ?_ (by omega)
          rintro _ rfl
          k_allIn
          refine callok (ct_add w mean mg mb n (la + u * P) ((q + s * P) * 2 ^ 1) hw hw2 (by grind -ring -splitIte) (by omega) (by lia)) ?_ (by omega)
          rintro _ rfl
          k_allIn
          rw [one_lz hw]
          refine callok (ct_add w mean mg mb n (q * q) 1 hw hw2 (by omega) (by decide) (by grind -ring -splitIte)) ?_ (by omega)
          rintro _ rfl
          k_allIn
          refine callok (ct_sub w mean mg mb n (la + u * P + (q + s * P) * 2 ^ 1) (q * q + 1) hw hw2 (by omega) (by grind -ring -splitIte)) ?_ (by omega)
          rintro _ rfl
          refine SV.at ⟨[(Str.ofString "w", .int n), (Str.ofString "root", LZ n (q + s * P)), (Str.ofString "rest", LZ n (la + u * P + (q + s * P) * 2 ^ 1 - (q * q + 1)))], [], none⟩ rfl ?_
          k_allIn
          rw [one_lz hw]
          refine callok (ct_sub w mean mg mb n (q + s * P) 1 hw hw2 (by omega) (by omega)) ?_ (by omega)
          rintro _ rfl
          k_allIn
          rw [g1, g4, show (q + s * P) * 2 ^ 1 = 2 * (q + s * P) by lia]
theorem ct_sqrt_halves (n : Nat) (hw : 1 ≤ n) (hw2 : n ≤ 63) (t : Nat) : HSt w mean mg mb n t := by
  induction t with
  | zero => intro x size hs he h0; omega
  | succ t ih => exact halves_step w mean mg mb n hw hw2 t ih
end
section
variable (w : World) (mean : ExcName → Option Value) (mg mb : Str → Option Value)

theorem len_bl {n x : Nat} (hw : 1 ≤ n) (h0 : 0 < x) : n * ((lm (2 ^ n) x).length - 1) ≤ bl x - 1 ∧ bl x ≤ n * (lm (2 ^ n) x).length ∧ 0 < (lm (2 ^ n) x).length := by
  have hB := pow2_gt hw
  have h1 := pow_len_le hB h0
  have h2 := lt_pow_len hB x
  have h3 := lt_bl x
  refine ⟨?_, ?_, ?_⟩
  · rw [← Nat.pow_mul] at h1
    have : 2 ^ (n * ((lm (2 ^ n) x).length - 1)) < 2 ^ bl x := Nat.lt_of_le_of_lt h1 h3
    have := (Nat.pow_lt_pow_iff_right (by decide)).mp this
    omega
  · rw [← Nat.pow_mul] at h2
    exact bl_le h2
  · rcases Nat.eq_zero_or_pos (lm (2 ^ n) x).length with h | h
    · rw [h, Nat.pow_zero] at h2; lia
    · exact h
theorem ct_sqrt_rem (n x : Nat) (hw : 1 ≤ n) (hw2 : n ≤ 9) (hx : x < 2 ^ 20) : Ct (WH w mean mg mb) 26 178 [LZ n x, .int n, .int 4, .fn 253, .fn 260] (fun r => r = .pair (LZ n (isq x)) (LZ n (x - isq x * isq x))) := by
  have hB := pow2_gt hw
  have hx64 : x < 2 ^ 64 := by lia
  have hlx := lz_len hw hx64
  have lx := zs_length (lm (2 ^ n) x)
  refine Ct.mk rfl rfl [Str.ofString "a", Str.ofString "w", Str.ofString "least", Str.ofString "mul", Str.ofString "divrem"] ?_ (by decide) rfl (by decide) rfl rfl rfl (by decide) ?_
  · intro s vs hl
    obtain ⟨_, _, _, _, _, rfl⟩ := vs5 hl; exact BindsTo.of_eq rfl
  · intro dp un gd L' outer A₀ base g
    k_allIn
    refine ⟨by lia, ?_⟩
    rw [lx]
    k_allIn
    refine ite_dec (fun h => ?_) (fun h => ?_)
    · have h0 : x = 0 := (lm_nil hB).mp (List.length_eq_zero_iff.mp (by lia))
      subst h0
      k_allIn
      rw [isq_zero, nil_lz n]
    · have hxp : 0 < x := by
        rcases Nat.eq_zero_or_pos x with rfl | h'
        · rw [lm_zero] at h; exact absurd rfl h
        · exact h'
      obtain ⟨l1, l2, l3⟩ := len_bl hw hxp
      obtain ⟨L, hL⟩ : ∃ L, L = (lm (2 ^ n) x).length := ⟨_, rfl⟩
      rw [← hL] at l1 l2 l3
      have hL20 : L ≤ 64 := by rw [hL, ← lx]; exact hlx
      k_allIn
      refine ⟨by lia, ?_⟩
      rw [lx, ← hL]
      k_allIn
      refine ⟨by omega, ?_⟩
      rw [lx, ← hL]
      k_allIn
      refine OV.modN (L) (2) rfl rfl (by decide) ?_
      k_allIn
      k_allIn
      refine OV.addN (L) (L % 2) rfl rfl  ?_
      k_allIn
      obtain ⟨S, hS⟩ : ∃ S, S = L + L % 2 := ⟨_, rfl⟩
      rw [← hS]
      have b1 := bl_le hx
      have b2 := lt_bl x
      have b3 := le_bl hxp
      have l4 : n * L ≤ n * S := Nat.mul_le_mul_left _ (by lia)
      have l5 : n * S ≤ n * (L - 1 + 2) := Nat.mul_le_mul_left _ (by lia)
      rw [Nat.mul_add] at l5
      have hbp : 0 < bl x := by
        rcases Nat.eq_zero_or_pos (bl x) with h | h
        · rw [h] at b2; lia
        · exact h
      k_allIn
      refine OV.mulN (S) (n) rfl rfl (by lia) ?_
      k_allIn
      rw [Nat.mul_comm S n]
      refine callok (ct_bits w mean mg mb n x (by omega) (by lia) hx64) ?_
      rintro _ rfl
      k_allIn
      k_allIn
      refine OV.subN (n * S) (bl x) rfl rfl (by lia) ?_
      k_allIn
      obtain ⟨D, hD⟩ : ∃ D, D = n * S - bl x := ⟨_, rfl⟩
      rw [← hD]
      k_allIn
      refine OV.modN (D) (2) rfl rfl (by decide) ?_
      k_allIn
      k_allIn
      refine OV.subN (D) (D % 2) rfl rfl (by lia) ?_
      k_allIn
      obtain ⟨H, hH⟩ : ∃ H, H = D / 2 := ⟨_, rfl⟩
      rw [show D - D % 2 = 2 * H by lia]
      have hup : (2 ^ n) ^ S = 2 ^ (n * S) := by rw [Nat.pow_mul]
      have e1 : 2 ^ (n * S) ≤ 2 ^ (bl x - 1 + 2 * H + 2) := Nat.pow_le_pow_right (by decide) (by lia)
      rw [Nat.pow_add, Nat.pow_add] at e1
      have e2 : 2 ^ (bl x - 1) * 2 ^ (2 * H) ≤ x * 2 ^ (2 * H) := Nat.mul_le_mul_right _ b3
      have e3 : x * 2 ^ (2 * H) < 2 ^ (n * S) := by
        have a : x * 2 ^ (2 * H) < 2 ^ bl x * 2 ^ (2 * H) := Nat.mul_lt_mul_of_pos_right b2 (Nat.pow_pos (by decide))
        have b : 2 ^ bl x * 2 ^ (2 * H) ≤ 2 ^ (n * S) := by rw [← Nat.pow_add]; exact Nat.pow_le_pow_right (by omega) (by grind -ring -splitIte)
        exact Nat.lt_of_lt_of_le ‹_› ‹_›
      have e4 : 2 ^ (n * S) ≤ 2 ^ 40 := Nat.pow_le_pow_right (by omega) (by lia)
      have hS20 : S ≤ 2 * 20 := by
        have : 1 * S ≤ n * S := Nat.mul_le_mul_right _ hw
        lia
      refine ite_dec (fun h => ?_) (fun h => ?_)
      · have hH0 : H = 0 := by lia
        rw [hH0, Nat.mul_zero, Nat.pow_zero, Nat.mul_one] at e2 e3 e1
        k_allIn
        refine callok (ct_sqrt_halves w mean mg mb n hw (by lia) 20 x S hS20 (by lia) (by lia) (by exact Nat.lt_of_lt_of_le ‹_› ‹_›) (by rw [hup]; omega) (by rw [hup]; lia)) ?_
        rintro _ rfl
        rfl
      · k_allIn
        refine callok (ct_shift_left w mean mg mb n x (2 * H) hw (by omega) hx64 (by lia) (by lia)) ?_
        rintro _ rfl
        k_allIn
        obtain ⟨y, hy⟩ : ∃ y, y = x * 2 ^ (2 * H) := ⟨_, rfl⟩
        rw [← hy] at e2 e3 ⊢
        refine callok (ct_sqrt_halves w mean mg mb n hw (by lia) 20 y S hS20 (by lia) (by lia) (by exact Nat.lt_of_lt_of_le ‹_› ‹_›) (by rw [hup]; omega) (by rw [hup]; lia)) ?_
        rintro _ rfl
        k_memK
        have hys : isq y / 2 ^ H = isq x := by
          rw [hy, show 2 * H = H + H by lia, Nat.pow_add]; exact isq_shift x H
        have hiy : isq y ≤ y := irt_le_self (by decide) y
        have hix := isq_le x
        have hixx : isq x ≤ x := irt_le_self (by omega) x
        refine SV.at ⟨[(Str.ofString "a", LZ n x), (Str.ofString "w", .int n), (Str.ofString "mul", .fn 253), (Str.ofString "shift", .int (2 * H : Nat)), (Str.ofString "root", LZ n (isq y))], [], none⟩ rfl ?_
        k_allIn
        k_allIn
        refine OV.fdivN (2 * H) (2) rfl rfl (by omega) (by decide) ?_
        k_allIn
        rw [show 2 * H / 2 = H by lia]
        refine callok (ct_shift_right w mean mg mb n (isq y) H hw (by omega) (by lia) (by lia)) ?_
        rintro _ rfl
        k_allIn
        rw [hys]
        refine callok (ct_law_mul w mean mg mb n (isq x) (isq x) hw (by omega) (by lia) (by omega) (by lia)) ?_
        rintro _ rfl
        k_allIn
        refine callok (ct_sub w mean mg mb n x (isq x * isq x) hw (by omega) (by omega) (by omega)) ?_
        rintro _ rfl
        k_allIn
        rfl
end
section
variable (w : World) (mean : ExcName → Option Value) (mg mb : Str → Option Value)

theorem pow_split (x k m : Nat) : x ^ (k / 2 ^ m) = if k / 2 ^ m % 2 = 1 then x ^ (k / 2 ^ (m + 1)) * x ^ (k / 2 ^ (m + 1)) * x else x ^ (k / 2 ^ (m + 1)) * x ^ (k / 2 ^ (m + 1)) := by
  have e : k / 2 ^ (m + 1) = k / 2 ^ m / 2 := by rw [Nat.pow_succ, Nat.div_div_eq_div_mul]
  rw [e]
  generalize k / 2 ^ m = j
  split
  · rw [← Nat.pow_add, ← Nat.pow_succ]; congr 1; lia
  · rw [← Nat.pow_add]; congr 1; lia
theorem ct_power_of_nat (n x k : Nat) (hw : 1 ≤ n) (hw2 : n ≤ 63) (hk : k < 2 ^ 20) (hx : x < 2 ^ 64) (hx0 : 0 < x) (hxk : x ^ k < 2 ^ 64) : Ct (WH w mean mg mb) 3 185 [LZ n x, .int k, .int n, .fn 253] (fun r => r = LZ n (x ^ k)) := by
  have hB := pow2_gt hw
  have hpow : ∀ j, j ≤ k → x ^ j < 2 ^ 64 := fun j hj => Nat.lt_of_le_of_lt (Nat.pow_le_pow_right hx0 hj) hxk
  have hbl := lt_bl k
  have hb20 := bl_le hk
  refine Ct.mk rfl rfl [Str.ofString "a", Str.ofString "k", Str.ofString "w", Str.ofString "mul"] ?_ (by decide) rfl (by decide) rfl rfl rfl (by decide) ?_
  · intro s vs hl
    obtain ⟨_, _, _, _, rfl⟩ := vs4 hl; exact BindsTo.of_eq rfl
  · intro dp un gd L' outer A₀ base g
    iterate 2 k_memK
    refine EV.disp1 (EV.int ⟨1, rfl, ?_⟩)
    rw [one_lz hw]
    k_memK
    refine S1.forD [Str.ofString "a", Str.ofString "k", Str.ofString "w", Str.ofString "mul", Str.ofString "found"] ((bl k : Int) - 1) (fun i g' => g' = ⟨[(Str.ofString "a", LZ n x), (Str.ofString "k", .int k), (Str.ofString "w", .int n), (Str.ofString "mul", .fn 253), (Str.ofString "found", LZ n (x ^ (k / 2 ^ (bl k - i))))], [], none⟩) (nb_range _) ?_ ?_ ?_ ?_ ?_ ?_
    · k_memK
      refine EV.bitlen ?_
      k_allIn
      rw [intBits_bl]
      refine OV.sub ?_
      k_allIn
      rfl
    · constructor <;> lia
    · rintro g' i rfl y q e; cases e
    · show _ = _
      rw [Nat.sub_zero, Nat.div_eq_of_lt hbl, Nat.pow_zero]; rfl
    · rintro i g' hi rfl
      rw [show (bl k : Int) - 1 - i = ((bl k - 1 - i : Nat) : Int) by lia, show bl k - i = (bl k - 1 - i) + 1 by lia, show bl k - (i + 1) = bl k - 1 - i by lia]
      have hm : bl k - 1 - i < 20 := by lia
      generalize bl k - 1 - i = m at *
      have hsp := pow_split x k m
      have h1 := hpow (k / 2 ^ m) (Nat.div_le_self _ _)
      have h2 := hpow (k / 2 ^ (m + 1)) (Nat.div_le_self _ _)
      have h3 : x ^ (k / 2 ^ (m + 1)) * x ^ (k / 2 ^ (m + 1)) ≤ x ^ (k / 2 ^ m) := by
        rw [hsp]
        split
        · exact Nat.le_mul_of_pos_right _ hx0
        · exact Nat.le_refl _
      k_allIn
      refine callok (ct_law_mul w mean mg mb n (x ^ (k / 2 ^ (m + 1))) (x ^ (k / 2 ^ (m + 1))) hw hw2 h2 h2 (by lia)) ?_
      rintro _ rfl
      k_allIn
      k_allIn
      refine OV.shrN (k) (m) rfl rfl  ?_
      k_allIn
      k_allIn
      refine OV.maskN (k / 2 ^ m) (1) rfl rfl  ?_
      k_allIn
      refine ite_dec (fun h => ?_) (fun h => ?_)
      · have h' : k / 2 ^ m % 2 = 1 := by
          have := Int.ofNat_inj.mp h; simpa using this
        rw [if_pos h'] at hsp
        k_allIn
        refine callok (ct_law_mul w mean mg mb n (x ^ (k / 2 ^ (m + 1)) * x ^ (k / 2 ^ (m + 1))) x hw hw2 (by lia) hx (by rw [← hsp]; exact h1)) ?_
        rintro _ rfl
        k_allIn
        rw [hsp]; rfl
      · have h' : ¬ k / 2 ^ m % 2 = 1 := by
          intro h'; apply h; simp [h']
        rw [if_neg h'] at hsp
        k_allIn
        rw [hsp]; rfl
    · rintro g' rfl
      rw [show ((bl k : Int) - 1 + 1).toNat = bl k by lia, Nat.sub_self, Nat.pow_zero, Nat.div_one]
      k_allIn
      rfl
end
section
variable (w : World) (mean : ExcName → Option Value) (mg mb : Str → Option Value)

theorem ct_root_rem (n k x : Nat) (hw : 1 ≤ n) (hw2 : n ≤ 63) (hx : x < 2 ^ 20) (hx0 : 0 < x) (hk : 2 ≤ k) (hkb : k < bl x) : Ct (WH w mean mg mb) 4 192 [LZ n x, .int k, .int n, .fn 253, .fn 260] (fun r => r = .pair (LZ n (irt k x)) (LZ n (x - (irt k x) ^ k))) := by
  have hB := pow2_gt hw
  have hx64 : x < 2 ^ 64 := by lia
  have hlx := lz_len hw hx64
  have lx := zs_length (lm (2 ^ n) x)
  have b1 := bl_le hx
  have b2 := lt_bl x
  have hs0 := irt_pos (k := k) (by exact Nat.le_of_lt ‹_›) hx0
  have hsle := irt_le (k := k) (by exact Nat.le_of_lt ‹_›) x
  have hL0 : 0 < (lm (2 ^ n) x).length := by
    rcases Nat.eq_zero_or_pos (lm (2 ^ n) x).length with h | h
    · have := (lm_nil hB).mp (List.length_eq_zero_iff.mp h); lia
    · exact h
  refine Ct.mk rfl rfl [Str.ofString "a", Str.ofString "k", Str.ofString "w", Str.ofString "mul", Str.ofString "divrem"] ?_ (by decide) rfl (by decide) rfl rfl rfl (by decide) ?_
  · intro s vs hl
    obtain ⟨_, _, _, _, _, rfl⟩ := vs5 hl; exact BindsTo.of_eq rfl
  · intro dp un gd L' outer A₀ base g
    k_allIn
    refine ite_dec (fun h => absurd h (by lia)) (fun h => ?_)
    k_allIn
    refine ite_dec (fun h => absurd h (by lia)) (fun h => ?_)
    k_allIn
    refine ⟨by lia, ?_⟩
    rw [lx]
    k_allIn
    refine ite_dec (fun h => absurd h (by lia)) (fun h => ?_)
    k_allIn
    refine callok (ct_bits w mean mg mb n x hw hw2 hx64) ?_
    rintro _ rfl
    k_allIn
    refine ite_dec (fun h => absurd h (by lia)) (fun h => ?_)
    k_allIn
    rw [one_lz hw]
    k_allIn
    refine OV.addN (bl x) (k) rfl rfl  ?_
    k_allIn
    k_allIn
    refine OV.subN (bl x + k) (1) rfl rfl (by lia) ?_
    k_allIn
    k_allIn
    refine OV.fdivN (bl x + k - 1) (k) rfl rfl (by exact Nat.le_of_lt ‹_›) (by lia) ?_
    k_allIn
    obtain ⟨c, hc⟩ : ∃ c, c = (bl x + k - 1) / k := ⟨_, rfl⟩
    rw [← hc]
    have hck : bl x ≤ c * k ∧ c * k ≤ bl x + k - 1 := by
      have a := Nat.div_add_mod (bl x + k - 1) k
      have b := Nat.mod_lt (bl x + k - 1) (show 0 < k by (exact Nat.le_of_lt ‹_›))
      rw [← hc, Nat.mul_comm] at a
      lia
    have hc20 : c ≤ 40 := by
      have : c * 1 ≤ c * k := Nat.mul_le_mul_left _ (by exact Nat.le_of_lt ‹_›)
      lia
    have hp40 : (2 ^ c) ^ k < 2 ^ 40 := by
      rw [← Nat.pow_mul]
      exact Nat.pow_lt_pow_right (by decide) (by lia)
    have hge : x < (2 ^ c) ^ k := by
      rw [← Nat.pow_mul]
      exact Nat.lt_of_lt_of_le b2 (Nat.pow_le_pow_right (by decide) hck.1)
    have hr00 := irt_le_of (show 0 < k by (exact Nat.le_of_lt ‹_›)) hge
    have hc2 : 2 ^ c ≤ 2 ^ 40 := Nat.pow_le_pow_right (by omega) hc20
    refine callok (ct_shift_left w mean mg mb n 1 c hw hw2 (by decide) (by grind -ring -splitIte) (by lia)) ?_
    rintro _ rfl
    k_allIn
    rw [Nat.one_mul]
    refine callok (ct_nat_of w mean mg mb n k hw hw2 (by lia)) ?_
    rintro _ rfl
    k_allIn
    k_allIn
    refine OV.subN (k) (1) rfl rfl (by exact Nat.le_of_lt ‹_›) ?_
    k_allIn
    refine callok (ct_nat_of w mean mg mb n (k - 1) hw hw2 (by lia)) ?_
    rintro _ rfl
    iterate 3 k_memK
    refine SV.cons ?_
    refine S1.loop [Str.ofString "a", Str.ofString "k", Str.ofString "w", Str.ofString "mul", Str.ofString "divrem", Str.ofString "root", Str.ofString "many", Str.ofString "less"] (fun j g' => ∃ r, g' = ⟨[(Str.ofString "a", LZ n x), (Str.ofString "k", .int k), (Str.ofString "w", .int n), (Str.ofString "mul", .fn 253), (Str.ofString "divrem", .fn 260), (Str.ofString "root", LZ n r), (Str.ofString "many", LZ n k), (Str.ofString "less", LZ n (k - 1))], [], none⟩ ∧ irt k x ≤ r ∧ r ≤ 2 ^ c ∧ j = r) (2 ^ c) ⟨2 ^ c, rfl, by (exact Nat.le_of_lt ‹_›), Nat.le_refl _, rfl⟩ ?_
    rintro r g' ⟨r', rfl, hr, hrc, rfl⟩
    have hr0 : 0 < r := by lia
    have hrk : r ^ k < 2 ^ 40 := Nat.lt_of_le_of_lt (Nat.pow_le_pow_left hrc k) hp40
    have hrk1 : r ^ (k - 1) ≤ r ^ k := Nat.pow_le_pow_right hr0 (by lia)
    have hrp : 0 < r ^ (k - 1) := Nat.pow_pos hr0
    have hn1 := newton_ge hk hr0 hr
    have hn2 := newton_stop hk hr0 hr
    have hrk2 : r * (k - 1) ≤ 2 ^ 40 * 20 := Nat.mul_le_mul (by lia) (by lia)
    refine TV.val (EV.tt ⟨_, rfl, ?_⟩)
    k_allIn
    k_allIn
    refine OV.subN (k) (1) rfl rfl (by exact Nat.le_of_lt ‹_›) ?_
    k_allIn
    refine callok (ct_power_of_nat w mean mg mb n r (k - 1) hw hw2 (by lia) (by lia) hr0 (by lia)) ?_
    rintro _ rfl
    k_allIn
    refine callok (ct_law_divrem w mean mg mb n x (r ^ (k - 1)) hw hw2 hx64 (by omega) hrp) ?_
    rintro _ rfl
    iterate 2 k_memK

    generalize hto : x / r ^ (k - 1) = told at *
    have htx : told ≤ x := by rw [← hto]; exact Nat.div_le_self _ _
    refine SV.at ⟨[(Str.ofString "a", LZ n x), (Str.ofString "k", .int k), (Str.ofString "w", .int n), (Str.ofString "mul", .fn 253), (Str.ofString "divrem", .fn 260), (Str.ofString "root", LZ n r), (Str.ofString "many", LZ n k), (Str.ofString "less", LZ n (k - 1)), (Str.ofString "told", LZ n told)], [], none⟩ rfl ?_
    k_allIn
    refine callok (ct_law_mul w mean mg mb n r (k - 1) hw hw2 (by lia) (by lia) (by lia)) ?_
    rintro _ rfl
    k_allIn
    refine callok (ct_add w mean mg mb n (r * (k - 1)) told hw hw2 (by omega) (by grind -ring -splitIte) (by lia)) ?_
    rintro _ rfl
    k_allIn
    refine callok (ct_law_divrem w mean mg mb n (r * (k - 1) + told) k hw hw2 (by omega) (by lia) (by exact Nat.le_of_lt ‹_›)) ?_
    rintro _ rfl
    iterate 2 k_memK

    generalize hla : (r * (k - 1) + told) / k = later at *
    have hlx2 : later ≤ r * (k - 1) + told := by rw [← hla]; exact Nat.div_le_self _ _
    refine SV.at ⟨[(Str.ofString "a", LZ n x), (Str.ofString "k", .int k), (Str.ofString "w", .int n), (Str.ofString "mul", .fn 253), (Str.ofString "divrem", .fn 260), (Str.ofString "root", LZ n r), (Str.ofString "many", LZ n k), (Str.ofString "less", LZ n (k - 1)), (Str.ofString "later", LZ n later)], [], none⟩ rfl ?_
    k_allIn
    refine callok (ct_compare w mean mg mb n later r hw (by lia) (by lia)) ?_
    rintro _ rfl
    k_allIn
    refine ite_dec (fun h => ?_) (fun h => ?_)
    · have hle := cmp3_ge.mp h
      have hrs := hn2 hle
      subst hrs
      k_allIn
      refine callok (ct_power_of_nat w mean mg mb n (irt k x) k hw hw2 (by lia) (by lia) hr0 (by lia)) ?_
      rintro _ rfl
      k_allIn
      refine callok (ct_sub w mean mg mb n x ((irt k x) ^ k) hw hw2 (by omega) (by omega)) ?_
      rintro _ rfl
      k_allIn
      rfl
    · have hle : ¬ _ := fun h' => h (cmp3_ge.mpr h')
      k_allIn
      exact ⟨later, by (grind -ring -splitIte), later, rfl, by omega, by (grind -ring -splitIte), rfl⟩
end
section
variable (w : World) (mean : ExcName → Option Value) (mg mb : Str → Option Value)

/-- which rests are those of a square -/
noncomputable def sqf (m i : Nat) : List Bool := (List.range m).map fun r => decide (∃ j, j < i ∧ j * j % m = r)
theorem sqf_length (m i : Nat) : (sqf m i).length = m := by simp [sqf]
theorem sqf_zero (m : Nat) : sqf m 0 = List.replicate m false := by
  apply List.ext_getElem?
  intro j
  simp [sqf, List.getElem?_replicate]
  by_cases h : j < m <;> simp [h]
theorem sqf_set (m i : Nat) (h : 0 < m) : (sqf m i).set (i * i % m) true = sqf m (i + 1) := by
  apply List.ext_getElem?
  intro j
  rw [List.getElem?_set, sqf_length, if_pos (Nat.mod_lt _ h)]
  by_cases hj : i * i % m = j
  · have hjm : j < m := by rw [← hj]; exact Nat.mod_lt _ h
    rw [if_pos hj]
    simp only [sqf, List.getElem?_map, List.getElem?_range hjm, Option.map_some]
    congr 1
    symm
    rw [decide_eq_true_eq]
    exact ⟨i, by lia, hj⟩
  · rw [if_neg hj]
    simp only [sqf, List.getElem?_map]
    rcases Nat.lt_or_ge j m with hjm | hjm
    · rw [List.getElem?_range hjm]
      simp only [Option.map_some]
      congr 1
      apply decide_eq_decide.mpr
      constructor
      · rintro ⟨t, h1, h2⟩; exact ⟨t, by lia, h2⟩
      · rintro ⟨t, h1, h2⟩
        refine ⟨t, ?_, h2⟩
        rcases Nat.lt_or_eq_of_le (Nat.le_of_lt_succ h1) with h | h
        · exact h
        · subst h; exact absurd h2 hj
    · rw [List.getElem?_eq_none (by simpa using hjm)]; rfl
theorem sqf_get (m r : Nat) (h : r < m) : (sqf m m)[r]? = some (decide (∃ j, j < m ∧ j * j % m = r)) := by
  simp only [sqf, List.getElem?_map, List.getElem?_range h, Option.map_some]
theorem ct_square_rests (m : Nat) (hm : 0 < m) (hm2 : m < 1000) : Ct (WH w mean mg mb) 1 199 [.int m] (fun r => r = .bls (sqf m m)) := by
  refine Ct.mk rfl rfl [Str.ofString "modulus"] ?_ (by decide) rfl (by decide) rfl rfl rfl (by decide) ?_
  · intro s vs hl
    obtain ⟨_, rfl⟩ := vs1 hl; exact BindsTo.of_eq rfl
  · intro dp un gd L' outer A₀ base g
    refine SV.cons ?_
    refine S1.own ?_
    refine NV.repB ?_
    k_allIn
    refine ⟨by lia, by lia, ?_⟩
    rw [Int.toNat_natCast, ← sqf_zero]
    k_memK
    refine S1.for1 [Str.ofString "modulus"] (m : Int) (fun i g' => g' = ⟨[(Str.ofString "modulus", .int m)], [], some (Str.ofString "found", .bls (sqf m i))⟩) (nb_range _) ?_ ?_ ?_ ?_ ?_ ?_
    · k_allIn
      rfl
    · constructor <;> lia
    · rintro g' i rfl y q e; cases e; decide
    · rfl
    · rintro i g' hi rfl
      have hi' : i < m := by lia
      have hlt : i * i % m < m := Nat.mod_lt _ hm
      k_memK
      refine S1.setB rfl (by rw [sqf_length]; lia) ?_
      k_allIn
      k_allIn
      refine OV.mulN (i) (i) rfl rfl (by lia) ?_
      k_allIn
      k_allIn
      refine OV.modN (i * i) (m) rfl rfl (by omega) ?_
      k_allIn

      refine ⟨Int.natCast_nonneg _, by rw [sqf_length]; omega, ?_⟩
      k_allIn
      rw [Int.toNat_natCast, sqf_set m i hm]
      rfl
    · rintro g' rfl
      k_allIn
      rw [Int.toNat_natCast]
end
section
variable (w : World) (mean : ExcName → Option Value) (mg mb : Str → Option Value)

theorem tz_sq (s : Nat) (h : 0 < s) : tz (s * s) % 2 = 0 := by
  obtain ⟨o, h1, h2⟩ := tz_spec h
  have ho : 0 < o := by lia
  have hoo : (o * o) % 2 = 1 := by rw [Nat.mul_mod, h2]
  have e : s * s = 2 ^ (tz s + tz s) * (o * o) := by
    rw [Nat.pow_add, ← Nat.mul_mul_mul_comm, ← h1]
  rw [e, tz_pow _ (Nat.mul_pos ho ho), tz_odd hoo]
  lia
theorem ns_SMALL_MODULI (P : Params) : nsIn (Kf P) mainGlobals (Str.ofString "SMALL_MODULI") = some (some (.ref 143)) := by kernel_rfl
noncomputable def mods : List Int := [3, 5, 7, 11, 13, 17, 31, 63]
theorem mods_nat {i : Nat} {v : Int} (h : mods[i]? = some v) : ∃ m : Nat, v = m ∧ 0 < m ∧ m < 1000 := by
  have hm : v ∈ mods := List.mem_of_getElem? h
  simp only [mods, List.mem_cons, List.not_mem_nil, or_false] at hm
  exact ⟨v.toNat, by lia, by lia, by lia⟩
theorem ct_may_be_square (n x : Nat) (hw : 1 ≤ n) (hw2 : n ≤ 63) (hx : x < 2 ^ 60) : Ct (WH w mean mg mb) 3 206 [LZ n x, .int n] (fun r => ∃ b, r = .bool b ∧ (isq x * isq x = x → b = true)) := by
  have hB := pow2_gt hw
  have hx64 : x < 2 ^ 64 := by lia
  have hlx := lz_len hw hx64
  have lx := zs_length (lm (2 ^ n) x)
  refine Ct.mk rfl rfl [Str.ofString "a", Str.ofString "w"] ?_ (by decide) rfl (by decide) rfl rfl rfl (by decide) ?_
  · intro s vs hl
    obtain ⟨_, _, rfl⟩ := vs2 hl; exact BindsTo.of_eq rfl
  · intro dp un gd L' outer A₀ base g
    refine SV.cons (S1.via (fun g' => g' = ⟨[(Str.ofString "a", LZ n x), (Str.ofString "w", .int n)], [], none⟩) (S1.ite (TV.and ?_)) ?_)
    · k_allIn
      refine ⟨by lia, ?_⟩
      rw [lx]
      k_allIn
      refine ite_dec (fun h => ?_) (fun h => ?_)
      · have hx0 : 0 < x := by
          rcases Nat.eq_zero_or_pos x with rfl | h'
          · rw [lm_zero] at h; exact absurd h (by decide)
          · exact h'
        refine TV.and ?_
        k_allIn
        refine callok (ct_trailing w mean mg mb n x hw hw2 hx64 hx0) ?_
        rintro _ rfl
        k_allIn
        k_allIn
        refine OV.modN (tz x) (2) rfl rfl (by decide) ?_
        k_allIn
        refine ite_dec (fun h => ?_) (fun h => ?_)
        · k_allIn
          intro he
          exfalso
          have hs : 0 < isq x := by
            rcases Nat.eq_zero_or_pos (isq x) with h0 | h0
            · rw [h0] at he; lia
            · exact h0
          have := tz_sq _ hs
          rw [he] at this
          lia
        · k_allIn
          rfl
      · k_allIn
        rfl
    · rintro _ rfl
      refine SV.cons ?_
      refine S1.forT [Str.ofString "a", Str.ofString "w"] mods (fun i g' => g' = ⟨[(Str.ofString "a", LZ n x), (Str.ofString "w", .int n)], [], none⟩) (ns_SMALL_MODULI _) rfl rfl rfl ?_ ?_ ?_ ?_ ?_
      · repeat' constructor
      · rintro g' i rfl y q e; cases e
      · rfl
      · rintro i v g' hv rfl
        obtain ⟨m, rfl, hm, hm2⟩ := mods_nat hv
        k_memK
        refine S1.ite (TV.and ?_)
        k_allIn
        k_allIn
        refine OV.shlN (1) (n) rfl rfl (by lia) (by decide) ?_
        k_allIn
        refine ite_dec (fun h => ?_) (fun h => ?_)
        · refine TV.and (TV.not (TV.val (EV.itemB ?_)))
          k_allIn
          refine callok (ct_square_rests w mean mg mb m hm hm2) ?_
          rintro _ rfl
          k_allIn
          refine callok (ct_divrem_limb w mean mg mb n x m hw hw2 hx64 hm (by lia)) ?_
          rintro _ rfl
          k_allIn
          have hr : x % m < m := Nat.mod_lt _ hm
          refine ⟨by rw [sqf_length]; lia, Int.natCast_nonneg _, _, by rw [Int.toNat_natCast]; exact sqf_get m (x % m) hr, ?_⟩
          k_allIn
          refine ite_decn (fun h => ?_) (fun h => ?_)
          · k_allIn
            intro he
            exfalso
            apply h
            refine ⟨isq x % m, Nat.mod_lt _ hm, ?_⟩
            rw [← Nat.mul_mod, he]
          · k_allIn
            rfl
        · k_allIn
          rfl
      · rintro _ rfl
        k_allIn
        exact fun _ => rfl
end
section
variable (w : World) (mean : ExcName → Option Value) (mg mb : Str → Option Value)

theorem ct_is_square (n x : Nat) (hw : 1 ≤ n) (hw2 : n ≤ 9) (hx : x < 2 ^ 20) : Ct (WH w mean mg mb) 27 213 [LZ n x, .int n, .int 4, .fn 253, .fn 260] (fun r => r = .bool (decide (isq x * isq x = x))) := by
  have hB := pow2_gt hw
  have hile := isq_le x
  refine Ct.mk rfl rfl [Str.ofString "a", Str.ofString "w", Str.ofString "least", Str.ofString "mul", Str.ofString "divrem"] ?_ (by decide) rfl (by decide) rfl rfl rfl (by decide) ?_
  · intro s vs hl
    obtain ⟨_, _, _, _, _, rfl⟩ := vs5 hl; exact BindsTo.of_eq rfl
  · intro dp un gd L' outer A₀ base g
    iterate 2 k_memK
    refine TV.not (TV.val ?_)
    k_allIn
    refine callok (ct_may_be_square w mean mg mb n x hw (by lia) (by lia)) ?_
    rintro _ ⟨b, rfl, hb⟩
    k_allIn
    cases b with
    | false =>
      rw [Bool.not_false, if_pos rfl]
      k_allIn
      have : ¬ isq x * isq x = x := fun h => (by have := hb h; cases this)
      rw [decide_eq_false this]
    | true =>
      rw [Bool.not_true, if_neg (by decide)]
      k_allIn
      refine callok (ct_sqrt_rem w mean mg mb n x hw hw2 hx) ?_
      rintro _ rfl
      k_allIn
      congr 1
      apply decide_eq_decide.mpr
      constructor
      · intro h
        have h0 : lm (2 ^ n) (x - isq x * isq x) = [] := by
          cases hc : lm (2 ^ n) (x - isq x * isq x) with
          | nil => rfl
          | cons a b => rw [hc] at h; cases h
        have := (lm_nil hB).mp h0
        lia
      · intro h
        rw [show x - isq x * isq x = 0 by lia, lm_zero]; rfl
end
section
variable (w : World) (mean : ExcName → Option Value) (mg mb : Str → Option Value)

theorem isP_67 : isP 67 := by
  refine ⟨by decide, fun d h1 h2 h3 h4 => ?_⟩
  have h5 : d < 9 := by
    rcases Nat.lt_or_ge d 9 with h | h
    · exact h
    · have := Nat.mul_le_mul h h; omega
  have : d = 2 ∨ d = 3 ∨ d = 4 ∨ d = 5 ∨ d = 6 ∨ d = 7 ∨ d = 8 := by lia
  rcases this with rfl | rfl | rfl | rfl | rfl | rfl | rfl <;> lia
theorem prime_any (m : Nat) (hm : 2 ≤ m) : ((((irange 2 ((m : Int) - 2).toNat).filter fun i => decide (i * i ≤ (m : Int))).map fun i => decide ((m : Int) % i = 0)).any id = true) ↔ ¬ isP m := by
  rw [List.any_map, List.any_eq_true]
  constructor
  · rintro ⟨i, hi, h2⟩ ⟨_, hp⟩
    obtain ⟨h3, h4⟩ := List.mem_filter.mp hi
    have h5 := mem_irange.mp h3
    obtain ⟨k, rfl⟩ : ∃ k : Nat, i = k := ⟨i.toNat, by lia⟩
    have h6 : (k : Int) * k ≤ m := by simpa using h4
    have h7 : (m : Int) % k = 0 := by simpa using h2
    exact hp k (by omega) (by omega) (by exact_mod_cast h6) (by exact_mod_cast h7)
  · intro h
    have : ∃ d, 2 ≤ d ∧ d < m ∧ d * d ≤ m ∧ m % d = 0 := by
      apply Classical.byContradiction
      intro hn
      exact h ⟨hm, fun d h1 h2 h3 h4 => hn ⟨d, h1, h2, h3, h4⟩⟩
    obtain ⟨d, h1, h2, h3, h4⟩ := this
    refine ⟨(d : Int), List.mem_filter.mpr ⟨mem_irange.mpr ⟨by lia, by omega⟩, ?_⟩, ?_⟩
    · have : (d : Int) * d ≤ m := by exact_mod_cast h3
      simpa using this
    · have : (m : Int) % d = 0 := by exact_mod_cast h4
      simpa using this
theorem ct_next_small_prime (p : Nat) (hp : p < 67) : Ct (WH w mean mg mb) 2 218 [.int p] (fun r => ∃ q : Nat, r = .int q ∧ p < q ∧ q ≤ 67 ∧ isP q ∧ ∀ m, p < m → m < q → ¬ isP m) := by
  refine Ct.mkC (x := Str.ofString "n") rfl rfl ?_ rfl (fun n => rfl) (fun _ => rfl) rfl rfl rfl ?_
  · intro s v
    exact BindsTo.of_eq rfl
  · intro dp un gd L' outer A₀ base g
    refine SV.cons (S1.assignC (c := L' + 1) rfl ?_ (show [Str.ofString "n"].Nodup from by decide))
    k_allIn
    k_allIn
    refine OV.addN (p) (1) rfl rfl  ?_
    k_allIn
    refine S1.loop [] (fun k g' => ∃ m : Nat, g' = ⟨[], [(Str.ofString "n", .int m)], none⟩ ∧ p < m ∧ m ≤ 67 ∧ (∀ j, p < j → j < m → ¬ isP j) ∧ k = 67 - m) (66 - p) ⟨p + 1, rfl, by lia, by assumption, fun j h1 h2 => by lia, by lia⟩ ?_
    rintro k g' ⟨m, rfl, h1, h2, h3, rfl⟩
    refine TV.or ?_
    k_allIn
    refine ite_dec (fun h => ?_) (fun h => ?_)
    · refine SV.cons (S1.assignC (c := L' + 1) rfl ?_ (show [Str.ofString "n"].Nodup from by decide))
      k_allIn
      k_allIn
      refine OV.addN (m) (1) rfl rfl  ?_
      k_allIn
      refine ⟨66 - m, by lia, m + 1, rfl, by lia, by lia, fun j h4 h5 hj => ?_, by lia⟩
      have := hj.1
      lia
    · have hm2 : 2 ≤ m := by lia
      have hpa := prime_any m hm2
      refine TV.or (TV.val (EV.any (nb_any _) (EV.compB [(Str.ofString "n", L' + 1)] [(Str.ofString "n", .int m)] 2 m (fun i => decide (i * i ≤ (m : Int))) (fun i => decide ((m : Int) % i = 0)) (nb_range _) ?_ ?_ ?_ (show [Str.ofString "n"].Nodup from by decide) ?_ ?_ ?_ ?_ ?_)))
      · k_allIn
        rfl
      · constructor <;> decide
      · constructor <;> lia
      · intro y q hy
        have : y = Str.ofString "n" := by
          by_cases e : y = Str.ofString "n"
          · exact e
          · rw [List.lookup_cons, beq_eq_false_iff_ne.mpr e] at hy; cases hy
        subst this
        cases hy
        exact ⟨rfl, rfl, rfl⟩
      · lia
      · intro i hi1 hi2
        exact TstV.le (CV.mul (CV.turn (CV.turn ⟨i, i, rfl, rfl, .of_left (intBits_le (by lia)), CV.cell rfl ⟨_, _, rfl, rfl, rfl⟩ rfl rfl⟩ rfl rfl) rfl rfl))
      · intro i hi1 hi2 _
        exact CV.eq (CV.mod (CV.cell rfl (CV.turn ⟨_, _, rfl, rfl, by lia, CV.int ⟨_, _, rfl, rfl, rfl⟩⟩ rfl rfl) rfl rfl))
      · refine ⟨_, rfl, _, rfl, ?_⟩
        split
        · rename_i hany
          have hnp := hpa.mp hany
          have h67 : m ≠ 67 := fun e => hnp (e ▸ isP_67)
          rw [if_pos rfl]
          refine SV.cons (S1.assignC (c := L' + 1) rfl ?_ (show [Str.ofString "n"].Nodup from by decide))
          k_allIn
          k_allIn
          refine OV.addN (m) (1) rfl rfl  ?_
          k_allIn
          refine ⟨66 - m, by lia, m + 1, rfl, by omega, by lia, fun j h4 h5 hj => ?_, by lia⟩
          rcases Nat.lt_or_ge j m with h6 | h6
          · exact h3 j h4 h6 hj
          · rw [show j = m by lia] at hj; exact hnp hj
        · rename_i hany
          refine TV.or_nil ?_
          rw [if_neg (by decide)]
          k_allIn
          exact ⟨h1, h2, Classical.byContradiction fun hn => hany (hpa.mpr hn), h3⟩
end
section
variable (w : World) (mean : ExcName → Option Value) (mg mb : Str → Option Value)

theorem one_iff {n b : Nat} (hw : 1 ≤ n) : zs (lm (2 ^ n) b) = [1] ↔ b = 1 := by
  have hB := pow2_gt hw
  have h1 : ([1] : List Int) = zs (lm (2 ^ n) 1) := by have := one_lz hw; injection this
  rw [h1]
  constructor
  · intro h; exact lm_inj hB (zs_inj.mp h)
  · rintro rfl; rfl
theorem nil_iff {n b : Nat} (hw : 1 ≤ n) : zs (lm (2 ^ n) b) = [] ↔ b = 0 := by
  have hB := pow2_gt hw
  have h1 : ([] : List Int) = zs (lm (2 ^ n) 0) := by rw [lm_zero]; rfl
  rw [h1]
  constructor
  · intro h; exact lm_inj hB (zs_inj.mp h)
  · rintro rfl; rfl
theorem tz_powers {r q : Nat} (hr : 0 < r) : tz (r ^ q) % q = 0 := by
  obtain ⟨o, h1, h2⟩ := tz_spec hr
  have hoo : ∀ q, (o ^ q) % 2 = 1 := fun q => by rw [Nat.pow_mod, h2, Nat.one_pow]
  have ho : 0 < o := by lia
  have e : r ^ q = 2 ^ (tz r * q) * o ^ q := by
    rw [Nat.pow_mul, ← Nat.mul_pow, ← h1]
  rw [e, tz_pow _ (Nat.pow_pos ho), tz_odd (hoo q), Nat.add_zero, Nat.mul_mod_left]
theorem exp_le {b e x : Nat} (hb : 2 ≤ b) (h : b ^ e = x) (hx : x < 2 ^ 20) : e < 20 := by
  have : 2 ^ e ≤ b ^ e := Nat.pow_le_pow_left hb e
  have : 2 ^ e < 2 ^ 20 := by lia
  exact (Nat.pow_lt_pow_iff_right (by decide)).mp this
theorem ct_power_of (n x : Nat) (hw : 1 ≤ n) (hw2 : n ≤ 63) (hx : x < 2 ^ 20) : Ct (WH w mean mg mb) 5 225 [LZ n x, .int n, .fn 253, .fn 260] (fun r => ∃ b e : Nat, r = .pair (LZ n b) (.int e) ∧ b ^ e = x ∧ 1 ≤ e ∧ (x < 2 → e = 1) ∧ (2 ≤ x → noPow b)) := by
  have hB := pow2_gt hw
  have hx64 : x < 2 ^ 64 := by lia
  refine Ct.mk rfl rfl [Str.ofString "a", Str.ofString "w", Str.ofString "mul", Str.ofString "divrem"] ?_ (by decide) rfl (by decide) rfl rfl rfl (by decide) ?_
  · intro s vs hl
    obtain ⟨_, _, _, _, rfl⟩ := vs4 hl; exact BindsTo.of_eq rfl
  · intro dp un gd L' outer A₀ base g
    k_allIn
    refine callok (ct_normal w mean mg mb (lm (2 ^ n) x) (Nat.le_trans (len_lt64 hB hx64) (by decide))) ?_
    rintro _ rfl
    rw [strip_lm hB]
    k_allIn
    refine S1.loop [Str.ofString "a", Str.ofString "w", Str.ofString "mul", Str.ofString "divrem", Str.ofString "base", Str.ofString "exponent", Str.ofString "prime"] (fun k g' => ∃ b e p : Nat, g' = ⟨[(Str.ofString "a", LZ n x), (Str.ofString "w", .int n), (Str.ofString "mul", .fn 253), (Str.ofString "divrem", .fn 260), (Str.ofString "base", LZ n b), (Str.ofString "exponent", .int e), (Str.ofString "prime", .int p)], [], none⟩ ∧ k = b + (100 - p) ∧ b ^ e = x ∧ 1 ≤ e ∧ (x < 2 → e = 1 ∧ b = x) ∧ (2 ≤ x → 2 ≤ b) ∧ 2 ≤ p ∧ p < 68 ∧ b < 2 ^ 20 ∧ ∀ q, q < p → isP q → 2 ≤ x → ∀ r, r ^ q ≠ b) (x + 98) ⟨x, 1, 2, rfl, rfl, Nat.pow_one _, Nat.le_refl _, fun _ => ⟨rfl, rfl⟩, id, Nat.le_refl _, by decide, hx, fun q h1 h2 => absurd h2.1 (by lia)⟩ ?_
    rintro k g' ⟨b, e, p, rfl, rfl, he, he1, hsm, hbb, hp2, hp68, hb20, hno⟩
    have hlb := lz_len hw (show b < 2 ^ 64 by lia)
    have lb := zs_length (lm (2 ^ n) b)
    refine TV.and ?_
    k_allIn
    refine ⟨by lia, ?_⟩
    rw [lb]
    k_allIn
    have done : ∀ h : x < 2 ∨ ∀ q, isP q → 2 ≤ x → ∀ r, r ^ q ≠ b, b ^ e = x ∧ 1 ≤ e ∧ (x < 2 → e = 1) ∧ (2 ≤ x → noPow b) := fun h =>
      ⟨he, he1, fun h => (hsm h).1, fun h2 => noPow_of (hbb h2) fun q hq => (h.resolve_left (by lia)) q hq h2⟩
    refine ite_dec (fun h => ?_) (fun h => ?_)
    · have hb0 : b ≠ 0 := by rintro rfl; rw [lm_zero] at h; exact absurd h (by decide)
      refine TV.and ?_
      k_allIn
      refine ite_dec (fun h => ?_) (fun h => ?_)
      · have hb1 : b ≠ 1 := fun e => h ((one_iff hw).mpr e)
        have hx2 : 2 ≤ x := by
          rcases Nat.lt_or_ge x 2 with h' | h'
          · have := (hsm h').2; lia
          · exact h'
        have hb2 := hbb hx2
        refine TV.and ?_
        k_allIn
        refine callok (ct_bits w mean mg mb n b hw hw2 (by lia)) ?_
        rintro _ rfl
        k_allIn
        have b1 := bl_le hb20
        have b2 := lt_bl b
        refine ite_dec (fun h => ?_) (fun h => ?_)
        · have hpb : p < bl b := clt h
          iterate 2 k_memK
          refine SV.cons (S1.assign2s (EV.tup ?_))
          refine ES.cons (EV.nil (ES.cons (EV.name rfl (ES.nil ⟨_, _, rfl, _, _, rfl, SV.cons ?_⟩))))
          rw [nil_lz n]
          refine S1.via (fun g' => ∃ rt rs : Nat, g' = ⟨[(Str.ofString "a", LZ n x), (Str.ofString "w", .int n), (Str.ofString "mul", .fn 253), (Str.ofString "divrem", .fn 260), (Str.ofString "base", LZ n b), (Str.ofString "exponent", .int e), (Str.ofString "prime", .int p), (Str.ofString "rest", LZ n rs), (Str.ofString "root", LZ n rt)], [], none⟩ ∧ (rs = 0 → rt ^ p = b) ∧ (rs ≠ 0 → ∀ r, r ^ p ≠ b)) (S1.ite ?_) ?_
          · k_allIn
            refine callok (ct_trailing w mean mg mb n b hw hw2 (by omega) (by exact Nat.le_of_lt ‹_›)) ?_
            rintro _ rfl
            k_allIn
            k_allIn
            refine OV.modN (tz b) (p) rfl rfl (by exact Nat.le_of_lt ‹_›) ?_
            k_allIn
            have hil := irt_le (show 0 < p by (exact Nat.le_of_lt ‹_›)) b
            refine ite_dec (fun h => ?_) (fun h => ?_)
            · k_allIn
              refine callok (ct_root_rem w mean mg mb n p b hw hw2 hb20 (by exact Nat.le_of_lt ‹_›) hp2 hpb) ?_
              rintro _ rfl
              k_allIn
              refine ⟨by lia, fun hne r hr => ?_⟩
              have : r = irt p b := irt_of (by exact Nat.le_of_lt ‹_›) (by lia) (by rw [← hr]; exact (Nat.pow_lt_pow_iff_left (by lia)).mpr (by lia))
              rw [← this, hr] at hne
              lia
            · k_allIn
              refine ⟨fun h0 => by lia, fun _ r hr => ?_⟩
              have hr0 : 0 < r := (pow_pos_of hb2 hr).resolve_right (by omega)
              have := tz_powers (q := p) hr0
              rw [hr] at this
              exact h (by lia)
          · rintro _ ⟨rt, rs, rfl, hz, hnz⟩
            k_allIn
            refine ite_dec (fun h => ?_) (fun h => ?_)
            · have hrs := hz ((nil_iff hw).mp h)
              have h2e := exp_le hb2 he hx
              have hrt2 : 2 ≤ rt := by
                rcases Nat.lt_or_ge rt 2 with h' | h'
                · have : rt ^ p ≤ 1 ^ p := Nat.pow_le_pow_left (by lia) p
                  rw [Nat.one_pow] at this; lia
                · exact h'
              have hlt : rt < b := by
                have h1 : rt ^ 1 < rt ^ p := Nat.pow_lt_pow_right (by assumption) (by assumption)
                rw [Nat.pow_one, hrs] at h1; exact h1
              k_allIn
              k_allIn
              refine OV.mulN (e) (p) rfl rfl (by lia) ?_
              k_allIn
              refine ⟨rt + (100 - p), by lia, rt, e * p, p, rfl, rfl, ?_, ?_, fun h => by lia, fun _ => hrt2, hp2, hp68, by lia, fun q hq hqp h2 r hr => ?_⟩
              · rw [Nat.mul_comm, Nat.pow_mul, hrs, he]
              · exact Nat.mul_pos (by assumption) (by exact Nat.le_of_lt ‹_›)
              · refine hno q hq hqp h2 (r ^ p) ?_
                rw [← Nat.pow_mul, Nat.mul_comm, Nat.pow_mul, hr, hrs]
            · have hrs := hnz fun h0 => h ((nil_iff hw).mpr h0)
              k_allIn
              refine callok (ct_next_small_prime w mean mg mb p (by lia)) ?_
              rintro _ ⟨q', rfl, hq1, hq2, hq3, hq4⟩
              k_allIn
              refine ⟨b + (100 - q'), by (grind -ring -splitIte), b, e, q', rfl, rfl, he, he1, hsm, hbb, by lia, by lia, hb20, fun q hq hqp h2 r hr => ?_⟩
              rcases Nat.lt_trichotomy q p with h' | h' | h'
              · exact hno q h' hqp h2 r hr
              · subst h'; exact hrs r hr
              · exact hq4 q h' hq hqp
        · have hpb : bl b ≤ p := cge h
          k_allIn
          exact done (.inr fun q hq h2 r => if hlt : q < p then hno q hlt hq h2 r else big_no hb2 (Nat.lt_of_lt_of_le b2 (Nat.pow_le_pow_right (by decide) (by lia))))
      · have hb1 : b = 1 := by
          have : zs (lm (2 ^ n) b) = [1] := by simpa using h
          exact (one_iff hw).mp this
        have : x < 2 := by
          rcases Nat.lt_or_ge x 2 with h' | h'
          · exact h'
          · have := hbb h'; lia
        k_allIn
        exact done (.inl this)
    · have hb0 : b = 0 := by
        rcases Nat.eq_zero_or_pos b with h' | h'
        · exact h'
        · have : 0 < (lm (2 ^ n) b).length := by
            rcases Nat.eq_zero_or_pos (lm (2 ^ n) b).length with h0 | h0
            · have := (lm_nil hB).mp (List.length_eq_zero_iff.mp h0); lia
            · exact h0
          lia
      have : x < 2 := by
        rcases Nat.lt_or_ge x 2 with h' | h'
        · exact h'
        · have := hbb h'; lia
      k_allIn
      exact done (.inl this)
end
section
variable (w : World) (mean : ExcName → Option Value) (mg mb : Str → Option Value)

theorem ct_is_power (n x : Nat) (hw : 1 ≤ n) (hw2 : n ≤ 63) (hx : x < 2 ^ 20) : Ct (WH w mean mg mb) 6 232 [LZ n x, .int n, .fn 253, .fn 260] (fun r => ∃ c, r = .bool c ∧ ∃ e : Nat, 1 ≤ e ∧ c = decide (x < 2 ∨ 1 < e) ∧ (2 ≤ x → ∃ b, noPow b ∧ b ^ e = x)) := by
  have hB := pow2_gt hw
  have hx64 : x < 2 ^ 64 := by lia
  have hlx := lz_len hw hx64
  have lx := zs_length (lm (2 ^ n) x)
  refine Ct.mk rfl rfl [Str.ofString "a", Str.ofString "w", Str.ofString "mul", Str.ofString "divrem"] ?_ (by decide) rfl (by decide) rfl rfl rfl (by decide) ?_
  · intro s vs hl
    obtain ⟨_, _, _, _, rfl⟩ := vs4 hl; exact BindsTo.of_eq rfl
  · intro dp un gd L' outer A₀ base g
    iterate 2 k_memK
    refine EV.or ?_
    k_allIn
    refine ⟨by lia, ?_⟩
    rw [lx]
    k_allIn
    refine ite_dec (fun h => ?_) (fun h => ?_)
    · have h0 : x = 0 := (lm_nil hB).mp (List.length_eq_zero_iff.mp (by lia))
      subst h0
      exact ⟨_, rfl, 1, Nat.le_refl _, rfl, fun h => absurd h (by decide)⟩
    · have h0 : x ≠ 0 := by rintro rfl; rw [lm_zero] at h; exact h rfl
      refine EV.or ?_
      k_allIn
      refine ite_dec (fun h => ?_) (fun h => ?_)
      · have h1 := (one_iff hw).mp h
        subst h1
        exact ⟨_, rfl, 1, Nat.le_refl _, rfl, fun h => absurd h (by decide)⟩
      · have h1 : x ≠ 1 := fun e => h ((one_iff hw).mpr e)
        refine EV.or1 ?_
        k_allIn
        refine callok (ct_power_of w mean mg mb n x hw hw2 hx) ?_
        rintro _ ⟨b, e, rfl, h2, h3, h4, h5⟩
        k_allIn
        refine ⟨e, h3, ?_, fun h => ⟨b, h5 h, h2⟩⟩
        apply decide_eq_decide.mpr
        lia
/-- one bit of a root -/
theorem root_bit {x k m : Nat} (hk : 0 < k) : irt k x / 2 ^ m * 2 ^ m = if (irt k x / 2 ^ (m + 1) * 2 ^ (m + 1) + 2 ^ m) ^ k ≤ x then irt k x / 2 ^ (m + 1) * 2 ^ (m + 1) + 2 ^ m else irt k x / 2 ^ (m + 1) * 2 ^ (m + 1) := by
  have hl := irt_le hk x
  have hg := irt_lt hk x
  have iff : ∀ c, c ^ k ≤ x ↔ c ≤ irt k x := by
    intro c
    constructor
    · intro h
      rcases Nat.lt_or_ge (irt k x) c with h' | h'
      · have := pow_mono (k := k) (show irt k x + 1 ≤ c from h'); lia
      · exact h'
    · intro h
      exact Nat.le_trans (pow_mono h) hl
  simp only [iff]
  generalize irt k x = s
  have e : s / 2 ^ (m + 1) = s / 2 ^ m / 2 := by rw [Nat.pow_succ, Nat.div_div_eq_div_mul]
  have e2 : s / 2 ^ (m + 1) * 2 ^ (m + 1) = s / 2 ^ m / 2 * 2 * 2 ^ m := by rw [e, Nat.pow_succ, Nat.mul_comm (2 ^ m) 2, ← Nat.mul_assoc]
  have hp : 0 < 2 ^ m := Nat.pow_pos (by decide)
  have hdm := Nat.div_add_mod s (2 ^ m)
  have hlt := Nat.mod_lt s hp
  rw [e2]
  generalize s / 2 ^ m = q at *
  rcases Nat.mod_two_eq_zero_or_one q with h | h
  · have : q = q / 2 * 2 := by lia
    rw [if_neg ?_, ← this]
    rw [← this]
    rw [Nat.mul_comm] at hdm
    lia
  · have : q = q / 2 * 2 + 1 := by lia
    have e3 : q * 2 ^ m = q / 2 * 2 * 2 ^ m + 2 ^ m := by rw (config := {occs := .pos [1]}) [this]; rw [Nat.add_mul, Nat.one_mul]
    rw [if_pos ?_, e3]
    rw [← e3]
    rw [Nat.mul_comm] at hdm
    omega
end
section
variable (w : World) (mean : ExcName → Option Value) (mg mb : Str → Option Value)

theorem ct_law_root (x k : Nat) (hx : x < 2 ^ 20) (hk : 0 < k) (hk2 : k ≤ 20) : Ct (WH w mean mg mb) 2 286 [.int x, .int k] (fun r => r = .int (irt k x)) := by
  have b1 := bl_le hx
  have b2 := lt_bl x
  obtain ⟨t, ht⟩ : ∃ t, t = bl x / k + 1 := ⟨_, rfl⟩
  have htk : bl x ≤ t * k ∧ t * k ≤ bl x + k := by
    have a := Nat.div_add_mod (bl x) k
    have b := Nat.mod_lt (bl x) hk
    rw [ht, Nat.add_mul, Nat.one_mul, Nat.mul_comm (bl x / k) k]
    lia
  have ht40 : t ≤ 40 := by
    have : t * 1 ≤ t * k := Nat.mul_le_mul_left _ hk
    lia
  have hr0 : irt k x < 2 ^ t := by
    refine irt_le_of hk ?_
    rw [← Nat.pow_mul]
    exact Nat.lt_of_lt_of_le b2 (Nat.pow_le_pow_right (by decide) htk.1)
  have hr1 : irt k x / 2 ^ (t + 1) = 0 := Nat.div_eq_of_lt (Nat.lt_of_lt_of_le hr0 (Nat.pow_le_pow_right (by omega) (by lia)))
  refine Ct.mk rfl rfl [Str.ofString "number", Str.ofString "k"] ?_ (by decide) rfl (by decide) rfl rfl rfl (by decide) ?_
  · intro s vs hl
    obtain ⟨_, _, rfl⟩ := vs2 hl; exact BindsTo.of_eq rfl
  · intro dp un gd L' outer A₀ base g
    k_allIn
    refine S1.forD [Str.ofString "number", Str.ofString "k", Str.ofString "found"] (t : Int) (fun i g' => g' = ⟨[(Str.ofString "number", .int x), (Str.ofString "k", .int k), (Str.ofString "found", .int (irt k x / 2 ^ (t + 1 - i) * 2 ^ (t + 1 - i) : Nat))], [], none⟩) (nb_range _) ?_ ?_ ?_ ?_ ?_ ?_
    · k_memK; k_memK
      refine EV.bitlen ?_
      k_allIn
      rw [intBits_bl]
      k_allIn
      refine OV.fdivN (bl x) (k) rfl rfl (by omega) (by lia) ?_
      k_allIn
      k_allIn
      refine OV.addN (bl x / k) (1) rfl rfl  ?_
      k_allIn
      rw [← ht]
      k_allIn
      rfl
    · constructor <;> lia
    · rintro g' i rfl y q e; cases e
    · show _ = _
      rw [Nat.sub_zero, hr1, Nat.zero_mul]; rfl
    · rintro i g' hi rfl
      rw [show (t : Int) - i = ((t - i : Nat) : Int) by lia, show t + 1 - i = (t - i) + 1 by lia, show t + 1 - (i + 1) = t - i by lia]
      have hm : t - i ≤ t := by lia
      generalize t - i = m at *
      have hb := root_bit (x := x) (m := m) hk
      have hle : irt k x / 2 ^ (m + 1) * 2 ^ (m + 1) ≤ irt k x := Nat.div_mul_le_self _ _
      have hp : 2 ^ m ≤ 2 ^ t := Nat.pow_le_pow_right (by decide) hm
      have hpp : 2 ^ t ≤ 2 ^ 40 := Nat.pow_le_pow_right (by omega) ht40
      have hc : irt k x / 2 ^ (m + 1) * 2 ^ (m + 1) + 2 ^ m ≤ 2 ^ (t + 1) := by rw [Nat.pow_succ 2 t]; lia
      have hck : (irt k x / 2 ^ (m + 1) * 2 ^ (m + 1) + 2 ^ m) ^ k < 2 ^ 64 := by
        refine Nat.lt_of_le_of_lt (pow_mono hc) ?_
        rw [← Nat.pow_mul, Nat.add_mul, Nat.one_mul]
        exact Nat.pow_lt_pow_right (by decide) (by lia)
      generalize irt k x / 2 ^ (m + 1) * 2 ^ (m + 1) = f at *
      k_allIn
      k_allIn
      refine OV.shlN (1) (m) rfl rfl (by grind -ring -splitIte) (by decide) ?_
      k_allIn
      rw [Nat.one_mul]
      k_allIn
      refine OV.addN (f) (2 ^ m) rfl rfl  ?_
      k_allIn
      refine callok (ct_law_pow w mean mg mb (f + 2 ^ m) k hck (by lia) (by lia)) ?_
      rintro _ rfl
      k_allIn
      refine ite_dec (fun h => ?_) (fun h => ?_)
      · rw [if_pos (cle h)] at hb
        k_allIn
        k_allIn
        refine OV.shlN (1) (m) rfl rfl (by omega) (by omega) ?_
        k_allIn
        rw [Nat.one_mul]
        k_allIn
        refine OV.addN (f) (2 ^ m) rfl rfl  ?_
        k_allIn
        rw [hb]; rfl
      · rw [if_neg (by have := cgt h; lia)] at hb
        k_allIn
        rw [hb]; rfl
    · rintro g' rfl
      rw [show ((t : Int) + 1).toNat = t + 1 by lia, Nat.sub_self, Nat.pow_zero, Nat.div_one, Nat.mul_one]
      k_allIn
      rfl
theorem ct_law_is_exact (x k : Nat) (hx : x < 2 ^ 20) (hk : 0 < k) (hk2 : k ≤ 20) : Ct (WH w mean mg mb) 3 293 [.int x, .int k] (fun r => r = .bool (decide (irt k x ^ k = x))) := by
  have hl := irt_le hk x
  have hs := irt_le_self hk x
  refine Ct.mk rfl rfl [Str.ofString "number", Str.ofString "k"] ?_ (by decide) rfl (by decide) rfl rfl rfl (by decide) ?_
  · intro s vs hl
    obtain ⟨_, _, rfl⟩ := vs2 hl; exact BindsTo.of_eq rfl
  · intro dp un gd L' outer A₀ base g
    k_allIn
    refine callok (ct_law_root w mean mg mb x k hx hk hk2) ?_
    rintro _ rfl
    k_allIn
    refine callok (ct_law_pow w mean mg mb (irt k x) k (by lia) (by lia) (by lia)) ?_
    rintro _ rfl
    k_allIn
    congr 1
    exact decide_eq_decide.mpr Int.ofNat_inj
theorem ct_law_exponent (x : Nat) (hx : x < 2 ^ 20) : Ct (WH w mean mg mb) 4 307 [.int x] (fun r => ∃ e : Nat, r = .int e ∧ 1 ≤ e ∧ e ≤ 20 ∧ (e = 1 ∨ irt e x ^ e = x) ∧ ∀ k, e < k → k ≤ bl x → irt k x ^ k ≠ x) := by
  have b1 := bl_le hx
  refine Ct.mk rfl rfl [Str.ofString "number"] ?_ (by decide) rfl (by decide) rfl rfl rfl (by decide) ?_
  · intro s vs hl
    obtain ⟨_, rfl⟩ := vs1 hl; exact BindsTo.of_eq rfl
  · intro dp un gd L' outer A₀ base g
    k_memK
    refine S1.forD1 [Str.ofString "number"] (bl x : Int) (fun i g' => g' = ⟨[(Str.ofString "number", .int x)], [], none⟩ ∧ ∀ k, bl x - i < k → k ≤ bl x → irt k x ^ k ≠ x) (nb_range _) ?_ ?_ ?_ ?_ ?_ ?_
    · refine EV.bitlen ?_
      k_allIn
      rw [intBits_bl]
      k_allIn
      rfl
    · constructor <;> lia
    · rintro g' i ⟨rfl, _⟩ y q e; cases e
    · exact ⟨rfl, fun k h1 h2 => by lia⟩
    · rintro i g' hi ⟨rfl, hno⟩
      rw [show (bl x : Int) - i = ((bl x - i : Nat) : Int) by lia]
      iterate 2 k_memK
      refine TV.val ?_
      k_allIn
      refine callok (ct_law_is_exact w mean mg mb x (bl x - i) hx (by lia) (by lia)) ?_
      rintro _ rfl
      k_allIn
      refine ite_dec (fun h => ?_) (fun h => ?_)
      · k_allIn
        exact ⟨by lia, by omega, .inr h, fun k h1 h2 => hno k h1 h2⟩
      · k_allIn
        intro k h1 h2
        rcases Nat.lt_or_ge (bl x - i) k with h' | h'
        · exact hno k h' h2
        · rw [show k = bl x - i by (grind -ring -splitIte)]; exact h
    · rintro g' ⟨rfl, hno⟩
      k_allIn
      have key : ∀ k, 1 < k → k ≤ bl x → irt k x ^ k ≠ x := fun k h1 h2 => hno k (by lia) h2
      exact ⟨Nat.le_refl 1, show (1 : Nat) ≤ 20 by decide, .inl rfl, key⟩
end
section
variable (w : World) (mean : ExcName → Option Value) (mg mb : Str → Option Value)

theorem ct_law_take (k : Nat) (hk : 0 < k) : CtB (WH w mean mg mb) 1 274 [.int k] (fun r => ∃ i : Nat, r = .int i ∧ i < k) := by
  refine CtB.mk rfl rfl (Str.ofString "box") [Str.ofString "many"] ?_ (by decide) rfl (by decide) rfl rfl rfl (by decide) ?_
  · intro s u vs hl
    obtain ⟨_, rfl⟩ := vs1 hl; exact BindsTo.of_eq rfl
  · intro dp un gd L' outer A₀ base g
    refine SB.take (j := k) rfl rfl (by lia) (nb_len _) (fun i h0 h1 => ⟨i.toNat, by rw [Int.toNat_of_nonneg h0], by lia⟩) ?_
    refine SB.setbox1 rfl ?_
    refine EV.binop (EV.binop (EV.binop (EV.box1 rfl fun i hi => ?_)))
    obtain ⟨n, rfl⟩ : ∃ n : Nat, i = n := ⟨i.toNat, by lia⟩
    k_allIn
    refine OV.mulN (n) (4099) rfl rfl (by omega) ?_
    k_allIn
    k_allIn
    refine OV.addN (n * 4099) (12301) rfl rfl  ?_
    k_allIn
    k_allIn
    refine OV.modN (n * 4099 + 12301) (1000003) rfl rfl (by decide) ?_
    k_allIn
    refine ⟨Int.natCast_nonneg _, ?_⟩
    refine SB.ret (EM.of ?_)
    refine EV.binop (EV.binop (EV.box1 rfl fun i hi => ?_))
    obtain ⟨n, rfl⟩ : ∃ n : Nat, i = n := ⟨i.toNat, by lia⟩
    k_allIn
    refine OV.fdivN (n) (16) rfl rfl (by decide) (by decide) ?_
    k_allIn
    k_allIn
    refine OV.modN (n / 16) (k) rfl rfl (by omega) ?_
    k_allIn
    exact Nat.mod_lt _ hk
theorem call_take {d : Nat} {X : Fx} {g : G} {Q : PV → Prop} {x : Str} {fpos bp pos : Pos} {e : PySem.Expr} (k : Nat) (hk : 0 < k) (ho : g.o = some (x, .box)) (hd : 1 ≤ d)
    (h : EM (WH w mean mg mb) d X e g fun q => q = .int k ∧ ∀ i : Nat, i < k → Q (.int i))
    (hkf : X.env.kindOf (Str.ofString "_law_take") = some .globalImplicit := by rfl) (hk1 : X.env.kindOf x = some .local := by rfl) (hdx : (x == ("__debug__" : Str)) = false := by decide)
    (he : ∀ env : Env, starEach [.Name x bp, e] env = (false, eval (.Name x bp) env) :: (false, eval e env) :: [] := by intro _; rfl)
    (he1 : ∀ env : Env, starEach [e] env = (false, eval e env) :: [] := by intro _; rfl)
    (hp : ∀ env : Env, (backTo pos (starEach [e] env)).any (·.1) = false := by intro _; rfl)
    (hc : ∀ env : Env, eval (.Call (.Name (Str.ofString "_law_take") fpos) [.Name x bp, e] [] pos) env = (do callWith pos (← eval (.Name (Str.ofString "_law_take") fpos) env) [] (backTo pos (starEach [.Name x bp, e] env)) (backToKw pos (keywordEach [] env))) := by intro _; rfl) :
    EM (WH w mean mg mb) d X (.Call (.Name (Str.ofString "_law_take") fpos) [.Name x bp, e] [] pos) g Q := by
  refine EM.callB ho (EV.glob (ns_law_take _) ⟨_, rfl, kp_law_take _, ?_⟩ hkf) hk1 hdx he he1 hp hc
  intro ok s m T QQ F N N₀ S hb
  refine h ok s m T QQ F N S fun v p h' tk' T' F' N' S' pp r q => ?_
  obtain ⟨rfl, hq⟩ := q
  exact hb v _ h' tk' T' F' N' S' pp r ⟨_, (ct_law_take w mean mg mb k hk).mono hd fun _ h => h, fun r ⟨i, e, hi⟩ => by rw [e]; exact hq i hi⟩
end
section
variable (w : World) (mean : ExcName → Option Value) (mg mb : Str → Option Value)

theorem pow_small {b k : Nat} (hb : b ≤ 13) (hk : k ≤ 5) (h2 : 2 ≤ b) : 1 ≤ b ^ k ∧ b ^ k ≤ 371293 := by
  refine ⟨Nat.pow_pos (by exact Nat.le_of_lt ‹_›), ?_⟩
  calc b ^ k ≤ 13 ^ k := Nat.pow_le_pow_left hb k
    _ ≤ 13 ^ 5 := Nat.pow_le_pow_right (by decide) hk
    _ = 371293 := by decide
theorem ct_law_drawn (n : Nat) : CtB (WH w mean mg mb) 2 300 [.int n] (fun r => ∃ i : Nat, r = .int i ∧ i < 2 ^ 19) := by
  refine CtB.mk rfl rfl (Str.ofString "box") [Str.ofString "w"] ?_ (by decide) rfl (by decide) rfl rfl rfl (by decide) ?_
  · intro s u vs hl
    obtain ⟨_, rfl⟩ := vs1 hl; exact BindsTo.of_eq rfl
  · intro dp un gd L' outer A₀ base g
    refine SB.assign rfl (by decide) (call_take w mean mg mb 5 (by decide) rfl (by decide) (EM.of (EV.int ⟨rfl, rfl, fun i hi => ⟨rfl, ?_⟩⟩)))
    refine SB.assign rfl (by decide) (EM.binop (EM.of (EV.int ⟨rfl, call_take w mean mg mb 12 (by decide) rfl (by decide) (EM.of (EV.int ⟨rfl, rfl, fun j hj => ?_⟩))⟩)))
    refine OV.addN 2 j rfl rfl ⟨rfl, rfl, ?_⟩
    have hb : 2 + j ≤ 13 := by lia
    refine SB.assign rfl (by decide) (EM.call2 (EV.glob (ns_law_pow _) ⟨_, rfl, kp_law_pow _, EM.of (EV.name rfl ⟨rfl, EM.binop (EM.of (EV.int ⟨rfl, call_take w mean mg mb 5 (by decide) rfl (by decide) (EM.of (EV.int ⟨rfl, rfl, fun k hk => ?_⟩))⟩))⟩)⟩))
    refine OV.addN 1 k rfl rfl ⟨rfl, ?_⟩
    obtain ⟨p1, p2⟩ := pow_small (b := 2 + j) (k := 1 + k) hb (by lia) (by lia)
    refine ⟨_, (ct_law_pow w mean mg mb (2 + j) (1 + k) (by omega) (by lia) (by lia)).mono (by decide) (fun _ h => h), ?_⟩
    rintro _ rfl
    refine ⟨rfl, rfl, ?_⟩
    generalize hf : (2 + j) ^ (1 + k) = f at *
    generalize hc : 2 + j = c at *
    have c2 : c * c ≤ 13 * 13 := Nat.mul_le_mul hb hb
    have c3 : c * c * c ≤ 13 * 13 * 13 := Nat.mul_le_mul c2 hb
    have c4 : c * c * c * c ≤ 13 * 13 * 13 * 13 := Nat.mul_le_mul c3 hb
    refine SB.ifret ?_
    k_allIn
    refine ite_dec (fun h => ?_) (fun h => ?_)
    · refine EM.of ?_
      k_allIn
      refine OV.addN (f) (1) rfl rfl  ?_
      k_allIn
      lia
    · refine SB.ifret ?_
      k_allIn
      refine ite_dec (fun h => ?_) (fun h => ?_)
      · refine EM.of ?_
        k_allIn
        refine OV.subN (f) (1) rfl rfl (by omega) ?_
        k_allIn
        lia
      · refine SB.ifret ?_
        k_allIn
        refine ite_dec (fun h => ?_) (fun h => ?_)
        · refine EM.of ?_
          k_allIn
          refine OV.mulN (c) (c) rfl rfl (by lia) ?_
          k_allIn
          k_allIn
          refine OV.mulN (c * c) (c) rfl rfl (by omega) ?_
          k_allIn
          k_allIn
          refine OV.mulN (c * c * c) (c) rfl rfl (by omega) ?_
          k_allIn
          lia
        · refine SB.ret (EM.ite ?_)
          k_allIn
          refine ite_dec (fun h => ?_) (fun h => ?_)
          · exact call_take w mean mg mb 5000 (by decide) rfl (by decide) (EM.of (EV.int ⟨rfl, rfl, fun t ht => ⟨t, rfl, by lia⟩⟩))
          · refine EM.of ?_
            k_allIn
            lia
end
section
variable (w : World) (mean : ExcName → Option Value) (mg mb : Str → Option Value)

theorem ct_law_box (xs : List Int) (hxs : xs.length ≤ 63) (l0 : Addr) (its : List Value) (hi : IntsAre its xs) : CtN (WH w mean mg mb) 1 279 [.fn l0] l0 its := by
  refine CtN.mk rfl rfl [Str.ofString "script"] ?_ (by decide) rfl (by decide) rfl rfl rfl (by decide) ?_
  · intro s vs hl
    obtain ⟨_, rfl⟩ := vs1 hl; exact BindsTo.of_eq rfl
  · intro dp un gd L' outer A₀ base g hL
    refine SN.cons (S1.boxnew (xs := xs) rfl rfl hL hi (by lia) rfl (nb_abs _) ?_)
    refine SN.cons ?_
    refine S1.forSl [Str.ofString "script"] xs 30 (fun i g' => g' = ⟨[(Str.ofString "script", .fn l0)], [], some (Str.ofString "box", .box)⟩) rfl hL hi (by omega) ?_ ?_ ?_ ?_
    · rintro g' i rfl y q e; cases e; decide
    · rfl
    · rintro i v g' hv rfl
      refine SV.cons (S1.setbox1 rfl ?_)
      refine EV.binop (EV.binop (EV.binop (EV.box1 rfl fun j hj => ?_)))
      obtain ⟨n, rfl⟩ : ∃ n : Nat, j = n := ⟨j.toNat, by lia⟩
      k_allIn
      refine OV.mulN (n) (37) rfl rfl (by omega) ?_
      k_allIn
      refine EV.abs (nb_abs _) ?_
      k_allIn
      obtain ⟨t, ht⟩ : ∃ t : Nat, iabs v = t := ⟨(iabs v).toNat, by have := iabs_nonneg v; lia⟩
      rw [ht]
      k_allIn
      refine OV.addN (n * 37) (t) rfl rfl  ?_
      k_allIn
      k_allIn
      refine OV.modN (n * 37 + t) (1000003) rfl rfl (by decide) ?_
      k_allIn
      refine ⟨Int.natCast_nonneg _, ?_⟩
      refine SV.nil rfl
    · rintro g' rfl
      exact SN.ret rfl
end
theorem irt_pow {k b : Nat} (hk : 0 < k) : irt k (b ^ k) = b :=
  (irt_of hk (Nat.le_refl _) ((Nat.pow_lt_pow_iff_left (by lia)).mpr (Nat.lt_succ_self b))).symm
theorem due_eq {x b e due : Nat} (hx : 2 ≤ x) (hb : noPow b) (he : b ^ e = x) (h1 : 1 ≤ e) (hd1 : 1 ≤ due) (hd : due = 1 ∨ irt due x ^ due = x) (hno : ∀ k, due < k → k ≤ bl x → irt k x ^ k ≠ x) : e = due := by
  have h2 : e ≤ due := by
    rcases Nat.lt_or_ge due e with h | h
    · exfalso
      have hb2 := hb.1
      have h3 : 2 ^ e ≤ x := by rw [← he]; exact Nat.pow_le_pow_left hb2 e
      have h4 : e < bl x := (Nat.pow_lt_pow_iff_right (by decide)).mp (Nat.lt_of_le_of_lt h3 (lt_bl x))
      refine hno e h (Nat.le_of_lt h4) ?_
      rw [← he, irt_pow h1]
    · exact h
  rcases hd with h | h
  · lia
  · have hr : 0 < irt due x := by
      rcases Nat.eq_zero_or_pos (irt due x) with h0 | h0
      · rw [h0, Nat.zero_pow hd1] at h; lia
      · exact h0
    have := noPow_max hb h1 hd1 hr (he.trans h.symm)
    lia
/-- the list of divisors is empty just for primes -/
theorem divs_nil (m : Nat) (hm : 2 ≤ m) : ((((irange 2 ((m : Int) - 2).toNat).filter fun i => decide ((m : Int) % i = 0)).map fun i => i) = []) ↔ isP m := by
  rw [List.map_eq_nil_iff, List.filter_eq_nil_iff]
  constructor
  · intro h
    refine ⟨hm, fun d h1 h2 _ h3 => ?_⟩
    refine h (d : Int) (mem_irange.mpr ⟨by lia, by omega⟩) ?_
    have : (m : Int) % d = 0 := by exact_mod_cast h3
    simpa using this
  · rintro ⟨_, hp⟩ i hi hd
    have h5 := mem_irange.mp hi
    obtain ⟨k, rfl⟩ : ∃ k : Nat, i = k := ⟨i.toNat, by lia⟩
    have h7 : (m : Int) % k = 0 := by simpa using hd
    have h8 : m % k = 0 := by exact_mod_cast h7
    have hk2 : 2 ≤ k := by omega
    have hkm : k < m := by omega
    have hmul := Nat.div_add_mod m k
    rw [h8, Nat.add_zero] at hmul
    rcases Nat.le_total (k * k) m with h | h
    · exact hp k hk2 hkm h h8
    · have hj1 : m / k < m := Nat.div_lt_self (by exact Nat.le_of_lt ‹_›) (by assumption)
      have hj0 : 2 ≤ m / k := by
        rcases Nat.lt_or_ge (m / k) 2 with h' | h'
        · have : k * (m / k) ≤ k * 1 := Nat.mul_le_mul_left _ (by lia)
          lia
        · exact h'
      have hjk : m / k ≤ k := by
        rcases Nat.lt_or_ge k (m / k) with h' | h'
        · have : k * (k + 1) ≤ k * (m / k) := Nat.mul_le_mul_left _ h'
          rw [Nat.mul_add] at this
          omega
        · exact h'
      refine hp (m / k) hj0 hj1 ?_ ?_
      · calc m / k * (m / k) ≤ k * (m / k) := Nat.mul_le_mul_right _ hjk
          _ = m := hmul
      · have hd : (m / k) ∣ m := ⟨k, by rw [Nat.mul_comm]; exact hmul.symm⟩
        exact Nat.mod_eq_zero_of_dvd hd
noncomputable def xsOf (m : Nat) : List Int := ((irange 0 m).filter fun _ => true).map fun i => i * i % (m : Int)
noncomputable def tabOk (st : Array (Int × Value) × SetTable) : Bool := st.2.plain && st.2.led && iterOk st.2.place
noncomputable def lastOk (xs out : List Int) : Bool :=
  tabOk (simV true (fun i => xs.getD i 0) xs.length) && out.isPerm (PyProof.Rows.firstMet (fun i => xs.getD i 0) xs.length) && decide (out.Pairwise (· ≤ ·)) && xs.all (fun x => hashInt x == x) && decide (xs.length < 64)
noncomputable def mOk (m : Nat) : Bool := lastOk (xsOf m) (tI (sqf m m) (sqf m m).length)
theorem ok1 : ∀ m, m < 8 → mOk (m + 3) = true := by decide +kernel
theorem ok2 : ∀ m, m < 8 → mOk (m + 11) = true := by decide +kernel
theorem ok3 : ∀ m, m < 6 → mOk (m + 19) = true := by decide +kernel
theorem ok4 : ∀ m, m < 6 → mOk (m + 25) = true := by decide +kernel
theorem ok5 : ∀ m, m < 4 → mOk (m + 31) = true := by decide +kernel
theorem ok6 : ∀ m, m < 4 → mOk (m + 35) = true := by decide +kernel
theorem ok7 : ∀ m, m < 4 → mOk (m + 39) = true := by decide +kernel
theorem okAll (m : Nat) (h1 : 3 ≤ m) (h2 : m ≤ 42) : mOk m = true := by
  obtain ⟨k, rfl⟩ : ∃ k, m = k + 3 := ⟨m - 3, by (grind -ring -splitIte)⟩
  rcases Nat.lt_or_ge k 8 with h | h
  · exact ok1 k h
  rcases Nat.lt_or_ge k 16 with h' | h'
  · have := ok2 (k - 8) (by lia); rwa [show k - 8 + 11 = k + 3 by (grind -ring -splitIte)] at this
  rcases Nat.lt_or_ge k 22 with h | h
  · have := ok3 (k - 16) (by lia); rwa [show k - 16 + 19 = k + 3 by (grind -ring -splitIte)] at this
  rcases Nat.lt_or_ge k 28 with h' | h'
  · have := ok4 (k - 22) (by lia); rwa [show k - 22 + 25 = k + 3 by (grind -ring -splitIte)] at this
  rcases Nat.lt_or_ge k 32 with h | h
  · have := ok5 (k - 28) (by lia); rwa [show k - 28 + 31 = k + 3 by (grind -ring -splitIte)] at this
  rcases Nat.lt_or_ge k 36 with h' | h'
  · have := ok6 (k - 32) (by lia); rwa [show k - 32 + 35 = k + 3 by (grind -ring -splitIte)] at this
  · have := ok7 (k - 36) (by lia); rwa [show k - 36 + 39 = k + 3 by (grind -ring -splitIte)] at this
theorem lastOk_use {xs out : List Int} (h : lastOk xs out = true) : xs.length < 64 ∧ (∀ x ∈ xs, hashInt x = x) ∧
    ((simV true (fun i => xs.getD i 0) xs.length).2.plain = true ∧ (simV true (fun i => xs.getD i 0) xs.length).2.led = true ∧ iterOk (simV true (fun i => xs.getD i 0) xs.length).2.place = true) ∧
    out.Perm (PyProof.Rows.firstMet (fun i => xs.getD i 0) xs.length) ∧ out.Pairwise (· ≤ ·) := by
  unfold lastOk tabOk at h
  simp only [Bool.and_eq_true, decide_eq_true_eq] at h
  obtain ⟨⟨⟨⟨⟨⟨a1, a2⟩, a3⟩, a4⟩, a5⟩, a6⟩, a7⟩ := h
  refine ⟨a7, fun x hx => ?_, ⟨a1, a2, a3⟩, List.isPerm_iff.mp a4, a5⟩
  have := List.all_eq_true.mp a6 x hx
  simpa using this
section
variable (w : World) (mean : ExcName → Option Value) (mg mb : Str → Option Value)

theorem call_drawn {d : Nat} {X : Fx} {g : G} {Q : PV → Prop} {x y : Str} {fpos bp pos yp : Pos} (n : Nat) (ho : g.o = some (x, .box)) (hy : g.σ.lookup y = some (.int n)) (hd : 2 ≤ d)
    (h : ∀ i : Nat, i < 2 ^ 19 → Q (.int i))
    (hkf : X.env.kindOf (Str.ofString "_law_drawn") = some .globalImplicit := by rfl) (hk1 : X.env.kindOf x = some .local := by rfl) (hdx : (x == ("__debug__" : Str)) = false := by decide)
    (hky : X.env.kindOf y = some .local := by rfl) (hdy : (y == ("__debug__" : Str)) = false := by decide)
    (he : ∀ env : Env, starEach [.Name x bp, .Name y yp] env = (false, eval (.Name x bp) env) :: (false, eval (.Name y yp) env) :: [] := by intro _; rfl)
    (he1 : ∀ env : Env, starEach [.Name y yp] env = (false, eval (.Name y yp) env) :: [] := by intro _; rfl)
    (hp : ∀ env : Env, (backTo pos (starEach [.Name y yp] env)).any (·.1) = false := by intro _; rfl)
    (hc : ∀ env : Env, eval (.Call (.Name (Str.ofString "_law_drawn") fpos) [.Name x bp, .Name y yp] [] pos) env = (do callWith pos (← eval (.Name (Str.ofString "_law_drawn") fpos) env) [] (backTo pos (starEach [.Name x bp, .Name y yp] env)) (backToKw pos (keywordEach [] env))) := by intro _; rfl) :
    EM (WH w mean mg mb) d X (.Call (.Name (Str.ofString "_law_drawn") fpos) [.Name x bp, .Name y yp] [] pos) g Q := by
  refine EM.callB ho (EV.glob (ns_law_drawn _) ⟨_, rfl, kp_law_drawn _, ?_⟩ hkf) hk1 hdx he he1 hp hc
  exact EM.of (EV.name hy ⟨rfl, _, (ct_law_drawn w mean mg mb n).mono hd fun _ h => h, fun r ⟨i, e, hi⟩ => by rw [e]; exact h i hi⟩ hky hdy)
theorem law_walk (xs : List Int) (hxs : xs.length ≤ 63) (l0 : Addr) (its : List Value) (hi : IntsAre its xs) : LawWalk (WH w mean mg mb) 27 312 l0 its (fun r => r = .bool true) := by
  refine LawWalk.mk rfl ?_
  intro qual' f' cdv' dp un gd L' outer A₀ base g hL
  refine SV.cons (S1.callN rfl hL rfl (EV.glob (ns_law_box _) ⟨_, rfl, kp_law_box _, EV.name rfl ((ct_law_box w mean mg mb xs hxs l0 its hi).mono (by decide))⟩) ?_)
  refine SV.cons ?_
  refine S1.for1 [] 1 (fun i g' => g' = ⟨[], [], some (Str.ofString "box", .box)⟩) (nb_range _) (EV.int rfl) (by constructor <;> decide) ?_ rfl ?_ ?_
  · rintro g' i rfl y q e; cases e; decide
  · rintro i g' hlt rfl
    refine SV.cons (S1.assignM rfl (by decide) (EM.binop (EM.of (EV.int ⟨rfl, call_take w mean mg mb 6 (by decide) rfl (by decide) (EM.of (EV.int ⟨rfl, rfl, fun j hj => ?_⟩))⟩))))
    refine OV.addN 4 j rfl rfl ⟨rfl, rfl, ?_⟩
    generalize hn : 4 + j = n
    have hw : 1 ≤ n := by lia
    have hw2 : n ≤ 63 := by lia
    have hw9 : n ≤ 9 := by lia
    clear hn hj
    refine SV.cons (S1.assignM rfl (by decide) (call_drawn w mean mg mb n rfl rfl (by decide) (fun x hx => ⟨rfl, ?_⟩)))
    have hx20 : x < 2 ^ 20 := by lia
    have hx64 : x < 2 ^ 64 := by lia
    refine SV.freeze rfl fun ba => ?_
    refine SV.at ⟨[(Str.ofString "w", .int n), (Str.ofString "number", .int x), (Str.ofString "box", .fn ba)], [], none⟩ rfl ?_
    k_allIn
    refine callok (ct_law_limbs w mean mg mb n x hw hw2 hx64) ?_
    rintro _ rfl
    k_allIn
    refine callok (ct_law_is_exact w mean mg mb x 2 hx20 (by decide) (by decide)) ?_
    rintro _ rfl
    k_memK
    refine S1.skip ?_ ?_
    · refine TV.or (TV.reprNe (nb_repr _) ?_)
      k_allIn
      refine EV.glob (ns_law_mul _) ?_
      k_allIn
      refine EV.glob (ns_law_divrem _) ?_
      k_allIn
      refine callok (ct_is_square w mean mg mb n x hw hw9 hx20) ?_
      rintro _ rfl
      k_allIn
      have e2 : (isq x * isq x = x) ↔ (irt 2 x ^ 2 = x) := by rw [Nat.pow_two]
      refine ite_dec (fun h => absurd (decide_eq_decide.mpr e2) h) (fun _ => ?_)
      refine TV.or (TV.and ?_)
      refine TV.val ?_
      k_allIn
      refine ite_dec (fun h => ?_) (fun h => ?_)
      · refine TV.and ?_
        refine TV.not ?_
        refine TV.val ?_
        k_allIn
        refine callok (ct_may_be_square w mean mg mb n x hw hw2 (by lia)) ?_
        rintro _ ⟨c, rfl, hc⟩
        have hct := hc (e2.mpr h)
        subst hct
        refine ⟨_, rfl, ?_⟩
        rw [if_neg (by decide), if_neg (by decide)]
        exact TV.or_nil rfl
      · rw [if_neg (by decide)]
        exact TV.or_nil rfl
    refine SV.cons (S1.assign2 ?_)
    k_allIn
    refine EV.glob (ns_law_mul _) ?_
    k_allIn
    refine EV.glob (ns_law_divrem _) ?_
    k_allIn
    refine callok (ct_power_of w mean mg mb n x hw hw2 hx20) ?_
    rintro _ ⟨b, e, rfl, he, he1, hsm, hbb⟩
    refine ⟨_, _, rfl, ?_⟩
    refine SV.at ⟨[(Str.ofString "w", .int n), (Str.ofString "number", .int x), (Str.ofString "box", .fn ba), (Str.ofString "a", LZ n x), (Str.ofString "base", LZ n b), (Str.ofString "exponent", .int e)], [], none⟩ rfl ?_
    have hb64 : b < 2 ^ 64 := by
      have : b ^ 1 ≤ b ^ e ∨ b = 0 := by
        rcases Nat.eq_zero_or_pos b with h0 | h0
        · exact .inr h0
        · exact .inl (Nat.pow_le_pow_right h0 he1)
      rw [Nat.pow_one] at this
      lia
    refine SV.cons (S1.assign ?_)
    refine EV.mono (Q := fun p => ∃ due : Nat, p = .int due ∧ 1 ≤ due ∧ due ≤ 20 ∧ e = due ∧ ∀ b' e' : Nat, 2 ≤ x → noPow b' → b' ^ e' = x → 1 ≤ e' → e' = due) ?_ ?_
    · k_allIn
      refine ite_dec (fun h => ?_) (fun h => ?_)
      · k_allIn
        refine callok (ct_law_exponent w mean mg mb x hx20) ?_
        rintro _ ⟨due, rfl, d1, d2, d3, d4⟩
        have hx2 : 2 ≤ x := by lia
        exact ⟨due, rfl, d1, d2, due_eq hx2 (hbb hx2) he he1 d1 d3 d4, fun b' e' _ hb' he' h1 => due_eq hx2 hb' he' h1 d1 d3 d4⟩
      · k_allIn
        exact ⟨Nat.le_refl 1, show 1 ≤ 20 by decide, hsm (by lia), fun _ _ h2 => absurd h2 (by lia)⟩
    rintro _ ⟨due, rfl, d1, d2, rfl, d4⟩
    k_memK
    refine S1.skip ?_ ?_
    · k_allIn
      refine ite_dec (fun h => absurd rfl h) (fun _ => ?_)
      k_allIn
      refine callok (ct_law_number w mean mg mb n b hw hw2 hb64) ?_
      rintro _ rfl
      k_allIn
      refine callok (ct_law_pow w mean mg mb b e (by lia) hb64 (by lia)) ?_
      rintro _ rfl
      k_allIn
      exact ite_dec (fun h => absurd (by rw [he]) h) (fun _ => TV.or_nil rfl)
    k_memK
    refine S1.skip ?_ ?_
    · k_allIn
      refine callok (ct_law_root w mean mg mb x e hx20 he1 d2) ?_
      rintro _ rfl
      k_allIn
      have hr : irt e x = b := by rw [← he]; exact irt_pow he1
      rw [hr]
      refine callok (ct_law_limbs w mean mg mb n b hw hw2 hb64) ?_
      rintro _ rfl
      k_allIn
      exact decide_eq_false fun h => h rfl
    k_memK
    refine S1.skip ?_ ?_
    · k_allIn
      refine ite_dec (fun _ => ?_) (fun _ => rfl)
      refine TV.and (TV.reprNe (nb_repr _) ?_)
      k_allIn
      refine EV.glob (ns_law_mul _) ?_
      k_allIn
      refine EV.glob (ns_law_divrem _) ?_
      k_allIn
      refine callok (ct_is_power w mean mg mb n x hw hw2 hx20) ?_
      rintro _ ⟨c, rfl, e', h1, hc, h2⟩
      refine ⟨_, rfl, ?_⟩
      have hc2 : c = decide (x < 2 ∨ 1 < e) := by
        rw [hc]
        refine decide_eq_decide.mpr ?_
        rcases Nat.lt_or_ge x 2 with h | h
        · exact ⟨fun _ => .inl h, fun _ => .inl h⟩
        · obtain ⟨b', hb1, hb2⟩ := h2 h
          rw [d4 b' e' h hb1 hb2 h1]
      refine EV.mono (Q := fun p => p = .bool (decide (x < 2 ∨ 1 < e))) (EV.or ?_) ?_
      · k_allIn
        refine ite_dec (fun h => ?_) (fun h => ?_)
        · rw [decide_eq_true (show x < 2 ∨ 1 < e from .inl (by lia))]
        · refine EV.or1 ?_
          k_allIn
          congr 1
          refine decide_eq_decide.mpr ?_
          lia
      · rintro _ rfl
        refine ⟨_, rfl, ?_⟩
        rw [hc2]
        exact ite_dec (fun h => absurd rfl h) (fun _ => rfl)
    refine SV.nil ⟨rfl, rfl⟩
  · rintro g' rfl
    refine SV.cons (S1.assignM rfl (by decide) (EM.binop (EM.of (EV.int ⟨rfl, call_take w mean mg mb 60 (by decide) rfl (by decide) (EM.of (EV.int ⟨rfl, rfl, fun j hj => ?_⟩))⟩))))
    refine OV.addN 2 j rfl rfl ⟨rfl, rfl, ?_⟩
    generalize hp : 2 + j = p
    have hp2 : 2 ≤ p := by lia
    have hp61 : p ≤ 61 := by lia
    clear hp hj
    refine SV.cons (S1.assignP ?_ (fun y q e => by cases e; decide))
    k_allIn
    refine callok (ct_next_small_prime w mean mg mb p (by lia)) ?_
    rintro _ ⟨q, rfl, hpq, hq67, hq, hno⟩
    refine ⟨rfl, ?_⟩
    refine SV.cons ?_
    refine S1.forC (cx := L' + 1) rfl (show [Str.ofString "modulus", Str.ofString "n"].Nodup from by decide) [Str.ofString "later"] (p + 1 : Nat) (q + 1 : Nat) (fun i g' => ∃ κ, g' = ⟨[(Str.ofString "later", .int q)], κ, some (Str.ofString "box", .box)⟩ ∧ (κ = [] ∨ ∃ v, κ = [(Str.ofString "n", v)])) (nb_range _) ?_ ?_ ?_ ⟨[], rfl, .inl rfl⟩ ?_ ?_
    · k_allIn
      k_allIn
      refine OV.addN (p) (1) rfl rfl  ?_
      k_allIn
      k_allIn
      refine OV.addN (q) (1) rfl rfl  ?_
      k_allIn
      rfl
    · constructor <;> lia
    · constructor <;> lia
    · rintro i g' hi ⟨κ, rfl, hκ⟩
      have hk : setL (Str.ofString "n") (.int ((p + 1 : Nat) + i)) κ = [(Str.ofString "n", .int (p + 1 + i : Nat))] := by
        rw [show (((p + 1 : Nat) : Int) + i) = ((p + 1 + i : Nat) : Int) by lia]
        rcases hκ with rfl | ⟨v, rfl⟩ <;> rfl
      show SV _ _ _ _ ⟨_, setL (Str.ofString "n") (.int ((p + 1 : Nat) + i)) κ, _⟩ _ _
      rw [hk]
      have hmq : p + 1 + i ≤ q := by lia
      have hpm : p < p + 1 + i := by lia
      generalize p + 1 + i = m at *
      have hm2 : 2 ≤ m := by lia
      have hdv := divs_nil m hm2
      refine SV.cons (S1.skip ?_ (SV.nil ⟨_, rfl, .inr ⟨_, rfl⟩⟩))
      refine TV.cmp (EV.cmp (EV.compI [(Str.ofString "n", L' + 1)] [(Str.ofString "n", .int m)] 2 m (fun i => decide ((m : Int) % i = 0)) (fun i => i) (nb_range _) ?_ ?_ ?_ (show [Str.ofString "modulus", Str.ofString "n"].Nodup from by decide) ?_ ?_ ?_ ?_ ?_))
      · k_allIn
        rfl
      · constructor <;> decide
      · constructor <;> lia
      · intro y r hy
        have : y = Str.ofString "n" := by
          by_cases e : y = Str.ofString "n"
          · exact e
          · rw [List.lookup_cons, beq_eq_false_iff_ne.mpr e] at hy; cases hy
        subst this
        cases hy
        exact ⟨rfl, rfl, rfl⟩
      · lia
      · intro i hi1 hi2
        exact TstV.eq (CV.mod (CV.cell rfl (CV.turn ⟨_, _, rfl, rfl, by lia, CV.int ⟨_, _, rfl, rfl, rfl⟩⟩ rfl rfl) rfl rfl))
      · intro i hi1 hi2 _
        exact CV.turn rfl rfl rfl
      · k_allIn
        refine OV.neB ⟨_, rfl, ?_⟩
        refine decide_eq_false fun h => h (decide_eq_decide.mpr ?_)
        rw [hdv]
        constructor
        · intro h1
          rcases Nat.lt_or_ge m q with h2 | h2
          · exact absurd h1 (hno m hpm h2)
          · omega
        · intro h1
          rw [show m = q by lia]; exact hq
    · rintro g' ⟨κ, rfl, hκ⟩
      refine SV.cons (S1.assignMC (c := L' + 1 + 1) rfl (EM.binop (EM.of (EV.int ⟨rfl, call_take w mean mg mb 40 (by decide) rfl (by decide) (EM.of (EV.int ⟨rfl, rfl, fun j hj => ?_⟩))⟩))) (show [Str.ofString "modulus", Str.ofString "n"].Nodup from by decide))
      refine OV.addN 3 j rfl rfl ⟨rfl, rfl, ?_⟩
      generalize hm : 3 + j = m
      have hm3 : 3 ≤ m := by lia
      have hm42 : m ≤ 42 := by lia
      clear hm hj
      have hκ' : (setL (Str.ofString "modulus") (.int m) κ).lookup (Str.ofString "modulus") = some (.int m) := by rw [lookup_setL, if_pos rfl]
      show SV _ _ _ _ ⟨_, setL (Str.ofString "modulus") (.int m) κ, _⟩ _ _
      generalize setL (Str.ofString "modulus") (.int m) κ = κ2 at *
      refine SV.cons (S1.ret ?_)
      obtain ⟨b1, b2, b3, b4, b5⟩ := lastOk_use (okAll m hm3 hm42)
      have hxl : (xsOf m).length < 64 := b1
      refine EV.cmp (EV.compEnum (sqf m m) (nb_enumerate _) ?_ (by rw [sqf_length]; lia) ?_)
      · refine EV.call (EV.glob (ns_square_rests _) ⟨_, rfl, kp_square_rests _, ES.cons (EV.cell hκ' (ES.nil ?_))⟩)
        exact callok (ct_square_rests w mean mg mb m (by lia) (by lia)) fun _ e => e
      · refine EV.sortedSet (xsOf m) (tI (sqf m m) (sqf m m).length) (nb_sorted _) (nb_set _) ?_ b1 b2 b3 b4 b5 ?_
        · refine EV.compI1 [(Str.ofString "modulus", L' + 1 + 1)] [(Str.ofString "modulus", .int m)] m (fun _ => true) (fun i => i * i % (m : Int)) (nb_range _) (EV.cell hκ' rfl) ?_ (show [Str.ofString "modulus", Str.ofString "n"].Nodup from by decide) ?_ (by lia) ?_ ?_ ?_
          · constructor <;> lia
          · intro y r hy
            have : y = Str.ofString "modulus" := by
              by_cases e : y = Str.ofString "modulus"
              · exact e
              · rw [List.lookup_cons, beq_eq_false_iff_ne.mpr e] at hy; cases hy
            subst this
            have hr : r = .int m := by simpa using hy.symm
            subst hr
            exact ⟨hκ', rfl, rfl⟩
          · intro i hi1 hi2
            exact TstV.nil
          · intro i hi1 hi2 _
            exact CV.mod (CV.mul (CV.turn (CV.turn ⟨i, i, rfl, rfl, .of_left (intBits_le (by lia)), CV.cell rfl ⟨i * i, m, rfl, rfl, by lia, rfl⟩ rfl rfl⟩ rfl rfl) rfl rfl))
          · rw [Int.toNat_natCast]; rfl
        · exact OV.eqL (by rw [decide_eq_true rfl])
end
theorem law_bridge {w : World} {mean : ExcName → Option Value} {mg mb : Str → Option Value} {s₁ : Shared} {h₁ : Heap} {tk₁ : Nat} {L f' : Addr} {m : Str → Option Value} {o1 o2 : Obj} {v1 v2 : Option Value} {xs : List Int} {l0 : Addr} {its : List Value}
    {Q : Flow → Shared → Prop} {E : Value → Shared → Prop} {name qual qual' : Str} {params : Arguments} {body : List Stmt} {scope : Scope} {dV kV doc pm cdv cdv' ct oc : Value} {an od : Option Addr} {osl : Array (Option Value)}
    (ho : (Kf w.params).lookup 312 = some ⟨oc, od, .func (fnOf name qual params body scope dV kV doc pm an cdv ct), osl⟩) (hkind : scope.kind = .function)
    (hcf : cellsFrom (L + 1) scope.names [] = [(Str.ofString "modulus", L + 1 + 1), (Str.ofString "n", L + 1)])
    (hL : s₁.heap.IsList l0 its.toArray) (hi : IntsAre its xs) (hlen : xs.length ≤ 63) (kin : (Kf w.params).In s₁.heap) (top : Top Qv (looseW Qv []) mean mg mb s₁.heap)
    (F : Fr s₁.heap L h₁ m) (N : News s₁.heap L h₁ [(L + 1 + 1, o2), (L + 1, o1)]) (hd2 : o2.data = .cell v2) (hd1 : o1.data = .cell v1) (hm : m (Str.ofString "script") = some (.ref l0))
    (h : ∀ h' tk' m', Fr s₁.heap L h' m' → Q (.ret (.bool true)) { s₁ with heap := h', toks := tk' }) :
    wpAny (model PySem.Challenge.rw_nn0030_01.row.prog w) (callerA.deeper (envOfC qual' scope L f' cdv')) (execs body (envOfC qual' scope L f' cdv')) Q E { s₁ with heap := h₁, toks := tk₁ } := by
  have he : envOfC qual' scope L f' cdv' = envX qual' scope L f' cdv' [(Str.ofString "modulus", L + 1 + 1), (Str.ofString "n", L + 1)] := by unfold envOfC envX; rw [hcf]
  rw [he]
  refine wpAny_mono (law_walk w mean mg mb xs hlen l0 its hi ho qual' f' cdv' _ _ _ L [] callerA s₁.heap s₁.heap hL ⟨below_caller _, kin, top, hkind, (show callerA.depth + 1 + 27 < recursionLimit by decide), (show callerA.units + 3 + 8 * 27 + 200 < cLine by decide)⟩ { s₁ with heap := h₁, toks := tk₁ } m _ Q F N (N₀ := []) ⟨[], rfl, fun _ h => (by cases h), fun _ h => (by cases h), fun y p e => ?_, fun xc hx => ?_, fun y p e => (by cases e), ?_⟩ (fun _ _ _ _ _ _ _ _ q => q.elim) fun v p h' tk' m' T' F' N' hs hr hq => ?_) (fun _ _ x => x) fun _ _ x => x.elim
  · have : y = Str.ofString "script" := by
      by_cases e' : y = Str.ofString "script"
      · exact e'
      · exfalso
        have e2 : [(Str.ofString "script", PV.fn l0)].lookup y = some p := e
        rw [List.lookup_cons, beq_eq_false_iff_ne.mpr e'] at e2; cases e2
    subst this
    have e2 : p = .fn l0 := by
      have e2 : [(Str.ofString "script", PV.fn l0)].lookup (Str.ofString "script") = some p := e
      simpa using e2.symm
    subst e2
    exact ⟨_, hm, .fn⟩
  · rcases List.mem_cons.mp hx with rfl | hx
    · exact ⟨o2, v2, .head _, hd2, fun p hp => (by cases hp)⟩
    · rw [List.mem_singleton.mp hx]
      exact ⟨o1, v1, .tail _ (.head _), hd1, fun p hp => (by cases hp)⟩
  · show [L + 1 + 1, L + 1].Nodup
    refine List.nodup_cons.mpr ⟨fun hz => ?_, List.nodup_cons.mpr ⟨fun hz => (by cases hz), List.nodup_nil⟩⟩
    have := List.mem_singleton.mp hz
    exact Nat.succ_ne_self _ this
  · subst hq
    cases hr
    exact h h' tk' m' F'
set_option maxHeartbeats 0
/-- the way to the end of the top, by the library's quick words -/
noncomputable def endF (w : World) (s₀ : Shared) : Option Shared :=
  match s₀.heap.isNs mainGlobals && s₀.gens.size == 0 with
  | true => (Fast.tw14082659384304107361 Fast.tw14364793385576792824 Pw w s₀.heap.objs.size (Fast.tw8920871248978507458 s₀.heap mainGlobals "__annotations__") 3932 s₀ (topStub Pw)).bind fun s₁ => match staticsOk (Fast.tw5923862056798008813 Pw.main.body) s₀.heap s₁.heap && namesBound Pw s₁.heap && gensDone s₁ && laidKept s₀.heap s₁.heap with
      | true => some s₁
      | false => none
  | false => none
theorem endF_eq (w : World) (s₀ : Shared) : topFrom treeTable Pw w 3932 s₀ = endF w s₀ := by
  unfold topFrom endF
  rw [← Fast.te14364793385576792824, ← Fast.te14082659384304107361, ← Fast.te8920871248978507458, ← Fast.te5923862056798008813]
  rfl
theorem left0 (w : World) : ((fencedOpening Fast.tw14364793385576792824 Pw w 3932).bind (endF w)).map (fun s => (Fast.tw4187177175401517315 Qv [] (Fast.tw5923862056798008813 Pw.main.body) (fun s => xlAt Qv [] s && recOk [] s) true s, addrs.map s.heap.get?)) = some (openGood Qv [], (Kf w.params).map fun p => some p.2) := by
  kernel_rfl
theorem left1 : LeftO Pw Qv [] (fun s => xlAt Qv [] s && recOk [] s) HH.obs HH.val 3932 := by
  intro w
  unfold openEnds
  rw [show topFrom treeTable Pw w 3932 = endF w from funext (endF_eq w), Fast.te14364793385576792824, Fast.te4187177175401517315, Fast.te5923862056798008813]
  exact left0 w
theorem said0 : Fast.tw9446332074065402090 PySem.Challenge.rw_nn0030_01 = true := by kernel_rfl
theorem said : PySem.Challenge.rw_nn0030_01.wellSaid = true := by
  rw [Fast.te9446332074065402090]
  exact said0
end Mine
theorem PySem.Challenge.cw_nn0030_01_holds : PySem.Challenge.rw_nn0030_01.Holds := by
  w_on
  refine holds_law Mine.said fun _ => ?_
  refine holds_open (q := Mine.Qv) (loose := []) (Xt := fun s => xlAt Mine.Qv [] s && recOk [] s) (XP := XL Mine.Qv []) (Yf := Hook.obs Mine.HH) (Ya := Hook.val Mine.HH) (YP := Hook.says Mine.HH) (N := 3932) Mine.left1 (Hook.of Mine.HH) (Hook.keeps Mine.HH) (fun s e => xl_of s (Bool.and_eq_true_iff.mp e).1) XL.keeps (by rfl) (by rfl) (by rfl) (fun s e => recFacts_of (Bool.and_eq_true_iff.mp e).2) (by rfl) (by first | assumption | decide +kernel) (by decide +kernel) ⟨rfl, rfl, rfl, rfl, rfl, by decide +kernel⟩ ?hw ?hc
  case hw => w_witness2
  intro w s₀ s₁ mg mb G Y fa o pm cd doc dV kV ho hd hcd hD hmg hg args vals as hpre hlay hrd hwl hlo
  have KX := kIn_of Y
  have X := (Ground.X G).1
  refine Ground.open G ?_
  intro T B D TE TW
  try (refine guard_noD D (by decide +kernel) ?_; clear D)
  have TA := at_of_top T
  clear hmg
  wrow_args hpre hlay hrd hwl hlo
  refine enter_call ?_
  w_top on
  try refine codeAny_mono ?_ (fun _ _ g => GoodW.toG g)
  have K0 := below_caller (Top.heap T)
  w_call any ho hd hcd hD T F
  clear hd TA
  k_drop
  refine Mine.law_bridge rfl rfl rfl (by assumption) (by assumption) (by omega) (by assumption) (by assumption) (by assumption) (by assumption) (by assumption) (by assumption) rfl ?_
  intro h' tk' m' F'
  first | wrow_close | (dsimp only; wrow_close)
