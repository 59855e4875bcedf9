import PyProof.Rows.All
import Wide.All
import OpenK.AllK
import Wide.FinOn
import KE.GoesEnum
import HandS.ForMost
import HandS.Zip
import HandS.Style
import HandS.Strs
import HandS.Deep
import HandS.Star
import HandS.Gcd
import HandS.Wide
import HandS.IsInst
import HandS.Evl
import HandS.Walk
import KE.KStateDown
import HandS.Defaults
import HandS.Head0
import HandS.Head1
import HandS.Head2
import HandS.Head3
import HandS.HeadEnd
import HandS.HeadHook1
import HandS.HeadHook2
import HandS.HeadHook3
import HandS.HeadHook4
import PySem.Challenge.RW_blendcurves_k45_whole_least_bending
set_option Elab.async false
set_option linter.all false
set_option maxRecDepth 100000
set_option maxHeartbeats 4000000
/-! BqA: ratios in lowest terms, sizes, Euclid's loop. Plain Lean. -/
namespace BC

/-! ### made -/
theorem made_num {t l : Int} (hl : 0 < l) : t / ((Nat.gcd t.natAbs l.natAbs : Nat) : Int) = (Rat.divInt t l).num := by
  rw [Rat.num_divInt, Int.sign_eq_one_of_pos hl, Int.one_mul, Int.gcd_comm]
  rfl
theorem made_den {t l : Int} (hl : 0 < l) : l / ((Nat.gcd t.natAbs l.natAbs : Nat) : Int) = ((Rat.divInt t l).den : Int) := by
  rw [Rat.den_divInt, if_neg (by omega), Int.natCast_ediv]
  have e : ((l.natAbs : Nat) : Int) = l := Int.natAbs_of_nonneg (by omega)
  rw [e, Int.gcd_comm]
  rfl
theorem gcd_pos {t l : Int} (hl : 0 < l) : (0 : Int) < ((Nat.gcd t.natAbs l.natAbs : Nat) : Int) := by
  have : 0 < Nat.gcd t.natAbs l.natAbs := Nat.gcd_pos_of_pos_right _ (by omega)
  omega
theorem gcd_le {t l : Int} (hl : 0 < l) : ((Nat.gcd t.natAbs l.natAbs : Nat) : Int).natAbs ≤ l.natAbs := by
  have h : Nat.gcd t.natAbs l.natAbs ≤ l.natAbs := Nat.gcd_le_right _ (by omega)
  omega
theorem dpos (a : Rat) : (0 : Int) < (a.den : Int) := by
  have := a.den_pos
  omega
theorem dne (a : Rat) : (a.den : Int) ≠ 0 := by
  have := dpos a
  omega
theorem add_di (a b : Rat) : Rat.divInt (a.num * b.den + b.num * a.den) (a.den * b.den) = a + b := by
  rw [← Rat.divInt_add_divInt _ _ (dne a) (dne b), Rat.num_divInt_den, Rat.num_divInt_den]
theorem sub_di (a b : Rat) : Rat.divInt (a.num * b.den - b.num * a.den) (a.den * b.den) = a - b := by
  rw [← Rat.divInt_sub_divInt _ _ (dne a) (dne b), Rat.num_divInt_den, Rat.num_divInt_den]
theorem mul_di (a b : Rat) : Rat.divInt (a.num * b.num) (a.den * b.den) = a * b := by
  rw [← Rat.divInt_mul_divInt, Rat.num_divInt_den, Rat.num_divInt_den]
theorem div_di (a b : Rat) : Rat.divInt (a.num * b.den) (a.den * b.num) = a / b := by
  rw [Rat.div_def, ← Rat.divInt_mul_divInt, Rat.num_divInt_den]
  congr 1
  rw [← Rat.inv_divInt, Rat.num_divInt_den]
theorem num_pos {b : Rat} (h : 0 < b) : 0 < b.num := by
  have h1 := (Rat.lt_iff 0 b).mp h
  simp at h1
  omega
theorem prod_pos (a b : Rat) : (0 : Int) < (a.den : Int) * (b.den : Int) := Int.mul_pos (dpos a) (dpos b)
theorem over_pos {a b : Rat} (h : 0 < b) : (0 : Int) < (a.den : Int) * b.num := Int.mul_pos (dpos a) (num_pos h)
theorem red1 (q : Rat) : Nat.gcd q.num.natAbs ((q.den : Nat) : Int).natAbs = 1 := q.reduced

/-! ### sizes -/
def Sm (q : Rat) : Prop := q.num.natAbs < 2 ^ 3000 ∧ q.den < 2 ^ 3000
/-- q times N is an integer, and not above N in size -/
def Gn (N : Nat) (q : Rat) : Prop := ∃ n : Int, q * (N : Rat) = (n : Rat) ∧ n.natAbs ≤ N * N
theorem Gn.add {N : Nat} {a b : Rat} (ha : Gn N a) (hb : Gn N b) : Gn (N * 60) (a + b) := by
  obtain ⟨n, e, h⟩ := ha
  obtain ⟨m, f, k⟩ := hb
  refine ⟨(n + m) * 60, ?_, ?_⟩
  · have e2 : ((N * 60 : Nat) : Rat) = (N : Rat) * 60 := by push_cast; rfl
    have e3 : (((n + m) * 60 : Int) : Rat) = ((n : Rat) + (m : Rat)) * 60 := by push_cast; rfl
    rw [e2, e3]
    grind
  · have e4 : N * 60 * (N * 60) = 3600 * (N * N) := by grind
    rw [e4]
    omega
theorem Gn.neg {N : Nat} {a : Rat} (ha : Gn N a) : Gn N (-a) := by
  obtain ⟨n, e, h⟩ := ha
  refine ⟨-n, ?_, by omega⟩
  have e3 : ((-n : Int) : Rat) = -(n : Rat) := by push_cast; rfl
  rw [e3]
  grind
theorem Gn.mul {N M : Nat} {a b : Rat} (ha : Gn N a) (hb : Gn M b) : Gn (N * M) (a * b) := by
  obtain ⟨n, e, h⟩ := ha
  obtain ⟨m, f, k⟩ := hb
  refine ⟨n * m, ?_, ?_⟩
  · have e2 : ((N * M : Nat) : Rat) = (N : Rat) * (M : Rat) := by push_cast; rfl
    have e3 : ((n * m : Int) : Rat) = (n : Rat) * (m : Rat) := by push_cast; rfl
    rw [e2, e3]
    grind
  · rw [Int.natAbs_mul]
    have e4 : N * M * (N * M) = (N * N) * (M * M) := by grind
    rw [e4]
    exact Nat.mul_le_mul h k
theorem Gn.up {N M : Nat} {a : Rat} (ha : Gn N a) (hd : N ∣ M) (hM : 0 < M) : Gn M a := by
  obtain ⟨k, rfl⟩ := hd
  obtain ⟨n, e, h⟩ := ha
  have hk : 0 < k := Nat.pos_of_mul_pos_left hM
  refine ⟨n * k, ?_, ?_⟩
  · have e2 : ((N * k : Nat) : Rat) = (N : Rat) * (k : Rat) := by push_cast; rfl
    have e3 : ((n * (k : Int) : Int) : Rat) = (n : Rat) * (k : Rat) := by push_cast; rfl
    rw [e2, e3]
    grind
  · rw [Int.natAbs_mul]
    have e5 : ((k : Int)).natAbs = k := by omega
    rw [e5]
    have e4 : N * k * (N * k) = (N * N) * k * k := by grind
    rw [e4]
    calc n.natAbs * k ≤ (N * N) * k := Nat.mul_le_mul_right _ h
      _ ≤ (N * N) * k * k := Nat.le_mul_of_pos_right _ hk
theorem Gn.den {N : Nat} {a : Rat} (ha : Gn N a) : a.den ∣ N := by
  obtain ⟨n, e, _⟩ := ha
  have h1 : a.num * (N : Int) = n * (a.den : Int) := by
    have h2 : (a.num : Rat) = a * (a.den : Rat) := by
      have h3 : a = (a.num : Rat) / (a.den : Rat) := by
        rw [← Rat.mkRat_eq_div, Rat.mkRat_self]
      have h4 : (a.den : Rat) ≠ 0 := by
        intro z
        have := Rat.natCast_eq_zero_iff.mp z
        exact a.den_nz this
      exact (Rat.div_mul_cancel h4).symm.trans (by rw [← h3])
    have h5 : ((a.num * (N : Int) : Int) : Rat) = ((n * (a.den : Int) : Int) : Rat) := by
      push_cast
      rw [h2]
      grind
    exact Rat.intCast_inj.mp h5
  have h6 : a.den ∣ a.num.natAbs * N := by
    have h7 : (a.num * (N : Int)).natAbs = a.num.natAbs * N := by
      rw [Int.natAbs_mul]
      rfl
    rw [← h7, h1, Int.natAbs_mul]
    exact Nat.dvd_mul_left _ _
  exact (Nat.Coprime.symm a.reduced).dvd_of_dvd_mul_left h6
theorem Gn.num {N : Nat} {a : Rat} (hN : 0 < N) (ha : Gn N a) : a.num.natAbs ≤ N * N := by
  have hd := ha.den
  obtain ⟨n, e, h⟩ := ha
  obtain ⟨k, rfl⟩ := hd
  have hk : 0 < k := Nat.pos_of_mul_pos_left hN
  have h2 : (a.num : Rat) = a * (a.den : Rat) := by
    have h3 : a = (a.num : Rat) / (a.den : Rat) := by
      rw [← Rat.mkRat_eq_div, Rat.mkRat_self]
    have h4 : (a.den : Rat) ≠ 0 := by
      intro z
      have := Rat.natCast_eq_zero_iff.mp z
      exact a.den_nz this
    exact (Rat.div_mul_cancel h4).symm.trans (by rw [← h3])
  have h5 : a.num * (k : Int) = n := by
    have h6 : ((a.num * (k : Int) : Int) : Rat) = (n : Rat) := by
      push_cast
      rw [h2, ← e]
      push_cast
      grind
    exact Rat.intCast_inj.mp h6
  have h8 : a.num.natAbs * k = n.natAbs := by
    rw [← h5, Int.natAbs_mul]
    rfl
  calc a.num.natAbs ≤ a.num.natAbs * k := Nat.le_mul_of_pos_right _ hk
    _ = n.natAbs := h8
    _ ≤ _ := h

/-- the grid: d is a common divisor's part, e how many times 60 -/
def Gd (d e : Nat) (q : Rat) : Prop := Gn (d * 60 ^ e) q
theorem Gd.add {d e : Nat} {a b : Rat} (ha : Gd d e a) (hb : Gd d e b) : Gd d (e + 1) (a + b) := by
  have h := Gn.add ha hb
  have e1 : d * 60 ^ e * 60 = d * 60 ^ (e + 1) := by rw [Nat.pow_succ, Nat.mul_assoc]
  rw [e1] at h
  exact h
theorem Gd.neg {d e : Nat} {a : Rat} (ha : Gd d e a) : Gd d e (-a) := Gn.neg ha
theorem Gd.sub {d e : Nat} {a b : Rat} (ha : Gd d e a) (hb : Gd d e b) : Gd d (e + 1) (a - b) := by
  rw [Rat.sub_eq_add_neg]
  exact ha.add hb.neg
theorem Gd.mul {d e d' e' : Nat} {a b : Rat} (ha : Gd d e a) (hb : Gd d' e' b) : Gd (d * d') (e + e') (a * b) := by
  have h := Gn.mul ha hb
  have e1 : d * 60 ^ e * (d' * 60 ^ e') = d * d' * 60 ^ (e + e') := by
    rw [Nat.pow_add]
    grind
  rw [e1] at h
  exact h
theorem Gd.mul1 {d e e' : Nat} {a b : Rat} (ha : Gd d e a) (hb : Gd 1 e' b) : Gd d (e + e') (a * b) := by
  have h := ha.mul hb
  rw [Nat.mul_one] at h
  exact h
theorem Gd.mul1' {d e e' : Nat} {a b : Rat} (ha : Gd 1 e a) (hb : Gd d e' b) : Gd d (e + e') (a * b) := by
  have h := ha.mul hb
  rw [Nat.one_mul] at h
  exact h
theorem Gd.up {d e d' e' : Nat} {a : Rat} (ha : Gd d e a) (hd : d ∣ d') (he : e ≤ e') (h0 : 0 < d') : Gd d' e' a := by
  refine Gn.up ha (Nat.mul_dvd_mul hd (Nat.pow_dvd_pow 60 he)) (Nat.mul_pos h0 (Nat.pow_pos (by decide)))
theorem Gd.upe {d e e' : Nat} {a : Rat} (ha : Gd d e a) (he : e ≤ e') (h0 : 0 < d) : Gd d e' a := ha.up (Nat.dvd_refl d) he h0
theorem Gd.up1 {d e e' : Nat} {a : Rat} (ha : Gd 1 e a) (he : e ≤ e') (h0 : 0 < d) : Gd d e' a := ha.up (Nat.one_dvd d) he h0
theorem gd_int {n : Int} {e : Nat} (h : n.natAbs ≤ 60 ^ e) : Gd 1 e (n : Rat) := by
  refine ⟨n * (60 ^ e : Nat), ?_, ?_⟩
  · push_cast
    grind
  · rw [Int.natAbs_mul, Nat.one_mul]
    exact Nat.mul_le_mul_right _ h
theorem gd_zero {d e : Nat} (h0 : 0 < d) : Gd d e 0 := by
  have h : Gd 1 0 ((0 : Int) : Rat) := gd_int (by decide)
  exact h.up1 (Nat.zero_le _) h0
theorem gd_one {d e : Nat} (h0 : 0 < d) : Gd d e 1 := by
  have h : Gd 1 0 ((1 : Int) : Rat) := gd_int (by decide)
  exact h.up1 (Nat.zero_le _) h0
theorem gd_nat {n : Nat} {e : Nat} (h : n ≤ 60 ^ e) : Gd 1 e (n : Rat) := by
  have h1 : Gd 1 e ((n : Int) : Rat) := gd_int (by omega)
  exact h1
theorem gd_inv {k : Nat} (hk : 0 < k) : Gd k 0 (1 / (k : Rat)) := by
  have h4 : (k : Rat) ≠ 0 := by
    intro z
    have := Rat.natCast_eq_zero_iff.mp z
    omega
  refine ⟨1, ?_, ?_⟩
  · rw [Nat.pow_zero, Nat.mul_one, Rat.div_mul_cancel h4]
    rfl
  · rw [Nat.pow_zero, Nat.mul_one]
    have : 1 ≤ k * k := Nat.mul_pos hk hk
    simpa using this
theorem gd_inv60 {k : Nat} (hk : 0 < k) (h : k ∣ 60) : Gd 1 1 (1 / (k : Rat)) := by
  have h1 := gd_inv hk
  refine Gn.up h1 ?_ (by decide)
  rw [Nat.pow_zero, Nat.mul_one]
  exact h
theorem Gd.sm {d e : Nat} {q : Rat} (h : Gd d e q) (h0 : 0 < d) (hd : d ≤ 2 ^ 320) (he : e ≤ 195) : Sm q := by
  have hp : d * 60 ^ e ≤ 2 ^ 320 * 60 ^ 195 := Nat.mul_le_mul hd (Nat.pow_le_pow_right (by decide) he)
  have hq : 2 ^ 320 * 60 ^ 195 < 2 ^ 1499 := by decide +kernel
  have hN : 0 < d * 60 ^ e := Nat.mul_pos h0 (Nat.pow_pos (by decide))
  have h1 := Gn.num hN h
  have h2 := Nat.le_of_dvd hN (Gn.den h)
  have h3 : d * 60 ^ e * (d * 60 ^ e) < 2 ^ 1499 * 2 ^ 1499 := Nat.mul_lt_mul'' (Nat.lt_of_le_of_lt hp hq) (Nat.lt_of_le_of_lt hp hq)
  have h4 : 2 ^ 1499 * 2 ^ 1499 < 2 ^ 3000 := by decide +kernel
  have h5 : 2 ^ 1499 < 2 ^ 3000 := by decide +kernel
  exact ⟨Nat.lt_of_le_of_lt h1 (Nat.lt_trans h3 h4), Nat.lt_of_le_of_lt h2 (Nat.lt_of_le_of_lt hp (Nat.lt_trans hq h5))⟩

/-! ### Euclid's loop -/
def Ends : Nat → Nat → Nat → Prop
  | 0, _, b => b = 0
  | m + 1, a, b => b = 0 ∨ Ends m b (a % b)
def fb : Nat → Nat
  | 0 => 1
  | 1 => 1
  | n + 2 => fb (n + 1) + fb n
theorem ends_zero (m a : Nat) : Ends m a 0 := by
  cases m with
  | zero => rfl
  | succ m => exact .inl rfl
theorem ends_fb : ∀ (n a b : Nat), b < fb n → Ends n a b
  | 0, a, b, h => by
    have h1 : b < 1 := h
    have h2 : b = 0 := by omega
    exact h2
  | 1, a, b, h => by
    have h1 : b < 1 := h
    have h2 : b = 0 := by omega
    exact .inl h2
  | n + 2, a, b, h => by
    have h1 : b < fb (n + 1) + fb n := h
    by_cases hb : b = 0
    · exact .inl hb
    · refine .inr ?_
      by_cases hr : a % b < fb (n + 1)
      · exact ends_fb (n + 1) b (a % b) hr
      · by_cases h0 : a % b = 0
        · rw [h0]
          exact ends_zero _ _
        · refine .inr (ends_fb n (a % b) (b % (a % b)) ?_)
          have h2 : a % b < b := Nat.mod_lt _ (by omega)
          have h3 : b % (a % b) ≤ b - a % b := by
            rw [Nat.mod_eq_sub_mod (by omega)]
            exact Nat.mod_le _ _
          omega
theorem fb_pos : ∀ n, 0 < fb n
  | 0 => by decide
  | 1 => by decide
  | n + 2 => by
    have := fb_pos (n + 1)
    show 0 < fb (n + 1) + fb n
    omega
theorem fb_mono (n : Nat) : fb n ≤ fb (n + 1) := by
  cases n with
  | zero => decide
  | succ n =>
    show fb (n + 1) ≤ fb (n + 1) + fb n
    omega
theorem fb_two (n : Nat) : fb (n + 1) ≤ 2 * fb n := by
  cases n with
  | zero => decide
  | succ n =>
    have := fb_mono n
    show fb (n + 1) + fb n ≤ 2 * fb (n + 1)
    omega
theorem fb_four (n : Nat) : 4 * fb (n + 1) ≤ fb (n + 4) := by
  have h1 := fb_two n
  show 4 * fb (n + 1) ≤ (fb (n + 1) + fb n + fb (n + 1)) + (fb (n + 1) + fb n)
  omega
theorem fb_pow : ∀ k, 4 ^ k ≤ fb (3 * k + 1)
  | 0 => by decide
  | k + 1 => by
    have h1 := fb_pow k
    have h2 := fb_four (3 * k)
    rw [Nat.pow_succ]
    show 4 ^ k * 4 ≤ fb (3 * k + 4)
    omega
theorem ends_big {a b : Nat} (h : b < 2 ^ 6100) : Ends 10000 a b := by
  refine ends_fb _ _ _ (Nat.lt_of_lt_of_le h ?_)
  have h1 := fb_pow 3333
  have h2 : (2 : Nat) ^ 6100 ≤ 4 ^ 3333 := by decide +kernel
  exact Nat.le_trans h2 h1
end BC
/-! BqB: polynomials as lists of ratios, what the program computes; values, bounds. Plain Lean. -/
namespace BC
theorem getD_lt {α : Type} {l : List α} {i : Nat} {z : α} (h : i < l.length) : l.getD i z = l[i] := by
  rw [List.getD_eq_getElem?_getD, List.getElem?_eq_getElem h]
  rfl
theorem getD_ge {α : Type} {l : List α} {i : Nat} {z : α} (h : l.length ≤ i) : l.getD i z = z := by
  rw [List.getD_eq_getElem?_getD, List.getElem?_eq_none h]
  rfl

/-! ### trimmed -/
def trim : List Rat → List Rat
  | [] => []
  | a :: r => if trim r = [] then (if a = 0 then [] else [a]) else a :: trim r
theorem trim_cons (a : Rat) (r : List Rat) : trim (a :: r) = if trim r = [] then (if a = 0 then [] else [a]) else a :: trim r := rfl
theorem trim_len : ∀ a : List Rat, (trim a).length ≤ a.length
  | [] => Nat.le_refl _
  | a :: r => by
    have h := trim_len r
    unfold trim
    split
    · split <;> simp
    · simp
      exact h
theorem trim_getD : ∀ (a : List Rat) (i : Nat), (trim a).getD i 0 = a.getD i 0
  | [], i => rfl
  | a :: r, i => by
    have h := trim_getD r
    unfold trim
    by_cases e : trim r = []
    · rw [if_pos e]
      have h2 : ∀ j, r.getD j 0 = 0 := fun j => by
        rw [← h j, e]
        rfl
      by_cases h0 : a = 0
      · rw [if_pos h0]
        cases i with
        | zero =>
          rw [h0]
          rfl
        | succ j =>
          rw [List.getD_cons_succ, h2 j]
          rfl
      · rw [if_neg h0]
        cases i with
        | zero => rfl
        | succ j =>
          rw [List.getD_cons_succ, List.getD_cons_succ, h2 j]
          rfl
    · rw [if_neg e]
      cases i with
      | zero => rfl
      | succ j =>
        rw [List.getD_cons_succ, List.getD_cons_succ]
        exact h j
theorem trim_nil {a : List Rat} (h : ∀ i, a.getD i 0 = 0) : trim a = [] := by
  induction a with
  | nil => rfl
  | cons x r ih =>
    have e := ih fun i => by
      have := h (i + 1)
      rw [List.getD_cons_succ] at this
      exact this
    have h0 : x = 0 := h 0
    rw [trim_cons, if_pos e, if_pos h0]
theorem nil_of_trim {a : List Rat} (h : trim a = []) (i : Nat) : a.getD i 0 = 0 := by
  rw [← trim_getD a i, h]
  rfl
theorem trim_ext : ∀ (a b : List Rat), (∀ i, a.getD i 0 = b.getD i 0) → trim a = trim b
  | [], b, h => (trim_nil fun i => (h i).symm).symm
  | a, [], h => trim_nil fun i => h i
  | x :: r, y :: s, h => by
    have e : trim r = trim s := trim_ext r s fun i => by
      have := h (i + 1)
      rw [List.getD_cons_succ, List.getD_cons_succ] at this
      exact this
    have e0 : x = y := h 0
    unfold trim
    rw [e, e0]
theorem trim_last : ∀ a : List Rat, trim a = [] ∨ (trim a).getLast? ≠ some 0
  | [] => .inl rfl
  | a :: r => by
    have h := trim_last r
    unfold trim
    by_cases e : trim r = []
    · rw [if_pos e]
      by_cases h0 : a = 0
      · rw [if_pos h0]
        exact .inl rfl
      · rw [if_neg h0]
        right
        simp
        exact h0
    · rw [if_neg e]
      right
      rcases h with h | h
      · exact absurd h e
      · cases q : trim r with
        | nil => exact absurd q e
        | cons y s =>
          rw [q] at h
          rw [List.getLast?_cons_cons]
          exact h
theorem trim_trim (a : List Rat) : trim (trim a) = trim a := trim_ext _ _ fun i => trim_getD a i
/-- what the while loop leaves -/
theorem trim_take : ∀ (a : List Rat) (k : Nat), k ≤ a.length → (∀ i, k ≤ i → a.getD i 0 = 0) → (k = 0 ∨ a.getD (k - 1) 0 ≠ 0) → trim a = a.take k
  | [], k, hk, _, _ => by
    have : k = 0 := Nat.le_zero.mp hk
    rw [this]
    rfl
  | x :: r, 0, _, h, _ => by
    rw [List.take_zero]
    exact trim_nil fun i => h i (Nat.zero_le _)
  | x :: r, k + 1, hk, h, hl => by
    have hr : trim r = r.take k := by
      refine trim_take r k (by simpa using hk) (fun i hi => ?_) ?_
      · have := h (i + 1) (by omega)
        rw [List.getD_cons_succ] at this
        exact this
      · cases k with
        | zero => exact .inl rfl
        | succ j =>
          right
          rcases hl with hl | hl
          · omega
          · rw [show j + 1 + 1 - 1 = j + 1 from rfl, List.getD_cons_succ] at hl
            exact hl
    rw [List.take_succ_cons]
    unfold trim
    by_cases e : trim r = []
    · rw [if_pos e]
      cases k with
      | zero =>
        have h0 : x ≠ 0 := by
          rcases hl with hl | hl
          · omega
          · exact hl
        rw [if_neg h0]
        simp
      | succ j =>
        exfalso
        rcases hl with hl | hl
        · omega
        · rw [show j + 1 + 1 - 1 = j + 1 from rfl, List.getD_cons_succ] at hl
          exact hl (nil_of_trim e j)
    · rw [if_neg e, hr]

/-! ### values -/
def pat : List Rat → Rat → Rat
  | [], _ => 0
  | c :: r, x => pat r x * x + c
theorem pat_zero {a : List Rat} (h : ∀ i, a.getD i 0 = 0) (x : Rat) : pat a x = 0 := by
  induction a with
  | nil => rfl
  | cons c r ih =>
    have e := ih fun i => by
      have := h (i + 1)
      rw [List.getD_cons_succ] at this
      exact this
    have e0 : c = 0 := h 0
    show pat r x * x + c = 0
    rw [e, e0]
    grind
theorem pat_trim (a : List Rat) (x : Rat) : pat (trim a) x = pat a x := by
  induction a with
  | nil => rfl
  | cons c r ih =>
    show pat (trim (c :: r)) x = pat r x * x + c
    rw [← ih, trim_cons]
    by_cases e : trim r = []
    · rw [if_pos e, e]
      by_cases h0 : c = 0
      · rw [if_pos h0, h0]
        show (0 : Rat) = 0 * x + 0
        grind
      · rw [if_neg h0]
        rfl
    · rw [if_neg e]
      rfl
/-- the value so far, from the top, k numbers read -/
def patN (a : List Rat) (x : Rat) : Nat → Rat
  | 0 => 0
  | k + 1 => patN a x k * x + a.getD (a.length - 1 - k) 0
theorem patN_cons (c : Rat) (r : List Rat) (x : Rat) : ∀ k, k ≤ r.length → patN (c :: r) x k = patN r x k
  | 0, _ => rfl
  | k + 1, h => by
    show patN (c :: r) x k * x + (c :: r).getD ((c :: r).length - 1 - k) 0 = patN r x k * x + r.getD (r.length - 1 - k) 0
    rw [patN_cons c r x k (by omega)]
    have e : (c :: r).length - 1 - k = (r.length - 1 - k) + 1 := by
      simp
      omega
    rw [e, List.getD_cons_succ]
theorem patN_all : ∀ (a : List Rat) (x : Rat), patN a x a.length = pat a x
  | [], _ => rfl
  | c :: r, x => by
    show patN (c :: r) x r.length * x + (c :: r).getD ((c :: r).length - 1 - r.length) 0 = pat r x * x + c
    rw [patN_cons c r x r.length (Nat.le_refl _), patN_all r x]
    have e : (c :: r).length - 1 - r.length = 0 := by simp
    rw [e]
    rfl
theorem patN_gd {d e : Nat} (a : List Rat) (x : Rat) (h0 : 0 < d) (ha : ∀ q ∈ a, Gd d e q) (hx : Gd 1 1 x) : ∀ k, k ≤ a.length → Gd d (e + 2 * k) (patN a x k)
  | 0, _ => gd_zero h0
  | k + 1, h => by
    have ih := patN_gd a x h0 ha hx k (by omega)
    have hi : a.length - 1 - k < a.length := by omega
    have hm : Gd d e (a.getD (a.length - 1 - k) 0) := by
      rw [getD_lt hi]
      exact ha _ (List.getElem_mem hi)
    exact (ih.mul1 hx).add (hm.upe (by omega) h0)

/-! ### sums -/
def padd (a b : List Rat) : List Rat := (List.range (max a.length b.length)).map fun i => a.getD i 0 + b.getD i 0
def pplus (a b : List Rat) : List Rat := trim (padd a b)
theorem padd_getD (a b : List Rat) (i : Nat) : (padd a b).getD i 0 = a.getD i 0 + b.getD i 0 := by
  unfold padd
  by_cases h : i < max a.length b.length
  · rw [List.getD_eq_getElem?_getD, List.getElem?_map, List.getElem?_range h]
    rfl
  · have h1 : a.length ≤ i := by omega
    have h2 : b.length ≤ i := by omega
    rw [getD_ge (by simp; omega), getD_ge h1, getD_ge h2]
    grind
theorem pplus_trim (a b : List Rat) : pplus (trim a) (trim b) = pplus a b := by
  unfold pplus
  refine trim_ext _ _ fun i => ?_
  rw [padd_getD, padd_getD, trim_getD, trim_getD]
theorem pplus_ext {a b c : List Rat} (h : ∀ i, a.getD i 0 + b.getD i 0 = c.getD i 0) : pplus a b = trim c := by
  unfold pplus
  refine trim_ext _ _ fun i => ?_
  rw [padd_getD]
  exact h i

/-! ### derivative, integral -/
def pslope (a : List Rat) : List Rat := ((List.range a.length).map fun i => a.getD i 0 * ((i : Nat) : Rat)).tail
def psum (a : List Rat) : List Rat := trim (0 :: (List.range a.length).map fun i => a.getD i 0 * (1 / ((i + 1 : Nat) : Rat)))

/-! ### products -/
def rowAdd (f : List Rat) (i : Nat) (x : Rat) (b : List Rat) : Nat → List Rat
  | 0 => f
  | k + 1 => (rowAdd f i x b k).set (i + k) ((rowAdd f i x b k).getD (i + k) 0 + x * b.getD k 0)
def mulAdd (a b : List Rat) : Nat → List Rat
  | 0 => List.replicate (a.length + b.length - 1) 0
  | k + 1 => rowAdd (mulAdd a b k) k (a.getD k 0) b b.length
def pmul (a b : List Rat) : List Rat := if a = [] ∨ b = [] then [] else mulAdd a b a.length
theorem rowAdd_len (f : List Rat) (i : Nat) (x : Rat) (b : List Rat) : ∀ k, (rowAdd f i x b k).length = f.length
  | 0 => rfl
  | k + 1 => by
    show ((rowAdd f i x b k).set _ _).length = _
    rw [List.length_set]
    exact rowAdd_len f i x b k
theorem mulAdd_len (a b : List Rat) : ∀ k, (mulAdd a b k).length = a.length + b.length - 1
  | 0 => List.length_replicate
  | k + 1 => (rowAdd_len _ _ _ _ _).trans (mulAdd_len a b k)
theorem mem_set_gd {P : Rat → Prop} {f : List Rat} {i : Nat} {y : Rat} (h : ∀ q ∈ f, P q) (hy : P y) : ∀ q ∈ f.set i y, P q := fun q hq => by
  rcases List.mem_or_eq_of_mem_set hq with h1 | h1
  · exact h q h1
  · rw [h1]
    exact hy
theorem getD_gd {P : Rat → Prop} {f : List Rat} (h : ∀ q ∈ f, P q) (h0 : P 0) (i : Nat) : P (f.getD i 0) := by
  by_cases hi : i < f.length
  · rw [getD_lt hi]
    exact h _ (List.getElem_mem hi)
  · rw [getD_ge (by omega)]
    exact h0
/-- within row i at place k: places below i + k hold the new sums, the others the old -/
theorem rowAdd_gd {d e e1 : Nat} {f : List Rat} {x : Rat} {b : List Rat} {i : Nat} (h0 : 0 < d) (hf : ∀ q ∈ f, Gd d e q) (hx : ∀ j, Gd d e (x * b.getD j 0)) (he : e + 1 ≤ e1) :
    ∀ k, (∀ j, Gd d e1 ((rowAdd f i x b k).getD j 0)) ∧ ∀ j, i + k ≤ j → Gd d e ((rowAdd f i x b k).getD j 0)
  | 0 => ⟨fun j => (getD_gd (P := Gd d e) hf (gd_zero h0) j).upe (by omega) h0, fun j _ => getD_gd (P := Gd d e) hf (gd_zero h0) j⟩
  | k + 1 => by
    obtain ⟨h1, h2⟩ := rowAdd_gd h0 hf hx he k
    have hn : Gd d (e + 1) ((rowAdd f i x b k).getD (i + k) 0 + x * b.getD k 0) := (h2 _ (Nat.le_refl _)).add (hx k)
    have ex : ∀ j, ((rowAdd f i x b (k + 1)).getD j 0) = if j = i + k ∧ j < (rowAdd f i x b k).length then (rowAdd f i x b k).getD (i + k) 0 + x * b.getD k 0 else (rowAdd f i x b k).getD j 0 := fun j => by
      show ((rowAdd f i x b k).set (i + k) _).getD j 0 = _
      rw [List.getD_eq_getElem?_getD, List.getElem?_set]
      by_cases hj : i + k = j
      · subst hj
        by_cases hl : i + k < (rowAdd f i x b k).length
        · simp [hl]
        · simp [hl]
      · have hj' : ¬ (j = i + k ∧ j < (rowAdd f i x b k).length) := fun z => hj z.1.symm
        rw [if_neg hj, if_neg hj', List.getD_eq_getElem?_getD]
    refine ⟨fun j => ?_, fun j hj => ?_⟩
    · rw [ex j]
      split
      · exact hn.upe he h0
      · exact h1 j
    · rw [ex j, if_neg (by omega)]
      exact h2 j (by omega)
theorem all_of_getD {P : Rat → Prop} {f : List Rat} (h : ∀ j, P (f.getD j 0)) : ∀ q ∈ f, P q := fun q hq => by
  obtain ⟨i, hi, e⟩ := List.getElem_of_mem hq
  have := h i
  rw [getD_lt hi, e] at this
  exact this
theorem mulAdd_gd {d d' e e' : Nat} {a b : List Rat} (h0 : 0 < d) (h0' : 0 < d') (ha : ∀ q ∈ a, Gd d e q) (hb : ∀ q ∈ b, Gd d' e' q) : ∀ k, ∀ q ∈ mulAdd a b k, Gd (d * d') (e + e' + k) q
  | 0 => fun q hq => by
    rw [List.eq_of_mem_replicate hq]
    exact gd_zero (Nat.mul_pos h0 h0')
  | k + 1 => by
    have ih := mulAdd_gd h0 h0' ha hb k
    refine all_of_getD (rowAdd_gd (e := e + e' + k) (Nat.mul_pos h0 h0') ih (fun j => ?_) (Nat.le_refl _) b.length).1
    exact ((getD_gd (P := Gd d e) ha (gd_zero h0) k).mul (getD_gd (P := Gd d' e') hb (gd_zero h0') j)).upe (by omega) (Nat.mul_pos h0 h0')
/-- every number that stands on the way -/
theorem row_gd {d d' e e' : Nat} {a b : List Rat} (h0 : 0 < d) (h0' : 0 < d') (ha : ∀ q ∈ a, Gd d e q) (hb : ∀ q ∈ b, Gd d' e' q) (k m j : Nat) : Gd (d * d') (e + e' + k + 1) ((rowAdd (mulAdd a b k) k (a.getD k 0) b m).getD j 0) :=
  (rowAdd_gd (e := e + e' + k) (Nat.mul_pos h0 h0') (mulAdd_gd h0 h0' ha hb k) (fun j => ((getD_gd (P := Gd d e) ha (gd_zero h0) k).mul (getD_gd (P := Gd d' e') hb (gd_zero h0') j)).upe (by omega) (Nat.mul_pos h0 h0')) (Nat.le_refl _) m).1 j
theorem pmul_gd {d d' e e' : Nat} {a b : List Rat} (h0 : 0 < d) (h0' : 0 < d') (ha : ∀ q ∈ a, Gd d e q) (hb : ∀ q ∈ b, Gd d' e' q) : ∀ q ∈ pmul a b, Gd (d * d') (e + e' + a.length) q := by
  unfold pmul
  split
  · intro q hq
    cases hq
  · exact mulAdd_gd h0 h0' ha hb a.length
theorem mem_trim {P : Rat → Prop} {a : List Rat} (h : ∀ q ∈ a, P q) (h0 : P 0) : ∀ q ∈ trim a, P q := all_of_getD fun j => by
  rw [trim_getD]
  exact getD_gd h h0 j
theorem padd_gd {d e : Nat} {a b : List Rat} (h0 : 0 < d) (ha : ∀ q ∈ a, Gd d e q) (hb : ∀ q ∈ b, Gd d e q) : ∀ q ∈ padd a b, Gd d (e + 1) q := all_of_getD fun j => by
  rw [padd_getD]
  exact (getD_gd (P := Gd d e) ha (gd_zero h0) j).add (getD_gd (P := Gd d e) hb (gd_zero h0) j)
theorem pplus_gd {d e : Nat} {a b : List Rat} (h0 : 0 < d) (ha : ∀ q ∈ a, Gd d e q) (hb : ∀ q ∈ b, Gd d e q) : ∀ q ∈ pplus a b, Gd d (e + 1) q := mem_trim (padd_gd h0 ha hb) (gd_zero h0)
theorem map_range_getD {n : Nat} {f : Nat → Rat} {i : Nat} (h : i < n) : ((List.range n).map f).getD i 0 = f i := by
  rw [List.getD_eq_getElem?_getD, List.getElem?_map, List.getElem?_range h]
  rfl
theorem pslope_len (a : List Rat) : (pslope a).length = a.length - 1 := by
  unfold pslope
  simp
theorem pslope_gd {d e : Nat} {a : List Rat} (h0 : 0 < d) (hl : a.length ≤ 60) (ha : ∀ q ∈ a, Gd d e q) : ∀ q ∈ pslope a, Gd d (e + 1) q := fun q hq => by
  unfold pslope at hq
  have h1 := List.mem_of_mem_tail hq
  obtain ⟨i, hi, rfl⟩ := List.mem_map.mp h1
  have hi2 : i < a.length := List.mem_range.mp hi
  exact (getD_gd (P := Gd d e) ha (gd_zero h0) i).mul1 (gd_nat (by
    have : (60 : Nat) ^ 1 = 60 := rfl
    omega))
theorem psum_gd {d e : Nat} {a : List Rat} (h0 : 0 < d) (hl : a.length ≤ 6) (ha : ∀ q ∈ a, Gd d e q) : ∀ q ∈ psum a, Gd d (e + 1) q := by
  unfold psum
  refine mem_trim (fun q hq => ?_) (gd_zero h0)
  rcases List.mem_cons.mp hq with h | h
  · rw [h]
    exact gd_zero h0
  · obtain ⟨i, hi, rfl⟩ := List.mem_map.mp h
    have hi2 : i < a.length := List.mem_range.mp hi
    refine (getD_gd (P := Gd d e) ha (gd_zero h0) i).mul1 (gd_inv60 (by omega) ?_)
    have h6 : i < 6 := by omega
    match i, h6 with
    | 0, _ => decide
    | 1, _ => decide
    | 2, _ => decide
    | 3, _ => decide
    | 4, _ => decide
    | 5, _ => decide

/-! ### sums of lists -/
def totN (f : Nat → Rat) : Nat → Rat
  | 0 => 0
  | k + 1 => totN f k + f k
theorem totN_gd {d e : Nat} {f : Nat → Rat} (h0 : 0 < d) (hf : ∀ i, Gd d e (f i)) : ∀ k, Gd d (e + k) (totN f k)
  | 0 => gd_zero h0
  | k + 1 => (totN_gd h0 hf k).add ((hf k).upe (by omega) h0)
theorem totN_ext {f g : Nat → Rat} : ∀ k, (∀ i, i < k → f i = g i) → totN f k = totN g k
  | 0, _ => rfl
  | k + 1, h => by
    show totN f k + f k = totN g k + g k
    rw [totN_ext k fun i hi => h i (by omega), h k (by omega)]
end BC
/-! BqC: the cubic with given values and slopes at two places; its bending. Plain Lean. -/
namespace BC

def fact : Nat → Nat
  | 0 => 1
  | n + 1 => fact n * (n + 1)
/-- the columns of differences -/
def tabL (ns ds : List Rat) : Nat → List Rat
  | 0 => ns.map fun x => ds.getD (ns.idxOf x) 0
  | s + 1 => (List.range (ns.length - (s + 1))).map fun p =>
    if ns.getD p 0 = ns.getD (p + (s + 1)) 0 then ds.getD (ns.idxOf (ns.getD p 0) + (s + 1)) 0 / ((fact (s + 1) : Nat) : Rat)
    else ((tabL ns ds s).getD (p + 1) 0 - (tabL ns ds s).getD p 0) / (ns.getD (p + (s + 1)) 0 - ns.getD p 0)
def table (ns ds : List Rat) : List Rat := (List.range ns.length).map fun s => (tabL ns ds s).getD 0 0
def prd (ns : List Rat) : Nat → List Rat
  | 0 => [1]
  | k + 1 => pmul (prd ns k) [-(ns.getD k 0), 1]
def fnd (ns cs : List Rat) : Nat → List Rat
  | 0 => []
  | k + 1 => pplus (fnd ns cs k) (trim ((prd ns k).map fun m => cs.getD k 0 * m))
def herm (l r d0 s0 d1 s1 : Rat) : List Rat := fnd [l, l, r, r] (table [l, l, r, r] [d0, s0, d1, s1]) 4

theorem pplus_getD (a b : List Rat) (i : Nat) : (pplus a b).getD i 0 = a.getD i 0 + b.getD i 0 := by
  unfold pplus
  rw [trim_getD, padd_getD]
theorem tab_four {l r d0 s0 d1 s1 : Rat} (h : l ≠ r) : table [l, l, r, r] [d0, s0, d1, s1] =
    [d0, s0, ((d1 - d0) / (r - l) - s0) / (r - l), ((s1 - (d1 - d0) / (r - l)) / (r - l) - ((d1 - d0) / (r - l) - s0) / (r - l)) / (r - l)] := by
  have il : [l, l, r, r].idxOf l = 0 := by simp [List.idxOf_cons]
  have ir : [l, l, r, r].idxOf r = 2 := by
    have h1 : (l == r) = false := beq_eq_false_iff_ne.mpr h
    simp [List.idxOf_cons, h1]
  have e0 : tabL [l, l, r, r] [d0, s0, d1, s1] 0 = [d0, d0, d1, d1] := by
    unfold tabL
    simp only [List.map_cons, List.map_nil, il, ir]
    rfl
  have f1 : ((fact 1 : Nat) : Rat) = 1 := rfl
  have dv : ∀ q : Rat, q / 1 = q := fun q => by grind
  have e1 : tabL [l, l, r, r] [d0, s0, d1, s1] 1 = [s0, (d1 - d0) / (r - l), s1] := by
    show (List.range 3).map _ = _
    rw [e0]
    simp [List.range, List.range.loop, il, ir, h, f1, dv]
  have e2 : tabL [l, l, r, r] [d0, s0, d1, s1] 2 = [((d1 - d0) / (r - l) - s0) / (r - l), (s1 - (d1 - d0) / (r - l)) / (r - l)] := by
    show (List.range 2).map _ = _
    rw [e1]
    simp [List.range, List.range.loop, h]
  have e3 : tabL [l, l, r, r] [d0, s0, d1, s1] 3 = [((s1 - (d1 - d0) / (r - l)) / (r - l) - ((d1 - d0) / (r - l) - s0) / (r - l)) / (r - l)] := by
    show (List.range 1).map _ = _
    rw [e2]
    simp [List.range, List.range.loop, h]
  show [(tabL _ _ 0).getD 0 0, (tabL _ _ 1).getD 0 0, (tabL _ _ 2).getD 0 0, (tabL _ _ 3).getD 0 0] = _
  rw [e0, e1, e2, e3]
  rfl
theorem prd1 (l r : Rat) : prd [l, l, r, r] 1 = [-l, 1] := by
  show pmul [1] [-l, 1] = _
  simp [pmul, mulAdd, rowAdd, List.replicate]
  all_goals grind
theorem prd2 (l r : Rat) : prd [l, l, r, r] 2 = [l * l, -l - l, 1] := by
  show pmul (prd [l, l, r, r] 1) [-l, 1] = _
  rw [prd1]
  simp [pmul, mulAdd, rowAdd, List.replicate]
  all_goals grind
theorem prd3 (l r : Rat) : prd [l, l, r, r] 3 = [-(l * l * r), l * l + l * r + l * r, -l - l - r, 1] := by
  show pmul (prd [l, l, r, r] 2) [-r, 1] = _
  rw [prd2]
  simp [pmul, mulAdd, rowAdd, List.replicate]
  all_goals grind
/-- four numbers with these products -/
theorem fnd_four (l r c0 c1 c2 c3 : Rat) : fnd [l, l, r, r] [c0, c1, c2, c3] 4 =
    trim [c0 - c1 * l + c2 * l * l - c3 * l * l * r, c1 - c2 * l - c2 * l + c3 * l * l + c3 * l * r + c3 * l * r, c2 - c3 * l - c3 * l - c3 * r, c3] := by
  have ht : ∀ a b, trim (pplus a b) = pplus a b := fun a b => trim_trim _
  show pplus _ _ = _
  rw [← ht]
  refine trim_ext _ _ fun i => ?_
  rw [pplus_getD, trim_getD]
  show (pplus _ _).getD i 0 + _ = _
  rw [pplus_getD, trim_getD]
  show (pplus _ _).getD i 0 + _ + _ = _
  rw [pplus_getD, trim_getD]
  show (pplus _ _).getD i 0 + _ + _ + _ = _
  rw [pplus_getD, trim_getD, prd1, prd2, prd3]
  show _ + ([1].map _).getD i 0 + _ + _ + _ = _
  match i with
  | 0 => simp [fnd]; grind
  | 1 => simp [fnd]; grind
  | 2 => simp [fnd]; grind
  | 3 => simp [fnd]; grind
  | i + 4 => simp [fnd]; grind

/-! ### its bending -/
def bent (h : List Rat) : List Rat := pslope (pslope h)
def sqr (h : List Rat) : List Rat := pmul (bent h) (bent h)
def bendP (h : List Rat) (l r : Rat) : Rat := pat (psum (sqr h)) r - pat (psum (sqr h)) l
/-- the law's own integral -/
def lawI (h : List Rat) (l r : Rat) : Rat := totN (fun k => (trim (sqr h)).getD k 0 * ((r ^ (k + 1) - l ^ (k + 1)) / ((k + 1 : Nat) : Rat))) (trim (sqr h)).length
theorem tot_trim (a : List Rat) (w : Nat → Rat) : totN (fun k => (trim a).getD k 0 * w k) (trim a).length = totN (fun k => a.getD k 0 * w k) a.length := by
  have h : ∀ m n, m ≤ n → (∀ k, m ≤ k → a.getD k 0 = 0) → totN (fun k => a.getD k 0 * w k) m = totN (fun k => a.getD k 0 * w k) n := by
    intro m n hmn hz
    induction n with
    | zero =>
      have : m = 0 := by omega
      rw [this]
    | succ n ih =>
      by_cases e : m = n + 1
      · rw [e]
      · rw [ih (by omega)]
        show _ = totN _ n + a.getD n 0 * w n
        rw [hz n (by omega)]
        grind
  have e : (fun k => (trim a).getD k 0 * w k) = fun k => a.getD k 0 * w k := funext fun k => by rw [trim_getD]
  rw [e]
  refine h _ _ (trim_len a) fun k hk => ?_
  rw [← trim_getD]
  exact getD_ge hk
theorem trim4 (a0 a1 a2 a3 : Rat) : (trim [a0, a1, a2, a3] = [a0, a1, a2, a3] ∧ a3 ≠ 0) ∨ (a3 = 0 ∧ trim [a0, a1, a2, a3] = [a0, a1, a2] ∧ a2 ≠ 0) ∨ (a3 = 0 ∧ a2 = 0 ∧ trim [a0, a1, a2, a3] = [a0, a1]) ∨
    (a3 = 0 ∧ a2 = 0 ∧ a1 = 0 ∧ trim [a0, a1, a2, a3] = [a0]) ∨ (a3 = 0 ∧ a2 = 0 ∧ a1 = 0 ∧ a0 = 0 ∧ trim [a0, a1, a2, a3] = []) := by
  by_cases h3 : a3 = 0
  · by_cases h2 : a2 = 0
    · by_cases h1 : a1 = 0
      · by_cases h0 : a0 = 0
        · simp [trim, h3, h2, h1, h0]
        · simp [trim, h3, h2, h1, h0]
      · simp [trim, h3, h2, h1]
    · simp [trim, h3, h2]
  · simp [trim, h3]
theorem sl4 (a0 a1 a2 a3 : Rat) : pslope [a0, a1, a2, a3] = [a1, a2 * 2, a3 * 3] := by
  simp [pslope, List.range, List.range.loop]
theorem sl3 (a0 a1 a2 : Rat) : pslope [a0, a1, a2] = [a1, a2 * 2] := by
  simp [pslope, List.range, List.range.loop]
theorem sl2 (a0 a1 : Rat) : pslope [a0, a1] = [a1] := by
  simp [pslope, List.range, List.range.loop]
theorem sl1 (a0 : Rat) : pslope [a0] = [] := rfl
theorem sl0 : pslope [] = [] := rfl
theorem mul22 (b0 b1 : Rat) : pmul [b0, b1] [b0, b1] = [b0 * b0, b0 * b1 + b1 * b0, b1 * b1] := by
  simp [pmul, mulAdd, rowAdd, List.replicate]
  grind
theorem mul11 (b0 : Rat) : pmul [b0] [b0] = [b0 * b0] := by
  simp [pmul, mulAdd, rowAdd, List.replicate]
  grind
theorem mul00 : pmul [] [] = [] := rfl
/-- the square's three numbers, the last ones maybe missing -/
theorem sqr4 (a0 a1 a2 a3 : Rat) (i : Nat) : (sqr (trim [a0, a1, a2, a3])).getD i 0 = [4 * a2 * a2, 24 * a2 * a3, 36 * a3 * a3].getD i 0 := by
  unfold sqr bent
  rcases trim4 a0 a1 a2 a3 with ⟨e, h⟩ | ⟨h3, e, h⟩ | ⟨h3, h2, e⟩ | ⟨h3, h2, h1, e⟩ | ⟨h3, h2, h1, h0, e⟩
  · rw [e, sl4, sl3, mul22]
    match i with
    | 0 => simp; grind
    | 1 => simp; grind
    | 2 => simp; grind
    | i + 3 => simp
  · rw [e, sl3, sl2, mul11, h3]
    match i with
    | 0 => simp; grind
    | 1 => simp
    | 2 => simp
    | i + 3 => simp
  · rw [e, sl2, sl1, mul00, h3, h2]
    match i with
    | 0 => simp
    | 1 => simp
    | 2 => simp
    | i + 3 => simp
  · rw [e, sl1, sl0, mul00, h3, h2]
    match i with
    | 0 => simp
    | 1 => simp
    | 2 => simp
    | i + 3 => simp
  · rw [e, sl0, sl0, mul00, h3, h2]
    match i with
    | 0 => simp
    | 1 => simp
    | 2 => simp
    | i + 3 => simp
theorem pat_ext {a b : List Rat} (h : ∀ i, a.getD i 0 = b.getD i 0) (x : Rat) : pat a x = pat b x := by
  rw [← pat_trim a, ← pat_trim b, trim_ext a b h]
theorem psum_getD (a : List Rat) (i : Nat) : (psum a).getD i 0 = if i = 0 then 0 else a.getD (i - 1) 0 * (1 / ((i : Nat) : Rat)) := by
  unfold psum
  rw [trim_getD]
  cases i with
  | zero => rfl
  | succ i =>
    rw [List.getD_cons_succ, if_neg (by omega)]
    by_cases h : i < a.length
    · rw [map_range_getD h]
      rfl
    · rw [getD_ge (by simp; omega), Nat.add_sub_cancel, getD_ge (by omega)]
      grind
theorem bend4 (a0 a1 a2 a3 l r : Rat) : bendP (trim [a0, a1, a2, a3]) l r = 4 * a2 * a2 * (r - l) + 12 * a2 * a3 * (r * r - l * l) + 12 * a3 * a3 * (r * r * r - l * l * l) := by
  have e : ∀ x, pat (psum (sqr (trim [a0, a1, a2, a3]))) x = pat [0, 4 * a2 * a2, 12 * a2 * a3, 12 * a3 * a3] x := fun x => pat_ext (fun i => by
    rw [psum_getD, sqr4]
    match i with
    | 0 => simp
    | 1 => simp; grind
    | 2 => simp; grind
    | 3 => simp; grind
    | i + 4 => simp) x
  unfold bendP
  rw [e, e]
  simp only [pat]
  grind
theorem law4 (a0 a1 a2 a3 l r : Rat) : lawI (trim [a0, a1, a2, a3]) l r = 4 * a2 * a2 * (r - l) + 12 * a2 * a3 * (r * r - l * l) + 12 * a3 * a3 * (r * r * r - l * l * l) := by
  unfold lawI
  rw [trim_ext (sqr (trim [a0, a1, a2, a3])) [4 * a2 * a2, 24 * a2 * a3, 36 * a3 * a3] (sqr4 a0 a1 a2 a3), tot_trim]
  simp only [totN, List.length_cons, List.length_nil]
  simp
  grind
theorem slope4 (a0 a1 a2 a3 x : Rat) : pat (pslope (trim [a0, a1, a2, a3])) x = a1 + 2 * a2 * x + 3 * a3 * x * x := by
  rcases trim4 a0 a1 a2 a3 with ⟨e, h⟩ | ⟨h3, e, h⟩ | ⟨h3, h2, e⟩ | ⟨h3, h2, h1, e⟩ | ⟨h3, h2, h1, h0, e⟩
  · rw [e, sl4]
    simp only [pat]
    grind
  · rw [e, sl3]
    simp only [pat]
    grind
  · rw [e, sl2]
    simp only [pat]
    grind
  · rw [e, sl1]
    simp only [pat]
    grind
  · rw [e, sl0]
    simp only [pat]
    grind

/-! ### the cubic -/
theorem herm_eq {l r d0 s0 d1 s1 : Rat} (h : l ≠ r) : ∃ a0 a1 : Rat, ∃ c2 c3 : Rat, c2 = ((d1 - d0) / (r - l) - s0) / (r - l) ∧ c3 = ((s1 - (d1 - d0) / (r - l)) / (r - l) - ((d1 - d0) / (r - l) - s0) / (r - l)) / (r - l) ∧
    a1 = s0 - c2 * l - c2 * l + c3 * l * l + c3 * l * r + c3 * l * r ∧ herm l r d0 s0 d1 s1 = trim [a0, a1, c2 - c3 * l - c3 * l - c3 * r, c3] := by
  refine ⟨?_, _, _, _, rfl, rfl, rfl, ?_⟩
  rotate_left
  · unfold herm
    rw [tab_four h, fnd_four]
theorem herm_len {l r d0 s0 d1 s1 : Rat} (h : l ≠ r) : (herm l r d0 s0 d1 s1).length ≤ 4 := by
  obtain ⟨a0, a1, c2, c3, _, _, _, e⟩ := herm_eq (d0 := d0) (s0 := s0) (d1 := d1) (s1 := s1) h
  rw [e]
  exact trim_len _
theorem herm_last {l r d0 s0 d1 s1 : Rat} (h : l ≠ r) : herm l r d0 s0 d1 s1 = [] ∨ (herm l r d0 s0 d1 s1).getLast? ≠ some 0 := by
  obtain ⟨a0, a1, c2, c3, _, _, _, e⟩ := herm_eq (d0 := d0) (s0 := s0) (d1 := d1) (s1 := s1) h
  rw [e]
  exact trim_last _
theorem herm_low {l r d0 s0 d1 s1 : Rat} (h : l ≠ r) : pat (pslope (herm l r d0 s0 d1 s1)) l = s0 := by
  obtain ⟨a0, a1, c2, c3, e2, e3, e1, e⟩ := herm_eq (d0 := d0) (s0 := s0) (d1 := d1) (s1 := s1) h
  rw [e, slope4]
  grind
theorem herm_high {l r d0 s0 d1 s1 : Rat} (h : l ≠ r) : pat (pslope (herm l r d0 s0 d1 s1)) r = s1 := by
  obtain ⟨a0, a1, c2, c3, e2, e3, e1, e⟩ := herm_eq (d0 := d0) (s0 := s0) (d1 := d1) (s1 := s1) h
  rw [e, slope4]
  have hg : r - l ≠ 0 := by grind
  generalize hg2 : r - l = g at *
  have : r = l + g := by grind
  subst this
  grind
/-- how much one piece bends -/
def qf (p dl u v : Rat) : Rat := 4 * p * (u * u + u * v + v * v - 3 * dl * (u + v) + 3 * dl * dl)
theorem herm_bend {l r d0 s0 d1 s1 : Rat} (h : l ≠ r) : bendP (herm l r d0 s0 d1 s1) l r = qf (1 / (r - l)) ((d1 - d0) * (1 / (r - l))) s0 s1 := by
  obtain ⟨a0, a1, c2, c3, e2, e3, e1, e⟩ := herm_eq (d0 := d0) (s0 := s0) (d1 := d1) (s1 := s1) h
  rw [e, bend4]
  have hg : r - l ≠ 0 := by grind
  generalize hg2 : r - l = g at *
  have : r = l + g := by grind
  subst this
  unfold qf
  generalize hp : 1 / g = p at *
  have hpg : p * g = 1 := by grind
  have e2' : c2 = ((d1 - d0) * p - s0) * p := by grind
  have e3' : c3 = ((s1 - (d1 - d0) * p) * p - ((d1 - d0) * p - s0) * p) * p := by grind
  clear e2 e3 e1 e
  generalize hdl : (d1 - d0) * p = dl at *
  grind
theorem herm_law {l r d0 s0 d1 s1 : Rat} (h : l ≠ r) : lawI (herm l r d0 s0 d1 s1) l r = bendP (herm l r d0 s0 d1 s1) l r := by
  obtain ⟨a0, a1, c2, c3, e2, e3, e1, e⟩ := herm_eq (d0 := d0) (s0 := s0) (d1 := d1) (s1 := s1) h
  rw [e, bend4, law4]
end BC
/-! BqD: the natural slopes bend least; the three-banded equations, solved. Plain Lean. -/
namespace BC

/-! ### squares -/
theorem sq_nn (a : Rat) : 0 ≤ a * a := by
  rcases Rat.le_total (a := 0) (b := a) with h | h
  · exact Rat.mul_nonneg h h
  · have h1 : 0 ≤ -a := by grind
    have h2 := Rat.mul_nonneg h1 h1
    have e : -a * -a = a * a := by grind
    rw [e] at h2
    exact h2
theorem sq_zero {a : Rat} (h : a * a = 0) : a = 0 := by
  rcases Rat.mul_eq_zero.mp h with h | h <;> exact h
theorem form_nn (u v : Rat) : 0 ≤ u * u + u * v + v * v := by
  have h1 := sq_nn (2 * u + v)
  have h2 := sq_nn v
  have e : (2 * u + v) * (2 * u + v) + 3 * (v * v) = 4 * (u * u + u * v + v * v) := by grind
  grind
theorem form_zero {u v : Rat} (h : u * u + u * v + v * v = 0) : u = 0 ∧ v = 0 := by
  have h1 := sq_nn (2 * u + v)
  have h2 := sq_nn v
  have e : (2 * u + v) * (2 * u + v) + 3 * (v * v) = 4 * (u * u + u * v + v * v) := by grind
  rw [h] at e
  have hv : v * v = 0 := by grind
  have v0 := sq_zero hv
  subst v0
  have hu : u * u = 0 := by grind
  exact ⟨sq_zero hu, rfl⟩
theorem tot_nn {f : Nat → Rat} : ∀ m, (∀ i, i < m → 0 ≤ f i) → 0 ≤ totN f m
  | 0, _ => Rat.le_refl
  | m + 1, h => by
    have h1 := tot_nn m fun i hi => h i (by omega)
    have h2 := h m (by omega)
    show 0 ≤ totN f m + f m
    grind
theorem tot_zero {f : Nat → Rat} : ∀ m, (∀ i, i < m → 0 ≤ f i) → totN f m = 0 → ∀ i, i < m → f i = 0
  | 0, _, _ => fun i hi => absurd hi (by omega)
  | m + 1, h, e => fun i hi => by
    have h1 := tot_nn m fun i hi => h i (by omega)
    have h2 := h m (by omega)
    have e' : totN f m + f m = 0 := e
    have e1 : totN f m = 0 := by grind
    have e2 : f m = 0 := by grind
    by_cases q : i = m
    · rw [q]
      exact e2
    · exact tot_zero m (fun i hi => h i (by omega)) e1 i (by omega)

/-! ### least bending -/
def bendS (p dl s : Nat → Rat) (m : Nat) : Rat := totN (fun i => qf (p i) (dl i) (s i) (s (i + 1))) m
structure NatEq (p dl t : Nat → Rat) (m : Nat) : Prop where
  low : p 0 * (2 * t 0 + t 1 - 3 * dl 0) = 0
  mid : ∀ i, i + 1 < m → p i * (t i + 2 * t (i + 1) - 3 * dl i) + p (i + 1) * (2 * t (i + 1) + t (i + 2) - 3 * dl (i + 1)) = 0
  high : p (m - 1) * (t (m - 1) + 2 * t (m - 1 + 1) - 3 * dl (m - 1)) = 0
def qe (p e f : Rat) : Rat := 4 * p * (e * e + e * f + f * f)
theorem bend_split {p dl s t : Nat → Rat} {m : Nat} (h : NatEq p dl t m) : ∀ k, k + 1 ≤ m → bendS p dl s (k + 1) = bendS p dl t (k + 1) + totN (fun i => qe (p i) (s i - t i) (s (i + 1) - t (i + 1))) (k + 1) + 4 * (s (k + 1) - t (k + 1)) * (p k * (t k + 2 * t (k + 1) - 3 * dl k))
  | 0, _ => by
    have := h.low
    simp only [bendS, totN, qf, qe]
    grind
  | k + 1, hk => by
    have ih := bend_split (s := s) h k (by omega)
    have hm := h.mid k (by omega)
    show bendS p dl s (k + 1) + qf _ _ _ _ = (bendS p dl t (k + 1) + qf _ _ _ _) + (totN _ (k + 1) + qe _ _ _) + _
    rw [ih]
    unfold qf qe
    generalize bendS p dl t (k + 1) = B
    generalize totN (fun i => 4 * p i * ((s i - t i) * (s i - t i) + (s i - t i) * (s (i + 1) - t (i + 1)) + (s (i + 1) - t (i + 1)) * (s (i + 1) - t (i + 1)))) (k + 1) = T
    have e0 : k + 1 + 1 = k + 2 := rfl
    rw [e0]
    generalize p k = p0 at *
    generalize p (k + 1) = p1 at *
    generalize s (k + 1) = s1 at *
    generalize s (k + 2) = s2 at *
    generalize t k = t0 at *
    generalize t (k + 1) = t1 at *
    generalize t (k + 2) = t2 at *
    generalize dl k = d0 at *
    generalize dl (k + 1) = d1 at *
    grind
theorem bend_eq {p dl s t : Nat → Rat} {m : Nat} (h : NatEq p dl t m) (hm : 0 < m) : bendS p dl s m = bendS p dl t m + totN (fun i => qe (p i) (s i - t i) (s (i + 1) - t (i + 1))) m := by
  cases m with
  | zero => omega
  | succ k =>
    have e := bend_split (s := s) h k (Nat.le_refl _)
    have hh := h.high
    rw [Nat.add_sub_cancel] at hh
    rw [e, hh]
    grind
theorem bend_le {p dl s t : Nat → Rat} {m : Nat} (h : NatEq p dl t m) (hm : 0 < m) (hp : ∀ i, i < m → 0 < p i) : bendS p dl t m ≤ bendS p dl s m := by
  rw [bend_eq (s := s) h hm]
  have := tot_nn (f := fun i => qe (p i) (s i - t i) (s (i + 1) - t (i + 1))) m fun i hi => by
    have h1 := form_nn (s i - t i) (s (i + 1) - t (i + 1))
    have h2 : 0 ≤ 4 * p i := by
      have := hp i hi
      grind
    exact Rat.mul_nonneg h2 h1
  grind
theorem bend_only {p dl s t : Nat → Rat} {m : Nat} (h : NatEq p dl t m) (hm : 0 < m) (hp : ∀ i, i < m → 0 < p i) (e : bendS p dl s m = bendS p dl t m) : ∀ i, i ≤ m → s i = t i := by
  rw [bend_eq (s := s) h hm] at e
  have nn : ∀ i, i < m → 0 ≤ (fun i => qe (p i) (s i - t i) (s (i + 1) - t (i + 1))) i := fun i hi => by
    have h1 := form_nn (s i - t i) (s (i + 1) - t (i + 1))
    have h2 : 0 ≤ 4 * p i := by
      have := hp i hi
      grind
    exact Rat.mul_nonneg h2 h1
  have z : totN (fun i => qe (p i) (s i - t i) (s (i + 1) - t (i + 1))) m = 0 := by grind
  have zz : ∀ i, i < m → s i - t i = 0 ∧ s (i + 1) - t (i + 1) = 0 := fun i hi => by
    have h3 : qe (p i) (s i - t i) (s (i + 1) - t (i + 1)) = 0 := tot_zero m nn z i hi
    have h4 := hp i hi
    unfold qe at h3
    rcases Rat.mul_eq_zero.mp h3 with h5 | h5
    · exfalso
      grind
    · exact form_zero h5
  intro i hi
  by_cases q : i = m
  · have h6 := (zz (m - 1) (by omega)).2
    rw [show m - 1 + 1 = i by omega] at h6
    grind
  · have h6 := (zz i (by omega)).1
    grind
theorem bend_nn {p dl t : Nat → Rat} {m : Nat} (hp : ∀ i, i < m → 0 < p i) : 0 ≤ bendS p dl t m := tot_nn m fun i hi => by
  have h1 := form_nn (t i - dl i) (t (i + 1) - dl i)
  have h2 : 0 ≤ 4 * p i := by
    have := hp i hi
    grind
  have h3 := Rat.mul_nonneg h2 h1
  show 0 ≤ qf (p i) (dl i) (t i) (t (i + 1))
  have e : qf (p i) (dl i) (t i) (t (i + 1)) = 4 * p i * ((t i - dl i) * (t i - dl i) + (t i - dl i) * (t (i + 1) - dl i) + (t (i + 1) - dl i) * (t (i + 1) - dl i)) := by
    unfold qf
    grind
  rw [e]
  exact h3

/-! ### the three-banded equations -/
section
variable (n : Nat) (p r : Nat → Rat)
def bd (i : Nat) : Rat := (if 0 < i then 2 * p (i - 1) else 0) + (if i + 1 < n then 2 * p i else 0)
def PP : Nat → Rat
  | 0 => bd n p 0
  | k + 1 => bd n p (k + 1) - p k / PP k * p k
def RR : Nat → Rat
  | 0 => r 0
  | k + 1 => r (k + 1) - p k / PP n p k * RR k
/-- the equations as given; column n is the right side -/
def A0 (i j : Nat) : Rat := if j = n then r i else if j + 1 = i then p j else if j = i then bd n p i else if j = i + 1 then p i else 0
/-- behind the turns ahead of k: the first rows, up to k, are done -/
def AA (k i j : Nat) : Rat := if i ≤ k then (if j = n then RR n p r i else if j = i then PP n p i else if j = i + 1 then p i else 0) else A0 n p r i j
/-- the answers, from the last -/
def XR : Nat → Rat
  | 0 => RR n p r (n - 1) / PP n p (n - 1)
  | t + 1 => (RR n p r (n - 1 - (t + 1)) - p (n - 1 - (t + 1)) * XR t) / PP n p (n - 1 - (t + 1))
def XX (i : Nat) : Rat := XR n p r (n - 1 - i)
/-- what is left of row i when m answers are taken away -/
def LL (i m : Nat) : Rat := if i + 1 < n ∧ n - 1 - i ≤ m then RR n p r i - p i * XX n p r (i + 1) else RR n p r i
end
section
variable {n : Nat} {p r : Nat → Rat}
theorem XX_last (h : 0 < n) : XX n p r (n - 1) = RR n p r (n - 1) / PP n p (n - 1) := by
  unfold XX
  rw [Nat.sub_self]
  rfl
theorem XX_step {i : Nat} (h : i + 1 < n) : XX n p r i = (RR n p r i - p i * XX n p r (i + 1)) / PP n p i := by
  unfold XX
  obtain ⟨t, ht⟩ : ∃ t, n - 1 - i = t + 1 := ⟨n - 1 - i - 1, by omega⟩
  have e2 : n - 1 - (i + 1) = t := by omega
  rw [ht, e2]
  show (RR n p r (n - 1 - (t + 1)) - p (n - 1 - (t + 1)) * XR n p r t) / PP n p (n - 1 - (t + 1)) = _
  rw [show n - 1 - (t + 1) = i by omega]
theorem LL_zero {i : Nat} (hi : i < n) : LL n p r i 0 = AA n p r n i n := by
  unfold LL AA
  rw [if_neg (by omega), if_pos (by omega), if_pos rfl]
theorem LL_step {i m : Nat} (hi : i < n) (hm : m < n - 1 - i) : LL n p r i (m + 1) = LL n p r i m - AA n p r n i (n - 1 - m) * XX n p r (n - 1 - m) := by
  unfold LL AA
  by_cases e : n - 1 - i ≤ m + 1
  · have e1 : n - 1 - m = i + 1 := by omega
    rw [if_pos ⟨by omega, e⟩, if_neg (by omega), if_pos (by omega), if_neg (by omega), if_neg (by omega), if_pos (by omega), e1]
  · rw [if_neg (by omega), if_neg (by omega), if_pos (by omega), if_neg (by omega), if_neg (by omega), if_neg (by omega)]
    grind
theorem LL_end {i : Nat} (hi : i < n) : XX n p r i = LL n p r i (n - 1 - i) / AA n p r n i i := by
  have e0 : AA n p r n i i = PP n p i := by
    unfold AA
    rw [if_pos (show i ≤ n by omega), if_neg (show ¬ i = n by omega), if_pos rfl]
  rw [e0]
  unfold LL
  by_cases e : i + 1 < n
  · rw [if_pos ⟨e, Nat.le_refl _⟩, XX_step e]
  · rw [if_neg (by omega)]
    have e1 : i = n - 1 := by omega
    rw [e1, XX_last (by omega)]
theorem AA_zero {i j : Nat} (hj : j ≤ n) : AA n p r 0 i j = A0 n p r i j := by
  unfold AA
  by_cases e : i ≤ 0
  · have : i = 0 := by omega
    subst this
    rw [if_pos e]
    unfold A0
    by_cases h1 : j = n
    · rw [if_pos h1, if_pos h1]
      rfl
    · rw [if_neg h1, if_neg h1, if_neg (show ¬ j + 1 = 0 by omega)]
      rfl
  · rw [if_neg e]
theorem AA_same {k i j : Nat} (h : i ≤ k) : AA n p r (k + 1) i j = AA n p r k i j := by
  unfold AA
  rw [if_pos h, if_pos (by omega)]
theorem AA_piv {k : Nat} (h : k < n) : AA n p r k k k = PP n p k := by
  unfold AA
  rw [if_pos (Nat.le_refl _), if_neg (by omega), if_pos rfl]
theorem AA_col {k i : Nat} (h : k < n) (hi : k < i) : AA n p r k i k = if i = k + 1 then p k else 0 := by
  unfold AA A0
  rw [if_neg (by omega), if_neg (by omega)]
  by_cases e : i = k + 1
  · rw [if_pos e, if_pos e.symm]
  · rw [if_neg e, if_neg (by omega), if_neg (by omega), if_neg (by omega)]
theorem AA_keep {k i j : Nat} (h : k < n) (hi : k < i) (h0 : AA n p r k i k = 0) (hp : p k ≠ 0) : AA n p r (k + 1) i j = AA n p r k i j := by
  rw [AA_col h hi] at h0
  by_cases e : i = k + 1
  · rw [if_pos e] at h0
    exact absurd h0 hp
  · unfold AA
    rw [if_neg (by omega), if_neg (by omega)]
theorem AA_step {k i j : Nat} (h : k < n) (hi : k < i) (hin : i < n) (h0 : AA n p r k i k ≠ 0) (hP : PP n p k ≠ 0) : AA n p r (k + 1) i j = AA n p r k i j - AA n p r k i k / AA n p r k k k * AA n p r k k j := by
  rw [AA_piv h, AA_col h hi] at *
  by_cases e : i = k + 1
  · subst e
    rw [if_pos rfl]
    unfold AA A0
    rw [if_pos (Nat.le_refl _), if_neg (show ¬ k + 1 ≤ k by omega), if_pos (Nat.le_refl _)]
    by_cases h1 : j = n
    · rw [if_pos h1, if_pos h1, if_pos h1]
      rfl
    · rw [if_neg h1, if_neg h1, if_neg h1]
      by_cases h2 : j = k
      · subst h2
        rw [if_neg (by omega), if_neg (by omega), if_pos rfl, if_pos rfl]
        grind
      · by_cases h3 : j = k + 1
        · subst h3
          rw [if_pos rfl, if_neg (by omega), if_pos rfl, if_neg (by omega), if_pos rfl]
          rfl
        · by_cases h4 : j = k + 1 + 1
          · subst h4
            rw [if_neg h3, if_pos rfl, if_neg (by omega), if_neg h3, if_neg h2, if_neg h3]
            grind
          · rw [if_neg h3, if_neg h4, if_neg (by omega), if_neg h3, if_neg h2, if_neg h3]
            grind
  · rw [if_neg e] at h0
    exact absurd rfl h0
/-- the answers answer -/
theorem XX_row {i : Nat} (hP : ∀ k, k < n → PP n p k ≠ 0) (hi : i < n) : (if 0 < i then p (i - 1) * XX n p r (i - 1) else 0) + bd n p i * XX n p r i + (if i + 1 < n then p i * XX n p r (i + 1) else 0) = r i := by
  have key : ∀ k, k < n → PP n p k * XX n p r k + (if k + 1 < n then p k * XX n p r (k + 1) else 0) = RR n p r k := fun k hk => by
    have h1 := hP k hk
    by_cases e : k + 1 < n
    · rw [if_pos e, XX_step e]
      grind
    · rw [if_neg e]
      have e1 : k = n - 1 := by omega
      rw [e1] at h1 ⊢
      rw [XX_last (by omega)]
      grind
  cases i with
  | zero =>
    have h1 := key 0 hi
    rw [if_neg (by omega)]
    have e1 : PP n p 0 = bd n p 0 := rfl
    have e2 : RR n p r 0 = r 0 := rfl
    rw [e1, e2] at h1
    grind
  | succ k =>
    have h1 := key (k + 1) hi
    have h2 := key k (by omega)
    have h3 := hP k (by omega)
    rw [if_pos (show k + 1 < n by omega)] at h2
    rw [if_pos (by omega), Nat.add_sub_cancel]
    have e1 : PP n p (k + 1) = bd n p (k + 1) - p k / PP n p k * p k := rfl
    have e2 : RR n p r (k + 1) = r (k + 1) - p k / PP n p k * RR n p r k := rfl
    rw [e1, e2] at h1
    generalize (if k + 1 + 1 < n then p (k + 1) * XX n p r (k + 1 + 1) else 0) = z at *
    generalize hq : p k / PP n p k = q at *
    have hq2 : q * PP n p k = p k := by grind
    generalize XX n p r (k + 1) = x1 at *
    generalize XX n p r k = x0 at *
    generalize bd n p (k + 1) = b at *
    generalize RR n p r k = R at *
    generalize PP n p k = P at *
    grind
end
end BC
/-! BqE: how great the numbers of the three-banded equations are. Plain Lean. -/
namespace BC
structure Tri (n : Nat) (p r : Nat → Rat) (a : Nat → Nat) : Prop where
  n2 : 2 ≤ n
  n5 : n ≤ 5
  lo : ∀ i, i + 1 < n → 1 ≤ a i
  hi : ∀ i, i + 1 < n → a i ≤ 300
  hp : ∀ i, i + 1 < n → p i = (a i : Rat) * (1 / 60)
  hr : ∀ i, i < n → Gd 1 7 (r i)
section
variable (n : Nat) (a : Nat → Nat)
/-- 60 times the diagonal -/
def bz (i : Nat) : Int := (if 0 < i then 2 * (a (i - 1) : Int) else 0) + (if i + 1 < n then 2 * (a i : Int) else 0)
/-- the leading determinants, 60 to the power of their size times -/
def DD : Nat → Int
  | 0 => 1
  | 1 => bz n a 0
  | k + 2 => bz n a (k + 1) * DD (k + 1) - (a k : Int) * (a k : Int) * DD k
def Dn (k : Nat) : Nat := (DD n a k).toNat
def WW : Nat → Nat
  | 0 => 1
  | t + 1 => WW t * Dn n a (n - t)
end
section
variable {n : Nat} {p r : Nat → Rat} {a : Nat → Nat}
theorem bz_mid (h : Tri n p r a) {k : Nat} (hk : k + 1 < n) : 2 * (a k : Int) ≤ bz n a k ∧ bz n a k ≤ 1200 := by
  have h1 := h.hi k hk
  unfold bz
  rw [if_pos hk]
  by_cases e : 0 < k
  · rw [if_pos e]
    have h2 := h.hi (k - 1) (by omega)
    omega
  · rw [if_neg e]
    omega
theorem DD_grow (h : Tri n p r a) : ∀ k, k + 1 < n → 0 < DD n a k ∧ 2 * (a k : Int) * DD n a k ≤ DD n a (k + 1)
  | 0, hk => by
    refine ⟨(by decide : (0 : Int) < 1), ?_⟩
    show 2 * (a 0 : Int) * 1 ≤ bz n a 0
    have := (bz_mid h hk).1
    omega
  | k + 1, hk => by
    obtain ⟨h1, h2⟩ := DD_grow h k (by omega)
    have ha := h.lo k (by omega)
    have ha1 := h.lo (k + 1) hk
    have hpos : 0 < DD n a (k + 1) := by
      have : 0 < 2 * (a k : Int) * DD n a k := Int.mul_pos (by omega) h1
      omega
    refine ⟨hpos, ?_⟩
    show _ ≤ bz n a (k + 1) * DD n a (k + 1) - (a k : Int) * (a k : Int) * DD n a k
    have e : bz n a (k + 1) = 2 * (a k : Int) + 2 * (a (k + 1) : Int) := by
      unfold bz
      rw [if_pos (by omega), if_pos hk]
      rfl
    rw [e]
    have h3 : (a k : Int) * (2 * (a k : Int) * DD n a k) ≤ (a k : Int) * DD n a (k + 1) := Int.mul_le_mul_of_nonneg_left h2 (by omega)
    have h4 : 0 ≤ (a k : Int) * DD n a (k + 1) := Int.mul_nonneg (by omega) (by omega)
    have h5 : 0 ≤ (a k : Int) * ((a k : Int) * DD n a k) := Int.mul_nonneg (by omega) (Int.mul_nonneg (by omega) (by omega))
    have e5 : (a k : Int) * (2 * (a k : Int) * DD n a k) = 2 * ((a k : Int) * ((a k : Int) * DD n a k)) := by grind
    have e6 : (2 * (a k : Int) + 2 * (a (k + 1) : Int)) * DD n a (k + 1) = 2 * ((a k : Int) * DD n a (k + 1)) + 2 * (a (k + 1) : Int) * DD n a (k + 1) := by grind
    have e7 : (a k : Int) * (a k : Int) * DD n a k = (a k : Int) * ((a k : Int) * DD n a k) := by grind
    rw [e6, e7]
    omega
theorem DD_last (h : Tri n p r a) : 0 < DD n a n ∧ DD n a n ≤ 1200 * DD n a (n - 1) := by
  have n2 := h.n2
  obtain ⟨m, rfl⟩ : ∃ m, n = m + 2 := ⟨n - 2, by omega⟩
  obtain ⟨h1, h2⟩ := DD_grow h m (by omega)
  have ha := h.lo m (by omega)
  have hb := h.hi m (by omega)
  have hpos : 0 < DD (m + 2) a (m + 1) := by
    have : 0 < 2 * (a m : Int) * DD (m + 2) a m := Int.mul_pos (by omega) h1
    omega
  have e : bz (m + 2) a (m + 1) = 2 * (a m : Int) := by
    unfold bz
    rw [if_pos (by omega), if_neg (by omega)]
    simp
  have ed : DD (m + 2) a (m + 2) = bz (m + 2) a (m + 1) * DD (m + 2) a (m + 1) - (a m : Int) * (a m : Int) * DD (m + 2) a m := rfl
  rw [show m + 2 - 1 = m + 1 from rfl, ed, e]
  have h3 : (a m : Int) * (2 * (a m : Int) * DD (m + 2) a m) ≤ (a m : Int) * DD (m + 2) a (m + 1) := Int.mul_le_mul_of_nonneg_left h2 (by omega)
  have h4 : 0 < (a m : Int) * DD (m + 2) a (m + 1) := Int.mul_pos (by omega) hpos
  have h5 : 0 ≤ (a m : Int) * ((a m : Int) * DD (m + 2) a m) := Int.mul_nonneg (by omega) (Int.mul_nonneg (by omega) (by omega))
  have e5 : (a m : Int) * (2 * (a m : Int) * DD (m + 2) a m) = 2 * ((a m : Int) * ((a m : Int) * DD (m + 2) a m)) := by grind
  have e6 : 2 * (a m : Int) * DD (m + 2) a (m + 1) = 2 * ((a m : Int) * DD (m + 2) a (m + 1)) := by grind
  have e7 : (a m : Int) * (a m : Int) * DD (m + 2) a m = (a m : Int) * ((a m : Int) * DD (m + 2) a m) := by grind
  have h8 : (a m : Int) * DD (m + 2) a (m + 1) ≤ 300 * DD (m + 2) a (m + 1) := Int.mul_le_mul_of_nonneg_right (by omega) (by omega)
  rw [e6, e7]
  omega
theorem DD_pos (h : Tri n p r a) {k : Nat} (hk : k ≤ n) : 0 < DD n a k := by
  have n2 := h.n2
  by_cases e : k + 1 < n
  · exact (DD_grow h k e).1
  · by_cases e2 : k = n
    · rw [e2]
      exact (DD_last h).1
    · have e3 : k = (n - 2) + 1 := by omega
      obtain ⟨h1, h2⟩ := DD_grow h (n - 2) (by omega)
      have ha := h.lo (n - 2) (by omega)
      rw [e3]
      have : 0 < 2 * (a (n - 2) : Int) * DD n a (n - 2) := Int.mul_pos (by omega) h1
      omega
theorem DD_up (h : Tri n p r a) {k : Nat} (hk : k < n) : DD n a (k + 1) ≤ 1200 * DD n a k := by
  have n2 := h.n2
  by_cases e : k + 1 < n
  · have hb := (bz_mid h e).2
    have h0 := DD_pos h (k := k) (by omega)
    cases k with
    | zero =>
      show bz n a 0 ≤ 1200 * 1
      omega
    | succ k =>
      show bz n a (k + 1) * DD n a (k + 1) - (a k : Int) * (a k : Int) * DD n a k ≤ _
      have h1 := DD_pos h (k := k) (by omega)
      have h2 : bz n a (k + 1) * DD n a (k + 1) ≤ 1200 * DD n a (k + 1) := Int.mul_le_mul_of_nonneg_right hb (by omega)
      have h3 : 0 ≤ (a k : Int) * (a k : Int) * DD n a k := Int.mul_nonneg (Int.mul_nonneg (by omega) (by omega)) (by omega)
      omega
  · have h1 := (DD_last h).2
    have e2 : n = k + 1 := by omega
    subst e2
    exact h1
theorem DD_le (h : Tri n p r a) : ∀ k, k ≤ n → DD n a k ≤ 1200 ^ k
  | 0, _ => (by decide : (1 : Int) ≤ 1200 ^ 0)
  | k + 1, hk => by
    have h1 := DD_le h k (by omega)
    have h2 := DD_up h (k := k) (by omega)
    have e : (1200 : Int) ^ (k + 1) = 1200 * 1200 ^ k := by
      rw [Int.pow_succ]
      grind
    omega
theorem Dn_pos (h : Tri n p r a) {k : Nat} (hk : k ≤ n) : 0 < Dn n a k := by
  have := DD_pos h hk
  unfold Dn
  omega
theorem Dn_int (h : Tri n p r a) {k : Nat} (hk : k ≤ n) : ((Dn n a k : Nat) : Int) = DD n a k := by
  have := DD_pos h hk
  unfold Dn
  omega
theorem Dn_rat (h : Tri n p r a) {k : Nat} (hk : k ≤ n) : ((Dn n a k : Nat) : Rat) = (DD n a k : Rat) := by
  rw [← Dn_int h hk]
  rfl
theorem Dn_le (h : Tri n p r a) {k : Nat} (hk : k ≤ n) : Dn n a k ≤ 1200 ^ k := by
  have h1 := DD_le h k hk
  have h2 := Dn_int h hk
  have h3 : ((1200 ^ k : Nat) : Int) = (1200 : Int) ^ k := by simp
  omega
theorem DD_gd (h : Tri n p r a) {k : Nat} (hk : k ≤ n) : Gd 1 (2 * k) ((DD n a k : Int) : Rat) := by
  refine gd_int ?_
  have h1 := Dn_le h hk
  have h2 := Dn_int h hk
  have e : (60 : Nat) ^ (2 * k) = 3600 ^ k := by rw [Nat.pow_mul]
  rw [e]
  have h3 : (1200 : Nat) ^ k ≤ 3600 ^ k := Nat.pow_le_pow_left (by decide) k
  omega
theorem WW_pos (h : Tri n p r a) : ∀ t, 0 < WW n a t
  | 0 => (by decide : 0 < 1)
  | t + 1 => Nat.mul_pos (WW_pos h t) (Dn_pos h (by omega))
theorem WW_dvd (t : Nat) : ∀ s, WW n a t ∣ WW n a (t + s)
  | 0 => Nat.dvd_refl _
  | s + 1 => Nat.dvd_trans (WW_dvd t s) (Nat.dvd_mul_right _ _)
theorem WW_all (t : Nat) (h : t ≤ n) : WW n a t ∣ WW n a n := by
  have := WW_dvd (n := n) (a := a) t (n - t)
  rw [show t + (n - t) = n by omega] at this
  exact this
theorem Dn_dvd {k : Nat} (hk : k ≤ n) : Dn n a k ∣ WW n a n := by
  by_cases e : k = 0
  · subst e
    exact Nat.one_dvd _
  · have h1 : Dn n a k ∣ WW n a (n - k + 1) := by
      show Dn n a k ∣ WW n a (n - k) * Dn n a (n - (n - k))
      rw [show n - (n - k) = k by omega]
      exact Nat.dvd_mul_left _ _
    exact Nat.dvd_trans h1 (WW_all _ (by omega))
theorem WW_le (h : Tri n p r a) : WW n a n ≤ 2 ^ 154 := by
  have n5 := h.n5
  have n2 := h.n2
  have d1 := Dn_le h (k := 1) (by omega)
  have d2 := Dn_le h (k := 2) (by omega)
  have le1 : (1 : Nat) ≤ 1 := Nat.le_refl _
  by_cases e2 : n = 2
  · subst e2
    show (1 * Dn 2 a 2) * Dn 2 a 1 ≤ _
    exact Nat.le_trans (Nat.mul_le_mul (Nat.mul_le_mul le1 d2) d1) (by decide +kernel)
  have d3 := Dn_le h (k := 3) (by omega)
  by_cases e3 : n = 3
  · subst e3
    show ((1 * Dn 3 a 3) * Dn 3 a 2) * Dn 3 a 1 ≤ _
    exact Nat.le_trans (Nat.mul_le_mul (Nat.mul_le_mul (Nat.mul_le_mul le1 d3) d2) d1) (by decide +kernel)
  have d4 := Dn_le h (k := 4) (by omega)
  by_cases e4 : n = 4
  · subst e4
    show (((1 * Dn 4 a 4) * Dn 4 a 3) * Dn 4 a 2) * Dn 4 a 1 ≤ _
    exact Nat.le_trans (Nat.mul_le_mul (Nat.mul_le_mul (Nat.mul_le_mul (Nat.mul_le_mul le1 d4) d3) d2) d1) (by decide +kernel)
  have e5 : n = 5 := by omega
  subst e5
  have d5 := Dn_le h (k := 5) (by omega)
  show ((((1 * Dn 5 a 5) * Dn 5 a 4) * Dn 5 a 3) * Dn 5 a 2) * Dn 5 a 1 ≤ _
  exact Nat.le_trans (Nat.mul_le_mul (Nat.mul_le_mul (Nat.mul_le_mul (Nat.mul_le_mul (Nat.mul_le_mul le1 d5) d4) d3) d2) d1) (by decide +kernel)

/-! ### pivots, right sides, answers -/
theorem ne_of_pos {q : Rat} (h : 0 < q) : q ≠ 0 := by grind
theorem DDr_pos (h : Tri n p r a) {k : Nat} (hk : k ≤ n) : (0 : Rat) < (DD n a k : Rat) := Rat.intCast_pos.mpr (DD_pos h hk)
theorem bd_eq (h : Tri n p r a) {k : Nat} (hk : k < n) : bd n p k * 60 = ((bz n a k : Int) : Rat) := by
  have n2 := h.n2
  unfold bd bz
  by_cases e1 : 0 < k
  · have h1 := h.hp (k - 1) (by omega)
    by_cases e2 : k + 1 < n
    · have h2 := h.hp k e2
      rw [if_pos e1, if_pos e2, if_pos e1, if_pos e2, h1, h2]
      push_cast
      grind
    · rw [if_pos e1, if_neg e2, if_pos e1, if_neg e2, h1]
      push_cast
      grind
  · have h2 := h.hp k (by omega)
    rw [if_neg e1, if_pos (by omega), if_neg e1, if_pos (by omega), h2]
    push_cast
    grind
theorem PP_eq (h : Tri n p r a) : ∀ k, k < n → PP n p k = (DD n a (k + 1) : Rat) * (1 / 60) * (1 / (DD n a k : Rat))
  | 0, hk => by
    have h1 := bd_eq h hk
    show bd n p 0 = (bz n a 0 : Rat) * (1 / 60) * (1 / ((1 : Int) : Rat))
    rw [← h1]
    have e : (1 : Rat) / ((1 : Int) : Rat) = 1 := by
      rw [Rat.intCast_one]
      grind
    rw [e]
    grind
  | k + 1, hk => by
    have ih := PP_eq h k (by omega)
    have h1 := bd_eq h hk
    have h2 := h.hp k hk
    have p0 := DDr_pos h (k := k) (by omega)
    have p1 := DDr_pos h (k := k + 1) (by omega)
    show bd n p (k + 1) - p k / PP n p k * p k = ((bz n a (k + 1) * DD n a (k + 1) - (a k : Int) * (a k : Int) * DD n a k : Int) : Rat) * (1 / 60) * (1 / (DD n a (k + 1) : Rat))
    rw [ih, h2]
    have ec : ((a k : Int) : Rat) = (a k : Rat) := rfl
    rw [Rat.intCast_sub, Rat.intCast_mul, Rat.intCast_mul, Rat.intCast_mul, ec, ← h1]
    generalize (DD n a k : Rat) = D0 at *
    generalize (DD n a (k + 1) : Rat) = D1 at *
    generalize (a k : Rat) = x at *
    generalize bd n p (k + 1) = b at *
    have q0 := ne_of_pos p0
    have q1 := ne_of_pos p1
    clear ih h1 h2 p0 p1 ec
    grind
theorem PP_pos (h : Tri n p r a) {k : Nat} (hk : k < n) : 0 < PP n p k := by
  rw [PP_eq h k hk]
  have p0 := DDr_pos h (k := k) (by omega)
  have p1 := DDr_pos h (k := k + 1) (by omega)
  have e : (1 : Rat) / (DD n a k : Rat) = (DD n a k : Rat)⁻¹ := by rw [Rat.div_def, Rat.one_mul]
  have p2 : (0 : Rat) < 1 / (DD n a k : Rat) := by
    rw [e]
    exact Rat.inv_pos.mpr p0
  exact Rat.mul_pos (Rat.mul_pos p1 (by decide +kernel)) p2
theorem pp_pos (h : Tri n p r a) {k : Nat} (hk : k + 1 < n) : 0 < p k := by
  rw [h.hp k hk]
  have h1 := h.lo k hk
  exact Rat.mul_pos (Rat.natCast_pos.mpr (by omega)) (by decide +kernel)
theorem inv_gd (h : Tri n p r a) {k : Nat} (hk : k ≤ n) : Gd (Dn n a k) 0 (1 / (DD n a k : Rat)) := by
  have h1 := gd_inv (Dn_pos h hk)
  rw [Dn_rat h hk] at h1
  refine Gn.up h1 ?_ (by
    rw [Nat.pow_zero, Nat.mul_one]
    exact Dn_pos h hk)
  rw [Nat.pow_zero, Nat.mul_one]
  exact Nat.dvd_refl _
theorem g60 : Gd 1 1 (1 / 60) := gd_inv60 (k := 60) (by decide) (by decide)
theorem PP_gd (h : Tri n p r a) {k : Nat} (hk : k < n) : Gd (Dn n a k) (2 * k + 3) (PP n p k) := by
  rw [PP_eq h k hk]
  have h1 := ((DD_gd h (k := k + 1) (by omega)).mul1 g60).mul1' (inv_gd h (k := k) (by omega))
  exact h1.upe (by omega) (Dn_pos h (by omega))
theorem a_gd (h : Tri n p r a) {k : Nat} (hk : k + 1 < n) : Gd 1 2 (a k : Rat) := gd_nat (by
  have := h.hi k hk
  have e : (60 : Nat) ^ 2 = 3600 := rfl
  omega)
theorem p_gd (h : Tri n p r a) {k : Nat} (hk : k + 1 < n) : Gd 1 3 (p k) := by
  rw [h.hp k hk]
  exact (a_gd h hk).mul1 g60
/-- the part that a turn takes -/
theorem part_eq (h : Tri n p r a) {k : Nat} (hk : k + 1 < n) : p k / PP n p k = (a k : Rat) * (DD n a k : Rat) * (1 / (DD n a (k + 1) : Rat)) := by
  rw [PP_eq h k (by omega), h.hp k hk]
  have q0 := ne_of_pos (DDr_pos h (k := k) (by omega))
  have q1 := ne_of_pos (DDr_pos h (k := k + 1) (by omega))
  generalize (DD n a k : Rat) = D0 at *
  generalize (DD n a (k + 1) : Rat) = D1 at *
  generalize (a k : Rat) = x at *
  grind
theorem part_gd (h : Tri n p r a) {k : Nat} (hk : k + 1 < n) : Gd (Dn n a (k + 1)) (2 * k + 2) (p k / PP n p k) := by
  rw [part_eq h hk]
  have h1 := ((a_gd h hk).mul1 (DD_gd h (k := k) (by omega))).mul1' (inv_gd h (k := k + 1) (by omega))
  exact h1.upe (by omega) (Dn_pos h (by omega))
theorem TT_gd (h : Tri n p r a) : ∀ k, k < n → Gd 1 (7 + 3 * k) ((DD n a k : Rat) * RR n p r k)
  | 0, hk => by
    have h1 := h.hr 0 hk
    have e : (DD n a 0 : Rat) * RR n p r 0 = r 0 := by
      show ((1 : Int) : Rat) * r 0 = r 0
      rw [Rat.intCast_one, Rat.one_mul]
    rw [e]
    exact h1
  | k + 1, hk => by
    have ih := TT_gd h k (by omega)
    have h1 := h.hr (k + 1) hk
    have e : (DD n a (k + 1) : Rat) * RR n p r (k + 1) = (DD n a (k + 1) : Rat) * r (k + 1) - (a k : Rat) * ((DD n a k : Rat) * RR n p r k) := by
      show (DD n a (k + 1) : Rat) * (r (k + 1) - p k / PP n p k * RR n p r k) = _
      rw [part_eq h hk]
      have q1 := ne_of_pos (DDr_pos h (k := k + 1) (by omega))
      generalize (DD n a k : Rat) = D0 at *
      generalize (DD n a (k + 1) : Rat) = D1 at *
      generalize (a k : Rat) = x at *
      grind
    rw [e]
    have g1 := (DD_gd h (k := k + 1) (by omega)).mul1 h1
    have g2 := (a_gd h hk).mul1 ih
    exact ((g1.upe (e' := 9 + 3 * k) (by omega) (by decide)).sub (g2.upe (by omega) (by decide))).upe (by omega) (by decide)
theorem RR_gd (h : Tri n p r a) {k : Nat} (hk : k < n) : Gd (Dn n a k) (7 + 3 * k) (RR n p r k) := by
  have h1 := (TT_gd h k hk).mul1' (inv_gd h (k := k) (by omega))
  have q := ne_of_pos (DDr_pos h (k := k) (by omega))
  have e : (DD n a k : Rat) * RR n p r k * (1 / (DD n a k : Rat)) = RR n p r k := by
    generalize (DD n a k : Rat) = D0 at *
    grind
  rw [e] at h1
  exact h1
def ef : Nat → Nat
  | 0 => 20
  | t + 1 => ef t + (9 - 2 * t)
theorem ef_lo : ∀ t, 20 ≤ ef t
  | 0 => Nat.le_refl _
  | t + 1 => by
    have := ef_lo t
    show 20 ≤ ef t + (9 - 2 * t)
    omega
theorem XR_gd (h : Tri n p r a) : ∀ t, t < n → Gd (WW n a (t + 1)) (ef t) (XR n p r t)
  | 0, ht => by
    have n2 := h.n2
    have n5 := h.n5
    have e : XR n p r 0 = 60 * ((DD n a (n - 1) : Rat) * RR n p r (n - 1)) * (1 / (DD n a n : Rat)) := by
      show RR n p r (n - 1) / PP n p (n - 1) = _
      rw [PP_eq h (n - 1) (by omega), show n - 1 + 1 = n by omega]
      have q0 := ne_of_pos (DDr_pos h (k := n - 1) (by omega))
      have q1 := ne_of_pos (DDr_pos h (k := n) (by omega))
      generalize (DD n a (n - 1) : Rat) = D0 at *
      generalize (DD n a n : Rat) = D1 at *
      grind
    rw [e]
    have g6 : Gd 1 1 (60 : Rat) := gd_nat (n := 60) (by decide)
    have g1 := (g6.mul1 (TT_gd h (n - 1) (by omega))).mul1' (inv_gd h (k := n) (by omega))
    have ew : WW n a (0 + 1) = Dn n a n := by
      show 1 * Dn n a (n - 0) = Dn n a n
      rw [Nat.one_mul, Nat.sub_zero]
    rw [ew]
    exact g1.upe (by
      show _ ≤ 20
      omega) (Dn_pos h (by omega))
  | t + 1, ht => by
    have ih := XR_gd h t (by omega)
    have n5 := h.n5
    have el := ef_lo t
    have hk : n - 1 - (t + 1) + 1 < n := by omega
    have e : XR n p r (t + 1) = (60 * ((DD n a (n - 1 - (t + 1)) : Rat) * RR n p r (n - 1 - (t + 1))) - (a (n - 1 - (t + 1)) : Rat) * (DD n a (n - 1 - (t + 1)) : Rat) * XR n p r t) * (1 / (DD n a (n - 1 - (t + 1) + 1) : Rat)) := by
      show (RR n p r (n - 1 - (t + 1)) - p (n - 1 - (t + 1)) * XR n p r t) / PP n p (n - 1 - (t + 1)) = _
      rw [PP_eq h _ (by omega), h.hp _ hk]
      have q0 := ne_of_pos (DDr_pos h (k := n - 1 - (t + 1)) (by omega))
      have q1 := ne_of_pos (DDr_pos h (k := n - 1 - (t + 1) + 1) (by omega))
      generalize (DD n a (n - 1 - (t + 1)) : Rat) = D0 at *
      generalize (DD n a (n - 1 - (t + 1) + 1) : Rat) = D1 at *
      generalize RR n p r (n - 1 - (t + 1)) = R at *
      generalize XR n p r t = X at *
      generalize (a (n - 1 - (t + 1)) : Rat) = x at *
      grind
    rw [e]
    have g6 : Gd 1 1 (60 : Rat) := gd_nat (n := 60) (by decide)
    have w0 := WW_pos h (t + 1)
    have g1 := g6.mul1 (TT_gd h (n - 1 - (t + 1)) (by omega))
    have g2 := ((a_gd h hk).mul1 (DD_gd h (k := n - 1 - (t + 1)) (by omega))).mul1' ih
    have g3 := (g1.up1 (d := WW n a (t + 1)) (e' := ef t + (8 - 2 * t)) (by omega) w0).sub (g2.upe (by omega) w0)
    have g4 := g3.mul (inv_gd h (k := n - 1 - (t + 1) + 1) (by omega))
    have ew : WW n a (t + 1 + 1) = WW n a (t + 1) * Dn n a (n - 1 - (t + 1) + 1) := by
      show WW n a (t + 1) * Dn n a (n - (t + 1)) = _
      rw [show n - 1 - (t + 1) + 1 = n - (t + 1) by omega]
    rw [ew]
    exact g4.upe (by
      show _ ≤ ef t + (9 - 2 * t)
      omega) (by
      rw [← ew]
      exact WW_pos h _)
/-- the common divisor of all -/
def MM (n : Nat) (a : Nat → Nat) : Nat := WW n a n
theorem MM_pos (h : Tri n p r a) : 0 < MM n a := WW_pos h n
theorem ef_hi : ∀ t, t < 5 → ef t ≤ 44 := by decide
theorem XX_gd (h : Tri n p r a) {i : Nat} (hi : i < n) : Gd (MM n a) 44 (XX n p r i) := by
  have n5 := h.n5
  exact (XR_gd h (n - 1 - i) (by omega)).up (WW_all _ (by omega)) (ef_hi _ (by omega)) (MM_pos h)
end
end BC
/-! BqF: the equations of the natural slopes. Plain Lean. -/
namespace BC
section
variable {n : Nat} {p r : Nat → Rat} {a : Nat → Nat}
theorem bd_gd (h : Tri n p r a) {k : Nat} (hk : k < n) : Gd 1 5 (bd n p k) := by
  have two : Gd 1 1 (2 : Rat) := gd_nat (n := 2) (by decide)
  unfold bd
  have g : ∀ (c : Prop) [Decidable c] (i : Nat), (c → i + 1 < n) → Gd 1 4 (if c then 2 * p i else 0) := fun c _ i hc => by
    by_cases e : c
    · rw [if_pos e]
      exact (two.mul1 (p_gd h (hc e))).upe (by decide) (by decide)
    · rw [if_neg e]
      exact gd_zero (by decide)
  exact (g (0 < k) (k - 1) (by omega)).add (g (k + 1 < n) k (by omega))
theorem A0_gd (h : Tri n p r a) {i j : Nat} (hi : i < n) (hj : j ≤ n) : Gd 1 7 (A0 n p r i j) := by
  unfold A0
  split
  · exact h.hr i hi
  · split
    · exact (p_gd h (by omega)).upe (by decide) (by decide)
    · split
      · exact (bd_gd h hi).upe (by decide) (by decide)
      · split
        · exact (p_gd h (by omega)).upe (by decide) (by decide)
        · exact gd_zero (by decide)
theorem AA_gd (h : Tri n p r a) {k i j : Nat} (hi : i < n) (hj : j ≤ n) : Gd (MM n a) 19 (AA n p r k i j) := by
  have n5 := h.n5
  have m0 := MM_pos h
  unfold AA
  split
  · split
    · exact (RR_gd h hi).up (Dn_dvd (by omega)) (by omega) m0
    · split
      · exact (PP_gd h hi).up (Dn_dvd (by omega)) (by omega) m0
      · split
        · exact (p_gd h (by omega)).up1 (by decide) m0
        · exact gd_zero m0
  · exact (A0_gd h hi hj).up1 (by decide) m0
theorem LL_gd (h : Tri n p r a) {i m : Nat} (hi : i < n) : Gd (MM n a) 48 (LL n p r i m) := by
  have n5 := h.n5
  have m0 := MM_pos h
  have g1 : Gd (MM n a) 19 (RR n p r i) := (RR_gd h hi).up (Dn_dvd (by omega)) (by omega) m0
  unfold LL
  split
  · exact ((g1.upe (e' := 47) (by decide) m0).sub ((p_gd h (by omega)).mul1' (XX_gd h (i := i + 1) (by omega))))
  · exact g1.upe (by decide) m0
theorem col_gd (h : Tri n p r a) {k i : Nat} (hk : k < i) (hi : i < n) : Gd (MM n a) 10 (AA n p r k i k / AA n p r k k k) := by
  have n5 := h.n5
  have m0 := MM_pos h
  rw [AA_piv (by omega), AA_col (by omega) hk]
  split
  · exact (part_gd h (by omega)).up (Dn_dvd (by omega)) (by omega) m0
  · rw [show (0 : Rat) / PP n p k = 0 by grind]
    exact gd_zero m0
theorem AA_diag {i : Nat} (hi : i < n) : AA n p r n i i = PP n p i := by
  unfold AA
  rw [if_pos (by omega), if_neg (by omega), if_pos rfl]
/-! ### from places -/
/-- 1 over the gap -/
def pOf (xs : List Rat) (i : Nat) : Rat := 1 / (xs.getD (i + 1) 0 - xs.getD i 0)
def gOf (ys : List Rat) (i : Nat) : Rat := ys.getD (i + 1) 0 - ys.getD i 0
def dOf (xs ys : List Rat) (i : Nat) : Rat := gOf ys i * pOf xs i
/-- what a place gives to the right side -/
def wOf (xs ys : List Rat) (i : Nat) : Rat := 3 * (gOf ys i * (pOf xs i * pOf xs i))
def rOf (xs ys : List Rat) (i : Nat) : Rat := (if 0 < i then wOf xs ys (i - 1) else 0) + (if i + 1 < xs.length then wOf xs ys i else 0)
theorem nat_eq {xs ys : List Rat} {t : Nat → Rat} (two : 2 ≤ xs.length) (h : ∀ i, i < xs.length → (if 0 < i then pOf xs (i - 1) * t (i - 1) else 0) + bd xs.length (pOf xs) i * t i + (if i + 1 < xs.length then pOf xs i * t (i + 1) else 0) = rOf xs ys i) : NatEq (pOf xs) (dOf xs ys) t (xs.length - 1) := by
  refine ⟨?_, fun i hi => ?_, ?_⟩
  · have h0 := h 0 (by omega)
    unfold bd rOf at h0
    rw [if_neg (by omega), if_neg (by omega), if_pos (by omega), if_pos (by omega), if_neg (by omega), if_pos (by omega)] at h0
    unfold dOf
    unfold wOf at h0
    rw [show 0 + 1 = 1 from rfl] at h0
    grind
  · have h0 := h (i + 1) (by omega)
    unfold bd rOf at h0
    rw [if_pos (by omega), if_pos (by omega), if_pos (by omega), if_pos (by omega), if_pos (by omega), if_pos (by omega)] at h0
    rw [show i + 1 - 1 = i from rfl, show i + 1 + 1 = i + 2 from rfl] at h0
    unfold dOf
    unfold wOf at h0
    grind
  · have h0 := h (xs.length - 1) (by omega)
    unfold bd rOf at h0
    rw [if_pos (by omega), if_pos (by omega), if_neg (by omega), if_neg (by omega), if_pos (by omega), if_neg (by omega)] at h0
    have e : xs.length - 1 = xs.length - 1 - 1 + 1 := by omega
    rw [← e]
    unfold dOf
    unfold wOf at h0
    generalize t (xs.length - 1) = t1 at *
    grind
/-- a turn's adding to a row -/
def ad (p : Nat → Rat) (q : Nat) (c1 c2 : Rat) (f : Nat → Rat) (j : Nat) : Rat := if j = q then f j + p q * c1 else if j = q + 1 then f j + p q * c2 else f j
def row1 (p : Nat → Rat) (i : Nat) : Nat → Rat := if 0 < i then ad p (i - 1) 1 2 (fun _ => 0) else fun _ => 0
def row2 (n : Nat) (p : Nat → Rat) (i : Nat) : Nat → Rat := if i + 1 < n then ad p i 2 1 (row1 p i) else row1 p i
theorem row2_eq {i j : Nat} (hi : i < n) (hj : j < n) : row2 n p i j = A0 n p r i j := by
  unfold row2 row1 A0 bd
  rw [if_neg (show ¬ j = n by omega)]
  cases i with
  | zero =>
    rw [if_neg (Nat.lt_irrefl 0), if_neg (Nat.lt_irrefl 0), if_neg (by omega : ¬ j + 1 = 0)]
    unfold ad
    by_cases e2 : 0 + 1 < n
    · rw [if_pos e2, if_pos e2]
      grind
    · rw [if_neg e2, if_neg e2]
      grind
  | succ k =>
    rw [if_pos (Nat.succ_pos k), if_pos (Nat.succ_pos k), show k + 1 - 1 = k from rfl]
    unfold ad
    by_cases e2 : k + 1 + 1 < n
    · rw [if_pos e2, if_pos e2]
      grind
    · rw [if_neg e2, if_neg e2]
      grind
theorem ad_gd {q : Nat} {c1 c2 : Rat} {f : Nat → Rat} {e : Nat} (hp : Gd 1 1 (p q)) (h1 : Gd 1 1 c1) (h2 : Gd 1 1 c2) (he : 2 ≤ e) (hf : ∀ j, Gd 1 e (f j)) (j : Nat) : Gd 1 (e + 1) (ad p q c1 c2 f j) := by
  unfold ad
  split
  · exact (hf j).add ((hp.mul1 h1).upe he (by decide))
  · split
    · exact (hf j).add ((hp.mul1 h2).upe he (by decide))
    · exact (hf j).upe (by omega) (by decide)
end
end BC
/-! BqG: the rows of the natural slopes, turn by turn. Plain Lean. -/
namespace BC
/-- the place of a turn -/
def plc (i t : Nat) : Int := if t = 0 then (i : Int) - 1 else (i : Int)
def okp (n i t : Nat) : Bool := decide (0 ≤ plc i t) && decide (plc i t < (n : Int) - 1)
def cA (i t : Nat) : Rat := if plc i t = (i : Int) then 2 else 1
def cB (i t : Nat) : Rat := if plc i t = (i : Int) then 1 else 2
def Fr (n : Nat) (p : Nat → Rat) (i : Nat) : Nat → Nat → Rat
  | 0 => fun _ => 0
  | t + 1 => if okp n i t = true then ad p (plc i t).toNat (cA i t) (cB i t) (Fr n p i t) else Fr n p i t
def Gr (xs ys : List Rat) (i : Nat) : Nat → Rat
  | 0 => 0
  | t + 1 => if okp xs.length i t = true then Gr xs ys i t + wOf xs ys (plc i t).toNat else Gr xs ys i t
theorem okp0 {n i : Nat} (hi : i < n) : okp n i 0 = decide (0 < i) := by
  unfold okp plc
  rw [if_pos rfl]
  by_cases h : 0 < i
  · rw [decide_eq_true h, decide_eq_true (by omega), decide_eq_true (by omega)]
    rfl
  · rw [decide_eq_false h, decide_eq_false (by omega)]
    rfl
theorem okp1 {n i : Nat} (hi : i < n) : okp n i 1 = decide (i + 1 < n) := by
  unfold okp plc
  rw [if_neg (by decide)]
  by_cases h : i + 1 < n
  · rw [decide_eq_true h, decide_eq_true (by omega), decide_eq_true (by omega)]
    rfl
  · rw [decide_eq_false h, decide_eq_true (by omega), decide_eq_false (by omega)]
    rfl
theorem Fr_two {n i : Nat} {p : Nat → Rat} (hi : i < n) : Fr n p i 2 = row2 n p i := by
  have e1 : Fr n p i 1 = row1 p i := by
    show (if okp n i 0 = true then ad p (plc i 0).toNat (cA i 0) (cB i 0) (fun _ => 0) else fun _ => 0) = _
    rw [okp0 hi]
    unfold row1
    by_cases h : 0 < i
    · have h1 : (plc i 0).toNat = i - 1 := by
        unfold plc
        rw [if_pos rfl]
        omega
      have h2 : ¬ plc i 0 = (i : Int) := by
        unfold plc
        rw [if_pos rfl]
        omega
      unfold cA cB
      rw [if_pos h, if_pos (decide_eq_true h), h1, if_neg h2, if_neg h2]
    · rw [if_neg h, if_neg (by rw [decide_eq_false h]; decide)]
  show (if okp n i 1 = true then ad p (plc i 1).toNat (cA i 1) (cB i 1) (Fr n p i 1) else Fr n p i 1) = _
  rw [okp1 hi, e1]
  unfold row2
  by_cases h : i + 1 < n
  · have h0 : plc i 1 = (i : Int) := by
      unfold plc
      rw [if_neg (by decide)]
    unfold cA cB
    rw [if_pos h, if_pos (decide_eq_true h), h0, if_pos rfl, if_pos rfl, Int.toNat_natCast]
  · rw [if_neg h, if_neg (by rw [decide_eq_false h]; decide)]
theorem Gr_two {xs ys : List Rat} {i : Nat} (hi : i < xs.length) : Gr xs ys i 2 = rOf xs ys i := by
  have e1 : Gr xs ys i 1 = if 0 < i then wOf xs ys (i - 1) else 0 := by
    show (if okp xs.length i 0 = true then (0 : Rat) + wOf xs ys (plc i 0).toNat else 0) = _
    rw [okp0 hi]
    by_cases h : 0 < i
    · have h1 : (plc i 0).toNat = i - 1 := by
        unfold plc
        rw [if_pos rfl]
        omega
      rw [if_pos h, if_pos (decide_eq_true h), h1, Rat.zero_add]
    · rw [if_neg h, if_neg (by rw [decide_eq_false h]; decide)]
  show (if okp xs.length i 1 = true then Gr xs ys i 1 + wOf xs ys (plc i 1).toNat else Gr xs ys i 1) = _
  rw [okp1 hi, e1]
  unfold rOf
  by_cases h : i + 1 < xs.length
  · have h0 : plc i 1 = (i : Int) := by
      unfold plc
      rw [if_neg (by decide)]
    rw [if_pos h, if_pos (decide_eq_true h), h0, Int.toNat_natCast]
  · rw [if_neg h, if_neg (by rw [decide_eq_false h]; decide), Rat.add_zero]
theorem set_map {n q : Nat} {f : Nat → Rat} {v : Rat} : ((List.range n).map f).set q v = (List.range n).map fun j => if j = q then v else f j := by
  apply List.ext_getElem
  · simp
  · intro i h1 h2
    rw [List.getElem_set, List.getElem_map, List.getElem_map, List.getElem_range]
    by_cases e : q = i
    · rw [if_pos e, if_pos e.symm]
    · rw [if_neg e, if_neg (fun z => e z.symm)]
theorem set_ad {n q : Nat} {p f : Nat → Rat} {c1 c2 : Rat} : (((List.range n).map f).set q (f q + p q * c1)).set (q + 1) (f (q + 1) + p q * c2) = (List.range n).map (ad p q c1 c2 f) := by
  rw [set_map, set_map]
  apply List.map_congr_left
  intro j _
  unfold ad
  by_cases h1 : j = q
  · subst h1
    rw [if_neg (by omega), if_pos rfl, if_pos rfl]
  · rw [if_neg h1, if_neg h1]
    by_cases h2 : j = q + 1
    · subst h2
      rw [if_pos rfl]
    · rw [if_neg h2, if_neg h2]
theorem c_gd (i t : Nat) : Gd 1 1 (cA i t) ∧ Gd 1 1 (cB i t) := by
  have two : Gd 1 1 (2 : Rat) := gd_nat (n := 2) (by decide)
  have one : Gd 1 1 (1 : Rat) := gd_one (by decide)
  unfold cA cB
  split
  · exact ⟨two, one⟩
  · exact ⟨one, two⟩
theorem w_gd {xs ys : List Rat} {q : Nat} (hp : Gd 1 1 (pOf xs q)) (hy : ∀ i, Gd 1 1 (ys.getD i 0)) : Gd 1 5 (wOf xs ys q) := by
  have three : Gd 1 1 (3 : Rat) := gd_nat (n := 3) (by decide)
  exact three.mul1 (((hy (q + 1)).sub (hy q)).mul1 (hp.mul1 hp))
theorem okp_nat {n i t : Nat} (h : okp n i t = true) : ∃ q : Nat, plc i t = (q : Int) ∧ q + 1 < n := by
  unfold okp at h
  rw [Bool.and_eq_true] at h
  have h1 := of_decide_eq_true h.1
  have h2 := of_decide_eq_true h.2
  exact ⟨(plc i t).toNat, by omega, by omega⟩
theorem Fr_gd {n i : Nat} {p : Nat → Rat} (hp : ∀ q, q + 1 < n → Gd 1 1 (p q)) : ∀ t j, Gd 1 (2 + t) (Fr n p i t j)
  | 0, j => gd_zero (by decide)
  | t + 1, j => by
    have ih := Fr_gd (i := i) hp t
    show Gd 1 (2 + t + 1) ((if okp n i t = true then ad p (plc i t).toNat (cA i t) (cB i t) (Fr n p i t) else Fr n p i t) j)
    split
    · next h =>
      obtain ⟨q, hq, hn⟩ := okp_nat h
      rw [hq, Int.toNat_natCast]
      exact ad_gd (hp q hn) (c_gd i t).1 (c_gd i t).2 (by omega) ih j
    · exact (ih j).upe (by omega) (by decide)
theorem Gr_gd {xs ys : List Rat} {i : Nat} (hp : ∀ q, q + 1 < xs.length → Gd 1 1 (pOf xs q)) (hy : ∀ i, Gd 1 1 (ys.getD i 0)) : ∀ t, Gd 1 (5 + t) (Gr xs ys i t)
  | 0 => gd_zero (by decide)
  | t + 1 => by
    have ih := Gr_gd (i := i) hp hy t
    show Gd 1 (5 + t + 1) (if okp xs.length i t = true then Gr xs ys i t + wOf xs ys (plc i t).toNat else Gr xs ys i t)
    split
    · next h =>
      obtain ⟨q, hq, hn⟩ := okp_nat h
      rw [hq, Int.toNat_natCast]
      exact ih.add ((w_gd (hp q hn) hy).upe (by omega) (by decide))
    · exact ih.upe (by omega) (by decide)
theorem rOf_gd {xs ys : List Rat} {i : Nat} (hi : i < xs.length) (hp : ∀ q, q + 1 < xs.length → Gd 1 1 (pOf xs q)) (hy : ∀ i, Gd 1 1 (ys.getD i 0)) : Gd 1 7 (rOf xs ys i) := by
  rw [← Gr_two hi]
  exact Gr_gd hp hy 2
end BC
/-! BqH: the places that the law draws. Plain Lean. -/
namespace BC
/-- the place s steps behind -t/4, a step is 1/m -/
def posR (m t s : Nat) : Rat := (s : Rat) * (1 / (m : Rat)) - (t : Rat) * (1 / 4)
structure Ris (S : Nat → Nat) (n : Nat) : Prop where
  z : S 0 = 0
  up : ∀ j, j < n → S j < S (j + 1)
  few : ∀ j, j < n → S (j + 1) ≤ S j + 6
def xsOf (m t : Nat) (S : Nat → Nat) : List Rat := (List.range m).map fun j => posR m t (S (j + 1))
theorem Ris.le {S : Nat → Nat} {n : Nat} (h : Ris S n) : ∀ j, j ≤ n → S j ≤ 6 * j
  | 0, _ => by
    rw [h.z]
    exact Nat.zero_le _
  | j + 1, hj => by
    have h1 := h.le j (by omega)
    have h2 := h.few j (by omega)
    omega
theorem posR_gd {m t s : Nat} (m2 : 2 ≤ m) (m5 : m ≤ 5) (ht : t ≤ 2) (hs : s ≤ 40) : Gd 1 1 (posR m t s) := by
  have key : ∀ c : Nat, m * c = 60 → c ≤ 30 → Gd 1 1 (posR m t s) := fun c hc c30 => by
    refine ⟨(s : Int) * (c : Int) - 15 * (t : Int), ?_, ?_⟩
    · have e : (m : Rat) * (c : Rat) = 60 := by
        have := congrArg (fun n : Nat => (n : Rat)) hc
        simpa using this
      have m0 : (m : Rat) ≠ 0 := by
        have : (0 : Rat) < (m : Rat) := Rat.natCast_pos.mpr (by omega)
        grind
      unfold posR
      have e60 : ((1 * 60 ^ 1 : Nat) : Rat) = 60 := by decide +kernel
      rw [e60]
      push_cast
      grind
    · have h1 : s * c ≤ 40 * 30 := Nat.mul_le_mul hs c30
      have h2 : ((s * c : Nat) : Int) = (s : Int) * (c : Int) := by push_cast; rfl
      rw [← h2]
      have e60 : 1 * 60 ^ 1 * (1 * 60 ^ 1) = 3600 := by decide
      rw [e60]
      omega
  have hm : m = 2 ∨ m = 3 ∨ m = 4 ∨ m = 5 := by omega
  rcases hm with h | h | h | h
  · exact key 30 (by omega) (by decide)
  · exact key 20 (by omega) (by decide)
  · exact key 15 (by omega) (by decide)
  · exact key 12 (by omega) (by decide)
theorem posR_step {m t s k : Nat} (m0 : 0 < m) : posR m t (s + k) = posR m t s + 4 / (m : Rat) * ((k : Rat) * (1 / 4)) := by
  have h : (m : Rat) ≠ 0 := by
    have : (0 : Rat) < (m : Rat) := Rat.natCast_pos.mpr m0
    grind
  unfold posR
  push_cast
  grind
theorem posR_zero {m t : Nat} : posR m t 0 = 0 - (t : Rat) * (1 / 4) := by
  unfold posR
  have : ((0 : Nat) : Rat) = 0 := rfl
  rw [this]
  grind
theorem gap_eq {m t s k : Nat} (m0 : 0 < m) : posR m t (s + k) - posR m t s = (k : Rat) * (1 / (m : Rat)) := by
  unfold posR
  push_cast
  grind
section
variable {m t : Nat} {S : Nat → Nat}
theorem xs_len : (xsOf m t S).length = m := by simp [xsOf]
theorem xs_get {i : Nat} (hi : i < m) : (xsOf m t S).getD i 0 = posR m t (S (i + 1)) := map_range_getD hi
theorem xs_gap (R : Ris S m) (m2 : 2 ≤ m) {i : Nat} (hi : i + 1 < m) : (xsOf m t S).getD (i + 1) 0 - (xsOf m t S).getD i 0 = ((S (i + 2) - S (i + 1) : Nat) : Rat) * (1 / (m : Rat)) := by
  have h1 : S (i + 1) < S (i + 2) := R.up (i + 1) (by omega)
  obtain ⟨k, hk⟩ : ∃ k, S (i + 2) = S (i + 1) + k := ⟨S (i + 2) - S (i + 1), by omega⟩
  rw [xs_get (by omega), xs_get (by omega)]
  show posR m t (S (i + 2)) - _ = _
  rw [hk, gap_eq (by omega), Nat.add_sub_cancel_left]
/-- 60 over the gap -/
def aOf (m : Nat) (S : Nat → Nat) (i : Nat) : Nat := m * (60 / (S (i + 2) - S (i + 1)))
theorem six {k : Nat} (h1 : 1 ≤ k) (h6 : k ≤ 6) : k * (60 / k) = 60 ∧ 10 ≤ 60 / k ∧ 60 / k ≤ 60 := by
  have hk : k = 1 ∨ k = 2 ∨ k = 3 ∨ k = 4 ∨ k = 5 ∨ k = 6 := by omega
  rcases hk with h | h | h | h | h | h <;> subst h <;> decide
theorem xs_inv (R : Ris S m) (m2 : 2 ≤ m) {i : Nat} (hi : i + 1 < m) : 1 / ((xsOf m t S).getD (i + 1) 0 - (xsOf m t S).getD i 0) = (aOf m S i : Rat) * (1 / 60) := by
  rw [xs_gap R m2 hi]
  have h1 : S (i + 1) < S (i + 2) := R.up (i + 1) (by omega)
  have h2 : S (i + 2) ≤ S (i + 1) + 6 := R.few (i + 1) (by omega)
  unfold aOf
  obtain ⟨k, hk⟩ : ∃ k, S (i + 2) - S (i + 1) = k := ⟨_, rfl⟩
  rw [hk]
  obtain ⟨h3, h4, h5⟩ := six (k := k) (by omega) (by omega)
  generalize 60 / k = c at *
  have e : (k : Rat) * (c : Rat) = 60 := by
    have := congrArg (fun n : Nat => (n : Rat)) h3
    simpa using this
  have m0 : (m : Rat) ≠ 0 := by
    have : (0 : Rat) < (m : Rat) := Rat.natCast_pos.mpr (by omega)
    grind
  have k0 : (k : Rat) ≠ 0 := by
    have : (0 : Rat) < (k : Rat) := Rat.natCast_pos.mpr (by omega)
    grind
  push_cast
  clear h3 h4 h5 hk h1 h2
  generalize (k : Rat) = x at *
  generalize (m : Rat) = y at *
  generalize (c : Rat) = w at *
  grind
theorem aOf_b (R : Ris S m) (m2 : 2 ≤ m) (m5 : m ≤ 5) {i : Nat} (hi : i + 1 < m) : 1 ≤ aOf m S i ∧ aOf m S i ≤ 300 := by
  have h1 : S (i + 1) < S (i + 2) := R.up (i + 1) (by omega)
  have h2 : S (i + 2) ≤ S (i + 1) + 6 := R.few (i + 1) (by omega)
  obtain ⟨h3, h4, h5⟩ := six (k := S (i + 2) - S (i + 1)) (by omega) (by omega)
  unfold aOf
  generalize 60 / (S (i + 2) - S (i + 1)) = c at *
  have a1 : 2 * 10 ≤ m * c := Nat.mul_le_mul m2 h4
  have a2 : m * c ≤ 5 * 60 := Nat.mul_le_mul m5 h5
  omega
theorem xs_up (R : Ris S m) (m2 : 2 ≤ m) {i : Nat} (hi : i + 1 < m) : 0 < (xsOf m t S).getD (i + 1) 0 - (xsOf m t S).getD i 0 := by
  rw [xs_gap R m2 hi]
  have h1 : S (i + 1) < S (i + 2) := R.up (i + 1) (by omega)
  have k0 : (0 : Rat) < ((S (i + 2) - S (i + 1) : Nat) : Rat) := Rat.natCast_pos.mpr (by omega)
  have m0 : (0 : Rat) < (m : Rat) := Rat.natCast_pos.mpr (by omega)
  have m1 : (0 : Rat) < 1 / (m : Rat) := by
    rw [Rat.div_def, Rat.one_mul]
    exact Rat.inv_pos.mpr m0
  exact Rat.mul_pos k0 m1
theorem inv_gd1 (R : Ris S m) (m2 : 2 ≤ m) (m5 : m ≤ 5) {i : Nat} (hi : i + 1 < m) : Gd 1 1 (1 / ((xsOf m t S).getD (i + 1) 0 - (xsOf m t S).getD i 0)) := by
  rw [xs_inv R m2 hi]
  have h := aOf_b R m2 m5 hi
  refine ⟨(aOf m S i : Int), ?_, ?_⟩
  · have e60 : ((1 * 60 ^ 1 : Nat) : Rat) = 60 := by decide +kernel
    rw [e60]
    have e : (((aOf m S i : Nat) : Int) : Rat) = (aOf m S i : Rat) := rfl
    rw [e]
    grind
  · have e60 : 1 * 60 ^ 1 * (1 * 60 ^ 1) = 3600 := by decide
    rw [e60]
    omega
theorem xs_gx (R : Ris S m) (m2 : 2 ≤ m) (m5 : m ≤ 5) (ht : t ≤ 2) : ∀ q ∈ xsOf m t S, Gd 1 1 q := fun q hq => by
  obtain ⟨j, hj, rfl⟩ := List.mem_map.mp hq
  have hj2 := List.mem_range.mp hj
  have := R.le (j + 1) (by omega)
  exact posR_gd m2 m5 ht (by omega)
theorem xs_tri (R : Ris S m) (m2 : 2 ≤ m) (m5 : m ≤ 5) {ys : List Rat} (gy : ∀ q ∈ ys, Gd 1 1 q) : Tri m (pOf (xsOf m t S)) (rOf (xsOf m t S) ys) (aOf m S) := by
  have gys : ∀ i, Gd 1 1 (ys.getD i 0) := getD_gd (P := Gd 1 1) gy (gd_zero (by decide))
  refine ⟨m2, m5, fun i hi => (aOf_b R m2 m5 hi).1, fun i hi => (aOf_b R m2 m5 hi).2, fun i hi => xs_inv R m2 hi, fun i hi => ?_⟩
  refine rOf_gd (by rw [xs_len]; exact hi) (fun q hq => ?_) gys
  rw [xs_len] at hq
  exact inv_gd1 R m2 m5 hq
end
end BC
/-! BwR: rules that the layer lacked: enumerate(t), t[::-1], t.index(x) of tuples. -/
namespace BW
open PySem PySem.Spec PyProof.Rows L2

/-! ### enumerate of a tuple -/
theorem enumNew1 {v : Value} {o : Obj} {P : Heap → Prop} (B : Begins v o P) :
    Meets (Builtin.«enumerate.__new__» ⟨[.type "enumerate", v], []⟩) (fun _ R s => P s.heap ∧
      R (.ok (.ret (.ref (s.heap.push o).objs.size))) { s with heap := (s.heap.push o).push { cls := .type "enumerate", data := .fields #[.none, .bool false, .ref s.heap.objs.size, rawInt 0, .none, .none] } }) :=
  .of_wp fun prog w A R s h => by
    obtain ⟨hp, g, d, tk, os⟩ := s
    obtain ⟨hP, hR⟩ := h
    have hsub := sub_enumerate
    have itq : ∀ {A' : Around} {E : Value → Shared → Prop} {Q : Value → Shared → Prop}, Q (.ref hp.objs.size) ⟨hp.push o, g, d, tk, os⟩ → wpAny (model prog w) A' (pyIter v) Q E ⟨hp, g, d, tk, os⟩ :=
      fun q => B.iter prog w _ _ ⟨hp, g, d, tk, os⟩ _ hP q
    wp_walk using itq
    refine wpAny_stack_any fun stk => wpAny_pure ?_
    split
    · rename_i c _ _ _ _ _
      cases (c == Value.type "enumerate") <;> (wp_walk using itq; exact ⟨_, rfl, hR⟩)
    · wp_walk using itq
      exact ⟨_, rfl, hR⟩
section
variable {prog : Program} {w : World} {A : Around} {E : Value → Shared → Prop} {s : Shared}
theorem enumBegin1 {v : Value} {o : Obj} {P : Heap → Prop} {Q : Value → Shared → Prop} (B : Begins v o P) (hP : P s.heap)
    (h : ∀ h', IsEnum h' (s.heap.objs.size + 1) s.heap.objs.size 0 .none → h'.get? s.heap.objs.size = some o → (∀ b ob, s.heap.get? b = some ob → h'.get? b = some ob) → Q (.ref (s.heap.objs.size + 1)) { s with heap := h' }) :
    wpAny (model prog w) A (call (.type "enumerate") [v]) Q E s := by
  refine callType_new F.called_enumerate (by decide) (F.typeCall_enumerate_1 _) (F.newCall_enumerate_1 _) (fun ob => F.args_object_init_2 ob _) F.entry_enumerate_new (enumNew1 B) ⟨hP, ?_⟩
  have sz : (s.heap.push o).objs.size = s.heap.objs.size + 1 := Heap.size_push ..
  show _ ∧ _
  rw [sz]
  have hen : IsEnum ((s.heap.push o).push { cls := .type "enumerate", data := .fields #[.none, .bool false, .ref s.heap.objs.size, rawInt 0, .none, .none] }) (s.heap.objs.size + 1) s.heap.objs.size 0 .none := by
    have z := Heap.get?_push_size (s.heap.push o) (o := { cls := .type "enumerate", data := .fields #[.none, .bool false, .ref s.heap.objs.size, rawInt 0, .none, .none] }) rfl
    rw [sz] at z
    exact z
  exact ⟨⟨_, hen, rfl⟩, h _ hen (Heap.get?_push_of_some _ (Heap.get?_push_size _ B.free)) fun b ob x => Heap.get?_push_of_some _ (Heap.get?_push_of_some _ x)⟩
end
/-- the tuple at a, each item in a new pair -/
def IteT (K : PySem.W.Frag) (a : Addr) : It :=
  ⟨fun i H => ∃ (xs : List V) (x : V), SqT K H a xs ∧ xs[i]? = some x, fun i H v H' => ∃ T x, v = .ref T ∧ H T = none ∧ H' = upd H T (.tup [.int (i : Nat), x]) ∧ ∀ xs, SqT K H a xs → xs[i]? = some x,
    fun i H => ∃ xs : List V, SqT K H a xs ∧ xs.length ≤ i⟩
theorem turnEnumT {P : Program} {w : World} {K : PySem.W.Frag} {elts : List Expr} {kk : Nat} {tpos : Pos} (a e it : Addr) (hai : a ≠ it) (hea : e ≠ a) :
    Turn P w K (.Tuple elts kk tpos) (IteT K a) [e, it] e (fun i h => (∃ old, IsEnum h e it ((i : Nat) : Int) old) ∧ h.IsTupleIter it a i ∧ e ≠ it) where
  mem := by simp
  obj := fun i h st b hb => by
    obtain ⟨⟨old, he⟩, ⟨ob, hob, hcl, hdt⟩, _⟩ := st
    rcases (show b = e ∨ b = it by simpa using hb) with z | z
    · exact z ▸ ⟨_, he, fun v q => nomatch q⟩
    · exact z ▸ ⟨ob, hob, fun v q => by rw [hdt] at q; cases q⟩
  keep := fun i h h' st k => by
    obtain ⟨⟨old, he⟩, hi, ne⟩ := st
    exact ⟨⟨old, k e (by simp) _ he⟩, hi.at fun ob q => k it (by simp) ob q, ne⟩
  item := by
    intro X hP hw hK hc i pins s σ H E I hf st hg
    subst hP hw hK
    obtain ⟨⟨old, he⟩, hit, ne⟩ := st
    obtain ⟨xs, x, hsq, hx⟩ := hg
    obtain ⟨its, rv, ptup, hz⟩ := I.tuple hsq
    obtain ⟨u, hu, ru⟩ := rv.get hx
    have elt : e < s.heap.objs.size := Heap.lt_size he
    have ilt : it < s.heap.objs.size := by obtain ⟨_, q, _⟩ := hit; exact Heap.lt_size q
    have hlt : i < its.toArray.size := by
      have := (List.getElem?_eq_some_iff.mp hu).1
      simpa using this
    refine wpAny_pyNext_enum_itemD (Draws.tuple (A := X.A.in1) (I.ok.hd hc) it a hai its.toArray) he ⟨hit, ptup⟩ hlt ne (by simp [ne, hea]) fun y h1 tk hy hout hst hT hsz hk => ?_
    have ey : y = u := by
      have z1 : its[i]? = some y := by simpa using hy
      exact Option.some.inj (z1.symm.trans hu)
    subst ey
    refine ⟨_, rfl, wpAny_letOwnedTupleGo_enum (s := { s with heap := h1, toks := tk + 1 }) hout fun h2 he2 sb => ?_⟩
    have tupNew : h2.get? s.heap.objs.size = some { cls := .type "tuple", data := .seq #[.int i tk, y] } := (sb.2 _ (Nat.ne_of_gt elt)).trans hT
    have okNew : ObjOk X.prog X.w (upd H s.heap.objs.size (.tup [.int (i : Nat), x])) h2 s.heap.objs.size (.tup [.int (i : Nat), x]) :=
      ⟨by show 2 ≤ sizeLine; decide, [.int i tk, y], .cons ⟨_, rfl⟩ (.cons ru .nil), ⟨_, tupNew, rfl, _, rfl⟩⟩
    have inv2 : Inv X pins σ (upd H s.heap.objs.size (.tup [.int (i : Nat), x])) { s with heap := h2, toks := tk + 1 } :=
      I.turnedNew (ch := [e, it]) (fun b ob hb q => (sb.2 b (fun z => hb (by simp [z]))).trans (hk b ob (fun z => hb (by simp [z])) (fun z => hb (by simp [z])) q)) hf (Nat.le_refl _) okNew
    refine ⟨.ref s.heap.objs.size, _, inv2, rfl, ⟨_, x, rfl, I.hok.fresh (Nat.le_refl _), rfl, fun ys hy => by rw [I.tuple_inj hy hsq]; exact hx⟩, ⟨⟨y, ?_⟩, hst.1.at fun ob q => (sb.2 it (Ne.symm ne)).trans q, ne⟩, fun b hb => ?_⟩
    · rw [show ((i + 1 : Nat) : Int) = (i : Int) + 1 by omega]
      exact he2
    · have blt : b < s.heap.objs.size := by
        rcases (show b = e ∨ b = it by simpa using hb) with z | z
        · exact z ▸ elt
        · exact z ▸ ilt
      rw [upd_ne (Nat.ne_of_lt blt)]
      exact (hf b hb).1
  done := by
    intro X hP hw hK hc i pins s σ H E I hf st hg
    subst hP hw hK
    obtain ⟨⟨old, he⟩, hit, ne⟩ := st
    obtain ⟨xs, hsq, hx⟩ := hg
    obtain ⟨its, rv, ptup, hz⟩ := I.tuple hsq
    obtain ⟨f0, f1, f2, f3, f4, f5⟩ := hf it (by simp)
    have hlen := rv.length
    have hT : s.TypeIs (.ref e) "enumerate" := ⟨_, he, rfl⟩
    unfold pyNext
    refine wpAny_bind (wpAny_attempt (wpAny_callSpecial?_slot (name := Str.ofString "__next__") hT F.slot_enumerate_next
      (wpAny_call_entry F.slot_enumerate_next hT F.entry_enumerate_next ?_ (F.args_enumerate_next_1 _))))
    show wpAny _ _ (field (.ref e) 2 >>= _) _ _ _
    refine wpAny_bind (wpAny_field he rfl (x := .ref it) rfl ?_)
    refine wpAny_bind (RZ.nextOf_tuple_end (A := _) (I.ok.hd hc) hit ptup (by simp; omega) fun h' x hex hcls => ?_)
    obtain ⟨ob, hob, hcl⟩ := hcls
    refine wpAny_bind (wpAny_isInstance (T := "StopIteration") (b := true) ⟨ob, hob, hcl⟩ isSubtype_stop ?_)
    exact wpAny_pure ⟨rfl, I.turned (t' := s.toks) (fun b o hb q => hex b o hb q) f0 f1 f3 f4 f5⟩
  self := fun A i s Q E st h => by
    obtain ⟨⟨_, he⟩, _⟩ := st
    exact wpAny_pyIter_enum he h
def iEnumT (K : PySem.W.Frag) (ta : TA) : TI := fun σ H R => ta σ H fun vs H1 => ∃ a xs, vs = [.ref a] ∧ SqT K H1 a xs ∧ R (IteT K a) H1
theorem pi_enumT {X : Cx} {e : Expr} {ta : TA} {p pos tpos : Pos} {elts : List Expr} {kk : Nat} (hg : Gl X "enumerate") (hm : X.mg "enumerate" = none) (ha : PA X [e] ta) (hs : starEach [e] X.env = [(false, eval e X.env)] := by rfl) :
    PI X (.Tuple elts kk tpos) (.Call (.Name "enumerate" p) [e] [] pos) (iEnumT X.K ta) := by
  refine ⟨fun pins s σ H R I h => ?_⟩
  refine Call_ (ld_blt I hg hm boot_enumerate (PyProof.Rows.callWith_type1 (thn (ha.run pos pins s σ H _ I h) fun us s1 ⟨vs, H1, I1, rvs, hq⟩ => ?_) hs rfl))
  obtain ⟨a, xs, rfl, hsq, q⟩ := hq
  cases rvs with
  | cons r rr =>
    cases rr
    cases r
    obtain ⟨its, rv, ptup, hz⟩ := I1.tuple hsq
    have alt : a < s1.heap.objs.size := by obtain ⟨ob, hob, _⟩ := id ptup; exact Heap.lt_size hob
    refine enumBegin1 (begins_tuple a its.toArray) ptup fun h' he hobj hk => wpAny_pyIter_enum he ?_
    have inv2 : Inv X pins σ H1 { s1 with heap := h' } := I1.kept (t' := s1.toks) hk
    refine ⟨s1.heap.objs.size + 1, [s1.heap.objs.size + 1, s1.heap.objs.size], _, _, H1, rfl, inv2, turnEnumT a (s1.heap.objs.size + 1) s1.heap.objs.size (Nat.ne_of_lt alt) (Nat.ne_of_gt (Nat.lt_succ_of_lt alt)), ⟨⟨.none, he⟩, ⟨_, hobj, rfl, rfl⟩, Nat.succ_ne_self _⟩, fun b hb => ?_, q⟩
    have ble : s1.heap.objs.size ≤ b := by
      rcases (show b = s1.heap.objs.size + 1 ∨ b = s1.heap.objs.size by simpa using hb) with z | z
      · exact z ▸ Nat.le_add_right _ _
      · exact z ▸ Nat.le_refl _
    exact I1.fpOk ble (I1.hok.fresh ble)

/-! ### t[::-1] -/
section
variable {prog : Program} {w : World} {A : Around} {E : Value → Shared → Prop} {s : Shared}
theorem placesBack (n : Nat) : Builtin.Slice.slicePlaces ((n : Int) - 1) (-1) (-1) = n := by
  unfold Builtin.Slice.slicePlaces
  rw [if_neg (by decide)]
  by_cases h : (n : Int) - 1 > -1
  · rw [if_pos h, show (-(-1) : Int) = 1 by decide, Int.ediv_one]
    omega
  · rw [if_neg h]
    omega
theorem sliceBack {sl : Addr} {vl vu vs : Value} {n : Nat} {Q : Int × Int × Nat → Shared → Prop} (hs : s.heap.IsSliceOf sl vl vu vs) (pl : IsPart vl none) (pu : IsPart vu none) (ps : IsPart vs (some (-1)))
    (h : Q ((n : Int) - 1, -1, n) s) : wpAny (model prog w) A (Builtin.Slice.sliceApplied (.ref sl) (pure (n : Int))) Q E s := by
  obtain ⟨os, hos, hcs, hds⟩ := id hs
  unfold Builtin.Slice.sliceApplied Builtin.Slice.sliceFields
  refine wpAny_bind (wpAny_bind (wpAny_field hos hds (x := vl) rfl (wpAny_bind (wpAny_field hos hds (x := vu) rfl (wpAny_bind (wpAny_field hos hds (x := vs) rfl (wpAny_pure ?_)))))))
  refine wpAny_bind (HT.slicePart_ ps ?_)
  show wpAny _ _ (if ((-1 : Int) == 0) = true then _ else _) _ _ s
  rw [if_neg (by decide)]
  refine wpAny_bind (HT.slicePart_ pl (wpAny_bind (HT.slicePart_ pu (wpAny_bind (wpAny_pure ?_)))))
  show wpAny _ _ (pure ((n : Int) - 1, (-1 : Int), Builtin.Slice.slicePlaces ((n : Int) - 1) (-1) (-1))) _ _ s
  rw [placesBack]
  exact wpAny_pure h
theorem fmCongr {α β : Type} {f g : α → Option β} : ∀ {l : List α}, (∀ x ∈ l, f x = g x) → l.filterMap f = l.filterMap g
  | [], _ => rfl
  | a :: r, h => by
    have e := fmCongr (l := r) fun x hx => h x (List.mem_cons_of_mem _ hx)
    have ea := h a (List.mem_cons_self ..)
    rw [List.filterMap_cons, List.filterMap_cons, e, ea]
theorem pickBack (xs : Array Value) : ((List.range xs.size).filterMap fun (k : Nat) => xs[((xs.size : Int) - 1 + (k : Int) * -1).toNat]?).toArray = xs.toList.reverse.toArray := by
  have e : ((List.range xs.size).filterMap fun (k : Nat) => xs[((xs.size : Int) - 1 + (k : Int) * -1).toNat]?) = (List.range xs.size).filterMap fun (k : Nat) => xs[xs.size - 1 - k]? := by
    refine fmCongr fun k hk => ?_
    have := List.mem_range.mp hk
    rw [show ((xs.size : Int) - 1 + (k : Int) * -1).toNat = xs.size - 1 - k by omega]
  rw [e]
  have e2 : ((List.range xs.size).filterMap fun (k : Nat) => xs[xs.size - 1 - k]?) = ((List.range xs.size).map fun k => xs.size - 1 - k).filterMap (xs[·]?) := by
    rw [List.filterMap_map]
    rfl
  rw [e2, PySem.W.krv_range, List.filterMap_reverse, PySem.W.krv_all]
theorem getItemBack {t sl : Addr} {items : Array Value} {vl vu vs : Value} {Q : Value → Shared → Prop} (ht : IsTup s.heap t items) (hs : s.heap.IsSliceOf sl vl vu vs) (pl : IsPart vl none) (pu : IsPart vu none) (ps : IsPart vs (some (-1)))
    (h : Q (.ref s.heap.objs.size) { s with heap := s.heap.push { cls := .type "tuple", data := .seq items.toList.reverse.toArray } })
    (hsz : items.size ≤ sizeLine) : wpAny (model prog w) A (getItem (.ref t) (.ref sl)) Q E s := by
  have hfit : sizeOk (.seq items.toList.reverse.toArray) := by
    show items.toList.reverse.toArray.size ≤ sizeLine
    rw [List.size_toArray, List.length_reverse, Array.length_toList]
    exact hsz
  obtain ⟨os, hos, hcs, hds⟩ := id hs
  have tyS : s.TypeIs (.ref sl) "slice" := ⟨os, hos, hcs⟩
  unfold getItem
  try with_reducible refine wpAny_holding ?_
  first
    | refine wpAny_bind (wpAny_pure ?_)
    | skip
  refine wpAny_bind (wpAny_sequenceKey ht.typeIs (by decide) ?_)
  refine wpAny_bind (wpAny_callSpecial?_slot (name := Str.ofString "__getitem__") ht.typeIs PyProof.Rows.slot_tuple_getitem
    (wpAny_call_entry PyProof.Rows.slot_tuple_getitem ht.typeIs PyProof.Rows.entry_tuple_getitem ?_ (PyProof.Rows.args_tuple_getitem _ _)))
  show wpAny _ _ (Builtin.Tuple.tupleItemsOf (.ref t) >>= _) _ _ s
  refine wpAny_bind (tupleItemsOf_ ht ?_)
  refine wpAny_bind (wpAny_typeOf tyS ?_)
  rw [if_pos (by decide)]
  refine wpAny_bind (sliceBack hs pl pu ps ?_)
  have hno : ¬ ((((items.size : Int) - 1) == 0 && (-1 : Int) == 1 && items.size == items.size) = true) := by
    rw [show ((-1 : Int) == 1) = false from rfl, Bool.and_false, Bool.false_and]
    exact Bool.false_ne_true
  show wpAny _ _ (if (((items.size : Int) - 1) == 0 && (-1 : Int) == 1 && items.size == items.size) = true then _ else _) _ _ s
  rw [if_neg hno, pickBack]
  first
    | exact wpAny_bind (m := Builtin.Tuple.tupleExact _) (wpAny_newObj_type (wpAny_pure ⟨_, rfl, wpAny_pure h⟩) hfit)
    | exact wpAny_bind (m := Builtin.Tuple.tupleExact _) (wpAny_newObj_type (wpAny_bind (wpAny_pure (wpAny_pure ⟨_, rfl, wpAny_pure h⟩))) hfit)
    | exact wpAny_bind (wpAny_bind (m := Builtin.Tuple.tupleExact _) (wpAny_newObj_type (wpAny_pure (wpAny_pure ⟨_, rfl, wpAny_pure h⟩)) hfit))
    | exact wpAny_bind (wpAny_bind (m := Builtin.Tuple.tupleExact _) (wpAny_newObj_type (wpAny_pure ⟨_, rfl, wpAny_pure h⟩) hfit))
end
def tRevT (K : PySem.W.Frag) (te : TE) : TE := fun σ H Q => te σ H fun x H1 => ∃ a xs, x = .ref a ∧ SqT K H1 a xs ∧ ∀ p, H1 p = none → Q (.ref p) (upd H1 p (.tup xs.reverse))
theorem pe_revT {X : Cx} {e : Expr} {te : TE} {k : Nat} {p1 p2 p3 pos : Pos} (he : PE X e te) : PE X (.Subscript e (.Slice none none (some (.UnaryOp .USub (.Constant (.int 1) k p1) p2)) p3) pos) (tRevT X.K te) := by
  refine ⟨fun pins s σ H Q I h => ?_⟩
  refine Subscript_ (thn (he.run pins s σ H _ I h) fun v s1 ⟨x, H1, I1, rx, hx⟩ => ?_)
  obtain ⟨a, xs, rfl, hsq, q⟩ := hx
  cases rx
  have stp : PO X (some (.UnaryOp .USub (.Constant (.int 1) k p1) p2)) (tPart (tUn (rU fun i => .int (-i)) (tC (.int 1)))) := po_some (pe_un un_neg pe_int)
  refine wpAny_Slice (thn (po_none.run pins s1 σ H1 (fun o H2 => o = none ∧ H2 = H1) I1 ⟨rfl, rfl⟩) fun vl s2 ⟨l, H2, I2, pl, el, e2⟩ => ?_)
  subst el e2
  refine thn (po_none.run pins s2 σ H2 (fun o H3 => o = none ∧ H3 = H2) I2 ⟨rfl, rfl⟩) fun vu s3 ⟨u, H3, I3, pu, eu, e3⟩ => ?_
  subst eu e3
  refine thn (stp.run pins s3 σ H3 (fun o H4 => o = some (-1) ∧ H4 = H3) I3 ⟨1, rfl, -1, rfl, rfl, rfl⟩) fun vs s4 ⟨o, H4, I4, ps, eo, e4⟩ => ?_
  subst eo e4
  have I5 : Inv X pins σ H4 { s4 with heap := s4.heap.push { cls := .type "slice", data := .fields #[vl, vu, vs] } } := I4.kept (t' := s4.toks) fun b ob z => Heap.get?_push_of_some _ z
  obtain ⟨its, rv, ptup, hz⟩ := I5.tuple hsq
  have hlen := rv.length
  show wpAny (model X.prog X.w) X.A (subscriptTail e (.Slice none none (some (.UnaryOp .USub (.Constant (.int 1) k p1) p2)) p3) (.ref a) (.ref s4.heap.objs.size)) (EP X pins σ Q) X.xe { s4 with heap := s4.heap.push { cls := .type "slice", data := .fields #[vl, vu, vs] } }
  refine tail_any (ops := [.ref a, .ref s4.heap.objs.size]) ptup.typeIs (PyProof.Rows.slot_tuple_getitem.lookup) ?_ (by with_unfolding_all rfl)
  refine getItemBack ptup (Heap.IsSliceOf.new _ vl vu vs) pl pu ps ?_ (by rw [List.size_toArray]; omega)
  refine ⟨.ref _, _, I5.laid (t' := s4.toks) (o := .tup xs.reverse) (fun b ob z => Heap.get?_push_of_some _ z) (Nat.le_refl _) ?_, rfl, q _ (I5.hok.fresh (Nat.le_refl _))⟩
  exact ⟨by rw [List.length_reverse]; exact hz, _, rv.reverse, IsTup.new _ _⟩

/-! ### t.index(x), nested data -/
def rIndexT (K : PySem.W.Frag) : V → List V → Hp → VK → Prop := fun x xs H Q => ∃ (a : Addr) (y : V) (d : PyData) (ds : List PyData) (j : Nat) (z : PyData), x = V.ref a ∧ xs = [y] ∧ Dp K H (V.ref a) (.tuple ds) ∧ Dp K H y d ∧
  SeqAt.shaped (.tuple ds) = true ∧ SeqAt.shaped d = true ∧ ds[j]? = some z ∧ PyData.eqv z d = true ∧ (∀ (m : Nat) (z1 : PyData), m < j → ds[m]? = some z1 → PyData.eqv z1 d = false) ∧ Q (.int (j : Nat)) H
theorem mt_indexT {X : Cx} (hu : X.A.units + 65 < cLine) : MtR X "tuple.index" (rIndexT X.K) := by
  intro pins s σ H x xs v us Q I rx rxs h
  obtain ⟨a, y, d, ds, j, z, rfl, rfl, hl, hy, sl, sd, hz, hzj, hno, q⟩ := h
  cases rx
  cases rxs with
  | cons ry rt =>
    rename_i uy ut
    cases rt
    obtain ⟨bs, rdy⟩ := Dp.reads I d y uy hy ry
    have lay : PyData.canLayAll0 ds = true := SeqAt.canLay_of_shaped sl
    have room : X.A.units + 1 + min (PyData.depthAll ds) d.depth < cLine := room_in_shaped sd hu
    cases hl with
    | tup hs ha =>
      obtain ⟨its, rv, ⟨⟨cls, dd, data, sls⟩, ho, hc, n, hdt⟩, hlen⟩ := I.tuple hs
      simp only at hc hdt
      subst hc hdt
      obtain ⟨as, rda⟩ := Dp.readsAll I ds _ its ha rv
      have nn : its.length = ds.length := SeqAt.ReadsAll.length ds its as rda
      have hmap : its.map (SeqAt.readOf s.heap) = ds := SeqAt.readsAll_map ds its as lay rda
      have hvl := rv.length
      have hsl := sizeLine_eq
      obtain ⟨hjd, _⟩ := List.getElem?_eq_some_iff.mp hz
      have hj : j < its.toArray.size := by
        have : j < its.length := by omega
        simpa using this
      have at_ : ∀ (m : Nat) (hm : m < its.toArray.size) (z1 : PyData), ds[m]? = some z1 → SeqAt.readOf s.heap its.toArray[m] = z1 := by
        intro m hm z1 hz1
        have hml : m < its.length := by simpa using hm
        rw [← hmap, List.getElem?_map, List.getElem?_eq_getElem hml] at hz1
        have e1 : SeqAt.readOf s.heap its[m] = z1 := Option.some.inj (show some (SeqAt.readOf s.heap its[m]) = some z1 from hz1)
        simpa using e1
      refine call_meets PySem.F.slot_tuple_index ⟨_, ho, rfl⟩ PySem.F.entry_tuple_index (PySem.F.args_tuple_index_2 _ _)
        (TI.tuple_indexAt a its.toArray n dd sls uy (fun u => PyData.eqv (SeqAt.readOf s.heap u) d) j hj ?_ ?_) ⟨ho, SeqAt.items_eqAt (vs := its.toArray) (show ReadsAll s.heap its.toArray.toList ds as from rda) rdy lay (SeqAt.canLay_of_shaped sd) room, ?_⟩
      · show PyData.eqv (SeqAt.readOf s.heap its.toArray[j]) d = true
        rw [at_ j hj z hz]
        exact hzj
      · intro m hm hmj
        have hmd : m < ds.length := by omega
        have hz1 : ds[m]? = some ds[m] := List.getElem?_eq_getElem hmd
        show PyData.eqv (SeqAt.readOf s.heap its.toArray[m]) d = false
        rw [at_ m hm _ hz1]
        exact hno m _ hmj hz1
      · exact ⟨.int (j : Nat), H, I.tok _, ⟨_, rfl⟩, q⟩
end BW
/-! BwA: ratios in the heap, what evaluates to what, calls. -/
namespace BW
open PySem PySem.Spec PyProof.Rows L2 BC
open Evl (Ex)

def topS (i : Nat) : Stmt := PySem.Challenge.pw_blendcurves_k45_whole_least_bending.main.body.getD i (.Pass ⟨0, 0, 0, 0⟩)

/-! ### heaps -/
/-- all but the lists stands as it stood -/
def Tx (H H' : Hp) : Prop := ∀ a o, H a = some o → (∀ xs, o ≠ .lst xs) → H' a = some o
theorem Tx.refl (H : Hp) : Tx H H := fun _ _ h _ => h
theorem Tx.trans {H H1 H2 : Hp} (a : Tx H H1) (b : Tx H1 H2) : Tx H H2 := fun x o h n => b x o (a x o h n) n
theorem Tx.of {H H' : Hp} (e : Ex H H') : Tx H H' := fun a o h _ => e a o h
theorem Tx.set {H : Hp} {l : Addr} {xs ys : List V} (h : H l = some (.lst xs)) : Tx H (upd H l (.lst ys)) := fun a o ha n => by
  have ne : a ≠ l := fun z => by
    rw [z, h] at ha
    exact n xs (Option.some.inj ha).symm
  rw [upd_ne ne]
  exact ha
theorem Tx.new {H : Hp} {l : Addr} {o : HO} (h : H l = none) : Tx H (upd H l o) := Tx.of (Ex.new h)
theorem tx_t {K : PySem.W.Frag} {H H' : Hp} {a : Addr} {xs : List V} (e : Tx H H') (h : SqT K H a xs) : SqT K H' a xs := by
  rcases h with (h | ⟨o, h⟩) | h
  · exact .inl (.inl (e a _ h fun _ z => nomatch z))
  · exact .inl (.inr ⟨o, e a _ h fun _ z => nomatch z⟩)
  · exact .inr h

/-! ### a ratio -/
def RT (K : PySem.W.Frag) (H : Hp) (v : V) (q : Rat) : Prop := ∃ a, v = .ref a ∧ SqT K H a [.int q.num, .int (q.den : Int)]
theorem RT.tx {K : PySem.W.Frag} {H H' : Hp} {v : V} {q : Rat} (h : RT K H v q) (e : Tx H H') : RT K H' v q := by
  obtain ⟨a, rfl, h⟩ := h
  exact ⟨a, rfl, tx_t e h⟩
theorem RT.ex {K : PySem.W.Frag} {H H' : Hp} {v : V} {q : Rat} (h : RT K H v q) (e : Ex H H') : RT K H' v q := h.tx (.of e)
theorem RT.new {K : PySem.W.Frag} {H : Hp} {p : Addr} {n d : Int} {q : Rat} (hn : n = q.num) (hd : d = (q.den : Int)) : RT K (upd H p (.tup [.int n, .int d])) (.ref p) q := by
  subst hn hd
  exact ⟨p, rfl, .inl (.inl upd_same)⟩
/-- a row of ratios -/
def RTs (K : PySem.W.Frag) (H : Hp) (vs : List V) (qs : List Rat) : Prop := vs.length = qs.length ∧ ∀ i v, vs[i]? = some v → RT K H v (qs.getD i 0)
section
variable {K : PySem.W.Frag} {H H' : Hp} {vs ws : List V} {qs rs : List Rat} {v : V} {q : Rat}
theorem RTs.tx (h : RTs K H vs qs) (e : Tx H H') : RTs K H' vs qs := ⟨h.1, fun i v hv => (h.2 i v hv).tx e⟩
theorem RTs.ex (h : RTs K H vs qs) (e : Ex H H') : RTs K H' vs qs := h.tx (.of e)
theorem RTs.nil : RTs K H [] [] := ⟨rfl, fun i v hv => by simp at hv⟩
theorem RTs.get (h : RTs K H vs qs) {i : Nat} (hi : i < qs.length) : ∃ v, vs[i]? = some v ∧ RT K H v (qs.getD i 0) := by
  have hv : i < vs.length := by
    rw [h.1]
    exact hi
  exact ⟨vs[i], List.getElem?_eq_getElem hv, h.2 i _ (List.getElem?_eq_getElem hv)⟩
theorem RTs.app (h : RTs K H vs qs) (h2 : RTs K H ws rs) : RTs K H (vs ++ ws) (qs ++ rs) := by
  refine ⟨by rw [List.length_append, List.length_append, h.1, h2.1], fun i v hv => ?_⟩
  by_cases hi : i < vs.length
  · rw [List.getElem?_append_left hi] at hv
    have := h.2 i v hv
    rw [List.getD_eq_getElem?_getD] at this ⊢
    rw [List.getElem?_append_left (by rw [← h.1]; exact hi)]
    exact this
  · rw [List.getElem?_append_right (by omega)] at hv
    have := h2.2 _ v hv
    rw [List.getD_eq_getElem?_getD] at this ⊢
    rw [List.getElem?_append_right (by rw [← h.1]; omega), ← h.1]
    exact this
theorem RTs.one (h : RT K H v q) : RTs K H [v] [q] := ⟨rfl, fun i w hw => by
  cases i with
  | zero =>
    have e : v = w := by simpa using hw
    subst e
    exact h
  | succ i => simp at hw⟩
theorem RTs.cons (h : RT K H v q) (t : RTs K H vs qs) : RTs K H (v :: vs) (q :: qs) := (RTs.one h).app t
theorem RTs.snoc (t : RTs K H vs qs) (h : RT K H v q) : RTs K H (vs ++ [v]) (qs ++ [q]) := t.app (.one h)
theorem RTs.set (t : RTs K H vs qs) (i : Nat) (h : RT K H v q) : RTs K H (vs.set i v) (qs.set i q) := by
  refine ⟨by rw [List.length_set, List.length_set, t.1], fun j w hw => ?_⟩
  rw [List.getElem?_set] at hw
  rw [List.getD_eq_getElem?_getD, List.getElem?_set]
  by_cases e : i = j
  · rw [if_pos e] at hw ⊢
    subst e
    by_cases hi : i < vs.length
    · rw [if_pos hi] at hw
      rw [if_pos (by rw [← t.1]; exact hi)]
      have e2 : v = w := Option.some.inj hw
      subst e2
      exact h
    · rw [if_neg hi] at hw
      cases hw
  · rw [if_neg e] at hw ⊢
    have := t.2 j w hw
    rw [List.getD_eq_getElem?_getD] at this
    exact this
theorem RTs.take (t : RTs K H vs qs) (n : Nat) : RTs K H (vs.take n) (qs.take n) := by
  refine ⟨by rw [List.length_take, List.length_take, t.1], fun j w hw => ?_⟩
  by_cases h : j < n
  · rw [List.getElem?_take_of_lt h] at hw
    rw [List.getD_eq_getElem?_getD, List.getElem?_take_of_lt h, ← List.getD_eq_getElem?_getD]
    exact t.2 j w hw
  · rw [List.getElem?_take_eq_none (by omega)] at hw
    cases hw
theorem RTs.drop (t : RTs K H vs qs) (n : Nat) : RTs K H (vs.drop n) (qs.drop n) := by
  refine ⟨by rw [List.length_drop, List.length_drop, t.1], fun j w hw => ?_⟩
  rw [List.getElem?_drop] at hw
  rw [List.getD_eq_getElem?_getD, List.getElem?_drop, ← List.getD_eq_getElem?_getD]
  exact t.2 _ w hw
theorem RTs.rev (t : RTs K H vs qs) : RTs K H vs.reverse qs.reverse := by
  refine ⟨by rw [List.length_reverse, List.length_reverse, t.1], fun j w hw => ?_⟩
  have hj : j < vs.length := by
    have := (List.getElem?_eq_some_iff.mp hw).1
    simpa using this
  have hj2 : j < qs.length := by
    rw [← t.1]
    exact hj
  rw [List.getElem?_reverse hj] at hw
  rw [List.getD_eq_getElem?_getD, List.getElem?_reverse hj2, ← List.getD_eq_getElem?_getD, ← t.1]
  exact t.2 _ w hw
theorem RTs.rep (h : RT K H v q) (n : Nat) : RTs K H (List.replicate n v) (List.replicate n q) := by
  refine ⟨by rw [List.length_replicate, List.length_replicate], fun j w hw => ?_⟩
  rw [List.getElem?_replicate] at hw
  by_cases hj : j < n
  · rw [if_pos hj] at hw
    have e : v = w := Option.some.inj hw
    subst e
    rw [List.getD_eq_getElem?_getD, List.getElem?_replicate, if_pos hj]
    exact h
  · rw [if_neg hj] at hw
    cases hw
end
/-- a tuple of ratios -/
def PT (K : PySem.W.Frag) (H : Hp) (v : V) (qs : List Rat) : Prop := ∃ a vs, v = .ref a ∧ SqT K H a vs ∧ RTs K H vs qs
theorem PT.tx {K : PySem.W.Frag} {H H' : Hp} {v : V} {qs : List Rat} (h : PT K H v qs) (e : Tx H H') : PT K H' v qs := by
  obtain ⟨a, vs, rfl, h1, h2⟩ := h
  exact ⟨a, vs, rfl, tx_t e h1, h2.tx e⟩
theorem PT.ex {K : PySem.W.Frag} {H H' : Hp} {v : V} {qs : List Rat} (h : PT K H v qs) (e : Ex H H') : PT K H' v qs := h.tx (.of e)

/-! ### what evaluates to what -/
/-- what is wanted of an answer: whatever else is new -/
def Post (H : Hp) (Q : VK) (R : V → Hp → Prop) : Prop := ∀ v H', Ex H H' → R v H' → Q v H'
def EvR (te : TE) (σ : L2.St) (H : Hp) (R : V → Hp → Prop) : Prop := ∀ H1, Ex H H1 → ∀ Q : VK, Post H1 Q R → te σ H1 Q
def EvAR (ta : TA) (σ : L2.St) (H : Hp) (R : List V → Hp → Prop) : Prop := ∀ H1, Ex H H1 → ∀ Q : List V → Hp → Prop, (∀ vs H2, Ex H1 H2 → R vs H2 → Q vs H2) → ta σ H1 Q
abbrev EvQ (K : PySem.W.Frag) (te : TE) (σ : L2.St) (H : Hp) (q : Rat) : Prop := EvR te σ H fun v H' => RT K H' v q
def Mn (R : V → Hp → Prop) : Prop := ∀ v H H', Ex H H' → R v H → R v H'
theorem Post.ex {H H' : Hp} {Q : VK} {R : V → Hp → Prop} (p : Post H Q R) (e : Ex H H') : Post H' Q R := fun v H2 e2 r => p v H2 (e.trans e2) r
section
variable {K : PySem.W.Frag} {σ : L2.St} {H H' : Hp} {ta tb te : TE} {R R' : V → Hp → Prop} {v : V} {q a b : Rat}
theorem EvR.ex (h : EvR te σ H R) (e : Ex H H') : EvR te σ H' R := fun H1 e1 Q p => h H1 (e.trans e1) Q p
theorem EvR.imp (h : EvR te σ H R) (i : ∀ v H', Ex H H' → R v H' → R' v H') : EvR te σ H R' := fun H1 e1 Q p => h H1 e1 Q fun v H2 e2 r => p v H2 e2 (i v H2 (e1.trans e2) r)
theorem evr_ev (h : Evl.Ev te σ H v) (r : ∀ H', Ex H H' → R v H') : EvR te σ H R := fun H1 e1 Q p => h H1 e1 Q fun H2 e2 => p v H2 e2 (r H2 (e1.trans e2))
theorem evq_ev (h : Evl.Ev te σ H v) (r : RT K H v q) : EvQ K te σ H q := evr_ev h fun H' e => r.ex e
theorem evq_var {i : Nat} (h : σ[i]? = some (some v)) (r : RT K H v q) : EvQ K (tVar i) σ H q := evq_ev (Evl.ev_var h) r
theorem evq_c (r : RT K H v q) : EvQ K (tC v) σ H q := evq_ev Evl.ev_c r
theorem ear_nil : EvAR tNil σ H fun vs _ => vs = [] := fun H1 _ Q p => p [] H1 (Ex.refl H1) rfl
theorem ear_cons {tr : TA} {A : List V → Hp → Prop} (h : EvR ta σ H R) (m : Mn R) (hr : EvAR tr σ H A) : EvAR (tCons ta tr) σ H fun vs H' => ∃ v r, vs = v :: r ∧ R v H' ∧ A r H' := fun H1 e1 Q p =>
  h H1 e1 _ fun v H2 e2 r => hr H2 (e1.trans e2) _ fun vs H3 e3 ar => p (v :: vs) H3 (e2.trans e3) ⟨v, vs, rfl, m v H2 H3 e3 r, ar⟩
theorem evr_call {ta : TA} {sp : Sp} {A : List V → Hp → Prop} {E : XK} (h : EvAR ta σ H A) (hs : ∀ vs H1, Ex H H1 → A vs H1 → ∀ Q, Post H1 Q R → sp vs H1 Q E) : EvR (tCall sp [] E ta) σ H R := fun H1 e1 Q p =>
  h H1 e1 _ fun vs H2 e2 a => by
    rw [List.append_nil]
    exact hs vs H2 (e1.trans e2) a Q (p.ex e2)
theorem mn_q : Mn fun v H' => RT K H' v q := fun _ _ _ e r => r.ex e
theorem mn_eq {w : V} : Mn fun v _ => v = w := fun _ _ _ _ r => r
theorem mn_p {qs : List Rat} : Mn fun v H' => PT K H' v qs := fun _ _ _ e r => r.ex e
/-- as an exact value -/
theorem evr_is {w : V} (h : Evl.Ev te σ H w) : EvR te σ H fun v _ => v = w := evr_ev h fun _ _ => rfl
/-! statements -/
variable {D : Ends} {tz : TS}
theorem q_set {i : Nat} (h : EvR te σ H R) (k : ∀ v H1, Ex H H1 → R v H1 → tz D (σ.set i (some v)) H1) : tSeq (tAsg te (gName i)) tz D σ H := h H (Ex.refl H) _ fun v H1 e r => k v H1 e r
theorem s_set {i : Nat} (h : EvR te σ H R) (k : ∀ v H1, Ex H H1 → R v H1 → D.nx (σ.set i (some v)) H1) : tAsg te (gName i) D σ H := h H (Ex.refl H) _ fun v H1 e r => k v H1 e r
theorem s_ret (h : EvR te σ H R) (k : ∀ v H1, Ex H H1 → R v H1 → D.rt v H1) : tRet te D σ H := h H (Ex.refl H) _ fun v H1 e r => k v H1 e r
theorem q_par {i j : Nat} {R2 : V → Hp → Prop} (h : EvR ta σ H R) (m : Mn R) (h2 : EvR tb σ H R2) (k : ∀ v w H1, Ex H H1 → R v H1 → R2 w H1 → tz D ((σ.set i (some v)).set j (some w)) H1) : tSeq (tPar i j (tCons ta (tCons tb tNil))) tz D σ H :=
  h H (Ex.refl H) _ fun v H1 e r => h2 H1 e _ fun w H2 e2 r2 => ⟨v, w, rfl, k v w H2 (e.trans e2) (m v H1 H2 e2 r) r2⟩
/-! comparisons of ratios -/
end

/-! ### ratios as data -/
def qD (q : Rat) : PyData := .tuple [.int q.num, .int (q.den : Int)]
theorem q_inj {a b : Rat} (h1 : a.num = b.num) (h2 : a.den = b.den) : a = b := Rat.ext h1 h2
theorem qD_eqv (a b : Rat) : PyData.eqv (qD a) (qD b) = decide (a = b) := by
  have e : PyData.eqv (qD a) (qD b) = ((a.num == b.num) && (((a.den : Int) == (b.den : Int)) && true)) := by simp only [qD, PyData.eqv, PyData.eqvAll]
  rw [e]
  by_cases h : a = b
  · subst h
    simp
  · rw [decide_eq_false h]
    by_cases h1 : a.num = b.num
    · have h2 : ¬ (a.den : Int) = (b.den : Int) := fun z => h (q_inj h1 (by omega))
      rw [beq_eq_false_iff_ne.mpr h2, Bool.false_and, Bool.and_false]
    · rw [beq_eq_false_iff_ne.mpr h1, Bool.false_and]
theorem qD_depth (a : Rat) : (qD a).depth = 1 := by simp [qD, PyData.depth, PyData.depthAll]
theorem qD_lay (a : Rat) : (qD a).canLay0 = true := by simp [qD, PyData.canLay0, PyData.canLayAll0]
theorem qD_shaped (a : Rat) : SeqAt.shaped (qD a) = true := by
  have h := qD_depth a
  show ((qD a).canLay0 && decide ((qD a).depth ≤ 64)) = true
  rw [qD_lay, h]
  decide
theorem RT.dp {K : PySem.W.Frag} {H : Hp} {v : V} {q : Rat} (h : RT K H v q) : Dp K H v (qD q) := by
  obtain ⟨a, rfl, h⟩ := h
  exact .tup h (.cons (.int _) (.cons (.int _) .nil))
section
variable {K : PySem.W.Frag} {σ : L2.St} {H : Hp} {ta tb : TE} {a b : Rat}
theorem ev_eqQ (ha : EvQ K ta σ H a) (hb : EvQ K tb σ H b) : Evl.Ev (tOp (rEqD K) ta tb) σ H (.bl (decide (a = b))) := fun H1 e1 Q q =>
  ha H1 e1 _ fun v H2 e2 r => hb H2 (e1.trans e2) _ fun w H3 e3 r2 => ⟨qD a, qD b, (r.ex e3).dp, r2.dp, qD_shaped a, qD_shaped b, by
    rw [qD_eqv]
    exact q H3 (e2.trans e3)⟩
theorem ev_neQ (ha : EvQ K ta σ H a) (hb : EvQ K tb σ H b) : Evl.Ev (tOp (rNeD K) ta tb) σ H (.bl (!decide (a = b))) := fun H1 e1 Q q =>
  ha H1 e1 _ fun v H2 e2 r => hb H2 (e1.trans e2) _ fun w H3 e3 r2 => ⟨qD a, qD b, (r.ex e3).dp, r2.dp, qD_shaped a, qD_shaped b, by
    rw [qD_eqv]
    exact q H3 (e2.trans e3)⟩
end

/-! ### isinstance -/
theorem ty_tup {K : PySem.W.Frag} {H : Hp} {a : Addr} {xs : List V} (h : SqT K H a xs) : TyX K H (.ref a) (.type "tuple") := by
  rcases h with (h | ⟨o, h⟩) | ⟨o, its, n, h, hc, _⟩
  · exact .base (.tup h)
  · exact .fTuple h
  · exact .kTuple h hc
theorem ev_isi {K : PySem.W.Frag} {σ : L2.St} {H : Hp} {ta : TE} {x : V} {n m : String} {b : Bool} (ha : Evl.Ev ta σ H x) (ht : ∀ H', Ex H H' → TyX K H' x (.type n)) (hk : PySem.W.kitOne K (.type n) (.type m) = some b) : Evl.Ev (tCB (rIsi K) (tCons ta (tCons (tC (.ty m)) tNil))) σ H (.bl b) := fun H1 e1 Q q =>
  ha H1 e1 _ fun H2 e2 => ⟨x, .ty m, _, _, b, rfl, .ty m, ht H2 (e1.trans e2), hk, q H2 e2⟩
theorem ev_isiT {K : PySem.W.Frag} {σ : L2.St} {H : Hp} {ta : TE} {x : V} {n m1 m2 : String} {b : Bool} (ha : Evl.Ev ta σ H x) (ht : ∀ H', Ex H H' → TyX K H' x (.type n)) (hk : PySem.W.kitAny K (.type n) [.type m1, .type m2] = some b) :
    EvR (tCB (rIsiT K) (tCons ta (tCons (tTup (tCons (tC (.ty m1)) (tCons (tC (.ty m2)) tNil))) tNil))) σ H fun v _ => v = .bl b := fun H1 e1 Q p =>
  ha H1 e1 _ fun H2 e2 => ⟨by show 2 ≤ sizeLine; decide, fun t ht2 => ⟨x, t, _, _, _, b, rfl, upd_same, .cons (.ty m1) (.cons (.ty m2) .nil), ht _ ((e1.trans e2).trans (Ex.new ht2)), hk, p _ _ (e2.trans (Ex.new ht2)) rfl⟩⟩
theorem ev_lenS {K : PySem.W.Frag} {σ : L2.St} {H : Hp} {ta : TE} {p : Addr} {xs : List V} (ha : Evl.Ev ta σ H (.ref p)) (h : ∀ H', Ex H H' → SqL K H' p xs ∨ SqT K H' p xs) : Evl.Ev (tCB (Evl.rLenS K) (tCons ta tNil)) σ H (.int (xs.length : Int)) := fun H1 e1 Q q =>
  ha H1 e1 _ fun H2 e2 => ⟨p, xs, rfl, h H2 (e1.trans e2), q H2 e2⟩
theorem ev_lenT {K : PySem.W.Frag} {σ : L2.St} {H : Hp} {ta : TE} {p : Addr} {xs : List V} (ha : Evl.Ev ta σ H (.ref p)) (h : SqT K H p xs) : Evl.Ev (tCB (Evl.rLenS K) (tCons ta tNil)) σ H (.int (xs.length : Int)) := ev_lenS ha fun H' e => .inr (tx_t (.of e) h)
theorem ev_lenL {K : PySem.W.Frag} {σ : L2.St} {H : Hp} {ta : TE} {p : Addr} {xs : List V} (ha : Evl.Ev ta σ H (.ref p)) (h : SqL K H p xs) : Evl.Ev (tCB (Evl.rLenS K) (tCons ta tNil)) σ H (.int (xs.length : Int)) := ev_lenS ha fun H' e => .inl (Evl.ex_l e h)
theorem evr_B {te : TE} {σ : L2.St} {H : Hp} {b : Bool} (h : EvR te σ H fun v _ => v = .bl b) : Evl.EvT (tB te) σ H b := fun H1 e1 Q q => h H1 e1 _ fun v H2 e2 r => ⟨b, r, q H2 e2⟩
theorem evr_test {te : TE} {σ : L2.St} {H : Hp} {b : Bool} (h : EvR te σ H fun v _ => v = .bl b) : Evl.EvT (tTest te) σ H b := fun H1 e1 Q q => h H1 e1 _ fun v H2 e2 r => ⟨b, r, q H2 e2⟩
theorem ev_of {te : TE} {σ : L2.St} {H : Hp} {w : V} (h : EvR te σ H fun v _ => v = w) : Evl.Ev te σ H w := fun H1 e1 Q q => h H1 e1 Q fun v H2 e2 r => by
  rw [r]
  exact q H2 e2
theorem u65 {k : Nat} {A : Around} (hr : Room k A) : A.units + 65 < cLine := by
  have := hr.un
  omega

/-! ### calls of defs by their promises -/
structure Cl (P : Program) (w : World) (K : PySem.W.Frag) (mg : Str → Option Value) (base : Heap) (x : Str) (k : Nat) (ps : List Str) (sp : Sp) : Prop where
  ex : ∃ f fd, mg x = some (.ref f) ∧ FnOk P w K mg base CX0 k f fd ps sp ∧ PySem.W.keepIn K (.ref f) = true ∧ Binds K fd ps []
theorem Cl.mono {P : Program} {w : World} {K : PySem.W.Frag} {mg : Str → Option Value} {base : Heap} {x : Str} {k k' : Nat} {ps : List Str} {sp : Sp} (C : Cl P w K mg base x k ps sp) (h : k ≤ k') : Cl P w K mg base x k' ps sp := by
  obtain ⟨f, fd, h1, h2, h3, h4⟩ := C.ex
  exact ⟨f, fd, h1, h2.mono h, h3, h4⟩
theorem Cl.imp {P : Program} {w : World} {K : PySem.W.Frag} {mg : Str → Option Value} {base : Heap} {x : Str} {k : Nat} {ps : List Str} {sp sp' : Sp} (C : Cl P w K mg base x k ps sp) (h : ∀ vs H Q E, sp' vs H Q E → sp vs H Q E) : Cl P w K mg base x k ps sp' := by
  obtain ⟨f, fd, h1, h2, h3, h4⟩ := C.ex
  exact ⟨f, fd, h1, h2.imp h, h3, h4⟩
theorem pe_cl {X : Cx} {x : Str} {k : Nat} {ps : List Str} {sp : Sp} {p pos : Pos} {e : Expr} {es : List Expr} {t : TA} (C : Cl X.prog X.w X.K X.mg X.base x k ps sp) (hr : Room k X.A) (hg : Gl X x) (ha : PA X (e :: es) t)
    (he : starEach (e :: es) X.env = (false, eval e X.env) :: starEach es X.env := by rfl) (hpl : (backTo pos (starEach es X.env)).any (·.1) = false := by rfl) (hdb : (x == ("__debug__" : Str)) = false := by decide) : PE X (.Call (.Name x p) (e :: es) [] pos) (tCall sp [] E0 t) := by
  obtain ⟨f, fd, h1, h2, h3, h4⟩ := C.ex
  exact pe_call h2 hr hg h1 h3 h4 .nil pass0 ha hdb he hpl
end BW
/-! BwB: the defs of ratios. -/
namespace BW
open PySem PySem.Spec PyProof.Rows L2 BC
open Evl (Ex)

/-- what the top's names stand for -/
structure Top (K : PySem.W.Frag) (mg : Str → Option Value) (z o : Addr) (t6 t7 t8 t12 : Tok) : Prop where
  len : mg "len" = none
  isinstance : mg "isinstance" = none
  abs : mg "abs" = none
  all : mg "all" = none
  any : mg "any" = none
  max : mg "max" = none
  range : mg "range" = none
  enumerate : mg "enumerate" = none
  zip : mg "zip" = none
  int : mg "int" = none
  bool : mg "bool" = none
  tuple : mg "tuple" = none
  list : mg "list" = none
  str : mg "str" = none
  gcd : mg "gcd" = some (.builtin "math.gcd")
  zero : mg "ZERO" = some (.ref z)
  one : mg "ONE" = some (.ref o)
  zeroT : ∀ H, SqT K H z [.int 0, .int 1]
  oneT : ∀ H, SqT K H o [.int 1, .int 1]
  MOST_DEGREE : mg "MOST_DEGREE" = some (.int 12 t12)
  MOST_PIECES : mg "MOST_PIECES" = some (.int 8 t8)
  MOST_NODES : mg "MOST_NODES" = some (.int 7 t7)
  MOST_POWER : mg "MOST_POWER" = some (.int 6 t6)

/-! ### sizes -/
theorem Sm.zero : Sm 0 := ⟨by decide +kernel, by decide +kernel⟩
theorem cmul_nd {a b : Rat} (ha : Sm a) (hb : Sm b) : CMulW a.num (b.den : Int) := wide_mul (a := 3000) (b := 3000) ha.1 (by simpa using hb.2) (by decide) (by decide) (by decide)
theorem cmul_nn {a b : Rat} (ha : Sm a) (hb : Sm b) : CMulW a.num b.num := wide_mul (a := 3000) (b := 3000) ha.1 hb.1 (by decide) (by decide) (by decide)
theorem cmul_dd {a b : Rat} (ha : Sm a) (hb : Sm b) : CMulW (a.den : Int) (b.den : Int) := wide_mul (a := 3000) (b := 3000) (by simpa using ha.2) (by simpa using hb.2) (by decide) (by decide) (by decide)
theorem cmul_dn {a b : Rat} (ha : Sm a) (hb : Sm b) : CMulW (a.den : Int) b.num := wide_mul (a := 3000) (b := 3000) (by simpa using ha.2) hb.1 (by decide) (by decide) (by decide)
theorem lt_dd {a b : Rat} (ha : Sm a) (hb : Sm b) : ((a.den : Int) * (b.den : Int)).natAbs < 2 ^ 6000 := wide_lt (a := 3000) (b := 3000) (by simpa using ha.2) (by simpa using hb.2)
theorem lt_dn {a b : Rat} (ha : Sm a) (hb : Sm b) : ((a.den : Int) * b.num).natAbs < 2 ^ 6000 := wide_lt (a := 3000) (b := 3000) (by simpa using ha.2) hb.1

section
variable {P : Program} {w : World} {K : PySem.W.Frag} {mg : Str → Option Value} {base : Heap} {f z o : Addr} {fd : FuncData} {t6 t7 t8 t12 : Tok}

/-! ### promises -/
def spMade (K : PySem.W.Frag) : Sp := fun vs H Q _ => ∃ t l : Int, vs = [.int t, .int l] ∧ 0 < l ∧ l.natAbs < 2 ^ 6000 ∧ Post H Q fun v H' => RT K H' v (Rat.divInt t l)
/-- a rule of two ratios -/
def spBin (K : PySem.W.Frag) (dom : Rat → Rat → Prop) (g : Rat → Rat → Rat) : Sp := fun vs H Q _ => ∃ (x y : V) (a b : Rat), vs = [x, y] ∧ RT K H x a ∧ RT K H y b ∧ Sm a ∧ Sm b ∧ dom a b ∧ Post H Q fun v H' => RT K H' v (g a b)
abbrev anyD : Rat → Rat → Prop := fun _ _ => True
abbrev posD : Rat → Rat → Prop := fun _ b => 0 < b
abbrev spPlus (K : PySem.W.Frag) : Sp := spBin K anyD fun a b => a + b
abbrev spLess (K : PySem.W.Frag) : Sp := spBin K anyD fun a b => a - b
abbrev spTimes (K : PySem.W.Frag) : Sp := spBin K anyD fun a b => a * b
abbrev spOver (K : PySem.W.Frag) : Sp := spBin K posD fun a b => a / b
def spNeg (K : PySem.W.Frag) : Sp := fun vs H Q _ => ∃ (x : V) (a : Rat), vs = [x] ∧ RT K H x a ∧ Post H Q fun v H' => RT K H' v (-a)
def spBelow (K : PySem.W.Frag) : Sp := fun vs H Q _ => ∃ (x y : V) (a b : Rat), vs = [x, y] ∧ RT K H x a ∧ RT K H y b ∧ Sm a ∧ Sm b ∧ Post H Q fun v _ => v = .bl (decide (a < b))
theorem spBin_len {K : PySem.W.Frag} {dom : Rat → Rat → Prop} {g : Rat → Rat → Rat} {x y : Str} (vs : List V) (H : Hp) (Q : VK) (E : XK) (h : spBin K dom g vs H Q E) : vs.length = [x, y].length := by
  obtain ⟨_, _, _, _, rfl, _⟩ := h
  rfl

/-! ### made -/
theorem sc_made : FnScope ["top", "low", "part"] ["top", "low"] (defScope (topS 11)) := ⟨rfl, rfl, rfl, by decide +kernel, rfl, by decide +kernel, by decide +kernel⟩
theorem ok_made (F : Fun K "made" "made" (topS 11) f fd) (T : Top K mg z o t6 t7 t8 t12) : FnOk P w K mg base CX0 1 f fd ["top", "low"] (spMade K) := by
  have sc := sc_made
  refine F.ok sc (fun vs H Q E h => ?_) (fun cdv A outer s H vs Q E hr h => ?_)
  · obtain ⟨t, l, rfl, _⟩ := h
    rfl
  · obtain ⟨t, l, rfl, hl, hsz, q⟩ := h
    refine ⟨_, (pss_cons (ps_set (i := 2) sc.nd rfl (by first | exact Or.inl rfl | exact Or.inr rfl) (pe_callBfun cr_gcd (by rfl) T.gcd (pa_cons (pv 0) (pa_cons (pv 1) pa_nil))))
      (pss_cons (ps_if (pt_cmpR op_lt (pv 1) pe_int (nomark _))
        (pss_one (ps_set (i := 2) sc.nd rfl (by first | exact Or.inl rfl | exact Or.inr rfl) (pe_un un_neg (pv 2)))) pss_nil)
      (pss_one (ps_ret (pe_tup (pa_cons (pe_op op_fdivW (pv 0) (pv 2)) (pa_cons (pe_op op_fdivW (pv 1) (pv 2)) pa_nil))))))), ?_⟩
    have hg := gcd_pos (t := t) hl
    have hgl := gcd_le (t := t) hl
    refine ⟨_, rfl, _, rfl, t, l, rfl, ?_⟩
    refine ⟨_, rfl, l, 0, rfl, rfl, _, rfl, ite2 (fun e => absurd (of_decide_eq_true e) (by omega)) (fun _ => ?_)⟩
    have cd : ∀ i : Int, CDivW i ((Nat.gcd t.natAbs l.natAbs : Nat) : Int) := fun i => wide_div (b := 6000) hg (Nat.lt_of_le_of_lt hgl hsz) (by decide) (by decide)
    refine ⟨_, rfl, _, rfl, _, _, rfl, rfl, cd _, _, rfl, _, rfl, _, _, rfl, rfl, cd _, by show 2 ≤ sizeLine; decide, fun p hp => ?_⟩
    exact q _ _ (Ex.new hp) (RT.new (made_num hl) (made_den hl))

/-! ### plus, less, times, over -/
theorem made_call {hd : Ends} {t l : Int} {H : Hp} {Q : VK} {q : Rat} (hl : 0 < l) (hs : l.natAbs < 2 ^ 6000) (e : Rat.divInt t l = q) (h : Post H Q fun v H' => RT K H' v q) : spMade K ([V.int t, V.int l] ++ []) H Q E0 := by
  subst e
  exact ⟨t, l, rfl, hl, hs, h⟩
theorem sc_bin2 {k : Nat} (h : (defScope (topS k)).kind = .function ∧ (defScope (topS k)).isCoroutine = false ∧ (defScope (topS k)).isGenerator = false) : True := trivial
theorem sc_plus : FnScope ["one", "other"] ["one", "other"] (defScope (topS 12)) := ⟨rfl, rfl, rfl, by decide +kernel, rfl, by decide +kernel, by decide +kernel⟩
theorem ok_plus (F : Fun K "plus" "plus" (topS 12) f fd) (C_made : Cl P w K mg base "made" 1 ["top", "low"] (spMade K)) : FnOk P w K mg base CX0 2 f fd ["one", "other"] (spPlus K) := by
  have sc := sc_plus
  refine F.ok sc spBin_len (fun cdv A outer s H vs Q E hr h => ?_)
  obtain ⟨x, y, a, b, rfl, ⟨p, rfl, ha⟩, ⟨r, rfl, hb⟩, sa, sb, _, q⟩ := h
  refine ⟨_, (pss_one (ps_ret (pe_cl C_made hr (by rfl) (pa_cons (pe_op op_add (pe_op op_mulW (pe_ix ix_tup (pv 0) pe_int (fun _ _ => rfl)) (pe_ix ix_tup (pv 1) pe_int (fun _ _ => rfl))) (pe_op op_mulW (pe_ix ix_tup (pv 1) pe_int (fun _ _ => rfl)) (pe_ix ix_tup (pv 0) pe_int (fun _ _ => rfl)))) (pa_cons (pe_op op_mulW (pe_ix ix_tup (pv 0) pe_int (fun _ _ => rfl)) (pe_ix ix_tup (pv 1) pe_int (fun _ _ => rfl))) pa_nil))))), ?_⟩
  refine ⟨_, rfl, p, _, 0, _, rfl, rfl, ha, rfl, _, rfl, r, _, 1, _, rfl, rfl, hb, rfl, _, _, rfl, rfl, cmul_nd sa sb, ?_⟩
  refine ⟨_, rfl, r, _, 0, _, rfl, rfl, hb, rfl, _, rfl, p, _, 1, _, rfl, rfl, ha, rfl, _, _, rfl, rfl, cmul_nd sb sa, _, _, rfl, rfl, ?_⟩
  refine ⟨_, rfl, p, _, 1, _, rfl, rfl, ha, rfl, _, rfl, r, _, 1, _, rfl, rfl, hb, rfl, _, _, rfl, rfl, cmul_dd sa sb, ?_⟩
  exact ⟨_, _, rfl, prod_pos a b, lt_dd sa sb, by rw [add_di]; exact q⟩
theorem sc_less : FnScope ["one", "other"] ["one", "other"] (defScope (topS 13)) := ⟨rfl, rfl, rfl, by decide +kernel, rfl, by decide +kernel, by decide +kernel⟩
theorem ok_less (F : Fun K "less" "less" (topS 13) f fd) (C_made : Cl P w K mg base "made" 1 ["top", "low"] (spMade K)) : FnOk P w K mg base CX0 2 f fd ["one", "other"] (spLess K) := by
  have sc := sc_less
  refine F.ok sc spBin_len (fun cdv A outer s H vs Q E hr h => ?_)
  obtain ⟨x, y, a, b, rfl, ⟨p, rfl, ha⟩, ⟨r, rfl, hb⟩, sa, sb, _, q⟩ := h
  refine ⟨_, (pss_one (ps_ret (pe_cl C_made hr (by rfl) (pa_cons (pe_op op_sub (pe_op op_mulW (pe_ix ix_tup (pv 0) pe_int (fun _ _ => rfl)) (pe_ix ix_tup (pv 1) pe_int (fun _ _ => rfl))) (pe_op op_mulW (pe_ix ix_tup (pv 1) pe_int (fun _ _ => rfl)) (pe_ix ix_tup (pv 0) pe_int (fun _ _ => rfl)))) (pa_cons (pe_op op_mulW (pe_ix ix_tup (pv 0) pe_int (fun _ _ => rfl)) (pe_ix ix_tup (pv 1) pe_int (fun _ _ => rfl))) pa_nil))))), ?_⟩
  refine ⟨_, rfl, p, _, 0, _, rfl, rfl, ha, rfl, _, rfl, r, _, 1, _, rfl, rfl, hb, rfl, _, _, rfl, rfl, cmul_nd sa sb, ?_⟩
  refine ⟨_, rfl, r, _, 0, _, rfl, rfl, hb, rfl, _, rfl, p, _, 1, _, rfl, rfl, ha, rfl, _, _, rfl, rfl, cmul_nd sb sa, _, _, rfl, rfl, ?_⟩
  refine ⟨_, rfl, p, _, 1, _, rfl, rfl, ha, rfl, _, rfl, r, _, 1, _, rfl, rfl, hb, rfl, _, _, rfl, rfl, cmul_dd sa sb, ?_⟩
  exact ⟨_, _, rfl, prod_pos a b, lt_dd sa sb, by rw [sub_di]; exact q⟩
theorem sc_times : FnScope ["one", "other"] ["one", "other"] (defScope (topS 14)) := ⟨rfl, rfl, rfl, by decide +kernel, rfl, by decide +kernel, by decide +kernel⟩
theorem ok_times (F : Fun K "times" "times" (topS 14) f fd) (C_made : Cl P w K mg base "made" 1 ["top", "low"] (spMade K)) : FnOk P w K mg base CX0 2 f fd ["one", "other"] (spTimes K) := by
  have sc := sc_times
  refine F.ok sc spBin_len (fun cdv A outer s H vs Q E hr h => ?_)
  obtain ⟨x, y, a, b, rfl, ⟨p, rfl, ha⟩, ⟨r, rfl, hb⟩, sa, sb, _, q⟩ := h
  refine ⟨_, (pss_one (ps_ret (pe_cl C_made hr (by rfl) (pa_cons (pe_op op_mulW (pe_ix ix_tup (pv 0) pe_int (fun _ _ => rfl)) (pe_ix ix_tup (pv 1) pe_int (fun _ _ => rfl))) (pa_cons (pe_op op_mulW (pe_ix ix_tup (pv 0) pe_int (fun _ _ => rfl)) (pe_ix ix_tup (pv 1) pe_int (fun _ _ => rfl))) pa_nil))))), ?_⟩
  refine ⟨_, rfl, p, _, 0, _, rfl, rfl, ha, rfl, _, rfl, r, _, 0, _, rfl, rfl, hb, rfl, _, _, rfl, rfl, cmul_nn sa sb, ?_⟩
  refine ⟨_, rfl, p, _, 1, _, rfl, rfl, ha, rfl, _, rfl, r, _, 1, _, rfl, rfl, hb, rfl, _, _, rfl, rfl, cmul_dd sa sb, ?_⟩
  exact ⟨_, _, rfl, prod_pos a b, lt_dd sa sb, by rw [mul_di]; exact q⟩
theorem sc_over : FnScope ["one", "other"] ["one", "other"] (defScope (topS 15)) := ⟨rfl, rfl, rfl, by decide +kernel, rfl, by decide +kernel, by decide +kernel⟩
theorem ok_over (F : Fun K "over" "over" (topS 15) f fd) (C_made : Cl P w K mg base "made" 1 ["top", "low"] (spMade K)) : FnOk P w K mg base CX0 2 f fd ["one", "other"] (spOver K) := by
  have sc := sc_over
  refine F.ok sc spBin_len (fun cdv A outer s H vs Q E hr h => ?_)
  obtain ⟨x, y, a, b, rfl, ⟨p, rfl, ha⟩, ⟨r, rfl, hb⟩, sa, sb, hd, q⟩ := h
  refine ⟨_, (pss_one (ps_ret (pe_cl C_made hr (by rfl) (pa_cons (pe_op op_mulW (pe_ix ix_tup (pv 0) pe_int (fun _ _ => rfl)) (pe_ix ix_tup (pv 1) pe_int (fun _ _ => rfl))) (pa_cons (pe_op op_mulW (pe_ix ix_tup (pv 0) pe_int (fun _ _ => rfl)) (pe_ix ix_tup (pv 1) pe_int (fun _ _ => rfl))) pa_nil))))), ?_⟩
  refine ⟨_, rfl, p, _, 0, _, rfl, rfl, ha, rfl, _, rfl, r, _, 1, _, rfl, rfl, hb, rfl, _, _, rfl, rfl, cmul_nd sa sb, ?_⟩
  refine ⟨_, rfl, p, _, 1, _, rfl, rfl, ha, rfl, _, rfl, r, _, 0, _, rfl, rfl, hb, rfl, _, _, rfl, rfl, cmul_dn sa sb, ?_⟩
  exact ⟨_, _, rfl, over_pos hd, lt_dn sa sb, by rw [div_di]; exact q⟩
theorem sc_negative : FnScope ["one"] ["one"] (defScope (topS 16)) := ⟨rfl, rfl, rfl, by decide +kernel, rfl, by decide +kernel, by decide +kernel⟩
theorem ok_negative (F : Fun K "negative" "negative" (topS 16) f fd) : FnOk P w K mg base CX0 1 f fd ["one"] (spNeg K) := by
  have sc := sc_negative
  refine F.ok sc (fun vs H Q E h => ?_) (fun cdv A outer s H vs Q E hr h => ?_)
  · obtain ⟨_, _, rfl, _⟩ := h
    rfl
  · obtain ⟨x, a, rfl, ⟨p, rfl, ha⟩, q⟩ := h
    refine ⟨_, (pss_one (ps_ret (pe_tup (pa_cons (pe_un un_neg (pe_ix ix_tup (pv 0) pe_int (fun _ _ => rfl))) (pa_cons (pe_ix ix_tup (pv 0) pe_int (fun _ _ => rfl)) pa_nil))))), ?_⟩
    refine ⟨_, rfl, p, _, 0, _, rfl, rfl, ha, rfl, _, rfl, _, rfl, p, _, 1, _, rfl, rfl, ha, rfl, by show 2 ≤ sizeLine; decide, fun r hp => ?_⟩
    exact q _ _ (Ex.new hp) (RT.new rfl rfl)
theorem sc_is_below : FnScope ["one", "other"] ["one", "other"] (defScope (topS 17)) := ⟨rfl, rfl, rfl, by decide +kernel, rfl, by decide +kernel, by decide +kernel⟩
theorem ok_is_below (F : Fun K "is_below" "is_below" (topS 17) f fd) : FnOk P w K mg base CX0 1 f fd ["one", "other"] (spBelow K) := by
  have sc := sc_is_below
  refine F.ok sc (fun vs H Q E h => ?_) (fun cdv A outer s H vs Q E hr h => ?_)
  · obtain ⟨_, _, _, _, rfl, _⟩ := h
    rfl
  · obtain ⟨x, y, a, b, rfl, ⟨p, rfl, ha⟩, ⟨r, rfl, hb⟩, sa, sb, q⟩ := h
    refine ⟨_, (pss_one (ps_ret (pe_cmpR op_lt (pe_op op_mulW (pe_ix ix_tup (pv 0) pe_int (fun _ _ => rfl)) (pe_ix ix_tup (pv 1) pe_int (fun _ _ => rfl))) (pe_op op_mulW (pe_ix ix_tup (pv 1) pe_int (fun _ _ => rfl)) (pe_ix ix_tup (pv 0) pe_int (fun _ _ => rfl))) (nomark _)))), ?_⟩
    refine ⟨_, rfl, p, _, 0, _, rfl, rfl, ha, rfl, _, rfl, r, _, 1, _, rfl, rfl, hb, rfl, _, _, rfl, rfl, cmul_nd sa sb, ?_⟩
    refine ⟨_, rfl, r, _, 0, _, rfl, rfl, hb, rfl, _, rfl, p, _, 1, _, rfl, rfl, ha, rfl, _, _, rfl, rfl, cmul_nd sb sa, _, _, rfl, rfl, ?_⟩
    refine q _ _ (Ex.refl H) ?_
    show V.bl (decide (a.num * (b.den : Int) < b.num * (a.den : Int))) = V.bl (decide (a < b))
    have e := Rat.lt_iff a b
    by_cases h : a < b
    · rw [decide_eq_true h, decide_eq_true (e.mp h)]
    · rw [decide_eq_false h, decide_eq_false (fun z => h (e.mpr z))]

/-! ### is_int, is_ratio, are_ratios -/
def spIsInt : Sp := fun vs H Q _ => ∃ i : Int, vs = [.int i] ∧ Post H Q fun v _ => v = .bl true
def spIsRatio (K : PySem.W.Frag) : Sp := fun vs H Q _ => ∃ (x : V) (q : Rat), vs = [x] ∧ RT K H x q ∧ Post H Q fun v _ => v = .bl true
def spAre (K : PySem.W.Frag) : Sp := fun vs H Q _ => ∃ (x : V) (qs : List Rat), vs = [x, .int (qs.length : Int)] ∧ PT K H x qs ∧ qs.length ≤ 1000 ∧ Post H Q fun v _ => v = .bl true
theorem sc_is_int : FnScope ["value"] ["value"] (defScope (topS 9)) := ⟨rfl, rfl, rfl, by decide +kernel, rfl, by decide +kernel, by decide +kernel⟩
theorem ok_is_int (F : Fun K "is_int" "is_int" (topS 9) f fd) (T : Top K mg z o t6 t7 t8 t12) : FnOk P w K mg base CX0 1 f fd ["value"] spIsInt := by
  have sc := sc_is_int
  refine F.ok sc (fun vs H Q E h => ?_) (fun cdv A outer s H vs Q E hr h => ?_)
  · obtain ⟨_, rfl, _⟩ := h
    rfl
  · obtain ⟨i, rfl, q⟩ := h
    refine ⟨_, (pss_one (ps_ret (pe_and (pe_callB call_isi (by rfl) T.isinstance (by decide +kernel) (pa_cons (pv 0) (pa_cons (pe_bltn (v := .ty "int") (by rfl) T.int (by decide +kernel) rfl) pa_nil))) (pe_one (pe_not (pe_callB call_isi (by rfl) T.isinstance (by decide +kernel) (pa_cons (pv 0) (pa_cons (pe_bltn (v := .ty "bool") (by rfl) T.bool (by decide +kernel) rfl) pa_nil)))))))), ?_⟩
    refine s_ret (evr_is (Evl.ev_andV (a := true) (b := true) (ev_isi (Evl.ev_var rfl) (fun _ _ => .base (.int i)) (kit_ty (by decide +kernel))) fun _ => Evl.ev_notV (a := false) (ev_isi (Evl.ev_var rfl) (fun _ _ => .base (.int i)) (kit_ty (by decide +kernel))))) fun v H1 e r => q v H1 e r
theorem sc_is_ratio : FnScope ["value"] ["value"] (defScope (topS 10)) := ⟨rfl, rfl, rfl, by decide +kernel, rfl, by decide +kernel, by decide +kernel⟩
theorem ev_isint {σ : L2.St} {H : Hp} {ta : TE} {i : Int} (h : Evl.Ev ta σ H (.int i)) : Evl.Ev (tCall spIsInt [] E0 (tCons ta tNil)) σ H (.bl true) :=
  ev_of (evr_call (ear_cons (evr_is h) mn_eq ear_nil) fun vs H1 _ hv Q p => by
    obtain ⟨v, r, rfl, rfl, rfl⟩ := hv
    exact ⟨i, rfl, p⟩)
theorem ok_is_ratio (F : Fun K "is_ratio" "is_ratio" (topS 10) f fd) (T : Top K mg z o t6 t7 t8 t12) (C_is_int : Cl P w K mg base "is_int" 1 ["value"] spIsInt) : FnOk P w K mg base CX0 2 f fd ["value"] (spIsRatio K) := by
  have sc := sc_is_ratio
  refine F.ok sc (fun vs H Q E h => ?_) (fun cdv A outer s H vs Q E hr h => ?_)
  · obtain ⟨_, _, rfl, _⟩ := h
    rfl
  · obtain ⟨x, a, rfl, ⟨p, rfl, ha⟩, q⟩ := h
    refine ⟨_, (pss_cons (ps_if (PW.pt (pw_or (pt_not (pt_val (pe_callB call_isi (by rfl) T.isinstance (by decide +kernel) (pa_cons (pv 0) (pa_cons (pe_bltn (v := .ty "tuple") (by rfl) T.tuple (by decide +kernel) rfl) pa_nil))))) (pw_or (pt_cmpR op_ne (pe_callB call_len_seq (by rfl) T.len (by decide +kernel) (pa_cons (pv 0) pa_nil)) pe_int (nomark _)) (pw_or (pt_not (pt_val (pe_cl C_is_int hr (by rfl) (pa_cons (pe_ix ix_tup (pv 0) pe_int (fun _ _ => rfl)) pa_nil)))) (pw_or1 (pt_not (pt_val (pe_cl C_is_int hr (by rfl) (pa_cons (pe_ix ix_tup (pv 0) pe_int (fun _ _ => rfl)) pa_nil)))))))))
      (pss_one (ps_ret pe_bl)) pss_nil)
    (pss_one (ps_ret (pe_and (pe_cmpR op_gt (pe_ix ix_tup (pv 0) pe_int (fun _ _ => rfl)) pe_int (nomark _)) (pe_one (pe_cmpR op_eq (pe_callBfun cr_gcd (by rfl) T.gcd (pa_cons (pe_ix ix_tup (pv 0) pe_int (fun _ _ => rfl)) (pa_cons (pe_ix ix_tup (pv 0) pe_int (fun _ _ => rfl)) pa_nil))) pe_int (nomark _))))))), ?_⟩
    have i0 : Evl.Ev (tOp (rIxT K) (tVar 0) (tC (.int 0))) (start ["value"] [.ref p]) H (.int a.num) := Evl.ev_op (Evl.ev_var rfl) Evl.ev_c (Evl.rv_ixT ha rfl)
    have i1 : Evl.Ev (tOp (rIxT K) (tVar 0) (tC (.int 1))) (start ["value"] [.ref p]) H (.int (a.den : Int)) := Evl.ev_op (Evl.ev_var rfl) Evl.ev_c (Evl.rv_ixT ha rfl)
    refine Evl.q_when (b := false) ?_ (fun h => nomatch h) fun _ H1 e1 => ?_
    · refine Evl.et_or (a := false) (b := false) (Evl.et_not (a := true) (Evl.et_B (ev_isi (Evl.ev_var rfl) (fun _ e => ty_tup (tx_t (.of e) ha)) (kit_ty (by decide +kernel))))) fun _ => ?_
      refine Evl.et_or (a := false) (b := false) (Evl.et_test (Evl.ev_is (Evl.ev_op (ev_lenT (Evl.ev_var rfl) ha) Evl.ev_c (Evl.rv_ne rfl)) rfl)) fun _ => ?_
      refine Evl.et_or (a := false) (b := false) (Evl.et_not (a := true) (Evl.et_B (ev_isint i0))) fun _ => ?_
      exact Evl.et_not (a := true) (Evl.et_B (ev_isint i1))
    · have d0 : decide ((0 : Int) < (a.den : Int)) = true := decide_eq_true (dpos a)
      refine s_ret (evr_is (Evl.ev_andV (a := true) (b := true) ?_ fun _ => ?_)) fun v H2 e2 r => q v H2 (e1.trans e2) r
      · exact Evl.ev_is (Evl.ev_op (i1.mono e1) Evl.ev_c Evl.rv_I0) (by rw [d0])
      · refine Evl.ev_is (Evl.ev_op (x := .int 1) (fun H2 e2 Q qq => ?_) Evl.ev_c (Evl.rv_eq rfl)) (by rfl)
        refine i0 H2 (e1.trans e2) _ fun H3 e3 => i1 H3 ((e1.trans e2).trans e3) _ fun H4 e4 => ⟨_, _, rfl, ?_⟩
        have g1 : ((Nat.gcd a.num.natAbs ((a.den : Nat) : Int).natAbs : Nat) : Int) = 1 := by rw [red1]; rfl
        rw [g1]
        exact qq H4 (e3.trans e4)
theorem ev_isratio {σ : L2.St} {H : Hp} {ta : TE} {q : Rat} (h : EvQ K ta σ H q) : Evl.Ev (tCall (spIsRatio K) [] E0 (tCons ta tNil)) σ H (.bl true) :=
  ev_of (evr_call (ear_cons h mn_q ear_nil) fun vs H1 _ hv Q p => by
    obtain ⟨v, r, rfl, hr, rfl⟩ := hv
    exact ⟨v, q, rfl, hr, p⟩)
/-- all([is_ratio(one) for one in value]) -/
theorem ev_allRatios {σ : L2.St} {H : Hp} {i j : Nat} {p : Addr} {vs : List V} {qs : List Rat} (hi : σ[i]? = some (some (.ref p))) (hp : SqT K H p vs) (hv : RTs K H vs qs) (hlen : qs.length ≤ 1000)
    (hj : ∀ x, ((wipe σ [j]).set j (some x))[j]? = some (some x)) (hw : ∀ x, wipe ((wipe σ [j]).set j (some x)) [j] = wipe σ [j]) :
    Evl.Ev (tCB (rAll K) (tCons (tLc (iTup K (tVar i)) (gName j) tYes (tCall (spIsRatio K) [] E0 (tCons (tVar j) tNil)) [j]) tNil)) σ H (.bl true) := fun H1 e1 Q q => by
  refine ⟨_, hi, p, rfl, ⟨vs, tx_t (.of e1) hp⟩, fun D hD => ?_⟩
  refine lc_tup (xs := vs) (fun n H' => Ex H1 H' ∧ H' D = some (.lst (List.replicate n (.bl true)))) ⟨Ex.new hD, upd_same⟩ (fun n H' _ h => tx_t (.of (e1.trans h.1)) hp) (fun n x H' hx h => ?_) fun H' h => ?_
  · refine ⟨hw x, ?_⟩
    have hn := (List.getElem?_eq_some_iff.mp hx).1
    have hl := hv.1
    refine ev_isratio (evq_var (hj x) ((hv.2 n x hx).ex (e1.trans h.1))) H' (Ex.refl H') _ fun H3 e3 => ⟨_, e3 D _ h.2, small1000 (by rw [List.length_replicate]; omega), (h.1.trans e3).mut hD, ?_⟩
    rw [upd_same, List.replicate_succ']
  · refine ⟨D, List.replicate vs.length true, rfl, ?_, ?_⟩
    · rw [List.map_replicate]
      exact .inl (.inl h.2)
    · have ea : (List.replicate vs.length true).all id = true := by simp
      rw [ea]
      exact q H' h.1
theorem sc_are_ratios : FnScope ["value", "many", "one"] ["value", "many"] (defScope (topS 19)) := ⟨rfl, rfl, rfl, by decide +kernel, rfl, by decide +kernel, by decide +kernel⟩
theorem ok_are_ratios (F : Fun K "are_ratios" "are_ratios" (topS 19) f fd) (T : Top K mg z o t6 t7 t8 t12) (C_is_ratio : Cl P w K mg base "is_ratio" 2 ["value"] (spIsRatio K)) : FnOk P w K mg base CX0 3 f fd ["value", "many"] (spAre K) := by
  have sc := sc_are_ratios
  refine F.ok sc (fun vs H Q E h => ?_) (fun cdv A outer s H vs Q E hr h => ?_)
  · obtain ⟨_, _, rfl, _⟩ := h
    rfl
  · obtain ⟨x, qs, rfl, ⟨p, vs, rfl, hp, hv⟩, hlen, q⟩ := h
    refine ⟨_, (pss_one (ps_ret (pe_and (pe_callB call_isi (by rfl) T.isinstance (by decide +kernel) (pa_cons (pv 0) (pa_cons (pe_bltn (v := .ty "tuple") (by rfl) T.tuple (by decide +kernel) rfl) pa_nil))) (pe_and (pe_cmpR op_eq (pe_callB call_len_seq (by rfl) T.len (by decide +kernel) (pa_cons (pv 0) pa_nil)) (pv 1) (nomark _)) (pe_one (pe_callB (cr_all rfl) (by rfl) T.all (by decide +kernel) (pa_cons (pe_lc (own := [("one", 2)]) (g := gName 2) (tt := tYes) rfl sc.nd (pi_tup (pv 0)) (blkOk_by (own := [("one", 2)]) (N := ["value", "many", "one"]) (sc := (defScope (topS 19))) (by decide +kernel)) (fun _ _ _ _ _ => (pg_name (i := 2) sc.nd rfl (Or.inl rfl))) (fun _ _ _ _ _ => pts_nil) (fun _ _ _ _ _ => (pe_cl C_is_ratio hr (by rfl) (pa_cons (pv 2) pa_nil)))) pa_nil))))))), ?_⟩
    have dl : decide (V.int (vs.length : Int) = V.int (qs.length : Int)) = true := decide_eq_true (by rw [hv.1])
    refine s_ret (evr_is (Evl.ev_andV (a := true) (b := true) (ev_isi (Evl.ev_var rfl) (fun _ e => ty_tup (tx_t (.of e) hp)) (kit_ty (by decide +kernel))) fun _ => Evl.ev_andV (a := true) (b := true) ?_ fun _ => ?_)) fun v H2 e2 r => q v H2 e2 r
    · exact Evl.ev_is (Evl.ev_op (ev_lenT (Evl.ev_var rfl) hp) (Evl.ev_var rfl) (Evl.rv_eq rfl)) (by rw [dl])
    · exact ev_allRatios rfl hp hv hlen (fun _ => rfl) fun _ => rfl

/-! ### total -/
theorem evq_bin {σ : L2.St} {H : Hp} {ta tb : TE} {a b : Rat} {dom : Rat → Rat → Prop} {g : Rat → Rat → Rat} (ha : EvQ K ta σ H a) (hb : EvQ K tb σ H b) (sa : Sm a) (sb : Sm b) (hd : dom a b) : EvQ K (tCall (spBin K dom g) [] E0 (tCons ta (tCons tb tNil))) σ H (g a b) :=
  evr_call (ear_cons ha mn_q (ear_cons hb mn_q ear_nil)) fun vs H1 _ hv Q p => by
    obtain ⟨v, r, rfl, hr, v2, r2, rfl, hr2, rfl⟩ := hv
    exact ⟨v, v2, a, b, rfl, hr, hr2, sa, sb, hd, p⟩
theorem evq_plus {σ : L2.St} {H : Hp} {ta tb : TE} {a b : Rat} (ha : EvQ K ta σ H a) (hb : EvQ K tb σ H b) (sa : Sm a) (sb : Sm b) : EvQ K (tCall (spPlus K) [] E0 (tCons ta (tCons tb tNil))) σ H (a + b) := evq_bin ha hb sa sb trivial
theorem evq_less {σ : L2.St} {H : Hp} {ta tb : TE} {a b : Rat} (ha : EvQ K ta σ H a) (hb : EvQ K tb σ H b) (sa : Sm a) (sb : Sm b) : EvQ K (tCall (spLess K) [] E0 (tCons ta (tCons tb tNil))) σ H (a - b) := evq_bin ha hb sa sb trivial
theorem evq_times {σ : L2.St} {H : Hp} {ta tb : TE} {a b : Rat} (ha : EvQ K ta σ H a) (hb : EvQ K tb σ H b) (sa : Sm a) (sb : Sm b) : EvQ K (tCall (spTimes K) [] E0 (tCons ta (tCons tb tNil))) σ H (a * b) := evq_bin ha hb sa sb trivial
theorem evq_over {σ : L2.St} {H : Hp} {ta tb : TE} {a b : Rat} (ha : EvQ K ta σ H a) (hb : EvQ K tb σ H b) (sa : Sm a) (sb : Sm b) (h : 0 < b) : EvQ K (tCall (spOver K) [] E0 (tCons ta (tCons tb tNil))) σ H (a / b) := evq_bin ha hb sa sb h
theorem evq_neg {σ : L2.St} {H : Hp} {ta : TE} {a : Rat} (ha : EvQ K ta σ H a) : EvQ K (tCall (spNeg K) [] E0 (tCons ta tNil)) σ H (-a) :=
  evr_call (ear_cons ha mn_q ear_nil) fun vs H1 _ hv Q p => by
    obtain ⟨v, r, rfl, hr, rfl⟩ := hv
    exact ⟨v, a, rfl, hr, p⟩
theorem ev_below {σ : L2.St} {H : Hp} {ta tb : TE} {a b : Rat} (ha : EvQ K ta σ H a) (hb : EvQ K tb σ H b) (sa : Sm a) (sb : Sm b) : Evl.Ev (tCall (spBelow K) [] E0 (tCons ta (tCons tb tNil))) σ H (.bl (decide (a < b))) :=
  ev_of (evr_call (ear_cons ha mn_q (ear_cons hb mn_q ear_nil)) fun vs H1 _ hv Q p => by
    obtain ⟨v, r, rfl, hr, v2, r2, rfl, hr2, rfl⟩ := hv
    exact ⟨v, v2, a, b, rfl, hr, hr2, sa, sb, p⟩)
/-- (n, 1) as written -/
theorem evq_pair {σ : L2.St} {H : Hp} {ta tb : TE} {n d : Int} {q : Rat} (ha : Evl.Ev ta σ H (.int n)) (hb : Evl.Ev tb σ H (.int d)) (hn : n = q.num) (hd : d = (q.den : Int)) : EvQ K (tTup (tCons ta (tCons tb tNil))) σ H q := fun H1 e1 Q p =>
  ha H1 e1 _ fun H2 e2 => hb H2 (e1.trans e2) _ fun H3 e3 => ⟨by show 2 ≤ sizeLine; decide, fun r hr => p _ _ ((e2.trans e3).trans (Ex.new hr)) (RT.new hn hd)⟩
theorem Top.rz (T : Top K mg z o t6 t7 t8 t12) (H : Hp) : RT K H (.ref z) 0 := ⟨z, rfl, T.zeroT H⟩
theorem Top.ro (T : Top K mg z o t6 t7 t8 t12) (H : Hp) : RT K H (.ref o) 1 := ⟨o, rfl, T.oneT H⟩
/-- how great the numbers may be -/
structure Bd (d e : Nat) : Prop where
  pos : 0 < d
  dm : d ≤ 2 ^ 320
  em : e ≤ 195
theorem Bd.sm {d e e' : Nat} (B : Bd d e) {q : Rat} (h : Gd d e' q) (he : e' ≤ e) : Sm q := h.sm B.pos B.dm (Nat.le_trans he B.em)
theorem Bd.sm1 {d e e' : Nat} (B : Bd d e) {q : Rat} (h : Gd 1 e' q) (he : e' ≤ e) : Sm q := B.sm (h.up1 (Nat.le_refl _) B.pos) he
def spTotal (K : PySem.W.Frag) : Sp := fun vs H Q _ => ∃ (l : Addr) (ws : List V) (qs : List Rat) (d e : Nat), vs = [.ref l] ∧ SqL K H l ws ∧ RTs K H ws qs ∧ (∀ q ∈ qs, Gd d e q) ∧ Bd d (e + qs.length + 1) ∧ Post H Q fun v H' => RT K H' v (totN (fun i => qs.getD i 0) qs.length)
theorem sc_total : FnScope ["some", "found", "one"] ["some"] (defScope (topS 18)) := ⟨rfl, rfl, rfl, by decide +kernel, rfl, by decide +kernel, by decide +kernel⟩
theorem ok_total (F : Fun K "total" "total" (topS 18) f fd) (T : Top K mg z o t6 t7 t8 t12) (C_plus : Cl P w K mg base "plus" 2 ["one", "other"] (spPlus K)) : FnOk P w K mg base CX0 3 f fd ["some"] (spTotal K) := by
  have sc := sc_total
  refine F.ok sc (fun vs H Q E h => ?_) (fun cdv A outer s H vs Q E hr h => ?_)
  · obtain ⟨_, _, _, _, _, rfl, _⟩ := h
    rfl
  · obtain ⟨l, ws, qs, d, e, rfl, hl, hq, hg, B, q⟩ := h
    refine ⟨_, (pss_cons (ps_set (i := 1) sc.nd rfl (by first | exact Or.inl rfl | exact Or.inr rfl) (pe_glob (v := .ref z) (by rfl) T.zero rfl))
      (pss_cons (ps_for PassesOwn.never rfl (pi_list (pv 0)) (pg_name (i := 2) sc.nd rfl (by first | exact Or.inl rfl | exact Or.inr rfl))
        (pss_one (ps_set (i := 1) sc.nd rfl (by first | exact Or.inl rfl | exact Or.inr rfl) (pe_cl C_plus hr (by rfl) (pa_cons (pv 1) (pa_cons (pv 2) pa_nil))))))
      (pss_one (ps_ret (pv 1))))), ?_⟩
    have gq : ∀ i, Gd d e (qs.getD i 0) := getD_gd (P := Gd d e) hg (gd_zero B.pos)
    refine q_set (evq_c (T.rz H)) fun v0 H0 e0 r0 => ?_
    refine Evl.q_forLn (Evl.ev_var rfl) (Evl.ex_l e0 hl) (fun i σ H' => ∃ v y, σ = [some (.ref l), some v, y] ∧ Ex H H' ∧ RT K H' v (totN (fun i => qs.getD i 0) i)) (fun H1 e1 => ⟨v0, none, rfl, e0.trans e1, r0.ex e1⟩) (fun i σ' H' _ h => ?_) (fun i x σ' H' hx h => ?_) fun σ' H' h => ?_
    · obtain ⟨v, y, _, e1, _⟩ := h
      exact Evl.ex_l e1 hl
    · obtain ⟨v, y, rfl, e1, rv⟩ := h
      have hi := (List.getElem?_eq_some_iff.mp hx).1
      have hlen := hq.1
      refine s_set (evq_plus (evq_var rfl rv) (evq_var rfl ((hq.2 i x hx).ex e1)) (B.sm (totN_gd B.pos gq i) (by omega)) (B.sm (gq i) (by omega))) fun v2 H2 e2 r2 => ?_
      exact ⟨v2, some x, rfl, e1.trans e2, r2⟩
    · obtain ⟨v, y, rfl, e1, rv⟩ := h
      rw [hq.1] at rv
      exact s_ret (evq_var rfl rv) fun v2 H2 e2 r2 => q v2 H2 (e1.trans e2) r2
end
end BW
/-! BwC: the defs of polynomials. -/
namespace BW
open PySem PySem.Spec PyProof.Rows L2 BC
open Evl (Ex)

/-! ### rows as data -/
theorem eqvAll_map {α : Type} [DecidableEq α] {g : α → PyData} (hg : ∀ a b, PyData.eqv (g a) (g b) = decide (a = b)) : ∀ xs ys : List α, PyData.eqvAll (xs.map g) (ys.map g) = decide (xs = ys)
  | [], [] => by simp [PyData.eqvAll]
  | [], _ :: _ => by simp [PyData.eqvAll]
  | _ :: _, [] => by simp [PyData.eqvAll]
  | x :: xs, y :: ys => by
    have ih := eqvAll_map hg xs ys
    rw [List.map_cons, List.map_cons, PyData.eqvAll, hg, ih]
    by_cases h1 : x = y
    · by_cases h2 : xs = ys
      · simp [h1, h2]
      · simp [h1, h2]
    · simp [h1]
theorem layAll_map {α : Type} {g : α → PyData} (hg : ∀ a, (g a).canLay0 = true) : ∀ xs : List α, PyData.canLayAll0 (xs.map g) = true
  | [] => by simp [PyData.canLayAll0]
  | x :: xs => by simp [PyData.canLayAll0, hg x, layAll_map hg xs]
theorem depthAll_map {α : Type} {g : α → PyData} {n : Nat} (hg : ∀ a, (g a).depth ≤ n) : ∀ xs : List α, PyData.depthAll (xs.map g) ≤ n
  | [] => by simp [PyData.depthAll]
  | x :: xs => by
    have h1 := depthAll_map hg xs
    have h2 := hg x
    simp only [List.map_cons, PyData.depthAll]
    omega
theorem shaped_tup {ds : List PyData} {n : Nat} (h1 : PyData.canLayAll0 ds = true) (h2 : PyData.depthAll ds ≤ n) (hn : n ≤ 60) : SeqAt.shaped (.tuple ds) = true := by
  have h3 : PyData.depth (.tuple ds) ≤ 64 := by
    simp only [PyData.depth]
    omega
  show (PyData.canLay0 (.tuple ds) && decide (PyData.depth (.tuple ds) ≤ 64)) = true
  rw [Bool.and_eq_true]
  exact ⟨by simp only [PyData.canLay0]; exact h1, decide_eq_true h3⟩
def pD (qs : List Rat) : PyData := .tuple (qs.map qD)
theorem pD_eqv (a b : List Rat) : PyData.eqv (pD a) (pD b) = decide (a = b) := by
  unfold pD
  rw [PyData.eqv]
  exact eqvAll_map qD_eqv a b
theorem pD_lay (a : List Rat) : (pD a).canLay0 = true := by
  unfold pD
  rw [PyData.canLay0]
  exact layAll_map qD_lay a
theorem pD_depth (a : List Rat) : (pD a).depth ≤ 2 := by
  have := depthAll_map (g := qD) (n := 1) (fun q => by rw [qD_depth]; exact Nat.le_refl _) a
  unfold pD
  rw [PyData.depth]
  omega
theorem pD_shaped (a : List Rat) : SeqAt.shaped (pD a) = true := shaped_tup (n := 1) (layAll_map qD_lay a) (depthAll_map (fun q => by rw [qD_depth]; exact Nat.le_refl _) a) (by decide)
theorem RTs.dp {K : PySem.W.Frag} {H : Hp} : ∀ {vs : List V} {qs : List Rat}, RTs K H vs qs → DpAll K H vs (qs.map qD)
  | [], [], _ => .nil
  | [], _ :: _, h => by
    have := h.1
    simp at this
  | _ :: _, [], h => by
    have := h.1
    simp at this
  | v :: vs, q :: qs, h => by
    have h0 : RT K H v q := h.2 0 v rfl
    have ht : RTs K H vs qs := h.drop 1
    exact .cons h0.dp ht.dp
theorem PT.dp {K : PySem.W.Frag} {H : Hp} {v : V} {qs : List Rat} (h : PT K H v qs) : Dp K H v (pD qs) := by
  obtain ⟨a, vs, rfl, h1, h2⟩ := h
  exact .tup h1 h2.dp
theorem PT.new {K : PySem.W.Frag} {H : Hp} {p : Addr} {vs : List V} {qs : List Rat} (hp : H p = none) (h : RTs K H vs qs) : PT K (upd H p (.tup vs)) (.ref p) qs := ⟨p, vs, rfl, .inl (.inl upd_same), h.tx (.new hp)⟩
section
variable {K : PySem.W.Frag} {σ : L2.St} {H : Hp} {ta tb : TE}
abbrev EvP (K : PySem.W.Frag) (te : TE) (σ : L2.St) (H : Hp) (qs : List Rat) : Prop := EvR te σ H fun v H' => PT K H' v qs
theorem evp_var {i : Nat} {v : V} {qs : List Rat} (h : σ[i]? = some (some v)) (r : PT K H v qs) : EvP K (tVar i) σ H qs := evr_ev (Evl.ev_var h) fun H' e => r.ex e
theorem evp_nil : EvP K (tTup tNil) σ H [] := fun H1 e1 Q p => ⟨by show 0 ≤ sizeLine; exact Nat.zero_le _, fun r hr => p _ _ (Ex.new hr) ⟨r, [], rfl, .inl (.inl upd_same), .nil⟩⟩
theorem ev_eqP {a b : List Rat} (ha : EvP K ta σ H a) (hb : EvP K tb σ H b) : Evl.Ev (tOp (rEqD K) ta tb) σ H (.bl (decide (a = b))) := fun H1 e1 Q q =>
  ha H1 e1 _ fun v H2 e2 r => hb H2 (e1.trans e2) _ fun w H3 e3 r2 => ⟨pD a, pD b, (r.ex e3).dp, r2.dp, pD_shaped a, pD_shaped b, by
    rw [pD_eqv]
    exact q H3 (e2.trans e3)⟩
end

/-! ### walks -/
theorem walk_enumT {K : PySem.W.Frag} {a : Addr} {xs : List V} : Walk (IteT K a) xs.length (fun H => SqT K H a xs) (YPair (fun i => some (.int (i : Nat))) (fun i => xs[i]?)) :=
  ⟨fun i H hi h => ⟨xs, xs[i], h, List.getElem?_eq_getElem hi⟩, fun H h => ⟨xs, h, Nat.le_refl _⟩, fun i H x H' _ h y => by
    obtain ⟨T, z, e1, e2, e3, e4⟩ := y
    exact ⟨T, _, z, e1, e2, e3, rfl, e4 xs h⟩⟩
/-- a list of ratios made by a comprehension over something -/
def NewL (K : PySem.W.Frag) (H : Hp) (n : Nat) (f : Nat → Rat) (v : V) (H' : Hp) : Prop := ∃ p ws, v = .ref p ∧ H p = none ∧ H' p = some (.lst ws) ∧ RTs K H' ws ((List.range n).map f)
section
variable {K : PySem.W.Frag} {σ : L2.St} {H : Hp}
theorem lcq {J : It} {n : Nat} {G : Hp → Prop} {Y : Nat → Hp → V → Hp → Prop} {g : TG} {te : TE} {vs : List Nat} {f : Nat → Rat} {H1 : Hp} {D : Addr} {Q : VK} (w : Walk J n G Y) (hn : n ≤ 1000) (e1 : Ex H H1) (hD : H1 D = none) (hG : ∀ H', Ex H H' → G H')
    (hs : ∀ i x H2 H2', i < n → Ex H H2 → Y i H2 x H2' → g x (wipe σ vs) H2' fun σ2 H3 => wipe σ2 vs = wipe σ vs ∧ Ex H2 H3 ∧ EvQ K te σ2 H3 (f i))
    (mono : ∀ x σ H Q Q', (∀ σ' H', Q σ' H' → Q' σ' H') → g x σ H Q → g x σ H Q') (q : Post H1 Q (NewL K H n f)) :
    ∃ W : Nat → Nat → Hp → Prop, (∃ m, W 0 m (upd H1 D (.lst []))) ∧ ∀ i m H, W i m H →
      (J.stop i H ∧ Q (.ref D) H) ∨ (J.go i H ∧ ∃ Nx : Hp → Prop, (∀ H', Nx H' → ∃ m', m' < m ∧ W (i + 1) m' H') ∧ ∀ x H', J.yld i H x H' → g x (wipe σ vs) H' fun σ2 H2 => wipe σ2 vs = wipe σ vs ∧ tYes σ2 H2 fun b H3 =>
        if b = true then te σ2 H3 fun y H4 => ∃ acc, H4 D = some (.lst acc) ∧ acc.length < sizeLine ∧ Nx (upd H4 D (.lst (acc ++ [y]))) else Nx H3) := by
  refine lc_it w (Qd := fun H' => Q (.ref D) H') (fun i H' => Ex H1 H' ∧ ∃ ws, H' D = some (.lst ws) ∧ RTs K H' ws ((List.range i).map f)) ⟨Ex.new hD, [], upd_same, .nil⟩ (fun i H' _ h => hG H' (e1.trans h.1)) (fun i x H2 H2' hi h y => ?_) fun H' h => ?_
  · obtain ⟨e2, ws, hw, hr⟩ := h
    refine mono _ _ _ _ _ (fun σ2 H3 h3 => ?_) (hs i x H2 H2' hi (e1.trans e2) y)
    obtain ⟨w3, e3, ev⟩ := h3
    refine ⟨w3, ?_⟩
    refine ev H3 (Ex.refl H3) _ fun v H4 e4 rv => ?_
    have h4 : H4 D = some (.lst ws) := e4 D _ (e3 D _ hw)
    have l1 := hr.1
    refine ⟨ws, h4, small1000 (by rw [l1]; simp; omega), (e2.trans (e3.trans e4)).mut hD, ws ++ [v], upd_same, ?_⟩
    rw [List.range_succ, List.map_append]
    exact ((hr.ex (e3.trans e4)).tx (.set h4)).snoc (rv.tx (.set h4))
  · obtain ⟨e2, ws, hw, hr⟩ := h
    exact q _ _ e2 ⟨D, ws, rfl, Evl.fresh_back e1 hD, hw, hr⟩
theorem gName_mono {j : Nat} (x : V) (σ : L2.St) (H : Hp) (Q Q' : L2.St → Hp → Prop) (h : ∀ σ' H', Q σ' H' → Q' σ' H') (g : gName j x σ H Q) : gName j x σ H Q' := h _ _ g
theorem gTwo_mono {j1 j2 : Nat} (x : V) (σ : L2.St) (H : Hp) (Q Q' : L2.St → Hp → Prop) (h : ∀ σ' H', Q σ' H' → Q' σ' H') (g : gTup K 2 (gCons (gName j1) (gCons (gName j2) gNil)) x σ H Q) : gTup K 2 (gCons (gName j1) (gCons (gName j2) gNil)) x σ H Q' := by
  obtain ⟨a, xs, h1, h2, h3, v1, r1, h4, v2, r2, h5, h6, h7⟩ := g
  exact ⟨a, xs, h1, h2, h3, v1, r1, h4, v2, r2, h5, h6, h _ _ h7⟩
/-- [e for i, x in enumerate(t)] -/
theorem el_enumT {ta : TE} {te : TE} {j1 j2 : Nat} {a : Addr} {xs : List V} {f : Nat → Rat} (ha : Evl.Ev ta σ H (.ref a)) (hx : SqT K H a xs) (hn : xs.length ≤ 1000)
    (hw : ∀ x y, wipe (((wipe σ [j1, j2]).set j1 (some x)).set j2 (some y)) [j1, j2] = wipe σ [j1, j2])
    (he : ∀ (i : Nat) x H', Ex H H' → xs[i]? = some x → EvQ K te (((wipe σ [j1, j2]).set j1 (some (.int (i : Nat)))).set j2 (some x)) H' (f i)) :
    EvR (tLc (iEnumT K (tCons ta tNil)) (gTup K 2 (gCons (gName j1) (gCons (gName j2) gNil))) tYes te [j1, j2]) σ H (NewL K H xs.length f) := fun H0 e0 Q q => by
  refine ha H0 e0 _ fun H1 e1 => ⟨a, xs, rfl, tx_t (.of (e0.trans e1)) hx, fun D hD => ?_⟩
  refine lcq walk_enumT hn (e0.trans e1) hD (fun H' e => tx_t (.of e) hx) (fun i x H2 H2' hi e2 y => ?_) gTwo_mono (q.ex e1)
  obtain ⟨T, x1, x2, rfl, nT, rfl, f1, f2⟩ := y
  cases f1
  exact ⟨T, _, rfl, .inl (.inl upd_same), rfl, _, _, rfl, _, _, rfl, rfl, hw _ _, Ex.new nT, he i x2 _ (e2.trans (Ex.new nT)) f2⟩
/-- [e for x, y in zip(a, b)], lists of one length -/
theorem el_zipL {ta tb te : TE} {j1 j2 : Nat} {a b : Addr} {xs ys : List V} {f : Nat → Rat} (ha : Evl.Ev ta σ H (.ref a)) (hb : Evl.Ev tb σ H (.ref b)) (hx : SqL K H a xs) (hy : SqL K H b ys) (hl : xs.length = ys.length) (hn : xs.length ≤ 1000)
    (hw : ∀ x y, wipe (((wipe σ [j1, j2]).set j1 (some x)).set j2 (some y)) [j1, j2] = wipe σ [j1, j2])
    (he : ∀ (i : Nat) x y H', Ex H H' → xs[i]? = some x → ys[i]? = some y → EvQ K te (((wipe σ [j1, j2]).set j1 (some x)).set j2 (some y)) H' (f i)) :
    EvR (tLc (RZ.iZipA K (tCons ta (tCons tb tNil))) (gTup K 2 (gCons (gName j1) (gCons (gName j2) gNil))) tYes te [j1, j2]) σ H (NewL K H xs.length f) := fun H0 e0 Q q => by
  refine ha H0 e0 _ fun H1 e1 => hb H1 (e0.trans e1) _ fun H2 e2 => ⟨a, b, xs, ys, rfl, .inl ⟨Evl.ex_l ((e0.trans e1).trans e2) hx, Evl.ex_l ((e0.trans e1).trans e2) hy, fun D hD => ?_⟩⟩
  refine lcq (walk_zip (xs := xs) (ys := ys) (n := xs.length) (by rw [hl, Nat.min_self])) hn ((e0.trans e1).trans e2) hD (fun H' e => ⟨Evl.ex_l e hx, Evl.ex_l e hy⟩) (fun i x H3 H3' hi e3 y => ?_) gTwo_mono (q.ex (e1.trans e2))
  obtain ⟨T, x1, x2, rfl, nT, rfl, f1, f2⟩ := y
  exact ⟨T, _, rfl, .inl (.inl upd_same), rfl, _, _, rfl, _, _, rfl, rfl, hw _ _, Ex.new nT, he i x1 x2 _ (e3.trans (Ex.new nT)) f1 f2⟩
/-- [e for x in t] -/
theorem el_tup {ta te : TE} {j : Nat} {a : Addr} {xs : List V} {f : Nat → Rat} (ha : Evl.Ev ta σ H (.ref a)) (hx : SqT K H a xs) (hn : xs.length ≤ 1000)
    (hw : ∀ x, wipe ((wipe σ [j]).set j (some x)) [j] = wipe σ [j])
    (he : ∀ (i : Nat) x H', Ex H H' → xs[i]? = some x → EvQ K te ((wipe σ [j]).set j (some x)) H' (f i)) :
    EvR (tLc (iTup K ta) (gName j) tYes te [j]) σ H (NewL K H xs.length f) := fun H0 e0 Q q => by
  refine ha H0 e0 _ fun H1 e1 => ⟨a, rfl, ⟨xs, tx_t (.of (e0.trans e1)) hx⟩, fun D hD => ?_⟩
  refine lcq walk_tup hn (e0.trans e1) hD (fun H' e => tx_t (.of e) hx) (fun i x H2 H2' hi e2 y => ?_) gName_mono (q.ex e1)
  obtain ⟨rfl, f1⟩ := y
  exact ⟨hw _, Ex.refl _, he i x _ e2 f1⟩
/-- [e for i in range(lo, hi)] -/
theorem el_range {ta tb te : TE} {j : Nat} {lo hi : Int} {n : Nat} {f : Nat → Rat} (ha : Evl.Ev ta σ H (.int lo)) (hb : Evl.Ev tb σ H (.int hi)) (h1 : -1000 ≤ lo ∧ lo ≤ 1000 ∧ -1000 ≤ hi ∧ hi ≤ 1000) (h2 : (hi - lo).toNat = n) (hn : n ≤ 1000)
    (hw : ∀ x, wipe ((wipe σ [j]).set j (some x)) [j] = wipe σ [j])
    (he : ∀ (i : Nat) H', Ex H H' → i < n → EvQ K te ((wipe σ [j]).set j (some (.int (lo + i)))) H' (f i)) :
    EvR (tLc (iRng2 (tCons ta (tCons tb tNil))) (gName j) tYes te [j]) σ H (NewL K H n f) := fun H0 e0 Q q => by
  refine ha H0 e0 _ fun H1 e1 => hb H1 (e0.trans e1) _ fun H2 e2 => ⟨lo, hi, rfl, by omega, fun D hD => ?_⟩
  rw [h2]
  refine lcq walk_range hn ((e0.trans e1).trans e2) hD (fun H' e => trivial) (fun i x H3 H3' hi e3 y => ?_) gName_mono (q.ex (e1.trans e2))
  obtain ⟨rfl, rfl⟩ := y
  exact ⟨hw _, Ex.refl _, he i _ e3 hi⟩
end

/-! ### trimmed -/
section
variable {P : Program} {w : World} {K : PySem.W.Frag} {mg : Str → Option Value} {base : Heap} {f z o : Addr} {fd : FuncData} {t6 t7 t8 t12 : Tok}
def spTrim (K : PySem.W.Frag) : Sp := fun vs H Q _ => ∃ (l : Addr) (ws : List V) (qs : List Rat), vs = [.ref l] ∧ SqL K H l ws ∧ RTs K H ws qs ∧ qs.length ≤ 1000 ∧ Post H Q fun v H' => PT K H' v (trim qs)
theorem cutTake (xs : List V) (k : Nat) (h : k ≤ xs.length) : cutV xs none (some (k : Int)) = xs.take k := by
  unfold cutV
  rw [HT.sIx_none, HT.sIx_nat, Nat.min_eq_left h]
  rfl
theorem sc_trimmed : FnScope ["row", "many"] ["row"] (defScope (topS 23)) := ⟨rfl, rfl, rfl, by decide +kernel, rfl, by decide +kernel, by decide +kernel⟩
theorem ok_trimmed (F : Fun K "trimmed" "trimmed" (topS 23) f fd) (T : Top K mg z o t6 t7 t8 t12) : FnOk P w K mg base CX0 1 f fd ["row"] (spTrim K) := by
  have sc := sc_trimmed
  refine F.ok sc (fun vs H Q E h => ?_) (fun cdv A outer s H vs Q E hr h => ?_)
  · obtain ⟨_, _, _, rfl, _⟩ := h
    rfl
  · obtain ⟨l, ws, qs, rfl, hl, hq, hlen, q⟩ := h
    refine ⟨_, (pss_cons (ps_set (i := 1) sc.nd rfl (by first | exact Or.inl rfl | exact Or.inr rfl) (pe_callB call_len_seq (by rfl) T.len (by decide +kernel) (pa_cons (pv 0) pa_nil)))
      (pss_cons (ps_while PassesOwn.never (PW.pt (pw_and (pt_cmpR op_gt (pv 1) pe_int (nomark _)) (pw_and1 (pt_cmpR (op_eqD hr.units) (pe_ix ix_list (pv 0) (pe_op op_sub (pv 1) pe_int) (fun _ _ => rfl)) (pe_glob (v := .ref z) (by rfl) T.zero rfl) (nomark _)))))
        (pss_one (ps_aug (i := 1) sc.nd rfl (by first | exact Or.inl rfl | exact Or.inr rfl) pe_int ip_sub)))
      (pss_one (ps_ret (pe_callTy call_tuple_of (by rfl) T.tuple (by decide +kernel) (pa_cons (pe_slice sl_list (pv 0) po_none (po_some (pv 1))) pa_nil)))))), ?_⟩
    have l1 := hq.1
    refine Evl.q_asg (ev_lenL (Evl.ev_var rfl) hl) fun H1 e1 => ?_
    refine Evl.q_while (fun m σ H' => ∃ k : Nat, m = k ∧ σ = [some (.ref l), some (.int (k : Int))] ∧ k ≤ qs.length ∧ (∀ i, k ≤ i → qs.getD i 0 = 0) ∧ Ex H H') qs.length ⟨qs.length, rfl, by rw [← l1]; rfl, Nat.le_refl _, fun i hi => getD_ge hi, e1⟩ fun m σ' H' h => ?_
    obtain ⟨k, rfl, rfl, hk, hz, e2⟩ := h
    have itm : 0 < m → EvQ K (tOp (rIxL K) (tVar 0) (tOp (rI0 fun i j => .int (i - j)) (tVar 1) (tC (.int 1)))) [some (.ref l), some (.int (m : Int))] H' (qs.getD (m - 1) 0) := fun h0 => by
      obtain ⟨v, hv, rv⟩ := hq.get (i := m - 1) (by omega)
      refine evq_ev (Evl.ev_op (Evl.ev_var rfl) (Evl.ev_op (Evl.ev_var rfl) Evl.ev_c Evl.rv_I0) (Evl.rv_ixL (v := v) (Evl.ex_l e2 hl) ?_)) (rv.ex e2)
      exact at_of (show (m : Int) - 1 = ((m - 1 : Nat) : Int) by omega) hv
    by_cases h0 : 0 < m
    · by_cases hq0 : qs.getD (m - 1) 0 = 0
      · refine ⟨true, Evl.et_is (Evl.et_and (a := true) (Evl.et_test (Evl.ev_is (Evl.ev_op (Evl.ev_var rfl) Evl.ev_c Evl.rv_I0) (by rw [decide_eq_true (show (0 : Int) < (m : Int) by omega)]))) fun _ => Evl.et_test (ev_eqQ (itm h0) (evq_c (T.rz H')))) (by rw [decide_eq_true hq0]; rfl), fun _ H2 e3 => ?_, (fun h => nomatch h)⟩
        refine ⟨_, fun _ _ n => n, Evl.s_aug (a := (m : Int)) (b := 1) rfl Evl.ev_c fun H3 e4 => ⟨m - 1, by omega, m - 1, rfl, ?_, by omega, fun i hi => ?_, (e2.trans e3).trans e4⟩⟩
        · show [some (V.ref l), some (V.int ((m : Int) - 1))] = _
          rw [show (m : Int) - 1 = ((m - 1 : Nat) : Int) by omega]
        · by_cases hi2 : i = m - 1
          · rw [hi2]
            exact hq0
          · exact hz i (by omega)
      · refine ⟨false, Evl.et_is (Evl.et_and (a := true) (Evl.et_test (Evl.ev_is (Evl.ev_op (Evl.ev_var rfl) Evl.ev_c Evl.rv_I0) (by rw [decide_eq_true (show (0 : Int) < (m : Int) by omega)]))) fun _ => Evl.et_test (ev_eqQ (itm h0) (evq_c (T.rz H')))) (by rw [decide_eq_false hq0]; rfl), (fun h => nomatch h), fun _ H2 e3 => ?_⟩
        have ht : trim qs = qs.take m := trim_take qs m hk hz (.inr hq0)
        refine ⟨_, rfl, _, rfl, (m : Int), rfl, l, ws, rfl, Evl.ex_l (e2.trans e3) hl, fun p hp => ?_⟩
        refine ⟨p, _, rfl, .inl ⟨.inl (.inl upd_same), fun t ht2 => ?_⟩⟩
        refine q _ _ ((e2.trans e3).trans ((Ex.new hp).trans (Ex.new ht2))) ?_
        rw [ht]
        have c1 : cutV ws none (some (m : Int)) = ws.take m := cutTake ws m (by omega)
        rw [c1] at ht2 ⊢
        exact PT.new ht2 (((hq.ex (e2.trans e3)).take m).ex (Ex.new hp))
    · refine ⟨false, Evl.et_is (Evl.et_and (a := false) (b := false) (Evl.et_test (Evl.ev_is (Evl.ev_op (Evl.ev_var rfl) Evl.ev_c Evl.rv_I0) (by rw [decide_eq_false (show ¬ (0 : Int) < (m : Int) by omega)]))) fun h => nomatch h) rfl, (fun h => nomatch h), fun _ H2 e3 => ?_⟩
      have ht : trim qs = qs.take m := trim_take qs m hk hz (.inl (by omega))
      refine ⟨_, rfl, _, rfl, (m : Int), rfl, l, ws, rfl, Evl.ex_l (e2.trans e3) hl, fun p hp => ?_⟩
      refine ⟨p, _, rfl, .inl ⟨.inl (.inl upd_same), fun t ht2 => ?_⟩⟩
      refine q _ _ ((e2.trans e3).trans ((Ex.new hp).trans (Ex.new ht2))) ?_
      rw [ht]
      have c1 : cutV ws none (some (m : Int)) = ws.take m := cutTake ws m (by omega)
      rw [c1] at ht2 ⊢
      exact PT.new ht2 (((hq.ex (e2.trans e3)).take m).ex (Ex.new hp))
/-- trimmed of a list just made -/
theorem evp_trim {σ : L2.St} {H : Hp} {ta : TE} {n : Nat} {g : Nat → Rat} {H0 : Hp} (h : EvR ta σ H (NewL K H0 n g)) (hn : n ≤ 1000) : EvP K (tCall (spTrim K) [] E0 (tCons ta tNil)) σ H (trim ((List.range n).map g)) := fun H1 e1 Q p =>
  h H1 e1 _ fun v H2 e2 r => by
    obtain ⟨l, ws, rfl, _, hw, hq⟩ := r
    exact ⟨l, ws, _, rfl, .inl (.inl hw), hq, by simpa using hn, p.ex e2⟩

/-! ### at -/
def spAt (K : PySem.W.Frag) : Sp := fun vs H Q _ => ∃ (x y : V) (qs : List Rat) (t : Rat) (d e : Nat), vs = [x, y] ∧ PT K H x qs ∧ RT K H y t ∧ Gd 1 1 t ∧ (∀ q ∈ qs, Gd d e q) ∧ Bd d (e + 2 * qs.length + 1) ∧ Post H Q fun v H' => RT K H' v (pat qs t)
theorem rev_getD (qs : List Rat) {i : Nat} (h : i < qs.length) : qs.reverse.getD i 0 = qs.getD (qs.length - 1 - i) 0 := by
  rw [List.getD_eq_getElem?_getD, List.getElem?_reverse h, ← List.getD_eq_getElem?_getD]
theorem sc_at : FnScope ["poly", "x", "found", "one"] ["poly", "x"] (defScope (topS 24)) := ⟨rfl, rfl, rfl, by decide +kernel, rfl, by decide +kernel, by decide +kernel⟩
theorem ok_at (F : Fun K "at" "at" (topS 24) f fd) (T : Top K mg z o t6 t7 t8 t12) (C_plus : Cl P w K mg base "plus" 2 ["one", "other"] (spPlus K)) (C_times : Cl P w K mg base "times" 2 ["one", "other"] (spTimes K)) : FnOk P w K mg base CX0 3 f fd ["poly", "x"] (spAt K) := by
  have sc := sc_at
  refine F.ok sc (fun vs H Q E h => ?_) (fun cdv A outer s H vs Q E hr h => ?_)
  · obtain ⟨_, _, _, _, _, _, rfl, _⟩ := h
    rfl
  · obtain ⟨x, y, qs, t, d, e, rfl, ⟨a, ws, rfl, ha, hq⟩, hy, ht, hg, B, q⟩ := h
    refine ⟨_, (pss_cons (ps_set (i := 2) sc.nd rfl (by first | exact Or.inl rfl | exact Or.inr rfl) (pe_glob (v := .ref z) (by rfl) T.zero rfl))
      (pss_cons (ps_for PassesOwn.never rfl (pi_tup (pe_revT (pv 0))) (pg_name (i := 3) sc.nd rfl (by first | exact Or.inl rfl | exact Or.inr rfl))
        (pss_one (ps_set (i := 2) sc.nd rfl (by first | exact Or.inl rfl | exact Or.inr rfl) (pe_cl C_plus hr (by rfl) (pa_cons (pe_cl C_times hr (by rfl) (pa_cons (pv 2) (pa_cons (pv 1) pa_nil))) (pa_cons (pv 3) pa_nil))))))
      (pss_one (ps_ret (pv 2))))), ?_⟩
    have l1 := hq.1
    refine q_set (evq_c (T.rz H)) fun v0 H0 e0 r0 => ?_
    refine ⟨_, rfl, a, ws, rfl, tx_t (.of e0) ha, fun r hr0 => ⟨r, rfl, ⟨_, .inl (.inl upd_same)⟩, ?_⟩⟩
    refine for_it (walk_tup (xs := ws.reverse)) (fun i σ H' => ∃ v u, σ = [some (.ref a), some y, some v, u] ∧ Ex H H' ∧ H' r = some (.tup ws.reverse) ∧ RT K H' v (patN qs t i)) ⟨v0, none, rfl, e0.trans (Ex.new hr0), upd_same, r0.ex (Ex.new hr0)⟩ (fun i σ H' _ h => ?_) (fun i u σ H' H2 hi h hy2 => ?_) fun σ H' h => ?_
    · obtain ⟨_, _, _, _, h, _⟩ := h
      exact .inl (.inl h)
    · obtain ⟨rfl, hu⟩ := hy2
      obtain ⟨v, u2, rfl, e1, h1, rv⟩ := h
      have hi2 : i < qs.length := by
        rw [← l1]
        simpa using hi
      have ru : RT K H2 u (qs.getD (qs.length - 1 - i) 0) := by
        have := (hq.rev.2 i u hu).ex e1
        rw [rev_getD qs hi2] at this
        exact this
      have g1 := patN_gd qs t B.pos hg ht i (by omega)
      have gm : Gd d e (qs.getD (qs.length - 1 - i) 0) := getD_gd (P := Gd d e) hg (gd_zero B.pos) _
      refine s_set (evq_plus (evq_times (evq_var rfl rv) (evq_var rfl (hy.ex e1)) (B.sm g1 (by omega)) (B.sm1 ht (by omega))) (evq_var rfl ru) (B.sm (g1.mul1 ht) (by omega)) (B.sm gm (by omega))) fun v3 H3 e3 r3 => ?_
      exact ⟨v3, _, rfl, e1.trans e3, e3 r _ h1, r3⟩
    · obtain ⟨v, u, rfl, e1, h1, rv⟩ := h
      rw [List.length_reverse, l1, patN_all] at rv
      exact s_ret (evq_var rfl rv) fun v2 H2 e2 r2 => q v2 H2 (e1.trans e2) r2
theorem evq_at {σ : L2.St} {H : Hp} {ta tb : TE} {qs : List Rat} {t : Rat} {d e : Nat} (ha : EvP K ta σ H qs) (hb : EvQ K tb σ H t) (ht : Gd 1 1 t) (hg : ∀ q ∈ qs, Gd d e q) (B : Bd d (e + 2 * qs.length + 1)) : EvQ K (tCall (spAt K) [] E0 (tCons ta (tCons tb tNil))) σ H (pat qs t) :=
  evr_call (ear_cons ha mn_p (ear_cons hb mn_q ear_nil)) fun vs H1 _ hv Q p => by
    obtain ⟨v, r, rfl, hr, v2, r2, rfl, hr2, rfl⟩ := hv
    exact ⟨v, v2, qs, t, d, e, rfl, hr, hr2, ht, hg, B, p⟩
end
end BW
/-! BwD: sums, products, derivatives, integrals of polynomials. -/
namespace BW
open PySem PySem.Spec PyProof.Rows L2 BC
open Evl (Ex)
open StX (tStar pa_star)

/-! ### lists of ratios that are made on the way -/
def FrL (K : PySem.W.Frag) (H : Hp) (qs : List Rat) (v : V) (H' : Hp) : Prop := ∃ p ws, v = .ref p ∧ H p = none ∧ H' p = some (.lst ws) ∧ RTs K H' ws qs
theorem FrL.of {K : PySem.W.Frag} {H : Hp} {n : Nat} {f : Nat → Rat} {v : V} {H' : Hp} (h : NewL K H n f v H') : FrL K H ((List.range n).map f) v H' := h
theorem FrL.back {K : PySem.W.Frag} {H0 H : Hp} {qs : List Rat} {v : V} {H' : Hp} (h : FrL K H qs v H') (e : Ex H0 H) : FrL K H0 qs v H' := by
  obtain ⟨p, ws, h1, h2, h3⟩ := h
  exact ⟨p, ws, h1, Evl.fresh_back e h2, h3⟩
abbrev EvF (K : PySem.W.Frag) (te : TE) (σ : L2.St) (H : Hp) (qs : List Rat) : Prop := EvR te σ H (FrL K H qs)
def rTupS (K : PySem.W.Frag) : List V → Hp → VK → Prop := fun xs H Q => ∃ p ys, xs = [.ref p] ∧ ((SqL K H p ys ∧ ∀ l, H l = none → Q (.ref l) (upd H l (.tup ys))) ∨ (SqT K H p ys ∧ Q (.ref p) H))
section
variable {K : PySem.W.Frag} {σ : L2.St} {H : Hp} {ta tb te tk : TE} {qs : List Rat} {D : Ends} {tz : TS}
theorem EvF.ex {H' : Hp} (h : EvF K te σ H qs) (e : Ex H H') : EvR te σ H' (FrL K H qs) := EvR.ex h e
/-- [z] * k -/
theorem el_rep {z : V} {q : Rat} {k : Nat} (ha : Evl.Ev ta σ H z) (hz : RT K H z q) (hk : Evl.Ev tk σ H (.int (k : Int))) (h1 : k ≤ 1000) : EvF K (tOp rRep (tLst (tCons ta tNil)) tk) σ H (List.replicate k q) := fun H1 e1 Q p =>
  ha H1 e1 _ fun H2 e2 => ⟨by show 1 ≤ sizeLine; decide, fun l hl => hk _ ((e1.trans e2).trans (Ex.new hl)) _ fun H3 e3 => by
    have h3 : H3 l = some (.lst [z]) := e3 l _ upd_same
    refine ⟨l, (k : Int), [z], rfl, rfl, h3, by omega, by omega, ?_, fun r hr => ?_⟩
    · rw [Int.toNat_natCast]
      exact Nat.le_of_lt (small1000 (by simpa using h1))
    · have ef : (List.replicate (k : Int).toNat [z]).flatten = List.replicate k z := by
        rw [Int.toNat_natCast, List.flatten_replicate_singleton]
      rw [ef] at *
      have eAll : Ex H H3 := ((e1.trans e2).trans (Ex.new hl)).trans e3
      exact p _ _ ((e2.trans (Ex.new hl)).trans (e3.trans (Ex.new hr))) ⟨r, _, rfl, Evl.fresh_back eAll hr, upd_same, (RTs.rep (hz.ex eAll) k).tx (.new hr)⟩⟩
/-- [*a, *b], b a list just made -/
theorem el_pad {a : Addr} {ws : List V} {rs : List Rat} (ha : Evl.Ev ta σ H (.ref a)) (hs : SqT K H a ws) (hq : RTs K H ws qs) (hb : EvF K tb σ H rs) (hn : qs.length + rs.length ≤ 1000) : EvF K (tLst (tStar K ta (tStar K tb tNil))) σ H (qs ++ rs) := fun H1 e1 Q p =>
  ha H1 e1 _ fun H2 e2 => ⟨a, ws, rfl, .inl (tx_t (.of (e1.trans e2)) hs), hb H2 (e1.trans e2) _ fun v H3 e3 r => by
    obtain ⟨l, us, rfl, h0, h3, hr⟩ := r
    refine ⟨l, us, rfl, .inr (.inl (.inl h3)), ?_, fun m hm => ?_⟩
    · have l1 := hq.1
      have l2 := hr.1
      exact Nat.le_of_lt (small1000 (by simp; omega))
    · have eAll : Ex H H3 := (e1.trans e2).trans e3
      rw [List.append_nil]
      exact p _ _ ((e2.trans e3).trans (Ex.new hm)) ⟨m, _, rfl, Evl.fresh_back eAll hm, upd_same, ((hq.ex eAll).app hr).tx (.new hm)⟩⟩
/-- [z, *b] -/
theorem el_cons {z : V} {q : Rat} {rs : List Rat} (ha : Evl.Ev ta σ H z) (hz : RT K H z q) (hb : EvF K tb σ H rs) (hn : rs.length ≤ 900) : EvF K (tLst (tCons ta (tStar K tb tNil))) σ H (q :: rs) := fun H1 e1 Q p =>
  ha H1 e1 _ fun H2 e2 => hb H2 (e1.trans e2) _ fun v H3 e3 r => by
    obtain ⟨l, us, rfl, h0, h3, hr⟩ := r
    refine ⟨l, us, rfl, .inr (.inl (.inl h3)), ?_, fun m hm => ?_⟩
    · have l2 := hr.1
      exact Nat.le_of_lt (small1000 (by simp; omega))
    · have eAll : Ex H H3 := (e1.trans e2).trans e3
      rw [List.append_nil]
      exact p _ _ ((e2.trans e3).trans (Ex.new hm)) ⟨m, _, rfl, Evl.fresh_back eAll hm, upd_same, (RTs.cons (hz.ex eAll) hr).tx (.new hm)⟩
theorem cutDrop (xs : List V) (k : Nat) (h : k ≤ xs.length) : cutV xs (some (k : Int)) none = xs.drop k := by
  unfold cutV
  rw [HT.sIx_none, HT.sIx_nat, Nat.min_eq_left h]
  exact List.take_of_length_le (by rw [List.length_drop]; exact Nat.le_refl _)
theorem cutDrop1 (xs : List V) : cutV xs (some (1 : Int)) none = xs.drop 1 := by
  cases xs with
  | nil => rfl
  | cons x r => exact cutDrop (x :: r) 1 (by simp)
/-- l[1:] -/
theorem el_cut1 (h : EvF K te σ H qs) : EvF K (tSl (rSlL K) te (tPart (tC (.int 1))) tNoPart) σ H (qs.drop 1) := fun H1 e1 Q p =>
  h H1 e1 _ fun v H2 e2 r => by
    obtain ⟨l, us, rfl, h0, h3, hr⟩ := r
    refine ⟨1, rfl, l, us, rfl, .inl (.inl h3), fun m hm => ?_⟩
    rw [cutDrop1] at *
    exact p _ _ (e2.trans (Ex.new hm)) ⟨m, _, rfl, Evl.fresh_back (e1.trans e2) hm, upd_same, (hr.drop 1).tx (.new hm)⟩
/-- tuple(l) -/
theorem evp_tuple {H0 : Hp} (h : EvR te σ H (FrL K H0 qs)) : EvP K (tCB (rTupS K) (tCons te tNil)) σ H qs := fun H1 e1 Q p =>
  h H1 e1 _ fun v H2 e2 r => by
    obtain ⟨l, us, rfl, h0, h3, hr⟩ := r
    exact ⟨l, us, rfl, .inl ⟨.inl (.inl h3), fun m hm => p _ _ (e2.trans (Ex.new hm)) (PT.new hm hr)⟩⟩
theorem evp_trimF {H0 : Hp} (h : EvR te σ H (FrL K H0 qs)) (hn : qs.length ≤ 1000) : EvP K (tCall (spTrim K) [] E0 (tCons te tNil)) σ H (trim qs) := fun H1 e1 Q p =>
  h H1 e1 _ fun v H2 e2 r => by
    obtain ⟨l, ws, rfl, _, hw, hq⟩ := r
    exact ⟨l, ws, _, rfl, .inl (.inl hw), hq, hn, p.ex e2⟩
/-- l[i] = e -/
theorem s_setQ {l : Addr} {ws : List V} {j : Nat} {q : Rat} (hl : H l = some (.lst ws)) (h : EvQ K te σ H q) (ho : Evl.Ev ta σ H (.ref l)) (hi : Evl.Ev tb σ H (.int (j : Int))) (hj : j < ws.length) (k : ∀ v H1, Ex H H1 → RT K H1 v q → D.nx σ (upd H1 l (.lst (ws.set j v)))) : tAsg te (gSub ta tb rSetL) D σ H :=
  h H (Ex.refl H) _ fun v H1 e1 r => ho H1 e1 _ fun H2 e2 => hi H2 (e1.trans e2) _ fun H3 e3 => by
    refine ⟨l, ws, (j : Int), j, rfl, rfl, ((e1.trans e2).trans e3) l _ hl, ?_, k v H3 ((e1.trans e2).trans e3) (r.ex (e2.trans e3))⟩
    unfold ixN
    rw [if_pos (by omega), if_pos (by omega), Int.toNat_natCast]
theorem q_setQ {l : Addr} {ws : List V} {j : Nat} {q : Rat} (hl : H l = some (.lst ws)) (h : EvQ K te σ H q) (ho : Evl.Ev ta σ H (.ref l)) (hi : Evl.Ev tb σ H (.int (j : Int))) (hj : j < ws.length) (k : ∀ v H1, Ex H H1 → RT K H1 v q → tz D σ (upd H1 l (.lst (ws.set j v)))) : tSeq (tAsg te (gSub ta tb rSetL)) tz D σ H := s_setQ (D := { D with nx := tz D }) hl h ho hi hj k
/-- l.append(e) -/
theorem s_appR {l : Addr} {ws : List V} {R : V → Hp → Prop} (hl : H l = some (.lst ws)) (ha : Evl.Ev ta σ H (.ref l)) (h : EvR te σ H R) (hz : ws.length ≤ 1000) (k : ∀ v H1, Ex H H1 → R v H1 → D.nx σ (upd H1 l (.lst (ws ++ [v])))) : tDrop (tBM K "list" rAppend ta (tCons te tNil)) D σ H :=
  ha H (Ex.refl H) _ fun H1 e1 => ⟨.inl ⟨rfl, _, .inl (.inl (e1 l _ hl))⟩, h H1 e1 _ fun v H2 e2 r => ⟨l, ws, v, rfl, rfl, (e1.trans e2) l _ hl, small1000 hz, k v H2 (e1.trans e2) r⟩⟩
theorem q_appR {l : Addr} {ws : List V} {R : V → Hp → Prop} (hl : H l = some (.lst ws)) (ha : Evl.Ev ta σ H (.ref l)) (h : EvR te σ H R) (hz : ws.length ≤ 1000) (k : ∀ v H1, Ex H H1 → R v H1 → tz D σ (upd H1 l (.lst (ws ++ [v])))) : tSeq (tDrop (tBM K "list" rAppend ta (tCons te tNil))) tz D σ H := s_appR (D := { D with nx := tz D }) hl ha h hz k
end
theorem padG (a : List Rat) (n i : Nat) : (a ++ List.replicate n (0 : Rat)).getD i 0 = a.getD i 0 := by
  rw [List.getD_eq_getElem?_getD, List.getD_eq_getElem?_getD]
  by_cases h : i < a.length
  · rw [List.getElem?_append_left h]
  · rw [List.getElem?_append_right (by omega), List.getElem?_replicate, List.getElem?_eq_none (l := a) (by omega)]
    split <;> rfl

section
variable {P : Program} {w : World} {K : PySem.W.Frag} {mg : Str → Option Value} {base : Heap} {f z o : Addr} {fd : FuncData} {t6 t7 t8 t12 : Tok}
/-! ### p_plus -/
def spPPlus (K : PySem.W.Frag) : Sp := fun vs H Q _ => ∃ (x y : V) (a b : List Rat) (d e : Nat), vs = [x, y] ∧ PT K H x a ∧ PT K H y b ∧ (∀ q ∈ a, Gd d e q) ∧ (∀ q ∈ b, Gd d e q) ∧ a.length ≤ 100 ∧ b.length ≤ 100 ∧ Bd d (e + 1) ∧ Post H Q fun v H' => PT K H' v (pplus a b)
theorem sc_p_plus : FnScope ["one", "other", "size", "first", "second", "x", "y"] ["one", "other"] (defScope (topS 25)) := ⟨rfl, rfl, rfl, by decide +kernel, rfl, by decide +kernel, by decide +kernel⟩
theorem ok_p_plus (F : Fun K "p_plus" "p_plus" (topS 25) f fd) (T : Top K mg z o t6 t7 t8 t12) (C_plus : Cl P w K mg base "plus" 2 ["one", "other"] (spPlus K)) (C_trimmed : Cl P w K mg base "trimmed" 2 ["row"] (spTrim K)) : FnOk P w K mg base CX0 3 f fd ["one", "other"] (spPPlus K) := by
  have sc := sc_p_plus
  refine F.ok sc (fun vs H Q E h => ?_) (fun cdv A outer s H vs Q E hr h => ?_)
  · obtain ⟨_, _, _, _, _, _, rfl, _⟩ := h
    rfl
  · obtain ⟨x, y, a, b, d, e, rfl, ⟨p1, us, rfl, hp1, ha⟩, ⟨p2, ws, rfl, hp2, hb⟩, ga, gb, la, lb, B, q⟩ := h
    refine ⟨_, (pss_cons (ps_set (i := 2) sc.nd rfl (by first | exact Or.inl rfl | exact Or.inr rfl) (pe_callB (call_max2 rfl) (by rfl) T.max (by decide +kernel) (pa_cons (pe_callB call_len_seq (by rfl) T.len (by decide +kernel) (pa_cons (pv 0) pa_nil)) (pa_cons (pe_callB call_len_seq (by rfl) T.len (by decide +kernel) (pa_cons (pv 1) pa_nil)) pa_nil))))
      (pss_cons (ps_set (i := 3) sc.nd rfl (by first | exact Or.inl rfl | exact Or.inr rfl) (pe_lst (pa_star (pv 0) (pa_star (pe_op op_rep (pe_lst (pa_cons (pe_glob (v := .ref z) (by rfl) T.zero rfl) pa_nil)) (pe_op op_sub (pv 2) (pe_callB call_len_seq (by rfl) T.len (by decide +kernel) (pa_cons (pv 0) pa_nil)))) pa_nil))))
      (pss_cons (ps_set (i := 4) sc.nd rfl (by first | exact Or.inl rfl | exact Or.inr rfl) (pe_lst (pa_star (pv 1) (pa_star (pe_op op_rep (pe_lst (pa_cons (pe_glob (v := .ref z) (by rfl) T.zero rfl) pa_nil)) (pe_op op_sub (pv 2) (pe_callB call_len_seq (by rfl) T.len (by decide +kernel) (pa_cons (pv 1) pa_nil)))) pa_nil))))
      (pss_one (ps_ret (pe_cl C_trimmed hr (by rfl) (pa_cons (pe_lc (own := [("x", 5), ("y", 6)]) (g := gTup K 2 (gCons (gName 5) (gCons (gName 6) gNil))) (tt := tYes) rfl sc.nd (RZ.pi_zipA (by rfl) T.zip (pa_cons (pv 3) (pa_cons (pv 4) pa_nil))) (blkOk_by (own := [("x", 5), ("y", 6)]) (N := ["one", "other", "size", "first", "second", "x", "y"]) (sc := (defScope (topS 25))) (by decide +kernel)) (fun _ _ _ _ _ => (pg_tup rfl (pgs_cons (pg_name (i := 5) sc.nd rfl (Or.inl rfl)) (pgs_cons (pg_name (i := 6) sc.nd rfl (Or.inl rfl)) pgs_nil)))) (fun _ _ _ _ _ => pts_nil) (fun _ _ _ _ _ => (pe_cl C_plus hr (by rfl) (pa_cons (pv 5) (pa_cons (pv 6) pa_nil))))) pa_nil))))))), ?_⟩
    have l1 := ha.1
    have l2 := hb.1
    generalize hm : max a.length b.length = m
    have em : (if (ws.length : Int) > (us.length : Int) then (ws.length : Int) else (us.length : Int)) = (m : Int) := by
      rw [l1, l2, ← hm]
      split <;> omega
    refine Evl.q_asg (Evl.ev_is (Evl.ev_max2 (ev_lenT (Evl.ev_var rfl) hp1) (ev_lenT (Evl.ev_var rfl) hp2)) (by rw [em])) fun H1 e1 => ?_
    have k1 : ∀ {H2}, Ex H H2 → Evl.Ev (tOp (rI0 fun i j => .int (i - j)) (tVar 2) (tCB (Evl.rLenS K) (tCons (tVar 0) tNil))) [some (.ref p1), some (.ref p2), some (.int (m : Int)), none, none, none, none] H2 (.int ((m - a.length : Nat) : Int)) := fun e2 =>
      Evl.ev_is (Evl.ev_op (Evl.ev_var rfl) (ev_lenT (Evl.ev_var rfl) (tx_t (.of e2) hp1)) Evl.rv_I0) (by rw [l1]; show V.int ((m : Int) - (a.length : Int)) = _; congr 1; omega)
    refine q_set (el_pad (Evl.ev_var rfl) (tx_t (.of e1) hp1) (ha.ex e1) (el_rep Evl.ev_c (T.rz H1) (k1 e1) (by omega)) (by rw [List.length_replicate]; omega)) fun v2 H2 e2 r2 => ?_
    obtain ⟨q1, xs1, rfl, n1, h1, hr1⟩ := r2
    have k2 : Evl.Ev (tOp (rI0 fun i j => .int (i - j)) (tVar 2) (tCB (Evl.rLenS K) (tCons (tVar 1) tNil))) [some (.ref p1), some (.ref p2), some (.int (m : Int)), some (.ref q1), none, none, none] H2 (.int ((m - b.length : Nat) : Int)) :=
      Evl.ev_is (Evl.ev_op (Evl.ev_var rfl) (ev_lenT (Evl.ev_var rfl) (tx_t (.of (e1.trans e2)) hp2)) Evl.rv_I0) (by rw [l2]; show V.int ((m : Int) - (b.length : Int)) = _; congr 1; omega)
    refine q_set (el_pad (Evl.ev_var rfl) (tx_t (.of (e1.trans e2)) hp2) (hb.ex (e1.trans e2)) (el_rep Evl.ev_c (T.rz H2) k2 (by omega)) (by rw [List.length_replicate]; omega)) fun v3 H3 e3 r3 => ?_
    obtain ⟨q2, xs2, rfl, n2, h2, hr2⟩ := r3
    have L1 : xs1.length = m := by rw [hr1.1, List.length_append, List.length_replicate]; omega
    have L2 : xs2.length = m := by rw [hr2.1, List.length_append, List.length_replicate]; omega
    have g1 : ∀ i, Gd d e (a.getD i 0) := getD_gd (P := Gd d e) ga (gd_zero B.pos)
    have g2 : ∀ i, Gd d e (b.getD i 0) := getD_gd (P := Gd d e) gb (gd_zero B.pos)
    refine s_ret (evp_trim (el_zipL (f := fun i => a.getD i 0 + b.getD i 0) (Evl.ev_var rfl) (Evl.ev_var rfl) (.inl (.inl (e3 q1 _ h1))) (.inl (.inl h2)) (by rw [L1, L2]) (by rw [L1]; omega) (fun _ _ => rfl) fun i x y H' e' hx hy => ?_) (by rw [L1]; omega)) fun v4 H4 e4 r4 => ?_
    · have rx := ((hr1.ex e3).2 i x hx).ex e'
      have ry := (hr2.2 i y hy).ex e'
      rw [padG] at rx ry
      exact evq_plus (evq_var rfl rx) (evq_var rfl ry) (B.sm (g1 i) (by omega)) (B.sm (g2 i) (by omega))
    · refine q v4 H4 (((e1.trans e2).trans e3).trans e4) ?_
      rw [L1, ← hm] at r4
      exact r4
theorem evp_plus {σ : L2.St} {H : Hp} {ta tb : TE} {a b : List Rat} {d e : Nat} (ha : EvP K ta σ H a) (hb : EvP K tb σ H b) (ga : ∀ q ∈ a, Gd d e q) (gb : ∀ q ∈ b, Gd d e q) (la : a.length ≤ 100) (lb : b.length ≤ 100) (B : Bd d (e + 1)) : EvP K (tCall (spPPlus K) [] E0 (tCons ta (tCons tb tNil))) σ H (pplus a b) :=
  evr_call (ear_cons ha mn_p (ear_cons hb mn_p ear_nil)) fun vs H1 _ hv Q p => by
    obtain ⟨v, r, rfl, hr, v2, r2, rfl, hr2, rfl⟩ := hv
    exact ⟨v, v2, a, b, d, e, rfl, hr, hr2, ga, gb, la, lb, B, p⟩

/-! ### p_times -/
def spPTimes (K : PySem.W.Frag) : Sp := fun vs H Q _ => ∃ (x y : V) (a b : List Rat) (d e d' e' : Nat), vs = [x, y] ∧ PT K H x a ∧ PT K H y b ∧ (∀ q ∈ a, Gd d e q) ∧ (∀ q ∈ b, Gd d' e' q) ∧ 0 < d ∧ 0 < d' ∧ a.length ≤ 100 ∧ b.length ≤ 100 ∧ Bd (d * d') (e + e' + a.length + 1) ∧ Post H Q fun v H' => PT K H' v (pmul a b)
theorem sc_p_times : FnScope ["one", "other", "found", "place", "x", "more", "y"] ["one", "other"] (defScope (topS 26)) := ⟨rfl, rfl, rfl, by decide +kernel, rfl, by decide +kernel, by decide +kernel⟩
theorem ok_p_times (F : Fun K "p_times" "p_times" (topS 26) f fd) (T : Top K mg z o t6 t7 t8 t12) (C_plus : Cl P w K mg base "plus" 2 ["one", "other"] (spPlus K)) (C_times : Cl P w K mg base "times" 2 ["one", "other"] (spTimes K)) : FnOk P w K mg base CX0 3 f fd ["one", "other"] (spPTimes K) := by
  have sc := sc_p_times
  refine F.ok sc (fun vs H Q E h => ?_) (fun cdv A outer s H vs Q E hr h => ?_)
  · obtain ⟨_, _, _, _, _, _, _, _, rfl, _⟩ := h
    rfl
  · obtain ⟨x, y, a, b, d, e, d', e', rfl, hX, hY, ga, gb, d0, d0', la, lb, B, q⟩ := h
    refine ⟨_, (pss_cons (ps_if (PW.pt (pw_or (pt_cmpR (op_eqD hr.units) (pv 0) (pe_tup pa_nil) (nomark _)) (pw_or1 (pt_cmpR (op_eqD hr.units) (pv 1) (pe_tup pa_nil) (nomark _)))))
        (pss_one (ps_ret (pe_tup pa_nil))) pss_nil)
      (pss_cons (ps_set (i := 2) sc.nd rfl (by first | exact Or.inl rfl | exact Or.inr rfl) (pe_op op_rep (pe_lst (pa_cons (pe_glob (v := .ref z) (by rfl) T.zero rfl) pa_nil)) (pe_op op_sub (pe_op op_add (pe_callB call_len_seq (by rfl) T.len (by decide +kernel) (pa_cons (pv 0) pa_nil)) (pe_callB call_len_seq (by rfl) T.len (by decide +kernel) (pa_cons (pv 1) pa_nil))) pe_int)))
      (pss_cons (ps_for PassesOwn.never rfl (pi_enumT (by rfl) T.enumerate (pa_cons (pv 0) pa_nil)) (pg_tup rfl (pgs_cons (pg_name (i := 3) sc.nd rfl (by first | exact Or.inl rfl | exact Or.inr rfl)) (pgs_cons (pg_name (i := 4) sc.nd rfl (by first | exact Or.inl rfl | exact Or.inr rfl)) pgs_nil)))
        (pss_one (ps_for PassesOwn.never rfl (pi_enumT (by rfl) T.enumerate (pa_cons (pv 1) pa_nil)) (pg_tup rfl (pgs_cons (pg_name (i := 5) sc.nd rfl (by first | exact Or.inl rfl | exact Or.inr rfl)) (pgs_cons (pg_name (i := 6) sc.nd rfl (by first | exact Or.inl rfl | exact Or.inr rfl)) pgs_nil)))
          (pss_one (ps_asg (pe_cl C_plus hr (by rfl) (pa_cons (pe_ix ix_list (pv 2) (pe_op op_add (pv 3) (pv 5)) (fun _ _ => rfl)) (pa_cons (pe_cl C_times hr (by rfl) (pa_cons (pv 4) (pa_cons (pv 6) pa_nil))) pa_nil))) (pg_sub (pv 2) (pe_op op_add (pv 3) (pv 5)) set_list))))))
      (pss_one (ps_ret (pe_callTy call_tuple_of (by rfl) T.tuple (by decide +kernel) (pa_cons (pv 2) pa_nil))))))), ?_⟩
    refine Evl.q_when (b := decide (a = []) || decide (b = [])) (Evl.et_or (Evl.et_test (ev_eqP (evp_var rfl hX) evp_nil)) fun _ => Evl.et_test (ev_eqP (evp_var rfl hY) evp_nil)) (fun h0 H1 e1 => ?_) fun h0 H1 e1 => ?_
    · have hor : a = [] ∨ b = [] := by simpa using h0
      refine s_ret (evp_nil (K := K)) fun v H2 e2 r => q v H2 (e1.trans e2) ?_
      unfold pmul
      rw [if_pos hor]
      exact r
    · have hor : ¬ (a = [] ∨ b = []) := by simpa using h0
      obtain ⟨p1, us, rfl, hp1, ha⟩ := hX
      obtain ⟨p2, ws, rfl, hp2, hb⟩ := hY
      have l1 := ha.1
      have l2 := hb.1
      have la0 : 0 < a.length := Nat.pos_of_ne_zero fun z => hor (.inl (List.eq_nil_of_length_eq_zero z))
      have lb0 : 0 < b.length := Nat.pos_of_ne_zero fun z => hor (.inr (List.eq_nil_of_length_eq_zero z))
      have g1 : ∀ i, Gd d e (a.getD i 0) := getD_gd (P := Gd d e) ga (gd_zero d0)
      have g2 : ∀ i, Gd d' e' (b.getD i 0) := getD_gd (P := Gd d' e') gb (gd_zero d0')
      have kk : Evl.Ev (tOp (rI0 fun i j => .int (i - j)) (tOp (rI0 fun i j => .int (i + j)) (tCB (Evl.rLenS K) (tCons (tVar 0) tNil)) (tCB (Evl.rLenS K) (tCons (tVar 1) tNil))) (tC (.int 1))) [some (.ref p1), some (.ref p2), none, none, none, none, none] H1 (.int ((a.length + b.length - 1 : Nat) : Int)) :=
        Evl.ev_is (Evl.ev_op (Evl.ev_op (ev_lenT (Evl.ev_var rfl) (tx_t (.of e1) hp1)) (ev_lenT (Evl.ev_var rfl) (tx_t (.of e1) hp2)) Evl.rv_I0) Evl.ev_c Evl.rv_I0) (by rw [l1, l2]; show V.int (((a.length : Int) + (b.length : Int)) - 1) = _; congr 1; omega)
      refine q_set (el_rep Evl.ev_c (T.rz H1) kk (by omega)) fun v2 H2 e2 r2 => ?_
      obtain ⟨l, xs0, rfl, nl, hl0, hr0⟩ := r2
      have nlH : H l = none := Evl.fresh_back e1 nl
      refine ⟨_, rfl, p1, us, rfl, tx_t (.of (e1.trans e2)) hp1, ?_⟩
      refine for_it (walk_enumT (xs := us)) (fun k σ H' => ∃ ws1 y3 y4 y5 y6, σ = [some (.ref p1), some (.ref p2), some (.ref l), y3, y4, y5, y6] ∧ Ex H H' ∧ H' l = some (.lst ws1) ∧ RTs K H' ws1 (mulAdd a b k)) ⟨xs0, none, none, none, none, rfl, e1.trans e2, hl0, hr0⟩ (fun i σ H' _ h => ?_) (fun i u σ H' H'' hi h hy => ?_) fun σ H' h => ?_
      · obtain ⟨_, _, _, _, _, _, h, _⟩ := h
        exact tx_t (.of h) hp1
      · obtain ⟨T1, x1, x2, rfl, nT, rfl, f1, f2⟩ := hy
        cases f1
        obtain ⟨ws1, y3, y4, y5, y6, rfl, e3, hl, hr1⟩ := h
        have eT : Ex H' (upd H' T1 (.tup [.int (i : Nat), x2])) := Ex.new nT
        refine ⟨T1, _, rfl, .inl (.inl upd_same), rfl, _, _, rfl, _, _, rfl, rfl, ?_⟩
        refine ⟨_, rfl, p2, ws, rfl, tx_t (.of (e3.trans eT)) hp2, ?_⟩
        have rx := ((ha.ex e3).2 i x2 f2).ex eT
        refine for_it (walk_enumT (xs := ws)) (fun m σ H' => ∃ ws2 y5 y6, σ = [some (.ref p1), some (.ref p2), some (.ref l), some (.int (i : Nat)), some x2, y5, y6] ∧ Ex H H' ∧ H' l = some (.lst ws2) ∧ RTs K H' ws2 (rowAdd (mulAdd a b i) i (a.getD i 0) b m) ∧ RT K H' x2 (a.getD i 0)) ⟨ws1, y5, y6, rfl, e3.trans eT, eT l _ hl, hr1.ex eT, rx⟩ (fun m σ H2 _ h => ?_) (fun m u2 σ H2 H3 hm h hy2 => ?_) fun σ H2 h => ?_
        · obtain ⟨_, _, _, _, h, _⟩ := h
          exact tx_t (.of h) hp2
        · obtain ⟨T2, z1, z2, rfl, nT2, rfl, f3, f4⟩ := hy2
          cases f3
          obtain ⟨ws2, y5', y6', rfl, e4, hl2, hr2, rx2⟩ := h
          have eT2 : Ex H2 (upd H2 T2 (.tup [.int (m : Nat), z2])) := Ex.new nT2
          refine ⟨T2, _, rfl, .inl (.inl upd_same), rfl, _, _, rfl, _, _, rfl, rfl, ?_⟩
          have ry := ((hb.ex e4).2 m z2 f4).ex eT2
          have hr3 := hr2.ex eT2
          have hl3 := eT2 l _ hl2
          have lR : (rowAdd (mulAdd a b i) i (a.getD i 0) b m).length = a.length + b.length - 1 := by rw [rowAdd_len, mulAdd_len]
          have lim : i + m < a.length + b.length - 1 := by omega
          obtain ⟨v0, hv0, rv0⟩ := hr3.get (i := i + m) (by rw [lR]; exact lim)
          have gR := row_gd d0 d0' ga gb i m (i + m)
          refine s_setQ (j := i + m) hl3 (evq_plus (evq_ev (Evl.ev_op (Evl.ev_var rfl) (Evl.ev_op (Evl.ev_var rfl) (Evl.ev_var rfl) Evl.rv_I0) (Evl.rv_ixL (v := v0) (.inl (.inl hl3)) (at_of (show (i : Int) + (m : Int) = ((i + m : Nat) : Int) by omega) hv0))) rv0) (evq_times (evq_var rfl (rx2.ex eT2)) (evq_var rfl ry) ?_ ?_) ?_ ?_) (Evl.ev_var rfl) (Evl.ev_is (Evl.ev_op (Evl.ev_var rfl) (Evl.ev_var rfl) Evl.rv_I0) (by show V.int ((i : Int) + (m : Int)) = _; congr 1)) (by rw [hr3.1, lR]; exact lim) fun v5 H5 e5 r5 => ?_
          · exact B.sm ((g1 i).up (Nat.dvd_mul_right d d') (Nat.le_refl e) B.pos) (by omega)
          · exact B.sm ((g2 m).up (Nat.dvd_mul_left d' d) (Nat.le_refl e') B.pos) (by omega)
          · exact B.sm gR (by omega)
          · exact B.sm ((g1 i).mul (g2 m)) (by omega)
          · have h5 := e5 l _ hl3
            have h45 := (e4.trans eT2).trans e5
            refine ⟨ws2.set (i + m) v5, _, _, rfl, h45.mut nlH, upd_same, ?_, (rx2.ex (eT2.trans e5)).tx (.set h5)⟩
            exact ((hr3.ex e5).tx (.set h5)).set (i + m) (r5.tx (.set h5))
        · obtain ⟨ws2, y5', y6', rfl, e4, hl2, hr2, rx2⟩ := h
          rw [l2] at hr2
          exact ⟨ws2, _, _, _, _, rfl, e4, hl2, hr2⟩
      · obtain ⟨ws1, y3, y4, y5, y6, rfl, e3, hl, hr1⟩ := h
        rw [l1] at hr1
        refine s_ret (evp_tuple (H0 := H1) (evr_ev (Evl.ev_var rfl) fun H2 e4 => ⟨l, ws1, rfl, nl, e4 l _ hl, hr1.ex e4⟩)) fun v3 H3 e5 r3 => q v3 H3 (e3.trans e5) ?_
        unfold pmul
        rw [if_neg hor]
        exact r3
theorem evp_times {σ : L2.St} {H : Hp} {ta tb : TE} {a b : List Rat} {d e d' e' : Nat} (ha : EvP K ta σ H a) (hb : EvP K tb σ H b) (ga : ∀ q ∈ a, Gd d e q) (gb : ∀ q ∈ b, Gd d' e' q) (d0 : 0 < d) (d0' : 0 < d') (la : a.length ≤ 100) (lb : b.length ≤ 100) (B : Bd (d * d') (e + e' + a.length + 1)) : EvP K (tCall (spPTimes K) [] E0 (tCons ta (tCons tb tNil))) σ H (pmul a b) :=
  evr_call (ear_cons ha mn_p (ear_cons hb mn_p ear_nil)) fun vs H1 _ hv Q p => by
    obtain ⟨v, r, rfl, hr, v2, r2, rfl, hr2, rfl⟩ := hv
    exact ⟨v, v2, a, b, d, e, d', e', rfl, hr, hr2, ga, gb, d0, d0', la, lb, B, p⟩

/-! ### p_slope, p_sum -/
def spSlope (K : PySem.W.Frag) : Sp := fun vs H Q _ => ∃ (x : V) (a : List Rat) (d e : Nat), vs = [x] ∧ PT K H x a ∧ (∀ q ∈ a, Gd d e q) ∧ a.length ≤ 50 ∧ Bd d (e + 1) ∧ Post H Q fun v H' => PT K H' v (pslope a)
def spSum (K : PySem.W.Frag) : Sp := fun vs H Q _ => ∃ (x : V) (a : List Rat) (d e : Nat), vs = [x] ∧ PT K H x a ∧ (∀ q ∈ a, Gd d e q) ∧ a.length ≤ 6 ∧ Bd d (e + 1) ∧ Post H Q fun v H' => PT K H' v (psum a)
theorem sc_p_slope : FnScope ["poly", "power", "one"] ["poly"] (defScope (topS 27)) := ⟨rfl, rfl, rfl, by decide +kernel, rfl, by decide +kernel, by decide +kernel⟩
theorem ok_p_slope (F : Fun K "p_slope" "p_slope" (topS 27) f fd) (T : Top K mg z o t6 t7 t8 t12) (C_times : Cl P w K mg base "times" 2 ["one", "other"] (spTimes K)) : FnOk P w K mg base CX0 3 f fd ["poly"] (spSlope K) := by
  have sc := sc_p_slope
  refine F.ok sc (fun vs H Q E h => ?_) (fun cdv A outer s H vs Q E hr h => ?_)
  · obtain ⟨_, _, _, _, rfl, _⟩ := h
    rfl
  · obtain ⟨x, a, d, e, rfl, ⟨p1, us, rfl, hp1, ha⟩, ga, la, B, q⟩ := h
    refine ⟨_, (pss_one (ps_ret (pe_callTy call_tuple_of (by rfl) T.tuple (by decide +kernel) (pa_cons (pe_slice sl_list (pe_lc (own := [("power", 1), ("one", 2)]) (g := gTup K 2 (gCons (gName 1) (gCons (gName 2) gNil))) (tt := tYes) rfl sc.nd (pi_enumT (by rfl) T.enumerate (pa_cons (pv 0) pa_nil)) (blkOk_by (own := [("power", 1), ("one", 2)]) (N := ["poly", "power", "one"]) (sc := (defScope (topS 27))) (by decide +kernel)) (fun _ _ _ _ _ => (pg_tup rfl (pgs_cons (pg_name (i := 1) sc.nd rfl (Or.inl rfl)) (pgs_cons (pg_name (i := 2) sc.nd rfl (Or.inl rfl)) pgs_nil)))) (fun _ _ _ _ _ => pts_nil) (fun _ _ _ _ _ => (pe_cl C_times hr (by rfl) (pa_cons (pv 2) (pa_cons (pe_tup (pa_cons (pv 1) (pa_cons pe_int pa_nil))) pa_nil))))) (po_some pe_int) po_none) pa_nil)))), ?_⟩
    have l1 := ha.1
    have g1 : ∀ i, Gd d e (a.getD i 0) := getD_gd (P := Gd d e) ga (gd_zero B.pos)
    refine s_ret (evp_tuple (el_cut1 (el_enumT (f := fun i => a.getD i 0 * ((i : Nat) : Rat)) (Evl.ev_var rfl) hp1 (by omega) (fun _ _ => rfl) fun i x H' e' hx => ?_))) fun v H2 e2 r => q v H2 e2 ?_
    · have hi := (List.getElem?_eq_some_iff.mp hx).1
      have g2 : Gd 1 1 ((i : Nat) : Rat) := gd_nat (by
        have : (60 : Nat) ^ 1 = 60 := rfl
        omega)
      exact evq_times (evq_var rfl ((ha.2 i x hx).ex e')) (evq_pair (Evl.ev_var rfl) Evl.ev_c rfl rfl) (B.sm (g1 i) (by omega)) (B.sm1 g2 (by omega))
    · rw [l1, List.drop_one] at r
      exact r
theorem sc_p_sum : FnScope ["poly", "power", "one"] ["poly"] (defScope (topS 28)) := ⟨rfl, rfl, rfl, by decide +kernel, rfl, by decide +kernel, by decide +kernel⟩
theorem inv_di (n : Nat) : Rat.divInt 1 ((n : Int) + 1) = 1 / ((n + 1 : Nat) : Rat) := by
  rw [Rat.divInt_eq_div]
  rfl
theorem ok_p_sum (F : Fun K "p_sum" "p_sum" (topS 28) f fd) (T : Top K mg z o t6 t7 t8 t12) (C_times : Cl P w K mg base "times" 2 ["one", "other"] (spTimes K)) (C_made : Cl P w K mg base "made" 2 ["top", "low"] (spMade K)) (C_trimmed : Cl P w K mg base "trimmed" 2 ["row"] (spTrim K)) : FnOk P w K mg base CX0 3 f fd ["poly"] (spSum K) := by
  have sc := sc_p_sum
  refine F.ok sc (fun vs H Q E h => ?_) (fun cdv A outer s H vs Q E hr h => ?_)
  · obtain ⟨_, _, _, _, rfl, _⟩ := h
    rfl
  · obtain ⟨x, a, d, e, rfl, ⟨p1, us, rfl, hp1, ha⟩, ga, la, B, q⟩ := h
    refine ⟨_, (pss_one (ps_ret (pe_cl C_trimmed hr (by rfl) (pa_cons (pe_lst (pa_cons (pe_glob (v := .ref z) (by rfl) T.zero rfl) (pa_star (pe_lc (own := [("power", 1), ("one", 2)]) (g := gTup K 2 (gCons (gName 1) (gCons (gName 2) gNil))) (tt := tYes) rfl sc.nd (pi_enumT (by rfl) T.enumerate (pa_cons (pv 0) pa_nil)) (blkOk_by (own := [("power", 1), ("one", 2)]) (N := ["poly", "power", "one"]) (sc := (defScope (topS 28))) (by decide +kernel)) (fun _ _ _ _ _ => (pg_tup rfl (pgs_cons (pg_name (i := 1) sc.nd rfl (Or.inl rfl)) (pgs_cons (pg_name (i := 2) sc.nd rfl (Or.inl rfl)) pgs_nil)))) (fun _ _ _ _ _ => pts_nil) (fun _ _ _ _ _ => (pe_cl C_times hr (by rfl) (pa_cons (pv 2) (pa_cons (pe_cl C_made hr (by rfl) (pa_cons pe_int (pa_cons (pe_op op_add (pv 1) pe_int) pa_nil))) pa_nil))))) pa_nil))) pa_nil)))), ?_⟩
    have l1 := ha.1
    have g1 : ∀ i, Gd d e (a.getD i 0) := getD_gd (P := Gd d e) ga (gd_zero B.pos)
    refine s_ret (evp_trimF (el_cons Evl.ev_c (T.rz H) (el_enumT (f := fun i => a.getD i 0 * (1 / ((i + 1 : Nat) : Rat))) (Evl.ev_var rfl) hp1 (by omega) (fun _ _ => rfl) fun i x H' e' hx => ?_) (by simp; omega)) (by simp; omega)) fun v H2 e2 r => q v H2 e2 ?_
    · have hi := (List.getElem?_eq_some_iff.mp hx).1
      have h6 : i < 6 := by omega
      have g2 : Gd 1 1 (1 / ((i + 1 : Nat) : Rat)) := gd_inv60 (by omega) (by
        match i, h6 with
        | 0, _ => decide
        | 1, _ => decide
        | 2, _ => decide
        | 3, _ => decide
        | 4, _ => decide
        | 5, _ => decide)
      refine evq_times (evq_var rfl ((ha.2 i x hx).ex e')) (evr_call (ear_cons (evr_is Evl.ev_c) mn_eq (ear_cons (evr_is (Evl.ev_op (Evl.ev_var rfl) Evl.ev_c Evl.rv_I0)) mn_eq ear_nil)) fun vs H3 e3 hv Q p => ?_) (B.sm (g1 i) (by omega)) (B.sm1 g2 (by omega))
      obtain ⟨v, r, rfl, rfl, v2, r2, rfl, rfl, rfl⟩ := hv
      refine ⟨1, (i : Int) + 1, rfl, by omega, ?_, ?_⟩
      · have : ((i : Int) + 1).natAbs ≤ 6 := by omega
        exact Nat.lt_of_le_of_lt this (by decide +kernel)
      · rw [inv_di]
        exact p
    · rw [l1] at r
      exact r
theorem evp_slope {σ : L2.St} {H : Hp} {ta : TE} {a : List Rat} {d e : Nat} (ha : EvP K ta σ H a) (ga : ∀ q ∈ a, Gd d e q) (la : a.length ≤ 50) (B : Bd d (e + 1)) : EvP K (tCall (spSlope K) [] E0 (tCons ta tNil)) σ H (pslope a) :=
  evr_call (ear_cons ha mn_p ear_nil) fun vs H1 _ hv Q p => by
    obtain ⟨v, r, rfl, hr, rfl⟩ := hv
    exact ⟨v, a, d, e, rfl, hr, ga, la, B, p⟩
theorem evp_sum {σ : L2.St} {H : Hp} {ta : TE} {a : List Rat} {d e : Nat} (ha : EvP K ta σ H a) (ga : ∀ q ∈ a, Gd d e q) (la : a.length ≤ 6) (B : Bd d (e + 1)) : EvP K (tCall (spSum K) [] E0 (tCons ta tNil)) σ H (psum a) :=
  evr_call (ear_cons ha mn_p ear_nil) fun vs H1 _ hv Q p => by
    obtain ⟨v, r, rfl, hr, rfl⟩ := hv
    exact ⟨v, a, d, e, rfl, hr, ga, la, B, p⟩
end
end BW
/-! BwE: looks at polynomials and pieces, divided differences. -/
namespace BW
open PySem PySem.Spec PyProof.Rows L2 BC
open Evl (Ex)
open StX (tStar pa_star)

/-! ### tuples held with their very objects -/
def bareT (o : Obj) : Prop := o.cls = .type "tuple" ∧ o.dict = none
/-- a tuple made, held as the object that it is -/
def tTupF (t : TA) : TE := fun σ H Q => t σ H fun xs H1 => xs.length ≤ sizeLine ∧ ∀ p o, H1 p = none → bareT o → Q (.ref p) (upd H1 p (.frz o (.tup xs)))
theorem pe_tupF {X : Cx} {es : List Expr} {t : TA} {x1 : Nat} {pos : Pos} (h : PA X es t) : PE X (.Tuple es x1 pos) (tTupF t) := by
  refine ⟨fun pins s σ H Q I hq => ?_⟩
  refine wpAny_Tuple_spliced (thn (h.run pos pins s σ H _ I hq) fun us s1 ⟨xs, H1, I1, r, z, q⟩ => ⟨by rw [← r.length]; exact z, ?_⟩)
  have fr : H1 s1.heap.objs.size = none := I1.hok.fresh (Nat.le_refl _)
  refine ⟨.ref s1.heap.objs.size, upd H1 s1.heap.objs.size (.frz { cls := .type "tuple", data := .seq us.toArray } (.tup xs)), I1.laid (t' := s1.toks) (fun b u e => Heap.get?_push_of_some _ e) (Nat.le_refl _) ?_, rfl, q _ _ fr ⟨rfl, rfl⟩⟩
  exact ⟨Heap.get?_push_size _ rfl, z, us, r, ⟨_, Heap.get?_push_size _ rfl, rfl, _, rfl⟩⟩
/-- a method of such a tuple -/
def tBMT (r : V → List V → Hp → VK → Prop) (to : TE) (t : TA) : TE := fun σ H Q => to σ H fun x H1 => (∃ p o xs, x = V.ref p ∧ H1 p = some (.frz o (.tup xs)) ∧ bareT o) ∧ t σ H1 fun xs H2 => r x xs H2 Q
theorem pe_bmT {X : Cx} {o : Expr} {name : Str} {id : String} {apos cpos : Pos} {e : Expr} {es : List Expr} {to : TE} {t : TA} {r : V → List V → Hp → VK → Prop} (pa : PlainAttrs "tuple") (slot : Slot "tuple" name id) (hty : typeOf (.builtin id) = pure (.type "method_descriptor")) (hm : MtR X id r) (ho : PE X o to) (ha : PA X (e :: es) t)
    (hbase : attributeBase o name X.env (eval o X.env) = eval o X.env := by rfl)
    (hfew : ((backTo cpos (starEach (e :: es) X.env)).all (fun x => !x.1) && (backToKw cpos (keywordEach [] X.env)).all (fun x => x.1.isSome)
      && decide ((e :: es).length + ([] : List Keyword).length + (if ([] : List Keyword).isEmpty then 0 else 1) < 30)) = true := by rfl)
    (hline : (apos.endLine == cpos.line) = true := by rfl) (hs : starEach (e :: es) X.env = (false, eval e X.env) :: starEach es X.env := by rfl) (hplain : (backTo cpos (starEach es X.env)).any (·.1) = false := by rfl) :
    PE X (.Call (.Attribute o name apos) (e :: es) [] cpos) (tBMT r to t) := by
  refine ⟨fun pins s σ H Q I h => ?_⟩
  refine wpAny_Call_method_late hbase hfew hline rfl (thn (ho.run pins s σ H _ I h) fun v s1 ⟨x, H1, I1, r1, ⟨p, ob, xs, ex, hp, hb1, hb2⟩, q1⟩ => ?_)
  subst ex
  cases r1
  have hget : s1.heap.get? p = some ob := (I1.hok p _ hp).1
  refine ⟨"tuple", id, pa, slot, hty, ⟨ob, hget, hb1⟩, fun a ea => ?_, ?_⟩
  · cases ea
    exact ⟨ob, hget, hb2⟩
  · have hA := ha.run cpos pins s1 σ H1 _ I1 q1
    rw [hs] at hA ⊢
    refine Calls.callWith_builtin (by show (false || (backTo cpos (starEach es X.env)).any (·.1)) = false; rw [hplain] <;> rfl) (Calls.evalArgs_plain ?_)
    exact thn hA fun us s2 ⟨vs, H2, I2, r2, q2⟩ => hm pins s2 σ H2 (.ref p) vs (.ref p) us Q I2 rfl r2 q2
/-- such a tuple of ratios -/
def FT (K : PySem.W.Frag) (H : Hp) (v : V) (qs : List Rat) : Prop := ∃ a o vs, v = .ref a ∧ H a = some (.frz o (.tup vs)) ∧ bareT o ∧ RTs K H vs qs
theorem FT.tx {K : PySem.W.Frag} {H H' : Hp} {v : V} {qs : List Rat} (h : FT K H v qs) (e : Tx H H') : FT K H' v qs := by
  obtain ⟨a, o, vs, rfl, h1, h2, h3⟩ := h
  exact ⟨a, o, vs, rfl, e a _ h1 (fun _ z => nomatch z), h2, h3.tx e⟩
theorem FT.ex {K : PySem.W.Frag} {H H' : Hp} {v : V} {qs : List Rat} (h : FT K H v qs) (e : Ex H H') : FT K H' v qs := h.tx (.of e)
theorem FT.pt {K : PySem.W.Frag} {H : Hp} {v : V} {qs : List Rat} (h : FT K H v qs) : PT K H v qs := by
  obtain ⟨a, o, vs, rfl, h1, h2, h3⟩ := h
  exact ⟨a, vs, rfl, .inl (.inr ⟨o, h1⟩), h3⟩
theorem idxOf_ne : ∀ (qs : List Rat) (q : Rat) (m : Nat), m < qs.idxOf q → qs.getD m 0 ≠ q
  | [], q, m, h => by simp at h
  | a :: r, q, m, h => by
    rw [List.idxOf_cons] at h
    by_cases e : a = q
    · have e2 : (a == q) = true := beq_iff_eq.mpr e
      rw [e2] at h
      simp at h
    · have e2 : (a == q) = false := beq_eq_false_iff_ne.mpr e
      rw [e2] at h
      cases m with
      | zero => exact e
      | succ m =>
        rw [List.getD_cons_succ]
        exact idxOf_ne r q m (by simpa using h)
/-- nodes.index(one) -/
theorem ev_index {K : PySem.W.Frag} {σ : L2.St} {H : Hp} {te : TE} {i : Nat} {v : V} {qs : List Rat} {q : Rat} (hi : σ[i]? = some (some v)) (hv : FT K H v qs) (h : EvQ K te σ H q) (hm : q ∈ qs) : Evl.Ev (tBMT (rIndexT K) (tVar i) (tCons te tNil)) σ H (.int ((qs.idxOf q : Nat) : Int)) := fun H1 e1 Q k => by
  obtain ⟨a, o, vs, rfl, h1, h2, h3⟩ := hv
  refine ⟨_, hi, ⟨a, o, vs, rfl, e1 a _ h1, h2⟩, h H1 e1 _ fun w H2 e2 r => ?_⟩
  have hlt : qs.idxOf q < qs.length := List.idxOf_lt_length_of_mem hm
  refine ⟨a, w, qD q, qs.map qD, qs.idxOf q, qD q, rfl, rfl, ?_, r.dp, pD_shaped qs, qD_shaped q, ?_, ?_, fun m z1 hm1 hz1 => ?_, k H2 e2⟩
  · exact .tup (.inl (.inr ⟨o, e2 a _ (e1 a _ h1)⟩)) (h3.ex (e1.trans e2)).dp
  · rw [List.getElem?_map, List.getElem?_eq_getElem hlt]
    show some (qD qs[qs.idxOf q]) = some (qD q)
    rw [List.getElem_idxOf hlt]
  · rw [qD_eqv]
    exact decide_eq_true rfl
  · rw [List.getElem?_map] at hz1
    have hml : m < qs.length := by omega
    rw [List.getElem?_eq_getElem hml] at hz1
    have ez : qD qs[m] = z1 := Option.some.inj hz1
    rw [← ez, qD_eqv]
    refine decide_eq_false fun z => ?_
    refine idxOf_ne qs q m hm1 ?_
    rw [getD_lt hml]
    exact z
section
variable {P : Program} {w : World} {K : PySem.W.Frag} {mg : Str → Option Value} {base : Heap} {f z o : Addr} {fd : FuncData} {t6 t7 t8 t12 : Tok}

/-! ### is_poly, need_data -/
def spIsPoly (K : PySem.W.Frag) : Sp := fun vs H Q _ => ∃ (x : V) (qs : List Rat), vs = [x] ∧ PT K H x qs ∧ qs.length ≤ 13 ∧ (qs = [] ∨ qs.getLast? ≠ some 0) ∧ Post H Q fun v _ => v = .bl true
theorem evq_last {σ : L2.St} {H : Hp} {i : Nat} {p : Addr} {vs : List V} {qs : List Rat} (hi : σ[i]? = some (some (.ref p))) (hp : SqT K H p vs) (hq : RTs K H vs qs) (hn : qs ≠ []) : EvQ K (tOp (rIxT K) (tVar i) (tUn (rU fun i => .int (-i)) (tC (.int 1)))) σ H (qs.getD (qs.length - 1) 0) := by
  have hl : 0 < qs.length := List.length_pos_iff.mpr hn
  obtain ⟨v, hv, rv⟩ := hq.get (i := qs.length - 1) (by omega)
  refine evq_ev (Evl.ev_op (Evl.ev_var hi) (Evl.ev_un Evl.ev_c Evl.ru_neg) (Evl.rv_ixT (v := v) hp ?_)) rv
  show (ixN vs.length (-1)).bind (fun j => vs[j]?) = some v
  have l1 := hq.1
  have e : ixN vs.length (-1) = some (vs.length - 1) := by
    unfold ixN
    rw [if_neg (by omega), if_pos (by omega)]
    congr 1
    omega
  rw [e, l1]
  exact hv
theorem sc_is_poly : FnScope ["value", "one"] ["value"] (defScope (topS 22)) := ⟨rfl, rfl, rfl, by decide +kernel, rfl, by decide +kernel, by decide +kernel⟩
theorem ok_is_poly (F : Fun K "is_poly" "is_poly" (topS 22) f fd) (T : Top K mg z o t6 t7 t8 t12) (C_is_ratio : Cl P w K mg base "is_ratio" 2 ["value"] (spIsRatio K)) : FnOk P w K mg base CX0 3 f fd ["value"] (spIsPoly K) := by
  have sc := sc_is_poly
  refine F.ok sc (fun vs H Q E h => ?_) (fun cdv A outer s H vs Q E hr h => ?_)
  · obtain ⟨_, _, rfl, _⟩ := h
    rfl
  · obtain ⟨x, qs, rfl, hX, hlen, hlast, q⟩ := h
    refine ⟨_, (pss_cons (ps_if (PW.pt (pw_or (pt_not (pt_val (pe_callB call_isi (by rfl) T.isinstance (by decide +kernel) (pa_cons (pv 0) (pa_cons (pe_bltn (v := .ty "tuple") (by rfl) T.tuple (by decide +kernel) rfl) pa_nil))))) (pw_or (pt_cmpR op_gt (pe_callB call_len_seq (by rfl) T.len (by decide +kernel) (pa_cons (pv 0) pa_nil)) (pe_op op_add (pe_glob (v := .int 12) (by rfl) T.MOST_DEGREE ⟨_, rfl⟩) pe_int) (nomark _)) (pw_or1 (pt_not (pt_val (pe_callB (cr_all rfl) (by rfl) T.all (by decide +kernel) (pa_cons (pe_lc (own := [("one", 1)]) (g := gName 1) (tt := tYes) rfl sc.nd (pi_tup (pv 0)) (blkOk_by (own := [("one", 1)]) (N := ["value", "one"]) (sc := (defScope (topS 22))) (by decide +kernel)) (fun _ _ _ _ _ => (pg_name (i := 1) sc.nd rfl (Or.inl rfl))) (fun _ _ _ _ _ => pts_nil) (fun _ _ _ _ _ => (pe_cl C_is_ratio hr (by rfl) (pa_cons (pv 1) pa_nil)))) pa_nil))))))))
        (pss_one (ps_ret pe_bl)) pss_nil)
      (pss_one (ps_ret (pe_or (pe_cmpR (op_eqD hr.units) (pv 0) (pe_tup pa_nil) (nomark _)) (pe_one (pe_cmpR (op_neD hr.units) (pe_ix ix_tup (pv 0) (pe_un un_neg pe_int) (fun _ _ => rfl)) (pe_glob (v := .ref z) (by rfl) T.zero rfl) (nomark _))))))), ?_⟩
    obtain ⟨p, us, rfl, hp, hq⟩ := id hX
    have l1 := hq.1
    refine Evl.q_when (b := false) ?_ (fun h => nomatch h) fun _ H1 e1 => ?_
    · refine Evl.et_or (a := false) (b := false) (Evl.et_not (a := true) (Evl.et_B (ev_isi (Evl.ev_var rfl) (fun _ e => ty_tup (tx_t (.of e) hp)) (kit_ty (by decide +kernel))))) fun _ => ?_
      refine Evl.et_or (a := false) (b := false) (Evl.et_test (Evl.ev_is (Evl.ev_op (ev_lenT (Evl.ev_var rfl) hp) (Evl.ev_op Evl.ev_c Evl.ev_c Evl.rv_I0) Evl.rv_I0) ?_)) fun _ => ?_
      · show V.bl (decide ((12 : Int) + 1 < (us.length : Int))) = V.bl false
        rw [decide_eq_false (by omega)]
      · exact Evl.et_not (a := true) (Evl.et_B (ev_allRatios rfl hp hq (by omega) (fun _ => rfl) fun _ => rfl))
    · by_cases hn : qs = []
      · have dn : decide (qs = []) = true := decide_eq_true hn
        refine s_ret (evr_is (Evl.ev_orV (a := true) (b := false) (Evl.ev_is (ev_eqP (evp_var rfl (hX.ex e1)) evp_nil) (by rw [dn])) fun h => nomatch h)) fun v H2 e2 r => q v H2 (e1.trans e2) r
      · have dn : decide (qs = []) = false := decide_eq_false hn
        have hl : 0 < qs.length := List.length_pos_iff.mpr hn
        have dz : ¬ qs.getD (qs.length - 1) 0 = 0 := fun z => by
          rcases hlast with h | h
          · exact hn h
          · refine h ?_
            rw [List.getLast?_eq_getElem?, List.getElem?_eq_getElem (by omega)]
            rw [getD_lt (by omega)] at z
            rw [z]
        refine s_ret (evr_is (Evl.ev_orV (a := false) (b := true) (Evl.ev_is (ev_eqP (evp_var rfl (hX.ex e1)) evp_nil) (by rw [dn])) fun _ => Evl.ev_is (ev_neQ (evq_last rfl (tx_t (.of e1) hp) (hq.ex e1) hn) (evq_c (T.rz H1))) (by rw [decide_eq_false dz]; rfl))) fun v H2 e2 r => q v H2 (e1.trans e2) r
def spNeedData (K : PySem.W.Frag) : Sp := fun vs H Q _ => ∃ (p : Addr) (us : List V) (y : V) (qs : List Rat), vs = [.ref p, y] ∧ SqT K H p us ∧ PT K H y qs ∧ us.length = qs.length ∧ qs.length ≤ 1000 ∧ Post H Q fun v _ => v = .non
theorem sc_need_data : FnScope ["nodes", "value"] ["nodes", "value"] (defScope (topS 30)) := ⟨rfl, rfl, rfl, by decide +kernel, rfl, by decide +kernel, by decide +kernel⟩
theorem ok_need_data (F : Fun K "need_data" "need_data" (topS 30) f fd) (T : Top K mg z o t6 t7 t8 t12) (C_are_ratios : Cl P w K mg base "are_ratios" 3 ["value", "many"] (spAre K)) : FnOk P w K mg base CX0 4 f fd ["nodes", "value"] (spNeedData K) := by
  have sc := sc_need_data
  refine F.ok sc (fun vs H Q E h => ?_) (fun cdv A outer s H vs Q E hr h => ?_)
  · obtain ⟨_, _, _, _, rfl, _⟩ := h
    rfl
  · obtain ⟨p, us, y, qs, rfl, hp, hY, hlen, hl, q⟩ := h
    refine ⟨_, (pss_one (ps_if (pt_not (pt_val (pe_cl C_are_ratios hr (by rfl) (pa_cons (pv 1) (pa_cons (pe_callB call_len_seq (by rfl) T.len (by decide +kernel) (pa_cons (pv 0) pa_nil)) pa_nil)))))
      (pss_one ps_never) pss_nil)), ?_⟩
    refine Evl.s_when (b := false) (Evl.et_not (a := true) (evr_B (evr_call (ear_cons (evp_var rfl hY) mn_p (ear_cons (evr_is (ev_lenT (Evl.ev_var rfl) hp)) mn_eq ear_nil)) fun vs H1 e1 hv Q p => ?_))) (fun h => nomatch h) fun _ H1 e1 => q _ H1 e1 rfl
    obtain ⟨v, r, rfl, hr1, v2, r2, rfl, rfl, rfl⟩ := hv
    exact ⟨v, qs, by rw [hlen], hr1, hl, p⟩

/-! ### table_of -/
def spTable (K : PySem.W.Frag) : Sp := fun vs H Q _ => ∃ (x y : V) (ns ds : List Rat) (d e : Nat), vs = [x, y] ∧ FT K H x ns ∧ PT K H y ds ∧ ns.length = ds.length ∧ 0 < ns.length ∧ ns.length ≤ 4 ∧
  (∀ i j, i < j → j < ns.length → ns.getD i 0 ≠ ns.getD j 0 → 0 < ns.getD j 0 - ns.getD i 0 ∧ Gd 1 1 (1 / (ns.getD j 0 - ns.getD i 0))) ∧ (∀ q ∈ ns, Gd 1 1 q) ∧ (∀ q ∈ ds, Gd d e q) ∧ (∀ i j, j < ns.length → i < j → ns.getD i 0 = ns.getD j 0 → ns.idxOf (ns.getD i 0) ≤ i) ∧ Bd d (e + 10) ∧ Post H Q fun v H' => PT K H' v (table ns ds)
theorem tabL_len (ns ds : List Rat) (s : Nat) : (tabL ns ds s).length = ns.length - s := by
  cases s with
  | zero => simp [tabL]
  | succ s => simp [tabL]
theorem tabL_gd {ns ds : List Rat} {d e : Nat} (h0 : 0 < d) (h4 : ns.length ≤ 4) (hi : ∀ i j, i < j → j < ns.length → ns.getD i 0 ≠ ns.getD j 0 → 0 < ns.getD j 0 - ns.getD i 0 ∧ Gd 1 1 (1 / (ns.getD j 0 - ns.getD i 0))) (hd : ∀ q ∈ ds, Gd d e q) : ∀ s i, Gd d (e + 2 * s) ((tabL ns ds s).getD i 0)
  | 0, i => by
    refine getD_gd (P := Gd d (e + 2 * 0)) (fun q hq => ?_) (gd_zero h0) i
    obtain ⟨x, _, rfl⟩ := List.mem_map.mp hq
    exact getD_gd (P := Gd d e) hd (gd_zero h0) _
  | s + 1, i => by
    refine getD_gd (P := Gd d (e + 2 * (s + 1))) (fun q hq => ?_) (gd_zero h0) i
    have hq' : q ∈ (List.range (ns.length - (s + 1))).map fun p =>
      if ns.getD p 0 = ns.getD (p + (s + 1)) 0 then ds.getD (ns.idxOf (ns.getD p 0) + (s + 1)) 0 / ((fact (s + 1) : Nat) : Rat)
      else ((tabL ns ds s).getD (p + 1) 0 - (tabL ns ds s).getD p 0) / (ns.getD (p + (s + 1)) 0 - ns.getD p 0) := hq
    obtain ⟨p, hp, rfl⟩ := List.mem_map.mp hq'
    have hpl : p < ns.length - (s + 1) := List.mem_range.mp hp
    have dv : ∀ a b : Rat, a / b = a * (1 / b) := fun a b => by rw [Rat.div_def, Rat.div_def, Rat.one_mul]
    by_cases eq : ns.getD p 0 = ns.getD (p + (s + 1)) 0
    · rw [if_pos eq, dv]
      have hs : s < 3 := by omega
      have gf : Gd 1 1 (1 / ((fact (s + 1) : Nat) : Rat)) := by
        match s, hs with
        | 0, _ => exact gd_inv60 (by decide) (by decide)
        | 1, _ => exact gd_inv60 (by decide) (by decide)
        | 2, _ => exact gd_inv60 (by decide) (by decide)
      exact ((getD_gd (P := Gd d e) hd (gd_zero h0) _).mul1 gf).upe (by omega) h0
    · rw [if_neg eq, dv]
      have h1 := hi p (p + (s + 1)) (by omega) (by omega) eq
      exact ((((tabL_gd h0 h4 hi hd s (p + 1)).sub (tabL_gd h0 h4 hi hd s p))).mul1 h1.2).upe (by omega) h0
theorem map_getD (ns : List Rat) (g : Rat → Rat) : ns.map g = (List.range ns.length).map fun i => g (ns.getD i 0) := by
  apply List.ext_getElem
  · simp
  · intro i h1 h2
    have hi : i < ns.length := by simpa using h1
    rw [List.getElem_map, List.getElem_map, List.getElem_range, getD_lt hi]
theorem getD_mem {ns : List Rat} {i : Nat} (h : i < ns.length) : ns.getD i 0 ∈ ns := by
  rw [getD_lt h]
  exact List.getElem_mem h
theorem sc_table_of : FnScope ["nodes", "data", "firsts", "found", "factor", "size", "later", "place", "low", "high", "one"] ["nodes", "data"] (defScope (topS 31)) := ⟨rfl, rfl, rfl, by decide +kernel, rfl, by decide +kernel, by decide +kernel⟩
theorem ok_table_of (F : Fun K "table_of" "table_of" (topS 31) f fd) (T : Top K mg z o t6 t7 t8 t12) (C_less : Cl P w K mg base "less" 2 ["one", "other"] (spLess K)) (C_over : Cl P w K mg base "over" 2 ["one", "other"] (spOver K)) : FnOk P w K mg base CX0 3 f fd ["nodes", "data"] (spTable K) := by
  have sc := sc_table_of
  refine F.ok sc (fun vs H Q E h => ?_) (fun cdv A outer s H vs Q E hr h => ?_)
  · obtain ⟨_, _, _, _, _, _, rfl, _⟩ := h
    rfl
  · obtain ⟨x, y, ns, ds, d, e, rfl, hX, ⟨p2, ws, rfl, hp2, hd2⟩, hlen, hpos, h4, hinv, gn, gd, hidx, B, q⟩ := h
    refine ⟨_, (pss_cons (ps_setLc (i := 2) (own := [("one", 10)]) (g := gName 10) (tt := tYes) (te := tOp (rIxT K) (tVar 1) (tBMT (rIndexT K) (tVar 0) (tCons (tVar 10) tNil))) rfl sc.nd rfl rfl (sw_true rfl rfl rfl (by decide +kernel)) (pi_tup (pv 0)) (blkOk_by (own := [("one", 10)]) (N := ["nodes", "data", "firsts", "found", "factor", "size", "later", "place", "low", "high", "one"]) (sc := (defScope (topS 31))) (by decide +kernel)) (fun _ _ _ _ _ => (pg_name (i := 10) sc.nd rfl (Or.inl rfl))) (fun _ _ _ _ _ => pts_nil) (fun _ _ _ _ _ => (pe_ix ix_tup (pv 1) (pe_bmT PySem.F.plainAttrs_tuple PySem.F.slot_tuple_index PySem.F.type_tuple_index (by exact mt_indexT (u65 hr)) (pv 0) (pa_cons (pv 10) pa_nil)) (fun _ _ => rfl))))
      (pss_cons (ps_par (i := 3) (j := 4) rfl sc.nd rfl rfl (by decide) rfl rfl (pa_cons (pe_lst (pa_cons (pe_ix ix_list (pv 2) pe_int (fun _ _ => rfl)) pa_nil)) (pa_cons pe_int pa_nil)) (by rfl))
      (pss_cons (ps_for PassesOwn.never rfl (pi_range2 (by rfl) T.range (pa_cons pe_int (pa_cons (pe_callB call_len_seq (by rfl) T.len (by decide +kernel) (pa_cons (pv 0) pa_nil)) pa_nil))) (pg_name (i := 5) sc.nd rfl (by first | exact Or.inl rfl | exact Or.inr rfl))
        (pss_cons (ps_set (i := 4) sc.nd rfl (by first | exact Or.inl rfl | exact Or.inr rfl) (pe_op op_mulW (pv 4) (pv 5)))
        (pss_cons (ps_set (i := 6) sc.nd rfl (by first | exact Or.inl rfl | exact Or.inr rfl) (pe_lst pa_nil))
        (pss_cons (ps_for PassesOwn.never rfl (pi_range1 (by rfl) T.range (pa_cons (pe_op op_sub (pe_callB call_len_seq (by rfl) T.len (by decide +kernel) (pa_cons (pv 0) pa_nil)) (pv 5)) pa_nil)) (pg_name (i := 7) sc.nd rfl (by first | exact Or.inl rfl | exact Or.inr rfl))
          (pss_cons (ps_par (i := 8) (j := 9) rfl sc.nd rfl rfl (by decide) rfl rfl (pa_cons (pe_ix ix_tup (pv 0) (pv 7) (fun _ _ => rfl)) (pa_cons (pe_ix ix_tup (pv 0) (pe_op op_add (pv 7) (pv 5)) (fun _ _ => rfl)) pa_nil)) (by rfl))
          (pss_one (ps_if (pt_cmpR (op_eqD hr.units) (pv 8) (pv 9) (nomark _))
            (pss_one (ps_expr (pe_bm PySem.F.plainAttrs_list PySem.F.slot_list_append PySem.F.type_list_append mt_append (pv 6) (pa_cons (pe_cl C_over hr (by rfl) (pa_cons (pe_ix ix_tup (pv 1) (pe_op op_add (pe_bmT PySem.F.plainAttrs_tuple PySem.F.slot_tuple_index PySem.F.type_tuple_index (by exact mt_indexT (u65 hr)) (pv 0) (pa_cons (pv 8) pa_nil)) (pv 5)) (fun _ _ => rfl)) (pa_cons (pe_tup (pa_cons (pv 4) (pa_cons pe_int pa_nil))) pa_nil))) pa_nil)))) (pss_one (ps_expr (pe_bm PySem.F.plainAttrs_list PySem.F.slot_list_append PySem.F.type_list_append mt_append (pv 6) (pa_cons (pe_cl C_over hr (by rfl) (pa_cons (pe_cl C_less hr (by rfl) (pa_cons (pe_ix ix_list (pv 2) (pe_op op_add (pv 7) pe_int) (fun _ _ => rfl)) (pa_cons (pe_ix ix_list (pv 2) (pv 7) (fun _ _ => rfl)) pa_nil))) (pa_cons (pe_cl C_less hr (by rfl) (pa_cons (pv 9) (pa_cons (pv 8) pa_nil))) pa_nil))) pa_nil))))))))
        (pss_cons (ps_set (i := 2) sc.nd rfl (by first | exact Or.inl rfl | exact Or.inr rfl) (pv 6))
        (pss_one (ps_expr (pe_bm PySem.F.plainAttrs_list PySem.F.slot_list_append PySem.F.type_list_append mt_append (pv 3) (pa_cons (pe_ix ix_list (pv 2) pe_int (fun _ _ => rfl)) pa_nil)))))))))
      (pss_one (ps_ret (pe_callTy call_tuple_of (by rfl) T.tuple (by decide +kernel) (pa_cons (pv 3) pa_nil))))))), ?_⟩
    obtain ⟨p1, o1, us, rfl, hp1, bo, hn⟩ := id hX
    have l1 := hn.1
    have l2 := hd2.1
    have gds : ∀ i, Gd d e (ds.getD i 0) := getD_gd (P := Gd d e) gd (gd_zero B.pos)
    have gns : ∀ i, Gd 1 1 (ns.getD i 0) := getD_gd (P := Gd 1 1) gn (gd_zero (by decide))
    have gT := tabL_gd B.pos h4 hinv gd
    have t1 : ∀ {H'}, Ex H H' → SqT K H' p1 us := fun e => .inl (.inr ⟨o1, e p1 _ hp1⟩)
    -- firsts
    refine q_set (el_tup (f := fun i => ds.getD (ns.idxOf (ns.getD i 0)) 0) (Evl.ev_var rfl) (t1 (Ex.refl H)) (by omega) (fun _ => rfl) fun i x H' e' hx => ?_) fun v1 H1 e1 r1 => ?_
    · have hi := (List.getElem?_eq_some_iff.mp hx).1
      have hm : ns.getD i 0 ∈ ns := getD_mem (by omega)
      have hlt := List.idxOf_lt_length_of_mem hm
      obtain ⟨v, hv, rv⟩ := hd2.get (i := ns.idxOf (ns.getD i 0)) (by omega)
      exact evq_ev (Evl.ev_op (Evl.ev_var rfl) (ev_index rfl (hX.ex e') (evq_var rfl ((hn.2 i x hx).ex e')) hm) (Evl.rv_ixT (v := v) (tx_t (.of e') hp2) (atI_nat hv))) (rv.ex e')
    obtain ⟨lf1, wf1, rfl, nf1, hf1, rf1⟩ := r1
    have e0f : (List.range us.length).map (fun i => ds.getD (ns.idxOf (ns.getD i 0)) 0) = tabL ns ds 0 := by
      rw [l1]
      exact (map_getD ns fun x => ds.getD (ns.idxOf x) 0).symm
    rw [e0f] at rf1
    -- found, factor
    have first0 : ∀ {H2 : Hp} {σ : L2.St} {l : Addr} {wl : List V} {s : Nat}, σ[2]? = some (some (.ref l)) → H2 l = some (.lst wl) → RTs K H2 wl (tabL ns ds s) → s < ns.length → EvQ K (tOp (rIxL K) (tVar 2) (tC (.int 0))) σ H2 ((tabL ns ds s).getD 0 0) := fun hσ hl hr hs => by
      obtain ⟨v, hv, rv⟩ := hr.get (i := 0) (by rw [tabL_len]; omega)
      exact evq_ev (Evl.ev_op (Evl.ev_var hσ) Evl.ev_c (Evl.rv_ixL (v := v) (.inl (.inl hl)) (atI_nat (j := 0) hv))) rv
    refine q_par (R := FrL K H1 [(tabL ns ds 0).getD 0 0]) (R2 := fun v _ => v = .int 1) (fun H2 e2 Q k => ?_) (fun v Ha Hb e h => ?_) (evr_is Evl.ev_c) fun v2 v3 H2 e2 r2 e3 => ?_
    · refine first0 (l := lf1) (wl := wf1) (s := 0) rfl hf1 rf1 hpos H2 e2 _ fun v H3 e3 r3 => ⟨by show 1 ≤ sizeLine; decide, fun m hm => ?_⟩
      exact k _ _ (e3.trans (Ex.new hm)) ⟨m, [v], rfl, Evl.fresh_back (e2.trans e3) hm, upd_same, .one (r3.ex (Ex.new hm))⟩
    · obtain ⟨p, ws', h1, h2, h3, h4⟩ := h
      exact ⟨p, ws', h1, h2, e p _ h3, h4.ex e⟩
    obtain ⟨lg, wg, rfl, ng, hg, rg⟩ := r2
    subst e3
    have ngH : H lg = none := Evl.fresh_back e1 ng
    -- the loop over sizes
    have neq : lf1 ≠ lg := ne_of_none hf1 ng
    have ffact : ∀ k, k < 4 → fact k ≤ 6 := by decide
    refine Evl.q_forR2 (lo := 1) (n := (us.length : Int)) (Evl.ea_cons Evl.ev_c (Evl.ea_cons (ev_lenT (Evl.ev_var rfl) (t1 (e1.trans e2))) Evl.ea_nil)) (by omega)
      (fun k σ H' => ∃ l wl wg y5 y6 y7 y8 y9 y10, σ = [some (.ref p1), some (.ref p2), some (.ref l), some (.ref lg), some (.int ((fact k : Nat) : Int)), y5, y6, y7, y8, y9, y10] ∧ k < ns.length ∧ Ex H H' ∧ H' l = some (.lst wl) ∧ RTs K H' wl (tabL ns ds k) ∧ H' lg = some (.lst wg) ∧ RTs K H' wg ((List.range (k + 1)).map fun s => (tabL ns ds s).getD 0 0) ∧ l ≠ lg)
      (fun H3 e3 => ⟨lf1, wf1, wg, none, none, none, none, none, none, rfl, hpos, (e1.trans e2).trans e3, (e2.trans e3) lf1 _ hf1, rf1.ex (e2.trans e3), e3 lg _ hg, rg.ex e3, neq⟩) (fun k σ H3 hk h => ?_) fun σ H3 h => ?_
    · obtain ⟨l, wl, wg2, y5, y6, y7, y8, y9, y10, rfl, hkn, e3, hl, rl, hgl, rgl, hne⟩ := h
      have hk1 : k + 1 < ns.length := by omega
      have fk := ffact k (by omega)
      refine Evl.q_asg (v := .int ((fact (k + 1) : Nat) : Int)) (Evl.ev_is (Evl.ev_op (Evl.ev_var rfl) (Evl.ev_var rfl) (Evl.rv_I (wide_mul (a := 10) (b := 10) ?_ ?_ (by decide) (by decide) (by decide)))) ?_) fun H4 e4 => ?_
      · have : ((fact k : Nat) : Int).natAbs ≤ 6 := by omega
        exact Nat.lt_of_le_of_lt this (by decide)
      · have : ((1 : Int) + (k : Int)).natAbs ≤ 4 := by omega
        exact Nat.lt_of_le_of_lt this (by decide)
      · show V.int (((fact k : Nat) : Int) * (1 + (k : Int))) = V.int ((fact k * (k + 1) : Nat) : Int)
        congr 1
        push_cast
        rw [Int.add_comm]
      refine q_set (R := FrL K H4 []) (fun H5 e5 Q k => ⟨Nat.zero_le _, fun m hm => k _ _ (Ex.new hm) ⟨m, [], rfl, Evl.fresh_back e5 hm, upd_same, .nil⟩⟩) fun v5 H5 e5 r5 => ?_
      obtain ⟨lt, wt0, rfl, nt, ht0, rt0⟩ := r5
      have hl4 := e4 l _ hl
      have hg4 := e4 lg _ hgl
      have nlt : lg ≠ lt := ne_of_none hg4 nt
      have e34 : Ex H H4 := e3.trans e4
      have ntH : H lt = none := Evl.fresh_back e34 nt
      refine Evl.q_forR1 (n := ((ns.length - (k + 1) : Nat) : Int)) (Evl.ea_cons (Evl.ev_is (Evl.ev_op (ev_lenT (Evl.ev_var rfl) (t1 (e34.trans e5))) (Evl.ev_var rfl) Evl.rv_I0) ?_) Evl.ea_nil) (by omega)
        (fun m σ H' => ∃ wt y7 y8 y9, σ = [some (.ref p1), some (.ref p2), some (.ref l), some (.ref lg), some (.int ((fact (k + 1) : Nat) : Int)), some (.int (1 + (k : Int))), some (.ref lt), y7, y8, y9, y10] ∧ Ex H4 H' ∧ H' lt = some (.lst wt) ∧ RTs K H' wt ((List.range m).map fun p => (tabL ns ds (k + 1)).getD p 0))
        (fun H6 e6 => ⟨wt0, y7, y8, y9, rfl, e5.trans e6, e6 lt _ ht0, rt0.ex e6⟩) (fun m σ H6 hm h => ?_) fun σ H6 h => ?_
      · show V.int ((us.length : Int) - (1 + (k : Int))) = V.int ((ns.length - (k + 1) : Nat) : Int)
        congr 1
        omega
      · obtain ⟨wt, y7', y8', y9', rfl, e6, ht, rt⟩ := h
        have hm1 : m + (k + 1) < ns.length := by omega
        have eH : Ex H H6 := e34.trans e6
        obtain ⟨u1, hu1, ru1⟩ := hn.get (i := m) (by omega)
        obtain ⟨u2, hu2, ru2⟩ := hn.get (i := m + (k + 1)) hm1
        refine q_par (R := fun v H' => RT K H' v (ns.getD m 0)) (R2 := fun v H' => RT K H' v (ns.getD (m + (k + 1)) 0)) (evq_ev (Evl.ev_op (Evl.ev_var rfl) (Evl.ev_var rfl) (Evl.rv_ixT (v := u1) (t1 eH) (atI_nat hu1))) (ru1.ex eH)) mn_q
          (evq_ev (Evl.ev_op (Evl.ev_var rfl) (Evl.ev_op (Evl.ev_var rfl) (Evl.ev_var rfl) Evl.rv_I0) (Evl.rv_ixT (v := u2) (t1 eH) (at_of (show (m : Int) + (1 + (k : Int)) = ((m + (k + 1) : Nat) : Int) by omega) hu2))) (ru2.ex eH)) fun v7 v8 H7 e7 r7 r8 => ?_
        have ht7 := e7 lt _ ht
        have lenwt : wt.length ≤ 1000 := by
          rw [rt.1]
          simp
          omega
        have done : ∀ v H8, Ex H7 H8 → RT K H8 v ((tabL ns ds (k + 1)).getD m 0) → Ex H4 (upd H8 lt (.lst (wt ++ [v]))) ∧ (upd H8 lt (.lst (wt ++ [v]))) lt = some (.lst (wt ++ [v])) ∧ RTs K (upd H8 lt (.lst (wt ++ [v]))) (wt ++ [v]) ((List.range (m + 1)).map fun p => (tabL ns ds (k + 1)).getD p 0) := fun v H8 e8 rv => by
          have h8 := e8 lt _ ht7
          refine ⟨((e6.trans e7).trans e8).mut nt, upd_same, ?_⟩
          rw [List.range_succ, List.map_append]
          exact ((rt.ex (e7.trans e8)).tx (.set h8)).snoc (rv.tx (.set h8))
        have tabm : (tabL ns ds (k + 1)).getD m 0 = if ns.getD m 0 = ns.getD (m + (k + 1)) 0 then ds.getD (ns.idxOf (ns.getD m 0) + (k + 1)) 0 / ((fact (k + 1) : Nat) : Rat) else ((tabL ns ds k).getD (m + 1) 0 - (tabL ns ds k).getD m 0) / (ns.getD (m + (k + 1)) 0 - ns.getD m 0) :=
          map_range_getD (f := fun p => if ns.getD p 0 = ns.getD (p + (k + 1)) 0 then ds.getD (ns.idxOf (ns.getD p 0) + (k + 1)) 0 / ((fact (k + 1) : Nat) : Rat) else ((tabL ns ds k).getD (p + 1) 0 - (tabL ns ds k).getD p 0) / (ns.getD (p + (k + 1)) 0 - ns.getD p 0)) (by omega)
        refine Evl.s_if (b := decide (ns.getD m 0 = ns.getD (m + (k + 1)) 0)) (Evl.et_test (ev_eqQ (evq_var rfl r7) (evq_var rfl r8))) (fun hb H8 e8 => ?_) fun hb H8 e8 => ?_
        · have eq := of_decide_eq_true hb
          have hix := hidx m (m + (k + 1)) hm1 (by omega) eq
          have e08 : Ex H H8 := (eH.trans e7).trans e8
          obtain ⟨u3, hu3, ru3⟩ := hd2.get (i := ns.idxOf (ns.getD m 0) + (k + 1)) (by omega)
          have fk1 := ffact (k + 1) (by omega)
          have fpos : 0 < fact (k + 1) := by
            have : ∀ j, j < 4 → 0 < fact j := by decide
            exact this _ (by omega)
          refine s_appR (e8 lt _ ht7) (Evl.ev_var rfl) (evq_over (b := ((fact (k + 1) : Nat) : Rat)) (evq_ev (Evl.ev_op (Evl.ev_var rfl) (Evl.ev_op (ev_index rfl (hX.ex e08) (evq_var rfl (r7.ex e8)) (getD_mem (by omega))) (Evl.ev_var rfl) Evl.rv_I0) (Evl.rv_ixT (v := u3) (tx_t (.of e08) hp2) (at_of (show ((ns.idxOf (ns.getD m 0) : Nat) : Int) + (1 + (k : Int)) = ((ns.idxOf (ns.getD m 0) + (k + 1) : Nat) : Int) by omega) hu3))) (ru3.ex e08)) (evq_pair (Evl.ev_var rfl) Evl.ev_c rfl rfl) (B.sm (gds _) (by omega)) (B.sm1 (e' := 1) (gd_nat (by
            have : (60 : Nat) ^ 1 = 60 := rfl
            omega)) (by omega)) (Rat.natCast_pos.mpr fpos)) lenwt fun v9 H9 e9 r9 => ?_
          rw [if_pos eq] at tabm
          rw [← tabm] at r9
          obtain ⟨d1, d2, d3⟩ := done v9 H9 (e8.trans e9) r9
          exact ⟨wt ++ [v9], _, _, _, rfl, d1, d2, d3⟩
        · have eq : ¬ ns.getD m 0 = ns.getD (m + (k + 1)) 0 := of_decide_eq_false hb
          obtain ⟨pos, ginv⟩ := hinv m (m + (k + 1)) (by omega) hm1 eq
          have e48 : Ex H4 H8 := (e6.trans e7).trans e8
          have rl8 := rl.ex (e4.trans e48)
          have hl8 := e48 l _ hl4
          obtain ⟨u3, hu3, ru3⟩ := rl8.get (i := m + 1) (by rw [tabL_len]; omega)
          obtain ⟨u4, hu4, ru4⟩ := rl8.get (i := m) (by rw [tabL_len]; omega)
          refine s_appR (e8 lt _ ht7) (Evl.ev_var rfl) (evq_over (evq_less (evq_ev (Evl.ev_op (Evl.ev_var rfl) (Evl.ev_op (Evl.ev_var rfl) Evl.ev_c Evl.rv_I0) (Evl.rv_ixL (v := u3) (.inl (.inl hl8)) (at_of (show (m : Int) + 1 = ((m + 1 : Nat) : Int) by omega) hu3))) ru3) (evq_ev (Evl.ev_op (Evl.ev_var rfl) (Evl.ev_var rfl) (Evl.rv_ixL (v := u4) (.inl (.inl hl8)) (atI_nat hu4))) ru4) (B.sm (gT k (m + 1)) (by omega)) (B.sm (gT k m) (by omega)))
            (evq_less (evq_var rfl (r8.ex e8)) (evq_var rfl (r7.ex e8)) (B.sm1 (gns _) (by omega)) (B.sm1 (gns _) (by omega))) (B.sm ((gT k (m + 1)).sub (gT k m)) (by omega)) (B.sm1 ((gns (m + (k + 1))).sub (gns m)) (by omega)) pos) lenwt fun v9 H9 e9 r9 => ?_
          rw [if_neg eq] at tabm
          rw [← tabm] at r9
          obtain ⟨d1, d2, d3⟩ := done v9 H9 (e8.trans e9) r9
          exact ⟨wt ++ [v9], _, _, _, rfl, d1, d2, d3⟩
      · obtain ⟨wt, y7', y8', y9', rfl, e6, ht, rt⟩ := h
        rw [Int.toNat_natCast] at rt
        have et : (List.range (ns.length - (k + 1))).map (fun p => (tabL ns ds (k + 1)).getD p 0) = tabL ns ds (k + 1) := by
          apply List.ext_getElem
          · simp [tabL_len]
          · intro i h1 h2
            rw [List.getElem_map, List.getElem_range, getD_lt h2]
        rw [et] at rt
        refine Evl.q_asg (Evl.ev_var rfl) fun H7 e7 => ?_
        have hg7 := (e6.trans e7) lg _ hg4
        have rg7 := rgl.ex (e4.trans (e6.trans e7))
        refine s_appR hg7 (Evl.ev_var rfl) (first0 (l := lt) (wl := wt) (s := k + 1) rfl (e7 lt _ ht) (rt.ex e7) hk1) (by rw [rg7.1]; simp; omega) fun v8 H8 e8 r8 => ?_
        have hg8 := e8 lg _ hg7
        refine ⟨lt, wt, wg2 ++ [v8], _, _, _, _, _, _, rfl, hk1, ((e34.trans (e6.trans e7)).trans e8).mut ngH, ?_, ((rt.ex (e7.trans e8)).tx (.set hg8)), upd_same, ?_, nlt.symm⟩
        · rw [upd_ne nlt.symm]
          exact (e7.trans e8) lt _ ht
        · rw [List.range_succ, List.map_append]
          exact ((rg7.ex e8).tx (.set hg8)).snoc (r8.tx (.set hg8))
    · obtain ⟨l, wl, wg2, y5, y6, y7, y8, y9, y10, rfl, hkn, e3, hl, rl, hgl, rgl, hne⟩ := h
      have en : ((us.length : Int) - 1).toNat + 1 = ns.length := by omega
      rw [en] at rgl
      refine s_ret (evp_tuple (H0 := H) (evr_ev (Evl.ev_var rfl) fun H4 e4 => ⟨lg, wg2, rfl, ngH, e4 lg _ hgl, rgl.ex e4⟩)) fun v4 H4 e4 r4 => q v4 H4 (e3.trans e4) r4
end
end BW
/-! BwF: pieces: poly_of, is_interval, is_piece, need_rising, cubic_pieces, bending. -/
namespace BW
open PySem PySem.Spec PyProof.Rows L2 BC
open Evl (Ex)
open StX (tStar pa_star)

/-! ### sizes of products -/
def pb : Nat → Nat
  | 0 => 0
  | k + 1 => pb k + (k + 2)
theorem prd_len (ns : List Rat) : ∀ k, (prd ns k).length = k + 1
  | 0 => rfl
  | k + 1 => by
    have ih := prd_len ns k
    show (pmul (prd ns k) _).length = _
    unfold pmul
    rw [if_neg (by
      intro z
      rcases z with z | z
      · rw [z] at ih
        simp at ih
      · simp at z), mulAdd_len, ih]
    rfl
theorem prd_gd {ns : List Rat} (h : ∀ q ∈ ns, Gd 1 1 q) : ∀ k, ∀ q ∈ prd ns k, Gd 1 (pb k) q
  | 0 => fun q hq => by
    have : q = 1 := by simpa [prd] using hq
    rw [this]
    exact gd_one (by decide)
  | k + 1 => fun q hq => by
    have ih := prd_gd h k
    have h2 : ∀ q ∈ [-(ns.getD k 0), 1], Gd 1 1 q := fun q hq => by
      have g := getD_gd (P := Gd 1 1) h (gd_zero (by decide)) k
      rcases List.mem_cons.mp hq with e | e
      · rw [e]
        exact g.neg
      · have : q = 1 := by simpa using e
        rw [this]
        exact gd_one (by decide)
    have := pmul_gd (by decide) (by decide) ih h2 q hq
    rw [prd_len] at this
    exact this.upe (by show _ ≤ pb k + (k + 2); omega) (by decide)
theorem fnd_len (ns cs : List Rat) : ∀ k, (fnd ns cs k).length ≤ k
  | 0 => Nat.le_refl _
  | k + 1 => by
    have ih := fnd_len ns cs k
    have h1 : (trim ((prd ns k).map fun m => cs.getD k 0 * m)).length ≤ k + 1 := Nat.le_trans (trim_len _) (by rw [List.length_map, prd_len]; exact Nat.le_refl _)
    show (trim (padd _ _)).length ≤ _
    refine Nat.le_trans (trim_len _) ?_
    unfold padd
    rw [List.length_map, List.length_range]
    omega
theorem fnd_gd {ns cs : List Rat} {d e : Nat} (h0 : 0 < d) (h : ∀ q ∈ ns, Gd 1 1 q) (hc : ∀ q ∈ cs, Gd d e q) : ∀ k, ∀ q ∈ fnd ns cs k, Gd d (e + pb k) q
  | 0 => fun q hq => by
    cases hq
  | k + 1 => fun q hq => by
    have ih := fnd_gd h0 h hc k
    have h2 : ∀ q ∈ trim ((prd ns k).map fun m => cs.getD k 0 * m), Gd d (e + pb k) q := mem_trim (fun q hq => by
      obtain ⟨m, hm, rfl⟩ := List.mem_map.mp hq
      exact (getD_gd (P := Gd d e) hc (gd_zero h0) k).mul1 (prd_gd h k m hm)) (gd_zero h0)
    exact (pplus_gd h0 ih h2 q hq).upe (by show _ ≤ e + (pb k + (k + 2)); omega) h0
theorem walk_zipT {K : PySem.W.Frag} {a b : Addr} {xs ys : List V} {n : Nat} (hn : n = min xs.length ys.length) : Walk (RZ.ItzT K a b) n (fun H => SqT K H a xs ∧ SqT K H b ys) (YPair (fun i => xs[i]?) (fun i => ys[i]?)) :=
  ⟨fun i H hi h => ⟨xs, ys, xs[i]'(by omega), ys[i]'(by omega), h.1, h.2, List.getElem?_eq_getElem (by omega), List.getElem?_eq_getElem (by omega)⟩, fun H h => ⟨xs, ys, h.1, h.2, by omega⟩, fun i H x H' _ h y => by
    obtain ⟨T, z1, z2, e1, e2, e3, e4, e5⟩ := y
    exact ⟨T, z1, z2, e1, e2, e3, e4 xs h.1, e5 ys h.2⟩⟩
section
variable {K : PySem.W.Frag} {σ : L2.St} {H : Hp} {ta tb tc td : TE}
theorem evp_two {a b : Rat} (ha : EvQ K ta σ H a) (hb : EvQ K tb σ H b) : EvP K (tTup (tCons ta (tCons tb tNil))) σ H [a, b] := fun H1 e1 Q p =>
  ha H1 e1 _ fun v H2 e2 r => hb H2 (e1.trans e2) _ fun w H3 e3 r2 => ⟨by show 2 ≤ sizeLine; decide, fun m hm => p _ _ ((e2.trans e3).trans (Ex.new hm)) (PT.new hm (RTs.cons (r.ex e3) (RTs.one r2)))⟩
theorem evp_four {a b c d : Rat} (ha : EvQ K ta σ H a) (hb : EvQ K tb σ H b) (hc : EvQ K tc σ H c) (hd : EvQ K td σ H d) : EvP K (tTup (tCons ta (tCons tb (tCons tc (tCons td tNil))))) σ H [a, b, c, d] := fun H1 e1 Q p =>
  ha H1 e1 _ fun v H2 e2 r => hb H2 (e1.trans e2) _ fun w H3 e3 r2 => hc H3 ((e1.trans e2).trans e3) _ fun x H4 e4 r3 => hd H4 (((e1.trans e2).trans e3).trans e4) _ fun y H5 e5 r4 =>
    ⟨by show 4 ≤ sizeLine; decide, fun m hm => p _ _ ((((e2.trans e3).trans e4).trans e5).trans (Ex.new hm)) (PT.new hm (RTs.cons (((r.ex e3).ex e4).ex e5) (RTs.cons ((r2.ex e4).ex e5) (RTs.cons (r3.ex e5) (RTs.one r4)))))⟩
theorem evf_four {a b c d : Rat} (ha : EvQ K ta σ H a) (hb : EvQ K tb σ H b) (hc : EvQ K tc σ H c) (hd : EvQ K td σ H d) : EvR (tTupF (tCons ta (tCons tb (tCons tc (tCons td tNil))))) σ H fun v H' => FT K H' v [a, b, c, d] := fun H1 e1 Q p =>
  ha H1 e1 _ fun v H2 e2 r => hb H2 (e1.trans e2) _ fun w H3 e3 r2 => hc H3 ((e1.trans e2).trans e3) _ fun x H4 e4 r3 => hd H4 (((e1.trans e2).trans e3).trans e4) _ fun y H5 e5 r4 =>
    ⟨by show 4 ≤ sizeLine; decide, fun m ob hm hb2 => p _ _ ((((e2.trans e3).trans e4).trans e5).trans (Ex.new hm)) ⟨m, ob, _, rfl, upd_same, hb2, (RTs.cons (((r.ex e3).ex e4).ex e5) (RTs.cons ((r2.ex e4).ex e5) (RTs.cons (r3.ex e5) (RTs.one r4)))).ex (Ex.new hm)⟩⟩
/-- a <= b <= c and its like, of ints -/
theorem ev_chain {p p' : Int → Int → Bool} {i j k : Int} (ha : Evl.Ev ta σ H (.int i)) (hb : Evl.Ev tb σ H (.int j)) (hc : Evl.Ev tc σ H (.int k)) : Evl.Ev (tChain (rI0 fun i j => .bl (p i j)) (rI0 fun i j => .bl (p' i j)) ta tb tc) σ H (.bl (p i j && p' j k)) := fun H1 e1 Q q =>
  ha H1 e1 _ fun H2 e2 => hb H2 (e1.trans e2) _ fun H3 e3 => ⟨i, j, rfl, rfl, p i j, rfl, by
    cases hp : p i j with
    | true =>
      refine iteT (hc H3 ((e1.trans e2).trans e3) _ fun H4 e4 => ⟨j, k, rfl, rfl, ?_⟩)
      rw [hp, Bool.true_and] at q
      exact q H4 ((e2.trans e3).trans e4)
    | false =>
      refine iteF ?_
      rw [hp, Bool.false_and] at q
      exact q H3 (e2.trans e3)⟩
/-- t[i] as a ratio -/
theorem evq_ixT {i : Nat} {p : Addr} {vs : List V} {qs : List Rat} {j : Int} {n : Nat} (ha : Evl.Ev ta σ H (.ref p)) (hb : Evl.Ev tb σ H (.int j)) (hp : SqT K H p vs) (hq : RTs K H vs qs) (hj : j = (n : Int)) (hn : n < qs.length) : EvQ K (tOp (rIxT K) ta tb) σ H (qs.getD n 0) := by
  obtain ⟨v, hv, rv⟩ := hq.get hn
  exact evq_ev (Evl.ev_op ha hb (Evl.rv_ixT (v := v) hp (at_of hj hv))) rv
end

/-! ### pieces -/
abbrev Pc := Rat × Rat × List Rat
def PC1 (K : PySem.W.Frag) (H : Hp) (v : V) (p : Pc) : Prop := ∃ a iv pv, v = .ref a ∧ SqT K H a [iv, pv] ∧ PT K H iv [p.1, p.2.1] ∧ PT K H pv p.2.2
theorem PC1.tx {K : PySem.W.Frag} {H H' : Hp} {v : V} {p : Pc} (h : PC1 K H v p) (e : Tx H H') : PC1 K H' v p := by
  obtain ⟨a, iv, pv, rfl, h1, h2, h3⟩ := h
  exact ⟨a, iv, pv, rfl, tx_t e h1, h2.tx e, h3.tx e⟩
theorem PC1.ex {K : PySem.W.Frag} {H H' : Hp} {v : V} {p : Pc} (h : PC1 K H v p) (e : Ex H H') : PC1 K H' v p := h.tx (.of e)
abbrev pc0 : Pc := (0, 0, [])
def PCl (K : PySem.W.Frag) (H : Hp) (vs : List V) (ps : List Pc) : Prop := vs.length = ps.length ∧ ∀ i v, vs[i]? = some v → PC1 K H v (ps.getD i pc0)
theorem PCl.tx {K : PySem.W.Frag} {H H' : Hp} {vs : List V} {ps : List Pc} (h : PCl K H vs ps) (e : Tx H H') : PCl K H' vs ps := ⟨h.1, fun i v hv => (h.2 i v hv).tx e⟩
theorem PCl.ex {K : PySem.W.Frag} {H H' : Hp} {vs : List V} {ps : List Pc} (h : PCl K H vs ps) (e : Ex H H') : PCl K H' vs ps := h.tx (.of e)
theorem PCl.nil {K : PySem.W.Frag} {H : Hp} : PCl K H [] [] := ⟨rfl, fun i v hv => by simp at hv⟩
theorem PCl.snoc {K : PySem.W.Frag} {H : Hp} {vs : List V} {ps : List Pc} {v : V} {p : Pc} (h : PCl K H vs ps) (h2 : PC1 K H v p) : PCl K H (vs ++ [v]) (ps ++ [p]) := by
  refine ⟨by simp [h.1], fun i w hw => ?_⟩
  by_cases hi : i < vs.length
  · rw [List.getElem?_append_left hi] at hw
    have := h.2 i w hw
    rw [List.getD_eq_getElem?_getD] at this ⊢
    rw [List.getElem?_append_left (by rw [← h.1]; exact hi)]
    exact this
  · rw [List.getElem?_append_right (by omega)] at hw
    have h0 : i - vs.length = 0 := by
      have := (List.getElem?_eq_some_iff.mp hw).1
      simp at this
      omega
    rw [h0] at hw
    have e : v = w := by simpa using hw
    subst e
    rw [List.getD_eq_getElem?_getD, List.getElem?_append_right (by rw [← h.1]; omega), ← h.1, h0]
    exact h2
def PCs (K : PySem.W.Frag) (H : Hp) (v : V) (ps : List Pc) : Prop := ∃ a vs, v = .ref a ∧ SqT K H a vs ∧ PCl K H vs ps
theorem PCs.tx {K : PySem.W.Frag} {H H' : Hp} {v : V} {ps : List Pc} (h : PCs K H v ps) (e : Tx H H') : PCs K H' v ps := by
  obtain ⟨a, vs, rfl, h1, h2⟩ := h
  exact ⟨a, vs, rfl, tx_t e h1, h2.tx e⟩
theorem PCs.ex {K : PySem.W.Frag} {H H' : Hp} {v : V} {ps : List Pc} (h : PCs K H v ps) (e : Ex H H') : PCs K H' v ps := h.tx (.of e)

section
variable {P : Program} {w : World} {K : PySem.W.Frag} {mg : Str → Option Value} {base : Heap} {f z o : Addr} {fd : FuncData} {t6 t7 t8 t12 : Tok}
/-! ### poly_of -/
def spPolyOf (K : PySem.W.Frag) : Sp := fun vs H Q _ => ∃ (x y : V) (ns cs : List Rat) (d e : Nat), vs = [x, y] ∧ PT K H x ns ∧ PT K H y cs ∧ ns.length = cs.length ∧ ns.length ≤ 4 ∧ (∀ q ∈ ns, Gd 1 1 q) ∧ (∀ q ∈ cs, Gd d e q) ∧ Bd d (e + 20) ∧ Post H Q fun v H' => PT K H' v (fnd ns cs ns.length)
theorem sc_poly_of : FnScope ["nodes", "numbers", "found", "product", "one", "number", "more"] ["nodes", "numbers"] (defScope (topS 32)) := ⟨rfl, rfl, rfl, by decide +kernel, rfl, by decide +kernel, by decide +kernel⟩
theorem ok_poly_of (F : Fun K "poly_of" "poly_of" (topS 32) f fd) (T : Top K mg z o t6 t7 t8 t12) (C_times : Cl P w K mg base "times" 3 ["one", "other"] (spTimes K)) (C_trimmed : Cl P w K mg base "trimmed" 3 ["row"] (spTrim K)) (C_p_plus : Cl P w K mg base "p_plus" 3 ["one", "other"] (spPPlus K)) (C_p_times : Cl P w K mg base "p_times" 3 ["one", "other"] (spPTimes K)) (C_negative : Cl P w K mg base "negative" 3 ["one"] (spNeg K)) : FnOk P w K mg base CX0 4 f fd ["nodes", "numbers"] (spPolyOf K) := by
  have sc := sc_poly_of
  refine F.ok sc (fun vs H Q E h => ?_) (fun cdv A outer s H vs Q E hr h => ?_)
  · obtain ⟨_, _, _, _, _, _, rfl, _⟩ := h
    rfl
  · obtain ⟨x, y, ns, cs, d, e, rfl, hX, hY, hlen, h4, gn, gc, B, q⟩ := h
    refine ⟨_, (pss_cons (ps_par (i := 2) (j := 3) rfl sc.nd rfl rfl (by decide) rfl rfl (pa_cons (pe_tup pa_nil) (pa_cons (pe_tup (pa_cons (pe_glob (v := .ref o) (by rfl) T.one rfl) pa_nil)) pa_nil)) (by rfl))
      (pss_cons (ps_for PassesOwn.never rfl (RZ.pi_zipA (by rfl) T.zip (pa_cons (pv 0) (pa_cons (pv 1) pa_nil))) (pg_tup rfl (pgs_cons (pg_name (i := 4) sc.nd rfl (by first | exact Or.inl rfl | exact Or.inr rfl)) (pgs_cons (pg_name (i := 5) sc.nd rfl (by first | exact Or.inl rfl | exact Or.inr rfl)) pgs_nil)))
        (pss_cons (ps_set (i := 2) sc.nd rfl (by first | exact Or.inl rfl | exact Or.inr rfl) (pe_cl C_p_plus hr (by rfl) (pa_cons (pv 2) (pa_cons (pe_cl C_trimmed hr (by rfl) (pa_cons (pe_lc (own := [("more", 6)]) (g := gName 6) (tt := tYes) rfl sc.nd (pi_tup (pv 3)) (blkOk_by (own := [("more", 6)]) (N := ["nodes", "numbers", "found", "product", "one", "number", "more"]) (sc := (defScope (topS 32))) (by decide +kernel)) (fun _ _ _ _ _ => (pg_name (i := 6) sc.nd rfl (Or.inl rfl))) (fun _ _ _ _ _ => pts_nil) (fun _ _ _ _ _ => (pe_cl C_times hr (by rfl) (pa_cons (pv 5) (pa_cons (pv 6) pa_nil))))) pa_nil)) pa_nil))))
        (pss_one (ps_set (i := 3) sc.nd rfl (by first | exact Or.inl rfl | exact Or.inr rfl) (pe_cl C_p_times hr (by rfl) (pa_cons (pv 3) (pa_cons (pe_tup (pa_cons (pe_cl C_negative hr (by rfl) (pa_cons (pv 4) pa_nil)) (pa_cons (pe_glob (v := .ref o) (by rfl) T.one rfl) pa_nil))) pa_nil)))))))
      (pss_one (ps_ret (pv 2))))), ?_⟩
    have evone : EvP K (tTup (tCons (tC (.ref o)) tNil)) (start ["nodes", "numbers", "found", "product", "one", "number", "more"] [x, y]) H [1] := fun H1 e1 Q p =>
      ⟨by show 1 ≤ sizeLine; decide, fun m hm => p _ _ (Ex.new hm) (PT.new hm (RTs.one (T.ro H1)))⟩
    refine q_par (evp_nil (K := K)) mn_p evone fun v1 v2 H1 e1 r1 r2 => ?_
    obtain ⟨p1, us, rfl, hp1, hn⟩ := hX
    obtain ⟨p2, ws, rfl, hp2, hc⟩ := hY
    have l1 := hn.1
    have l2 := hc.1
    have gns : ∀ i, Gd 1 1 (ns.getD i 0) := getD_gd (P := Gd 1 1) gn (gd_zero (by decide))
    have gcs : ∀ i, Gd d e (cs.getD i 0) := getD_gd (P := Gd d e) gc (gd_zero B.pos)
    have pb4 : ∀ k, k < 5 → pb k ≤ 14 := by decide
    have B1 : ∀ e', e' ≤ 20 → Bd (1 * 1) e' := fun e' he => ⟨by decide, by decide +kernel, by omega⟩
    refine ⟨_, rfl, _, rfl, p1, p2, us, ws, rfl, .inr ⟨tx_t (.of e1) hp1, tx_t (.of e1) hp2, ?_⟩⟩
    refine for_it (walk_zipT (xs := us) (ys := ws) (n := ns.length) (by omega)) (fun k σ H' => ∃ vf vp y4 y5 y6, σ = [some (.ref p1), some (.ref p2), some vf, some vp, y4, y5, y6] ∧ Ex H H' ∧ PT K H' vf (fnd ns cs k) ∧ PT K H' vp (prd ns k)) ⟨v1, v2, none, none, none, rfl, e1, r1, r2⟩ (fun i σ H' _ h => ?_) (fun k u σ H' H2 hk h hy => ?_) fun σ H' h => ?_
    · obtain ⟨_, _, _, _, _, _, h, _⟩ := h
      exact ⟨tx_t (.of h) hp1, tx_t (.of h) hp2⟩
    · obtain ⟨T1, x1, x2, rfl, nT, rfl, f1, f2⟩ := hy
      obtain ⟨vf, vp, y4, y5, y6, rfl, e3, rf, rp⟩ := h
      have eT : Ex H' (upd H' T1 (.tup [x1, x2])) := Ex.new nT
      refine ⟨T1, _, rfl, .inl (.inl upd_same), rfl, _, _, rfl, _, _, rfl, rfl, ?_⟩
      have rx := ((hn.ex e3).2 k x1 f1).ex eT
      have ry := ((hc.ex e3).2 k x2 f2).ex eT
      obtain ⟨pp, wp, rfl, hpp, hwp⟩ := id (rp.ex eT)
      have pl := prd_len ns k
      have pk := pb4 k (by omega)
      have gp := prd_gd gn k
      have gf := fnd_gd B.pos gn gc k
      have gpg : ∀ i, Gd 1 (pb k) ((prd ns k).getD i 0) := getD_gd (P := Gd 1 (pb k)) gp (gd_zero (by decide))
      have l3 := hwp.1
      refine q_set (evp_plus (d := d) (e := e + pb k) (evp_var rfl (rf.ex eT)) (evp_trim (el_tup (f := fun i => cs.getD k 0 * (prd ns k).getD i 0) (Evl.ev_var rfl) hpp (by omega) (fun _ => rfl) fun i w H3 e4 hw => ?_) (by omega)) gf ?_ ?_ ?_ ⟨B.pos, B.dm, by have := B.em; omega⟩) fun v3 H3 e4 r3 => ?_
      · exact evq_times (evq_var rfl (ry.ex e4)) (evq_var rfl ((hwp.2 i w hw).ex e4)) (B.sm (gcs k) (by omega)) (B.sm1 (gpg i) (by omega))
      · rw [l3, ← map_getD (prd ns k) fun m => cs.getD k 0 * m]
        exact mem_trim (fun q hq => by
          obtain ⟨m, hm, rfl⟩ := List.mem_map.mp hq
          exact (gcs k).mul1 (gp m hm)) (gd_zero B.pos)
      · exact Nat.le_trans (fnd_len ns cs k) (by omega)
      · exact Nat.le_trans (trim_len _) (by simp; omega)
      rw [l3, ← map_getD (prd ns k) fun m => cs.getD k 0 * m] at r3
      refine s_set (evp_times (d := 1) (e := pb k) (d' := 1) (e' := 1) (evp_var rfl ((rp.ex eT).ex e4)) (evp_two (evq_neg (evq_var rfl (rx.ex e4))) (evq_c (T.ro H3))) gp (fun q hq => ?_) (by decide) (by decide) (by omega) (by simp) (B1 _ (by omega))) fun v4 H4 e5 r4 => ?_
      · rcases List.mem_cons.mp hq with z | z
        · rw [z]
          exact (gns k).neg
        · have : q = 1 := by simpa using z
          rw [this]
          exact gd_one (by decide)
      · exact ⟨v3, v4, _, _, _, rfl, ((e3.trans eT).trans e4).trans e5, r3.ex e5, r4⟩
    · obtain ⟨vf, vp, y4, y5, y6, rfl, e3, rf, rp⟩ := h
      exact s_ret (evp_var rfl rf) fun v2 H2 e2 r2 => q v2 H2 (e3.trans e2) r2

/-! ### is_interval, is_piece -/
def spIsInterval (K : PySem.W.Frag) : Sp := fun vs H Q _ => ∃ (x : V) (l r : Rat), vs = [x] ∧ PT K H x [l, r] ∧ Sm l ∧ Sm r ∧ l < r ∧ Post H Q fun v _ => v = .bl true
theorem sc_is_interval : FnScope ["value"] ["value"] (defScope (topS 34)) := ⟨rfl, rfl, rfl, by decide +kernel, rfl, by decide +kernel, by decide +kernel⟩
theorem ok_is_interval (F : Fun K "is_interval" "is_interval" (topS 34) f fd) (T : Top K mg z o t6 t7 t8 t12) (C_is_ratio : Cl P w K mg base "is_ratio" 2 ["value"] (spIsRatio K)) (C_is_below : Cl P w K mg base "is_below" 2 ["one", "other"] (spBelow K)) : FnOk P w K mg base CX0 3 f fd ["value"] (spIsInterval K) := by
  have sc := sc_is_interval
  refine F.ok sc (fun vs H Q E h => ?_) (fun cdv A outer s H vs Q E hr h => ?_)
  · obtain ⟨_, _, _, rfl, _⟩ := h
    rfl
  · obtain ⟨x, l, r, rfl, ⟨p, us, rfl, hp, hq⟩, sl, sr, hlt, q⟩ := h
    refine ⟨_, (pss_cons (ps_if (PW.pt (pw_or (pt_not (pt_val (pe_callB call_isi (by rfl) T.isinstance (by decide +kernel) (pa_cons (pv 0) (pa_cons (pe_bltn (v := .ty "tuple") (by rfl) T.tuple (by decide +kernel) rfl) pa_nil))))) (pw_or (pt_cmpR op_ne (pe_callB call_len_seq (by rfl) T.len (by decide +kernel) (pa_cons (pv 0) pa_nil)) pe_int (nomark _)) (pw_or (pt_not (pt_val (pe_cl C_is_ratio hr (by rfl) (pa_cons (pe_ix ix_tup (pv 0) pe_int (fun _ _ => rfl)) pa_nil)))) (pw_or1 (pt_not (pt_val (pe_cl C_is_ratio hr (by rfl) (pa_cons (pe_ix ix_tup (pv 0) pe_int (fun _ _ => rfl)) pa_nil)))))))))
        (pss_one (ps_ret pe_bl)) pss_nil)
      (pss_one (ps_ret (pe_cl C_is_below hr (by rfl) (pa_cons (pe_ix ix_tup (pv 0) pe_int (fun _ _ => rfl)) (pa_cons (pe_ix ix_tup (pv 0) pe_int (fun _ _ => rfl)) pa_nil)))))), ?_⟩
    have l2 : us.length = 2 := hq.1
    have i0 : EvQ K (tOp (rIxT K) (tVar 0) (tC (.int 0))) (start ["value"] [.ref p]) H l := evq_ixT (i := 0) (n := 0) (Evl.ev_var rfl) Evl.ev_c hp hq rfl (by simp)
    have i1 : EvQ K (tOp (rIxT K) (tVar 0) (tC (.int 1))) (start ["value"] [.ref p]) H r := evq_ixT (i := 0) (n := 1) (Evl.ev_var rfl) Evl.ev_c hp hq rfl (by simp)
    refine Evl.q_when (b := false) ?_ (fun h => nomatch h) fun _ H1 e1 => ?_
    · refine Evl.et_or (a := false) (b := false) (Evl.et_not (a := true) (Evl.et_B (ev_isi (Evl.ev_var rfl) (fun _ e => ty_tup (tx_t (.of e) hp)) (kit_ty (by decide +kernel))))) fun _ => ?_
      refine Evl.et_or (a := false) (b := false) (Evl.et_test (Evl.ev_is (Evl.ev_op (ev_lenT (Evl.ev_var rfl) hp) Evl.ev_c (Evl.rv_ne rfl)) (by rw [l2]; rfl))) fun _ => ?_
      exact Evl.et_or (a := false) (b := false) (Evl.et_not (a := true) (Evl.et_B (ev_isratio i0))) fun _ => Evl.et_not (a := true) (Evl.et_B (ev_isratio i1))
    · refine s_ret (evr_is (Evl.ev_is (ev_below (i0.ex e1) (i1.ex e1) sl sr) (by rw [decide_eq_true hlt]))) fun v H2 e2 r => q v H2 (e1.trans e2) r
def spIsPiece (K : PySem.W.Frag) : Sp := fun vs H Q _ => ∃ (x : V) (p : Pc), vs = [x, .int 6] ∧ PC1 K H x p ∧ Sm p.1 ∧ Sm p.2.1 ∧ p.1 < p.2.1 ∧ p.2.2.length ≤ 7 ∧ (p.2.2 = [] ∨ p.2.2.getLast? ≠ some 0) ∧ Post H Q fun v _ => v = .bl true
theorem sc_is_piece : FnScope ["value", "degree"] ["value", "degree"] (defScope (topS 37)) := ⟨rfl, rfl, rfl, by decide +kernel, rfl, by decide +kernel, by decide +kernel⟩
theorem ok_is_piece (F : Fun K "is_piece" "is_piece" (topS 37) f fd) (T : Top K mg z o t6 t7 t8 t12) (C_is_interval : Cl P w K mg base "is_interval" 3 ["value"] (spIsInterval K)) (C_is_poly : Cl P w K mg base "is_poly" 3 ["value"] (spIsPoly K)) : FnOk P w K mg base CX0 4 f fd ["value", "degree"] (spIsPiece K) := by
  have sc := sc_is_piece
  refine F.ok sc (fun vs H Q E h => ?_) (fun cdv A outer s H vs Q E hr h => ?_)
  · obtain ⟨_, _, rfl, _⟩ := h
    rfl
  · obtain ⟨x, ⟨l, r, hh⟩, rfl, ⟨p, iv, pw, rfl, hp, hI, hP⟩, sl, sr, hlt, hlen, hlast, q⟩ := h
    refine ⟨_, (pss_cons (ps_if (PW.pt (pw_or (pt_not (pt_val (pe_callB call_isi (by rfl) T.isinstance (by decide +kernel) (pa_cons (pv 0) (pa_cons (pe_bltn (v := .ty "tuple") (by rfl) T.tuple (by decide +kernel) rfl) pa_nil))))) (pw_or (pt_cmpR op_ne (pe_callB call_len_seq (by rfl) T.len (by decide +kernel) (pa_cons (pv 0) pa_nil)) pe_int (nomark _)) (pw_or1 (pt_not (pt_val (pe_cl C_is_interval hr (by rfl) (pa_cons (pe_ix ix_tup (pv 0) pe_int (fun _ _ => rfl)) pa_nil))))))))
        (pss_one (ps_ret pe_bl)) pss_nil)
      (pss_one (ps_ret (pe_and (pe_cl C_is_poly hr (by rfl) (pa_cons (pe_ix ix_tup (pv 0) pe_int (fun _ _ => rfl)) pa_nil)) (pe_one (pe_cmpR op_le (pe_callB call_len_seq (by rfl) T.len (by decide +kernel) (pa_cons (pe_ix ix_tup (pv 0) pe_int (fun _ _ => rfl)) pa_nil)) (pe_op op_add (pv 1) pe_int) (nomark _))))))), ?_⟩
    have i0 : Evl.Ev (tOp (rIxT K) (tVar 0) (tC (.int 0))) (start ["value", "degree"] [.ref p, .int 6]) H iv := Evl.ev_op (Evl.ev_var rfl) Evl.ev_c (Evl.rv_ixT hp rfl)
    have i1 : Evl.Ev (tOp (rIxT K) (tVar 0) (tC (.int 1))) (start ["value", "degree"] [.ref p, .int 6]) H pw := Evl.ev_op (Evl.ev_var rfl) Evl.ev_c (Evl.rv_ixT hp rfl)
    refine Evl.q_when (b := false) ?_ (fun h => nomatch h) fun _ H1 e1 => ?_
    · refine Evl.et_or (a := false) (b := false) (Evl.et_not (a := true) (Evl.et_B (ev_isi (Evl.ev_var rfl) (fun _ e => ty_tup (tx_t (.of e) hp)) (kit_ty (by decide +kernel))))) fun _ => ?_
      refine Evl.et_or (a := false) (b := false) (Evl.et_test (Evl.ev_is (Evl.ev_op (ev_lenT (Evl.ev_var rfl) hp) Evl.ev_c (Evl.rv_ne rfl)) rfl)) fun _ => ?_
      refine Evl.et_not (a := true) (evr_B (evr_call (ear_cons (evr_ev i0 fun H' e => hI.ex e) mn_p ear_nil) fun vs H1 e1 hv Q k => ?_))
      obtain ⟨v, r', rfl, hr1, rfl⟩ := hv
      exact ⟨v, l, r, rfl, hr1, sl, sr, hlt, k⟩
    · obtain ⟨pp, up, rfl, hpp, hqp⟩ := id hP
      have lu := hqp.1
      have hl7 : up.length ≤ 7 := by
        rw [lu]
        exact hlen
      refine s_ret (evr_is (Evl.ev_andV (a := true) (b := true) (ev_of (evr_call (ear_cons (evr_ev (i1.mono e1) fun H' e => (hP.ex e1).ex e) mn_p ear_nil) fun vs H2 e2 hv Q k => ?_)) fun _ => Evl.ev_is (Evl.ev_op (ev_lenT (i1.mono e1) (tx_t (.of e1) hpp)) (Evl.ev_op (Evl.ev_var rfl) Evl.ev_c Evl.rv_I0) Evl.rv_I0) ?_)) fun v H2 e2 r => q v H2 (e1.trans e2) r
      · obtain ⟨v, r', rfl, hr1, rfl⟩ := hv
        exact ⟨v, hh, rfl, hr1, Nat.le_trans hlen (by decide), hlast, k⟩
      · show V.bl (decide ((up.length : Int) ≤ 6 + 1)) = V.bl true
        rw [decide_eq_true (by omega)]

/-! ### need_rising -/
def spRising (K : PySem.W.Frag) : Sp := fun vs H Q _ => ∃ (x : V) (xs : List Rat), vs = [x] ∧ PT K H x xs ∧ 2 ≤ xs.length ∧ xs.length ≤ 7 ∧ (∀ i, i + 1 < xs.length → xs.getD i 0 < xs.getD (i + 1) 0) ∧ (∀ q ∈ xs, Gd 1 1 q) ∧ Post H Q fun v _ => v = .non
theorem sm1 {e : Nat} {q : Rat} (h : Gd 1 e q) (he : e ≤ 195) : Sm q := h.sm (by decide) (by decide +kernel) he
theorem sc_need_rising : FnScope ["value", "index", "one"] ["value"] (defScope (topS 44)) := ⟨rfl, rfl, rfl, by decide +kernel, rfl, by decide +kernel, by decide +kernel⟩
theorem ok_need_rising (F : Fun K "need_rising" "need_rising" (topS 44) f fd) (T : Top K mg z o t6 t7 t8 t12) (C_is_ratio : Cl P w K mg base "is_ratio" 2 ["value"] (spIsRatio K)) (C_is_below : Cl P w K mg base "is_below" 2 ["one", "other"] (spBelow K)) : FnOk P w K mg base CX0 3 f fd ["value"] (spRising K) := by
  have sc := sc_need_rising
  refine F.ok sc (fun vs H Q E h => ?_) (fun cdv A outer s H vs Q E hr h => ?_)
  · obtain ⟨_, _, rfl, _⟩ := h
    rfl
  · obtain ⟨x, xs, rfl, ⟨p, us, rfl, hp, hq⟩, h2, h7, hinc, gx, q⟩ := h
    refine ⟨_, (pss_cons (ps_if (PW.pt (pw_or (pt_not (pt_val (pe_callB call_isi (by rfl) T.isinstance (by decide +kernel) (pa_cons (pv 0) (pa_cons (pe_bltn (v := .ty "tuple") (by rfl) T.tuple (by decide +kernel) rfl) pa_nil))))) (pw_or1 (pt_not (pt_chain op_le op_le pe_int (pe_callB call_len_seq (by rfl) T.len (by decide +kernel) (pa_cons (pv 0) pa_nil)) (pe_glob (v := .int 7) (by rfl) T.MOST_NODES ⟨_, rfl⟩))))))
        (pss_one ps_never) pss_nil)
      (pss_one (ps_for PassesOwn.never rfl (pi_enumT (by rfl) T.enumerate (pa_cons (pv 0) pa_nil)) (pg_tup rfl (pgs_cons (pg_name (i := 1) sc.nd rfl (by first | exact Or.inl rfl | exact Or.inr rfl)) (pgs_cons (pg_name (i := 2) sc.nd rfl (by first | exact Or.inl rfl | exact Or.inr rfl)) pgs_nil)))
        (pss_one (ps_if (PW.pt (pw_or (pt_not (pt_val (pe_cl C_is_ratio hr (by rfl) (pa_cons (pv 2) pa_nil)))) (pw_or1 (PW.pt (pw_and (pt_cmpR op_gt (pv 1) pe_int (nomark _)) (pw_and1 (pt_not (pt_val (pe_cl C_is_below hr (by rfl) (pa_cons (pe_ix ix_tup (pv 0) (pe_op op_sub (pv 1) pe_int) (fun _ _ => rfl)) (pa_cons (pv 2) pa_nil)))))))))))
          (pss_one ps_never) pss_nil))))), ?_⟩
    have l1 := hq.1
    have gxs : ∀ i, Gd 1 1 (xs.getD i 0) := getD_gd (P := Gd 1 1) gx (gd_zero (by decide))
    refine Evl.q_when (b := false) ?_ (fun h => nomatch h) fun _ H1 e1 => ?_
    · refine Evl.et_or (a := false) (b := false) (Evl.et_not (a := true) (Evl.et_B (ev_isi (Evl.ev_var rfl) (fun _ e => ty_tup (tx_t (.of e) hp)) (kit_ty (by decide +kernel))))) fun _ => ?_
      refine Evl.et_not (a := true) (Evl.et_test (Evl.ev_is (ev_chain Evl.ev_c (ev_lenT (Evl.ev_var rfl) hp) Evl.ev_c) ?_))
      show V.bl (decide ((2 : Int) ≤ (us.length : Int)) && decide ((us.length : Int) ≤ 7)) = V.bl true
      rw [decide_eq_true (by omega), decide_eq_true (by omega)]
      rfl
    · refine ⟨_, rfl, p, us, rfl, tx_t (.of e1) hp, ?_⟩
      refine for_it (walk_enumT (xs := us)) (fun i σ H' => ∃ y1 y2, σ = [some (.ref p), y1, y2] ∧ Ex H H') ⟨none, none, rfl, e1⟩ (fun i σ H' _ h => ?_) (fun i u σ H' H2 hi h hy => ?_) fun σ H' h => ?_
      · obtain ⟨_, _, _, h⟩ := h
        exact tx_t (.of h) hp
      · obtain ⟨T1, x1, x2, rfl, nT, rfl, f1, f2⟩ := hy
        cases f1
        obtain ⟨y1, y2, rfl, e2⟩ := h
        have eT : Ex H' (upd H' T1 (.tup [.int (i : Nat), x2])) := Ex.new nT
        refine ⟨T1, _, rfl, .inl (.inl upd_same), rfl, _, _, rfl, _, _, rfl, rfl, ?_⟩
        have rx := ((hq.ex e2).2 i x2 f2).ex eT
        refine Evl.s_when (b := false) (Evl.et_or (a := false) (b := false) (Evl.et_not (a := true) (Evl.et_B (ev_isratio (evq_var rfl rx)))) fun _ => ?_) (fun h => nomatch h) fun _ H3 e3 => ⟨_, _, rfl, (e2.trans eT).trans e3⟩
        by_cases h0 : 0 < i
        · refine Evl.et_is (Evl.et_and (a := true) (b := false) (Evl.et_test (Evl.ev_is (Evl.ev_op (Evl.ev_var rfl) Evl.ev_c Evl.rv_I0) ?_)) fun _ => Evl.et_not (a := true) (Evl.et_B (Evl.ev_is (ev_below (evq_ixT (i := 0) (n := i - 1) (Evl.ev_var rfl) (Evl.ev_op (Evl.ev_var rfl) Evl.ev_c Evl.rv_I0) (tx_t (.of (e2.trans eT)) hp) (hq.ex (e2.trans eT)) (by show (i : Int) - 1 = _; omega) (by omega)) (evq_var rfl rx) (sm1 (gxs _) (by decide)) (sm1 (gxs _) (by decide))) ?_))) rfl
          · show V.bl (decide ((0 : Int) < (i : Int))) = V.bl true
            rw [decide_eq_true (by omega)]
          · have := hinc (i - 1) (by omega)
            rw [show i - 1 + 1 = i by omega] at this
            rw [decide_eq_true this]
        · refine Evl.et_and (a := false) (b := false) (Evl.et_test (Evl.ev_is (Evl.ev_op (Evl.ev_var rfl) Evl.ev_c Evl.rv_I0) ?_)) fun h => nomatch h
          show V.bl (decide ((0 : Int) < (i : Int))) = V.bl false
          rw [decide_eq_false (by omega)]
      · obtain ⟨_, _, rfl, h⟩ := h
        exact q _ _ h rfl
end
end BW
/-! BwG: cubic_pieces, bending. -/
namespace BW
open PySem PySem.Spec PyProof.Rows L2 BC
open Evl (Ex)
open StX (tStar pa_star)
section
variable {P : Program} {w : World} {K : PySem.W.Frag} {mg : Str → Option Value} {base : Heap} {f z o : Addr} {fd : FuncData} {t6 t7 t8 t12 : Tok}

/-- (a, b) of any two -/
theorem evr_two {σ : L2.St} {H : Hp} {ta tb : TE} {R1 R2 : V → Hp → Prop} (ha : EvR ta σ H R1) (m1 : Mn R1) (hb : EvR tb σ H R2) (m2 : Mn R2) : EvR (tTup (tCons ta (tCons tb tNil))) σ H fun v H' => ∃ a x y, v = .ref a ∧ SqT K H' a [x, y] ∧ R1 x H' ∧ R2 y H' := fun H1 e1 Q p =>
  ha H1 e1 _ fun v H2 e2 r => hb H2 (e1.trans e2) _ fun w H3 e3 r2 => ⟨by show 2 ≤ sizeLine; decide, fun m hm => p _ _ ((e2.trans e3).trans (Ex.new hm)) ⟨m, v, w, rfl, .inl (.inl upd_same), m1 _ _ _ (e3.trans (Ex.new hm)) r, m2 _ _ _ (Ex.new hm) r2⟩⟩
theorem evr_piece {σ : L2.St} {H : Hp} {ta tb tc : TE} {l r : Rat} {h : List Rat} (ha : EvQ K ta σ H l) (hb : EvQ K tb σ H r) (hc : EvP K tc σ H h) : EvR (tTup (tCons (tTup (tCons ta (tCons tb tNil))) (tCons tc tNil))) σ H fun v H' => PC1 K H' v (l, r, h) :=
  EvR.imp (evr_two (K := K) (evp_two ha hb) mn_p hc mn_p) fun v H' _ x => x
/-! ### cubic_pieces -/
/-- the piece number i -/
def pcOf (xs ys ss : List Rat) (i : Nat) : Pc := (xs.getD i 0, xs.getD (i + 1) 0, herm (xs.getD i 0) (xs.getD (i + 1) 0) (ys.getD i 0) (ss.getD i 0) (ys.getD (i + 1) 0) (ss.getD (i + 1) 0))
def pcsOf (xs ys ss : List Rat) : List Pc := (List.range (xs.length - 1)).map (pcOf xs ys ss)
/-- places as they are asked for -/
structure Places (xs : List Rat) : Prop where
  two : 2 ≤ xs.length
  few : xs.length ≤ 7
  up : ∀ i, i + 1 < xs.length → 0 < xs.getD (i + 1) 0 - xs.getD i 0
  inv : ∀ i, i + 1 < xs.length → Gd 1 1 (1 / (xs.getD (i + 1) 0 - xs.getD i 0))
  gx : ∀ q ∈ xs, Gd 1 1 q
theorem four_ok {l r : Rat} (h : 0 < r - l) (g : Gd 1 1 (1 / (r - l))) : ∀ i j, i < j → j < [l, l, r, r].length → [l, l, r, r].getD i 0 ≠ [l, l, r, r].getD j 0 → 0 < [l, l, r, r].getD j 0 - [l, l, r, r].getD i 0 ∧ Gd 1 1 (1 / ([l, l, r, r].getD j 0 - [l, l, r, r].getD i 0)) := by
  intro i j hij hj hne
  have hj4 : j < 4 := hj
  match i, j, hij, hj4 with
  | 0, 1, _, _ => exact absurd rfl hne
  | 0, 2, _, _ => exact ⟨h, g⟩
  | 0, 3, _, _ => exact ⟨h, g⟩
  | 1, 2, _, _ => exact ⟨h, g⟩
  | 1, 3, _, _ => exact ⟨h, g⟩
  | 2, 3, _, _ => exact absurd rfl hne
  | i + 3, j, h1, h2 => omega
theorem four_ix {l r : Rat} (h : 0 < r - l) : ∀ i j, j < [l, l, r, r].length → i < j → [l, l, r, r].getD i 0 = [l, l, r, r].getD j 0 → [l, l, r, r].idxOf ([l, l, r, r].getD i 0) ≤ i := by
  have ne : l ≠ r := fun e => by
    rw [e] at h
    grind
  have il : [l, l, r, r].idxOf l = 0 := by simp [List.idxOf_cons]
  have ir : [l, l, r, r].idxOf r = 2 := by
    have h1 : (l == r) = false := beq_eq_false_iff_ne.mpr ne
    simp [List.idxOf_cons, h1]
  intro i j hj hij hne
  have hj4 : j < 4 := hj
  match i, j, hij, hj4 with
  | 0, _, _, _ => show [l, l, r, r].idxOf l ≤ 0; rw [il]; exact Nat.le_refl _
  | 1, _, _, _ => show [l, l, r, r].idxOf l ≤ 1; rw [il]; decide
  | 2, _, _, _ => show [l, l, r, r].idxOf r ≤ 2; rw [ir]; exact Nat.le_refl _
  | i + 3, j, h1, h2 => omega
theorem mem_four {P : Rat → Prop} {a b c d : Rat} (ha : P a) (hb : P b) (hc : P c) (hd : P d) : ∀ q ∈ [a, b, c, d], P q := fun q hq => by
  rcases List.mem_cons.mp hq with e | hq
  · exact e ▸ ha
  rcases List.mem_cons.mp hq with e | hq
  · exact e ▸ hb
  rcases List.mem_cons.mp hq with e | hq
  · exact e ▸ hc
  · have e : q = d := by simpa using hq
    exact e ▸ hd
def spCubic (K : PySem.W.Frag) : Sp := fun vs H Q _ => ∃ (x y s : V) (xs ys ss : List Rat) (d e : Nat), vs = [x, y, s] ∧ PT K H x xs ∧ PT K H y ys ∧ PT K H s ss ∧ ys.length = xs.length ∧ ss.length = xs.length ∧ Places xs ∧ (∀ q ∈ ys, Gd d e q) ∧ (∀ q ∈ ss, Gd d e q) ∧ Bd d (e + 30) ∧ Post H Q fun v H' => PCs K H' v (pcsOf xs ys ss)
theorem tab_gd {l r : Rat} {ds : List Rat} {d e : Nat} (h0 : 0 < d) (h : 0 < r - l) (g : Gd 1 1 (1 / (r - l))) (gd : ∀ q ∈ ds, Gd d e q) : ∀ q ∈ BC.table [l, l, r, r] ds, Gd d (e + 6) q := fun q hq => by
  unfold BC.table at hq
  obtain ⟨s, hs, rfl⟩ := List.mem_map.mp hq
  have h4 : s < 4 := List.mem_range.mp hs
  exact (tabL_gd h0 (by simp) (four_ok h g) gd s 0).upe (by omega) h0
theorem herm_gd {l r d0 s0 d1 s1 : Rat} {d e : Nat} (h0 : 0 < d) (h : 0 < r - l) (g : Gd 1 1 (1 / (r - l))) (gl : Gd 1 1 l) (gr : Gd 1 1 r) (g1 : Gd d e d0) (g2 : Gd d e s0) (g3 : Gd d e d1) (g4 : Gd d e s1) : ∀ q ∈ herm l r d0 s0 d1 s1, Gd d (e + 20) q := fun q hq =>
  (fnd_gd h0 (mem_four gl gl gr gr) (tab_gd h0 h g (mem_four g1 g2 g3 g4)) 4 q hq).upe (by show e + 6 + 14 ≤ _; omega) h0
theorem sc_cubic_pieces : FnScope ["places", "data", "slopes", "found", "index", "low", "high", "nodes", "told"] ["places", "data", "slopes"] (defScope (topS 45)) := ⟨rfl, rfl, rfl, by decide +kernel, rfl, by decide +kernel, by decide +kernel⟩
theorem ok_cubic_pieces (F : Fun K "cubic_pieces" "cubic_pieces" (topS 45) f fd) (T : Top K mg z o t6 t7 t8 t12) (C_poly_of : Cl P w K mg base "poly_of" 4 ["nodes", "numbers"] (spPolyOf K)) (C_table_of : Cl P w K mg base "table_of" 4 ["nodes", "data"] (spTable K)) : FnOk P w K mg base CX0 5 f fd ["places", "data", "slopes"] (spCubic K) := by
  have sc := sc_cubic_pieces
  refine F.ok sc (fun vs H Q E h => ?_) (fun cdv A outer s H vs Q E hr h => ?_)
  · obtain ⟨_, _, _, _, _, _, _, _, rfl, _⟩ := h
    rfl
  · obtain ⟨x, y, sv, xs, ys, ss, d, e, rfl, ⟨p1, us, rfl, hp1, hx⟩, ⟨p2, ws, rfl, hp2, hy⟩, ⟨p3, zs, rfl, hp3, hs⟩, ly, ls, Pl, gy, gs, B, q⟩ := h
    refine ⟨_, (pss_cons (ps_set (i := 3) sc.nd rfl (by first | exact Or.inl rfl | exact Or.inr rfl) (pe_lst pa_nil))
      (pss_cons (ps_for PassesOwn.never rfl (pi_range1 (by rfl) T.range (pa_cons (pe_op op_sub (pe_callB call_len_seq (by rfl) T.len (by decide +kernel) (pa_cons (pv 0) pa_nil)) pe_int) pa_nil)) (pg_name (i := 4) sc.nd rfl (by first | exact Or.inl rfl | exact Or.inr rfl))
        (pss_cons (ps_par (i := 5) (j := 6) rfl sc.nd rfl rfl (by decide) rfl rfl (pa_cons (pe_ix ix_tup (pv 0) (pv 4) (fun _ _ => rfl)) (pa_cons (pe_ix ix_tup (pv 0) (pe_op op_add (pv 4) pe_int) (fun _ _ => rfl)) pa_nil)) (by rfl))
        (pss_cons (ps_set (i := 7) sc.nd rfl (by first | exact Or.inl rfl | exact Or.inr rfl) (pe_tupF (pa_cons (pv 5) (pa_cons (pv 5) (pa_cons (pv 6) (pa_cons (pv 6) pa_nil))))))
        (pss_cons (ps_set (i := 8) sc.nd rfl (by first | exact Or.inl rfl | exact Or.inr rfl) (pe_tup (pa_cons (pe_ix ix_tup (pv 1) (pv 4) (fun _ _ => rfl)) (pa_cons (pe_ix ix_tup (pv 2) (pv 4) (fun _ _ => rfl)) (pa_cons (pe_ix ix_tup (pv 1) (pe_op op_add (pv 4) pe_int) (fun _ _ => rfl)) (pa_cons (pe_ix ix_tup (pv 2) (pe_op op_add (pv 4) pe_int) (fun _ _ => rfl)) pa_nil))))))
        (pss_one (ps_expr (pe_bm PySem.F.plainAttrs_list PySem.F.slot_list_append PySem.F.type_list_append mt_append (pv 3) (pa_cons (pe_tup (pa_cons (pe_tup (pa_cons (pv 5) (pa_cons (pv 6) pa_nil))) (pa_cons (pe_cl C_poly_of hr (by rfl) (pa_cons (pv 7) (pa_cons (pe_cl C_table_of hr (by rfl) (pa_cons (pv 7) (pa_cons (pv 8) pa_nil))) pa_nil))) pa_nil))) pa_nil))))))))
      (pss_one (ps_ret (pe_callTy call_tuple_of (by rfl) T.tuple (by decide +kernel) (pa_cons (pv 3) pa_nil)))))), ?_⟩
    have l1 := hx.1
    have gxs : ∀ i, Gd 1 1 (xs.getD i 0) := getD_gd (P := Gd 1 1) Pl.gx (gd_zero (by decide))
    have gys : ∀ i, Gd d e (ys.getD i 0) := getD_gd (P := Gd d e) gy (gd_zero B.pos)
    have gss : ∀ i, Gd d e (ss.getD i 0) := getD_gd (P := Gd d e) gs (gd_zero B.pos)
    have two := Pl.two
    refine q_set (R := fun v H' => ∃ l, v = .ref l ∧ H l = none ∧ H' l = some (.lst [])) (fun H1 e1 Q k => ⟨Nat.zero_le _, fun m hm => k _ _ (Ex.new hm) ⟨m, rfl, Evl.fresh_back e1 hm, upd_same⟩⟩) fun v1 H1 e1 r1 => ?_
    obtain ⟨lf, rfl, nf, hf⟩ := r1
    refine Evl.q_forR1 (n := ((xs.length - 1 : Nat) : Int)) (Evl.ea_cons (Evl.ev_is (Evl.ev_op (ev_lenT (Evl.ev_var rfl) (tx_t (.of e1) hp1)) Evl.ev_c Evl.rv_I0) ?_) Evl.ea_nil) (by have := Pl.few; omega)
      (fun k σ H' => ∃ wf y4 y5 y6 y7 y8, σ = [some (.ref p1), some (.ref p2), some (.ref p3), some (.ref lf), y4, y5, y6, y7, y8] ∧ Ex H H' ∧ H' lf = some (.lst wf) ∧ PCl K H' wf ((List.range k).map (pcOf xs ys ss)))
      (fun H2 e2 => ⟨[], none, none, none, none, none, rfl, e1.trans e2, e2 lf _ hf, .nil⟩) (fun k σ H2 hk h => ?_) fun σ H2 h => ?_
    · show V.int ((us.length : Int) - 1) = _
      congr 1
      omega
    · obtain ⟨wf, y4, y5, y6, y7, y8, rfl, e2, hl, rl⟩ := h
      have hk1 : k + 1 < xs.length := by omega
      have up := Pl.up k hk1
      have inv := Pl.inv k hk1
      have ix : ∀ {H3 : Hp} {σ : L2.St} {i : Nat} {p : Addr} {vs : List V} {qs : List Rat}, σ[i]? = some (some (.ref p)) → σ[4]? = some (some (.int (k : Int))) → SqT K H3 p vs → RTs K H3 vs qs → qs.length = xs.length → EvQ K (tOp (rIxT K) (tVar i) (tVar 4)) σ H3 (qs.getD k 0) ∧ EvQ K (tOp (rIxT K) (tVar i) (tOp (rI0 fun i j => .int (i + j)) (tVar 4) (tC (.int 1)))) σ H3 (qs.getD (k + 1) 0) := fun h1 h2 h3 h4 h5 =>
        ⟨evq_ixT (i := 0) (n := k) (Evl.ev_var h1) (Evl.ev_var h2) h3 h4 rfl (by omega), evq_ixT (i := 0) (n := k + 1) (Evl.ev_var h1) (Evl.ev_op (Evl.ev_var h2) Evl.ev_c Evl.rv_I0) h3 h4 (by show (k : Int) + 1 = _; omega) (by omega)⟩
      have i1 := ix (H3 := H2) (σ := [some (.ref p1), some (.ref p2), some (.ref p3), some (.ref lf), some (.int (k : Int)), y5, y6, y7, y8]) (i := 0) rfl rfl (tx_t (.of e2) hp1) (hx.ex e2) rfl
      refine q_par i1.1 mn_q i1.2 fun v5 v6 H3 e3 r5 r6 => ?_
      refine q_set (evf_four (evq_var rfl r5) (evq_var rfl r5) (evq_var rfl r6) (evq_var rfl r6)) fun v7 H4 e4 r7 => ?_
      have e24 := (e2.trans e3).trans e4
      have i2 := ix (H3 := H4) (σ := [some (.ref p1), some (.ref p2), some (.ref p3), some (.ref lf), some (.int (k : Int)), some v5, some v6, some v7, y8]) (i := 1) rfl rfl (tx_t (.of e24) hp2) (hy.ex e24) ly
      have i3 := ix (H3 := H4) (σ := [some (.ref p1), some (.ref p2), some (.ref p3), some (.ref lf), some (.int (k : Int)), some v5, some v6, some v7, y8]) (i := 2) rfl rfl (tx_t (.of e24) hp3) (hs.ex e24) ls
      refine q_set (evp_four i2.1 i3.1 i2.2 i3.2) fun v8 H5 e5 r8 => ?_
      have hl5 := ((e3.trans e4).trans e5) lf _ hl
      have lw : wf.length ≤ 1000 := by
        rw [rl.1]
        simp
        have := Pl.few
        omega
      have gd4 : ∀ q ∈ [ys.getD k 0, ss.getD k 0, ys.getD (k + 1) 0, ss.getD (k + 1) 0], Gd d e q := mem_four (gys _) (gss _) (gys _) (gss _)
      have evtab : EvP K (tCall (spTable K) [] E0 (tCons (tVar 7) (tCons (tVar 8) tNil))) [some (.ref p1), some (.ref p2), some (.ref p3), some (.ref lf), some (.int (k : Int)), some v5, some v6, some v7, some v8] H5 (BC.table [xs.getD k 0, xs.getD k 0, xs.getD (k + 1) 0, xs.getD (k + 1) 0] [ys.getD k 0, ss.getD k 0, ys.getD (k + 1) 0, ss.getD (k + 1) 0]) :=
        evr_call (ear_cons (R := fun v H' => FT K H' v [xs.getD k 0, xs.getD k 0, xs.getD (k + 1) 0, xs.getD (k + 1) 0]) (evr_ev (Evl.ev_var rfl) fun H' e' => (r7.ex e5).ex e') (fun _ _ _ e' h => h.ex e') (ear_cons (evp_var rfl r8) mn_p ear_nil)) fun vs H6 e6 hv Q kk => by
          obtain ⟨va, ra, rfl, ha, vb, rb, rfl, hb, rfl⟩ := hv
          exact ⟨va, vb, _, _, d, e, rfl, ha, hb, rfl, by simp, by simp, four_ok up inv, mem_four (gxs _) (gxs _) (gxs _) (gxs _), gd4, four_ix up, ⟨B.pos, B.dm, by have := B.em; omega⟩, kk⟩
      have evpoly : EvP K (tCall (spPolyOf K) [] E0 (tCons (tVar 7) (tCons (tCall (spTable K) [] E0 (tCons (tVar 7) (tCons (tVar 8) tNil))) tNil))) [some (.ref p1), some (.ref p2), some (.ref p3), some (.ref lf), some (.int (k : Int)), some v5, some v6, some v7, some v8] H5 (herm (xs.getD k 0) (xs.getD (k + 1) 0) (ys.getD k 0) (ss.getD k 0) (ys.getD (k + 1) 0) (ss.getD (k + 1) 0)) :=
        evr_call (ear_cons (evp_var rfl (r7.ex e5).pt) mn_p (ear_cons evtab mn_p ear_nil)) fun vs H6 e6 hv Q kk => by
          obtain ⟨va, ra, rfl, ha, vb, rb, rfl, hb, rfl⟩ := hv
          exact ⟨va, vb, _, _, d, e + 6, rfl, ha, hb, by simp [BC.table], by simp, mem_four (gxs _) (gxs _) (gxs _) (gxs _), tab_gd B.pos up inv gd4, ⟨B.pos, B.dm, by have := B.em; omega⟩, kk⟩
      have evpc := evr_piece (σ := [some (.ref p1), some (.ref p2), some (.ref p3), some (.ref lf), some (.int (k : Int)), some v5, some v6, some v7, some v8]) (ta := tVar 5) (tb := tVar 6) (evq_var rfl ((r5.ex e4).ex e5)) (evq_var rfl ((r6.ex e4).ex e5)) evpoly
      refine s_appR hl5 (Evl.ev_var rfl) evpc lw fun v9 H6 e6 r9 => ?_
      · have h6 := e6 lf _ hl5
        refine ⟨wf ++ [v9], _, _, _, _, _, rfl, (((e24.trans e5).trans e6)).mut nf, upd_same, ?_⟩
        rw [List.range_succ, List.map_append]
        exact (((rl.ex ((e3.trans e4).trans (e5.trans e6)))).tx (.set h6)).snoc (r9.tx (.set h6))
    · obtain ⟨wf, y4, y5, y6, y7, y8, rfl, e2, hl, rl⟩ := h
      rw [Int.toNat_natCast] at rl
      refine s_ret (R := fun v H' => PCs K H' v (pcsOf xs ys ss)) (fun H3 e3 Q kk => ⟨_, rfl, lf, wf, rfl, .inl ⟨.inl (.inl (e3 lf _ hl)), fun m hm => kk _ _ (Ex.new hm) ⟨m, wf, rfl, .inl (.inl upd_same), (rl.ex e3).ex (Ex.new hm)⟩⟩⟩) fun v3 H3 e3 r3 => q v3 H3 (e2.trans e3) r3

/-! ### bending -/
theorem Bd.half {d e : Nat} (B : Bd (d * d) e) : 0 < d → Bd d e := fun h => ⟨h, Nat.le_trans (Nat.le_mul_of_pos_right d h) B.dm, B.em⟩
structure Pieces (ps : List Pc) (d e : Nat) : Prop where
  one : 1 ≤ ps.length
  few : ps.length ≤ 8
  gx : ∀ i, i < ps.length → Gd 1 1 (ps.getD i pc0).1 ∧ Gd 1 1 (ps.getD i pc0).2.1
  up : ∀ i, i < ps.length → (ps.getD i pc0).1 < (ps.getD i pc0).2.1
  join : ∀ i, 0 < i → i < ps.length → (ps.getD i pc0).1 = (ps.getD (i - 1) pc0).2.1
  gp : ∀ i, i < ps.length → ∀ q ∈ (ps.getD i pc0).2.2, Gd d e q
  len : ∀ i, i < ps.length → (ps.getD i pc0).2.2.length ≤ 4
  last : ∀ i, i < ps.length → (ps.getD i pc0).2.2 = [] ∨ (ps.getD i pc0).2.2.getLast? ≠ some 0
theorem bent_len {h : List Rat} (hl : h.length ≤ 4) : (bent h).length ≤ 2 := by
  unfold bent
  rw [pslope_len, pslope_len]
  omega
theorem sqr_len {h : List Rat} (hl : h.length ≤ 4) : (sqr h).length ≤ 3 := by
  have h1 := bent_len hl
  unfold sqr pmul
  split
  · exact Nat.zero_le _
  · rw [mulAdd_len]
    omega
theorem bent_gd {h : List Rat} {d e : Nat} (h0 : 0 < d) (hl : h.length ≤ 4) (g : ∀ q ∈ h, Gd d e q) : ∀ q ∈ bent h, Gd d (e + 2) q := pslope_gd h0 (by rw [pslope_len]; omega) (pslope_gd h0 (by omega) g)
theorem sqr_gd {h : List Rat} {d e : Nat} (h0 : 0 < d) (hl : h.length ≤ 4) (g : ∀ q ∈ h, Gd d e q) : ∀ q ∈ sqr h, Gd (d * d) (2 * e + 6) q := fun q hq => by
  have h1 := bent_len hl
  exact (pmul_gd h0 h0 (bent_gd h0 hl g) (bent_gd h0 hl g) q hq).upe (by omega) (Nat.mul_pos h0 h0)
theorem whole_len {h : List Rat} (hl : h.length ≤ 4) : (psum (sqr h)).length ≤ 4 := by
  have h1 := sqr_len hl
  unfold psum
  refine Nat.le_trans (trim_len _) ?_
  simp
  omega
theorem whole_gd {h : List Rat} {d e : Nat} (h0 : 0 < d) (hl : h.length ≤ 4) (g : ∀ q ∈ h, Gd d e q) : ∀ q ∈ psum (sqr h), Gd (d * d) (2 * e + 7) q := psum_gd (Nat.mul_pos h0 h0) (by have := sqr_len hl; omega) (sqr_gd h0 hl g)
theorem pat_gd {a : List Rat} {x : Rat} {d e : Nat} (h0 : 0 < d) (ha : ∀ q ∈ a, Gd d e q) (hx : Gd 1 1 x) : Gd d (e + 2 * a.length) (pat a x) := by
  have := patN_gd a x h0 ha hx a.length (Nat.le_refl _)
  rw [patN_all] at this
  exact this
theorem bendP_gd {h : List Rat} {l r : Rat} {d e : Nat} (h0 : 0 < d) (hl : h.length ≤ 4) (g : ∀ q ∈ h, Gd d e q) (gl : Gd 1 1 l) (gr : Gd 1 1 r) : Gd (d * d) (2 * e + 16) (bendP h l r) := by
  have w1 := whole_len hl
  have p0 := Nat.mul_pos h0 h0
  exact (((pat_gd p0 (whole_gd h0 hl g) gr).upe (e' := 2 * e + 15) (by omega) p0).sub ((pat_gd p0 (whole_gd h0 hl g) gl).upe (by omega) p0)).upe (by omega) p0
def bendL (ps : List Pc) (i : Nat) : Rat := bendP (ps.getD i pc0).2.2 (ps.getD i pc0).1 (ps.getD i pc0).2.1
def spBending (K : PySem.W.Frag) : Sp := fun vs H Q _ => ∃ (x : V) (ps : List Pc) (d e : Nat), vs = [x] ∧ PCs K H x ps ∧ Pieces ps d e ∧ 0 < d ∧ Bd (d * d) (2 * e + 30) ∧ Post H Q fun v H' => RT K H' v (totN (bendL ps) ps.length)
theorem sc_bending : FnScope ["pieces", "index", "piece", "found", "low", "high", "poly", "bent", "whole"] ["pieces"] (defScope (topS 49)) := ⟨rfl, rfl, rfl, by decide +kernel, rfl, by decide +kernel, by decide +kernel⟩
theorem ok_bending (F : Fun K "bending" "bending" (topS 49) f fd) (T : Top K mg z o t6 t7 t8 t12) (C_is_piece : Cl P w K mg base "is_piece" 4 ["value", "degree"] (spIsPiece K)) (C_p_slope : Cl P w K mg base "p_slope" 4 ["poly"] (spSlope K)) (C_p_times : Cl P w K mg base "p_times" 4 ["one", "other"] (spPTimes K)) (C_p_sum : Cl P w K mg base "p_sum" 4 ["poly"] (spSum K)) (C_at : Cl P w K mg base "at" 4 ["poly", "x"] (spAt K)) (C_less : Cl P w K mg base "less" 4 ["one", "other"] (spLess K)) (C_total : Cl P w K mg base "total" 4 ["some"] (spTotal K)) : FnOk P w K mg base CX0 5 f fd ["pieces"] (spBending K) := by
  have sc := sc_bending
  refine F.ok sc (fun vs H Q E h => ?_) (fun cdv A outer s H vs Q E hr h => ?_)
  · obtain ⟨_, _, _, _, rfl, _⟩ := h
    rfl
  · obtain ⟨x, ps, d, e, rfl, ⟨p, us, rfl, hp, hq⟩, G, d0, B, q⟩ := h
    refine ⟨_, (pss_cons (ps_if (PW.pt (pw_or (pt_not (pt_val (pe_callB call_isi (by rfl) T.isinstance (by decide +kernel) (pa_cons (pv 0) (pa_cons (pe_bltn (v := .ty "tuple") (by rfl) T.tuple (by decide +kernel) rfl) pa_nil))))) (pw_or1 (pt_not (pt_chain op_le op_le pe_int (pe_callB call_len_seq (by rfl) T.len (by decide +kernel) (pa_cons (pv 0) pa_nil)) (pe_glob (v := .int 8) (by rfl) T.MOST_PIECES ⟨_, rfl⟩))))))
        (pss_one ps_never) pss_nil)
      (pss_cons (ps_for PassesOwn.never rfl (pi_enumT (by rfl) T.enumerate (pa_cons (pv 0) pa_nil)) (pg_tup rfl (pgs_cons (pg_name (i := 1) sc.nd rfl (by first | exact Or.inl rfl | exact Or.inr rfl)) (pgs_cons (pg_name (i := 2) sc.nd rfl (by first | exact Or.inl rfl | exact Or.inr rfl)) pgs_nil)))
        (pss_one (ps_if (PW.pt (pw_or (pt_not (pt_val (pe_cl C_is_piece hr (by rfl) (pa_cons (pv 2) (pa_cons (pe_glob (v := .int 6) (by rfl) T.MOST_POWER ⟨_, rfl⟩) pa_nil))))) (pw_or1 (PW.pt (pw_and (pt_cmpR op_gt (pv 1) pe_int (nomark _)) (pw_and1 (pt_cmpR (by exact op_neD hr.units) (pe_ix ix_tup (pe_ix ix_tup (pv 2) pe_int (fun _ _ => rfl)) pe_int (fun _ _ => rfl)) (pe_ix ix_tup (pe_ix ix_tup (pe_ix ix_tup (pv 0) (pe_op op_sub (pv 1) pe_int) (fun _ _ => rfl)) pe_int (fun _ _ => rfl)) pe_int (fun _ _ => rfl)) (nomark _))))))))
          (pss_one ps_never) pss_nil)))
      (pss_cons (ps_set (i := 3) sc.nd rfl (by first | exact Or.inl rfl | exact Or.inr rfl) (pe_lst pa_nil))
      (pss_cons (ps_for PassesOwn.never rfl (pi_tup (pv 0)) (pg_tup rfl (pgs_cons (pg_tup rfl (pgs_cons (pg_name (i := 4) sc.nd rfl (by first | exact Or.inl rfl | exact Or.inr rfl)) (pgs_cons (pg_name (i := 5) sc.nd rfl (by first | exact Or.inl rfl | exact Or.inr rfl)) pgs_nil))) (pgs_cons (pg_name (i := 6) sc.nd rfl (by first | exact Or.inl rfl | exact Or.inr rfl)) pgs_nil)))
        (pss_cons (ps_set (i := 7) sc.nd rfl (by first | exact Or.inl rfl | exact Or.inr rfl) (pe_cl C_p_slope hr (by rfl) (pa_cons (pe_cl C_p_slope hr (by rfl) (pa_cons (pv 6) pa_nil)) pa_nil)))
        (pss_cons (ps_set (i := 8) sc.nd rfl (by first | exact Or.inl rfl | exact Or.inr rfl) (pe_cl C_p_sum hr (by rfl) (pa_cons (pe_cl C_p_times hr (by rfl) (pa_cons (pv 7) (pa_cons (pv 7) pa_nil))) pa_nil)))
        (pss_one (ps_expr (pe_bm PySem.F.plainAttrs_list PySem.F.slot_list_append PySem.F.type_list_append mt_append (pv 3) (pa_cons (pe_cl C_less hr (by rfl) (pa_cons (pe_cl C_at hr (by rfl) (pa_cons (pv 8) (pa_cons (pv 5) pa_nil))) (pa_cons (pe_cl C_at hr (by rfl) (pa_cons (pv 8) (pa_cons (pv 4) pa_nil))) pa_nil))) pa_nil)))))))
      (pss_one (ps_ret (pe_cl C_total hr (by rfl) (pa_cons (pv 3) pa_nil)))))))), ?_⟩
    have l1 := hq.1
    have one := G.one
    have few := G.few
    have Bh := B.half d0
    have em := B.em
    refine Evl.q_when (b := false) ?_ (fun h => nomatch h) fun _ H1 e1 => ?_
    · refine Evl.et_or (a := false) (b := false) (Evl.et_not (a := true) (Evl.et_B (ev_isi (Evl.ev_var rfl) (fun _ e => ty_tup (tx_t (.of e) hp)) (kit_ty (by decide +kernel))))) fun _ => ?_
      refine Evl.et_not (a := true) (Evl.et_test (Evl.ev_is (ev_chain Evl.ev_c (ev_lenT (Evl.ev_var rfl) hp) Evl.ev_c) ?_))
      show V.bl (decide ((1 : Int) ≤ (us.length : Int)) && decide ((us.length : Int) ≤ 8)) = V.bl true
      rw [decide_eq_true (by omega), decide_eq_true (by omega)]
      rfl
    · refine ⟨_, rfl, p, us, rfl, tx_t (.of e1) hp, ?_⟩
      refine for_it (walk_enumT (xs := us)) (fun i σ H' => ∃ y1 y2, σ = [some (.ref p), y1, y2, none, none, none, none, none, none] ∧ Ex H H') ⟨none, none, rfl, e1⟩ (fun i σ H' _ h => ?_) (fun i u σ H' H2 hi h hy => ?_) fun σ H' h => ?_
      · obtain ⟨_, _, _, h⟩ := h
        exact tx_t (.of h) hp
      · obtain ⟨T1, x1, x2, rfl, nT, rfl, f1, f2⟩ := hy
        cases f1
        obtain ⟨y1, y2, rfl, e2⟩ := h
        have eT : Ex H' (upd H' T1 (.tup [.int (i : Nat), x2])) := Ex.new nT
        refine ⟨T1, _, rfl, .inl (.inl upd_same), rfl, _, _, rfl, _, _, rfl, rfl, ?_⟩
        have rx := ((hq.ex e2).2 i x2 f2).ex eT
        have hi2 : i < ps.length := by omega
        have gx := G.gx i hi2
        refine Evl.s_when (b := false) (Evl.et_or (a := false) (b := false) (Evl.et_not (a := true) (evr_B (evr_call (ear_cons (R := fun v H' => PC1 K H' v (ps.getD i pc0)) (evr_ev (Evl.ev_var rfl) fun H3 e3 => rx.ex e3) (fun _ _ _ e h => h.ex e) (ear_cons (evr_is Evl.ev_c) mn_eq ear_nil)) fun vs H3 e3 hv Q k => ?_))) fun _ => ?_) (fun h => nomatch h) fun _ H3 e3 => ⟨_, _, rfl, (e2.trans eT).trans e3⟩
        · obtain ⟨v, r, rfl, hr1, v2, r2, rfl, rfl, rfl⟩ := hv
          exact ⟨v, _, rfl, hr1, sm1 gx.1 (by decide), sm1 gx.2 (by decide), G.up i hi2, Nat.le_trans (G.len i hi2) (by decide), G.last i hi2, k⟩
        · by_cases h0 : 0 < i
          · obtain ⟨a1, iv1, pv1, ea1, ha1, hI1, _⟩ := rx
            have hus : us[i - 1]? = some us[i - 1] := List.getElem?_eq_getElem (by omega)
            obtain ⟨a2, iv2, pv2, ea2, ha2, hI2, _⟩ := ((hq.ex e2).2 (i - 1) _ hus).ex eT
            obtain ⟨b1, ub1, rfl, hb1, hq1⟩ := hI1
            obtain ⟨b2, ub2, rfl, hb2, hq2⟩ := hI2
            subst ea1
            have t1 : SqT K (upd H' T1 (.tup [.int (i : Nat), .ref a1])) p us := tx_t (.of (e2.trans eT)) hp
            refine Evl.et_is (Evl.et_and (a := true) (b := false) (Evl.et_test (Evl.ev_is (Evl.ev_op (Evl.ev_var rfl) Evl.ev_c Evl.rv_I0) ?_)) fun _ => Evl.et_test (Evl.ev_is (ev_neQ (a := (ps.getD i pc0).1) (b := (ps.getD (i - 1) pc0).2.1) (evq_ixT (i := 0) (n := 0) (Evl.ev_op (Evl.ev_var rfl) Evl.ev_c (Evl.rv_ixT ha1 rfl)) Evl.ev_c hb1 hq1 rfl (by simp)) (evq_ixT (i := 0) (n := 1) (Evl.ev_op (Evl.ev_op (Evl.ev_var rfl) (Evl.ev_op (Evl.ev_var rfl) Evl.ev_c Evl.rv_I0) (Evl.rv_ixT (v := .ref a2) t1 (at_of (show (i : Int) - 1 = ((i - 1 : Nat) : Int) by omega) (by rw [hus, ea2])))) Evl.ev_c (Evl.rv_ixT ha2 rfl)) Evl.ev_c hb2 hq2 rfl (by simp))) ?_)) rfl
            · show V.bl (decide ((0 : Int) < (i : Int))) = V.bl true
              rw [decide_eq_true (by omega)]
            · rw [decide_eq_true (G.join i h0 hi2)]
              rfl
          · refine Evl.et_and (a := false) (b := false) (Evl.et_test (Evl.ev_is (Evl.ev_op (Evl.ev_var rfl) Evl.ev_c Evl.rv_I0) ?_)) fun h => nomatch h
            show V.bl (decide ((0 : Int) < (i : Int))) = V.bl false
            rw [decide_eq_false (by omega)]
      · obtain ⟨y1, y2, rfl, e2⟩ := h
        show tSeq (tAsg (tLst tNil) (gName 3)) _ _ _ _
        refine q_set (R := fun v H'' => ∃ l, v = .ref l ∧ H' l = none ∧ H'' l = some (.lst [])) (fun H3 e3 Q k => ⟨Nat.zero_le _, fun m hm => k _ _ (Ex.new hm) ⟨m, rfl, Evl.fresh_back e3 hm, upd_same⟩⟩) fun v3 H3 e3 r3 => ?_
        obtain ⟨lf, rfl, nf, hf⟩ := r3
        have nfH : H lf = none := Evl.fresh_back e2 nf
        refine ⟨_, rfl, p, rfl, ⟨us, tx_t (.of (e2.trans e3)) hp⟩, ?_⟩
        refine for_it (walk_tup (xs := us)) (fun i σ H' => ∃ wf y4 y5 y6 y7 y8, σ = [some (.ref p), y1, y2, some (.ref lf), y4, y5, y6, y7, y8] ∧ Ex H H' ∧ H' lf = some (.lst wf) ∧ RTs K H' wf ((List.range i).map (bendL ps))) ⟨[], none, none, none, none, none, rfl, e2.trans e3, hf, .nil⟩ (fun i σ H' _ h => ?_) (fun i u σ H4 H5 hi h hy => ?_) fun σ H4 h => ?_
        · obtain ⟨_, _, _, _, _, _, _, h, _⟩ := h
          exact tx_t (.of h) hp
        · obtain ⟨rfl, hu⟩ := hy
          obtain ⟨wf, y4, y5, y6, y7, y8, rfl, e4, hl, rl⟩ := h
          have hi2 : i < ps.length := by omega
          obtain ⟨a1, iv, pw, rfl, ha1, hI, hP⟩ := (hq.2 i u hu).ex e4
          obtain ⟨b1, ub, rfl, hb1, hqb⟩ := hI
          have gx := G.gx i hi2
          have gp := G.gp i hi2
          have len := G.len i hi2
          obtain ⟨v0, hv0, r0⟩ := hqb.get (i := 0) (by simp)
          obtain ⟨v1, hv1, r1⟩ := hqb.get (i := 1) (by simp)
          have eub : ub = [v0, v1] := by
            have lub : ub.length = 2 := hqb.1
            match ub, lub, hv0, hv1 with
            | [a, b], _, h0, h1 =>
              have q0 : a = v0 := by simpa using h0
              have q1 : b = v1 := by simpa using h1
              rw [q0, q1]
          subst eub
          refine ⟨a1, _, rfl, ha1, rfl, .ref b1, _, rfl, ?_⟩
          refine ⟨b1, _, rfl, hb1, rfl, v0, _, rfl, v1, _, rfl, rfl, ?_⟩
          refine ⟨pw, _, rfl, rfl, ?_⟩
          have bl := bent_len len
          have sl := sqr_len len
          refine q_set (evp_slope (d := d) (e := e + 1) (evp_slope (d := d) (e := e) (evp_var rfl hP) gp (by omega) ⟨Bh.pos, Bh.dm, by omega⟩) (pslope_gd d0 (by omega) gp) (by rw [pslope_len]; omega) ⟨Bh.pos, Bh.dm, by omega⟩) fun v7 H6 e6 r7 => ?_
          refine q_set (evp_sum (d := d * d) (e := 2 * e + 6) (evp_times (d := d) (e := e + 2) (d' := d) (e' := e + 2) (evp_var rfl r7) (evp_var rfl r7) (bent_gd d0 len gp) (bent_gd d0 len gp) d0 d0 (by show (bent _).length ≤ 100; omega) (by show (bent _).length ≤ 100; omega) ⟨B.pos, B.dm, by show e + 2 + (e + 2) + (bent _).length + 1 ≤ _; omega⟩) (sqr_gd d0 len gp) (by show (sqr _).length ≤ 6; omega) ⟨B.pos, B.dm, by omega⟩) fun v8 H7 e7 r8 => ?_
          have hl7 := (e6.trans e7) lf _ hl
          have wl := whole_len len
          have wg := whole_gd d0 len gp
          have lw : wf.length ≤ 1000 := by
            rw [rl.1]
            simp
            omega
          have pg1 := pat_gd B.pos wg gx.1
          have pg2 := pat_gd B.pos wg gx.2
          refine s_appR hl7 (Evl.ev_var rfl) (evq_less (evq_at (d := d * d) (e := 2 * e + 7) (evp_var rfl r8) (evq_var rfl ((r1.ex e6).ex e7)) gx.2 wg ⟨B.pos, B.dm, by show 2 * e + 7 + 2 * (psum (sqr _)).length + 1 ≤ _; omega⟩) (evq_at (d := d * d) (e := 2 * e + 7) (evp_var rfl r8) (evq_var rfl ((r0.ex e6).ex e7)) gx.1 wg ⟨B.pos, B.dm, by show 2 * e + 7 + 2 * (psum (sqr _)).length + 1 ≤ _; omega⟩) (B.sm pg2 (by omega)) (B.sm pg1 (by omega))) lw fun v9 H8 e8 r9 => ?_
          have h8 := e8 lf _ hl7
          refine ⟨wf ++ [v9], _, _, _, _, _, rfl, (((e4.trans e6).trans e7).trans e8).mut nfH, upd_same, ?_⟩
          rw [List.range_succ, List.map_append]
          exact ((rl.ex ((e6.trans e7).trans e8)).tx (.set h8)).snoc (RT.tx (K := K) r9 (.set h8))
        · obtain ⟨wf, y4, y5, y6, y7, y8, rfl, e4, hl, rl⟩ := h
          refine s_ret (evr_call (ear_cons (evr_is (Evl.ev_var rfl)) mn_eq ear_nil) fun vs H5 e5 hv Q k => ?_) fun v5 H5 e5 r5 => q v5 H5 (e4.trans e5) r5
          obtain ⟨v, r, rfl, rfl, rfl⟩ := hv
          rw [l1] at rl
          refine ⟨lf, wf, _, d * d, 2 * e + 16, rfl, .inl (.inl (e5 lf _ hl)), rl.ex e5, fun q hq => ?_, ⟨B.pos, B.dm, by simp; omega⟩, ?_⟩
          · obtain ⟨i, hi, rfl⟩ := List.mem_map.mp hq
            have hi2 : i < ps.length := List.mem_range.mp hi
            exact bendP_gd d0 (G.len i hi2) (G.gp i hi2) (G.gx i hi2).1 (G.gx i hi2).2
          · have et : totN (fun i => ((List.range ps.length).map (bendL ps)).getD i 0) ((List.range ps.length).map (bendL ps)).length = totN (bendL ps) ps.length := by
              rw [List.length_map, List.length_range]
              exact totN_ext _ fun i hi => map_range_getD hi
            rw [et]
            exact k
end
end BW
/-! BwH: equations: cleared, solved. -/
namespace BW
open PySem PySem.Spec PyProof.Rows L2 BC
open Evl (Ex)
open StX (tStar pa_star)

/-! ### rows of a list of rows -/
/-- all but what stands at L -/
def Fx (L : Addr) (H H' : Hp) : Prop := ∀ a o, a ≠ L → H a = some o → H' a = some o
theorem Fx.ex {L : Addr} {H H' : Hp} (e : Ex H H') : Fx L H H' := fun a o _ h => e a o h
theorem Fx.trans {L : Addr} {H H1 H2 : Hp} (a : Fx L H H1) (b : Fx L H1 H2) : Fx L H H2 := fun x o n h => b x o n (a x o n h)
theorem Fx.set {L : Addr} {H : Hp} {o : HO} : Fx L H (upd H L o) := fun a u n h => by
  rw [upd_ne n]
  exact h
theorem Fx.tx {L : Addr} {H H' : Hp} {xs : List V} (f : Fx L H H') (h : H L = some (.lst xs)) : Tx H H' := fun a o ha n => by
  refine f a o (fun z => ?_) ha
  rw [z, h] at ha
  exact n xs (Option.some.inj ha).symm
/-- from a heap in which L did not stand -/
theorem Fx.old {L : Addr} {H0 H H' : Hp} (f : Fx L H H') (e : Ex H0 H) (h : H0 L = none) : Ex H0 H' := fun a o ha => f a o (ne_of_none ha h) (e a o ha)
def RowX (K : PySem.W.Frag) (H : Hp) (L : Addr) (v : V) (n : Nat) (f : Nat → Rat) : Prop := ∃ p ws, v = .ref p ∧ p ≠ L ∧ H p = some (.lst ws) ∧ RTs K H ws ((List.range n).map f)
theorem RowX.fx {K : PySem.W.Frag} {H H' : Hp} {L : Addr} {v : V} {n : Nat} {f : Nat → Rat} {xs : List V} (h : RowX K H L v n f) (x : Fx L H H') (hl : H L = some (.lst xs)) : RowX K H' L v n f := by
  obtain ⟨p, ws, rfl, hne, hp, hr⟩ := h
  exact ⟨p, ws, rfl, hne, x p _ hne hp, hr.tx (x.tx hl)⟩
theorem RowX.to {K : PySem.W.Frag} {H : Hp} {L : Addr} {v : V} {n : Nat} {f g : Nat → Rat} (h : RowX K H L v n f) (e : ∀ j, j < n → f j = g j) : RowX K H L v n g := by
  obtain ⟨p, ws, rfl, hne, hp, hr⟩ := h
  have ee : (List.range n).map f = (List.range n).map g := List.map_congr_left fun j hj => e j (List.mem_range.mp hj)
  rw [ee] at hr
  exact ⟨p, ws, rfl, hne, hp, hr⟩
def MatX (K : PySem.W.Frag) (H : Hp) (L : Addr) (vs : List V) (m n : Nat) (A : Nat → Nat → Rat) : Prop := vs.length = m ∧ ∀ i v, vs[i]? = some v → RowX K H L v n (A i)
theorem MatX.fx {K : PySem.W.Frag} {H H' : Hp} {L : Addr} {vs : List V} {m n : Nat} {A : Nat → Nat → Rat} {xs : List V} (h : MatX K H L vs m n A) (x : Fx L H H') (hl : H L = some (.lst xs)) : MatX K H' L vs m n A := ⟨h.1, fun i v hv => (h.2 i v hv).fx x hl⟩
theorem MatX.to {K : PySem.W.Frag} {H : Hp} {L : Addr} {vs : List V} {m n : Nat} {A B : Nat → Nat → Rat} (h : MatX K H L vs m n A) (e : ∀ i j, i < m → j < n → A i j = B i j) : MatX K H L vs m n B := ⟨h.1, fun i v hv => (h.2 i v hv).to fun j hj => e i j (by
  have := (List.getElem?_eq_some_iff.mp hv).1
  rw [h.1] at this
  exact this) hj⟩
theorem MatX.get {K : PySem.W.Frag} {H : Hp} {L : Addr} {vs : List V} {m n : Nat} {A : Nat → Nat → Rat} (h : MatX K H L vs m n A) {i : Nat} (hi : i < m) : ∃ v, vs[i]? = some v ∧ RowX K H L v n (A i) := by
  have hv : i < vs.length := by
    rw [h.1]
    exact hi
  exact ⟨vs[i], List.getElem?_eq_getElem hv, h.2 i _ (List.getElem?_eq_getElem hv)⟩
section
variable {K : PySem.W.Frag} {σ : L2.St} {H : Hp} {ta tb tc : TE}
/-- l[i] as a ratio -/
theorem evq_ixL {p : Addr} {vs : List V} {qs : List Rat} {j : Int} {n : Nat} (ha : Evl.Ev ta σ H (.ref p)) (hb : Evl.Ev tb σ H (.int j)) (hp : H p = some (.lst vs)) (hq : RTs K H vs qs) (hj : j = (n : Int)) (hn : n < qs.length) : EvQ K (tOp (rIxL K) ta tb) σ H (qs.getD n 0) := by
  obtain ⟨v, hv, rv⟩ := hq.get hn
  exact evq_ev (Evl.ev_op ha hb (Evl.rv_ixL (v := v) (.inl (.inl hp)) (at_of hj hv))) rv
/-- rows[i] -/
theorem ev_row {L : Addr} {vs : List V} {i : Nat} {v : V} (ha : Evl.Ev ta σ H (.ref L)) (hb : Evl.Ev tb σ H (.int (i : Int))) (hl : H L = some (.lst vs)) (hv : vs[i]? = some v) : Evl.Ev (tOp (rIxL K) ta tb) σ H v := Evl.ev_op ha hb (Evl.rv_ixL (.inl (.inl hl)) (atI_nat hv))
/-- rows[i][j] -/
theorem evq_mat {L : Addr} {vs : List V} {m n : Nat} {A : Nat → Nat → Rat} {i j : Nat} {k : Int} {q : Rat} (ha : Evl.Ev ta σ H (.ref L)) (hb : Evl.Ev tb σ H (.int (i : Int))) (hc : Evl.Ev tc σ H (.int k)) (hl : H L = some (.lst vs)) (M : MatX K H L vs m n A) (hi : i < m) (hk : k = (j : Int)) (hj : j < n) (e : A i j = q) : EvQ K (tOp (rIxL K) (tOp (rIxL K) ta tb) tc) σ H q := by
  subst e
  obtain ⟨v, hv, p, ws, rfl, hne, hp, hr⟩ := M.get hi
  have hh := evq_ixL (K := K) (ta := tOp (rIxL K) ta tb) (ev_row (K := K) ha hb hl hv) hc hp hr hk (by simpa using hj)
  rw [map_range_getD hj] at hh
  exact hh
end
section
variable {P : Program} {w : World} {K : PySem.W.Frag} {mg : Str → Option Value} {base : Heap} {f z o : Addr} {fd : FuncData} {t6 t7 t8 t12 : Tok}

/-! ### cleared -/
structure Step (n m k : Nat) (A B : Nat → Nat → Rat) : Prop where
  kn : k < n
  km : k < m
  n1 : n ≤ 100
  m1 : m ≤ 100
  piv : 0 < A k k
  up : ∀ i j, i ≤ k → j < m → B i j = A i j
  go : ∀ i j, k < i → i < n → j < m → A i k ≠ 0 → B i j = A i j - A i k / A k k * A k j
  no : ∀ i j, k < i → i < n → j < m → A i k = 0 → B i j = A i j
  sm : ∀ i j, i < n → j < m → Sm (A i j)
  smp : ∀ i, k < i → i < n → Sm (A i k / A k k)
  smq : ∀ i j, k < i → i < n → j < m → Sm (A i k / A k k * A k j)
def spCleared (K : PySem.W.Frag) : Sp := fun vs H Q _ => ∃ (L : Addr) (k n m : Nat) (us : List V) (A B : Nat → Nat → Rat), vs = [.ref L, .int (k : Int), .int (k : Int)] ∧ H L = some (.lst us) ∧ MatX K H L us n m A ∧ Step n m k A B ∧
  ∀ H' us', Fx L H H' → H' L = some (.lst us') → MatX K H' L us' n m B → Q .non H'
theorem sc_cleared : FnScope ["rows", "at", "first", "place", "part", "x", "y"] ["rows", "at", "first"] (defScope (topS 39)) := ⟨rfl, rfl, rfl, by decide +kernel, rfl, by decide +kernel, by decide +kernel⟩
theorem ok_cleared (F : Fun K "cleared" "cleared" (topS 39) f fd) (T : Top K mg z o t6 t7 t8 t12) (C_over : Cl P w K mg base "over" 2 ["one", "other"] (spOver K)) (C_less : Cl P w K mg base "less" 2 ["one", "other"] (spLess K)) (C_times : Cl P w K mg base "times" 2 ["one", "other"] (spTimes K)) : FnOk P w K mg base CX0 3 f fd ["rows", "at", "first"] (spCleared K) := by
  have sc := sc_cleared
  refine F.ok sc (fun vs H Q E h => ?_) (fun cdv A0 outer s H vs Q E hr h => ?_)
  · obtain ⟨_, _, _, _, _, _, _, rfl, _⟩ := h
    rfl
  · obtain ⟨L, k, n, m, us, A, B, rfl, hL, M, S, q⟩ := h
    refine ⟨_, (pss_one (ps_for PassesOwn.never rfl (pi_range2 (by rfl) T.range (pa_cons (pe_op op_add (pv 2) pe_int) (pa_cons (pe_callB call_len_seq (by rfl) T.len (by decide +kernel) (pa_cons (pv 0) pa_nil)) pa_nil))) (pg_name (i := 3) sc.nd rfl (by first | exact Or.inl rfl | exact Or.inr rfl))
      (pss_one (ps_if (pt_cmpR (by exact op_neD hr.units) (pe_ix ix_list (pe_ix ix_list (pv 0) (pv 3) (fun _ _ => rfl)) (pv 1) (fun _ _ => rfl)) (pe_glob (v := .ref z) (by rfl) T.zero rfl) (nomark _))
        (pss_cons (ps_set (i := 4) sc.nd rfl (by first | exact Or.inl rfl | exact Or.inr rfl) (pe_cl C_over hr (by rfl) (pa_cons (pe_ix ix_list (pe_ix ix_list (pv 0) (pv 3) (fun _ _ => rfl)) (pv 1) (fun _ _ => rfl)) (pa_cons (pe_ix ix_list (pe_ix ix_list (pv 0) (pv 2) (fun _ _ => rfl)) (pv 1) (fun _ _ => rfl)) pa_nil))))
        (pss_one (ps_asg (pe_lc (own := [("x", 5), ("y", 6)]) (g := gTup K 2 (gCons (gName 5) (gCons (gName 6) gNil))) (tt := tYes) rfl sc.nd (RZ.pi_zipA (by rfl) T.zip (pa_cons (pe_ix ix_list (pv 0) (pv 3) (fun _ _ => rfl)) (pa_cons (pe_ix ix_list (pv 0) (pv 2) (fun _ _ => rfl)) pa_nil))) (blkOk_by (own := [("x", 5), ("y", 6)]) (N := ["rows", "at", "first", "place", "part", "x", "y"]) (sc := (defScope (topS 39))) (by decide +kernel)) (fun _ _ _ _ _ => (pg_tup rfl (pgs_cons (pg_name (i := 5) sc.nd rfl (Or.inl rfl)) (pgs_cons (pg_name (i := 6) sc.nd rfl (Or.inl rfl)) pgs_nil)))) (fun _ _ _ _ _ => pts_nil) (fun _ _ _ _ _ => (pe_cl C_less hr (by rfl) (pa_cons (pv 5) (pa_cons (pe_cl C_times hr (by rfl) (pa_cons (pv 4) (pa_cons (pv 6) pa_nil))) pa_nil))))) (pg_sub (pv 0) (pv 3) set_list)))) pss_nil)))), ?_⟩
    have l1 := M.1
    have kn := S.kn
    have km := S.km
    have n1 := S.n1
    have m1 := S.m1
    -- rows ahead of place k + 1 + t are done
    refine Evl.s_forR2 (lo := (k : Int) + 1) (n := (us.length : Int)) (Evl.ea_cons (Evl.ev_op (Evl.ev_var rfl) Evl.ev_c Evl.rv_I0) (Evl.ea_cons (ev_lenL (Evl.ev_var rfl) (.inl (.inl hL))) Evl.ea_nil)) (by omega)
      (fun t σ H' => ∃ us1 y3 y4 y5 y6, σ = [some (.ref L), some (.int (k : Int)), some (.int (k : Int)), y3, y4, y5, y6] ∧ Fx L H H' ∧ H' L = some (.lst us1) ∧ MatX K H' L us1 n m (fun i j => if i < k + 1 + t then B i j else A i j))
      (fun H1 e1 => ⟨us, none, none, none, none, rfl, .ex e1, e1 L _ hL, (M.fx (.ex e1) hL).to fun i j hi hj => ?_⟩) (fun t σ H1 ht h => ?_) fun σ H1 h => ?_
    · by_cases h : i < k + 1 + 0
      · rw [if_pos h, S.up i j (by omega) hj]
      · rw [if_neg h]
    · obtain ⟨us1, y3, y4, y5, y6, rfl, e1, hL1, M1⟩ := h
      have hi : k + 1 + t < n := by omega
      have hp3 : (k : Int) + 1 + (t : Int) = ((k + 1 + t : Nat) : Int) := by omega
      rw [hp3]
      generalize hpl : k + 1 + t = i at *
      have hki : k < i := by omega
      have ik : ∀ {H2 : Hp} {y4 y5 y6 : Option V}, Ex H1 H2 → EvQ K (tOp (rIxL K) (tOp (rIxL K) (tVar 0) (tVar 3)) (tVar 1)) [some (.ref L), some (.int (k : Int)), some (.int (k : Int)), some (.int (i : Int)), y4, y5, y6] H2 (A i k) := fun e2 =>
        evq_mat (Evl.ev_var rfl) (Evl.ev_var rfl) (Evl.ev_var rfl) (e2 L _ hL1) (M1.fx (.ex e2) hL1) (by omega) rfl km (if_neg (Nat.lt_irrefl _))
      have kk : ∀ {H2 : Hp} {y4 y5 y6 : Option V}, Ex H1 H2 → EvQ K (tOp (rIxL K) (tOp (rIxL K) (tVar 0) (tVar 2)) (tVar 1)) [some (.ref L), some (.int (k : Int)), some (.int (k : Int)), some (.int (i : Int)), y4, y5, y6] H2 (A k k) := fun e2 =>
        evq_mat (Evl.ev_var rfl) (Evl.ev_var rfl) (Evl.ev_var rfl) (e2 L _ hL1) (M1.fx (.ex e2) hL1) kn rfl km ((if_pos hki).trans (S.up k k (Nat.le_refl _) km))
      refine Evl.s_if (b := !decide (A i k = 0)) (Evl.et_test (ev_neQ (ik (Ex.refl H1)) (evq_c (T.rz H1)))) (fun hb H2 e2 => ?_) fun hb H2 e2 => ?_
      · have hne : A i k ≠ 0 := by simpa using hb
        refine q_set (evq_over (ik e2) (kk e2) (S.sm i k (by omega) km) (S.sm k k kn km) S.piv) fun v4 H3 e3 r4 => ?_
        have e13 := e2.trans e3
        have hL3 := e13 L _ hL1
        have M3 := M1.fx (.ex e13) hL1
        obtain ⟨vi, hvi, p1, w1, rfl, ne1, hp1, hr1⟩ := M3.get (i := i) (by omega)
        obtain ⟨vk, hvk, p2, w2, rfl, ne2, hp2, hr2⟩ := M3.get (i := k) kn
        have lw1 : w1.length = m := by rw [hr1.1]; simp
        have lw2 : w2.length = m := by rw [hr2.1]; simp
        refine el_zipL (f := fun j => A i j - A i k / A k k * A k j) (ev_row (Evl.ev_var rfl) (Evl.ev_var rfl) hL3 hvi) (ev_row (Evl.ev_var rfl) (Evl.ev_var rfl) hL3 hvk) (.inl (.inl hp1)) (.inl (.inl hp2)) (by rw [lw1, lw2]) (by omega) (fun _ _ => rfl) (fun j x y H4 e4 hx hy => ?_) H3 (Ex.refl H3) _ fun v5 H4 e4 r5 => ?_
        · have hj : j < m := by
            have := (List.getElem?_eq_some_iff.mp hx).1
            omega
          have rx := (hr1.2 j x hx).ex e4
          have ry := (hr2.2 j y hy).ex e4
          rw [map_range_getD hj] at rx ry
          rw [if_neg (by omega)] at rx
          rw [if_pos (by omega), S.up k j (Nat.le_refl _) hj] at ry
          exact evq_less (evq_var rfl rx) (evq_times (evq_var rfl (r4.ex e4)) (evq_var rfl ry) (S.smp i hki (by omega)) (S.sm k j kn hj)) (S.sm i j (by omega) hj) (S.smq i j hki (by omega) hj)
        · obtain ⟨p, ws, rfl, np, hp, hr⟩ := r5
          have hL4 := e4 L _ hL3
          have npL : p ≠ L := fun z => by
            rw [z, hL3] at np
            cases np
          have M4 := M3.fx (.ex e4) hL3
          have li : i < us1.length := by
            rw [M1.1]
            omega
          refine ⟨_, rfl, _, rfl, L, us1, (i : Int), i, rfl, rfl, hL4, ?_, ?_⟩
          · unfold ixN
            rw [if_pos (by omega), if_pos (by omega), Int.toNat_natCast]
          · have M5 := M4.fx (Fx.set (o := .lst (us1.set i (.ref p)))) hL4
            refine ⟨us1.set i (.ref p), _, _, _, _, rfl, ((e1.trans (.ex e13)).trans (.ex e4)).trans Fx.set, upd_same, by rw [List.length_set]; exact M1.1, fun i2 v hv => ?_⟩
            rw [List.getElem?_set] at hv
            by_cases ei : i = i2
            · rw [if_pos ei, if_pos li] at hv
              have ev : V.ref p = v := Option.some.inj hv
              subst ev
              refine ⟨p, ws, rfl, npL, by rw [upd_ne npL]; exact hp, ?_⟩
              have hr' := hr.tx (Tx.set (ys := us1.set i (.ref p)) hL4)
              rw [lw1] at hr'
              have ee : (List.range m).map (fun j => A i j - A i k / A k k * A k j) = (List.range m).map (fun j => if i2 < k + 1 + (t + 1) then B i2 j else A i2 j) := List.map_congr_left fun j hj => by
                have hj2 := List.mem_range.mp hj
                rw [if_pos (by omega), ← ei, S.go i j hki (by omega) hj2 hne]
              rw [ee] at hr'
              exact hr'
            · rw [if_neg ei] at hv
              refine (M5.2 i2 v hv).to fun j hj => ?_
              show (if i2 < i then B i2 j else A i2 j) = if i2 < k + 1 + (t + 1) then B i2 j else A i2 j
              by_cases h1 : i2 < i
              · rw [if_pos h1, if_pos (by omega)]
              · rw [if_neg h1, if_neg (by omega)]
      · have heq : A i k = 0 := by simpa using hb
        refine ⟨us1, _, _, _, _, rfl, e1.trans (.ex e2), e2 L _ hL1, (M1.fx (.ex e2) hL1).to fun i2 j hi2 hj => ?_⟩
        by_cases h1 : i2 < i
        · rw [if_pos h1, if_pos (by omega)]
        · rw [if_neg h1]
          by_cases h2 : i2 = i
          · rw [if_pos (by omega), h2, S.no i j hki (by omega) hj heq]
          · rw [if_neg (by omega)]
    · obtain ⟨us1, y3, y4, y5, y6, rfl, e1, hL1, M1⟩ := h
      refine q H1 us1 e1 hL1 (M1.to fun i j hi hj => if_pos ?_)
      omega
end
end BW
/-! BwI: solved. -/
namespace BW
open PySem PySem.Spec PyProof.Rows L2 BC
open Evl (Ex)
open StX (tStar pa_star)
/-- [v i for i in range(lo, hi) if f i] -/
theorem el_rangeF {K : PySem.W.Frag} {σ : L2.St} {H : Hp} {ta tb te : TE} {tt : TT} {j : Nat} {lo hi : Int} {n : Nat} (f : Nat → Bool) (v : Nat → V) (ha : Evl.Ev ta σ H (.int lo)) (hb : Evl.Ev tb σ H (.int hi)) (h1 : -1000 ≤ lo ∧ lo ≤ 1000 ∧ -1000 ≤ hi ∧ hi ≤ 1000) (h2 : (hi - lo).toNat = n)
    (hw : ∀ x, wipe ((wipe σ [j]).set j (some x)) [j] = wipe σ [j])
    (ht : ∀ (i : Nat) H', Ex H H' → i < n → Evl.EvT tt ((wipe σ [j]).set j (some (.int (lo + i)))) H' (f i)) (he : ∀ (i : Nat) H', Ex H H' → i < n → Evl.Ev te ((wipe σ [j]).set j (some (.int (lo + i)))) H' (v i)) :
    EvR (tLc (iRng2 (tCons ta (tCons tb tNil))) (gName j) tt te [j]) σ H fun w H' => ∃ p, w = .ref p ∧ H p = none ∧ H' p = some (.lst (Evl.given n f v)) := fun H0 e0 Q q => by
  refine ha H0 e0 _ fun H1 e1 => hb H1 (e0.trans e1) _ fun H2 e2 => ⟨lo, hi, rfl, by omega, fun D hD => ?_⟩
  rw [h2]
  have hn : n ≤ 2000 := by omega
  have e02 := (e0.trans e1).trans e2
  refine lc_range (lo := lo) (n := n) (Evl.Cw H2 f v D) ⟨hD, Ex.new hD, upd_same⟩ (fun i H' hi p => ⟨hw _, Evl.cw_turn p (by omega) (ht i H2 e02 hi) (fun _ => he i H2 e02 hi)⟩) (fun H' p => q _ _ ((e1.trans e2).trans p.2.1) ⟨D, rfl, Evl.fresh_back e02 p.1, p.2.2⟩)
theorem given_head {n : Nat} {f : Nat → Bool} {v : Nat → V} (hn : 0 < n) (h : f 0 = true) : ∃ r, Evl.given n f v = v 0 :: r := by
  obtain ⟨m, rfl⟩ : ∃ m, n = m + 1 := ⟨n - 1, by omega⟩
  unfold Evl.given
  rw [List.range_succ_eq_map, List.filter_cons, if_pos h]
  exact ⟨_, rfl⟩
/-- what the solving reads -/
structure Sol (n : Nat) (A : Nat → Nat → Nat → Rat) (X : Nat → Rat) (Lf : Nat → Nat → Rat) : Prop where
  n0 : 0 < n
  n1 : n ≤ 50
  step : ∀ k, k < n → Step n (n + 1) k (A k) (A (k + 1))
  pos : ∀ i, i < n → 0 < A n i i
  l0 : ∀ i, i < n → Lf i 0 = A n i n
  ls : ∀ i m, i < n → m < n - 1 - i → Lf i (m + 1) = Lf i m - A n i (n - 1 - m) * X (n - 1 - m)
  xe : ∀ i, i < n → X i = Lf i (n - 1 - i) / A n i i
  smA : ∀ i j, i < n → j < n + 1 → Sm (A n i j)
  smL : ∀ i m, i < n → m ≤ n - 1 - i → Sm (Lf i m)
  smX : ∀ i, i < n → Sm (X i)
  smQ : ∀ i m, i < n → m < n - 1 - i → Sm (A n i (n - 1 - m) * X (n - 1 - m))
theorem set_same {α : Type} {l : List α} {k : Nat} {v : α} (h : l[k]? = some v) : l.set k v = l := by
  apply List.ext_getElem?
  intro i
  rw [List.getElem?_set]
  by_cases e : k = i
  · subst e
    have := (List.getElem?_eq_some_iff.mp h).1
    rw [if_pos rfl, if_pos this, h]
  · rw [if_neg e]
theorem dp_ints {K : PySem.W.Frag} {H : Hp} : ∀ ns : List Int, DpAll K H (ns.map V.int) (ns.map PyData.int)
  | [] => .nil
  | n :: ns => .cons (.int n) (dp_ints ns)
theorem shaped_ints (ns : List Int) : SeqAt.shaped (.list (ns.map PyData.int)) = true := by
  have h1 : PyData.canLayAll0 (ns.map PyData.int) = true := layAll_map (fun a => by simp [PyData.canLay0]) ns
  have h2 : PyData.depthAll (ns.map PyData.int) ≤ 0 := depthAll_map (fun a => by simp [PyData.depth]) ns
  have h3 : PyData.depth (.list (ns.map PyData.int)) ≤ 64 := by
    simp only [PyData.depth]
    omega
  show (PyData.canLay0 (.list (ns.map PyData.int)) && decide (PyData.depth (.list (ns.map PyData.int)) ≤ 64)) = true
  rw [Bool.and_eq_true]
  exact ⟨by simp only [PyData.canLay0]; exact h1, decide_eq_true h3⟩
theorem ixn {n k : Nat} (h : k < n) : ixN n (k : Int) = some k := by
  unfold ixN
  rw [if_pos (by omega), if_pos (by omega), Int.toNat_natCast]
/-- l[-1] of a list of ratios -/
theorem evq_lastL {K : PySem.W.Frag} {σ : L2.St} {H : Hp} {ta : TE} {p : Addr} {vs : List V} {qs : List Rat} {n : Nat} (ha : Evl.Ev ta σ H (.ref p)) (hp : H p = some (.lst vs)) (hq : RTs K H vs qs) (hn : qs.length = n + 1) : EvQ K (tOp (rIxL K) ta (tUn (rU fun i => .int (-i)) (tC (.int 1)))) σ H (qs.getD n 0) := by
  obtain ⟨v, hv, rv⟩ := hq.get (i := n) (by omega)
  refine evq_ev (Evl.ev_op ha (Evl.ev_un Evl.ev_c Evl.ru_neg) (Evl.rv_ixL (v := v) (.inl (.inl hp)) ?_)) rv
  show (ixN vs.length (-1)).bind (fun j => vs[j]?) = some v
  have l1 := hq.1
  have e : ixN vs.length (-1) = some n := by
    unfold ixN
    rw [if_neg (by omega), if_pos (by omega)]
    congr 1
    omega
  rw [e]
  exact hv
section
variable {P : Program} {w : World} {K : PySem.W.Frag} {mg : Str → Option Value} {base : Heap} {f z o : Addr} {fd : FuncData} {t6 t7 t8 t12 : Tok}
/-- a list of lists of ratios, as given -/
def Mat0 (K : PySem.W.Frag) (H : Hp) (vs : List V) (m n : Nat) (A : Nat → Nat → Rat) : Prop := vs.length = m ∧ ∀ i v, vs[i]? = some v → ∃ p ws, v = .ref p ∧ H p = some (.lst ws) ∧ RTs K H ws ((List.range n).map (A i))
theorem Mat0.ex {H H' : Hp} {vs : List V} {m n : Nat} {A : Nat → Nat → Rat} (h : Mat0 K H vs m n A) (e : Ex H H') : Mat0 K H' vs m n A := ⟨h.1, fun i v hv => by
  obtain ⟨p, ws, rfl, h1, h2⟩ := h.2 i v hv
  exact ⟨p, ws, rfl, e p _ h1, h2.ex e⟩⟩
def spSolved (K : PySem.W.Frag) : Sp := fun vs H Q _ => ∃ (M R : Addr) (us ws : List V) (n : Nat) (A : Nat → Nat → Nat → Rat) (X : Nat → Rat) (Lf : Nat → Nat → Rat), vs = [.ref M, .ref R] ∧ H M = some (.lst us) ∧ Mat0 K H us n n (A 0) ∧ H R = some (.lst ws) ∧ RTs K H ws ((List.range n).map fun i => A 0 i n) ∧ Sol n A X Lf ∧
  Post H Q fun v H' => PT K H' v ((List.range n).map X)
theorem sc_solved : FnScope ["matrix", "right", "rows", "width", "at", "some", "found", "left", "place", "one", "row", "number"] ["matrix", "right"] (defScope (topS 40)) := ⟨rfl, rfl, rfl, by decide +kernel, rfl, by decide +kernel, by decide +kernel⟩
theorem ok_solved (F : Fun K "solved" "solved" (topS 40) f fd) (T : Top K mg z o t6 t7 t8 t12) (C_cleared : Cl P w K mg base "cleared" 3 ["rows", "at", "first"] (spCleared K)) (C_over : Cl P w K mg base "over" 3 ["one", "other"] (spOver K)) (C_less : Cl P w K mg base "less" 3 ["one", "other"] (spLess K)) (C_times : Cl P w K mg base "times" 3 ["one", "other"] (spTimes K)) : FnOk P w K mg base CX0 4 f fd ["matrix", "right"] (spSolved K) := by
  have sc := sc_solved
  refine F.ok sc (fun vs H Q E h => ?_) (fun cdv A0 outer s H vs Q E hr h => ?_)
  · obtain ⟨_, _, _, _, _, _, _, _, rfl, _⟩ := h
    rfl
  · obtain ⟨M, R, us, ws, n, A, X, Lf, rfl, hM, m0, hR, hRr, S, q⟩ := h
    refine ⟨_, (pss_cons (ps_asg (pe_tup (pa_cons (pe_lc (own := [("row", 10), ("number", 11)]) (g := gTup K 2 (gCons (gName 10) (gCons (gName 11) gNil))) (tt := tYes) (te := tLst (tStar K (tVar 10) (tCons (tVar 11) tNil))) rfl sc.nd (RZ.pi_zipA (by rfl) T.zip (pa_cons (pv 0) (pa_cons (pv 1) pa_nil))) (blkOk_by (own := [("row", 10), ("number", 11)]) (N := ["matrix", "right", "rows", "width", "at", "some", "found", "left", "place", "one", "row", "number"]) (sc := (defScope (topS 40))) (by decide +kernel)) (fun _ _ _ _ _ => (pg_tup rfl (pgs_cons (pg_name (i := 10) sc.nd rfl (Or.inl rfl)) (pgs_cons (pg_name (i := 11) sc.nd rfl (Or.inl rfl)) pgs_nil)))) (fun _ _ _ _ _ => pts_nil) (fun _ _ _ _ _ => (pe_lst (pa_star (pv 10) (pa_cons (pv 11) pa_nil))))) (pa_cons (pe_callB call_len_seq (by rfl) T.len (by decide +kernel) (pa_cons (pe_ix ix_list (pv 0) pe_int (fun _ _ => rfl)) pa_nil)) pa_nil))) (pg_tup rfl (pgs_cons (pg_name (i := 2) sc.nd rfl (by first | exact Or.inl rfl | exact Or.inr rfl)) (pgs_cons (pg_name (i := 3) sc.nd rfl (by first | exact Or.inl rfl | exact Or.inr rfl)) pgs_nil))))
      (pss_cons (ps_for PassesOwn.never rfl (pi_range1 (by rfl) T.range (pa_cons (pv 3) pa_nil)) (pg_name (i := 4) sc.nd rfl (by first | exact Or.inl rfl | exact Or.inr rfl))
        (pss_cons (ps_setLc (i := 5) (own := [("place", 8)]) (g := gName 8) (tt := tTest (tOp (rNeD K) (tOp (rIxL K) (tOp (rIxL K) (tVar 2) (tVar 8)) (tVar 4)) (tC (.ref z)))) (te := tVar 8) rfl sc.nd rfl rfl (sw_true rfl rfl rfl (by decide +kernel)) (pi_range2 (by rfl) T.range (pa_cons (pv 4) (pa_cons (pe_callB call_len_seq (by rfl) T.len (by decide +kernel) (pa_cons (pv 2) pa_nil)) pa_nil))) (blkOk_by (own := [("place", 8)]) (N := ["matrix", "right", "rows", "width", "at", "some", "found", "left", "place", "one", "row", "number"]) (sc := (defScope (topS 40))) (by decide +kernel)) (fun _ _ _ _ _ => (pg_name (i := 8) sc.nd rfl (Or.inl rfl))) (fun _ _ _ _ _ => (pts_one (pt_cmpR (by exact op_neD hr.units) (pe_ix ix_list (pe_ix ix_list (pv 2) (pv 8) (fun _ _ => rfl)) (pv 4) (fun _ _ => rfl)) (pe_glob (v := .ref z) (by rfl) T.zero rfl) (nomark _)))) (fun _ _ _ _ _ => (pv 8)))
        (pss_cons (ps_if (pt_cmpR (by exact op_eqD hr.units) (pv 5) (pe_lst pa_nil) (nomark _))
          (pss_one (ps_ret pe_non)) pss_nil)
        (pss_cons (ps_asg (pe_tup (pa_cons (pe_ix ix_list (pv 2) (pe_ix ix_list (pv 5) pe_int (fun _ _ => rfl)) (fun _ _ => rfl)) (pa_cons (pe_ix ix_list (pv 2) (pv 4) (fun _ _ => rfl)) pa_nil))) (pg_tup rfl (pgs_cons (pg_sub (pv 2) (pv 4) set_list) (pgs_cons (pg_sub (pv 2) (pe_ix ix_list (pv 5) pe_int (fun _ _ => rfl)) set_list) pgs_nil))))
        (pss_one (ps_expr (pe_cl C_cleared hr (by rfl) (pa_cons (pv 2) (pa_cons (pv 4) (pa_cons (pv 4) pa_nil))))))))))
      (pss_cons (ps_if (pt_val (pe_callB (cr_any rfl) (by rfl) T.any (by decide +kernel) (pa_cons (pe_lc (own := [("row", 10)]) (g := gName 10) (tt := tYes) (te := tOp (rNeD K) (tOp (rIxL K) (tVar 10) (tUn (rU fun i => .int (-i)) (tC (.int 1)))) (tC (.ref z))) rfl sc.nd (pi_list (pe_slice sl_list (pv 2) (po_some (pv 3)) po_none)) (blkOk_by (own := [("row", 10)]) (N := ["matrix", "right", "rows", "width", "at", "some", "found", "left", "place", "one", "row", "number"]) (sc := (defScope (topS 40))) (by decide +kernel)) (fun _ _ _ _ _ => (pg_name (i := 10) sc.nd rfl (Or.inl rfl))) (fun _ _ _ _ _ => pts_nil) (fun _ _ _ _ _ => (pe_cmpR (by exact op_neD hr.units) (pe_ix ix_list (pv 10) (pe_un un_neg pe_int) (fun _ _ => rfl)) (pe_glob (v := .ref z) (by rfl) T.zero rfl) (nomark _)))) pa_nil)))
        (pss_one (ps_ret pe_non)) pss_nil)
      (pss_cons (ps_set (i := 6) sc.nd rfl (by first | exact Or.inl rfl | exact Or.inr rfl) (pe_lst pa_nil))
      (pss_cons (ps_for PassesOwn.never rfl (pi_range3 (by rfl) T.range (pa_cons (pe_op op_sub (pv 3) pe_int) (pa_cons (pe_un un_neg pe_int) (pa_cons (pe_un un_neg pe_int) pa_nil)))) (pg_name (i := 4) sc.nd rfl (by first | exact Or.inl rfl | exact Or.inr rfl))
        (pss_cons (ps_set (i := 7) sc.nd rfl (by first | exact Or.inl rfl | exact Or.inr rfl) (pe_ix ix_list (pe_ix ix_list (pv 2) (pv 4) (fun _ _ => rfl)) (pe_un un_neg pe_int) (fun _ _ => rfl)))
        (pss_cons (ps_for PassesOwn.never rfl (pi_enum (by rfl) T.enumerate (pa_cons (pv 6) pa_nil)) (pg_tup rfl (pgs_cons (pg_name (i := 8) sc.nd rfl (by first | exact Or.inl rfl | exact Or.inr rfl)) (pgs_cons (pg_name (i := 9) sc.nd rfl (by first | exact Or.inl rfl | exact Or.inr rfl)) pgs_nil)))
          (pss_one (ps_set (i := 7) sc.nd rfl (by first | exact Or.inl rfl | exact Or.inr rfl) (pe_cl C_less hr (by rfl) (pa_cons (pv 7) (pa_cons (pe_cl C_times hr (by rfl) (pa_cons (pe_ix ix_list (pe_ix ix_list (pv 2) (pv 4) (fun _ _ => rfl)) (pe_op op_sub (pe_op op_sub (pv 3) pe_int) (pv 8)) (fun _ _ => rfl)) (pa_cons (pv 9) pa_nil))) pa_nil))))))
        (pss_one (ps_expr (pe_bm PySem.F.plainAttrs_list PySem.F.slot_list_append PySem.F.type_list_append mt_append (pv 6) (pa_cons (pe_cl C_over hr (by rfl) (pa_cons (pv 7) (pa_cons (pe_ix ix_list (pe_ix ix_list (pv 2) (pv 4) (fun _ _ => rfl)) (pv 4) (fun _ _ => rfl)) pa_nil))) pa_nil)))))))
      (pss_one (ps_ret (pe_callTy call_tuple_of (by rfl) T.tuple (by decide +kernel) (pa_cons (pe_revL (pv 6)) pa_nil))))))))), ?_⟩
    have lu := m0.1
    have lw : ws.length = n := by rw [hRr.1]; simp
    have n0 := S.n0
    have n1 := S.n1
    -- rows
    refine ⟨_, rfl, _, rfl, M, R, us, ws, rfl, .inl ⟨.inl (.inl hM), .inl (.inl hR), fun D hD => ?_⟩⟩
    refine lc_it (walk_zip (xs := us) (ys := ws) (n := n) (by omega)) (Qd := fun H' => _) (fun i H' => Ex H H' ∧ ∃ vs, H' D = some (.lst vs) ∧ MatX K H' D vs i (n + 1) (A 0)) ⟨Ex.new hD, [], upd_same, rfl, fun i v hv => by simp at hv⟩ (fun i H' _ h => ⟨Evl.ex_l h.1 (.inl (.inl hM)), Evl.ex_l h.1 (.inl (.inl hR))⟩) (fun i x H2 H2' hi h y => ?_) fun H1 h => ?_
    · obtain ⟨T1, x1, x2, rfl, nT, rfl, f1, f2⟩ := y
      obtain ⟨e2, vs, hvs, mx⟩ := h
      have eT : Ex H2 (upd H2 T1 (.tup [x1, x2])) := Ex.new nT
      refine ⟨T1, _, rfl, .inl (.inl upd_same), rfl, _, _, rfl, _, _, rfl, rfl, rfl, ?_⟩
      obtain ⟨p, wr, rfl, hp, hr1⟩ := (m0.ex (e2.trans eT)).2 i x1 f1
      have lwr : wr.length = n := by rw [hr1.1]; simp
      have rx := (hRr.ex (e2.trans eT)).2 i x2 f2
      rw [map_range_getD hi] at rx
      refine ⟨_, rfl, p, wr, rfl, .inr (.inl (.inl hp)), _, rfl, Nat.le_of_lt (small1000 (by simp; omega)), fun pn hpn => ?_⟩
      have hD2 := eT D _ hvs
      have eN : Ex (upd H2 T1 (.tup [.ref p, x2])) (upd (upd H2 T1 (.tup [.ref p, x2])) pn (.lst (wr ++ ([x2] ++ [])))) := Ex.new hpn
      have hD3 := eN D _ hD2
      have nD : pn ≠ D := fun zz => by
        rw [zz, hD2] at hpn
        cases hpn
      refine ⟨vs, hD3, small1000 (by rw [mx.1]; omega), ((e2.trans eT).trans eN).mut hD, _, upd_same, by simp [mx.1], fun j v hv => ?_⟩
      by_cases hj : j < vs.length
      · rw [List.getElem?_append_left hj] at hv
        exact (((mx.fx (.ex eT) hvs).fx (.ex eN) hD2).fx (Fx.set (o := .lst (vs ++ [.ref pn]))) hD3).2 j v hv
      · rw [List.getElem?_append_right (by omega)] at hv
        have h0 : j - vs.length = 0 := by
          have := (List.getElem?_eq_some_iff.mp hv).1
          simp at this
          omega
        rw [h0] at hv
        have ev : V.ref pn = v := by simpa using hv
        subst ev
        have ej : j = i := by
          have := mx.1
          omega
        subst ej
        refine ⟨pn, _, rfl, nD, by rw [upd_ne nD]; exact upd_same, ?_⟩
        rw [List.range_succ, List.map_append]
        exact ((hr1.ex eN).tx (.set hD3)).app (.one ((rx.ex eN).tx (.set hD3)))
    · obtain ⟨e1, vs0, hv0, mx0⟩ := h
      obtain ⟨p0, wr0, e0, hp0, hr0⟩ := (m0.ex e1).2 0 us[0] (List.getElem?_eq_getElem (by omega))
      have lw0 : wr0.length = n := by rw [hr0.1]; simp
      refine ⟨_, rfl, M, us, 0, us[0], rfl, rfl, Evl.ex_l e1 (.inl (.inl hM)), atI_nat (j := 0) (List.getElem?_eq_getElem (by omega)), p0, wr0, by rw [e0], .inl (.inl (.inl hp0)), by show 2 ≤ sizeLine; decide, fun tp htp => ?_⟩
      rw [lw0]
      have eTp : Ex H1 (upd H1 tp (.tup [.ref D, .int (n : Int)])) := Ex.new htp
      refine ⟨tp, _, rfl, .inl (.inl upd_same), rfl, _, _, rfl, _, _, rfl, rfl, ?_⟩
      have e2 := e1.trans eTp
      have hv2 := eTp D _ hv0
      have mx2 := mx0.fx (.ex eTp) hv0
      -- the elimination
      refine Evl.q_forR1 (n := (n : Int)) (Evl.ea_cons (Evl.ev_var rfl) Evl.ea_nil) (by omega)
        (fun k σ H' => ∃ vs y4 y5, σ = [some (.ref M), some (.ref R), some (.ref D), some (.int (n : Int)), y4, y5, none, none, none, none, none, none] ∧ Ex H H' ∧ H' D = some (.lst vs) ∧ MatX K H' D vs n (n + 1) (A k))
        (fun H3 e3 => ⟨vs0, none, none, rfl, e2.trans e3, e3 D _ hv2, mx2.fx (.ex e3) hv2⟩) (fun k σ H3 hk h => ?_) fun σ H3 h => ?_
      · obtain ⟨vs, y4, y5, rfl, e3, hv3, mx3⟩ := h
        have hkn : k < n := by omega
        have St := S.step k hkn
        have lv := mx3.1
        refine q_set (el_rangeF (K := K) (lo := (k : Int)) (hi := (vs.length : Int)) (n := n - k) (fun t => !decide (A k (k + t) k = 0)) (fun t => .int ((k : Int) + (t : Int))) (Evl.ev_var rfl) (ev_lenL (Evl.ev_var rfl) (.inl (.inl hv3))) (by omega) (by omega) (fun _ => rfl) (fun t H' e' ht => ?_) fun t H' e' ht => Evl.ev_var rfl) fun v5 H4 e4 r5 => ?_
        · exact Evl.et_test (ev_neQ (evq_mat (i := k + t) (j := k) (Evl.ev_var rfl) (Evl.ev_is (Evl.ev_var rfl) (by congr 1)) (Evl.ev_var rfl) (e' D _ hv3) (mx3.fx (.ex e') hv3) (by omega) rfl (by omega) rfl) (evq_c (T.rz H')))
        obtain ⟨ps, rfl, nps, hps⟩ := r5
        obtain ⟨rest, hgv⟩ := given_head (n := n - k) (f := fun t => !decide (A k (k + t) k = 0)) (v := fun t => V.int ((k : Int) + (t : Int))) (by omega) (by
          have := St.piv
          have hz : ¬ A k k k = 0 := fun zz => by
            rw [zz] at this
            exact absurd this (by decide +kernel)
          show (!decide (A k (k + 0) k = 0)) = true
          rw [Nat.add_zero, decide_eq_false hz]
          rfl)
        have hgi : Evl.given (n - k) (fun t => !decide (A k (k + t) k = 0)) (fun t => V.int ((k : Int) + (t : Int))) = (((List.range (n - k)).filter fun t => !decide (A k (k + t) k = 0)).map fun t : Nat => (k : Int) + (t : Int)).map V.int := by
          unfold Evl.given
          rw [List.map_map]
          rfl
        generalize hns : (((List.range (n - k)).filter fun t => !decide (A k (k + t) k = 0)).map fun t : Nat => (k : Int) + (t : Int)) = ns at hgi
        rw [hgi] at hps hgv
        obtain ⟨n1', ns1, rfl⟩ : ∃ a b, ns = a :: b := by
          cases ns with
          | nil => cases hgv
          | cons a b => exact ⟨a, b, rfl⟩
        have hn1 : n1' = (k : Int) := by
          rw [List.map_cons] at hgv
          have := (List.cons.inj hgv).1
          have h2 : n1' = (k : Int) + ((0 : Nat) : Int) := V.int.inj this
          rw [h2]
          simp
        subst hn1
        refine Evl.q_when (b := false) (fun Ha ea Q' qq => ?_) (fun h => nomatch h) fun _ H5 e5 => ?_
        · refine ⟨_, rfl, Nat.zero_le _, fun r hr1 => ?_⟩
          have er : Ex Ha (upd Ha r (.lst [])) := Ex.new hr1
          refine ⟨.list (((k : Int) :: ns1).map PyData.int), .list [], .lst (.inl (.inl (er ps _ (ea ps _ hps)))) (dp_ints _), .lst (.inl (.inl upd_same)) .nil, shaped_ints _, shaped_ints [], false, ?_, qq _ er⟩
          rw [List.map_cons, PyData.eqv, PyData.eqvAll]
        have hv5 := (e4.trans e5) D _ hv3
        have mx5 := mx3.fx (.ex (e4.trans e5)) hv3
        obtain ⟨vk, hvk, rk⟩ := mx5.get hkn
        have hps5 := e5 ps _ hps
        have ev0 : ∀ {H' : Hp}, Ex H5 H' → Evl.Ev (tOp (rIxL K) (tVar 5) (tC (.int 0))) [some (.ref M), some (.ref R), some (.ref D), some (.int (n : Int)), some (.int (k : Int)), some (.ref ps), none, none, none, none, none, none] H' (.int (k : Int)) := fun e' => Evl.ev_op (Evl.ev_var rfl) Evl.ev_c (Evl.rv_ixL (.inl (.inl (e' ps _ hps5))) (atI_nat (j := 0) rfl))
        -- the swap changes nothing
        refine ev_row (K := K) (ta := tVar 2) (Evl.ev_var rfl) (ev0 (Ex.refl H5)) hv5 hvk H5 (Ex.refl H5) _ fun H6 e6 => ?_
        refine ev_row (K := K) (ta := tVar 2) (tb := tVar 4) (Evl.ev_var rfl) (Evl.ev_var rfl) (e6 D _ hv5) hvk H6 (Ex.refl H6) _ fun H7 e7 => ?_
        refine ⟨by show 2 ≤ sizeLine; decide, fun tq htq => ?_⟩
        have e8 : Ex H7 (upd H7 tq (.tup [vk, vk])) := Ex.new htq
        have e58 := (e6.trans e7).trans e8
        have hv8 := e58 D _ hv5
        have mx8 := mx5.fx (.ex e58) hv5
        refine ⟨tq, _, rfl, .inl (.inl upd_same), rfl, vk, _, rfl, ?_⟩
        refine ⟨_, rfl, _, rfl, D, vs, (k : Int), k, rfl, rfl, hv8, ixn (by omega), vk, _, rfl, ?_⟩
        rw [set_same hvk]
        generalize hH9 : upd (upd H7 tq (.tup [vk, vk])) D (.lst vs) = H9
        have f9 : Fx D (upd H7 tq (.tup [vk, vk])) H9 := by
          rw [← hH9]
          exact Fx.set
        have hv9 : H9 D = some (.lst vs) := by
          rw [← hH9]
          exact upd_same
        have nps2 : ps ≠ D := fun zz => by
          rw [zz, hv3] at nps
          cases nps
        have hps9 : H9 ps = some (.lst (((k : Int) :: ns1).map V.int)) := f9 ps _ nps2 (e58 ps _ hps5)
        refine ⟨_, rfl, _, rfl, ps, _, 0, _, rfl, rfl, .inl (.inl hps9), atI_nat (j := 0) rfl, D, vs, (k : Int), k, rfl, rfl, hv9, ixn (by omega), rfl, ?_⟩
        rw [set_same hvk]
        generalize hH10 : upd H9 D (.lst vs) = H10
        have f10 : Fx D H9 H10 := by
          rw [← hH10]
          exact Fx.set
        have hv10 : H10 D = some (.lst vs) := by
          rw [← hH10]
          exact upd_same
        have e10 : Ex H H10 := (f9.trans f10).old (((e3.trans e4).trans e5).trans e58) hD
        refine ⟨_, rfl, _, rfl, _, rfl, D, k, n, n + 1, vs, A k, A (k + 1), rfl, hv10, mx8.fx (f9.trans f10) hv8, St, fun H11 vs11 f11 hv11 mx11 => ?_⟩
        exact ⟨vs11, _, _, rfl, f11.old e10 hD, hv11, mx11⟩
      · obtain ⟨vs, y4, y5, rfl, e3, hv3, mx3⟩ := h
        rw [Int.toNat_natCast] at mx3
        have lv := mx3.1
        refine Evl.q_when (b := false) (fun Ha ea Q' qq => ?_) (fun h => nomatch h) fun _ H4 e4 => ?_
        · refine ⟨_, rfl, _, rfl, (n : Int), rfl, D, vs, rfl, .inl (.inl (ea D _ hv3)), fun m hm => ?_⟩
          have cd : cutV vs (some (n : Int)) none = [] := by
            rw [cutDrop vs n (by omega)]
            exact List.drop_of_length_le (by omega)
          rw [cd]
          have em : Ex Ha (upd Ha m (.lst [])) := Ex.new hm
          refine ⟨m, rfl, ⟨_, .inl (.inl upd_same)⟩, fun D2 hD2 => ?_⟩
          refine lc_list (xs := []) (fun _ H' => Ex (upd Ha m (.lst [])) H' ∧ H' D2 = some (.lst [])) ⟨Ex.new hD2, upd_same⟩ (fun i H' _ h => .inl (.inl (h.1 m _ upd_same))) (fun i x H' hx h => by simp at hx) fun H' h => ?_
          exact ⟨D2, [], rfl, .inl (.inl h.2), false, rfl, qq _ (em.trans h.1)⟩
        have hv4 := e4 D _ hv3
        have mx4 := mx3.fx (.ex e4) hv3
        have e04 := e3.trans e4
        refine q_set (R := fun v H'' => ∃ l, v = .ref l ∧ H4 l = none ∧ H'' l = some (.lst [])) (fun H5 e5 Q k => ⟨Nat.zero_le _, fun m hm => k _ _ (Ex.new hm) ⟨m, rfl, Evl.fresh_back e5 hm, upd_same⟩⟩) fun v6 H5 e5 r6 => ?_
        obtain ⟨lf, rfl, nf, hf⟩ := r6
        -- the answers, from the last
        refine ⟨_, rfl, (n : Int), 1, rfl, rfl, 1, rfl, 1, rfl, (n : Int) - 1, -1, -1, n, rfl, ?_, ?_⟩
        · have := RgC.neg (i := (n : Int) - 1) (j := -1) (by omega) (by omega) (by omega) (by omega)
          rw [show ((n : Int) - 1 - -1).toNat = n by omega] at this
          exact this
        refine for_it (walk_rangeC (lo := (n : Int) - 1) (c := -1) (n := n)) (fun t σ H' => ∃ wf y4 y7 y8 y9, σ = [some (.ref M), some (.ref R), some (.ref D), some (.int (n : Int)), y4, y5, some (.ref lf), y7, y8, y9, none, none] ∧ Ex H4 H' ∧ H' lf = some (.lst wf) ∧ RTs K H' wf ((List.range t).map fun s => X (n - 1 - s))) ⟨[], y4, none, none, none, rfl, e5, hf, .nil⟩ (fun i σ H' _ h => trivial) (fun t u σ H6 H6' ht h hy => ?_) fun σ H6 h => ?_
        · obtain ⟨rfl, rfl⟩ := hy
          obtain ⟨wf, y4, y7, y8, y9, rfl, e6, hl6, rf6⟩ := h
          obtain ⟨a, ha⟩ : ∃ a : Nat, (n : Int) - 1 + ((t : Nat) : Int) * -1 = (a : Int) ∧ a = n - 1 - t := ⟨n - 1 - t, by omega, rfl⟩
          obtain ⟨ha, hat⟩ := ha
          dsimp only [gName]
          rw [ha]
          have han : a < n := by omega
          have hta : t = n - 1 - a := by omega
          have hv6 := e6 D _ hv4
          have mx6 := mx4.fx (.ex e6) hv4
          obtain ⟨va, hva, pr, wr, rfl, npr, hpr, hrr⟩ := mx6.get han
          have evl := evq_lastL (K := K) (σ := [some (.ref M), some (.ref R), some (.ref D), some (.int (n : Int)), some (.int (a : Int)), y5, some (.ref lf), y7, y8, y9, none, none]) (ta := tOp (rIxL K) (tVar 2) (tVar 4)) (n := n) (ev_row (K := K) (Evl.ev_var rfl) (Evl.ev_var rfl) hv6 hva) hpr hrr (by simp)
          rw [map_range_getD (by omega), ← S.l0 a han] at evl
          refine q_set evl fun v7 H7 e7 r7 => ?_
          have hl7 := e7 lf _ hl6
          have lwf : wf.length = t := by rw [rf6.1]; simp
          refine ⟨_, rfl, lf, wf, rfl, .inl (.inl hl7), ?_⟩
          refine for_it (walk_enum (xs := wf)) (fun m σ H' => ∃ vl y8 y9, σ = [some (.ref M), some (.ref R), some (.ref D), some (.int (n : Int)), some (.int (a : Int)), y5, some (.ref lf), some vl, y8, y9, none, none] ∧ Ex H7 H' ∧ RT K H' vl (Lf a m)) ⟨v7, y8, y9, rfl, Ex.refl H7, r7⟩ (fun i σ H' _ h => ?_) (fun m u σ H8 H8' hm h hy => ?_) fun σ H8 h => ?_
          · obtain ⟨_, _, _, _, h, _⟩ := h
            exact .inl (.inl (h lf _ hl7))
          · obtain ⟨T1, x1, x2, rfl, nT, rfl, f1, f2⟩ := hy
            cases f1
            obtain ⟨vl, y8, y9, rfl, e8, rl⟩ := h
            have eT : Ex H8 (upd H8 T1 (.tup [.int (m : Nat), x2])) := Ex.new nT
            refine ⟨T1, _, rfl, .inl (.inl upd_same), rfl, _, _, rfl, _, _, rfl, rfl, ?_⟩
            have hmt : m < t := by omega
            have rx := ((rf6.ex (e7.trans e8)).2 m x2 f2).ex eT
            rw [map_range_getD hmt] at rx
            have e68 := (e7.trans e8).trans eT
            refine s_set (evq_less (evq_var rfl (rl.ex eT)) (evq_times (evq_mat (i := a) (j := n - 1 - m) (Evl.ev_var rfl) (Evl.ev_var rfl) (Evl.ev_op (Evl.ev_op (Evl.ev_var rfl) Evl.ev_c Evl.rv_I0) (Evl.ev_var rfl) Evl.rv_I0) (e68 D _ hv6) (mx6.fx (.ex e68) hv6) han (by show (n : Int) - 1 - (m : Int) = _; omega) (by omega) rfl) (evq_var rfl rx) (S.smA _ _ han (by omega)) (S.smX _ (by omega))) (S.smL a m han (by omega)) (S.smQ a m han (by omega))) fun v9 H9 e9 r9 => ?_
            rw [← S.ls a m han (by omega)] at r9
            exact ⟨v9, _, _, rfl, (e8.trans eT).trans e9, r9⟩
          · obtain ⟨vl, y8, y9, rfl, e8, rl⟩ := h
            rw [lwf] at rl
            have e68 := e7.trans e8
            have hl8 := e8 lf _ hl7
            have evd := evq_mat (K := K) (σ := [some (.ref M), some (.ref R), some (.ref D), some (.int (n : Int)), some (.int (a : Int)), y5, some (.ref lf), some vl, y8, y9, none, none]) (ta := tVar 2) (tb := tVar 4) (tc := tVar 4) (i := a) (j := a) (q := A n a a) (Evl.ev_var rfl) (Evl.ev_var rfl) (Evl.ev_var rfl) (e68 D _ hv6) (mx6.fx (.ex e68) hv6) han rfl (by omega) rfl
            refine s_appR hl8 (Evl.ev_var rfl) (evq_over (evq_var rfl rl) evd (S.smL a t han (by omega)) (S.smA a a han (by omega)) (S.pos a han)) (by omega) fun v9 H9 e9 r9 => ?_
            have hl9 := e9 lf _ hl8
            refine ⟨wf ++ [v9], _, _, _, _, rfl, ((e6.trans e68).trans e9).mut nf, upd_same, ?_⟩
            rw [List.range_succ, List.map_append]
            have rv : RT K H9 v9 (X (n - 1 - t)) := by
              rw [← hat, S.xe a han, ← hta]
              exact r9
            exact ((rf6.ex (e68.trans e9)).tx (.set hl9)).snoc (rv.tx (.set hl9))
        · obtain ⟨wf, y4, y7, y8, y9, rfl, e6, hl6, rf6⟩ := h
          have er : ((List.range n).map fun s => X (n - 1 - s)).reverse = (List.range n).map X := by
            apply List.ext_getElem
            · simp
            · intro i h1 h2
              have hi : i < n := by simpa using h2
              rw [List.getElem_reverse, List.getElem_map, List.getElem_map, List.getElem_range, List.getElem_range]
              congr 1
              simp
              omega
          dsimp only
          refine s_ret (R := fun v H' => PT K H' v ((List.range n).map X)) (fun H7 e7 Q kk => ?_) fun v7 H7 e7 r7 => q v7 H7 ((e04.trans e6).trans e7) r7
          refine ⟨_, rfl, lf, wf, rfl, .inl (.inl (e7 lf _ hl6)), fun m hm => ⟨m, _, rfl, .inl ⟨.inl (.inl upd_same), fun m2 hm2 => ?_⟩⟩⟩
          have rr := (rf6.ex e7).rev
          rw [er] at rr
          exact kk _ _ ((Ex.new hm).trans (Ex.new hm2)) (PT.new hm2 (rr.ex (Ex.new hm)))
end
end BW
/-! BwJ: natural_slopes, cubics, natural. -/
namespace BW
open PySem PySem.Spec PyProof.Rows L2 BC
open Evl (Ex)
open StX (tStar pa_star)

theorem MM_le {n : Nat} {p r : Nat → Rat} {a : Nat → Nat} (h : Tri n p r a) : MM n a * MM n a ≤ 2 ^ 320 := by
  have h1 := WW_le h
  exact Nat.le_trans (Nat.mul_le_mul h1 h1) (by decide +kernel)
theorem MM_bd {n : Nat} {p r : Nat → Rat} {a : Nat → Nat} (h : Tri n p r a) {e : Nat} (he : e ≤ 195) : Bd (MM n a) e := ⟨MM_pos h, Nat.le_trans (Nat.le_mul_of_pos_right _ (MM_pos h)) (MM_le h), he⟩
theorem MM_bd2 {n : Nat} {p r : Nat → Rat} {a : Nat → Nat} (h : Tri n p r a) {e : Nat} (he : e ≤ 195) : Bd (MM n a * MM n a) e := ⟨Nat.mul_pos (MM_pos h) (MM_pos h), MM_le h, he⟩
theorem sol_of {n : Nat} {p r : Nat → Rat} {a : Nat → Nat} (h : Tri n p r a) : Sol n (AA n p r) (XX n p r) (LL n p r) := by
  have n2 := h.n2
  have n5 := h.n5
  have B1 := MM_bd h (e := 195) (Nat.le_refl _)
  have B2 := MM_bd2 h (e := 195) (Nat.le_refl _)
  have ne : ∀ k, k < n → PP n p k ≠ 0 := fun k hk => ne_of_pos (PP_pos h hk)
  refine ⟨by omega, by omega, fun k hk => ?_, fun i hi => ?_, fun i hi => ?_, fun i m hi hm => LL_step hi hm, fun i hi => LL_end hi, fun i j hi hj => ?_, fun i m hi hm => ?_, fun i hi => ?_, fun i m hi hm => ?_⟩
  · refine ⟨hk, by omega, by omega, by omega, ?_, fun i j hi hj => AA_same hi, fun i j h1 h2 h3 h4 => AA_step hk h1 h2 h4 (ne k hk), fun i j h1 h2 h3 h4 => AA_keep hk h1 h4 (ne_of_pos (pp_pos h (by omega))), fun i j hi hj => ?_, fun i h1 h2 => ?_, fun i j h1 h2 h3 => ?_⟩
    · rw [AA_piv hk]
      exact PP_pos h hk
    · exact B1.sm (AA_gd h hi (by omega)) (by decide)
    · exact B1.sm (col_gd h h1 h2) (by decide)
    · exact B2.sm ((col_gd h h1 h2).mul (AA_gd h hk (by omega))) (by decide)
  · rw [AA_diag hi]
    exact PP_pos h hi
  · exact LL_zero hi
  · exact B1.sm (AA_gd h hi (by omega)) (by decide)
  · exact B1.sm (LL_gd h hi) (by decide)
  · exact B1.sm (XX_gd h hi) (by decide)
  · exact B2.sm ((AA_gd h hi (by omega)).mul (XX_gd h (by omega))) (by decide)
theorem Mn.fr {K : PySem.W.Frag} {H : Hp} {qs : List Rat} : Mn (FrL K H qs) := fun v H1 H2 e h => by
  obtain ⟨p, ws, h1, h2, h3, h4⟩ := h
  exact ⟨p, ws, h1, h2, e p _ h3, h4.ex e⟩
section
variable {P : Program} {w : World} {K : PySem.W.Frag} {mg : Str → Option Value} {base : Heap} {f z o : Addr} {fd : FuncData} {t6 t7 t8 t12 : Tok}

def spNatS (K : PySem.W.Frag) : Sp := fun vs H Q _ => ∃ (x y : V) (xs ys : List Rat) (a : Nat → Nat), vs = [x, y] ∧ PT K H x xs ∧ PT K H y ys ∧ ys.length = xs.length ∧ Places xs ∧ (∀ q ∈ ys, Gd 1 1 q) ∧ Tri xs.length (pOf xs) (rOf xs ys) a ∧
  Post H Q fun v H' => PT K H' v ((List.range xs.length).map (XX xs.length (pOf xs) (rOf xs ys)))
/-- a list of lists of ratios, two addresses kept free -/
def MatT (K : PySem.W.Frag) (H : Hp) (L1 L2 : Addr) (vs : List V) (m n : Nat) (A : Nat → Nat → Rat) : Prop := vs.length = m ∧ ∀ i v, vs[i]? = some v → ∃ p ws, v = .ref p ∧ p ≠ L1 ∧ p ≠ L2 ∧ H p = some (.lst ws) ∧ RTs K H ws ((List.range n).map (A i))
theorem sc_natural_slopes : FnScope ["places", "data", "many", "rows", "right", "index", "row", "number", "place", "part", "gap"] ["places", "data"] (defScope (topS 46)) := ⟨rfl, rfl, rfl, by decide +kernel, rfl, by decide +kernel, by decide +kernel⟩
theorem ok_natural_slopes (F : Fun K "natural_slopes" "natural_slopes" (topS 46) f fd) (T : Top K mg z o t6 t7 t8 t12) (C_over : Cl P w K mg base "over" 4 ["one", "other"] (spOver K)) (C_less : Cl P w K mg base "less" 4 ["one", "other"] (spLess K)) (C_times : Cl P w K mg base "times" 4 ["one", "other"] (spTimes K)) (C_plus : Cl P w K mg base "plus" 4 ["one", "other"] (spPlus K)) (C_solved : Cl P w K mg base "solved" 4 ["matrix", "right"] (spSolved K)) : FnOk P w K mg base CX0 5 f fd ["places", "data"] (spNatS K) := by
  have sc := sc_natural_slopes
  refine F.ok sc (fun vs H Q E h => ?_) (fun cdv A0 outer s H vs Q E hr h => ?_)
  · obtain ⟨_, _, _, _, _, rfl, _⟩ := h
    rfl
  · obtain ⟨x, y, xs, ys, a, rfl, ⟨p1, us, rfl, hp1, hx⟩, ⟨p2, ws, rfl, hp2, hy⟩, ly, Pl, gy, Tr, q⟩ := h
    refine ⟨_, (pss_cons (ps_par3 (i := 2) (j := 3) (l := 4) rfl sc.nd rfl rfl rfl (by decide) (by decide) (by decide) rfl rfl rfl (pa_cons (pe_callB call_len_seq (by rfl) T.len (by decide +kernel) (pa_cons (pv 0) pa_nil)) (pa_cons (pe_lst pa_nil) (pa_cons (pe_lst pa_nil) pa_nil))) (by rfl))
  (pss_cons (ps_for PassesOwn.never rfl (pi_range1 (by rfl) T.range (pa_cons (pv 2) pa_nil)) (pg_name (i := 5) sc.nd rfl (by first | exact Or.inl rfl | exact Or.inr rfl))
    (pss_cons (ps_par (i := 6) (j := 7) rfl sc.nd rfl rfl (by decide) rfl rfl (pa_cons (pe_op op_rep (pe_lst (pa_cons (pe_glob (v := .ref z) (by rfl) T.zero rfl) pa_nil)) (pv 2)) (pa_cons (pe_glob (v := .ref z) (by rfl) T.zero rfl) pa_nil)) (by rfl))
    (pss_cons (ps_for PassesOwn.never rfl (pi_tup (pe_tup (pa_cons (pe_op op_sub (pv 5) pe_int) (pa_cons (pv 5) pa_nil)))) (pg_name (i := 8) sc.nd rfl (by first | exact Or.inl rfl | exact Or.inr rfl))
      (pss_one (ps_if (pt_chain op_le op_lt pe_int (pv 8) (pe_op op_sub (pv 2) pe_int))
        (pss_cons (ps_set (i := 9) sc.nd rfl (by first | exact Or.inl rfl | exact Or.inr rfl) (pe_cl C_over hr (by rfl) (pa_cons (pe_glob (v := .ref o) (by rfl) T.one rfl) (pa_cons (pe_cl C_less hr (by rfl) (pa_cons (pe_ix ix_tup (pv 0) (pe_op op_add (pv 8) pe_int) (fun _ _ => rfl)) (pa_cons (pe_ix ix_tup (pv 0) (pv 8) (fun _ _ => rfl)) pa_nil))) pa_nil))))
        (pss_cons (ps_set (i := 10) sc.nd rfl (by first | exact Or.inl rfl | exact Or.inr rfl) (pe_cl C_less hr (by rfl) (pa_cons (pe_ix ix_tup (pv 1) (pe_op op_add (pv 8) pe_int) (fun _ _ => rfl)) (pa_cons (pe_ix ix_tup (pv 1) (pv 8) (fun _ _ => rfl)) pa_nil))))
        (pss_cons (ps_asg (pe_cl C_plus hr (by rfl) (pa_cons (pe_ix ix_list (pv 6) (pv 8) (fun _ _ => rfl)) (pa_cons (pe_cl C_times hr (by rfl) (pa_cons (pv 9) (pa_cons (pe_tup (pa_cons (pe_ifExp (pt_cmpR op_eq (pv 8) (pv 5) (nomark _)) pe_int pe_int) (pa_cons pe_int pa_nil))) pa_nil))) pa_nil))) (pg_sub (pv 6) (pv 8) set_list))
        (pss_cons (ps_asg (pe_cl C_plus hr (by rfl) (pa_cons (pe_ix ix_list (pv 6) (pe_op op_add (pv 8) pe_int) (fun _ _ => rfl)) (pa_cons (pe_cl C_times hr (by rfl) (pa_cons (pv 9) (pa_cons (pe_tup (pa_cons (pe_ifExp (pt_cmpR op_eq (pv 8) (pv 5) (nomark _)) pe_int pe_int) (pa_cons pe_int pa_nil))) pa_nil))) pa_nil))) (pg_sub (pv 6) (pe_op op_add (pv 8) pe_int) set_list))
        (pss_one (ps_set (i := 7) sc.nd rfl (by first | exact Or.inl rfl | exact Or.inr rfl) (pe_cl C_plus hr (by rfl) (pa_cons (pv 7) (pa_cons (pe_cl C_times hr (by rfl) (pa_cons (pe_tup (pa_cons pe_int (pa_cons pe_int pa_nil))) (pa_cons (pe_cl C_times hr (by rfl) (pa_cons (pv 10) (pa_cons (pe_cl C_times hr (by rfl) (pa_cons (pv 9) (pa_cons (pv 9) pa_nil))) pa_nil))) pa_nil))) pa_nil))))))))) pss_nil)))
    (pss_cons (ps_expr (pe_bm PySem.F.plainAttrs_list PySem.F.slot_list_append PySem.F.type_list_append mt_append (pv 3) (pa_cons (pv 6) pa_nil)))
    (pss_one (ps_expr (pe_bm PySem.F.plainAttrs_list PySem.F.slot_list_append PySem.F.type_list_append mt_append (pv 4) (pa_cons (pv 7) pa_nil))))))))
  (pss_one (ps_ret (pe_cl C_solved hr (by rfl) (pa_cons (pv 3) (pa_cons (pv 4) pa_nil))))))), ?_⟩
    have l1 := hx.1
    have l2 := hy.1
    have two := Pl.two
    have few := Pl.few
    generalize hn : xs.length = n at *
    have gxs : ∀ i, Gd 1 1 (xs.getD i 0) := getD_gd (P := Gd 1 1) Pl.gx (gd_zero (by decide))
    have gys : ∀ i, Gd 1 1 (ys.getD i 0) := getD_gd (P := Gd 1 1) gy (gd_zero (by decide))
    have gp : ∀ q, q + 1 < n → Gd 1 1 (pOf xs q) := fun q hq => Pl.inv q (by omega)
    refine ⟨_, rfl, p1, us, rfl, .inr hp1, Nat.zero_le _, fun L1 h1 => ⟨Nat.zero_le _, fun M2 h2 => ⟨_, _, _, rfl, ?_⟩⟩⟩
    obtain ⟨H1, hH1⟩ : ∃ H1, H1 = H := ⟨H, rfl⟩
    have e1 : Ex H H1 := hH1 ▸ Ex.refl H
    rw [← hH1] at h1 h2
    show tSeq _ _ _ _ (upd (upd H L1 (.lst [])) M2 (.lst []))
    rw [← hH1]
    have eL1 : Ex H1 (upd H1 L1 (.lst [])) := Ex.new h1
    have eL2 : Ex (upd H1 L1 (.lst [])) (upd (upd H1 L1 (.lst [])) M2 (.lst [])) := Ex.new h2
    have e02 := (e1.trans eL1).trans eL2
    have nL1 : H L1 = none := Evl.fresh_back e1 h1
    have nL2 : H M2 = none := Evl.fresh_back (e1.trans eL1) h2
    have hL1 := eL2 L1 _ upd_same
    have hL2 : upd (upd H1 L1 (.lst [])) M2 (.lst []) M2 = some (.lst []) := upd_same
    have n12 : L1 ≠ M2 := fun zz => by
      rw [← zz, upd_same] at h2
      cases h2
    generalize upd (upd H1 L1 (.lst [])) M2 (.lst []) = H2 at *
    rw [l1]
    refine Evl.q_forR1 (n := (n : Int)) (Evl.ea_cons (Evl.ev_var rfl) Evl.ea_nil) (by omega)
      (fun i σ H' => ∃ us1 us2 y5 y6 y7 y8 y9 y10, σ = [some (.ref p1), some (.ref p2), some (.int (n : Int)), some (.ref L1), some (.ref M2), y5, y6, y7, y8, y9, y10] ∧ Ex H H' ∧ H' L1 = some (.lst us1) ∧ H' M2 = some (.lst us2) ∧ MatT K H' L1 M2 us1 i n (AA n (pOf xs) (rOf xs ys) 0) ∧ RTs K H' us2 ((List.range i).map fun i => AA n (pOf xs) (rOf xs ys) 0 i n))
      (fun H3 e3 => ⟨[], [], none, none, none, none, none, none, rfl, e02.trans e3, e3 _ _ hL1, e3 _ _ hL2, ⟨rfl, fun i v hv => by simp at hv⟩, .nil⟩) (fun i σ H3 hi h => ?_) fun σ H3 h => ?_
    · obtain ⟨us1, us2, y5, y6, y7, y8, y9, y10, rfl, e3, hu1, hu2, mt, rt⟩ := h
      have hin : i < n := by omega
      refine q_par (el_rep (k := n) (Evl.ev_c) (T.rz H3) (Evl.ev_var rfl) (by omega)) Mn.fr (evq_c (T.rz H3)) fun v6 v7 H4 e4 r6 r7 => ?_
      obtain ⟨lr, wr, rfl, nr, hr4, rr⟩ := r6
      have erep : List.replicate n (0 : Rat) = (List.range n).map (Fr n (pOf xs) i 0) := by
        apply List.ext_getElem
        · simp
        · intro k h1 h2
          rw [List.getElem_replicate, List.getElem_map]
          rfl
      rw [erep] at rr
      refine ⟨_, rfl, (i : Int), 1, rfl, rfl, _, rfl, by show 2 ≤ sizeLine; decide, fun pt npt => ⟨pt, rfl, ⟨_, .inl (.inl upd_same)⟩, ?_⟩⟩
      have e5 : Ex H4 (upd H4 pt (.tup [.int ((i : Int) - 1), .int (i : Int)])) := Ex.new npt
      have hpt : SqT K (upd H4 pt (.tup [.int ((i : Int) - 1), .int (i : Int)])) pt [.int ((i : Int) - 1), .int (i : Int)] := .inl (.inl upd_same)
      refine for_it (walk_tup (xs := [.int ((i : Int) - 1), .int (i : Int)])) (fun t σ H' => ∃ wr v7 y8 y9 y10, σ = [some (.ref p1), some (.ref p2), some (.int (n : Int)), some (.ref L1), some (.ref M2), some (.int (i : Int)), some (.ref lr), some v7, y8, y9, y10] ∧ Ex H3 H' ∧ SqT K H' pt [.int ((i : Int) - 1), .int (i : Int)] ∧ H' lr = some (.lst wr) ∧ RTs K H' wr ((List.range n).map (Fr n (pOf xs) i t)) ∧ RT K H' v7 (Gr xs ys i t)) ⟨wr, v7, y8, y9, y10, rfl, e4.trans e5, hpt, e5 _ _ hr4, rr.ex e5, r7.ex e5⟩ (fun t σ H' _ h => ?_) (fun t u σ H6 H6' ht h hy2 => ?_) fun σ H6 h => ?_
      · obtain ⟨_, _, _, _, _, _, _, h, _⟩ := h
        exact h
      · obtain ⟨rfl, hu⟩ := hy2
        obtain ⟨wr, v7, y8, y9, y10, rfl, e6, hpt6, hr6, rr6, r7⟩ := h
        have ht2 : t < 2 := ht
        have eu : u = .int (plc i t) := by
          match t, ht2 with
          | 0, _ =>
            have : V.int ((i : Int) - 1) = u := by simpa using hu
            rw [← this]
            rfl
          | 1, _ =>
            have : V.int (i : Int) = u := by simpa using hu
            rw [← this]
            rfl
        subst eu
        dsimp only [gName]
        show tIfS _ _ _ _ [some (.ref p1), some (.ref p2), some (.int (n : Int)), some (.ref L1), some (.ref M2), some (.int (i : Int)), some (.ref lr), some v7, some (.int (plc i t)), y9, y10] _
        refine Evl.s_when (b := okp n i t) (Evl.et_test (ev_chain Evl.ev_c (Evl.ev_var rfl) (Evl.ev_op (Evl.ev_var rfl) Evl.ev_c Evl.rv_I0))) (fun hb H7 e7 => ?_) fun hb H7 e7 => ?_
        · obtain ⟨q0, hq, hqn⟩ := okp_nat hb
          have e07 := (e3.trans e6).trans e7
          have hF : Fr n (pOf xs) i (t + 1) = ad (pOf xs) q0 (cA i t) (cB i t) (Fr n (pOf xs) i t) := by
            show (if okp n i t = true then ad (pOf xs) (plc i t).toNat (cA i t) (cB i t) (Fr n (pOf xs) i t) else Fr n (pOf xs) i t) = _
            rw [if_pos hb, hq, Int.toNat_natCast]
          have hG : Gr xs ys i (t + 1) = Gr xs ys i t + wOf xs ys q0 := by
            show (if okp xs.length i t = true then Gr xs ys i t + wOf xs ys (plc i t).toNat else Gr xs ys i t) = _
            rw [hn, if_pos hb, hq, Int.toNat_natCast]
          have hcA : cA i t = if (q0 : Int) = (i : Int) then 2 else 1 := by
            unfold cA
            rw [hq]
          have hcB : cB i t = if (q0 : Int) = (i : Int) then 1 else 2 := by
            unfold cB
            rw [hq]
          have gA := (c_gd i t).1
          have gB := (c_gd i t).2
          have gF := Fr_gd (i := i) gp t
          have gG := Gr_gd (i := i) (xs := xs) (ys := ys) (fun q hq => gp q (by omega)) gys t
          rw [hq]
          have up := Pl.up q0 (by omega)
          have pq : 1 / (xs.getD (q0 + 1) 0 - xs.getD q0 0) = pOf xs q0 := rfl
          have gq : ys.getD (q0 + 1) 0 - ys.getD q0 0 = gOf ys q0 := rfl
          have gpq := gp q0 hqn
          have gg : Gd 1 2 (gOf ys q0) := (gys (q0 + 1)).sub (gys q0)
          have x1 : (q0 + 1 : Nat) < xs.length := by omega
          have c1 : (q0 : Int) + 1 = ((q0 + 1 : Nat) : Int) := by omega
          refine q_set (evq_over (evq_c (T.ro H7)) (evq_less (evq_ixT (i := 0) (n := q0 + 1) (Evl.ev_var rfl) (Evl.ev_op (Evl.ev_var rfl) Evl.ev_c Evl.rv_I0) (tx_t (.of e07) hp1) (hx.ex e07) c1 x1) (evq_ixT (i := 0) (n := q0) (Evl.ev_var rfl) (Evl.ev_var rfl) (tx_t (.of e07) hp1) (hx.ex e07) rfl (by omega)) (sm1 (gxs _) (by decide)) (sm1 (gxs _) (by decide))) (sm1 (gd_one (d := 1) (e := 1) (by decide)) (by decide)) (sm1 ((gxs _).sub (gxs _)) (by decide)) up) fun v9 H8 e8 r9 => ?_
          rw [pq] at r9
          have e08 := e07.trans e8
          refine q_set (evq_less (evq_ixT (i := 0) (n := q0 + 1) (Evl.ev_var rfl) (Evl.ev_op (Evl.ev_var rfl) Evl.ev_c Evl.rv_I0) (tx_t (.of e08) hp2) (hy.ex e08) c1 (by omega)) (evq_ixT (i := 0) (n := q0) (Evl.ev_var rfl) (Evl.ev_var rfl) (tx_t (.of e08) hp2) (hy.ex e08) rfl (by omega)) (sm1 (gys _) (by decide)) (sm1 (gys _) (by decide))) fun v10 H9 e9 r10 => ?_
          rw [gq] at r10
          have e69 := (e7.trans e8).trans e9
          have hr9 := e69 lr _ hr6
          have rr9 := rr6.ex e69
          have lwr : wr.length = n := by rw [rr6.1]; simp
          have pr : ∀ {H' : Hp} {σ : L2.St} (c1 c2 : Int) (qa qb : Rat), σ[8]? = some (some (.int (q0 : Int))) → σ[5]? = some (some (.int (i : Int))) → c1 = qa.num → c2 = qb.num → qa.den = 1 → qb.den = 1 → EvQ K (tTup (tCons (tIf (tTest (tOp rEq (tVar 8) (tVar 5))) (tC (.int c1)) (tC (.int c2))) (tCons (tC (.int 1)) tNil))) σ H' (if (q0 : Int) = (i : Int) then qa else qb) := fun {H'} {σ} c1 c2 qa qb h8 h5 ha hb da db => by
            have hc : Evl.EvT (tTest (tOp rEq (tVar 8) (tVar 5))) σ H' (decide (V.int (q0 : Int) = V.int (i : Int))) := Evl.et_test (Evl.ev_op (Evl.ev_var h8) (Evl.ev_var h5) (Evl.rv_eq rfl))
            by_cases e : (q0 : Int) = (i : Int)
            · rw [if_pos e]
              refine evq_pair (Evl.ev_if hc (fun _ => Evl.ev_c) fun hf => ?_) Evl.ev_c ha (by rw [da]; rfl)
              rw [e] at hf
              exact absurd hf (by simp)
            · rw [if_neg e]
              refine evq_pair (Evl.ev_if hc (fun hf => ?_) fun _ => Evl.ev_c) Evl.ev_c hb (by rw [db]; rfl)
              exact absurd (V.int.inj (of_decide_eq_true hf)) e
          refine q_setQ (j := q0) (q := Fr n (pOf xs) i t q0 + pOf xs q0 * cA i t) hr9 (evq_plus (by
            have hh := evq_ixL (K := K) (σ := [some (.ref p1), some (.ref p2), some (.int (n : Int)), some (.ref L1), some (.ref M2), some (.int (i : Int)), some (.ref lr), some v7, some (.int (q0 : Int)), some v9, some v10]) (ta := tVar 6) (tb := tVar 8) (Evl.ev_var rfl) (Evl.ev_var rfl) hr9 rr9 (n := q0) rfl (by simp; omega)
            rw [map_range_getD (by omega)] at hh
            exact hh) (evq_times (evq_var rfl (r9.ex e9)) (by rw [hcA]; exact pr 2 1 2 1 rfl rfl rfl rfl rfl rfl) (sm1 gpq (by decide)) (sm1 gA (by decide))) (sm1 (gF q0) (by omega)) (sm1 (gpq.mul1 gA) (by decide))) (Evl.ev_var rfl) (Evl.ev_var rfl) (by omega) fun vA H10 e10 rA => ?_
          have hr10 := e10 lr _ hr9
          have rr10 := (rr9.ex e10).tx (.set (ys := wr.set q0 vA) hr10)
          have rA2 := rA.tx (.set (ys := wr.set q0 vA) hr10)
          have rr11 := rr10.set q0 rA2
          have hr11 : upd H10 lr (.lst (wr.set q0 vA)) lr = some (.lst (wr.set q0 vA)) := upd_same
          have t10 : Tx H10 (upd H10 lr (.lst (wr.set q0 vA))) := .set hr10
          have x11 : Ex H3 (upd H10 lr (.lst (wr.set q0 vA))) := ((e6.trans e69).trans e10).mut nr
          have pt11 : SqT K (upd H10 lr (.lst (wr.set q0 vA))) pt [.int ((i : Int) - 1), .int (i : Int)] := tx_t t10 (tx_t (.of (e69.trans e10)) hpt6)
          have r9' := ((r9.ex e9).ex e10).tx t10
          have r10' := (r10.ex e10).tx t10
          have r7' := (r7.ex (e69.trans e10)).tx t10
          generalize upd H10 lr (.lst (wr.set q0 vA)) = H11 at *
          have gW := w_gd (q := q0) gpq gys
          refine q_setQ (j := q0 + 1) (q := Fr n (pOf xs) i t (q0 + 1) + pOf xs q0 * cB i t) hr11 (evq_plus (by
            have hh := evq_ixL (K := K) (σ := [some (.ref p1), some (.ref p2), some (.int (n : Int)), some (.ref L1), some (.ref M2), some (.int (i : Int)), some (.ref lr), some v7, some (.int (q0 : Int)), some v9, some v10]) (ta := tVar 6) (tb := tOp (rI0 fun i j => .int (i + j)) (tVar 8) (tC (.int 1))) (Evl.ev_var rfl) (Evl.ev_op (Evl.ev_var rfl) Evl.ev_c Evl.rv_I0) hr11 rr11 (n := q0 + 1) c1 (by simp; omega)
            rw [BC.set_map, map_range_getD (by omega), if_neg (by omega)] at hh
            exact hh) (evq_times (evq_var rfl r9') (by rw [hcB]; exact pr 1 2 1 2 rfl rfl rfl rfl rfl rfl) (sm1 gpq (by decide)) (sm1 gB (by decide))) (sm1 (gF (q0 + 1)) (by omega)) (sm1 (gpq.mul1 gB) (by decide))) (Evl.ev_var rfl) (Evl.ev_is (Evl.ev_op (Evl.ev_var rfl) Evl.ev_c Evl.rv_I0) (by rw [← c1])) (by simp; omega) fun vB H12 e12 rB => ?_
          have hr12 := e12 lr _ hr11
          have t12 : Tx H12 (upd H12 lr (.lst ((wr.set q0 vA).set (q0 + 1) vB))) := .set hr12
          have rr13 := ((rr11.ex e12).tx t12).set (q0 + 1) (rB.tx t12)
          rw [BC.set_ad] at rr13
          have hr13 : upd H12 lr (.lst ((wr.set q0 vA).set (q0 + 1) vB)) lr = some (.lst ((wr.set q0 vA).set (q0 + 1) vB)) := upd_same
          have x13 : Ex H3 (upd H12 lr (.lst ((wr.set q0 vA).set (q0 + 1) vB))) := (x11.trans e12).mut nr
          have pt13 := tx_t t12 (tx_t (.of e12) pt11)
          have r9'' := (r9'.ex e12).tx t12
          have r10'' := (r10'.ex e12).tx t12
          have r7'' := (r7'.ex e12).tx t12
          generalize upd H12 lr (.lst ((wr.set q0 vA).set (q0 + 1) vB)) = H13 at *
          have g3 : Gd 1 1 (3 : Rat) := gd_nat (n := 3) (by decide)
          refine s_set (R := fun v H' => RT K H' v (Gr xs ys i t + wOf xs ys q0)) (evq_plus (evq_var rfl r7'') (evq_times (a := 3) (evq_pair (n := 3) (d := 1) (q := 3) Evl.ev_c Evl.ev_c rfl rfl) (evq_times (evq_var rfl r10'') (evq_times (evq_var rfl r9'') (evq_var rfl r9'') (sm1 gpq (by decide)) (sm1 gpq (by decide))) (sm1 gg (by decide)) (sm1 (gpq.mul1 gpq) (by decide))) (sm1 g3 (by decide)) (sm1 (gg.mul1 (gpq.mul1 gpq)) (by decide))) (sm1 gG (by omega)) (sm1 gW (by decide))) fun v14 H14 e14 r14 => ?_
          refine ⟨_, v14, _, _, _, rfl, x13.trans e14, tx_t (.of e14) pt13, e14 _ _ hr13, ?_, ?_⟩
          · rw [hF]
            exact rr13.ex e14
          · rw [hG]
            exact r14
        · have hF : Fr n (pOf xs) i (t + 1) = Fr n (pOf xs) i t := by
            show (if okp n i t = true then ad (pOf xs) (plc i t).toNat (cA i t) (cB i t) (Fr n (pOf xs) i t) else Fr n (pOf xs) i t) = _
            rw [if_neg (by rw [hb]; decide)]
          have hG : Gr xs ys i (t + 1) = Gr xs ys i t := by
            show (if okp xs.length i t = true then Gr xs ys i t + wOf xs ys (plc i t).toNat else Gr xs ys i t) = _
            rw [hn, if_neg (by rw [hb]; decide)]
          rw [hF, hG]
          exact ⟨wr, v7, _, _, _, rfl, e6.trans e7, tx_t (.of e7) hpt6, e7 _ _ hr6, rr6.ex e7, r7.ex e7⟩
      · obtain ⟨wr, v7, y8, y9, y10, rfl, e6, hpt6, hr6, rr6, r7⟩ := h
        have rr6 : RTs K H6 wr ((List.range n).map (Fr n (pOf xs) i 2)) := rr6
        have r7 : RT K H6 v7 (Gr xs ys i 2) := r7
        rw [Fr_two hin] at rr6
        rw [Gr_two (by omega)] at r7
        have hu6 := e6 _ _ hu1
        have hv6 := e6 _ _ hu2
        have lu1 := mt.1
        have lu2 : us2.length = i := by rw [rt.1]; simp
        have nr1 : lr ≠ L1 := fun zz => by
          rw [zz, hu1] at nr
          cases nr
        have nr2 : lr ≠ M2 := fun zz => by
          rw [zz, hu2] at nr
          cases nr
        dsimp only
        refine q_appR hu6 (Evl.ev_var rfl) (evr_is (Evl.ev_var rfl)) (by omega) fun v15 H7 e7 r15 => ?_
        subst r15
        have hu7 := e7 _ _ hu6
        have hv7 : upd H7 L1 (.lst (us1 ++ [.ref lr])) M2 = some (.lst us2) := by
          rw [upd_ne (Ne.symm n12)]
          exact e7 _ _ hv6
        have hr7 : upd H7 L1 (.lst (us1 ++ [.ref lr])) lr = some (.lst wr) := by
          rw [upd_ne nr1]
          exact e7 _ _ hr6
        have t7 : Tx H7 (upd H7 L1 (.lst (us1 ++ [.ref lr]))) := .set hu7
        have hw7 : upd H7 L1 (.lst (us1 ++ [.ref lr])) L1 = some (.lst (us1 ++ [.ref lr])) := upd_same
        have x7 : Ex H (upd H7 L1 (.lst (us1 ++ [.ref lr]))) := ((e3.trans e6).trans e7).mut nL1
        have mt7 : ∀ (k : Nat) v, us1[k]? = some v → ∃ p ws, v = .ref p ∧ p ≠ L1 ∧ p ≠ M2 ∧ upd H7 L1 (.lst (us1 ++ [.ref lr])) p = some (.lst ws) ∧ RTs K (upd H7 L1 (.lst (us1 ++ [.ref lr]))) ws ((List.range n).map (AA n (pOf xs) (rOf xs ys) 0 k)) := fun k v hv => by
          obtain ⟨p, ws, rfl, ne1, ne2, hp, hq⟩ := mt.2 k v hv
          exact ⟨p, ws, rfl, ne1, ne2, by rw [upd_ne ne1]; exact (e6.trans e7) _ _ hp, (hq.ex (e6.trans e7)).tx t7⟩
        have rr7 := (rr6.ex e7).tx t7
        have r77 := (r7.ex e7).tx t7
        have rt7 := (rt.ex (e6.trans e7)).tx t7
        generalize upd H7 L1 (.lst (us1 ++ [.ref lr])) = H8 at *
        refine s_appR hv7 (Evl.ev_var rfl) (evq_var rfl r77) (by omega) fun v16 H9 e9 r16 => ?_
        have hv9 := e9 _ _ hv7
        have t9 : Tx H9 (upd H9 M2 (.lst (us2 ++ [v16]))) := .set hv9
        refine ⟨us1 ++ [.ref lr], us2 ++ [v16], _, _, _, _, _, _, rfl, (x7.trans e9).mut nL2, by rw [upd_ne n12]; exact e9 _ _ hw7, upd_same, ⟨by simp [lu1], fun k v hv => ?_⟩, ?_⟩
        · by_cases hk : k < us1.length
          · rw [List.getElem?_append_left hk] at hv
            obtain ⟨p, ws, rfl, ne1, ne2, hp, hq⟩ := mt7 k v hv
            exact ⟨p, ws, rfl, ne1, ne2, by rw [upd_ne ne2]; exact e9 _ _ hp, (hq.ex e9).tx t9⟩
          · rw [List.getElem?_append_right (by omega)] at hv
            have h0 : k - us1.length = 0 := by
              have := (List.getElem?_eq_some_iff.mp hv).1
              simp at this
              omega
            rw [h0] at hv
            have ev : V.ref lr = v := by simpa using hv
            subst ev
            have ek : k = i := by omega
            subst ek
            have ee : (List.range n).map (row2 n (pOf xs) k) = (List.range n).map (AA n (pOf xs) (rOf xs ys) 0 k) := List.map_congr_left fun j hj => by
              have hj2 := List.mem_range.mp hj
              rw [AA_zero (by omega), row2_eq hin hj2]
            rw [ee] at rr7
            exact ⟨lr, wr, rfl, nr1, nr2, by rw [upd_ne nr2]; exact e9 _ _ hr7, (rr7.ex e9).tx t9⟩
        · rw [List.range_succ, List.map_append]
          refine ((rt7.ex e9).tx t9).app (.one ?_)
          have ea : AA n (pOf xs) (rOf xs ys) 0 i n = rOf xs ys i := by
            rw [AA_zero (Nat.le_refl _)]
            unfold BC.A0
            rw [if_pos rfl]
          show RT K _ v16 (AA n (pOf xs) (rOf xs ys) 0 i n)
          rw [ea]
          exact r16.tx t9
    · obtain ⟨us1, us2, y5, y6, y7, y8, y9, y10, rfl, e3, hu1, hu2, mt, rt⟩ := h
      rw [Int.toNat_natCast] at mt rt
      refine s_ret (evr_call (ear_cons (evr_is (Evl.ev_var rfl)) mn_eq (ear_cons (evr_is (Evl.ev_var rfl)) mn_eq ear_nil)) fun vs H4 e4 hv Q kk => ?_) fun v4 H4 e4 r4 => q v4 H4 (e3.trans e4) r4
      obtain ⟨v, r, rfl, rfl, v2, r2, rfl, rfl, rfl⟩ := hv
      refine ⟨L1, M2, us1, us2, n, _, _, _, rfl, e4 _ _ hu1, ⟨mt.1, fun k v hv => ?_⟩, e4 _ _ hu2, rt.ex e4, sol_of Tr, kk⟩
      obtain ⟨p, ws, rfl, ne1, ne2, hp, hq⟩ := mt.2 k v hv
      exact ⟨p, ws, rfl, e4 _ _ hp, hq.ex e4⟩
end
end BW
/-! BwK: cubics, natural. -/
namespace BW
open PySem PySem.Spec PyProof.Rows L2 BC
open Evl (Ex)
section
variable {P : Program} {w : World} {K : PySem.W.Frag} {mg : Str → Option Value} {base : Heap} {f z o : Addr} {fd : FuncData} {t6 t7 t8 t12 : Tok}
theorem ev_rising {σ : L2.St} {H : Hp} {ta : TE} {xs : List Rat} (ha : EvP K ta σ H xs) (Pl : Places xs) : Evl.Ev (tCall (spRising K) [] E0 (tCons ta tNil)) σ H .non :=
  ev_of (evr_call (ear_cons ha mn_p ear_nil) fun vs H1 _ hv Q p => by
    obtain ⟨v, r, rfl, hr, rfl⟩ := hv
    exact ⟨v, xs, rfl, hr, Pl.two, Pl.few, fun i hi => by have := Pl.up i hi; grind, Pl.gx, p⟩)
theorem ev_needData {σ : L2.St} {H : Hp} {ta tb : TE} {p : Addr} {us : List V} {qs : List Rat} (ha : Evl.Ev ta σ H (.ref p)) (hp : SqT K H p us) (hb : EvP K tb σ H qs) (l : us.length = qs.length) (l2 : qs.length ≤ 1000) : Evl.Ev (tCall (spNeedData K) [] E0 (tCons ta (tCons tb tNil))) σ H .non :=
  ev_of (evr_call (ear_cons (evr_is ha) mn_eq (ear_cons hb mn_p ear_nil)) fun vs H1 e1 hv Q pp => by
    obtain ⟨v, r, rfl, rfl, v2, r2, rfl, hr2, rfl⟩ := hv
    exact ⟨p, us, v2, qs, rfl, tx_t (.of e1) hp, hr2, l, l2, pp⟩)
theorem sc_cubics : FnScope ["places", "data", "slopes"] ["places", "data", "slopes"] (defScope (topS 47)) := ⟨rfl, rfl, rfl, by decide +kernel, rfl, by decide +kernel, by decide +kernel⟩
theorem ok_cubics (F : Fun K "cubics" "cubics" (topS 47) f fd) (C_need_rising : Cl P w K mg base "need_rising" 5 ["value"] (spRising K)) (C_need_data : Cl P w K mg base "need_data" 5 ["nodes", "value"] (spNeedData K)) (C_cubic_pieces : Cl P w K mg base "cubic_pieces" 5 ["places", "data", "slopes"] (spCubic K)) : FnOk P w K mg base CX0 6 f fd ["places", "data", "slopes"] (spCubic K) := by
  have sc := sc_cubics
  refine F.ok sc (fun vs H Q E h => ?_) (fun cdv A0 outer s H vs Q E hr h => ?_)
  · obtain ⟨_, _, _, _, _, _, _, _, rfl, _⟩ := h
    rfl
  · obtain ⟨x, y, sv, xs, ys, ss, d, e, rfl, ⟨p1, us, rfl, hp1, hx⟩, hy, hs, ly, ls, Pl, gy, gs, B, q⟩ := h
    refine ⟨_, (pss_cons (ps_expr (pe_cl C_need_rising hr (by rfl) (pa_cons (pv 0) pa_nil)))
  (pss_cons (ps_expr (pe_cl C_need_data hr (by rfl) (pa_cons (pv 0) (pa_cons (pv 1) pa_nil))))
  (pss_cons (ps_expr (pe_cl C_need_data hr (by rfl) (pa_cons (pv 0) (pa_cons (pv 2) pa_nil))))
  (pss_one (ps_ret (pe_cl C_cubic_pieces hr (by rfl) (pa_cons (pv 0) (pa_cons (pv 1) (pa_cons (pv 2) pa_nil))))))))), ?_⟩
    have l1 := hx.1
    have few := Pl.few
    refine Evl.q_drop (ev_rising (evp_var rfl ⟨p1, us, rfl, hp1, hx⟩) Pl) fun H1 e1 => ?_
    refine Evl.q_drop (ev_needData (qs := ys) (Evl.ev_var rfl) (tx_t (.of e1) hp1) (evp_var rfl (hy.ex e1)) (by omega) (by omega)) fun H2 e2 => ?_
    refine Evl.q_drop (ev_needData (qs := ss) (Evl.ev_var rfl) (tx_t (.of (e1.trans e2)) hp1) (evp_var rfl (hs.ex (e1.trans e2))) (by omega) (by omega)) fun H3 e3 => ?_
    have e13 := (e1.trans e2).trans e3
    refine s_ret (evr_call (ear_cons (evr_is (Evl.ev_var rfl)) mn_eq (ear_cons (evp_var rfl (hy.ex e13)) mn_p (ear_cons (evp_var rfl (hs.ex e13)) mn_p ear_nil))) fun vs H4 e4 hv Q kk => ?_) fun v4 H4 e4 r4 => q v4 H4 (e13.trans e4) r4
    obtain ⟨v, r, rfl, rfl, v2, r2, rfl, hy2, v3, r3, rfl, hs2, rfl⟩ := hv
    exact ⟨_, v2, v3, xs, ys, ss, d, e, rfl, ⟨p1, us, rfl, tx_t (.of (e13.trans e4)) hp1, hx.ex (e13.trans e4)⟩, hy2, hs2, ly, ls, Pl, gy, gs, B, kk⟩
def natOf (xs ys : List Rat) : List Rat := (List.range xs.length).map (XX xs.length (pOf xs) (rOf xs ys))
def spNatural (K : PySem.W.Frag) : Sp := fun vs H Q _ => ∃ (x y : V) (xs ys : List Rat) (a : Nat → Nat), vs = [x, y] ∧ PT K H x xs ∧ PT K H y ys ∧ ys.length = xs.length ∧ Places xs ∧ (∀ q ∈ ys, Gd 1 1 q) ∧ Tri xs.length (pOf xs) (rOf xs ys) a ∧
  Post H Q fun v H' => PCs K H' v (pcsOf xs ys (natOf xs ys))
theorem natOf_gd {xs ys : List Rat} {a : Nat → Nat} (Tr : Tri xs.length (pOf xs) (rOf xs ys) a) : ∀ q ∈ natOf xs ys, Gd (MM xs.length a) 44 q := fun q hq => by
  obtain ⟨i, hi, rfl⟩ := List.mem_map.mp hq
  exact XX_gd Tr (List.mem_range.mp hi)
theorem sc_natural : FnScope ["places", "data"] ["places", "data"] (defScope (topS 48)) := ⟨rfl, rfl, rfl, by decide +kernel, rfl, by decide +kernel, by decide +kernel⟩
theorem ok_natural (F : Fun K "natural" "natural" (topS 48) f fd) (C_need_rising : Cl P w K mg base "need_rising" 5 ["value"] (spRising K)) (C_need_data : Cl P w K mg base "need_data" 5 ["nodes", "value"] (spNeedData K)) (C_cubic_pieces : Cl P w K mg base "cubic_pieces" 5 ["places", "data", "slopes"] (spCubic K)) (C_natural_slopes : Cl P w K mg base "natural_slopes" 5 ["places", "data"] (spNatS K)) : FnOk P w K mg base CX0 6 f fd ["places", "data"] (spNatural K) := by
  have sc := sc_natural
  refine F.ok sc (fun vs H Q E h => ?_) (fun cdv A0 outer s H vs Q E hr h => ?_)
  · obtain ⟨_, _, _, _, _, rfl, _⟩ := h
    rfl
  · obtain ⟨x, y, xs, ys, a, rfl, ⟨p1, us, rfl, hp1, hx⟩, hy, ly, Pl, gy, Tr, q⟩ := h
    refine ⟨_, (pss_cons (ps_expr (pe_cl C_need_rising hr (by rfl) (pa_cons (pv 0) pa_nil)))
  (pss_cons (ps_expr (pe_cl C_need_data hr (by rfl) (pa_cons (pv 0) (pa_cons (pv 1) pa_nil))))
  (pss_one (ps_ret (pe_cl C_cubic_pieces hr (by rfl) (pa_cons (pv 0) (pa_cons (pv 1) (pa_cons (pe_cl C_natural_slopes hr (by rfl) (pa_cons (pv 0) (pa_cons (pv 1) pa_nil))) pa_nil)))))))), ?_⟩
    have l1 := hx.1
    have few := Pl.few
    refine Evl.q_drop (ev_rising (evp_var rfl ⟨p1, us, rfl, hp1, hx⟩) Pl) fun H1 e1 => ?_
    refine Evl.q_drop (ev_needData (qs := ys) (Evl.ev_var rfl) (tx_t (.of e1) hp1) (evp_var rfl (hy.ex e1)) (by omega) (by omega)) fun H2 e2 => ?_
    have e12 := e1.trans e2
    have hx2 : PT K H2 (.ref p1) xs := ⟨p1, us, rfl, tx_t (.of e12) hp1, hx.ex e12⟩
    have evn : EvP K (tCall (spNatS K) [] E0 (tCons (tVar 0) (tCons (tVar 1) tNil))) [some (.ref p1), some y] H2 (natOf xs ys) :=
      evr_call (ear_cons (evp_var rfl hx2) mn_p (ear_cons (evp_var rfl (hy.ex e12)) mn_p ear_nil)) fun vs H4 e4 hv Q kk => by
        obtain ⟨v, r, rfl, hr1, v2, r2, rfl, hr2, rfl⟩ := hv
        exact ⟨v, v2, xs, ys, a, rfl, hr1, hr2, ly, Pl, gy, Tr, kk⟩
    refine s_ret (evr_call (ear_cons (evp_var rfl hx2) mn_p (ear_cons (evp_var rfl (hy.ex e12)) mn_p (ear_cons evn mn_p ear_nil))) fun vs H4 e4 hv Q kk => ?_) fun v4 H4 e4 r4 => q v4 H4 (e12.trans e4) r4
    obtain ⟨v, r, rfl, hx3, v2, r2, rfl, hy3, v3, r3, rfl, hs3, rfl⟩ := hv
    exact ⟨v, v2, v3, xs, ys, natOf xs ys, MM xs.length a, 44, rfl, hx3, hy3, hs3, ly, by simp [natOf], Pl, fun q hq => (gy q hq).up1 (by decide) (MM_pos Tr), natOf_gd Tr, MM_bd Tr (by decide), kk⟩
end
end BW
/-! BwL: the law's draws and ratios. -/
namespace BW
open PySem PySem.Spec PyProof.Rows L2 BC
open Evl (Ex)
/-- the script, which no draw changes -/
def Scr (K : PySem.W.Frag) (H : Hp) (R S : Addr) (zs : List Int) : Prop := (R ≠ S ∧ Rd H S (.lst (zs.map V.int))) ∨ ∃ (o : Obj) (its : Array Value) (n : Nat), K.lookup S = some o ∧ o.cls = .type "list" ∧ o.dict = none ∧ o.data = .seq its n ∧ its.size ≤ sizeLine ∧ Vals (zs.map V.int) its.toList
section
variable {K : PySem.W.Frag} {H H' H0 : Hp} {R S L : Addr} {zs : List Int}
theorem Scr.sq (h : Scr K H R S zs) : SqL K H S (zs.map V.int) := by
  rcases h with ⟨_, h⟩ | h
  · exact .inl h
  · exact .inr h
theorem Scr.fx (h : Scr K H R S zs) (f : Fx R H H') : Scr K H' R S zs := by
  rcases h with ⟨n, h | ⟨o, h⟩⟩ | h
  · exact .inl ⟨n, .inl (f S _ (Ne.symm n) h)⟩
  · exact .inl ⟨n, .inr ⟨o, f S _ (Ne.symm n) h⟩⟩
  · exact .inr h
theorem Scr.mut (h0 : Scr K H0 R S zs) (n : H0 L = none) (h : Scr K H R S zs) {u : HO} : Scr K (upd H L u) R S zs := by
  rcases h0 with ⟨_, h0⟩ | h0
  · have ne : S ≠ L := fun e => by
      rcases h0 with h0 | ⟨o, h0⟩
      · rw [e, n] at h0
        cases h0
      · rw [e, n] at h0
        cases h0
    rcases h with ⟨m, h | ⟨o, h⟩⟩ | h
    · exact .inl ⟨m, .inl (by rw [upd_ne ne]; exact h)⟩
    · exact .inl ⟨m, .inr ⟨o, by rw [upd_ne ne]; exact h⟩⟩
    · exact .inr h
  · exact .inr h0
/-- the row of draws: the script, the cells taken, the seed, what is left -/
def Dr (K : PySem.W.Frag) (H : Hp) (R S : Addr) (zs : List Int) : Prop := ∃ c s r : Int, Scr K H R S zs ∧ H R = some (.lst [.ref S, .int c, .int s, .int r]) ∧ 0 ≤ c ∧ 0 ≤ s ∧ s < 2147483647
theorem Dr.ex (h : Dr K H R S zs) (e : Ex H H') : Dr K H' R S zs := by
  obtain ⟨c, s, r, h2, h3, h4⟩ := h
  exact ⟨c, s, r, h2.fx (.ex e), e _ _ h3, h4⟩
theorem Dr.lst (h : Dr K H R S zs) : ∃ xs, H R = some (.lst xs) := by
  obtain ⟨c, s, r, h2, h3, h4⟩ := h
  exact ⟨_, h3⟩
theorem Dr.tx (h : Dr K H R S zs) (f : Fx R H H') : Tx H H' := by
  obtain ⟨xs, h⟩ := h.lst
  exact f.tx h
/-- a list not yet there when the row was -/
theorem Dr.mut (h0 : Dr K H0 R S zs) (n : H0 L = none) (h : Dr K H R S zs) {u : HO} : Dr K (upd H L u) R S zs := by
  obtain ⟨c, s, r, h2, h3, h4⟩ := h
  obtain ⟨xs, hx⟩ := h0.lst
  obtain ⟨_, _, _, k2, _⟩ := h0
  exact ⟨c, s, r, k2.mut n h2, by rw [upd_ne fun e => by rw [e, n] at hx; cases hx]; exact h3, h4⟩
end
def rInt1 : List V → Hp → VK → Prop := fun xs H Q => (∃ i, xs = [.int i] ∧ Q (.int i) H) ∨ ∃ k, xs = [.bl k] ∧ Q (.int (if k then 1 else 0)) H
section
variable {K : PySem.W.Frag} {σ : L2.St} {H : Hp} {ta tb te : TE} {D : Ends} {tz : TS} {v : V}
theorem ev_int1 {i : Int} (ha : Evl.Ev ta σ H (.int i)) : Evl.Ev (tCB rInt1 (tCons ta tNil)) σ H (.int i) := fun H1 e1 Q q => ha H1 e1 _ fun H2 e2 => .inl ⟨i, rfl, q H2 e2⟩
theorem s_setV {l : Addr} {ws : List V} {j : Nat} (hl : H l = some (.lst ws)) (h : Evl.Ev te σ H v) (ho : Evl.Ev ta σ H (.ref l)) (hi : Evl.Ev tb σ H (.int (j : Int))) (hj : j < ws.length) (k : ∀ H1, Ex H H1 → D.nx σ (upd H1 l (.lst (ws.set j v)))) : tAsg te (gSub ta tb rSetL) D σ H :=
  h H (Ex.refl H) _ fun H1 e1 => ho H1 e1 _ fun H2 e2 => hi H2 (e1.trans e2) _ fun H3 e3 => ⟨l, ws, (j : Int), j, rfl, rfl, ((e1.trans e2).trans e3) l _ hl, ixn hj, k H3 ((e1.trans e2).trans e3)⟩
theorem q_setV {l : Addr} {ws : List V} {j : Nat} (hl : H l = some (.lst ws)) (h : Evl.Ev te σ H v) (ho : Evl.Ev ta σ H (.ref l)) (hi : Evl.Ev tb σ H (.int (j : Int))) (hj : j < ws.length) (k : ∀ H1, Ex H H1 → tz D σ (upd H1 l (.lst (ws.set j v)))) : tSeq (tAsg te (gSub ta tb rSetL)) tz D σ H := s_setV (D := { D with nx := tz D }) hl h ho hi hj k
end
section
variable {P : Program} {w : World} {K : PySem.W.Frag} {mg : Str → Option Value} {base : Heap} {f z o : Addr} {fd : FuncData} {t6 t7 t8 t12 : Tok}

/-! ### _law_taken -/
def spTaken (K : PySem.W.Frag) : Sp := fun vs H Q _ => ∃ (R S : Addr) (zs : List Int) (m : Nat), vs = [.ref R, .int (m : Int)] ∧ Dr K H R S zs ∧ 0 < m ∧ m ≤ 1000 ∧ ∀ (t : Nat) H', t < m → Fx R H H' → Dr K H' R S zs → Q (.int (t : Int)) H'
theorem sc__law_taken : FnScope ["_law_row", "_law_many", "_law_found", "_law_cell"] ["_law_row", "_law_many"] (defScope (topS 51)) := ⟨rfl, rfl, rfl, by decide +kernel, rfl, by decide +kernel, by decide +kernel⟩
theorem ok__law_taken (F : Fun K "_law_taken" "_law_taken" (topS 51) f fd) (T : Top K mg z o t6 t7 t8 t12) : FnOk P w K mg base CX0 1 f fd ["_law_row", "_law_many"] (spTaken K) := by
  have sc := sc__law_taken
  refine F.ok sc (fun vs H Q E h => ?_) (fun cdv A0 outer s0 H vs Q E hr h => ?_)
  · obtain ⟨_, _, _, _, rfl, _⟩ := h
    rfl
  · obtain ⟨R, S, zs, m, rfl, ⟨c, s, r, hS, hR, c0, s0', s1⟩, m0, m1, q⟩ := h
    refine ⟨_, (pss_cons (ps_if (pt_cmpR op_gt (pe_ix ix_list (pv 0) pe_int (fun _ _ => rfl)) pe_int (nomark _))
    (pss_cons (ps_set (i := 2) sc.nd rfl (by first | exact Or.inl rfl | exact Or.inr rfl) (pe_op op_mod (pe_callTy call_int1 (by rfl) T.int (by decide +kernel) (pa_cons (pe_ix ix_list (pv 0) pe_int (fun _ _ => rfl)) pa_nil)) (pv 1)))
    (pss_cons (ps_asg (pe_op op_fdivW (pe_ix ix_list (pv 0) pe_int (fun _ _ => rfl)) (pv 1)) (pg_sub (pv 0) pe_int set_list))
    (pss_one (ps_ret (pv 2))))) pss_nil)
  (pss_cons (ps_asg (pe_op op_add (pe_ix ix_list (pv 0) pe_int (fun _ _ => rfl)) pe_int) (pg_sub (pv 0) pe_int set_list))
  (pss_cons (ps_if (pt_cmpR op_gt (pe_ix ix_list (pv 0) pe_int (fun _ _ => rfl)) (pe_callB call_len_seq (by rfl) T.len (by decide +kernel) (pa_cons (pe_ix ix_list (pv 0) pe_int (fun _ _ => rfl)) pa_nil)) (nomark _))
    (pss_cons (ps_asg (pe_op op_mod (pe_callTy call_int1 (by rfl) T.int (by decide +kernel) (pa_cons (pe_op op_add (pe_op op_mulW (pe_ix ix_list (pv 0) pe_int (fun _ _ => rfl)) pe_int) pe_int) pa_nil)) pe_int) (pg_sub (pv 0) pe_int set_list))
    (pss_one (ps_ret (pe_op op_mod (pe_callTy call_int1 (by rfl) T.int (by decide +kernel) (pa_cons (pe_op op_fdivW (pe_ix ix_list (pv 0) pe_int (fun _ _ => rfl)) pe_int) pa_nil)) (pv 1))))) pss_nil)
  (pss_cons (ps_set (i := 3) sc.nd rfl (by first | exact Or.inl rfl | exact Or.inr rfl) (pe_ix ix_list (pe_ix ix_list (pv 0) pe_int (fun _ _ => rfl)) (pe_op op_sub (pe_ix ix_list (pv 0) pe_int (fun _ _ => rfl)) pe_int) (fun _ _ => rfl)))
  (pss_cons (ps_asg (pe_op op_mod (pe_callTy call_int1 (by rfl) T.int (by decide +kernel) (pa_cons (pe_op op_add (pe_op op_add (pe_op op_mulW (pe_ix ix_list (pv 0) pe_int (fun _ _ => rfl)) pe_int) (pv 3)) pe_int) pa_nil)) pe_int) (pg_sub (pv 0) pe_int set_list))
  (pss_cons (ps_if (pt_cmpR op_ge (pv 3) (pe_op op_pow pe_int pe_int) (nomark _))
    (pss_one (ps_asg (pe_op op_fdivW (pv 3) (pv 1)) (pg_sub (pv 0) pe_int set_list))) pss_nil)
  (pss_one (ps_ret (pe_op op_mod (pe_callTy call_int1 (by rfl) T.int (by decide +kernel) (pa_cons (pv 3) pa_nil)) (pv 1)))))))))), ?_⟩
    have mp : (0 : Int) < (m : Int) := by omega
    have cdm : ∀ i : Int, CDivW i (m : Int) := fun i => wide_div (b := 10) mp (by omega) (by decide) (by decide)
    have rest : ∀ i : Int, ∃ t : Nat, i % (m : Int) = (t : Int) ∧ t < m := fun i => by
      have h1 := Int.emod_nonneg i (b := (m : Int)) (by omega)
      have h2 := Int.emod_lt_of_pos i mp
      exact ⟨(i % (m : Int)).toNat, by omega, by omega⟩
    have seed : ∀ i : Int, 0 ≤ i % 2147483647 ∧ i % 2147483647 < 2147483647 := fun i => ⟨Int.emod_nonneg i (by decide), Int.emod_lt_of_pos i (by decide)⟩
    have cm : CMulW s 48271 := wide_mul (a := 31) (b := 31) (by omega) (by decide) (by decide) (by decide) (by decide)
    have ix : ∀ {σ : L2.St} {H' : Hp} {vs : List V} {j : Nat} {v : V}, σ[0]? = some (some (.ref R)) → H' R = some (.lst vs) → vs[j]? = some v → Evl.Ev (tOp (rIxL K) (tVar 0) (tC (.int (j : Int)))) σ H' v := fun h0 h1 h2 => Evl.ev_op (Evl.ev_var h0) Evl.ev_c (Evl.rv_ixL (.inl (.inl h1)) (atI_nat h2))
    refine Evl.q_when (b := decide (0 < r)) (Evl.et_test (Evl.ev_op (ix (j := 3) rfl hR rfl) Evl.ev_c Evl.rv_I0)) (fun hb H1 e1 => ?_) fun hb H1 e1 => ?_
    · have hR1 := e1 _ _ hR
      obtain ⟨t, ht, htm⟩ := rest r
      refine Evl.q_asg (Evl.ev_op (ev_int1 (ix (j := 3) rfl hR1 rfl)) (Evl.ev_var rfl) (Evl.rv_I (C := fun _ j => 0 < j) mp)) fun H2 e2 => ?_
      have hR2 := e2 _ _ hR1
      refine q_setV (j := 3) hR2 (Evl.ev_op (ix (j := 3) rfl hR2 rfl) (Evl.ev_var rfl) (Evl.rv_I (cdm r))) (Evl.ev_var rfl) Evl.ev_c (by simp) fun H3 e3 => ?_
      refine Evl.s_ret (Evl.ev_var rfl) fun H4 e4 => ?_
      rw [ht]
      refine q t H4 htm (((Fx.ex ((e1.trans e2).trans e3)).trans Fx.set).trans (.ex e4)) ?_
      exact ⟨c, s, _, hS.fx (((Fx.ex ((e1.trans e2).trans e3)).trans Fx.set).trans (.ex e4)), e4 _ _ upd_same, c0, s0', s1⟩
    · have hR1 := e1 _ _ hR
      have hS1 := hS.fx (.ex e1)
      refine q_setV (j := 1) hR1 (Evl.ev_op (ix (j := 1) rfl hR1 rfl) Evl.ev_c Evl.rv_I0) (Evl.ev_var rfl) Evl.ev_c (by simp) fun H2 e2 => ?_
      have hS2 : Scr K (upd H2 R (.lst [.ref S, .int (c + 1), .int s, .int r])) R S zs := hS1.fx ((Fx.ex e2).trans Fx.set)
      have hR2 : upd H2 R (.lst [.ref S, .int (c + 1), .int s, .int r]) R = some (.lst [.ref S, .int (c + 1), .int s, .int r]) := upd_same
      have f2 : Fx R H (upd H2 R (.lst [.ref S, .int (c + 1), .int s, .int r])) := (Fx.ex (e1.trans e2)).trans Fx.set
      show tSeq (tIfS _ _ tNext) _ _ _ (upd H2 R (.lst [.ref S, .int (c + 1), .int s, .int r]))
      generalize upd H2 R (.lst [.ref S, .int (c + 1), .int s, .int r]) = H3 at *
      have lz : (zs.map V.int).length = zs.length := by simp
      refine Evl.q_when (b := decide (((zs.map V.int).length : Int) < c + 1)) (Evl.et_test (Evl.ev_op (ix (j := 1) rfl hR2 rfl) (ev_lenL (ix (j := 0) rfl hR2 rfl) hS2.sq) Evl.rv_I0)) (fun hb H4 e4 => ?_) fun hb H4 e4 => ?_
      · have hR4 := e4 _ _ hR2
        have hS4 := hS2.fx (.ex e4)
        have sd := seed (s * 48271 + 11)
        refine q_setV (j := 2) hR4 (Evl.ev_op (ev_int1 (Evl.ev_op (Evl.ev_op (ix (j := 2) rfl hR4 rfl) Evl.ev_c (Evl.rv_I cm)) Evl.ev_c Evl.rv_I0)) Evl.ev_c (Evl.rv_I (C := fun _ j => 0 < j) (by decide))) (Evl.ev_var rfl) Evl.ev_c (by simp) fun H5 e5 => ?_
        have hS6 : Scr K (upd H5 R (.lst [.ref S, .int (c + 1), .int ((s * 48271 + 11) % 2147483647), .int r])) R S zs := hS4.fx ((Fx.ex e5).trans Fx.set)
        have hR6 : upd H5 R (.lst [.ref S, .int (c + 1), .int ((s * 48271 + 11) % 2147483647), .int r]) R = some (.lst [.ref S, .int (c + 1), .int ((s * 48271 + 11) % 2147483647), .int r]) := upd_same
        have f6 : Fx R H (upd H5 R (.lst [.ref S, .int (c + 1), .int ((s * 48271 + 11) % 2147483647), .int r])) := (f2.trans (Fx.ex (e4.trans e5))).trans Fx.set
        show tRet _ _ _ (upd H5 R (.lst [.ref S, .int (c + 1), .int ((s * 48271 + 11) % 2147483647), .int r]))
        generalize upd H5 R (.lst [.ref S, .int (c + 1), .int ((s * 48271 + 11) % 2147483647), .int r]) = H6 at *
        obtain ⟨t, ht, htm⟩ := rest ((s * 48271 + 11) % 2147483647 / 7)
        refine Evl.s_ret (Evl.ev_op (ev_int1 (Evl.ev_op (ix (j := 2) rfl hR6 rfl) Evl.ev_c (Evl.rv_I (wide_div (b := 3) (by decide) (by decide) (by decide) (by decide))))) (Evl.ev_var rfl) (Evl.rv_I (C := fun _ j => 0 < j) mp)) fun H7 e7 => ?_
        rw [ht]
        exact q t H7 htm (f6.trans (.ex e7)) ⟨c + 1, _, r, hS6.fx (.ex e7), e7 _ _ hR6, by omega, sd.1, sd.2⟩
      · have hR4 := e4 _ _ hR2
        have hS4 := hS2.fx (.ex e4)
        have hc : ¬ ((zs.map V.int).length : Int) < c + 1 := of_decide_eq_false hb
        obtain ⟨cn, hcn⟩ : ∃ cn : Nat, c = (cn : Int) := ⟨c.toNat, by omega⟩
        have hlt : cn < zs.length := by omega
        have hcell : (zs.map V.int)[cn]? = some (.int zs[cn]) := by
          rw [List.getElem?_map, List.getElem?_eq_getElem hlt]
          rfl
        generalize zs[cn] = cell at hcell
        refine Evl.q_asg (v := .int cell) (Evl.ev_op (ix (j := 0) rfl hR4 rfl) (Evl.ev_op (ix (j := 1) rfl hR4 rfl) Evl.ev_c Evl.rv_I0) (Evl.rv_ixL hS4.sq (at_of (j := cn) (by omega) hcell))) fun H5 e5 => ?_
        have hR5 := e5 _ _ hR4
        have hS5 := hS4.fx (.ex e5)
        have sd := seed (s * 48271 + cell + 11)
        refine q_setV (j := 2) hR5 (Evl.ev_op (ev_int1 (Evl.ev_op (Evl.ev_op (Evl.ev_op (ix (j := 2) rfl hR5 rfl) Evl.ev_c (Evl.rv_I cm)) (Evl.ev_var rfl) Evl.rv_I0) Evl.ev_c Evl.rv_I0)) Evl.ev_c (Evl.rv_I (C := fun _ j => 0 < j) (by decide))) (Evl.ev_var rfl) Evl.ev_c (by simp) fun H6 e6 => ?_
        have hS7 : Scr K (upd H6 R (.lst [.ref S, .int (c + 1), .int ((s * 48271 + cell + 11) % 2147483647), .int r])) R S zs := hS5.fx ((Fx.ex e6).trans Fx.set)
        have hR7 : upd H6 R (.lst [.ref S, .int (c + 1), .int ((s * 48271 + cell + 11) % 2147483647), .int r]) R = some (.lst [.ref S, .int (c + 1), .int ((s * 48271 + cell + 11) % 2147483647), .int r]) := upd_same
        have f7 : Fx R H (upd H6 R (.lst [.ref S, .int (c + 1), .int ((s * 48271 + cell + 11) % 2147483647), .int r])) := (f2.trans (Fx.ex ((e4.trans e5).trans e6))).trans Fx.set
        show tSeq (tIfS _ _ tNext) _ _ _ (upd H6 R (.lst [.ref S, .int (c + 1), .int ((s * 48271 + cell + 11) % 2147483647), .int r]))
        generalize upd H6 R (.lst [.ref S, .int (c + 1), .int ((s * 48271 + cell + 11) % 2147483647), .int r]) = H7 at *
        obtain ⟨t, ht, htm⟩ := rest cell
        refine Evl.q_when (b := decide ((10 : Int) ^ 18 ≤ cell)) (Evl.et_test (Evl.ev_op (Evl.ev_var rfl) (Evl.ev_op Evl.ev_c Evl.ev_c (Evl.rv_I (C := CPow) ⟨by decide, by decide, by decide⟩)) Evl.rv_I0)) (fun hb H8 e8 => ?_) fun hb H8 e8 => ?_
        · have hR8 := e8 _ _ hR7
          refine s_setV (j := 3) hR8 (Evl.ev_op (Evl.ev_var rfl) (Evl.ev_var rfl) (Evl.rv_I (cdm cell))) (Evl.ev_var rfl) Evl.ev_c (by simp) fun H9 e9 => ?_
          refine Evl.s_ret (Evl.ev_op (ev_int1 (Evl.ev_var rfl)) (Evl.ev_var rfl) (Evl.rv_I (C := fun _ j => 0 < j) mp)) fun H10 e10 => ?_
          rw [ht]
          refine q t H10 htm (((f7.trans (.ex (e8.trans e9))).trans Fx.set).trans (.ex e10)) ⟨c + 1, _, _, hS7.fx (((Fx.ex (e8.trans e9)).trans Fx.set).trans (.ex e10)), e10 _ _ upd_same, by omega, sd.1, sd.2⟩
        · refine Evl.s_ret (Evl.ev_op (ev_int1 (Evl.ev_var rfl)) (Evl.ev_var rfl) (Evl.rv_I (C := fun _ j => 0 < j) mp)) fun H10 e10 => ?_
          rw [ht]
          exact q t H10 htm (f7.trans (.ex (e8.trans e10))) ⟨c + 1, _, r, hS7.fx (.ex (e8.trans e10)), (e8.trans e10) _ _ hR7, by omega, sd.1, sd.2⟩

/-! ### _law_pick -/
def spPick (K : PySem.W.Frag) : Sp := fun vs H Q _ => ∃ (R S L : Addr) (zs : List Int) (ws : List V), vs = [.ref R, .ref L] ∧ Dr K H R S zs ∧ L ≠ R ∧ H L = some (.lst ws) ∧ 0 < ws.length ∧ ws.length ≤ 1000 ∧ ∀ (t : Nat) v H', ws[t]? = some v → Fx R H H' → Dr K H' R S zs → Q v H'
theorem sc__law_pick : FnScope ["_law_row", "_law_things"] ["_law_row", "_law_things"] (defScope (topS 52)) := ⟨rfl, rfl, rfl, by decide +kernel, rfl, by decide +kernel, by decide +kernel⟩
theorem ok__law_pick (F : Fun K "_law_pick" "_law_pick" (topS 52) f fd) (T : Top K mg z o t6 t7 t8 t12) (C__law_taken : Cl P w K mg base "_law_taken" 1 ["_law_row", "_law_many"] (spTaken K)) : FnOk P w K mg base CX0 2 f fd ["_law_row", "_law_things"] (spPick K) := by
  have sc := sc__law_pick
  refine F.ok sc (fun vs H Q E h => ?_) (fun cdv A0 outer s0 H vs Q E hr h => ?_)
  · obtain ⟨_, _, _, _, _, rfl, _⟩ := h
    rfl
  · obtain ⟨R, S, L, zs, ws, rfl, hD, nLR, hL, w0, w1, q⟩ := h
    refine ⟨_, (pss_one (ps_ret (pe_ix ix_list (pv 1) (pe_cl C__law_taken hr (by rfl) (pa_cons (pv 0) (pa_cons (pe_callB call_len_seq (by rfl) T.len (by decide +kernel) (pa_cons (pv 1) pa_nil)) pa_nil))) (fun _ _ => rfl)))), ?_⟩
    refine ⟨_, rfl, _, rfl, ev_lenL (K := K) (Evl.ev_var rfl) (.inl (.inl hL)) H (Ex.refl H) _ fun H1 e1 => ⟨R, S, zs, ws.length, rfl, hD.ex e1, w0, w1, fun t H' ht fx hd => ?_⟩⟩
    have hL' := fx L _ nLR (e1 _ _ hL)
    have hv : ws[t]? = some ws[t] := List.getElem?_eq_getElem ht
    exact ⟨L, ws, (t : Int), ws[t], rfl, rfl, .inl (.inl hL'), atI_nat hv, q t _ H' hv ((Fx.ex e1).trans fx) hd⟩
end
end BW
/-! BwM: the law's ratios. -/
namespace BW
open PySem PySem.Spec PyProof.Rows L2 BC
open Evl (Ex)
section
variable {P : Program} {w : World} {K : PySem.W.Frag} {mg : Str → Option Value} {base : Heap} {f z o : Addr} {fd : FuncData} {t6 t7 t8 t12 : Tok}
/-! ### _law_made -/
theorem gcd_step (a b : Nat) : Nat.gcd b (a % b) = Nat.gcd a b := by
  rw [Nat.gcd_comm b, ← Nat.gcd_rec, Nat.gcd_comm]
theorem sc__law_made : FnScope ["_law_top", "_law_low", "_law_one", "_law_other", "_law_turn"] ["_law_top", "_law_low"] (defScope (topS 54)) := ⟨rfl, rfl, rfl, by decide +kernel, rfl, by decide +kernel, by decide +kernel⟩
theorem ok__law_made (F : Fun K "_law_made" "_law_made" (topS 54) f fd) (T : Top K mg z o t6 t7 t8 t12) : FnOk P w K mg base CX0 1 f fd ["_law_top", "_law_low"] (spMade K) := by
  have sc := sc__law_made
  refine F.ok sc (fun vs H Q E h => ?_) (fun cdv A outer s H vs Q E hr h => ?_)
  · obtain ⟨t, l, rfl, _⟩ := h
    rfl
  · obtain ⟨t, l, rfl, hl, hsz, q⟩ := h
    refine ⟨_, (pss_cons (ps_par (i := 2) (j := 3) rfl sc.nd rfl rfl (by decide) rfl rfl (pa_cons (pe_callB call_abs (by rfl) T.abs (by decide +kernel) (pa_cons (pv 0) pa_nil)) (pa_cons (pe_callB call_abs (by rfl) T.abs (by decide +kernel) (pa_cons (pv 1) pa_nil)) pa_nil)) (by rfl))
  (pss_cons (ps_for PassesOwn.never rfl (pi_range1 (by rfl) T.range (pa_cons pe_int pa_nil)) (pg_name (i := 4) sc.nd rfl (by first | exact Or.inl rfl | exact Or.inr rfl))
    (pss_cons (ps_if (pt_cmpR op_eq (pv 3) pe_int (nomark _))
      (pss_one ps_break) pss_nil)
    (pss_one (ps_par (i := 2) (j := 3) rfl sc.nd rfl rfl (by decide) rfl rfl (pa_cons (pv 3) (pa_cons (pe_op op_mod (pv 2) (pv 3)) pa_nil)) (by rfl)))))
  (pss_cons (ps_set (i := 2) sc.nd rfl (by first | exact Or.inl rfl | exact Or.inr rfl) (pe_ifExp (pt_cmpR op_lt (pv 1) pe_int (nomark _)) (pe_op op_sub pe_int (pv 2)) (pv 2)))
  (pss_one (ps_ret (pe_tup (pa_cons (pe_op op_fdivW (pv 0) (pv 2)) (pa_cons (pe_op op_fdivW (pv 1) (pv 2)) pa_nil)))))))), ?_⟩
    have hg := gcd_pos (t := t) hl
    have hgl := gcd_le (t := t) hl
    have cd : ∀ i : Int, CDivW i ((Nat.gcd t.natAbs l.natAbs : Nat) : Int) := fun i => wide_div (b := 6000) hg (Nat.lt_of_le_of_lt hgl hsz) (by decide) (by decide)
    have nab : ∀ i : Int, (if i < 0 then -i else i) = ((i.natAbs : Nat) : Int) := fun i => by
      by_cases h : i < 0
      · rw [if_pos h]
        omega
      · rw [if_neg h]
        omega
    have fin : ∀ (D : L2.Ends) (a : Nat) (y3 y4 : Option V) (H1 : Hp), D.rt = Q → Ex H H1 → a = Nat.gcd t.natAbs l.natAbs → tSeq (tAsg (tIf (tTest (tOp (rI0 fun i j => .bl (decide (i < j))) (tVar 1) (tC (.int 0)))) (tOp (rI0 fun i j => .int (i - j)) (tC (.int 0)) (tVar 2)) (tVar 2)) (gName 2)) (tRet (tTup (tCons (tOp (rI CDivW fun i j => .int (i / j)) (tVar 0) (tVar 2)) (tCons (tOp (rI CDivW fun i j => .int (i / j)) (tVar 1) (tVar 2)) tNil)))) D [some (.int t), some (.int l), some (.int (a : Int)), y3, y4] H1 := fun D a y3 y4 H1 hD e1 ha => by
      subst ha
      refine Evl.q_asg (v := .int ((Nat.gcd t.natAbs l.natAbs : Nat) : Int)) (Evl.ev_if (b := false) (Evl.et_test (Evl.ev_is (Evl.ev_op (Evl.ev_var rfl) Evl.ev_c Evl.rv_I0) (by rw [decide_eq_false (by omega)]))) (fun h => nomatch h) fun _ => Evl.ev_var rfl) fun H2 e2 => ?_
      refine ⟨_, rfl, _, rfl, _, _, rfl, rfl, cd _, _, rfl, _, rfl, _, _, rfl, rfl, cd _, by show 2 ≤ sizeLine; decide, fun p hp => ?_⟩
      rw [hD]
      exact q _ _ ((e1.trans e2).trans (Ex.new hp)) (RT.new (made_num hl) (made_den hl))
    refine ⟨_, rfl, t, rfl, _, rfl, l, rfl, _, _, rfl, ?_⟩
    show tSeq _ _ _ [some (.int t), some (.int l), some (.int (if t < 0 then -t else t)), some (.int (if l < 0 then -l else l)), none] H
    rw [nab t, nab l]
    refine Evl.q_forR1 (n := 10000) (Evl.ea_cons Evl.ev_c Evl.ea_nil) (by decide)
      (fun k σ H' => ∃ (a b : Nat) (y4 : Option V), σ = [some (.int t), some (.int l), some (.int (a : Int)), some (.int (b : Int)), y4] ∧ Ex H H' ∧ Nat.gcd a b = Nat.gcd t.natAbs l.natAbs ∧ BC.Ends (10000 - k) a b)
      (fun H1 e1 => ⟨t.natAbs, l.natAbs, none, rfl, e1, rfl, ends_big (Nat.lt_trans hsz (Nat.pow_lt_pow_right (by decide) (by decide)))⟩) (fun k σ H1 hk h => ?_) fun σ H1 h => ?_
    · obtain ⟨a, b, y4, rfl, e1, hgcd, he⟩ := h
      by_cases hb : b = 0
      · subst hb
        refine Evl.q_when (b := true) (Evl.et_test (Evl.ev_is (Evl.ev_op (Evl.ev_var rfl) Evl.ev_c (Evl.rv_eq rfl)) (by rfl))) (fun _ H2 e2 => ?_) (fun h => nomatch h)
        exact fin _ a _ _ H2 rfl (e1.trans e2) (by rw [← hgcd, Nat.gcd_zero_right])
      · refine Evl.q_when (b := false) (Evl.et_test (Evl.ev_is (Evl.ev_op (Evl.ev_var rfl) Evl.ev_c (Evl.rv_eq rfl)) ?_)) (fun h => nomatch h) fun _ H2 e2 => ?_
        · show V.bl (decide (V.int (b : Int) = V.int 0)) = V.bl false
          rw [decide_eq_false fun z => hb (by have := V.int.inj z; omega)]
        · refine ⟨_, rfl, _, rfl, _, rfl, (a : Int), (b : Int), rfl, rfl, (by show (0 : Int) < (b : Int); omega), _, _, rfl, b, a % b, _, rfl, e1.trans e2, by rw [gcd_step, hgcd], ?_⟩
          have h2 : 10000 - k = (10000 - (k + 1)) + 1 := by omega
          rw [h2] at he
          rcases he with he | he
          · exact absurd he hb
          · exact he
    · obtain ⟨a, b, y4, rfl, e1, hgcd, he⟩ := h
      have hb : b = 0 := he
      subst hb
      exact fin _ a _ _ H1 rfl e1 (by rw [← hgcd, Nat.gcd_zero_right])
theorem sc__law_plus : FnScope ["_law_one", "_law_other"] ["_law_one", "_law_other"] (defScope (topS 55)) := ⟨rfl, rfl, rfl, by decide +kernel, rfl, by decide +kernel, by decide +kernel⟩
theorem ok__law_plus (F : Fun K "_law_plus" "_law_plus" (topS 55) f fd) (C__law_made : Cl P w K mg base "_law_made" 1 ["_law_top", "_law_low"] (spMade K)) : FnOk P w K mg base CX0 2 f fd ["_law_one", "_law_other"] (spPlus K) := by
  have sc := sc__law_plus
  refine F.ok sc spBin_len (fun cdv A outer s H vs Q E hr h => ?_)
  obtain ⟨x, y, a, b, rfl, ⟨p, rfl, ha⟩, ⟨r, rfl, hb⟩, sa, sb, _, q⟩ := h
  refine ⟨_, (pss_one (ps_ret (pe_cl C__law_made hr (by rfl) (pa_cons (pe_op op_add (pe_op op_mulW (pe_ix ix_tup (pv 0) pe_int (fun _ _ => rfl)) (pe_ix ix_tup (pv 1) pe_int (fun _ _ => rfl))) (pe_op op_mulW (pe_ix ix_tup (pv 1) pe_int (fun _ _ => rfl)) (pe_ix ix_tup (pv 0) pe_int (fun _ _ => rfl)))) (pa_cons (pe_op op_mulW (pe_ix ix_tup (pv 0) pe_int (fun _ _ => rfl)) (pe_ix ix_tup (pv 1) pe_int (fun _ _ => rfl))) pa_nil))))), ?_⟩
  refine ⟨_, rfl, p, _, 0, _, rfl, rfl, ha, rfl, _, rfl, r, _, 1, _, rfl, rfl, hb, rfl, _, _, rfl, rfl, cmul_nd sa sb, ?_⟩
  refine ⟨_, rfl, r, _, 0, _, rfl, rfl, hb, rfl, _, rfl, p, _, 1, _, rfl, rfl, ha, rfl, _, _, rfl, rfl, cmul_nd sb sa, _, _, rfl, rfl, ?_⟩
  refine ⟨_, rfl, p, _, 1, _, rfl, rfl, ha, rfl, _, rfl, r, _, 1, _, rfl, rfl, hb, rfl, _, _, rfl, rfl, cmul_dd sa sb, ?_⟩
  exact ⟨_, _, rfl, prod_pos a b, lt_dd sa sb, by rw [add_di]; exact q⟩
theorem sc__law_times : FnScope ["_law_one", "_law_other"] ["_law_one", "_law_other"] (defScope (topS 57)) := ⟨rfl, rfl, rfl, by decide +kernel, rfl, by decide +kernel, by decide +kernel⟩
theorem ok__law_times (F : Fun K "_law_times" "_law_times" (topS 57) f fd) (C__law_made : Cl P w K mg base "_law_made" 1 ["_law_top", "_law_low"] (spMade K)) : FnOk P w K mg base CX0 2 f fd ["_law_one", "_law_other"] (spTimes K) := by
  have sc := sc__law_times
  refine F.ok sc spBin_len (fun cdv A outer s H vs Q E hr h => ?_)
  obtain ⟨x, y, a, b, rfl, ⟨p, rfl, ha⟩, ⟨r, rfl, hb⟩, sa, sb, _, q⟩ := h
  refine ⟨_, (pss_one (ps_ret (pe_cl C__law_made hr (by rfl) (pa_cons (pe_op op_mulW (pe_ix ix_tup (pv 0) pe_int (fun _ _ => rfl)) (pe_ix ix_tup (pv 1) pe_int (fun _ _ => rfl))) (pa_cons (pe_op op_mulW (pe_ix ix_tup (pv 0) pe_int (fun _ _ => rfl)) (pe_ix ix_tup (pv 1) pe_int (fun _ _ => rfl))) pa_nil))))), ?_⟩
  refine ⟨_, rfl, p, _, 0, _, rfl, rfl, ha, rfl, _, rfl, r, _, 0, _, rfl, rfl, hb, rfl, _, _, rfl, rfl, cmul_nn sa sb, ?_⟩
  refine ⟨_, rfl, p, _, 1, _, rfl, rfl, ha, rfl, _, rfl, r, _, 1, _, rfl, rfl, hb, rfl, _, _, rfl, rfl, cmul_dd sa sb, ?_⟩
  exact ⟨_, _, rfl, prod_pos a b, lt_dd sa sb, by rw [mul_di]; exact q⟩
theorem sc__law_over : FnScope ["_law_one", "_law_other"] ["_law_one", "_law_other"] (defScope (topS 58)) := ⟨rfl, rfl, rfl, by decide +kernel, rfl, by decide +kernel, by decide +kernel⟩
theorem ok__law_over (F : Fun K "_law_over" "_law_over" (topS 58) f fd) (C__law_made : Cl P w K mg base "_law_made" 1 ["_law_top", "_law_low"] (spMade K)) : FnOk P w K mg base CX0 2 f fd ["_law_one", "_law_other"] (spOver K) := by
  have sc := sc__law_over
  refine F.ok sc spBin_len (fun cdv A outer s H vs Q E hr h => ?_)
  obtain ⟨x, y, a, b, rfl, ⟨p, rfl, ha⟩, ⟨r, rfl, hb⟩, sa, sb, hd, q⟩ := h
  refine ⟨_, (pss_one (ps_ret (pe_cl C__law_made hr (by rfl) (pa_cons (pe_op op_mulW (pe_ix ix_tup (pv 0) pe_int (fun _ _ => rfl)) (pe_ix ix_tup (pv 1) pe_int (fun _ _ => rfl))) (pa_cons (pe_op op_mulW (pe_ix ix_tup (pv 0) pe_int (fun _ _ => rfl)) (pe_ix ix_tup (pv 1) pe_int (fun _ _ => rfl))) pa_nil))))), ?_⟩
  refine ⟨_, rfl, p, _, 0, _, rfl, rfl, ha, rfl, _, rfl, r, _, 1, _, rfl, rfl, hb, rfl, _, _, rfl, rfl, cmul_nd sa sb, ?_⟩
  refine ⟨_, rfl, p, _, 1, _, rfl, rfl, ha, rfl, _, rfl, r, _, 0, _, rfl, rfl, hb, rfl, _, _, rfl, rfl, cmul_dn sa sb, ?_⟩
  exact ⟨_, _, rfl, over_pos hd, lt_dn sa sb, by rw [div_di]; exact q⟩
theorem sc__law_below : FnScope ["_law_one", "_law_other"] ["_law_one", "_law_other"] (defScope (topS 59)) := ⟨rfl, rfl, rfl, by decide +kernel, rfl, by decide +kernel, by decide +kernel⟩
theorem ok__law_below (F : Fun K "_law_below" "_law_below" (topS 59) f fd) : FnOk P w K mg base CX0 1 f fd ["_law_one", "_law_other"] (spBelow K) := by
  have sc := sc__law_below
  refine F.ok sc (fun vs H Q E h => ?_) (fun cdv A outer s H vs Q E hr h => ?_)
  · obtain ⟨_, _, _, _, rfl, _⟩ := h
    rfl
  · obtain ⟨x, y, a, b, rfl, ⟨p, rfl, ha⟩, ⟨r, rfl, hb⟩, sa, sb, q⟩ := h
    refine ⟨_, (pss_one (ps_ret (pe_cmpR op_lt (pe_op op_mulW (pe_ix ix_tup (pv 0) pe_int (fun _ _ => rfl)) (pe_ix ix_tup (pv 1) pe_int (fun _ _ => rfl))) (pe_op op_mulW (pe_ix ix_tup (pv 1) pe_int (fun _ _ => rfl)) (pe_ix ix_tup (pv 0) pe_int (fun _ _ => rfl))) (nomark _)))), ?_⟩
    refine ⟨_, rfl, p, _, 0, _, rfl, rfl, ha, rfl, _, rfl, r, _, 1, _, rfl, rfl, hb, rfl, _, _, rfl, rfl, cmul_nd sa sb, ?_⟩
    refine ⟨_, rfl, r, _, 0, _, rfl, rfl, hb, rfl, _, rfl, p, _, 1, _, rfl, rfl, ha, rfl, _, _, rfl, rfl, cmul_nd sb sa, _, _, rfl, rfl, ?_⟩
    refine q _ _ (Ex.refl H) ?_
    show V.bl (decide (a.num * (b.den : Int) < b.num * (a.den : Int))) = V.bl (decide (a < b))
    have e := Rat.lt_iff a b
    by_cases h : a < b
    · rw [decide_eq_true h, decide_eq_true (e.mp h)]
    · rw [decide_eq_false h, decide_eq_false (fun z => h (e.mpr z))]

/-! ### _law_minus: the second as written -/
def PQ (K : PySem.W.Frag) (H : Hp) (v : V) (q : Rat) : Prop := ∃ (a : Addr) (n d : Int), v = .ref a ∧ SqT K H a [.int n, .int d] ∧ 0 < d ∧ n.natAbs < 2 ^ 3000 ∧ d.natAbs < 2 ^ 3000 ∧ Rat.divInt n d = q
theorem PQ.ex {H H' : Hp} {v : V} {q : Rat} (h : PQ K H v q) (e : Ex H H') : PQ K H' v q := by
  obtain ⟨a, n, d, rfl, h1, h2⟩ := h
  exact ⟨a, n, d, rfl, tx_t (.of e) h1, h2⟩
theorem RT.pq {H : Hp} {v : V} {q : Rat} (h : RT K H v q) (s : Sm q) : PQ K H v q := by
  obtain ⟨a, rfl, h1⟩ := h
  exact ⟨a, q.num, (q.den : Int), rfl, h1, dpos q, s.1, by simpa using s.2, Rat.num_divInt_den q⟩
def spLMinus (K : PySem.W.Frag) : Sp := fun vs H Q _ => ∃ (x y : V) (a b : Rat), vs = [x, y] ∧ RT K H x a ∧ PQ K H y b ∧ Sm a ∧ Post H Q fun v H' => RT K H' v (a - b)
theorem sc__law_minus : FnScope ["_law_one", "_law_other"] ["_law_one", "_law_other"] (defScope (topS 56)) := ⟨rfl, rfl, rfl, by decide +kernel, rfl, by decide +kernel, by decide +kernel⟩
theorem ok__law_minus (F : Fun K "_law_minus" "_law_minus" (topS 56) f fd) (C__law_made : Cl P w K mg base "_law_made" 1 ["_law_top", "_law_low"] (spMade K)) : FnOk P w K mg base CX0 2 f fd ["_law_one", "_law_other"] (spLMinus K) := by
  have sc := sc__law_minus
  refine F.ok sc (fun vs H Q E h => ?_) (fun cdv A outer s H vs Q E hr h => ?_)
  · obtain ⟨_, _, _, _, rfl, _⟩ := h
    rfl
  obtain ⟨x, y, a, b, rfl, ⟨p, rfl, ha⟩, ⟨r, n, d, rfl, hb, d0, sn, sd, hq⟩, sa, q⟩ := h
  refine ⟨_, (pss_one (ps_ret (pe_cl C__law_made hr (by rfl) (pa_cons (pe_op op_sub (pe_op op_mulW (pe_ix ix_tup (pv 0) pe_int (fun _ _ => rfl)) (pe_ix ix_tup (pv 1) pe_int (fun _ _ => rfl))) (pe_op op_mulW (pe_ix ix_tup (pv 1) pe_int (fun _ _ => rfl)) (pe_ix ix_tup (pv 0) pe_int (fun _ _ => rfl)))) (pa_cons (pe_op op_mulW (pe_ix ix_tup (pv 0) pe_int (fun _ _ => rfl)) (pe_ix ix_tup (pv 1) pe_int (fun _ _ => rfl))) pa_nil))))), ?_⟩
  refine ⟨_, rfl, p, _, 0, _, rfl, rfl, ha, rfl, _, rfl, r, _, 1, _, rfl, rfl, hb, rfl, _, _, rfl, rfl, wide_mul (a := 3000) (b := 3000) sa.1 sd (by decide) (by decide) (by decide), ?_⟩
  refine ⟨_, rfl, r, _, 0, _, rfl, rfl, hb, rfl, _, rfl, p, _, 1, _, rfl, rfl, ha, rfl, _, _, rfl, rfl, wide_mul (a := 3000) (b := 3000) sn (by simpa using sa.2) (by decide) (by decide) (by decide), _, _, rfl, rfl, ?_⟩
  refine ⟨_, rfl, p, _, 1, _, rfl, rfl, ha, rfl, _, rfl, r, _, 1, _, rfl, rfl, hb, rfl, _, _, rfl, rfl, wide_mul (a := 3000) (b := 3000) (by simpa using sa.2) sd (by decide) (by decide) (by decide), ?_⟩
  have e : Rat.divInt (a.num * d - n * a.den) (a.den * d) = a - b := by
    rw [← hq, ← Rat.divInt_sub_divInt _ _ (dne a) (by omega), Rat.num_divInt_den]
  exact ⟨_, _, rfl, Int.mul_pos (dpos a) d0, wide_lt (a := 3000) (b := 3000) (by simpa using sa.2) sd, by rw [e]; exact q⟩
theorem evq_lminus {σ : L2.St} {H : Hp} {ta tb : TE} {a b : Rat} (ha : EvQ K ta σ H a) (hb : EvR tb σ H fun v H' => PQ K H' v b) (sa : Sm a) : EvQ K (tCall (spLMinus K) [] E0 (tCons ta (tCons tb tNil))) σ H (a - b) :=
  evr_call (ear_cons ha mn_q (ear_cons hb (fun _ _ _ e h => h.ex e) ear_nil)) fun vs H1 _ hv Q p => by
    obtain ⟨v, r, rfl, hr, v2, r2, rfl, hr2, rfl⟩ := hv
    exact ⟨v, v2, a, b, rfl, hr, hr2, sa, p⟩
end
end BW
/-! BwN: the law's polynomials. -/
namespace BW
open PySem PySem.Spec PyProof.Rows L2 BC
open Evl (Ex)
section
variable {P : Program} {w : World} {K : PySem.W.Frag} {mg : Str → Option Value} {base : Heap} {f z o : Addr} {fd : FuncData} {t6 t7 t8 t12 : Tok}
/-- (0, 1), (1, 1) and their like as written -/
theorem evq_w {σ : L2.St} {H : Hp} {n : Int} {q : Rat} (hn : n = q.num) (hd : q.den = 1) : EvQ K (tTup (tCons (tC (.int n)) (tCons (tC (.int 1)) tNil))) σ H q := evq_pair Evl.ev_c Evl.ev_c hn (by rw [hd]; rfl)
/-- [e] * k -/
theorem el_repQ {σ : L2.St} {H : Hp} {ta tk : TE} {q : Rat} {k : Nat} (ha : EvQ K ta σ H q) (hk : Evl.Ev tk σ H (.int (k : Int))) (h1 : k ≤ 1000) : EvF K (tOp rRep (tLst (tCons ta tNil)) tk) σ H (List.replicate k q) := fun H1 e1 Q p =>
  ha H1 e1 _ fun v0 H2 e2 r0 => ⟨by show 1 ≤ sizeLine; decide, fun l hl => hk _ ((e1.trans e2).trans (Ex.new hl)) _ fun H3 e3 => by
    have h3 : H3 l = some (.lst [v0]) := e3 l _ upd_same
    refine ⟨l, (k : Int), [v0], rfl, rfl, h3, by omega, by omega, ?_, fun r hr => ?_⟩
    · rw [Int.toNat_natCast]
      exact Nat.le_of_lt (small1000 (by simpa using h1))
    · have ef : (List.replicate (k : Int).toNat [v0]).flatten = List.replicate k v0 := by
        rw [Int.toNat_natCast, List.flatten_replicate_singleton]
      rw [ef] at *
      have eAll : Ex H H3 := ((e1.trans e2).trans (Ex.new hl)).trans e3
      exact p _ _ ((e2.trans (Ex.new hl)).trans (e3.trans (Ex.new hr))) ⟨r, _, rfl, Evl.fresh_back eAll hr, upd_same, (RTs.rep (r0.ex ((Ex.new hl).trans e3)) _).tx (.new hr)⟩⟩
/-! ### _law_at -/
theorem sc__law_at : FnScope ["_law_poly", "_law_x", "_law_found", "_law_one"] ["_law_poly", "_law_x"] (defScope (topS 62)) := ⟨rfl, rfl, rfl, by decide +kernel, rfl, by decide +kernel, by decide +kernel⟩
theorem ok__law_at (F : Fun K "_law_at" "_law_at" (topS 62) f fd) (C__law_plus : Cl P w K mg base "_law_plus" 2 ["_law_one", "_law_other"] (spPlus K)) (C__law_times : Cl P w K mg base "_law_times" 2 ["_law_one", "_law_other"] (spTimes K)) : FnOk P w K mg base CX0 3 f fd ["_law_poly", "_law_x"] (spAt K) := by
  have sc := sc__law_at
  refine F.ok sc (fun vs H Q E h => ?_) (fun cdv A outer s H vs Q E hr h => ?_)
  · obtain ⟨_, _, _, _, _, _, rfl, _⟩ := h
    rfl
  · obtain ⟨x, y, qs, t, d, e, rfl, ⟨a, ws, rfl, ha, hq⟩, hy, ht, hg, B, q⟩ := h
    refine ⟨_, (pss_cons (ps_set (i := 2) sc.nd rfl (by first | exact Or.inl rfl | exact Or.inr rfl) (pe_tup (pa_cons pe_int (pa_cons pe_int pa_nil))))
      (pss_cons (ps_for PassesOwn.never rfl (pi_tup (pe_revT (pv 0))) (pg_name (i := 3) sc.nd rfl (by first | exact Or.inl rfl | exact Or.inr rfl))
        (pss_one (ps_set (i := 2) sc.nd rfl (by first | exact Or.inl rfl | exact Or.inr rfl) (pe_cl C__law_plus hr (by rfl) (pa_cons (pe_cl C__law_times hr (by rfl) (pa_cons (pv 2) (pa_cons (pv 1) pa_nil))) (pa_cons (pv 3) pa_nil))))))
      (pss_one (ps_ret (pv 2))))), ?_⟩
    have l1 := hq.1
    refine q_set (evq_w (K := K) (n := 0) (q := 0) rfl rfl) fun v0 H0 e0 r0 => ?_
    refine ⟨_, rfl, a, ws, rfl, tx_t (.of e0) ha, fun r hr0 => ⟨r, rfl, ⟨_, .inl (.inl upd_same)⟩, ?_⟩⟩
    refine for_it (walk_tup (xs := ws.reverse)) (fun i σ H' => ∃ v u, σ = [some (.ref a), some y, some v, u] ∧ Ex H H' ∧ H' r = some (.tup ws.reverse) ∧ RT K H' v (patN qs t i)) ⟨v0, none, rfl, e0.trans (Ex.new hr0), upd_same, r0.ex (Ex.new hr0)⟩ (fun i σ H' _ h => ?_) (fun i u σ H' H2 hi h hy2 => ?_) fun σ H' h => ?_
    · obtain ⟨_, _, _, _, h, _⟩ := h
      exact .inl (.inl h)
    · obtain ⟨rfl, hu⟩ := hy2
      obtain ⟨v, u2, rfl, e1, h1, rv⟩ := h
      have hi2 : i < qs.length := by
        rw [← l1]
        simpa using hi
      have ru : RT K H2 u (qs.getD (qs.length - 1 - i) 0) := by
        have := (hq.rev.2 i u hu).ex e1
        rw [rev_getD qs hi2] at this
        exact this
      have g1 := patN_gd qs t B.pos hg ht i (by omega)
      have gm : Gd d e (qs.getD (qs.length - 1 - i) 0) := getD_gd (P := Gd d e) hg (gd_zero B.pos) _
      refine s_set (evq_plus (evq_times (evq_var rfl rv) (evq_var rfl (hy.ex e1)) (B.sm g1 (by omega)) (B.sm1 ht (by omega))) (evq_var rfl ru) (B.sm (g1.mul1 ht) (by omega)) (B.sm gm (by omega))) fun v3 H3 e3 r3 => ?_
      exact ⟨v3, _, rfl, e1.trans e3, e3 r _ h1, r3⟩
    · obtain ⟨v, u, rfl, e1, h1, rv⟩ := h
      rw [List.length_reverse, l1, patN_all] at rv
      exact s_ret (evq_var rfl rv) fun v2 H2 e2 r2 => q v2 H2 (e1.trans e2) r2

/-! ### _law_trim -/
theorem lastTrim {a : List Rat} {k : Nat} (h : a.getD k 0 ≠ 0) (hz : ∀ i, k + 1 ≤ i → a.getD i 0 = 0) (hk : k + 1 ≤ a.length) : trim a = a.take (k + 1) := trim_take a (k + 1) hk hz (.inr h)
theorem sc__law_trim : FnScope ["_law_some", "_law_found", "_law_turn"] ["_law_some"] (defScope (topS 61)) := ⟨rfl, rfl, rfl, by decide +kernel, rfl, by decide +kernel, by decide +kernel⟩
theorem cutInit (xs : List V) (h : 0 < xs.length) : cutV xs none (some (-1)) = xs.take (xs.length - 1) ∧ ¬ (HT.sIx xs.length 0 none = 0 ∧ HT.sIx xs.length xs.length (some (-1)) = xs.length) := by
  have e : HT.sIx xs.length xs.length (some (-1)) = xs.length - 1 := by
    show (if (-1 : Int) < 0 then ((-1 : Int) + (xs.length : Int)).toNat else min (-1 : Int).toNat xs.length) = _
    rw [if_pos (by decide)]
    omega
  constructor
  · unfold cutV
    rw [HT.sIx_none, e]
    rfl
  · rw [e]
    omega
theorem ok__law_trim (F : Fun K "_law_trim" "_law_trim" (topS 61) f fd) (T : Top K mg z o t6 t7 t8 t12) : FnOk P w K mg base CX0 1 f fd ["_law_some"] (spTrim K) := by
  have sc := sc__law_trim
  refine F.ok sc (fun vs H Q E h => ?_) (fun cdv A outer s H vs Q E hr h => ?_)
  · obtain ⟨_, _, _, rfl, _⟩ := h
    rfl
  · obtain ⟨l, ws, qs, rfl, hl, hq, hlen, q⟩ := h
    refine ⟨_, (pss_cons (ps_set (i := 1) sc.nd rfl (by first | exact Or.inl rfl | exact Or.inr rfl) (pe_callTy call_tuple_of (by rfl) T.tuple (by decide +kernel) (pa_cons (pv 0) pa_nil)))
  (pss_cons (ps_for PassesOwn.never rfl (pi_range1 (by rfl) T.range (pa_cons (pe_callB call_len_seq (by rfl) T.len (by decide +kernel) (pa_cons (pv 0) pa_nil)) pa_nil)) (pg_name (i := 2) sc.nd rfl (by first | exact Or.inl rfl | exact Or.inr rfl))
    (pss_cons (ps_if (pt_cmpR (by exact op_neD hr.units) (pe_ix ix_tup (pv 1) (pe_un un_neg pe_int) (fun _ _ => rfl)) (pe_tup (pa_cons pe_int (pa_cons pe_int pa_nil))) (nomark _))
      (pss_one ps_break) pss_nil)
    (pss_one (ps_set (i := 1) sc.nd rfl (by first | exact Or.inl rfl | exact Or.inr rfl) (pe_slice sl_tup (pv 1) po_none (po_some (pe_un un_neg pe_int)))))))
  (pss_one (ps_ret (pv 1))))), ?_⟩
    have l1 := hq.1
    refine q_set (R := fun v H' => ∃ a, v = .ref a ∧ SqT K H' a ws) (fun H1 e1 Q kk => ⟨_, rfl, l, ws, rfl, .inl ⟨Evl.ex_l e1 hl, fun m hm => kk _ _ (Ex.new hm) ⟨m, rfl, .inl (.inl upd_same)⟩⟩⟩) fun v1 H1 e1 r1 => ?_
    obtain ⟨a1, rfl, ha1⟩ := r1
    refine Evl.q_forR1 (n := (ws.length : Int)) (Evl.ea_cons (ev_lenL (Evl.ev_var rfl) (Evl.ex_l e1 hl)) Evl.ea_nil) (by omega)
      (fun k σ H' => ∃ (a : Addr) (y2 : Option V), σ = [some (.ref l), some (.ref a), y2] ∧ Ex H H' ∧ SqT K H' a (ws.take (ws.length - k)) ∧ ∀ i, ws.length - k ≤ i → qs.getD i 0 = 0)
      (fun H2 e2 => ⟨a1, none, rfl, e1.trans e2, by rw [Nat.sub_zero, List.take_length]; exact tx_t (.of e2) ha1, fun i hi => getD_ge (by omega)⟩) (fun k σ H2 hk h => ?_) fun σ H2 h => ?_
    · obtain ⟨a, y2, rfl, e2, ha, hz⟩ := h
      obtain ⟨m, hm⟩ : ∃ m, ws.length - k = m + 1 := ⟨ws.length - k - 1, by omega⟩
      rw [hm] at ha hz
      have hmw : m < ws.length := by omega
      have tk : RTs K H2 (ws.take (m + 1)) (qs.take (m + 1)) := (hq.ex e2).take (m + 1)
      have lt : (ws.take (m + 1)).length = m + 1 := by rw [List.length_take]; omega
      have evl : EvQ K (tOp (rIxT K) (tVar 1) (tUn (rU fun i => .int (-i)) (tC (.int 1)))) [some (.ref l), some (.ref a), some (.int (k : Int))] H2 (qs.getD m 0) := by
        have hv : (ws.take (m + 1))[m]? = some ws[m] := by
          rw [List.getElem?_take_of_lt (by omega)]
          exact List.getElem?_eq_getElem hmw
        refine evq_ev (Evl.ev_op (Evl.ev_var rfl) (Evl.ev_un Evl.ev_c Evl.ru_neg) (Evl.rv_ixT (v := ws[m]) ha ?_)) ((hq.2 m _ (List.getElem?_eq_getElem hmw)).ex e2)
        show (ixN (ws.take (m + 1)).length (-1)).bind (fun j => (ws.take (m + 1))[j]?) = _
        have e : ixN (ws.take (m + 1)).length (-1) = some m := by
          unfold ixN
          rw [lt, if_neg (by omega), if_pos (by omega)]
          congr 1
          omega
        rw [e]
        exact hv
      refine Evl.q_when (b := !decide (qs.getD m 0 = 0)) (Evl.et_test (ev_neQ evl (evq_w (q := 0) rfl rfl))) (fun hb H3 e3 => ?_) fun hb H3 e3 => ?_
      · have hne : qs.getD m 0 ≠ 0 := by simpa using hb
        have ht : trim qs = qs.take (m + 1) := lastTrim hne hz (by omega)
        refine s_ret (R := fun v H' => PT K H' v (trim qs)) (evr_ev (Evl.ev_var rfl) fun H4 e4 => ?_) fun v H4 e4 r => q v H4 ((e2.trans e3).trans e4) r
        rw [ht]
        exact ⟨a, _, rfl, tx_t (.of (e3.trans e4)) ha, tk.ex (e3.trans e4)⟩
      · have h0 : qs.getD m 0 = 0 := by simpa using hb
        obtain ⟨c1, c2⟩ := cutInit (ws.take (m + 1)) (by omega)
        refine s_set (R := fun v H' => ∃ a2, v = .ref a2 ∧ SqT K H' a2 (ws.take m)) (fun H4 e4 Q kk => ?_) fun v H4 e4 r => ?_
        · refine ⟨_, rfl, 1, rfl, -1, rfl, a, _, rfl, tx_t (.of (e3.trans e4)) ha, c2, fun p hp => kk _ _ (Ex.new hp) ⟨p, rfl, .inl (.inl ?_)⟩⟩
          rw [c1, lt, List.take_take]
          have : min (m + 1 - 1) (m + 1) = m := by omega
          rw [this]
          exact upd_same
        · obtain ⟨a2, rfl, ha2⟩ := r
          have hmk : ws.length - (k + 1) = m := by omega
          refine ⟨a2, _, rfl, (e2.trans e3).trans e4, by rw [hmk]; exact ha2, fun i hi => ?_⟩
          by_cases hi2 : i = m
          · rw [hi2]
            exact h0
          · exact hz i (by omega)
    · obtain ⟨a, y2, rfl, e2, ha, hz⟩ := h
      rw [Int.toNat_natCast, Nat.sub_self] at ha hz
      have ht : trim qs = [] := trim_nil fun i => hz i (Nat.zero_le _)
      refine s_ret (R := fun v H' => PT K H' v (trim qs)) (evr_ev (Evl.ev_var rfl) fun H4 e4 => ?_) fun v H4 e4 r => q v H4 (e2.trans e4) r
      rw [ht]
      exact ⟨a, _, rfl, tx_t (.of e4) ha, .nil⟩

/-! ### _law_p_times of a thing by itself -/
def spLSq (K : PySem.W.Frag) : Sp := fun vs H Q _ => ∃ (x y : V) (a : List Rat) (d e : Nat), vs = [x, y] ∧ PT K H x a ∧ PT K H y a ∧ (∀ q ∈ a, Gd d e q) ∧ 0 < d ∧ a.length ≤ 100 ∧ Bd (d * d) (e + e + a.length + 1) ∧ Post H Q fun v H' => PT K H' v (trim (pmul a a))
theorem pmul_self (a : List Rat) : mulAdd a a a.length = pmul a a := by
  unfold pmul
  by_cases h : a = []
  · subst h
    rfl
  · rw [if_neg (by simp [h])]
theorem sc__law_p_times : FnScope ["_law_one", "_law_other", "_law_found", "_law_i", "_law_j"] ["_law_one", "_law_other"] (defScope (topS 63)) := ⟨rfl, rfl, rfl, by decide +kernel, rfl, by decide +kernel, by decide +kernel⟩
theorem ok__law_p_times (F : Fun K "_law_p_times" "_law_p_times" (topS 63) f fd) (T : Top K mg z o t6 t7 t8 t12) (C__law_plus : Cl P w K mg base "_law_plus" 2 ["_law_one", "_law_other"] (spPlus K)) (C__law_times : Cl P w K mg base "_law_times" 2 ["_law_one", "_law_other"] (spTimes K)) (C__law_trim : Cl P w K mg base "_law_trim" 2 ["_law_some"] (spTrim K)) : FnOk P w K mg base CX0 3 f fd ["_law_one", "_law_other"] (spLSq K) := by
  have sc := sc__law_p_times
  refine F.ok sc (fun vs H Q E h => ?_) (fun cdv A outer s H vs Q E hr h => ?_)
  · obtain ⟨_, _, _, _, _, rfl, _⟩ := h
    rfl
  · obtain ⟨x, y, a, d, e, rfl, ⟨p1, us, rfl, hp1, ha⟩, ⟨p2, ws, rfl, hp2, hb⟩, ga, d0, la, B, q⟩ := h
    refine ⟨_, (pss_cons (ps_set (i := 2) sc.nd rfl (by first | exact Or.inl rfl | exact Or.inr rfl) (pe_op op_rep (pe_lst (pa_cons (pe_tup (pa_cons pe_int (pa_cons pe_int pa_nil))) pa_nil)) (pe_callB (call_max2 rfl) (by rfl) T.max (by decide +kernel) (pa_cons pe_int (pa_cons (pe_op op_sub (pe_op op_add (pe_callB call_len_seq (by rfl) T.len (by decide +kernel) (pa_cons (pv 0) pa_nil)) (pe_callB call_len_seq (by rfl) T.len (by decide +kernel) (pa_cons (pv 1) pa_nil))) pe_int) pa_nil)))))
  (pss_cons (ps_for PassesOwn.never rfl (pi_range1 (by rfl) T.range (pa_cons (pe_callB call_len_seq (by rfl) T.len (by decide +kernel) (pa_cons (pv 0) pa_nil)) pa_nil)) (pg_name (i := 3) sc.nd rfl (by first | exact Or.inl rfl | exact Or.inr rfl))
    (pss_one (ps_for PassesOwn.never rfl (pi_range1 (by rfl) T.range (pa_cons (pe_callB call_len_seq (by rfl) T.len (by decide +kernel) (pa_cons (pv 1) pa_nil)) pa_nil)) (pg_name (i := 4) sc.nd rfl (by first | exact Or.inl rfl | exact Or.inr rfl))
      (pss_one (ps_asg (pe_cl C__law_plus hr (by rfl) (pa_cons (pe_ix ix_list (pv 2) (pe_op op_add (pv 3) (pv 4)) (fun _ _ => rfl)) (pa_cons (pe_cl C__law_times hr (by rfl) (pa_cons (pe_ix ix_tup (pv 0) (pv 3) (fun _ _ => rfl)) (pa_cons (pe_ix ix_tup (pv 1) (pv 4) (fun _ _ => rfl)) pa_nil))) pa_nil))) (pg_sub (pv 2) (pe_op op_add (pv 3) (pv 4)) set_list))))))
  (pss_one (ps_ret (pe_cl C__law_trim hr (by rfl) (pa_cons (pv 2) pa_nil)))))), ?_⟩
    have l1 := ha.1
    have l2 := hb.1
    have g1 : ∀ i, Gd d e (a.getD i 0) := getD_gd (P := Gd d e) ga (gd_zero d0)
    have kk : Evl.Ev (tCB Evl.rMax2 (tCons (tC (.int 0)) (tCons (tOp (rI0 fun i j => .int (i - j)) (tOp (rI0 fun i j => .int (i + j)) (tCB (Evl.rLenS K) (tCons (tVar 0) tNil)) (tCB (Evl.rLenS K) (tCons (tVar 1) tNil))) (tC (.int 1))) tNil))) [some (.ref p1), some (.ref p2), none, none, none] H (.int ((a.length + a.length - 1 : Nat) : Int)) :=
      Evl.ev_is (Evl.ev_max2 Evl.ev_c (Evl.ev_op (Evl.ev_op (ev_lenT (Evl.ev_var rfl) hp1) (ev_lenT (Evl.ev_var rfl) hp2) Evl.rv_I0) Evl.ev_c Evl.rv_I0)) (by
        show V.int (if ((us.length : Int) + (ws.length : Int)) - 1 > 0 then ((us.length : Int) + (ws.length : Int)) - 1 else 0) = _
        congr 1
        split <;> omega)
    -- the zeros
    have kz := el_repQ (K := K) (σ := [some (.ref p1), some (.ref p2), none, none, none]) (H := H) (evq_w (n := 0) (q := 0) rfl rfl) kk (by omega)
    refine q_set kz fun v2 H2 e2 r2 => ?_
    obtain ⟨l, xs0, rfl, nl, hl0, hr0⟩ := r2
    refine Evl.q_forR1 (n := (a.length : Int)) (Evl.ea_cons (Evl.ev_is (ev_lenT (Evl.ev_var rfl) (tx_t (.of e2) hp1)) (by rw [l1])) Evl.ea_nil) (by omega)
      (fun k σ H' => ∃ ws1 y3 y4, σ = [some (.ref p1), some (.ref p2), some (.ref l), y3, y4] ∧ Ex H H' ∧ H' l = some (.lst ws1) ∧ RTs K H' ws1 (mulAdd a a k))
      (fun H3 e3 => ⟨xs0, none, none, rfl, e2.trans e3, e3 _ _ hl0, hr0.ex e3⟩) (fun i σ H3 hi h => ?_) fun σ H3 h => ?_
    · obtain ⟨ws1, y3, y4, rfl, e3, hl, hr1⟩ := h
      have hi2 : i < a.length := by omega
      refine Evl.s_forR1 (n := (a.length : Int)) (Evl.ea_cons (Evl.ev_is (ev_lenT (Evl.ev_var rfl) (tx_t (.of e3) hp2)) (by rw [l2])) Evl.ea_nil) (by omega)
        (fun m σ H' => ∃ ws2 y4, σ = [some (.ref p1), some (.ref p2), some (.ref l), some (.int (i : Int)), y4] ∧ Ex H H' ∧ H' l = some (.lst ws2) ∧ RTs K H' ws2 (rowAdd (mulAdd a a i) i (a.getD i 0) a m))
        (fun H4 e4 => ⟨ws1, y4, rfl, e3.trans e4, e4 _ _ hl, hr1.ex e4⟩) (fun m σ H4 hm h => ?_) fun σ H4 h => ?_
      · obtain ⟨ws2, y4', rfl, e4, hl3, hr3⟩ := h
        have hm2 : m < a.length := by omega
        have lR : (rowAdd (mulAdd a a i) i (a.getD i 0) a m).length = a.length + a.length - 1 := by rw [rowAdd_len, mulAdd_len]
        have lim : i + m < a.length + a.length - 1 := by omega
        obtain ⟨v0, hv0, rv0⟩ := hr3.get (i := i + m) (by rw [lR]; exact lim)
        have gR := row_gd d0 d0 ga ga i m (i + m)
        refine s_setQ (j := i + m) hl3 (evq_plus (evq_ev (Evl.ev_op (Evl.ev_var rfl) (Evl.ev_op (Evl.ev_var rfl) (Evl.ev_var rfl) Evl.rv_I0) (Evl.rv_ixL (v := v0) (.inl (.inl hl3)) (at_of (show (i : Int) + (m : Int) = ((i + m : Nat) : Int) by omega) hv0))) rv0) (evq_times (evq_ixT (i := 0) (n := i) (Evl.ev_var rfl) (Evl.ev_var rfl) (tx_t (.of e4) hp1) (ha.ex e4) rfl hi2) (evq_ixT (i := 0) (n := m) (Evl.ev_var rfl) (Evl.ev_var rfl) (tx_t (.of e4) hp2) (hb.ex e4) rfl hm2) ?_ ?_) ?_ ?_) (Evl.ev_var rfl) (Evl.ev_is (Evl.ev_op (Evl.ev_var rfl) (Evl.ev_var rfl) Evl.rv_I0) (by show V.int ((i : Int) + (m : Int)) = _; congr 1)) (by rw [hr3.1, lR]; exact lim) fun v5 H5 e5 r5 => ?_
        · exact B.sm ((g1 i).up (Nat.dvd_mul_right d d) (Nat.le_refl e) B.pos) (by omega)
        · exact B.sm ((g1 m).up (Nat.dvd_mul_left d d) (Nat.le_refl e) B.pos) (by omega)
        · exact B.sm gR (by omega)
        · exact B.sm ((g1 i).mul (g1 m)) (by omega)
        · have h5 := e5 l _ hl3
          refine ⟨ws2.set (i + m) v5, _, rfl, (e4.trans e5).mut nl, upd_same, ?_⟩
          exact ((hr3.ex e5).tx (.set h5)).set (i + m) (r5.tx (.set h5))
      · obtain ⟨ws2, y4', rfl, e4, hl2, hr2⟩ := h
        rw [Int.toNat_natCast] at hr2
        exact ⟨ws2, _, _, rfl, e4, hl2, hr2⟩
    · obtain ⟨ws1, y3, y4, rfl, e3, hl, hr1⟩ := h
      rw [Int.toNat_natCast, pmul_self] at hr1
      have lp : (pmul a a).length ≤ 200 := by
        rw [← pmul_self, mulAdd_len]
        omega
      exact s_ret (evp_trimF (H0 := H) (evr_ev (Evl.ev_var rfl) fun H4 e4 => ⟨l, ws1, rfl, nl, e4 l _ hl, hr1.ex e4⟩) (by omega)) fun v3 H4 e5 r3 => q v3 H4 (e3.trans e5) r3

/-! ### _law_p_slope, _law_slopes -/
theorem pslope_map (a : List Rat) : (List.range (a.length - 1)).map (fun i => a.getD (i + 1) 0 * ((i + 1 : Nat) : Rat)) = pslope a := by
  unfold pslope
  apply List.ext_getElem
  · simp
  · intro i h1 h2
    rw [List.getElem_tail, List.getElem_map, List.getElem_map, List.getElem_range, List.getElem_range]
theorem sc__law_p_slope : FnScope ["_law_poly", "_law_power"] ["_law_poly"] (defScope (topS 64)) := ⟨rfl, rfl, rfl, by decide +kernel, rfl, by decide +kernel, by decide +kernel⟩
theorem ok__law_p_slope (F : Fun K "_law_p_slope" "_law_p_slope" (topS 64) f fd) (T : Top K mg z o t6 t7 t8 t12) (C__law_times : Cl P w K mg base "_law_times" 2 ["_law_one", "_law_other"] (spTimes K)) : FnOk P w K mg base CX0 3 f fd ["_law_poly"] (spSlope K) := by
  have sc := sc__law_p_slope
  refine F.ok sc (fun vs H Q E h => ?_) (fun cdv A outer s H vs Q E hr h => ?_)
  · obtain ⟨_, _, _, _, rfl, _⟩ := h
    rfl
  · obtain ⟨x, a, d, e, rfl, ⟨p1, us, rfl, hp1, ha⟩, ga, la, B, q⟩ := h
    refine ⟨_, (pss_one (ps_ret (pe_callTy call_tuple_of (by rfl) T.tuple (by decide +kernel) (pa_cons (pe_lc (own := [("_law_power", 1)]) (g := gName 1) (tt := tYes) (te := tCall (spTimes K) [] E0 (tCons (tOp (rIxT K) (tVar 0) (tVar 1)) (tCons (tTup (tCons (tVar 1) (tCons (tC (.int 1)) tNil))) tNil))) rfl sc.nd (pi_range2 (by rfl) T.range (pa_cons pe_int (pa_cons (pe_callB call_len_seq (by rfl) T.len (by decide +kernel) (pa_cons (pv 0) pa_nil)) pa_nil))) (blkOk_by (own := [("_law_power", 1)]) (N := ["_law_poly", "_law_power"]) (sc := (defScope (topS 64))) (by decide +kernel)) (fun _ _ _ _ _ => (pg_name (i := 1) sc.nd rfl (Or.inl rfl))) (fun _ _ _ _ _ => pts_nil) (fun _ _ _ _ _ => (pe_cl C__law_times hr (by rfl) (pa_cons (pe_ix ix_tup (pv 0) (pv 1) (fun _ _ => rfl)) (pa_cons (pe_tup (pa_cons (pv 1) (pa_cons pe_int pa_nil))) pa_nil))))) pa_nil)))), ?_⟩
    have l1 := ha.1
    have g1 : ∀ i, Gd d e (a.getD i 0) := getD_gd (P := Gd d e) ga (gd_zero B.pos)
    refine s_ret (evp_tuple (H0 := H) (EvR.imp (el_range (lo := 1) (hi := (us.length : Int)) (n := a.length - 1) (f := fun i => a.getD (i + 1) 0 * ((i + 1 : Nat) : Rat)) Evl.ev_c (ev_lenT (Evl.ev_var rfl) hp1) (by omega) (by omega) (by omega) (fun _ => rfl) fun i H' e' hi => ?_) fun v H' _ r => FrL.of r)) fun v H2 e2 r => q v H2 e2 ?_
    · have c1 : (1 : Int) + (i : Int) = ((i + 1 : Nat) : Int) := by omega
      have g2 : Gd 1 1 ((i + 1 : Nat) : Rat) := gd_nat (by
        have : (60 : Nat) ^ 1 = 60 := rfl
        omega)
      exact evq_times (evq_ixT (i := 0) (n := i + 1) (Evl.ev_var rfl) (Evl.ev_var rfl) (tx_t (.of e') hp1) (ha.ex e') c1 (by omega)) (evq_pair (Evl.ev_var rfl) Evl.ev_c c1 rfl) (B.sm (g1 _) (by omega)) (B.sm1 g2 (by omega))
    · rw [pslope_map] at r
      exact r
theorem evp_lslope {σ : L2.St} {H : Hp} {ta : TE} {a : List Rat} {d e : Nat} (ha : EvP K ta σ H a) (ga : ∀ q ∈ a, Gd d e q) (la : a.length ≤ 50) (B : Bd d (e + 1)) : EvP K (tCall (spSlope K) [] E0 (tCons ta tNil)) σ H (pslope a) := evp_slope ha ga la B
def spLSlopes (K : PySem.W.Frag) : Sp := fun vs H Q _ => ∃ (x : V) (a : List Rat) (d e : Nat), vs = [x, .int 2] ∧ PT K H x a ∧ (∀ q ∈ a, Gd d e q) ∧ a.length ≤ 50 ∧ Bd d (e + 2) ∧ Post H Q fun v H' => PT K H' v (bent a)
theorem sc__law_slopes : FnScope ["_law_poly", "_law_many", "_law_found", "_law_turn"] ["_law_poly", "_law_many"] (defScope (topS 65)) := ⟨rfl, rfl, rfl, by decide +kernel, rfl, by decide +kernel, by decide +kernel⟩
def slN (a : List Rat) : Nat → List Rat
  | 0 => a
  | k + 1 => pslope (slN a k)
theorem ok__law_slopes (F : Fun K "_law_slopes" "_law_slopes" (topS 65) f fd) (T : Top K mg z o t6 t7 t8 t12) (C__law_p_slope : Cl P w K mg base "_law_p_slope" 3 ["_law_poly"] (spSlope K)) : FnOk P w K mg base CX0 4 f fd ["_law_poly", "_law_many"] (spLSlopes K) := by
  have sc := sc__law_slopes
  refine F.ok sc (fun vs H Q E h => ?_) (fun cdv A outer s H vs Q E hr h => ?_)
  · obtain ⟨_, _, _, _, rfl, _⟩ := h
    rfl
  · obtain ⟨x, a, d, e, rfl, hx, ga, la, B, q⟩ := h
    refine ⟨_, (pss_cons (ps_set (i := 2) sc.nd rfl (by first | exact Or.inl rfl | exact Or.inr rfl) (pv 0))
  (pss_cons (ps_for PassesOwn.never rfl (pi_range1 (by rfl) T.range (pa_cons (pv 1) pa_nil)) (pg_name (i := 3) sc.nd rfl (by first | exact Or.inl rfl | exact Or.inr rfl))
    (pss_one (ps_set (i := 2) sc.nd rfl (by first | exact Or.inl rfl | exact Or.inr rfl) (pe_cl C__law_p_slope hr (by rfl) (pa_cons (pv 2) pa_nil)))))
  (pss_one (ps_ret (pv 2))))), ?_⟩
    have em := B.em
    refine Evl.q_asg (Evl.ev_var rfl) fun H1 e1 => ?_
    refine Evl.q_forR1 (n := 2) (Evl.ea_cons (Evl.ev_var rfl) Evl.ea_nil) (by decide)
      (fun k σ H' => ∃ v y3, σ = [some x, some (.int 2), some v, y3] ∧ Ex H H' ∧ PT K H' v (slN a k) ∧ (slN a k).length ≤ 50 ∧ ∀ q ∈ slN a k, Gd d (e + k) q)
      (fun H2 e2 => ⟨x, none, rfl, e1.trans e2, hx.ex (e1.trans e2), la, ga⟩) (fun k σ H2 hk h => ?_) fun σ H2 h => ?_
    · obtain ⟨v, y3, rfl, e2, hv, lv, gv⟩ := h
      have hk2 : k < 2 := by omega
      refine s_set (evp_slope (d := d) (e := e + k) (evp_var rfl hv) gv lv ⟨B.pos, B.dm, by omega⟩) fun v3 H3 e3 r3 => ?_
      refine ⟨v3, _, rfl, e2.trans e3, r3, ?_, ?_⟩
      · show (pslope (slN a k)).length ≤ 50
        rw [pslope_len]
        omega
      · exact pslope_gd B.pos (by omega) gv
    · obtain ⟨v, y3, rfl, e2, hv, lv, gv⟩ := h
      exact s_ret (evp_var rfl hv) fun v3 H3 e3 r3 => q v3 H3 (e2.trans e3) r3
end
end BW
/-! BwO: the law's draws of ratios and places; alike. -/
namespace BW
open PySem PySem.Spec PyProof.Rows L2 BC
open Evl (Ex)
section
variable {P : Program} {w : World} {K : PySem.W.Frag} {mg : Str → Option Value} {base : Heap} {f z o : Addr} {fd : FuncData} {t6 t7 t8 t12 : Tok}
/-! ### _law_draw -/
theorem Fx.tx2 {R : Addr} {H H' : Hp} {S : Addr} {zs : List Int} (f : Fx R H H') (h : Dr K H R S zs) : Tx H H' := h.tx f
def spDraw (K : PySem.W.Frag) : Sp := fun vs H Q _ => ∃ (R S : Addr) (zs : List Int), vs = [.ref R] ∧ Dr K H R S zs ∧ ∀ v H' (b : Rat), Gd 1 1 b → RT K H' v b → Fx R H H' → Dr K H' R S zs → Q v H'
theorem draw_gd {t : Nat} {l : Nat} (ht : t < 13) (hl : l = 1 ∨ l = 2 ∨ l = 3 ∨ l = 4) : Gd 1 1 (Rat.divInt ((t : Int) - 6) (l : Int)) := by
  have key : ∀ c : Nat, l * c = 60 → 0 < l → Gd 1 1 (Rat.divInt ((t : Int) - 6) (l : Int)) := fun c hc l0 => by
    refine ⟨((t : Int) - 6) * (c : Int), ?_, ?_⟩
    · have e : (l : Rat) * (c : Rat) = 60 := by
        have := congrArg (fun n : Nat => (n : Rat)) hc
        simpa using this
      have m0 : (l : Rat) ≠ 0 := by
        have : (0 : Rat) < (l : Rat) := Rat.natCast_pos.mpr l0
        grind
      have e60 : ((1 * 60 ^ 1 : Nat) : Rat) = 60 := by decide +kernel
      rw [Rat.divInt_eq_div, e60]
      have ec : (((l : Nat) : Int) : Rat) = (l : Rat) := rfl
      rw [ec, Rat.intCast_mul]
      have ec2 : (((c : Nat) : Int) : Rat) = (c : Rat) := rfl
      rw [ec2]
      generalize (((t : Int) - 6 : Int) : Rat) = x at *
      grind
    · have h1 : c ≤ 60 := by
        have : 1 * c ≤ l * c := Nat.mul_le_mul_right c l0
        omega
      have e60 : 1 * 60 ^ 1 * (1 * 60 ^ 1) = 3600 := by decide
      rw [e60, Int.natAbs_mul]
      have h2 : ((t : Int) - 6).natAbs ≤ 6 := by omega
      have h3 : ((t : Int) - 6).natAbs * ((c : Int)).natAbs ≤ 6 * 60 := Nat.mul_le_mul h2 (by simpa using h1)
      omega
  rcases hl with h | h | h | h
  · exact key 60 (by omega) (by omega)
  · exact key 30 (by omega) (by omega)
  · exact key 20 (by omega) (by omega)
  · exact key 15 (by omega) (by omega)
theorem sc__law_draw : FnScope ["_law_row", "_law_low"] ["_law_row"] (defScope (topS 60)) := ⟨rfl, rfl, rfl, by decide +kernel, rfl, by decide +kernel, by decide +kernel⟩
theorem ok__law_draw (F : Fun K "_law_draw" "_law_draw" (topS 60) f fd) (C__law_pick : Cl P w K mg base "_law_pick" 2 ["_law_row", "_law_things"] (spPick K)) (C__law_made : Cl P w K mg base "_law_made" 2 ["_law_top", "_law_low"] (spMade K)) (C__law_taken : Cl P w K mg base "_law_taken" 2 ["_law_row", "_law_many"] (spTaken K)) : FnOk P w K mg base CX0 3 f fd ["_law_row"] (spDraw K) := by
  have sc := sc__law_draw
  refine F.ok sc (fun vs H Q E h => ?_) (fun cdv A0 outer s0 H vs Q E hr h => ?_)
  · obtain ⟨_, _, _, rfl, _⟩ := h
    rfl
  · obtain ⟨R, S, zs, rfl, hD, q⟩ := h
    refine ⟨_, (pss_cons (ps_set (i := 1) sc.nd rfl (by first | exact Or.inl rfl | exact Or.inr rfl) (pe_cl C__law_pick hr (by rfl) (pa_cons (pv 0) (pa_cons (pe_lst (pa_cons pe_int (pa_cons pe_int (pa_cons pe_int (pa_cons pe_int (pa_cons pe_int pa_nil)))))) pa_nil))))
  (pss_one (ps_ret (pe_cl C__law_made hr (by rfl) (pa_cons (pe_op op_sub (pe_cl C__law_taken hr (by rfl) (pa_cons (pv 0) (pa_cons pe_int pa_nil))) pe_int) (pa_cons (pv 1) pa_nil)))))), ?_⟩
    refine ⟨_, rfl, by show 5 ≤ sizeLine; decide, fun L nL => ?_⟩
    have nLR : L ≠ R := fun e => by
      obtain ⟨xs, hx⟩ := hD.lst
      rw [← e, nL] at hx
      cases hx
    have eL : Ex H (upd H L (.lst [.int 1, .int 1, .int 2, .int 3, .int 4])) := Ex.new nL
    refine ⟨R, S, L, zs, [.int 1, .int 1, .int 2, .int 3, .int 4], rfl, hD.ex eL, nLR, upd_same, by simp, by simp, fun t v H1 hv f1 d1 => ?_⟩
    obtain ⟨l, rfl, hl⟩ : ∃ l : Nat, v = .int (l : Int) ∧ (l = 1 ∨ l = 2 ∨ l = 3 ∨ l = 4) := by
      match t, hv with
      | 0, hv => exact ⟨1, by simpa using hv.symm, by simp⟩
      | 1, hv => exact ⟨1, by simpa using hv.symm, by simp⟩
      | 2, hv => exact ⟨2, by simpa using hv.symm, by simp⟩
      | 3, hv => exact ⟨3, by simpa using hv.symm, by simp⟩
      | 4, hv => exact ⟨4, by simpa using hv.symm, by simp⟩
      | t + 5, hv => simp at hv
    refine ⟨_, rfl, R, S, zs, 13, rfl, d1, by decide, by decide, fun t2 H2 ht2 f2 d2 => ?_⟩
    refine ⟨_, _, rfl, rfl, _, rfl, (t2 : Int) - 6, (l : Int), rfl, by omega, ?_, fun v3 H3 e3 r3 => ?_⟩
    · have : (l : Int).natAbs ≤ 4 := by omega
      exact Nat.lt_of_le_of_lt this (by decide +kernel)
    · exact q v3 H3 _ (draw_gd ht2 hl) r3 ((((Fx.ex eL).trans f1).trans f2).trans (.ex e3)) (d2.ex e3)

/-! ### _law_rising -/
def spLRising (K : PySem.W.Frag) : Sp := fun vs H Q _ => ∃ (R S : Addr) (zs : List Int) (m : Nat) (x y : V), vs = [.ref R, .int (m : Int), x, y] ∧ Dr K H R S zs ∧ 2 ≤ m ∧ m ≤ 5 ∧ RT K H x 0 ∧ RT K H y 4 ∧
  ∀ v H' (t : Nat) (U : Nat → Nat), t ≤ 2 → Ris U m → PT K H' v (xsOf m t U) → Fx R H H' → Dr K H' R S zs → Q v H'
theorem sc__law_rising : FnScope ["_law_row", "_law_many", "_law_low", "_law_high", "_law_found", "_law_now", "_law_step", "_law_turn"] ["_law_row", "_law_many", "_law_low", "_law_high"] (defScope (topS 66)) := ⟨rfl, rfl, rfl, by decide +kernel, rfl, by decide +kernel, by decide +kernel⟩
theorem ris_snoc {U : Nat → Nat} {i k : Nat} (h : Ris U i) (k1 : 1 ≤ k) (k6 : k ≤ 6) : Ris (fun j => if j ≤ i then U j else U i + k) (i + 1) := by
  refine ⟨?_, fun j hj => ?_, fun j hj => ?_⟩
  · show (if 0 ≤ i then U 0 else U i + k) = 0
    rw [if_pos (Nat.zero_le _)]
    exact h.z
  · show (if j ≤ i then U j else U i + k) < (if j + 1 ≤ i then U (j + 1) else U i + k)
    rw [if_pos (by omega)]
    by_cases e : j + 1 ≤ i
    · rw [if_pos e]
      exact h.up j (by omega)
    · rw [if_neg e]
      have : j = i := by omega
      subst this
      omega
  · show (if j + 1 ≤ i then U (j + 1) else U i + k) ≤ (if j ≤ i then U j else U i + k) + 6
    rw [if_pos (show j ≤ i by omega)]
    by_cases e : j + 1 ≤ i
    · rw [if_pos e]
      exact h.few j (by omega)
    · rw [if_neg e]
      have : j = i := by omega
      subst this
      omega
theorem four_di {k : Nat} : Rat.divInt (k : Int) 4 = (k : Rat) * (1 / 4) := by
  rw [Rat.divInt_eq_div, Rat.div_def]
  have e1 : (((k : Nat) : Int) : Rat) = (k : Rat) := rfl
  have e2 : (((4 : Int)) : Rat)⁻¹ = 1 / 4 := by decide +kernel
  rw [e1, e2]
theorem q4_gd {k : Nat} (h : k ≤ 7) : Gd 1 1 ((k : Rat) * (1 / 4)) := by
  refine ⟨(k : Int) * 15, ?_, ?_⟩
  · have e60 : ((1 * 60 ^ 1 : Nat) : Rat) = 60 := by decide +kernel
    rw [e60]
    push_cast
    grind
  · have e60 : 1 * 60 ^ 1 * (1 * 60 ^ 1) = 3600 := by decide
    rw [e60]
    omega
theorem st_gd {m : Nat} (m2 : 2 ≤ m) (m5 : m ≤ 5) : Gd 1 1 (4 / (m : Rat)) := by
  have key : ∀ c : Nat, m * c = 60 → Gd 1 1 (4 / (m : Rat)) := fun c hc => by
    refine ⟨4 * (c : Int), ?_, ?_⟩
    · have e : (m : Rat) * (c : Rat) = 60 := by
        have := congrArg (fun n : Nat => (n : Rat)) hc
        simpa using this
      have m0 : (m : Rat) ≠ 0 := by
        have : (0 : Rat) < (m : Rat) := Rat.natCast_pos.mpr (by omega)
        grind
      have e60 : ((1 * 60 ^ 1 : Nat) : Rat) = 60 := by decide +kernel
      rw [e60]
      push_cast
      grind
    · have h1 : 2 * c ≤ m * c := Nat.mul_le_mul_right c m2
      have e60 : 1 * 60 ^ 1 * (1 * 60 ^ 1) = 3600 := by decide
      rw [e60]
      omega
  have hm : m = 2 ∨ m = 3 ∨ m = 4 ∨ m = 5 := by omega
  rcases hm with h | h | h | h
  · exact key 30 (by omega)
  · exact key 20 (by omega)
  · exact key 15 (by omega)
  · exact key 12 (by omega)
theorem ok__law_rising (F : Fun K "_law_rising" "_law_rising" (topS 66) f fd) (T : Top K mg z o t6 t7 t8 t12) (C__law_taken : Cl P w K mg base "_law_taken" 2 ["_law_row", "_law_many"] (spTaken K)) (C__law_minus : Cl P w K mg base "_law_minus" 2 ["_law_one", "_law_other"] (spLMinus K)) (C__law_over : Cl P w K mg base "_law_over" 2 ["_law_one", "_law_other"] (spOver K)) (C__law_plus : Cl P w K mg base "_law_plus" 2 ["_law_one", "_law_other"] (spPlus K)) (C__law_times : Cl P w K mg base "_law_times" 2 ["_law_one", "_law_other"] (spTimes K)) (C__law_made : Cl P w K mg base "_law_made" 2 ["_law_top", "_law_low"] (spMade K)) : FnOk P w K mg base CX0 3 f fd ["_law_row", "_law_many", "_law_low", "_law_high"] (spLRising K) := by
  have sc := sc__law_rising
  refine F.ok sc (fun vs H Q E h => ?_) (fun cdv A0 outer s0 H vs Q E hr h => ?_)
  · obtain ⟨_, _, _, _, _, _, rfl, _⟩ := h
    rfl
  · obtain ⟨R, S, zs, m, x, y, rfl, hD, m2, m5, hx, hy, q⟩ := h
    refine ⟨_, (pss_cons (ps_par (i := 4) (j := 5) rfl sc.nd rfl rfl (by decide) rfl rfl (pa_cons (pe_lst pa_nil) (pa_cons (pe_cl C__law_minus hr (by rfl) (pa_cons (pv 2) (pa_cons (pe_tup (pa_cons (pe_cl C__law_taken hr (by rfl) (pa_cons (pv 0) (pa_cons pe_int pa_nil))) (pa_cons pe_int pa_nil))) pa_nil))) pa_nil)) (by rfl))
  (pss_cons (ps_set (i := 6) sc.nd rfl (by first | exact Or.inl rfl | exact Or.inr rfl) (pe_cl C__law_over hr (by rfl) (pa_cons (pe_cl C__law_minus hr (by rfl) (pa_cons (pv 3) (pa_cons (pv 2) pa_nil))) (pa_cons (pe_tup (pa_cons (pe_callB (call_max2 rfl) (by rfl) T.max (by decide +kernel) (pa_cons pe_int (pa_cons (pv 1) pa_nil))) (pa_cons pe_int pa_nil))) pa_nil))))
  (pss_cons (ps_for PassesOwn.never rfl (pi_range1 (by rfl) T.range (pa_cons (pv 1) pa_nil)) (pg_name (i := 7) sc.nd rfl (by first | exact Or.inl rfl | exact Or.inr rfl))
    (pss_cons (ps_set (i := 5) sc.nd rfl (by first | exact Or.inl rfl | exact Or.inr rfl) (pe_cl C__law_plus hr (by rfl) (pa_cons (pv 5) (pa_cons (pe_cl C__law_times hr (by rfl) (pa_cons (pv 6) (pa_cons (pe_cl C__law_made hr (by rfl) (pa_cons (pe_op op_add pe_int (pe_cl C__law_taken hr (by rfl) (pa_cons (pv 0) (pa_cons pe_int pa_nil)))) (pa_cons pe_int pa_nil))) pa_nil))) pa_nil))))
    (pss_one (ps_expr (pe_bm PySem.F.plainAttrs_list PySem.F.slot_list_append PySem.F.type_list_append mt_append (pv 4) (pa_cons (pv 5) pa_nil))))))
  (pss_one (ps_ret (pe_callTy call_tuple_of (by rfl) T.tuple (by decide +kernel) (pa_cons (pv 4) pa_nil))))))), ?_⟩
    -- the empty list
    refine ⟨Nat.zero_le _, fun L nL => ?_⟩
    have eL : Ex H (upd H L (.lst [])) := Ex.new nL
    have hL0 : upd H L (.lst []) L = some (.lst []) := upd_same
    have nLR : L ≠ R := fun e => by
      obtain ⟨xs, hxs⟩ := hD.lst
      rw [← e, nL] at hxs
      cases hxs
    have d0 := hD.ex eL
    have hx0 := hx.ex eL
    have hy0 := hy.ex eL
    have f0 : Fx R H (upd H L (.lst [])) := .ex eL
    generalize upd H L (.lst []) = H0 at *
    -- the first taken
    refine ⟨_, rfl, _, rfl, R, S, zs, 3, rfl, d0, by decide, by decide, fun t H1 ht f1 d1 => ?_⟩
    have T1 := d0.tx f1
    have hx1 := hx0.tx T1
    have hy1 := hy0.tx T1
    have hL1 := f1 L _ nLR hL0
    refine ⟨by show 2 ≤ sizeLine; decide, fun p np => ?_⟩
    have ep : Ex H1 (upd H1 p (.tup [.int (t : Int), .int 4])) := Ex.new np
    have s0 : Sm (0 : Rat) := Sm.zero
    have s4 : Sm (4 : Rat) := ⟨by decide +kernel, by decide +kernel⟩
    refine ⟨x, .ref p, 0, (t : Rat) * (1 / 4), rfl, hx1.ex ep, ⟨p, (t : Int), 4, rfl, .inl (.inl upd_same), by decide, ?_, by decide +kernel, four_di⟩, s0, fun v5 H2 e2 r2 => ⟨_, _, rfl, ?_⟩⟩
    · have h1 : (t : Int).natAbs ≤ 3 := by omega
      exact Nat.lt_of_le_of_lt h1 (by decide +kernel)
    have ht2 : t ≤ 2 := by omega
    have e12 := ep.trans e2
    have f02 := (f0.trans f1).trans (.ex e12)
    have hx2 := hx1.ex e12
    have hy2 := hy1.ex e12
    have d2 := d1.ex e12
    have hL2 := e12 _ _ hL1
    rw [← posR_zero (m := m)] at r2
    show tSeq _ _ _ [some (.ref R), some (.int (m : Int)), some x, some y, some (.ref L), some v5, none, none] H2
    have mz : (0 : Rat) < (m : Rat) := Rat.natCast_pos.mpr (by omega)
    have smM : Sm (m : Rat) := sm1 (gd_nat (n := m) (e := 1) (by have : (60 : Nat) ^ 1 = 60 := rfl; omega)) (by decide)
    refine q_set (evq_over (evq_lminus (evq_var rfl hy2) (evr_ev (Evl.ev_var rfl) fun H' e' => (hx2.ex e').pq s0) s4) (evq_pair (n := (m : Int)) (d := 1) (Evl.ev_is (Evl.ev_max2 Evl.ev_c (Evl.ev_var rfl)) ?_) Evl.ev_c rfl rfl) (by rw [show (4 : Rat) - 0 = 4 by decide +kernel]; exact s4) smM mz) fun v6 H3 e3 r3 => ?_
    · congr 1
      split <;> omega
    rw [show (4 : Rat) - 0 = 4 by decide +kernel] at r3
    have stg := st_gd m2 m5
    refine Evl.q_forR1 (n := (m : Int)) (Evl.ea_cons (Evl.ev_var rfl) Evl.ea_nil) (by omega)
      (fun i σ H' => ∃ (U : Nat → Nat) (wf : List V) (v5 : V) (y7 : Option V), σ = [some (.ref R), some (.int (m : Int)), some x, some y, some (.ref L), some v5, some v6, y7] ∧ Fx R H H' ∧ Dr K H' R S zs ∧ RT K H' v6 (4 / (m : Rat)) ∧ Ris U i ∧ RT K H' v5 (posR m t (U i)) ∧ H' L = some (.lst wf) ∧ RTs K H' wf ((List.range i).map fun j => posR m t (U (j + 1))))
      (fun H4 e4 => ⟨fun _ => 0, [], v5, none, rfl, f02.trans (.ex (e3.trans e4)), d2.ex (e3.trans e4), r3.ex e4, ⟨rfl, fun j hj => absurd hj (by omega), fun j hj => absurd hj (by omega)⟩, r2.ex (e3.trans e4), (e3.trans e4) _ _ hL2, .nil⟩) (fun i σ H4 hi h => ?_) fun σ H4 h => ?_
    · obtain ⟨U, wf, v5, y7, rfl, f4, d4, r6, RU, r5, hL4, rf⟩ := h
      have hle := RU.le i (Nat.le_refl _)
      have hi2 : i < m := by omega
      -- now + step * (1 + taken) / 4
      refine ⟨_, rfl, _, rfl, _, rfl, R, S, zs, 6, rfl, d4, by decide, by decide, fun k H5 hk f5 d5 => ⟨_, _, rfl, rfl, 1 + (k : Int), 4, rfl, by decide, by decide +kernel, fun v8 H6 e6 r8 => ?_⟩⟩
      have T5 := d4.tx f5
      have ek : Rat.divInt (1 + (k : Int)) 4 = ((k + 1 : Nat) : Rat) * (1 / 4) := by
        rw [← four_di]
        congr 1
        omega
      have r8 : RT K H6 v8 (Rat.divInt (1 + (k : Int)) 4) := r8
      rw [ek] at r8
      have r6' := (r6.tx T5).ex e6
      have r5' := (r5.tx T5).ex e6
      have gk := q4_gd (k := k + 1) (by omega)
      have gp := posR_gd m2 m5 ht2 (s := U i) (by omega)
      have gp2 := posR_gd m2 m5 ht2 (s := U i + (k + 1)) (by omega)
      refine ⟨v6, v8, _, _, rfl, r6', r8, sm1 stg (by decide), sm1 gk (by decide), trivial, fun v9 H7 e7 r9 => ?_⟩
      refine ⟨v5, v9, _, _, rfl, r5'.ex e7, r9, sm1 gp (by decide), sm1 (stg.mul1 gk) (by decide), trivial, fun v10 H8 e8 r10 => ?_⟩
      have r10 : RT K H8 v10 (posR m t (U i) + 4 / (m : Rat) * (((k + 1 : Nat) : Rat) * (1 / 4))) := r10
      rw [← posR_step (by omega)] at r10
      have e68 := (e6.trans e7).trans e8
      have f8 : Fx R H H8 := (f4.trans f5).trans (.ex e68)
      have hL8 : H8 L = some (.lst wf) := e68 _ _ (f5 L _ nLR hL4)
      have rf8 := (rf.tx T5).ex e68
      have lwf : wf.length = i := by rw [rf.1]; simp
      dsimp only [gName]
      refine s_appR hL8 (Evl.ev_var rfl) (evq_var rfl r10) (by omega) fun v11 H9 e9 r11 => ?_
      have hL9 := e9 _ _ hL8
      have t9 : Tx H9 (upd H9 L (.lst (wf ++ [v11]))) := .set hL9
      have lU : (if i + 1 ≤ i then U (i + 1) else U i + (k + 1)) = U i + (k + 1) := if_neg (by omega)
      have f9 : Fx R H (upd H9 L (.lst (wf ++ [v11]))) := by
        intro a u na ha
        by_cases ea : a = L
        · rw [ea, nL] at ha
          cases ha
        · rw [upd_ne ea]
          exact e9 _ _ (f8 a u na ha)
      have d9 : Dr K (upd H9 L (.lst (wf ++ [v11]))) R S zs := hD.mut nL (d5.ex (e68.trans e9))
      refine ⟨fun j => if j ≤ i then U j else U i + (k + 1), wf ++ [v11], v10, _, rfl, f9, d9, (((r6'.ex e7).ex e8).ex e9).tx t9, ris_snoc RU (by omega) (by omega), ?_, upd_same, ?_⟩
      · show RT K _ v10 (posR m t (if i + 1 ≤ i then U (i + 1) else U i + (k + 1)))
        rw [lU]
        exact (r10.ex e9).tx t9
      · rw [List.range_succ, List.map_append]
        have em : (List.range i).map (fun j => posR m t (if j + 1 ≤ i then U (j + 1) else U i + (k + 1))) = (List.range i).map (fun j => posR m t (U (j + 1))) := List.map_congr_left fun j hj => by
          have hj2 := List.mem_range.mp hj
          rw [if_pos (by omega)]
        have e1 : [i].map (fun j => posR m t (if j + 1 ≤ i then U (j + 1) else U i + (k + 1))) = [posR m t (U i + (k + 1))] := by
          show [posR m t (if i + 1 ≤ i then U (i + 1) else U i + (k + 1))] = _
          rw [lU]
        show RTs K _ _ ((List.range i).map (fun j => posR m t (if j + 1 ≤ i then U (j + 1) else U i + (k + 1))) ++ [i].map (fun j => posR m t (if j + 1 ≤ i then U (j + 1) else U i + (k + 1))))
        rw [em, e1]
        exact ((rf8.ex e9).tx t9).snoc (r11.tx t9)
    · obtain ⟨U, wf, v5, y7, rfl, f4, d4, r6, RU, r5, hL4, rf⟩ := h
      rw [Int.toNat_natCast] at RU rf
      refine s_ret (R := fun v H' => PT K H' v (xsOf m t U)) (evp_tuple (H0 := H) (evr_ev (Evl.ev_var rfl) fun H5 e5 => ⟨L, wf, rfl, nL, e5 _ _ hL4, rf.ex e5⟩)) fun v H5 e5 r => q v H5 t U ht2 RU r (f4.trans (.ex e5)) (d4.ex e5)
end
end BW
/-! BwP: alike. -/
namespace BW
open PySem PySem.Spec PyProof.Rows L2 BC
open Evl (Ex)
section
variable {P : Program} {w : World} {K : PySem.W.Frag} {mg : Str → Option Value} {base : Heap} {f z o : Addr} {fd : FuncData} {t6 t7 t8 t12 : Tok}
/-- [v i for i in range(n) if f i] -/
theorem el_range1F {σ : L2.St} {H : Hp} {ta te : TE} {tt : TT} {j : Nat} {n : Nat} (f : Nat → Bool) (v : Nat → V) (ha : Evl.Ev ta σ H (.int (n : Int))) (hn : n ≤ 1000)
    (hw : ∀ x, wipe ((wipe σ [j]).set j (some x)) [j] = wipe σ [j])
    (ht : ∀ (i : Nat) H', Ex H H' → i < n → Evl.EvT tt ((wipe σ [j]).set j (some (.int (0 + (i : Int))))) H' (f i)) (he : ∀ (i : Nat) H', Ex H H' → i < n → Evl.Ev te ((wipe σ [j]).set j (some (.int (0 + (i : Int))))) H' (v i)) :
    EvR (tLc (iRng1 (tCons ta tNil)) (gName j) tt te [j]) σ H fun w H' => ∃ p, w = .ref p ∧ H p = none ∧ H' p = some (.lst (Evl.given n f v)) := fun H0 e0 Q q => by
  refine ha H0 e0 _ fun H1 e1 => ⟨(n : Int), rfl, by omega, by omega, fun D hD => ?_⟩
  have e01 := e0.trans e1
  refine lc_range (lo := 0) (n := n) (Evl.Cw H1 f v D) ⟨hD, Ex.new hD, upd_same⟩ (fun i H' hi p => ⟨hw _, Evl.cw_turn p (by omega) (ht i H1 e01 hi) (fun _ => he i H1 e01 hi)⟩) (fun H' p => q _ _ (e1.trans p.2.1) ⟨D, rfl, Evl.fresh_back e01 p.1, p.2.2⟩)
/-- l == [] -/
theorem ev_eqNil {σ : L2.St} {H : Hp} {te : TE} {ns : List Int} (h : EvR te σ H fun v H' => ∃ p, v = .ref p ∧ H' p = some (.lst (ns.map V.int))) : Evl.Ev (tOp (rEqD K) te (tLst tNil)) σ H (.bl (decide (ns = []))) := fun H1 e1 Q q =>
  h H1 e1 _ fun v H2 e2 r => ⟨Nat.zero_le _, fun m hm => by
    obtain ⟨p, rfl, hp⟩ := r
    have em : Ex H2 (upd H2 m (.lst [])) := Ex.new hm
    refine ⟨.list (ns.map PyData.int), .list [], .lst (.inl (.inl (em p _ hp))) (dp_ints _), .lst (.inl (.inl upd_same)) .nil, shaped_ints _, shaped_ints [], ?_⟩
    have ee : PyData.eqv (.list (ns.map PyData.int)) (.list []) = decide (ns = []) := by
      cases ns with
      | nil => simp [PyData.eqv, PyData.eqvAll]
      | cons n r => simp [PyData.eqv, PyData.eqvAll]
    rw [ee]
    exact q _ (e2.trans em)⟩
def spAlike0 : Sp := fun vs H Q _ => ∃ i j : Int, vs = [.int i, .int j] ∧ Post H Q fun v _ => v = .bl (decide (i = j))
def spAlike (K : PySem.W.Frag) : Sp := fun vs H Q _ => ∃ (x y : V) (a b : Rat), vs = [x, y] ∧ RT K H x a ∧ RT K H y b ∧ Post H Q fun v _ => v = .bl (decide (a = b))
theorem sc__law_alike : FnScope ["_law_found", "_law_due", "_law_k"] ["_law_found", "_law_due"] (defScope (topS 53)) := ⟨rfl, rfl, rfl, by decide +kernel, rfl, by decide +kernel, by decide +kernel⟩
theorem kit2_no : PySem.W.kitAny K (.type "int") [.type "tuple", .type "list"] = some false := kitAny_cons (b := false) (kit_ty (by decide +kernel)) (fun _ => kitAny_cons (b := false) (kit_ty (by decide +kernel)) (fun _ => kitAny_nil) fun h => nomatch h) fun h => nomatch h
theorem kit2_yes : PySem.W.kitAny K (.type "tuple") [.type "tuple", .type "list"] = some true := kitAny_cons (b := true) (kit_ty (by decide +kernel)) (fun h => nomatch h) fun _ => rfl
theorem ok__law_alike0 (F : Fun K "_law_alike" "_law_alike" (topS 53) f fd) (T : Top K mg z o t6 t7 t8 t12) : FnOk P w K mg base CX0 1 f fd ["_law_found", "_law_due"] spAlike0 := by
  have sc := sc__law_alike
  refine F.ok sc (fun vs H Q E h => ?_) (fun cdv A0 outer s0 H vs Q E hr h => ?_)
  · obtain ⟨_, _, rfl, _⟩ := h
    rfl
  · obtain ⟨i, j, rfl, q⟩ := h
    refine ⟨_, (pss_cons (ps_if (pt_val (pe_callB call_isiT (by rfl) T.isinstance (by decide +kernel) (pa_cons (pv 1) (pa_cons (pe_tup (pa_cons (pe_bltn (v := .ty "tuple") (by rfl) T.tuple (by decide +kernel) rfl) (pa_cons (pe_bltn (v := .ty "list") (by rfl) T.list (by decide +kernel) rfl) pa_nil))) pa_nil))))
    pss_never pss_nil)
  (pss_cons (ps_if (PW.pt (pw_or (pt_cmpR op_isN (pv 1) pe_non (nomark _)) (pw_or1 (pt_val (pe_callB call_isi (by rfl) T.isinstance (by decide +kernel) (pa_cons (pv 1) (pa_cons (pe_bltn (v := .ty "str") (by rfl) T.str (by decide +kernel) rfl) pa_nil)))))))
    pss_never pss_nil)
  (pss_one (ps_ret (pe_and (pe_callB call_isi (by rfl) T.isinstance (by decide +kernel) (pa_cons (pv 0) (pa_cons (pe_bltn (v := .ty "int") (by rfl) T.int (by decide +kernel) rfl) pa_nil))) (pe_and (pe_cmpR op_eq (pe_callB call_isi (by rfl) T.isinstance (by decide +kernel) (pa_cons (pv 0) (pa_cons (pe_bltn (v := .ty "bool") (by rfl) T.bool (by decide +kernel) rfl) pa_nil))) (pe_callB call_isi (by rfl) T.isinstance (by decide +kernel) (pa_cons (pv 1) (pa_cons (pe_bltn (v := .ty "bool") (by rfl) T.bool (by decide +kernel) rfl) pa_nil))) (nomark _)) (pe_one (pe_cmpR op_eq (pv 0) (pv 1) (nomark _))))))))), ?_⟩
    refine Evl.q_when (b := false) (evr_B (ev_isiT (Evl.ev_var rfl) (fun _ _ => .base (.int j)) kit2_no)) (fun h => nomatch h) fun _ H1 e1 => ?_
    refine Evl.q_when (b := false) (Evl.et_or (a := false) (b := false) (Evl.et_test (Evl.ev_is (Evl.ev_op (x := .int j) (y := .non) (z := .bl (decide (V.int j = .non))) (Evl.ev_var rfl) Evl.ev_c (Evl.rv_val fun _ _ Q q => ⟨rfl, q⟩)) (by simp))) fun _ => Evl.et_B (ev_isi (Evl.ev_var rfl) (fun _ _ => .base (.int j)) (kit_ty (by decide +kernel)))) (fun h => nomatch h) fun _ H2 e2 => ?_
    refine s_ret (evr_is (w := .bl (decide (i = j))) (Evl.ev_is (Evl.ev_andV (a := true) (b := decide (i = j)) (ev_isi (Evl.ev_var rfl) (fun _ _ => .base (.int i)) (kit_ty (by decide +kernel))) fun _ => Evl.ev_is (Evl.ev_andV (a := true) (b := decide (i = j)) (Evl.ev_is (Evl.ev_op (x := .bl false) (y := .bl false) (ev_isi (Evl.ev_var rfl) (fun _ _ => .base (.int i)) (kit_ty (by decide +kernel))) (ev_isi (Evl.ev_var rfl) (fun _ _ => .base (.int j)) (kit_ty (by decide +kernel))) (Evl.rv_eq rfl)) (by decide)) fun _ => Evl.ev_is (Evl.ev_op (Evl.ev_var rfl) (Evl.ev_var rfl) (Evl.rv_eq rfl)) ?_) (by rw [Bool.true_and])) (by rw [Bool.true_and]))) fun v H3 e3 r => q v H3 ((e1.trans e2).trans e3) r
    by_cases h : i = j
    · subst h
      simp
    · rw [decide_eq_false h, decide_eq_false fun z => h (V.int.inj z)]
theorem ok__law_alike (F : Fun K "_law_alike" "_law_alike" (topS 53) f fd) (T : Top K mg z o t6 t7 t8 t12) (C__law_alike : Cl P w K mg base "_law_alike" 1 ["_law_found", "_law_due"] spAlike0) : FnOk P w K mg base CX0 2 f fd ["_law_found", "_law_due"] (spAlike K) := by
  have sc := sc__law_alike
  refine F.ok sc (fun vs H Q E h => ?_) (fun cdv A0 outer s0 H vs Q E hr h => ?_)
  · obtain ⟨_, _, _, _, rfl, _⟩ := h
    rfl
  · obtain ⟨x, y, a, b, rfl, ⟨p1, rfl, h1⟩, ⟨p2, rfl, h2⟩, q⟩ := h
    refine ⟨_, (pss_cons (ps_if (pt_val (pe_callB call_isiT (by rfl) T.isinstance (by decide +kernel) (pa_cons (pv 1) (pa_cons (pe_tup (pa_cons (pe_bltn (v := .ty "tuple") (by rfl) T.tuple (by decide +kernel) rfl) (pa_cons (pe_bltn (v := .ty "list") (by rfl) T.list (by decide +kernel) rfl) pa_nil))) pa_nil))))
    (pss_cons (ps_if (PW.pt (pw_or (pt_not (pt_val (pe_callB call_isiT (by rfl) T.isinstance (by decide +kernel) (pa_cons (pv 0) (pa_cons (pe_tup (pa_cons (pe_bltn (v := .ty "tuple") (by rfl) T.tuple (by decide +kernel) rfl) (pa_cons (pe_bltn (v := .ty "list") (by rfl) T.list (by decide +kernel) rfl) pa_nil))) pa_nil))))) (pw_or1 (pt_cmpR op_ne (pe_callB call_isi (by rfl) T.isinstance (by decide +kernel) (pa_cons (pv 0) (pa_cons (pe_bltn (v := .ty "list") (by rfl) T.list (by decide +kernel) rfl) pa_nil))) (pe_callB call_isi (by rfl) T.isinstance (by decide +kernel) (pa_cons (pv 1) (pa_cons (pe_bltn (v := .ty "list") (by rfl) T.list (by decide +kernel) rfl) pa_nil))) (nomark _)))))
      (pss_one (ps_ret pe_bl)) pss_nil)
    (pss_cons (ps_if (pt_cmpR op_ne (pe_callB call_len_seq (by rfl) T.len (by decide +kernel) (pa_cons (pv 0) pa_nil)) (pe_callB call_len_seq (by rfl) T.len (by decide +kernel) (pa_cons (pv 1) pa_nil)) (nomark _))
      (pss_one (ps_ret pe_bl)) pss_nil)
    (pss_one (ps_ret (pe_cmpR (by exact op_eqD hr.units) (pe_lc (own := [("_law_k", 2)]) (g := gName 2) (tt := tNot (tB (tCall spAlike0 [] E0 (tCons (tOp (rIxT K) (tVar 0) (tVar 2)) (tCons (tOp (rIxT K) (tVar 1) (tVar 2)) tNil))))) (te := tVar 2) rfl sc.nd (pi_range1 (by rfl) T.range (pa_cons (pe_callB call_len_seq (by rfl) T.len (by decide +kernel) (pa_cons (pv 1) pa_nil)) pa_nil)) (blkOk_by (own := [("_law_k", 2)]) (N := ["_law_found", "_law_due", "_law_k"]) (sc := (defScope (topS 53))) (by decide +kernel)) (fun _ _ _ _ _ => (pg_name (i := 2) sc.nd rfl (Or.inl rfl))) (fun _ _ _ _ _ => (pts_one (pt_not (pt_val (pe_cl C__law_alike hr (by rfl) (pa_cons (pe_ix ix_tup (pv 0) (pv 2) (fun _ _ => rfl)) (pa_cons (pe_ix ix_tup (pv 1) (pv 2) (fun _ _ => rfl)) pa_nil))))))) (fun _ _ _ _ _ => (pv 2))) (pe_lst pa_nil) (nomark _)))))) pss_nil)
  pss_never), ?_⟩
    refine Evl.q_if (b := true) (evr_B (ev_isiT (Evl.ev_var rfl) (fun _ e => ty_tup (tx_t (.of e) h2)) kit2_yes)) (fun _ H1 e1 => ?_) (fun h => nomatch h)
    refine Evl.q_when (b := false) (Evl.et_or (a := false) (b := false) (Evl.et_not (a := true) (evr_B (ev_isiT (Evl.ev_var rfl) (fun _ e => ty_tup (tx_t (.of (e1.trans e)) h1)) kit2_yes))) fun _ => Evl.et_test (Evl.ev_is (Evl.ev_op (x := .bl false) (y := .bl false) (ev_isi (Evl.ev_var rfl) (fun _ e => ty_tup (tx_t (.of (e1.trans e)) h1)) (kit_ty (by decide +kernel))) (ev_isi (Evl.ev_var rfl) (fun _ e => ty_tup (tx_t (.of (e1.trans e)) h2)) (kit_ty (by decide +kernel))) (Evl.rv_ne rfl)) (by decide))) (fun h => nomatch h) fun _ H2 e2 => ?_
    have e12 := e1.trans e2
    refine Evl.q_when (b := false) (Evl.et_test (Evl.ev_is (Evl.ev_op (ev_lenT (Evl.ev_var rfl) (tx_t (.of e12) h1)) (ev_lenT (Evl.ev_var rfl) (tx_t (.of e12) h2)) (Evl.rv_ne rfl)) (by simp))) (fun h => nomatch h) fun _ H3 e3 => ?_
    have e13 := e12.trans e3
    have hlc := el_range1F (σ := [some (.ref p1), some (.ref p2), none]) (H := H3) (j := 2) (n := 2) (ta := tCB (Evl.rLenS K) (tCons (tVar 1) tNil)) (te := tVar 2) (tt := tNot (tB (tCall spAlike0 [] E0 (tCons (tOp (rIxT K) (tVar 0) (tVar 2)) (tCons (tOp (rIxT K) (tVar 1) (tVar 2)) tNil))))) (fun k => !decide ((if k = 0 then a.num else (a.den : Int)) = (if k = 0 then b.num else (b.den : Int)))) (fun k => .int (0 + (k : Int))) (ev_lenT (Evl.ev_var rfl) (tx_t (.of e13) h2)) (by decide) (fun _ => rfl) (fun i H' e' hi => ?_) fun i H' e' hi => Evl.ev_var rfl
    · have hg : Evl.given 2 (fun k => !decide ((if k = 0 then a.num else (a.den : Int)) = (if k = 0 then b.num else (b.den : Int)))) (fun k => .int (0 + (k : Int))) = (((List.range 2).filter fun k => !decide ((if k = 0 then a.num else (a.den : Int)) = (if k = 0 then b.num else (b.den : Int)))).map fun k : Nat => (0 : Int) + (k : Int)).map V.int := by
        unfold Evl.given
        rw [List.map_map]
        rfl
      rw [hg] at hlc
      have hev := ev_eqNil (K := K) (EvR.imp hlc fun v H' _ r => by
        obtain ⟨p, h1, _, h2⟩ := r
        exact ⟨p, h1, h2⟩)
      refine Evl.s_ret hev fun H4 e4 => ?_
      refine q _ _ (e13.trans e4) ?_
      congr 1
      by_cases hn : a.num = b.num
      · by_cases hd : a.den = b.den
        · have : a = b := Rat.ext hn hd
          subst this
          simp
        · have h3 : ¬ a = b := fun z => hd (by rw [z])
          have hd2 : ¬ (a.den : Int) = (b.den : Int) := by omega
          simp [List.range_succ, hn, hd, h3]
          omega
      · have h3 : ¬ a = b := fun z => hn (by rw [z])
        simp [List.range_succ, hn, h3]
    · have hi2 : i < 2 := hi
      have hk : ∀ (c : Rat), [V.int c.num, V.int (c.den : Int)][i]? = some (V.int (if i = 0 then c.num else (c.den : Int))) := fun c => by
        match i, hi2 with
        | 0, _ => rfl
        | 1, _ => rfl
      refine Evl.et_not (evr_B (evr_call (ear_cons (evr_is (w := .int (if i = 0 then a.num else (a.den : Int))) (Evl.ev_op (Evl.ev_var rfl) (Evl.ev_var rfl) (Evl.rv_ixT (tx_t (.of (e13.trans e')) h1) (at_of (j := i) (by omega) (hk a))))) mn_eq (ear_cons (evr_is (w := .int (if i = 0 then b.num else (b.den : Int))) (Evl.ev_op (Evl.ev_var rfl) (Evl.ev_var rfl) (Evl.rv_ixT (tx_t (.of (e13.trans e')) h2) (at_of (j := i) (by omega) (hk b))))) mn_eq ear_nil)) fun vs H4 e4 hv Q kk => ?_))
      obtain ⟨v, r, rfl, rfl, v2, r2, rfl, rfl, rfl⟩ := hv
      exact ⟨_, _, rfl, kk⟩
end
end BW
/-! BwQ: pieces as data; what the law asks, of the pieces. -/
namespace BW
open PySem PySem.Spec PyProof.Rows L2 BC
open Evl (Ex)
def pcD (p : Pc) : PyData := .tuple [pD [p.1, p.2.1], pD p.2.2]
theorem pcD_eqv (a b : Pc) : PyData.eqv (pcD a) (pcD b) = decide (a = b) := by
  obtain ⟨a1, a2, a3⟩ := a
  obtain ⟨b1, b2, b3⟩ := b
  unfold pcD
  rw [PyData.eqv, PyData.eqvAll, PyData.eqvAll, PyData.eqvAll, pD_eqv, pD_eqv]
  by_cases h1 : a1 = b1
  · by_cases h2 : a2 = b2
    · by_cases h3 : a3 = b3
      · simp [h1, h2, h3]
      · simp [h1, h2, h3]
    · simp [h2]
  · simp [h1]
theorem pcD_lay (a : Pc) : (pcD a).canLay0 = true := by
  unfold pcD
  simp only [PyData.canLay0, PyData.canLayAll0, pD_lay, Bool.and_self]
theorem pcD_depth (a : Pc) : (pcD a).depth ≤ 3 := by
  have h1 := pD_depth [a.1, a.2.1]
  have h2 := pD_depth a.2.2
  unfold pcD
  simp only [PyData.depth, PyData.depthAll]
  omega
def pcsD (ps : List Pc) : PyData := .tuple (ps.map pcD)
theorem pcsD_eqv (a b : List Pc) : PyData.eqv (pcsD a) (pcsD b) = decide (a = b) := by
  unfold pcsD
  rw [PyData.eqv]
  exact eqvAll_map pcD_eqv a b
theorem pcsD_shaped (a : List Pc) : SeqAt.shaped (pcsD a) = true := shaped_tup (n := 3) (layAll_map pcD_lay a) (depthAll_map pcD_depth a) (by decide)
theorem PC1.dp {K : PySem.W.Frag} {H : Hp} {v : V} {p : Pc} (h : PC1 K H v p) : Dp K H v (pcD p) := by
  obtain ⟨a, iv, pv, rfl, h1, h2, h3⟩ := h
  exact .tup h1 (.cons h2.dp (.cons h3.dp .nil))
theorem dp_of {α : Type} {g : α → PyData} {K : PySem.W.Frag} {H : Hp} {z : α} : ∀ {vs : List V} {ps : List α}, vs.length = ps.length → (∀ i v, vs[i]? = some v → Dp K H v (g (ps.getD i z))) → DpAll K H vs (ps.map g)
  | [], [], _, _ => .nil
  | [], _ :: _, h, _ => by simp at h
  | _ :: _, [], h, _ => by simp at h
  | v :: vs, p :: ps, h, k => .cons (k 0 v rfl) (dp_of (z := z) (by simpa using h) fun i w hw => by
    have := k (i + 1) w (by simpa using hw)
    simpa using this)
theorem PCs.dp {K : PySem.W.Frag} {H : Hp} {v : V} {ps : List Pc} (h : PCs K H v ps) : Dp K H v (pcsD ps) := by
  obtain ⟨a, vs, rfl, h1, h2⟩ := h
  exact .tup h1 (dp_of (z := pc0) h2.1 fun i v hv => (h2.2 i v hv).dp)
section
variable {K : PySem.W.Frag} {σ : L2.St} {H : Hp} {ta tb : TE} {a b : List Pc}
abbrev EvC (K : PySem.W.Frag) (te : TE) (σ : L2.St) (H : Hp) (ps : List Pc) : Prop := EvR te σ H fun v H' => PCs K H' v ps
theorem evc_var {i : Nat} {v : V} {ps : List Pc} (h : σ[i]? = some (some v)) (r : PCs K H v ps) : EvC K (tVar i) σ H ps := evr_ev (Evl.ev_var h) fun H' e => r.ex e
theorem ev_eqC (ha : EvC K ta σ H a) (hb : EvC K tb σ H b) : Evl.Ev (tOp (rEqD K) ta tb) σ H (.bl (decide (a = b))) := fun H1 e1 Q q =>
  ha H1 e1 _ fun v H2 e2 r => hb H2 (e1.trans e2) _ fun w H3 e3 r2 => ⟨pcsD a, pcsD b, (r.ex e3).dp, r2.dp, pcsD_shaped a, pcsD_shaped b, by
    rw [pcsD_eqv]
    exact q H3 (e2.trans e3)⟩
theorem ev_neC (ha : EvC K ta σ H a) (hb : EvC K tb σ H b) : Evl.Ev (tOp (rNeD K) ta tb) σ H (.bl (!decide (a = b))) := fun H1 e1 Q q =>
  ha H1 e1 _ fun v H2 e2 r => hb H2 (e1.trans e2) _ fun w H3 e3 r2 => ⟨pcsD a, pcsD b, (r.ex e3).dp, r2.dp, pcsD_shaped a, pcsD_shaped b, by
    rw [pcsD_eqv]
    exact q H3 (e2.trans e3)⟩
theorem mn_c {ps : List Pc} : Mn fun v H' => PCs K H' v ps := fun _ _ _ e r => r.ex e
end
/-! ### the pieces -/
section
variable {xs ys ss tt : List Rat} {d e : Nat}
theorem Places.ne (Pl : Places xs) {i : Nat} (hi : i + 1 < xs.length) : xs.getD i 0 ≠ xs.getD (i + 1) 0 := fun z => by
  have := Pl.up i hi
  rw [z] at this
  grind
theorem pcs_len : (pcsOf xs ys ss).length = xs.length - 1 := by simp [pcsOf]
theorem pcs_get {i : Nat} (hi : i + 1 < xs.length) : (pcsOf xs ys ss).getD i pc0 = pcOf xs ys ss i := by
  unfold pcsOf
  rw [List.getD_eq_getElem?_getD, List.getElem?_map, List.getElem?_range (by omega)]
  rfl
theorem pc_1 {i : Nat} : (pcOf xs ys ss i).1 = xs.getD i 0 := by
  unfold pcOf
  dsimp only
theorem pc_2 {i : Nat} : (pcOf xs ys ss i).2.1 = xs.getD (i + 1) 0 := by
  unfold pcOf
  dsimp only
theorem pc_3 {i : Nat} : (pcOf xs ys ss i).2.2 = herm (xs.getD i 0) (xs.getD (i + 1) 0) (ys.getD i 0) (ss.getD i 0) (ys.getD (i + 1) 0) (ss.getD (i + 1) 0) := by
  unfold pcOf
  dsimp only
theorem pieces_of (Pl : Places xs) (gy : ∀ q ∈ ys, Gd d e q) (gs : ∀ q ∈ ss, Gd d e q) (d0 : 0 < d) : Pieces (pcsOf xs ys ss) d (e + 20) := by
  have two := Pl.two
  have few := Pl.few
  have gxs : ∀ i, Gd 1 1 (xs.getD i 0) := getD_gd (P := Gd 1 1) Pl.gx (gd_zero (by decide))
  have gys : ∀ i, Gd d e (ys.getD i 0) := getD_gd (P := Gd d e) gy (gd_zero d0)
  have gss : ∀ i, Gd d e (ss.getD i 0) := getD_gd (P := Gd d e) gs (gd_zero d0)
  refine ⟨by rw [pcs_len]; omega, by rw [pcs_len]; omega, fun i hi => ?_, fun i hi => ?_, fun i h0 hi => ?_, fun i hi => ?_, fun i hi => ?_, fun i hi => ?_⟩ <;> rw [pcs_len] at hi
  · rw [pcs_get (by omega), pc_1, pc_2]
    exact ⟨gxs _, gxs _⟩
  · rw [pcs_get (by omega), pc_1, pc_2]
    have := Pl.up i (by omega)
    grind
  · rw [pcs_get (by omega), pcs_get (by omega), pc_1, pc_2]
    rw [show i - 1 + 1 = i by omega]
  · rw [pcs_get (by omega), pc_3]
    exact herm_gd d0 (Pl.up i (by omega)) (Pl.inv i (by omega)) (gxs _) (gxs _) (gys _) (gss _) (gys _) (gss _)
  · rw [pcs_get (by omega), pc_3]
    exact herm_len (Pl.ne (by omega))
  · rw [pcs_get (by omega), pc_3]
    exact herm_last (Pl.ne (by omega))
theorem bendL_eq (Pl : Places xs) {i : Nat} (hi : i + 1 < xs.length) : bendL (pcsOf xs ys ss) i = qf (pOf xs i) (dOf xs ys i) (ss.getD i 0) (ss.getD (i + 1) 0) := by
  unfold bendL
  rw [pcs_get hi, pc_1, pc_2, pc_3, herm_bend (Pl.ne hi)]
  unfold pOf dOf gOf pOf
  rfl
def bendT (xs ys ss : List Rat) : Rat := totN (bendL (pcsOf xs ys ss)) (pcsOf xs ys ss).length
theorem bendT_eq (Pl : Places xs) : bendT xs ys ss = bendS (pOf xs) (dOf xs ys) (fun i => ss.getD i 0) (xs.length - 1) := by
  unfold bendT bendS
  rw [pcs_len]
  exact totN_ext _ fun i hi => bendL_eq Pl (by omega)
theorem lawT_eq (Pl : Places xs) : totN (fun i => lawI ((pcsOf xs ys ss).getD i pc0).2.2 ((pcsOf xs ys ss).getD i pc0).1 ((pcsOf xs ys ss).getD i pc0).2.1) (pcsOf xs ys ss).length = bendT xs ys ss := by
  unfold bendT
  refine totN_ext _ fun i hi => ?_
  rw [pcs_len] at hi
  unfold bendL
  rw [pcs_get (by omega), pc_1, pc_2, pc_3]
  exact herm_law (Pl.ne (by omega))
theorem nat_len : (natOf xs ys).length = xs.length := by simp [natOf]
theorem nat_get {i : Nat} (hi : i < xs.length) : (natOf xs ys).getD i 0 = XX xs.length (pOf xs) (rOf xs ys) i := map_range_getD hi
theorem nat_ok {a : Nat → Nat} (Tr : Tri xs.length (pOf xs) (rOf xs ys) a) : NatEq (pOf xs) (dOf xs ys) (fun i => (natOf xs ys).getD i 0) (xs.length - 1) := by
  refine nat_eq Tr.n2 fun i hi => ?_
  have h := XX_row (n := xs.length) (p := pOf xs) (r := rOf xs ys) (i := i) (fun k hk => ne_of_pos (PP_pos Tr hk)) hi
  show (if 0 < i then pOf xs (i - 1) * (natOf xs ys).getD (i - 1) 0 else 0) + bd xs.length (pOf xs) i * (natOf xs ys).getD i 0 + (if i + 1 < xs.length then pOf xs i * (natOf xs ys).getD (i + 1) 0 else 0) = rOf xs ys i
  rw [nat_get hi, nat_get (show i - 1 < xs.length by omega)]
  by_cases h2 : i + 1 < xs.length
  · rw [nat_get h2]
    exact h
  · rw [if_neg h2] at h ⊢
    exact h
theorem p_pos (Pl : Places xs) {i : Nat} (hi : i < xs.length - 1) : 0 < pOf xs i := by
  have := Pl.up i (by omega)
  unfold pOf
  rw [Rat.div_def, Rat.one_mul]
  exact Rat.inv_pos.mpr this
theorem list_ext (h1 : ss.length = tt.length) (h : ∀ i, i < ss.length → ss.getD i 0 = tt.getD i 0) : ss = tt := by
  apply List.ext_getElem h1
  intro i h2 h3
  have := h i h2
  rw [getD_lt h2, getD_lt h3] at this
  exact this
theorem least_le {a : Nat → Nat} (Pl : Places xs) (Tr : Tri xs.length (pOf xs) (rOf xs ys) a) : bendT xs ys (natOf xs ys) ≤ bendT xs ys ss := by
  have two := Pl.two
  rw [bendT_eq Pl, bendT_eq Pl]
  exact bend_le (nat_ok Tr) (by omega) fun i hi => p_pos Pl hi
theorem least_nn (Pl : Places xs) : 0 ≤ bendT xs ys ss := by
  rw [bendT_eq Pl]
  exact bend_nn fun i hi => p_pos Pl hi
theorem least_iff {a : Nat → Nat} (Pl : Places xs) (Tr : Tri xs.length (pOf xs) (rOf xs ys) a) (ls : ss.length = xs.length) : bendT xs ys ss = bendT xs ys (natOf xs ys) ↔ pcsOf xs ys ss = pcsOf xs ys (natOf xs ys) := by
  have two := Pl.two
  constructor
  · intro h
    rw [bendT_eq Pl, bendT_eq Pl] at h
    have h2 := bend_only (nat_ok Tr) (by omega) (fun i hi => p_pos Pl hi) h
    have : ss = natOf xs ys := list_ext (by rw [nat_len, ls]) fun i hi => h2 i (by omega)
    rw [this]
  · intro h
    unfold bendT
    rw [h]
/-- the slopes told back -/
theorem told_low (Pl : Places xs) {i : Nat} (hi : i + 1 < xs.length) : pat (pslope ((pcsOf xs ys ss).getD i pc0).2.2) (xs.getD i 0) = ss.getD i 0 := by
  rw [pcs_get hi, pc_3]
  exact herm_low (Pl.ne hi)
theorem told_high (Pl : Places xs) {i : Nat} (hi : i + 1 < xs.length) : pat (pslope ((pcsOf xs ys ss).getD i pc0).2.2) (xs.getD (i + 1) 0) = ss.getD (i + 1) 0 := by
  rw [pcs_get hi, pc_3]
  exact herm_high (Pl.ne hi)
theorem told (Pl : Places xs) {i : Nat} (hi : i < xs.length) : pat (pslope ((pcsOf xs ys ss).getD (i - 1) pc0).2.2) (xs.getD i 0) = ss.getD i 0 := by
  have two := Pl.two
  by_cases h : i = 0
  · subst h
    exact told_low Pl (by omega)
  · have := told_high (ys := ys) (ss := ss) Pl (i := i - 1) (by omega)
    rw [show i - 1 + 1 = i by omega] at this
    exact this
end
end BW
/-! BwS: what the law's own text evaluates. -/
namespace BW
open PySem PySem.Spec PyProof.Rows L2 BC
open Evl (Ex)
section
variable {K : PySem.W.Frag} {σ : L2.St} {H : Hp} {ta tb tc te : TE} {xs ys ss : List Rat} {d e : Nat} {D : L2.Ends} {t tz : TS}
/-- a statement, then another: what lies between -/
theorem q_via (Mid : L2.St → Hp → Prop) (h : ∀ N : L2.St → Hp → Prop, (∀ σ' H', Mid σ' H' → N σ' H') → t { D with nx := N } σ H) (k : ∀ σ' H', Mid σ' H' → tz D σ' H') : tSeq t tz D σ H := h _ k
theorem evc_cubic (hx : EvP K ta σ H xs) (hy : EvP K tb σ H ys) (hs : EvP K tc σ H ss) (ly : ys.length = xs.length) (ls : ss.length = xs.length) (Pl : Places xs) (gy : ∀ q ∈ ys, Gd d e q) (gs : ∀ q ∈ ss, Gd d e q) (B : Bd d (e + 30)) : EvC K (tCall (spCubic K) [] E0 (tCons ta (tCons tb (tCons tc tNil)))) σ H (pcsOf xs ys ss) :=
  evr_call (ear_cons hx mn_p (ear_cons hy mn_p (ear_cons hs mn_p ear_nil))) fun vs H4 e4 hv Q kk => by
    obtain ⟨v, r, rfl, hx3, v2, r2, rfl, hy3, v3, r3, rfl, hs3, rfl⟩ := hv
    exact ⟨v, v2, v3, xs, ys, ss, d, e, rfl, hx3, hy3, hs3, ly, ls, Pl, gy, gs, B, kk⟩
theorem evc_natural {a : Nat → Nat} (hx : EvP K ta σ H xs) (hy : EvP K tb σ H ys) (ly : ys.length = xs.length) (Pl : Places xs) (gy : ∀ q ∈ ys, Gd 1 1 q) (Tr : Tri xs.length (pOf xs) (rOf xs ys) a) : EvC K (tCall (spNatural K) [] E0 (tCons ta (tCons tb tNil))) σ H (pcsOf xs ys (natOf xs ys)) :=
  evr_call (ear_cons hx mn_p (ear_cons hy mn_p ear_nil)) fun vs H4 e4 hv Q kk => by
    obtain ⟨v, r, rfl, hx3, v2, r2, rfl, hy3, rfl⟩ := hv
    exact ⟨v, v2, xs, ys, a, rfl, hx3, hy3, ly, Pl, gy, Tr, kk⟩
theorem evq_bending {ps : List Pc} (h : EvC K ta σ H ps) (G : Pieces ps d e) (d0 : 0 < d) (B : Bd (d * d) (2 * e + 30)) : EvQ K (tCall (spBending K) [] E0 (tCons ta tNil)) σ H (totN (bendL ps) ps.length) :=
  evr_call (ear_cons h mn_c ear_nil) fun vs H4 e4 hv Q kk => by
    obtain ⟨v, r, rfl, h3, rfl⟩ := hv
    exact ⟨v, ps, d, e, rfl, h3, G, d0, B, kk⟩
theorem evp_lsq {a : List Rat} (ha : EvP K ta σ H a) (hb : EvP K tb σ H a) (ga : ∀ q ∈ a, Gd d e q) (d0 : 0 < d) (la : a.length ≤ 100) (B : Bd (d * d) (e + e + a.length + 1)) : EvP K (tCall (spLSq K) [] E0 (tCons ta (tCons tb tNil))) σ H (trim (pmul a a)) :=
  evr_call (ear_cons ha mn_p (ear_cons hb mn_p ear_nil)) fun vs H4 e4 hv Q kk => by
    obtain ⟨v, r, rfl, h3, v2, r2, rfl, h4, rfl⟩ := hv
    exact ⟨v, v2, a, d, e, rfl, h3, h4, ga, d0, la, B, kk⟩
theorem evp_lslopes {a : List Rat} (ha : EvP K ta σ H a) (ga : ∀ q ∈ a, Gd d e q) (la : a.length ≤ 50) (B : Bd d (e + 2)) : EvP K (tCall (spLSlopes K) [] E0 (tCons ta (tCons (tC (.int 2)) tNil))) σ H (bent a) :=
  evr_call (ear_cons ha mn_p (ear_cons (evr_is Evl.ev_c) mn_eq ear_nil)) fun vs H4 e4 hv Q kk => by
    obtain ⟨v, r, rfl, h3, v2, r2, rfl, rfl, rfl⟩ := hv
    exact ⟨v, a, d, e, rfl, h3, ga, la, B, kk⟩
theorem ev_alike {a b : Rat} (ha : EvQ K ta σ H a) (hb : EvQ K tb σ H b) : Evl.EvT (tB (tCall (spAlike K) [] E0 (tCons ta (tCons tb tNil)))) σ H (decide (a = b)) :=
  evr_B (evr_call (ear_cons ha mn_q (ear_cons hb mn_q ear_nil)) fun vs H4 e4 hv Q kk => by
    obtain ⟨v, r, rfl, h3, v2, r2, rfl, h4, rfl⟩ := hv
    exact ⟨v, v2, a, b, rfl, h3, h4, kk⟩)
/-- [e for i in range(n)] -/
theorem el_range1 {j : Nat} {n : Nat} {f : Nat → Rat} (ha : Evl.Ev ta σ H (.int (n : Int))) (hn : n ≤ 1000)
    (hw : ∀ x, wipe ((wipe σ [j]).set j (some x)) [j] = wipe σ [j])
    (he : ∀ (i : Nat) H', Ex H H' → i < n → EvQ K te ((wipe σ [j]).set j (some (.int (0 + (i : Int))))) H' (f i)) :
    EvR (tLc (iRng1 (tCons ta tNil)) (gName j) tYes te [j]) σ H (NewL K H n f) := fun H0 e0 Q q => by
  refine ha H0 e0 _ fun H1 e1 => ⟨(n : Int), rfl, by omega, by omega, fun D hD => ?_⟩
  refine lcq walk_range hn (e0.trans e1) hD (fun H' e => trivial) (fun i x H3 H3' hi e3 y => ?_) gName_mono (q.ex e1)
  obtain ⟨rfl, rfl⟩ := y
  exact ⟨hw _, Ex.refl _, he i _ e3 hi⟩
/-- [a, b] -/
def EL (K : PySem.W.Frag) (H : Hp) (v : V) (a b : Rat) : Prop := ∃ l w1 w2, v = .ref l ∧ H l = some (.lst [w1, w2]) ∧ RT K H w1 a ∧ RT K H w2 b
theorem EL.ex {H H' : Hp} {v : V} {a b : Rat} (h : EL K H v a b) (e : Ex H H') : EL K H' v a b := by
  obtain ⟨l, w1, w2, rfl, h1, h2, h3⟩ := h
  exact ⟨l, w1, w2, rfl, e _ _ h1, h2.ex e, h3.ex e⟩
theorem evl_two {a b : Rat} (ha : EvQ K ta σ H a) (hb : EvQ K tb σ H b) : EvR (tLst (tCons ta (tCons tb tNil))) σ H fun v H' => EL K H' v a b := fun H1 e1 Q p =>
  ha H1 e1 _ fun v H2 e2 r => hb H2 (e1.trans e2) _ fun w H3 e3 r2 => ⟨by show 2 ≤ sizeLine; decide, fun m hm => p _ _ ((e2.trans e3).trans (Ex.new hm)) ⟨m, v, w, rfl, upd_same, (r.ex e3).ex (Ex.new hm), r2.ex (Ex.new hm)⟩⟩
theorem evq_e0 {i : Nat} {v : V} {a b : Rat} (h : σ[i]? = some (some v)) (r : EL K H v a b) : EvQ K (tOp (rIxL K) (tVar i) (tC (.int 0))) σ H a := by
  obtain ⟨l, w1, w2, rfl, h1, h2, h3⟩ := r
  exact evq_ev (Evl.ev_op (Evl.ev_var h) Evl.ev_c (Evl.rv_ixL (v := w1) (.inl (.inl h1)) (atI_nat (j := 0) rfl))) h2
theorem evq_e1 {i : Nat} {v : V} {a b : Rat} (h : σ[i]? = some (some v)) (r : EL K H v a b) : EvQ K (tOp (rIxL K) (tVar i) (tC (.int 1))) σ H b := by
  obtain ⟨l, w1, w2, rfl, h1, h2, h3⟩ := r
  exact evq_ev (Evl.ev_op (Evl.ev_var h) Evl.ev_c (Evl.rv_ixL (v := w2) (.inl (.inl h1)) (atI_nat (j := 1) rfl))) h3
/-- t[0], t[1] of a pair -/
theorem evq_t0 {i : Nat} {v : V} {a b : Rat} (h : σ[i]? = some (some v)) (r : PT K H v [a, b]) : EvQ K (tOp (rIxT K) (tVar i) (tC (.int 0))) σ H a := by
  obtain ⟨l, us, rfl, h1, h2⟩ := r
  exact evq_ixT (i := 0) (n := 0) (qs := [a, b]) (Evl.ev_var h) Evl.ev_c h1 h2 rfl (by simp)
theorem evq_t1 {i : Nat} {v : V} {a b : Rat} (h : σ[i]? = some (some v)) (r : PT K H v [a, b]) : EvQ K (tOp (rIxT K) (tVar i) (tC (.int 1))) σ H b := by
  obtain ⟨l, us, rfl, h1, h2⟩ := r
  exact evq_ixT (i := 0) (n := 1) (qs := [a, b]) (Evl.ev_var h) Evl.ev_c h1 h2 rfl (by simp)
/-- t[j] of a row that stands -/
theorem evq_tj {i j : Nat} {v : V} {qs : List Rat} (h : σ[i]? = some (some v)) (hb : Evl.Ev tb σ H (.int (j : Int))) (r : PT K H v qs) (hj : j < qs.length) : EvQ K (tOp (rIxT K) (tVar i) tb) σ H (qs.getD j 0) := by
  obtain ⟨l, us, rfl, h1, h2⟩ := r
  exact evq_ixT (i := 0) (n := j) (Evl.ev_var h) hb h1 h2 rfl hj
/-- pieces[j][1] -/
theorem evp_pc {i j : Nat} {v : V} {ps : List Pc} (h : σ[i]? = some (some v)) (hb : Evl.Ev tb σ H (.int (j : Int))) (r : PCs K H v ps) (hj : j < ps.length) : EvP K (tOp (rIxT K) (tOp (rIxT K) (tVar i) tb) (tC (.int 1))) σ H (ps.getD j pc0).2.2 := by
  obtain ⟨a, vs, rfl, h1, h2⟩ := r
  have hv : j < vs.length := by
    rw [h2.1]
    exact hj
  have hvs : vs[j]? = some vs[j] := List.getElem?_eq_getElem hv
  obtain ⟨b, iv, pv, eb, h3, h4, h5⟩ := h2.2 j _ hvs
  exact evr_ev (Evl.ev_op (Evl.ev_op (Evl.ev_var h) hb (Evl.rv_ixT (v := .ref b) h1 (by rw [← eb]; exact atI_nat hvs))) Evl.ev_c (Evl.rv_ixT (v := pv) h3 (atI_nat (j := 1) rfl))) fun H' e' => h5.ex e'
theorem pow_gd {q : Rat} (h : Gd 1 1 q) : ∀ k, Gd 1 k (q ^ k)
  | 0 => by
    rw [Rat.pow_zero]
    exact gd_one (by decide)
  | k + 1 => by
    rw [Rat.pow_succ]
    exact (pow_gd h k).mul1 h
/-- what a place of the law's sum gives -/
def gapK (l r : Rat) (k : Nat) : Rat := (r ^ (k + 1) - l ^ (k + 1)) / ((k + 1 : Nat) : Rat)
theorem gapK_gd {l r : Rat} {k : Nat} (hl : Gd 1 1 l) (hr : Gd 1 1 r) (hk : k < 6) : Gd 1 (k + 3) (gapK l r k) := by
  unfold gapK
  rw [Rat.div_def]
  have e : (((k + 1 : Nat) : Rat))⁻¹ = 1 / ((k + 1 : Nat) : Rat) := by rw [Rat.div_def, Rat.one_mul]
  rw [e]
  have g2 : Gd 1 1 (1 / ((k + 1 : Nat) : Rat)) := gd_inv60 (by omega) (by
    match k, hk with
    | 0, _ => decide
    | 1, _ => decide
    | 2, _ => decide
    | 3, _ => decide
    | 4, _ => decide
    | 5, _ => decide)
  exact ((pow_gd hr (k + 1)).sub (pow_gd hl (k + 1))).mul1 g2
end
end BW
/-! BwT: the law. -/
namespace BW
open PySem PySem.Spec PyProof.Rows L2 BC
open Evl (Ex)
section
variable {P : Program} {w : World} {K : PySem.W.Frag} {mg : Str → Option Value} {base : Heap} {f z o : Addr} {fd : FuncData} {t6 t7 t8 t12 : Tok}
def spLaw (K : PySem.W.Frag) : Sp := fun vs H Q _ => ∃ (S : Addr) (zs : List Int), vs = [.ref S] ∧ SqL K H S (zs.map V.int) ∧ ∀ H', Q (.bl true) H'
theorem sc_law : FnScope ["_law_script", "_law_row", "_law_places", "_law_many", "_law_data", "_law_best", "_law_slopes_here", "_law_turn", "_law_at_here", "_law_other", "_law_least", "_law_found", "_law_due", "_law_interval", "_law_poly", "_law_bent", "_law_total", "_law_square", "_law_power", "_law_ends", "_law_gap"] ["_law_script"] (defScope (topS 67)) := ⟨rfl, rfl, rfl, by decide +kernel, rfl, by decide +kernel, by decide +kernel⟩
theorem scr_of {H : Hp} {R S : Addr} {zs : List Int} {u : HO} (h : SqL K H S (zs.map V.int)) (n : H R = none) : Scr K (upd H R u) R S zs := by
  rcases h with h | h
  · have ne : S ≠ R := fun e => by
      rcases h with h | ⟨o, h⟩
      · rw [e, n] at h
        cases h
      · rw [e, n] at h
        cases h
    rcases h with h | ⟨o, h⟩
    · exact .inl ⟨Ne.symm ne, .inl (by rw [upd_ne ne]; exact h)⟩
    · exact .inl ⟨Ne.symm ne, .inr ⟨o, by rw [upd_ne ne]; exact h⟩⟩
  · exact .inr h
theorem sq_ex {H H' : Hp} {S : Addr} {vs : List V} (h : SqL K H S vs) (e : Ex H H') : SqL K H' S vs := Evl.ex_l e h
theorem totN_gd2 {d e : Nat} {f : Nat → Rat} (h0 : 0 < d) : ∀ k, (∀ i, i < k → Gd d e (f i)) → Gd d (e + k) (totN f k)
  | 0, _ => gd_zero h0
  | k + 1, h => (totN_gd2 h0 k fun i hi => h i (by omega)).add ((h k (by omega)).upe (by omega) h0)
theorem lawI_gd {h : List Rat} {l r : Rat} {d e : Nat} (h0 : 0 < d) (len : h.length ≤ 4) (gp : ∀ q ∈ h, Gd d e q) (gl : Gd 1 1 l) (gr : Gd 1 1 r) (k : Nat) (hk : k ≤ (trim (sqr h)).length) : Gd (d * d) (2 * e + 14) (totN (fun k => (trim (sqr h)).getD k 0 * gapK l r k) k) := by
  have p0 := Nat.mul_pos h0 h0
  have l3 : (trim (sqr h)).length ≤ 3 := Nat.le_trans (trim_len _) (sqr_len len)
  refine (totN_gd2 (e := 2 * e + 11) p0 k fun i hi => ?_).upe (by omega) p0
  have g1 : Gd (d * d) (2 * e + 6) ((trim (sqr h)).getD i 0) := by
    rw [trim_getD]
    exact getD_gd (P := Gd (d * d) (2 * e + 6)) (sqr_gd h0 len gp) (gd_zero p0) i
  exact (g1.mul1 (gapK_gd gl gr (by omega))).upe (by omega) p0
theorem bendT_gd {xs ys ss : List Rat} {d e : Nat} (Pl : Places xs) (gy : ∀ q ∈ ys, Gd d e q) (gs : ∀ q ∈ ss, Gd d e q) (d0 : 0 < d) : Gd (d * d) (2 * (e + 20) + 24) (bendT xs ys ss) := by
  have G := pieces_of Pl gy gs d0
  have p0 := Nat.mul_pos d0 d0
  unfold bendT
  refine (totN_gd2 (e := 2 * (e + 20) + 16) p0 _ fun i hi => ?_).upe (by have := G.few; omega) p0
  exact bendP_gd d0 (G.len i hi) (G.gp i hi) (G.gx i hi).1 (G.gx i hi).2
theorem ok_law (F : Fun K "law" "law" (topS 67) f fd) (T : Top K mg z o t6 t7 t8 t12) (C__law_alike : Cl P w K mg base "_law_alike" 6 ["_law_found", "_law_due"] (spAlike K)) (C__law_at : Cl P w K mg base "_law_at" 6 ["_law_poly", "_law_x"] (spAt K)) (C__law_below : Cl P w K mg base "_law_below" 6 ["_law_one", "_law_other"] (spBelow K)) (C__law_draw : Cl P w K mg base "_law_draw" 6 ["_law_row"] (spDraw K)) (C__law_minus : Cl P w K mg base "_law_minus" 6 ["_law_one", "_law_other"] (spLMinus K)) (C__law_over : Cl P w K mg base "_law_over" 6 ["_law_one", "_law_other"] (spOver K)) (C__law_p_slope : Cl P w K mg base "_law_p_slope" 6 ["_law_poly"] (spSlope K)) (C__law_p_times : Cl P w K mg base "_law_p_times" 6 ["_law_one", "_law_other"] (spLSq K)) (C__law_plus : Cl P w K mg base "_law_plus" 6 ["_law_one", "_law_other"] (spPlus K)) (C__law_rising : Cl P w K mg base "_law_rising" 6 ["_law_row", "_law_many", "_law_low", "_law_high"] (spLRising K)) (C__law_slopes : Cl P w K mg base "_law_slopes" 6 ["_law_poly", "_law_many"] (spLSlopes K)) (C__law_taken : Cl P w K mg base "_law_taken" 6 ["_law_row", "_law_many"] (spTaken K)) (C__law_times : Cl P w K mg base "_law_times" 6 ["_law_one", "_law_other"] (spTimes K)) (C_bending : Cl P w K mg base "bending" 6 ["pieces"] (spBending K)) (C_cubics : Cl P w K mg base "cubics" 6 ["places", "data", "slopes"] (spCubic K)) (C_natural : Cl P w K mg base "natural" 6 ["places", "data"] (spNatural K)) : FnOk P w K mg base CX0 7 f fd ["_law_script"] (spLaw K) := by
  have sc := sc_law
  refine F.ok sc (fun vs H Q E h => ?_) (fun cdv A0 outer s0 H vs Q E hr h => ?_)
  · obtain ⟨_, _, rfl, _⟩ := h
    rfl
  · obtain ⟨S, zs, rfl, hS, q⟩ := h
    refine ⟨_, (pss_cons (ps_set (i := 1) sc.nd rfl (by first | exact Or.inl rfl | exact Or.inr rfl) (pe_lst (pa_cons (pv 0) (pa_cons pe_int (pa_cons pe_int (pa_cons pe_int pa_nil))))))
  (pss_cons (ps_set (i := 2) sc.nd rfl (by first | exact Or.inl rfl | exact Or.inr rfl) (pe_cl C__law_rising hr (by rfl) (pa_cons (pv 1) (pa_cons (pe_op op_add pe_int (pe_cl C__law_taken hr (by rfl) (pa_cons (pv 1) (pa_cons pe_int pa_nil)))) (pa_cons (pe_tup (pa_cons pe_int (pa_cons pe_int pa_nil))) (pa_cons (pe_tup (pa_cons pe_int (pa_cons pe_int pa_nil))) pa_nil))))))
  (pss_cons (ps_set (i := 3) sc.nd rfl (by first | exact Or.inl rfl | exact Or.inr rfl) (pe_callB call_len_seq (by rfl) T.len (by decide +kernel) (pa_cons (pv 2) pa_nil)))
  (pss_cons (ps_set (i := 4) sc.nd rfl (by first | exact Or.inl rfl | exact Or.inr rfl) (pe_callTy call_tuple_of (by rfl) T.tuple (by decide +kernel) (pa_cons (pe_lc (own := [("_law_at_here", 8)]) (g := gName 8) (tt := tYes) (te := tCall (spDraw K) [] E0 (tCons (tVar 1) tNil)) rfl sc.nd (pi_range1 (by rfl) T.range (pa_cons (pv 3) pa_nil)) (blkOk_by (own := [("_law_at_here", 8)]) (N := ["_law_script", "_law_row", "_law_places", "_law_many", "_law_data", "_law_best", "_law_slopes_here", "_law_turn", "_law_at_here", "_law_other", "_law_least", "_law_found", "_law_due", "_law_interval", "_law_poly", "_law_bent", "_law_total", "_law_square", "_law_power", "_law_ends", "_law_gap"]) (sc := (defScope (topS 67))) (by decide +kernel)) (fun _ _ _ _ _ => (pg_name (i := 8) sc.nd rfl (Or.inl rfl))) (fun _ _ _ _ _ => pts_nil) (fun _ _ _ _ _ => (pe_cl C__law_draw hr (by rfl) (pa_cons (pv 1) pa_nil)))) pa_nil)))
  (pss_cons (ps_set (i := 5) sc.nd rfl (by first | exact Or.inl rfl | exact Or.inr rfl) (pe_cl C_natural hr (by rfl) (pa_cons (pv 2) (pa_cons (pv 4) pa_nil))))
  (pss_cons (ps_setLc (i := 6) (own := [("_law_at_here", 8)]) (g := gName 8) (tt := tYes) (te := tCall (spAt K) [] E0 (tCons (tCall (spSlope K) [] E0 (tCons (tOp (rIxT K) (tOp (rIxT K) (tVar 5) (tCB Evl.rMax2 (tCons (tC (.int 0)) (tCons (tOp (rI0 fun i j => .int (i - j)) (tVar 8) (tC (.int 1))) tNil)))) (tC (.int 1))) tNil)) (tCons (tOp (rIxT K) (tVar 2) (tVar 8)) tNil))) rfl sc.nd rfl rfl (sw_true rfl rfl rfl (by decide +kernel)) (pi_range1 (by rfl) T.range (pa_cons (pv 3) pa_nil)) (blkOk_by (own := [("_law_at_here", 8)]) (N := ["_law_script", "_law_row", "_law_places", "_law_many", "_law_data", "_law_best", "_law_slopes_here", "_law_turn", "_law_at_here", "_law_other", "_law_least", "_law_found", "_law_due", "_law_interval", "_law_poly", "_law_bent", "_law_total", "_law_square", "_law_power", "_law_ends", "_law_gap"]) (sc := (defScope (topS 67))) (by decide +kernel)) (fun _ _ _ _ _ => (pg_name (i := 8) sc.nd rfl (Or.inl rfl))) (fun _ _ _ _ _ => pts_nil) (fun _ _ _ _ _ => (pe_cl C__law_at hr (by rfl) (pa_cons (pe_cl C__law_p_slope hr (by rfl) (pa_cons (pe_ix ix_tup (pe_ix ix_tup (pv 5) (pe_callB (call_max2 rfl) (by rfl) T.max (by decide +kernel) (pa_cons pe_int (pa_cons (pe_op op_sub (pv 8) pe_int) pa_nil))) (fun _ _ => rfl)) pe_int (fun _ _ => rfl)) pa_nil)) (pa_cons (pe_ix ix_tup (pv 2) (pv 8) (fun _ _ => rfl)) pa_nil)))))
  (pss_cons (ps_if (pt_cmpR (by exact op_neD hr.units) (pe_cl C_cubics hr (by rfl) (pa_cons (pv 2) (pa_cons (pv 4) (pa_cons (pe_callTy call_tuple_of (by rfl) T.tuple (by decide +kernel) (pa_cons (pv 6) pa_nil)) pa_nil)))) (pv 5) (nomark _))
    (pss_one (ps_ret pe_bl)) pss_nil)
  (pss_cons (ps_if (pt_cmpR op_gt (pe_cl C__law_taken hr (by rfl) (pa_cons (pv 1) (pa_cons pe_int pa_nil))) pe_int (nomark _))
    (pss_one (ps_for PassesOwn.never rfl (pi_range1 (by rfl) T.range (pa_cons (pe_op op_add pe_int (pe_cl C__law_taken hr (by rfl) (pa_cons (pv 1) (pa_cons pe_int pa_nil)))) pa_nil)) (pg_name (i := 7) sc.nd rfl (by first | exact Or.inl rfl | exact Or.inr rfl))
      (pss_cons (ps_set (i := 8) sc.nd rfl (by first | exact Or.inl rfl | exact Or.inr rfl) (pe_cl C__law_taken hr (by rfl) (pa_cons (pv 1) (pa_cons (pv 3) pa_nil))))
      (pss_one (ps_asg (pe_cl C__law_plus hr (by rfl) (pa_cons (pe_ix ix_list (pv 6) (pv 8) (fun _ _ => rfl)) (pa_cons (pe_cl C__law_draw hr (by rfl) (pa_cons (pv 1) pa_nil)) pa_nil))) (pg_sub (pv 6) (pv 8) set_list)))))) pss_nil)
  (pss_cons (ps_set (i := 9) sc.nd rfl (by first | exact Or.inl rfl | exact Or.inr rfl) (pe_cl C_cubics hr (by rfl) (pa_cons (pv 2) (pa_cons (pv 4) (pa_cons (pe_callTy call_tuple_of (by rfl) T.tuple (by decide +kernel) (pa_cons (pv 6) pa_nil)) pa_nil)))))
  (pss_cons (ps_par (i := 10) (j := 11) rfl sc.nd rfl rfl (by decide) rfl rfl (pa_cons (pe_cl C_bending hr (by rfl) (pa_cons (pv 5) pa_nil)) (pa_cons (pe_cl C_bending hr (by rfl) (pa_cons (pv 9) pa_nil)) pa_nil)) (by rfl))
  (pss_cons (ps_set (i := 12) sc.nd rfl (by first | exact Or.inl rfl | exact Or.inr rfl) (pe_tup (pa_cons pe_int (pa_cons pe_int pa_nil))))
  (pss_cons (ps_for PassesOwn.never rfl (pi_tup (pv 9)) (pg_tup rfl (pgs_cons (pg_name (i := 13) sc.nd rfl (by first | exact Or.inl rfl | exact Or.inr rfl)) (pgs_cons (pg_name (i := 14) sc.nd rfl (by first | exact Or.inl rfl | exact Or.inr rfl)) pgs_nil)))
    (pss_cons (ps_par (i := 15) (j := 16) rfl sc.nd rfl rfl (by decide) rfl rfl (pa_cons (pe_cl C__law_slopes hr (by rfl) (pa_cons (pv 14) (pa_cons pe_int pa_nil))) (pa_cons (pe_tup (pa_cons pe_int (pa_cons pe_int pa_nil))) pa_nil)) (by rfl))
    (pss_cons (ps_set (i := 17) sc.nd rfl (by first | exact Or.inl rfl | exact Or.inr rfl) (pe_cl C__law_p_times hr (by rfl) (pa_cons (pv 15) (pa_cons (pv 15) pa_nil))))
    (pss_cons (ps_for PassesOwn.never rfl (pi_range1 (by rfl) T.range (pa_cons (pe_callB call_len_seq (by rfl) T.len (by decide +kernel) (pa_cons (pv 17) pa_nil)) pa_nil)) (pg_name (i := 18) sc.nd rfl (by first | exact Or.inl rfl | exact Or.inr rfl))
      (pss_cons (ps_set (i := 19) sc.nd rfl (by first | exact Or.inl rfl | exact Or.inr rfl) (pe_lst (pa_cons (pe_tup (pa_cons pe_int (pa_cons pe_int pa_nil))) (pa_cons (pe_tup (pa_cons pe_int (pa_cons pe_int pa_nil))) pa_nil))))
      (pss_cons (ps_for PassesOwn.never rfl (pi_range1 (by rfl) T.range (pa_cons (pe_op op_add (pv 18) pe_int) pa_nil)) (pg_name (i := 7) sc.nd rfl (by first | exact Or.inl rfl | exact Or.inr rfl))
        (pss_one (ps_set (i := 19) sc.nd rfl (by first | exact Or.inl rfl | exact Or.inr rfl) (pe_lst (pa_cons (pe_cl C__law_times hr (by rfl) (pa_cons (pe_ix ix_list (pv 19) pe_int (fun _ _ => rfl)) (pa_cons (pe_ix ix_tup (pv 13) pe_int (fun _ _ => rfl)) pa_nil))) (pa_cons (pe_cl C__law_times hr (by rfl) (pa_cons (pe_ix ix_list (pv 19) pe_int (fun _ _ => rfl)) (pa_cons (pe_ix ix_tup (pv 13) pe_int (fun _ _ => rfl)) pa_nil))) pa_nil))))))
      (pss_cons (ps_set (i := 20) sc.nd rfl (by first | exact Or.inl rfl | exact Or.inr rfl) (pe_cl C__law_over hr (by rfl) (pa_cons (pe_cl C__law_minus hr (by rfl) (pa_cons (pe_ix ix_list (pv 19) pe_int (fun _ _ => rfl)) (pa_cons (pe_ix ix_list (pv 19) pe_int (fun _ _ => rfl)) pa_nil))) (pa_cons (pe_tup (pa_cons (pe_op op_add (pv 18) pe_int) (pa_cons pe_int pa_nil))) pa_nil))))
      (pss_one (ps_set (i := 16) sc.nd rfl (by first | exact Or.inl rfl | exact Or.inr rfl) (pe_cl C__law_plus hr (by rfl) (pa_cons (pv 16) (pa_cons (pe_cl C__law_times hr (by rfl) (pa_cons (pe_ix ix_tup (pv 17) (pv 18) (fun _ _ => rfl)) (pa_cons (pv 20) pa_nil))) pa_nil)))))))))
    (pss_one (ps_set (i := 12) sc.nd rfl (by first | exact Or.inl rfl | exact Or.inr rfl) (pe_cl C__law_plus hr (by rfl) (pa_cons (pv 12) (pa_cons (pv 16) pa_nil)))))))))
  (pss_cons (ps_if (PW.pt (pw_or (pt_not (pt_val (pe_cl C__law_alike hr (by rfl) (pa_cons (pv 11) (pa_cons (pv 12) pa_nil))))) (pw_or1 (pt_val (pe_cl C__law_below hr (by rfl) (pa_cons (pv 11) (pa_cons (pv 10) pa_nil)))))))
    (pss_one (ps_ret pe_bl)) pss_nil)
  (pss_one (ps_ret (pe_and (pe_cmpR op_eq (pe_cmpR (by exact op_eqD hr.units) (pv 11) (pv 10) (nomark _)) (pe_cmpR (by exact op_eqD hr.units) (pv 9) (pv 5) (nomark _)) (nomark _)) (pe_one (pe_cmpR op_ge (pe_ix ix_tup (pv 10) pe_int (fun _ _ => rfl)) pe_int (nomark _))))))))))))))))))), ?_⟩
    -- the row
    refine q_set (R := fun v H' => ∃ R, v = .ref R ∧ H R = none ∧ Dr K H' R S zs) (fun H1 e1 Q k => ⟨_, rfl, by show 4 ≤ sizeLine; decide, fun R nR => k _ _ (Ex.new nR) ⟨R, rfl, Evl.fresh_back e1 nR, 0, 4145, 0, scr_of (sq_ex hS e1) nR, upd_same, by decide, by decide, by decide⟩⟩) fun v1 H1 e1 r1 => ?_
    obtain ⟨R, rfl, nR, d1⟩ := r1
    -- places
    refine ⟨_, rfl, _, rfl, R, S, zs, 4, rfl, d1, by decide, by decide, fun t1 H2 ht1 f2 d2 => ⟨_, _, rfl, rfl, by show 2 ≤ sizeLine; decide, fun p0 n0 => ⟨by show 2 ≤ sizeLine; decide, fun p4 n4 => ?_⟩⟩⟩
    have e0 : Ex H2 (upd H2 p0 (.tup [.int 0, .int 1])) := Ex.new n0
    have e4 : Ex (upd H2 p0 (.tup [.int 0, .int 1])) (upd (upd H2 p0 (.tup [.int 0, .int 1])) p4 (.tup [.int 4, .int 1])) := Ex.new n4
    have r0 : RT K (upd (upd H2 p0 (.tup [.int 0, .int 1])) p4 (.tup [.int 4, .int 1])) (.ref p0) 0 := RT.ex (RT.new rfl rfl) e4
    have r4 : RT K (upd (upd H2 p0 (.tup [.int 0, .int 1])) p4 (.tup [.int 4, .int 1])) (.ref p4) 4 := RT.new rfl rfl
    refine ⟨R, S, zs, 2 + t1, .ref p0, .ref p4, by push_cast; rfl, (d2.ex e0).ex e4, by omega, by omega, r0, r4, fun v2 H5 t U ht2 RU rp f5 d5 => ?_⟩
    have m2 : 2 ≤ 2 + t1 := by omega
    have m5 : 2 + t1 ≤ 5 := by omega
    generalize 2 + t1 = m at *
    dsimp only [gName]
    show tSeq _ _ _ [some (.ref S), some (.ref R), some v2, none, none, none, none, none, none, none, none, none, none, none, none, none, none, none, none, none, none] H5
    have lx : (xsOf m t U).length = m := xs_len
    have Pl : Places (xsOf m t U) := ⟨by rw [lx]; exact m2, by rw [lx]; omega, fun i hi => xs_up RU m2 (by rw [lx] at hi; exact hi), fun i hi => inv_gd1 RU m2 m5 (by rw [lx] at hi; exact hi), xs_gx RU m2 m5 ht2⟩
    have Tr0 : ∀ ys : List Rat, (∀ q ∈ ys, Gd 1 1 q) → Tri (xsOf m t U).length (pOf (xsOf m t U)) (rOf (xsOf m t U) ys) (aOf m U) := fun ys gy => by
      rw [lx]
      exact xs_tri RU m2 m5 gy
    generalize xsOf m t U = xs at *
    generalize aOf m U = a at *
    obtain ⟨pp, us, rfl, hpp, hx⟩ := rp
    refine Evl.q_asg (v := .int (m : Int)) (Evl.ev_is (ev_lenT (Evl.ev_var rfl) hpp) (by rw [hx.1, lx])) fun H6 e6 => ?_
    have d6 := d5.ex e6
    have hxs6 : PT K H6 (.ref pp) xs := ⟨pp, us, rfl, tx_t (.of e6) hpp, hx.ex e6⟩
    show tSeq _ _ _ [some (.ref S), some (.ref R), some (.ref pp), some (.int (m : Int)), none, none, none, none, none, none, none, none, none, none, none, none, none, none, none, none, none] H6
    -- data
    refine ⟨_, rfl, (m : Int), rfl, by omega, by omega, fun D nD => ?_⟩
    rw [Int.toNat_natCast]
    have nDR : D ≠ R := fun e => by
      obtain ⟨ws, hw⟩ := d6.lst
      rw [← e, nD] at hw
      cases hw
    refine lc_range (lo := 0) (n := m) (Qd := fun H' => _) (fun i H' => Fx R H6 H' ∧ Dr K H' R S zs ∧ ∃ (ws : List V) (qs : List Rat), H' D = some (.lst ws) ∧ RTs K H' ws qs ∧ qs.length = i ∧ ∀ q ∈ qs, Gd 1 1 q) ⟨.ex (Ex.new nD), d6.ex (Ex.new nD), [], [], upd_same, .nil, rfl, fun q hq => absurd hq (by simp)⟩ (fun i H7 hi h => ?_) fun H7 h => ?_
    · obtain ⟨fx, d7, ws, qs, hD, hq, lq, gq⟩ := h
      refine ⟨rfl, ?_⟩
      refine ⟨_, rfl, R, S, zs, rfl, d7, fun v H8 b gb rb f8 d8 => ?_⟩
      have T8 := d7.tx f8
      have hD8 := f8 D _ nDR hD
      have lw : ws.length = i := by rw [hq.1, lq]
      refine ⟨ws, hD8, small1000 (by omega), fun x u nx hxu => ?_, d6.mut nD d8, ws ++ [v], qs ++ [b], upd_same, ((hq.tx T8).tx (.set hD8)).snoc (rb.tx (.set hD8)), by simp [lq], fun q hq => ?_⟩
      · have ne : x ≠ D := fun e => by
          rw [e, nD] at hxu
          cases hxu
        rw [upd_ne ne]
        exact (fx.trans f8) x u nx hxu
      · rcases List.mem_append.mp hq with h1 | h1
        · exact gq q h1
        · have : q = b := by simpa using h1
          rw [this]
          exact gb
    obtain ⟨fx, d7, ws, ys, hD, hq, ly, gy⟩ := h
    refine ⟨D, ws, rfl, .inl ⟨.inl (.inl hD), fun pd nd => ?_⟩⟩
    dsimp only [gName]
    have hys : PT K (upd H7 pd (.tup ws)) (.ref pd) ys := PT.new nd hq
    have hxs : PT K (upd H7 pd (.tup ws)) (.ref pp) xs := (hxs6.tx (d6.tx fx)).ex (Ex.new nd)
    have d8 : Dr K (upd H7 pd (.tup ws)) R S zs := d7.ex (Ex.new nd)
    show tSeq _ _ _ [some (.ref S), some (.ref R), some (.ref pp), some (.int (m : Int)), some (.ref pd), none, none, none, none, none, none, none, none, none, none, none, none, none, none, none, none] (upd H7 pd (.tup ws))
    generalize upd H7 pd (.tup ws) = H8 at *
    have Tr := Tr0 ys gy
    have lyx : ys.length = xs.length := by omega
    -- best
    refine q_set (evc_natural (evp_var rfl hxs) (evp_var rfl hys) lyx Pl gy Tr) fun v5 H9 e9 r5 => ?_
    have M0 := MM_pos Tr
    have gyM : ∀ q ∈ ys, Gd (MM xs.length a) 44 q := fun q hq => (gy q hq).up1 (by decide) M0
    have gnM := natOf_gd Tr
    have G0 : Pieces (pcsOf xs ys (natOf xs ys)) (MM xs.length a) 64 := pieces_of Pl gyM gnM M0
    have hxs9 := hxs.ex e9
    have hys9 := hys.ex e9
    -- the slopes told back
    refine q_set (el_range1 (K := K) (n := m) (f := fun i => (natOf xs ys).getD i 0) (Evl.ev_var rfl) (by omega) (fun _ => rfl) (fun i H' e' hi => ?_)) fun v6 H10 e10 r6 => ?_
    · have hb : Evl.Ev (tCB Evl.rMax2 (tCons (tC (.int 0)) (tCons (tOp (rI0 fun i j => .int (i - j)) (tVar 8) (tC (.int 1))) tNil))) [some (.ref S), some (.ref R), some (.ref pp), some (.int (m : Int)), some (.ref pd), some v5, none, none, some (.int (0 + (i : Int))), none, none, none, none, none, none, none, none, none, none, none, none] H' (.int ((i - 1 : Nat) : Int)) := Evl.ev_is (Evl.ev_max2 Evl.ev_c (Evl.ev_op (Evl.ev_var rfl) Evl.ev_c Evl.rv_I0)) (by
        show V.int (if (0 + (i : Int)) - 1 > 0 then (0 + (i : Int)) - 1 else 0) = _
        congr 1
        split <;> omega)
      have lpc : (pcsOf xs ys (natOf xs ys)).length = xs.length - 1 := pcs_len
      have hj : i - 1 < (pcsOf xs ys (natOf xs ys)).length := by omega
      have ev1 := evp_pc (K := K) (i := 5) rfl hb (r5.ex e') hj
      have gp := G0.gp (i - 1) hj
      have ll := G0.len (i - 1) hj
      have ev2 := evp_slope ev1 gp (by omega) (MM_bd Tr (by decide))
      have ev3 := evq_tj (K := K) (i := 2) (j := i) (tb := tVar 8) (σ := [some (.ref S), some (.ref R), some (.ref pp), some (.int (m : Int)), some (.ref pd), some v5, none, none, some (.int (0 + (i : Int))), none, none, none, none, none, none, none, none, none, none, none, none]) rfl (Evl.ev_is (Evl.ev_var rfl) (by congr 1; omega)) (hxs9.ex e') (by omega)
      have gxi : Gd 1 1 (xs.getD i 0) := getD_gd (P := Gd 1 1) Pl.gx (gd_zero (by decide)) i
      have ev4 := evq_at ev2 ev3 gxi (pslope_gd M0 (by omega) gp) (MM_bd Tr (by rw [pslope_len]; omega))
      rw [told Pl (by omega)] at ev4
      exact ev4
    obtain ⟨Ls, ws6, rfl, nLs, hLs, hr6⟩ := r6
    have enat : (List.range m).map (fun i => (natOf xs ys).getD i 0) = natOf xs ys := by
      refine list_ext (by rw [nat_len]; simp [lx]) fun i hi => ?_
      rw [map_range_getD (by simpa using hi)]
    rw [enat] at hr6
    have d9 := d8.ex e9
    have nLsR : Ls ≠ R := fun e => by
      obtain ⟨ws, hw⟩ := d9.lst
      rw [← e, nLs] at hw
      cases hw
    have hxs10 := hxs9.ex e10
    have hys10 := hys9.ex e10
    have r5b := r5.ex e10
    have evc1 := evc_cubic (K := K) (σ := [some (.ref S), some (.ref R), some (.ref pp), some (.int (m : Int)), some (.ref pd), some v5, some (.ref Ls), none, none, none, none, none, none, none, none, none, none, none, none, none, none]) (H := H10) (ta := tVar 2) (tb := tVar 4) (tc := tCB (rTupS K) (tCons (tVar 6) tNil)) (evp_var rfl hxs10) (evp_var rfl hys10) (evp_tuple (H0 := H9) (evr_ev (Evl.ev_var rfl) fun H' e' => ⟨Ls, ws6, rfl, nLs, e' _ _ hLs, hr6.ex e'⟩)) lyx nat_len Pl gyM gnM (MM_bd Tr (by decide))
    refine Evl.q_when (b := false) (Evl.et_test (Evl.ev_is (ev_neC evc1 (evc_var rfl r5b)) (by simp))) (fun h => nomatch h) fun _ H11 e11 => ?_
    have d11 := (d9.ex e10).ex e11
    -- other slopes
    refine q_via (fun σ' H' => ∃ (ss : List Rat) (ws : List V) (y7 y8 : Option V), σ' = [some (.ref S), some (.ref R), some (.ref pp), some (.int (m : Int)), some (.ref pd), some v5, some (.ref Ls), y7, y8, none, none, none, none, none, none, none, none, none, none, none, none] ∧ PT K H' (.ref pp) xs ∧ PT K H' (.ref pd) ys ∧ PCs K H' v5 (pcsOf xs ys (natOf xs ys)) ∧ H' Ls = some (.lst ws) ∧ RTs K H' ws ss ∧ ss.length = m ∧ ∀ q ∈ ss, Gd (MM xs.length a) 46 q) (fun N hN => ?_) fun σ' H12 h => ?_
    · refine ⟨_, rfl, R, S, zs, 3, rfl, d11, by decide, by decide, fun t3 H12 ht3 f12 d12 => ⟨_, _, rfl, rfl, _, rfl, ?_⟩⟩
      have T12 := d11.tx f12
      have hLs12 := f12 Ls _ nLsR (e11 _ _ hLs)
      have hr12 := (hr6.ex e11).tx T12
      have hxs12 := (hxs10.ex e11).tx T12
      have hys12 := (hys10.ex e11).tx T12
      have r512 := (r5b.ex e11).tx T12
      refine ite2 (fun hb => ?_) (fun hb => ?_)
      · refine ⟨_, rfl, R, S, zs, 2, rfl, d12, by decide, by decide, fun t4 H13 ht4 f13 d13 => ⟨_, _, rfl, rfl, 1 + (t4 : Int), rfl, by omega, by omega, ?_⟩⟩
        have T13 := d12.tx f13
        have hn : (1 + (t4 : Int)).toNat ≤ 2 := by omega
        generalize (1 + (t4 : Int)).toNat = n4 at *
        refine for_range (lo := 0) (n := n4) (fun i σ' H' => ∃ (ss : List Rat) (ws : List V) (y7 y8 : Option V), σ' = [some (.ref S), some (.ref R), some (.ref pp), some (.int (m : Int)), some (.ref pd), some v5, some (.ref Ls), y7, y8, none, none, none, none, none, none, none, none, none, none, none, none] ∧ Dr K H' R S zs ∧ PT K H' (.ref pp) xs ∧ PT K H' (.ref pd) ys ∧ PCs K H' v5 (pcsOf xs ys (natOf xs ys)) ∧ H' Ls = some (.lst ws) ∧ RTs K H' ws ss ∧ ss.length = m ∧ ∀ q ∈ ss, Gd (MM xs.length a) (44 + i) q) ⟨natOf xs ys, ws6, none, none, rfl, d13, hxs12.tx T13, hys12.tx T13, r512.tx T13, f13 Ls _ nLsR hLs12, hr12.tx T13, by rw [nat_len, lx], gnM⟩ (fun i σ' H14 hi h => ?_) fun σ' H14 h => ?_
        · obtain ⟨ss, ws, y7, y8, rfl, d14, hx14, hy14, r14, hL14, hr14, ls, gs⟩ := h
          refine ⟨_, rfl, _, rfl, R, S, zs, m, rfl, d14, by omega, by omega, fun k H15 hk f15 d15 => ?_⟩
          have T15 := d14.tx f15
          have hL15 := f15 Ls _ nLsR hL14
          have hr15 := hr14.tx T15
          dsimp only [gName]
          have hkw : k < ss.length := by omega
          have lws : ws.length = ss.length := hr14.1
          obtain ⟨v0, hv0, rv0⟩ := hr15.get (i := k) hkw
          refine ⟨_, rfl, _, rfl, Ls, ws, (k : Int), v0, rfl, rfl, .inl (.inl hL15), atI_nat hv0, ?_⟩
          refine ⟨_, rfl, R, S, zs, rfl, d15, fun v16 H16 b gb rb f16 d16 => ?_⟩
          have T16 := d15.tx f16
          have hL16 := f16 Ls _ nLsR hL15
          have hr16 := hr15.tx T16
          have gk : Gd (MM xs.length a) (44 + i) (ss.getD k 0) := getD_gd (P := Gd (MM xs.length a) (44 + i)) gs (gd_zero M0) k
          have Bm := MM_bd Tr (e := 195) (by decide)
          have gbM : Gd (MM xs.length a) (44 + i) b := gb.up1 (by omega) M0
          refine ⟨v0, v16, ss.getD k 0, b, rfl, rv0.tx T16, rb, Bm.sm gk (by omega), Bm.sm gbM (by omega), trivial, fun v17 H17 e17 r17 => ?_⟩
          have hL17 := e17 _ _ hL16
          refine ⟨_, rfl, _, rfl, Ls, ws, (k : Int), k, rfl, rfl, hL17, ixn (by omega), ?_⟩
          have t17 : Tx H17 (upd H17 Ls (.lst (ws.set k v17))) := .set hL17
          have TT : ∀ {v : V} {qs : List Rat}, PT K H14 v qs → PT K (upd H17 Ls (.lst (ws.set k v17))) v qs := fun h => (((h.tx T15).tx T16).ex e17).tx t17
          refine ⟨ss.set k (ss.getD k 0 + b), ws.set k v17, _, _, rfl, d9.mut nLs (d16.ex e17), TT hx14, TT hy14, (((r14.tx T15).tx T16).ex e17).tx t17, upd_same, (((hr16.ex e17).tx t17).set k (r17.tx t17)), by rw [List.length_set]; exact ls, ?_⟩
          exact mem_set_gd (P := Gd (MM xs.length a) (44 + (i + 1))) (fun q hq => (gs q hq).upe (by omega) M0) (gk.add gbM)
        · obtain ⟨ss, ws, y7, y8, rfl, d14, hx14, hy14, r14, hL14, hr14, ls, gs⟩ := h
          exact hN _ _ ⟨ss, ws, y7, y8, rfl, hx14, hy14, r14, hL14, hr14, ls, fun q hq => (gs q hq).upe (by omega) M0⟩
      · exact hN _ _ ⟨natOf xs ys, ws6, none, none, rfl, hxs12, hys12, r512, hLs12, hr12, by rw [nat_len, lx], fun q hq => (gnM q hq).upe (by decide) M0⟩
    obtain ⟨ss, ws, y7, y8, rfl, hxs12, hys12, r12, hL12, hr12, lss, gss⟩ := h
    have gy46 : ∀ q ∈ ys, Gd (MM xs.length a) 46 q := fun q hq => (gyM q hq).upe (by decide) M0
    have lsx : ss.length = xs.length := by omega
    have G1 : Pieces (pcsOf xs ys ss) (MM xs.length a) 66 := pieces_of Pl gy46 gss M0
    have evc2 := evc_cubic (K := K) (σ := [some (.ref S), some (.ref R), some (.ref pp), some (.int (m : Int)), some (.ref pd), some v5, some (.ref Ls), y7, y8, none, none, none, none, none, none, none, none, none, none, none, none]) (H := H12) (ta := tVar 2) (tb := tVar 4) (tc := tCB (rTupS K) (tCons (tVar 6) tNil)) (evp_var rfl hxs12) (evp_var rfl hys12) (evp_tuple (H0 := H9) (evr_ev (Evl.ev_var rfl) fun H' e' => ⟨Ls, ws, rfl, nLs, e' _ _ hL12, hr12.ex e'⟩)) lyx lsx Pl gy46 gss (MM_bd Tr (by decide))
    refine q_set evc2 fun v9 H13 e13 r9 => ?_
    -- what they bend
    have leT := lawT_eq (ys := ys) (ss := ss) Pl
    have leN := least_le (ss := ss) Pl Tr
    have leI := least_iff Pl Tr lsx
    have leZ := least_nn (ys := ys) (ss := natOf xs ys) Pl
    have r5c := r12.ex e13
    refine q_par (evq_bending (evc_var rfl r5c) G0 M0 (MM_bd2 Tr (by decide))) mn_q (evq_bending (evc_var rfl r9) G1 M0 (MM_bd2 Tr (by decide))) fun v10 v11 H14 e14 r10 r11 => ?_
    have r10t : RT K H14 v10 (bendT xs ys (natOf xs ys)) := r10
    have r11t : RT K H14 v11 (bendT xs ys ss) := r11
    have r9b := r9.ex e14
    have r5d := r5c.ex e14
    generalize hps : pcsOf xs ys ss = ps at *
    generalize hpn : pcsOf xs ys (natOf xs ys) = pn at *
    refine q_set (evq_w (K := K) (n := 0) (q := 0) rfl rfl) fun v12 H15 e15 r12 => ?_
    obtain ⟨p9, u9, rfl, hp9, hq9⟩ := r9b.ex e15
    have l9 := hq9.1
    refine ⟨_, rfl, p9, rfl, ⟨u9, hp9⟩, ?_⟩
    refine for_it (walk_tup (xs := u9)) (fun i σ H' => ∃ v12 y7 y13 y14 y15 y16 y17 y18 y19 y20, σ = [some (.ref S), some (.ref R), some (.ref pp), some (.int (m : Int)), some (.ref pd), some v5, some (.ref Ls), y7, y8, some (.ref p9), some v10, some v11, some v12, y13, y14, y15, y16, y17, y18, y19, y20] ∧ Ex H15 H' ∧ RT K H' v12 (totN (fun i => lawI (ps.getD i pc0).2.2 (ps.getD i pc0).1 (ps.getD i pc0).2.1) i)) ⟨v12, y7, none, none, none, none, none, none, none, none, rfl, Ex.refl H15, r12⟩ (fun i σ H' _ h => ?_) (fun i u σ H16 H16' hi h hy => ?_) fun σ H16 h => ?_
    · obtain ⟨_, _, _, _, _, _, _, _, _, _, _, h, _⟩ := h
      exact tx_t (.of h) hp9
    · obtain ⟨rfl, hu⟩ := hy
      obtain ⟨v12, y7, y13, y14, y15, y16, y17, y18, y19, y20, rfl, e16, r12⟩ := h
      have hi2 : i < ps.length := by omega
      obtain ⟨a1, iv, pw, rfl, ha1, hI, hP⟩ := (hq9.2 i u hu).ex e16
      have gx := G1.gx i hi2
      have gp := G1.gp i hi2
      have len := G1.len i hi2
      have hgd : Gd (MM xs.length a * MM xs.length a) 160 (totN (fun i => lawI (ps.getD i pc0).2.2 (ps.getD i pc0).1 (ps.getD i pc0).2.1) i) := (totN_gd2 (Nat.mul_pos M0 M0) i fun j hj => lawI_gd (e := 66) M0 (G1.len j (by omega)) (G1.gp j (by omega)) (G1.gx j (by omega)).1 (G1.gx j (by omega)).2 _ (Nat.le_refl _)).upe (by have := G1.few; omega) (Nat.mul_pos M0 M0)
      generalize hl : (ps.getD i pc0).1 = l at *
      generalize hrr : (ps.getD i pc0).2.1 = r at *
      generalize hhh : (ps.getD i pc0).2.2 = h at *
      refine ⟨a1, _, rfl, ha1, rfl, iv, _, rfl, pw, _, rfl, rfl, ?_⟩
      dsimp only [gName]
      have lb := bent_len len
      have lsq := sqr_len len
      have gb := bent_gd M0 len gp
      refine q_par (evp_lslopes (evp_var rfl hP) gp (by omega) (MM_bd Tr (by decide))) mn_p (evq_w (K := K) (n := 0) (q := 0) rfl rfl) fun v15 v16 H17 e17 r15 r16 => ?_
      refine q_set (evp_lsq (evp_var rfl r15) (evp_var rfl r15) gb M0 (by omega) (MM_bd2 Tr (by omega))) fun v17 H18 e18 r17 => ?_
      obtain ⟨p17, u17, rfl, hp17, hq17⟩ := r17
      have hq17 : RTs K H18 u17 (trim (sqr h)) := hq17
      have lts : (trim (sqr h)).length ≤ 3 := Nat.le_trans (trim_len _) lsq
      have l17 := hq17.1
      have B2 := MM_bd2 Tr (e := 195) (by decide)
      have g17a : ∀ q ∈ sqr h, Gd (MM xs.length a * MM xs.length a) 138 q := fun q hq => sqr_gd M0 len gp q hq
      have g17 : ∀ k, Gd (MM xs.length a * MM xs.length a) 138 ((trim (sqr h)).getD k 0) := fun k => by
        rw [trim_getD]
        exact getD_gd (P := Gd (MM xs.length a * MM xs.length a) 138) g17a (gd_zero B2.pos) k
      have hI18 := (hI.ex e17).ex e18
      have gterm : ∀ k, k ≤ (trim (sqr h)).length → Gd (MM xs.length a * MM xs.length a) 146 (totN (fun k => (trim (sqr h)).getD k 0 * gapK l r k) k) := lawI_gd (e := 66) M0 len gp gx.1 gx.2
      refine Evl.q_forR1 (n := ((trim (sqr h)).length : Int)) (Evl.ea_cons (Evl.ev_is (ev_lenT (Evl.ev_var rfl) hp17) (by rw [l17])) Evl.ea_nil) (by omega)
        (fun k σ H' => ∃ v16 y7 y18 y19 y20, σ = [some (.ref S), some (.ref R), some (.ref pp), some (.int (m : Int)), some (.ref pd), some v5, some (.ref Ls), y7, y8, some (.ref p9), some v10, some v11, some v12, some iv, some pw, some v15, some v16, some (.ref p17), y18, y19, y20] ∧ Ex H18 H' ∧ RT K H' v16 (totN (fun k => (trim (sqr h)).getD k 0 * gapK l r k) k))
        (fun H19 e19 => ⟨v16, y7, y18, y19, y20, rfl, e19, (r16.ex e18).ex e19⟩) (fun k σ H19 hk h2 => ?_) fun σ H19 h2 => ?_
      · obtain ⟨v16, y7, y18, y19, y20, rfl, e19, r16⟩ := h2
        have hk3 : k < (trim (sqr h)).length := by omega
        refine q_set (evl_two (K := K) (evq_w (n := 1) (q := 1) rfl rfl) (evq_w (n := 1) (q := 1) rfl rfl)) fun v19 H20 e20 r19 => ?_
        have hI20 := (hI18.ex e19).ex e20
        refine Evl.q_forR1 (n := (k : Int) + 1) (Evl.ea_cons (Evl.ev_op (Evl.ev_var rfl) Evl.ev_c Evl.rv_I0) Evl.ea_nil) (by omega)
          (fun j σ H' => ∃ v19 y7, σ = [some (.ref S), some (.ref R), some (.ref pp), some (.int (m : Int)), some (.ref pd), some v5, some (.ref Ls), y7, y8, some (.ref p9), some v10, some v11, some v12, some iv, some pw, some v15, some v16, some (.ref p17), some (.int (k : Int)), some v19, y20] ∧ Ex H20 H' ∧ EL K H' v19 (l ^ j) (r ^ j))
          (fun H21 e21 => ⟨v19, y7, rfl, e21, by rw [Rat.pow_zero, Rat.pow_zero]; exact r19.ex e21⟩) (fun j σ H21 hj h3 => ?_) fun σ H21 h3 => ?_
        · obtain ⟨v19, y7, rfl, e21, r19⟩ := h3
          refine s_set (evl_two (K := K) (evq_times (evq_e0 rfl r19) (evq_t0 rfl (hI20.ex e21)) (sm1 (pow_gd gx.1 j) (by omega)) (sm1 gx.1 (by decide))) (evq_times (evq_e1 rfl r19) (evq_t1 rfl (hI20.ex e21)) (sm1 (pow_gd gx.2 j) (by omega)) (sm1 gx.2 (by decide)))) fun v22 H22 e22 r22 => ?_
          rw [← Rat.pow_succ, ← Rat.pow_succ] at r22
          exact ⟨v22, _, rfl, e21.trans e22, r22⟩
        · obtain ⟨v19, y7, rfl, e21, r19⟩ := h3
          rw [show ((k : Int) + 1).toNat = k + 1 by omega] at r19
          have c1 : (k : Int) + 1 = ((k + 1 : Nat) : Int) := by omega
          have pl := pow_gd gx.1 (k + 1)
          have pr := pow_gd gx.2 (k + 1)
          have kpos : (0 : Rat) < ((k + 1 : Nat) : Rat) := Rat.natCast_pos.mpr (by omega)
          have gk1 : Gd 1 1 ((k + 1 : Nat) : Rat) := gd_nat (by
            have : (60 : Nat) ^ 1 = 60 := rfl
            omega)
          refine q_set (evq_over (evq_lminus (evq_e1 rfl r19) (EvR.imp (evq_e0 rfl r19) fun v H' _ r => r.pq (sm1 pl (by omega))) (sm1 pr (by omega))) (evq_pair (q := ((k + 1 : Nat) : Rat)) (Evl.ev_is (Evl.ev_op (Evl.ev_var rfl) Evl.ev_c Evl.rv_I0) (by congr 1)) Evl.ev_c rfl rfl) (sm1 (pr.sub pl) (by omega)) (sm1 gk1 (by decide)) kpos) fun v20 H22 e22 r20 => ?_
          have r20 : RT K H22 v20 (gapK l r k) := r20
          have e1822 := ((e19.trans e20).trans e21).trans e22
          have ggk := gapK_gd (k := k) gx.1 gx.2 (by omega)
          refine s_set (R := fun v H' => RT K H' v (totN (fun k => (trim (sqr h)).getD k 0 * gapK l r k) k + (trim (sqr h)).getD k 0 * gapK l r k)) (evq_plus (evq_var rfl (((r16.ex e20).ex e21).ex e22)) (evq_times (evq_ixT (i := 0) (n := k) (Evl.ev_var rfl) (Evl.ev_var rfl) (tx_t (.of e1822) hp17) (hq17.ex e1822) rfl hk3) (evq_var rfl r20) (B2.sm (g17 k) (by decide)) (sm1 ggk (by omega))) (B2.sm (gterm k (by omega)) (by decide)) (B2.sm ((g17 k).mul1 ggk) (by omega))) fun v23 H23 e23 r23 => ?_
          exact ⟨v23, _, _, _, _, rfl, e1822.trans e23, r23⟩
      · obtain ⟨v16, y7, y18, y19, y20, rfl, e19, r16⟩ := h2
        rw [Int.toNat_natCast] at r16
        have e1619 := (e17.trans e18).trans e19
        have hlaw : totN (fun k => (trim (sqr h)).getD k 0 * gapK l r k) (trim (sqr h)).length = lawI h l r := rfl
        rw [hlaw] at r16
        have hg1 := gterm (trim (sqr h)).length (Nat.le_refl _)
        rw [hlaw] at hg1
        refine s_set (R := fun v H' => RT K H' v (totN (fun i => lawI (ps.getD i pc0).2.2 (ps.getD i pc0).1 (ps.getD i pc0).2.1) i + lawI h l r)) (evq_plus (evq_var rfl (r12.ex e1619)) (evq_var rfl r16) (B2.sm hgd (by decide)) (B2.sm hg1 (by decide))) fun v24 H24 e24 r24 => ?_
        refine ⟨v24, _, _, _, _, _, _, _, _, _, rfl, e16.trans (e1619.trans e24), ?_⟩
        show RT K H24 v24 (totN (fun i => lawI (ps.getD i pc0).2.2 (ps.getD i pc0).1 (ps.getD i pc0).2.1) i + lawI (ps.getD i pc0).2.2 (ps.getD i pc0).1 (ps.getD i pc0).2.1)
        rw [hl, hrr, hhh]
        exact r24
    · obtain ⟨v12, y7, y13, y14, y15, y16, y17, y18, y19, y20, rfl, e16, r12⟩ := h
      rw [l9] at r12
      have r12 : RT K H16 v12 (bendT xs ys ss) := by
        rw [← leT]
        exact r12
      have r10' := (r10t.ex e15).ex e16
      have r11' := (r11t.ex e15).ex e16
      have B2 := MM_bd2 Tr (e := 195) (by decide)
      have sF : Sm (bendT xs ys ss) := B2.sm (bendT_gd Pl gy46 gss M0) (by decide)
      have sL : Sm (bendT xs ys (natOf xs ys)) := B2.sm (bendT_gd Pl gyM gnM M0) (by decide)
      have hlt : decide (bendT xs ys ss < bendT xs ys (natOf xs ys)) = false := decide_eq_false (Rat.not_lt.mpr leN)
      have hc9 : PCs K H16 (.ref p9) ps := ⟨p9, u9, rfl, tx_t (.of e16) hp9, hq9.ex e16⟩
      have hc5 := (r5d.ex e15).ex e16
      obtain ⟨p10, rfl, h10⟩ := r10'
      dsimp only
      refine Evl.q_when (b := false) (Evl.et_or (a := false) (b := false) (Evl.et_is (Evl.et_not (ev_alike (evq_var rfl r11') (evq_var rfl r12))) (by simp)) fun _ => Evl.et_B (Evl.ev_is (ev_below (evq_var rfl r11') (evq_var rfl ⟨p10, rfl, h10⟩) sF sL) (by rw [hlt]))) (fun h => nomatch h) fun _ H17 e17 => ?_
      have hnn : decide ((0 : Int) ≤ (bendT xs ys (natOf xs ys)).num) = true := decide_eq_true (Rat.num_nonneg.mpr leZ)
      have hbb : decide (bendT xs ys ss = bendT xs ys (natOf xs ys)) = decide (ps = pn) := by
        by_cases hh : ps = pn
        · rw [decide_eq_true hh, decide_eq_true (leI.mpr hh)]
        · rw [decide_eq_false hh, decide_eq_false fun z => hh (leI.mp z)]
      refine s_ret (evr_is (w := .bl true) (Evl.ev_andV (a := true) (b := true) (Evl.ev_is (Evl.ev_op (x := .bl (decide (bendT xs ys ss = bendT xs ys (natOf xs ys)))) (y := .bl (decide (ps = pn))) (ev_eqQ (evq_var rfl (r11'.ex e17)) (evq_var rfl ⟨p10, rfl, tx_t (.of e17) h10⟩)) (ev_eqC (evc_var rfl (hc9.ex e17)) (evc_var rfl (hc5.ex e17))) (Evl.rv_eq rfl)) (by rw [hbb]; simp)) fun _ => Evl.ev_is (Evl.ev_op (Evl.ev_op (Evl.ev_var rfl) Evl.ev_c (Evl.rv_ixT (v := .int (bendT xs ys (natOf xs ys)).num) (tx_t (.of e17) h10) (atI_nat (j := 0) rfl))) Evl.ev_c Evl.rv_I0) (by rw [hnn]))) fun v H18 e18 r => ?_
      rw [r]
      exact q H18

end
end BW
/-! BwU: the top, run. -/
namespace BW
open PySem PySem.Spec PyProof.Rows L2
def dd (x : Str) (i : Nat) : He.DefD := ⟨(x, none), x, x, defArgs (topS i), defBody (topS i), defScope (topS i), [], []⟩
def fnA : List He.DefD := [dd "is_int" 9, dd "is_ratio" 10, dd "made" 11, dd "plus" 12, dd "less" 13, dd "times" 14, dd "over" 15, dd "negative" 16, dd "is_below" 17, dd "total" 18, dd "are_ratios" 19, dd "is_poly" 22, dd "trimmed" 23, dd "at" 24, dd "p_plus" 25, dd "p_times" 26, dd "p_slope" 27, dd "p_sum" 28, dd "need_data" 30, dd "table_of" 31, dd "poly_of" 32, dd "is_interval" 34, dd "is_piece" 37, dd "cleared" 39]
def fnB : List He.DefD := [dd "solved" 40, dd "need_rising" 44, dd "cubic_pieces" 45, dd "natural_slopes" 46, dd "cubics" 47, dd "natural" 48, dd "bending" 49, dd "_law_taken" 51, dd "_law_pick" 52, dd "_law_alike" 53, dd "_law_made" 54, dd "_law_plus" 55, dd "_law_minus" 56, dd "_law_times" 57, dd "_law_over" 58, dd "_law_below" 59, dd "_law_draw" 60, dd "_law_trim" 61, dd "_law_at" 62, dd "_law_p_times" 63, dd "_law_p_slope" 64, dd "_law_slopes" 65, dd "_law_rising" 66, dd "law" 67]
def fns : List He.DefD := fnA ++ fnB
def faA : List He.Fa := [.free "len", .free "isinstance", .free "abs", .free "all", .free "any", .free "max", .free "range", .free "enumerate", .free "zip", .free "int", .free "bool", .free "tuple", .free "list", .free "str", .int "MOST_DEGREE" 12, .int "MOST_PIECES" 8, .int "MOST_NODES" 7, .int "MOST_POWER" 6, .glo "ZERO", .glo "ONE"]
def faB : List He.Fa := [.glo "is_int", .glo "is_ratio", .glo "made", .glo "plus", .glo "less", .glo "times", .glo "over", .glo "negative", .glo "is_below", .glo "total", .glo "are_ratios", .glo "is_poly", .glo "trimmed", .glo "at", .glo "p_plus", .glo "p_times", .glo "p_slope", .glo "p_sum", .glo "need_data", .glo "table_of", .glo "poly_of", .glo "is_interval", .glo "is_piece", .glo "cleared"]
def faC : List He.Fa := [.glo "solved", .glo "need_rising", .glo "cubic_pieces", .glo "natural_slopes", .glo "cubics", .glo "natural", .glo "bending", .glo "_law_taken", .glo "_law_pick", .glo "_law_alike", .glo "_law_made", .glo "_law_plus", .glo "_law_minus", .glo "_law_times", .glo "_law_over", .glo "_law_below", .glo "_law_draw", .glo "_law_trim", .glo "_law_at", .glo "_law_p_times", .glo "_law_p_slope", .glo "_law_slopes", .glo "_law_rising", .glo "law"]
def fas : List He.Fa := faA ++ (faB ++ faC)
def exK (K : PySem.W.Frag) : Bool := He.tupB K "ZERO" [.int 0, .int 1] && (He.tupB K "ONE" [.int 1, .int 1] && He.eqO (PySem.W.nsIn K mainGlobals "gcd") (some (some (.builtin "math.gcd"))))
abbrev RR : PySem.W.OpenRow := PySem.W.OpenLaw.row PySem.Challenge.rw_blendcurves_k45_whole_least_bending
abbrev hkL : PySem.W.Hook := He.hookX 4 fas fns [] [] exK
def obL (s : PySem.W.SharedT) : He.AlX := He.obsX 4 fas fns [] [] exK (HandSHeadRun.getT s)
theorem obL_eq (s : PySem.W.SharedT) : obL s = hkL.obs s.abs := He.obsX_eq (HandSHeadRun.getT_eq s)
def lsA : List PySem.Str := ["BlendError", "BadNodes", "BadData", "BadPieces", "ZERO", "ONE", "is_int", "is_ratio", "made", "plus", "less", "times", "over", "negative", "is_below", "total", "are_ratios", "MOST_DEGREE", "is_poly", "trimmed", "at", "p_plus", "p_times", "p_slope", "p_sum", "need_data", "table_of", "poly_of", "is_interval", "MOST_PIECES"]
def lsB : List PySem.Str := ["is_piece", "cleared", "solved", "MOST_NODES", "MOST_POWER", "need_rising", "cubic_pieces", "natural_slopes", "cubics", "natural", "bending", "_law_taken", "_law_pick", "_law_alike", "_law_made", "_law_plus", "_law_minus", "_law_times", "_law_over", "_law_below", "_law_draw", "_law_trim", "_law_at", "_law_p_times", "_law_p_slope", "_law_slopes", "_law_rising"]
def lss : List PySem.Str := lsA ++ lsB
theorem runL (w : World) : HandSHeadRun.RunEqI RR (PySem.W.view RR.prog [0, 67]) hkL obL 6000 lss w := by
  unfold HandSHeadRun.RunEqI
  kernel_rfl
end BW
/-! BwX: the facts of the top, each def by its promise; the law. -/
namespace BW
open PySem PySem.Spec PyProof.Rows L2
section
variable {P : Program} {w : World} {K : PySem.W.Frag} {mg : Str → Option Value} {base : Heap}
/-- a def without defaults, as the walk takes it -/
theorem funOf {x : Str} {st : Stmt} {f : Addr} {fd : FuncData} (F : FunD K x x (defArgs st) (defBody st) (defScope st) [] [] f fd) : Fun K x x st f fd := by
  have kp := F.kp
  obtain ⟨v1, v2, v3, v4, v5, v6, v7, v8, v9, v10, h1, h2, h3, h4, h5⟩ := F.ex
  have h6 : v3 = .none := by
    rcases h4 with h4 | h4
    · exact h4.2
    · exact absurd rfl h4.1
  rw [h6] at h1
  exact ⟨⟨v1, v2, v4, v5, v6, v7, v8, v9, v10, h1, h2, h3⟩, kp⟩
theorem cl_of {x : Str} {i k : Nat} {ps : List Str} {sp : Sp} (D : ∃ fd, FunD K x x (defArgs (topS i)) (defBody (topS i)) (defScope (topS i)) [] [] (He.ga K x) fd) (g : mg x = some (.ref (He.ga K x))) (ok : ∀ fd, Fun K x x (topS i) (He.ga K x) fd → FnOk P w K mg base CX0 k (He.ga K x) fd ps sp)
    (hb : ∀ (kV doc pm : Value) (an : Option Addr) (cdv ct : Value) (us : List Value), us.length = ps.length → bindArgs (PySem.W.fnOf x x (defArgs (topS i)) (defBody (topS i)) (defScope (topS i)) .none kV doc pm an cdv ct) ⟨us, []⟩ = pure (ps.zip us)) : Cl P w K mg base x k ps sp := by
  obtain ⟨fd, F⟩ := D
  exact ⟨_, fd, g, ok fd (funOf F), F.kp, F.bindsN hb⟩
end
theorem lawOk {P : Program} {w : World} {K : PySem.W.Frag} {h : Heap} {mg : Str → Option Value} {base : Heap} (X : K.In h) (G : h.Ns mainGlobals mg) (c : He.SaysD fas fns K) (e : exK K = true) :
    ∃ fd : FuncData, (∀ (s : Shared) (v : Value), BindsTo s fd ⟨[v], []⟩ [("_law_script", v)]) ∧ ∀ base : Heap, FnOk P w K mg base CX0 7 (He.ga K "law") fd ["_law_script"] (spLaw K) := by
  obtain ⟨e1, e2⟩ := He.ba e
  obtain ⟨e3, e4⟩ := He.ba e2
  obtain ⟨t12, m12⟩ := He.int_ok X G (c.fact 14 (f := .int "MOST_DEGREE" 12) rfl)
  obtain ⟨t8, m8⟩ := He.int_ok X G (c.fact 15 (f := .int "MOST_PIECES" 8) rfl)
  obtain ⟨t7, m7⟩ := He.int_ok X G (c.fact 16 (f := .int "MOST_NODES" 7) rfl)
  obtain ⟨t6, m6⟩ := He.int_ok X G (c.fact 17 (f := .int "MOST_POWER" 6) rfl)
  have T : Top K mg (He.ga K "ZERO") (He.ga K "ONE") t6 t7 t8 t12 := {
    len := He.free_ok X G (c.fact 0 (f := .free "len") rfl)
    isinstance := He.free_ok X G (c.fact 1 (f := .free "isinstance") rfl)
    abs := He.free_ok X G (c.fact 2 (f := .free "abs") rfl)
    all := He.free_ok X G (c.fact 3 (f := .free "all") rfl)
    any := He.free_ok X G (c.fact 4 (f := .free "any") rfl)
    max := He.free_ok X G (c.fact 5 (f := .free "max") rfl)
    range := He.free_ok X G (c.fact 6 (f := .free "range") rfl)
    enumerate := He.free_ok X G (c.fact 7 (f := .free "enumerate") rfl)
    zip := He.free_ok X G (c.fact 8 (f := .free "zip") rfl)
    int := He.free_ok X G (c.fact 9 (f := .free "int") rfl)
    bool := He.free_ok X G (c.fact 10 (f := .free "bool") rfl)
    tuple := He.free_ok X G (c.fact 11 (f := .free "tuple") rfl)
    list := He.free_ok X G (c.fact 12 (f := .free "list") rfl)
    str := He.free_ok X G (c.fact 13 (f := .free "str") rfl)
    gcd := PySem.W.mg_of X G (He.eqO_ok e4)
    zero := He.glo_ok X G (c.fact 18 (f := .glo "ZERO") rfl)
    one := He.glo_ok X G (c.fact 19 (f := .glo "ONE") rfl)
    zeroT := fun H => He.tupB_ok e1 H
    oneT := fun H => He.tupB_ok e3 H
    MOST_DEGREE := m12
    MOST_PIECES := m8
    MOST_NODES := m7
    MOST_POWER := m6 }
  obtain ⟨fd, FD⟩ := c.def_ 47 (d := dd "law" 67) rfl
  have FD : FunD K "law" "law" (defArgs (topS 67)) (defBody (topS 67)) (defScope (topS 67)) [] [] (He.ga K "law") fd := FD
  have F := funOf FD
  have b := FunD.bindsA (ps := ["_law_script"]) FD fun _ _ _ _ _ _ us hl => match us, hl with | [_], _ => rfl
  refine ⟨fd, fun s v => b s [v] rfl, fun base => ?_⟩
  have C_is_int : Cl P w K mg base "is_int" 1 ["value"] spIsInt := cl_of (i := 9) (c.def_ 0 (d := dd "is_int" 9) rfl) (He.glo_ok X G (c.fact 20 (f := .glo "is_int") rfl)) (fun fd F => ok_is_int F T) fun _ _ _ _ _ _ us hl => match us, hl with | [_], _ => rfl
  have C_is_ratio : Cl P w K mg base "is_ratio" 2 ["value"] (spIsRatio K) := cl_of (i := 10) (c.def_ 1 (d := dd "is_ratio" 10) rfl) (He.glo_ok X G (c.fact 21 (f := .glo "is_ratio") rfl)) (fun fd F => ok_is_ratio F T (C_is_int.mono (by decide))) fun _ _ _ _ _ _ us hl => match us, hl with | [_], _ => rfl
  have C_made : Cl P w K mg base "made" 1 ["top", "low"] (spMade K) := cl_of (i := 11) (c.def_ 2 (d := dd "made" 11) rfl) (He.glo_ok X G (c.fact 22 (f := .glo "made") rfl)) (fun fd F => ok_made F T) fun _ _ _ _ _ _ us hl => match us, hl with | [_, _], _ => rfl
  have C_plus : Cl P w K mg base "plus" 2 ["one", "other"] (spPlus K) := cl_of (i := 12) (c.def_ 3 (d := dd "plus" 12) rfl) (He.glo_ok X G (c.fact 23 (f := .glo "plus") rfl)) (fun fd F => ok_plus F (C_made.mono (by decide))) fun _ _ _ _ _ _ us hl => match us, hl with | [_, _], _ => rfl
  have C_less : Cl P w K mg base "less" 2 ["one", "other"] (spLess K) := cl_of (i := 13) (c.def_ 4 (d := dd "less" 13) rfl) (He.glo_ok X G (c.fact 24 (f := .glo "less") rfl)) (fun fd F => ok_less F (C_made.mono (by decide))) fun _ _ _ _ _ _ us hl => match us, hl with | [_, _], _ => rfl
  have C_times : Cl P w K mg base "times" 2 ["one", "other"] (spTimes K) := cl_of (i := 14) (c.def_ 5 (d := dd "times" 14) rfl) (He.glo_ok X G (c.fact 25 (f := .glo "times") rfl)) (fun fd F => ok_times F (C_made.mono (by decide))) fun _ _ _ _ _ _ us hl => match us, hl with | [_, _], _ => rfl
  have C_over : Cl P w K mg base "over" 2 ["one", "other"] (spOver K) := cl_of (i := 15) (c.def_ 6 (d := dd "over" 15) rfl) (He.glo_ok X G (c.fact 26 (f := .glo "over") rfl)) (fun fd F => ok_over F (C_made.mono (by decide))) fun _ _ _ _ _ _ us hl => match us, hl with | [_, _], _ => rfl
  have C_negative : Cl P w K mg base "negative" 1 ["one"] (spNeg K) := cl_of (i := 16) (c.def_ 7 (d := dd "negative" 16) rfl) (He.glo_ok X G (c.fact 27 (f := .glo "negative") rfl)) (fun fd F => ok_negative F) fun _ _ _ _ _ _ us hl => match us, hl with | [_], _ => rfl
  have C_is_below : Cl P w K mg base "is_below" 1 ["one", "other"] (spBelow K) := cl_of (i := 17) (c.def_ 8 (d := dd "is_below" 17) rfl) (He.glo_ok X G (c.fact 28 (f := .glo "is_below") rfl)) (fun fd F => ok_is_below F) fun _ _ _ _ _ _ us hl => match us, hl with | [_, _], _ => rfl
  have C_total : Cl P w K mg base "total" 3 ["some"] (spTotal K) := cl_of (i := 18) (c.def_ 9 (d := dd "total" 18) rfl) (He.glo_ok X G (c.fact 29 (f := .glo "total") rfl)) (fun fd F => ok_total F T (C_plus.mono (by decide))) fun _ _ _ _ _ _ us hl => match us, hl with | [_], _ => rfl
  have C_are_ratios : Cl P w K mg base "are_ratios" 3 ["value", "many"] (spAre K) := cl_of (i := 19) (c.def_ 10 (d := dd "are_ratios" 19) rfl) (He.glo_ok X G (c.fact 30 (f := .glo "are_ratios") rfl)) (fun fd F => ok_are_ratios F T (C_is_ratio.mono (by decide))) fun _ _ _ _ _ _ us hl => match us, hl with | [_, _], _ => rfl
  have C_is_poly : Cl P w K mg base "is_poly" 3 ["value"] (spIsPoly K) := cl_of (i := 22) (c.def_ 11 (d := dd "is_poly" 22) rfl) (He.glo_ok X G (c.fact 31 (f := .glo "is_poly") rfl)) (fun fd F => ok_is_poly F T (C_is_ratio.mono (by decide))) fun _ _ _ _ _ _ us hl => match us, hl with | [_], _ => rfl
  have C_trimmed : Cl P w K mg base "trimmed" 1 ["row"] (spTrim K) := cl_of (i := 23) (c.def_ 12 (d := dd "trimmed" 23) rfl) (He.glo_ok X G (c.fact 32 (f := .glo "trimmed") rfl)) (fun fd F => ok_trimmed F T) fun _ _ _ _ _ _ us hl => match us, hl with | [_], _ => rfl
  have C_at : Cl P w K mg base "at" 3 ["poly", "x"] (spAt K) := cl_of (i := 24) (c.def_ 13 (d := dd "at" 24) rfl) (He.glo_ok X G (c.fact 33 (f := .glo "at") rfl)) (fun fd F => ok_at F T (C_plus.mono (by decide)) (C_times.mono (by decide))) fun _ _ _ _ _ _ us hl => match us, hl with | [_, _], _ => rfl
  have C_p_plus : Cl P w K mg base "p_plus" 3 ["one", "other"] (spPPlus K) := cl_of (i := 25) (c.def_ 14 (d := dd "p_plus" 25) rfl) (He.glo_ok X G (c.fact 34 (f := .glo "p_plus") rfl)) (fun fd F => ok_p_plus F T (C_plus.mono (by decide)) (C_trimmed.mono (by decide))) fun _ _ _ _ _ _ us hl => match us, hl with | [_, _], _ => rfl
  have C_p_times : Cl P w K mg base "p_times" 3 ["one", "other"] (spPTimes K) := cl_of (i := 26) (c.def_ 15 (d := dd "p_times" 26) rfl) (He.glo_ok X G (c.fact 35 (f := .glo "p_times") rfl)) (fun fd F => ok_p_times F T (C_plus.mono (by decide)) (C_times.mono (by decide))) fun _ _ _ _ _ _ us hl => match us, hl with | [_, _], _ => rfl
  have C_p_slope : Cl P w K mg base "p_slope" 3 ["poly"] (spSlope K) := cl_of (i := 27) (c.def_ 16 (d := dd "p_slope" 27) rfl) (He.glo_ok X G (c.fact 36 (f := .glo "p_slope") rfl)) (fun fd F => ok_p_slope F T (C_times.mono (by decide))) fun _ _ _ _ _ _ us hl => match us, hl with | [_], _ => rfl
  have C_p_sum : Cl P w K mg base "p_sum" 3 ["poly"] (spSum K) := cl_of (i := 28) (c.def_ 17 (d := dd "p_sum" 28) rfl) (He.glo_ok X G (c.fact 37 (f := .glo "p_sum") rfl)) (fun fd F => ok_p_sum F T (C_times.mono (by decide)) (C_made.mono (by decide)) (C_trimmed.mono (by decide))) fun _ _ _ _ _ _ us hl => match us, hl with | [_], _ => rfl
  have C_need_data : Cl P w K mg base "need_data" 4 ["nodes", "value"] (spNeedData K) := cl_of (i := 30) (c.def_ 18 (d := dd "need_data" 30) rfl) (He.glo_ok X G (c.fact 38 (f := .glo "need_data") rfl)) (fun fd F => ok_need_data F T (C_are_ratios.mono (by decide))) fun _ _ _ _ _ _ us hl => match us, hl with | [_, _], _ => rfl
  have C_table_of : Cl P w K mg base "table_of" 3 ["nodes", "data"] (spTable K) := cl_of (i := 31) (c.def_ 19 (d := dd "table_of" 31) rfl) (He.glo_ok X G (c.fact 39 (f := .glo "table_of") rfl)) (fun fd F => ok_table_of F T (C_less.mono (by decide)) (C_over.mono (by decide))) fun _ _ _ _ _ _ us hl => match us, hl with | [_, _], _ => rfl
  have C_poly_of : Cl P w K mg base "poly_of" 4 ["nodes", "numbers"] (spPolyOf K) := cl_of (i := 32) (c.def_ 20 (d := dd "poly_of" 32) rfl) (He.glo_ok X G (c.fact 40 (f := .glo "poly_of") rfl)) (fun fd F => ok_poly_of F T (C_times.mono (by decide)) (C_trimmed.mono (by decide)) (C_p_plus.mono (by decide)) (C_p_times.mono (by decide)) (C_negative.mono (by decide))) fun _ _ _ _ _ _ us hl => match us, hl with | [_, _], _ => rfl
  have C_is_interval : Cl P w K mg base "is_interval" 3 ["value"] (spIsInterval K) := cl_of (i := 34) (c.def_ 21 (d := dd "is_interval" 34) rfl) (He.glo_ok X G (c.fact 41 (f := .glo "is_interval") rfl)) (fun fd F => ok_is_interval F T (C_is_ratio.mono (by decide)) (C_is_below.mono (by decide))) fun _ _ _ _ _ _ us hl => match us, hl with | [_], _ => rfl
  have C_is_piece : Cl P w K mg base "is_piece" 4 ["value", "degree"] (spIsPiece K) := cl_of (i := 37) (c.def_ 22 (d := dd "is_piece" 37) rfl) (He.glo_ok X G (c.fact 42 (f := .glo "is_piece") rfl)) (fun fd F => ok_is_piece F T (C_is_interval.mono (by decide)) (C_is_poly.mono (by decide))) fun _ _ _ _ _ _ us hl => match us, hl with | [_, _], _ => rfl
  have C_cleared : Cl P w K mg base "cleared" 3 ["rows", "at", "first"] (spCleared K) := cl_of (i := 39) (c.def_ 23 (d := dd "cleared" 39) rfl) (He.glo_ok X G (c.fact 43 (f := .glo "cleared") rfl)) (fun fd F => ok_cleared F T (C_over.mono (by decide)) (C_less.mono (by decide)) (C_times.mono (by decide))) fun _ _ _ _ _ _ us hl => match us, hl with | [_, _, _], _ => rfl
  have C_solved : Cl P w K mg base "solved" 4 ["matrix", "right"] (spSolved K) := cl_of (i := 40) (c.def_ 24 (d := dd "solved" 40) rfl) (He.glo_ok X G (c.fact 44 (f := .glo "solved") rfl)) (fun fd F => ok_solved F T (C_cleared.mono (by decide)) (C_over.mono (by decide)) (C_less.mono (by decide)) (C_times.mono (by decide))) fun _ _ _ _ _ _ us hl => match us, hl with | [_, _], _ => rfl
  have C_need_rising : Cl P w K mg base "need_rising" 3 ["value"] (spRising K) := cl_of (i := 44) (c.def_ 25 (d := dd "need_rising" 44) rfl) (He.glo_ok X G (c.fact 45 (f := .glo "need_rising") rfl)) (fun fd F => ok_need_rising F T (C_is_ratio.mono (by decide)) (C_is_below.mono (by decide))) fun _ _ _ _ _ _ us hl => match us, hl with | [_], _ => rfl
  have C_cubic_pieces : Cl P w K mg base "cubic_pieces" 5 ["places", "data", "slopes"] (spCubic K) := cl_of (i := 45) (c.def_ 26 (d := dd "cubic_pieces" 45) rfl) (He.glo_ok X G (c.fact 46 (f := .glo "cubic_pieces") rfl)) (fun fd F => ok_cubic_pieces F T (C_poly_of.mono (by decide)) (C_table_of.mono (by decide))) fun _ _ _ _ _ _ us hl => match us, hl with | [_, _, _], _ => rfl
  have C_natural_slopes : Cl P w K mg base "natural_slopes" 5 ["places", "data"] (spNatS K) := cl_of (i := 46) (c.def_ 27 (d := dd "natural_slopes" 46) rfl) (He.glo_ok X G (c.fact 47 (f := .glo "natural_slopes") rfl)) (fun fd F => ok_natural_slopes F T (C_over.mono (by decide)) (C_less.mono (by decide)) (C_times.mono (by decide)) (C_plus.mono (by decide)) (C_solved.mono (by decide))) fun _ _ _ _ _ _ us hl => match us, hl with | [_, _], _ => rfl
  have C_cubics : Cl P w K mg base "cubics" 6 ["places", "data", "slopes"] (spCubic K) := cl_of (i := 47) (c.def_ 28 (d := dd "cubics" 47) rfl) (He.glo_ok X G (c.fact 48 (f := .glo "cubics") rfl)) (fun fd F => ok_cubics F (C_need_rising.mono (by decide)) (C_need_data.mono (by decide)) (C_cubic_pieces.mono (by decide))) fun _ _ _ _ _ _ us hl => match us, hl with | [_, _, _], _ => rfl
  have C_natural : Cl P w K mg base "natural" 6 ["places", "data"] (spNatural K) := cl_of (i := 48) (c.def_ 29 (d := dd "natural" 48) rfl) (He.glo_ok X G (c.fact 49 (f := .glo "natural") rfl)) (fun fd F => ok_natural F (C_need_rising.mono (by decide)) (C_need_data.mono (by decide)) (C_cubic_pieces.mono (by decide)) (C_natural_slopes.mono (by decide))) fun _ _ _ _ _ _ us hl => match us, hl with | [_, _], _ => rfl
  have C_bending : Cl P w K mg base "bending" 5 ["pieces"] (spBending K) := cl_of (i := 49) (c.def_ 30 (d := dd "bending" 49) rfl) (He.glo_ok X G (c.fact 50 (f := .glo "bending") rfl)) (fun fd F => ok_bending F T (C_is_piece.mono (by decide)) (C_p_slope.mono (by decide)) (C_p_times.mono (by decide)) (C_p_sum.mono (by decide)) (C_at.mono (by decide)) (C_less.mono (by decide)) (C_total.mono (by decide))) fun _ _ _ _ _ _ us hl => match us, hl with | [_], _ => rfl
  have C__law_taken : Cl P w K mg base "_law_taken" 1 ["_law_row", "_law_many"] (spTaken K) := cl_of (i := 51) (c.def_ 31 (d := dd "_law_taken" 51) rfl) (He.glo_ok X G (c.fact 51 (f := .glo "_law_taken") rfl)) (fun fd F => ok__law_taken F T) fun _ _ _ _ _ _ us hl => match us, hl with | [_, _], _ => rfl
  have C__law_pick : Cl P w K mg base "_law_pick" 2 ["_law_row", "_law_things"] (spPick K) := cl_of (i := 52) (c.def_ 32 (d := dd "_law_pick" 52) rfl) (He.glo_ok X G (c.fact 52 (f := .glo "_law_pick") rfl)) (fun fd F => ok__law_pick F T (C__law_taken.mono (by decide))) fun _ _ _ _ _ _ us hl => match us, hl with | [_, _], _ => rfl
  have C_alike0 : Cl P w K mg base "_law_alike" 1 ["_law_found", "_law_due"] spAlike0 := cl_of (i := 53) (c.def_ 33 (d := dd "_law_alike" 53) rfl) (He.glo_ok X G (c.fact 53 (f := .glo "_law_alike") rfl)) (fun fd F => ok__law_alike0 F T) fun _ _ _ _ _ _ us hl => match us, hl with | [_, _], _ => rfl
  have C__law_alike : Cl P w K mg base "_law_alike" 2 ["_law_found", "_law_due"] (spAlike K) := cl_of (i := 53) (c.def_ 33 (d := dd "_law_alike" 53) rfl) (He.glo_ok X G (c.fact 53 (f := .glo "_law_alike") rfl)) (fun fd F => ok__law_alike F T (C_alike0.mono (by decide))) fun _ _ _ _ _ _ us hl => match us, hl with | [_, _], _ => rfl
  have C__law_made : Cl P w K mg base "_law_made" 1 ["_law_top", "_law_low"] (spMade K) := cl_of (i := 54) (c.def_ 34 (d := dd "_law_made" 54) rfl) (He.glo_ok X G (c.fact 54 (f := .glo "_law_made") rfl)) (fun fd F => ok__law_made F T) fun _ _ _ _ _ _ us hl => match us, hl with | [_, _], _ => rfl
  have C__law_plus : Cl P w K mg base "_law_plus" 2 ["_law_one", "_law_other"] (spPlus K) := cl_of (i := 55) (c.def_ 35 (d := dd "_law_plus" 55) rfl) (He.glo_ok X G (c.fact 55 (f := .glo "_law_plus") rfl)) (fun fd F => ok__law_plus F (C__law_made.mono (by decide))) fun _ _ _ _ _ _ us hl => match us, hl with | [_, _], _ => rfl
  have C__law_minus : Cl P w K mg base "_law_minus" 2 ["_law_one", "_law_other"] (spLMinus K) := cl_of (i := 56) (c.def_ 36 (d := dd "_law_minus" 56) rfl) (He.glo_ok X G (c.fact 56 (f := .glo "_law_minus") rfl)) (fun fd F => ok__law_minus F (C__law_made.mono (by decide))) fun _ _ _ _ _ _ us hl => match us, hl with | [_, _], _ => rfl
  have C__law_times : Cl P w K mg base "_law_times" 2 ["_law_one", "_law_other"] (spTimes K) := cl_of (i := 57) (c.def_ 37 (d := dd "_law_times" 57) rfl) (He.glo_ok X G (c.fact 57 (f := .glo "_law_times") rfl)) (fun fd F => ok__law_times F (C__law_made.mono (by decide))) fun _ _ _ _ _ _ us hl => match us, hl with | [_, _], _ => rfl
  have C__law_over : Cl P w K mg base "_law_over" 2 ["_law_one", "_law_other"] (spOver K) := cl_of (i := 58) (c.def_ 38 (d := dd "_law_over" 58) rfl) (He.glo_ok X G (c.fact 58 (f := .glo "_law_over") rfl)) (fun fd F => ok__law_over F (C__law_made.mono (by decide))) fun _ _ _ _ _ _ us hl => match us, hl with | [_, _], _ => rfl
  have C__law_below : Cl P w K mg base "_law_below" 1 ["_law_one", "_law_other"] (spBelow K) := cl_of (i := 59) (c.def_ 39 (d := dd "_law_below" 59) rfl) (He.glo_ok X G (c.fact 59 (f := .glo "_law_below") rfl)) (fun fd F => ok__law_below F) fun _ _ _ _ _ _ us hl => match us, hl with | [_, _], _ => rfl
  have C__law_draw : Cl P w K mg base "_law_draw" 3 ["_law_row"] (spDraw K) := cl_of (i := 60) (c.def_ 40 (d := dd "_law_draw" 60) rfl) (He.glo_ok X G (c.fact 60 (f := .glo "_law_draw") rfl)) (fun fd F => ok__law_draw F (C__law_pick.mono (by decide)) (C__law_made.mono (by decide)) (C__law_taken.mono (by decide))) fun _ _ _ _ _ _ us hl => match us, hl with | [_], _ => rfl
  have C__law_trim : Cl P w K mg base "_law_trim" 1 ["_law_some"] (spTrim K) := cl_of (i := 61) (c.def_ 41 (d := dd "_law_trim" 61) rfl) (He.glo_ok X G (c.fact 61 (f := .glo "_law_trim") rfl)) (fun fd F => ok__law_trim F T) fun _ _ _ _ _ _ us hl => match us, hl with | [_], _ => rfl
  have C__law_at : Cl P w K mg base "_law_at" 3 ["_law_poly", "_law_x"] (spAt K) := cl_of (i := 62) (c.def_ 42 (d := dd "_law_at" 62) rfl) (He.glo_ok X G (c.fact 62 (f := .glo "_law_at") rfl)) (fun fd F => ok__law_at F (C__law_plus.mono (by decide)) (C__law_times.mono (by decide))) fun _ _ _ _ _ _ us hl => match us, hl with | [_, _], _ => rfl
  have C__law_p_times : Cl P w K mg base "_law_p_times" 3 ["_law_one", "_law_other"] (spLSq K) := cl_of (i := 63) (c.def_ 43 (d := dd "_law_p_times" 63) rfl) (He.glo_ok X G (c.fact 63 (f := .glo "_law_p_times") rfl)) (fun fd F => ok__law_p_times F T (C__law_plus.mono (by decide)) (C__law_times.mono (by decide)) (C__law_trim.mono (by decide))) fun _ _ _ _ _ _ us hl => match us, hl with | [_, _], _ => rfl
  have C__law_p_slope : Cl P w K mg base "_law_p_slope" 3 ["_law_poly"] (spSlope K) := cl_of (i := 64) (c.def_ 44 (d := dd "_law_p_slope" 64) rfl) (He.glo_ok X G (c.fact 64 (f := .glo "_law_p_slope") rfl)) (fun fd F => ok__law_p_slope F T (C__law_times.mono (by decide))) fun _ _ _ _ _ _ us hl => match us, hl with | [_], _ => rfl
  have C__law_slopes : Cl P w K mg base "_law_slopes" 4 ["_law_poly", "_law_many"] (spLSlopes K) := cl_of (i := 65) (c.def_ 45 (d := dd "_law_slopes" 65) rfl) (He.glo_ok X G (c.fact 65 (f := .glo "_law_slopes") rfl)) (fun fd F => ok__law_slopes F T (C__law_p_slope.mono (by decide))) fun _ _ _ _ _ _ us hl => match us, hl with | [_, _], _ => rfl
  have C__law_rising : Cl P w K mg base "_law_rising" 3 ["_law_row", "_law_many", "_law_low", "_law_high"] (spLRising K) := cl_of (i := 66) (c.def_ 46 (d := dd "_law_rising" 66) rfl) (He.glo_ok X G (c.fact 66 (f := .glo "_law_rising") rfl)) (fun fd F => ok__law_rising F T (C__law_taken.mono (by decide)) (C__law_minus.mono (by decide)) (C__law_over.mono (by decide)) (C__law_plus.mono (by decide)) (C__law_times.mono (by decide)) (C__law_made.mono (by decide))) fun _ _ _ _ _ _ us hl => match us, hl with | [_, _, _, _], _ => rfl
  exact ok_law F T (C__law_alike.mono (by decide)) (C__law_at.mono (by decide)) (C__law_below.mono (by decide)) (C__law_draw.mono (by decide)) (C__law_minus.mono (by decide)) (C__law_over.mono (by decide)) (C__law_p_slope.mono (by decide)) (C__law_p_times.mono (by decide)) (C__law_plus.mono (by decide)) (C__law_rising.mono (by decide)) (C__law_slopes.mono (by decide)) (C__law_taken.mono (by decide)) (C__law_times.mono (by decide)) (C_bending.mono (by decide)) (C_cubics.mono (by decide)) (C_natural.mono (by decide))
end BW
open PySem PySem.W PySem.Calls PyProof.Rows
theorem PySem.Challenge.cw_blendcurves_k45_whole_least_bending_holds : PySem.Challenge.rw_blendcurves_k45_whole_least_bending.Holds := by
  w_on; o_law
  refine HandSHeadRun.head_imp (r := BW.RR) (q := PySem.W.view BW.RR.prog [0, 67]) (H := BW.hkL) (ob := BW.obL) (M := 6000) (loose := BW.lss) (d := HandSHeadRun.topDef BW.RR.prog 67) (kwd := []) BW.obL_eq BW.runL (by kernel_rfl) (by kernel_rfl) (by kernel_rfl) (by rfl) (by first | assumption | decide +kernel) (by decide +kernel) ⟨rfl, rfl, rfl, rfl, rfl, by decide +kernel⟩ ?hw ?hc
  case hw => w_witness2
  case hc =>
    refine L2.walk_ofE (l := PySem.Challenge.rw_blendcurves_k45_whole_least_bending) (n := 63) (k := 7) (x := "_law_script") (CX := L2.CX0) rfl (by decide) (by kernel_rfl) ⟨rfl, by decide, by decide⟩ ?F (fun _ _ _ _ z => z)
    intro w mg fa h Y G hmg0
    obtain ⟨K, KX, c⟩ := Y
    have hmg : mg ("law" : PySem.Str) = some (.ref fa) := by
      have e : (HandSHeadRun.topDef BW.RR.prog 67).name = ("law" : PySem.Str) := by kernel_rfl
      rw [← e]
      exact hmg0
    have hfa : fa = He.ga K "law" := by
      have e := hmg.symm.trans (He.glo_ok KX G (c.t.d.fact 67 (f := .glo "law") rfl))
      cases e
      rfl
    subst hfa
    obtain ⟨fd, hb, hF⟩ := BW.lawOk (P := (PySem.Challenge.rw_blendcurves_k45_whole_least_bending).prog) (w := w) (base := h) KX G c.t.d c.more
    exact ⟨K, fd, BW.spLaw K, KX, hb, fun H a ns hl _ hS => ⟨a, ns, rfl, hS, fun _ => rfl⟩, fun base _ _ => hF base⟩
