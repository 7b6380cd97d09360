import PyProof.Rows.All
import Wide.All
import OpenK.AllK
import Wide.FinOn
import PySem.Challenge.RW_nn0017_01
/-! nn0017-01: limbs, Knuth's division, the symbol by Schering and Eisenstein; the walks of the defs; the law -/
set_option Elab.async false
set_option linter.unusedVariables false
namespace Mine
/-! limbs: digits in base b -/
def dg (b x i : Nat) : Nat := x / b ^ i % b
def digs (b x k : Nat) : List Int := (List.range k).map fun i => (dg b x i : Int)
def norm (ns : List Int) : List Int := (ns.reverse.dropWhile (· = 0)).reverse
def dlen (b x : Nat) : Nat := if h : x = 0 ∨ b < 2 then 0 else dlen b (x / b) + 1
termination_by x
decreasing_by
  have := not_or.mp h
  exact Nat.div_lt_self (by omega) (by omega)
def row (b x : Nat) : List Int := digs b x (dlen b x)

theorem digs_length (b x k : Nat) : (digs b x k).length = k := by simp [digs]
theorem dg_lt {b : Nat} (hb : 0 < b) (x i : Nat) : dg b x i < b := Nat.mod_lt _ hb
theorem digs_get {b x k i : Nat} (h : i < k) : (digs b x k)[i]? = some (dg b x i : Int) := by simp [digs, h]
theorem digs_getD {b x k i : Nat} (h : i < k) : (digs b x k).getD i 0 = (dg b x i : Int) := by simp [List.getD_eq_getElem?_getD, digs_get h]
theorem dg_zero {b x k i : Nat} (hb : 0 < b) (hx : x < b ^ k) (h : k ≤ i) : dg b x i = 0 := by
  have : x < b ^ i := Nat.lt_of_lt_of_le hx (Nat.pow_le_pow_right hb h)
  simp [dg, Nat.div_eq_of_lt this]
theorem digs_getD' {b x k : Nat} (hb : 0 < b) (hx : x < b ^ k) (i : Nat) : (digs b x k).getD i 0 = (dg b x i : Int) := by
  by_cases h : i < k
  · exact digs_getD h
  · rw [dg_zero hb hx (by omega)]
    simp [List.getD_eq_getElem?_getD, digs, h]
theorem dlen_zero (b : Nat) : dlen b 0 = 0 := by rw [dlen]; simp
theorem dlen_pos {b x : Nat} (hb : 2 ≤ b) (hx : 0 < x) : dlen b x = dlen b (x / b) + 1 := by
  rw [dlen]
  split
  · omega
  · rfl
theorem lt_pow_dlen {b : Nat} (hb : 2 ≤ b) : ∀ x, x < b ^ dlen b x := by
  intro x
  induction x using Nat.strongRecOn with
  | _ x ih =>
    by_cases hx : x = 0
    · subst hx; rw [dlen_zero]; exact Nat.one_pos
    · rw [dlen_pos hb (by omega), Nat.pow_succ]
      have h1 := ih (x / b) (Nat.div_lt_self (by omega) (by omega))
      exact (Nat.div_lt_iff_lt_mul (by omega)).mp h1
theorem pow_dlen_le {b : Nat} (hb : 2 ≤ b) : ∀ x, 0 < x → b ^ (dlen b x - 1) ≤ x := by
  intro x
  induction x using Nat.strongRecOn with
  | _ x ih =>
    intro hx
    rw [dlen_pos hb hx, Nat.add_sub_cancel]
    by_cases h0 : x / b = 0
    · rw [h0, dlen_zero]; exact hx
    · have h1 := ih (x / b) (Nat.div_lt_self (by omega) (by omega)) (Nat.pos_of_ne_zero h0)
      have h2 : dlen b (x / b) = dlen b (x / b) - 1 + 1 := by
        rw [dlen_pos hb (by omega)]; omega
      rw [h2, Nat.pow_succ]
      exact (Nat.le_div_iff_mul_le (by omega)).mp h1
theorem dlen_le {b x k : Nat} (hb : 2 ≤ b) (hx : x < b ^ k) : dlen b x ≤ k := by
  by_cases h0 : x = 0
  · subst h0; rw [dlen_zero]; omega
  · have h1 := pow_dlen_le hb x (by omega)
    have h2 : b ^ (dlen b x - 1) < b ^ k := by omega
    have := (Nat.pow_lt_pow_iff_right (a := b) (by omega)).mp h2
    omega
theorem row_zero (b : Nat) : row b 0 = [] := by simp [row, dlen_zero, digs]
theorem row_len (b x : Nat) : (row b x).length = dlen b x := digs_length ..
theorem dlen_eq_zero {b x : Nat} (hb : 2 ≤ b) : dlen b x = 0 ↔ x = 0 := by
  constructor
  · intro h
    have := lt_pow_dlen hb x
    rw [h] at this
    simpa using this
  · rintro rfl; exact dlen_zero b
theorem row_getD {b : Nat} (hb : 2 ≤ b) (x i : Nat) : (row b x).getD i 0 = (dg b x i : Int) := digs_getD' (by omega) (lt_pow_dlen hb x) i
/-- the digit and what stands above -/
theorem div_pow_succ (b x i : Nat) : x / b ^ i = dg b x i + b * (x / b ^ (i + 1)) := by
  rw [Nat.pow_succ, ← Nat.div_div_eq_div_mul, dg]
  exact (Nat.mod_add_div _ _).symm
theorem mod_pow_succ (b x i : Nat) : x % b ^ (i + 1) = x % b ^ i + b ^ i * dg b x i := by
  rw [Nat.pow_succ, Nat.mod_mul, dg]
theorem digs_succ (b x k : Nat) : digs b x (k + 1) = digs b x k ++ [(dg b x k : Int)] := by simp [digs, List.range_succ]
theorem norm_append_zero (ns : List Int) : norm (ns ++ [0]) = norm ns := by simp [norm]
theorem norm_append_ne {ns : List Int} {v : Int} (h : v ≠ 0) : norm (ns ++ [v]) = ns ++ [v] := by simp [norm, h]
theorem norm_digs {b x : Nat} (hb : 2 ≤ b) : ∀ {k : Nat}, x < b ^ k → norm (digs b x k) = row b x := by
  intro k
  induction k with
  | zero =>
    intro h
    have : x = 0 := by simpa using h
    subst this
    simp [row, dlen_zero, digs, norm]
  | succ k ih =>
    intro h
    rw [digs_succ]
    by_cases h0 : dg b x k = 0
    · rw [h0]
      have hx : x < b ^ k := by
        have h2 := div_pow_succ b x k
        rw [h0, Nat.div_eq_of_lt h] at h2
        simp at h2
        rcases h2 with ⟨h3, _⟩ | h3
        · omega
        · exact h3
      rw [show ((0 : Nat) : Int) = 0 from rfl, norm_append_zero]
      exact ih hx
    · rw [norm_append_ne (by omega), ← digs_succ]
      have h1 : ¬ x < b ^ k := fun h => h0 (dg_zero (by omega) h (Nat.le_refl _))
      have h2 : dlen b x = k + 1 := by
        have := dlen_le hb h
        have h4 := lt_pow_dlen hb x
        have h5 : ¬ dlen b x ≤ k := fun q => h1 (Nat.lt_of_lt_of_le h4 (Nat.pow_le_pow_right (by omega) q))
        omega
      rw [row, h2]
theorem norm_row {b x : Nat} (hb : 2 ≤ b) : norm (row b x) = row b x := norm_digs hb (lt_pow_dlen hb x)
theorem digs_eq_row {b x k : Nat} (hb : 2 ≤ b) (hx : x < b ^ k) (h : k = 0 ∨ dg b x (k - 1) ≠ 0) : digs b x k = row b x := by
  have h1 := norm_digs hb hx
  rw [← h1]
  cases k with
  | zero => rfl
  | succ k =>
    rw [digs_succ]
    refine (norm_append_ne ?_).symm
    have := h.resolve_left (by omega)
    simp at this
    omega
theorem norm_take {ns : List Int} {e : Nat} (he : e ≤ ns.length) (hz : ∀ i : Nat, e ≤ i → i < ns.length → ns.getD i 0 = 0) (h : e = 0 ∨ ns.getD (e - 1) 0 ≠ 0) : ns.take e = norm ns := by
  have key : ∀ k, e + k ≤ ns.length → norm (ns.take (e + k)) = norm (ns.take e) := by
    intro k
    induction k with
    | zero => intro _; rfl
    | succ k ih =>
      intro hk
      have hlt : e + k < ns.length := by omega
      have h1 : ns.take (e + (k + 1)) = ns.take (e + k) ++ [0] := by
        rw [show e + (k + 1) = e + k + 1 by omega, List.take_add_one]
        have := hz (e + k) (by omega) hlt
        rw [List.getD_eq_getElem?_getD] at this
        rw [List.getElem?_eq_getElem hlt] at this ⊢
        simp at this
        simp [this]
      rw [h1, norm_append_zero]
      exact ih (by omega)
  have h2 := key (ns.length - e) (by omega)
  rw [show e + (ns.length - e) = ns.length by omega, List.take_length] at h2
  rw [h2]
  cases e with
  | zero => simp [norm]
  | succ e =>
    have h3 := h.resolve_left (by omega)
    simp only [Nat.add_sub_cancel] at h3
    have hlt : e < ns.length := by omega
    have h4 : ns.take (e + 1) = ns.take e ++ [ns.getD e 0] := by
      rw [List.take_add_one, List.getD_eq_getElem?_getD, List.getElem?_eq_getElem hlt]; simp
    rw [h4, norm_append_ne h3]
theorem two_le_pow {W : Nat} (hW : 1 ≤ W) : 2 ≤ 2 ^ W := by
  have := Nat.pow_le_pow_right (n := 2) (by omega) hW
  omega
theorem dlen_small {W x k : Nat} (hW : 1 ≤ W) (hx : x < 2 ^ k) : dlen (2 ^ W) x ≤ k := by
  refine dlen_le (two_le_pow hW) (Nat.lt_of_lt_of_le hx ?_)
  rw [← Nat.pow_mul]
  exact Nat.pow_le_pow_right (by omega) (Nat.le_mul_of_pos_left _ (by omega))
theorem row_small {W x : Nat} (hW : 2 ≤ W) (hx : x < 2 ^ 40) : (row (2 ^ W) x).length < 2 ^ 20 := by
  rw [row_len]
  have := dlen_small (W := W) (by omega) hx
  omega
theorem dlen_lt {b x y : Nat} (hb : 2 ≤ b) (h : dlen b x < dlen b y) : x < y := by
  have h1 := lt_pow_dlen hb x
  have hy : 0 < y := by
    cases Nat.eq_zero_or_pos y with
    | inl e => subst e; rw [dlen_zero] at h; omega
    | inr q => exact q
  have h2 := pow_dlen_le hb y hy
  have h3 : b ^ dlen b x ≤ b ^ (dlen b y - 1) := Nat.pow_le_pow_right (by omega) (by omega)
  omega
theorem lt_of_dg_lt {b x y i : Nat} (h : x / b ^ (i + 1) = y / b ^ (i + 1)) (hd : dg b x i < dg b y i) : x < y := by
  have h1 := div_pow_succ b x i
  have h2 := div_pow_succ b y i
  rw [h] at h1
  have h3 : x / b ^ i < y / b ^ i := by omega
  exact Nat.lt_of_div_lt_div h3
theorem div_eq_of_dg_eq {b x y i : Nat} (h : x / b ^ (i + 1) = y / b ^ (i + 1)) (hd : dg b x i = dg b y i) : x / b ^ i = y / b ^ i := by
  rw [div_pow_succ b x i, div_pow_succ b y i, h, hd]
theorem row_get {b x i : Nat} (h : i < (row b x).length) : (row b x)[i]? = some (dg b x i : Int) := digs_get (by rwa [row_len] at h)
theorem odd_split : ∀ x : Nat, 0 < x → ∃ k m, x = 2 ^ k * (2 * m + 1) := by
  intro x
  induction x using Nat.strongRecOn with
  | _ x ih =>
    intro hx
    by_cases h : x % 2 = 1
    · exact ⟨0, x / 2, by omega⟩
    · obtain ⟨k, m, e⟩ := ih (x / 2) (by omega) (by omega)
      refine ⟨k + 1, m, ?_⟩
      rw [Nat.pow_succ, Nat.mul_comm (2 ^ k) 2, Nat.mul_assoc, ← e]
      omega
theorem pow_pow_eq (W i : Nat) : (2 ^ W) ^ i = 2 ^ (W * i) := (Nat.pow_mul ..).symm
/-- one bit, by its limb -/
theorem bit_of_dg {W x i : Nat} (hW : 0 < W) : dg (2 ^ W) x (i / W) / 2 ^ (i % W) % 2 = x / 2 ^ i % 2 := by
  have hr : i % W < W := Nat.mod_lt _ hW
  have e1 : 2 ^ W = 2 ^ (i % W) * 2 ^ (W - i % W) := by rw [← Nat.pow_add]; congr 1; omega
  unfold dg
  rw [pow_pow_eq]
  generalize hy : x / 2 ^ (W * (i / W)) = y
  rw [e1, Nat.mod_mul_right_div_self]
  obtain ⟨j, hj⟩ : ∃ j, W - i % W = j + 1 := ⟨W - i % W - 1, by omega⟩
  rw [hj, Nat.pow_succ', Nat.mod_mul_right_mod, ← hy, Nat.div_div_eq_div_mul, ← Nat.pow_add, Nat.div_add_mod]
theorem bit_high {W x i : Nat} (hW : 1 ≤ W) (h : dlen (2 ^ W) x ≤ i / W) : x / 2 ^ i = 0 := by
  refine Nat.div_eq_of_lt (Nat.lt_of_lt_of_le (lt_pow_dlen (two_le_pow hW) x) ?_)
  rw [pow_pow_eq]
  refine Nat.pow_le_pow_right (by omega) ?_
  have := Nat.div_add_mod i W
  have := Nat.mul_le_mul_left W h
  omega
/-- the first limb that is not nought -/
theorem tz_of_dg {W x i k c : Nat} (hk : dg (2 ^ W) x i = 2 ^ k * (2 * c + 1)) (h0 : x % (2 ^ W) ^ i = 0) : ∃ m, x = 2 ^ (i * W + k) * (2 * m + 1) := by
  have h1 := div_pow_succ (2 ^ W) x i
  have hd : dg (2 ^ W) x i < 2 ^ W := dg_lt (Nat.pow_pos (by omega)) ..
  have hkW : k < W := by
    rw [hk] at hd
    have : 2 ^ k < 2 ^ W := Nat.lt_of_le_of_lt (Nat.le_mul_of_pos_right _ (by omega)) hd
    exact (Nat.pow_lt_pow_iff_right (by omega)).mp this
  have hx : x = (2 ^ W) ^ i * (x / (2 ^ W) ^ i) := by
    have := Nat.div_add_mod x ((2 ^ W) ^ i)
    omega
  obtain ⟨j, hj⟩ : ∃ j, W = k + (j + 1) := ⟨W - k - 1, by omega⟩
  refine ⟨c + 2 ^ j * (x / (2 ^ W) ^ (i + 1)), ?_⟩
  have e : 2 ^ W = 2 ^ k * (2 * 2 ^ j) := by
    conv => lhs; rw [hj]
    rw [Nat.pow_add, Nat.pow_succ']
  have hp : 2 ^ (i * W + k) = (2 ^ W) ^ i * 2 ^ k := by rw [pow_pow_eq, Nat.mul_comm W i, Nat.pow_add]
  rw [hp]
  conv => lhs; rw [hx, h1, hk]
  generalize x / (2 ^ W) ^ (i + 1) = z
  generalize (2 ^ W) ^ i = q
  rw [e]
  grind
theorem flatten_ones {α : Type} (n : Nat) (a : α) : (List.replicate n [a]).flatten = List.replicate n a := by
  induction n with
  | zero => rfl
  | succ n ih => rw [List.replicate_succ, List.flatten_cons, ih, List.replicate_succ]; rfl
theorem digs_zero (b k : Nat) : digs b 0 k = List.replicate k 0 := by
  induction k with
  | zero => rfl
  | succ k ih => rw [digs_succ, ih, List.replicate_succ']; simp [dg]
/-- one digit laid anew -/
theorem digs_set {b x k j v : Nat} (hb : 0 < b) (hj : j < k) (hv : v < b) : (digs b x k).set j (v : Int) = digs b (x - dg b x j * b ^ j + v * b ^ j) k := by
  have hp : 0 < b ^ j := Nat.pow_pos hb
  have hx : x = x % b ^ j + b ^ j * (dg b x j + b * (x / b ^ (j + 1))) := by
    have h1 := Nat.mod_add_div x (b ^ j)
    have h2 := div_pow_succ b x j
    rw [← h2]; omega
  generalize hz : x / b ^ (j + 1) = z at hx
  generalize hd : dg b x j = d at hx
  have hr : x % b ^ j < b ^ j := Nat.mod_lt _ hp
  generalize x % b ^ j = r at hx hr
  have e : x - d * b ^ j + v * b ^ j = r + b ^ j * (v + b * z) := by
    have h3 : b ^ j * (d + b * z) = d * b ^ j + b ^ j * (b * z) := by rw [Nat.mul_add, Nat.mul_comm]
    have h4 : b ^ j * (v + b * z) = v * b ^ j + b ^ j * (b * z) := by rw [Nat.mul_add, Nat.mul_comm]
    omega
  rw [e]
  have hdlt : d < b := hd ▸ dg_lt hb x j
  apply List.ext_getElem?
  intro i
  by_cases hik : i < k
  · rw [digs_get hik]
    by_cases hij : i = j
    · subst hij
      rw [List.getElem?_set_self (by rw [digs_length]; exact hik)]
      congr 2
      unfold dg
      rw [Nat.add_mul_div_left _ _ hp, Nat.div_eq_of_lt hr, Nat.zero_add, Nat.add_mul_mod_self_left, Nat.mod_eq_of_lt hv]
    · rw [List.getElem?_set_ne (by omega), digs_get hik]
      congr 2
      have key : ∀ u, u < b → dg b (r + b ^ j * (u + b * z)) i = if i < j then dg b r i else dg b z (i - j - 1) := by
        intro u hu
        by_cases hlt : i < j
        · rw [if_pos hlt]
          unfold dg
          obtain ⟨c, rfl⟩ : ∃ c, j = i + 1 + c := ⟨j - i - 1, by omega⟩
          have e2 : b ^ (i + 1 + c) = b ^ i * (b * b ^ c) := by rw [Nat.pow_add, Nat.pow_succ, Nat.mul_assoc]
          rw [e2, Nat.mul_assoc, Nat.add_mul_div_left _ _ (Nat.pow_pos hb), Nat.mul_assoc, Nat.add_mul_mod_self_left]
        · rw [if_neg hlt]
          obtain ⟨c, rfl⟩ : ∃ c, i = j + (c + 1) := ⟨i - j - 1, by omega⟩
          unfold dg
          rw [Nat.pow_add, ← Nat.div_div_eq_div_mul, Nat.add_mul_div_left _ _ hp, Nat.div_eq_of_lt hr, Nat.zero_add, Nat.pow_succ', ← Nat.div_div_eq_div_mul, Nat.add_mul_div_left _ _ hb, Nat.div_eq_of_lt hu, Nat.zero_add]
          congr 3
          omega
      rw [key v hv]
      rw [hx, key d hdlt]
  · rw [List.getElem?_eq_none (by rw [List.length_set, digs_length]; omega), List.getElem?_eq_none (by rw [digs_length]; omega)]
/-- one step of the division by a limb -/
theorem div_step {b X q r d g : Nat} (hX : X = b * (d * q + r) + g) (hr : r < d) (hg : g < b) (hd : 0 < d) : (r * b + g) / d < b ∧ X / d = b * q + (r * b + g) / d ∧ X % d = (r * b + g) % d := by
  have e : X = d * (b * q) + (r * b + g) := by rw [hX]; grind
  refine ⟨?_, ?_, ?_⟩
  · rw [Nat.div_lt_iff_lt_mul hd]
    have : (r + 1) * b ≤ d * b := Nat.mul_le_mul_right b hr
    rw [Nat.add_mul] at this
    rw [Nat.mul_comm b d]
    omega
  · rw [e, Nat.mul_add_div hd]
  · rw [e, Nat.mul_add_mod]
theorem dg_shift_zero {b q j : Nat} (hb : 0 < b) : dg b (q * b ^ (j + 1)) j = 0 := by
  unfold dg
  rw [Nat.pow_succ, ← Nat.mul_assoc, Nat.mul_right_comm, Nat.mul_div_cancel _ (Nat.pow_pos hb), Nat.mul_mod_left]
/-- the quotient's limb laid down -/
theorem digs_quot {b q v j k : Nat} (hb : 0 < b) (hj : j < k) (hv : v < b) : (digs b (q * b ^ (j + 1)) k).set j (v : Int) = digs b ((b * q + v) * b ^ j) k := by
  rw [digs_set hb hj hv, dg_shift_zero hb, Nat.zero_mul, Nat.sub_zero]
  congr 1
  rw [Nat.pow_succ]
  grind
/-- a row's split at limb `i` -/
theorem split_at {b : Nat} (x i : Nat) : x = x % b ^ i + b ^ i * (dg b x i + b * (x / b ^ (i + 1))) := by
  have h1 := Nat.mod_add_div x (b ^ i)
  have h2 := div_pow_succ b x i
  rw [← h2]; omega
theorem shl_carry_lt {b x i p : Nat} (hb : 0 < b) (hp : 0 < p) : x % b ^ i * p / b ^ i < p := by
  rw [Nat.div_lt_iff_lt_mul (Nat.pow_pos hb), Nat.mul_comm]
  exact Nat.mul_lt_mul_of_pos_left (Nat.mod_lt _ (Nat.pow_pos hb)) hp
theorem shl_step {b x i p : Nat} (hb : 0 < b) : x % b ^ (i + 1) * p / b ^ (i + 1) = (x % b ^ i * p / b ^ i + dg b x i * p) / b ∧ dg b (x * p) i = (x % b ^ i * p / b ^ i + dg b x i * p) % b := by
  have hp : 0 < b ^ i := Nat.pow_pos hb
  have e := split_at (b := b) x i
  have e2 := mod_pow_succ b x i
  constructor
  · rw [e2, Nat.pow_succ, ← Nat.div_div_eq_div_mul]
    congr 1
    rw [Nat.add_mul, Nat.mul_assoc, Nat.add_mul_div_left _ _ hp]
  · unfold dg
    have e3 : x * p / b ^ i = (x % b ^ i * p / b ^ i + dg b x i * p) + b * (x / b ^ (i + 1) * p) := by
      conv => lhs; rw [e]
      rw [Nat.add_mul, Nat.mul_assoc, Nat.add_mul_div_left _ _ hp, Nat.add_mul, Nat.add_assoc, Nat.mul_assoc]
    rw [e3, Nat.add_mul_mod_self_left]; rfl
theorem shl_end {b x p : Nat} (hb : 2 ≤ b) (hp : 0 < p) (hpb : p < b) (hx : 0 < x) :
    (x * p / b ^ dlen b x = 0 → digs b (x * p) (dlen b x) = row b (x * p)) ∧ (0 < x * p / b ^ dlen b x → digs b (x * p) (dlen b x) ++ [((x * p / b ^ dlen b x : Nat) : Int)] = row b (x * p)) := by
  have h1 := lt_pow_dlen hb x
  have h2 := pow_dlen_le hb x hx
  have h3 : dlen b x ≠ 0 := fun h => by rw [dlen_eq_zero hb] at h; omega
  obtain ⟨k, hk⟩ : ∃ k, dlen b x = k + 1 := ⟨dlen b x - 1, by omega⟩
  rw [hk] at h1 h2 ⊢
  rw [Nat.add_sub_cancel] at h2
  have hpk : 0 < b ^ k := Nat.pow_pos (by omega)
  have hpk1 : 0 < b ^ (k + 1) := Nat.pow_pos (by omega)
  constructor
  · intro h
    have hlt : x * p < b ^ (k + 1) := by
      rcases (Nat.div_eq_zero_iff).mp h with q | q
      · omega
      · exact q
    refine digs_eq_row hb hlt (.inr ?_)
    rw [Nat.add_sub_cancel]
    unfold dg
    have h4 : x * p / b ^ k < b := by
      rw [Nat.div_lt_iff_lt_mul hpk, Nat.mul_comm b, ← Nat.pow_succ]; exact hlt
    rw [Nat.mod_eq_of_lt h4]
    have h5 : b ^ k ≤ x * p := Nat.le_trans h2 (Nat.le_mul_of_pos_right _ hp)
    have := (Nat.le_div_iff_mul_le hpk (x := 1) (y := x * p)).mpr (by omega)
    omega
  · intro h
    have hlt : x * p < b ^ (k + 1 + 1) := by
      rw [Nat.pow_succ b (k + 1)]
      exact Nat.mul_lt_mul_of_lt_of_lt h1 hpb
    have h4 : x * p / b ^ (k + 1) < b := by
      rw [Nat.div_lt_iff_lt_mul hpk1, Nat.mul_comm b, ← Nat.pow_succ]; exact hlt
    have h5 : dg b (x * p) (k + 1) = x * p / b ^ (k + 1) := by
      unfold dg
      exact Nat.mod_eq_of_lt h4
    rw [← h5, ← digs_succ]
    refine digs_eq_row hb hlt (.inr ?_)
    rw [Nat.add_sub_cancel, h5]
    omega
theorem shr_digit {W x f i : Nat} (hW : 0 < W) : dg (2 ^ W) (x / 2 ^ f) i = (dg (2 ^ W) x (f / W + i) / 2 ^ (f % W) + dg (2 ^ W) x (f / W + i + 1) * 2 ^ (W - f % W)) % 2 ^ W := by
  have hr : f % W < W := Nat.mod_lt _ hW
  have hp : 0 < 2 ^ (f % W) := Nat.pow_pos (by omega)
  have e1 : 2 ^ W = 2 ^ (f % W) * 2 ^ (W - f % W) := by rw [← Nat.pow_add]; congr 1; omega
  have e2 : x / 2 ^ f / (2 ^ W) ^ i = x / (2 ^ W) ^ (f / W + i) / 2 ^ (f % W) := by
    rw [Nat.div_div_eq_div_mul, Nat.div_div_eq_div_mul]
    congr 1
    rw [pow_pow_eq, pow_pow_eq, ← Nat.pow_add, ← Nat.pow_add]
    congr 1
    have := Nat.div_add_mod f W
    rw [Nat.mul_add]; omega
  have h1 := div_pow_succ (2 ^ W) x (f / W + i)
  have h2 := div_pow_succ (2 ^ W) x (f / W + i + 1)
  conv => lhs; unfold dg
  rw [e2, h1, h2]
  generalize dg (2 ^ W) x (f / W + i) = g
  generalize dg (2 ^ W) x (f / W + i + 1) = g'
  generalize x / (2 ^ W) ^ (f / W + i + 1 + 1) = z
  have e3 : g + 2 ^ W * (g' + 2 ^ W * z) = g + 2 ^ (f % W) * (g' * 2 ^ (W - f % W) + 2 ^ W * (2 ^ (W - f % W) * z)) := by
    generalize hB : 2 ^ (f % W) = B at *
    generalize hC : 2 ^ (W - f % W) = C at *
    rw [e1]; grind
  rw [e3, Nat.add_mul_div_left _ _ hp, ← Nat.add_assoc, Nat.add_mul_mod_self_left]
theorem shr_low {W r g : Nat} (hr : r ≤ W) (hg : g < 2 ^ W) : g / 2 ^ r < 2 ^ (W - r) := by
  rw [Nat.div_lt_iff_lt_mul (Nat.pow_pos (by omega)), ← Nat.pow_add]
  rwa [Nat.sub_add_cancel hr]
theorem shr_size {W x f : Nat} (hW : 0 < W) : x / 2 ^ f < (2 ^ W) ^ (dlen (2 ^ W) x - f / W) := by
  have h1 := lt_pow_dlen (b := 2 ^ W) (two_le_pow hW) x
  by_cases h : f / W ≤ dlen (2 ^ W) x
  · rw [Nat.div_lt_iff_lt_mul (Nat.pow_pos (by omega))]
    refine Nat.lt_of_lt_of_le h1 ?_
    rw [pow_pow_eq, pow_pow_eq, ← Nat.pow_add]
    refine Nat.pow_le_pow_right (by omega) ?_
    have h2 := Nat.div_add_mod f W
    have h3 : W * dlen (2 ^ W) x = W * (dlen (2 ^ W) x - f / W) + W * (f / W) := by rw [← Nat.mul_add, Nat.sub_add_cancel h]
    omega
  · rw [bit_high hW (by omega)]
    exact Nat.pow_pos (Nat.pow_pos (by omega))
theorem row_get0 {b x : Nat} (h : 0 < (row b x).length) : (row b x)[Int.toNat 0]? = some ((x % b : Nat) : Int) := by
  have := row_get (i := 0) h
  unfold dg at this
  rwa [Nat.pow_zero, Nat.div_one] at this
/-! the guess of a limb -/
theorem guess_done {b f sd H d0 g r : Nat} (h1 : g * f + r = H) (hg : g < b) (hs : sd < b) (h : b ≤ r ∨ g * sd ≤ r * b + d0) : g * (f * b + sd) ≤ H * b + d0 := by
  have e1 : g * (f * b + sd) = g * f * b + g * sd := by grind
  have e2 : H * b = g * f * b + r * b := by rw [← h1]; grind
  have h3 : g * sd ≤ r * b + d0 := by
    rcases h with h | h
    · have h4 : g * sd ≤ b * b := Nat.mul_le_mul (by omega) (by omega)
      have h5 : b * b ≤ r * b := Nat.mul_le_mul_right _ h
      omega
    · exact h
  omega
theorem guess_step {b f sd H d0 g r : Nat} (h1 : g * f + r = H) (h2 : ∀ q, q < b → q * (f * b + sd) ≤ H * b + d0 → q ≤ g) (h : r * b + d0 < g * sd) :
    1 ≤ g ∧ (g - 1) * f + (r + f) = H ∧ ∀ q, q < b → q * (f * b + sd) ≤ H * b + d0 → q ≤ g - 1 := by
  have hg : 1 ≤ g := by
    cases Nat.eq_zero_or_pos g with
    | inl q => subst q; rw [Nat.zero_mul] at h; omega
    | inr q => exact q
  refine ⟨hg, ?_, fun q hq hle => ?_⟩
  · obtain ⟨c, rfl⟩ : ∃ c, g = c + 1 := ⟨g - 1, by omega⟩
    rw [Nat.add_sub_cancel, ← h1]; grind
  · have h3 := h2 q hq hle
    by_cases e : q = g
    · exfalso
      subst e
      have e1 : q * (f * b + sd) = q * f * b + q * sd := by grind
      have e2 : H * b = q * f * b + r * b := by rw [← h1]; grind
      omega
    · omega
theorem guess_first {b f sd H d0 q : Nat} (hf : 0 < f) (hd : d0 < b) (hq : q < b) (h : q * (f * b + sd) ≤ H * b + d0) : q ≤ min (H / f) (b - 1) := by
  have h1 : q * f ≤ H := by
    have e1 : q * (f * b + sd) = q * f * b + q * sd := by grind
    have h2 : q * f * b < (H + 1) * b := by rw [Nat.add_mul]; omega
    have := Nat.lt_of_mul_lt_mul_right h2
    omega
  have h2 := (Nat.le_div_iff_mul_le hf).mpr h1
  omega
/-- the guess is the true limb or one more -/
theorem guess_near {b B R m f sd V g d : Nat} (hb : 0 < b) (hf : 0 < f) (hB : B / b ^ m = f * b + sd) (hR : R / b ^ m = V) (hg : g < b) (h1 : g * (f * b + sd) ≤ V)
    (h2 : ∀ q, q < b → q * (f * b + sd) ≤ V → q ≤ g) (hd : d = R / B) (hBR : R < B * b) : d < b ∧ (g = d ∨ g = d + 1) := by
  have hp : 0 < b ^ m := Nat.pow_pos hb
  have hB0 : 0 < B := by
    cases Nat.eq_zero_or_pos B with
    | inl q => subst q; rw [Nat.zero_mul] at hBR; omega
    | inr q => exact q
  have hdb : d < b := by
    rw [hd, Nat.div_lt_iff_lt_mul hB0, Nat.mul_comm]; exact hBR
  have hB1 := Nat.div_add_mod B (b ^ m)
  have hB2 := Nat.mod_lt B hp
  have hR1 := Nat.div_add_mod R (b ^ m)
  have hR2 := Nat.mod_lt R hp
  rw [hB] at hB1
  rw [hR] at hR1
  have hdB : d * B ≤ R := by rw [hd]; exact Nat.div_mul_le_self R B
  have hdB2 : R < (d + 1) * B := by
    rw [hd, Nat.mul_comm]; exact Nat.lt_mul_div_succ R hB0
  generalize b ^ m = P at *
  refine ⟨hdb, ?_⟩
  have hle : d ≤ g := by
    refine h2 d hdb ?_
    have h3 : d * (P * (f * b + sd)) ≤ d * B := Nat.mul_le_mul_left _ (by omega)
    have h4 : P * (d * (f * b + sd)) < P * (V + 1) := by
      have : P * (d * (f * b + sd)) = d * (P * (f * b + sd)) := by grind
      have e5 : P * (V + 1) = P * V + P := by rw [Nat.mul_add, Nat.mul_one]
      rw [this, e5]; omega
    have := Nat.lt_of_mul_lt_mul_left h4
    omega
  by_cases hlt : d + 1 < g
  · exfalso
    obtain ⟨c, rfl⟩ : ∃ c, g = c + 1 := ⟨g - 1, by omega⟩
    have h3 : (d + 1) * B ≤ c * B := Nat.mul_le_mul_right _ (by omega)
    have h4 : c * B ≤ c * (P * (f * b + sd + 1)) := Nat.mul_le_mul_left _ (by rw [Nat.mul_add]; omega)
    have hfb : b ≤ f * b := Nat.le_mul_of_pos_left _ hf
    have h5 : c * (f * b + sd + 1) ≤ V := by
      have e : (c + 1) * (f * b + sd) = c * (f * b + sd) + (f * b + sd) := by rw [Nat.add_mul, Nat.one_mul]
      rw [Nat.mul_add]; omega
    have h6 : P * (c * (f * b + sd + 1)) ≤ P * V := Nat.mul_le_mul_left _ h5
    have e2 : c * (P * (f * b + sd + 1)) = P * (c * (f * b + sd + 1)) := by grind
    omega
  · omega
/-- one digit laid anew: the value in whole numbers -/
theorem digs_put {b x k j v : Nat} (hb : 0 < b) (hj : j < k) (hv : v < b) : ∃ y : Nat, (digs b x k).set j (v : Int) = digs b y k ∧ (y : Int) = x + ((v : Int) - dg b x j) * ((b ^ j : Nat) : Int) ∧ ∀ K, j < K → x < b ^ K → y < b ^ K := by
  have e := split_at (b := b) x j
  have hp : 0 < b ^ j := Nat.pow_pos hb
  have hle : dg b x j * b ^ j ≤ x := by
    refine Nat.le_trans (m := b ^ j * (dg b x j + b * (x / b ^ (j + 1)))) ?_ (Nat.le.intro (k := x % b ^ j) (by rw [Nat.add_comm]; exact e.symm))
    rw [Nat.mul_comm]
    exact Nat.mul_le_mul_left _ (Nat.le_add_right _ _)
  refine ⟨_, digs_set hb hj hv, ?_, fun K hK hx => ?_⟩
  · rw [Int.natCast_add, Int.ofNat_sub hle, Int.natCast_mul, Int.natCast_mul, Int.sub_mul]; omega
  · obtain ⟨c, rfl⟩ : ∃ c, K = j + 1 + c := ⟨K - j - 1, by omega⟩
    have hz : x / b ^ (j + 1) < b ^ c := by
      rw [Nat.div_lt_iff_lt_mul (Nat.pow_pos hb), ← Nat.pow_add, Nat.add_comm]; exact hx
    have hr : x % b ^ j < b ^ j := Nat.mod_lt _ hp
    have e2 : x - dg b x j * b ^ j + v * b ^ j = x % b ^ j + b ^ j * (v + b * (x / b ^ (j + 1))) := by
      have h3 : b ^ j * (dg b x j + b * (x / b ^ (j + 1))) = dg b x j * b ^ j + b ^ j * (b * (x / b ^ (j + 1))) := by rw [Nat.mul_add, Nat.mul_comm]
      have h4 : b ^ j * (v + b * (x / b ^ (j + 1))) = v * b ^ j + b ^ j * (b * (x / b ^ (j + 1))) := by rw [Nat.mul_add, Nat.mul_comm]
      omega
    rw [e2]
    generalize x / b ^ (j + 1) = z at *
    have h5 : v + b * z < b * b ^ c := by
      have : b * (z + 1) ≤ b * b ^ c := Nat.mul_le_mul_left _ hz
      rw [Nat.mul_add] at this; omega
    have h6 : b ^ j * (v + b * z + 1) ≤ b ^ j * (b * b ^ c) := Nat.mul_le_mul_left _ h5
    rw [Nat.pow_add, Nat.pow_succ, Nat.mul_assoc]
    rw [Nat.mul_add, Nat.mul_one] at h6
    omega
/-- one limb taken away -/
theorem take_step {b R B g i at_ y c v e : Nat} (h1 : (y : Int) = R - ((g * (B % b ^ i) * b ^ at_ : Nat) : Int) + ((c * b ^ (at_ + i) : Nat) : Int)) (y' : Nat)
    (hv : (v : Int) = dg b y (at_ + i) - (((g * dg b B i + c) % b : Nat) : Int) + b * e) (hy : (y' : Int) = y + ((v : Int) - dg b y (at_ + i)) * ((b ^ (at_ + i) : Nat) : Int)) :
    (y' : Int) = R - ((g * (B % b ^ (i + 1)) * b ^ at_ : Nat) : Int) + ((((g * dg b B i + c) / b + e) * b ^ (at_ + (i + 1)) : Nat) : Int) := by
  rw [hy, hv, h1, mod_pow_succ, ← Nat.add_assoc, Nat.pow_succ b (at_ + i), Nat.pow_add]
  have hd := Nat.div_add_mod (g * dg b B i + c) b
  generalize (g * dg b B i + c) / b = u at *
  generalize (g * dg b B i + c) % b = z at *
  generalize b ^ at_ = X at *
  generalize b ^ i = Y at *
  generalize B % Y = Bi at *
  generalize dg b B i = o at *
  generalize (dg b y (at_ + i)) = dd at *
  have hd' : (b : Int) * u + z = g * o + c := by exact_mod_cast hd
  push_cast
  grind
theorem back_step {b R B i at_ y c y' : Nat} (h1 : y + c * b ^ (at_ + i) = R + (B % b ^ i) * b ^ at_)
    (hy : (y' : Int) = y + ((((c + (dg b y (at_ + i) + dg b B i)) % b : Nat) : Int) - dg b y (at_ + i)) * ((b ^ (at_ + i) : Nat) : Int)) :
    y' + ((c + (dg b y (at_ + i) + dg b B i)) / b) * b ^ (at_ + (i + 1)) = R + (B % b ^ (i + 1)) * b ^ at_ := by
  have h1' : (y : Int) + c * ((b ^ (at_ + i) : Nat) : Int) = R + (B % b ^ i : Nat) * ((b ^ at_ : Nat) : Int) := by exact_mod_cast h1
  rw [mod_pow_succ, show at_ + (i + 1) = at_ + i + 1 from rfl, Nat.pow_succ b (at_ + i)]
  rw [Nat.pow_add] at *
  have hd := Nat.div_add_mod (c + (dg b y (at_ + i) + dg b B i)) b
  generalize (c + (dg b y (at_ + i) + dg b B i)) / b = u at *
  generalize (c + (dg b y (at_ + i) + dg b B i)) % b = z at *
  generalize b ^ at_ = X at *
  generalize b ^ i = Y at *
  generalize B % Y = Bi at *
  generalize dg b B i = o at *
  generalize (dg b y (at_ + i)) = dd at *
  have hd' : (b : Int) * u + z = c + (dd + o) := by exact_mod_cast hd
  have : (y' : Int) + u * (X * Y * b) = R + (Bi + Y * o) * X := by
    rw [hy]; push_cast at *; grind
  exact_mod_cast this
theorem take_turn {b R B g i at_ y c len K : Nat} {x : Int} (e : Nat) (hb : 2 ≤ b) (q : y < b ^ (K + 1)) (hc : c ≤ b) (hg : g < b) (hj : at_ + i < len) (hjK : at_ + i < K + 1)
    (h1 : (y : Int) = R - ((g * (B % b ^ i) * b ^ at_ : Nat) : Int) + ((c * b ^ (at_ + i) : Nat) : Int)) (hx : x = dg b y (at_ + i) - (((g * dg b B i + c) % b : Nat) : Int) + b * e) (hx0 : 0 ≤ x) (hxb : x < b) (he : e ≤ 1) :
    ∃ y' : Nat, (digs b y len).set (at_ + i) x = digs b y' len ∧ y' < b ^ (K + 1) ∧ (g * dg b B i + c) / b + e ≤ b ∧
      (y' : Int) = R - ((g * (B % b ^ (i + 1)) * b ^ at_ : Nat) : Int) + ((((g * dg b B i + c) / b + e) * b ^ (at_ + (i + 1)) : Nat) : Int) := by
  obtain ⟨v, rfl⟩ := Int.eq_ofNat_of_zero_le hx0
  obtain ⟨y', p1, p2, p3⟩ := digs_put (b := b) (x := y) (k := len) (by omega) hj (v := v) (by omega)
  refine ⟨y', p1, p3 _ hjK q, ?_, take_step h1 y' hx p2⟩
  have h2 : (g * dg b B i + c) / b < b := by
    rw [Nat.div_lt_iff_lt_mul (by omega)]
    have h3 : g * dg b B i ≤ (b - 1) * (b - 1) := Nat.mul_le_mul (by omega) (by have := dg_lt (b := b) (by omega) B i; omega)
    obtain ⟨d, rfl⟩ : ∃ d, b = d + 1 := ⟨b - 1, by omega⟩
    rw [Nat.add_sub_cancel] at h3
    have h4 : (d + 1) * (d + 1) = d * d + d + d + 1 := by grind
    omega
  omega
theorem take_last {b y c len K e : Nat} {X x : Int} (hb : 0 < b) (q : y < b ^ (K + 1)) (hj : K < len) (h1 : (y : Int) = X + ((c * b ^ K : Nat) : Int)) (hx : x = dg b y K - c + b * e) (hx0 : 0 ≤ x) (hxb : x < b) :
    ∃ y' : Nat, (digs b y len).set K x = digs b y' len ∧ y' < b ^ (K + 1) ∧ (y' : Int) = X + ((e * b ^ (K + 1) : Nat) : Int) := by
  obtain ⟨v, rfl⟩ := Int.eq_ofNat_of_zero_le hx0
  obtain ⟨y', p1, p2, p3⟩ := digs_put (b := b) (x := y) (k := len) hb hj (v := v) (by omega)
  refine ⟨y', p1, p3 _ (by omega) q, ?_⟩
  rw [p2, hx, h1, Nat.pow_succ]
  push_cast
  grind
theorem back_turn {b R B i at_ y c len K : Nat} (hb : 0 < b) (q : y < b ^ (K + 1)) (hc : c ≤ 1) (hj : at_ + i < len) (hjK : at_ + i < K + 1) (h1 : y + c * b ^ (at_ + i) = R + (B % b ^ i) * b ^ at_) :
    ∃ y' : Nat, (digs b y len).set (at_ + i) (((c + (dg b y (at_ + i) + dg b B i)) % b : Nat) : Int) = digs b y' len ∧ y' < b ^ (K + 1) ∧ (c + (dg b y (at_ + i) + dg b B i)) / b ≤ 1 ∧
      y' + ((c + (dg b y (at_ + i) + dg b B i)) / b) * b ^ (at_ + (i + 1)) = R + (B % b ^ (i + 1)) * b ^ at_ := by
  obtain ⟨y', p1, p2, p3⟩ := digs_put (b := b) (x := y) (k := len) hb hj (v := (c + (dg b y (at_ + i) + dg b B i)) % b) (Nat.mod_lt _ hb)
  refine ⟨y', p1, p3 _ hjK q, ?_, back_step h1 p2⟩
  have h2 : (c + (dg b y (at_ + i) + dg b B i)) / b < 2 := by
    rw [Nat.div_lt_iff_lt_mul hb]
    have := dg_lt hb y (at_ + i)
    have := dg_lt hb B i
    omega
  omega
theorem back_last {b y c len K : Nat} (hb : 0 < b) (q : y < b ^ (K + 1)) (hj : K < len) :
    ∃ y' c' : Nat, (digs b y len).set K (((dg b y K + c) % b : Nat) : Int) = digs b y' len ∧ y' < b ^ (K + 1) ∧ y' + c' * b ^ (K + 1) = y + c * b ^ K := by
  obtain ⟨y', p1, p2, p3⟩ := digs_put (b := b) (x := y) (k := len) hb hj (v := (dg b y K + c) % b) (Nat.mod_lt _ hb)
  refine ⟨y', (dg b y K + c) / b, p1, p3 _ (by omega) q, ?_⟩
  have hd := Nat.div_add_mod (dg b y K + c) b
  have hd' : (b : Int) * ((dg b y K + c) / b : Nat) + ((dg b y K + c) % b : Nat) = dg b y K + c := by exact_mod_cast hd
  generalize (dg b y K + c) / b = u at *
  generalize (dg b y K + c) % b = z at *
  have : (y' : Int) + u * ((b ^ (K + 1) : Nat) : Int) = y + c * ((b ^ K : Nat) : Int) := by
    rw [p2, Nat.pow_succ]; push_cast at *; grind
  exact_mod_cast this
theorem digs_slice3 {b x k i : Nat} (h : i + 3 ≤ k) : ((digs b x k).drop i).take 3 = [(dg b x i : Int), dg b x (i + 1), dg b x (i + 2)] := by
  apply List.ext_getElem?
  intro j
  rw [List.getElem?_take]
  by_cases hj : j < 3
  · rw [if_pos hj, List.getElem?_drop, digs_get (by omega)]
    rcases j with _ | _ | _ | j
    · rfl
    · rfl
    · rfl
    · omega
  · rw [if_neg hj, List.getElem?_eq_none (by simp; omega)]
/-- what the guess of the limb at `j` comes to -/
theorem div_turn {b B R j m g : Nat} (hb : 2 ≤ b) (hm : dlen b B = m + 2) (hR : R < B * b ^ (j + 1)) (hg : g < b)
    (h1 : g * (dg b B (m + 1) * b + dg b B m) ≤ (dg b R (j + m + 2) * b + dg b R (j + m + 1)) * b + dg b R (j + m))
    (h2 : ∀ q, q < b → q * (dg b B (m + 1) * b + dg b B m) ≤ (dg b R (j + m + 2) * b + dg b R (j + m + 1)) * b + dg b R (j + m) → q ≤ g) :
    ∃ d z : Nat, R = d * B * b ^ j + z ∧ z < B * b ^ j ∧ (g = d ∨ g = d + 1) ∧ z % B = R % B := by
  have hb0 : 0 < b := by omega
  have hB := lt_pow_dlen hb B
  have hB1 : 0 < B := by
    cases Nat.eq_zero_or_pos B with
    | inl q => subst q; rw [dlen_zero] at hm; omega
    | inr q => exact q
  rw [hm] at hB
  have hj0 : 0 < b ^ j := Nat.pow_pos hb0
  have e1 : B / b ^ m = dg b B (m + 1) * b + dg b B m := by
    have p1 := div_pow_succ b B m
    have p2 := div_pow_succ b B (m + 1)
    rw [Nat.div_eq_of_lt hB] at p2
    rw [p1, p2]; grind
  have hf : 0 < dg b B (m + 1) := by
    have p1 := pow_dlen_le hb B hB1
    rw [hm] at p1
    have p2 := div_pow_succ b B (m + 1)
    rw [Nat.div_eq_of_lt hB] at p2
    have p3 : 1 ≤ B / b ^ (m + 1) := (Nat.le_div_iff_mul_le (Nat.pow_pos hb0)).mpr (by simpa using p1)
    omega
  have hR2 : R / b ^ j < B * b := by
    rw [Nat.div_lt_iff_lt_mul hj0, Nat.mul_assoc, ← Nat.pow_succ']; exact hR
  have hRb : R < b ^ (j + m + 2 + 1) := by
    refine Nat.lt_of_lt_of_le hR ?_
    rw [show j + m + 2 + 1 = (m + 2) + (j + 1) by omega, Nat.pow_add b (m + 2)]
    exact Nat.mul_le_mul_right _ (by omega)
  have e2 : R / b ^ j / b ^ m = (dg b R (j + m + 2) * b + dg b R (j + m + 1)) * b + dg b R (j + m) := by
    rw [Nat.div_div_eq_div_mul, ← Nat.pow_add]
    have p1 := div_pow_succ b R (j + m)
    have p2 := div_pow_succ b R (j + m + 1)
    have p3 := div_pow_succ b R (j + m + 2)
    rw [Nat.div_eq_of_lt hRb] at p3
    rw [p1, p2, p3]; grind
  obtain ⟨d1, d2⟩ := guess_near hb0 hf e1 e2 hg h1 h2 rfl hR2
  generalize hd : R / b ^ j / B = d at *
  have hdB : d * B ≤ R / b ^ j := by rw [← hd]; exact Nat.div_mul_le_self _ B
  have hdB2 : R / b ^ j < (d + 1) * B := by
    rw [← hd, Nat.mul_comm]; exact Nat.lt_mul_div_succ _ hB1
  have k1 : d * B * b ^ j ≤ R := (Nat.le_div_iff_mul_le hj0).mp hdB
  have k2 : R < (d + 1) * B * b ^ j := (Nat.div_lt_iff_lt_mul hj0).mp hdB2
  have k3 : (d + 1) * B * b ^ j = d * B * b ^ j + B * b ^ j := by grind
  refine ⟨d, R - d * B * b ^ j, by omega, by omega, d2, ?_⟩
  have k4 : R = (R - d * B * b ^ j) + B * (d * b ^ j) := by
    have : B * (d * b ^ j) = d * B * b ^ j := by grind
    omega
  conv => rhs; rw [k4]
  rw [Nat.add_mul_mod_self_left]
theorem div_ok {B R X g d z y M : Nat} (hR : R = d * B * X + z) (_hz : z < B * X) (hg : g = d ∨ g = d + 1) (hy : (y : Int) = R - ((g * B * X : Nat) : Int) + ((0 * M : Nat) : Int)) : y = z := by
  rw [Nat.zero_mul] at hy
  rcases hg with rfl | rfl
  · omega
  · exfalso
    have k3 : (d + 1) * B * X = d * B * X + B * X := by grind
    rw [k3] at hy
    omega
theorem div_back {B R X g d z y y2 c M : Nat} (hR : R = d * B * X + z) (hz : z < B * X) (hzM : z < M) (hg : g = d ∨ g = d + 1) (hy : (y : Int) = R - ((g * B * X : Nat) : Int) + ((1 * M : Nat) : Int)) (hyM : y < M) (hy2 : y2 < M)
    (h : y2 + c * M = y + B * X) : y2 = z := by
  rw [Nat.one_mul] at hy
  rcases hg with rfl | rfl
  · exfalso; omega
  · have k3 : (d + 1) * B * X = d * B * X + B * X := by grind
    rw [k3] at hy
    have k4 : y2 + c * M = z + M := by omega
    rcases c with _ | _ | c
    · omega
    · omega
    · exfalso
      have : (c + 1 + 1) * M = c * M + M + M := by grind
      omega
/-- the divisor moved up till its highest bit is set -/
theorem norm_shift {W x y sz L : Nat} (hW : 2 ≤ W) (hsz : dlen (2 ^ W) y = sz + 2) (h1 : dg (2 ^ W) y (sz + 1) < 2 ^ L) (h0 : 0 < dg (2 ^ W) y (sz + 1)) (hL : L ≤ W) (hxy : y ≤ x) :
    dlen (2 ^ W) (y * 2 ^ (W - L)) = sz + 2 ∧ sz + 2 ≤ dlen (2 ^ W) x + 1 ∧ x * 2 ^ (W - L) < y * 2 ^ (W - L) * (2 ^ W) ^ (dlen (2 ^ W) x + 1 - (sz + 2)) ∧ dlen (2 ^ W) (x * 2 ^ (W - L)) ≤ dlen (2 ^ W) x + 1 := by
  have hb := two_le_pow (W := W) (by omega)
  have hb0 : 0 < 2 ^ W := by omega
  have hs0 : 0 < 2 ^ (W - L) := Nat.pow_pos (by omega)
  have hlt := lt_pow_dlen hb y
  rw [hsz] at hlt
  have e := div_pow_succ (2 ^ W) y (sz + 1)
  rw [Nat.div_eq_of_lt hlt] at e
  simp only [Nat.mul_zero, Nat.add_zero] at e
  have e1 := Nat.div_add_mod y ((2 ^ W) ^ (sz + 1))
  have e2 := Nat.mod_lt y (show 0 < (2 ^ W) ^ (sz + 1) from Nat.pow_pos hb0)
  rw [e] at e1
  have hx := lt_pow_dlen hb x
  have hdx : sz + 2 ≤ dlen (2 ^ W) x := by
    refine Nat.le_of_not_lt fun q => ?_
    have := dlen_lt hb (x := x) (y := y) (by omega)
    omega
  have eW : 2 ^ L * 2 ^ (W - L) = 2 ^ W := by rw [← Nat.pow_add]; congr 1; omega
  have hmono : ∀ z, z ≤ z * 2 ^ (W - L) := fun z => Nat.le_mul_of_pos_right _ hs0
  have hup : y * 2 ^ (W - L) < (2 ^ W) ^ (sz + 2) := by
    have q1 : y < 2 ^ L * (2 ^ W) ^ (sz + 1) := by
      have q2 : (dg (2 ^ W) y (sz + 1) + 1) * (2 ^ W) ^ (sz + 1) ≤ 2 ^ L * (2 ^ W) ^ (sz + 1) := Nat.mul_le_mul_right _ h1
      have q5 : (dg (2 ^ W) y (sz + 1) + 1) * (2 ^ W) ^ (sz + 1) = (2 ^ W) ^ (sz + 1) * dg (2 ^ W) y (sz + 1) + (2 ^ W) ^ (sz + 1) := by rw [Nat.add_mul, Nat.one_mul, Nat.mul_comm]
      rw [q5] at q2
      generalize (2 ^ W) ^ (sz + 1) = P at *
      generalize 2 ^ L * P = P2 at *
      have e3 : P * dg (2 ^ W) y (sz + 1) + y % P < P * dg (2 ^ W) y (sz + 1) + P := Nat.add_lt_add_left e2 _
      rw [e1] at e3
      exact Nat.lt_of_lt_of_le e3 q2
    have q3 : y * 2 ^ (W - L) < 2 ^ L * (2 ^ W) ^ (sz + 1) * 2 ^ (W - L) := Nat.mul_lt_mul_of_pos_right q1 hs0
    have q4 : 2 ^ L * (2 ^ W) ^ (sz + 1) * 2 ^ (W - L) = (2 ^ W) ^ (sz + 2) := by
      rw [Nat.pow_succ (2 ^ W) (sz + 1)]
      conv => rhs; rhs; rw [← eW]
      generalize (2 ^ W) ^ (sz + 1) = z
      grind
    omega
  have hlo : 2 ^ (W - L) * (2 ^ W) ^ (sz + 1) ≤ y * 2 ^ (W - L) := by
    rw [Nat.mul_comm]
    refine Nat.mul_le_mul_right _ ?_
    have q1 : (2 ^ W) ^ (sz + 1) * 1 ≤ (2 ^ W) ^ (sz + 1) * dg (2 ^ W) y (sz + 1) := Nat.mul_le_mul_left _ h0
    rw [Nat.mul_one] at q1
    exact Nat.le_trans q1 (Nat.le.intro e1)
  refine ⟨?_, by omega, ?_, ?_⟩
  · have q1 := dlen_le hb hup
    have q2 : ¬ dlen (2 ^ W) (y * 2 ^ (W - L)) < dlen (2 ^ W) y := fun q => by
      have := dlen_lt hb q
      have := hmono y
      omega
    omega
  · have q1 : 2 ^ (W - L) * (2 ^ W) ^ (sz + 1) * (2 ^ W) ^ (dlen (2 ^ W) x + 1 - (sz + 2)) ≤ y * 2 ^ (W - L) * (2 ^ W) ^ (dlen (2 ^ W) x + 1 - (sz + 2)) := Nat.mul_le_mul_right _ hlo
    have q2 : 2 ^ (W - L) * (2 ^ W) ^ (sz + 1) * (2 ^ W) ^ (dlen (2 ^ W) x + 1 - (sz + 2)) = 2 ^ (W - L) * (2 ^ W) ^ dlen (2 ^ W) x := by
      rw [Nat.mul_assoc, ← Nat.pow_add]; congr 2; omega
    have q3 : x * 2 ^ (W - L) < (2 ^ W) ^ dlen (2 ^ W) x * 2 ^ (W - L) := Nat.mul_lt_mul_of_pos_right hx hs0
    rw [Nat.mul_comm ((2 ^ W) ^ dlen (2 ^ W) x)] at q3
    omega
  · refine dlen_le hb ?_
    rw [Nat.pow_succ]
    have q1 : x * 2 ^ (W - L) < (2 ^ W) ^ dlen (2 ^ W) x * 2 ^ (W - L) := Nat.mul_lt_mul_of_pos_right hx hs0
    have q2 : (2 ^ W) ^ dlen (2 ^ W) x * 2 ^ (W - L) ≤ (2 ^ W) ^ dlen (2 ^ W) x * 2 ^ W := Nat.mul_le_mul_left _ (Nat.pow_le_pow_right (by omega) (by omega))
    omega
theorem row_append_zeros {b x k : Nat} (hb : 2 ≤ b) (h : dlen b x ≤ k) : row b x ++ List.replicate (k - dlen b x) 0 = digs b x k := by
  obtain ⟨d, rfl⟩ := Nat.exists_eq_add_of_le h
  rw [Nat.add_sub_cancel_left]
  have hx := lt_pow_dlen hb x
  unfold row
  generalize dlen b x = e at *
  induction d with
  | zero => simp
  | succ d ih =>
    rw [List.replicate_succ', ← List.append_assoc, ih (by omega), ← Nat.add_assoc, digs_succ, dg_zero (by omega) hx (by omega)]; rfl
/-! what the walk of `jacobi` asks of the symbol -/
def tsign (k n : Nat) : Int := if k % 2 = 1 ∧ (n % 8 = 3 ∨ n % 8 = 5) then -1 else 1
def qsign (m n : Nat) : Int := if m % 4 = 3 ∧ n % 4 = 3 then -1 else 1
structure JLaws (S : Nat → Nat → Int) : Prop where
  mod : ∀ x n, n % 2 = 1 → S (x % n) n = S x n
  two : ∀ k m n, n % 2 = 1 → S (2 ^ k * m) n = tsign k n * S m n
  recip : ∀ m n, m % 2 = 1 → n % 2 = 1 → S m n = qsign m n * S n m
  zero : ∀ n, n % 2 = 1 → S 0 n = if n = 1 then 1 else 0
theorem row_one {b : Nat} (hb : 2 ≤ b) : row b 1 = [1] := by
  rw [row, dlen_pos hb (by omega), Nat.div_eq_of_lt (by omega), dlen_zero, digs_succ]
  unfold dg
  rw [Nat.pow_zero, Nat.div_one, Nat.mod_eq_of_lt (by omega)]; rfl
theorem row_pos {b x : Nat} (hb : 2 ≤ b) : 0 < (row b x).length ↔ 0 < x := by
  rw [row_len]
  have := dlen_eq_zero hb (x := x)
  omega
end Mine
namespace Mine
/-! products and sums over 1..k -/
def pd (f : Nat → Int) : Nat → Int
  | 0 => 1
  | k + 1 => pd f k * f (k + 1)
def smN (f : Nat → Nat) : Nat → Nat
  | 0 => 0
  | k + 1 => smN f k + f (k + 1)
def prodL (l : List Int) : Int := l.foldr (· * ·) 1
theorem prodL_append (l : List Int) (x : Int) : prodL (l ++ [x]) = prodL l * x := by
  induction l with
  | nil => simp [prodL]
  | cons a l ih =>
    simp only [prodL, List.cons_append, List.foldr_cons] at ih ⊢
    rw [ih, Int.mul_assoc]
theorem prodL_perm {l m : List Int} (h : l.Perm m) : prodL l = prodL m := by
  induction h with
  | nil => rfl
  | cons x _ ih => simp only [prodL, List.foldr_cons] at ih ⊢; rw [ih]
  | swap x y l => simp only [prodL, List.foldr_cons]; rw [← Int.mul_assoc, ← Int.mul_assoc, Int.mul_comm x y]
  | trans _ _ h1 h2 => rw [h1, h2]
theorem pd_list (f : Nat → Int) (k : Nat) : pd f k = prodL ((List.range' 1 k).map f) := by
  induction k with
  | zero => rfl
  | succ k ih => rw [pd, ih, List.range'_1_concat, List.map_append, List.map_cons, List.map_nil, prodL_append, Nat.add_comm 1 k]
theorem perm_of {l m : List Nat} (hl : l.Nodup) (hs : ∀ x ∈ l, x ∈ m) (hlen : m.length ≤ l.length) : l.Perm m := by
  induction l generalizing m with
  | nil =>
    have : m = [] := List.eq_nil_of_length_eq_zero (by simpa using hlen)
    subst this; exact .nil
  | cons a l ih =>
    have ham := hs a (.head _)
    have hn := List.nodup_cons.mp hl
    have h1 : ∀ x ∈ l, x ∈ m.erase a := fun x hx => (List.mem_erase_of_ne (fun e => by subst e; exact hn.1 hx)).mpr (hs x (.tail _ hx))
    have h2 : (m.erase a).length ≤ l.length := by rw [List.length_erase_of_mem ham]; simp at hlen; omega
    exact ((ih hn.2 h1 h2).cons a).trans (List.perm_cons_erase ham).symm
theorem nodup_map_inj {σ : Nat → Nat} {l : List Nat} (hl : l.Nodup) (hi : ∀ i ∈ l, ∀ j ∈ l, σ i = σ j → i = j) : (l.map σ).Nodup := by
  induction l with
  | nil => simp
  | cons a l ih =>
    have hn := List.nodup_cons.mp hl
    rw [List.map_cons, List.nodup_cons]
    refine ⟨fun h => ?_, ih hn.2 fun i hi' j hj' => hi i (.tail _ hi') j (.tail _ hj')⟩
    obtain ⟨b, hb, e⟩ := List.mem_map.mp h
    have hba := hi b (.tail _ hb) a (.head _) e
    subst hba
    exact hn.1 hb
theorem pd_perm {f : Nat → Int} {σ : Nat → Nat} {k : Nat} (hr : ∀ i, 1 ≤ i → i ≤ k → 1 ≤ σ i ∧ σ i ≤ k) (hi : ∀ i j, 1 ≤ i → i ≤ k → 1 ≤ j → j ≤ k → σ i = σ j → i = j) :
    pd (fun i => f (σ i)) k = pd f k := by
  rw [pd_list, pd_list]
  have h : ((List.range' 1 k).map σ).Perm (List.range' 1 k) := by
    refine perm_of (nodup_map_inj List.nodup_range' fun i h1 j h2 e => ?_) (fun x hx => ?_) (by simp)
    · rw [List.mem_range'_1] at h1 h2
      exact hi i j h1.1 (by omega) h2.1 (by omega) e
    · obtain ⟨i, h1, rfl⟩ := List.mem_map.mp hx
      rw [List.mem_range'_1] at h1 ⊢
      have := hr i h1.1 (by omega)
      omega
  have := prodL_perm (h.map f)
  rw [List.map_map] at this
  exact this
theorem pd_congr {f g : Nat → Int} {k : Nat} (h : ∀ i, 1 ≤ i → i ≤ k → f i = g i) : pd f k = pd g k := by
  induction k with
  | zero => rfl
  | succ k ih => rw [pd, pd, ih (fun i h1 h2 => h i h1 (by omega)), h (k + 1) (by omega) (by omega)]
theorem pd_mul (f g : Nat → Int) (k : Nat) : pd (fun i => f i * g i) k = pd f k * pd g k := by
  induction k with
  | zero => rfl
  | succ k ih => rw [pd, pd, pd, ih]; grind
theorem smN_congr {f g : Nat → Nat} {k : Nat} (h : ∀ i, 1 ≤ i → i ≤ k → f i = g i) : smN f k = smN g k := by
  induction k with
  | zero => rfl
  | succ k ih => rw [smN, smN, ih (fun i h1 h2 => h i h1 (by omega)), h (k + 1) (by omega) (by omega)]
theorem smN_add (f g : Nat → Nat) (k : Nat) : smN (fun i => f i + g i) k = smN f k + smN g k := by
  induction k with
  | zero => rfl
  | succ k ih => rw [smN, smN, smN, ih]; omega
theorem smN_const (c k : Nat) : smN (fun _ => c) k = k * c := by
  induction k with
  | zero => simp [smN]
  | succ k ih => rw [smN, ih, Nat.add_mul, Nat.one_mul]
theorem smN_swap (f : Nat → Nat → Nat) (h k : Nat) : smN (fun i => smN (fun j => f i j) k) h = smN (fun j => smN (fun i => f i j) h) k := by
  induction h with
  | zero =>
    have := smN_const 0 k
    rw [Nat.mul_zero] at this
    exact this.symm
  | succ h ih =>
    rw [smN, ih, ← smN_add]; rfl
/-! (-1)^e -/
def mone (e : Nat) : Int := if e % 2 = 0 then 1 else -1
theorem mone_add (a b : Nat) : mone (a + b) = mone a * mone b := by
  unfold mone
  rcases Nat.mod_two_eq_zero_or_one a with h1 | h1 <;> rcases Nat.mod_two_eq_zero_or_one b with h2 | h2 <;> simp [Nat.add_mod, h1, h2]
theorem mone_sq (a : Nat) : mone a * mone a = 1 := by
  unfold mone; split <;> decide
theorem mone_congr {a b : Nat} (h : a % 2 = b % 2) : mone a = mone b := by unfold mone; rw [h]
theorem pd_mone (f : Nat → Nat) (k : Nat) : pd (fun i => mone (f i)) k = mone (smN f k) := by
  induction k with
  | zero => rfl
  | succ k ih => rw [pd, smN, ih, mone_add]
theorem pd_neg (f : Nat → Int) (k : Nat) : pd (fun i => - f i) k = mone k * pd f k := by
  induction k with
  | zero => rfl
  | succ k ih =>
    rw [pd, pd, ih, mone_add]
    have : mone 1 = -1 := rfl
    rw [this]; grind
/-! least residues -/
def sg (n r : Nat) : Int := if 2 * r < n then 1 else -1
def ab (n r : Nat) : Nat := if 2 * r < n then r else n - r
def Gs (a n : Nat) : Int := pd (fun i => sg n (a * i % n)) (n / 2)
def Sym (a n : Nat) : Int := if Nat.gcd a n = 1 then Gs a n else 0
theorem sg_or (n r : Nat) : sg n r = 1 ∨ sg n r = -1 := by
  unfold sg; split
  · exact .inl rfl
  · exact .inr rfl
theorem sg_neg {n r s : Nat} (hn : n % 2 = 1) (h : r + s = n) : sg n r = - sg n s := by
  unfold sg
  by_cases h1 : 2 * r < n
  · rw [if_pos h1, if_neg (by omega)]; rfl
  · rw [if_neg h1, if_pos (by omega)]
theorem res_pos {a n i : Nat} (hg : Nat.gcd a n = 1) (h1 : 1 ≤ i) (h2 : i < n) : 0 < a * i % n := by
  refine Nat.pos_of_ne_zero fun h => ?_
  have hd : n ∣ a * i := Nat.dvd_of_mod_eq_zero h
  have := Nat.Coprime.dvd_of_dvd_mul_left (k := n) (m := a) (n := i) (by rw [Nat.Coprime, Nat.gcd_comm]; exact hg) hd
  exact absurd (Nat.le_of_dvd h1 this) (by omega)
theorem ab_range {a n i : Nat} (hn : n % 2 = 1) (hg : Nat.gcd a n = 1) (h1 : 1 ≤ i) (h2 : i ≤ n / 2) : 1 ≤ ab n (a * i % n) ∧ ab n (a * i % n) ≤ n / 2 := by
  have h3 := res_pos hg h1 (show i < n by omega)
  have h4 : a * i % n < n := Nat.mod_lt _ (by omega)
  unfold ab
  split <;> omega
theorem sum_dvd {n r s X Y : Nat} (hX : r = X % n) (hY : s = Y % n) (h : r + s = n) : n ∣ X + Y := by
  have h1 := Nat.div_add_mod X n
  have h2 := Nat.div_add_mod Y n
  refine ⟨X / n + Y / n + 1, ?_⟩
  rw [Nat.mul_add, Nat.mul_add, Nat.mul_one]
  omega
theorem ab_inj {a n i j : Nat} (hn : n % 2 = 1) (hg : Nat.gcd a n = 1) (h1 : 1 ≤ i) (h2 : i ≤ n / 2) (h3 : 1 ≤ j) (h4 : j ≤ n / 2) (e : ab n (a * i % n) = ab n (a * j % n)) : i = j := by
  have hc : Nat.Coprime n a := by rw [Nat.Coprime, Nat.gcd_comm]; exact hg
  have r1 : a * i % n < n := Nat.mod_lt _ (by omega)
  have r2 : a * j % n < n := Nat.mod_lt _ (by omega)
  have key : a * i % n = a * j % n ∨ a * i % n + a * j % n = n := by
    unfold ab at e
    split at e <;> split at e <;> omega
  rcases key with k | k
  · rcases Nat.le_total i j with hij | hij
    · have hd : n ∣ a * (j - i) := by
        rw [Nat.mul_sub]
        exact Nat.dvd_of_mod_eq_zero (Nat.sub_mod_eq_zero_of_mod_eq k.symm)
      have h5 := hc.dvd_of_dvd_mul_left hd
      by_cases hz : j - i = 0
      · omega
      · exact absurd (Nat.le_of_dvd (by omega) h5) (by omega)
    · have hd : n ∣ a * (i - j) := by
        rw [Nat.mul_sub]
        exact Nat.dvd_of_mod_eq_zero (Nat.sub_mod_eq_zero_of_mod_eq k)
      have h5 := hc.dvd_of_dvd_mul_left hd
      by_cases hz : i - j = 0
      · omega
      · exact absurd (Nat.le_of_dvd (by omega) h5) (by omega)
  · have hd : n ∣ a * (i + j) := by
      rw [Nat.mul_add]; exact sum_dvd rfl rfl k
    have h5 := hc.dvd_of_dvd_mul_left hd
    exact absurd (Nat.le_of_dvd (by omega) h5) (by omega)
theorem Gs_congr {a b n : Nat} (h : a % n = b % n) : Gs a n = Gs b n := by
  unfold Gs
  refine pd_congr fun i _ _ => ?_
  rw [Nat.mul_mod, h, ← Nat.mul_mod]
theorem gcd_congr {a b n : Nat} (h : a % n = b % n) : Nat.gcd a n = Nat.gcd b n := by
  rw [Nat.gcd_comm a, Nat.gcd_comm b, Nat.gcd_rec n a, Nat.gcd_rec n b, h]
theorem Sym_congr {a b n : Nat} (h : a % n = b % n) : Sym a n = Sym b n := by
  unfold Sym
  have h1 := gcd_congr h
  by_cases q : Nat.gcd a n = 1
  · rw [if_pos q, if_pos (h1 ▸ q), Gs_congr h]
  · rw [if_neg q, if_neg (h1 ▸ q)]
theorem Sym_zero (n : Nat) : Sym 0 n = if n = 1 then 1 else 0 := by
  unfold Sym
  by_cases h : n = 1
  · subst h; rfl
  · rw [if_neg (by rw [Nat.gcd_zero_left]; exact h), if_neg h]
/-- the sign of the negative -/
theorem Gs_neg {a b n : Nat} (hn : n % 2 = 1) (hg : Nat.gcd a n = 1) (h : n ∣ a + b) : Gs a n = mone (n / 2) * Gs b n := by
  unfold Gs
  rw [← pd_neg]
  refine pd_congr fun i h1 h2 => sg_neg hn ?_
  have r0 := res_pos hg h1 (show i < n by omega)
  have r1 : a * i % n < n := Nat.mod_lt _ (by omega)
  have r2 : b * i % n < n := Nat.mod_lt _ (by omega)
  have hd : (a * i + b * i) % n = 0 := by
    rw [← Nat.add_mul]
    exact Nat.mod_eq_zero_of_dvd (Nat.dvd_trans h (Nat.dvd_mul_right _ _))
  rw [Nat.add_mod] at hd
  have h3 : a * i % n + b * i % n < 2 * n := by omega
  have h4 := Nat.dvd_of_mod_eq_zero hd
  obtain ⟨c, hc⟩ := h4
  have : c = 1 := by
    rcases c with _ | _ | c
    · omega
    · rfl
    · exfalso
      have : n * (c + 1 + 1) = n * c + 2 * n := by grind
      omega
  subst this
  omega
theorem gcd_neg {a b n : Nat} (h : n ∣ a + b) : Nat.gcd a n = Nat.gcd b n := by
  have key : ∀ a b : Nat, n ∣ a + b → Nat.gcd a n ∣ Nat.gcd b n := fun a b h => by
    refine Nat.dvd_gcd ?_ (Nat.gcd_dvd_right _ _)
    exact (Nat.dvd_add_right (Nat.gcd_dvd_left a n)).mp (Nat.dvd_trans (Nat.gcd_dvd_right a n) h)
  exact Nat.dvd_antisymm (key a b h) (key b a (Nat.add_comm a b ▸ h))
theorem Sym_neg {a b n : Nat} (hn : n % 2 = 1) (h : n ∣ a + b) : Sym a n = mone (n / 2) * Sym b n := by
  unfold Sym
  have h1 := gcd_neg h
  by_cases q : Nat.gcd a n = 1
  · rw [if_pos q, if_pos (h1 ▸ q), Gs_neg hn q h]
  · rw [if_neg q, if_neg (h1 ▸ q), Int.mul_zero]
/-- the product above -/
theorem Gs_mul {a b n : Nat} (hn : n % 2 = 1) (ha : Nat.gcd a n = 1) (hb : Nat.gcd b n = 1) : Gs (a * b) n = Gs a n * Gs b n := by
  have key : ∀ i, 1 ≤ i → i ≤ n / 2 → sg n (a * b * i % n) = sg n (a * ab n (b * i % n) % n) * sg n (b * i % n) := by
    intro i h1 h2
    have r0 := res_pos hb h1 (show i < n by omega)
    have r1 : b * i % n < n := Nat.mod_lt _ (by omega)
    have ht := ab_range hn hb h1 h2
    have e0 : a * b * i % n = a * (b * i % n) % n := by rw [Nat.mul_assoc, Nat.mul_mod a (b * i), Nat.mul_mod a (b * i % n), Nat.mod_mod]
    by_cases hs : 2 * (b * i % n) < n
    · have e1 : sg n (b * i % n) = 1 := if_pos hs
      have e2 : ab n (b * i % n) = b * i % n := if_pos hs
      rw [e1, e2, e0, Int.mul_one]
    · have e1 : sg n (b * i % n) = -1 := if_neg hs
      have e2 : ab n (b * i % n) = n - b * i % n := if_neg hs
      rw [e1, e0, Int.mul_neg, Int.mul_one]
      refine sg_neg hn ?_
      have s0 := res_pos ha ht.1 (show ab n (b * i % n) < n by omega)
      have s1 : a * ab n (b * i % n) % n < n := Nat.mod_lt _ (by omega)
      have s2 : a * (b * i % n) % n < n := Nat.mod_lt _ (by omega)
      have hd : (a * (b * i % n) + a * ab n (b * i % n)) % n = 0 := by
        rw [← Nat.mul_add, e2, Nat.add_sub_cancel' (Nat.le_of_lt r1)]
        exact Nat.mul_mod_left _ _
      rw [Nat.add_mod] at hd
      obtain ⟨c, hc⟩ := Nat.dvd_of_mod_eq_zero hd
      have : c = 1 := by
        rcases c with _ | _ | c
        · omega
        · rfl
        · exfalso
          have : n * (c + 1 + 1) = n * c + 2 * n := by grind
          omega
      subst this
      omega
  unfold Gs
  rw [pd_congr key, pd_mul]
  congr 1
  exact pd_perm (f := fun t => sg n (a * t % n)) (σ := fun i => ab n (b * i % n)) (fun i h1 h2 => ab_range hn hb h1 h2) (fun i j h1 h2 h3 h4 e => ab_inj hn hb h1 h2 h3 h4 e)
theorem Sym_mul {a b n : Nat} (hn : n % 2 = 1) : Sym (a * b) n = Sym a n * Sym b n := by
  unfold Sym
  have h : Nat.gcd (a * b) n = 1 ↔ Nat.gcd a n = 1 ∧ Nat.gcd b n = 1 := Nat.coprime_mul_iff_left
  by_cases ha : Nat.gcd a n = 1
  · by_cases hb : Nat.gcd b n = 1
    · rw [if_pos (h.mpr ⟨ha, hb⟩), if_pos ha, if_pos hb, Gs_mul hn ha hb]
    · rw [if_neg (fun q => hb (h.mp q).2), if_neg hb, Int.mul_zero]
  · rw [if_neg (fun q => ha (h.mp q).1), if_neg ha, Int.zero_mul]
/-- two above -/
theorem pd_cut (c : Nat) : ∀ k, pd (fun i => if i ≤ c then 1 else -1) k = mone (k - c) := by
  intro k
  induction k with
  | zero => rw [Nat.zero_sub]; rfl
  | succ k ih =>
    rw [pd, ih]
    by_cases h : k + 1 ≤ c
    · rw [if_pos h, Int.mul_one, show k + 1 - c = k - c by omega]
    · rw [if_neg h, show k + 1 - c = (k - c) + 1 by omega, mone_add]; rfl
theorem Sym_two {n : Nat} (hn : n % 2 = 1) : Sym 2 n = if n % 8 = 3 ∨ n % 8 = 5 then -1 else 1 := by
  unfold Sym
  have hg : Nat.gcd 2 n = 1 := by rw [Nat.gcd_rec, hn]; rfl
  rw [if_pos hg]
  unfold Gs
  have key : ∀ i, 1 ≤ i → i ≤ n / 2 → sg n (2 * i % n) = if i ≤ (n - 1) / 4 then 1 else -1 := by
    intro i h1 h2
    rw [Nat.mod_eq_of_lt (show 2 * i < n by omega)]
    unfold sg
    by_cases h : i ≤ (n - 1) / 4
    · rw [if_pos h, if_pos (by omega)]
    · rw [if_neg h, if_neg (by omega)]
  rw [pd_congr key, pd_cut]
  unfold mone
  by_cases h : n % 8 = 3 ∨ n % 8 = 5
  · rw [if_pos h, if_neg (by omega)]
  · rw [if_neg h, if_pos (by omega)]
theorem Sym_pow2 {n : Nat} (hn : n % 2 = 1) : ∀ k m, Sym (2 ^ k * m) n = tsign k n * Sym m n := by
  intro k
  induction k with
  | zero =>
    intro m
    rw [Nat.pow_zero, Nat.one_mul, show tsign 0 n = 1 from if_neg (by omega), Int.one_mul]
  | succ k ih =>
    intro m
    rw [Nat.pow_succ', Nat.mul_assoc, Sym_mul hn, ih, Sym_two hn, ← Int.mul_assoc]
    congr 1
    unfold tsign
    by_cases h : n % 8 = 3 ∨ n % 8 = 5
    · rw [if_pos h]
      by_cases hk : k % 2 = 1
      · rw [if_pos ⟨hk, h⟩, if_neg (by omega)]; rfl
      · rw [if_neg (fun q => hk q.1), if_pos ⟨by omega, h⟩]; rfl
    · rw [if_neg h, if_neg (fun q => h q.2), if_neg (fun q => h q.2)]; rfl
/-! Eisenstein's count -/
theorem Gs_floor {a n : Nat} (hn : n % 2 = 1) (ha : a % 2 = 1) (hg : Nat.gcd a n = 1) : Gs a n = mone (smN (fun i => a * i / n) (n / 2)) := by
  have key : ∀ i, 1 ≤ i → i ≤ n / 2 → mone i = (mone (a * i / n) * mone (ab n (a * i % n))) * sg n (a * i % n) := by
    intro i h1 h2
    have r1 : a * i % n < n := Nat.mod_lt _ (by omega)
    have hd := Nat.div_add_mod (a * i) n
    have hai : (a * i) % 2 = i % 2 := by rw [Nat.mul_mod, ha, Nat.one_mul, Nat.mod_mod]
    have hnq : (n * (a * i / n)) % 2 = (a * i / n) % 2 := by rw [Nat.mul_mod, hn, Nat.one_mul, Nat.mod_mod]
    generalize a * i / n = q at *
    generalize a * i % n = r at *
    generalize n * q = nq at *
    generalize a * i = ai at *
    unfold sg ab
    rw [← mone_add]
    by_cases h : 2 * r < n
    · rw [if_pos h, if_pos h, Int.mul_one]
      exact mone_congr (by omega)
    · rw [if_neg h, if_neg h]
      have e : mone (q + (n - r)) * -1 = mone (q + (n - r) + 1) := by rw [mone_add (q + (n - r)) 1]; rfl
      rw [e]
      exact mone_congr (by omega)
  have h1 : pd mone (n / 2) = pd (fun i => (mone (a * i / n) * mone (ab n (a * i % n))) * sg n (a * i % n)) (n / 2) := pd_congr key
  rw [pd_mul, pd_mul, pd_perm (f := mone) (σ := fun i => ab n (a * i % n)) (fun i h1 h2 => ab_range hn hg h1 h2) (fun i j h1 h2 h3 h4 e => ab_inj hn hg h1 h2 h3 h4 e), pd_mone (fun i => a * i / n)] at h1
  have h2 : pd mone (n / 2) * pd mone (n / 2) = 1 := by rw [pd_mone (fun i => i), mone_sq]
  have h3 := mone_sq (smN (fun i => a * i / n) (n / 2))
  show pd (fun i => sg n (a * i % n)) (n / 2) = _
  generalize pd (fun i => sg n (a * i % n)) (n / 2) = g at *
  generalize pd mone (n / 2) = m at *
  generalize mone (smN (fun i => a * i / n) (n / 2)) = q at *
  have h4 : m * m = q * m * g * m := by rw [← h1]
  have h5 : 1 = q * g := by grind
  grind
theorem count_le (n X : Nat) (hn : 0 < n) : ∀ k, smN (fun j => if n * j ≤ X then 1 else 0) k = min k (X / n) := by
  intro k
  induction k with
  | zero => simp [smN]
  | succ k ih =>
    rw [smN, ih]
    have h : n * (k + 1) ≤ X ↔ k + 1 ≤ X / n := by rw [Nat.le_div_iff_mul_le hn, Nat.mul_comm]
    by_cases q : n * (k + 1) ≤ X
    · rw [if_pos q]; have := h.mp q; omega
    · rw [if_neg q]; have := fun r => q (h.mpr r); omega
theorem lattice {m n : Nat} (hm : m % 2 = 1) (hn : n % 2 = 1) (hg : Nat.gcd m n = 1) :
    smN (fun i => m * i / n) (n / 2) + smN (fun j => n * j / m) (m / 2) = n / 2 * (m / 2) := by
  have c1 : ∀ i, 1 ≤ i → i ≤ n / 2 → m * i / n = smN (fun j => if n * j ≤ m * i then 1 else 0) (m / 2) := by
    intro i h1 h2
    rw [count_le n (m * i) (by omega)]
    have : m * i / n ≤ m / 2 := by
      have h3 : 2 * i ≤ n := by omega
      have h4 : 2 * (m * i) ≤ m * n := by
        have := Nat.mul_le_mul_left m h3
        have e : m * (2 * i) = 2 * (m * i) := by grind
        omega
      have h5 : m * i / n * n ≤ m * i := Nat.div_mul_le_self _ _
      have h6 : 2 * (m * i / n) * n ≤ m * n := by
        have e : 2 * (m * i / n) * n = 2 * (m * i / n * n) := by grind
        omega
      have := Nat.le_of_mul_le_mul_right h6 (by omega)
      omega
    omega
  have c2 : ∀ j, 1 ≤ j → j ≤ m / 2 → n * j / m = smN (fun i => if m * i ≤ n * j then 1 else 0) (n / 2) := by
    intro j h1 h2
    rw [count_le m (n * j) (by omega)]
    have : n * j / m ≤ n / 2 := by
      have h3 : 2 * j ≤ m := by omega
      have h4 : 2 * (n * j) ≤ n * m := by
        have := Nat.mul_le_mul_left n h3
        have e : n * (2 * j) = 2 * (n * j) := by grind
        omega
      have h5 : n * j / m * m ≤ n * j := Nat.div_mul_le_self _ _
      have h6 : 2 * (n * j / m) * m ≤ n * m := by
        have e : 2 * (n * j / m) * m = 2 * (n * j / m * m) := by grind
        omega
      have := Nat.le_of_mul_le_mul_right h6 (by omega)
      omega
    omega
  rw [smN_congr c1, smN_congr c2, smN_swap (fun j i => if m * i ≤ n * j then 1 else 0) (m / 2) (n / 2), ← smN_add, ← smN_const (m / 2) (n / 2)]
  refine smN_congr fun i h1 h2 => ?_
  show smN (fun j => if n * j ≤ m * i then 1 else 0) (m / 2) + smN (fun j => if m * i ≤ n * j then 1 else 0) (m / 2) = _
  rw [← smN_add]
  have : smN (fun _ => 1) (m / 2) = m / 2 * 1 := smN_const 1 (m / 2)
  rw [Nat.mul_one] at this
  refine Eq.trans (smN_congr (g := fun _ => 1) fun j h3 h4 => ?_) this
  have hne : n * j ≠ m * i := fun e => by
    have hd : n ∣ m * i := ⟨j, e.symm⟩
    have hc : Nat.Coprime n m := by rw [Nat.Coprime, Nat.gcd_comm]; exact hg
    exact absurd (Nat.le_of_dvd (by omega) (hc.dvd_of_dvd_mul_left hd)) (by omega)
  by_cases h : n * j ≤ m * i
  · rw [if_pos h, if_neg (by omega)]
  · rw [if_neg h, if_pos (by omega)]
theorem Sym_recip {m n : Nat} (hm : m % 2 = 1) (hn : n % 2 = 1) : Sym m n = qsign m n * Sym n m := by
  unfold Sym
  by_cases hg : Nat.gcd m n = 1
  · have hg' : Nat.gcd n m = 1 := by rw [Nat.gcd_comm]; exact hg
    rw [if_pos hg, if_pos hg', Gs_floor hn hm hg, Gs_floor hm hn hg']
    have h := congrArg mone (lattice hm hn hg)
    rw [mone_add] at h
    have hq : qsign m n = mone (n / 2 * (m / 2)) := by
      unfold qsign mone
      by_cases q : m % 4 = 3 ∧ n % 4 = 3
      · rw [if_pos q, if_neg]
        rw [Nat.mul_mod, show n / 2 % 2 = 1 by omega, show m / 2 % 2 = 1 by omega]; decide
      · rw [if_neg q, if_pos]
        have : n / 2 % 2 = 0 ∨ m / 2 % 2 = 0 := by omega
        rw [Nat.mul_mod]
        rcases this with h | h <;> rw [h] <;> simp
    have hs := mone_sq (smN (fun j => n * j / m) (m / 2))
    rw [hq, ← h]
    grind
  · have hg' : ¬ Nat.gcd n m = 1 := by rw [Nat.gcd_comm]; exact hg
    rw [if_neg hg, if_neg hg', Int.mul_zero]
theorem Sym_laws : JLaws Sym where
  mod := fun x n _ => Sym_congr (Nat.mod_mod x n)
  two := fun k m _ h => Sym_pow2 h k m
  recip := fun _ _ hm hn => Sym_recip hm hn
  zero := fun n _ => Sym_zero n
/-- the product below -/
theorem Sym_below {z p n : Nat} (hp : p % 2 = 1) (hn : n % 2 = 1) : Sym z (p * n) = Sym z p * Sym z n := by
  have hpn : (p * n) % 2 = 1 := by rw [Nat.mul_mod, hp, hn]
  have key : ∀ z, z % 2 = 1 → Sym z (p * n) = Sym z p * Sym z n := by
    intro z hz
    rw [Sym_recip hz hpn, Sym_recip hz hp, Sym_recip hz hn, Sym_mul hz]
    have hq : qsign z (p * n) = qsign z p * qsign z n := by
      unfold qsign
      have h4 : (p * n) % 4 = (p % 4) * (n % 4) % 4 := Nat.mul_mod _ _ _
      have hp4 : p % 4 = 1 ∨ p % 4 = 3 := by omega
      have hn4 : n % 4 = 1 ∨ n % 4 = 3 := by omega
      by_cases h : z % 4 = 3
      · rcases hp4 with h1 | h1 <;> rcases hn4 with h2 | h2 <;> simp [h, h4, h1, h2]
      · simp [h]
    rw [hq]
    grind
  by_cases hz : z % 2 = 1
  · exact key z hz
  · have h1 := key (z + p * n) (by omega)
    have e1 : Sym (z + p * n) (p * n) = Sym z (p * n) := Sym_congr (by rw [Nat.add_mod_right])
    have e2 : Sym (z + p * n) p = Sym z p := Sym_congr (by rw [Nat.add_mul_mod_self_left])
    have e3 : Sym (z + p * n) n = Sym z n := Sym_congr (by rw [Nat.add_mul_mod_self_right])
    rw [e1, e2, e3] at h1
    exact h1
/-! Euler's criterion -/
theorem pd_dvd {p : Int} {f g : Nat → Int} {k : Nat} (h : ∀ i, 1 ≤ i → i ≤ k → p ∣ f i - g i) : p ∣ pd f k - pd g k := by
  induction k with
  | zero => rw [pd, pd, Int.sub_self]; exact Int.dvd_zero _
  | succ k ih =>
    rw [pd, pd]
    have h1 := ih fun i h1 h2 => h i h1 (by omega)
    have h2 := h (k + 1) (by omega) (by omega)
    have e : pd f k * f (k + 1) - pd g k * g (k + 1) = (pd f k - pd g k) * f (k + 1) + pd g k * (f (k + 1) - g (k + 1)) := by grind
    rw [e]
    exact Int.dvd_add (Int.dvd_trans h1 (Int.dvd_mul_right _ _)) (Int.dvd_trans h2 (Int.dvd_mul_left _ _))
theorem pd_cancel {p : Nat} {X : Int} {k : Nat} (h : ∀ i, 1 ≤ i → i ≤ k → Nat.gcd p i = 1) (hd : (p : Int) ∣ X * pd (fun i => (i : Int)) k) : (p : Int) ∣ X := by
  induction k with
  | zero => rwa [pd, Int.mul_one] at hd
  | succ k ih =>
    refine ih (fun i h1 h2 => h i h1 (by omega)) ?_
    rw [pd, ← Int.mul_assoc, Int.ofNat_dvd_left, Int.natAbs_mul, Int.natAbs_natCast] at hd
    rw [Int.ofNat_dvd_left]
    exact Nat.Coprime.dvd_of_dvd_mul_right (show Nat.Coprime p (k + 1) from h (k + 1) (by omega) (by omega)) hd
theorem pd_pow (a : Int) (k : Nat) : pd (fun i => a * (i : Int)) k = a ^ k * pd (fun i => (i : Int)) k := by
  induction k with
  | zero => simp [pd]
  | succ k ih => rw [pd, pd, ih, Int.pow_succ]; grind
theorem euler {a p : Nat} (hp : p % 2 = 1) (hp3 : 3 ≤ p) (hpr : ∀ q, 2 ≤ q → q ∣ p → q = p) (hg : Nat.gcd a p = 1) : (p : Int) ∣ (a : Int) ^ (p / 2) - Gs a p := by
  refine pd_cancel (k := p / 2) (fun i h1 h2 => ?_) ?_
  · by_cases h : 2 ≤ Nat.gcd p i
    · have h3 := hpr _ h (Nat.gcd_dvd_left p i)
      have h4 := Nat.le_of_dvd h1 (Nat.gcd_dvd_right p i)
      omega
    · have := Nat.gcd_pos_of_pos_left i (show 0 < p by omega)
      omega
  · rw [Int.sub_mul, ← pd_pow]
    have e : Gs a p * pd (fun i => (i : Int)) (p / 2) = pd (fun i => sg p (a * i % p) * ((ab p (a * i % p) : Nat) : Int)) (p / 2) := by
      rw [pd_mul, pd_perm (f := fun i => (i : Int)) (σ := fun i => ab p (a * i % p)) (fun i h1 h2 => ab_range hp hg h1 h2) (fun i j h1 h2 h3 h4 e => ab_inj hp hg h1 h2 h3 h4 e)]; rfl
    rw [e]
    refine pd_dvd fun i h1 h2 => ?_
    have hd := Nat.div_add_mod (a * i) p
    have r1 : a * i % p < p := Nat.mod_lt _ (by omega)
    have hd' : (p : Int) * ((a * i / p : Nat) : Int) + ((a * i % p : Nat) : Int) = (a : Int) * i := by exact_mod_cast hd
    generalize a * i / p = q at *
    generalize a * i % p = r at *
    unfold sg ab
    by_cases h : 2 * r < p
    · rw [if_pos h, if_pos h, Int.one_mul, ← hd', Int.add_sub_cancel]
      exact Int.dvd_mul_right _ _
    · rw [if_neg h, if_neg h, ← hd', Int.ofNat_sub (by omega)]
      refine ⟨(q : Int) + 1, ?_⟩
      grind
/-- what `kronecker` gives for signs `bx`, `by_` and numbers `x`, `y` -/
def KronIs (S : Nat → Nat → Int) (bx : Bool) (x : Nat) (by_ : Bool) (y : Nat) (v : Int) : Prop :=
  (y = 0 → v = if x = 1 then 1 else 0) ∧ (0 < y → x % 2 = 0 → y % 2 = 0 → v = 0) ∧
  ∀ k m, y = 2 ^ k * (2 * m + 1) → (x % 2 = 1 ∨ y % 2 = 1) → v = (if bx = true ∧ by_ = true then -1 else 1) * tsign k x * (if bx = true ∧ (2 * m + 1) % 4 = 3 then -1 else 1) * S x (2 * m + 1)
theorem two_adic {k m k' m' : Nat} (h : 2 ^ k * (2 * m + 1) = 2 ^ k' * (2 * m' + 1)) : k = k' ∧ m = m' := by
  induction k generalizing k' with
  | zero =>
    rcases k' with _ | k'
    · rw [Nat.pow_zero] at h; omega
    · exfalso; rw [Nat.pow_succ', Nat.mul_assoc] at h; generalize 2 ^ k' * (2 * m' + 1) = z at h; omega
  | succ k ih =>
    rcases k' with _ | k'
    · exfalso; rw [Nat.pow_succ', Nat.mul_assoc] at h; generalize 2 ^ k * (2 * m + 1) = z at h; omega
    · rw [Nat.pow_succ', Nat.pow_succ', Nat.mul_assoc, Nat.mul_assoc] at h
      have := ih (Nat.eq_of_mul_eq_mul_left (by omega) h)
      omega
theorem kron_fin {S : Nat → Nat → Int} {bx by_ : Bool} {x y k m : Nat} {f v e : Int} (ey : y = 2 ^ k * (2 * m + 1)) (hy0 : 0 < y) (hodd : x % 2 = 1 ∨ y % 2 = 1) (hf : f = if bx = true ∧ by_ = true then -1 else 1) (hv : v = S x (2 * m + 1))
    (he : e = f * tsign k x * (if bx = true ∧ (2 * m + 1) % 4 = 3 then -1 else 1)) : KronIs S bx x by_ y (e * v) := by
  refine ⟨fun h => by omega, fun _ h1 h2 => by omega, fun k' m' e' _ => ?_⟩
  obtain ⟨rfl, rfl⟩ := two_adic (ey.symm.trans e')
  rw [he, hf, hv]
/-- what `_law_over_prime` gives -/
def opv (z : Int) (p : Nat) : Int := if p = 2 then (if z % 2 = 0 then 0 else if z % 8 = 1 ∨ z % 8 = 7 then 1 else -1) else if (z % p) ^ ((p - 1) / 2) % p = (p : Int) - 1 then -1 else (z % p) ^ ((p - 1) / 2) % p
/-- the product over the prime parts -/
inductive Pr (z : Int) : Nat → Int → Prop
  | one : Pr z 1 1
  | mul {p n : Nat} {v : Int} : 2 ≤ p → (∀ q, 2 ≤ q → q ∣ p → q = p) → Pr z n v → Pr z (p * n) (opv z p * v)
/-- what `_law_symbol` gives -/
def SymIs (z n v : Int) : Prop := (n = 0 → v = if z.natAbs = 1 then 1 else 0) ∧ (n ≠ 0 → ∃ u, Pr z n.natAbs u ∧ v = (if z < 0 ∧ n < 0 then -1 else 1) * u)
theorem opv_small {z : Int} {p : Nat} (hp : 2 ≤ p) : (opv z p).natAbs < p + 2 := by
  unfold opv
  split
  · split
    · simp
    · split <;> simp
  · split
    · simp
    · have h1 := Int.emod_nonneg ((z % p) ^ ((p - 1) / 2)) (show (p : Int) ≠ 0 by omega)
      have h2 := Int.emod_lt_of_pos ((z % p) ^ ((p - 1) / 2)) (show (0 : Int) < p by omega)
      omega
theorem least_prime {p n : Nat} (hp : 0 < p) (hd : p ∣ n) (hl : ∀ q, 2 ≤ q → q ∣ n → p ≤ q) : ∀ q, 2 ≤ q → q ∣ p → q = p := fun q h2 hq =>
  Nat.le_antisymm (Nat.le_of_dvd hp hq) (hl q h2 (Nat.dvd_trans hq hd))
theorem past_root {p n : Nat} (h2 : 2 ≤ p) (hn : 0 < n) (hl : ∀ q, 2 ≤ q → q ∣ n → p ≤ q) (hd : ¬ p ∣ n) : (∀ q, 2 ≤ q → q ∣ n → p + 1 ≤ q) ∧ (n < p * p → ∀ q, 2 ≤ q → q ∣ n → n ≤ q) := by
  have h1 : ∀ q, 2 ≤ q → q ∣ n → p + 1 ≤ q := fun q hq hqn => by
    have := hl q hq hqn
    by_cases e : q = p
    · subst e; exact absurd hqn hd
    · omega
  refine ⟨h1, fun hlt q hq hqn => ?_⟩
  obtain ⟨r, hr⟩ := hqn
  have hq1 := h1 q hq ⟨r, hr⟩
  rcases Nat.lt_or_ge r 2 with h | h
  · rcases r with _ | _ | r
    · rw [Nat.mul_zero] at hr; omega
    · rw [Nat.zero_add, Nat.mul_one] at hr; omega
    · omega
  · exfalso
    have hr1 := h1 r h ⟨q, by rw [Nat.mul_comm]; exact hr⟩
    have : (p + 1) * (p + 1) ≤ q * r := Nat.mul_le_mul hq1 hr1
    rw [Nat.add_mul, Nat.mul_add] at this
    omega
/-! the product over the primes is the symbol -/
theorem Sym_one (x : Nat) : Sym x 1 = 1 := by
  unfold Sym
  rw [if_pos (Nat.gcd_one_right x)]; rfl
theorem pd_or {f : Nat → Int} (h : ∀ i, f i = 1 ∨ f i = -1) : ∀ k, pd f k = 1 ∨ pd f k = -1 := by
  intro k
  induction k with
  | zero => exact .inl rfl
  | succ k ih =>
    rw [pd]
    rcases ih with h1 | h1 <;> rcases h (k + 1) with h2 | h2 <;> rw [h1, h2] <;> decide
theorem opv_sym {z : Int} {p : Nat} (hp : p % 2 = 1) (hp3 : 3 ≤ p) (hpr : ∀ q, 2 ≤ q → q ∣ p → q = p) : opv z p = Sym (z % p).toNat p := by
  have hz0 : 0 ≤ z % (p : Int) := Int.emod_nonneg _ (by omega)
  have hz1 : z % (p : Int) < p := Int.emod_lt_of_pos _ (by omega)
  obtain ⟨a, ha⟩ := Int.eq_ofNat_of_zero_le hz0
  unfold opv
  rw [if_neg (by omega), ha, Int.toNat_natCast, show (p - 1) / 2 = p / 2 by omega]
  unfold Sym
  by_cases hg : Nat.gcd a p = 1
  · rw [if_pos hg]
    have he := euler hp hp3 hpr hg
    rcases pd_or (fun i => sg_or p (a * i % p)) (p / 2) with h | h
    · have h' : Gs a p = 1 := h
      rw [h'] at he ⊢
      have h1 : (a : Int) ^ (p / 2) % p = 1 := by
        have := (Int.emod_emod_of_dvd ((a : Int) ^ (p / 2)) (Int.dvd_refl (p : Int))).symm
        have h2 := Int.emod_eq_emod_iff_emod_sub_eq_zero.mpr (Int.emod_eq_zero_of_dvd he)
        rw [h2, Int.emod_eq_of_lt (by decide) (by omega)]
      rw [h1, if_neg (by omega)]
    · have h' : Gs a p = -1 := h
      rw [h'] at he ⊢
      have h1 : (a : Int) ^ (p / 2) % p = p - 1 := by
        have h2 := Int.emod_eq_emod_iff_emod_sub_eq_zero.mpr (Int.emod_eq_zero_of_dvd he)
        rw [h2]
        have : (-1 : Int) % p = (-1 + p) % p := by rw [Int.add_emod_right]
        rw [this, Int.emod_eq_of_lt (by omega) (by omega)]; omega
      rw [if_pos h1]
  · rw [if_neg hg]
    have h2 : 2 ≤ Nat.gcd a p := by
      have := Nat.gcd_pos_of_pos_right a (show 0 < p by omega)
      omega
    have h3 := hpr _ h2 (Nat.gcd_dvd_right a p)
    have h4 : p ∣ a := by rw [← h3]; exact Nat.gcd_dvd_left a p
    have ha0 : a = 0 := by
      rcases Nat.eq_zero_or_pos a with h | h
      · exact h
      · exact absurd (Nat.le_of_dvd h h4) (by omega)
    subst ha0
    have h5 : ((0 : Nat) : Int) ^ (p / 2) % p = 0 := by
      rw [show p / 2 = p / 2 - 1 + 1 by omega, Int.pow_succ, Int.natCast_zero, Int.mul_zero, Int.zero_emod]
    rw [h5, if_neg (by omega)]
theorem res_mod {z : Int} {p m : Nat} (hp : 0 < p) (hm : 0 < m) (hd : p ∣ m) : (z % (m : Int)).toNat % p = (z % (p : Int)).toNat % p := by
  have h0 : 0 ≤ z % (m : Int) := Int.emod_nonneg _ (by omega)
  have h1 : 0 ≤ z % (p : Int) := Int.emod_nonneg _ (by omega)
  obtain ⟨a, ha⟩ := Int.eq_ofNat_of_zero_le h0
  obtain ⟨b, hb⟩ := Int.eq_ofNat_of_zero_le h1
  have h2 := Int.emod_emod_of_dvd z (Int.natCast_dvd_natCast.mpr hd)
  rw [ha, hb] at h2
  rw [ha, hb, Int.toNat_natCast, Int.toNat_natCast]
  have h3 : a % p = b := by exact_mod_cast h2
  rw [h3, ← h3, Nat.mod_mod]
theorem Pr_full {z : Int} {n : Nat} {u : Int} (h : Pr z n u) : ∀ k m, n = 2 ^ k * (2 * m + 1) → (z % 2 = 1 ∨ k = 0) → u = tsign k z.natAbs * Sym (z % ((2 * m + 1 : Nat) : Int)).toNat (2 * m + 1) := by
  induction h with
  | one =>
    intro k m e _
    obtain ⟨rfl, rfl⟩ := two_adic (k := 0) (m := 0) (by rw [← e]; try rfl)
    rw [show tsign 0 z.natAbs = 1 from if_neg (by omega), Sym_one]; rfl
  | @mul p n v hp hpr hv ih =>
    intro k m e hz
    by_cases hp2 : p % 2 = 0
    · have := hpr 2 (by omega) (Nat.dvd_of_mod_eq_zero hp2)
      subst this
      rcases k with _ | k
      · rw [Nat.pow_zero] at e; omega
      · rw [Nat.pow_succ', Nat.mul_assoc] at e
        have e' := Nat.eq_of_mul_eq_mul_left (by omega) e
        rw [ih k m e' (.inl (by omega)), ← Int.mul_assoc]
        congr 1
        unfold opv tsign
        rw [if_pos rfl, if_neg (by omega)]
        by_cases h8 : z.natAbs % 8 = 3 ∨ z.natAbs % 8 = 5
        · rw [if_neg (by omega)]
          by_cases hk : k % 2 = 1
          · rw [if_pos ⟨hk, h8⟩, if_neg (by omega)]; rfl
          · rw [if_neg (fun q => hk q.1), if_pos ⟨by omega, h8⟩]; rfl
        · rw [if_pos (by omega), if_neg (fun q => h8 q.2), if_neg (fun q => h8 q.2)]; rfl
    · have hn0 : 0 < n := by
        rcases Nat.eq_zero_or_pos n with h | h
        · subst h
          rw [Nat.mul_zero] at e
          exact absurd e.symm (Nat.ne_of_gt (Nat.mul_pos (Nat.pow_pos (by omega)) (by omega)))
        · exact h
      obtain ⟨k', m', e'⟩ := odd_split n hn0
      have ho : (p * (2 * m' + 1)) % 2 = 1 := by rw [Nat.mul_mod, show p % 2 = 1 by omega, show (2 * m' + 1) % 2 = 1 by omega]
      have e2 : 2 ^ k * (2 * m + 1) = 2 ^ k' * (2 * (p * (2 * m' + 1) / 2) + 1) := by
        rw [← e, e', show 2 * (p * (2 * m' + 1) / 2) + 1 = p * (2 * m' + 1) by omega]
        grind
      obtain ⟨rfl, e3⟩ := two_adic e2
      have e4 : 2 * m + 1 = p * (2 * m' + 1) := by omega
      rw [ih k m' e' hz, e4, opv_sym (by omega) (by omega) hpr, Sym_below (by omega) (by omega)]
      rw [Sym_congr (res_mod (z := z) (p := p) (m := p * (2 * m' + 1)) (by omega) (by omega) (Nat.dvd_mul_right _ _))]
      rw [Sym_congr (res_mod (z := z) (p := 2 * m' + 1) (m := p * (2 * m' + 1)) (by omega) (by omega) (Nat.dvd_mul_left _ _))]
      grind
theorem sym_signed (z : Int) {n : Nat} (hn : n % 2 = 1) : Sym (z % (n : Int)).toNat n = (if z < 0 ∧ n % 4 = 3 then -1 else 1) * Sym z.natAbs n := by
  have h0 : 0 ≤ z % (n : Int) := Int.emod_nonneg _ (by omega)
  obtain ⟨a, ha⟩ := Int.eq_ofNat_of_zero_le h0
  rw [ha, Int.toNat_natCast]
  by_cases hz : z < 0
  · have hd : n ∣ a + z.natAbs := by
      have h1 : (n : Int) ∣ z % (n : Int) - z := ⟨-(z / n), by have := Int.mul_ediv_add_emod z n; rw [Int.mul_neg]; omega⟩
      rw [ha, show (a : Int) - z = ((a + z.natAbs : Nat) : Int) by omega] at h1
      exact_mod_cast h1
    rw [Sym_neg hn hd]
    congr 1
    unfold mone
    by_cases h3 : n % 4 = 3
    · rw [if_neg (by omega), if_pos ⟨hz, h3⟩]
    · rw [if_pos (by omega), if_neg (fun q => h3 q.2)]
  · rw [if_neg (fun q => hz q.1), Int.one_mul]
    refine Sym_congr ?_
    have h1 : ((z.natAbs : Nat) : Int) = z := by omega
    have h2 : ((z.natAbs % n : Nat) : Int) = a := by rw [← ha, Int.natCast_emod, h1]
    have h3 : z.natAbs % n = a := by exact_mod_cast h2
    rw [← h3, Nat.mod_mod]
theorem Pr_even {z : Int} {n : Nat} {u : Int} (h : Pr z n u) (hz : z % 2 = 0) : n % 2 = 0 → u = 0 := by
  induction h with
  | one => intro h; omega
  | @mul p n v hp hpr hv ih =>
    intro h
    by_cases hp2 : p % 2 = 0
    · have := hpr 2 (by omega) (Nat.dvd_of_mod_eq_zero hp2)
      subst this
      rw [show opv z 2 = 0 by unfold opv; rw [if_pos rfl, if_pos hz], Int.zero_mul]
    · rw [ih (by rw [Nat.mul_mod, show p % 2 = 1 by omega, Nat.one_mul, Nat.mod_mod] at h; exact h), Int.mul_zero]
/-- over an odd number -/
theorem symIs_odd {x n : Nat} {v : Int} (h : SymIs (x : Int) (n : Int) v) (hn : n % 2 = 1) : v = Sym x n := by
  obtain ⟨u, h1, h2⟩ := h.2 (by omega)
  rw [Int.natAbs_natCast] at h1
  have h3 := Pr_full h1 0 (n / 2) (by rw [Nat.pow_zero]; omega) (.inr rfl)
  rw [show 2 * (n / 2) + 1 = n by omega, sym_signed _ hn, if_neg (fun q => by omega), show tsign 0 (x : Int).natAbs = 1 from if_neg (by omega), Int.natAbs_natCast, Int.one_mul, Int.one_mul] at h3
  rw [h2, if_neg (fun q => by omega), Int.one_mul, h3]
/-- the signed symbol -/
theorem kron_sym {x y : Int} {v u : Int} (h : KronIs Sym (decide (x < 0)) x.natAbs (decide (y < 0)) y.natAbs v) (h' : SymIs x y u) : v = u := by
  by_cases hy : y = 0
  · rw [h.1 (by omega), h'.1 hy]
  · obtain ⟨t, h1, h2⟩ := h'.2 hy
    by_cases hx2 : x % 2 = 0 ∧ y % 2 = 0
    · rw [h.2.1 (by omega) (by omega) (by omega), h2, Pr_even h1 hx2.1 (by omega), Int.mul_zero]
    · obtain ⟨k, m, e⟩ := odd_split y.natAbs (by omega)
      have h3 := h.2.2 k m e (by omega)
      have hk : x % 2 = 1 ∨ k = 0 := by
        by_cases hx : x % 2 = 1
        · exact .inl hx
        · refine .inr ?_
          rcases k with _ | k
          · rfl
          · exfalso
            rw [Nat.pow_succ', Nat.mul_assoc] at e
            generalize 2 ^ k * (2 * m + 1) = w at e
            omega
      have h4 := Pr_full h1 k m e hk
      rw [sym_signed x (by omega)] at h4
      rw [h3, h2, h4]
      simp only [decide_eq_true_eq]
      grind
theorem Sym_small (a n : Nat) : (Sym a n).natAbs ≤ 1 := by
  unfold Sym
  split
  · rcases pd_or (fun i => sg_or n (a * i % n)) (n / 2) with h | h
    · rw [show Gs a n = 1 from h]; decide
    · rw [show Gs a n = -1 from h]; decide
  · decide
end Mine
open PySem PySem.W PyProof.Rows PySem.Calls
set_option maxRecDepth 100000
set_option maxHeartbeats 8000000
namespace Mine
/-- a def's object, its text taken from the row -/
noncomputable def fnObj (i : Nat) (m : String) (t c : Nat) : Obj := match PySem.Challenge.pw_nn0017_01.main.body[i]? with
  | some (.FunctionDef nm ps body _ _ _ sc _ _ _) => Obj.mk (.type "function") none (.func (FuncData.mk nm nm ps (.stmts body) sc 3 [] .none .none .none (.str (Str.ofString m) t) none (.ref c) .none 0)) #[]
  | _ => Obj.mk .none none .plain #[]
noncomputable def cdObj (vs : Array Value) : Obj := Obj.mk (.type "code") none (.fields vs) #[]
/-- the part of the heap that the walk reads, written out -/
noncomputable def jfrag : Params → Frag := fun P =>
  (nat_lit 2, Obj.mk Value.none Option.none (Data.dict #[DictEntry.mk (PyData.keyHash P (Str.ofString "type.__subclasses__.Exception.0")) (Value.str (Str.ofString "type.__subclasses__.Exception.0") 205) (Value.int 24 0), DictEntry.mk (PyData.keyHash P (Str.ofString "type.__subclasses__.Exception.n")) (Value.str (Str.ofString "type.__subclasses__.Exception.n") 206) (Value.int 1 0)] 2) #[]) ::
  (nat_lit 3, Obj.mk (Value.type "dict") Option.none (Data.dict #[DictEntry.mk (PyData.keyHash P (Str.ofString "__name__")) (Value.str (Str.ofString "__name__") 165) (Value.str (Str.ofString "law_nn0017_01") 460), DictEntry.mk (PyData.keyHash P (Str.ofString "__doc__")) (Value.str (Str.ofString "__doc__") 166) Value.none, DictEntry.mk (PyData.keyHash P (Str.ofString "__package__")) (Value.str (Str.ofString "__package__") 167) Value.none, DictEntry.mk (PyData.keyHash P (Str.ofString "__loader__")) (Value.str (Str.ofString "__loader__") 168) (Value.builtin "__main__.__loader__#opaque"), DictEntry.mk (PyData.keyHash P (Str.ofString "__spec__")) (Value.str (Str.ofString "__spec__") 169) Value.none, DictEntry.mk (PyData.keyHash P (Str.ofString "__annotations__")) (Value.str (Str.ofString "__annotations__") 170) (Value.ref 6), DictEntry.mk (PyData.keyHash P (Str.ofString "__builtins__")) (Value.str (Str.ofString "__builtins__") 171) (Value.ref 4), DictEntry.mk (PyData.keyHash P (Str.ofString "__file__")) (Value.str (Str.ofString "__file__") 173) (Value.str (Str.ofString "/claim/cut.py") 172), DictEntry.mk (PyData.keyHash P (Str.ofString "__cached__")) (Value.str (Str.ofString "__cached__") 174) Value.none, DictEntry.mk (PyData.keyHash P (Str.ofString "GmpError")) (Value.str (Str.ofString "GmpError") 208) (Value.ref 24), DictEntry.mk (PyData.keyHash P (Str.ofString "DivisionByZero")) (Value.str (Str.ofString "DivisionByZero") 224) (Value.ref 37), DictEntry.mk (PyData.keyHash P (Str.ofString "OutOfRange")) (Value.str (Str.ofString "OutOfRange") 240) (Value.ref 49), DictEntry.mk (PyData.keyHash P (Str.ofString "normal")) (Value.str (Str.ofString "normal") 248) (Value.ref 58), DictEntry.mk (PyData.keyHash P (Str.ofString "is_even")) (Value.str (Str.ofString "is_even") 255) (Value.ref 65), DictEntry.mk (PyData.keyHash P (Str.ofString "compare")) (Value.str (Str.ofString "compare") 264) (Value.ref 72), DictEntry.mk (PyData.keyHash P (Str.ofString "divrem_limb")) (Value.str (Str.ofString "divrem_limb") 276) (Value.ref 79), DictEntry.mk (PyData.keyHash P (Str.ofString "shift_left")) (Value.str (Str.ofString "shift_left") 291) (Value.ref 86), DictEntry.mk (PyData.keyHash P (Str.ofString "shift_right")) (Value.str (Str.ofString "shift_right") 306) (Value.ref 93), DictEntry.mk (PyData.keyHash P (Str.ofString "bits")) (Value.str (Str.ofString "bits") 314) (Value.ref 100), DictEntry.mk (PyData.keyHash P (Str.ofString "bit")) (Value.str (Str.ofString "bit") 323) (Value.ref 107), DictEntry.mk (PyData.keyHash P (Str.ofString "trailing")) (Value.str (Str.ofString "trailing") 333) (Value.ref 114), DictEntry.mk (PyData.keyHash P (Str.ofString "last_bits")) (Value.str (Str.ofString "last_bits") 341) (Value.ref 119), DictEntry.mk (PyData.keyHash P (Str.ofString "two_sign")) (Value.str (Str.ofString "two_sign") 350) (Value.ref 126), DictEntry.mk (PyData.keyHash P (Str.ofString "jacobi")) (Value.str (Str.ofString "jacobi") 362) (Value.ref 133), DictEntry.mk (PyData.keyHash P (Str.ofString "kronecker")) (Value.str (Str.ofString "kronecker") 376) (Value.ref 140), DictEntry.mk (PyData.keyHash P (Str.ofString "divrem_small")) (Value.str (Str.ofString "divrem_small") 389) (Value.ref 147), DictEntry.mk (PyData.keyHash P (Str.ofString "guessed_limb")) (Value.str (Str.ofString "guessed_limb") 403) (Value.ref 154), DictEntry.mk (PyData.keyHash P (Str.ofString "take_away")) (Value.str (Str.ofString "take_away") 419) (Value.ref 161), DictEntry.mk (PyData.keyHash P (Str.ofString "put_back")) (Value.str (Str.ofString "put_back") 433) (Value.ref 168), DictEntry.mk (PyData.keyHash P (Str.ofString "divide_rows")) (Value.str (Str.ofString "divide_rows") 446) (Value.ref 175), DictEntry.mk (PyData.keyHash P (Str.ofString "divrem_school")) (Value.str (Str.ofString "divrem_school") 459) (Value.ref 182), DictEntry.mk (PyData.keyHash P (Str.ofString "_law_take")) (Value.str (Str.ofString "_law_take") 469) (Value.ref 189), DictEntry.mk (PyData.keyHash P (Str.ofString "_law_box")) (Value.str (Str.ofString "_law_box") 475) (Value.ref 194), DictEntry.mk (PyData.keyHash P (Str.ofString "_law_row")) (Value.str (Str.ofString "_law_row") 484) (Value.ref 201), DictEntry.mk (PyData.keyHash P (Str.ofString "_law_over_prime")) (Value.str (Str.ofString "_law_over_prime") 496) (Value.ref 208), DictEntry.mk (PyData.keyHash P (Str.ofString "_law_symbol")) (Value.str (Str.ofString "_law_symbol") 506) (Value.ref 215), DictEntry.mk (PyData.keyHash P (Str.ofString "_law_signed")) (Value.str (Str.ofString "_law_signed") 514) (Value.ref 222), DictEntry.mk (PyData.keyHash P (Str.ofString "law")) (Value.str (Str.ofString "law") 534) (Value.ref 229)] 38) #[]) ::
  (nat_lit 15, Obj.mk (Value.type "tuple") Option.none (Data.seq #[Value.type "Exception"] 0) #[]) ::
  (nat_lit 22, Obj.mk (Value.type "tuple") Option.none (Data.seq #[] 0) #[]) ::
  (nat_lit 23, Obj.mk (Value.type "dict") Option.none (Data.dict #[DictEntry.mk (PyData.keyHash P (Str.ofString "__module__")) (Value.str (Str.ofString "__module__") 196) (Value.str (Str.ofString "gmp.limbs") 187), DictEntry.mk (PyData.keyHash P (Str.ofString "__firstlineno__")) (Value.str (Str.ofString "__firstlineno__") 200) (Value.int 2 199), DictEntry.mk (PyData.keyHash P (Str.ofString "__static_attributes__")) (Value.str (Str.ofString "__static_attributes__") 201) (Value.ref 22), DictEntry.mk (PyData.keyHash P (Str.ofString "__weakref__")) (Value.str (Str.ofString "__weakref__") 203) (Value.ref 25), DictEntry.mk (PyData.keyHash P (Str.ofString "__doc__")) (Value.str (Str.ofString "__doc__") 204) Value.none] 3) #[]) ::
  (nat_lit 24, Obj.mk (Value.type "type") Option.none (Data.cls (ClassData.mk (Str.ofString "GmpError") [Value.type "Exception"] [Value.ref 24, Value.type "Exception", Value.type "BaseException", Value.type "object"] 23 (Str.ofString "GmpError") Bool.true [] [Value.ref 37, Value.ref 49] Bool.false Option.none Bool.false)) #[Option.some (Value.ref 15), Option.none, Option.some (Value.str (Str.ofString "GmpError") 189), Option.some (Value.str (Str.ofString "GmpError") 197), Option.some (Value.builtin "Exception.__new__"), Option.some (Value.bool Bool.true)]) ::
  (nat_lit 25, Obj.mk (Value.type "getset_descriptor") Option.none (Data.fields #[Value.str (Str.ofString "__weakref__") 202, Value.ref 24, Value.builtin "ExceptionGroup.__weakref__", Value.none]) #[]) ::
  (nat_lit 28, Obj.mk (Value.type "tuple") Option.none (Data.seq #[Value.ref 24] 0) #[]) ::
  (nat_lit 35, Obj.mk (Value.type "tuple") Option.none (Data.seq #[] 0) #[]) ::
  (nat_lit 36, Obj.mk (Value.type "dict") Option.none (Data.dict #[DictEntry.mk (PyData.keyHash P (Str.ofString "__module__")) (Value.str (Str.ofString "__module__") 216) (Value.str (Str.ofString "gmp.limbs") 187), DictEntry.mk (PyData.keyHash P (Str.ofString "__firstlineno__")) (Value.str (Str.ofString "__firstlineno__") 220) (Value.int 4 219), DictEntry.mk (PyData.keyHash P (Str.ofString "__static_attributes__")) (Value.str (Str.ofString "__static_attributes__") 221) (Value.ref 35), DictEntry.mk (PyData.keyHash P (Str.ofString "__doc__")) (Value.str (Str.ofString "__doc__") 222) Value.none] 2) #[]) ::
  (nat_lit 37, Obj.mk (Value.type "type") Option.none (Data.cls (ClassData.mk (Str.ofString "DivisionByZero") [Value.ref 24] [Value.ref 37, Value.ref 24, Value.type "Exception", Value.type "BaseException", Value.type "object"] 36 (Str.ofString "DivisionByZero") Bool.true [] [] Bool.false Option.none Bool.false)) #[Option.some (Value.ref 28), Option.none, Option.some (Value.str (Str.ofString "DivisionByZero") 209), Option.some (Value.str (Str.ofString "DivisionByZero") 217), Option.some (Value.builtin "Exception.__new__"), Option.some (Value.bool Bool.true)]) ::
  (nat_lit 40, Obj.mk (Value.type "tuple") Option.none (Data.seq #[Value.ref 24] 0) #[]) ::
  (nat_lit 47, Obj.mk (Value.type "tuple") Option.none (Data.seq #[] 0) #[]) ::
  (nat_lit 48, Obj.mk (Value.type "dict") Option.none (Data.dict #[DictEntry.mk (PyData.keyHash P (Str.ofString "__module__")) (Value.str (Str.ofString "__module__") 232) (Value.str (Str.ofString "gmp.limbs") 187), DictEntry.mk (PyData.keyHash P (Str.ofString "__firstlineno__")) (Value.str (Str.ofString "__firstlineno__") 236) (Value.int 6 235), DictEntry.mk (PyData.keyHash P (Str.ofString "__static_attributes__")) (Value.str (Str.ofString "__static_attributes__") 237) (Value.ref 47), DictEntry.mk (PyData.keyHash P (Str.ofString "__doc__")) (Value.str (Str.ofString "__doc__") 238) Value.none] 2) #[]) ::
  (nat_lit 49, Obj.mk (Value.type "type") Option.none (Data.cls (ClassData.mk (Str.ofString "OutOfRange") [Value.ref 24] [Value.ref 49, Value.ref 24, Value.type "Exception", Value.type "BaseException", Value.type "object"] 48 (Str.ofString "OutOfRange") Bool.true [] [] Bool.false Option.none Bool.false)) #[Option.some (Value.ref 40), Option.none, Option.some (Value.str (Str.ofString "OutOfRange") 225), Option.some (Value.str (Str.ofString "OutOfRange") 233), Option.some (Value.builtin "Exception.__new__"), Option.some (Value.bool Bool.true)]) ::
  (nat_lit 52, Obj.mk (Value.type "tuple") Option.none (Data.seq #[] 0) #[]) ::
  (nat_lit 57, cdObj #[Value.str (Str.ofString "normal") 241, Value.str (Str.ofString "normal") 242, Value.str (Str.ofString "/claim/cut.py") 243, Value.int 8 0, Value.int 1 0, Value.int 0 0, Value.int 0 0, Value.int 3 0, Value.ref 52, Value.bool Bool.true, Value.int 181 0, Value.ref 53, Value.none, Value.ref 54, Value.ref 55, Value.ref 56, Value.int 246 0, Value.int 8 0, Value.str (Str.ofString "/claim/cut.py") 247]) ::
  (nat_lit 58, fnObj 4 "gmp.limbs" 187 57) ::
  (nat_lit 64, cdObj #[Value.str (Str.ofString "is_even") 249, Value.str (Str.ofString "is_even") 250, Value.str (Str.ofString "/claim/cut.py") 251, Value.int 13 0, Value.int 1 0, Value.int 0 0, Value.int 0 0, Value.int 3 0, Value.ref 59, Value.bool Bool.true, Value.int 181 0, Value.ref 60, Value.none, Value.ref 61, Value.ref 62, Value.ref 63, Value.int 253 0, Value.int 13 0, Value.str (Str.ofString "/claim/cut.py") 254]) ::
  (nat_lit 65, fnObj 5 "gmp.limbs" 187 64) ::
  (nat_lit 71, cdObj #[Value.str (Str.ofString "compare") 256, Value.str (Str.ofString "compare") 257, Value.str (Str.ofString "/claim/cut.py") 258, Value.int 15 0, Value.int 2 0, Value.int 0 0, Value.int 0 0, Value.int 3 0, Value.ref 66, Value.bool Bool.true, Value.int 181 0, Value.ref 67, Value.none, Value.ref 68, Value.ref 69, Value.ref 70, Value.int 262 0, Value.int 15 0, Value.str (Str.ofString "/claim/cut.py") 263]) ::
  (nat_lit 72, fnObj 6 "gmp.limbs" 187 71) ::
  (nat_lit 78, cdObj #[Value.str (Str.ofString "divrem_limb") 265, Value.str (Str.ofString "divrem_limb") 266, Value.str (Str.ofString "/claim/cut.py") 267, Value.int 22 0, Value.int 3 0, Value.int 0 0, Value.int 0 0, Value.int 3 0, Value.ref 73, Value.bool Bool.true, Value.int 181 0, Value.ref 74, Value.none, Value.ref 75, Value.ref 76, Value.ref 77, Value.int 274 0, Value.int 22 0, Value.str (Str.ofString "/claim/cut.py") 275]) ::
  (nat_lit 79, fnObj 7 "gmp.limbs" 187 78) ::
  (nat_lit 85, cdObj #[Value.str (Str.ofString "shift_left") 277, Value.str (Str.ofString "shift_left") 278, Value.str (Str.ofString "/claim/cut.py") 279, Value.int 31 0, Value.int 3 0, Value.int 0 0, Value.int 0 0, Value.int 3 0, Value.ref 80, Value.bool Bool.true, Value.int 181 0, Value.ref 81, Value.none, Value.ref 82, Value.ref 83, Value.ref 84, Value.int 289 0, Value.int 31 0, Value.str (Str.ofString "/claim/cut.py") 290]) ::
  (nat_lit 86, fnObj 8 "gmp.limbs" 187 85) ::
  (nat_lit 92, cdObj #[Value.str (Str.ofString "shift_right") 292, Value.str (Str.ofString "shift_right") 293, Value.str (Str.ofString "/claim/cut.py") 294, Value.int 43 0, Value.int 3 0, Value.int 0 0, Value.int 0 0, Value.int 3 0, Value.ref 87, Value.bool Bool.true, Value.int 181 0, Value.ref 88, Value.none, Value.ref 89, Value.ref 90, Value.ref 91, Value.int 304 0, Value.int 43 0, Value.str (Str.ofString "/claim/cut.py") 305]) ::
  (nat_lit 93, fnObj 9 "gmp.limbs" 187 92) ::
  (nat_lit 99, cdObj #[Value.str (Str.ofString "bits") 307, Value.str (Str.ofString "bits") 308, Value.str (Str.ofString "/claim/cut.py") 309, Value.int 50 0, Value.int 2 0, Value.int 0 0, Value.int 0 0, Value.int 3 0, Value.ref 94, Value.bool Bool.true, Value.int 181 0, Value.ref 95, Value.none, Value.ref 96, Value.ref 97, Value.ref 98, Value.int 312 0, Value.int 50 0, Value.str (Str.ofString "/claim/cut.py") 313]) ::
  (nat_lit 100, fnObj 10 "gmp.limbs" 187 99) ::
  (nat_lit 106, cdObj #[Value.str (Str.ofString "bit") 315, Value.str (Str.ofString "bit") 316, Value.str (Str.ofString "/claim/cut.py") 317, Value.int 52 0, Value.int 3 0, Value.int 0 0, Value.int 0 0, Value.int 3 0, Value.ref 101, Value.bool Bool.true, Value.int 181 0, Value.ref 102, Value.none, Value.ref 103, Value.ref 104, Value.ref 105, Value.int 321 0, Value.int 52 0, Value.str (Str.ofString "/claim/cut.py") 322]) ::
  (nat_lit 107, fnObj 11 "gmp.limbs" 187 106) ::
  (nat_lit 113, cdObj #[Value.str (Str.ofString "trailing") 324, Value.str (Str.ofString "trailing") 325, Value.str (Str.ofString "/claim/cut.py") 326, Value.int 54 0, Value.int 2 0, Value.int 0 0, Value.int 0 0, Value.int 3 0, Value.ref 108, Value.bool Bool.true, Value.int 181 0, Value.ref 109, Value.none, Value.ref 110, Value.ref 111, Value.ref 112, Value.int 331 0, Value.int 54 0, Value.str (Str.ofString "/claim/cut.py") 332]) ::
  (nat_lit 114, fnObj 12 "gmp.limbs" 187 113) ::
  (nat_lit 118, cdObj #[Value.str (Str.ofString "last_bits") 336, Value.str (Str.ofString "last_bits") 337, Value.str (Str.ofString "/claim/cut.py") 338, Value.int 60 0, Value.int 3 0, Value.int 0 0, Value.int 0 0, Value.int 3 0, Value.ref 115, Value.bool Bool.true, Value.int 181 0, Value.ref 116, Value.none, Value.none, Value.none, Value.ref 117, Value.int 339 0, Value.int 60 0, Value.str (Str.ofString "/claim/cut.py") 340]) ::
  (nat_lit 119, fnObj 14 "gmp.residues" 334 118) ::
  (nat_lit 125, cdObj #[Value.str (Str.ofString "two_sign") 342, Value.str (Str.ofString "two_sign") 343, Value.str (Str.ofString "/claim/cut.py") 344, Value.int 62 0, Value.int 3 0, Value.int 0 0, Value.int 0 0, Value.int 3 0, Value.ref 120, Value.bool Bool.true, Value.int 181 0, Value.ref 121, Value.none, Value.ref 122, Value.ref 123, Value.ref 124, Value.int 348 0, Value.int 62 0, Value.str (Str.ofString "/claim/cut.py") 349]) ::
  (nat_lit 126, fnObj 15 "gmp.residues" 334 125) ::
  (nat_lit 132, cdObj #[Value.str (Str.ofString "jacobi") 351, Value.str (Str.ofString "jacobi") 352, Value.str (Str.ofString "/claim/cut.py") 353, Value.int 64 0, Value.int 4 0, Value.int 0 0, Value.int 0 0, Value.int 3 0, Value.ref 127, Value.bool Bool.true, Value.int 181 0, Value.ref 128, Value.none, Value.ref 129, Value.ref 130, Value.ref 131, Value.int 360 0, Value.int 64 0, Value.str (Str.ofString "/claim/cut.py") 361]) ::
  (nat_lit 133, fnObj 16 "gmp.residues" 334 132) ::
  (nat_lit 139, cdObj #[Value.str (Str.ofString "kronecker") 363, Value.str (Str.ofString "kronecker") 364, Value.str (Str.ofString "/claim/cut.py") 365, Value.int 76 0, Value.int 4 0, Value.int 0 0, Value.int 0 0, Value.int 3 0, Value.ref 134, Value.bool Bool.true, Value.int 181 0, Value.ref 135, Value.none, Value.ref 136, Value.ref 137, Value.ref 138, Value.int 374 0, Value.int 76 0, Value.str (Str.ofString "/claim/cut.py") 375]) ::
  (nat_lit 140, fnObj 17 "gmp.residues" 334 139) ::
  (nat_lit 146, cdObj #[Value.str (Str.ofString "divrem_small") 379, Value.str (Str.ofString "divrem_small") 380, Value.str (Str.ofString "/claim/cut.py") 381, Value.int 91 0, Value.int 3 0, Value.int 0 0, Value.int 0 0, Value.int 3 0, Value.ref 141, Value.bool Bool.true, Value.int 181 0, Value.ref 142, Value.none, Value.ref 143, Value.ref 144, Value.ref 145, Value.int 387 0, Value.int 91 0, Value.str (Str.ofString "/claim/cut.py") 388]) ::
  (nat_lit 147, fnObj 19 "gmp.school" 377 146) ::
  (nat_lit 153, cdObj #[Value.str (Str.ofString "guessed_limb") 390, Value.str (Str.ofString "guessed_limb") 391, Value.str (Str.ofString "/claim/cut.py") 392, Value.int 94 0, Value.int 4 0, Value.int 0 0, Value.int 0 0, Value.int 3 0, Value.ref 148, Value.bool Bool.true, Value.int 181 0, Value.ref 149, Value.none, Value.ref 150, Value.ref 151, Value.ref 152, Value.int 401 0, Value.int 94 0, Value.str (Str.ofString "/claim/cut.py") 402]) ::
  (nat_lit 154, fnObj 20 "gmp.school" 377 153) ::
  (nat_lit 160, cdObj #[Value.str (Str.ofString "take_away") 404, Value.str (Str.ofString "take_away") 405, Value.str (Str.ofString "/claim/cut.py") 406, Value.int 102 0, Value.int 5 0, Value.int 0 0, Value.int 0 0, Value.int 3 0, Value.ref 155, Value.bool Bool.true, Value.int 181 0, Value.ref 156, Value.none, Value.ref 157, Value.ref 158, Value.ref 159, Value.int 417 0, Value.int 102 0, Value.str (Str.ofString "/claim/cut.py") 418]) ::
  (nat_lit 161, fnObj 21 "gmp.school" 377 160) ::
  (nat_lit 167, cdObj #[Value.str (Str.ofString "put_back") 420, Value.str (Str.ofString "put_back") 421, Value.str (Str.ofString "/claim/cut.py") 422, Value.int 111 0, Value.int 4 0, Value.int 0 0, Value.int 0 0, Value.int 3 0, Value.ref 162, Value.bool Bool.true, Value.int 181 0, Value.ref 163, Value.none, Value.ref 164, Value.ref 165, Value.ref 166, Value.int 431 0, Value.int 111 0, Value.str (Str.ofString "/claim/cut.py") 432]) ::
  (nat_lit 168, fnObj 22 "gmp.school" 377 167) ::
  (nat_lit 174, cdObj #[Value.str (Str.ofString "divide_rows") 434, Value.str (Str.ofString "divide_rows") 435, Value.str (Str.ofString "/claim/cut.py") 436, Value.int 118 0, Value.int 3 0, Value.int 0 0, Value.int 0 0, Value.int 3 0, Value.ref 169, Value.bool Bool.true, Value.int 181 0, Value.ref 170, Value.none, Value.ref 171, Value.ref 172, Value.ref 173, Value.int 444 0, Value.int 118 0, Value.str (Str.ofString "/claim/cut.py") 445]) ::
  (nat_lit 175, fnObj 23 "gmp.school" 377 174) ::
  (nat_lit 181, cdObj #[Value.str (Str.ofString "divrem_school") 447, Value.str (Str.ofString "divrem_school") 448, Value.str (Str.ofString "/claim/cut.py") 449, Value.int 128 0, Value.int 3 0, Value.int 0 0, Value.int 0 0, Value.int 3 0, Value.ref 176, Value.bool Bool.true, Value.int 181 0, Value.ref 177, Value.none, Value.ref 178, Value.ref 179, Value.ref 180, Value.int 457 0, Value.int 128 0, Value.str (Str.ofString "/claim/cut.py") 458]) ::
  (nat_lit 182, fnObj 24 "gmp.school" 377 181) ::
  (nat_lit 188, cdObj #[Value.str (Str.ofString "_law_take") 462, Value.str (Str.ofString "_law_take") 463, Value.str (Str.ofString "/claim/cut.py") 464, Value.int 142 0, Value.int 2 0, Value.int 0 0, Value.int 0 0, Value.int 3 0, Value.ref 183, Value.bool Bool.true, Value.int 181 0, Value.ref 184, Value.none, Value.ref 185, Value.ref 186, Value.ref 187, Value.int 467 0, Value.int 142 0, Value.str (Str.ofString "/claim/cut.py") 468]) ::
  (nat_lit 189, fnObj 26 "law_nn0017_01" 460 188) ::
  (nat_lit 193, cdObj #[Value.str (Str.ofString "_law_box") 470, Value.str (Str.ofString "_law_box") 471, Value.str (Str.ofString "/claim/cut.py") 472, Value.int 147 0, Value.int 1 0, Value.int 0 0, Value.int 0 0, Value.int 3 0, Value.ref 190, Value.bool Bool.true, Value.int 181 0, Value.ref 191, Value.none, Value.none, Value.none, Value.ref 192, Value.int 473 0, Value.int 147 0, Value.str (Str.ofString "/claim/cut.py") 474]) ::
  (nat_lit 194, fnObj 27 "law_nn0017_01" 460 193) ::
  (nat_lit 200, cdObj #[Value.str (Str.ofString "_law_row") 476, Value.str (Str.ofString "_law_row") 477, Value.str (Str.ofString "/claim/cut.py") 478, Value.int 152 0, Value.int 2 0, Value.int 0 0, Value.int 0 0, Value.int 3 0, Value.ref 195, Value.bool Bool.true, Value.int 181 0, Value.ref 196, Value.none, Value.ref 197, Value.ref 198, Value.ref 199, Value.int 482 0, Value.int 152 0, Value.str (Str.ofString "/claim/cut.py") 483]) ::
  (nat_lit 201, fnObj 28 "law_nn0017_01" 460 200) ::
  (nat_lit 207, cdObj #[Value.str (Str.ofString "_law_over_prime") 485, Value.str (Str.ofString "_law_over_prime") 486, Value.str (Str.ofString "/claim/cut.py") 487, Value.int 158 0, Value.int 2 0, Value.int 0 0, Value.int 0 0, Value.int 3 0, Value.ref 202, Value.bool Bool.true, Value.int 181 0, Value.ref 203, Value.none, Value.ref 204, Value.ref 205, Value.ref 206, Value.int 494 0, Value.int 158 0, Value.str (Str.ofString "/claim/cut.py") 495]) ::
  (nat_lit 208, fnObj 29 "law_nn0017_01" 460 207) ::
  (nat_lit 214, cdObj #[Value.str (Str.ofString "_law_symbol") 497, Value.str (Str.ofString "_law_symbol") 498, Value.str (Str.ofString "/claim/cut.py") 499, Value.int 165 0, Value.int 2 0, Value.int 0 0, Value.int 0 0, Value.int 3 0, Value.ref 209, Value.bool Bool.true, Value.int 181 0, Value.ref 210, Value.none, Value.ref 211, Value.ref 212, Value.ref 213, Value.int 504 0, Value.int 165 0, Value.str (Str.ofString "/claim/cut.py") 505]) ::
  (nat_lit 215, fnObj 30 "law_nn0017_01" 460 214) ::
  (nat_lit 221, cdObj #[Value.str (Str.ofString "_law_signed") 507, Value.str (Str.ofString "_law_signed") 508, Value.str (Str.ofString "/claim/cut.py") 509, Value.int 174 0, Value.int 2 0, Value.int 0 0, Value.int 0 0, Value.int 3 0, Value.ref 216, Value.bool Bool.true, Value.int 181 0, Value.ref 217, Value.none, Value.ref 218, Value.ref 219, Value.ref 220, Value.int 512 0, Value.int 174 0, Value.str (Str.ofString "/claim/cut.py") 513]) ::
  (nat_lit 222, fnObj 31 "law_nn0017_01" 460 221) ::
  (nat_lit 228, cdObj #[Value.str (Str.ofString "law") 515, Value.str (Str.ofString "law") 516, Value.str (Str.ofString "/claim/cut.py") 517, Value.int 176 0, Value.int 1 0, Value.int 0 0, Value.int 0 0, Value.int 3 0, Value.ref 223, Value.bool Bool.true, Value.int 181 0, Value.ref 224, Value.none, Value.ref 225, Value.ref 226, Value.ref 227, Value.int 532 0, Value.int 176 0, Value.str (Str.ofString "/claim/cut.py") 533]) ::
  (nat_lit 229, fnObj 32 "law_nn0017_01" 460 228) :: []
def jadr : List Addr := 2 :: 3 :: 15 :: 22 :: 23 :: 24 :: 25 :: 28 :: 35 :: 36 :: 37 :: 40 :: 47 :: 48 :: 49 :: 52 :: 57 :: 58 :: 64 :: 65 :: 71 :: 72 :: 78 :: 79 :: 85 :: 86 :: 92 :: 93 :: 99 :: 100 :: 106 :: 107 :: 113 :: 114 :: 118 :: 119 :: 125 :: 126 :: 132 :: 133 :: 139 :: 140 :: 146 :: 147 :: 153 :: 154 :: 160 :: 161 :: 167 :: 168 :: 174 :: 175 :: 181 :: 182 :: 188 :: 189 :: 193 :: 194 :: 200 :: 201 :: 207 :: 208 :: 214 :: 215 :: 221 :: 222 :: 228 :: 229 :: []
theorem jadr_eq : ∀ P, jadr = (jfrag P).map (·.1) := fun _ => by kernel_rfl
/-- the text but for its turns of __name__ -/
noncomputable def jview : Program := PySem.W.view PySem.Challenge.pw_nn0017_01 [1, 2, 3, 4, 5, 6, 7, 8, 9, 10, 11, 12, 14, 15, 16, 17, 19, 20, 21, 22, 23, 24, 26, 27, 28, 29, 30, 31, 32]
abbrev jrow : RowW := OpenRow.toRowW (OpenLaw.row PySem.Challenge.rw_nn0017_01)
noncomputable abbrev jhook : Hook := kHook jfrag jadr jadr_eq
noncomputable def jxt (s : Shared) : Bool := xlAt jview [] s && recOk (RowW.records jrow) s
theorem jleft : LeftO PySem.Challenge.pw_nn0017_01 jview [] jxt (Hook.obs jhook) (Hook.val jhook) 3154 := fun w => by
  unfold openEnds fencedOpening topFrom
  first | rw [PySem.W.Fast.te14364793385576792824, PySem.W.Fast.te14082659384304107361, PySem.W.Fast.te10274390034422433532, PySem.W.Fast.te4187177175401517315] | skip
  kernel_rfl
theorem jsaid : OpenLaw.wellSaid PySem.Challenge.rw_nn0017_01 = true := by
  unfold OpenLaw.wellSaid OpenRow.wellSaid OpenRow.partSaid looksOpen
  first | rw [PySem.W.Fast.te8377067652309620493, PySem.W.Fast.te8326940854005059898, PySem.W.Fast.te17119622794617984870, PySem.W.Fast.named_eq] | skip
  kernel_rfl
theorem jgood : (chainsOk jview && opensWell PySem.Challenge.pw_nn0017_01 && (frees jrow && jrow.within.isEmpty)) = true := by kernel_rfl
theorem jpromised : jrow.promised := by w_witness2
theorem jh {d : DefRec} {kwd : List (Str × PySem.Expr)} (hdef : defOf jview jrow.name = some (d, kwd)) (hp : jrow.prog.theDef jrow.name = some (d.params, d.body, d.scope)) (hk : kwWritten? d.params.kwonlyargs d.params.kw_defaults = some kwd)
    (call : WalkO jview [] (XL jview []) (Hook.says jhook) jrow d kwd fun f vs => PySem.call f vs) : PySem.Challenge.rw_nn0017_01.Holds :=
  holds_law jsaid fun said => holds_open (q := jview) (loose := []) (Xt := jxt) (XP := XL jview []) (Yf := Hook.obs jhook) (Ya := Hook.val jhook) (YP := Hook.says jhook) (N := 3154) jleft (Hook.of jhook) (Hook.keeps jhook)
    (fun s e => xl_of s (Bool.and_eq_true_iff.mp e).1) XL.keeps hdef hp hk (fun s e => recFacts_of (Bool.and_eq_true_iff.mp e).2) rfl said jgood ⟨rfl, rfl, rfl, rfl, rfl, by decide +kernel⟩ jpromised call
end Mine
namespace Mine
theorem jfill : (fun (_ : OpenLaw) (_ : Params → Frag) => True) PySem.Challenge.rw_nn0017_01 jfrag := by
  k_fill
  trivial
theorem top_off : True := by
  w_top off
  trivial
end Mine
namespace Mine
abbrev prog : Program := PySem.Challenge.rw_nn0017_01.row.prog

/-- a place from which one of the text's defs may be called: `n` more frames fit -/
def Ready (w : World) (n : Nat) (A : Around) (h : Heap) : Prop :=
  ∃ (p : Program) (loose : List Str) (mean : ExcName → Option Value) (mg mb : Str → Option Value) (A₀ : Around) (base : Heap) (outer : List Env) (h₀ : Heap) (L : Addr) (m : Str → Option Value) (env : Env),
    p = jview ∧ Below A₀ base outer h₀ ∧ Fr h₀ L h m ∧ (jfrag w.params).In h₀ ∧ Top p loose mean mg mb h₀ ∧ A.frames = some (env :: outer) ∧ env.frame = some L ∧ env.scope.kind = .function ∧
    A.handled = none ∧ A.depth + n < 1000 ∧ A.units + 8 * n < 9900

/-- the same, where the objects `mu` are the caller's own -/
def ReadyM (w : World) (n : Nat) (A : Around) (h : Heap) (mu : List (Addr × Obj)) : Prop :=
  ∃ (p : Program) (loose : List Str) (mean : ExcName → Option Value) (mg mb : Str → Option Value) (A₀ : Around) (base : Heap) (outer : List Env) (h₀ : Heap) (L : Addr) (m : Str → Option Value) (env : Env),
    (p = jview ∧ Below A₀ base outer h₀ ∧ Fr h₀ L h m ∧ (jfrag w.params).In h₀ ∧ Top p loose mean mg mb h₀ ∧ A.frames = some (env :: outer) ∧ env.frame = some L ∧ env.scope.kind = .function ∧
    A.handled = none ∧ A.depth + n < 1000 ∧ A.units + 8 * n < 9900) ∧ News h₀ L h mu
theorem Ready.none {w : World} {n : Nat} {A : Around} {h : Heap} (Y : Ready w n A h) : ReadyM w n A h [] := by
  obtain ⟨p, loose, mean, mg, mb, A₀, base, outer, h₀, L, m, env, Y⟩ := Y
  exact ⟨p, loose, mean, mg, mb, A₀, base, outer, h₀, L, m, env, Y, News.nil⟩

def Keeps (h h' : Heap) : Prop := ∀ b o, h.get? b = some o → h'.get? b = some o
theorem Keeps.refl (h : Heap) : Keeps h h := fun _ _ e => e

/-- the entry of a def: what stood stays (but for `mu`, that the callee may turn) -/
theorem enter {w : World} {A : Around} {s : Shared} {n : Nat} {mu : List (Addr × Obj)}
    {R : Result → Shared → Prop} {name qual : Str} {params : Arguments} {body : List Stmt} {scope : Scope} {dV kV doc pm cdv ct oc : Value} {an od : Option Addr} {osl : Array (Option Value)} {f : Addr} {args : Args} (binds : List (Str × Value))
    (Y : ReadyM w (n + 1) A s.heap mu)
    (ho : (jfrag w.params).lookup f = some ⟨oc, od, .func (fnX name qual params body scope [] dV kV doc pm an cdv ct), osl⟩) (hcd : codeIn (jfrag w.params) cdv qual = true)
    (hbind : BindsTo s (fnX name qual params body scope [] dV kV doc pm an cdv ct) args binds) (hloc : (binds.all fun x => decide (scope.names.lookup x.1 = some .local)) = true)
    (hcell : ∀ x ∈ scope.names, x.2 ≠ .cell) 
    (h : ∀ p loose mean mg mb g L' h₁ (A' : Around) (E' : Value → Shared → Prop), p = jview → (∀ b o, s.heap.get? b = some o → b ∉ mu.map (·.1) → g.get? b = some o) → Fr g L' h₁ (fun y => binds.reverse.lookup y) → News g L' h₁ mu → (jfrag w.params).In g → Top p loose mean mg mb g →
      (∀ h' m', Fr g L' h' m' → Ready w n A' h') → (∀ h' m' nw, Fr g L' h' m' → News g L' h' nw → ReadyM w n A' h' nw) → A'.handled = none → PassesOwn (model prog w) A' (envX qual scope L' f cdv []) E' →
      wpAny (model prog w) A' (execs body (envX qual scope L' f cdv []))
        (fun fl s' => R (.ok (.ret (match fl with | .ret v => v | _ => .none))) s')
        E' { s with heap := h₁, toks := s.toks + binds.length })
    (hco : scope.isCoroutine = false) (hgen : scope.isGenerator = false) (hk : scope.kind = .function)
     : codeAny (model prog w) A (.call (.ref f) args) R s := by
  obtain ⟨p, loose, mean, mg, mb, A₀, base, outer, h₀, L, m, env, ⟨hp, B, F, X, T, hA, hf, hke, hh, hd, hu⟩, N⟩ := Y
  obtain ⟨FG, BG, st, lv⟩ := groundX (R := R) B F N hA hf hke
  refine codeAny_call_def (fd := fnX name qual params body scope [] dV kV doc pm an cdv ct) (body := body) (binds := binds) (by show A.depth < 1000; omega) ((X.keeps F.keep) _ _ ho) rfl (T.nolimit.keeps F.keep) (codeRec_of (X.keeps F.keep) hcd) rfl hbind hcell (locs hloc) (fun h₁ hns hk₁ => ?_) hco hgen hk
  have FR : Fr (hideAll s.heap (mu.map (·.1))) s.heap.objs.size h₁ (fun x => binds.reverse.lookup x) := ⟨hns, fun b o e => hk₁ b o (of_hideAll _ e), Nat.le_of_eq (hideAll_size _ _)⟩
  have X' := X.keeps st
  have T' := T.keeps st
  refine h p loose mean mg mb _ s.heap.objs.size h₁ (A.deeper (envX qual scope s.heap.objs.size f cdv [])) _ hp (fun b o e q => hideAll_get _ e q) FR
    (fun q hq => ⟨hk₁ _ _ (N q hq).1, Nat.ne_of_lt (Heap.lt_size (N q hq).1), hideAll_none _ (List.mem_map_of_mem hq)⟩) X' T' (fun h' m' F' => ?_) (fun h' m' nw F' N' => ?_) hh (by passes_own)
  · exact ⟨p, loose, mean, mg, mb, A, base, env :: outer, _, s.heap.objs.size, m', envX qual scope s.heap.objs.size f cdv [], hp, BG, F', X', T', by rw [Around.deeper, hA]; rfl, rfl, hk, hh, by show A.depth + 1 + n < 1000; omega, by show A.units + 3 + 8 * n < 9900; omega⟩
  · exact ⟨p, loose, mean, mg, mb, A, base, env :: outer, _, s.heap.objs.size, m', envX qual scope s.heap.objs.size f cdv [], ⟨hp, BG, F', X', T', by rw [Around.deeper, hA]; rfl, rfl, hk, hh, by show A.depth + 1 + n < 1000; omega, by show A.units + 3 + 8 * n < 9900; omega⟩, N'⟩


/-- the same, with the stack below named -/
def ReadyAt (w : World) (n : Nat) (A : Around) (h : Heap) (mu : List (Addr × Obj)) (base : Heap) (stack : List Env) : Prop :=
  ∃ (p : Program) (loose : List Str) (mean : ExcName → Option Value) (mg mb : Str → Option Value) (A₀ : Around) (outer : List Env) (h₀ : Heap) (L : Addr) (m : Str → Option Value) (env : Env), stack = env :: outer ∧
    (p = jview ∧ Below A₀ base outer h₀ ∧ Fr h₀ L h m ∧ (jfrag w.params).In h₀ ∧ Top p loose mean mg mb h₀ ∧ A.frames = some (env :: outer) ∧ env.frame = some L ∧ env.scope.kind = .function ∧
    A.handled = none ∧ A.depth + n < 1000 ∧ A.units + 8 * n < 9900) ∧ News h₀ L h mu
theorem ReadyAt.toM {w : World} {n : Nat} {A : Around} {h : Heap} {mu : List (Addr × Obj)} {base : Heap} {stack : List Env} (Y : ReadyAt w n A h mu base stack) : ReadyM w n A h mu := by
  obtain ⟨p, loose, mean, mg, mb, A₀, outer, h₀, L, m, env, _, Y, N⟩ := Y
  exact ⟨p, loose, mean, mg, mb, A₀, base, outer, h₀, L, m, env, Y, N⟩
theorem ReadyM.toR {w : World} {n : Nat} {A : Around} {h : Heap} {mu : List (Addr × Obj)} (Y : ReadyM w n A h mu) : Ready w n A h := by
  obtain ⟨p, loose, mean, mg, mb, A₀, base, outer, h₀, L, m, env, Y, N⟩ := Y
  exact ⟨p, loose, mean, mg, mb, A₀, base, outer, h₀, L, m, env, Y⟩
/-- the entry of a def, where the stack below is named -/
theorem enterE {w : World} {A : Around} {s : Shared} {n : Nat} {mu : List (Addr × Obj)} {base : Heap} {stack : List Env}
    {R : Result → Shared → Prop} {name qual : Str} {params : Arguments} {body : List Stmt} {scope : Scope} {dV kV doc pm cdv ct oc : Value} {an od : Option Addr} {osl : Array (Option Value)} {f : Addr} {args : Args} (binds : List (Str × Value))
    (Y : ReadyAt w (n + 1) A s.heap mu base stack)
    (ho : (jfrag w.params).lookup f = some ⟨oc, od, .func (fnX name qual params body scope [] dV kV doc pm an cdv ct), osl⟩) (hcd : codeIn (jfrag w.params) cdv qual = true)
    (hbind : BindsTo s (fnX name qual params body scope [] dV kV doc pm an cdv ct) args binds) (hloc : (binds.all fun x => decide (scope.names.lookup x.1 = some .local)) = true)
    (hcell : ∀ x ∈ scope.names, x.2 ≠ .cell) 
    (h : ∀ p loose mean mg mb g L' h₁, p = jview → (∀ b o, s.heap.get? b = some o → b ∉ mu.map (·.1) → g.get? b = some o) → Fr g L' h₁ (fun y => binds.reverse.lookup y) → News g L' h₁ mu → Below A base stack g → (jfrag w.params).In g → Top p loose mean mg mb g →
      (∀ h' m', Fr g L' h' m' → Ready w n (A.deeper (envX qual scope L' f cdv [])) h') → (∀ h' m' nw, Fr g L' h' m' → News g L' h' nw → ReadyM w n (A.deeper (envX qual scope L' f cdv [])) h' nw) → A.handled = none → A.depth + n + 1 < 1000 → A.units + 8 * n + 8 < 9900 → 
      wpAny (model prog w) (A.deeper (envX qual scope L' f cdv [])) (execs body (envX qual scope L' f cdv []))
        (fun fl s' => R (.ok (.ret (match fl with | .ret v => v | _ => .none))) s')
        (fun e s' => wpAny (model prog w) (A.deeper (envX qual scope L' f cdv [])) (leaving (envX qual scope L' f cdv []) e) (fun _ s'' => R (.error e) s'') (fun e' s'' => R (.error e') s'') s')
        { s with heap := h₁, toks := s.toks + binds.length })
    (hco : scope.isCoroutine = false) (hgen : scope.isGenerator = false) (hk : scope.kind = .function)
     : codeAny (model prog w) A (.call (.ref f) args) R s := by
  obtain ⟨p, loose, mean, mg, mb, A₀, outer, h₀, L, m, env, rfl, ⟨hp, B, F, X, T, hA, hf, hke, hh, hd, hu⟩, N⟩ := Y
  obtain ⟨FG, BG, st, lv⟩ := groundX (R := R) B F N hA hf hke
  refine codeAny_call_def (fd := fnX name qual params body scope [] dV kV doc pm an cdv ct) (body := body) (binds := binds) (by show A.depth < 1000; omega) ((X.keeps F.keep) _ _ ho) rfl (T.nolimit.keeps F.keep) (codeRec_of (X.keeps F.keep) hcd) rfl hbind hcell (locs hloc) (fun h₁ hns hk₁ => ?_) hco hgen hk
  have FR : Fr (hideAll s.heap (mu.map (·.1))) s.heap.objs.size h₁ (fun x => binds.reverse.lookup x) := ⟨hns, fun b o e => hk₁ b o (of_hideAll _ e), Nat.le_of_eq (hideAll_size _ _)⟩
  have X' := X.keeps st
  have T' := T.keeps st
  refine h p loose mean mg mb _ s.heap.objs.size h₁ hp (fun b o e q => hideAll_get _ e q) FR
    (fun q hq => ⟨hk₁ _ _ (N q hq).1, Nat.ne_of_lt (Heap.lt_size (N q hq).1), hideAll_none _ (List.mem_map_of_mem hq)⟩) BG X' T' (fun h' m' F' => ?_) (fun h' m' nw F' N' => ?_) hh (by omega) (by omega)
  · exact ⟨p, loose, mean, mg, mb, A, base, env :: outer, _, s.heap.objs.size, m', envX qual scope s.heap.objs.size f cdv [], hp, BG, F', X', T', by rw [Around.deeper, hA]; rfl, rfl, hk, hh, by show A.depth + 1 + n < 1000; omega, by show A.units + 3 + 8 * n < 9900; omega⟩
  · exact ⟨p, loose, mean, mg, mb, A, base, env :: outer, _, s.heap.objs.size, m', envX qual scope s.heap.objs.size f cdv [], ⟨hp, BG, F', X', T', by rw [Around.deeper, hA]; rfl, rfl, hk, hh, by show A.depth + 1 + n < 1000; omega, by show A.units + 3 + 8 * n < 9900; omega⟩, N'⟩


/-- the entry of a def that turns nothing -/
theorem enter0 {w : World} {A : Around} {s : Shared} {n : Nat}
    {R : Result → Shared → Prop} {name qual : Str} {params : Arguments} {body : List Stmt} {scope : Scope} {dV kV doc pm cdv ct oc : Value} {an od : Option Addr} {osl : Array (Option Value)} {f : Addr} {args : Args} (binds : List (Str × Value))
    (Y : Ready w (n + 1) A s.heap)
    (ho : (jfrag w.params).lookup f = some ⟨oc, od, .func (fnX name qual params body scope [] dV kV doc pm an cdv ct), osl⟩) (hcd : codeIn (jfrag w.params) cdv qual = true)
    (hbind : BindsTo s (fnX name qual params body scope [] dV kV doc pm an cdv ct) args binds) (hloc : (binds.all fun x => decide (scope.names.lookup x.1 = some .local)) = true)
    (hcell : ∀ x ∈ scope.names, x.2 ≠ .cell) 
    (h : ∀ p loose mean mg mb g L' h₁ (A' : Around) (E' : Value → Shared → Prop), p = jview → Keeps s.heap g → Fr g L' h₁ (fun y => binds.reverse.lookup y) → News g L' h₁ [] → (jfrag w.params).In g → Top p loose mean mg mb g →
      (∀ h' m', Fr g L' h' m' → Ready w n A' h') → (∀ h' m' nw, Fr g L' h' m' → News g L' h' nw → ReadyM w n A' h' nw) → A'.handled = none → PassesOwn (model prog w) A' (envX qual scope L' f cdv []) E' →
      wpAny (model prog w) A' (execs body (envX qual scope L' f cdv []))
        (fun fl s' => R (.ok (.ret (match fl with | .ret v => v | _ => .none))) s')
        E' { s with heap := h₁, toks := s.toks + binds.length })
    (hco : scope.isCoroutine = false) (hgen : scope.isGenerator = false) (hk : scope.kind = .function)
     : codeAny (model prog w) A (.call (.ref f) args) R s :=
  enter binds (mu := []) Y.none ho hcd hbind hloc hcell
    (fun p loose mean mg mb g L' h₁ A' E' hp G F N X T RD RDM hA hP => h p loose mean mg mb g L' h₁ A' E' hp (fun b o e => G b o e (fun q => nomatch q)) F N X T RD RDM hA hP) hco hgen hk
/-- the same, where the def's block closes over some of its names -/
theorem enterC {w : World} {A : Around} {s : Shared} {n : Nat}
    {R : Result → Shared → Prop} {name qual : Str} {params : Arguments} {body : List Stmt} {scope : Scope} {dV kV doc pm cdv ct oc : Value} {an od : Option Addr} {osl : Array (Option Value)} {f : Addr} {args : Args} (binds : List (Str × Value))
    (Y : Ready w (n + 1) A s.heap)
    (ho : (jfrag w.params).lookup f = some ⟨oc, od, .func (fnX name qual params body scope [] dV kV doc pm an cdv ct), osl⟩) (hcd : codeIn (jfrag w.params) cdv qual = true)
    (hbind : BindsTo s (fnX name qual params body scope [] dV kV doc pm an cdv ct) args binds) (hkind : (binds.all fun y => scope.names.lookup y.1 == some .local || scope.names.lookup y.1 == some .cell) = true)
    (hnd : ((cellsFrom 0 scope.names []).map (·.1)).Nodup)
    (h : ∀ p loose mean mg mb g L' h₁ tk cells (A' : Around) (E' : Value → Shared → Prop), p = jview → Keeps s.heap g → Fr g L' h₁ (bindL (envOfC qual scope L' f cdv).kindOf binds fun _ => none) → News g L' h₁ cells → CellsAre (bindC (envOfC qual scope L' f cdv).kindOf binds fun _ => none) (cellsFrom (L' + 1) scope.names []) cells → (jfrag w.params).In g → Top p loose mean mg mb g →
      (∀ h' m', Fr g L' h' m' → Ready w n A' h') → (∀ h' m' nw, Fr g L' h' m' → News g L' h' nw → ReadyM w n A' h' nw) → A'.handled = none → PassesOwn (model prog w) A' (envOfC qual scope L' f cdv) E' →
      wpAny (model prog w) A' (execs body (envOfC qual scope L' f cdv))
        (fun fl s' => R (.ok (.ret (match fl with | .ret v => v | _ => .none))) s')
        E' { s with heap := h₁, toks := tk })
    (hco : scope.isCoroutine = false) (hgen : scope.isGenerator = false) (hk : scope.kind = .function)
     : codeAny (model prog w) A (.call (.ref f) args) R s := by
  obtain ⟨p, loose, mean, mg, mb, A₀, base, outer, h₀, L, m, env, hp, B, F, X, T, hA, hf, hke, hh, hd, hu⟩ := Y
  obtain ⟨FG, BG, st, lv⟩ := groundX (R := R) B F (News.nil (h₀ := h₀) (L := L) (h := s.heap)) hA hf hke
  have X' := (X.keeps F.keep)
  have T' : Top p loose mean mg mb s.heap := T.keeps F.keep
  refine codeAny_call_function (by show A.depth < 1000; omega) (X' _ _ ho) rfl hco hgen rfl (codeRec_of X' hcd) (hbind _ _ _ _ ?_)
  refine wpAny_newFunctionEnv_cells hk (kindsX hkind _) fun env' he s' x => ?_
  subst he
  refine ⟨T'.nolimit.keeps x.toInCall.keep, codeAny_func ?_⟩
  obtain ⟨h₁, tk, rfl, _⟩ := x.done
  obtain ⟨cells, NC, Yc⟩ := Cl.news (h₀ := s.heap) (Nat.le_refl _) fun n c hm => ⟨x.cell n c (lookup_of_mem_nodup (cellsFrom_names scope.names 0 (s.heap.objs.size + 1) [] [] rfl ▸ hnd) hm), x.above n c hm⟩
  refine h p loose mean mg mb s.heap s.heap.objs.size h₁ tk cells (A.deeper (envOfC qual scope s.heap.objs.size f cdv)) _ hp (Keeps.refl _) ⟨x.toInCall.ns, x.toInCall.keep, Nat.le_refl _⟩ NC Yc X' T' (fun h' m' F' => ?_) (fun h' m' nw F' N' => ?_) hh (by passes_own)
  · exact ⟨p, loose, mean, mg, mb, A, base, env :: outer, _, s.heap.objs.size, m', envOfC qual scope s.heap.objs.size f cdv, hp, BG, F', X', T', by rw [Around.deeper, hA]; rfl, rfl, hk, hh, by show A.depth + 1 + n < 1000; omega, by show A.units + 3 + 8 * n < 9900; omega⟩
  · exact ⟨p, loose, mean, mg, mb, A, base, env :: outer, _, s.heap.objs.size, m', envOfC qual scope s.heap.objs.size f cdv, ⟨hp, BG, F', X', T', by rw [Around.deeper, hA]; rfl, rfl, hk, hh, by show A.depth + 1 + n < 1000; omega, by show A.units + 3 + 8 * n < 9900; omega⟩, N'⟩
theorem out_keeps {h g h' : Heap} {L : Addr} {m : Str → Option Value} (G : Keeps h g) (F : Fr g L h' m) : Keeps h h' := fun b o e => F.keep b o (G b o e)
theorem out_none {h g h' : Heap} {L D : Addr} {o : Obj} {news : List (Addr × Obj)} (G : Keeps h g) (N : News g L h' news) (hm : (D, o) ∈ news) : h.get? D = none := by
  cases q : h.get? D with
  | none => rfl
  | some o' => have := (N _ hm).2.2; rw [G _ _ q] at this; cases this
theorem lst_keeps {h h' : Heap} {l : Addr} {its : Array Value} (hl : h.IsList l its) (k : Keeps h h') : h'.IsList l its := hl.at fun o e => k l o e

section
variable {prog : Program} {w : World} {A : Around} {E : Value → Shared → Prop} {s : Shared} {h₀ : Heap} {L l : Addr} {m : Str → Option Value} {news : List (Addr × Obj)} {value slice : PySem.Expr} {vs : List Value} {ns : List Int} {x y : Int} {tx ty : Tok} {Q : Value → Shared → Prop}
theorem small_size (hi : IntsAre vs ns) (hlen : ns.length < 2 ^ 20) : vs.toArray.size ≤ sizeLine := by
  rw [List.size_toArray, hi.length, sizeLine_eq]; omega
/-- a[:y] -/
theorem sl_upto (F : Fr h₀ L s.heap m) (N : News h₀ L s.heap news) (hl : s.heap.IsList l vs.toArray) (hi : IntsAre vs ns) (hlen : ns.length < 2 ^ 20) (h0 : 0 ≤ y)
    (h : ∀ D ws h', Fr h₀ L h' m → News h₀ L h' ((D, listOf (List.toArray ws) 0) :: news) → (∀ p ∈ news, p.1 < D) → IntsAre ws (ns.take y.toNat) → Q (.ref D) { s with heap := h' })
    (hs : subscripted slice false (.ref l) (.ref s.heap.objs.size) = operate [.ref s.heap.objs.size, .ref l] (getItem (.ref l) (.ref s.heap.objs.size))) (ht : ∀ r, letTemporaryGo value (.ref l) r = pure ()) :
    wpAny (model prog w) A (subscriptTail value slice (.ref l) (.ref s.heap.objs.size)) Q E { s with heap := s.heap.push { cls := .type "slice", data := .fields #[.none, .int y ty, .none] } } :=
  kmk_slice_ints F N hl .none (.int _ _) hi (kmk_upto hi h0) rfl (fun D ws h' F' N' lt hI _ _ => h D ws h' F' N' lt hI) hs ht (small_size hi hlen)
/-- a[x:y] -/
theorem sl_run (F : Fr h₀ L s.heap m) (N : News h₀ L s.heap news) (hl : s.heap.IsList l vs.toArray) (hi : IntsAre vs ns) (hlen : ns.length < 2 ^ 20) (hx : 0 ≤ x) (h0 : 0 ≤ y)
    (h : ∀ D ws h', Fr h₀ L h' m → News h₀ L h' ((D, listOf (List.toArray ws) 0) :: news) → (∀ p ∈ news, p.1 < D) → IntsAre ws ((ns.drop x.toNat).take (min y.toNat ns.length - x.toNat)) → Q (.ref D) { s with heap := h' })
    (hs : subscripted slice false (.ref l) (.ref s.heap.objs.size) = operate [.ref s.heap.objs.size, .ref l] (getItem (.ref l) (.ref s.heap.objs.size))) (ht : ∀ r, letTemporaryGo value (.ref l) r = pure ()) :
    wpAny (model prog w) A (subscriptTail value slice (.ref l) (.ref s.heap.objs.size)) Q E { s with heap := s.heap.push { cls := .type "slice", data := .fields #[.int x tx, .int y ty, .none] } } :=
  kmk_slice_ints F N hl (.int _ _) (.int _ _) hi (kmk_run hi hx h0) rfl (fun D ws h' F' N' lt hI _ _ => h D ws h' F' N' lt hI) hs ht (small_size hi hlen)
/-- a[:] -/
theorem sl_all (F : Fr h₀ L s.heap m) (N : News h₀ L s.heap news) (hl : s.heap.IsList l vs.toArray) (hi : IntsAre vs ns) (hlen : ns.length < 2 ^ 20)
    (h : ∀ D ws h', Fr h₀ L h' m → News h₀ L h' ((D, listOf (List.toArray ws) 0) :: news) → (∀ p ∈ news, p.1 < D) → IntsAre ws ns → Q (.ref D) { s with heap := h' })
    (hs : subscripted slice false (.ref l) (.ref s.heap.objs.size) = operate [.ref s.heap.objs.size, .ref l] (getItem (.ref l) (.ref s.heap.objs.size))) (ht : ∀ r, letTemporaryGo value (.ref l) r = pure ()) :
    wpAny (model prog w) A (subscriptTail value slice (.ref l) (.ref s.heap.objs.size)) Q E { s with heap := s.heap.push { cls := .type "slice", data := .fields #[.none, .none, .none] } } :=
  kmk_slice_ints F N hl .none .none hi (kmk_all hi) rfl (fun D ws h' F' N' lt hI _ _ => h D ws h' F' N' lt hI) hs ht (small_size hi hlen)
end

/-! loops, by what holds of a datum `c`: the ledger `Led c`, the frame's names `ps c` -/
def Has (m : Str → Option Value) : List (Str × Value) → Prop
  | [] => True
  | p :: r => m p.1 = some p.2 ∧ Has m r
theorem Has.all {m : Str → Option Value} : ∀ {ps : List (Str × Value)}, Has m ps → ∀ p ∈ ps, m p.1 = some p.2
  | _ :: _, h, _, .head _ => h.1
  | _ :: _, h, _, .tail _ hq => Has.all h.2 _ hq
theorem Has.eq {m : Str → Option Value} {ps : List (Str × Value)} (h : Has m ps) : m = kstB m ps := funext fun _ => (kstB_eq h.all (fun _ => rfl)).symm

def Jst {σ : Type} (Led : σ → List (Addr × Obj)) (ps : σ → List (Str × Value)) (P : σ → Prop) (m : Str → Option Value) (nx : List (Addr × Obj)) : Prop :=
  ∃ c, nx = Led c ∧ Has m (ps c) ∧ P c
def EndOf {σ : Type} (h₀ : Heap) (L : Addr) (Led : σ → List (Addr × Obj)) (ps : σ → List (Str × Value)) (P : σ → Prop) (own : List (Addr × Obj)) (s₁ s₂ : Shared) : Prop :=
  ∃ (c : σ) (h' : Heap) (tk : Nat) (m' : Str → Option Value) (news' : List (Addr × Obj)), s₂ = { s₁ with heap := h', toks := tk } ∧ Fr h₀ L h' m' ∧ News h₀ L h' news' ∧ (∀ p ∈ Led c, p ∈ news') ∧ (∀ p ∈ own, p ∈ news') ∧ Has m' (ps c) ∧ P c
theorem EndOf.intro {σ : Type} {h₀ : Heap} {L : Addr} {Led : σ → List (Addr × Obj)} {ps : σ → List (Str × Value)} {P : σ → Prop} {own : List (Addr × Obj)} {s₁ : Shared} {h' : Heap} {tk : Nat} {m' : Str → Option Value} {news' : List (Addr × Obj)} (c : σ)
    (F : Fr h₀ L h' m') (N : News h₀ L h' news') (hk : Has m' (ps c)) (hn : ∀ p ∈ Led c, p ∈ news') (ho : ∀ p ∈ own, p ∈ news') (hp : P c) : EndOf h₀ L Led ps P own s₁ { s₁ with heap := h', toks := tk } :=
  ⟨c, h', tk, m', news', rfl, F, N, hn, ho, hk, hp⟩
def TurnPost (End : Shared → Prop) (Q : Flow → Shared → Prop) (f : Flow) (s₂ : Shared) : Prop :=
  match f with
  | .ret v => Q (.ret v) s₂
  | .brk => Q .next s₂
  | _ => End s₂

section
variable {prog : Program} {w : World} {A : Around} {E : Value → Shared → Prop} {s : Shared} {env : Env} {h₀ : Heap} {x xi xc : Str} {body : List Stmt} {Q : Flow → Shared → Prop} {m₀ : Str → Option Value} {σ : Type}

theorem while_k {L : Addr} {test : PySem.Expr} {pos : Pos} (Led : σ → List (Addr × Obj)) (ps : σ → List (Str × Value)) (P : σ → Prop) (μ : σ → Nat) (c₀ : σ)
    (F : Fr h₀ L s.heap m₀) (N : News h₀ L s.heap (Led c₀)) (hk : Has m₀ (ps c₀)) (hp : P c₀)
    (turn : ∀ (c : σ) (u : Str → Option Value) h tk, P c → Fr h₀ L h (kstB u (ps c)) → News h₀ L h (Led c) →
      wpAny (model prog w) A (isTrue test env (eval test env)) (fun b s₂ =>
        if b = true then wpAny (model prog w) A (execs body env) (TurnPost (EndOf h₀ L Led ps (fun c' => P c' ∧ μ c' < μ c) [] s) Q) E s₂ else Q .next s₂) E { s with heap := h, toks := tk })
    (hE : PassesOwn (model prog w) A env E) :
    wpAny (model prog w) A (exec (.While test body [] pos) env) Q E s := by
  refine While_inv2 (fun n m nx => Jst Led ps (fun c => P c ∧ μ c = n) m nx) F N ⟨c₀, rfl, hk, hp, rfl⟩ ?_ hE
  rintro n m₁ nx h tk F₁ N₁ ⟨c, rfl, h1, hp', rfl⟩
  rw [h1.eq] at F₁
  refine wpAny_mono (turn c m₁ h tk hp' F₁ N₁) (fun b s₂ p => ?_) fun _ _ x => x
  cases b with
  | false => simpa using p
  | true =>
    simp only [if_true] at p ⊢
    refine wpAny_mono p (fun f s₃ q => ?_) fun _ _ x => x
    cases f with
    | ret v => exact q
    | brk => exact q
    | next =>
      obtain ⟨c', h', tk', m', news', rfl, F', N', hn, _, hk9, hp9, hm9⟩ := q
      exact ⟨h', tk', m', Led c', μ c', rfl, F', fun p hp => N' p (hn p hp), hm9, c', rfl, hk9, hp9, rfl⟩
    | cont =>
      obtain ⟨c', h', tk', m', news', rfl, F', N', hn, _, hk9, hp9, hm9⟩ := q
      exact ⟨h', tk', m', Led c', μ c', rfl, F', fun p hp => N' p (hn p hp), hm9, c', rfl, hk9, hp9, rfl⟩

theorem turn_invN {L : Addr} {Led : σ → List (Addr × Obj)} {ps : σ → List (Str × Value)} {P : σ → Prop} {own : List (Addr × Obj)} {adr : List Addr} {s₁ : Shared} (ha : ∀ c, (Led c).map (·.1) = adr) {f : Flow} {s₂ : Shared}
    (q : TurnPost (EndOf h₀ L Led ps P own s₁) Q f s₂) : InvPostN h₀ L (Jst Led ps P) own adr s₁ Q f s₂ := by
  have fin : EndOf h₀ L Led ps P own s₁ s₂ → InvEndN h₀ L (Jst Led ps P) own adr s₁ s₂ := by
    rintro ⟨c', h', tk', m', news', rfl, F', N', hn, ho, hk9, hp9⟩
    exact ⟨h', tk', m', news', Led c', rfl, F', N', hn, ho, ha c', c', rfl, hk9, hp9⟩
  cases f with
  | ret v => exact q
  | brk => exact q
  | next => exact fin q
  | cont => exact fin q

/-- for x in l, l a list of ints of the base -/
theorem for_list {l : Addr} {vs : List Value} {ns : List Int} {adr : List Addr} (Led : σ → List (Addr × Obj)) (ps : σ → List (Str × Value)) (P : Nat → σ → Prop) (c₀ : σ)
    (hh : A.handled = none) (hl : h₀.IsList l vs.toArray) (hi : IntsAre vs ns) (F : Fr h₀ env.locals s.heap m₀) (N : News h₀ env.locals s.heap (Led c₀)) (ha : ∀ c, (Led c).map (·.1) = adr) (hk : Has m₀ (ps c₀)) (hp : P 0 c₀)
    (turn : ∀ (c : σ) i n t (u : Str → Option Value) h tk own, ns[i]? = some n → OwnOff own adr → P i c →
      Fr h₀ env.locals h (fun y => if y = x then some (.int n t) else kstB u (ps c) y) → News h₀ env.locals h (Led c ++ own) →
      wpAny (model prog w) A (execs body env) (TurnPost (EndOf h₀ env.locals Led ps (P (i + 1)) own { s with heap := h, toks := tk }) Q) E { s with heap := h, toks := tk })
    (done : ∀ (c : σ) (u : Str → Option Value) h tk, P ns.length c → Fr h₀ env.locals h (kstB u (ps c)) → News h₀ env.locals h (Led c) → Q .next { s with heap := h, toks := tk }) :
    wpAny (model prog w) A (pyIter (.ref l)) (fun it s₂ => LoopAtV prog w A h₀ env x body Q E it s₂) E s := by
  refine iter_invN (fun i m nx => Jst Led ps (P i) m nx) hh hl hi F N ⟨c₀, rfl, hk, hp⟩ ?_ ?_
  · rintro i n t m₁ nx h tk own hn _ hoff ⟨c, rfl, h1, hp'⟩ F₁ N₁
    rw [h1.eq] at F₁
    rw [ha] at hoff ⊢
    exact wpAny_mono (turn c i n t m₁ h tk own hn hoff hp' F₁ N₁) (fun f s₂ p => turn_invN ha p) fun _ _ x => x
  · rintro m₁ nx h tk ⟨c, rfl, h1, hp'⟩ F₁ N₁
    rw [h1.eq] at F₁
    exact done c m₁ h tk hp' F₁ N₁

/-- for x in l, l a list of ints of the frame's own that the loop does not turn -/
theorem for_own {l : Addr} {vs : List Value} {ns : List Int} {adr : List Addr} (Led : σ → List (Addr × Obj)) (ps : σ → List (Str × Value)) (P : Nat → σ → Prop) (c₀ : σ)
    (hh : A.handled = none) (hls : s.heap.IsList l vs.toArray) (hlL : l ≠ env.locals) (hla : l ∉ adr) (hi : IntsAre vs ns) (F : Fr h₀ env.locals s.heap m₀) (N : News h₀ env.locals s.heap (Led c₀)) (ha : ∀ c, (Led c).map (·.1) = adr) (hk : Has m₀ (ps c₀)) (hp : P 0 c₀)
    (turn : ∀ (c : σ) i n t (u : Str → Option Value) h tk own, ns[i]? = some n → OwnOff own adr → P i c →
      Fr h₀ env.locals h (fun y => if y = x then some (.int n t) else kstB u (ps c) y) → News h₀ env.locals h (Led c ++ own) →
      wpAny (model prog w) A (execs body env) (TurnPost (EndOf h₀ env.locals Led ps (P (i + 1)) own { s with heap := h, toks := tk }) Q) E { s with heap := h, toks := tk })
    (done : ∀ (c : σ) (u : Str → Option Value) h tk, P ns.length c → Fr h₀ env.locals h (kstB u (ps c)) → News h₀ env.locals h (Led c) → Q .next { s with heap := h, toks := tk }) :
    wpAny (model prog w) A (pyIter (.ref l)) (fun it s₂ => LoopAtV prog w A h₀ env x body Q E it s₂) E s := by
  have hlt : l < s.heap.objs.size := by
    obtain ⟨o, ho, _⟩ := hls
    exact Heap.lt_size ho
  have hnl : ∀ p ∈ Led c₀, p.1 ≠ l := fun p hp e => hla (by rw [← ha c₀, ← e]; exact List.mem_map_of_mem hp)
  have hni : ∀ p ∈ Led c₀, p.1 ≠ s.heap.objs.size := fun p hp => Nat.ne_of_lt (Heap.lt_size (N p hp).1)
  have W := Walks.list (prog := prog) (w := w) hh s.heap.objs.size l (Nat.ne_of_lt hlt) vs.toArray
  rw [show vs.toArray.size = ns.length by rw [List.size_toArray, hi.length]] at W
  refine wpAny_pyIter_list hls (loop_invN (fun i m nx => Jst Led ps (P i) m nx) W ?_ ?_ ?_ ?_ ⟨⟨_, Heap.get?_push_size _ rfl, rfl, rfl⟩, hls.at fun o e => Heap.get?_push_of_some _ e⟩ (F.push _) (fun p hp => ⟨Heap.get?_push_of_some _ (N p hp).1, (N p hp).2⟩) ⟨c₀, rfl, hk, hp⟩ ?_ ?_)
  · intro hm
    rcases List.mem_cons.mp hm with e | hm
    · exact Nat.ne_of_lt F.ns.lt e
    · exact hlL (List.mem_singleton.mp hm).symm
  · intro b hb
    rw [List.mem_singleton.mp hb]; exact next_is_new F
  · intro p hp hb
    exact hni p hp (List.mem_singleton.mp hb)
  · intro p hp hb
    rcases List.mem_cons.mp hb with e | hb
    · exact hni p hp e
    · exact hnl p hp (List.mem_singleton.mp hb)
  · rintro i v m₁ nx h tk own hin hP _ hoff ⟨c, rfl, h1, hp'⟩ F₁ N₁
    rw [h1.eq] at F₁
    rw [ha] at hoff ⊢
    obtain ⟨t, hx⟩ := hi.get i ns[i] (by simp [hin])
    have hP' : vs[i]? = some v := by simpa using hP
    obtain rfl := Option.some.inj (hx.symm.trans hP')
    exact wpAny_mono (turn c i ns[i] t m₁ h tk own (by simp [hin]) hoff hp' F₁ N₁) (fun f s₂ p => turn_invN ha p) fun _ _ x => x
  · rintro m₁ nx h tk ⟨c, rfl, h1, hp'⟩ F₁ N₁
    rw [h1.eq] at F₁
    exact done c m₁ h tk hp' F₁ N₁

/-- for x in range(a, b, ±1) -/
theorem for_rangeS {r : Addr} {a₀ b₀ d : Int} {t₀ u₀ v₀ : Tok} {n : Nat} {adr : List Addr} (Led : σ → List (Addr × Obj)) (ps : σ → List (Str × Value)) (P : Nat → σ → Prop) (c₀ : σ)
    (hh : A.handled = none) (hr : IsRange s.heap r a₀ b₀ d t₀ u₀ v₀) (hsmall : Builtin.Range.small a₀ b₀ d = true) (hn : Builtin.Range.rangeSize a₀ b₀ d = (n : Int)) (F : Fr h₀ env.locals s.heap m₀) (N : News h₀ env.locals s.heap (Led c₀)) (ha : ∀ c, (Led c).map (·.1) = adr) (hk : Has m₀ (ps c₀)) (hp : P 0 c₀)
    (turn : ∀ (c : σ) i t (u : Str → Option Value) h tk own, i < n → OwnOff own adr → P i c →
      Fr h₀ env.locals h (fun y => if y = x then some (.int (a₀ + i * d) t) else kstB u (ps c) y) → News h₀ env.locals h (Led c ++ own) →
      wpAny (model prog w) A (execs body env) (TurnPost (EndOf h₀ env.locals Led ps (P (i + 1)) own { s with heap := h, toks := tk }) Q) E { s with heap := h, toks := tk })
    (done : ∀ (c : σ) (u : Str → Option Value) h tk, P n c → Fr h₀ env.locals h (kstB u (ps c)) → News h₀ env.locals h (Led c) → Q .next { s with heap := h, toks := tk }) :
    wpAny (model prog w) A (pyIter (.ref r)) (fun it s₂ => LoopAtV prog w A h₀ env x body Q E it s₂) E s := by
  refine wpAny_pyIter_range hr hsmall ?_
  have W : Walks prog w A s.heap.objs.size [s.heap.objs.size] [s.heap.objs.size] n (fun i v => i < n ∧ ∃ t, v = .int (a₀ + i * d) t)
      (fun i h => IsRangeIter h s.heap.objs.size (a₀ + (i : Nat) * d) ((n : Int) - (i : Nat)) d) := (Walks.range hh _ a₀ d n).bound
  refine loop_invN (fun i m nx => Jst Led ps (P i) m nx) W ?_ ?_ ?_ ?_ (by show IsRangeIter _ _ _ _ _; rw [hn]; simpa using Heap.get?_push_size _ rfl) (F.push _) (fun p hp => ⟨Heap.get?_push_of_some _ (N p hp).1, (N p hp).2⟩) ⟨c₀, rfl, hk, hp⟩ ?_ ?_
  · intro hm
    exact absurd F.ns.lt ((List.mem_singleton.mp hm) ▸ Nat.lt_irrefl _)
  · intro b hb
    rw [List.mem_singleton.mp hb]
    exact next_is_new F
  · intro p hp hI
    exact absurd (Heap.lt_size (N p hp).1) ((List.mem_singleton.mp hI) ▸ Nat.lt_irrefl _)
  · intro p hp hI
    exact absurd (Heap.lt_size (N p hp).1) ((List.mem_singleton.mp hI) ▸ Nat.lt_irrefl _)
  · rintro i v m₁ nx h tk own hi ⟨_, t, rfl⟩ _ hoff ⟨c, rfl, h1, hp'⟩ F₁ N₁
    rw [h1.eq] at F₁
    rw [ha] at hoff ⊢
    exact wpAny_mono (turn c i t m₁ h tk own hi hoff hp' F₁ N₁) (fun f s₂ p => turn_invN ha p) fun _ _ x => x
  · rintro m₁ nx h tk ⟨c, rfl, h1, hp'⟩ F₁ N₁
    rw [h1.eq] at F₁
    exact done c m₁ h tk hp' F₁ N₁

/-- for i, x in enumerate(l), l a list of ints of the base -/
theorem for_enum {ns : List Int} {adr : List Addr} {xv : Value} {news : List (Addr × Obj)} (Led : σ → List (Addr × Obj)) (ps : σ → List (Str × Value)) (P : Nat → σ → Prop) (c₀ : σ)
    (S : PairSrc prog w A E h₀ env ItemKind.int ns xv s m₀ news) (hnews : news = Led c₀) (ha : ∀ c, (Led c).map (·.1) = adr) (hk : Has m₀ (ps c₀)) (hp : P 0 c₀)
    (turn : ∀ (c : σ) i n ti t (u : Str → Option Value) h tk own, ns[i]? = some n → OwnOff own adr → P i c →
      Fr h₀ env.locals h (fun y => if y = xc then some (.int n t) else if y = xi then some (.int (i : Int) ti) else kstB u (ps c) y) → News h₀ env.locals h (Led c ++ own) →
      wpAny (model prog w) A (execs body env) (TurnPost (EndOf h₀ env.locals Led ps (P (i + 1)) own { s with heap := h, toks := tk }) Q) E { s with heap := h, toks := tk })
    (done : ∀ (c : σ) (u : Str → Option Value) h tk, P ns.length c → Fr h₀ env.locals h (kstB u (ps c)) → News h₀ env.locals h (Led c) → Q .next { s with heap := h, toks := tk }) :
    wpAny (model prog w) A (pyIter xv) (fun it s₂ => PairAt3 prog w A h₀ env xi xc body Q E it s₂) E s := by
  subst hnews
  refine S xi xc body Q (fun i m nx => Jst Led ps (P i) m nx) ⟨c₀, rfl, hk, hp⟩ ?_ ?_
  · rintro i n t v m₁ nx s₁ own ⟨h, tk, rfl⟩ hn ⟨tv, rfl⟩ ⟨c, rfl, h1, hp'⟩ _ hoff F₁ N₁
    rw [h1.eq] at F₁
    have hoff' : OwnOff own adr := fun p hp b hb => by
      rw [← ha c₀] at hb
      obtain ⟨q, hq, rfl⟩ := List.mem_map.mp hb
      exact hoff p hp q hq
    have N₂ : News h₀ env.locals h (Led c ++ own) := fun p hp => N₁ p (List.mem_append.mpr ((List.mem_append.mp hp).symm))
    refine wpAny_mono (turn c i n t tv m₁ h tk own hn hoff' hp' F₁ N₂) (fun f s₂ q => ?_) fun _ _ x => x
    have fin : EndOf h₀ env.locals Led ps (P (i + 1)) own { s with heap := h, toks := tk } s₂ → LoopStep2 h₀ env.locals own (Led c) (Jst Led ps (P (i + 1))) { s with heap := h, toks := tk } .next s₂ := by
      rintro ⟨c', h', tk', m', news', rfl, F', N', hn', ho, hk9, hp9⟩
      exact LoopStep2.intro F' (fun p hp => N' p ((List.mem_append.mp hp).elim (ho p) (hn' p))) ((ha c').trans (ha c).symm) ⟨c', rfl, hk9, hp9⟩
    cases f with
    | ret v => exact q
    | brk => exact q
    | next => exact fin q
    | cont => exact fin q
  · rintro h' tk m' nx F' N' _ ⟨c, rfl, h1, hp'⟩
    rw [h1.eq] at F'
    exact done c m' h' tk hp' F' N'
/-- the same, where the ledger holds one object more, that the loop does not turn -/
theorem for_enum1 {ns : List Int} {adr : List Addr} {xv : Value} {news : List (Addr × Obj)} {X : Addr × Obj} (Led : σ → List (Addr × Obj)) (ps : σ → List (Str × Value)) (P : Nat → σ → Prop) (c₀ : σ)
    (S : PairSrc prog w A E h₀ env ItemKind.int ns xv s m₀ news) (hnews : news = X :: Led c₀) (hX : ∀ a ∈ adr, X.1 ≠ a) (ha : ∀ c, (Led c).map (·.1) = adr) (hk : Has m₀ (ps c₀)) (hp : P 0 c₀)
    (turn : ∀ (c : σ) i n ti t (u : Str → Option Value) h tk own, ns[i]? = some n → OwnOff own adr → P i c →
      Fr h₀ env.locals h (fun y => if y = xc then some (.int n t) else if y = xi then some (.int (i : Int) ti) else kstB u (ps c) y) → News h₀ env.locals h (Led c ++ own) →
      wpAny (model prog w) A (execs body env) (TurnPost (EndOf h₀ env.locals Led ps (P (i + 1)) own { s with heap := h, toks := tk }) Q) E { s with heap := h, toks := tk })
    (done : ∀ (c : σ) (u : Str → Option Value) h tk, P ns.length c → Fr h₀ env.locals h (kstB u (ps c)) → News h₀ env.locals h (Led c) → Q .next { s with heap := h, toks := tk }) :
    wpAny (model prog w) A (pyIter xv) (fun it s₂ => PairAt3 prog w A h₀ env xi xc body Q E it s₂) E s := by
  refine for_enum (adr := X.1 :: adr) (fun c => X :: Led c) ps P c₀ S hnews (fun c => by rw [List.map_cons, ha]) hk hp ?_ ?_
  · intro c i n ti t u h tk own hi ho hp' F N
    refine wpAny_mono (turn c i n ti t u h tk (X :: own) hi (fun p hp b hb => ?_) hp' F (fun p hp => N p ?_)) (fun f s₂ q => ?_) fun _ _ x => x
    · rcases List.mem_cons.mp hp with rfl | hp
      · exact hX b hb
      · exact ho p hp b (.tail _ hb)
    · rcases List.mem_append.mp hp with hp | hp
      · exact .tail _ (List.mem_append_left _ hp)
      · rcases List.mem_cons.mp hp with rfl | hp
        · exact .head _
        · exact .tail _ (List.mem_append_right _ hp)
    · have fin : EndOf h₀ env.locals Led ps (P (i + 1)) (X :: own) { s with heap := h, toks := tk } s₂ → EndOf h₀ env.locals (fun c => X :: Led c) ps (P (i + 1)) own { s with heap := h, toks := tk } s₂ := by
        rintro ⟨c', h', tk', m', news', e, F', N', hn, ho, hk9, hp9⟩
        exact ⟨c', h', tk', m', news', e, F', N', fun p hp => (List.mem_cons.mp hp).elim (fun e => e ▸ ho _ (.head _)) (hn p), fun p hp => ho p (.tail _ hp), hk9, hp9⟩
      cases f with
      | ret v => exact q
      | brk => exact q
      | next => exact fin q
      | cont => exact fin q
  · intro c u h tk hp' F N
    exact done c u h tk hp' F (fun p hp => N p (.tail _ hp))
end

/-! what is kept -/
theorem fr_keeps {h₀ h h' : Heap} {L : Addr} {m : Str → Option Value} (F : Fr h₀ L h m) (k : Keeps h h') : Fr h₀ L h' m := ⟨F.ns.at' fun o e => k _ o e, fun b o e => k b o (F.keep b o e), F.above⟩
theorem news_keeps {h₀ h h' : Heap} {L : Addr} {news : List (Addr × Obj)} (N : News h₀ L h news) (k : Keeps h h') : News h₀ L h' news := fun p hp => ⟨k _ _ (N p hp).1, (N p hp).2⟩
theorem news_add {h₀ h h' : Heap} {L l : Addr} {o : Obj} {m : Str → Option Value} {news : List (Addr × Obj)} (F : Fr h₀ L h m) (N : News h₀ L h news) (k : Keeps h h') (hn : h.get? l = none) (ho : h'.get? l = some o) : News h₀ L h' ((l, o) :: news) := by
  intro p hp
  rcases List.mem_cons.mp hp with rfl | hp
  · refine ⟨ho, fun e => ?_, ?_⟩
    · obtain ⟨oL, _, _, hL, _⟩ := F.ns
      have e' : l = L := e
      rw [e', hL] at hn; cases hn
    · cases q : h₀.get? l with
      | none => rfl
      | some o => rw [F.keep _ _ q] at hn; cases hn
  · exact news_keeps N k p hp
theorem news_addB {h₀ h h' : Heap} {L l : Addr} {o : Obj} {m m' : Str → Option Value} {news : List (Addr × Obj)} (F : Fr h₀ L h m) (_F' : Fr h₀ L h' m') (N : News h₀ L h' news) (hn : h.get? l = none) (ho : h'.get? l = some o) : News h₀ L h' ((l, o) :: news) := by
  intro p hp
  rcases List.mem_cons.mp hp with rfl | hp
  · refine ⟨ho, fun e => ?_, ?_⟩
    · obtain ⟨oL, _, _, hL, _⟩ := F.ns
      have e' : l = L := e
      rw [e', hL] at hn; cases hn
    · cases q : h₀.get? l with
      | none => rfl
      | some o => rw [F.keep _ _ q] at hn; cases hn
  · exact N p hp
theorem news_add2 {h₀ h h' : Heap} {L l l₂ : Addr} {o o₂ : Obj} {m : Str → Option Value} {news : List (Addr × Obj)} (F : Fr h₀ L h m) (N : News h₀ L h news) (k : Keeps h h') (hn : h.get? l = none) (ho : h'.get? l = some o) (hn₂ : h.get? l₂ = none) (ho₂ : h'.get? l₂ = some o₂) : News h₀ L h' ((l, o) :: (l₂, o₂) :: news) := by
  intro p hp
  rcases List.mem_cons.mp hp with rfl | hp
  · exact news_add F N k hn ho _ (.head _)
  · exact news_add F N k hn₂ ho₂ p hp
theorem news_off {h₀ h : Heap} {L l : Addr} {news : List (Addr × Obj)} (N : News h₀ L h news) (hn : h.get? l = none) : ∀ p ∈ news, p.1 ≠ l := fun p hp e => by
  have := (N p hp).1; rw [e, hn] at this; cases this

/-- what is kept but for one object -/
def KeepsBut (D : Addr) (h h' : Heap) : Prop := ∀ b o, h.get? b = some o → b ≠ D → h'.get? b = some o
theorem fr_but {h₀ h h' : Heap} {L D : Addr} {o : Obj} {m : Str → Option Value} {news : List (Addr × Obj)} (F : Fr h₀ L h m) (N : News h₀ L h news) (hm : (D, o) ∈ news) (k : KeepsBut D h h') : Fr h₀ L h' m :=
  ⟨F.ns.at' fun o e => k _ o e (fun q => (N _ hm).2.1 q.symm), fun b o' e => k b o' (F.keep b o' e) (fun q => by subst q; have := (N _ hm).2.2; rw [this] at e; cases e), F.above⟩
theorem news_but {h₀ h h' : Heap} {L D : Addr} {o o' : Obj} {news news' : List (Addr × Obj)} (N : News h₀ L h news) (hm : (D, o) ∈ news) (k : KeepsBut D h h') (ho : h'.get? D = some o') (hn : ∀ p ∈ news', p ∈ news ∧ p.1 ≠ D) : News h₀ L h' ((D, o') :: news') := by
  intro p hp
  rcases List.mem_cons.mp hp with rfl | hp
  · exact ⟨ho, (N _ hm).2⟩
  · exact ⟨k _ _ (N p (hn p hp).1).1 (hn p hp).2, (N p (hn p hp).1).2⟩
theorem out_but {h g h' : Heap} {D : Addr} {mu : List (Addr × Obj)} (hD : ∀ q ∈ mu.map (·.1), q = D) (G : ∀ b o, h.get? b = some o → b ∉ mu.map (·.1) → g.get? b = some o) (k : Keeps g h') : KeepsBut D h h' :=
  fun b o e hb => k b o (G b o e fun q => hb (hD _ q))
theorem news_one {h₀ h : Heap} {L : Addr} {news : List (Addr × Obj)} {p : Addr × Obj} (N : News h₀ L h news) (hm : p ∈ news) : News h₀ L h [p] := fun q hq => N q ((List.mem_singleton.mp hq) ▸ hm)
theorem news_sub {h₀ h : Heap} {L : Addr} {news news' : List (Addr × Obj)} (N : News h₀ L h news) (hm : ∀ p ∈ news', p ∈ news) : News h₀ L h news' := fun q hq => N q (hm q hq)
theorem name_at {h₀ h : Heap} {L D : Addr} {o : Obj} {m : Str → Option Value} {news : List (Addr × Obj)} (_F : Fr h₀ L h m) (x : Str) (hx : m x = some (.ref D)) (N : News h₀ L h news) (hm : (D, o) ∈ news) :
    ∃ D, m x = some (.ref D) ∧ News h₀ L h [(D, o)] ∧ (D, o) ∈ news := ⟨D, hx, news_one N hm, hm⟩

theorem name_at2 {h₀ h : Heap} {L D l : Addr} {o o2 : Obj} {m : Str → Option Value} {news : List (Addr × Obj)} (_F : Fr h₀ L h m) (x : Str) (hx : m x = some (.ref D)) (N : News h₀ L h news) (hm : (D, o) ∈ news) (hm2 : (l, o2) ∈ news) (lt : l < D) :
    ∃ D, m x = some (.ref D) ∧ News h₀ L h [(D, o), (l, o2)] ∧ @LT.lt Nat _ l D :=
  ⟨D, hx, fun p hp => N p ((List.mem_cons.mp hp).elim (fun e => e ▸ hm) fun q => (List.mem_singleton.mp q) ▸ hm2), lt⟩

/-- ways that meet: the rest is shown once -/
theorem Join.mk {M : Model} {A : Around} {α : Type} {t : Sem α} {Q : α → Shared → Prop} {E : Value → Shared → Prop} {G : Prop} (P : Shared → Prop) (main : ∀ s', P s' → wpAny M A t Q E s') (body : (∀ s', P s' → wpAny M A t Q E s') → G) : G := body main
def Halt (P : Prop) : Prop := P
theorem halt {P : Prop} (h : Halt P) : P := h
theorem Halt.go {P : Prop} (h : P) : Halt P := h

theorem or_low {a g W : Nat} (hg : g < 2 ^ W) : Builtin.bitOr ((a * 2 ^ W : Nat) : Int) (g : Int) = ((a * 2 ^ W + g : Nat) : Int) := by
  have key : ∀ (W a g : Nat), g < 2 ^ W → Builtin.bitAnd ((a * 2 ^ W : Nat) : Int) (g : Int) = 0 := by
    intro W
    induction W with
    | zero => intro a g hg; have : g = 0 := by simpa using hg
              subst this; simp [Builtin.bitAnd]
    | succ W ih =>
      intro a g hg
      rw [kbt_halves]
      have e1 : ((a * 2 ^ (W + 1) : Nat) : Int) / 2 = ((a * 2 ^ W : Nat) : Int) := by rw [Nat.pow_succ, ← Nat.mul_assoc]; omega
      have e2 : (g : Int) / 2 = ((g / 2 : Nat) : Int) := by omega
      have e3 : ((a * 2 ^ (W + 1) : Nat) : Int) % 2 = 0 := by rw [Nat.pow_succ, ← Nat.mul_assoc]; omega
      rw [e1, e2, ih a (g / 2) (by rw [Nat.pow_succ] at hg; omega), e3]
      simp
  rw [bitOr_and, key W a g hg]
  omega
theorem or_high {c a W : Nat} (hc : c < 2 ^ W) : Builtin.bitOr (c : Int) ((a * 2 ^ W : Nat) : Int) = ((c + a * 2 ^ W : Nat) : Int) := by
  rw [bitOr_comm, or_low hc, Nat.add_comm]
theorem and_mask {c W : Nat} : Builtin.bitAnd (c : Int) (1 * 2 ^ (Int.toNat (W : Int)) - 1) = ((c % 2 ^ W : Nat) : Int) := by
  rw [Int.one_mul, Int.toNat_natCast, kbt_mask, ← kbt_cast, Int.natCast_emod]
section
variable {prog : Program} {w : World} {A : Around} {E : Value → Shared → Prop} {s : Shared} {a b : Int} {t u : Tok} {Q : Value → Shared → Prop}
theorem r_orN {a g W : Nat} (hg : g < 2 ^ W) (h : Q (.int ((a * 2 ^ W + g : Nat) : Int) s.toks) { s with toks := s.toks + 1 }) : wpAny (model prog w) A (binaryOp .BitOr (.int ((a * 2 ^ W : Nat) : Int) t) (.int (g : Int) u)) Q E s :=
  PyProof.Rows.or_int (by rw [or_low hg]; exact h)
theorem r_orH {a g W : Nat} (hg : g < 2 ^ W) (h : Q (.int ((g + a * 2 ^ W : Nat) : Int) s.toks) { s with toks := s.toks + 1 }) : wpAny (model prog w) A (binaryOp .BitOr (.int (g : Int) t) (.int ((a * 2 ^ W : Nat) : Int) u)) Q E s :=
  PyProof.Rows.or_int (by rw [or_high hg]; exact h)
theorem r_iorH {a g W : Nat} (hg : g < 2 ^ W) (h : Q (.int ((g + a * 2 ^ W : Nat) : Int) s.toks) { s with toks := s.toks + 1 }) : wpAny (model prog w) A (inplaceOp .BitOr (.int (g : Int) t) (.int ((a * 2 ^ W : Nat) : Int) u)) Q E s :=
  PyProof.Rows.ior_int (by rw [or_high hg]; exact h)
theorem r_andM {c W : Nat} (h : Q (.int ((c % 2 ^ W : Nat) : Int) s.toks) { s with toks := s.toks + 1 }) : wpAny (model prog w) A (binaryOp .BitAnd (.int (c : Int) t) (.int (1 * 2 ^ (Int.toNat (W : Int)) - 1) u)) Q E s :=
  PyProof.Rows.and_int (by rw [and_mask]; exact h)
theorem r_subN {a b : Nat} (hab : b ≤ a) (h : Q (.int ((a - b : Nat) : Int) s.toks) { s with toks := s.toks + 1 }) : wpAny (model prog w) A (binaryOp .Sub (.int (a : Int) t) (.int (b : Int) u)) Q E s :=
  P.sub_int (by rw [← Int.ofNat_sub hab]; exact h)
theorem r_addN {a b : Nat} (h : Q (.int ((a + b : Nat) : Int) s.toks) { s with toks := s.toks + 1 }) : wpAny (model prog w) A (binaryOp .Add (.int (a : Int) t) (.int (b : Int) u)) Q E s :=
  PyProof.Rows.add_int (by rw [← Int.natCast_add]; exact h)
theorem r_add1N {a : Nat} (h : Q (.int ((a + 1 : Nat) : Int) s.toks) { s with toks := s.toks + 1 }) : wpAny (model prog w) A (binaryOp .Add (.int (a : Int) t) (.int 1 u)) Q E s :=
  PyProof.Rows.add_int (by rw [Int.natCast_add] at h; exact h)
theorem pow_lit (W : Nat) : (1 : Int) * 2 ^ (Int.toNat (W : Int)) = ((2 ^ W : Nat) : Int) := by
  rw [Int.one_mul, Int.toNat_natCast, kbt_cast]
theorem r_andM2 {c W : Nat} (h : Q (.int ((c % 2 ^ W : Nat) : Int) s.toks) { s with toks := s.toks + 1 }) : wpAny (model prog w) A (binaryOp .BitAnd (.int (c : Int) t) (.int (((2 ^ W : Nat) : Int) - 1) u)) Q E s :=
  PyProof.Rows.and_int (by rw [← pow_lit, and_mask]; exact h)
theorem r_iaddN {a b : Nat} (h : Q (.int ((a + b : Nat) : Int) s.toks) { s with toks := s.toks + 1 }) : wpAny (model prog w) A (inplaceOp .Add (.int (a : Int) t) (.int (b : Int) u)) Q E s :=
  PyProof.Rows.iadd_int (by rw [← Int.natCast_add]; exact h)
theorem r_2addN {a : Nat} (h : Q (.int ((2 + a : Nat) : Int) s.toks) { s with toks := s.toks + 1 }) : wpAny (model prog w) A (binaryOp .Add (.int 2 t) (.int (a : Int) u)) Q E s :=
  PyProof.Rows.add_int (by rw [Int.natCast_add] at h; exact h)
theorem r_imodN {a b : Nat} (hb : b ≠ 0) (h : Q (.int ((a % b : Nat) : Int) s.toks) { s with toks := s.toks + 1 }) : wpAny (model prog w) A (inplaceOp .Mod (.int (a : Int) t) (.int (b : Int) u)) Q E s :=
  PyProof.Rows.imod_int (by omega) (by rw [← Int.ofNat_fmod]; exact h)
theorem r_ishrN {a b : Nat} (h : Q (.int ((a / 2 ^ b : Nat) : Int) s.toks) { s with toks := s.toks + 1 }) : wpAny (model prog w) A (inplaceOp .RShift (.int (a : Int) t) (.int (b : Int) u)) Q E s :=
  PyProof.Rows.irshift_int (by omega) (by rw [Int.toNat_natCast, ← kbt_cast, ← Int.ofNat_fdiv]; exact h)
theorem r_mulL (ha : a.natAbs < 2 ^ 62) (h : Q (.int (a * b) s.toks) { s with toks := s.toks + 1 }) : wpAny (model prog w) A (binaryOp .Mult (.int a t) (.int b u)) Q E s :=
  PyProof.Rows.mul_int h (.of_left (intBits_le_iff.mpr (Nat.lt_trans ha (by decide))))
theorem r_mulR (ha : b.natAbs < 2 ^ 62) (h : Q (.int (a * b) s.toks) { s with toks := s.toks + 1 }) : wpAny (model prog w) A (binaryOp .Mult (.int a t) (.int b u)) Q E s :=
  PyProof.Rows.mul_int h (.of_right (intBits_le_iff.mpr (Nat.lt_trans ha (by decide))))
theorem r_fdiv (hb : b ≠ 0) (hs : b.natAbs < 2 ^ 30) (h : Q (.int (a.fdiv b) s.toks) { s with toks := s.toks + 1 }) : wpAny (model prog w) A (binaryOp .FloorDiv (.int a t) (.int b u)) Q E s :=
  PyProof.Rows.floordiv_int hb h (.inl (PyProof.noPylong_small hs))
theorem r_mod (hb : b ≠ 0) (h : Q (.int (a.fmod b) s.toks) { s with toks := s.toks + 1 }) : wpAny (model prog w) A (binaryOp .Mod (.int a t) (.int b u)) Q E s :=
  PyProof.Rows.mod_int' hb h
theorem r_imod (hb : b ≠ 0) (h : Q (.int (a.fmod b) s.toks) { s with toks := s.toks + 1 }) : wpAny (model prog w) A (inplaceOp .Mod (.int a t) (.int b u)) Q E s :=
  PyProof.Rows.imod_int hb h
theorem r_shl (hb : 0 ≤ b) (hs : b ≤ 1000000) (ha : a.natAbs < 2 ^ 64) (h : Q (.int (a * 2 ^ b.toNat) s.toks) { s with toks := s.toks + 1 }) : wpAny (model prog w) A (binaryOp .LShift (.int a t) (.int b u)) Q E s :=
  PyProof.Rows.lshift_int_small hb hs ha h
theorem r_shr (hb : 0 ≤ b) (h : Q (.int (a.fdiv (2 ^ b.toNat)) s.toks) { s with toks := s.toks + 1 }) : wpAny (model prog w) A (binaryOp .RShift (.int a t) (.int b u)) Q E s :=
  PyProof.Rows.rshift_int hb h
theorem r_fdivN {a b : Nat} (hb : b ≠ 0) (hs : b < 2 ^ 30) (h : Q (.int ((a / b : Nat) : Int) s.toks) { s with toks := s.toks + 1 }) : wpAny (model prog w) A (binaryOp .FloorDiv (.int (a : Int) t) (.int (b : Int) u)) Q E s :=
  r_fdiv (by omega) (by omega) (by rw [← Int.ofNat_fdiv]; exact h)
theorem r_modN {a b : Nat} (hb : b ≠ 0) (h : Q (.int ((a % b : Nat) : Int) s.toks) { s with toks := s.toks + 1 }) : wpAny (model prog w) A (binaryOp .Mod (.int (a : Int) t) (.int (b : Int) u)) Q E s :=
  r_mod (by omega) (by rw [← Int.ofNat_fmod]; exact h)
theorem r_shlN {a b : Nat} (hs : b ≤ 1000000) (ha : a < 2 ^ 64) (h : Q (.int ((a * 2 ^ b : Nat) : Int) s.toks) { s with toks := s.toks + 1 }) : wpAny (model prog w) A (binaryOp .LShift (.int (a : Int) t) (.int (b : Int) u)) Q E s :=
  r_shl (by omega) (by omega) (by omega) (by rw [Int.toNat_natCast, ← kbt_cast, ← Int.natCast_mul]; exact h)
theorem r_shl0 {b : Nat} (hs : b ≤ 1000000) (h : Q (.int ((0 * 2 ^ b : Nat) : Int) s.toks) { s with toks := s.toks + 1 }) : wpAny (model prog w) A (binaryOp .LShift (.int 0 t) (.int (b : Int) u)) Q E s :=
  r_shl (by omega) (by omega) (by decide) (by rw [Int.zero_mul]; rw [Nat.zero_mul] at h; exact h)
theorem r_shl1 {b : Nat} (hs : b ≤ 1000000) (h : Q (.int ((2 ^ b : Nat) : Int) s.toks) { s with toks := s.toks + 1 }) : wpAny (model prog w) A (binaryOp .LShift (.int 1 t) (.int (b : Int) u)) Q E s :=
  r_shl (by omega) (by omega) (by decide) (by rw [pow_lit]; exact h)
theorem r_shrN {a b : Nat} (h : Q (.int ((a / 2 ^ b : Nat) : Int) s.toks) { s with toks := s.toks + 1 }) : wpAny (model prog w) A (binaryOp .RShift (.int (a : Int) t) (.int (b : Int) u)) Q E s :=
  r_shr (by omega) (by rw [Int.toNat_natCast, ← kbt_cast, ← Int.ofNat_fdiv]; exact h)
theorem r_mulN {a b : Nat} (ha : a < 2 ^ 62 ∨ b < 2 ^ 62) (h : Q (.int ((a * b : Nat) : Int) s.toks) { s with toks := s.toks + 1 }) : wpAny (model prog w) A (binaryOp .Mult (.int (a : Int) t) (.int (b : Int) u)) Q E s :=
  ha.elim (fun ha => r_mulL (by omega) (by rw [← Int.natCast_mul]; exact h)) (fun ha => r_mulR (by omega) (by rw [← Int.natCast_mul]; exact h))
theorem r_2mulN {a : Nat} (h : Q (.int ((2 * a : Nat) : Int) s.toks) { s with toks := s.toks + 1 }) : wpAny (model prog w) A (binaryOp .Mult (.int 2 t) (.int (a : Int) u)) Q E s :=
  r_mulL (by decide) (by rw [Int.natCast_mul] at h; exact h)
theorem r_neEq (h0 : a = b) (h : Q (.bool false) s) : wpAny (model prog w) A (compareOp .NotEq (.int a t) (.int b u)) Q E s :=
  PyProof.Rows.ne_int (by rw [h0, bne_self_eq_false]; exact h)
theorem r_itemN {value slice : PySem.Expr} {l : Addr} {vs : List Value} {ns : List Int} {j : Nat} {v : Int} (hl : s.heap.IsList l vs.toArray) (hi : IntsAre vs ns) (hf : j < 2 ^ 62) (hj : ns[j]? = some v) (h : ∀ t, Q (.int v t) s)
    (hs : subscripted slice false (.ref l) (.int (j : Int) u) = operate [.ref l, .int (j : Int) u] (getItem (.ref l) (.int (j : Int) u))) :
    wpAny (model prog w) A (subscriptTail value slice (.ref l) (.int (j : Int) u)) Q E s := by
  obtain ⟨t, hx⟩ := hi.get j v hj
  exact tail_any hl.typeIs slot_list_getitem.lookup (wpAny_getItem_list hl (by omega) (by omega) (by rw [Int.toNat_natCast]; simpa using hx) (h t)) hs
theorem r_item {value slice : PySem.Expr} {l : Addr} {vs : List Value} {ns : List Int} {k : Int} {v : Int} (hl : s.heap.IsList l vs.toArray) (hi : IntsAre vs ns) (h0 : 0 ≤ k) (hf : k < 2 ^ 62) (hj : ns[k.toNat]? = some v) (h : ∀ t, Q (.int v t) s)
    (hs : subscripted slice false (.ref l) (.int k u) = operate [.ref l, .int k u] (getItem (.ref l) (.int k u))) :
    wpAny (model prog w) A (subscriptTail value slice (.ref l) (.int k u)) Q E s := by
  obtain ⟨t, hx⟩ := hi.get k.toNat v hj
  exact tail_any hl.typeIs slot_list_getitem.lookup (wpAny_getItem_list hl (by omega) (by omega) (by simpa using hx) (h t)) hs
theorem r_setN {h₀ : Heap} {L D : Addr} {m : Str → Option Value} {news news' : List (Addr × Obj)} {vs : List Value} {ns : List Int} {n j : Nat} {x : Int} {Q : Unit → Shared → Prop} (F : Fr h₀ L s.heap m) (N : News h₀ L s.heap news) (U : Upd D (listOf vs.toArray n) (listOf (vs.set j (.int x u)).toArray n) news news') (hi : IntsAre vs ns) (hj : j < ns.length) (hf : j < 2 ^ 62)
    (h : ∀ h', Fr h₀ L h' m → News h₀ L h' news' → IntsAre (vs.set j (.int x u)) (ns.set j x) → Q () { s with heap := h' }) :
    wpAny (model prog w) A (setItem (.ref D) (.int (j : Int) t) (.int x u)) Q E s :=
  ksa_set F N (by rw [Int.toNat_natCast]; exact U) hi (by omega) (by omega) (by omega) (fun h' F' N' I' _ _ => h h' F' N' (by rw [Int.toNat_natCast] at I'; exact I'))
theorem r_append {h₀ : Heap} {L D : Addr} {m : Str → Option Value} {news news' : List (Addr × Obj)} {vs : List Value} {ns : List Int} {n : Nat} {x : Int} {Q : Value → Shared → Prop} (F : Fr h₀ L s.heap m) (N : News h₀ L s.heap news) (U : Upd D (listOf vs.toArray n) (listOf (vs ++ [Value.int x u]).toArray (n + 1)) news news') (hi : IntsAre vs ns) (hlen : ns.length < 2 ^ 20)
    (h : ∀ h', Fr h₀ L h' m → News h₀ L h' news' → IntsAre (vs ++ [Value.int x u]) (ns ++ [x]) → Q .none { s with heap := h' }) :
    wpAny (model prog w) A (call (.builtin "list.append") [.ref D, .int x u]) Q E s :=
  append_K F N (by rw [List.push_toArray]; exact U) (fun h' F' N' => h h' F' N' (hi.append (.cons x u .nil))) (small_size hi hlen)
theorem r_pop0 {h₀ : Heap} {L D : Addr} {m : Str → Option Value} {news news' : List (Addr × Obj)} {v0 : Value} {vr : List Value} {n : Nat} {Q : Value → Shared → Prop} (F : Fr h₀ L s.heap m) (N : News h₀ L s.heap news) (U : Upd D (listOf (v0 :: vr).toArray n) (listOf vr.toArray (n + 1)) news news') (hz : vr.length + 1 ≤ sizeLine)
    (h : ∀ h', Fr h₀ L h' m → News h₀ L h' news' → Q v0 { s with heap := h' }) :
    wpAny (model prog w) A (call (.builtin "list.pop") [.ref D, .int 0 t]) Q E s :=
  kl_popAt (i := 0) (k := 0) (p := []) (y := v0) (q := vr) F N (by decide) (by unfold seqIndex?; simp) rfl U (by simpa using hz) h
theorem r_ishr (hb : 0 ≤ b) (h : Q (.int (a.fdiv (2 ^ b.toNat)) s.toks) { s with toks := s.toks + 1 }) : wpAny (model prog w) A (inplaceOp .RShift (.int a t) (.int b u)) Q E s :=
  PyProof.Rows.irshift_int hb h
end
end Mine
namespace Mine
variable {w : World} {A : Around} {s : Shared} {Q E : Value → Shared → Prop} {n : Nat}
local macro_rules | `(tactic| walk_at "exec While BoolOp cons nil") => `(tactic| refine Mine.halt ?_)
local macro_rules | `(tactic| walk_at "exec While Compare cons nil") => `(tactic| refine Mine.halt ?_)
local macro_rules | `(tactic| passes_own) => `(tactic| assumption)
local macro_rules | `(tactic| walk_at "PassesOwn") => `(tactic| assumption)
local macro_rules | `(tactic| walk_at "pyIter ref") => `(tactic| refine Mine.halt ?_)
local macro_rules | `(tactic| walk_at "call ref") => `(tactic| refine Mine.halt ?_)
local macro_rules | `(tactic| walk_at "subscriptTail Name Slice ref ref") => `(tactic| (k_dflt (refine' Mine.sl_upto ?F ?N ?l ?i ?m ?c ?_ ?s ?t; (case F => k_asm); (case N => k_asm); (case l => kmk_list); (case i => assumption); (case m => assumption); (case c => first | assumption | omega); (case s => with_unfolding_all rfl); (case t => kmk_pure)); intro D' ws' h' F' N' l1 hI'; (try k_sweep)))
local macro_rules | `(tactic| walk_at "binaryOp Mult int int") => `(tactic| (first | (with_reducible refine Mine.r_mulN (by omega) ?_) | refine Mine.r_mulL (by omega) ?_ | refine Mine.r_mulR (by omega) ?_ | refine Mine.r_mulL (Mine.halt ?_) ?_))
local macro_rules | `(tactic| walk_at "binaryOp FloorDiv int int") => `(tactic| (first | (with_reducible refine Mine.r_fdivN (by omega) (by omega) ?_) | refine Mine.r_fdiv (by omega) (by omega) ?_ | refine Mine.r_fdiv (Mine.halt ?_) (Mine.halt ?_) ?_))
local macro_rules | `(tactic| walk_at "binaryOp Mod int int") => `(tactic| (first | (with_reducible refine Mine.r_modN (by omega) ?_) | refine Mine.r_mod (by omega) ?_ | refine Mine.r_mod (Mine.halt ?_) ?_))
local macro_rules | `(tactic| walk_at "inplaceOp Mod int int") => `(tactic| (first | (with_reducible refine Mine.r_imodN (by omega) ?_) | refine Mine.r_imod (by omega) ?_ | refine Mine.r_imod (Mine.halt ?_) ?_))
local macro_rules | `(tactic| walk_at "binaryOp LShift int int") => `(tactic| (first | (with_reducible refine Mine.r_shl0 (by omega) ?_) | (with_reducible refine Mine.r_shlN (by omega) (by omega) ?_) | refine Mine.r_shl (by omega) (by omega) (by omega) ?_ | refine Mine.r_shl (Mine.halt ?_) (Mine.halt ?_) (Mine.halt ?_) ?_))
local macro_rules | `(tactic| walk_at "binaryOp RShift int int") => `(tactic| (first | (with_reducible refine Mine.r_shrN ?_) | refine Mine.r_shr (by omega) ?_ | refine Mine.r_shr (Mine.halt ?_) ?_))
local macro_rules | `(tactic| walk_at "inplaceOp RShift int int") => `(tactic| (first | (with_reducible refine Mine.r_ishrN ?_) | refine Mine.r_ishr (by omega) ?_ | refine Mine.r_ishr (Mine.halt ?_) ?_))
local macro_rules | `(tactic| walk_at "setItem ref int") => `(tactic| (k_here; (with_reducible show wpAny _ _ (setItem (Value.ref _) (Value.int (Nat.cast _) _) (Value.int _ _)) _ _ _); k_dflt (refine' Mine.r_setN ?k1 ?k2 ?k3 ?k4 ?k5 ?k6 ?_; (case k1 => k_asm); (case k2 => k_asm); (case k3 => k_upd); (case k4 => with_reducible assumption); (case k5 => omega); (case k6 => omega); k_whole); intro h' F' N' hi'; (try k_sweep)))
local macro_rules | `(tactic| walk_at "subscriptTail Name Name ref int") => `(tactic| ((with_reducible show wpAny _ _ (subscriptTail _ _ (Value.ref _) (Value.int _ _)) _ _ _); k_dflt (refine' Mine.r_item ?l ?i ?a ?b ?c ?_ ?s; (case l => kmk_list); (case i => assumption); (case a => omega); (case b => omega); (case c => first | exact Mine.row_get (by omega) | exact Mine.digs_get (by omega)); (case s => with_unfolding_all rfl)); intro t'))
local macro_rules | `(tactic| walk_at "subscriptTail Name Name ref int") => `(tactic| ((with_reducible show wpAny _ _ (subscriptTail _ _ (Value.ref _) (Value.int (Nat.cast _) _)) _ _ _); k_dflt (refine' Mine.r_itemN ?l ?i ?b ?c ?_ ?s; (case l => kmk_list); (case i => assumption); (case b => omega); (case c => first | exact Mine.row_get (by omega) | exact Mine.digs_get (by omega)); (case s => with_unfolding_all rfl)); intro t'))
local macro_rules | `(tactic| walk_at "subscriptTail Name BinOp ref int") => `(tactic| ((with_reducible show wpAny _ _ (subscriptTail _ _ (Value.ref _) (Value.int _ _)) _ _ _); k_dflt (refine' Mine.r_item ?l ?i ?a ?b ?c ?_ ?s; (case l => kmk_list); (case i => assumption); (case a => omega); (case b => omega); (case c => first | exact Mine.row_get (by omega) | exact Mine.digs_get (by omega)); (case s => with_unfolding_all rfl)); intro t'))
local macro_rules | `(tactic| walk_at "subscriptTail Name BinOp ref int") => `(tactic| ((with_reducible show wpAny _ _ (subscriptTail _ _ (Value.ref _) (Value.int (Nat.cast _) _)) _ _ _); k_dflt (refine' Mine.r_itemN ?l ?i ?b ?c ?_ ?s; (case l => kmk_list); (case i => assumption); (case b => omega); (case c => first | exact Mine.row_get (by omega) | exact Mine.digs_get (by omega)); (case s => with_unfolding_all rfl)); intro t'))
local macro_rules | `(tactic| walk_at "binaryOp BitOr int int") => `(tactic| (first | (with_reducible refine Mine.r_orN (by first | assumption | omega) ?_) | (with_reducible refine Mine.r_orH (by first | assumption | omega) ?_)))
local macro_rules | `(tactic| walk_at "inplaceOp BitOr int int") => `(tactic| (with_reducible refine Mine.r_iorH (by first | assumption | omega) ?_))
local macro_rules | `(tactic| walk_at "binaryOp BitAnd int int") => `(tactic| (with_reducible refine Mine.r_andM ?_))
local macro_rules | `(tactic| walk_at "binaryOp Sub int int") => `(tactic| (with_reducible refine Mine.r_subN (by omega) ?_))
local macro_rules | `(tactic| walk_at "binaryOp Add int int") => `(tactic| (with_reducible refine Mine.r_addN ?_))
local macro_rules | `(tactic| walk_at "call builtin:list.append") => `(tactic| (k_here; (with_reducible show wpAny _ _ (call (Value.builtin _) [Value.ref _, Value.int _ _]) _ _ _); k_dflt (refine' Mine.r_append ?k1 ?k2 ?k3 ?k4 ?k5 ?_; (case k1 => k_asm); (case k2 => k_asm); (case k3 => k_upd); (case k4 => with_reducible assumption); (case k5 => omega); k_whole); intro h' F' N' hi'; (try k_sweep)))
theorem normal_spec {l : Addr} {vs : List Value} {ns : List Int} (Y : Ready w (n + 1) A s.heap) (hl : s.heap.IsList l vs.toArray) (hI : IntsAre vs ns) (hlen : ns.length < 2^20)
   (hret : ∀ l' vs' k h' tk', Keeps s.heap h' → s.heap.get? l' = none → h'.get? l' = some (listOf (List.toArray vs') k) → IntsAre vs' (norm ns) → Q (.ref l') { s with heap := h', toks := tk' }) :
   wpAny (model prog w) A (call (.ref 58) [.ref l]) Q E s := by
  refine wpAny_call ?_
  refine enter0 [(Str.ofString "a", .ref l)] (n := _) Y (by k_is) (by k_is) (BindsTo.of_eq rfl) rfl (by decide) ?_ rfl rfl rfl
  intro p loose mean mg mb g L' h₁ A' E' hp G F N X T RD RDM hA hPO
  obtain ⟨_, dp, fr, gd, un⟩ := A'
  obtain rfl : _ = none := hA
  dsimp only
  have hl' := lst_keeps hl G
  k_steps
  refine Halt.go ?_
  refine' while_k (σ := Int × Tok) (fun _ => []) (fun c => [(Str.ofString "end", .int c.1 c.2), (Str.ofString "a", .ref l)])
    (fun c => 0 ≤ c.1 ∧ c.1 ≤ ns.length ∧ ∀ i : Nat, c.1 ≤ i → i < ns.length → ns.getD i 0 = 0) (fun c => c.1.toNat) (ns.length, _) (by assumption) (by assumption) ?hk ?hp ?turn (by passes_own)
  case hk => (refine ⟨?_, ?_, trivial⟩ <;> rfl)
  case hp => exact ⟨by omega, Int.le_refl _, fun i h1 h2 => absurd h2 (by omega)⟩
  rintro ⟨e, t⟩ u h tk ⟨he0, he, hz⟩ F N
  dsimp only at he0 he hz
  k_steps
  · (rename ((0 : Int) < _) => h0)
    (rename (_ = (0 : Int)) => h1)
    refine' EndOf.intro (e - 1, _) (by assumption) (by assumption) ?hk (fun _ h => nomatch h) (fun _ h => nomatch h) ?hp 
    case hk => (refine ⟨?_, ?_, trivial⟩ <;> rfl)
    case hp =>
      dsimp only at h0 h1 ⊢
      refine ⟨⟨by omega, by omega, fun i hi1 hi2 => ?_⟩, by omega⟩
      by_cases q : (i : Int) = e - 1
      · rw [← q] at h1; simpa using h1
      · exact hz i (by omega) hi2
  · (rename Fr _ _ _ _ => F9); (rename News _ _ _ _ => N9)
    (rename (_ ≠ (0 : Int)) => h1)
    (rename IntsAre _ (List.take _ _) => hI')
    dsimp only at h1 hI' ⊢
    refine hret _ _ _ _ _ (out_keeps G F9) (out_none G N9 (.head _)) (N9.get (.head _)) ?_
    rw [← norm_take (e := e.toNat) (by omega) (fun i h1 h2 => hz i (by omega) h2) (.inr ?_)]
    · exact hI'
    · rwa [show e.toNat - 1 = (e - 1).toNat by omega]
  · (rename Fr _ _ _ _ => F9); (rename News _ _ _ _ => N9)
    (rename (¬ (0 : Int) < _) => h1)
    (rename IntsAre _ (List.take _ _) => hI')
    dsimp only at h1 hI' ⊢
    refine hret _ _ _ _ _ (out_keeps G F9) (out_none G N9 (.head _)) (N9.get (.head _)) ?_
    rw [← norm_take (e := e.toNat) (by omega) (fun i h1 h2 => hz i (by omega) h2) (.inl (by omega))]
    exact hI'


theorem is_even_spec {l : Addr} {vs : List Value} {W x : Nat} (Y : Ready w (n + 1) A s.heap) (hW : 2 ≤ W) (hl : s.heap.IsList l vs.toArray) (hI : IntsAre vs (row (2 ^ W) x)) (hx : x < 2 ^ 40)
   (hret : ∀ h' tk' b, Keeps s.heap h' → b = decide (x % 2 = 0) → Q (.bool b) { s with heap := h', toks := tk' }) :
   wpAny (model prog w) A (call (.ref 65) [.ref l]) Q E s := by
  refine wpAny_call ?_
  refine enter0 [(Str.ofString "a", .ref l)] (n := _) Y (by k_is) (by k_is) (BindsTo.of_eq rfl) rfl (by decide) ?_ rfl rfl rfl
  intro p loose mean mg mb g L' h₁ A' E' hp G F N X T RD RDM hA hPO
  obtain ⟨_, dp, fr, gd, un⟩ := A'
  obtain rfl : _ = none := hA
  dsimp only
  have hl' := lst_keeps hl G
  have hn := row_small hW hx
  have hb := two_le_pow (W := W) (by omega)
  k_steps
  all_goals dsimp only
  · rename_i h0
    rw [row_len] at h0
    have hx0 := (dlen_eq_zero hb (x := x)).mp (by omega)
    refine hret _ _ _ (out_keeps G F) ?_
    rw [row_len, hx0, dlen_zero]; rfl
  · rename_i h0 _
    refine hret _ _ _ (out_keeps G F) ?_
    rw [bitAnd_m1, show Int.toNat 0 = 0 from rfl, row_getD hb]
    have e : dg (2 ^ W) x 0 % 2 = x % 2 := by
      unfold dg
      rw [Nat.pow_zero, Nat.div_one]
      obtain ⟨k, rfl⟩ : ∃ k, W = k + 1 := ⟨W - 1, by omega⟩
      rw [Nat.pow_succ', Nat.mod_mul_right_mod]
    rw [show ((dg (2 ^ W) x 0 : Nat) : Int) % 2 = ((x % 2 : Nat) : Int) by omega]
    by_cases h : x % 2 = 0
    · rw [h]; rfl
    · have : x % 2 = 1 := by omega
      rw [this]; rfl
theorem compare_spec {l₁ l₂ : Addr} {vs₁ vs₂ : List Value} {W x y : Nat} (Y : Ready w (n + 1) A s.heap) (hW : 2 ≤ W) (hl₁ : s.heap.IsList l₁ vs₁.toArray) (hl₂ : s.heap.IsList l₂ vs₂.toArray) (hI₁ : IntsAre vs₁ (row (2 ^ W) x)) (hI₂ : IntsAre vs₂ (row (2 ^ W) y))
   (hx : x < 2 ^ 40) (hy : y < 2 ^ 40)
   (hret : ∀ h' tk' t v, Keeps s.heap h' → (v = if x < y then -1 else if x = y then 0 else 1) → Q (.int v t) { s with heap := h', toks := tk' }) :
   wpAny (model prog w) A (call (.ref 72) [.ref l₁, .ref l₂]) Q E s := by
  refine wpAny_call ?_
  refine enter0 [(Str.ofString "a", .ref l₁), (Str.ofString "b", .ref l₂)] (n := _) Y (by k_is) (by k_is) (BindsTo.of_eq rfl) rfl (by decide) ?_ rfl rfl rfl
  intro p loose mean mg mb g L' h₁ A' E' hp G F N X T RD RDM hA hPO
  obtain ⟨_, dp, fr, gd, un⟩ := A'
  obtain rfl : _ = none := hA
  dsimp only
  have hn₁ := row_small hW hx
  have hn₂ := row_small hW hy
  have hb := two_le_pow (W := W) (by omega)
  have hl₁' := lst_keeps hl₁ G
  have hl₂' := lst_keeps hl₂ G
  k_steps
  · dsimp only
    refine hret _ _ _ _ (out_keeps G F) ?_
    simp only [row_len] at *
    rw [if_pos (dlen_lt hb (by omega))]
  · dsimp only
    refine hret _ _ _ _ (out_keeps G F) ?_
    simp only [row_len] at *
    have h2 : y < x := dlen_lt hb (by omega)
    rw [if_neg (by omega), if_neg (by omega)]
  · refine Halt.go ?_
    (rename IsRange _ _ _ _ _ _ _ _ => hr)
    have h0 : dlen (2 ^ W) x = dlen (2 ^ W) y := by simp only [row_len] at *; omega
    refine for_rangeS (σ := Unit) (n := dlen (2 ^ W) x) (adr := []) (fun _ => []) (fun _ => [(Str.ofString "a", .ref l₁), (Str.ofString "b", .ref l₂)])
      (fun i _ => x / (2 ^ W) ^ (dlen (2 ^ W) x - i) = y / (2 ^ W) ^ (dlen (2 ^ W) x - i)) () rfl hr (small_down (by omega) (by omega) (by omega) (by omega)) (by rw [rangeSize_downNat, row_len]; omega) (by assumption) (by assumption) (fun _ => rfl) ⟨rfl, rfl, trivial⟩ ?_ ?_ ?_
    · have h1 := lt_pow_dlen hb x
      have h2 := lt_pow_dlen hb y
      rw [← show dlen (2 ^ W) x = dlen (2 ^ W) y by omega] at h2
      rw [Nat.sub_zero, Nat.div_eq_of_lt h1, Nat.div_eq_of_lt h2]
    · intro _ i t u h tk own hi ho hq F N
      obtain ⟨j, hj⟩ : ∃ j, dlen (2 ^ W) x - i = j + 1 := ⟨dlen (2 ^ W) x - i - 1, by omega⟩
      have e1 : ((row (2 ^ W) x).length : Int) - 1 + (i : Int) * -1 = (j : Int) := by rw [row_len]; omega
      rw [e1] at F
      have hj1 : j < (row (2 ^ W) x).length := by rw [row_len]; omega
      have hj2 : j < (row (2 ^ W) y).length := by rw [row_len]; omega
      rw [hj] at hq
      k_steps
      · simp only [Int.toNat_natCast, row_getD hb] at *
        refine hret _ _ _ _ (out_keeps G F) ?_
        rw [if_pos (lt_of_dg_lt hq (by omega))]
      · simp only [Int.toNat_natCast, row_getD hb] at *
        refine hret _ _ _ _ (out_keeps G F) ?_
        have h3 := lt_of_dg_lt hq.symm (by omega)
        rw [if_neg (by omega), if_neg (by omega)]
      · simp only [Int.toNat_natCast, row_getD hb] at *
        refine EndOf.intro () (by assumption) (by assumption) ⟨rfl, rfl, trivial⟩ (fun _ h => nomatch h) (fun _ h => h) ?_
        rw [show dlen (2 ^ W) x - (i + 1) = j by omega]
        exact div_eq_of_dg_eq hq (by omega)
    · intro _ u h tk hq F N
      k_steps
      dsimp only
      refine hret _ _ _ _ (out_keeps G F) ?_
      rw [Nat.sub_self, Nat.pow_zero, Nat.div_one, Nat.div_one] at hq
      rw [if_neg (by omega), if_pos hq]

theorem intBits_pow (k : Nat) : Builtin.Int.intBits ((2 : Int) ^ k) = k + 1 := by
  have h1 : Builtin.Int.intBits ((2 : Int) ^ k) ≤ k + 1 := intBits_le_iff.mpr (by
    rw [← kbt_cast, Int.natAbs_natCast, Nat.pow_succ]
    have := Nat.pow_pos (n := k) (show 0 < 2 by omega)
    omega)
  have h2 : ¬ Builtin.Int.intBits ((2 : Int) ^ k) ≤ k := fun h => by
    have := intBits_le_iff.mp h
    rw [← kbt_cast, Int.natAbs_natCast] at this
    omega
  omega
theorem low_bits {d k c : Nat} (h : d = 2 ^ k * (2 * c + 1)) : (Builtin.Int.intBits (Builtin.bitAnd (d : Int) (-(d : Int))) : Int) - 1 = k := by
  have e : (d : Int) = 2 ^ k * (2 * (c : Int) + 1) := by rw [h, Int.natCast_mul, kbt_cast]; simp
  rw [e, kbt_low, intBits_pow]
  omega
theorem bits_spec {l : Addr} {vs : List Value} {W : Nat} {v : Int} {tw : Tok} (Y : Ready w (n + 1) A s.heap) (hW : 2 ≤ W) (hW9 : W ≤ 9) (hl : s.heap.IsList l vs.toArray) (hI : IntsAre vs [v]) (hv : 0 < v) (hv9 : v < 2 ^ 9)
   (hret : ∀ h' tk' t x, Keeps s.heap h' → x = (Builtin.Int.intBits v : Int) → Q (.int x t) { s with heap := h', toks := tk' }) :
   wpAny (model prog w) A (call (.ref 100) [.ref l, .int W tw]) Q E s := by
  refine wpAny_call ?_
  refine enter0 [(Str.ofString "a", .ref l), (Str.ofString "w", .int W tw)] (n := _) Y (by k_is) (by k_is) (BindsTo.of_eq rfl) rfl (by decide) ?_ rfl rfl rfl
  intro p loose mean mg mb g L' h₁ A' E' hp G F N X T RD RDM hA hPO
  obtain ⟨_, dp, fr, gd, un⟩ := A'
  obtain rfl : _ = none := hA
  dsimp only
  have hl' := lst_keeps hl G
  have hlen : ([v] : List Int).length < 2 ^ 20 := by simp
  k_steps
  dsimp only
  refine hret _ _ _ _ (out_keeps G F) ?_
  simp
theorem bit_spec {l : Addr} {vs : List Value} {W x : Nat} {tw ti : Tok} {i : Nat} (Y : Ready w (n + 1) A s.heap) (hW : 2 ≤ W) (hW9 : W ≤ 9) (hl : s.heap.IsList l vs.toArray) (hI : IntsAre vs (row (2 ^ W) x)) (hx : x < 2 ^ 40) (hi : i < 100)
   (hret : ∀ h' tk' t v, Keeps s.heap h' → v = ((x / 2 ^ i % 2 : Nat) : Int) → Q (.int v t) { s with heap := h', toks := tk' }) :
   wpAny (model prog w) A (call (.ref 107) [.ref l, .int i ti, .int W tw]) Q E s := by
  refine wpAny_call ?_
  refine enter0 [(Str.ofString "a", .ref l), (Str.ofString "n", .int i ti), (Str.ofString "w", .int W tw)] (n := _) Y (by k_is) (by k_is) (BindsTo.of_eq rfl) rfl (by decide) ?_ rfl rfl rfl
  intro p loose mean mg mb g L' h₁ A' E' hp G F N X T RD RDM hA hPO
  obtain ⟨_, dp, fr, gd, un⟩ := A'
  obtain rfl : _ = none := hA
  dsimp only
  have hl' := lst_keeps hl G
  have hn := row_small hW hx
  have hb := two_le_pow (W := W) (by omega)
  k_steps
  · dsimp only
    refine hret _ _ _ _ (out_keeps G F) ?_
    rw [bitAnd_m1, ← bit_of_dg (W := W) (by omega)]
    omega
  · dsimp only
    refine hret _ _ _ _ (out_keeps G F) ?_
    simp only [row_len] at *
    rw [bit_high (W := W) (by omega) (by omega)]; rfl
theorem trailing_spec {l : Addr} {vs : List Value} {W x : Nat} {tw : Tok} (Y : Ready w (n + 1) A s.heap) (hW : 2 ≤ W) (hW9 : W ≤ 9) (hl : s.heap.IsList l vs.toArray) (hI : IntsAre vs (row (2 ^ W) x)) (hx : x < 2 ^ 40) (h0 : 0 < x)
   (hret : ∀ h' tk' t v k m, Keeps s.heap h' → v = ((k : Nat) : Int) → x = 2 ^ k * (2 * m + 1) → Q (.int v t) { s with heap := h', toks := tk' }) :
   wpAny (model prog w) A (call (.ref 114) [.ref l, .int W tw]) Q E s := by
  refine wpAny_call ?_
  refine enter0 [(Str.ofString "a", .ref l), (Str.ofString "w", .int W tw)] (n := _) Y (by k_is) (by k_is) (BindsTo.of_eq rfl) rfl (by decide) ?_ rfl rfl rfl
  intro p loose mean mg mb g L' h₁ A' E' hp G F N X T RD RDM hA hPO
  obtain ⟨_, dp, fr, gd, un⟩ := A'
  obtain rfl : _ = none := hA
  dsimp only
  have hl' := lst_keeps hl G
  have hn := row_small hW hx
  have hb := two_le_pow (W := W) (by omega)
  k_steps
  refine Halt.go ?_
  (rename PairSrcL _ _ _ _ _ _ _ _ _ _ _ _ => S)
  refine for_enum (σ := Unit) (adr := []) (fun _ => []) (fun _ => [(Str.ofString "a", .ref l), (Str.ofString "w", .int W tw)])
      (fun i _ => x % (2 ^ W) ^ i = 0) () (PairSrcL.at S _ rfl) rfl (fun _ => rfl) ⟨rfl, rfl, trivial⟩ (by rw [Nat.pow_zero, Nat.mod_one]) ?_ ?_
  · intro _ i n ti t u h tk own hi ho hq F N
    have hilt : i < (row (2 ^ W) x).length := by
      rw [List.getElem?_eq_some_iff] at hi; exact hi.1
    have hn' : n = (dg (2 ^ W) x i : Int) := by
      rw [row_get hilt] at hi; exact (Option.some.inj hi).symm
    subst hn'
    k_steps
    · rename_i hd
      obtain ⟨k, c, e⟩ := odd_split (dg (2 ^ W) x i) (by omega)
      obtain ⟨m, em⟩ := tz_of_dg e hq
      refine hret _ _ _ _ (i * W + k) m (out_keeps G F) ?_ em
      have := low_bits e
      rw [Int.natCast_add, Int.natCast_mul]
      omega
    · refine EndOf.intro () (by assumption) (by assumption) ⟨rfl, rfl, trivial⟩ (fun _ h => nomatch h) (fun _ h => h) ?_
      rw [mod_pow_succ, hq, show dg (2 ^ W) x i = 0 by omega]; rfl
  · intro _ u h tk hq F N
    exfalso
    rw [row_len, Nat.mod_eq_of_lt (lt_pow_dlen hb x)] at hq
    omega

theorem sum_bits (x : Nat) : ∀ m : Nat, (List.map (fun k : Int => ((x / 2 ^ k.toNat % 2 * 2 ^ k.toNat : Nat) : Int)) (rangeKs 0 m)).sum = ((x % 2 ^ m : Nat) : Int) := by
  intro m
  induction m with
  | zero => simp [rangeKs, Nat.mod_one]
  | succ m ih =>
    have e : rangeKs 0 (m + 1) = rangeKs 0 m ++ [(m : Int)] := by simp [rangeKs, List.range_succ]
    rw [e, List.map_append, List.sum_append, ih]
    simp only [List.map_cons, List.map_nil, List.sum_cons, List.sum_nil, Int.toNat_natCast]
    rw [Nat.mod_pow_succ, Nat.mul_comm (x / 2 ^ m % 2)]
    omega
section
local macro_rules | `(tactic| walk_at "CompSrc") => `(tactic| refine Mine.halt ?_)
theorem last_bits_spec {l : Addr} {vs : List Value} {W x : Nat} {tw ti : Tok} {i : Nat} (Y : Ready w (n + 2) A s.heap) (hW : 2 ≤ W) (hW9 : W ≤ 9) (hl : s.heap.IsList l vs.toArray) (hI : IntsAre vs (row (2 ^ W) x)) (hx : x < 2 ^ 40) (hi : i < 10)
   (hret : ∀ h' tk' t v, Keeps s.heap h' → v = ((x % 2 ^ i : Nat) : Int) → Q (.int v t) { s with heap := h', toks := tk' }) :
   wpAny (model prog w) A (call (.ref 119) [.ref l, .int i ti, .int W tw]) Q E s := by
  replace Y : Ready w ((n + 1) + 1) A s.heap := Y
  refine wpAny_call ?_
  refine enterC [(Str.ofString "a", .ref l), (Str.ofString "many", .int i ti), (Str.ofString "w", .int W tw)] (n := _) Y (by k_is) (by k_is) (BindsTo.of_eq rfl) rfl (by decide +kernel) ?_ rfl rfl rfl
  intro p loose mean mg mb g L' h₁ tk cells A' E' hp G F N Yc X T RD RDM hA hPO
  obtain ⟨_, dp, fr, gd, un⟩ := A'
  obtain rfl : _ = none := hA
  k_cells Yc
  dsimp only at N ⊢
  have hl' := lst_keeps hl G
  k_steps
  refine Halt.go ?_
  refine LCg.CompSrc.range (by rfl) (by k_asm) (by k_asm) (by assumption) (small_one (by omega) (by omega) (by omega) (by omega)) (rangeSize_nat _ _) (by rw [PySem.sizeLine_eq]; omega) ?_
  intro g'
  refine' kcf_range (fun k => ((x / 2 ^ k.toNat % 2 * 2 ^ k.toNat : Nat) : Int)) (fun k t I oI C oC D m ys h tk E' hlo hhi hC hx' F N off ne mk => ?_) ?_
  · obtain ⟨j, rfl⟩ := Int.eq_ofNat_of_zero_le hlo
    simp only [LCg.Off3, and_true] at off
    k_steps
    refine Halt.go ?_
    (rename Fr _ _ _ _ => F9)
    refine bit_spec (RD _ _ F9) hW hW9 (lst_keeps hl' F9.keep) hI hx (by omega) (fun h2 tk2 t2 v2 K2 e2 => ?_)
    subst e2
    have F10 := fr_keeps F9 K2
    have N10 := news_keeps (by assumption) K2
    have h2 : x / 2 ^ j % 2 < 2 ^ 64 := Nat.lt_of_lt_of_le (Nat.mod_lt _ (by omega)) (by decide)
    k_steps
    exact kcf_el (by rw [Int.toNat_natCast]) rfl rfl
  · k_steps
    (rename Fr _ _ _ _ => F9)
    refine hret _ _ _ _ (out_keeps G F9) ?_
    rw [sum_bits]
    congr 3
end
theorem two_sign_spec {l : Addr} {vs : List Value} {W x : Nat} {tw ti : Tok} {k : Nat} (Y : Ready w (n + 3) A s.heap) (hW : 2 ≤ W) (hW9 : W ≤ 9) (hl : s.heap.IsList l vs.toArray) (hI : IntsAre vs (row (2 ^ W) x)) (hx : x < 2 ^ 40)
   (hret : ∀ h' tk' t v, Keeps s.heap h' → v = (if k % 2 = 1 ∧ (x % 8 = 3 ∨ x % 8 = 5) then -1 else 1) → Q (.int v t) { s with heap := h', toks := tk' }) :
   wpAny (model prog w) A (call (.ref 126) [.int k ti, .ref l, .int W tw]) Q E s := by
  replace Y : Ready w ((n + 2) + 1) A s.heap := Y
  refine wpAny_call ?_
  refine enter0 [(Str.ofString "twos", .int k ti), (Str.ofString "a", .ref l), (Str.ofString "w", .int W tw)] (n := _) Y (by k_is) (by k_is) (BindsTo.of_eq rfl) rfl (by decide) ?_ rfl rfl rfl
  intro p loose mean mg mb g L' h₁ A' E' hp G F N X T RD RDM hA hPO
  obtain ⟨_, dp, fr, gd, un⟩ := A'
  obtain rfl : _ = none := hA
  dsimp only
  have hl' := lst_keeps hl G
  k_steps
  · refine Halt.go ?_
    refine last_bits_spec (i := 3) (n := n) (RD _ _ F) hW hW9 (lst_keeps hl' F.keep) hI hx (by omega) (fun h2 tk2 t2 v2 K2 e2 => ?_)
    subst e2
    have F10 := fr_keeps F K2
    have N10 := news_keeps N K2
    clear F N
    k_steps
    · dsimp only
      (rename Fr _ _ _ _ => F9)
      refine hret _ _ _ _ (out_keeps G F9) ?_
      (rename (Int.fmod _ _ = 1) => hk)
      (rename (List.any _ _ = true) => ha)
      rw [Int.fmod_eq_emod_of_nonneg _ (by omega)] at hk
      simp only [List.any_cons, List.any_nil, Bool.or_false, Bool.or_eq_true, beq_iff_eq] at ha
      rw [if_pos]
      omega
    · dsimp only
      (rename Fr _ _ _ _ => F9)
      refine hret _ _ _ _ (out_keeps G F9) ?_
      (rename (List.any _ _ = false) => ha)
      simp only [List.any_cons, List.any_nil, Bool.or_false, Bool.or_eq_false_iff, beq_eq_false_iff_ne, ne_eq] at ha
      rw [if_neg]
      omega
  · dsimp only
    refine hret _ _ _ _ (out_keeps G F) ?_
    rw [if_neg]
    (rename (Int.fmod _ _ ≠ 1) => hk)
    rw [Int.fmod_eq_emod_of_nonneg _ (by omega)] at hk
    omega

theorem divrem_limb_spec {l : Addr} {vs : List Value} {W x d : Nat} {tw td : Tok} (Y : Ready w (n + 2) A s.heap) (hW : 2 ≤ W) (hW9 : W ≤ 9) (hl : s.heap.IsList l vs.toArray) (hI : IntsAre vs (row (2 ^ W) x)) (hx : x < 2 ^ 40) (hd0 : 0 < d) (hd : d < 2 ^ W)
   (hret : ∀ (l' : Addr) (vs' : List Value) (k : Nat) (T : Addr) (t : Tok) h' tk', Keeps s.heap h' → s.heap.get? T = none → s.heap.get? l' = none → (l' : Nat) < T → h'.get? l' = some (listOf (List.toArray vs') k) → IntsAre vs' (row (2 ^ W) (x / d)) →
      h'.get? T = some { cls := .type "tuple", data := .seq #[.ref l', .int ((x % d : Nat) : Int) t] } → Q (.ref T) { s with heap := h', toks := tk' }) :
   wpAny (model prog w) A (call (.ref 79) [.ref l, .int d td, .int W tw]) Q E s := by
  replace Y : Ready w ((n + 1) + 1) A s.heap := Y
  refine wpAny_call ?_
  refine enter0 [(Str.ofString "a", .ref l), (Str.ofString "limb", .int d td), (Str.ofString "w", .int W tw)] (n := _) Y (by k_is) (by k_is) (BindsTo.of_eq rfl) rfl (by decide) ?_ rfl rfl rfl
  intro p loose mean mg mb g L' h₁ A' E' hp G F N X T RD RDM hA hPO
  obtain ⟨_, dp, fr, gd, un⟩ := A'
  obtain rfl : _ = none := hA
  dsimp only
  have hl' := lst_keeps hl G
  have hn := row_small hW hx
  have hb := two_le_pow (W := W) (by omega)
  have hb0 : 0 < 2 ^ W := by omega
  have hb9 : 2 ^ W ≤ 2 ^ 9 := Nat.pow_le_pow_right (by omega) hW9
  k_steps
  · exfalso; omega
  refine Halt.go ?_
  (rename Fr _ _ _ _ => F9); (rename News _ _ _ _ => N9)
  (rename IsRange _ _ _ _ _ _ _ _ => hr)
  (rename IntsAre _ (List.flatten _) => hI0)
  rw [flatten_ones, flatten_ones, Int.toNat_natCast, row_len, ← digs_zero (2 ^ W)] at hI0
  obtain ⟨D, hD, N1, _⟩ := name_at F9 (Str.ofString "found") rfl N9 (.tail _ (.head _))
  rw [flatten_ones, Int.toNat_natCast, row_len] at N1
  have hlt := lt_pow_dlen hb x
  have hlen9 : dlen (2 ^ W) x < 2 ^ 20 := by rw [← row_len]; exact hn
  generalize hlen : dlen (2 ^ W) x = len at *
  refine for_rangeS (σ := List Value × Nat × Tok) (n := len) (adr := [D]) (fun c => [(D, listOf c.1.toArray 0)]) (fun c => [(Str.ofString "a", .ref l), (Str.ofString "limb", .int d td), (Str.ofString "w", .int W tw), (Str.ofString "found", .ref D), (Str.ofString "rest", .int c.2.1 c.2.2)])
      (fun i c => IntsAre c.1 (digs (2 ^ W) (x / (2 ^ W) ^ (len - i) / d * (2 ^ W) ^ (len - i)) len) ∧ c.2.1 = x / (2 ^ W) ^ (len - i) % d) (_, 0, _) rfl hr (small_down (by omega) (by omega) (by omega) (by omega)) (by rw [rangeSize_downNat, row_len]; omega) F9 N1 (fun _ => rfl) (by refine ⟨rfl, rfl, rfl, hD, ?_, trivial⟩; rfl) ?_ ?_ ?_
  · refine ⟨?_, ?_⟩
    · rw [Nat.sub_zero, Nat.div_eq_of_lt hlt, Nat.zero_div, Nat.zero_mul]; exact hI0
    · rw [Nat.sub_zero, Nat.div_eq_of_lt hlt, Nat.zero_mod]
  · rintro ⟨vf, r, tr⟩ i t u h tk own hi ho ⟨hq1, hq2⟩ F N
    dsimp only at hq1 hq2 F N
    obtain ⟨j, hj⟩ : ∃ j, len - i = j + 1 := ⟨len - i - 1, by omega⟩
    have e1 : ((row (2 ^ W) x).length : Int) - 1 + (i : Int) * -1 = (j : Int) := by rw [row_len]; omega
    rw [e1] at F
    have hj1 : j < (row (2 ^ W) x).length := by rw [row_len]; omega
    have hj2 : j < (digs (2 ^ W) (x / (2 ^ W) ^ (len - i) / d * (2 ^ W) ^ (len - i)) len).length := by rw [digs_length]; omega
    have hrd : r < d := by rw [hq2]; exact Nat.mod_lt _ hd0
    have hg := dg_lt hb0 x j
    clear N9 F9 hr N1 hD hI0
    have hX := div_pow_succ (2 ^ W) x j
    obtain ⟨s1, s2, s3⟩ := div_step (d := d) (b := 2 ^ W) (X := x / (2 ^ W) ^ j) (q := x / (2 ^ W) ^ (j + 1) / d) (r := r) (g := dg (2 ^ W) x j) (by
      rw [hX, hq2, hj, Nat.div_add_mod]; omega) hrd hg hd0
    k_steps
    (rename IntsAre (List.set _ _ _) _ => hI')
    rw [hj, digs_quot hb0 (by omega) s1, ← s2] at hI'
    refine EndOf.intro (vf.set j _, (r * 2 ^ W + dg (2 ^ W) x j) % d, _) (by assumption) (by assumption) (by (refine ⟨?_, ?_, ?_, ?_, ?_, trivial⟩ <;> rfl)) (fun p hp => by rw [List.mem_singleton.mp hp]; exact .head _) (fun p hp => .tail _ hp) ?_
    (try dsimp only)
    rw [show len - (i + 1) = j by omega]
    exact ⟨hI', s3.symm⟩
  · rintro ⟨vf, r, tr⟩ u h tk ⟨hq1, hq2⟩ F N
    dsimp only at hq1 hq2 F N
    rw [Nat.sub_self, Nat.pow_zero, Nat.div_one] at hq1 hq2
    rw [Nat.mul_one] at hq1
    clear N9 F9 hr N1 hD hI0
    k_steps
    refine Halt.go ?_
    refine normal_spec (RD _ _ F) (N.isList (.head _)) hq1 (by rw [digs_length]; omega) (fun l2 vs2 k2 h2 tk2 K2 n2 g2 I2 => ?_)
    have F10 := fr_keeps F K2
    have N10 := news_add F N K2 n2 g2
    have hm := norm_digs hb (k := len) (x := x / d) (Nat.lt_of_le_of_lt (Nat.div_le_self ..) hlt)
    rw [hm] at I2
    clear F N
    k_steps
    (try dsimp only)
    (rename Fr _ _ _ _ => F9); (rename News _ _ _ _ => N9)
    refine hret l2 vs2 k2 _ tr _ _ (out_keeps G F9) (out_none G N9 (.head _)) (out_none G N9 (.tail _ (.head _))) ?_ (N9.get (.tail _ (.head _))) I2 ?_
    · (rename (_ ∧ _) => lt9)
      exact lt9.1
    · rw [← hq2]; exact N9.get (.head _)

theorem shift_left_spec {l : Addr} {vs : List Value} {W x f : Nat} {tw tf : Tok} (Y : Ready w (n + 1) A s.heap) (hW : 2 ≤ W) (hW9 : W ≤ 9) (hl : s.heap.IsList l vs.toArray) (hI : IntsAre vs (row (2 ^ W) x)) (hx : x < 2 ^ 30) (hf : f < W)
   (hret : ∀ (l' : Addr) (vs' : List Value) (k : Nat) h' tk', Keeps s.heap h' → s.heap.get? l' = none → h'.get? l' = some (listOf (List.toArray vs') k) → IntsAre vs' (row (2 ^ W) (x * 2 ^ f)) → Q (.ref l') { s with heap := h', toks := tk' }) :
   wpAny (model prog w) A (call (.ref 86) [.ref l, .int f tf, .int W tw]) Q E s := by
  refine wpAny_call ?_
  refine enter0 [(Str.ofString "a", .ref l), (Str.ofString "n", .int f tf), (Str.ofString "w", .int W tw)] (n := _) Y (by k_is) (by k_is) (BindsTo.of_eq rfl) rfl (by decide) ?_ rfl rfl rfl
  intro p loose mean mg mb g L' h₁ A' E' hp G F N X T RD RDM hA hPO
  obtain ⟨_, dp, fr, gd, un⟩ := A'
  obtain rfl : _ = none := hA
  dsimp only
  have hl' := lst_keeps hl G
  have hn := row_small hW (x := x) (by omega)
  have hb := two_le_pow (W := W) (by omega)
  have hb0 : 0 < 2 ^ W := by omega
  have hb9 : 2 ^ W ≤ 2 ^ 9 := Nat.pow_le_pow_right (by omega) hW9
  have e0 : ((f / W : Nat) : Int) = 0 := by rw [Nat.div_eq_of_lt hf]; rfl
  have e1 : f % W = f := Nat.mod_eq_of_lt hf
  k_steps
  · dsimp only
    (rename Fr _ _ _ _ => F9); (rename News _ _ _ _ => N9)
    (rename (_ = (0 : Int)) => hz)
    rw [row_len] at hz
    have hx0 := (dlen_eq_zero hb (x := x)).mp (by omega)
    refine hret _ [] _ _ _ (out_keeps G F9) (out_none G N9 (.head _)) (N9.get (.head _)) ?_
    rw [hx0, Nat.zero_mul, row_zero]; exact .nil
  (rename Fr _ _ _ _ => F9); (rename News _ _ _ _ => N9)
  rw [e1] at F9
  rw [e0] at *
  k_steps
  refine Halt.go ?_
  (rename Fr _ _ _ _ => F9); (rename News _ _ _ _ => N9)
  obtain ⟨D, hD, N1, _⟩ := name_at F9 (Str.ofString "found") rfl N9 (.tail _ (.head _))
  have hlen9 : dlen (2 ^ W) x < 2 ^ 20 := by rw [← row_len]; exact hn
  have hp0 : 0 < 2 ^ f := Nat.pow_pos (by omega)
  have hpW : 2 ^ f < 2 ^ W := (Nat.pow_lt_pow_iff_right (by omega)).mpr hf
  have hx0 : 0 < x := by
    cases Nat.eq_zero_or_pos x with
    | inr q => exact q
    | inl q =>
      (rename (_ ≠ (0 : Int)) => hz)
      subst q; rw [row_zero] at hz; exact absurd rfl hz
  refine for_list (σ := List Value × Nat × Nat × Tok) (l := l) (adr := [D]) (fun c => [(D, listOf c.1.toArray c.2.1)]) (fun c => [(Str.ofString "a", .ref l), (Str.ofString "w", .int W tw), (Str.ofString "few", .int f _), (Str.ofString "found", .ref D), (Str.ofString "mask", .int (1 * 2 ^ (Int.toNat (W : Int)) - 1) _), (Str.ofString "carry", .int c.2.2.1 c.2.2.2)])
      (fun i c => IntsAre c.1 (digs (2 ^ W) (x * 2 ^ f) i) ∧ c.2.2.1 = (x % (2 ^ W) ^ i) * 2 ^ f / (2 ^ W) ^ i) ([], 0, 0, _) rfl hl' hI F9 N1 (fun _ => rfl) (by refine ⟨rfl, rfl, ?_, hD, ?_, ?_, trivial⟩ <;> rfl) ?_ ?_ ?_
  · exact ⟨.nil, by rw [Nat.pow_zero, Nat.mod_one, Nat.zero_mul, Nat.zero_div]⟩
  · rintro ⟨vf, k, c, tc⟩ i n t u h tk own hi ho ⟨hq1, hq2⟩ F N
    dsimp only at hq1 hq2 F N
    have hilt : i < (row (2 ^ W) x).length := by
      rw [List.getElem?_eq_some_iff] at hi; exact hi.1
    have hn' : n = (dg (2 ^ W) x i : Int) := by
      rw [row_get hilt] at hi; exact (Option.some.inj hi).symm
    subst hn'
    have hg := dg_lt hb0 x i
    have hc : c < 2 ^ f := by rw [hq2]; exact shl_carry_lt hb0 hp0
    have hdl : (digs (2 ^ W) (x * 2 ^ f) i).length < 2 ^ 20 := by rw [digs_length]; rw [row_len] at hilt; omega
    clear N9 F9 N1 hD
    obtain ⟨s1, s2⟩ := shl_step (x := x) (i := i) (p := 2 ^ f) hb0
    rw [← hq2] at s1 s2
    k_steps
    (rename IntsAre (_ ++ _) _ => hI')
    refine EndOf.intro (vf ++ [_], k + 1, (c + dg (2 ^ W) x i * 2 ^ f) / 2 ^ W, _) (by assumption) (by assumption) (by (refine ⟨?_, ?_, ?_, ?_, ?_, ?_, trivial⟩ <;> rfl)) (fun p hp => by rw [List.mem_singleton.mp hp]; exact .head _) (fun p hp => .tail _ hp) ?_
    exact ⟨by rw [digs_succ, s2]; exact hI', s1.symm⟩
  · rintro ⟨vf, k, c, tc⟩ u h tk ⟨hq1, hq2⟩ F N
    dsimp only at hq1 hq2 F N
    rw [row_len] at hq1 hq2
    rw [Nat.mod_eq_of_lt (lt_pow_dlen hb x)] at hq2
    have hdl : (digs (2 ^ W) (x * 2 ^ f) (dlen (2 ^ W) x)).length < 2 ^ 20 := by rw [digs_length]; exact hlen9
    obtain ⟨s1, s2⟩ := shl_end hb hp0 hpW hx0
    rw [← hq2] at s1 s2
    clear N9 F9 N1 hD
    k_steps
    · (rename IntsAre (_ ++ _) _ => hI')
      (rename ((0 : Int) < _) => h0)
      rw [s2 (by omega)] at hI'
      dsimp only
      (rename Fr _ _ _ _ => F9); (rename News _ _ _ _ => N9)
      exact hret _ _ _ _ _ (out_keeps G F9) (out_none G N9 (.head _)) (N9.get (.head _)) hI'
    · (rename (¬ (0 : Int) < _) => h0)
      rw [s1 (by omega)] at hq1
      dsimp only
      (rename Fr _ _ _ _ => F9); (rename News _ _ _ _ => N9)
      exact hret _ _ _ _ _ (out_keeps G F9) (out_none G N9 (.head _)) (N9.get (.head _)) hq1
section
local macro_rules | `(tactic| walk_at "binaryOp Add int int") => `(tactic| (with_reducible refine Mine.r_add1N ?_))
theorem shift_right_spec {l : Addr} {vs : List Value} {W x f : Nat} {tw tf : Tok} (Y : Ready w (n + 2) A s.heap) (hW : 2 ≤ W) (hW9 : W ≤ 9) (hl : s.heap.IsList l vs.toArray) (hI : IntsAre vs (row (2 ^ W) x)) (hx : x < 2 ^ 40) (hf : f < 100)
   (hret : ∀ (l' : Addr) (vs' : List Value) (k : Nat) h' tk', Keeps s.heap h' → s.heap.get? l' = none → h'.get? l' = some (listOf (List.toArray vs') k) → IntsAre vs' (row (2 ^ W) (x / 2 ^ f)) → Q (.ref l') { s with heap := h', toks := tk' }) :
   wpAny (model prog w) A (call (.ref 93) [.ref l, .int f tf, .int W tw]) Q E s := by
  replace Y : Ready w ((n + 1) + 1) A s.heap := Y
  refine wpAny_call ?_
  refine enter0 [(Str.ofString "a", .ref l), (Str.ofString "n", .int f tf), (Str.ofString "w", .int W tw)] (n := _) Y (by k_is) (by k_is) (BindsTo.of_eq rfl) rfl (by decide) ?_ rfl rfl rfl
  intro p loose mean mg mb g L' h₁ A' E' hp G F N X T RD RDM hA hPO
  obtain ⟨_, dp, fr, gd, un⟩ := A'
  obtain rfl : _ = none := hA
  dsimp only
  have hl' := lst_keeps hl G
  have hn := row_small hW (x := x) (by omega)
  have hb := two_le_pow (W := W) (by omega)
  have hb0 : 0 < 2 ^ W := by omega
  have hb9 : 2 ^ W ≤ 2 ^ 9 := Nat.pow_le_pow_right (by omega) hW9
  have hfw : f % W < W := Nat.mod_lt _ (by omega)
  have hfs : f / W ≤ f := Nat.div_le_self ..
  k_steps
  refine Halt.go ?_
  (rename Fr _ _ _ _ => F9); (rename News _ _ _ _ => N9)
  (rename IsRange _ _ _ _ _ _ _ _ => hr)
  obtain ⟨D, hD, N1, _⟩ := name_at F9 (Str.ofString "found") rfl N9 (.tail _ (.head _))
  have hlen9 : dlen (2 ^ W) x < 2 ^ 20 := by rw [← row_len]; exact hn
  have hd0 := fun i => shr_digit (W := W) (x := x) (f := f) (i := i) (by omega)
  have hsz := shr_size (W := W) (x := x) (f := f) (by omega)
  generalize f / W = q at *
  generalize f % W = r at *
  refine for_rangeS (σ := List Value × Nat) (n := dlen (2 ^ W) x - q) (adr := [D]) (fun c => [(D, listOf c.1.toArray c.2)]) (fun c => [(Str.ofString "a", .ref l), (Str.ofString "w", .int W tw), (Str.ofString "few", .int (r : Nat) _), (Str.ofString "found", .ref D), (Str.ofString "mask", .int (1 * 2 ^ (Int.toNat (W : Int)) - 1) _)])
      (fun i c => IntsAre c.1 (digs (2 ^ W) (x / 2 ^ f) i)) ([], 0) rfl hr (small_one (by omega) (by omega) (by omega) (by omega)) (by rw [rangeSize_nat, row_len]; omega) F9 N1 (fun _ => rfl) (by refine ⟨rfl, rfl, ?_, hD, ?_, trivial⟩ <;> rfl) ?_ ?_ ?_
  · exact .nil
  · rintro ⟨vf, k⟩ i t u h tk own hi ho hq1 F N
    dsimp only at hq1 F N
    have e1 : (q : Int) + (i : Int) * 1 = ((q + i : Nat) : Int) := by omega
    rw [e1] at F
    have hj1 : q + i < (row (2 ^ W) x).length := by rw [row_len]; omega
    have hg := dg_lt hb0 x (q + i)
    have hg2 := dg_lt hb0 x (q + i + 1)
    have hs := shr_low (r := r) (by omega) hg
    have hdl : (digs (2 ^ W) (x / 2 ^ f) i).length < 2 ^ 20 := by rw [digs_length]; rw [row_len] at hj1; omega
    have hd := hd0 i
    clear N9 F9 N1 hD hr
    k_steps
    · (rename IntsAre (_ ++ _) _ => hI')
      refine EndOf.intro (vf ++ [_], k + 1) (by assumption) (by assumption) (by (refine ⟨?_, ?_, ?_, ?_, ?_, trivial⟩ <;> rfl)) (fun p hp => by rw [List.mem_singleton.mp hp]; exact .head _) (fun p hp => .tail _ hp) ?_
      dsimp only
      rw [digs_succ, hd]; exact hI'
    · (rename IntsAre (_ ++ _) _ => hI')
      (rename (¬ (((q + i + 1 : Nat) : Int) < _)) => hz)
      rw [row_len] at hz
      rw [dg_zero hb0 (lt_pow_dlen hb x) (i := q + i + 1) (by omega)] at hd
      refine EndOf.intro (vf ++ [_], k + 1) (by assumption) (by assumption) (by (refine ⟨?_, ?_, ?_, ?_, ?_, trivial⟩ <;> rfl)) (fun p hp => by rw [List.mem_singleton.mp hp]; exact .head _) (fun p hp => .tail _ hp) ?_
      dsimp only
      rw [digs_succ, hd]; exact hI'
  · rintro ⟨vf, k⟩ u h tk hq1 F N
    dsimp only at hq1 F N
    clear N9 F9 N1 hD hr
    k_steps
    refine Halt.go ?_
    refine normal_spec (RD _ _ F) (N.isList (.head _)) hq1 (by rw [digs_length]; omega) (fun l2 vs2 k2 h2 tk2 K2 n2 g2 I2 => ?_)
    have F10 := fr_keeps F K2
    have N10 := news_add F N K2 n2 g2
    rw [norm_digs hb hsz] at I2
    clear F N
    k_steps
    exact hret l2 vs2 k2 h2 _ (out_keeps G F10) (out_none G N10 (.head _)) (N10.get (.head _)) I2
end

local macro_rules | `(tactic| walk_at "subscriptTail Name Constant ref int") => `(tactic| ((with_reducible show wpAny _ _ (subscriptTail _ _ (Value.ref _) (Value.int _ _)) _ _ _); k_dflt (refine' Mine.r_item ?l ?i ?a ?b ?c ?_ ?s; (case l => kmk_list); (case i => assumption); (case a => decide); (case b => decide); (case c => first | exact Mine.row_get0 (by first | assumption | omega) | exact rfl); (case s => with_unfolding_all rfl)); intro t'))
local macro_rules | `(tactic| walk_at "binaryOp LShift int int") => `(tactic| (with_reducible refine Mine.r_shl1 (by omega) ?_))
local macro_rules | `(tactic| walk_at "binaryOp BitAnd int int") => `(tactic| (with_reducible refine Mine.r_andM2 ?_))
theorem divrem_small_spec {l m : Addr} {vs us : List Value} {W x y : Nat} {tw : Tok} (Y : Ready w (n + 3) A s.heap) (hW : 2 ≤ W) (hW9 : W ≤ 9) (hl : s.heap.IsList l vs.toArray) (hI : IntsAre vs (row (2 ^ W) x)) (hx : x < 2 ^ 40)
   (hm : s.heap.IsList m us.toArray) (hJ : IntsAre us (row (2 ^ W) y)) (hy : 0 < y) (hy2 : y < 2 ^ W)
   (hret : ∀ (v1 : Value) (l' : Addr) (vs' : List Value) (k : Nat) (T : Addr) h' tk', Keeps s.heap h' → s.heap.get? T = none → s.heap.get? l' = none → h'.get? l' = some (listOf (List.toArray vs') k) → IntsAre vs' (row (2 ^ W) (x % y)) →
      h'.get? T = some { cls := .type "tuple", data := .seq #[v1, .ref l'] } → Q (.ref T) { s with heap := h', toks := tk' }) :
   wpAny (model prog w) A (call (.ref 147) [.ref l, .ref m, .int W tw]) Q E s := by
  replace Y : Ready w ((n + 2) + 1) A s.heap := Y
  refine wpAny_call ?_
  refine enter0 [(Str.ofString "a", .ref l), (Str.ofString "b", .ref m), (Str.ofString "w", .int W tw)] (n := _) Y (by k_is) (by k_is) (BindsTo.of_eq rfl) rfl (by decide) ?_ rfl rfl rfl
  intro p loose mean mg mb g L' h₁ A' E' hp G F N X T RD RDM hA hPO
  obtain ⟨_, dp, fr, gd, un⟩ := A'
  obtain rfl : _ = none := hA
  dsimp only
  have hl' := lst_keeps hl G
  have hm' := lst_keeps hm G
  have hb := two_le_pow (W := W) (by omega)
  have hb0 : 0 < 2 ^ W := by omega
  have hb9 : 2 ^ W ≤ 2 ^ 9 := Nat.pow_le_pow_right (by omega) hW9
  have hlen : 0 < (row (2 ^ W) y).length := by rw [row_len, dlen_pos hb hy]; omega
  k_steps
  refine Halt.go ?_
  (rename Fr _ _ _ _ => F9); (rename News _ _ _ _ => N9)
  rw [Nat.mod_eq_of_lt hy2]
  refine divrem_limb_spec (RD _ _ F9) hW hW9 (lst_keeps hl' F9.keep) hI hx hy hy2 (fun l2 vs2 k2 T t2 h2 tk2 K2 nT n2 lt2 g2 I2 gT => ?_)
  have F10 := fr_keeps F9 K2
  have N10 := news_add2 F9 N9 K2 nT gT n2 g2
  clear F9 N9
  have hxy : x % y < 2 ^ W := Nat.lt_trans (Nat.mod_lt _ hy) hy2
  have hI3 : 0 < x % y → row (2 ^ W) (x % y) = [((x % y : Nat) : Int)] := fun h => by
    rw [row, dlen_pos hb h, Nat.div_eq_of_lt hxy, dlen_zero, digs_succ]
    unfold dg
    rw [Nat.pow_zero, Nat.div_one, Nat.mod_eq_of_lt hxy]; rfl
  have hI4 : x % y = 0 → row (2 ^ W) (x % y) = [] := fun h => by rw [h, row_zero]
  generalize x % y = r at *
  k_steps
  · dsimp only
    (rename Fr _ _ _ _ => F9); (rename News _ _ _ _ => N9)
    (rename ((0 : Int) < _) => h0)
    refine hret _ _ [_] 0 _ _ _ (out_keeps G F9) (out_none G N9 (.head _)) (out_none G N9 (.tail _ (.head _))) (N9.get (.tail _ (.head _))) ?_ (N9.get (.head _))
    rw [hI3 (by omega)]; exact .cons _ _ .nil
  · dsimp only
    (rename Fr _ _ _ _ => F9); (rename News _ _ _ _ => N9)
    (rename (¬ (0 : Int) < _) => h0)
    refine hret _ _ [] 0 _ _ _ (out_keeps G F9) (out_none G N9 (.head _)) (out_none G N9 (.tail _ (.head _))) (N9.get (.tail _ (.head _))) ?_ (N9.get (.head _))
    rw [hI4 (by omega)]; exact .nil
theorem guessed_limb_spec {l : Addr} {vs : List Value} {W d0 d1 d2 f sd : Nat} {tw tf tp : Tok} (Y : Ready w (n + 1) A s.heap) (hW : 2 ≤ W) (hW9 : W ≤ 9) (hl : s.heap.IsList l vs.toArray) (hI : IntsAre vs [(d0 : Int), d1, d2]) (h0 : d0 < 2 ^ W) (h1 : d1 < 2 ^ W) (h2 : d2 < 2 ^ W) (hf0 : 0 < f) (hf : f < 2 ^ W) (hsd : sd < 2 ^ W)
   (hret : ∀ (g : Nat) (t : Tok) h' tk', Keeps s.heap h' → g < 2 ^ W → g * (f * 2 ^ W + sd) ≤ (d2 * 2 ^ W + d1) * 2 ^ W + d0 → (∀ q, q < 2 ^ W → q * (f * 2 ^ W + sd) ≤ (d2 * 2 ^ W + d1) * 2 ^ W + d0 → q ≤ g) → Q (.int (g : Int) t) { s with heap := h', toks := tk' }) :
   wpAny (model prog w) A (call (.ref 154) [.ref l, .int f tf, .int sd tp, .int W tw]) Q E s := by
  refine wpAny_call ?_
  refine enter0 [(Str.ofString "top", .ref l), (Str.ofString "first", .int f tf), (Str.ofString "second", .int sd tp), (Str.ofString "w", .int W tw)] (n := _) Y (by k_is) (by k_is) (BindsTo.of_eq rfl) rfl (by decide) ?_ rfl rfl rfl
  intro p loose mean mg mb g L' h₁ A' E' hp G F N X T RD RDM hA hPO
  obtain ⟨_, dp, fr, gd, un⟩ := A'
  obtain rfl : _ = none := hA
  dsimp only
  have hl' := lst_keeps hl G
  have hb := two_le_pow (W := W) (by omega)
  have hb0 : 0 < 2 ^ W := by omega
  have hb9 : 2 ^ W ≤ 2 ^ 9 := Nat.pow_le_pow_right (by omega) hW9
  have hH : d2 * 2 ^ W + d1 < 2 ^ 18 := by
    have : d2 * 2 ^ W ≤ (2 ^ W - 1) * 2 ^ W := Nat.mul_le_mul_right _ (by omega)
    have : (2 ^ W - 1) * 2 ^ W + 2 ^ W ≤ 2 ^ W * 2 ^ W := by rw [Nat.sub_mul]; have := Nat.mul_le_mul_right (2 ^ W) hb; omega
    have : 2 ^ W * 2 ^ W ≤ 2 ^ 9 * 2 ^ 9 := Nat.mul_le_mul hb9 hb9
    omega
  k_steps
  refine Halt.go ?_
  (rename Fr _ _ _ _ => F9); (rename News _ _ _ _ => N9)
  generalize d2 * 2 ^ W + d1 = H at *
  have hmin : (if ((2 ^ W : Nat) : Int) - 1 < ((H / f : Nat) : Int) then ((2 ^ W : Nat) : Int) - 1 else ((H / f : Nat) : Int)) = ((min (H / f) (2 ^ W - 1) : Nat) : Int) := by
    split <;> omega
  have hg1 : min (H / f) (2 ^ W - 1) ≤ H / f := Nat.min_le_left _ _
  have hg2 : min (H / f) (2 ^ W - 1) < 2 ^ W := by omega
  have hg3 : ∀ q, q < 2 ^ W → q * (f * 2 ^ W + sd) ≤ H * 2 ^ W + d0 → q ≤ min (H / f) (2 ^ W - 1) := fun q hq h => guess_first hf0 h0 hq h
  have hg4 : min (H / f) (2 ^ W - 1) * f ≤ H := Nat.le_trans (Nat.mul_le_mul_right _ hg1) (Nat.div_mul_le_self _ _)
  rw [hmin] at F9
  generalize min (H / f) (2 ^ W - 1) = g0 at *
  refine while_k (σ := Int × Tok × Int × Tok) (fun _ => []) (fun c => [(Str.ofString "top", .ref l), (Str.ofString "first", .int f tf), (Str.ofString "second", .int sd tp), (Str.ofString "w", .int W tw), (Str.ofString "base", .int ((2 ^ W : Nat) : Int) _), (Str.ofString "limb", .int c.1 c.2.1), (Str.ofString "rest", .int c.2.2.1 c.2.2.2)])
      (fun c => ∃ a r : Nat, c.1 = a ∧ c.2.2.1 = r ∧ a * f + r = H ∧ a < 2 ^ W ∧ ∀ q, q < 2 ^ W → q * (f * 2 ^ W + sd) ≤ H * 2 ^ W + d0 → q ≤ a) (fun c => c.1.toNat) (g0, _, (H : Int) - g0 * f, _) F9 News.nil (by (refine ⟨?_, ?_, ?_, ?_, ?_, ?_, ?_, trivial⟩ <;> rfl)) ?_ ?_ ?_
  · refine ⟨g0, H - g0 * f, rfl, ?_, by omega, hg2, hg3⟩
    dsimp only
    rw [Int.ofNat_sub hg4, Int.natCast_mul]
  · rintro ⟨a', ta, r', tr⟩ u h tk ⟨a, r, e1, e2, q1, q2, q3⟩ F N
    dsimp only at e1 e2 F N
    subst e1 e2
    clear N9 F9
    have hr : r < 2 ^ 18 := by omega
    k_steps
    · (rename (((r * 2 ^ W + d0 : Nat) : Int) < _) => hc)
      obtain ⟨s1, s2, s3⟩ := guess_step q1 q3 (by omega)
      refine EndOf.intro ((a : Int) - 1, _, (r : Int) + f, _) (by assumption) (by assumption) (by (refine ⟨?_, ?_, ?_, ?_, ?_, ?_, ?_, trivial⟩ <;> rfl)) (fun _ h => nomatch h) (fun _ h => nomatch h) ?_
      exact ⟨⟨a - 1, r + f, by dsimp only; omega, by dsimp only; omega, s2, by omega, s3⟩, by dsimp only; omega⟩
    · (rename (¬ ((r * 2 ^ W + d0 : Nat) : Int) < _) => hc)
      dsimp only
      (rename Fr _ _ _ _ => F9); (rename News _ _ _ _ => N9)
      exact hret a ta _ _ (out_keeps G F9) q2 (guess_done q1 q2 hsd (.inr (by omega))) q3
    · dsimp only
      refine hret a ta _ _ (out_keeps G F) q2 (guess_done q1 q2 hsd (.inl ?_)) q3
      omega
  · passes_own

theorem take_away_spec {l m : Addr} {vs us : List Value} {W R bv g0 at_ len k0 : Nat} {tw tg ta : Tok} (Y : ReadyM w (n + 1) A s.heap [(l, listOf vs.toArray k0)]) (hW : 2 ≤ W) (hW9 : W ≤ 9) (hI : IntsAre vs (digs (2 ^ W) R len)) (hlen : len < 2 ^ 20)
   (hm : s.heap.IsList m us.toArray) (hml : m ≠ l) (hJ : IntsAre us (row (2 ^ W) bv)) (hB : bv < 2 ^ 40) (hat : at_ + dlen (2 ^ W) bv < len) (hR : R < (2 ^ W) ^ (at_ + dlen (2 ^ W) bv + 1)) (hg : g0 < 2 ^ W)
   (hret : ∀ (v : Nat) (vs' : List Value) (y : Nat) t h' tk', KeepsBut l s.heap h' → h'.get? l = some (listOf vs'.toArray k0) → IntsAre vs' (digs (2 ^ W) y len) → y < (2 ^ W) ^ (at_ + dlen (2 ^ W) bv + 1) → v < 2 →
      (y : Int) = R - ((g0 * bv * (2 ^ W) ^ at_ : Nat) : Int) + ((v * (2 ^ W) ^ (at_ + dlen (2 ^ W) bv + 1) : Nat) : Int) → Q (.int (v : Int) t) { s with heap := h', toks := tk' }) :
   wpAny (model prog w) A (call (.ref 161) [.ref l, .ref m, .int g0 tg, .int at_ ta, .int W tw]) Q E s := by
  refine wpAny_call ?_
  refine enter [(Str.ofString "rest", .ref l), (Str.ofString "b", .ref m), (Str.ofString "limb", .int g0 tg), (Str.ofString "at", .int at_ ta), (Str.ofString "w", .int W tw)] (n := _) Y (by k_is) (by k_is) (BindsTo.of_eq rfl) rfl (by decide) ?_ rfl rfl rfl
  intro p loose mean mg mb g L' h₁ A' E' hp G F N X T RD RDM hA hPO
  obtain ⟨_, dp, fr, gd, un⟩ := A'
  obtain rfl : _ = none := hA
  dsimp only
  have hm' : g.IsList m us.toArray := hm.at fun o e => G m o e (by rw [List.map_cons, List.map_nil, List.mem_singleton]; exact hml)
  have hb := two_le_pow (W := W) (by omega)
  have hb0 : 0 < 2 ^ W := by omega
  have hb9 : 2 ^ W ≤ 2 ^ 9 := Nat.pow_le_pow_right (by omega) hW9
  have hn := row_small hW hB
  have hmlen := row_len (2 ^ W) bv
  have hlB := lt_pow_dlen hb bv
  generalize hK : at_ + dlen (2 ^ W) bv = K at *
  k_steps
  refine Halt.go ?_
  (rename Fr _ _ _ _ => F9); (rename News _ _ _ _ => N9)
  (rename PairSrcL _ _ _ _ _ _ _ _ _ _ _ _ => S)
  refine for_enum1 (σ := List Value × Int × Tok) (adr := [l]) (fun c => [(l, listOf c.1.toArray k0)]) (fun c => [(Str.ofString "rest", .ref l), (Str.ofString "b", .ref m), (Str.ofString "limb", .int g0 tg), (Str.ofString "at", .int at_ ta), (Str.ofString "w", .int W tw), (Str.ofString "base", .int ((2 ^ W : Nat) : Int) _), (Str.ofString "carry", .int c.2.1 c.2.2)])
      (fun i c => ∃ y ca : Nat, c.2.1 = ca ∧ IntsAre c.1 (digs (2 ^ W) y len) ∧ y < (2 ^ W) ^ (K + 1) ∧ ca ≤ 2 ^ W ∧ (y : Int) = R - ((g0 * (bv % (2 ^ W) ^ i) * (2 ^ W) ^ at_ : Nat) : Int) + ((ca * (2 ^ W) ^ (at_ + i) : Nat) : Int)) (vs, 0, _) (PairSrcL.at S _ rfl) rfl (fun a ha => by rw [List.mem_singleton.mp ha]; exact Nat.ne_of_gt (by assumption)) (fun _ => rfl) (by (refine ⟨?_, ?_, ?_, ?_, ?_, ?_, ?_, trivial⟩ <;> rfl)) ?_ ?_ ?_
  · exact ⟨R, 0, rfl, hI, hR, by omega, by rw [Nat.pow_zero, Nat.mod_one, Nat.mul_zero, Nat.zero_mul, Nat.zero_mul]; omega⟩
  · rintro ⟨vf, ci, tc⟩ i nn ti t u h tk own hi ho ⟨y, ca, e1, q1, q2, q3, q4⟩ F N
    dsimp only at e1 q1 F N
    subst e1
    have hilt : i < (row (2 ^ W) bv).length := by
      rw [List.getElem?_eq_some_iff] at hi; exact hi.1
    have hn' : nn = (dg (2 ^ W) bv i : Int) := by
      rw [row_get hilt] at hi; exact (Option.some.inj hi).symm
    subst hn'
    have hdl := digs_length (2 ^ W) y len
    have hg1 := dg_lt hb0 y (at_ + i)
    have hg2 := dg_lt hb0 bv i
    clear N9 F9 S
    k_steps
    · (rename (_ < (0 : Int)) => h0)
      (rename IntsAre (List.set _ _ _) _ => hI')
      have hpm := Nat.mod_lt (g0 * dg (2 ^ W) bv i + ca) hb0
      obtain ⟨y', p1, p2, p3, p4⟩ := take_turn (len := len) 1 hb q2 q3 hg (by omega) (by omega) q4 (x := ((dg (2 ^ W) y (at_ + i) : Nat) : Int) - (((g0 * dg (2 ^ W) bv i + ca) % 2 ^ W : Nat) : Int) + ((2 ^ W : Nat) : Int)) (by rw [Int.natCast_one, Int.mul_one]) (by omega) (by omega) (by omega)
      rw [p1] at hI'
      refine EndOf.intro (vf.set _ _, ((((g0 * dg (2 ^ W) bv i + ca) / 2 ^ W : Nat) : Int) + 1), _) (by assumption) (by assumption) (by (refine ⟨?_, ?_, ?_, ?_, ?_, ?_, ?_, trivial⟩ <;> rfl)) (fun p hp => by rw [List.mem_singleton.mp hp]; exact .head _) (fun p hp => .tail _ hp) ?_
      exact ⟨y', _, by dsimp only; rw [← Int.natCast_one, ← Int.natCast_add], hI', p2, p3, p4⟩
    · (rename (¬ _ < (0 : Int)) => h0)
      (rename IntsAre (List.set _ _ _) _ => hI')
      have hpm := Nat.mod_lt (g0 * dg (2 ^ W) bv i + ca) hb0
      obtain ⟨y', p1, p2, p3, p4⟩ := take_turn (len := len) 0 hb q2 q3 hg (by omega) (by omega) q4 (x := ((dg (2 ^ W) y (at_ + i) : Nat) : Int) - (((g0 * dg (2 ^ W) bv i + ca) % 2 ^ W : Nat) : Int)) (by rw [Int.natCast_zero, Int.mul_zero, Int.add_zero]) (by omega) (by omega) (by omega)
      rw [p1] at hI'
      refine EndOf.intro (vf.set _ _, ((((g0 * dg (2 ^ W) bv i + ca) / 2 ^ W : Nat) : Int) + 0), _) (by assumption) (by assumption) (by (refine ⟨?_, ?_, ?_, ?_, ?_, ?_, ?_, trivial⟩ <;> rfl)) (fun p hp => by rw [List.mem_singleton.mp hp]; exact .head _) (fun p hp => .tail _ hp) ?_
      exact ⟨y', _, by dsimp only; rw [← Int.natCast_zero, ← Int.natCast_add], hI', p2, p3, p4⟩
  · rintro ⟨vf, ci, tc⟩ u h tk ⟨y, ca, e1, q1, q2, q3, q4⟩ F N
    dsimp only at e1 q1 F N
    subst e1
    have hdl := digs_length (2 ^ W) y len
    have hg1 := dg_lt hb0 y K
    clear N9 F9 S
    k_steps
    all_goals (rename IntsAre (List.set _ _ _) _ => hI')
    all_goals rw [hmlen, Nat.mod_eq_of_lt hlB, hK] at q4
    all_goals rw [hmlen, hK] at hI'
    · (rename (_ < (0 : Int)) => h0)
      rw [hmlen, hK] at h0
      obtain ⟨y', p1, p2, p3⟩ := take_last (len := len) (e := 1) hb0 q2 (by omega) q4 (x := ((dg (2 ^ W) y K : Nat) : Int) - ca + ((2 ^ W : Nat) : Int)) (by rw [Int.natCast_one, Int.mul_one]) (by omega) (by omega)
      rw [p1] at hI'
      dsimp only
      (rename Fr _ _ _ _ => F9); (rename News _ _ _ _ => N9)
      rw [hmlen, hK] at N9
      exact hret 1 _ y' _ _ _ (out_but (D := l) (by simp) G F9.keep) (N9.get (.head _)) hI' p2 (by omega) p3
    · (rename (¬ _ < (0 : Int)) => h0)
      rw [hmlen, hK] at h0
      obtain ⟨y', p1, p2, p3⟩ := take_last (len := len) (e := 0) hb0 q2 (by omega) q4 (x := ((dg (2 ^ W) y K : Nat) : Int) - ca) (by rw [Int.natCast_zero, Int.mul_zero, Int.add_zero]) (by omega) (by omega)
      rw [p1] at hI'
      dsimp only
      (rename Fr _ _ _ _ => F9); (rename News _ _ _ _ => N9)
      rw [hmlen, hK] at N9
      exact hret 0 _ y' _ _ _ (out_but (D := l) (by simp) G F9.keep) (N9.get (.head _)) hI' p2 (by omega) p3
section
local macro_rules | `(tactic| walk_at "inplaceOp Add int int") => `(tactic| (with_reducible refine Mine.r_iaddN ?_))
theorem put_back_spec {l m : Addr} {vs us : List Value} {W R bv at_ len k0 : Nat} {tw ta : Tok} (Y : ReadyM w (n + 1) A s.heap [(l, listOf vs.toArray k0)]) (hW : 2 ≤ W) (hW9 : W ≤ 9) (hI : IntsAre vs (digs (2 ^ W) R len)) (hlen : len < 2 ^ 20)
   (hm : s.heap.IsList m us.toArray) (hml : m ≠ l) (hJ : IntsAre us (row (2 ^ W) bv)) (hB : bv < 2 ^ 40) (hat : at_ + dlen (2 ^ W) bv < len) (hR : R < (2 ^ W) ^ (at_ + dlen (2 ^ W) bv + 1))
   (hret : ∀ (c : Nat) (vs' : List Value) (y : Nat) h' tk', KeepsBut l s.heap h' → h'.get? l = some (listOf vs'.toArray k0) → IntsAre vs' (digs (2 ^ W) y len) → y < (2 ^ W) ^ (at_ + dlen (2 ^ W) bv + 1) →
      y + c * (2 ^ W) ^ (at_ + dlen (2 ^ W) bv + 1) = R + bv * (2 ^ W) ^ at_ → Q .none { s with heap := h', toks := tk' }) :
   wpAny (model prog w) A (call (.ref 168) [.ref l, .ref m, .int at_ ta, .int W tw]) Q E s := by
  refine wpAny_call ?_
  refine enter [(Str.ofString "rest", .ref l), (Str.ofString "b", .ref m), (Str.ofString "at", .int at_ ta), (Str.ofString "w", .int W tw)] (n := _) Y (by k_is) (by k_is) (BindsTo.of_eq rfl) rfl (by decide) ?_ rfl rfl rfl
  intro p loose mean mg mb g L' h₁ A' E' hp G F N X T RD RDM hA hPO
  obtain ⟨_, dp, fr, gd, un⟩ := A'
  obtain rfl : _ = none := hA
  dsimp only
  have hm' : g.IsList m us.toArray := hm.at fun o e => G m o e (by rw [List.map_cons, List.map_nil, List.mem_singleton]; exact hml)
  have hb := two_le_pow (W := W) (by omega)
  have hb0 : 0 < 2 ^ W := by omega
  have hb9 : 2 ^ W ≤ 2 ^ 9 := Nat.pow_le_pow_right (by omega) hW9
  have hn := row_small hW hB
  have hmlen := row_len (2 ^ W) bv
  have hlB := lt_pow_dlen hb bv
  generalize hK : at_ + dlen (2 ^ W) bv = K at *
  k_steps
  refine Halt.go ?_
  (rename Fr _ _ _ _ => F9); (rename News _ _ _ _ => N9)
  (rename PairSrcL _ _ _ _ _ _ _ _ _ _ _ _ => S)
  refine for_enum1 (σ := List Value × Nat × Tok) (adr := [l]) (fun c => [(l, listOf c.1.toArray k0)]) (fun c => [(Str.ofString "rest", .ref l), (Str.ofString "b", .ref m), (Str.ofString "at", .int at_ ta), (Str.ofString "w", .int W tw), (Str.ofString "mask", .int (((2 ^ W : Nat) : Int) - 1) _), (Str.ofString "carry", .int c.2.1 c.2.2)])
      (fun i c => ∃ y : Nat, IntsAre c.1 (digs (2 ^ W) y len) ∧ y < (2 ^ W) ^ (K + 1) ∧ c.2.1 ≤ 1 ∧ y + c.2.1 * (2 ^ W) ^ (at_ + i) = R + bv % (2 ^ W) ^ i * (2 ^ W) ^ at_) (vs, 0, _) (PairSrcL.at S _ rfl) rfl (fun a ha => by rw [List.mem_singleton.mp ha]; exact Nat.ne_of_gt (by assumption)) (fun _ => rfl) (by (refine ⟨?_, ?_, ?_, ?_, ?_, ?_, trivial⟩ <;> rfl)) ?_ ?_ ?_
  · exact ⟨R, hI, hR, by dsimp only; omega, by rw [Nat.pow_zero, Nat.mod_one, Nat.zero_mul, Nat.zero_mul]⟩
  · rintro ⟨vf, ca, tc⟩ i nn ti t u h tk own hi ho ⟨y, q1, q2, q3, q4⟩ F N
    dsimp only at q1 q3 q4 F N
    have hilt : i < (row (2 ^ W) bv).length := by
      rw [List.getElem?_eq_some_iff] at hi; exact hi.1
    have hn' : nn = (dg (2 ^ W) bv i : Int) := by
      rw [row_get hilt] at hi; exact (Option.some.inj hi).symm
    subst hn'
    have hdl := digs_length (2 ^ W) y len
    have hg1 := dg_lt hb0 y (at_ + i)
    have hg2 := dg_lt hb0 bv i
    clear N9 F9 S
    k_steps
    (rename IntsAre (List.set _ _ _) _ => hI')
    obtain ⟨y', p1, p2, p3, p4⟩ := back_turn (len := len) hb0 q2 q3 (by omega) (by omega) q4
    rw [p1] at hI'
    refine EndOf.intro (vf.set _ _, (ca + (dg (2 ^ W) y (at_ + i) + dg (2 ^ W) bv i)) / 2 ^ W, _) (by assumption) (by assumption) (by (refine ⟨?_, ?_, ?_, ?_, ?_, ?_, trivial⟩ <;> rfl)) (fun p hp => by rw [List.mem_singleton.mp hp]; exact .head _) (fun p hp => .tail _ hp) ?_
    exact ⟨y', hI', p2, p3, p4⟩
  · rintro ⟨vf, ca, tc⟩ u h tk ⟨y, q1, q2, q3, q4⟩ F N
    dsimp only at q1 q3 q4 F N
    have hdl := digs_length (2 ^ W) y len
    have hg1 := dg_lt hb0 y K
    clear N9 F9 S
    k_steps
    (rename IntsAre (List.set _ _ _) _ => hI')
    rw [hmlen, Nat.mod_eq_of_lt hlB, hK] at q4
    rw [hmlen, hK] at hI'
    obtain ⟨y', c', p1, p2, p3⟩ := back_last (c := ca) (len := len) hb0 q2 (by omega)
    rw [p1] at hI'
    dsimp only
    (rename Fr _ _ _ _ => F9); (rename News _ _ _ _ => N9)
    rw [hmlen, hK] at N9
    exact hret c' _ y' _ _ (out_but (D := l) (by simp) G F9.keep) (N9.get (.head _)) hI' p2 (p3.trans q4)
end

section
local macro_rules | `(tactic| walk_at "subscriptTail Name Slice ref ref") => `(tactic| (k_dflt (refine' Mine.sl_run ?F ?N ?l ?i ?m ?c ?d ?_ ?s ?t; (case F => k_asm); (case N => k_asm); (case l => kmk_list); (case i => assumption); (case m => assumption); (case c => omega); (case d => omega); (case s => with_unfolding_all rfl); (case t => kmk_pure)); intro D' ws' h' F' N' l1 hI'; (try k_sweep)))
theorem divide_rows_spec {l m : Addr} {vs us : List Value} {W R bv sz len k0 : Nat} {tw : Tok} (Y : ReadyM w (n + 2) A s.heap [(l, listOf vs.toArray k0)]) (hW : 2 ≤ W) (hW9 : W ≤ 9) (hI : IntsAre vs (digs (2 ^ W) R len)) (hlen : len < 2 ^ 20)
   (hm : s.heap.IsList m us.toArray) (hml : m ≠ l) (hJ : IntsAre us (row (2 ^ W) bv)) (hB : bv < 2 ^ 40) (hsz : dlen (2 ^ W) bv = sz + 2) (hle : sz + 2 ≤ len) (hR : R < bv * (2 ^ W) ^ (len - (sz + 2)))
   (hret : ∀ (l' : Addr) (vq vs' : List Value) nsq k h' tk', KeepsBut l s.heap h' → s.heap.get? l' = none → h'.get? l' = some (listOf (List.toArray vq) k) → IntsAre vq nsq → nsq.length < 2 ^ 20 → h'.get? l = some (listOf vs'.toArray k0) → IntsAre vs' (digs (2 ^ W) (R % bv) len) →
      Q (.ref l') { s with heap := h', toks := tk' }) :
   wpAny (model prog w) A (call (.ref 175) [.ref l, .ref m, .int W tw]) Q E s := by
  replace Y : ReadyM w ((n + 1) + 1) A s.heap [(l, listOf vs.toArray k0)] := Y
  refine wpAny_call ?_
  refine enter [(Str.ofString "rest", .ref l), (Str.ofString "b", .ref m), (Str.ofString "w", .int W tw)] (n := _) Y (by k_is) (by k_is) (BindsTo.of_eq rfl) rfl (by decide) ?_ rfl rfl rfl
  intro p loose mean mg mb g L' h₁ A' E' hp G F N X T RD RDM hA hPO
  obtain ⟨_, dp, fr, gd, un⟩ := A'
  obtain rfl : _ = none := hA
  dsimp only
  have hm' : g.IsList m us.toArray := hm.at fun o e => G m o e (by rw [List.map_cons, List.map_nil, List.mem_singleton]; exact hml)
  have hb := two_le_pow (W := W) (by omega)
  have hb0 : 0 < 2 ^ W := by omega
  have hb9 : 2 ^ W ≤ 2 ^ 9 := Nat.pow_le_pow_right (by omega) hW9
  have hn := row_small hW hB
  have hmlen := row_len (2 ^ W) bv
  have hdl0 := digs_length (2 ^ W) R len
  rw [hsz] at hmlen
  k_steps
  refine Halt.go ?_
  (rename Fr _ _ _ _ => F9); (rename News _ _ _ _ => N9)
  (rename IsRange _ _ _ _ _ _ _ _ => hr)
  (rename (_ ∧ _) => lt9)
  obtain ⟨D, hD, N1, hlD⟩ := name_at2 F9 (Str.ofString "quotient") rfl N9 (.head _) (.tail _ (.tail _ (.head _))) lt9.2
  (rename IntsAre (List.flatten _) _ => hI0)
  have hn0 : ((digs (2 ^ W) R len).length - (row (2 ^ W) bv).length : Nat) = len - (sz + 2) := by omega
  refine for_rangeS (σ := List Value × List Value) (n := len - (sz + 2)) (adr := [D, l]) (fun c => [(D, listOf c.1.toArray 0), (l, listOf c.2.toArray k0)]) (fun c => [(Str.ofString "rest", .ref l), (Str.ofString "b", .ref m), (Str.ofString "w", .int W tw), (Str.ofString "size", .int ((row (2 ^ W) bv).length : Nat) _), (Str.ofString "quotient", .ref D)])
      (fun i c => ∃ nsq R', IntsAre c.1 nsq ∧ nsq.length = len - (sz + 2) ∧ IntsAre c.2 (digs (2 ^ W) R' len) ∧ R' < bv * (2 ^ W) ^ (len - (sz + 2) - i) ∧ R' % bv = R % bv) (_, vs) rfl hr (small_down (by omega) (by omega) (by omega) (by omega)) (by rw [rangeSize_downNat]; omega) F9 N1 (fun _ => rfl) (by refine ⟨rfl, rfl, rfl, ?_, hD, trivial⟩; rfl) ?_ ?_ ?_
  · refine ⟨_, R, hI0, ?_, hI, hR, rfl⟩
    rw [flatten_ones, List.length_replicate, Int.toNat_natCast]; omega
  · rintro ⟨vq, vr⟩ i t u h tk own hi ho ⟨nsq, R', q1, q2, q3, q4, q5⟩ F N
    dsimp only at q1 q3 F N
    obtain ⟨j, hj⟩ : ∃ j, len - (sz + 2) - i = j + 1 := ⟨len - (sz + 2) - i - 1, by omega⟩
    have e1 : (((digs (2 ^ W) R len).length - (row (2 ^ W) bv).length : Nat) : Int) - 1 + (i : Int) * -1 = (j : Int) := by omega
    rw [e1] at F
    have hdl := digs_length (2 ^ W) R' len
    have hdl2 : (digs (2 ^ W) R' len).length < 2 ^ 20 := by omega
    clear N9 F9 N1 hD hI0 hr lt9
    k_steps
    refine Halt.go ?_
    have e5 : (((row (2 ^ W) bv).length : Int) - 1).toNat = sz + 1 := by omega
    have e6 : (((row (2 ^ W) bv).length : Int) - 2).toNat = sz := by omega
    rw [e5, e6]
    (rename Fr _ _ _ _ => F9); (rename News _ _ _ _ => N9)
    (rename IntsAre _ (List.take _ _) => hI9)
    rw [show min (((j + (row (2 ^ W) bv).length : Nat) : Int) + 1).toNat (digs (2 ^ W) R' len).length - (((j + (row (2 ^ W) bv).length : Nat) : Int) - 2).toNat = 3 by omega, show (((j + (row (2 ^ W) bv).length : Nat) : Int) - 2).toNat = j + sz by omega, digs_slice3 (by omega)] at hI9
    have hBlt := lt_pow_dlen hb bv
    rw [hsz] at hBlt
    have hB0 : 0 < bv := by
      cases Nat.eq_zero_or_pos bv with
      | inr q => exact q
      | inl q => rw [q, dlen_zero] at hsz; omega
    have hf0 : 0 < dg (2 ^ W) bv (sz + 1) := by
      have c1 := pow_dlen_le hb bv hB0
      rw [hsz] at c1
      have c2 := div_pow_succ (2 ^ W) bv (sz + 1)
      rw [Nat.div_eq_of_lt hBlt] at c2
      have c3 : 1 ≤ bv / (2 ^ W) ^ (sz + 1) := (Nat.le_div_iff_mul_le (Nat.pow_pos hb0)).mpr (by simpa using c1)
      omega
    rw [hj] at q4
    have hRK : R' < (2 ^ W) ^ (j + dlen (2 ^ W) bv + 1) := by
      rw [hsz]
      refine Nat.lt_of_lt_of_le q4 ?_
      rw [show j + (sz + 2) + 1 = (sz + 2) + (j + 1) by omega, Nat.pow_add (2 ^ W) (sz + 2)]
      exact Nat.mul_le_mul_right _ (by omega)
    (rename (∀ p ∈ _, _ < _) => hltD)
    refine guessed_limb_spec (RD _ _ F9) hW hW9 (N9.isList (.head _)) hI9 (dg_lt hb0 _ _) (dg_lt hb0 _ _) (dg_lt hb0 _ _) hf0 (dg_lt hb0 _ _) (dg_lt hb0 _ _) (fun g1 tg h2 tk2 K2 p1 p2 p3 => ?_)
    have F10 := fr_keeps F9 K2
    have N10 := news_keeps (news_sub N9 (fun p hp => .tail _ hp)) K2
    clear F9 N9 hltD hI9
    obtain ⟨d, z, z1, z2, z3, z4⟩ := div_turn hb hsz q4 p1 p2 p3
    clear p2 p3
    k_steps
    refine Halt.go ?_
    (rename Fr _ _ _ _ => F9); (rename News _ _ _ _ => N9)
    refine take_away_spec (RDM _ _ _ F9 (news_one N9 (.tail _ (.head _)))) hW hW9 q3 hlen (lst_keeps hm' F9.keep) hml hJ hB (by omega) hRK p1 (fun v vr' y tv h3 tk3 K3 g3 I3 y1 y2 y3 => ?_)
    have F10 := fr_but F9 N9 (.tail _ (.head _)) K3
    have N10 : News g L' h3 ((l, listOf vr'.toArray k0) :: (D, listOf vq.toArray 0) :: own) := news_but N9 (.tail _ (.head _)) K3 g3 (fun p hp => by
      rcases List.mem_cons.mp hp with rfl | hp
      · exact ⟨.head _, Nat.ne_of_gt hlD⟩
      · exact ⟨.tail _ (.tail _ hp), ho p hp l (.tail _ (.head _))⟩)
    clear F9 N9
    k_steps
    · (rename ((v : Int) = 1) => hv)
      refine Halt.go ?_
      (rename Fr _ _ _ _ => F9); (rename News _ _ _ _ => N9)
      refine put_back_spec (RDM _ _ _ F9 (news_one N9 (.head _))) hW hW9 I3 hlen (lst_keeps hm' F9.keep) hml hJ hB (by omega) y1 (fun c vr2 y5 h5 tk5 K5 g5 I5 w1 w2 => ?_)
      have F10 := fr_but F9 N9 (.head _) K5
      have N10 : News g L' h5 ((l, listOf vr2.toArray k0) :: (D, listOf vq.toArray 0) :: own) := news_but N9 (.head _) K5 g5 (fun p hp => by
        rcases List.mem_cons.mp hp with rfl | hp
        · exact ⟨.tail _ (.head _), Nat.ne_of_gt hlD⟩
        · exact ⟨.tail _ (.tail _ hp), ho p hp l (.tail _ (.head _))⟩)
      clear F9 N9
      have hv1 : v = 1 := by omega
      subst hv1
      have hzM : z < (2 ^ W) ^ (j + dlen (2 ^ W) bv + 1) := Nat.lt_of_le_of_lt (by rw [z1]; exact Nat.le_add_left _ _) hRK
      have ey := div_back z1 z2 hzM z3 y3 y1 w1 w2
      subst ey
      k_steps
      (rename IntsAre (List.set _ _ _) _ => hI')
      refine EndOf.intro (vq.set j _, vr2) (by assumption) (by assumption) (by (refine ⟨?_, ?_, ?_, ?_, ?_, trivial⟩ <;> rfl)) (fun p hp => by
        rcases List.mem_cons.mp hp with rfl | hp
        · exact .tail _ (.head _)
        · rw [List.mem_singleton.mp hp]; exact .head _) (fun p hp => .tail _ (.tail _ hp)) ?_
      refine ⟨_, y5, hI', by rw [List.length_set]; exact q2, I5, ?_, z4.trans q5⟩
      rw [show len - (sz + 2) - (i + 1) = j by omega]; exact z2
    · (rename ((v : Int) ≠ 1) => hv)
      have hv1 : v = 0 := by omega
      subst hv1
      have ey := div_ok z1 z2 z3 y3
      subst ey
      (rename IntsAre (List.set _ _ _) _ => hI')
      refine EndOf.intro (vq.set j _, vr') (by assumption) (by assumption) (by (refine ⟨?_, ?_, ?_, ?_, ?_, trivial⟩ <;> rfl)) (fun p hp => by
        rcases List.mem_cons.mp hp with rfl | hp
        · exact .tail _ (.head _)
        · rw [List.mem_singleton.mp hp]; exact .head _) (fun p hp => .tail _ (.tail _ hp)) ?_
      refine ⟨_, y, hI', by rw [List.length_set]; exact q2, I3, ?_, z4.trans q5⟩
      rw [show len - (sz + 2) - (i + 1) = j by omega]; exact z2
  · rintro ⟨vq, vr⟩ u h tk ⟨nsq, R', q1, q2, q3, q4, q5⟩ F N
    dsimp only at q1 q3 F N
    clear N9 F9 N1 hI0 hr lt9
    rw [Nat.sub_self, Nat.pow_zero, Nat.mul_one] at q4
    rw [Nat.mod_eq_of_lt q4] at q5
    subst q5
    have hDs : s.heap.get? D = none := by
      cases q : s.heap.get? D with
      | none => rfl
      | some o =>
        have h1 := (N _ (.head _)).2.2
        rw [G D o q (by rw [List.map_cons, List.map_nil, List.mem_singleton]; exact Nat.ne_of_gt hlD)] at h1
        cases h1
    k_steps
    exact hret D vq vr nsq 0 h tk (out_but (D := l) (by simp) G F.keep) hDs (N.get (.head _)) q1 (by omega) (N.get (.tail _ (.head _))) q3
end

section
local macro_rules | `(tactic| walk_at "subscriptTail Name Slice ref ref") => `(tactic| (k_dflt (refine' Mine.sl_all ?F ?N ?l ?i ?m ?_ ?s ?t; (case F => k_asm); (case N => k_asm); (case l => kmk_list); (case i => assumption); (case m => assumption); (case s => with_unfolding_all rfl); (case t => kmk_pure)); intro D' ws' h' F' N' l1 hI'; (try k_sweep)))
theorem divrem_school_spec {l m : Addr} {vs us : List Value} {W x y : Nat} {tw : Tok} (Y : Ready w (n + 4) A s.heap) (hW : 2 ≤ W) (hW9 : W ≤ 9) (hl : s.heap.IsList l vs.toArray) (hI : IntsAre vs (row (2 ^ W) x)) (hx : x < 2 ^ 30)
   (hm : s.heap.IsList m us.toArray) (hJ : IntsAre us (row (2 ^ W) y)) (hy : 0 < y) (hy2 : y < 2 ^ 30)
   (hret : ∀ (v1 : Value) (l' : Addr) (vs' : List Value) (k : Nat) (T : Addr) h' tk', Keeps s.heap h' → s.heap.get? T = none → s.heap.get? l' = none → h'.get? l' = some (listOf (List.toArray vs') k) → IntsAre vs' (row (2 ^ W) (x % y)) →
      h'.get? T = some { cls := .type "tuple", data := .seq #[v1, .ref l'] } → Q (.ref T) { s with heap := h', toks := tk' }) :
   wpAny (model prog w) A (call (.ref 182) [.ref l, .ref m, .int W tw]) Q E s := by
  replace Y : Ready w ((n + 3) + 1) A s.heap := Y
  refine wpAny_call ?_
  refine enter0 [(Str.ofString "a", .ref l), (Str.ofString "b", .ref m), (Str.ofString "w", .int W tw)] (n := _) Y (by k_is) (by k_is) (BindsTo.of_eq rfl) rfl (by decide) ?_ rfl rfl rfl
  intro p loose mean mg mb g L' h₁ A' E' hp G F N X T RD RDM hA hPO
  obtain ⟨_, dp, fr, gd, un⟩ := A'
  obtain rfl : _ = none := hA
  dsimp only
  have hl' := lst_keeps hl G
  have hm' := lst_keeps hm G
  have hb := two_le_pow (W := W) (by omega)
  have hb0 : 0 < 2 ^ W := by omega
  have hb9 : 2 ^ W ≤ 2 ^ 9 := Nat.pow_le_pow_right (by omega) hW9
  have hnx := row_small hW (x := x) (by omega)
  have hny := row_small hW (x := y) (by omega)
  have hlen : 0 < (row (2 ^ W) y).length := by rw [row_len, dlen_pos hb hy]; omega
  k_steps
  · exfalso; omega
  refine Halt.go ?_
  (rename Fr _ _ _ _ => F9); (rename News _ _ _ _ => N9)
  refine compare_spec (RD _ _ F9) hW (lst_keeps hl' F9.keep) (lst_keeps hm' F9.keep) hI hJ (by omega) (by omega) (fun h2 tk2 t2 v2 K2 e2 => ?_)
  have F10 := fr_keeps F9 K2
  have N10 := news_keeps N9 K2
  clear F9 N9
  k_steps
  · dsimp only
    (rename Fr _ _ _ _ => F9); (rename News _ _ _ _ => N9)
    (rename (v2 < 0) => hv)
    have hxy : x < y := by
      by_cases h : x < y
      · exact h
      · rw [if_neg h] at e2; split at e2 <;> omega
    (rename IntsAre _ _ => hI')
    rw [← Nat.mod_eq_of_lt hxy] at hI'
    exact hret _ _ _ 0 _ _ _ (out_keeps G F9) (out_none G N9 (.head _)) (out_none G N9 (.tail _ (.head _))) (N9.get (.tail _ (.head _))) hI' (N9.get (.head _))
  · refine Halt.go ?_
    (rename Fr _ _ _ _ => F9); (rename News _ _ _ _ => N9)
    (rename (_ = (1 : Int)) => hl1)
    have hyb : y < 2 ^ W := by
      have := lt_pow_dlen hb y
      rw [show dlen (2 ^ W) y = 1 by rw [row_len] at hl1; omega, Nat.pow_one] at this
      exact this
    refine divrem_small_spec (RD _ _ F9) hW hW9 (lst_keeps hl' F9.keep) hI (by omega) (lst_keeps hm' F9.keep) hJ hy hyb (fun v1 l2 vs2 k2 T h3 tk3 K3 nT n2 g2 I2 gT => ?_)
    have F10 := fr_keeps F9 K3
    have N10 := news_add2 F9 N9 K3 nT gT n2 g2
    clear F9 N9
    k_steps
    dsimp only
    (rename Fr _ _ _ _ => F9); (rename News _ _ _ _ => N9)
    exact hret v1 l2 vs2 k2 T _ _ (out_keeps G F9) (out_none G N9 (.head _)) (out_none G N9 (.tail _ (.head _))) g2 I2 gT
  · refine Halt.go ?_
    (rename Fr _ _ _ _ => F9); (rename News _ _ _ _ => N9)
    (rename (_ ≠ (1 : Int)) => hl1)
    obtain ⟨sz, hsz⟩ : ∃ sz, dlen (2 ^ W) y = sz + 2 := ⟨dlen (2 ^ W) y - 2, by rw [row_len] at hl1 hlen; omega⟩
    have hxy : y ≤ x := by
      (rename (¬ v2 < 0) => hv)
      refine Nat.le_of_not_lt fun q => hv ?_
      rw [e2, if_pos q]; decide
    have hyl := lt_pow_dlen hb y
    have htop : 0 < dg (2 ^ W) y (sz + 1) := by
      have c1 := pow_dlen_le hb y hy
      rw [hsz] at c1 hyl
      have c2 := div_pow_succ (2 ^ W) y (sz + 1)
      rw [Nat.div_eq_of_lt hyl] at c2
      have c3 : 1 ≤ y / (2 ^ W) ^ (sz + 1) := (Nat.le_div_iff_mul_le (Nat.pow_pos hb0)).mpr (by simpa using c1)
      omega
    have htop2 := dg_lt hb0 y (sz + 1)
    rw [row_getD hb, row_len, show (-1 + (dlen (2 ^ W) y : Int)).toNat = sz + 1 by omega] at N9
    refine bits_spec (RD _ _ F9) hW hW9 (N9.isList (.head _)) (.cons _ _ .nil) (by omega) (by omega) (fun h3 tk3 t3 v3 K3 e3 => ?_)
    have F10 := fr_keeps F9 K3
    have N10 := news_keeps (news_sub (news' := []) N9 (fun _ h => nomatch h)) K3
    clear F9 N9
    have hL1 : Builtin.Int.intBits (dg (2 ^ W) y (sz + 1) : Int) ≤ W := intBits_le_iff.mpr (by rw [Int.natAbs_natCast]; exact htop2)
    have hL2 : dg (2 ^ W) y (sz + 1) < 2 ^ Builtin.Int.intBits (dg (2 ^ W) y (sz + 1) : Int) := by
      have := (intBits_le_iff (x := (dg (2 ^ W) y (sz + 1) : Int)) (m := Builtin.Int.intBits (dg (2 ^ W) y (sz + 1) : Int))).mp (Nat.le_refl _)
      rwa [Int.natAbs_natCast] at this
    have hL3 : 1 ≤ Builtin.Int.intBits (dg (2 ^ W) y (sz + 1) : Int) := by
      refine Nat.pos_of_ne_zero fun q => ?_
      rw [q] at hL2
      omega
    generalize Builtin.Int.intBits (dg (2 ^ W) y (sz + 1) : Int) = L at *
    subst e3
    obtain ⟨s1, s2, s3, s4⟩ := norm_shift hW hsz hL2 htop hL1 hxy
    k_steps
    refine Halt.go ?_
    (rename Fr _ _ _ _ => F9); (rename News _ _ _ _ => N9)
    have hshW : W - L < W := by omega
    have hB40 : y * 2 ^ (W - L) < 2 ^ 40 := by
      have q1 : 2 ^ (W - L) ≤ 2 ^ 9 := Nat.pow_le_pow_right (by omega) (by omega)
      have q2 : y * 2 ^ (W - L) ≤ y * 2 ^ 9 := Nat.mul_le_mul_left _ q1
      omega
    have hx40 : x * 2 ^ (W - L) < 2 ^ 40 := by
      have q1 : 2 ^ (W - L) ≤ 2 ^ 9 := Nat.pow_le_pow_right (by omega) (by omega)
      have q2 : x * 2 ^ (W - L) ≤ x * 2 ^ 9 := Nat.mul_le_mul_left _ q1
      omega
    refine shift_left_spec (RD _ _ F9) hW hW9 (lst_keeps hm' F9.keep) hJ hy2 hshW (fun lb vb kb h4 tk4 K4 n4 g4 I4 => ?_)
    have F10 := fr_keeps F9 K4
    have N10 := news_add F9 N9 K4 n4 g4
    clear F9 N9
    generalize W - L = sh at *
    k_steps
    refine Halt.go ?_
    (rename Fr _ _ _ _ => F9); (rename News _ _ _ _ => N9)
    refine shift_left_spec (RD _ _ F9) hW hW9 (lst_keeps hl' F9.keep) hI hx hshW (fun la va ka h5 tk5 K5 n5 g5 I5 => ?_)
    have F10 := fr_keeps F9 K5
    have N10 := news_add F9 N9 K5 n5 g5
    have hne := news_off N9 n5
    have hnr := row_small hW hx40
    have hnr2 : (row (2 ^ W) (x * 2 ^ sh)).length ≤ (row (2 ^ W) x).length + 1 := by rw [row_len, row_len]; omega
    clear F9 N9
    k_steps
    refine Halt.go ?_
    (rename Fr _ _ _ _ => F9); (rename News _ _ _ _ => N9)
    (rename (_ ∧ _ ∧ _ ∧ _) => lt9)
    (rename IntsAre _ (_ ++ List.flatten _) => hI6)
    rw [flatten_ones, show (((row (2 ^ W) x).length : Int) + 1 - ((row (2 ^ W) (x * 2 ^ sh)).length : Int)).toNat = dlen (2 ^ W) x + 1 - dlen (2 ^ W) (x * 2 ^ sh) by rw [row_len, row_len]; omega, row_append_zeros hb s4] at hI6
    have hl20 : dlen (2 ^ W) x + 1 < 2 ^ 20 := by
      have := dlen_small (W := W) (by omega) hx
      omega
    refine divide_rows_spec (RDM _ _ _ F9 (news_one N9 (.head _))) hW hW9 hI6 hl20 (N9.isList (.tail _ (.tail _ (.tail _ (.tail _ (.head _)))))) (Nat.ne_of_lt lt9.2.2.2) I4 hB40 s1 s2 s3 (fun lq vq vr nsq kq h6 tk6 K6 n6 g6 I6 hq6 g7 I7 => ?_)
    have F10 := fr_but F9 N9 (.head _) K6
    have N10 := news_addB F9 F10 (news_but (news' := []) N9 (.head _) K6 g7 (fun _ h => nomatch h)) n6 g6
    clear F9 N9 lt9 hI6
    k_steps
    refine Halt.go ?_
    (rename Fr _ _ _ _ => F9); (rename News _ _ _ _ => N9)
    refine normal_spec (RD _ _ F9) (N9.isList (.head _)) I6 hq6 (fun l8 vs8 k8 h8 tk8 K8 n8 g8 I8 => ?_)
    have F10 := fr_keeps F9 K8
    have N10 := news_add F9 N9 K8 n8 g8
    clear F9 N9
    k_steps
    refine Halt.go ?_
    (rename Fr _ _ _ _ => F9); (rename News _ _ _ _ => N9)
    have hRB : x * 2 ^ sh % (y * 2 ^ sh) = x % y * 2 ^ sh := Nat.mul_mod_mul_right _ _ _
    have hRlt : x * 2 ^ sh % (y * 2 ^ sh) < (2 ^ W) ^ (dlen (2 ^ W) x + 1) := Nat.lt_of_le_of_lt (Nat.mod_le _ _) (Nat.lt_of_lt_of_le (lt_pow_dlen hb _) (Nat.pow_le_pow_right hb0 s4))
    refine normal_spec (RD _ _ F9) (N9.isList (.tail _ (.tail _ (.head _)))) I7 (by rw [digs_length]; exact hl20) (fun l9 vs9 k9 h9 tk9 K9 n9 g9 I9 => ?_)
    rw [norm_digs hb hRlt, hRB] at I9
    have F10 := fr_keeps F9 K9
    have N10 := news_add F9 N9 K9 n9 g9
    clear F9 N9
    k_steps
    refine Halt.go ?_
    (rename Fr _ _ _ _ => F9); (rename News _ _ _ _ => N9)
    refine shift_right_spec (RD _ _ F9) hW hW9 (N9.isList (.head _)) I9 (by rw [← hRB]; exact Nat.lt_of_le_of_lt (Nat.mod_le _ _) hx40) (by omega) (fun lA vsA kA hA tkA KA nA gA IA => ?_)
    rw [Nat.mul_div_cancel _ (Nat.pow_pos (by omega))] at IA
    have F10 := fr_keeps F9 KA
    have N10 := news_add F9 N9 KA nA gA
    clear F9 N9
    k_steps
    dsimp only
    (rename Fr _ _ _ _ => F9); (rename News _ _ _ _ => N9)
    exact hret _ lA vsA kA _ _ _ (out_keeps G F9) (out_none G N9 (.head _)) (out_none G N9 (.tail _ (.head _))) (N9.get (.tail _ (.head _))) IA (N9.get (.head _))
end

structure JSt where
  a : Addr
  va : List Value
  ka : Nat
  x : Nat
  n : Addr
  vn : List Value
  y : Nat
  f : Int
  t : Tok
  rest : List (Addr × Obj)
theorem tsign_or (k n : Nat) : tsign k n = 1 ∨ tsign k n = -1 := by
  unfold tsign; split
  · exact .inr rfl
  · exact .inl rfl
theorem jac_step {S : Nat → Nat → Int} (JL : JLaws S) {f : Int} {k m x y X Y : Nat} (e : x = 2 ^ k * (2 * m + 1)) (hy : y % 2 = 1) (h : f * S x y = S X Y) :
    f * tsign k y * qsign (2 * m + 1) y * S (y % (2 * m + 1)) (2 * m + 1) = S X Y := by
  rw [← h, e, JL.two _ _ _ hy, JL.mod _ _ (by omega), JL.recip (2 * m + 1) y (by omega) hy]
  grind
theorem jacobi_spec {S : Nat → Nat → Int} (JL : JLaws S) {la ln : Addr} {vs us : List Value} {W x y : Nat} {tw : Tok} (Y : Ready w (n + 5) A s.heap) (hW : 2 ≤ W) (hW9 : W ≤ 9) (hl : s.heap.IsList la vs.toArray) (hI : IntsAre vs (row (2 ^ W) x)) (hx : x < 2 ^ 30)
   (hm : s.heap.IsList ln us.toArray) (hJ : IntsAre us (row (2 ^ W) y)) (hy : y % 2 = 1) (hy2 : y < 2 ^ 30)
   (hret : ∀ v t h' tk', Keeps s.heap h' → v = S x y → Q (.int v t) { s with heap := h', toks := tk' }) :
   wpAny (model prog w) A (call (.ref 133) [.ref la, .ref ln, .int W tw, .ref 182]) Q E s := by
  replace Y : Ready w ((n + 4) + 1) A s.heap := Y
  refine wpAny_call ?_
  refine enter0 [(Str.ofString "a", .ref la), (Str.ofString "n", .ref ln), (Str.ofString "w", .int W tw), (Str.ofString "divrem", .ref 182)] (n := _) Y (by k_is) (by k_is) (BindsTo.of_eq rfl) rfl (by decide) ?_ rfl rfl rfl
  intro p loose mean mg mb g L' h₁ A' E' hp G F N X T RD RDM hA hPO
  obtain ⟨_, dp, fr, gd, un⟩ := A'
  obtain rfl : _ = none := hA
  dsimp only
  have hl' := lst_keeps hl G
  have hm' := lst_keeps hm G
  have hb := two_le_pow (W := W) (by omega)
  have hb0 : 0 < 2 ^ W := by omega
  have hb9 : 2 ^ W ≤ 2 ^ 9 := Nat.pow_le_pow_right (by omega) hW9
  k_steps
  refine Halt.go ?_
  (rename Fr _ _ _ _ => F9); (rename News _ _ _ _ => N9)
  refine is_even_spec (RD _ _ F9) hW (lst_keeps hm' F9.keep) hJ (by omega) (fun h2 tk2 b2 K2 e2 => ?_)
  have F10 := fr_keeps F9 K2
  have N10 := news_keeps N9 K2
  clear F9 N9
  rw [decide_eq_false (by omega)] at e2
  subst e2
  k_steps
  refine Halt.go ?_
  (rename Fr _ _ _ _ => F9); (rename News _ _ _ _ => N9)
  refine divrem_school_spec (RD _ _ F9) hW hW9 (lst_keeps hl' F9.keep) hI hx (lst_keeps hm' F9.keep) hJ (by omega) hy2 (fun v1 l3 vs3 k3 T3 h3 tk3 K3 nT3 n3 g3 I3 gT3 => ?_)
  have F10 := fr_keeps F9 K3
  have N10 := news_add2 F9 N9 K3 nT3 gT3 n3 g3
  clear F9 N9
  k_steps
  refine Halt.go ?_
  (rename Fr _ _ _ _ => F9); (rename News _ _ _ _ => N9)
  refine while_k (σ := JSt) (fun c => (c.a, listOf c.va.toArray c.ka) :: c.rest) (fun c => [(Str.ofString "a", .ref c.a), (Str.ofString "n", .ref c.n), (Str.ofString "w", .int W tw), (Str.ofString "divrem", .ref 182), (Str.ofString "found", .int c.f c.t)])
    (fun c => (∀ h m, Fr g L' h m → News g L' h ((c.a, listOf c.va.toArray c.ka) :: c.rest) → h.IsList c.n c.vn.toArray) ∧ IntsAre c.va (row (2 ^ W) c.x) ∧ IntsAre c.vn (row (2 ^ W) c.y) ∧ c.y % 2 = 1 ∧ c.x < c.y ∧ c.y < 2 ^ 30 ∧ (c.f = 1 ∨ c.f = -1) ∧ c.f * S c.x c.y = S x y)
    (fun c => c.y) ⟨l3, vs3, k3, x % y, ln, us, y, 1, _, []⟩ F9 (news_one N9 (.tail _ (.tail _ (.head _)))) (by (refine ⟨?_, ?_, ?_, ?_, ?_, trivial⟩ <;> rfl)) ?_ ?_ (by passes_own)
  · exact ⟨fun h m F _ => lst_keeps hm' F.keep, I3, hJ, hy, Nat.mod_lt _ (by omega), hy2, .inl rfl, by rw [Int.one_mul, JL.mod _ _ hy]⟩
  rintro ⟨a, va, ka, x', nn, vn, y', f, tf⟩ u h tk ⟨hn, q1, q2, q3, q4, q5, q6, q7⟩ F N
  dsimp only at hn q1 q2 q3 q4 q5 q6 q7 F N
  have hrl := row_small hW (x := x') (by omega)
  have hrp := row_pos hb (x := x')
  clear F9 N9
  k_steps
  · refine Halt.go ?_
    (rename Fr _ _ _ _ => F9); (rename News _ _ _ _ => N9)
    (rename ((0 : Int) < _) => h0)
    refine trailing_spec (RD _ _ F9) hW hW9 (N9.isList (.head _)) q1 (by omega) (hrp.mp (by omega)) (fun h4 tk4 t4 v4 k m K4 e4 e5 => ?_)
    have F10 := fr_keeps F9 K4
    have N10 := news_keeps N9 K4
    clear F9 N9
    subst e4
    have hk30 : k < 30 := by
      refine (Nat.pow_lt_pow_iff_right (a := 2) (by omega)).mp (Nat.lt_of_le_of_lt ?_ (Nat.lt_trans q4 q5))
      rw [e5]; exact Nat.le_mul_of_pos_right _ (by omega)
    k_steps
    refine Halt.go ?_
    (rename Fr _ _ _ _ => F9); (rename News _ _ _ _ => N9)
    refine shift_right_spec (RD _ _ F9) hW hW9 (N9.isList (.head _)) q1 (by omega) (by omega) (fun l5 vs5 k5 h5 tk5 K5 n5 g5 I5 => ?_)
    have F10 := fr_keeps F9 K5
    have N10 := news_add F9 N9 K5 n5 g5
    clear F9 N9
    rw [show x' / 2 ^ k = 2 * m + 1 by rw [e5, Nat.mul_div_cancel_left _ (Nat.pow_pos (by omega))]] at I5
    have hm1 : 2 * m + 1 ≤ x' := by rw [e5]; exact Nat.le_mul_of_pos_left _ (Nat.pow_pos (by omega))
    k_steps
    refine Halt.go ?_
    (rename Fr _ _ _ _ => F9); (rename News _ _ _ _ => N9)
    refine two_sign_spec (RD _ _ F9) hW hW9 (hn _ _ F9 (news_sub N9 (fun p hp => .tail _ hp))) q2 (by omega) (fun h6 tk6 t6 v6 K6 e6 => ?_)
    replace e6 : v6 = tsign k y' := e6
    have F10 := fr_keeps F9 K6
    have N10 := news_keeps N9 K6
    clear F9 N9
    k_steps
    refine Halt.go ?_
    (rename Fr _ _ _ _ => F9); (rename News _ _ _ _ => N9)
    refine last_bits_spec (i := 2) (RD _ _ F9) hW hW9 (N9.isList (.head _)) I5 (by omega) (by omega) (fun h7 tk7 t7 v7 K7 e7 => ?_)
    have F10 := fr_keeps F9 K7
    have N10 := news_keeps N9 K7
    clear F9 N9
    have fin : ∀ f', f' = f * tsign k y' * qsign (2 * m + 1) y' → (f' = 1 ∨ f' = -1) ∧ f' * S (y' % (2 * m + 1)) (2 * m + 1) = S x y := by
      rintro f' rfl
      refine ⟨?_, jac_step JL e5 q3 q7⟩
      have := tsign_or k y'
      unfold qsign
      split <;> rcases q6 with rfl | rfl <;> rcases this with h | h <;> rw [h] <;> decide
    k_steps
    · (rename (v7 = (3 : Int)) => c7)
      refine Halt.go ?_
      (rename Fr _ _ _ _ => F9); (rename News _ _ _ _ => N9)
      refine last_bits_spec (i := 2) (RD _ _ F9) hW hW9 (hn _ _ F9 (news_sub N9 (fun p hp => .tail _ hp))) q2 (by omega) (by omega) (fun h8 tk8 t8 v8 K8 e8 => ?_)
      have F10 := fr_keeps F9 K8
      have N10 := news_keeps N9 K8
      clear F9 N9
      k_steps
      · (rename (v8 = (3 : Int)) => c8)
        refine Halt.go ?_
        (rename Fr _ _ _ _ => F9); (rename News _ _ _ _ => N9)
        have hq : qsign (2 * m + 1) y' = -1 := if_pos ⟨by omega, by omega⟩
        replace fin := fin (-(f * v6)) (by rw [hq, e6, Int.mul_neg, Int.mul_one])
        refine divrem_school_spec (RD _ _ F9) hW hW9 (hn _ _ F9 (news_sub N9 (fun p hp => .tail _ hp))) q2 q5 (N9.isList (.head _)) I5 (by omega) (by omega) (fun v9 l9 vs9 k9 T9 h9 tk9 K9 nT9 n9 g9 I9 gT9 => ?_)
        have F10 := fr_keeps F9 K9
        have N10 := news_add2 F9 N9 K9 nT9 gT9 n9 g9
        clear F9 N9
        k_steps
        (rename Fr _ _ _ _ => F9); (rename News _ _ _ _ => N9)
        refine EndOf.intro ⟨l9, vs9, k9, y' % (2 * m + 1), l5, vs5, 2 * m + 1, -(f * v6), _, [(l5, listOf vs5.toArray k5)]⟩ (by assumption) (by assumption) (by (refine ⟨?_, ?_, ?_, ?_, ?_, trivial⟩ <;> rfl)) (fun p hp => by
          rcases List.mem_cons.mp hp with rfl | hp
          · k_mem
          · rw [List.mem_singleton.mp hp]; k_mem) (fun _ h => nomatch h) ?_
        exact ⟨⟨fun h m F N => N.isList (.tail _ (.head _)), I9, I5, by dsimp only; omega, Nat.mod_lt _ (by omega), by dsimp only; omega, fin.1, fin.2⟩, by dsimp only; omega⟩
      · (rename (v8 ≠ (3 : Int)) => c8)
        refine Halt.go ?_
        (rename Fr _ _ _ _ => F9); (rename News _ _ _ _ => N9)
        have hq : qsign (2 * m + 1) y' = 1 := if_neg (fun q => c8 (by omega))
        replace fin := fin (f * v6) (by rw [hq, e6, Int.mul_one])
        refine divrem_school_spec (RD _ _ F9) hW hW9 (hn _ _ F9 (news_sub N9 (fun p hp => .tail _ hp))) q2 q5 (N9.isList (.head _)) I5 (by omega) (by omega) (fun v9 l9 vs9 k9 T9 h9 tk9 K9 nT9 n9 g9 I9 gT9 => ?_)
        have F10 := fr_keeps F9 K9
        have N10 := news_add2 F9 N9 K9 nT9 gT9 n9 g9
        clear F9 N9
        k_steps
        (rename Fr _ _ _ _ => F9); (rename News _ _ _ _ => N9)
        refine EndOf.intro ⟨l9, vs9, k9, y' % (2 * m + 1), l5, vs5, 2 * m + 1, f * v6, _, [(l5, listOf vs5.toArray k5)]⟩ (by assumption) (by assumption) (by (refine ⟨?_, ?_, ?_, ?_, ?_, trivial⟩ <;> rfl)) (fun p hp => by
          rcases List.mem_cons.mp hp with rfl | hp
          · k_mem
          · rw [List.mem_singleton.mp hp]; k_mem) (fun _ h => nomatch h) ?_
        exact ⟨⟨fun h m F N => N.isList (.tail _ (.head _)), I9, I5, by dsimp only; omega, Nat.mod_lt _ (by omega), by dsimp only; omega, fin.1, fin.2⟩, by dsimp only; omega⟩
    · (rename (v7 ≠ (3 : Int)) => c7)
      refine Halt.go ?_
      (rename Fr _ _ _ _ => F9); (rename News _ _ _ _ => N9)
      have hq : qsign (2 * m + 1) y' = 1 := if_neg (fun q => c7 (by omega))
      replace fin := fin (f * v6) (by rw [hq, e6, Int.mul_one])
      refine divrem_school_spec (RD _ _ F9) hW hW9 (hn _ _ F9 (news_sub N9 (fun p hp => .tail _ hp))) q2 q5 (N9.isList (.head _)) I5 (by omega) (by omega) (fun v9 l9 vs9 k9 T9 h9 tk9 K9 nT9 n9 g9 I9 gT9 => ?_)
      have F10 := fr_keeps F9 K9
      have N10 := news_add2 F9 N9 K9 nT9 gT9 n9 g9
      clear F9 N9
      k_steps
      (rename Fr _ _ _ _ => F9); (rename News _ _ _ _ => N9)
      refine EndOf.intro ⟨l9, vs9, k9, y' % (2 * m + 1), l5, vs5, 2 * m + 1, f * v6, _, [(l5, listOf vs5.toArray k5)]⟩ (by assumption) (by assumption) (by (refine ⟨?_, ?_, ?_, ?_, ?_, trivial⟩ <;> rfl)) (fun p hp => by
        rcases List.mem_cons.mp hp with rfl | hp
        · k_mem
        · rw [List.mem_singleton.mp hp]; k_mem) (fun _ h => nomatch h) ?_
      exact ⟨⟨fun h m F N => N.isList (.tail _ (.head _)), I9, I5, by dsimp only; omega, Nat.mod_lt _ (by omega), by dsimp only; omega, fin.1, fin.2⟩, by dsimp only; omega⟩
  · refine Halt.go ?_
    (rename Fr _ _ _ _ => F9); (rename News _ _ _ _ => N9)
    (rename (¬ (0 : Int) < _) => h0)
    refine compare_spec (y := 1) (RD _ _ F9) hW (hn _ _ F9 (news_sub N9 (fun p hp => .tail _ hp))) (N9.isList (.head _)) q2 (by rw [row_one hb]; exact .cons _ _ .nil) (by omega) (by omega) (fun h4 tk4 t4 v4 K4 e4 => ?_)
    have F10 := fr_keeps F9 K4
    have N10 := news_keeps N9 K4
    clear F9 N9
    have hx0 : x' = 0 := by omega
    subst hx0
    rw [JL.zero _ q3] at q7
    k_steps
    · dsimp only
      (rename Fr _ _ _ _ => F9); (rename News _ _ _ _ => N9)
      (rename (v4 = (0 : Int)) => c4)
      refine hret _ _ _ _ (out_keeps G F9) ?_
      rw [if_pos (by
        by_cases h : y' = 1
        · exact h
        · exfalso; rw [if_neg h] at e4; split at e4 <;> omega), Int.mul_one] at q7
      exact q7
    · dsimp only
      (rename Fr _ _ _ _ => F9); (rename News _ _ _ _ => N9)
      (rename (v4 ≠ (0 : Int)) => c4)
      refine hret _ _ _ _ (out_keeps G F9) ?_
      rw [if_neg (fun h => c4 (by rw [e4, h]; decide)), Int.mul_zero] at q7
      exact q7

theorem jacobi_even {la ln : Addr} {us : List Value} {W y : Nat} {tw : Tok} {mu : List (Addr × Obj)} {base : Heap} {stack : List Env} (Y : ReadyAt w (n + 2) A s.heap mu base stack) (hW : 2 ≤ W) (hW9 : W ≤ 9)
   (hm : s.heap.IsList ln us.toArray) (hJ : IntsAre us (row (2 ^ W) y)) (hy : y % 2 = 0) (hy2 : y < 2 ^ 30)
   (hraise : ∀ (e : Addr) (t : Addr) (vs : List Value) (g : Heap) h' tk', (∀ b o, s.heap.get? b = some o → b ∉ mu.map (·.1) → g.get? b = some o) → RaisedK base stack e (.ref 49) t vs mu h' → g.UpToSlots h' → E (.ref e) { s with heap := h', toks := tk' }) :
   wpAny (model prog w) A (call (.ref 133) [.ref la, .ref ln, .int W tw, .ref 182]) Q E s := by
  replace Y : ReadyAt w ((n + 1) + 1) A s.heap mu base stack := Y
  have hN : ∀ p ∈ mu, s.heap.get? p.1 = some p.2 := by
    obtain ⟨_, _, _, _, _, _, _, _, _, _, _, _, _, N⟩ := Y
    exact fun p hp => (N p hp).1
  refine wpAny_call ?_
  refine enterE [(Str.ofString "a", .ref la), (Str.ofString "n", .ref ln), (Str.ofString "w", .int W tw), (Str.ofString "divrem", .ref 182)] (n := _) Y (by k_is) (by k_is) (BindsTo.of_eq rfl) rfl (by decide) ?_ rfl rfl rfl
  intro p loose mean mg mb g L' h₁ hp G F N B X T RD RDM hh hdp hun
  obtain ⟨_, dp, fr, gd, un⟩ := A
  obtain rfl : _ = none := hh
  dsimp only at hdp hun ⊢
  have hall : Keeps s.heap h₁ := fun b o e => by
    by_cases q : b ∈ mu.map (·.1)
    · obtain ⟨p, hp, rfl⟩ := List.mem_map.mp q
      rw [hN p hp] at e
      rw [← Option.some.inj e]
      exact (N p hp).1
    · exact F.keep _ _ (G b o e q)
  have N0 : ∀ h2, Keeps h₁ h2 → News g L' h2 mu := fun h2 K => news_keeps N K
  clear N
  k_steps
  refine Halt.go ?_
  (rename Fr _ _ _ _ => F9)
  refine is_even_spec (RD _ _ F9) hW (lst_keeps hm hall) hJ (by omega) (fun h2 tk2 b2 K2 e2 => ?_)
  have F10 := fr_keeps F9 K2
  have N10 := N0 h2 K2
  clear F9
  rw [decide_eq_true (by omega)] at e2
  subst e2
  k_steps
  (rename RaisedK _ _ _ _ _ _ _ _ => R9)
  (rename Heap.UpToSlots _ _ => U9)
  exact hraise _ _ _ _ _ _ G R9 U9

section
local macro_rules | `(tactic| walk_at "eval Call") => `(tactic| k_dflt (refine Call_ ?_))
theorem kronecker_spec {S : Nat → Nat → Int} (JL : JLaws S) {tx ty la ln : Addr} {vs us : List Value} {W x y : Nat} {bx by_ : Bool} {tw : Tok} (Y : Ready w (n + 6) A s.heap) (hW : 2 ≤ W) (hW9 : W ≤ 9)
   (hx1 : IsTup s.heap tx #[.bool bx, .ref la]) (hy1 : IsTup s.heap ty #[.bool by_, .ref ln]) (hl : s.heap.IsList la vs.toArray) (hI : IntsAre vs (row (2 ^ W) x)) (hx : x < 2 ^ 30)
   (hm : s.heap.IsList ln us.toArray) (hJ : IntsAre us (row (2 ^ W) y)) (hy2 : y < 2 ^ 30)
   (hret : ∀ v t h' tk', Keeps s.heap h' → KronIs S bx x by_ y v → Q (.int v t) { s with heap := h', toks := tk' }) :
   wpAny (model prog w) A (call (.ref 140) [.ref tx, .ref ty, .int W tw, .ref 182]) Q E s := by
  replace Y : Ready w ((n + 5) + 1) A s.heap := Y
  refine wpAny_call ?_
  refine enter0 [(Str.ofString "x", .ref tx), (Str.ofString "y", .ref ty), (Str.ofString "w", .int W tw), (Str.ofString "divrem", .ref 182)] (n := _) Y (by k_is) (by k_is) (BindsTo.of_eq rfl) rfl (by decide) ?_ rfl rfl rfl
  intro p loose mean mg mb g L' h₁ A' E' hp G F N X T RD RDM hA hPO
  obtain ⟨_, dp, fr, gd, un⟩ := A'
  obtain rfl : _ = none := hA
  dsimp only
  have hx1' := hx1.keeps G
  have hy1' := hy1.keeps G
  have hl' := lst_keeps hl G
  have hm' := lst_keeps hm G
  have hb := two_le_pow (W := W) (by omega)
  have hb0 : 0 < 2 ^ W := by omega
  have hb9 : 2 ^ W ≤ 2 ^ 9 := Nat.pow_le_pow_right (by omega) hW9
  have hnx := row_small hW (x := x) (by omega)
  have hny := row_small hW (x := y) (by omega)
  refine' Join.mk (t := call (.ref 114) [.ref ln, .int W tw])
    (fun s' => ∃ (f : Int) (h : Heap) (tk : Nat) (m' : Str → Option Value) (nw : List (Addr × Obj)) (tf : Tok), s' = { s with heap := h, toks := tk } ∧ f = (if bx = true ∧ by_ = true then -1 else 1) ∧ 0 < y ∧ (x % 2 = 1 ∨ y % 2 = 1) ∧ Fr g L' h m' ∧ News g L' h nw ∧
      Has m' [(Str.ofString "x", .ref tx), (Str.ofString "y", .ref ty), (Str.ofString "w", .int W tw), (Str.ofString "divrem", .ref 182), (Str.ofString "a", .ref la), (Str.ofString "n", .ref ln), (Str.ofString "found", .int f tf)]) ?main ?body
  case body =>
    intro J
    k_steps
    · refine Halt.go ?_
      (rename Fr _ _ _ _ => F9); (rename News _ _ _ _ => N9)
      (rename (_ = (0 : Int)) => h0)
      have hy0 : y = 0 := by
        have := row_pos hb (x := y)
        omega
      refine compare_spec (y := 1) (RD _ _ F9) hW (lst_keeps hl' F9.keep) (N9.isList (.head _)) hI (by rw [row_one hb]; exact .cons _ _ .nil) (by omega) (by omega) (fun h4 tk4 t4 v4 K4 e4 => ?_)
      have F10 := fr_keeps F9 K4
      have N10 := news_keeps N9 K4
      clear F9 N9 J
      k_steps
      · dsimp only
        (rename Fr _ _ _ _ => F9); (rename News _ _ _ _ => N9)
        (rename (v4 = (0 : Int)) => c4)
        refine hret _ _ _ _ (out_keeps G F9) ⟨fun _ => ?_, fun h => by omega, fun k m e => ?_⟩
        · rw [if_pos]
          by_cases h : x = 1
          · exact h
          · exfalso; rw [if_neg h] at e4; split at e4 <;> omega
        · have := Nat.pow_pos (n := k) (show 0 < 2 by omega)
          rw [hy0] at e
          exact absurd e.symm (Nat.ne_of_gt (Nat.mul_pos this (by omega)))
      · dsimp only
        (rename Fr _ _ _ _ => F9); (rename News _ _ _ _ => N9)
        (rename (v4 ≠ (0 : Int)) => c4)
        refine hret _ _ _ _ (out_keeps G F9) ⟨fun _ => ?_, fun h => by omega, fun k m e => ?_⟩
        · rw [if_neg (fun h => c4 (by rw [e4, h]; decide))]
        · have := Nat.pow_pos (n := k) (show 0 < 2 by omega)
          rw [hy0] at e
          exact absurd e.symm (Nat.ne_of_gt (Nat.mul_pos this (by omega)))
    · refine Halt.go ?_
      (rename Fr _ _ _ _ => F9); (rename News _ _ _ _ => N9)
      (rename (_ ≠ (0 : Int)) => h0)
      have hy0 : 0 < y := by
        have := row_pos hb (x := y)
        omega
      refine is_even_spec (RD _ _ F9) hW (lst_keeps hl' F9.keep) hI (by omega) (fun h4 tk4 b4 K4 e4 => ?_)
      have F10 := fr_keeps F9 K4
      have N10 := news_keeps N9 K4
      clear F9 N9
      by_cases hxe : x % 2 = 0
      · rw [decide_eq_true hxe] at e4
        subst e4
        k_steps
        refine Halt.go ?_
        (rename Fr _ _ _ _ => F9); (rename News _ _ _ _ => N9)
        refine is_even_spec (RD _ _ F9) hW (lst_keeps hm' F9.keep) hJ (by omega) (fun h5 tk5 b5 K5 e5 => ?_)
        have F10 := fr_keeps F9 K5
        have N10 := news_keeps N9 K5
        clear F9 N9
        by_cases hye : y % 2 = 0
        · rw [decide_eq_true hye] at e5
          subst e5
          clear J
          k_steps
          dsimp only
          (rename Fr _ _ _ _ => F9); (rename News _ _ _ _ => N9)
          exact hret _ _ _ _ (out_keeps G F9) ⟨fun h => by omega, fun _ _ _ => rfl, fun k m e h => by omega⟩
        · rw [decide_eq_false hye] at e5
          subst e5
          k_steps
          all_goals (refine Halt.go ?_)
          all_goals ((rename Fr _ _ _ _ => F9); (rename News _ _ _ _ => N9))
          all_goals (refine' J _ ⟨_, _, _, _, _, _, rfl, ?hf, hy0, .inr (by omega), F9, N9, ?hm⟩; (case hm => (refine ⟨?_, ?_, ?_, ?_, ?_, ?_, ?_, trivial⟩ <;> rfl)); (case hf => simp [*]))
      · rw [decide_eq_false hxe] at e4
        subst e4
        k_steps
        all_goals (refine Halt.go ?_)
        all_goals ((rename Fr _ _ _ _ => F9); (rename News _ _ _ _ => N9))
        all_goals (refine' J _ ⟨_, _, _, _, _, _, rfl, ?hf, hy0, .inl (by omega), F9, N9, ?hm⟩; (case hm => (refine ⟨?_, ?_, ?_, ?_, ?_, ?_, ?_, trivial⟩ <;> rfl)); (case hf => simp [*]))
  case main =>
    rintro s' ⟨f, h, tk, m', nw, tf, rfl, hf, hy0, hodd, F, N, hm⟩
    rw [hm.eq] at F
    have hnil : ∀ h2, Keeps h h2 → News g L' h2 [] := fun _ _ => News.nil
    clear N
    refine trailing_spec (RD _ _ F) hW hW9 (lst_keeps hm' F.keep) hJ (by omega) hy0 (fun h4 tk4 t4 v4 k m K4 e4 e5 => ?_)
    have F10 := fr_keeps F K4
    have N10 := hnil _ K4
    clear F
    subst e4
    have hk30 : k < 30 := by
      refine (Nat.pow_lt_pow_iff_right (a := 2) (by omega)).mp (Nat.lt_of_le_of_lt ?_ hy2)
      rw [e5]; exact Nat.le_mul_of_pos_right _ (by omega)
    have hm1 : 2 * m + 1 ≤ y := by rw [e5]; exact Nat.le_mul_of_pos_left _ (Nat.pow_pos (by omega))
    k_steps
    refine Halt.go ?_
    (rename Fr _ _ _ _ => F9); (rename News _ _ _ _ => N9)
    refine shift_right_spec (RD _ _ F9) hW hW9 (lst_keeps hm' F9.keep) hJ (by omega) (by omega) (fun l5 vs5 k5 h5 tk5 K5 n5 g5 I5 => ?_)
    have F10 := fr_keeps F9 K5
    have N10 := news_add F9 N9 K5 n5 g5
    clear F9 N9
    rw [show y / 2 ^ k = 2 * m + 1 by rw [e5, Nat.mul_div_cancel_left _ (Nat.pow_pos (by omega))]] at I5
    have hf1 : f = 1 ∨ f = -1 := by rw [hf]; split <;> simp
    k_steps
    · refine Halt.go ?_
      (rename Fr _ _ _ _ => F9); (rename News _ _ _ _ => N9)
      refine two_sign_spec (RD _ _ F9) hW hW9 (lst_keeps hl' F9.keep) hI (by omega) (fun h6 tk6 t6 v6 K6 e6 => ?_)
      replace e6 : v6 = tsign k x := e6
      have F10 := fr_keeps F9 K6
      have N10 := news_keeps N9 K6
      clear F9 N9
      have hfv : f * v6 = 1 ∨ f * v6 = -1 := by
        rcases hf1 with h1 | h1 <;> rcases tsign_or k x with h2 | h2 <;> rw [h1, e6, h2] <;> decide
      k_steps
      · (rename (bx = true) => hbx)
        refine Halt.go ?_
        (rename Fr _ _ _ _ => F9); (rename News _ _ _ _ => N9)
        refine last_bits_spec (i := 2) (RD _ _ F9) hW hW9 (N9.isList (.head _)) I5 (by omega) (by omega) (fun h7 tk7 t7 v7 K7 e7 => ?_)
        have F10 := fr_keeps F9 K7
        have N10 := news_keeps N9 K7
        clear F9 N9
        k_steps
        · (rename (v7 = (3 : Int)) => c7)
          refine Halt.go ?_
          (rename Fr _ _ _ _ => F9); (rename News _ _ _ _ => N9)
          refine jacobi_spec JL (RD _ _ F9) hW hW9 (lst_keeps hl' F9.keep) hI hx (N9.isList (.head _)) I5 (by omega) (by omega) (fun v8 t8 h8 tk8 K8 e8 => ?_)
          have F10 := fr_keeps F9 K8
          have N10 := news_keeps N9 K8
          clear F9 N9
          k_steps
          dsimp only
          (rename Fr _ _ _ _ => F9); (rename News _ _ _ _ => N9)
          exact hret _ _ _ _ (out_keeps G F9) (kron_fin e5 hy0 hodd hf e8 (by rw [if_pos ⟨hbx, by omega⟩, ← e6, Int.mul_neg, Int.mul_one]))
        · (rename (v7 ≠ (3 : Int)) => c7)
          refine Halt.go ?_
          (rename Fr _ _ _ _ => F9); (rename News _ _ _ _ => N9)
          refine jacobi_spec JL (RD _ _ F9) hW hW9 (lst_keeps hl' F9.keep) hI hx (N9.isList (.head _)) I5 (by omega) (by omega) (fun v8 t8 h8 tk8 K8 e8 => ?_)
          have F10 := fr_keeps F9 K8
          have N10 := news_keeps N9 K8
          clear F9 N9
          k_steps
          dsimp only
          (rename Fr _ _ _ _ => F9); (rename News _ _ _ _ => N9)
          exact hret _ _ _ _ (out_keeps G F9) (kron_fin e5 hy0 hodd hf e8 (by rw [if_neg (fun q => c7 (by omega)), ← e6, Int.mul_one]))
      · (rename (bx = false) => hbx)
        refine Halt.go ?_
        (rename Fr _ _ _ _ => F9); (rename News _ _ _ _ => N9)
        refine jacobi_spec JL (RD _ _ F9) hW hW9 (lst_keeps hl' F9.keep) hI hx (N9.isList (.head _)) I5 (by omega) (by omega) (fun v8 t8 h8 tk8 K8 e8 => ?_)
        have F10 := fr_keeps F9 K8
        have N10 := news_keeps N9 K8
        clear F9 N9
        k_steps
        dsimp only
        (rename Fr _ _ _ _ => F9); (rename News _ _ _ _ => N9)
        exact hret _ _ _ _ (out_keeps G F9) (kron_fin e5 hy0 hodd hf e8 (by rw [if_neg (fun q => by rw [hbx] at q; cases q.1), ← e6, Int.mul_one]))
    · (rename (bx = true) => hbx)
      (rename (¬ (0 : Int) < _) => hk0)
      have ht : tsign k x = 1 := if_neg (fun q => by omega)
      refine Halt.go ?_
      (rename Fr _ _ _ _ => F9); (rename News _ _ _ _ => N9)
      refine last_bits_spec (i := 2) (RD _ _ F9) hW hW9 (N9.isList (.head _)) I5 (by omega) (by omega) (fun h7 tk7 t7 v7 K7 e7 => ?_)
      have F10 := fr_keeps F9 K7
      have N10 := news_keeps N9 K7
      clear F9 N9
      k_steps
      · (rename (v7 = (3 : Int)) => c7)
        refine Halt.go ?_
        (rename Fr _ _ _ _ => F9); (rename News _ _ _ _ => N9)
        refine jacobi_spec JL (RD _ _ F9) hW hW9 (lst_keeps hl' F9.keep) hI hx (N9.isList (.head _)) I5 (by omega) (by omega) (fun v8 t8 h8 tk8 K8 e8 => ?_)
        have F10 := fr_keeps F9 K8
        have N10 := news_keeps N9 K8
        clear F9 N9
        k_steps
        dsimp only
        (rename Fr _ _ _ _ => F9); (rename News _ _ _ _ => N9)
        exact hret _ _ _ _ (out_keeps G F9) (kron_fin e5 hy0 hodd hf e8 (by rw [if_pos ⟨hbx, by omega⟩, ht]; omega))
      · (rename (v7 ≠ (3 : Int)) => c7)
        refine Halt.go ?_
        (rename Fr _ _ _ _ => F9); (rename News _ _ _ _ => N9)
        refine jacobi_spec JL (RD _ _ F9) hW hW9 (lst_keeps hl' F9.keep) hI hx (N9.isList (.head _)) I5 (by omega) (by omega) (fun v8 t8 h8 tk8 K8 e8 => ?_)
        have F10 := fr_keeps F9 K8
        have N10 := news_keeps N9 K8
        clear F9 N9
        k_steps
        dsimp only
        (rename Fr _ _ _ _ => F9); (rename News _ _ _ _ => N9)
        exact hret _ _ _ _ (out_keeps G F9) (kron_fin e5 hy0 hodd hf e8 (by rw [if_neg (fun q => c7 (by omega)), ht]; omega))
    · (rename (bx = false) => hbx)
      (rename (¬ (0 : Int) < _) => hk0)
      have ht : tsign k x = 1 := if_neg (fun q => by omega)
      refine Halt.go ?_
      (rename Fr _ _ _ _ => F9); (rename News _ _ _ _ => N9)
      refine jacobi_spec JL (RD _ _ F9) hW hW9 (lst_keeps hl' F9.keep) hI hx (N9.isList (.head _)) I5 (by omega) (by omega) (fun v8 t8 h8 tk8 K8 e8 => ?_)
      have F10 := fr_keeps F9 K8
      have N10 := news_keeps N9 K8
      clear F9 N9
      k_steps
      dsimp only
      (rename Fr _ _ _ _ => F9); (rename News _ _ _ _ => N9)
      exact hret _ _ _ _ (out_keeps G F9) (kron_fin e5 hy0 hodd hf e8 (by rw [if_neg (fun q => by rw [hbx] at q; cases q.1), ht]; omega))
end

def TakeOK (b inner : Addr) (h h' : Heap) : Prop := ∀ a o, h.get? a = some o → a ≠ b → a ≠ inner → h'.get? a = some o
section
local macro_rules | `(tactic| walk_at "call builtin:list.pop") => `(tactic| (k_here; (with_reducible show wpAny _ _ (call (Value.builtin _) [Value.ref _, Value.int _ _]) _ _ _); k_dflt (refine' Mine.r_pop0 ?k1 ?k2 ?k3 ?k5 ?_; (case k1 => k_asm); (case k2 => k_asm); (case k3 => k_upd); (case k5 => assumption); k_whole); intro h' F' N'; (try k_sweep)))
theorem law_take_spec {b inner : Addr} {vs : List Value} {ns : List Int} {seed many : Int} {ts tm : Tok} {kb ki : Nat} (Y : ReadyM w (n + 1) A s.heap [(b, listOf #[.ref inner, .int seed ts] kb), (inner, listOf vs.toArray ki)]) (hbi : b ≠ inner) (hI : IntsAre vs ns) (hlen : ns.length < 2 ^ 20) (hm : 0 < many) (hm2 : many < 2 ^ 30)
   (hret : ∀ v t (vs' : List Value) ns' seed' ts' kb' ki' h' tk', TakeOK b inner s.heap h' → h'.get? b = some (listOf #[.ref inner, .int seed' ts'] kb') → h'.get? inner = some (listOf vs'.toArray ki') → IntsAre vs' ns' → ns'.length < 2 ^ 20 → 0 ≤ v → v < many → Q (.int v t) { s with heap := h', toks := tk' }) :
   wpAny (model prog w) A (call (.ref 189) [.ref b, .int many tm]) Q E s := by
  refine wpAny_call ?_
  refine enter [(Str.ofString "box", .ref b), (Str.ofString "many", .int many tm)] (n := _) Y (by k_is) (by k_is) (BindsTo.of_eq rfl) rfl (by decide) ?_ rfl rfl rfl
  intro p loose mean mg mb g L' h₁ A' E' hp G F N X T RD RDM hA hPO
  obtain ⟨_, dp, fr, gd, un⟩ := A'
  obtain rfl : _ = none := hA
  dsimp only
  have hbi' : @Ne Nat b inner := hbi
  have hall : ∀ h', (∀ a o, g.get? a = some o → h'.get? a = some o) → TakeOK b inner s.heap h' := fun h' k a o e h1 h2 => k a o (G a o e (by
    rw [List.map_cons, List.map_cons, List.map_nil, List.mem_cons, List.mem_singleton]
    exact fun q => q.elim h1 h2))
  cases hI with
  | nil =>
    k_steps
    dsimp only
    (rename Fr _ _ _ _ => F9); (rename News _ _ _ _ => N9)
    exact hret _ _ [] [] _ _ _ _ _ _ (hall _ F9.keep) (N9.get (.head _)) (N9.get (.tail _ (.head _))) .nil hlen (Int.fmod_nonneg_of_pos _ hm) (Int.fmod_lt_of_pos _ hm)
  | cons n0 t0 hI =>
    rename_i vr nr
    have hI2 : IntsAre (Value.int n0 t0 :: vr) (n0 :: nr) := .cons n0 t0 hI
    have hz : vr.length + 1 ≤ sizeLine := by
      have := hI.length
      rw [List.length_cons] at hlen
      rw [sizeLine_eq]; omega
    have hl2 : nr.length < 2 ^ 20 := by rw [List.length_cons] at hlen; omega
    k_steps
    (rename Fr _ _ _ _ => F9); (rename News _ _ _ _ => N9)
    exact hret _ _ vr nr seed ts kb (ki + 1) _ _ (hall _ F9.keep) (N9.get (.head _)) (N9.get (.tail _ (.head _))) hI hl2 (Int.fmod_nonneg_of_pos _ hm) (Int.fmod_lt_of_pos _ hm)
end
section
local macro_rules | `(tactic| walk_at "exec For Name Subscript cons nil") => `(tactic| (k_here; (rename Fr _ _ _ _ => lF'); (with_unfolding_all refine' For_invVF lF' ?k1 ?k2 ?_; (case k1 => exact rfl); (case k2 => exact rfl); k_whole)))
theorem law_box_spec {l : Addr} {vs : List Value} {ns : List Int} (Y : Ready w (n + 1) A s.heap) (hl : s.heap.IsList l vs.toArray) (hI : IntsAre vs ns) (hlen : ns.length < 2 ^ 20)
   (hret : ∀ (b inner : Addr) (vs' : List Value) ns' seed ts kb ki h' tk', Keeps s.heap h' → s.heap.get? b = none → s.heap.get? inner = none → b ≠ inner → h'.get? b = some (listOf #[.ref inner, .int seed ts] kb) → h'.get? inner = some (listOf vs'.toArray ki) → IntsAre vs' ns' → ns'.length < 2 ^ 20 → Q (.ref b) { s with heap := h', toks := tk' }) :
   wpAny (model prog w) A (call (.ref 194) [.ref l]) Q E s := by
  refine wpAny_call ?_
  refine enter0 [(Str.ofString "script", .ref l)] (n := _) Y (by k_is) (by k_is) (BindsTo.of_eq rfl) rfl (by decide) ?_ rfl rfl rfl
  intro p loose mean mg mb g L' h₁ A' E' hp G F N X T RD RDM hA hPO
  obtain ⟨_, dp, fr, gd, un⟩ := A'
  obtain rfl : _ = none := hA
  dsimp only
  have hl' := lst_keeps hl G
  k_steps
  refine Halt.go ?_
  rename_i inner _ _ o1 b _ l1 _ D ws _ F9 N9 l3 I3
  (rename IntsAre ys (List.map _ _) => I8)
  have hbi : @Ne Nat inner b := Nat.ne_of_lt l1.1
  have hb3 : @LT.lt Nat _ b D := l3 _ (.head _)
  have hi3 : @LT.lt Nat _ inner D := l3 _ (.tail _ (.head _))
  refine for_own (σ := Int × Tok) (adr := [b, inner]) (fun c => [(b, listOf #[.ref inner, .int c.1 c.2] 0), (inner, LCg.lst ys)]) (fun c => [(Str.ofString "script", .ref l), (Str.ofString "box", .ref b)])
      (fun i c => True) (19, _) rfl (N9.isList (.head _)) (N9 _ (.head _)).2.1 (fun h => by
        rcases List.mem_cons.mp h with e | h
        · exact Nat.ne_of_gt hb3 e
        · exact Nat.ne_of_gt hi3 (List.mem_singleton.mp h)) I3 F9 (news_sub N9 (fun p hp => by
        rcases List.mem_cons.mp hp with rfl | hp
        · exact .tail _ (.head _)
        · rw [List.mem_singleton.mp hp]; exact .tail _ (.tail _ (.head _)))) (fun _ => rfl) (by (refine ⟨?_, ?_, trivial⟩ <;> rfl)) trivial ?_ ?_
  · rintro ⟨sd, tsd⟩ i n t u h tk own hi ho _ F N
    dsimp only at F N
    clear F9 N9 l3
    k_steps
    refine EndOf.intro ((sd * 37 + if n < 0 then -n else n).fmod 1000003, _) (by assumption) (by assumption) (by (refine ⟨?_, ?_, trivial⟩ <;> rfl)) (fun p hp => by
      rcases List.mem_cons.mp hp with rfl | hp
      · exact .head _
      · rw [List.mem_singleton.mp hp]; exact .tail _ (.head _)) (fun p hp => .tail _ (.tail _ hp)) trivial
  · rintro ⟨sd, tsd⟩ u h tk _ F N
    dsimp only at F N
    have hil : (List.map (fun k' => if k' < 0 then -k' else k') (List.take (Int.toNat 24) ns)).length < 2 ^ 20 := by
      rw [List.length_map, List.length_take]; omega
    k_steps
    dsimp only
    exact hret b inner ys _ sd tsd 0 _ _ _ (out_keeps G F) (out_none G N (.head _)) (out_none G N (.tail _ (.head _))) (Ne.symm hbi) (N.get (.head _)) (N.get (.tail _ (.head _))) I8 hil
end

theorem law_row_spec {W x : Nat} {z : Int} {tw tz : Tok} (Y : Ready w (n + 1) A s.heap) (hW : 2 ≤ W) (hW9 : W ≤ 9) (hz : z = (x : Int)) (hx : x < 2 ^ 40)
   (hret : ∀ (l' : Addr) (vs' : List Value) k h' tk', Keeps s.heap h' → s.heap.get? l' = none → h'.get? l' = some (listOf (List.toArray vs') k) → IntsAre vs' (row (2 ^ W) x) → Q (.ref l') { s with heap := h', toks := tk' }) :
   wpAny (model prog w) A (call (.ref 201) [.int z tz, .int W tw]) Q E s := by
  subst hz
  refine wpAny_call ?_
  refine enter0 [(Str.ofString "number", .int x tz), (Str.ofString "w", .int W tw)] (n := _) Y (by k_is) (by k_is) (BindsTo.of_eq rfl) rfl (by decide) ?_ rfl rfl rfl
  intro p loose mean mg mb g L' h₁ A' E' hp G F N X T RD RDM hA hPO
  obtain ⟨_, dp, fr, gd, un⟩ := A'
  obtain rfl : _ = none := hA
  dsimp only
  have hb := two_le_pow (W := W) (by omega)
  have hb0 : 0 < 2 ^ W := by omega
  have hb9 : 2 ^ W ≤ 2 ^ 9 := Nat.pow_le_pow_right (by omega) hW9
  k_steps
  refine Halt.go ?_
  (rename Fr _ _ _ _ => F9); (rename News _ _ _ _ => N9)
  obtain ⟨D, hD, N1, _⟩ := name_at F9 (Str.ofString "found") rfl N9 (.head _)
  refine while_k (σ := List Value × Nat × Nat × Tok) (fun c => [(D, listOf c.1.toArray c.2.1)]) (fun c => [(Str.ofString "w", .int W tw), (Str.ofString "found", .ref D), (Str.ofString "number", .int c.2.2.1 c.2.2.2)])
    (fun c => ∃ i, i ≤ 40 ∧ IntsAre c.1 (digs (2 ^ W) x i) ∧ c.2.2.1 = x / (2 ^ W) ^ i ∧ (i = 0 ∨ 0 < x / (2 ^ W) ^ (i - 1))) (fun c => c.2.2.1) ([], 0, x, tz) F9 N1 (by refine ⟨?_, hD, ?_, trivial⟩ <;> rfl) ⟨0, by omega, .nil, by rw [Nat.pow_zero, Nat.div_one], .inl rfl⟩ ?_ (by passes_own)
  rintro ⟨vf, k, m, tm⟩ u h tk ⟨i, hi, q1, q2, q3⟩ F N
  dsimp only at q1 q2 q3 F N
  have hdl : (digs (2 ^ W) x i).length < 2 ^ 20 := by rw [digs_length]; omega
  clear N9 F9 N1 hD
  k_steps
  · (rename ((0 : Int) < _) => h0)
    (rename IntsAre (_ ++ _) _ => hI')
    have hm : m % 2 ^ W = dg (2 ^ W) x i := by rw [q2]; rfl
    have hi40 : i < 40 := by
      refine Nat.lt_of_not_le fun q => ?_
      have h1 : x < (2 ^ W) ^ i := Nat.lt_of_lt_of_le hx (by rw [pow_pow_eq]; exact Nat.pow_le_pow_right (by omega) (Nat.le_trans q (Nat.le_mul_of_pos_left _ (by omega))))
      rw [Nat.div_eq_of_lt h1] at q2
      omega
    refine EndOf.intro (vf ++ [_], k + 1, m / 2 ^ W, _) (by assumption) (by assumption) (by (refine ⟨?_, ?_, ?_, trivial⟩ <;> rfl)) (fun p hp => by rw [List.mem_singleton.mp hp]; exact .head _) (fun _ h => nomatch h) ?_
    refine ⟨⟨i + 1, by omega, by dsimp only; rw [digs_succ, ← hm]; exact hI', ?_, .inr ?_⟩, Nat.div_lt_self (by omega) (by omega)⟩
    · dsimp only
      rw [q2, Nat.pow_succ, Nat.div_div_eq_div_mul]
    · rw [Nat.add_sub_cancel, ← q2]; omega
  · (rename (¬ (0 : Int) < _) => h0)
    dsimp only
    (rename Fr _ _ _ _ => F9); (rename News _ _ _ _ => N9)
    have hm0 : x / (2 ^ W) ^ i = 0 := by omega
    refine hret D vf k _ _ (out_keeps G F9) (out_none G N9 (.head _)) (N9.get (.head _)) ?_
    rw [← digs_eq_row hb (k := i)]
    · exact q1
    · rcases (Nat.div_eq_zero_iff).mp hm0 with h | h
      · exact absurd h (Nat.ne_of_gt (Nat.pow_pos hb0))
      · exact h
    · rcases Nat.eq_zero_or_pos i with h | h
      · exact .inl h
      · have e := div_pow_succ (2 ^ W) x (i - 1)
        rw [Nat.sub_add_cancel h, hm0] at e
        exact .inr (by rcases q3 with q3 | q3 <;> omega)
theorem law_signed_spec {W : Nat} {z : Int} {tw tz : Tok} (Y : Ready w (n + 2) A s.heap) (hW : 2 ≤ W) (hW9 : W ≤ 9) (hx : z.natAbs < 2 ^ 40)
   (hret : ∀ (T l' : Addr) (vs' : List Value) k h' tk', Keeps s.heap h' → s.heap.get? T = none → s.heap.get? l' = none → h'.get? T = some { cls := .type "tuple", data := .seq #[.bool (decide (z < 0)), .ref l'] } → h'.get? l' = some (listOf (List.toArray vs') k) → IntsAre vs' (row (2 ^ W) z.natAbs) → Q (.ref T) { s with heap := h', toks := tk' }) :
   wpAny (model prog w) A (call (.ref 222) [.int z tz, .int W tw]) Q E s := by
  replace Y : Ready w ((n + 1) + 1) A s.heap := Y
  refine wpAny_call ?_
  refine enter0 [(Str.ofString "number", .int z tz), (Str.ofString "w", .int W tw)] (n := _) Y (by k_is) (by k_is) (BindsTo.of_eq rfl) rfl (by decide) ?_ rfl rfl rfl
  intro p loose mean mg mb g L' h₁ A' E' hp G F N X T RD RDM hA hPO
  obtain ⟨_, dp, fr, gd, un⟩ := A'
  obtain rfl : _ = none := hA
  dsimp only
  k_steps
  refine Halt.go ?_
  (rename Fr _ _ _ _ => F9); (rename News _ _ _ _ => N9)
  refine law_row_spec (x := z.natAbs) (RD _ _ F9) hW hW9 (by split <;> omega) hx (fun l2 vs2 k2 h2 tk2 K2 n2 g2 I2 => ?_)
  have F10 := fr_keeps F9 K2
  have N10 := news_add F9 N9 K2 n2 g2
  clear F9 N9
  k_steps
  dsimp only
  (rename Fr _ _ _ _ => F9); (rename News _ _ _ _ => N9)
  exact hret _ l2 vs2 k2 _ _ (out_keeps G F9) (out_none G N9 (.head _)) (out_none G N9 (.tail _ (.head _))) (N9.get (.head _)) (N9.get (.tail _ (.head _))) I2
theorem law_over_prime_spec {pr : Nat} {z : Int} {tz tp : Tok} (Y : Ready w (n + 1) A s.heap) (hp2 : 2 ≤ pr) (hp20 : pr < 2 ^ 20)
   (hret : ∀ v t h' tk', Keeps s.heap h' → v = opv z pr → Q (.int v t) { s with heap := h', toks := tk' }) :
   wpAny (model prog w) A (call (.ref 208) [.int z tz, .int pr tp]) Q E s := by
  refine wpAny_call ?_
  refine enter0 [(Str.ofString "a", .int z tz), (Str.ofString "p", .int pr tp)] (n := _) Y (by k_is) (by k_is) (BindsTo.of_eq rfl) rfl (by decide) ?_ rfl rfl rfl
  intro p loose mean mg mb g L' h₁ A' E' hp G F N X T RD RDM hA hPO
  obtain ⟨_, dp, fr, gd, un⟩ := A'
  obtain rfl : _ = none := hA
  dsimp only
  have hf2 : z.fmod 2 = z % 2 := Int.fmod_eq_emod_of_nonneg _ (by decide)
  have hf8 : z.fmod 8 = z % 8 := Int.fmod_eq_emod_of_nonneg _ (by decide)
  have hfp : z.fmod (pr : Int) = z % (pr : Int) := Int.fmod_eq_emod_of_nonneg _ (by omega)
  have hq : ((pr : Int) - 1).fdiv 2 = (((pr - 1) / 2 : Nat) : Int) := by rw [Int.fdiv_eq_ediv_of_nonneg _ (by decide)]; omega
  k_steps
  · dsimp only
    (rename Fr _ _ _ _ => F9); (rename News _ _ _ _ => N9)
    (rename (_ = (2 : Int)) => h2)
    (rename (z.fmod 2 = (0 : Int)) => h0)
    refine hret _ _ _ _ (out_keeps G F9) ?_
    unfold opv
    rw [if_pos (by omega), if_pos (by omega)]
  · dsimp only
    (rename Fr _ _ _ _ => F9); (rename News _ _ _ _ => N9)
    (rename (_ = (2 : Int)) => h2)
    (rename (z.fmod 2 ≠ (0 : Int)) => h0)
    (rename (List.any _ _ = true) => h8)
    refine hret _ _ _ _ (out_keeps G F9) ?_
    unfold opv
    rw [if_pos (by omega), if_neg (by omega), if_pos (by rw [hf8] at h8; simp at h8; omega)]
  · dsimp only
    (rename Fr _ _ _ _ => F9); (rename News _ _ _ _ => N9)
    (rename (_ = (2 : Int)) => h2)
    (rename (z.fmod 2 ≠ (0 : Int)) => h0)
    (rename (List.any _ _ = false) => h8)
    refine hret _ _ _ _ (out_keeps G F9) ?_
    unfold opv
    rw [if_pos (by omega), if_neg (by omega), if_neg (by rw [hf8] at h8; simp at h8; omega)]; rfl
  · refine Halt.go ?_
    (rename Fr _ _ _ _ => F9); (rename News _ _ _ _ => N9)
    (rename IsRange _ _ _ _ _ _ _ _ => hr)
    (rename (_ ≠ (2 : Int)) => h2)
    rw [hq] at hr F9
    rw [hfp] at F9
    have hzp : 0 ≤ z % (pr : Int) := Int.emod_nonneg _ (by omega)
    have hzp2 : z % (pr : Int) < pr := Int.emod_lt_of_pos _ (by omega)
    refine for_rangeS (σ := Int × Tok) (n := (pr - 1) / 2) (adr := []) (fun _ => []) (fun c => [(Str.ofString "p", .int pr tp), (Str.ofString "base", .int (z % (pr : Int)) _), (Str.ofString "found", .int c.1 c.2)])
      (fun i c => c.1 = (z % (pr : Int)) ^ i % pr) (1, _) rfl hr (small_one (by omega) (by omega) (by omega) (by omega)) (rangeSize_nat 0 _) F9 News.nil (fun _ => rfl) (by refine ⟨rfl, ?_, ?_, trivial⟩ <;> rfl) ?_ ?_ ?_
    · dsimp only
      rw [Int.pow_zero, Int.emod_eq_of_lt (by decide) (by omega)]
    · rintro ⟨f, tf⟩ i t u h tk own hi ho hq1 F N
      dsimp only at hq1 F N
      have hf0 : 0 ≤ f := by rw [hq1]; exact Int.emod_nonneg _ (by omega)
      have hf1 : f < pr := by rw [hq1]; exact Int.emod_lt_of_pos _ (by omega)
      generalize z % (pr : Int) = bs at *
      clear N9 F9 hr
      k_steps
      refine EndOf.intro ((f * bs).fmod pr, _) (by assumption) (by assumption) (by (refine ⟨?_, ?_, ?_, trivial⟩ <;> rfl)) (fun _ h => nomatch h) (fun _ h => h) ?_
      dsimp only
      rw [Int.fmod_eq_emod_of_nonneg _ (by omega), hq1, Int.pow_succ, Int.mul_emod, Int.emod_emod_of_dvd _ (Int.dvd_refl _), ← Int.mul_emod]
    · rintro ⟨f, tf⟩ u h tk hq1 F N
      dsimp only at hq1 F N
      clear N9 F9 hr
      k_steps
      · (rename (f = (pr : Int) - 1) => h3)
        dsimp only
        (rename Fr _ _ _ _ => F9); (rename News _ _ _ _ => N9)
        refine hret _ _ _ _ (out_keeps G F9) ?_
        unfold opv
        rw [if_neg (by omega), ← hq1, if_pos h3]; rfl
      · (rename (f ≠ (pr : Int) - 1) => h3)
        dsimp only
        (rename Fr _ _ _ _ => F9); (rename News _ _ _ _ => N9)
        refine hret _ _ _ _ (out_keeps G F9) ?_
        unfold opv
        rw [if_neg (by omega), ← hq1, if_neg h3]

section
local macro_rules | `(tactic| walk_at "eval Call") => `(tactic| k_dflt (refine Call_ ?_))
local macro_rules | `(tactic| walk_at "binaryOp Add int int") => `(tactic| (with_reducible refine Mine.r_add1N ?_))
theorem law_symbol_spec {z nz : Int} {tz tn : Tok} (Y : Ready w (n + 2) A s.heap) (hn : nz.natAbs < 2 ^ 20)
   (hret : ∀ v t h' tk', Keeps s.heap h' → SymIs z nz v → Q (.int v t) { s with heap := h', toks := tk' }) :
   wpAny (model prog w) A (call (.ref 215) [.int z tz, .int nz tn]) Q E s := by
  replace Y : Ready w ((n + 1) + 1) A s.heap := Y
  refine wpAny_call ?_
  refine enter0 [(Str.ofString "a", .int z tz), (Str.ofString "n", .int nz tn)] (n := _) Y (by k_is) (by k_is) (BindsTo.of_eq rfl) rfl (by decide) ?_ rfl rfl rfl
  intro p loose mean mg mb g L' h₁ A' E' hp G F N X T RD RDM hA hPO
  obtain ⟨_, dp, fr, gd, un⟩ := A'
  obtain rfl : _ = none := hA
  dsimp only
  refine' Join.mk (t := _)
    (fun s' => ∃ (f nn : Int) (h : Heap) (tk : Nat) (m' : Str → Option Value) (tf t2 t3 : Tok), s' = { s with heap := h, toks := tk } ∧ nz ≠ 0 ∧ f = (if z < 0 ∧ nz < 0 then -1 else 1) ∧ nn = (nz.natAbs : Int) ∧ Fr g L' h m' ∧
      Has m' [(Str.ofString "a", .int z tz), (Str.ofString "found", .int f tf), (Str.ofString "p", .int 2 t2), (Str.ofString "n", .int nn t3)]) ?main ?body
  case body =>
    intro J
    k_steps
    · clear J
      (rename Fr _ _ _ _ => F9); (rename News _ _ _ _ => N9)
      (rename (nz = (0 : Int)) => h0)
      refine hret _ _ _ _ (out_keeps G F9) ⟨fun _ => ?_, fun h => absurd h0 h⟩
      by_cases h1 : z.natAbs = 1
      · rw [if_pos h1, if_pos]
        rw [beq_iff_eq]; split <;> omega
      · rw [if_neg h1, if_neg]
        rw [beq_iff_eq]; split <;> omega
    all_goals (refine Halt.go ?_)
    all_goals ((rename Fr _ _ _ _ => F9); (rename News _ _ _ _ => N9))
    all_goals (refine' J _ ⟨_, _, _, _, _, _, _, _, rfl, by assumption, ?hf, ?hn, F9, ?hm⟩; (case hm => (refine ⟨?_, ?_, ?_, ?_, trivial⟩ <;> rfl)); (case hf => first | (rw [if_pos ⟨by assumption, by assumption⟩]; rfl) | rw [if_neg (fun q => absurd q.1 (by assumption))] | rw [if_neg (fun q => absurd q.2 (by assumption))]); (case hn => split <;> omega))
  case main =>
    rintro s' ⟨f, nn, h, tk, m', tf, t2, t3, rfl, hn0, hf, hnn, F, hm⟩
    rw [hm.eq] at F
    obtain ⟨NN, hNN⟩ : ∃ NN, NN = nz.natAbs := ⟨_, rfl⟩
    rw [← hNN] at hnn hn
    have hfin : ∀ v, (∃ u, Pr z NN u ∧ v = f * u) → SymIs z nz v := fun v ⟨u, h1, h2⟩ => ⟨fun h => absurd h hn0, fun _ => ⟨u, hNN ▸ h1, by rw [h2, hf]⟩⟩
    refine while_k (σ := Int × Tok × Int × Tok × Int × Tok) (fun _ => []) (fun c => [(Str.ofString "a", .int z tz), (Str.ofString "found", .int c.1 c.2.1), (Str.ofString "p", .int c.2.2.1 c.2.2.2.1), (Str.ofString "n", .int c.2.2.2.2.1 c.2.2.2.2.2)])
      (fun c => ∃ (f0 : Int) (pn n1 : Nat), c.1 = f * f0 ∧ c.2.2.1 = pn ∧ c.2.2.2.2.1 = n1 ∧ 2 ≤ pn ∧ 0 < n1 ∧ n1 ≤ NN ∧ (∀ q, 2 ≤ q → q ∣ n1 → pn ≤ q) ∧ ∀ u, Pr z n1 u → Pr z NN (f0 * u)) (fun c => NN + 2 - c.2.2.1.toNat)
      (f, tf, 2, t2, nn, t3) F News.nil (by (refine ⟨?_, ?_, ?_, ?_, trivial⟩ <;> rfl)) ?_ ?_ (by passes_own)
    · exact ⟨1, 2, NN, by rw [Int.mul_one], rfl, hnn, by omega, by omega, Nat.le_refl _, fun q h _ => h, fun u h => by rw [Int.one_mul]; exact h⟩
    rintro ⟨f', tf', p', tp', n', tn'⟩ u h4 tk4 ⟨f0, pn, n1, e1, e2, e3, q1, q2, q3, q4, q5⟩ F N
    dsimp only at e1 e2 e3 F N
    subst e1 e2 e3
    clear hm
    k_steps
    · refine Halt.go ?_
      (rename Fr _ _ _ _ => F9); (rename News _ _ _ _ => N9)
      (rename ((1 : Int) < _) => h1)
      refine while_k (σ := Int × Tok × Int × Tok) (fun _ => []) (fun c => [(Str.ofString "a", .int z tz), (Str.ofString "p", .int pn tp'), (Str.ofString "found", .int c.1 c.2.1), (Str.ofString "n", .int c.2.2.1 c.2.2.2)])
        (fun c => ∃ (f0 : Int) (n1 : Nat), c.1 = f * f0 ∧ c.2.2.1 = n1 ∧ 0 < n1 ∧ n1 ≤ NN ∧ (∀ q, 2 ≤ q → q ∣ n1 → pn ≤ q) ∧ ∀ u, Pr z n1 u → Pr z NN (f0 * u)) (fun c => c.2.2.1.toNat)
        (f * f0, tf', n1, tn') F9 News.nil (by (refine ⟨?_, ?_, ?_, ?_, trivial⟩ <;> rfl)) ⟨f0, n1, rfl, rfl, q2, q3, q4, q5⟩ ?_ (by passes_own)
      have hpn : pn < 2 ^ 20 := Nat.lt_of_le_of_lt (Nat.le_trans (q4 n1 (by omega) (Nat.dvd_refl _)) q3) hn
      have hpn2 : pn ≤ NN := Nat.le_trans (q4 n1 (by omega) (Nat.dvd_refl _)) q3
      clear F9 N9 q2 q3 q4 q5
      rintro ⟨f', tf', n', tn'⟩ u h4 tk4 ⟨f0, n1, e1, e2, q2, q3, q4, q5⟩ F N
      dsimp only at e1 e2 F N
      subst e1 e2
      k_steps
      · refine Halt.go ?_
        (rename Fr _ _ _ _ => F9); (rename News _ _ _ _ => N9)
        (rename (_ = (0 : Int)) => h0)
        refine law_over_prime_spec (RD _ _ F9) q1 (by omega) (fun v5 t5 h5 tk5 K5 e5 => ?_)
        have F10 := fr_keeps F9 K5
        have N10 := news_keeps N9 K5
        have hv : v5.natAbs < 2 ^ 62 := by
          have := opv_small (z := z) q1
          rw [← e5] at this
          omega
        clear F9 N9
        k_steps
        refine EndOf.intro (f * f0 * v5, _, (n1 / pn : Nat), _) (by assumption) (by assumption) (by (refine ⟨?_, ?_, ?_, ?_, trivial⟩ <;> rfl)) (fun _ h => nomatch h) (fun _ h => nomatch h) ?_
        have hd : pn ∣ n1 := Nat.dvd_of_mod_eq_zero (by omega)
        have hn1 : pn * (n1 / pn) = n1 := Nat.mul_div_cancel' hd
        have hlt : n1 / pn < n1 := Nat.div_lt_self q2 (by omega)
        refine ⟨⟨f0 * v5, n1 / pn, by dsimp only; rw [Int.mul_assoc], rfl, Nat.div_pos (Nat.le_of_dvd q2 hd) (by omega), by omega, fun q h2 hq => q4 q h2 (Nat.dvd_trans hq (Nat.div_dvd_of_dvd hd)), fun u hu => ?_⟩, by dsimp only; omega⟩
        have := q5 _ (hn1 ▸ Pr.mul q1 (least_prime (by omega) hd q4) hu)
        rw [Int.mul_assoc, e5]
        exact this
      · (rename (_ ≠ (0 : Int)) => h0)
        obtain ⟨r1, _⟩ := past_root q1 q2 q4 (fun hd => h0 (by rw [Nat.mod_eq_zero_of_dvd hd]; rfl))
        refine EndOf.intro (f * f0, tf', ((pn + 1 : Nat) : Int), _, n1, tn') (by assumption) (by assumption) (by (refine ⟨?_, ?_, ?_, ?_, trivial⟩ <;> rfl)) (fun _ h => nomatch h) (fun _ h => nomatch h) ?_
        exact ⟨⟨f0, pn + 1, n1, rfl, rfl, rfl, by omega, q2, q3, r1, q5⟩, by dsimp only; omega⟩
      · (rename (_ ≠ (0 : Int)) => h0)
        (rename (¬ (_ ≤ _)) => h6)
        obtain ⟨r1, r2⟩ := past_root q1 q2 q4 (fun hd => h0 (by rw [Nat.mod_eq_zero_of_dvd hd]; rfl))
        have r3 := r2 (by omega)
        refine EndOf.intro (f * f0, tf', (if (n1 : Int) > ((pn + 1 : Nat) : Int) then (n1 : Int) else ((pn + 1 : Nat) : Int)), _, n1, tn') (by assumption) (by assumption) (by (refine ⟨?_, ?_, ?_, ?_, trivial⟩ <;> rfl)) (fun _ h => nomatch h) (fun _ h => nomatch h) ?_
        refine ⟨⟨f0, max (pn + 1) n1, n1, rfl, by dsimp only; split <;> omega, rfl, by omega, q2, q3, fun q h h2 => by have := r1 q h h2; have := r3 q h h2; omega, q5⟩, ?_⟩
        dsimp only
        split <;> omega
    · dsimp only
      (rename Fr _ _ _ _ => F9); (rename News _ _ _ _ => N9)
      (rename (¬ (1 : Int) < _) => h1)
      have hn1 : n1 = 1 := by omega
      subst hn1
      exact hret _ _ _ _ (out_keeps G F9) (hfin _ ⟨f0 * 1, q5 1 Pr.one, by rw [Int.mul_one]⟩)
end

theorem law_ready {w : World} {base : Heap} {loose : List Str} {mean : ExcName → Option Value} {mg mb : Str → Option Value} {name : Str} {scope : Scope} {L a : Addr} {cd : Value} (KX : (jfrag w.params).In base) (K0 : Below callerA base [] base) (T : Top jview loose mean mg mb base) (hk : scope.kind = .function) :
    ∀ n h m nw, n ≤ 50 → Fr base L h m → News base L h nw → ReadyAt w n (callerA.deeper (envOf name scope L a cd)) h nw base [envOf name scope L a cd] := by
  intro n h m nw hn F N
  refine ⟨_, _, _, _, _, callerA, [], base, L, m, envOf name scope L a cd, rfl, ⟨rfl, K0, F, KX, T, rfl, rfl, hk, rfl, ?_, ?_⟩, N⟩
  · show 1 + claimMargin + 1 + n < 1000
    have : claimMargin ≤ 900 := by decide +kernel
    omega
  · show 4 + 3 + 8 * n < 9900
    omega
theorem fr_two {h₀ h h' : Heap} {L b inner : Addr} {o o2 : Obj} {m : Str → Option Value} {news : List (Addr × Obj)} (F : Fr h₀ L h m) (N : News h₀ L h news) (hb : (b, o) ∈ news) (hi : (inner, o2) ∈ news) (k : TakeOK b inner h h') : Fr h₀ L h' m :=
  ⟨F.ns.at' fun o e => k _ o e (fun q => (N _ hb).2.1 q.symm) (fun q => (N _ hi).2.1 q.symm), fun a o' e => k a o' (F.keep a o' e) (fun q => by subst q; have := (N _ hb).2.2; rw [this] at e; cases e) (fun q => by subst q; have := (N _ hi).2.2; rw [this] at e; cases e), F.above⟩
theorem news_two {h₀ h h' : Heap} {L b inner : Addr} {o o2 ob oi : Obj} {news rest : List (Addr × Obj)} (N : News h₀ L h news) (hb : (b, o) ∈ news) (hi : (inner, o2) ∈ news) (k : TakeOK b inner h h') (gb : h'.get? b = some ob) (gi : h'.get? inner = some oi) (hr : ∀ p ∈ rest, p ∈ news ∧ p.1 ≠ b ∧ p.1 ≠ inner) :
    News h₀ L h' ((b, ob) :: (inner, oi) :: rest) := by
  intro p hp
  rcases List.mem_cons.mp hp with rfl | hp
  · exact ⟨gb, (N _ hb).2⟩
  · rcases List.mem_cons.mp hp with rfl | hp
    · exact ⟨gi, (N _ hi).2⟩
    · exact ⟨k _ _ (N p (hr p hp).1).1 (hr p hp).2.1 (hr p hp).2.2, (N p (hr p hp).1).2⟩
theorem fr_off {h₀ h g : Heap} {L : Addr} {m : Str → Option Value} {mu : List (Addr × Obj)} (F : Fr h₀ L h m) (N : News h₀ L h mu) (G : ∀ b o, h.get? b = some o → b ∉ mu.map (·.1) → g.get? b = some o) : Fr h₀ L g m := by
  refine ⟨F.ns.at' fun o e => G _ o e fun q => ?_, fun b o e => G b o (F.keep b o e) fun q => ?_, F.above⟩
  · obtain ⟨p, hp, e'⟩ := List.mem_map.mp q
    exact (N p hp).2.1 e'
  · obtain ⟨p, hp, rfl⟩ := List.mem_map.mp q
    rw [(N p hp).2.2] at e; cases e
theorem two_mem {a b : Addr × Obj} {l : List (Addr × Obj)} (h1 : a ∈ l) (h2 : b ∈ l) : ∀ p ∈ [a, b], p ∈ l := fun p hp => (List.mem_cons.mp hp).elim (fun e => e ▸ h1) fun q => (List.mem_singleton.mp q) ▸ h2
theorem rest_one {news : List (Addr × Obj)} {p : Addr × Obj} {b inner : Addr} (hm : p ∈ news) (h1 : b < p.1) (h2 : inner < p.1) : ∀ q ∈ [p], q ∈ news ∧ q.1 ≠ b ∧ q.1 ≠ inner := fun q hq => by
  rw [List.mem_singleton.mp hq]
  exact ⟨hm, Nat.ne_of_gt h1, Nat.ne_of_gt h2⟩
section
local macro_rules | `(tactic| walk_at "call ref") => `(tactic| ((fail_if_success (with_reducible show wpAny _ callerA _ _ _ _)); refine Mine.halt ?_))
local macro_rules | `(tactic| walk_at "eval Call") => `(tactic| k_dflt (refine Call_ ?_))
local macro_rules | `(tactic| walk_at "binaryOp Add int int") => `(tactic| (first | (with_reducible refine Mine.r_add1N ?_) | (with_reducible refine Mine.r_2addN ?_)))
local macro_rules | `(tactic| walk_at "binaryOp Mult int int") => `(tactic| (with_reducible refine Mine.r_2mulN ?_))
local macro_rules | `(tactic| walk_at "compareOp NotEq int int") => `(tactic| (with_reducible refine Mine.r_neEq (by first | rfl | assumption) ?_))
local macro_rules | `(tactic| k_qdec) => `(tactic| decide +kernel)
theorem law_holds : PySem.Challenge.rw_nn0017_01.Holds := jh rfl rfl rfl (by
  k_go0
  (all_goals try k_fold)
  (rename Below _ _ _ _ => K0)
  (rename Frag.In _ _ => KX)
  (rename Top _ _ _ _ _ _ => T)
  have RL := fun name scope L a cd hk => law_ready (name := name) (scope := scope) (L := L) (a := a) (cd := cd) KX K0 T hk
  (rename Heap.IsList _ _ _ => hL)
  (rename IntsAre _ _ => hI)
  k_steps
  refine Halt.go ?_
  (rename Fr _ _ _ _ => F9); (rename News _ _ _ _ => N9)
  have hns : List.length ‹List Int› < 2 ^ 20 := by omega
  refine law_box_spec (n := 10) (RL _ _ _ _ _ rfl _ _ _ _ (by omega) F9 N9).toM.toR (lst_keeps hL F9.keep) hI (by omega) (fun b inner vi ni sd ts kb ki h2 tk2 K2 nb nI hbi gb gi I2 hl2 => ?_)
  have F10 := fr_keeps F9 K2
  have N10 := news_addB F9 F10 (news_addB F9 F10 (News.nil) nI gi) nb gb
  clear F9 N9
  have hbi' : @Ne Nat b inner := hbi
  k_steps
  refine Halt.go ?_
  (rename Fr _ _ _ _ => F9); (rename News _ _ _ _ => N9)
  refine law_take_spec (n := 10) (RL _ _ _ _ _ rfl _ _ _ _ (by omega) F9 (news_sub N9 (news' := [(b, _), (inner, _)]) (two_mem (by k_mem) (by k_mem)))).toM hbi I2 hl2 (by decide) (by decide) (fun v3 t3 vi ni sd ts kb ki h3 tk3 K3 gb gi I3 hl3 v3a v3b => ?_)
  have F10 := fr_two F9 N9 (by k_mem) (by k_mem) K3
  have N10 := news_two (rest := []) N9 (by k_mem) (by k_mem) K3 gb gi (fun _ h => nomatch h)
  clear F9 N9 I2 hl2
  obtain ⟨W0, rfl⟩ := Int.eq_ofNat_of_zero_le v3a
  have I2 := I3
  have hl2 := hl3
  have hW0 := v3b
  clear I3 hl3 v3b v3a K3 gb gi
  k_steps
  generalize hWe : 2 + W0 = W at *
  have hW : 2 ≤ W := by omega
  have hW9 : W ≤ 9 := by omega
  refine Halt.go ?_
  (rename Fr _ _ _ _ => F9); (rename News _ _ _ _ => N9)
  refine law_take_spec (n := 10) (RL _ _ _ _ _ rfl _ _ _ _ (by omega) F9 (news_sub N9 (news' := [(b, _), (inner, _)]) (two_mem (by k_mem) (by k_mem)))).toM hbi I2 hl2 (by decide) (by decide) (fun v3 t3 vi ni sd ts kb ki h3 tk3 K3 gb gi I3 hl3 v3a v3b => ?_)
  have F10 := fr_two F9 N9 (by k_mem) (by k_mem) K3
  have N10 := news_two (rest := []) N9 (by k_mem) (by k_mem) K3 gb gi (fun _ h => nomatch h)
  clear F9 N9 I2 hl2
  obtain ⟨one, rfl⟩ := Int.eq_ofNat_of_zero_le v3a
  have I2 := I3
  have hl2 := hl3
  have hone := v3b
  clear I3 hl3 v3b v3a K3 gb gi
  k_steps
  refine Halt.go ?_
  (rename Fr _ _ _ _ => F9); (rename News _ _ _ _ => N9)
  refine law_take_spec (n := 10) (RL _ _ _ _ _ rfl _ _ _ _ (by omega) F9 (news_sub N9 (news' := [(b, _), (inner, _)]) (two_mem (by k_mem) (by k_mem)))).toM hbi I2 hl2 (by decide) (by decide) (fun v3 t3 vi ni sd ts kb ki h3 tk3 K3 gb gi I3 hl3 v3a v3b => ?_)
  have F10 := fr_two F9 N9 (by k_mem) (by k_mem) K3
  have N10 := news_two (rest := []) N9 (by k_mem) (by k_mem) K3 gb gi (fun _ h => nomatch h)
  clear F9 N9 I2 hl2
  obtain ⟨bl, rfl⟩ := Int.eq_ofNat_of_zero_le v3a
  have I2 := I3
  have hl2 := hl3
  have hbl := v3b
  clear I3 hl3 v3b v3a K3 gb gi
  k_steps
  refine Halt.go ?_
  (rename Fr _ _ _ _ => F9); (rename News _ _ _ _ => N9)
  refine law_take_spec (n := 10) (RL _ _ _ _ _ rfl _ _ _ _ (by omega) F9 (news_sub N9 (news' := [(b, _), (inner, _)]) (two_mem (by k_mem) (by k_mem)))).toM hbi I2 hl2 (by decide) (by decide) (fun v3 t3 vi ni sd ts kb ki h3 tk3 K3 gb gi I3 hl3 v3a v3b => ?_)
  have F10 := fr_two F9 N9 (by k_mem) (by k_mem) K3
  have N10 := news_two (rest := []) N9 (by k_mem) (by k_mem) K3 gb gi (fun _ h => nomatch h)
  clear F9 N9 I2 hl2
  obtain ⟨sm, rfl⟩ := Int.eq_ofNat_of_zero_le v3a
  have I2 := I3
  have hl2 := hl3
  have hsm := v3b
  clear I3 hl3 v3b v3a K3 gb gi
  k_steps
  refine Halt.go ?_
  (rename Fr _ _ _ _ => F9); (rename News _ _ _ _ => N9)
  refine law_take_spec (n := 10) (RL _ _ _ _ _ rfl _ _ _ _ (by omega) F9 (news_sub N9 (news' := [(b, _), (inner, _)]) (two_mem (by k_mem) (by k_mem)))).toM hbi I2 hl2 (by decide) (by decide) (fun v3 t3 vi ni sd ts kb ki h3 tk3 K3 gb gi I3 hl3 v3a v3b => ?_)
  have F10 := fr_two F9 N9 (by k_mem) (by k_mem) K3
  have N10 := news_two (rest := []) N9 (by k_mem) (by k_mem) K3 gb gi (fun _ h => nomatch h)
  clear F9 N9 I2 hl2
  obtain ⟨ev, rfl⟩ := Int.eq_ofNat_of_zero_le v3a
  have I2 := I3
  have hl2 := hl3
  have hev := v3b
  clear I3 hl3 v3b v3a K3 gb gi
  k_steps
  (rename (_ ∧ _ ∧ _) => lt9)
  (rename Shared => s1)
  refine Halt.go ?_
  (rename Fr _ _ _ _ => F9); (rename News _ _ _ _ => N9)
  refine law_take_spec (n := 10) (RL _ _ _ _ _ rfl _ _ _ _ (by omega) F9 (news_sub N9 (news' := [(b, _), (inner, _)]) (two_mem (by k_mem) (by k_mem)))).toM hbi I2 hl2 (by decide) (by decide) (fun v3 t3 vi ni sd ts kb ki h3 tk3 K3 gb gi I3 hl3 v3a v3b => ?_)
  have F10 := fr_two F9 N9 (by k_mem) (by k_mem) K3
  have N10 := news_two (rest := [_]) N9 (by k_mem) (by k_mem) K3 gb gi (rest_one (.head _) lt9.2.1 lt9.2.2)
  clear F9 N9 I2 hl2
  obtain ⟨ix, rfl⟩ := Int.eq_ofNat_of_zero_le v3a
  have I2 := I3
  have hl2 := hl3
  have hix := v3b
  clear I3 hl3 v3b v3a K3 gb gi
  have hsq1 : ((2 * sm + 1) * (2 * sm + 1)) % 2 = 1 := by rw [Nat.mul_mod, show (2 * sm + 1) % 2 = 1 by omega]
  have hsq2 : (2 * sm + 1) * (2 * sm + 1) ≤ 23 * 23 := Nat.mul_le_mul (by omega) (by omega)
  have hone' : one < 2 ^ 20 := by
    have : (1 * 2 ^ Int.toNat 20 : Int) = 1048576 := by decide
    omega
  refine' Join.mk (t := _)
    (fun s' => ∃ (Bv : Nat) (h : Heap) (tk : Nat) (m' : Str → Option Value) (sd : Int) (ts : Tok) (kb ki : Nat) (vi : List Value) (ni : List Int) (t1 t2 t3 t4 t5 : Tok), s' = { s1 with heap := h, toks := tk } ∧ Bv % 2 = 1 ∧ Bv < 1000 ∧ IntsAre vi ni ∧ ni.length < 2 ^ 20 ∧
      Fr s1.heap s1.heap.objs.size h m' ∧ News s1.heap s1.heap.objs.size h [(b, listOf #[.ref inner, .int sd ts] kb), (inner, listOf vi.toArray ki)] ∧
      Has m' [(Str.ofString "box", .ref b), (Str.ofString "w", .int W t1), (Str.ofString "one", .int one t2), (Str.ofString "below", .int Bv t3), (Str.ofString "small", .int ((2 * sm + 1 : Nat) : Int) t4), (Str.ofString "even", .int ((2 * ev : Nat) : Int) t5)]) ?main ?body
  case body =>
    intro J
    k_steps
    · refine Halt.go ?_
      (rename Fr _ _ _ _ => F9); (rename News _ _ _ _ => N9)
      refine' J _ ⟨2 * bl + 1, _, _, _, _, _, _, _, _, _, _, _, _, _, _, rfl, ?ho, ?hlt, I2, hl2, F9, news_sub N9 (two_mem (.head _) (.tail _ (.head _))), ?hm⟩
      case hm => (refine ⟨?_, ?_, ?_, ?_, ?_, ?_, trivial⟩ <;> rfl)
      case ho => omega
      case hlt => omega
    · refine Halt.go ?_
      (rename Fr _ _ _ _ => F9); (rename News _ _ _ _ => N9)
      refine' J _ ⟨(2 * sm + 1) * (2 * sm + 1), _, _, _, _, _, _, _, _, _, _, _, _, _, _, rfl, ?ho, ?hlt, I2, hl2, F9, news_sub N9 (two_mem (.head _) (.tail _ (.head _))), ?hm⟩
      case hm => (refine ⟨?_, ?_, ?_, ?_, ?_, ?_, trivial⟩ <;> rfl)
      case ho => exact hsq1
      case hlt => exact Nat.lt_of_le_of_lt hsq2 (by decide)
    · refine Halt.go ?_
      (rename Fr _ _ _ _ => F9); (rename News _ _ _ _ => N9)
      refine' J _ ⟨1, _, _, _, _, _, _, _, _, _, _, _, _, _, _, rfl, ?ho, ?hlt, I2, hl2, F9, news_sub N9 (two_mem (.head _) (.tail _ (.head _))), ?hm⟩
      case hm => (refine ⟨?_, ?_, ?_, ?_, ?_, ?_, trivial⟩ <;> rfl)
      case ho => rfl
      case hlt => decide
    · refine Halt.go ?_
      (rename Fr _ _ _ _ => F9); (rename News _ _ _ _ => N9)
      refine' J _ ⟨2 * bl + 1, _, _, _, _, _, _, _, _, _, _, _, _, _, _, rfl, ?ho, ?hlt, I2, hl2, F9, news_sub N9 (two_mem (.head _) (.tail _ (.head _))), ?hm⟩
      case hm => (refine ⟨?_, ?_, ?_, ?_, ?_, ?_, trivial⟩ <;> rfl)
      case ho => omega
      case hlt => omega
  case main =>
    rintro s' ⟨Bv, h, tk, m', sd, ts, kb, ki, vi, ni, t1, t2, t3, t4, t5, rfl, hBo, hBl, I2, hl2, F, N, hm⟩
    rw [hm.eq] at F
    refine law_row_spec (n := 10) (RL _ _ _ _ _ rfl _ _ _ _ (by omega) F N).toM.toR hW hW9 rfl (by omega) (fun la va ka h6 tk6 K6 na ga Ia => ?_)
    have F10 := fr_keeps F K6
    have N10 := news_add F N K6 na ga
    have hab : @Ne Nat b la := news_off N na _ (.head _)
    have hai : @Ne Nat inner la := news_off N na _ (.tail _ (.head _))
    clear F N hm
    k_steps
    refine Halt.go ?_
    (rename Fr _ _ _ _ => F9); (rename News _ _ _ _ => N9)
    refine law_row_spec (n := 10) (RL _ _ _ _ _ rfl _ _ _ _ (by omega) F9 N9).toM.toR hW hW9 rfl (by omega) (fun ln vn kn h6 tk6 K6 nn gn In => ?_)
    have F10 := fr_keeps F9 K6
    have N10 := news_add F9 N9 K6 nn gn
    clear F9 N9
    k_steps
    refine Halt.go ?_
    (rename Fr _ _ _ _ => F9); (rename News _ _ _ _ => N9)
    refine jacobi_spec (n := 10) Sym_laws (RL _ _ _ _ _ rfl _ _ _ _ (by omega) F9 N9).toM.toR hW hW9 (N9.isList (by k_mem)) Ia (by omega) (N9.isList (by k_mem)) In hBo (by omega) (fun v7 t7 h7 tk7 K7 e7 => ?_)
    have F10 := fr_keeps F9 K7
    have N10 := news_keeps N9 K7
    clear F9 N9
    k_steps
    refine Halt.go ?_
    (rename Fr _ _ _ _ => F9); (rename News _ _ _ _ => N9)
    refine law_symbol_spec (n := 10) (RL _ _ _ _ _ rfl _ _ _ _ (by omega) F9 N9).toM.toR (by omega) (fun v8 t8 h8 tk8 K8 e8 => ?_)
    have F10 := fr_keeps F9 K8
    have N10 := news_keeps N9 K8
    clear F9 N9
    have e8' := symIs_odd e8 hBo
    subst e7 e8'
    k_steps
    refine Halt.go ?_
    (rename Fr _ _ _ _ => F9); (rename News _ _ _ _ => N9)
    have hpr1 : (Bv * (2 * sm + 1)) % 2 = 1 := by rw [Nat.mul_mod, hBo, show (2 * sm + 1) % 2 = 1 by omega]
    have hpr2 : Bv * (2 * sm + 1) < 2 ^ 20 := Nat.lt_of_le_of_lt (Nat.mul_le_mul (Nat.le_of_lt hBl) (show 2 * sm + 1 ≤ 23 by omega)) (by decide)
    refine law_row_spec (n := 10) (x := Bv * (2 * sm + 1)) (RL _ _ _ _ _ rfl _ _ _ _ (by omega) F9 N9).toM.toR hW hW9 rfl (Nat.lt_trans hpr2 (by decide)) (fun lp vp kp h6 tk6 K6 np gp Ip => ?_)
    have F10 := fr_keeps F9 K6
    have N10 := news_add F9 N9 K6 np gp
    clear F9 N9
    k_steps
    refine Halt.go ?_
    (rename Fr _ _ _ _ => F9); (rename News _ _ _ _ => N9)
    refine jacobi_spec (n := 10) Sym_laws (RL _ _ _ _ _ rfl _ _ _ _ (by omega) F9 N9).toM.toR hW hW9 (N9.isList (by k_mem)) Ia (by omega) (N9.isList (.head _)) Ip hpr1 (Nat.lt_trans hpr2 (by decide)) (fun v7 t7 h7 tk7 K7 e7 => ?_)
    rw [Sym_below hBo (by omega)] at e7
    have F10 := fr_keeps F9 K7
    have N10 := news_keeps N9 K7
    clear F9 N9
    k_steps
    refine Halt.go ?_
    (rename Fr _ _ _ _ => F9); (rename News _ _ _ _ => N9)
    refine law_symbol_spec (n := 10) (RL _ _ _ _ _ rfl _ _ _ _ (by omega) F9 N9).toM.toR (by omega) (fun v8 t8 h8 tk8 K8 e8 => ?_)
    have F10 := fr_keeps F9 K8
    have N10 := news_keeps N9 K8
    clear F9 N9
    have e8' := symIs_odd e8 hBo
    subst e8'
    k_steps
    refine Halt.go ?_
    (rename Fr _ _ _ _ => F9); (rename News _ _ _ _ => N9)
    refine law_symbol_spec (n := 10) (RL _ _ _ _ _ rfl _ _ _ _ (by omega) F9 N9).toM.toR (by omega) (fun v9 t9 h9 tk9 K9 e9 => ?_)
    have F10 := fr_keeps F9 K9
    have N10 := news_keeps N9 K9
    clear F9 N9
    have e9' := symIs_odd e9 (by omega)
    subst e9'
    have hs1 := Sym_small one Bv
    k_steps
    refine Halt.go ?_
    (rename Fr _ _ _ _ => F9); (rename News _ _ _ _ => N9)
    refine law_row_spec (n := 10) (RL _ _ _ _ _ rfl _ _ _ _ (by omega) F9 N9).toM.toR hW hW9 rfl (by omega) (fun le ve ke h6 tk6 K6 ne ge Ie => ?_)
    have F10 := fr_keeps F9 K6
    have N10 := news_add F9 N9 K6 ne ge
    clear F9 N9
    k_steps
    refine Halt.go ?_
    (rename Fr _ _ _ _ => F9); (rename News _ _ _ _ => N9)
    have N8 := news_sub N9 (news' := [(b, _), (inner, _)]) (two_mem (by k_mem) (by k_mem))
    refine jacobi_even (n := 10) (RL _ _ _ _ _ rfl _ _ _ _ (by omega) F9 N8) hW hW9 (N9.isList (.head _)) Ie (by omega) (by omega) (fun e t vs g' h7 tk7 G7 R7 U7 => ?_)
    have Fg := fr_off F9 N8 G7
    clear F9 N9 N8
    k_steps
    refine Halt.go ?_
    (rename Fr _ _ _ _ => F9); (rename News _ _ _ _ => N9)
    (rename IsRange _ _ _ _ _ _ _ _ => hr)
    refine for_rangeS (σ := Int × Tok × Nat × Nat × List Value × List Int) (n := 2) (adr := [b, inner]) (fun c => [(b, listOf #[.ref inner, .int c.1 c.2.1] c.2.2.1), (inner, listOf c.2.2.2.2.1.toArray c.2.2.2.1)]) (fun c => [(Str.ofString "box", .ref b), (Str.ofString "w", .int W t1), (Str.ofString "even", .int ((2 * ev : Nat) : Int) t5)])
      (fun i c => IntsAre c.2.2.2.2.1 c.2.2.2.2.2 ∧ c.2.2.2.2.2.length < 2 ^ 20) (sd, ts, kb, ki, vi, ni) rfl hr (by decide) (by decide) F9 N9 (fun _ => rfl) (by (refine ⟨?_, ?_, ?_, trivial⟩ <;> rfl)) ⟨I2, hl2⟩ ?_ ?_
    · rintro ⟨sd, ts, kb, ki, vi, ni⟩ i t u h tk own hi ho ⟨I2, hl2⟩ F N
      dsimp only at I2 hl2 F N
      clear F9 N9 hr
      k_steps
      refine Halt.go ?_
      (rename Fr _ _ _ _ => F9); (rename News _ _ _ _ => N9)
      refine law_take_spec (n := 10) (RL _ _ _ _ _ rfl _ _ _ _ (by omega) F9 (news_sub N9 (news' := [(b, _), (inner, _)]) (two_mem (by k_mem) (by k_mem)))).toM hbi I2 hl2 (by decide) (by decide) (fun v3 t3 vi ni sd ts kb ki h3 tk3 K3 gb gi I3 hl3 v3a v3b => ?_)
      have F10 := fr_two F9 N9 (by k_mem) (by k_mem) K3
      have N10 := news_two (rest := own) N9 (by k_mem) (by k_mem) K3 gb gi (fun p hp => ⟨.tail _ (.tail _ hp), ho p hp b (.head _), ho p hp inner (.tail _ (.head _))⟩)
      clear F9 N9 I2 hl2
      obtain ⟨xv, rfl⟩ := Int.eq_ofNat_of_zero_le v3a
      have I2 := I3
      have hl2 := hl3
      have hxv := v3b
      clear I3 hl3 v3b v3a K3 gb gi
      k_steps
      refine Halt.go ?_
      (rename Fr _ _ _ _ => F9); (rename News _ _ _ _ => N9)
      refine law_take_spec (n := 10) (RL _ _ _ _ _ rfl _ _ _ _ (by omega) F9 (news_sub N9 (news' := [(b, _), (inner, _)]) (two_mem (by k_mem) (by k_mem)))).toM hbi I2 hl2 (by decide) (by decide) (fun v3 t3 vi ni sd ts kb ki h3 tk3 K3 gb gi I3 hl3 v3a v3b => ?_)
      have F10 := fr_two F9 N9 (by k_mem) (by k_mem) K3
      have N10 := news_two (rest := own) N9 (by k_mem) (by k_mem) K3 gb gi (fun p hp => ⟨.tail _ (.tail _ hp), ho p hp b (.head _), ho p hp inner (.tail _ (.head _))⟩)
      clear F9 N9 I2 hl2
      obtain ⟨yv, rfl⟩ := Int.eq_ofNat_of_zero_le v3a
      have I2 := I3
      have hl2 := hl3
      have hyv := v3b
      clear I3 hl3 v3b v3a K3 gb gi
      k_steps
      refine Halt.go ?_
      (rename Fr _ _ _ _ => F9); (rename News _ _ _ _ => N9)
      generalize hxe : (xv : Int) - 150 = xx at *
      generalize hye : (yv : Int) - 100 = yy at *
      refine law_signed_spec (n := 10) (RL _ _ _ _ _ rfl _ _ _ _ (by omega) F9 N9).toM.toR hW hW9 (by omega) (fun T1 l1 w1 k1 h6 tk6 K6 nT1 nl1 gT1 gl1 I1 => ?_)
      have F10 := fr_keeps F9 K6
      have N10 := news_add2 F9 N9 K6 nT1 gT1 nl1 gl1
      clear F9 N9
      k_steps
      refine Halt.go ?_
      (rename Fr _ _ _ _ => F9); (rename News _ _ _ _ => N9)
      refine law_signed_spec (n := 10) (RL _ _ _ _ _ rfl _ _ _ _ (by omega) F9 N9).toM.toR hW hW9 (by omega) (fun T2 l2 w2 k2 h6 tk6 K6 nT2 nl2 gT2 gl2 I2' => ?_)
      have F10 := fr_keeps F9 K6
      have N10 := news_add2 F9 N9 K6 nT2 gT2 nl2 gl2
      clear F9 N9
      k_steps
      refine Halt.go ?_
      (rename Fr _ _ _ _ => F9); (rename News _ _ _ _ => N9)
      refine kronecker_spec (n := 10) Sym_laws (RL _ _ _ _ _ rfl _ _ _ _ (by omega) F9 N9).toM.toR hW hW9 ⟨_, N9.get (.tail _ (.tail _ (.head _))), rfl, _, rfl⟩ ⟨_, N9.get (.head _), rfl, _, rfl⟩ (N9.isList (.tail _ (.tail _ (.tail _ (.head _))))) I1 (by omega) (N9.isList (.tail _ (.head _))) I2' (by omega) (fun v7 t7 h7 tk7 K7 e7 => ?_)
      have F10 := fr_keeps F9 K7
      have N10 := news_keeps N9 K7
      clear F9 N9
      k_steps
      refine Halt.go ?_
      (rename Fr _ _ _ _ => F9); (rename News _ _ _ _ => N9)
      refine law_symbol_spec (n := 10) (RL _ _ _ _ _ rfl _ _ _ _ (by omega) F9 N9).toM.toR (by omega) (fun v8 t8 h8 tk8 K8 e8 => ?_)
      have F10 := fr_keeps F9 K8
      have N10 := news_keeps N9 K8
      clear F9 N9
      have e78 := kron_sym e7 e8
      k_steps
      (rename Fr _ _ _ _ => F9); (rename News _ _ _ _ => N9)
      refine EndOf.intro (sd, ts, kb, ki, vi, ni) F9 N9 (by (refine ⟨?_, ?_, ?_, trivial⟩ <;> rfl)) (two_mem (by k_mem) (by k_mem)) (fun p hp => by repeat (first | assumption | refine List.Mem.tail _ ?_)) ⟨I2, hl2⟩
    · rintro ⟨sd, ts, kb, ki, vi, ni⟩ u h tk ⟨I2, hl2⟩ F N
      dsimp only at I2 hl2 F N
      clear F9 N9 hr
      k_steps
      refine Halt.go ?_
      (rename Fr _ _ _ _ => F9); (rename News _ _ _ _ => N9)
      refine law_signed_spec (n := 10) (RL _ _ _ _ _ rfl _ _ _ _ (by omega) F9 N9).toM.toR hW hW9 (by omega) (fun T1 l1 w1 k1 h6 tk6 K6 nT1 nl1 gT1 gl1 I1 => ?_)
      have F10 := fr_keeps F9 K6
      have N10 := news_add2 F9 N9 K6 nT1 gT1 nl1 gl1
      clear F9 N9
      k_steps
      refine Halt.go ?_
      (rename Fr _ _ _ _ => F9); (rename News _ _ _ _ => N9)
      refine law_signed_spec (n := 10) (RL _ _ _ _ _ rfl _ _ _ _ (by omega) F9 N9).toM.toR hW hW9 (by decide) (fun T2 l2 w2 k2 h6 tk6 K6 nT2 nl2 gT2 gl2 I2' => ?_)
      have F10 := fr_keeps F9 K6
      have N10 := news_add2 F9 N9 K6 nT2 gT2 nl2 gl2
      clear F9 N9
      k_steps
      refine Halt.go ?_
      (rename Fr _ _ _ _ => F9); (rename News _ _ _ _ => N9)
      refine kronecker_spec (n := 10) (y := 0) Sym_laws (RL _ _ _ _ _ rfl _ _ _ _ (by omega) F9 N9).toM.toR hW hW9 ⟨_, N9.get (.tail _ (.tail _ (.head _))), rfl, _, rfl⟩ ⟨_, N9.get (.head _), rfl, _, rfl⟩ (N9.isList (.tail _ (.tail _ (.tail _ (.head _))))) I1 (by omega) (N9.isList (.tail _ (.head _))) I2' (by decide) (fun v7 t7 h7 tk7 K7 e7 => ?_)
      have F10 := fr_keeps F9 K7
      have N10 := news_keeps N9 K7
      clear F9 N9
      have e7' := e7.1 rfl
      clear e7
      k_steps)
end

end Mine
theorem PySem.Challenge.cw_nn0017_01_holds : PySem.Challenge.rw_nn0017_01.Holds := by
  exact Mine.law_holds
