/- Texts of this claim, joined by program: part 1. -/
import Derived.Orders
import Derived.Below
import Derived.Laws.AppendOwn
import Derived.WalkKit
import Derived.Laws.MakeOwn
import Derived.Laws.CopyRow
import Derived.Laws.Tables
import Derived.Great.BuildSlice
import Derived.MapKept
/-! Plain numbers: lists of 32-bit limbs (least first), their values, canonical lists. No program in sight. -/
namespace NumA
set_option linter.unusedVariables false

/-- The base's powers. -/
def P (n : Nat) : Int := 4294967296 ^ n
theorem P_zero : P 0 = 1 := by simp [P]
theorem P_succ (n : Nat) : P (n + 1) = 4294967296 * P n := by unfold P; rw [Int.pow_succ]; omega
theorem P_pos (n : Nat) : 0 < P n := by unfold P; exact Int.pow_pos (by omega)
theorem P_add (m n : Nat) : P (m + n) = P m * P n := by unfold P; rw [Int.pow_add]
theorem P_one : P 1 = 4294967296 := by simp [P]
theorem P_le {m n : Nat} (h : m ≤ n) : P m ≤ P n := by
  obtain ⟨k, rfl⟩ := Nat.exists_eq_add_of_le h
  rw [P_add]
  have h1 := P_pos k
  have h2 := P_pos m
  have : P m * 1 ≤ P m * P k := Int.mul_le_mul_of_nonneg_left (by omega) (by omega)
  omega

/-- The value of a list of limbs. -/
def nv : List Int → Int
  | [] => 0
  | x :: l => x + 4294967296 * nv l
/-- All elements are limbs. -/
def U32 (l : List Int) : Prop := ∀ x ∈ l, 0 ≤ x ∧ x < 4294967296

theorem U32_nil : U32 [] := by simp [U32]
theorem U32_cons {x : Int} {l : List Int} : U32 (x :: l) ↔ (0 ≤ x ∧ x < 4294967296) ∧ U32 l := by simp [U32]
theorem U32_append {a b : List Int} : U32 (a ++ b) ↔ U32 a ∧ U32 b := by
  simp only [U32, List.mem_append]
  exact ⟨fun h => ⟨fun x hx => h x (.inl hx), fun x hx => h x (.inr hx)⟩, fun h x hx => hx.elim (h.1 x) (h.2 x)⟩
theorem U32_take {l : List Int} (h : U32 l) (n : Nat) : U32 (l.take n) := fun x hx => h x (List.mem_of_mem_take hx)
theorem U32_drop {l : List Int} (h : U32 l) (n : Nat) : U32 (l.drop n) := fun x hx => h x (List.mem_of_mem_drop hx)
theorem U32_set {l : List Int} (h : U32 l) (n : Nat) {v : Int} (h0 : 0 ≤ v) (h1 : v < 4294967296) : U32 (l.set n v) := by
  intro x hx
  rcases List.mem_or_eq_of_mem_set hx with hx | rfl
  · exact h x hx
  · exact ⟨h0, h1⟩
theorem U32_getD {l : List Int} (h : U32 l) (n : Nat) : 0 ≤ l.getD n 0 ∧ l.getD n 0 < 4294967296 := by
  rw [List.getD_eq_getElem?_getD]
  by_cases hn : n < l.length
  · rw [List.getElem?_eq_getElem hn]; exact h _ (List.getElem_mem hn)
  · rw [List.getElem?_eq_none (by omega)]; simp
theorem U32_replicate (n : Nat) : U32 (List.replicate n 0) := by
  intro x hx
  rw [List.eq_of_mem_replicate hx]
  omega

theorem nv_nil : nv [] = 0 := rfl
theorem nv_cons (x : Int) (l : List Int) : nv (x :: l) = x + 4294967296 * nv l := rfl
theorem nv_append (a b : List Int) : nv (a ++ b) = nv a + P a.length * nv b := by
  induction a with
  | nil => simp [nv, P_zero]
  | cons x a ih =>
    simp only [List.cons_append, nv, ih, List.length_cons, P_succ]
    grind
theorem nv_nonneg {l : List Int} (h : U32 l) : 0 ≤ nv l := by
  induction l with
  | nil => simp [nv]
  | cons x l ih =>
    rw [U32_cons] at h
    have := ih h.2
    simp only [nv]; omega
theorem nv_lt {l : List Int} (h : U32 l) : nv l < P l.length := by
  induction l with
  | nil => simp [nv, P_zero]
  | cons x l ih =>
    rw [U32_cons] at h
    have := ih h.2
    simp only [nv, List.length_cons, P_succ]; omega
theorem nv_split (l : List Int) (n : Nat) (h : n ≤ l.length) : nv l = nv (l.take n) + P n * nv (l.drop n) := by
  have h1 := nv_append (l.take n) (l.drop n)
  rw [List.take_append_drop] at h1
  rw [h1, List.length_take, Nat.min_eq_left h]
theorem nv_snoc (l : List Int) (x : Int) : nv (l ++ [x]) = nv l + P l.length * x := by
  rw [nv_append]; simp [nv]
theorem take_succ_getD (l : List Int) (i : Nat) (h : i < l.length) : l.take (i + 1) = l.take i ++ [l.getD i 0] := by
  rw [List.take_succ_eq_append_getElem h, List.getD_eq_getElem?_getD, List.getElem?_eq_getElem h]; rfl
theorem nv_take_succ (l : List Int) (i : Nat) (h : i < l.length) : nv (l.take (i + 1)) = nv (l.take i) + P i * l.getD i 0 := by
  rw [take_succ_getD l i h, nv_snoc, List.length_take, Nat.min_eq_left (by omega)]
theorem nv_take_all (l : List Int) (n : Nat) (h : l.length ≤ n) : nv (l.take n) = nv l := by rw [List.take_of_length_le h]
theorem getD_ge (l : List Int) (n : Nat) (h : l.length ≤ n) : l.getD n 0 = 0 := by
  rw [List.getD_eq_getElem?_getD, List.getElem?_eq_none h]; rfl
theorem nv_take_succ' (l : List Int) (i : Nat) : nv (l.take (i + 1)) = nv (l.take i) + P i * l.getD i 0 := by
  by_cases h : i < l.length
  · exact nv_take_succ l i h
  · rw [nv_take_all l _ (by omega), nv_take_all l _ (by omega), getD_ge l i (by omega)]; omega
theorem getD_set_self (l : List Int) (i : Nat) (v : Int) (h : i < l.length) : (l.set i v).getD i 0 = v := by
  rw [List.getD_eq_getElem?_getD, List.getElem?_set_self h]; rfl
theorem getD_set_ne (l : List Int) (i j : Nat) (v : Int) (h : i ≠ j) : (l.set i v).getD j 0 = l.getD j 0 := by
  rw [List.getD_eq_getElem?_getD, List.getElem?_set_ne h, List.getD_eq_getElem?_getD]
theorem take_set_le (l : List Int) (i n : Nat) (v : Int) (h : n ≤ i) : (l.set i v).take n = l.take n := by
  rw [List.take_set_of_le h]
theorem nv_set (l : List Int) (i : Nat) (v : Int) (h : i < l.length) : nv (l.set i v) = nv l + P i * (v - l.getD i 0) := by
  induction l generalizing i with
  | nil => simp at h
  | cons x l ih =>
    cases i with
    | zero => simp only [List.set_cons_zero, nv, P_zero, List.getD_cons_zero]; omega
    | succ i =>
      simp only [List.set_cons_succ, nv, P_succ, List.getD_cons_succ]
      rw [ih i (by simpa using h)]
      grind
theorem nv_take_set (l : List Int) (i : Nat) (v : Int) (h : i < l.length) : nv ((l.set i v).take (i + 1)) = nv (l.take i) + P i * v := by
  rw [nv_take_succ _ _ (by simpa using h), take_set_le _ _ _ _ (Nat.le_refl _), getD_set_self _ _ _ h]
theorem nv_replicate (n : Nat) : nv (List.replicate n 0) = 0 := by
  induction n with
  | zero => rfl
  | succ n ih => rw [List.replicate_succ, nv, ih]; rfl
theorem nv_drop_succ (l : List Int) (i : Nat) (h : i < l.length) : nv (l.drop i) = l.getD i 0 + 4294967296 * nv (l.drop (i + 1)) := by
  rw [List.drop_eq_getElem_cons h, nv, List.getD_eq_getElem?_getD, List.getElem?_eq_getElem h]; rfl
theorem nv_drop_all (l : List Int) (i : Nat) (h : l.length ≤ i) : nv (l.drop i) = 0 := by rw [List.drop_eq_nil_of_le h]; rfl

/-! ### canonical lists -/
/-- A list without its trailing zeros. -/
def tr : List Int → List Int
  | [] => []
  | x :: l => if tr l = [] then (if x = 0 then [] else [x]) else x :: tr l
theorem nv_tr (l : List Int) : nv (tr l) = nv l := by
  induction l with
  | nil => rfl
  | cons x l ih =>
    simp only [tr]
    by_cases h : tr l = []
    · rw [if_pos h]
      rw [h] at ih
      have : nv l = 0 := by rw [← ih]; rfl
      split <;> simp_all [nv]
    · rw [if_neg h]; simp only [nv, ih]
theorem U32_tr {l : List Int} (h : U32 l) : U32 (tr l) := by
  induction l with
  | nil => exact h
  | cons x l ih =>
    rw [U32_cons] at h
    simp only [tr]
    split
    · split
      · exact U32_nil
      · exact U32_cons.2 ⟨h.1, U32_nil⟩
    · exact U32_cons.2 ⟨h.1, ih h.2⟩
theorem tr_snoc_zero (l : List Int) : tr (l ++ [0]) = tr l := by
  induction l with
  | nil => rfl
  | cons x l ih => simp only [List.cons_append, tr, ih]
theorem tr_snoc_ne (l : List Int) (x : Int) (h : x ≠ 0) : tr (l ++ [x]) = l ++ [x] := by
  induction l with
  | nil => simp [tr, h]
  | cons y l ih => simp only [List.cons_append, tr, ih]; simp
theorem tr_length (l : List Int) : (tr l).length ≤ l.length := by
  induction l with
  | nil => simp [tr]
  | cons x l ih =>
    simp only [tr]
    split
    · split <;> simp
    · simp; omega
theorem tr_zero {l : List Int} (h : U32 l) (h0 : nv l = 0) : tr l = [] := by
  induction l with
  | nil => rfl
  | cons x l ih =>
    rw [U32_cons] at h
    have := nv_nonneg h.2
    simp only [nv] at h0
    have h1 : nv l = 0 := by omega
    have h2 : x = 0 := by omega
    simp [tr, ih h.2 h1, h2]
theorem tr_take_of_zero (l : List Int) (n : Nat) (h : n < l.length) (h0 : l.getD n 0 = 0) : tr (l.take (n + 1)) = tr (l.take n) := by
  rw [take_succ_getD l n h, h0, tr_snoc_zero]
theorem tr_take_of_ne (l : List Int) (n : Nat) (h : n < l.length) (h0 : l.getD n 0 ≠ 0) : tr (l.take (n + 1)) = l.take (n + 1) := by
  rw [take_succ_getD l n h, tr_snoc_ne _ _ h0]

/-- The canonical list of a number. -/
def enc (n : Nat) : List Int := if n = 0 then [] else ((n % 4294967296 : Nat) : Int) :: enc (n / 4294967296)
termination_by n
decreasing_by omega
theorem enc_zero : enc 0 = [] := by rw [enc]; simp
theorem enc_pos (n : Nat) (h : n ≠ 0) : enc n = ((n % 4294967296 : Nat) : Int) :: enc (n / 4294967296) := by rw [enc]; simp [h]
/-- .. of an integer that is not negative. -/
def en (z : Int) : List Int := enc z.toNat
theorem en_zero : en 0 = [] := by simp [en, enc_zero]
theorem en_step (x : Int) (z : Int) (h0 : 0 ≤ x) (h1 : x < 4294967296) (hz : 0 ≤ z) (h : x ≠ 0 ∨ z ≠ 0) : en (x + 4294967296 * z) = x :: en z := by
  unfold en
  rw [enc_pos _ (by omega)]
  congr 1
  · omega
  · congr 1; omega
theorem tr_eq_en {l : List Int} (h : U32 l) : tr l = en (nv l) := by
  induction l with
  | nil => simp [tr, nv, en_zero]
  | cons x l ih =>
    rw [U32_cons] at h
    have hn := nv_nonneg h.2
    simp only [tr, nv]
    by_cases h0 : nv l = 0
    · rw [if_pos (tr_zero h.2 h0), h0]
      by_cases hx : x = 0
      · simp [hx, en_zero]
      · rw [if_neg hx, en_step x 0 h.1.1 h.1.2 (by omega) (.inl hx), en_zero]
    · have : tr l ≠ [] := fun he => h0 (by rw [← nv_tr, he]; rfl)
      rw [if_neg this, en_step x _ h.1.1 h.1.2 hn (.inr h0), ih h.2]
theorem U32_enc (n : Nat) : U32 (enc n) := by
  induction n using Nat.strongRecOn with
  | _ n ih =>
    by_cases h : n = 0
    · rw [h, enc_zero]; exact U32_nil
    · rw [enc_pos n h]; exact U32_cons.2 ⟨by omega, ih _ (by omega)⟩
theorem nv_enc (n : Nat) : nv (enc n) = n := by
  induction n using Nat.strongRecOn with
  | _ n ih =>
    by_cases h : n = 0
    · rw [h, enc_zero]; rfl
    · rw [enc_pos n h, nv, ih _ (by omega)]; omega
theorem tr_enc (n : Nat) : tr (enc n) = enc n := by
  rw [tr_eq_en (U32_enc n), nv_enc]; simp [en]
theorem U32_en (z : Int) : U32 (en z) := U32_enc _
theorem nv_en {z : Int} (h : 0 ≤ z) : nv (en z) = z := by unfold en; rw [nv_enc]; omega
theorem tr_en (z : Int) : tr (en z) = en z := tr_enc _
theorem en_nv {l : List Int} (h : U32 l) (ht : tr l = l) : en (nv l) = l := by rw [← tr_eq_en h, ht]
theorem enc_length (n k : Nat) (h : (n : Int) < P k) : (enc n).length ≤ k := by
  induction k generalizing n with
  | zero => rw [P_zero] at h; have : n = 0 := by omega
            rw [this, enc_zero]; simp
  | succ k ih =>
    by_cases h0 : n = 0
    · rw [h0, enc_zero]; simp
    · rw [enc_pos n h0, List.length_cons]
      have := ih (n / 4294967296) (by rw [P_succ] at h; omega)
      omega
theorem en_length {z : Int} {k : Nat} (h : z < P k) : (en z).length ≤ k := by
  unfold en
  apply enc_length
  have := P_pos k
  omega
theorem le_enc_length (n k : Nat) (h : P k ≤ (n : Int)) : k < (enc n).length := by
  have h1 := nv_lt (U32_enc n)
  rw [nv_enc] at h1
  apply Classical.byContradiction
  intro hk
  have := P_le (show (enc n).length ≤ k by omega)
  omega
theorem en_inj {a b : Int} (ha : 0 ≤ a) (hb : 0 ≤ b) (h : en a = en b) : a = b := by
  rw [← nv_en ha, ← nv_en hb, h]
theorem en_eq_nil {z : Int} (h : 0 ≤ z) : en z = [] ↔ z = 0 := by
  constructor
  · intro he
    have := nv_en h
    rw [he] at this
    exact this.symm
  · rintro rfl; exact en_zero
theorem en_nil_of_length {z : Int} (h : 0 ≤ z) : (en z).length = 0 ↔ z = 0 := by
  rw [← en_eq_nil h]; exact List.length_eq_zero_iff
/-- The last limb of a canonical list isn't 0. -/
theorem tr_last {l : List Int} (ht : tr l = l) (h : l ≠ []) : l.getD (l.length - 1) 0 ≠ 0 := by
  intro h0
  have hl : 0 < l.length := List.length_pos_iff.2 h
  have h1 := tr_take_of_zero l (l.length - 1) (by omega) h0
  rw [Nat.sub_add_cancel hl, List.take_length, ht] at h1
  have h2 := tr_length (l.take (l.length - 1))
  rw [← h1, List.length_take] at h2
  omega
theorem en_last {z : Int} (h : 0 < z) : (en z).getD ((en z).length - 1) 0 ≠ 0 :=
  tr_last (tr_en z) (fun he => by rw [en_eq_nil (by omega)] at he; omega)
/-- A canonical list of n + 1 limbs is a number of at least P n. -/
theorem nv_ge_of_last {l : List Int} (hU : U32 l) (n : Nat) (hn : l.length = n + 1) (h : l.getD n 0 ≠ 0) : P n ≤ nv l := by
  have h1 := nv_split l n (by omega)
  have h2 := nv_drop_succ l n (by omega)
  rw [nv_drop_all l (n + 1) (by omega)] at h2
  have h3 := nv_nonneg (U32_take hU n)
  have h4 := U32_getD hU n
  rw [h1, h2]
  have : P n * 1 ≤ P n * (l.getD n 0 + 4294967296 * 0) := Int.mul_le_mul_of_nonneg_left (by omega) (by have := P_pos n; omega)
  omega
theorem en_ge {z : Int} (h : 0 < z) (n : Nat) (hn : (en z).length = n + 1) : P n ≤ z := by
  have h1 := nv_ge_of_last (U32_en z) n hn (by have := en_last h; rw [hn] at this; exact this)
  rwa [nv_en (by omega)] at h1
/-- Comparing lengths of canonical lists compares the numbers. -/
theorem lt_of_length_lt {a b : Int} (ha : 0 ≤ a) (hb : 0 ≤ b) (h : (en a).length < (en b).length) : a < b := by
  have h1 := nv_lt (U32_en a)
  rw [nv_en ha] at h1
  have hb0 : 0 < b := by
    have : b ≠ 0 := fun h0 => by rw [h0, en_zero] at h; simp at h
    omega
  obtain ⟨n, hn⟩ : ∃ n, (en b).length = n + 1 := ⟨(en b).length - 1, by omega⟩
  have h2 := en_ge hb0 n hn
  have h3 := P_le (show (en a).length ≤ n by omega)
  omega
end NumA
/-! Plain numbers: integers and rational numbers as signs and lists of limbs. No program in sight. -/
namespace NumA
set_option linter.unusedVariables false
/-- The value of a sign and a magnitude. -/
def iv (neg : Bool) (mag : List Int) : Int := if neg then -nv mag else nv mag
/-- The value of a numerator and a denominator; 0 over 0. -/
def rv (neg : Bool) (mag den : List Int) : Rat := Rat.divInt (iv neg mag) (nv den)
theorem iv_natAbs {neg : Bool} {mag : List Int} (h : U32 mag) : ((iv neg mag).natAbs : Int) = nv mag := by
  have := nv_nonneg h
  unfold iv; split <;> omega
theorem iv_tr (neg : Bool) (mag : List Int) : iv neg (tr mag) = iv neg mag := by unfold iv; rw [nv_tr]
theorem iv_en (z : Int) : iv (decide (z < 0)) (en (z.natAbs : Int)) = z := by
  unfold iv
  rw [nv_en (by omega)]
  by_cases h : z < 0
  · simp only [h, decide_true, if_true]; omega
  · simp only [h, decide_false, Bool.false_eq_true, if_false]; omega
theorem iv_lt {neg : Bool} {mag : List Int} (h : U32 mag) : iv neg mag < 0 ↔ neg = true ∧ nv mag ≠ 0 := by
  have := nv_nonneg h
  unfold iv
  cases neg <;> simp <;> omega
theorem iv_zero {neg : Bool} {mag : List Int} (h : U32 mag) : iv neg mag = 0 ↔ nv mag = 0 := by
  unfold iv; split <;> omega
/-- What 'with' makes of a sign and a canonical magnitude. -/
theorem with_eq {neg : Bool} {m : Int} (h : 0 ≤ m) : (neg && !decide (en m = [])) = decide ((if neg = true then -m else m) < 0) := by
  cases neg
  · simp; omega
  · simp only [Bool.true_and, if_true]
    rw [Bool.eq_iff_iff]
    simp [en_eq_nil h]; omega
theorem rv_en (q : Rat) : rv (decide (q.num < 0)) (en (q.num.natAbs : Int)) (en (q.den : Int)) = q := by
  unfold rv
  rw [iv_en, nv_en (by omega)]
  exact Rat.num_divInt_den q
theorem rv_int (z : Int) : Rat.divInt z 1 = (z : Rat) := by
  rw [Rat.divInt_eq_div]; simp; grind

theorem div_num_natAbs (z d : Int) (h : 0 < d) : (Rat.divInt z d).num.natAbs = z.natAbs / z.gcd d := by
  rw [Rat.num_divInt, Int.sign_eq_one_of_pos h, Int.one_mul, Int.gcd_comm d z]
  rw [Int.natAbs_ediv_of_dvd (Int.gcd_dvd_left ..)]
  simp
theorem div_den (z d : Int) (h : 0 < d) : (Rat.divInt z d).den = d.toNat / z.gcd d := by
  rw [Rat.den_divInt, if_neg (by omega), Int.gcd_comm d z]
  congr 1; omega
theorem div_num_neg (z d : Int) (h : 0 < d) : (Rat.divInt z d).num < 0 ↔ z < 0 := by
  have h1 : 0 ≤ Rat.divInt z d ↔ 0 ≤ z := Rat.divInt_nonneg_iff_of_pos_right h
  rw [← Rat.num_nonneg] at h1
  omega
theorem div_lt (a b c d : Int) (hb : 0 < b) (hd : 0 < d) : Rat.divInt a b < Rat.divInt c d ↔ a * d < c * b := by
  rw [Rat.divInt_eq_div, Rat.divInt_eq_div]
  have hb' : (0 : Rat) < (b : Rat) := Rat.intCast_pos.2 hb
  have hd' : (0 : Rat) < (d : Rat) := Rat.intCast_pos.2 hd
  rw [Rat.div_lt_iff hb', ← Rat.intCast_lt_intCast, Rat.intCast_mul, Rat.intCast_mul]
  have e : (c : Rat) / (d : Rat) * (b : Rat) = (c * b) / (d : Rat) := by grind
  rw [e, Rat.lt_div_iff hd']
theorem div_eq (a b c d : Int) (hb : 0 < b) (hd : 0 < d) : Rat.divInt a b = Rat.divInt c d ↔ a * d = c * b :=
  Rat.divInt_eq_divInt_iff (by omega) (by omega)
theorem div_floor (a b : Int) (hb : 0 < b) : (Rat.divInt a b).floor = a / b := by
  rw [Rat.divInt_eq_div]
  have hb' : (0 : Rat) < (b : Rat) := Rat.intCast_pos.2 hb
  apply Int.le_antisymm
  · apply Int.le_ediv_of_mul_le hb
    have h := Rat.floor_le ((a : Rat) / b)
    have h2 := Rat.mul_le_mul_of_nonneg_right h (Rat.le_of_lt hb')
    rw [Rat.div_mul_cancel (by grind)] at h2
    rw [← Rat.intCast_mul] at h2
    exact Rat.intCast_le_intCast.1 h2
  · rw [Rat.le_floor_iff]
    have h := Int.ediv_mul_le a (show b ≠ 0 by omega)
    rw [← Rat.intCast_le_intCast, Rat.intCast_mul] at h
    have e : (a : Rat) = (a : Rat) / b * b := by rw [Rat.div_mul_cancel (by grind)]
    rw [e] at h
    exact Rat.le_of_mul_le_mul_right h hb'

/-- A rational number whose numerator and denominator have at most m limbs. -/
def Fit (m : Nat) (q : Rat) : Prop := (q.num.natAbs : Int) < P m ∧ (q.den : Int) < P m
theorem Fit.le {m n : Nat} {q : Rat} (h : Fit m q) (hmn : m ≤ n) : Fit n q := by
  have := P_le hmn
  exact ⟨by have := h.1; omega, by have := h.2; omega⟩
theorem fit_div {m : Nat} {z d : Int} (hd : 0 < d) (hz : (z.natAbs : Int) < P m) (hdm : d < P m) : Fit m (Rat.divInt z d) := by
  constructor
  · rw [div_num_natAbs z d hd]
    have := Nat.div_le_self z.natAbs (z.gcd d)
    omega
  · rw [div_den z d hd]
    have := Nat.div_le_self d.toNat (z.gcd d)
    omega
theorem mul_lt2 {a b c d : Int} (ha0 : 0 ≤ a) (hd : 0 < d) (ha : a < c) (hb : b < d) : a * b < c * d := by
  have h1 : a * b ≤ a * d := Int.mul_le_mul_of_nonneg_left (by omega) ha0
  have h2 : a * d < c * d := Int.mul_lt_mul_of_pos_right ha hd
  omega
theorem natAbs_mul_lt {a b : Int} {m n : Nat} (ha : (a.natAbs : Int) < P m) (hb : (b.natAbs : Int) < P n) : ((a * b).natAbs : Int) < P (m + n) := by
  rw [Int.natAbs_mul, P_add, Int.natCast_mul]
  exact mul_lt2 (by omega) (P_pos n) ha hb
theorem mul_lt_P {a b : Int} {m n : Nat} (ha0 : 0 ≤ a) (hb0 : 0 ≤ b) (ha : a < P m) (hb : b < P n) : a * b < P (m + n) := by
  rw [P_add]
  exact mul_lt2 ha0 (P_pos n) ha hb
theorem two_P {m : Nat} : 2 * P m ≤ P (m + 1) := by rw [P_succ]; have := P_pos m; omega
theorem den_pos' (q : Rat) : 0 < (q.den : Int) := by have := q.den_pos; omega
theorem fit_add {m n : Nat} {a b : Rat} (ha : Fit m a) (hb : Fit n b) : Fit (m + n + 1) (a + b) := by
  rw [← Rat.num_divInt_den a, ← Rat.num_divInt_den b, Rat.divInt_add_divInt _ _ (by have := a.den_nz; omega) (by have := b.den_nz; omega)]
  have h1 := natAbs_mul_lt ha.1 (show ((b.den : Int).natAbs : Int) < P n by have := hb.2; omega)
  have h2 := natAbs_mul_lt hb.1 (show ((a.den : Int).natAbs : Int) < P m by have := ha.2; omega)
  rw [Nat.add_comm n m] at h2
  have h3 := @two_P (m + n)
  refine fit_div (Int.mul_pos (den_pos' a) (den_pos' b)) ?_ ?_
  · have := Int.natAbs_add_le (a.num * (b.den : Int)) (b.num * (a.den : Int))
    omega
  · have := mul_lt_P (by omega) (by omega) ha.2 hb.2
    have := P_pos (m + n)
    omega
theorem fit_mul {m n : Nat} {a b : Rat} (ha : Fit m a) (hb : Fit n b) : Fit (m + n) (a * b) := by
  rw [← Rat.num_divInt_den a, ← Rat.num_divInt_den b, Rat.divInt_mul_divInt]
  exact fit_div (Int.mul_pos (den_pos' a) (den_pos' b)) (natAbs_mul_lt ha.1 hb.1) (mul_lt_P (by omega) (by omega) ha.2 hb.2)
theorem fit_neg {m : Nat} {a : Rat} (ha : Fit m a) : Fit m (-a) := by
  unfold Fit at *
  rw [Rat.neg_num, Rat.neg_den, Int.natAbs_neg]; exact ha
theorem fit_sub {m n : Nat} {a b : Rat} (ha : Fit m a) (hb : Fit n b) : Fit (m + n + 1) (a - b) := by
  rw [Rat.sub_eq_add_neg]; exact fit_add ha (fit_neg hb)
theorem fit_inv {m : Nat} {a : Rat} (ha : Fit m a) (hm : 0 < m) : Fit m a⁻¹ := by
  unfold Fit at *
  have h1 := P_le (show 1 ≤ m from hm)
  rw [P_one] at h1
  rw [Rat.num_inv, Rat.den_inv]
  constructor
  · rw [Int.natAbs_mul]
    have h2 : a.num.sign.natAbs ≤ 1 := by rw [Int.natAbs_sign]; split <;> omega
    have h3 : a.num.sign.natAbs * (a.den : Int).natAbs ≤ 1 * (a.den : Int).natAbs := Nat.mul_le_mul_right _ h2
    have := ha.2
    omega
  · split
    · omega
    · exact ha.1
theorem fit_int {m : Nat} {z : Int} (h : (z.natAbs : Int) < P m) (hm : 0 < m) : Fit m (z : Rat) := by
  have h1 := P_le (show 1 ≤ m from hm)
  rw [P_one] at h1
  exact ⟨h, by rw [Rat.den_intCast]; omega⟩
theorem rv_fit {neg : Bool} {mag den : List Int} {m : Nat} (hm : U32 mag) (hd : U32 den) (h1 : mag.length ≤ m) (h2 : den.length ≤ m) (hp : 0 < m) : Fit m (rv neg mag den) := by
  unfold rv
  by_cases h0 : nv den = 0
  · rw [h0, Rat.divInt_zero]
    have h1 := P_le (show 1 ≤ m from hp)
    rw [P_one] at h1
    exact ⟨by simp; omega, by simp; omega⟩
  · have a1 := nv_lt hm
    have a2 := nv_lt hd
    have a3 := P_le h1
    have a4 := P_le h2
    have a5 := nv_nonneg hd
    exact fit_div (by omega) (by rw [iv_natAbs hm]; omega) (by omega)
end NumA
/-! Plain law of chapter 30: the greatest value of a linear function over a balanced box, by giving first to the greatest factors. No program in sight. -/
namespace NumA
set_option linter.unusedVariables false
abbrev Mp := List (Int × Int)
def Mp.get (k : Int) : Mp → Int
  | [] => 0
  | (a, v) :: l => if k = a then v else Mp.get k l
def Mp.set (k v : Int) : Mp → Mp
  | [] => [(k, v)]
  | (a, u) :: l => if k = a then (a, v) :: l else (a, u) :: Mp.set k v l
theorem Mp.get_set (k v j : Int) : ∀ m : Mp, Mp.get j (Mp.set k v m) = if j = k then v else Mp.get j m
  | [] => by simp [Mp.set, Mp.get]
  | (a, u) :: l => by
    unfold Mp.set
    by_cases h : k = a
    · subst h
      simp only [if_true, Mp.get]
      split <;> rfl
    · simp only [h, if_false, Mp.get]
      rw [Mp.get_set k v j l]
      by_cases h1 : j = a
      · subst h1; simp only [if_true, if_neg (Ne.symm h)]
      · simp only [h1, if_false]
theorem Mp.zero_iff (m : Mp) (hd : (m.map (·.1)).Nodup) : (m.all fun e => e.2 == 0) = true ↔ ∀ k, Mp.get k m = 0 := by
  induction m with
  | nil => simp [Mp.get]
  | cons e l ih =>
    obtain ⟨a, u⟩ := e
    simp only [List.map_cons, List.nodup_cons] at hd
    have ih := ih hd.2
    have hg : Mp.get a l = 0 := by
      have : ∀ l : Mp, a ∉ l.map (·.1) → Mp.get a l = 0 := by
        intro l
        induction l with
        | nil => intro _; rfl
        | cons e l ih =>
          obtain ⟨b, v⟩ := e
          intro h
          simp only [List.map_cons, List.mem_cons, not_or] at h
          simp only [Mp.get, if_neg h.1]
          exact ih h.2
      exact this l hd.1
    simp only [List.all_cons, Bool.and_eq_true, beq_iff_eq]
    rw [ih]
    constructor
    · rintro ⟨h1, h2⟩ k
      simp only [Mp.get]
      split
      · exact h1
      · exact h2 k
    · intro h
      refine ⟨by simpa [Mp.get] using h a, fun k => ?_⟩
      have := h k
      simp only [Mp.get] at this
      by_cases hk : k = a
      · subst hk; exact hg
      · rwa [if_neg hk] at this
theorem Mp.set_keys (k v : Int) : ∀ m : Mp, (m.map (·.1)).Nodup → ((Mp.set k v m).map (·.1)).Nodup ∧ ∀ j, j ∈ (Mp.set k v m).map (·.1) ↔ j = k ∨ j ∈ m.map (·.1)
  | [], _ => by simp [Mp.set]
  | (a, u) :: l, h => by
    simp only [List.map_cons, List.nodup_cons] at h
    obtain ⟨i1, i2⟩ := Mp.set_keys k v l h.2
    unfold Mp.set
    by_cases hk : k = a
    · subst hk
      simp only [if_true, List.map_cons, List.nodup_cons, List.mem_cons]
      exact ⟨h, fun j => by constructor <;> intro hj <;> simp_all⟩
    · simp only [hk, if_false, List.map_cons, List.nodup_cons, List.mem_cons]
      refine ⟨⟨fun hm => ?_, i1⟩, fun j => ?_⟩
      · rcases (i2 a).1 hm with e | e
        · exact hk e.symm
        · exact h.1 e
      · rw [i2 j]
        constructor
        · rintro (e | e | e)
          · exact .inr (.inl e)
          · exact .inl e
          · exact .inr (.inr e)
        · rintro (e | e | e)
          · exact .inr (.inl e)
          · exact .inl e
          · exact .inr (.inr e)

/-- Sums. -/
def sumQ : Nat → (Nat → Rat) → Rat
  | 0, _ => 0
  | n + 1, f => sumQ n f + f n
def sumZ : Nat → (Nat → Int) → Int
  | 0, _ => 0
  | n + 1, f => sumZ n f + f n
theorem sumQ_congr {n : Nat} {f g : Nat → Rat} (h : ∀ i, i < n → f i = g i) : sumQ n f = sumQ n g := by
  induction n with
  | zero => rfl
  | succ n ih => simp only [sumQ]; rw [ih fun i hi => h i (by omega), h n (by omega)]
theorem sumZ_congr {n : Nat} {f g : Nat → Int} (h : ∀ i, i < n → f i = g i) : sumZ n f = sumZ n g := by
  induction n with
  | zero => rfl
  | succ n ih => simp only [sumZ]; rw [ih fun i hi => h i (by omega), h n (by omega)]
theorem sumQ_add (n : Nat) (f g : Nat → Rat) : sumQ n (fun i => f i + g i) = sumQ n f + sumQ n g := by
  induction n with
  | zero => simp only [sumQ]; grind
  | succ n ih => simp only [sumQ]; rw [ih]; grind
theorem sumZ_add (n : Nat) (f g : Nat → Int) : sumZ n (fun i => f i + g i) = sumZ n f + sumZ n g := by
  induction n with
  | zero => simp [sumZ]
  | succ n ih => simp only [sumZ]; rw [ih]; omega
theorem sumQ_mul (n : Nat) (c : Rat) (f : Nat → Rat) : sumQ n (fun i => c * f i) = c * sumQ n f := by
  induction n with
  | zero => simp [sumQ]
  | succ n ih => simp only [sumQ]; rw [ih]; grind
theorem sumQ_int (n : Nat) (f : Nat → Int) : sumQ n (fun i => (f i : Rat)) = ((sumZ n f : Int) : Rat) := by
  induction n with
  | zero => rfl
  | succ n ih => simp only [sumQ, sumZ]; rw [ih, Rat.intCast_add]
theorem sumQ_le {n : Nat} {f g : Nat → Rat} (h : ∀ i, i < n → f i ≤ g i) : sumQ n f ≤ sumQ n g := by
  induction n with
  | zero => exact Rat.le_refl
  | succ n ih => simp only [sumQ]; have h1 := ih fun i hi => h i (by omega); have h2 := h n (by omega); grind
theorem sumZ_le {n : Nat} {f g : Nat → Int} (h : ∀ i, i < n → f i ≤ g i) : sumZ n f ≤ sumZ n g := by
  induction n with
  | zero => exact Int.le_refl _
  | succ n ih => simp only [sumZ]; have h1 := ih fun i hi => h i (by omega); have h2 := h n (by omega); omega
theorem sumZ_zero (n : Nat) : sumZ n (fun _ => 0) = 0 := by
  induction n with
  | zero => rfl
  | succ n ih => simp only [sumZ, ih]; rfl
theorem sumQ_zero (n : Nat) : sumQ n (fun _ => 0) = 0 := by
  induction n with
  | zero => rfl
  | succ n ih => simp only [sumQ, ih]; grind
/-- One term turned. -/
theorem sumZ_upd {n j : Nat} (hj : j < n) (f g : Nat → Int) (h : ∀ i, i < n → i ≠ j → g i = f i) : sumZ n g = sumZ n f + (g j - f j) := by
  induction n with
  | zero => omega
  | succ n ih =>
    simp only [sumZ]
    by_cases e : j = n
    · subst e
      rw [sumZ_congr (f := g) (g := f) fun i hi => h i (by omega) (by omega)]; omega
    · rw [ih (by omega) fun i hi hne => h i (by omega) hne, h n (by omega) (Ne.symm e)]; omega
theorem sumQ_upd {n j : Nat} (hj : j < n) (f g : Nat → Rat) (h : ∀ i, i < n → i ≠ j → g i = f i) : sumQ n g = sumQ n f + (g j - f j) := by
  induction n with
  | zero => omega
  | succ n ih =>
    simp only [sumQ]
    by_cases e : j = n
    · subst e
      rw [sumQ_congr (f := g) (g := f) fun i hi => h i (by omega) (by omega)]; grind
    · rw [ih (by omega) fun i hi hne => h i (by omega) hne, h n (by omega) (Ne.symm e)]; grind

section
variable (isl : Nat → Int) (n : Nat)
/-- Its island came before. -/
def seen (i j : Nat) : Bool := decide (∃ l, l < i ∧ isl l = isl j)
/-- The sum over an island. -/
def islZ (k : Int) (f : Nat → Int) : Int := sumZ n fun j => if isl j = k then f j else 0
def islQ (k : Int) (f : Nat → Rat) : Rat := sumQ n fun j => if isl j = k then f j else 0
def seenQ (i : Nat) (f : Nat → Rat) : Rat := sumQ n fun j => if seen isl i j then f j else 0
theorem seen_succ (i j : Nat) : seen isl (i + 1) j = (seen isl i j || decide (isl i = isl j)) := by
  unfold seen
  rw [Bool.eq_iff_iff]
  simp only [decide_eq_true_eq, Bool.or_eq_true]
  constructor
  · rintro ⟨l, h1, h2⟩
    by_cases e : l = i
    · subst e; exact .inr h2
    · exact .inl ⟨l, by omega, h2⟩
  · rintro (⟨l, h1, h2⟩ | h)
    · exact ⟨l, by omega, h2⟩
    · exact ⟨i, by omega, h⟩
theorem seen_isl {i j k : Nat} (h : isl j = isl k) : seen isl i j = seen isl i k := by unfold seen; rw [h]
theorem seenQ_zero (f : Nat → Rat) : seenQ isl n 0 f = 0 := by
  unfold seenQ
  refine (sumQ_congr fun i hi => ?_).trans (sumQ_zero n)
  simp [seen]
theorem seenQ_all (f : Nat → Rat) : seenQ isl n n f = sumQ n f := by
  unfold seenQ
  refine sumQ_congr fun i hi => ?_
  rw [if_pos]
  simp only [seen, decide_eq_true_eq]
  exact ⟨i, hi, rfl⟩
theorem seenQ_old (i : Nat) (f : Nat → Rat) (h : seen isl i i = true) : seenQ isl n (i + 1) f = seenQ isl n i f := by
  unfold seenQ
  refine sumQ_congr fun j hj => ?_
  rw [seen_succ]
  by_cases e : isl i = isl j
  · have := (seen_isl isl (i := i) e).symm.trans h
    simp [this]
  · simp [e]
theorem seenQ_new (i : Nat) (f : Nat → Rat) (h : seen isl i i = false) : seenQ isl n (i + 1) f = seenQ isl n i f + islQ isl n (isl i) f := by
  unfold seenQ islQ
  rw [← sumQ_add]
  refine sumQ_congr fun j hj => ?_
  rw [seen_succ]
  by_cases e : isl i = isl j
  · have := (seen_isl isl (i := i) e).symm.trans h
    simp [this, e]; grind
  · have e' : ¬ isl j = isl i := fun x => e x.symm
    simp [e, e']; grind
theorem by_islands {f : Nat → Rat} (h : ∀ i, i < n → islQ isl n (isl i) f = 0) : sumQ n f = 0 := by
  rw [← seenQ_all isl n f]
  have : ∀ i, i ≤ n → seenQ isl n i f = 0 := by
    intro i
    induction i with
    | zero => intro _; exact seenQ_zero isl n f
    | succ i ih =>
      intro hi
      cases hs : seen isl i i with
      | true => rw [seenQ_old isl n i f hs, ih (by omega)]
      | false => rw [seenQ_new isl n i f hs, ih (by omega), h i (by omega)]; grind
  exact this n (Nat.le_refl n)
end

section
variable (t : Nat → Rat) (lo hi isl : Nat → Int) (n : Nat)
/-- In the box, and balanced. -/
structure Feas (y : Nat → Int) : Prop where
  lo : ∀ i, i < n → lo i ≤ y i
  hi : ∀ i, i < n → y i ≤ hi i
  bal : ∀ i, i < n → islZ isl n (isl i) y = 0
/-- What is at a threshold of each island. -/
def Opt (x : Nat → Int) : Prop := ∃ τ : Int → Rat, ∀ i, i < n → (τ (isl i) < t i → x i = hi i) ∧ (t i < τ (isl i) → x i = lo i)
def valQ (x : Nat → Int) : Rat := sumQ n fun i => t i * (x i : Rat)
theorem opt_le {x y : Nat → Int} (hx : Feas lo hi isl n x) (ho : Opt t lo hi isl n x) (hy : Feas lo hi isl n y) : valQ t n y ≤ valQ t n x := by
  obtain ⟨τ, ho⟩ := ho
  have h1 : sumQ n (fun i => t i * (y i : Rat) + (- τ (isl i) * (y i : Rat) + τ (isl i) * (x i : Rat))) ≤ sumQ n (fun i => t i * (x i : Rat)) := by
    refine sumQ_le fun i hi' => ?_
    obtain ⟨o1, o2⟩ := ho i hi'
    have e1 : (lo i : Rat) ≤ (y i : Rat) := Rat.intCast_le_intCast.2 (hy.lo i hi')
    have e2 : (y i : Rat) ≤ (hi i : Rat) := Rat.intCast_le_intCast.2 (hy.hi i hi')
    by_cases c1 : τ (isl i) < t i
    · rw [o1 c1]
      have := Rat.mul_le_mul_of_nonneg_left e2 (show 0 ≤ t i - τ (isl i) by grind)
      grind
    · by_cases c2 : t i < τ (isl i)
      · rw [o2 c2]
        have := Rat.mul_le_mul_of_nonneg_left e1 (show 0 ≤ τ (isl i) - t i by grind)
        grind
      · have : t i = τ (isl i) := by grind
        rw [this]; grind
  rw [sumQ_add] at h1
  have h2 : sumQ n (fun i => - τ (isl i) * (y i : Rat) + τ (isl i) * (x i : Rat)) = 0 := by
    refine by_islands isl n fun i hi' => ?_
    have b1 := hx.bal i hi'
    have b2 := hy.bal i hi'
    unfold islQ
    have e : sumQ n (fun j => if isl j = isl i then - τ (isl j) * (y j : Rat) + τ (isl j) * (x j : Rat) else 0) = τ (isl i) * sumQ n (fun j => (((if isl j = isl i then x j else 0) + (if isl j = isl i then - y j else 0) : Int) : Rat)) := by
      rw [← sumQ_mul]
      refine sumQ_congr fun j hj => ?_
      by_cases c : isl j = isl i
      · simp only [c, if_true]; rw [Rat.intCast_add, Rat.intCast_neg]; grind
      · simp only [c, if_false]; simp
    rw [e, sumQ_int, sumZ_add]
    have b3 : sumZ n (fun j => if isl j = isl i then - y j else 0) = - islZ isl n (isl i) y := by
      have : sumZ n (fun j => (if isl j = isl i then y j else 0) + (if isl j = isl i then - y j else 0)) = 0 := by
        refine (sumZ_congr fun j hj => ?_).trans (sumZ_zero n); split <;> omega
      rw [sumZ_add] at this
      unfold islZ; omega
    have b4 : sumZ n (fun j => if isl j = isl i then x j else 0) = islZ isl n (isl i) x := rfl
    rw [b3, b4, b1, b2]
    simp
  rw [h2] at h1
  unfold valQ
  grind
theorem opt_unique {x y : Nat → Int} (hx : Feas lo hi isl n x) (ho : Opt t lo hi isl n x) (hy : Feas lo hi isl n y) (ho' : Opt t lo hi isl n y) : valQ t n x = valQ t n y :=
  Rat.le_antisymm (opt_le t lo hi isl n hy ho' hx) (opt_le t lo hi isl n hx ho hy)
end
end NumA
/-! Plain law of chapter 30: the program's and the reference's way to the greatest value. No program in sight. -/
namespace NumA
set_option linter.unusedVariables false
section
variable (t : Nat → Rat) (lo hi isl : Nat → Int)
/-- The program's: first the least values; then what is missing, in an order. -/
def gA : Nat → Nat → Mp → Rat → Option (Mp × Rat)
  | 0, _, m, q => some (m, q)
  | k + 1, i, m, q => if hi i < lo i then none else gA k (i + 1) (Mp.set (isl i) (Mp.get (isl i) m - lo i) m) (q + t i * (lo i : Rat))
def gN (i : Nat) (m : Mp) : Int := min (Mp.get (isl i) m) (hi i - lo i)
def gB : List Nat → Mp → Rat → Option (Mp × Rat)
  | [], m, q => some (m, q)
  | i :: r, m, q => if gN lo hi isl i m < 0 then none else gB r (Mp.set (isl i) (Mp.get (isl i) m - gN lo hi isl i m) m) (q + t i * (gN lo hi isl i m : Rat))
def gE : Option (Mp × Rat) → Option Rat
  | none => none
  | some (m, q) => if (m.all fun e => e.2 == 0) = true then some q else none
def gP (n : Nat) (ord : List Nat) : Option Rat :=
  match gA t lo hi isl n 0 [] 0 with
  | none => none
  | some (m, q) => gE (gB t lo hi isl ord m q)
end

theorem islZ_succ (isl : Nat → Int) (n : Nat) (k : Int) (f : Nat → Int) : islZ isl (n + 1) k f = islZ isl n k f + (if isl n = k then f n else 0) := rfl
theorem gA_spec (t : Nat → Rat) (lo hi isl : Nat → Int) : ∀ (k i : Nat) (m : Mp) (q : Rat), (m.map (·.1)).Nodup → (∀ j, Mp.get j m = - islZ isl i j lo) → q = valQ t i lo →
    (gA t lo hi isl k i m q = none → ∃ j, j < i + k ∧ hi j < lo j) ∧
    (∀ m' q', gA t lo hi isl k i m q = some (m', q') → (∀ j, i ≤ j → j < i + k → lo j ≤ hi j) ∧ (m'.map (·.1)).Nodup ∧ (∀ j, Mp.get j m' = - islZ isl (i + k) j lo) ∧ q' = valQ t (i + k) lo)
  | 0, i, m, q, hd, h1, h2 => by
    refine ⟨fun h => (by cases h), fun m' q' h => ?_⟩
    simp only [gA, Option.some.injEq, Prod.mk.injEq] at h
    obtain ⟨rfl, rfl⟩ := h
    exact ⟨fun j h3 h4 => by omega, hd, h1, h2⟩
  | k + 1, i, m, q, hd, h1, h2 => by
    have hs := Mp.set_keys (isl i) (Mp.get (isl i) m - lo i) m hd
    obtain ⟨g1, g2⟩ := gA_spec t lo hi isl k (i + 1) (Mp.set (isl i) (Mp.get (isl i) m - lo i) m) (q + t i * (lo i : Rat)) hs.1 (fun j => by
      rw [Mp.get_set, islZ_succ]
      by_cases e : j = isl i
      · subst e; rw [if_pos rfl, if_pos rfl, h1]; omega
      · rw [if_neg e, if_neg (fun x => e x.symm), h1]; omega) (by subst h2; rfl)
    simp only [gA]
    rw [show i + (k + 1) = i + 1 + k by omega]
    by_cases hc : hi i < lo i
    · simp only [hc, if_true]
      exact ⟨fun _ => ⟨i, by omega, hc⟩, fun m' q' h => by cases h⟩
    · simp only [hc, if_false]
      refine ⟨g1, fun m' q' h => ?_⟩
      obtain ⟨a1, a2, a3, a4⟩ := g2 m' q' h
      refine ⟨fun j b1 b2 => ?_, a2, a3, a4⟩
      by_cases e : j = i
      · subst e; omega
      · exact a1 j (by omega) (by omega)

def upd (x : Nat → Int) (i : Nat) (v : Int) (j : Nat) : Int := if j = i then v else x j
theorem islZ_upd {isl : Nat → Int} {n i : Nat} (hi : i < n) (k : Int) (x : Nat → Int) (v : Int) : islZ isl n k (upd x i v) = islZ isl n k x + (if isl i = k then v - x i else 0) := by
  unfold islZ
  rw [sumZ_upd hi (fun j => if isl j = k then x j else 0) (fun j => if isl j = k then upd x i v j else 0) (fun j _ hne => by simp only [upd, if_neg hne])]
  simp only [upd, if_true]
  split <;> omega
theorem valQ_upd {t : Nat → Rat} {n i : Nat} (hi : i < n) (x : Nat → Int) (v : Int) : valQ t n (upd x i v) = valQ t n x + t i * ((v - x i : Int) : Rat) := by
  unfold valQ
  rw [sumQ_upd hi (fun j => t j * (x j : Rat)) (fun j => t j * (upd x i v j : Rat)) (fun j _ hne => by simp only [upd, if_neg hne])]
  simp only [upd, if_true]
  rw [Rat.intCast_sub]; grind
theorem islQ_upd {t : Nat → Rat} {isl : Nat → Int} {n i : Nat} (hi : i < n) (k : Int) (hk : isl i = k) (x : Nat → Int) (v : Int) : islQ isl n k (fun j => t j * (upd x i v j : Rat)) = islQ isl n k (fun j => t j * (x j : Rat)) + t i * ((v - x i : Int) : Rat) := by
  unfold islQ
  rw [sumQ_upd hi (fun j => if isl j = k then t j * (x j : Rat) else 0) (fun j => if isl j = k then t j * (upd x i v j : Rat) else 0) (fun j _ hne => by simp only [upd, if_neg hne])]
  simp only [upd, if_true, hk]
  rw [Rat.intCast_sub]; grind
theorem islZ_le {isl : Nat → Int} {n : Nat} {k : Int} {x y : Nat → Int} (h : ∀ i, i < n → isl i = k → x i ≤ y i) : islZ isl n k x ≤ islZ isl n k y :=
  sumZ_le fun i hi => by
    by_cases e : isl i = k
    · rw [if_pos e, if_pos e]; exact h i hi e
    · rw [if_neg e, if_neg e]; exact Int.le_refl _
theorem islZ_mem {isl : Nat → Int} {n : Nat} {k : Int} {x : Nat → Int} (h : islZ isl n k x ≠ 0) : ∃ i, i < n ∧ isl i = k := by
  by_cases hc : ∃ i, i < n ∧ isl i = k
  · exact hc
  · exfalso; apply h
    refine (sumZ_congr fun i hi => ?_).trans (sumZ_zero n)
    rw [if_neg fun e => hc ⟨i, hi, e⟩]
theorem no_lo {lo hi isl : Nat → Int} {n : Nat} {k : Int} (h : 0 < islZ isl n k lo) : ¬ ∃ y, Feas lo hi isl n y := by
  rintro ⟨y, hy⟩
  obtain ⟨i, h1, rfl⟩ := islZ_mem (show islZ isl n k lo ≠ 0 by omega)
  have h2 := hy.bal i h1
  have h3 := islZ_le (isl := isl) (k := isl i) (fun j hj _ => hy.lo j hj)
  omega
theorem no_hi {lo hi isl : Nat → Int} {n : Nat} {k : Int} (h : islZ isl n k hi < 0) : ¬ ∃ y, Feas lo hi isl n y := by
  rintro ⟨y, hy⟩
  obtain ⟨i, h1, rfl⟩ := islZ_mem (show islZ isl n k hi ≠ 0 by omega)
  have h2 := hy.bal i h1
  have h3 := islZ_le (isl := isl) (k := isl i) (fun j hj _ => hy.hi j hj)
  omega
theorem islZ_congr {isl : Nat → Int} {n : Nat} {k : Int} {x y : Nat → Int} (h : ∀ i, i < n → isl i = k → x i = y i) : islZ isl n k x = islZ isl n k y :=
  sumZ_congr fun i hi => by
    by_cases e : isl i = k
    · rw [if_pos e, if_pos e]; exact h i hi e
    · rw [if_neg e, if_neg e]

/-- An island on the way: more is missing and what was given is full; or nothing is; or too much was given from the start. -/
def StB (t : Nat → Rat) (lo hi isl : Nat → Int) (n : Nat) (r : List Nat) (x : Nat → Int) (k mk : Int) : Prop :=
  (0 < mk ∧ ∀ i, i < n → isl i = k → i ∉ r → x i = hi i) ∨
  (mk = 0 ∧ ∃ τ : Rat, ∀ i, i < n → isl i = k → (i ∈ r → t i ≤ τ) ∧ (i ∉ r → (τ < t i → x i = hi i) ∧ (t i < τ → x i = lo i))) ∨
  (mk < 0 ∧ ∀ i, i < n → isl i = k → i ∈ r)
structure InvB (t : Nat → Rat) (lo hi isl : Nat → Int) (n : Nat) (r : List Nat) (x : Nat → Int) (m : Mp) (q : Rat) : Prop where
  box : ∀ i, i < n → lo i ≤ x i ∧ x i ≤ hi i
  un : ∀ i, i ∈ r → i < n ∧ x i = lo i
  nd : r.Nodup
  mnd : (m.map (·.1)).Nodup
  mis : ∀ k, Mp.get k m = - islZ isl n k x
  val : q = valQ t n x
  srt : r.Pairwise fun a b => t b ≤ t a
  old : ∀ a, a < n → a ∉ r → ∀ b, b ∈ r → t b ≤ t a
  st : ∀ k, StB t lo hi isl n r x k (Mp.get k m)
theorem gB_spec {t : Nat → Rat} {lo hi isl : Nat → Int} {n : Nat} : ∀ (r : List Nat) (x : Nat → Int) (m : Mp) (q : Rat), InvB t lo hi isl n r x m q →
    (gE (gB t lo hi isl r m q) = none → ¬ ∃ y, Feas lo hi isl n y) ∧ (∀ v, gE (gB t lo hi isl r m q) = some v → ∃ y, Feas lo hi isl n y ∧ Opt t lo hi isl n y ∧ v = valQ t n y)
  | [], x, m, q, h => by
    simp only [gB, gE]
    by_cases hz : (m.all fun e => e.2 == 0) = true
    · rw [if_pos hz]
      refine ⟨fun e => (by cases e), fun v hv => ?_⟩
      simp only [Option.some.injEq] at hv
      subst hv
      have hz' := (Mp.zero_iff m h.mnd).1 hz
      refine ⟨x, ⟨fun i hi' => (h.box i hi').1, fun i hi' => (h.box i hi').2, fun i hi' => by have := h.mis (isl i); have := hz' (isl i); omega⟩, ?_, h.val⟩
      have key : ∀ k, ∃ τ : Rat, ∀ i, i < n → isl i = k → (τ < t i → x i = hi i) ∧ (t i < τ → x i = lo i) := by
        intro k
        rcases h.st k with ⟨h1, _⟩ | ⟨_, τ, h2⟩ | ⟨h1, _⟩
        · have := hz' k; omega
        · exact ⟨τ, fun i a b => (h2 i a b).2 (by simp)⟩
        · have := hz' k; omega
      exact ⟨fun k => (key k).choose, fun i hi' => (key (isl i)).choose_spec i hi' rfl⟩
    · rw [if_neg hz]
      refine ⟨fun _ => ?_, fun v hv => by cases hv⟩
      have hz' : ∃ k, Mp.get k m ≠ 0 := by
        by_cases hc : ∃ k, Mp.get k m ≠ 0
        · exact hc
        · exact absurd ((Mp.zero_iff m h.mnd).2 fun k => by
            by_cases e : Mp.get k m = 0
            · exact e
            · exact absurd ⟨k, e⟩ hc) hz
      obtain ⟨k, hk⟩ := hz'
      have hm := h.mis k
      rcases h.st k with ⟨h1, h2⟩ | ⟨h1, _⟩ | ⟨h1, h2⟩
      · refine no_hi (k := k) ?_
        rw [← islZ_congr (x := x) fun i a b => h2 i a b (by simp)]; omega
      · exact absurd h1 hk
      · obtain ⟨i, a, b⟩ := islZ_mem (isl := isl) (n := n) (k := k) (x := x) (by omega)
        have := h2 i a b
        cases this
  | i :: r, x, m, q, h => by
    obtain ⟨hin, hxi⟩ := h.un i (by simp)
    have hnd := h.nd
    rw [List.nodup_cons] at hnd
    have hsrt := h.srt
    rw [List.pairwise_cons] at hsrt
    have hbi := h.box i hin
    have hcap : 0 ≤ hi i - lo i := by omega
    have hne : ∀ j, j ≠ i → (j ∈ i :: r ↔ j ∈ r) := fun j hj => by simp [hj]
    simp only [gB]
    -- the other islands
    have other : ∀ (x' : Nat → Int) (k mk : Int), (∀ j, j ≠ i → x' j = x j) → isl i ≠ k → StB t lo hi isl n (i :: r) x k mk → StB t lo hi isl n r x' k mk := by
      intro x' k mk hx hk hst
      have hji : ∀ j, isl j = k → j ≠ i := fun j hj e => hk (e ▸ hj)
      rcases hst with ⟨h1, h2⟩ | ⟨h1, τ, h2⟩ | ⟨h1, h2⟩
      · exact .inl ⟨h1, fun j a b c => by rw [hx j (hji j b)]; exact h2 j a b fun e => c ((hne j (hji j b)).1 e)⟩
      · refine .inr (.inl ⟨h1, τ, fun j a b => ?_⟩)
        have := h2 j a b
        rw [hne j (hji j b)] at this
        rw [hx j (hji j b)]; exact this
      · exact .inr (.inr ⟨h1, fun j a b => (hne j (hji j b)).1 (h2 j a b)⟩)
    rcases h.st (isl i) with ⟨h1, h2⟩ | ⟨h1, τ, h2⟩ | ⟨h1, h2⟩
    · -- something is missing
      have hg : 0 ≤ gN lo hi isl i m := by unfold gN; omega
      rw [if_neg (by omega)]
      refine gB_spec r (upd x i (lo i + gN lo hi isl i m)) _ _ ?_
      have hle : gN lo hi isl i m ≤ Mp.get (isl i) m ∧ gN lo hi isl i m ≤ hi i - lo i := by unfold gN; omega
      have hor : gN lo hi isl i m = Mp.get (isl i) m ∨ gN lo hi isl i m = hi i - lo i := by unfold gN; omega
      generalize gN lo hi isl i m = d at hg hle hor
      have hux : ∀ j, j ≠ i → upd x i (lo i + d) j = x j := fun j hj => by simp only [upd, if_neg hj]
      have hui : upd x i (lo i + d) i = lo i + d := by simp only [upd, if_true]
      refine ⟨fun j hj => ?_, fun j hj => ?_, hnd.2, (Mp.set_keys _ _ m h.mnd).1, fun k => ?_, ?_, hsrt.2, fun a ha hna b hb => ?_, fun k => ?_⟩
      · by_cases e : j = i
        · subst e; rw [hui]; omega
        · rw [hux j e]; exact h.box j hj
      · have := h.un j (by simp [hj])
        rw [hux j fun e => hnd.1 (e ▸ hj)]; exact this
      · rw [Mp.get_set, islZ_upd hin]
        have hk := h.mis k
        by_cases e : k = isl i
        · subst e; rw [if_pos rfl, if_pos rfl, hxi]; omega
        · rw [if_neg e, if_neg fun x => e x.symm]; omega
      · rw [valQ_upd hin, h.val, hxi]
        congr 3; omega
      · by_cases e : a = i
        · subst e; exact hsrt.1 b hb
        · exact h.old a ha (fun hm => hna ((hne a e).1 hm)) b (by simp [hb])
      · rw [Mp.get_set]
        by_cases e : k = isl i
        · subst e
          rw [if_pos rfl]
          rcases Int.lt_or_eq_of_le (show d ≤ Mp.get (isl i) m from hle.1) with hlt | heq
          · refine .inl ⟨by omega, fun j a b c => ?_⟩
            by_cases e : j = i
            · subst e; rw [hui]; omega
            · rw [hux j e]; exact h2 j a b fun hm => c ((hne j e).1 hm)
          · refine .inr (.inl ⟨by omega, t i, fun j a b => ?_⟩)
            by_cases e : j = i
            · subst e
              exact ⟨fun _ => Rat.le_refl, fun _ => ⟨fun hlt => absurd hlt Rat.lt_irrefl, fun hlt => absurd hlt Rat.lt_irrefl⟩⟩
            · refine ⟨fun hm => hsrt.1 j hm, fun hm => ?_⟩
              have hm' : j ∉ i :: r := fun x => hm ((hne j e).1 x)
              rw [hux j e]
              refine ⟨fun _ => h2 j a b hm', fun hlt => ?_⟩
              exact absurd (h.old j a hm' i (by simp)) (Rat.not_le.2 hlt)
        · rw [if_neg e]
          exact other _ k _ hux (fun x => e x.symm) (h.st k)
    · -- nothing is
      have hg : gN lo hi isl i m = 0 := by unfold gN; omega
      rw [hg]
      rw [if_neg (by omega)]
      refine gB_spec r x _ _ ?_
      refine ⟨h.box, fun j hj => h.un j (by simp [hj]), hnd.2, (Mp.set_keys _ _ m h.mnd).1, fun k => ?_, ?_, hsrt.2, fun a ha hna b hb => ?_, fun k => ?_⟩
      · rw [Mp.get_set]
        split
        · rename_i e; subst e; have := h.mis (isl i); omega
        · exact h.mis k
      · rw [h.val]; grind
      · by_cases e : a = i
        · subst e; exact hsrt.1 b hb
        · exact h.old a ha (fun hm => hna ((hne a e).1 hm)) b (by simp [hb])
      · rw [Mp.get_set]
        by_cases e : k = isl i
        · subst e
          rw [if_pos rfl]
          refine .inr (.inl ⟨by omega, τ, fun j a b => ?_⟩)
          have h3 := h2 j a b
          by_cases e : j = i
          · subst e
            have h4 := h3.1 (by simp)
            exact ⟨fun hm => absurd hm hnd.1, fun _ => ⟨fun hlt => absurd h4 (Rat.not_le.2 hlt), fun _ => hxi⟩⟩
          · rw [hne j e] at h3; exact h3
        · rw [if_neg e]
          exact other x k _ (fun _ _ => rfl) (fun x => e x.symm) (h.st k)
    · have hg : gN lo hi isl i m < 0 := by unfold gN; omega
      rw [if_pos hg]
      refine ⟨fun _ => ?_, fun v hv => by cases hv⟩
      refine no_lo (k := isl i) ?_
      rw [← islZ_congr (x := x) fun j a b => (h.un j (h2 j a b)).2]
      have := h.mis (isl i)
      omega

theorem bound_ex (t : Nat → Rat) : ∀ n : Nat, ∃ B : Rat, ∀ i, i < n → t i ≤ B
  | 0 => ⟨0, fun i h => by omega⟩
  | n + 1 => by
    obtain ⟨B, hB⟩ := bound_ex t n
    by_cases h : t n ≤ B
    · exact ⟨B, fun i hi => by
        by_cases e : i = n
        · subst e; exact h
        · exact hB i (by omega)⟩
    · refine ⟨t n, fun i hi => ?_⟩
      by_cases e : i = n
      · subst e; exact Rat.le_refl
      · have := hB i (by omega); grind
theorem gP_spec {t : Nat → Rat} {lo hi isl : Nat → Int} {n : Nat} {ord : List Nat} (hp : ord.Perm (List.range n)) (hs : ord.Pairwise fun a b => t b ≤ t a) :
    (gP t lo hi isl n ord = none → ¬ ∃ y, Feas lo hi isl n y) ∧ (∀ v, gP t lo hi isl n ord = some v → ∃ y, Feas lo hi isl n y ∧ Opt t lo hi isl n y ∧ v = valQ t n y) := by
  obtain ⟨g1, g2⟩ := gA_spec t lo hi isl n 0 [] 0 (by simp) (fun j => rfl) rfl
  rw [Nat.zero_add] at g1 g2
  unfold gP
  cases ha : gA t lo hi isl n 0 [] 0 with
  | none =>
    simp only
    obtain ⟨j, h1, h2⟩ := g1 ha
    refine ⟨fun _ => ?_, fun v hv => by cases hv⟩
    rintro ⟨y, hy⟩
    have := hy.lo j h1; have := hy.hi j h1; omega
  | some p =>
    obtain ⟨m, q⟩ := p
    obtain ⟨a1, a2, a3, a4⟩ := g2 m q ha
    simp only
    obtain ⟨B, hB⟩ := bound_ex t n
    have hmem : ∀ i, i ∈ ord ↔ i < n := fun i => by rw [hp.mem_iff, List.mem_range]
    refine gB_spec ord lo m q ⟨fun i hi' => ⟨Int.le_refl _, a1 i (by omega) hi'⟩, fun i hi' => ⟨(hmem i).1 hi', rfl⟩, hp.nodup_iff.2 List.nodup_range, a2, a3, a4, hs, fun a ha hna => absurd ((hmem a).2 ha) hna, fun k => ?_⟩
    rcases Int.lt_trichotomy (Mp.get k m) 0 with h | h | h
    · exact .inr (.inr ⟨h, fun i hi' _ => (hmem i).2 hi'⟩)
    · exact .inr (.inl ⟨h, B, fun i hi' _ => ⟨fun _ => hB i hi', fun hn => absurd ((hmem i).2 hi') hn⟩⟩)
    · exact .inl ⟨h, fun i hi' _ hn => absurd ((hmem i).2 hi') hn⟩
end NumA
/-! Plain law of chapter 30: the reference's way, island by island. No program in sight. -/
namespace NumA
set_option linter.unusedVariables false
section
variable (t : Nat → Rat) (lo hi isl : Nat → Int)
/-- The greatest factor among those that are not used. -/
def rBest (U : List Bool) : Nat → Option Nat
  | 0 => none
  | k + 1 =>
    match rBest U k with
    | none => if U.getD k true = true then none else some k
    | some b => if U.getD k true = true then some b else if t b < t k then some k else some b
def rA (k0 : Int) : Nat → Nat → List Bool → Rat → Int → Option (List Bool × Rat × Int)
  | 0, _, U, q, need => some (U, q, need)
  | k + 1, i, U, q, need =>
    if isl i = k0 then (if hi i < lo i then none else rA k0 k (i + 1) U (q + t i * (lo i : Rat)) (need - lo i))
    else rA k0 k (i + 1) (U.set i true) q need
def rC (n : Nat) : Nat → List Bool → Rat → Int → Option (Rat × Bool)
  | 0, _, _, _ => none
  | k + 1, U, q, need =>
    if 0 < need then
      match rBest t U n with
      | none => none
      | some b => rC n k (U.set b true) (q + t b * (min need (hi b - lo b) : Int)) (need - min need (hi b - lo b))
    else some (q, need == 0)
def rG (n : Nat) (k0 : Int) : Option (Rat × Bool) :=
  match rA t lo hi isl k0 n 0 (List.replicate n false) 0 0 with
  | none => none
  | some (U, q, need) => rC t lo hi n (n + 1) U q need
def isT : Option (Rat × Bool) → Option Rat
  | some (q, true) => some q
  | _ => none
def rX1 (n : Nat) : Nat → Nat → Rat → Option Rat
  | 0, _, mo => some mo
  | k + 1, i, mo =>
    if seen isl i i = true then rX1 n k (i + 1) mo
    else match isT (rG t lo hi isl n (isl i)) with
      | some a => rX1 n k (i + 1) (mo + a)
      | none => none
end
def rX (t t' : Nat → Rat) (lo hi isl : Nat → Int) (n : Nat) : Nat → Nat → Rat → Rat → Option (Rat × Rat)
  | 0, _, le, mo => some (le, mo)
  | k + 1, i, le, mo =>
    if seen isl i i = true then rX t t' lo hi isl n k (i + 1) le mo
    else match isT (rG t lo hi isl n (isl i)), isT (rG t' lo hi isl n (isl i)) with
      | some a, some b => rX t t' lo hi isl n k (i + 1) (le - b) (mo + a)
      | _, _ => none
theorem rX_eq (t t' : Nat → Rat) (lo hi isl : Nat → Int) (n : Nat) : ∀ (k i : Nat) (le mo : Rat), rX t t' lo hi isl n k i le mo =
    (match rX1 t lo hi isl n k i mo, rX1 t' lo hi isl n k i (-le) with
    | some a, some b => some (-b, a)
    | _, _ => none)
  | 0, i, le, mo => by simp [rX, rX1]
  | k + 1, i, le, mo => by
    simp only [rX, rX1]
    split
    · exact rX_eq t t' lo hi isl n k (i + 1) le mo
    · cases isT (rG t lo hi isl n (isl i)) with
      | none => rfl
      | some a =>
        cases isT (rG t' lo hi isl n (isl i)) with
        | none => simp only; split <;> simp_all
        | some b =>
          simp only
          rw [rX_eq t t' lo hi isl n k (i + 1) (le - b) (mo + a), show -(le - b) = -le + b by grind]

theorem rBest_spec (t : Nat → Rat) (U : List Bool) : ∀ n : Nat, (rBest t U n = none → ∀ j, j < n → U.getD j true = true) ∧ (∀ b, rBest t U n = some b → b < n ∧ U.getD b true = false ∧ ∀ j, j < n → U.getD j true = false → t j ≤ t b)
  | 0 => ⟨fun _ j h => by omega, fun b h => by cases h⟩
  | n + 1 => by
    obtain ⟨i1, i2⟩ := rBest_spec t U n
    simp only [rBest]
    cases h : rBest t U n with
    | none =>
      simp only
      have i3 := i1 h
      by_cases hu : U.getD n true = true
      · rw [if_pos hu]
        refine ⟨fun _ j hj => ?_, fun b hb => (by cases hb)⟩
        by_cases e : j = n
        · subst e; exact hu
        · exact i3 j (by omega)
      · rw [if_neg hu]
        refine ⟨fun h => (by cases h), fun b hb => ?_⟩
        simp only [Option.some.injEq] at hb
        subst hb
        refine ⟨by omega, by simpa using hu, fun j hj hju => ?_⟩
        by_cases e : j = n
        · subst e; exact Rat.le_refl
        · rw [i3 j (by omega)] at hju; cases hju
    | some b0 =>
      simp only
      obtain ⟨b1, b2, b3⟩ := i2 b0 h
      by_cases hu : U.getD n true = true
      · rw [if_pos hu]
        refine ⟨fun h => (by cases h), fun b hb => ?_⟩
        simp only [Option.some.injEq] at hb
        subst hb
        refine ⟨by omega, b2, fun j hj hju => ?_⟩
        by_cases e : j = n
        · subst e; rw [hu] at hju; cases hju
        · exact b3 j (by omega) hju
      · rw [if_neg hu]
        have hu' : U.getD n true = false := by simpa using hu
        by_cases hl : t b0 < t n
        · rw [if_pos hl]
          refine ⟨fun h => (by cases h), fun b hb => ?_⟩
          simp only [Option.some.injEq] at hb
          subst hb
          refine ⟨by omega, hu', fun j hj hju => ?_⟩
          by_cases e : j = n
          · subst e; exact Rat.le_refl
          · have := b3 j (by omega) hju; grind
        · rw [if_neg hl]
          refine ⟨fun h => (by cases h), fun b hb => ?_⟩
          simp only [Option.some.injEq] at hb
          subst hb
          refine ⟨by omega, b2, fun j hj hju => ?_⟩
          by_cases e : j = n
          · subst e; exact Rat.not_lt.1 hl
          · exact b3 j (by omega) hju

theorem islQ_succ (isl : Nat → Int) (n : Nat) (k : Int) (f : Nat → Rat) : islQ isl (n + 1) k f = islQ isl n k f + (if isl n = k then f n else 0) := rfl
/-- What is used up to i: what lies in other islands. -/
def usedTo (isl : Nat → Int) (k0 : Int) (n i : Nat) (U : List Bool) : Prop := U.length = n ∧ ∀ j, j < n → U.getD j true = (decide (j < i) && decide (isl j ≠ k0))
theorem rA_spec (t : Nat → Rat) (lo hi isl : Nat → Int) (k0 : Int) (n : Nat) : ∀ (k i : Nat) (U : List Bool) (q : Rat) (need : Int), i + k = n → usedTo isl k0 n i U → q = islQ isl i k0 (fun j => t j * (lo j : Rat)) → need = - islZ isl i k0 lo →
    (rA t lo hi isl k0 k i U q need = none → ∃ j, j < n ∧ hi j < lo j) ∧
    (∀ U' q' need', rA t lo hi isl k0 k i U q need = some (U', q', need') → (∀ j, i ≤ j → j < n → isl j = k0 → lo j ≤ hi j) ∧ usedTo isl k0 n n U' ∧ q' = islQ isl n k0 (fun j => t j * (lo j : Rat)) ∧ need' = - islZ isl n k0 lo)
  | 0, i, U, q, need, hk, hU, hq, hn => by
    have : i = n := by omega
    subst this
    refine ⟨fun h => (by cases h), fun U' q' need' h => ?_⟩
    simp only [rA, Option.some.injEq, Prod.mk.injEq] at h
    obtain ⟨rfl, rfl, rfl⟩ := h
    exact ⟨fun j a b => by omega, hU, hq, hn⟩
  | k + 1, i, U, q, need, hk, hU, hq, hn => by
    simp only [rA]
    by_cases hc : isl i = k0
    · rw [if_pos hc]
      by_cases hb : hi i < lo i
      · rw [if_pos hb]
        exact ⟨fun _ => ⟨i, by omega, hb⟩, fun U' q' need' h => (by cases h)⟩
      · rw [if_neg hb]
        obtain ⟨g1, g2⟩ := rA_spec t lo hi isl k0 n k (i + 1) U (q + t i * (lo i : Rat)) (need - lo i) (by omega) ⟨hU.1, fun j hj => by
          rw [hU.2 j hj]
          by_cases e : j = i
          · subst e; simp [hc]
          · congr 1; exact decide_eq_decide.2 (by omega)⟩ (by rw [islQ_succ, if_pos hc, hq]) (by rw [islZ_succ, if_pos hc, hn]; omega)
        refine ⟨g1, fun U' q' need' h => ?_⟩
        obtain ⟨a1, a2⟩ := g2 U' q' need' h
        refine ⟨fun j b1 b2 b3 => ?_, a2⟩
        by_cases e : j = i
        · subst e; omega
        · exact a1 j (by omega) b2 b3
    · rw [if_neg hc]
      obtain ⟨g1, g2⟩ := rA_spec t lo hi isl k0 n k (i + 1) (U.set i true) q need (by omega) ⟨by rw [List.length_set]; exact hU.1, fun j hj => by
          rw [List.getD_eq_getElem?_getD, List.getElem?_set]
          by_cases e : i = j
          · subst e; rw [if_pos rfl, if_pos (by rw [hU.1]; exact hj)]; simp [hc]
          · rw [if_neg e, ← List.getD_eq_getElem?_getD, hU.2 j hj]
            congr 1; exact decide_eq_decide.2 (by omega)⟩ (by rw [islQ_succ, if_neg hc, hq]; grind) (by rw [islZ_succ, if_neg hc, hn]; omega)
      refine ⟨g1, fun U' q' need' h => ?_⟩
      obtain ⟨a1, a2⟩ := g2 U' q' need' h
      refine ⟨fun j b1 b2 b3 => ?_, a2⟩
      by_cases e : j = i
      · subst e; exact absurd b3 hc
      · exact a1 j (by omega) b2 b3

structure InvC (t : Nat → Rat) (lo hi isl : Nat → Int) (k0 : Int) (n : Nat) (U : List Bool) (x : Nat → Int) (q : Rat) (need : Int) : Prop where
  len : U.length = n
  oth : ∀ j, j < n → isl j ≠ k0 → U.getD j true = true
  box : ∀ j, j < n → isl j = k0 → lo j ≤ x j ∧ x j ≤ hi j
  un : ∀ j, j < n → U.getD j true = false → x j = lo j
  val : q = islQ isl n k0 (fun j => t j * (x j : Rat))
  mis : need = - islZ isl n k0 x
  ord : ∀ a b, a < n → b < n → isl a = k0 → U.getD a true = true → U.getD b true = false → t b ≤ t a
  st : (0 < need ∧ ∀ j, j < n → isl j = k0 → U.getD j true = true → x j = hi j) ∨
    (need = 0 ∧ ∃ τ : Rat, ∀ j, j < n → isl j = k0 → (τ < t j → x j = hi j) ∧ (t j < τ → x j = lo j)) ∨
    (need < 0 ∧ ∀ j, j < n → isl j = k0 → x j = lo j)
/-- The island's answer. -/
def IslR (t : Nat → Rat) (lo hi isl : Nat → Int) (k0 : Int) (n : Nat) (q : Rat) : Prop :=
  ∃ x : Nat → Int, (∀ j, j < n → isl j = k0 → lo j ≤ x j ∧ x j ≤ hi j) ∧ islZ isl n k0 x = 0 ∧ q = islQ isl n k0 (fun j => t j * (x j : Rat)) ∧ ∃ τ : Rat, ∀ j, j < n → isl j = k0 → (τ < t j → x j = hi j) ∧ (t j < τ → x j = lo j)
theorem count_set : ∀ (U : List Bool) (b : Nat), U.getD b true = false → (U.set b true).count false + 1 = U.count false
  | [], b, h => by simp at h
  | u :: U, 0, h => by simp at h; subst h; simp
  | u :: U, b + 1, h => by
    have := count_set U b (by simpa using h)
    cases u <;> simp at * <;> omega
theorem rC_spec {t : Nat → Rat} {lo hi isl : Nat → Int} {k0 : Int} {n : Nat} : ∀ (k : Nat) (U : List Bool) (x : Nat → Int) (q : Rat) (need : Int), U.count false < k → InvC t lo hi isl k0 n U x q need →
    (isT (rC t lo hi n k U q need) = none → ¬ ∃ y, Feas lo hi isl n y) ∧ (∀ v, isT (rC t lo hi n k U q need) = some v → IslR t lo hi isl k0 n v)
  | 0, U, x, q, need, hk, h => by omega
  | k + 1, U, x, q, need, hk, h => by
    simp only [rC]
    by_cases hn : 0 < need
    · rw [if_pos hn]
      obtain ⟨s1, s2⟩ : (0 < need ∧ ∀ j, j < n → isl j = k0 → U.getD j true = true → x j = hi j) := by
        rcases h.st with h1 | ⟨h1, _⟩ | ⟨h1, _⟩
        · exact h1
        · omega
        · omega
      obtain ⟨b1, b2⟩ := rBest_spec t U n
      cases hb : rBest t U n with
      | none =>
        simp only [isT]
        refine ⟨fun _ => ?_, fun v hv => (by cases hv)⟩
        refine no_hi (k := k0) ?_
        rw [← islZ_congr (x := x) fun j a b => s2 j a b (b1 hb j a)]
        have := h.mis; omega
      | some b =>
        simp only
        obtain ⟨c1, c2, c3⟩ := b2 b hb
        have hbk : isl b = k0 := by
          by_cases e : isl b = k0
          · exact e
          · rw [h.oth b c1 e] at c2; cases c2
        have hbox := h.box b c1 hbk
        have hxb := h.un b c1 c2
        have hle : min need (hi b - lo b) ≤ need ∧ min need (hi b - lo b) ≤ hi b - lo b ∧ 0 ≤ min need (hi b - lo b) := by omega
        have hor : min need (hi b - lo b) = need ∨ min need (hi b - lo b) = hi b - lo b := by omega
        generalize min need (hi b - lo b) = d at hle hor
        have hux : ∀ j, j ≠ b → upd x b (lo b + d) j = x j := fun j hj => by simp only [upd, if_neg hj]
        have hui : upd x b (lo b + d) b = lo b + d := by simp only [upd, if_true]
        have hU : ∀ j, j < n → (U.set b true).getD j true = if j = b then true else U.getD j true := fun j hj => by
          rw [List.getD_eq_getElem?_getD, List.getElem?_set]
          by_cases e : b = j
          · subst e; rw [if_pos rfl, if_pos (by rw [h.len]; exact hj), if_pos rfl]; rfl
          · rw [if_neg e, if_neg fun x => e x.symm, ← List.getD_eq_getElem?_getD]
        refine rC_spec k (U.set b true) (upd x b (lo b + d)) _ _ (by have := count_set U b c2; omega) ⟨by rw [List.length_set]; exact h.len, fun j hj hjk => ?_, fun j hj hjk => ?_, fun j hj hju => ?_, ?_, ?_, fun a a' ha ha' hak hau ha'u => ?_, ?_⟩
        · rw [hU j hj]; split
          · rfl
          · exact h.oth j hj hjk
        · by_cases e : j = b
          · subst e; rw [hui]; omega
          · rw [hux j e]; exact h.box j hj hjk
        · rw [hU j hj] at hju
          by_cases e : j = b
          · rw [if_pos e] at hju; cases hju
          · rw [if_neg e] at hju; rw [hux j e]; exact h.un j hj hju
        · rw [islQ_upd c1 k0 hbk, h.val, hxb]; congr 3; omega
        · rw [islZ_upd c1, if_pos hbk, hxb]; have := h.mis; omega
        · rw [hU a ha] at hau
          rw [hU a' ha'] at ha'u
          by_cases e' : a' = b
          · rw [if_pos e'] at ha'u; cases ha'u
          · rw [if_neg e'] at ha'u
            by_cases e : a = b
            · subst e; exact c3 a' ha' ha'u
            · rw [if_neg e] at hau; exact h.ord a a' ha ha' hak hau ha'u
        · rcases Int.lt_or_eq_of_le hle.1 with hlt | heq
          · refine .inl ⟨by omega, fun j hj hjk hju => ?_⟩
            rw [hU j hj] at hju
            by_cases e : j = b
            · subst e; rw [hui]; omega
            · rw [if_neg e] at hju; rw [hux j e]; exact s2 j hj hjk hju
          · refine .inr (.inl ⟨by omega, t b, fun j hj hjk => ?_⟩)
            by_cases e : j = b
            · subst e
              exact ⟨fun hlt => absurd hlt Rat.lt_irrefl, fun hlt => absurd hlt Rat.lt_irrefl⟩
            · rw [hux j e]
              cases hju : U.getD j true with
              | true => exact ⟨fun _ => s2 j hj hjk hju, fun hlt => absurd (h.ord j b hj c1 hjk hju c2) (Rat.not_le.2 hlt)⟩
              | false => exact ⟨fun hlt => absurd (c3 j hj hju) (Rat.not_le.2 hlt), fun _ => h.un j hj hju⟩
    · rw [if_neg hn]
      rcases h.st with ⟨h1, _⟩ | ⟨h1, τ, h2⟩ | ⟨h1, h2⟩
      · omega
      · subst h1
        refine ⟨fun e => (by simp [isT] at e), fun v hv => ?_⟩
        simp only [isT, beq_self_eq_true, Option.some.injEq] at hv
        subst hv
        exact ⟨x, h.box, by have := h.mis; omega, h.val, τ, h2⟩
      · have : (need == 0) = false := by simp; omega
        rw [this]
        refine ⟨fun _ => ?_, fun v hv => (by cases hv)⟩
        refine no_lo (k := k0) ?_
        rw [← islZ_congr (x := x) h2]
        have := h.mis; omega
theorem rG_spec (t : Nat → Rat) (lo hi isl : Nat → Int) (n : Nat) (k0 : Int) :
    (isT (rG t lo hi isl n k0) = none → ¬ ∃ y, Feas lo hi isl n y) ∧ (∀ v, isT (rG t lo hi isl n k0) = some v → IslR t lo hi isl k0 n v) := by
  obtain ⟨g1, g2⟩ := rA_spec t lo hi isl k0 n n 0 (List.replicate n false) 0 0 (by omega) ⟨by simp, fun j hj => by simp [List.getD_eq_getElem?_getD, hj]⟩ rfl rfl
  unfold rG
  cases ha : rA t lo hi isl k0 n 0 (List.replicate n false) 0 0 with
  | none =>
    simp only [isT]
    obtain ⟨j, h1, h2⟩ := g1 ha
    refine ⟨fun _ => ?_, fun v hv => (by cases hv)⟩
    rintro ⟨y, hy⟩
    have := hy.lo j h1; have := hy.hi j h1; omega
  | some p =>
    obtain ⟨U, q, need⟩ := p
    obtain ⟨a1, a2, a3, a4⟩ := g2 U q need ha
    simp only
    obtain ⟨B, hB⟩ := bound_ex t n
    have hU : ∀ j, j < n → U.getD j true = decide (isl j ≠ k0) := fun j hj => by rw [a2.2 j hj]; simp [hj]
    refine rC_spec (n + 1) U lo q need (by have := List.count_le_length (a := false) (l := U); rw [a2.1] at this; omega) ⟨a2.1, fun j hj hjk => by rw [hU j hj]; simpa using hjk, fun j hj hjk => ⟨Int.le_refl _, a1 j (by omega) hj hjk⟩, fun j hj _ => rfl, a3, a4, fun a b ha hb hak hau _ => ?_, ?_⟩
    · rw [hU a ha] at hau; simp [hak] at hau
    · rcases Int.lt_trichotomy need 0 with h | h | h
      · exact .inr (.inr ⟨h, fun _ _ _ => rfl⟩)
      · exact .inr (.inl ⟨h, B, fun j hj _ => ⟨fun hlt => absurd (hB j hj) (Rat.not_le.2 hlt), fun _ => rfl⟩⟩)
      · refine .inl ⟨h, fun j hj hjk hju => ?_⟩
        rw [hU j hj] at hju; simp [hjk] at hju

theorem rX1_spec {t : Nat → Rat} {lo hi isl : Nat → Int} {n : Nat} : ∀ (k i : Nat) (x : Nat → Int) (τ : Int → Rat) (mo : Rat), i + k = n → mo = seenQ isl n i (fun j => t j * (x j : Rat)) →
    (∀ j, j < n → seen isl i j = true → lo j ≤ x j ∧ x j ≤ hi j ∧ islZ isl n (isl j) x = 0 ∧ (τ (isl j) < t j → x j = hi j) ∧ (t j < τ (isl j) → x j = lo j)) →
    (rX1 t lo hi isl n k i mo = none → ¬ ∃ y, Feas lo hi isl n y) ∧ (∀ v, rX1 t lo hi isl n k i mo = some v → ∃ y, Feas lo hi isl n y ∧ Opt t lo hi isl n y ∧ v = valQ t n y)
  | 0, i, x, τ, mo, hk, hm, h => by
    have : i = n := by omega
    subst this
    simp only [rX1]
    refine ⟨fun e => (by cases e), fun v hv => ?_⟩
    simp only [Option.some.injEq] at hv
    subst hv
    have hs : ∀ j, j < i → seen isl i j = true := fun j hj => by simp only [seen, decide_eq_true_eq]; exact ⟨j, hj, rfl⟩
    refine ⟨x, ⟨fun j hj => (h j hj (hs j hj)).1, fun j hj => (h j hj (hs j hj)).2.1, fun j hj => (h j hj (hs j hj)).2.2.1⟩, ⟨τ, fun j hj => (h j hj (hs j hj)).2.2.2⟩, by rw [hm, seenQ_all]; rfl⟩
  | k + 1, i, x, τ, mo, hk, hm, h => by
    simp only [rX1]
    by_cases hs : seen isl i i = true
    · rw [if_pos hs]
      refine rX1_spec k (i + 1) x τ mo (by omega) (by rw [seenQ_old isl n i _ hs]; exact hm) fun j hj hsj => ?_
      rw [seen_succ] at hsj
      by_cases e : isl i = isl j
      · exact h j hj ((seen_isl isl e).symm.trans hs)
      · simp only [e, decide_false, Bool.or_false] at hsj; exact h j hj hsj
    · rw [if_neg hs]
      obtain ⟨g1, g2⟩ := rG_spec t lo hi isl n (isl i)
      cases hg : isT (rG t lo hi isl n (isl i)) with
      | none => exact ⟨fun _ => g1 hg, fun v hv => (by cases hv)⟩
      | some a =>
        simp only
        obtain ⟨x', p1, p2, p3, τ', p4⟩ := g2 a hg
        have hs' : seen isl i i = false := by simpa using hs
        have ho : ∀ j, seen isl i j = true → isl j ≠ isl i := fun j hj e => by rw [seen_isl isl e] at hj; rw [hj] at hs'; cases hs'
        refine rX1_spec k (i + 1) (fun j => if isl j = isl i then x' j else x j) (fun z => if z = isl i then τ' else τ z) (mo + a) (by omega) ?_ fun j hj hsj => ?_
        · rw [seenQ_new isl n i _ hs', hm, p3]
          congr 1
          · unfold seenQ
            refine sumQ_congr fun j hj => ?_
            by_cases e : seen isl i j = true
            · rw [if_pos e, if_pos e]
              simp only [if_neg (ho j e)]
            · rw [if_neg e, if_neg e]
          · unfold islQ
            refine sumQ_congr fun j hj => ?_
            by_cases e : isl j = isl i
            · simp only [if_pos e]
            · rw [if_neg e, if_neg e]
        · by_cases e : isl j = isl i
          · simp only [e, if_true]
            have hb := p1 j hj e
            refine ⟨hb.1, hb.2, ?_, p4 j hj e⟩
            rw [← p2]
            exact islZ_congr fun l hl hlk => by simp only [hlk, if_true]
          · simp only [e, if_false]
            rw [seen_succ] at hsj
            have e' : ¬ isl i = isl j := fun x => e x.symm
            simp only [e', decide_false, Bool.or_false] at hsj
            obtain ⟨q1, q2, q3, q4⟩ := h j hj hsj
            refine ⟨q1, q2, ?_, q4⟩
            rw [← q3]
            exact islZ_congr fun l hl hlk => by rw [hlk, if_neg e]
/-- What the program answers. -/
def pX (t t' : Nat → Rat) (lo hi isl : Nat → Int) (n : Nat) (ord ord' : List Nat) : Option (Rat × Rat) :=
  match gP t lo hi isl n ord with
  | none => none
  | some most => some (-((gP t' lo hi isl n ord').getD 0), most)
theorem pX_rX {t t' : Nat → Rat} {lo hi isl : Nat → Int} {n : Nat} {ord ord' : List Nat} (hp : ord.Perm (List.range n)) (hs : ord.Pairwise fun a b => t b ≤ t a) (hp' : ord'.Perm (List.range n)) (hs' : ord'.Pairwise fun a b => t' b ≤ t' a) :
    pX t t' lo hi isl n ord ord' = rX t t' lo hi isl n n 0 0 0 := by
  obtain ⟨a1, a2⟩ := gP_spec (lo := lo) (hi := hi) (isl := isl) hp hs
  obtain ⟨b1, b2⟩ := gP_spec (lo := lo) (hi := hi) (isl := isl) hp' hs'
  obtain ⟨c1, c2⟩ := rX1_spec (t := t) (lo := lo) (hi := hi) (isl := isl) n 0 (fun _ => 0) (fun _ => 0) 0 (by omega) (seenQ_zero isl n _).symm (fun j _ hj => by simp [seen] at hj)
  obtain ⟨d1, d2⟩ := rX1_spec (t := t') (lo := lo) (hi := hi) (isl := isl) n 0 (fun _ => 0) (fun _ => 0) 0 (by omega) (seenQ_zero isl n _).symm (fun j _ hj => by simp [seen] at hj)
  rw [rX_eq, Rat.neg_zero]
  unfold pX
  cases ha : gP t lo hi isl n ord with
  | none =>
    have hno := a1 ha
    cases hc : rX1 t lo hi isl n n 0 0 with
    | none => rfl
    | some v => obtain ⟨y, hy, _⟩ := c2 v hc; exact absurd ⟨y, hy⟩ hno
  | some v =>
    obtain ⟨y, hy, oy, rfl⟩ := a2 v ha
    cases hc : rX1 t lo hi isl n n 0 0 with
    | none => exact absurd ⟨y, hy⟩ (c1 hc)
    | some v =>
      obtain ⟨z, hz, oz, rfl⟩ := c2 v hc
      cases hb : gP t' lo hi isl n ord' with
      | none => exact absurd ⟨y, hy⟩ (b1 hb)
      | some v =>
        obtain ⟨y', hy', oy', rfl⟩ := b2 v hb
        cases hd : rX1 t' lo hi isl n n 0 0 with
        | none => exact absurd ⟨y, hy⟩ (d1 hd)
        | some v =>
          obtain ⟨z', hz', oz', rfl⟩ := d2 v hd
          simp only [Option.getD_some]
          rw [opt_unique t lo hi isl n hy oy hz oz, opt_unique t' lo hi isl n hy' oy' hz' oz']
end NumA
/-! Sizes of the numbers on the way of chapter 30. -/
namespace NumA
set_option linter.unusedVariables false
theorem fit_step' {n s : Nat} {q a : Rat} {b : Int} (hq : Fit (1 + s * (n + 2)) q) (ha : Fit n a) (hb : -4294967296 < b ∧ b < 4294967296) : Fit (1 + (s + 1) * (n + 2)) (q + a * (b : Rat)) := by
  have h1 : Fit 1 ((b : Int) : Rat) := fit_int (by rw [P_one]; omega) (by omega)
  have h2 := fit_add hq (fit_mul ha h1)
  have e : 1 + s * (n + 2) + (n + 1) + 1 = 1 + (s + 1) * (n + 2) := by rw [Nat.add_mul]; omega
  rwa [e] at h2
section
variable {t : Nat → Rat} {lo hi isl : Nat → Int} {n : Nat}
theorem gA_fit (ht : ∀ i, Fit n (t i)) (hl : ∀ i, -1073741824 ≤ lo i ∧ lo i ≤ 1073741824) : ∀ (k i s : Nat) (m : Mp) (q : Rat) (m' : Mp) (q' : Rat), Fit (1 + s * (n + 2)) q → gA t lo hi isl k i m q = some (m', q') → Fit (1 + (s + k) * (n + 2)) q'
  | 0, i, s, m, q, m', q', hq, h => by
    simp only [gA, Option.some.injEq, Prod.mk.injEq] at h
    rw [← h.2]; exact hq
  | k + 1, i, s, m, q, m', q', hq, h => by
    simp only [gA] at h
    split at h
    · cases h
    · have := gA_fit ht hl k (i + 1) (s + 1) _ _ m' q' (fit_step' hq (ht i) (by have := hl i; omega)) h
      rw [show s + (k + 1) = s + 1 + k by omega]; exact this
theorem gB_fit (ht : ∀ i, Fit n (t i)) (hl : ∀ i, -1073741824 ≤ lo i ∧ lo i ≤ 1073741824) (hh : ∀ i, -1073741824 ≤ hi i ∧ hi i ≤ 1073741824) : ∀ (r : List Nat) (s : Nat) (m : Mp) (q : Rat) (m' : Mp) (q' : Rat), Fit (1 + s * (n + 2)) q → gB t lo hi isl r m q = some (m', q') → Fit (1 + (s + r.length) * (n + 2)) q'
  | [], s, m, q, m', q', hq, h => by
    simp only [gB, Option.some.injEq, Prod.mk.injEq] at h
    rw [← h.2]; exact hq
  | i :: r, s, m, q, m', q', hq, h => by
    simp only [gB] at h
    split at h
    · cases h
    · rename_i hg
      have := gB_fit ht hl hh r (s + 1) _ _ m' q' (fit_step' hq (ht i) (by have := hl i; have := hh i; unfold gN at hg ⊢; omega)) h
      rw [show s + (i :: r).length = s + 1 + r.length by simp; omega]; exact this
theorem fit_zero {m : Nat} (hm : 0 < m) : Fit m 0 := fit_int (z := 0) (by have := P_pos m; simp; omega) hm
theorem gP_fit (ht : ∀ i, Fit n (t i)) (hl : ∀ i, -1073741824 ≤ lo i ∧ lo i ≤ 1073741824) (hh : ∀ i, -1073741824 ≤ hi i ∧ hi i ≤ 1073741824) {N : Nat} (hN : N ≤ 32) {ord : List Nat} (ho : ord.length = N) {q : Rat} (h : gP t lo hi isl N ord = some q) : Fit (1 + 64 * (n + 2)) q := by
  unfold gP at h
  split at h
  · cases h
  · rename_i m q1 ha
    have h1 := gA_fit ht hl N 0 0 [] 0 m q1 (fit_zero (by omega)) ha
    cases hb : gB t lo hi isl ord m q1 with
    | none => rw [hb] at h; cases h
    | some p =>
      obtain ⟨m2, q2⟩ := p
      have h2 := gB_fit ht hl hh ord (0 + N) m q1 m2 q2 h1 hb
      rw [hb] at h
      simp only [gE] at h
      split at h
      · simp only [Option.some.injEq] at h
        rw [← h]
        refine h2.le ?_
        have := Nat.mul_le_mul_right (n + 2) (show 0 + N + ord.length ≤ 64 by omega)
        omega
      · cases h
theorem rA_fit (ht : ∀ i, Fit n (t i)) (hl : ∀ i, -1073741824 ≤ lo i ∧ lo i ≤ 1073741824) {k0 : Int} : ∀ (k i s : Nat) (U : List Bool) (q : Rat) (need : Int) (U' : List Bool) (q' : Rat) (need' : Int), Fit (1 + s * (n + 2)) q → rA t lo hi isl k0 k i U q need = some (U', q', need') → ∃ s', s' ≤ s + k ∧ Fit (1 + s' * (n + 2)) q'
  | 0, i, s, U, q, need, U', q', need', hq, h => by
    simp only [rA, Option.some.injEq, Prod.mk.injEq] at h
    obtain ⟨_, rfl, _⟩ := h
    exact ⟨s, by omega, hq⟩
  | k + 1, i, s, U, q, need, U', q', need', hq, h => by
    simp only [rA] at h
    split at h
    · split at h
      · cases h
      · obtain ⟨s', h1, h2⟩ := rA_fit ht hl k (i + 1) (s + 1) _ _ _ U' q' need' (fit_step' hq (ht i) (by have := hl i; omega)) h
        exact ⟨s', by omega, h2⟩
    · obtain ⟨s', h1, h2⟩ := rA_fit ht hl k (i + 1) s _ _ _ U' q' need' hq h
      exact ⟨s', by omega, h2⟩
theorem rC_fit (ht : ∀ i, Fit n (t i)) (hl : ∀ i, -1073741824 ≤ lo i ∧ lo i ≤ 1073741824) (hh : ∀ i, -1073741824 ≤ hi i ∧ hi i ≤ 1073741824) {N : Nat} : ∀ (k s : Nat) (U : List Bool) (q : Rat) (need : Int) (q' : Rat) (b' : Bool), Fit (1 + s * (n + 2)) q → rC t lo hi N k U q need = some (q', b') → ∃ s', s' ≤ s + k ∧ Fit (1 + s' * (n + 2)) q'
  | 0, s, U, q, need, q', b', hq, h => by cases h
  | k + 1, s, U, q, need, q', b', hq, h => by
    simp only [rC] at h
    split at h
    · split at h
      · cases h
      · rename_i b hb
        obtain ⟨s', h1, h2⟩ := rC_fit ht hl hh k (s + 1) _ _ _ q' b' (fit_step' hq (ht b) (by have := hl b; have := hh b; omega)) h
        exact ⟨s', by omega, h2⟩
    · simp only [Option.some.injEq, Prod.mk.injEq] at h
      rw [← h.1]; exact ⟨s, by omega, hq⟩
theorem rG_fit (ht : ∀ i, Fit n (t i)) (hl : ∀ i, -1073741824 ≤ lo i ∧ lo i ≤ 1073741824) (hh : ∀ i, -1073741824 ≤ hi i ∧ hi i ≤ 1073741824) {N : Nat} (hN : N ≤ 32) {k0 : Int} {q : Rat} {b : Bool} (h : rG t lo hi isl N k0 = some (q, b)) : Fit (1 + 65 * (n + 2)) q := by
  unfold rG at h
  split at h
  · cases h
  · rename_i U q1 need ha
    obtain ⟨s', h1, h2⟩ := rA_fit ht hl N 0 0 _ 0 0 U q1 need (fit_zero (by omega)) ha
    obtain ⟨s2, h3, h4⟩ := rC_fit ht hl hh (N + 1) s' U q1 need q b h2 h
    refine h4.le ?_
    have := Nat.mul_le_mul_right (n + 2) (show s2 ≤ 65 by omega)
    omega
end
end NumA
/- Draws are only counted up. -/
namespace Go.Ev
open Go

theorem viewStore_drawn {p : Program} {w w' : World} {at_ k : Addr} {u : TypeId} {v : Value} {at' : Bool} {l : List Addr} (h : w.viewStore p at_ u k v at' = .ok (w', l)) : w'.drawn = w.drawn := by
  unfold World.viewStore at h
  simp only [bind, Except.bind, pure, Except.pure] at h
  repeat' (first | (split at h) | (cases h; done))
  all_goals (first | (cases h; done) | skip)
  all_goals (try (simp only [Except.ok.injEq, Prod.mk.injEq] at h; obtain ⟨rfl, _⟩ := h; rfl))

theorem farStore_drawn {p : Program} {w w' : World} {a : Addr} {v : Value} {at' : Bool} {l : List Addr} (h : w.farStore p a v at' = .ok (w', l)) : w'.drawn = w.drawn := by
  unfold World.farStore at h
  split at h
  · split at h
    · rename_i r hr
      cases h
      exact viewStore_drawn hr
    · cases h
  · cases h

theorem ask_drawn {α : Type} : ∀ (q : Ask α) (w : World), w.drawn ≤ (w.ask q).2.drawn
  | .done a, w => Nat.le_refl _
  | .ask what range k, w => by
    unfold World.ask
    simp only
    split
    · exact ask_drawn _ w
    · exact Nat.le_of_succ_le (ask_drawn (k _) { w with drawn := w.drawn + 1 })

theorem sys_drawn (w : World) (c : Sys) : w.drawn ≤ (w.sys c).2.drawn := by
  have h := ask_drawn (Kernel.perform c w.os) w
  unfold World.sys
  split
  · exact Nat.le_refl _
  · rename_i r os w1 _ hq
    rw [hq] at h
    exact h

theorem freeze_drawn (w : World) (a : Addr) (n : Nat) : (w.freeze a n).drawn = w.drawn := by
  unfold World.freeze; split <;> rfl

theorem run_drawn {α : Type} (p : Program) (m : Sem α) : ∀ (w w' : World) (v : α), m.run p w = .ok v w' → w.drawn ≤ w'.drawn := by
  induction m with
  | pure a => intro w w' v h; simp only [Sem.run, Result.ok.injEq] at h; rw [h.2]; exact Nat.le_refl _
  | load m a k ih =>
    intro w w' v h
    simp only [Sem.run] at h
    split at h
    · exact ih _ _ _ _ h
    · split at h
      · exact ih _ _ _ _ h
      · cases h
  | store m a x k ih =>
    intro w w' v h
    have key : (match w.cell? a with
        | some _ => if w.frozen? a then Result.halt (.unsupported (.unsafePointer "a write to bytes that a string shares")) w else k.run p (w.setCell a x)
        | none => match w.farStore p a x (m == Mode.atomic) with
          | .ok (w, _) => k.run p w
          | .error h => .halt h w) = .ok v w' → w.drawn ≤ w'.drawn := by
      intro h
      split at h
      · split at h
        · cases h
        · exact ih (w.setCell a x) w' v h
      · split at h
        · rename_i hf
          have := farStore_drawn hf
          have h2 := ih _ _ _ h
          omega
        · cases h
    cases x <;> first | (exact key h) | (simp [Sem.run] at h)
  | new o k ih => intro w w' v h; simp only [Sem.run] at h; exact ih _ { w with heap := w.heap.push o } _ _ h
  | shape r k ih => intro w w' v h; simp only [Sem.run] at h; exact ih _ _ _ _ h
  | freeze a n k ih =>
    intro w w' v h
    simp only [Sem.run] at h
    have h2 := ih _ _ _ h
    rwa [freeze_drawn] at h2
  | frozen a k ih => intro w w' v h; simp only [Sem.run] at h; exact ih _ _ _ _ h
  | getObj r k ih =>
    intro w w' v h
    simp only [Sem.run] at h
    split at h
    · cases h
    · exact ih _ _ _ _ h
    · cases h
  | setObj r o k ih =>
    intro w w' v h
    simp only [Sem.run] at h
    split at h
    · cases h
    · exact ih { w with heap := w.heap.setIfInBounds r o } _ _ h
    · cases h
  | choose q k ih =>
    intro w w' v h
    simp only [Sem.run] at h
    split at h
    · exact ih _ _ _ _ h
    · have h2 := ih _ { w with drawn := w.drawn + 1 } _ _ h
      exact Nat.le_of_succ_le h2
  | sys c k ih =>
    intro w w' v h
    simp only [Sem.run] at h
    exact Nat.le_trans (sys_drawn w c) (ih _ _ _ _ h)
  | program k ih => intro w w' v h; simp only [Sem.run] at h; exact ih _ _ _ _ h
  | mark m k ih => intro w w' v h; simp only [Sem.run] at h; exact ih _ _ _ h
  | halt x => intro w w' v h; simp [Sem.run] at h
end Go.Ev
/- Values as trees (what a value reads as in memory), numbered objects that a call writes, and the relation to the machine's world. -/
set_option linter.unusedVariables false
namespace Go.Ev
open Go Go.RowKit

/-- What a value reads as: a value of its own; a struct's cells; a slice's elements (sz cells each); a pointer to cells; a function value with what it holds. -/
inductive T where
  | v (x : Value)
  | agg (l : List T)
  | sl (sz : Nat) (l : List T)
  | ip (l : List T)
  | fn (f : Nat) (l : List T)
  deriving Inhabited

mutual
/-- The value u reads as t in w; all memory that is read lies in blocks of ok. -/
def RelT (w : World) (ok : Nat → Prop) : T → Value → Prop
  | .v x, u => u = x
  | .agg l, u => ∃ us : Array Value, u = .agg us ∧ RelL w ok l us.toList
  | .sl sz l, u => ∃ p c, u = .slice p l.length c ∧ l.length ≤ c ∧ (0 < l.length → ∃ b off, p = some ⟨b, off, none⟩ ∧ ok b ∧ b < w.heap.size ∧ RelR w ok b off sz l)
  | .ip l, u => ∃ b off, u = .pointer (some ⟨b, off, none⟩) ∧ ok b ∧ b < w.heap.size ∧ ∃ us : List Value, RelL w ok l us ∧ ∀ i x, us[i]? = some x → w.cell? ⟨b, off + i, none⟩ = some x
  | .fn f l, u => ∃ us : Array Value, u = .func (.func f) #[] us ∧ RelL w ok l us.toList
def RelL (w : World) (ok : Nat → Prop) : List T → List Value → Prop
  | [], us => us = []
  | t :: l, us => ∃ u us', us = u :: us' ∧ RelT w ok t u ∧ RelL w ok l us'
def RelR (w : World) (ok : Nat → Prop) (b : Nat) : Nat → Nat → List T → Prop
  | _, _, [] => True
  | off, sz, t :: l => (∃ u, RelT w ok t u ∧ u.cells.size = sz ∧ ∀ i x, u.cells[i]? = some x → w.cell? ⟨b, off + i, none⟩ = some x) ∧ RelR w ok b (off + sz) sz l
end

theorem cell_of_heap {w w' : World} {b o : Nat} (h : w'.heap[b]? = w.heap[b]?) : w'.cell? ⟨b, o, none⟩ = w.cell? ⟨b, o, none⟩ := by
  simp [World.cell?, h]

mutual
theorem RelT.step {w w' : World} {ok ok' : Nat → Prop} (hb : ∀ b, ok b → b < w.heap.size → w'.heap[b]? = w.heap[b]? ∧ ok' b) (hs : w.heap.size ≤ w'.heap.size) :
    ∀ (t : T) (u : Value), RelT w ok t u → RelT w' ok' t u
  | .v x, u, h => by simpa only [RelT] using h
  | .agg l, u, h => by
    simp only [RelT] at h ⊢
    obtain ⟨us, h1, h2⟩ := h
    exact ⟨us, h1, RelL.step hb hs l _ h2⟩
  | .sl sz l, u, h => by
    simp only [RelT] at h ⊢
    obtain ⟨p, c, h1, h2, h3⟩ := h
    refine ⟨p, c, h1, h2, fun hl => ?_⟩
    obtain ⟨b, off, e1, e2, e3, e4⟩ := h3 hl
    exact ⟨b, off, e1, (hb b e2 e3).2, Nat.lt_of_lt_of_le e3 hs, RelR.step hb hs b (hb b e2 e3).1 l off sz e4⟩
  | .ip l, u, h => by
    simp only [RelT] at h ⊢
    obtain ⟨b, off, h1, h2, h3, us, h4, h5⟩ := h
    exact ⟨b, off, h1, (hb b h2 h3).2, Nat.lt_of_lt_of_le h3 hs, us, RelL.step hb hs l us h4, fun i x hx => by rw [cell_of_heap (hb b h2 h3).1]; exact h5 i x hx⟩
  | .fn f l, u, h => by
    simp only [RelT] at h ⊢
    obtain ⟨us, h1, h2⟩ := h
    exact ⟨us, h1, RelL.step hb hs l _ h2⟩
theorem RelL.step {w w' : World} {ok ok' : Nat → Prop} (hb : ∀ b, ok b → b < w.heap.size → w'.heap[b]? = w.heap[b]? ∧ ok' b) (hs : w.heap.size ≤ w'.heap.size) :
    ∀ (l : List T) (us : List Value), RelL w ok l us → RelL w' ok' l us
  | [], us, h => by simpa only [RelL] using h
  | t :: l, us, h => by
    simp only [RelL] at h ⊢
    obtain ⟨u, us', h1, h2, h3⟩ := h
    exact ⟨u, us', h1, RelT.step hb hs t u h2, RelL.step hb hs l us' h3⟩
theorem RelR.step {w w' : World} {ok ok' : Nat → Prop} (hb : ∀ b, ok b → b < w.heap.size → w'.heap[b]? = w.heap[b]? ∧ ok' b) (hs : w.heap.size ≤ w'.heap.size) (b : Nat) (he : w'.heap[b]? = w.heap[b]?) :
    ∀ (l : List T) (off sz : Nat), RelR w ok b off sz l → RelR w' ok' b off sz l
  | [], _, _, _ => by simp only [RelR]
  | t :: l, off, sz, h => by
    simp only [RelR] at h ⊢
    obtain ⟨⟨u, h1, h2, h3⟩, h4⟩ := h
    exact ⟨⟨u, RelT.step hb hs t u h1, h2, fun i x hx => by rw [cell_of_heap he]; exact h3 i x hx⟩, RelR.step hb hs b he l _ sz h4⟩
end

theorem RelR.get {w : World} {ok : Nat → Prop} {b : Nat} : ∀ (l : List T) (off sz j : Nat) (t : T), RelR w ok b off sz l → l[j]? = some t →
    ∃ u, RelT w ok t u ∧ u.cells.size = sz ∧ ∀ i x, u.cells[i]? = some x → w.cell? ⟨b, off + j * sz + i, none⟩ = some x
  | [], _, _, j, t, _, h => by simp at h
  | t0 :: l, off, sz, 0, t, h, hj => by
    simp only [RelR] at h
    simp only [List.getElem?_cons_zero, Option.some.injEq] at hj
    subst hj
    obtain ⟨⟨u, h1, h2, h3⟩, _⟩ := h
    exact ⟨u, h1, h2, fun i x hx => by simpa using h3 i x hx⟩
  | t0 :: l, off, sz, j + 1, t, h, hj => by
    simp only [RelR] at h
    simp only [List.getElem?_cons_succ] at hj
    obtain ⟨u, h1, h2, h3⟩ := RelR.get l (off + sz) sz j t h.2 hj
    refine ⟨u, h1, h2, fun i x hx => ?_⟩
    have := h3 i x hx
    rwa [show off + sz + j * sz + i = off + (j + 1) * sz + i by rw [Nat.add_mul]; omega] at this

theorem RelR.of_get {w : World} {ok : Nat → Prop} {b : Nat} : ∀ (l : List T) (off sz : Nat),
    (∀ (j : Nat) (t : T), l[j]? = some t → ∃ u, RelT w ok t u ∧ u.cells.size = sz ∧ ∀ i x, u.cells[i]? = some x → w.cell? ⟨b, off + j * sz + i, none⟩ = some x) → RelR w ok b off sz l
  | [], _, _, _ => by simp only [RelR]
  | t :: l, off, sz, h => by
    simp only [RelR]
    refine ⟨by simpa using h 0 t rfl, RelR.of_get l (off + sz) sz fun j t' hj => ?_⟩
    obtain ⟨u, h1, h2, h3⟩ := h (j + 1) t' (by simpa using hj)
    refine ⟨u, h1, h2, fun i x hx => ?_⟩
    have := h3 i x hx
    rwa [show off + (j + 1) * sz + i = off + sz + j * sz + i by rw [Nat.add_mul]; omega] at this

theorem RelR.drop {w : World} {ok : Nat → Prop} {b off sz : Nat} {l : List T} (h : RelR w ok b off sz l) (n : Nat) : RelR w ok b (off + n * sz) sz (l.drop n) :=
  RelR.of_get _ _ _ fun j t hj => by
    rw [List.getElem?_drop] at hj
    obtain ⟨u, h1, h2, h3⟩ := RelR.get _ _ _ _ _ h hj
    refine ⟨u, h1, h2, fun i x hx => ?_⟩
    have := h3 i x hx
    rwa [show off + (n + j) * sz + i = off + n * sz + j * sz + i by rw [Nat.add_mul]; omega] at this
theorem RelR.take {w : World} {ok : Nat → Prop} {b off sz : Nat} {l : List T} (h : RelR w ok b off sz l) (n : Nat) : RelR w ok b off sz (l.take n) :=
  RelR.of_get _ _ _ fun j t hj => by
    rw [List.getElem?_take] at hj
    split at hj
    · exact RelR.get _ _ _ _ _ h hj
    · cases hj
theorem RelL.get {w : World} {ok : Nat → Prop} : ∀ (l : List T) (us : List Value) (j : Nat) (t : T), RelL w ok l us → l[j]? = some t → ∃ u, us[j]? = some u ∧ RelT w ok t u
  | [], _, j, t, _, h => by simp at h
  | t0 :: l, us, 0, t, h, hj => by
    simp only [RelL] at h
    simp only [List.getElem?_cons_zero, Option.some.injEq] at hj
    subst hj
    obtain ⟨u, us', rfl, h1, h2⟩ := h
    exact ⟨u, rfl, h1⟩
  | t0 :: l, us, j + 1, t, h, hj => by
    simp only [RelL] at h
    simp only [List.getElem?_cons_succ] at hj
    obtain ⟨u, us', rfl, h1, h2⟩ := h
    exact RelL.get l us' j t h2 hj
theorem RelL.length {w : World} {ok : Nat → Prop} : ∀ (l : List T) (us : List Value), RelL w ok l us → us.length = l.length
  | [], us, h => by simp only [RelL] at h; subst h; rfl
  | t :: l, us, h => by
    simp only [RelL] at h
    obtain ⟨u, us', rfl, _, h2⟩ := h
    simp [RelL.length l us' h2]
theorem RelL.of_get {w : World} {ok : Nat → Prop} : ∀ (l : List T) (us : List Value), us.length = l.length → (∀ (j : Nat) (t : T) (u : Value), l[j]? = some t → us[j]? = some u → RelT w ok t u) → RelL w ok l us
  | [], us, hl, _ => by simp only [RelL]; exact List.eq_nil_of_length_eq_zero hl
  | t :: l, [], hl, _ => by simp at hl
  | t :: l, u :: us, hl, h => by
    simp only [RelL]
    exact ⟨u, us, rfl, h 0 t u rfl rfl, RelL.of_get l us (by simpa using hl) fun j t' u' h1 h2 => h (j + 1) t' u' (by simpa using h1) (by simpa using h2)⟩
theorem RelL.append {w : World} {ok : Nat → Prop} {l l' : List T} {us us' : List Value} (h : RelL w ok l us) (h' : RelL w ok l' us') : RelL w ok (l ++ l') (us ++ us') := by
  induction l generalizing us with
  | nil => simp only [RelL] at h; subst h; simpa using h'
  | cons t l ih =>
    simp only [RelL] at h
    obtain ⟨u, us1, rfl, h1, h2⟩ := h
    simp only [List.cons_append, RelL]
    exact ⟨u, _, rfl, h1, ih h2⟩
theorem RelL.drop {w : World} {ok : Nat → Prop} {l : List T} {us : List Value} (h : RelL w ok l us) (n : Nat) : RelL w ok (l.drop n) (us.drop n) :=
  RelL.of_get _ _ (by simp [h.length]) fun j t u h1 h2 => by
    rw [List.getElem?_drop] at h1 h2
    obtain ⟨u', e1, e2⟩ := RelL.get _ _ _ _ h h1
    rw [h2] at e1; injection e1 with e1; subst e1; exact e2
theorem RelL.take {w : World} {ok : Nat → Prop} {l : List T} {us : List Value} (h : RelL w ok l us) (n : Nat) : RelL w ok (l.take n) (us.take n) :=
  RelL.of_get _ _ (by simp [h.length]) fun j t u h1 h2 => by
    rw [List.getElem?_take] at h1 h2
    split at h1
    · rename_i hlt
      rw [if_pos hlt] at h2
      obtain ⟨u', e1, e2⟩ := RelL.get _ _ _ _ h h1
      rw [h2] at e1; injection e1 with e1; subst e1; exact e2
    · cases h1

/-- The cells of a tree: a struct's own, or the one. -/
def T.cells : T → List T
  | .agg l => l
  | t => [t]
/-- One cell of memory (no struct). -/
def T.one : T → Bool
  | .v x => x.oneCell'
  | .agg _ => false
  | .sl _ _ => true
  | .ip _ => true
  | .fn _ _ => true
theorem RelT.cells {w : World} {ok : Nat → Prop} {t : T} {u : Value} (h : RelT w ok t u) (h1 : t.cells.all T.one = true) : RelL w ok t.cells u.cells.toList ∧ ∀ x ∈ u.cells.toList, x.oneCell' = true := by
  cases t with
  | v x =>
    simp only [RelT] at h; subst h
    simp only [T.cells, T.one, List.all_cons, List.all_nil, Bool.and_true] at h1
    have hc : u.cells = #[u] := by cases u <;> simp [Value.cells, Value.oneCell'] at h1 ⊢
    rw [hc]
    simp [T.cells, RelL, RelT, h1]
  | agg l =>
    simp only [RelT] at h
    obtain ⟨us, rfl, h2⟩ := h
    refine ⟨by simpa [T.cells, Value.cells] using h2, ?_⟩
    intro x hx
    simp only [Value.cells] at hx
    obtain ⟨j, hj⟩ := List.mem_iff_getElem?.1 hx
    have hl := h2.length
    have hjl : j < l.length := by have := (List.getElem?_eq_some_iff.1 hj).1; omega
    obtain ⟨x', e1, e2⟩ := RelL.get _ _ _ _ h2 (List.getElem?_eq_getElem hjl)
    rw [hj] at e1; injection e1 with e1; subst e1
    have ho := List.all_eq_true.1 h1 _ (show l[j] ∈ (T.agg l).cells from List.getElem_mem hjl)
    generalize l[j] = t at e2 ho
    cases t with
    | v y => simp only [RelT] at e2; subst e2; simpa [T.one] using ho
    | agg _ => simp [T.one] at ho
    | sl sz l => simp only [RelT] at e2; obtain ⟨p, c, rfl, _⟩ := e2; rfl
    | ip l => simp only [RelT] at e2; obtain ⟨b, off, rfl, _⟩ := e2; rfl
    | fn f l => simp only [RelT] at e2; obtain ⟨us, rfl, _⟩ := e2; rfl
  | sl sz l =>
    have h0 := h
    simp only [RelT] at h
    obtain ⟨p, c, rfl, h2⟩ := h
    refine ⟨?_, by simp [Value.cells, Value.oneCell']⟩
    simp only [T.cells, Value.cells, RelL]
    exact ⟨_, [], rfl, h0, rfl⟩
  | ip l =>
    have h0 := h
    simp only [RelT] at h
    obtain ⟨b, off, rfl, _⟩ := h
    refine ⟨?_, by simp [Value.cells, Value.oneCell']⟩
    simp only [T.cells, Value.cells, RelL]
    exact ⟨_, [], rfl, h0, rfl⟩
  | fn f l =>
    have h0 := h
    simp only [RelT] at h
    obtain ⟨us, rfl, _⟩ := h
    refine ⟨?_, by simp [Value.cells, Value.oneCell']⟩
    simp only [T.cells, Value.cells, RelL]
    exact ⟨_, [], rfl, h0, rfl⟩

/-- An object that the call writes: a row of elements (of type E, sz cells each) in a block of its own. -/
structure O where
  E : Nat
  sz : Nat
  rows : List T
  deriving Inhabited
def RelOc (w : World) (ok : Nat → Prop) (b : Nat) (o : O) : Prop :=
  (∃ cs, w.heap[b]? = some (.cells cs o.E (0, 0)) ∧ o.rows.length * o.sz ≤ cs.size) ∧ 0 < o.sz ∧ RelR w ok b 0 o.sz o.rows
/-- A map's entries. -/
def RelE (w : World) (ok : Nat → Prop) : List T → List MapEntry → Prop
  | [], es => es = []
  | t :: l, es => ∃ e es', es = e :: es' ∧ (∃ tv, t = .agg [.v e.key, tv] ∧ RelT w ok tv e.val) ∧ RelE w ok l es'
/-- A map of a block of its own: its entries in the order of their birth. -/
def RelM (w : World) (ok : Nat → Prop) (b : Nat) (o : O) : Prop :=
  ∃ l, o.rows = [.agg [.agg l], .v (.agg #[])] ∧ ∃ es : Array MapEntry, w.heap[b]? = some (.map es es.size) ∧ (∀ (i : Nat) (e : MapEntry), es[i]? = some e → e.born = i) ∧ RelE w ok l es.toList
def RelO (w : World) (ok : Nat → Prop) (b : Nat) (o : O) : Prop := RelOc w ok b o ∨ RelM w ok b o
theorem RelE.step {w w' : World} {ok ok' : Nat → Prop} (hb : ∀ b, ok b → b < w.heap.size → w'.heap[b]? = w.heap[b]? ∧ ok' b) (hs : w.heap.size ≤ w'.heap.size) :
    ∀ (l : List T) (es : List MapEntry), RelE w ok l es → RelE w' ok' l es
  | [], es, h => by simpa only [RelE] using h
  | t :: l, es, h => by
    simp only [RelE] at h ⊢
    obtain ⟨e, es', h1, ⟨tv, h2, h3⟩, h4⟩ := h
    exact ⟨e, es', h1, ⟨tv, h2, RelT.step hb hs tv _ h3⟩, RelE.step hb hs l es' h4⟩
theorem RelO.lt {w : World} {ok : Nat → Prop} {b : Nat} {o : O} (h : RelO w ok b o) : b < w.heap.size := by
  rcases h with ⟨⟨cs, hb, _⟩, _⟩ | ⟨l, _, es, hb, _⟩
  · exact (Array.getElem?_eq_some_iff.1 hb).1
  · exact (Array.getElem?_eq_some_iff.1 hb).1
theorem RelO.step {w w' : World} {ok ok' : Nat → Prop} {b : Nat} {o : O} (hb : ∀ b, ok b → b < w.heap.size → w'.heap[b]? = w.heap[b]? ∧ ok' b) (hs : w.heap.size ≤ w'.heap.size) (he : w'.heap[b]? = w.heap[b]?) (h : RelO w ok b o) : RelO w' ok' b o := by
  rcases h with ⟨⟨cs, h1, h2⟩, h3, h4⟩ | ⟨l, h1, es, h2, h3, h4⟩
  · exact .inl ⟨⟨cs, by rw [he]; exact h1, h2⟩, h3, RelR.step hb hs b he _ _ _ h4⟩
  · exact .inr ⟨l, h1, es, by rw [he]; exact h2, h3, RelE.step hb hs l _ h4⟩
theorem RelO.rowc {w : World} {ok : Nat → Prop} {b row : Nat} {o : O} {r : T} (h : RelO w ok b o) (hr : o.rows[row]? = some r) (h1 : r.cells.all T.one = true) : RelOc w ok b o := by
  rcases h with h | ⟨l, h2, _⟩
  · exact h
  · rw [h2] at hr
    cases row with
    | zero => simp only [List.getElem?_cons_zero, Option.some.injEq] at hr; subst hr; simp [T.cells, T.one] at h1
    | succ n =>
      cases n with
      | zero => simp only [List.getElem?_cons_succ, List.getElem?_cons_zero, Option.some.injEq] at hr; subst hr; simp [T.cells, T.one, Value.oneCell'] at h1
      | succ n => simp at hr

/-- A block of n elements. -/
def Room (w : World) (b sz n : Nat) : Prop := ∃ cs E, w.heap[b]? = some (.cells cs E (0, 0)) ∧ cs.size = n * sz ∧ n ≤ maxLen
/-- What has been written out stays; draws only grow. -/
def Out (w w' : World) : Prop := w'.output = w.output ∧ w.drawn ≤ w'.drawn
theorem Out.refl (w : World) : Out w w := ⟨rfl, Nat.le_refl _⟩
theorem Out.trans {w w' w'' : World} (h : Out w w') (h' : Out w' w'') : Out w w'' := ⟨h'.1.trans h.1, Nat.le_trans h.2 h'.2⟩
/-- Blocks keep their sizes. -/
def Keeps (w w' : World) : Prop := ∀ (b : Nat) (cs : Array Value) (E : Nat), w.heap[b]? = some (.cells cs E (0, 0)) → ∃ cs' : Array Value, w'.heap[b]? = some (.cells cs' E (0, 0)) ∧ cs'.size = cs.size
theorem Keeps.refl (w : World) : Keeps w w := fun b cs E h => ⟨cs, h, rfl⟩
theorem Keeps.trans {w w' w'' : World} (h : Keeps w w') (h' : Keeps w' w'') : Keeps w w'' := fun b cs E hb => by
  obtain ⟨c1, h1, h2⟩ := h b cs E hb
  obtain ⟨c2, h3, h4⟩ := h' b c1 E h1
  exact ⟨c2, h3, h4.trans h2⟩
theorem Keeps.of_heap {w w' : World} (h : ∀ b, b < w.heap.size → w'.heap[b]? = w.heap[b]?) : Keeps w w' := fun b cs E hb =>
  ⟨cs, by rw [h b (Array.getElem?_eq_some_iff.1 hb).1]; exact hb, rfl⟩
theorem RelO.room {w : World} {ok : Nat → Prop} {b sz n : Nat} {o : O} (h : RelO w ok b o) (hr : Room w b sz n) : RelOc w ok b o := by
  rcases h with h | ⟨l, _, es, h2, _⟩
  · exact h
  · obtain ⟨cs, E, h3, _⟩ := hr
    rw [h2] at h3; cases h3
theorem Room.keeps {w w' : World} {b sz n : Nat} (h : Room w b sz n) (hk : Keeps w w') : Room w' b sz n := by
  obtain ⟨cs, E, h1, h2, h3⟩ := h
  obtain ⟨cs', h4, h5⟩ := hk b cs E h1
  exact ⟨cs', E, h4, h5.trans h2, h3⟩

/-- What a slot holds. -/
inductive A where
  | t (x : T)
  | mp (id sz row off : Nat)
  | ip (l : List T)
  | ms (id sz lo len : Nat)
  | nil (sz : Nat)
  | mr (id : Nat)
  | tup (l : List A)
  | top
  deriving Inhabited

mutual
def RelA (w : World) (ok : Nat → Prop) (ρ : Nat → Nat) : A → Value → Prop
  | .t x, u => RelT w ok x u
  | .mp id sz row off, u => u = .pointer (some ⟨ρ id, row * sz + off, none⟩)
  | .ip l, u => ∃ b off, u = .pointer (some ⟨b, off, none⟩) ∧ ok b ∧ b < w.heap.size ∧ ∃ us : List Value, RelL w ok l us ∧ ∀ i x, us[i]? = some x → w.cell? ⟨b, off + i, none⟩ = some x
  | .ms id sz lo len, u => ∃ c, u = .slice (some ⟨ρ id, lo * sz, none⟩) len c ∧ len ≤ c ∧ Room w (ρ id) sz (lo + c)
  | .nil sz, u => u = .slice none 0 0
  | .mr id, u => u = .map (some (ρ id))
  | .tup l, u => ∃ us : Array Value, u = .tuple us ∧ RelAL w ok ρ l us.toList
  | .top, _ => True
def RelAL (w : World) (ok : Nat → Prop) (ρ : Nat → Nat) : List A → List Value → Prop
  | [], us => us = []
  | a :: l, us => ∃ u us', us = u :: us' ∧ RelA w ok ρ a u ∧ RelAL w ok ρ l us'
end

/-- The objects that a slot's value names. -/
def A.ids : A → List Nat
  | .mp id _ _ _ => [id]
  | .ms id _ _ _ => [id]
  | .mr id => [id]
  | .tup l => idsL l
  | _ => []
where idsL : List A → List Nat
  | [] => []
  | a :: l => a.ids ++ idsL l

mutual
theorem RelA.step {w w' : World} {ok ok' : Nat → Prop} {ρ ρ' : Nat → Nat} (hb : ∀ b, ok b → b < w.heap.size → w'.heap[b]? = w.heap[b]? ∧ ok' b) (hs : w.heap.size ≤ w'.heap.size) (hk : Keeps w w') :
    ∀ (a : A) (u : Value), (∀ id ∈ a.ids, ρ' id = ρ id) → RelA w ok ρ a u → RelA w' ok' ρ' a u
  | .t x, u, _, h => by simp only [RelA] at h ⊢; exact RelT.step hb hs x u h
  | .mp id sz row off, u, hr, h => by simp only [RelA] at h ⊢; rw [hr id (by simp [A.ids])]; exact h
  | .ip l, u, _, h => by
    simp only [RelA] at h ⊢
    obtain ⟨b, off, h1, h2, h3, us, h4, h5⟩ := h
    exact ⟨b, off, h1, (hb b h2 h3).2, Nat.lt_of_lt_of_le h3 hs, us, RelL.step hb hs l us h4, fun i x hx => by rw [cell_of_heap (hb b h2 h3).1]; exact h5 i x hx⟩
  | .ms id sz lo len, u, hr, h => by
    simp only [RelA] at h ⊢
    rw [hr id (by simp [A.ids])]
    obtain ⟨c, h1, h2, h3⟩ := h
    exact ⟨c, h1, h2, h3.keeps hk⟩
  | .nil sz, u, hr, h => by simpa only [RelA] using h
  | .mr id, u, hr, h => by simp only [RelA] at h ⊢; rw [hr id (by simp [A.ids])]; exact h
  | .tup l, u, hr, h => by
    simp only [RelA] at h ⊢
    obtain ⟨us, h1, h2⟩ := h
    exact ⟨us, h1, RelAL.step hb hs hk l _ (fun id hid => hr id (by simpa [A.ids] using hid)) h2⟩
  | .top, u, _, h => by simp only [RelA]
theorem RelAL.step {w w' : World} {ok ok' : Nat → Prop} {ρ ρ' : Nat → Nat} (hb : ∀ b, ok b → b < w.heap.size → w'.heap[b]? = w.heap[b]? ∧ ok' b) (hs : w.heap.size ≤ w'.heap.size) (hk : Keeps w w') :
    ∀ (l : List A) (us : List Value), (∀ id ∈ A.ids.idsL l, ρ' id = ρ id) → RelAL w ok ρ l us → RelAL w' ok' ρ' l us
  | [], us, _, h => by simpa only [RelAL] using h
  | a :: l, us, hr, h => by
    simp only [RelAL] at h ⊢
    obtain ⟨u, us', h1, h2, h3⟩ := h
    exact ⟨u, us', h1, RelA.step hb hs hk a u (fun id hid => hr id (by simp [A.ids.idsL, hid])) h2, RelAL.step hb hs hk l us' (fun id hid => hr id (by simp [A.ids.idsL, hid])) h3⟩
end
end Go.Ev
/- The evaluator's state, its relation to a frame and a world, and how one operation's effect is entered. -/
set_option linter.unusedVariables false
namespace Go.Ev
open Go Go.RowKit

def look : List (Nat × A) → Nat → A
  | [], _ => .top
  | (s, a) :: l, t => if s = t then a else look l t
def lookM : List (Nat × Option O) → Nat → Option O
  | [], _ => none
  | (s, o) :: l, t => if s = t then o else lookM l t
structure St where
  tm : List (Nat × A)
  mm : List (Nat × Option O)
  nx : Nat
def St.put (σ : St) (dst : Option Nat) (r : A) (upd : List (Nat × Option O)) : St :=
  { σ with tm := (match dst with | some d => (d, r) :: σ.tm | none => σ.tm), mm := upd ++ σ.mm }

theorem lookM_append (u m : List (Nat × Option O)) (id : Nat) : lookM (u ++ m) id = if id ∈ u.map (·.1) then lookM u id else lookM m id := by
  induction u with
  | nil => simp
  | cons x u ih =>
    obtain ⟨s, o⟩ := x
    simp only [List.cons_append, lookM, ih, List.map_cons, List.mem_cons]
    by_cases h : s = id
    · simp [h]
    · have h' : ¬ id = s := fun e => h e.symm
      rw [if_neg h, if_neg h]
      simp only [h', false_or]
theorem lookM_mem {u : List (Nat × Option O)} {id : Nat} {o : O} (h : lookM u id = some o) : (id, some o) ∈ u := by
  induction u with
  | nil => simp [lookM] at h
  | cons x u ih =>
    obtain ⟨s, oo⟩ := x
    simp only [lookM] at h
    by_cases hs : s = id
    · rw [if_pos hs] at h; subst h; subst hs; simp
    · rw [if_neg hs] at h; exact List.mem_cons_of_mem _ (ih h)

/-- Blocks that what is only read may lie in: the arguments' and new ones, and none that is written. -/
def okS (w0 : World) (okA : Nat → Prop) (ρ : Nat → Nat) (m : List (Nat × Option O)) (b : Nat) : Prop :=
  (okA b ∨ w0.heap.size ≤ b) ∧ ∀ id, (lookM m id).isSome = true → ρ id ≠ b

/-- The objects that came in: how many, and in which blocks. -/
structure Pn where
  np : Nat
  blk : Nat → Nat
def Pn.has (F : Pn) (b : Nat) : Prop := ∃ id, id < F.np ∧ F.blk id = b
structure Rel (w0 : World) (okA : Nat → Prop) (F : Pn) (N : Nat) (Fr : Nat → Prop) (ρ : Nat → Nat) (σ : St) (a : Act) (w : World) : Prop where
  tm : ∀ t, RelA w (okS w0 okA ρ σ.mm) ρ (look σ.tm t) (a.tmps.getD t undef)
  mm : ∀ id o, lookM σ.mm id = some o → RelO w (okS w0 okA ρ σ.mm) (ρ id) o
  inj : ∀ id id', (lookM σ.mm id).isSome = true → (lookM σ.mm id').isSome = true → ρ id = ρ id' → id = id'
  fr : ∀ id, Fr id → lookM σ.mm id = none
  frt : ∀ t, ∀ id ∈ (look σ.tm t).ids, ¬ Fr id
  own : ∀ id, (lookM σ.mm id).isSome = true → w0.heap.size ≤ ρ id ∨ F.has (ρ id)
  os : w.os = w0.os
  tape : w.tape = w0.tape
  output : Out w0 w
  size : w0.heap.size ≤ w.heap.size
  frame : ∀ b, b < w0.heap.size → ¬ F.has b → w.heap[b]? = w0.heap[b]?
  defers : a.defers = []
  tsize : a.tmps.size = N
  fa : ∀ b, F.has b → okA b
  keep : Keeps w0 w
  pin : ∀ id, id < F.np → ρ id = F.blk id ∧ ¬ Fr id

theorem put_getD (a : Act) (dst : Option Nat) (v : Value) (t : Nat) (hd : ∀ d, dst = some d → d < a.tmps.size) :
    (a.put dst v).tmps.getD t undef = if dst = some t then v else a.tmps.getD t undef := by
  cases dst with
  | none => simp [Act.put]
  | some d =>
    simp only [Act.put, Option.some.injEq, Array.getD_eq_getD_getElem?]
    have := hd d rfl
    by_cases h : d = t
    · subst h; simp [this]
    · rw [Array.getElem?_setIfInBounds_ne h, if_neg h]
theorem put_size (a : Act) (dst : Option Nat) (v : Value) : (a.put dst v).tmps.size = a.tmps.size := by cases dst <;> simp [Act.put]
theorem put_defers (a : Act) (dst : Option Nat) (v : Value) : (a.put dst v).defers = a.defers := by cases dst <;> simp [Act.put]
theorem St.look_put (σ : St) (dst : Option Nat) (r : A) (upd : List (Nat × Option O)) (t : Nat) : look (σ.put dst r upd).tm t = if dst = some t then r else look σ.tm t := by
  cases dst with
  | none => simp [St.put]
  | some d => simp only [St.put, look, Option.some.injEq]

/-- What is entered when an operation has made the new world w', the value v and (if nid is among upd) a new block bn. -/
theorem Rel.upd {w0 : World} {okA : Nat → Prop} {F : Pn} {N : Nat} {Fr : Nat → Prop} {ρ : Nat → Nat} {σ : St} {a : Act} {w : World} (h : Rel w0 okA F N Fr ρ σ a w)
    (dst : Option Nat) (hd : ∀ d, dst = some d → d < N) (nid : Nat) (hn : Fr nid) (w' : World) (v : Value) (bn : Nat) (r : A) (u : List (Nat × Option O))
    (hup : ∀ id, id ∈ u.map (·.1) → id = nid ∨ (lookM σ.mm id).isSome = true)
    (hos : w'.os = w.os) (htape : w'.tape = w.tape) (hout : Out w w') (hsize : w.heap.size ≤ w'.heap.size)
    (hframe : ∀ b, b < w.heap.size → (∀ id, id ∈ u.map (·.1) → id ≠ nid → ρ id ≠ b) → w'.heap[b]? = w.heap[b]?)
    (hkeep : Keeps w w')
    (hbn : w.heap.size ≤ bn ∨ ∃ id, id ∈ u.map (·.1) ∧ (lookM σ.mm id).isSome = true ∧ lookM u id = none ∧ bn = ρ id)
    (hobj : ∀ id o, id ∈ u.map (·.1) → lookM u id = some o → RelO w' (okS w0 okA (fun i => if i = nid then bn else ρ i) (u ++ σ.mm)) (if id = nid then bn else ρ id) o)
    (hr : RelA w' (okS w0 okA (fun i => if i = nid then bn else ρ i) (u ++ σ.mm)) (fun i => if i = nid then bn else ρ i) r v)
    (hrid : ∀ id ∈ r.ids, ¬ Fr id ∨ id = nid) :
    Rel w0 okA F N (fun id => Fr id ∧ id ≠ nid) (fun i => if i = nid then bn else ρ i) (σ.put dst r u) (a.put dst v) w' := by
  have hlive : ∀ id, (lookM (u ++ σ.mm) id).isSome = true → id = nid ∨ (lookM σ.mm id).isSome = true := by
    intro id hid
    rw [lookM_append] at hid
    split at hid
    · exact hup id ‹_›
    · exact .inr hid
  have hlt : ∀ id, (lookM σ.mm id).isSome = true → ρ id < w.heap.size := by
    intro id hid
    obtain ⟨o, ho⟩ := Option.isSome_iff_exists.1 hid
    exact (h.mm id o ho).lt
  have hnn : lookM σ.mm nid = none := h.fr nid hn
  -- what was only read stays as it was
  have hstep : ∀ b, okS w0 okA ρ σ.mm b → b < w.heap.size → w'.heap[b]? = w.heap[b]? ∧ okS w0 okA (fun i => if i = nid then bn else ρ i) (u ++ σ.mm) b := by
    intro b hb hlb
    refine ⟨hframe b hlb fun id hid hne => hb.2 id ((hup id hid).resolve_left hne), hb.1, fun id hid => ?_⟩
    by_cases e : id = nid
    · simp only [e, if_true]
      rcases hbn with hbn | ⟨id', hu', hl', hd', rfl⟩
      · omega
      · exact hb.2 id' hl'
    · simp only [e, if_false]; exact hb.2 id ((hlive id hid).resolve_left e)
  have hdist : ∀ id, (lookM (u ++ σ.mm) id).isSome = true → id ≠ nid → bn ≠ ρ id := by
    intro id hid hne he
    have hl := (hlive id hid).resolve_left hne
    rcases hbn with hbn | ⟨id', hu', hl', hd', rfl⟩
    · have := hlt id hl; omega
    · have := h.inj id' id hl' hl he
      subst this
      rw [lookM_append, if_pos hu', hd'] at hid
      cases hid
  refine ⟨fun t => ?_, fun id o ho => ?_, fun id id' h1 h2 he => ?_, fun id hid => ?_, fun t id hid => ?_, fun id hid => ?_, hos.trans h.os, htape.trans h.tape, h.output.trans hout, Nat.le_trans h.size hsize, fun b hb hF => ?_, by rw [put_defers]; exact h.defers, by rw [put_size]; exact h.tsize, h.fa, h.keep.trans hkeep, fun id hid => ⟨by simp only [if_neg (show ¬ id = nid from fun e => (h.pin id hid).2 (e ▸ hn))]; exact (h.pin id hid).1, fun hF => (h.pin id hid).2 hF.1⟩⟩
  · rw [St.look_put, put_getD _ _ _ _ (fun d hd' => by rw [h.tsize]; exact hd d hd')]
    by_cases e : dst = some t
    · rw [if_pos e, if_pos e]; exact hr
    · rw [if_neg e, if_neg e]
      exact RelA.step hstep hsize hkeep _ _ (fun id hid => by
        have : id ≠ nid := fun e => h.frt t id hid (e ▸ hn)
        simp [this]) (h.tm t)
  · simp only [St.put] at ho
    rw [lookM_append] at ho
    by_cases hu : id ∈ u.map (·.1)
    · rw [if_pos hu] at ho
      exact hobj id o hu ho
    · rw [if_neg hu] at ho
      have hne : id ≠ nid := fun e => by rw [e, hnn] at ho; cases ho
      have hid : (lookM σ.mm id).isSome = true := by rw [ho]; rfl
      simp only [hne, if_false]
      have hsame : w'.heap[ρ id]? = w.heap[ρ id]? := hframe _ (hlt id hid) fun id' hid' hne' he => by
        have := h.inj id' id ((hup id' hid').resolve_left hne') hid he
        exact hu (this ▸ hid')
      exact RelO.step hstep hsize hsame (h.mm id o ho)
  · simp only [St.put] at h1 h2
    have l1 := hlive id h1
    have l2 := hlive id' h2
    by_cases e1 : id = nid
    · by_cases e2 : id' = nid
      · rw [e1, e2]
      · simp only [e1, e2, if_true, if_false] at he
        exact absurd he (hdist id' h2 e2)
    · by_cases e2 : id' = nid
      · simp only [e1, e2, if_true, if_false] at he
        exact absurd he.symm (hdist id h1 e1)
      · simp only [e1, e2, if_false] at he
        exact h.inj id id' (l1.resolve_left e1) (l2.resolve_left e2) he
  · simp only [St.put]
    rw [lookM_append, if_neg, h.fr id hid.1]
    intro hu
    rcases hup id hu with e | e
    · exact hid.2 e
    · rw [h.fr id hid.1] at e; cases e
  · intro hF
    rw [St.look_put] at hid
    by_cases e : dst = some t
    · rw [if_pos e] at hid
      rcases hrid id hid with h1 | h1
      · exact h1 hF.1
      · exact hF.2 h1
    · rw [if_neg e] at hid
      exact h.frt t id hid hF.1
  · simp only [St.put] at hid
    by_cases e : id = nid
    · simp only [e, if_true]
      rcases hbn with hbn | ⟨id', hu', hl', hd', rfl⟩
      · exact .inl (Nat.le_trans h.size hbn)
      · exact h.own id' hl'
    · simp only [e, if_false]; exact h.own id ((hlive id hid).resolve_left e)
  · rw [hframe b (Nat.lt_of_lt_of_le hb h.size) fun id hid hne he => ?_]
    · exact h.frame b hb hF
    · rcases h.own id ((hup id hid).resolve_left hne) with h1 | h1
      · omega
      · exact hF (he ▸ h1)

/-- An operation that leaves the world alone. -/
theorem Rel.upd0 {w0 : World} {okA : Nat → Prop} {F : Pn} {N : Nat} {Fr : Nat → Prop} {ρ : Nat → Nat} {σ : St} {a : Act} {w : World} (h : Rel w0 okA F N Fr ρ σ a w)
    (dst : Option Nat) (hd : ∀ d, dst = some d → d < N) (v : Value) (r : A) (hr : RelA w (okS w0 okA ρ σ.mm) ρ r v) (hrid : ∀ id ∈ r.ids, ¬ Fr id) :
    Rel w0 okA F N Fr ρ (σ.put dst r []) (a.put dst v) w := by
  refine ⟨fun t => ?_, h.mm, h.inj, h.fr, fun t id hid => ?_, h.own, h.os, h.tape, h.output, h.size, h.frame, by rw [put_defers]; exact h.defers, by rw [put_size]; exact h.tsize, h.fa, h.keep, h.pin⟩
  · rw [St.look_put, put_getD _ _ _ _ (fun d hd' => by rw [h.tsize]; exact hd d hd')]
    by_cases e : dst = some t
    · rw [if_pos e, if_pos e]; exact hr
    · rw [if_neg e, if_neg e]; exact h.tm t
  · rw [St.look_put] at hid
    by_cases e : dst = some t
    · rw [if_pos e] at hid; exact hrid id hid
    · rw [if_neg e] at hid; exact h.frt t id hid
theorem Rel.weakFr {w0 : World} {okA : Nat → Prop} {F : Pn} {N : Nat} {Fr Fr' : Nat → Prop} {ρ : Nat → Nat} {σ : St} {a : Act} {w : World} (h : Rel w0 okA F N Fr ρ σ a w) (hf : ∀ id, Fr' id → Fr id) :
    Rel w0 okA F N Fr' ρ σ a w := ⟨h.tm, h.mm, h.inj, fun id hid => h.fr id (hf id hid), fun t id hid hF => h.frt t id hid (hf id hF), h.own, h.os, h.tape, h.output, h.size, h.frame, h.defers, h.tsize, h.fa, h.keep, fun id hid => ⟨(h.pin id hid).1, fun hF => (h.pin id hid).2 (hf id hF)⟩⟩
end Go.Ev
/- What one operation does on the evaluator's state. -/
set_option linter.unusedVariables false
namespace Go.Ev
open Go Go.RowKit

/-- A row of the table of types. -/
structure TE where
  sz : Nat
  agg : Bool
  zero : T
  z : Value
  bytes : Nat
  elem : Option Nat
  flds : List (Nat × Nat)
  kind : Option IntKind
  isB : Bool := false
  mapOf : Option (Nat × TypeDesc × Nat) := none
  arr : Option (Nat × Nat) := none
structure TOk (P : Program) (t : Nat) (e : TE) : Prop where
  info : ∃ i, P.info? t = some i ∧ i.size = e.sz ∧ i.bytes = e.bytes ∧ i.zero = some e.z
  zsz : e.z.cells.size = e.sz
  zrel : ∀ w ok, RelT w ok e.zero e.z
  zone : e.zero.cells.all T.one = true
  pos : 0 < e.sz
  agg : ∀ w, (isAgg t).run P w = .ok e.agg w
  agg1 : e.agg = false → e.sz = 1
  elem : ∀ el, e.elem = some el → P.underlying t = some (.slice el)
  flds : e.flds ≠ [] → ∃ fs, P.underlying t = some (.struct fs) ∧ fs.toList.map (fun f => (f.offset, f.type)) = e.flds
  places : e.flds ≠ [] → ∀ fs, P.underlying t = some (.struct fs) → ∃ pl, fs.toList.mapM (fun f => (P.info? f.type).map fun i => (f.offset, i.size)) = some pl
  kind : ∀ k, e.kind = some k → P.underlying t = some (.int k)
  und : ∃ d, P.underlying t = some d
  isB : e.isB = true → P.underlying t = some .bool
  mapOf : ∀ kt d et, e.mapOf = some (kt, d, et) → P.underlying t = some (.map kt et) ∧ P.underlying kt = some d
  arr : ∀ el n, e.arr = some (el, n) → P.underlying t = some (.array n el)

/-- What a call hands back. -/
inductive Ret where
  | ts (l : List T)
  | own (E sz : Nat) (rows : List T)
  deriving Inhabited
def retVal : List Value → Value
  | [u] => u
  | us => .tuple us.toArray
def Ret.a (nid : Nat) : Ret → A
  | .ts [t] => .t t
  | .ts l => .tup (l.map .t)
  | .own E sz rows => .ms nid sz 0 rows.length
def Ret.upd (nid : Nat) : Ret → List (Nat × Option O)
  | .ts _ => []
  | .own E sz rows => [(nid, some ⟨E, sz, rows⟩)]
def RelRet (w : World) (ok : Nat → Prop) (bn : Nat) : Ret → Value → Prop
  | .ts l, v => ∃ us, v = retVal us ∧ RelL w ok l us
  | .own E sz rows, v => ∃ c, v = .slice (some ⟨bn, 0, none⟩) rows.length c ∧ rows.length ≤ c ∧ Room w bn sz c ∧ RelOc w ok bn ⟨E, sz, rows⟩
/-- A function's meaning on what the evaluator knows. -/
abbrev Spec := List A → (Nat → Option O) → Option (Ret × List (Nat × Option O))

/-- The slices and objects that a value names, read as trees. -/
def viewT (m : Nat → Option O) : A → Option T
  | .t x => some x
  | .nil sz => some (.sl sz [])
  | .ip l => some (.ip l)
  | .ms id sz lo len =>
    match m id with
    | some o => if o.sz = sz ∧ lo + len ≤ o.rows.length then some (.sl sz ((o.rows.drop lo).take len)) else none
    | none => none
  | _ => none
def kills : A → List (Nat × Option O)
  | .ms id _ _ _ => [(id, none)]
  | _ => []

def intBin (op : BinOp) (k : IntKind) (x y : Int) : Option Value :=
  match op with
  | .add => some (.int k (k.wrap (x + y)))
  | .sub => some (.int k (k.wrap (x - y)))
  | .mul => some (.int k (k.wrap (x * y)))
  | .quo => if y = 0 then none else some (.int k (k.wrap (x.tdiv y)))
  | .rem => if y = 0 then none else some (.int k (x.tmod y))
  | .and => some (.int k (k.wrap ((BitVec.ofInt k.bits x &&& BitVec.ofInt k.bits y).toNat)))
  | .or => some (.int k (k.wrap ((BitVec.ofInt k.bits x ||| BitVec.ofInt k.bits y).toNat)))
  | .xor => some (.int k (k.wrap ((BitVec.ofInt k.bits x ^^^ BitVec.ofInt k.bits y).toNat)))
  | .eql => some (.bool (x == y))
  | .neq => some (.bool (x != y))
  | .lss => some (.bool (decide (x < y)))
  | .leq => some (.bool (decide (x ≤ y)))
  | .gtr => some (.bool (decide (x > y)))
  | .geq => some (.bool (decide (x ≥ y)))
  | _ => none
def binV (op : BinOp) : Value → Value → Option Value
  | .int k x, .int k' y =>
    match op with
    | .shl => if y < 0 then none else some (.int k (k.wrap (x * 2 ^ (min y.toNat k.bits))))
    | .shr => if y < 0 then none else some (.int k (x.fdiv (2 ^ (min y.toNat k.bits))))
    | _ => if k = k' then intBin op k x y else none
  | _, _ => none
/-- Booleans that are compared. -/
def boolV (e : Option TE) (op : BinOp) : Value → Value → Option Value
  | .bool a, .bool b =>
    match e with
    | some e => if e.isB = true then match op with
        | .eql => some (.bool (a == b))
        | .neq => some (.bool (a != b))
        | _ => none
      else none
    | none => none
  | _, _ => none
def unV (op : UnOp) : Value → Option Value
  | .int k n => match op with | .neg => some (.int k (k.wrap (0 - n))) | _ => none
  | .bool b => match op with | .not => some (.bool !b) | _ => none
  | _ => none

/-- Cells put into others. -/
def putCells (l : List T) (off : Nat) (n : List T) : List T := l.take off ++ n ++ l.drop (off + n.length)
def fillA (flds : List (Nat × Nat)) (szOf : Nat → Option Nat) : List T → List (Nat × List T) → Option (List T)
  | cs, [] => some cs
  | cs, (i, n) :: rest =>
    match flds[i]? with
    | some (off, ft) => if szOf ft = some n.length ∧ off + n.length ≤ cs.length then fillA flds szOf (putCells cs off n) rest else none
    | none => none
def mkT (agg : Bool) (l : List T) : Option T :=
  if agg then some (.agg l) else match l with | [t] => some t | _ => none
/-- Cells off .. off + n of an element. -/
def cut (l : List T) (off n : Nat) : Option (List T) := if off + n ≤ l.length then some ((l.drop off).take n) else none
def T.ofCells (agg : Bool) (l : List T) : T := if agg then .agg l else l.headD default

/-- A map's entries as trees: what is looked up, what is put in. -/
def keyEq : Value → Value → Bool
  | .int k a, .int k' b => k == k' && a == b
  | .string a, .string b => a == b
  | .bool a, .bool b => a == b
  | _, _ => false
def keyB (d : TypeDesc) (v : Value) : Bool :=
  match d, v with
  | .int k, .int k' _ => decide (k' = k)
  | .string, .string _ => true
  | .bool, .bool _ => true
  | _, _ => false
def keyT (d : TypeDesc) : T → Bool
  | .agg [.v k, _] => keyB d k
  | _ => false
def mGet (k : Value) : List T → Option T
  | [] => none
  | .agg [.v k', t] :: l => if keyEq k k' = true then some t else mGet k l
  | _ :: l => mGet k l
def mSet (k : Value) (t : T) : List T → List T
  | [] => [.agg [.v k, t]]
  | .agg [.v k', t'] :: l => if keyEq k k' = true then .agg [.v k', t] :: l else .agg [.v k', t'] :: mSet k t l
  | x :: l => x :: mSet k t l
def lookR (ok : Bool) (g : Option T) (z : T) : A := if ok = true then .tup [.t (g.getD z), .t (.v (.bool g.isSome))] else .t (g.getD z)
def mapL : List T → Option (List T)
  | [.agg [.agg l], .v (.agg ⟨[]⟩)] => some l
  | _ => none

def idx : A → Option Int
  | .t (.v (.int _ i)) => some i
  | _ => none

/-- The value of a nil of a slice's type, read as a list. -/
def nilSz (tt : Nat → Option TE) (ty : Nat) : Option Nat :=
  match tt ty with
  | some e => match e.elem with
    | some el => match tt el with
      | some ee => some ee.sz
      | none => none
    | none => none
  | none => none
def fixNilS (tt : Nat → Option TE) (ty : Nat) (p : Option Addr) (n c : Nat) : A :=
  match p, n, c with
  | none, 0, 0 => match nilSz tt ty with
    | some sz => .nil sz
    | none => .t (.v (.slice none 0 0))
  | p, n, c => .t (.v (.slice p n c))
def fixNilV (tt : Nat → Option TE) (ty : Nat) : Value → A
  | .slice p n c => fixNilS tt ty p n c
  | x => .t (.v x)
def fixNilT (tt : Nat → Option TE) (ty : Nat) : T → A
  | .v x => fixNilV tt ty x
  | t => .t t
def fixNil (tt : Nat → Option TE) (ty : Nat) : A → A
  | .t x => fixNilT tt ty x
  | a => a

def aLoad (e : TE) (m : Nat → Option O) : A → Option A
  | .mp id sz row off =>
    match m id with
    | some o => if o.sz = sz then
        match o.rows[row]? with
        | some r => if r.cells.all T.one then
            match cut r.cells off e.sz with
            | some l => (mkT e.agg l).map .t
            | none => none
          else none
        | none => none
      else none
    | none => none
  | .ip l =>
    match cut l 0 e.sz with
    | some l => (mkT e.agg l).map .t
    | none => none
  | .t (.ip l) =>
    match cut l 0 e.sz with
    | some l => (mkT e.agg l).map .t
    | none => none
  | _ => none
def aStore (e : TE) (m : Nat → Option O) (x : T) : A → Option (Nat × O)
  | .mp id sz row off =>
    match m id with
    | some o => if o.sz = sz ∧ x.cells.length = e.sz ∧ x.cells.all T.one then
        match o.rows[row]? with
        | some r => if r.cells.all T.one ∧ off + e.sz ≤ r.cells.length ∧ r.cells.length = sz then
            some (id, { o with rows := o.rows.set row (match r with | .agg l => .agg (putCells l off x.cells) | _ => x) })
          else none
        | none => none
      else none
    | none => none
  | _ => none
def aIndex (tt : Nat → Option TE) (t : Nat) (x : A) (i : Int) : Option A :=
  match tt t with
  | some e => match e.elem with
    | some el => match tt el with
      | some ee => match x with
        | .t (.sl sz l) => if sz = ee.sz ∧ 0 ≤ i ∧ i < l.length then
            match l[i.toNat]? with
            | some r => if r.cells.all T.one ∧ r.cells.length = sz then some (.ip r.cells) else none
            | none => none
          else none
        | .ms id sz lo len => if sz = ee.sz ∧ 0 ≤ i ∧ i < len then some (.mp id sz (lo + i.toNat) 0) else none
        | .t (.v _) => none
        | .t (.agg _) => none
        | .t (.ip _) => none
        | .t (.fn _ _) => none
        | .mp .. => none
        | .ip _ => none
        | .nil _ => none
        | .mr _ => none
        | .tup _ => none
        | .top => none
      | none => none
    | none => match e.arr with
      | some (el, n) => match tt el with
        | some ee => match x with
          | .mp id sz row off => if 0 ≤ i ∧ i < n then some (.mp id sz row (off + i.toNat * ee.sz)) else none
          | .t _ => none
          | .ms .. => none
          | .ip _ => none
          | .nil _ => none
          | .mr _ => none
          | .tup _ => none
          | .top => none
        | none => none
      | none => none
  | none => none
def aSlice (tt : Nat → Option TE) (t : Nat) (x : A) (lo hi : Int) : Option A :=
  match tt t with
  | some e => match e.elem with
    | some el => match tt el with
      | some ee => match x with
        | .t (.sl sz l) => if (sz = ee.sz ∨ l.length = 0) ∧ 0 ≤ lo ∧ lo ≤ hi ∧ hi ≤ l.length then some (.t (.sl sz ((l.take hi.toNat).drop lo.toNat))) else none
        | .ms id sz l0 len => if sz = ee.sz ∧ 0 ≤ lo ∧ lo ≤ hi ∧ hi ≤ len ∧ (lo = 0 ∨ lo < hi) then some (.ms id sz (l0 + lo.toNat) (hi.toNat - lo.toNat)) else none
        | .t (.v _) => none
        | .t (.agg _) => none
        | .t (.ip _) => none
        | .t (.fn _ _) => none
        | .mp .. => none
        | .ip _ => none
        | .nil _ => none
        | .mr _ => none
        | .tup _ => none
        | .top => none
      | none => none
    | none => none
  | none => none
def aLen : A → Option Nat
  | .t (.sl _ l) => some l.length
  | .ms _ _ _ len => some len
  | .nil _ => some 0
  | .t (.v (.string s)) => some s.size
  | _ => none

def restr (ids : List Nat) (m : Nat → Option O) (id : Nat) : Option O := if id ∈ ids then m id else none

/-- One operation: its value and what it changes. nid: the number of the object that it may make. -/
def aop (tt : Nat → Option TE) (sp : Nat → Option Spec) (nid : Nat) (o : Oper) (ev : Operand → A) (m : Nat → Option O) : Option (A × List (Nat × Option O)) :=
  match o.op with
  | .move x | .assign x => some (fixNil tt o.type (ev x), [])
  | .pick c a b =>
    match ev c with
    | .t (.v (.bool b')) => some (if b' then ev a else ev b, [])
    | _ => none
  | .alloc E =>
    match tt E with
    | some e => some (.mp nid e.sz 0 0, [(nid, some ⟨E, e.sz, [e.zero]⟩)])
    | none => none
  | .box E x =>
    match tt E, viewT m (ev x) with
    | some e, some t => if t.cells.length = e.sz ∧ t.cells.all T.one then
        match e.elem with
        | some _ => some (.ip t.cells, kills (ev x))
        | none => some (.mp nid e.sz 0 0, (nid, some ⟨E, e.sz, [t]⟩) :: kills (ev x))
      else none
    | _, _ => none
  | .load t a =>
    match tt t with
    | some e => (aLoad e m (ev a)).map (·, [])
    | none => none
  | .store t a x =>
    match tt t, viewT m (ev x) with
    | some e, some v => match aStore e m v (ev a) with
      | some (id, o') => if (kills (ev x)).all (fun p => p.1 != id) then some (.t (.v undef), (id, some o') :: kills (ev x)) else none
      | none => none
    | _, _ => none
  | .fieldAddr s x f =>
    match tt s with
    | some e => match e.flds[f]? with
      | some (off, ft) => match tt ft with
        | some _ => match ev x with
          | .mp id sz row o => some (.mp id sz row (o + off), [])
          | .ip l => some (.ip (l.drop off), [])
          | _ => none
        | none => none
      | none => none
    | none => none
  | .field s x f =>
    match tt s with
    | some e => match e.flds[f]? with
      | some (off, ft) => match tt ft, ev x with
        | some fe, .t (.agg l) => match cut l off fe.sz with
          | some c => (mkT fe.agg c).map (A.t ·, [])
          | none => none
        | _, _ => none
      | none => none
    | none => none
  | .indexAddr t x ix =>
    match idx (ev ix) with
    | some i => (aIndex tt t (ev x) i).map (·, [])
    | none => none
  | .extract x i =>
    match ev x with
    | .tup l => l[i]?.map (·, [])
    | _ => none
  | .binOp op t x y _ =>
    match ev x, ev y with
    | .t (.v a), .t (.v b) =>
      match boolV (tt t) op a b with
      | some v => some (.t (.v v), [])
      | none => (binV op a b).map (fun v => (.t (.v v), []))
    | _, _ => none
  | .unOp op _ x =>
    match ev x with
    | .t (.v a) => (unV op a).map (fun v => (.t (.v v), []))
    | _ => none
  | .convert s d x =>
    match tt s, tt d, ev x with
    | some _, some e, .t (.v (.int _ n)) => match e.kind with
      | some k => some (.t (.v (.int k (k.wrap n))), [])
      | none => none
    | _, _, _ => none
  | .makeSlice t l c =>
    match tt t, ev l, ev c with
    | some e, .t (.v (.int _ n)), .t (.v (.int _ n')) => match e.elem with
      | some el => match tt el with
        | some ee => if n = n' ∧ 0 ≤ n ∧ ee.bytes * n ≤ 281474976710656 ∧ n ≤ 9223372036854775807 then
            some (.ms nid ee.sz 0 n.toNat, [(nid, some ⟨el, ee.sz, List.replicate n.toNat ee.zero⟩)]) else none
        | none => none
      | none => none
    | _, _, _ => none
  | .slice t x lo hi mx =>
    match mx with
    | some _ => none
    | none =>
      match (match lo with | none => some 0 | some y => idx (ev y)), (match hi with | none => (aLen (ev x)).map Int.ofNat | some y => idx (ev y)) with
      | some l, some h => (aSlice tt t (ev x) l h).map (·, [])
      | _, _ => none
  | .call c =>
    match c.callee with
    | .value (.func f) =>
      match sp f with
      | some s =>
        let args := c.args.toList.map ev
        match s args (restr (A.ids.idsL args) m) with
        | some (r, u) => some (r.a nid, r.upd nid ++ u)
        | none => none
      | none => none
    | .builtin .len =>
      match c.args.toList, c.argTypes.toList with
      | [x], t0 :: _ => match tt t0 with
        | some e => match e.elem, ev x with
          | some _, .t (.sl _ l) => some (.t (.v (.int .i64 l.length)), [])
          | some _, .ms _ _ _ len => some (.t (.v (.int .i64 len)), [])
          | some _, .nil _ => some (.t (.v (.int .i64 0)), [])
          | _, _ => none
        | none => none
      | _, _ => none
    | .builtin .append =>
      match c.args.toList, c.argTypes.toList with
      | [s, x], [t0, t1] =>
        match tt t0 with
        | some e => match e.elem with
          | some el => match tt el, viewT m (ev x) with
            | some ee, some (.sl sz l) =>
              if t0 = t1 ∧ sz = ee.sz ∧ l.all (fun t => t.cells.all T.one) = true then
                match fixNil tt t0 (ev s) with
                | .nil _ =>
                  if l.length ≤ 9223372036854775807 ∧ l.length * ee.bytes ≤ 140737488355328 then
                    if l.length = 0 then some (.nil ee.sz, []) else some (.ms nid ee.sz 0 l.length, [(nid, some ⟨el, ee.sz, l⟩)])
                  else none
                | .ms id sz0 0 len =>
                  match m id with
                  | some o =>
                    if o.sz = ee.sz ∧ sz0 = ee.sz ∧ o.E = el ∧ o.rows.length = len ∧ len + l.length ≤ 9223372036854775807 ∧ (len + l.length) * ee.bytes ≤ 140737488355328 then
                      some (.ms nid ee.sz 0 (len + l.length), [(nid, some ⟨el, ee.sz, o.rows ++ l⟩), (id, none)])
                    else none
                  | none => none
                | _ => none
              else none
            | _, _ => none
          | none => none
        | none => none
      | _, _ => none
    | .builtin .max =>
      match c.args.toList with
      | [x, y] => match ev x, ev y with
        | .t (.v (.int k a)), .t (.v (.int _ b)) => some (.t (.v (.int k (if b > a then b else a))), [])
        | _, _ => none
      | _ => none
    | .builtin .min =>
      match c.args.toList with
      | [x, y] => match ev x, ev y with
        | .t (.v (.int k a)), .t (.v (.int _ b)) => some (.t (.v (.int k (if b < a then b else a))), [])
        | _, _ => none
      | _ => none
    | _ => none
  | .build t parts =>
    match tt t, (parts.toList.mapM fun p => (viewT m (ev p.2)).map fun x => (p.1, x.cells)) with
    | some e, some ps =>
      if e.flds ≠ [] ∧ ps.all (fun p => p.2.all T.one) then
        match fillA e.flds (fun ft => (tt ft).map (·.sz)) e.zero.cells ps with
        | some l => some (.t (.agg l), parts.toList.flatMap fun p => kills (ev p.2))
        | none => none
      else none
    | _, _ => none
  | .makeMap t hint =>
    match hint, tt t with
    | none, some e => match e.mapOf with
      | some _ => some (.mr nid, [(nid, some ⟨t, 0, [.agg [.agg []], .v (.agg #[])]⟩)])
      | none => none
    | _, _ => none
  | .lookup t x k ok =>
    match tt t, ev x, ev k with
    | some e, .mr id, .t (.v kv) => match e.mapOf, m id with
      | some (_, d, et), some q => match tt et, mapL q.rows with
        | some ee, some l => if keyB d kv = true ∧ l.all (keyT d) = true then some (lookR ok (mGet kv l) ee.zero, []) else none
        | _, _ => none
      | _, _ => none
    | _, _, _ => none
  | .mapUpdate t x k y | .insert t x k y =>
    match tt t, ev x, ev k with
    | some e, .mr id, .t (.v kv) => match e.mapOf, m id with
      | some (_, d, _), some q => match mapL q.rows, viewT m (ev y) with
        | some l, some tv => if keyB d kv = true ∧ l.all (keyT d) = true ∧ (kills (ev y)).all (fun p => p.1 != id) = true then
            some (.t (.v undef), (id, some ⟨q.E, q.sz, [.agg [.agg (mSet kv tv l)], .v (.agg #[])]⟩) :: kills (ev y)) else none
        | _, _ => none
      | _, _ => none
    | _, _, _ => none
  | .makeFunc (.func f) first caps =>
    match first.toList, (caps.toList.mapM fun x => viewT m (ev x)) with
    | [], some ts => some (.t (.fn f ts), caps.toList.flatMap fun x => kills (ev x))
    | _, _ => none
  | .buildSlice t len parts =>
    match tt t with
    | some e => match e.elem with
      | some el => match tt el, (parts.toList.mapM fun p => viewT m (ev p.2)) with
        | some ee, some ps =>
          if parts.toList.map (·.1) = List.range len ∧ ps.all (fun x => x.cells.all T.one && x.cells.length == ee.sz) ∧ len * ee.sz ≤ 16777216 then
            some (.ms nid ee.sz 0 len, (nid, some ⟨el, ee.sz, ps⟩) :: parts.toList.flatMap fun p => kills (ev p.2))
          else none
        | _, _ => none
      | none => none
    | none => none
  | _ => none

/-- The operands' values. -/
def evA (σ : St) : Operand → A
  | .tmp t => look σ.tm t
  | .const v => .t (.v v)
  | .func f => .t (.v (.func (.func f) #[] #[]))
  | .global g => .t (.v (.pointer (some ⟨g, 0, none⟩)))
end Go.Ev
/- Each operation of the evaluator is the machine's. -/
set_option linter.unusedVariables false
namespace Go.Ev
open Go Go.RowKit
section
variable {P : Program} {tt : Nat → Option TE} {sp : Nat → Option Spec} {w0 : World} {okA : Nat → Prop} {F : Pn} {N : Nat} {Fr : Nat → Prop} {ρ : Nat → Nat} {σ : St} {a : Act} {w : World}

theorem Rel.ev (h : Rel w0 okA F N Fr ρ σ a w) (x : Operand) : RelA w (okS w0 okA ρ σ.mm) ρ (evA σ x) (a.eval x) ∧ ∀ id ∈ (evA σ x).ids, ¬ Fr id := by
  cases x with
  | tmp t => exact ⟨h.tm t, h.frt t⟩
  | const v => exact ⟨by simp [evA, Act.eval, RelA, RelT], by simp [evA, A.ids]⟩
  | func f => exact ⟨by simp [evA, Act.eval, RelA, RelT], by simp [evA, A.ids]⟩
  | global g => exact ⟨by simp [evA, Act.eval, RelA, RelT], by simp [evA, A.ids]⟩

theorem fixNil_rel {ok : Nat → Prop} {ty : Nat} {x : A} {u : Value} (h : RelA w ok ρ x u) : RelA w ok ρ (fixNil tt ty x) u := by
  cases x with
  | t x =>
    cases x with
    | v x =>
      cases x with
      | slice p n c =>
        show RelA w ok ρ (fixNilS tt ty p n c) u
        unfold fixNilS
        split
        · split
          · simp only [RelA, RelT] at h ⊢; exact h
          · exact h
        · exact h
      | _ => exact h
    | _ => exact h
  | _ => exact h
theorem fixNil_ids {ty : Nat} {x : A} : (fixNil tt ty x).ids = x.ids := by
  cases x with
  | t x =>
    cases x with
    | v x =>
      cases x with
      | slice p n c =>
        show (fixNilS tt ty p n c).ids = _
        unfold fixNilS
        split
        · split
          · rfl
          · rfl
        · rfl
      | _ => rfl
    | _ => rfl
  | _ => rfl

/-- The state of what an operation leaves, where nothing of memory changes. -/
theorem done0 (h : Rel w0 okA F N Fr ρ σ a w) {o : Oper} (hd : ∀ d, o.dst = some d → d < N) {nid : Nat} {r : A} {v : Value} {K : Act → World → Prop}
    (hr : RelA w (okS w0 okA ρ σ.mm) ρ r v) (hi : ∀ id ∈ r.ids, ¬ Fr id)
    (hK : ∀ ρ' a' w', Rel w0 okA F N (fun id => Fr id ∧ id ≠ nid) ρ' (σ.put o.dst r []) a' w' → K a' w') : K (a.put o.dst v) w :=
  hK ρ _ _ ((h.upd0 o.dst hd v r hr hi).weakFr fun id hid => hid.1)

theorem killsIds (x : A) : ∀ id ∈ (kills x).map (·.1), id ∈ x.ids := by
  cases x <;> simp [kills, A.ids]
theorem kills_none (x : A) (id : Nat) (o : O) : lookM (kills x) id ≠ some o := by
  cases x <;> simp [kills, lookM]

/-- What a value reads as, seen where its own objects are dead. -/
theorem viewT_rel (h : Rel w0 okA F N Fr ρ σ a w) {x : A} {u : Value} {t : T} (hx : RelA w (okS w0 okA ρ σ.mm) ρ x u) (hv : viewT (lookM σ.mm) x = some t)
    {ok' : Nat → Prop} (hok : ∀ b, okS w0 okA ρ σ.mm b → ok' b) (hkill : ∀ id, id ∈ (kills x).map (·.1) → (lookM σ.mm id).isSome = true → ok' (ρ id)) : RelT w ok' t u := by
  have hst : ∀ b, okS w0 okA ρ σ.mm b → b < w.heap.size → w.heap[b]? = w.heap[b]? ∧ ok' b := fun b hb _ => ⟨rfl, hok b hb⟩
  cases x with
  | t x =>
    simp only [viewT, Option.some.injEq] at hv
    subst hv
    simp only [RelA] at hx
    exact RelT.step hst (Nat.le_refl _) _ _ hx
  | ms id sz lo len =>
    simp only [viewT] at hv
    cases hm : lookM σ.mm id with
    | none => simp [hm] at hv
    | some o =>
      simp only [hm] at hv
      split at hv
      · rename_i hc
        simp only [Option.some.injEq] at hv
        subst hv
        obtain ⟨hsz, hlen⟩ := hc
        simp only [RelA] at hx
        obtain ⟨c, rfl, hc, hroom⟩ := hx
        obtain ⟨⟨cs, hb, hcs⟩, hp, hR⟩ := (h.mm id o hm).room hroom
        have hll : ((o.rows.drop lo).take len).length = len := by simp; omega
        simp only [RelT]
        refine ⟨_, c, by rw [hll], by rw [hll]; exact hc, fun _ => ⟨ρ id, lo * sz, rfl, hkill id (by simp [kills]) (by rw [hm]; rfl), (Array.getElem?_eq_some_iff.1 hb).1, ?_⟩⟩
        have := (RelR.drop hR lo).take len
        rw [hsz] at this
        simp only [Nat.zero_add] at this
        exact RelR.step hst (Nat.le_refl _) _ rfl _ _ _ this
      · cases hv
  | nil sz =>
    simp only [viewT, Option.some.injEq] at hv
    subst hv
    simp only [RelA] at hx
    subst hx
    simp only [RelT]
    exact ⟨none, 0, rfl, Nat.le_refl _, fun hl => absurd hl (by simp)⟩
  | ip l =>
    simp only [viewT, Option.some.injEq] at hv
    subst hv
    simp only [RelA] at hx
    exact RelT.step hst (Nat.le_refl _) _ _ (by simp only [RelT]; exact hx)
  | _ => simp [viewT] at hv

theorem retSkip (a : Act) (dst : Option Nat) : a.put dst undef = a.put dst undef := rfl

theorem ok_move (h : Rel w0 okA F N Fr ρ σ a w) {nid : Nat} {o : Oper} (hd : ∀ d, o.dst = some d → d < N) {x : Operand} (ho : o.op = .move x ∨ o.op = .assign x) {r : A} {u : List (Nat × Option O)}
    (he : aop tt sp nid o (evA σ) (lookM σ.mm) = some (r, u)) {K : Act → World → Prop} {Q : Exit → Act → World → Prop}
    (hK : ∀ ρ' a' w', Rel w0 okA F N (fun id => Fr id ∧ id ≠ nid) ρ' (σ.put o.dst r u) a' w' → K a' w') : o.wp P a w K Q := by
  obtain ⟨h1, h2⟩ := h.ev x
  have hrun : (execOp a.eval o).run P w = .ok (.value (a.eval x)) w := by rcases ho with ho | ho <;> simp [execOp, ho]
  unfold Oper.wp
  rw [hrun, Oper.upon_value]
  have he' : r = fixNil tt o.type (evA σ x) ∧ u = [] := by rcases ho with ho | ho <;> simp [aop, ho] at he <;> exact ⟨he.1.symm, he.2⟩
  obtain ⟨rfl, rfl⟩ := he'
  exact done0 h hd (fixNil_rel h1) (by rw [fixNil_ids]; exact h2) hK

theorem ok_pick (h : Rel w0 okA F N Fr ρ σ a w) {nid : Nat} {o : Oper} (hd : ∀ d, o.dst = some d → d < N) {c x y : Operand} (ho : o.op = .pick c x y) {r : A} {u : List (Nat × Option O)}
    (he : aop tt sp nid o (evA σ) (lookM σ.mm) = some (r, u)) {K : Act → World → Prop} {Q : Exit → Act → World → Prop}
    (hK : ∀ ρ' a' w', Rel w0 okA F N (fun id => Fr id ∧ id ≠ nid) ρ' (σ.put o.dst r u) a' w' → K a' w') : o.wp P a w K Q := by
  simp only [aop, ho] at he
  split at he
  · rename_i b hb
    have hc := (h.ev c).1
    rw [hb] at hc
    simp only [RelA, RelT] at hc
    have hrun : (execOp a.eval o).run P w = .ok (.value (if b then a.eval x else a.eval y)) w := by simp [execOp, ho, hc, asBool]
    unfold Oper.wp
    rw [hrun, Oper.upon_value]
    simp only [Option.some.injEq, Prod.mk.injEq] at he
    obtain ⟨rfl, rfl⟩ := he
    cases b
    · exact done0 h hd (h.ev y).1 (h.ev y).2 hK
    · exact done0 h hd (h.ev x).1 (h.ev x).2 hK
  · cases he

theorem ok_extract (h : Rel w0 okA F N Fr ρ σ a w) {nid : Nat} {o : Oper} (hd : ∀ d, o.dst = some d → d < N) {x : Operand} {i : Nat} (ho : o.op = .extract x i) {r : A} {u : List (Nat × Option O)}
    (he : aop tt sp nid o (evA σ) (lookM σ.mm) = some (r, u)) {K : Act → World → Prop} {Q : Exit → Act → World → Prop}
    (hK : ∀ ρ' a' w', Rel w0 okA F N (fun id => Fr id ∧ id ≠ nid) ρ' (σ.put o.dst r u) a' w' → K a' w') : o.wp P a w K Q := by
  simp only [aop, ho] at he
  split at he
  · rename_i l hl
    obtain ⟨hc, hi⟩ := h.ev x
    rw [hl] at hc hi
    simp only [RelA] at hc
    obtain ⟨us, hu, hR⟩ := hc
    cases hli : l[i]? with
    | none => simp [hli] at he
    | some y =>
      simp only [hli, Option.map_some, Option.some.injEq, Prod.mk.injEq] at he
      obtain ⟨rfl, rfl⟩ := he
      have key : ∀ (l : List A) (us : List Value) (i : Nat) (y : A), RelAL w (okS w0 okA ρ σ.mm) ρ l us → l[i]? = some y → (∃ v, us[i]? = some v ∧ RelA w (okS w0 okA ρ σ.mm) ρ y v) ∧ ∀ id ∈ y.ids, id ∈ A.ids.idsL l := by
        intro l
        induction l with
        | nil => intro us i y _ h; simp at h
        | cons z l ih =>
          intro us i y hR hy
          simp only [RelAL] at hR
          obtain ⟨v, us', rfl, h1, h2⟩ := hR
          cases i with
          | zero => simp at hy; subst hy; exact ⟨⟨v, rfl, h1⟩, fun id hid => by simp [A.ids.idsL, hid]⟩
          | succ i =>
            simp at hy
            obtain ⟨⟨v', e1, e2⟩, e3⟩ := ih us' i y h2 hy
            exact ⟨⟨v', by simpa using e1, e2⟩, fun id hid => by simp [A.ids.idsL, e3 id hid]⟩
      obtain ⟨⟨v, e1, e2⟩, e3⟩ := key l us.toList i y hR hli
      have e1' : us[i]? = some v := by simpa using e1
      have hrun : (execOp a.eval o).run P w = .ok (.value v) w := by simp [execOp, ho, hu, Instr.extract, e1']
      unfold Oper.wp
      rw [hrun, Oper.upon_value]
      exact done0 h hd e2 (fun id hid => hi id (by simpa [A.ids] using e3 id hid)) hK
  · cases he

theorem intBin_run {op : BinOp} {k : IntKind} {x y : Int} {v : Value} (hs : op ≠ .shl ∧ op ≠ .shr) (h : intBin op k x y = some v) (t : TypeId) (w : World) : (binOp op t (.int k x) (.int k y)).run P w = .ok v w := by
  cases op <;> simp only [intBin] at h <;> first
    | (simp at h; done)
    | (split at h <;> simp_all [binOp, Op.intDiv]; done)
    | (simp only [Option.some.injEq] at h; subst h; simp [binOp, Op.intArith, Op.intCmp, Op.intBits]; done)
    | (simp at hs; done)
theorem binV_run {op : BinOp} {x y v : Value} (h : binV op x y = some v) (t : TypeId) (w : World) : (binOp op t x y).run P w = .ok v w := by
  unfold binV at h
  split at h
  · rename_i k a k' b
    split at h
    · split at h
      · cases h
      · rename_i hb
        simp only [Option.some.injEq] at h; subst h
        simp [binOp, Op.shift, hb]
    · split at h
      · cases h
      · rename_i hb
        simp only [Option.some.injEq] at h; subst h
        simp [binOp, Op.shift, hb]
    · rename_i h1 h2
      split at h
      · rename_i hk
        subst hk
        exact intBin_run ⟨fun e => h1 e, fun e => h2 e⟩ h t w
      · cases h
  · cases h
theorem eqGuard_int {op : BinOp} {t : TypeId} {x y : Operand} {k k' : IntKind} {a b : Int} : (eqGuard op t x y (.int k a) (.int k' b)).run P w = .ok () w := by
  cases op <;> simp [eqGuard]

theorem eqGuard_bool {op : BinOp} {t : TypeId} {x y : Operand} {a b : Bool} : (eqGuard op t x y (.bool a) (.bool b)).run P w = .ok () w := by
  cases op <;> simp [eqGuard]

theorem ok_binOp (hT : ∀ t e, tt t = some e → TOk P t e) (h : Rel w0 okA F N Fr ρ σ a w) {nid : Nat} {o : Oper} (hd : ∀ d, o.dst = some d → d < N) {op : BinOp} {t t' : TypeId} {x y : Operand} (ho : o.op = .binOp op t x y t') {r : A} {u : List (Nat × Option O)}
    (he : aop tt sp nid o (evA σ) (lookM σ.mm) = some (r, u)) {K : Act → World → Prop} {Q : Exit → Act → World → Prop}
    (hK : ∀ ρ' a' w', Rel w0 okA F N (fun id => Fr id ∧ id ≠ nid) ρ' (σ.put o.dst r u) a' w' → K a' w') : o.wp P a w K Q := by
  simp only [aop, ho] at he
  split at he
  · rename_i x' y' hx hy
    have h1 := (h.ev x).1
    have h2 := (h.ev y).1
    rw [hx] at h1; rw [hy] at h2
    simp only [RelA, RelT] at h1 h2
    cases hbb : boolV (tt t) op x' y' with
    | some v =>
      simp only [hbb, Option.some.injEq, Prod.mk.injEq] at he
      obtain ⟨rfl, rfl⟩ := he
      have hrun : (execOp a.eval o).run P w = .ok (.value v) w := by
        unfold boolV at hbb
        split at hbb
        · split at hbb
          · rename_i e het
            split at hbb
            · rename_i hB
              have hu := (hT t e het).isB hB
              split at hbb
              · simp only [Option.some.injEq] at hbb; subst hbb
                simp [execOp, ho, h1, h2, eqGuard_bool, binOp, run_equal_bool w t _ _ hu]
              · simp only [Option.some.injEq] at hbb; subst hbb
                simp [execOp, ho, h1, h2, eqGuard_bool, binOp, run_equal_bool w t _ _ hu, bne]
              · cases hbb
            · cases hbb
          · cases hbb
        · cases hbb
      unfold Oper.wp
      rw [hrun, Oper.upon_value]
      exact done0 h hd (by simp [RelA, RelT]) (by simp [A.ids]) hK
    | none =>
    simp only [hbb] at he
    cases hb : binV op x' y' with
    | none => simp [hb] at he
    | some v =>
      simp only [hb, Option.map_some, Option.some.injEq, Prod.mk.injEq] at he
      obtain ⟨rfl, rfl⟩ := he
      have hg : (eqGuard op t x y x' y').run P w = .ok () w := by
        unfold binV at hb
        split at hb
        · exact eqGuard_int
        · cases hb
      have hrun : (execOp a.eval o).run P w = .ok (.value v) w := by simp [execOp, ho, h1, h2, hg, binV_run hb]
      unfold Oper.wp
      rw [hrun, Oper.upon_value]
      exact done0 h hd (by simp [RelA, RelT]) (by simp [A.ids]) hK
  · cases he
theorem ok_unOp (h : Rel w0 okA F N Fr ρ σ a w) {nid : Nat} {o : Oper} (hd : ∀ d, o.dst = some d → d < N) {op : UnOp} {t : TypeId} {x : Operand} (ho : o.op = .unOp op t x) {r : A} {u : List (Nat × Option O)}
    (he : aop tt sp nid o (evA σ) (lookM σ.mm) = some (r, u)) {K : Act → World → Prop} {Q : Exit → Act → World → Prop}
    (hK : ∀ ρ' a' w', Rel w0 okA F N (fun id => Fr id ∧ id ≠ nid) ρ' (σ.put o.dst r u) a' w' → K a' w') : o.wp P a w K Q := by
  simp only [aop, ho] at he
  split at he
  · rename_i x' hx
    cases hb : unV op x' with
    | none => simp [hb] at he
    | some v =>
      simp only [hb, Option.map_some, Option.some.injEq, Prod.mk.injEq] at he
      obtain ⟨rfl, rfl⟩ := he
      have h1 := (h.ev x).1
      rw [hx] at h1
      simp only [RelA, RelT] at h1
      have hrun : (execOp a.eval o).run P w = .ok (.value v) w := by
        unfold unV at hb
        split at hb
        · split at hb
          · simp only [Option.some.injEq] at hb; subst hb; simp [execOp, ho, h1, Op.unary, Op.intArith]
          · cases hb
        · split at hb
          · simp only [Option.some.injEq] at hb; subst hb; simp [execOp, ho, h1, Op.unary]
          · cases hb
        · cases hb
      unfold Oper.wp
      rw [hrun, Oper.upon_value]
      exact done0 h hd (by simp [RelA, RelT]) (by simp [A.ids]) hK
  · cases he
theorem ok_convert (hT : ∀ t e, tt t = some e → TOk P t e) (h : Rel w0 okA F N Fr ρ σ a w) {nid : Nat} {o : Oper} (hd : ∀ d, o.dst = some d → d < N) {s d : TypeId} {x : Operand} (ho : o.op = .convert s d x) {r : A} {u : List (Nat × Option O)}
    (he : aop tt sp nid o (evA σ) (lookM σ.mm) = some (r, u)) {K : Act → World → Prop} {Q : Exit → Act → World → Prop}
    (hK : ∀ ρ' a' w', Rel w0 okA F N (fun id => Fr id ∧ id ≠ nid) ρ' (σ.put o.dst r u) a' w' → K a' w') : o.wp P a w K Q := by
  simp only [aop, ho] at he
  split at he
  · rename_i es e k' n he0 he1 hx
    split at he
    · rename_i k hk
      simp only [Option.some.injEq, Prod.mk.injEq] at he
      obtain ⟨rfl, rfl⟩ := he
      have h1 := (h.ev x).1
      rw [hx] at h1
      simp only [RelA, RelT] at h1
      obtain ⟨ds, hds⟩ := (hT s es he0).und
      have hrun : (execOp a.eval o).run P w = .ok (.value (.int k (k.wrap n))) w := by
        simp [execOp, ho, h1, convert, run_underlying hds, run_underlying ((hT d e he1).kind k hk), Conv.intToInt]
      unfold Oper.wp
      rw [hrun, Oper.upon_value]
      exact done0 h hd (by simp [RelA, RelT]) (by simp [A.ids]) hK
    · cases he
  · cases he
end
end Go.Ev
/- Operations that touch memory. -/
set_option linter.unusedVariables false
namespace Go.Ev
open Go Go.RowKit
section
variable {P : Program} {tt : Nat → Option TE} {sp : Nat → Option Spec} {w0 : World} {okA : Nat → Prop} {F : Pn} {N : Nat} {Fr : Nat → Prop} {ρ : Nat → Nat} {σ : St} {a : Act} {w : World}

theorem Rel.lt (h : Rel w0 okA F N Fr ρ σ a w) {id : Nat} (hid : (lookM σ.mm id).isSome = true) : ρ id < w.heap.size := by
  obtain ⟨o, ho⟩ := Option.isSome_iff_exists.1 hid
  have hb := (h.mm id o ho).lt
  exact hb
theorem live_new {u m : List (Nat × Option O)} {nid id : Nat} (hup : ∀ id, id ∈ u.map (·.1) → id = nid ∨ (lookM m id).isSome = true) (hid : (lookM (u ++ m) id).isSome = true) : id = nid ∨ (lookM m id).isSome = true := by
  rw [lookM_append] at hid
  split at hid
  · exact hup id ‹_›
  · exact .inr hid
theorem okS_new (h : Rel w0 okA F N Fr ρ σ a w) {nid bn : Nat} {u : List (Nat × Option O)} (hup : ∀ id, id ∈ u.map (·.1) → id = nid ∨ (lookM σ.mm id).isSome = true) (hbn : w.heap.size ≤ bn) (b : Nat)
    (hb : okS w0 okA ρ σ.mm b) (hlb : b < w.heap.size) : okS w0 okA (fun i => if i = nid then bn else ρ i) (u ++ σ.mm) b := by
  refine ⟨hb.1, fun id hid => ?_⟩
  by_cases e : id = nid
  · simp only [e, if_true]; omega
  · simp only [e, if_false]; exact hb.2 id ((live_new hup hid).resolve_left e)
theorem okS_killed (h : Rel w0 okA F N Fr ρ σ a w) {nid bn : Nat} {u : List (Nat × Option O)} (hup : ∀ id, id ∈ u.map (·.1) → id = nid ∨ (lookM σ.mm id).isSome = true) (hbn : w.heap.size ≤ bn) (id : Nat)
    (hid : (lookM σ.mm id).isSome = true) (hdead : lookM (u ++ σ.mm) id = none) : okS w0 okA (fun i => if i = nid then bn else ρ i) (u ++ σ.mm) (ρ id) := by
  have hlt := h.lt hid
  refine ⟨(h.own id hid).elim .inr fun hF => .inl (h.fa _ hF), fun id' hid' => ?_⟩
  by_cases e : id' = nid
  · simp only [e, if_true]; omega
  · simp only [e, if_false]
    intro he
    have := h.inj id' id ((live_new hup hid').resolve_left e) hid he
    rw [this, hdead] at hid'
    cases hid'

theorem heap_alloc_at (w : World) (o : Obj) : (w.alloc o).heap[w.heap.size]? = some o := by
  show (w.heap.push o)[w.heap.size]? = _
  simp
theorem size_alloc (w : World) (o : Obj) : (w.alloc o).heap.size = w.heap.size + 1 := by
  show (w.heap.push o).size = _
  simp
theorem RelO.alloc {ok ok' : Nat → Prop} (hok : ∀ b, ok b → b < w.heap.size → ok' b) (E sz : Nat) (rows : List T) (cs : Array Value) (hp : 0 < sz) (hl : rows.length * sz ≤ cs.size)
    (hrow : ∀ (j : Nat) (t : T), rows[j]? = some t → ∃ u, RelT w ok t u ∧ u.cells.size = sz ∧ ∀ i x, u.cells[i]? = some x → cs[j * sz + i]? = some x) :
    RelOc (w.alloc (.cells cs E)) ok' w.heap.size ⟨E, sz, rows⟩ := by
  have hb : (w.alloc (.cells cs E)).heap[w.heap.size]? = some (.cells cs E (0, 0)) := heap_alloc_at w _
  refine ⟨⟨cs, hb, hl⟩, hp, RelR.of_get _ _ _ fun j t hj => ?_⟩
  obtain ⟨u, h1, h2, h3⟩ := hrow j t hj
  refine ⟨u, RelT.step (fun b hb hlt => ⟨Below.heap_alloc w _ b hlt, hok b hb hlt⟩) (by rw [size_alloc]; omega) _ _ h1, h2, fun i x hx => ?_⟩
  simp only [World.cell?, hb, Option.isSome_none, Bool.false_eq_true, if_false, Nat.zero_add]
  exact h3 i x hx

/-- A new object. -/
theorem doneNew (h : Rel w0 okA F N Fr ρ σ a w) {o : Oper} (hd : ∀ d, o.dst = some d → d < N) {nid : Nat} (hn : Fr nid) {r : A} {v : Value} {E sz : Nat} {rows : List T} {cs : Array Value} {ks : List (Nat × Option O)}
    (hks : ∀ id, id ∈ ks.map (·.1) → (lookM σ.mm id).isSome = true) (hkn : ∀ id o, lookM ks id ≠ some o)
    (hp : 0 < sz) (hl : rows.length * sz ≤ cs.size)
    (hrow : ∀ (j : Nat) (t : T), rows[j]? = some t → ∃ u, RelT w (okS w0 okA (fun i => if i = nid then w.heap.size else ρ i) ((nid, some ⟨E, sz, rows⟩) :: ks ++ σ.mm)) t u ∧ u.cells.size = sz ∧ ∀ i x, u.cells[i]? = some x → cs[j * sz + i]? = some x)
    (hr : RelA (w.alloc (.cells cs E)) (okS w0 okA (fun i => if i = nid then w.heap.size else ρ i) ((nid, some ⟨E, sz, rows⟩) :: ks ++ σ.mm)) (fun i => if i = nid then w.heap.size else ρ i) r v)
    (hi : ∀ id ∈ r.ids, id = nid) {K : Act → World → Prop}
    (hK : ∀ ρ' a' w', Rel w0 okA F N (fun id => Fr id ∧ id ≠ nid) ρ' (σ.put o.dst r ((nid, some ⟨E, sz, rows⟩) :: ks)) a' w' → K a' w') : K (a.put o.dst v) (w.alloc (.cells cs E)) := by
  have hnk : nid ∉ ks.map (·.1) := fun hm => by have := hks nid hm; rw [h.fr nid hn] at this; cases this
  refine hK _ _ _ (h.upd o.dst hd nid hn (w.alloc (.cells cs E)) v w.heap.size r ((nid, some ⟨E, sz, rows⟩) :: ks) ?_ rfl rfl (Out.refl _) (by rw [size_alloc]; omega) (fun b hb _ => Below.heap_alloc w _ b hb) (Keeps.of_heap fun b hb => Below.heap_alloc w _ b hb) (.inl (Nat.le_refl _)) ?_ hr fun id hid => .inr (hi id hid))
  · intro id hid
    simp only [List.map_cons, List.mem_cons] at hid
    exact hid.imp (fun e => e) (hks id)
  · intro id o' hid ho
    simp only [lookM] at ho
    by_cases e : nid = id
    · rw [if_pos e] at ho
      simp only [Option.some.injEq] at ho
      subst ho; subst e
      simp only [if_true]
      exact .inl (RelO.alloc (fun b hb _ => hb) E sz rows cs hp hl hrow)
    · rw [if_neg e] at ho
      exact absurd ho (hkn id o')

theorem ok_alloc (hT : ∀ t e, tt t = some e → TOk P t e) (h : Rel w0 okA F N Fr ρ σ a w) {nid : Nat} (hn : Fr nid) {o : Oper} (hd : ∀ d, o.dst = some d → d < N) {E : TypeId} (ho : o.op = .alloc E) {r : A} {u : List (Nat × Option O)}
    (he : aop tt sp nid o (evA σ) (lookM σ.mm) = some (r, u)) {K : Act → World → Prop} {Q : Exit → Act → World → Prop}
    (hK : ∀ ρ' a' w', Rel w0 okA F N (fun id => Fr id ∧ id ≠ nid) ρ' (σ.put o.dst r u) a' w' → K a' w') : o.wp P a w K Q := by
  simp only [aop, ho] at he
  split at he
  · rename_i e het
    have hE := hT E e het
    simp only [Option.some.injEq, Prod.mk.injEq] at he
    obtain ⟨rfl, rfl⟩ := he
    obtain ⟨i, hi, hsz, hby, hz⟩ := hE.info
    have hrun : (execOp a.eval o).run P w = .ok (.value (.pointer (some ⟨w.heap.size, 0, none⟩))) (w.alloc (.cells e.z.cells E)) := by
      simp [execOp, ho, Instr.alloc, zeroValue, typeInfo, hi, hz, newVar, newRow]
    unfold Oper.wp
    rw [hrun, Oper.upon_value]
    refine doneNew h hd hn (ks := []) (by simp) (by simp [lookM]) hE.pos (by simp [hE.zsz]) ?_ (by simp [RelA]) (by simp [A.ids]) hK
    intro j t hj
    cases j with
    | zero =>
      simp only [List.getElem?_cons_zero, Option.some.injEq] at hj
      subst hj
      exact ⟨e.z, hE.zrel _ _, hE.zsz, fun i x hx => by simpa using hx⟩
    | succ j => simp at hj
  · cases he

theorem viewT_live {x : A} {t : T} {m : List (Nat × Option O)} (hv : viewT (lookM m) x = some t) : ∀ id, id ∈ (kills x).map (·.1) → (lookM m id).isSome = true := by
  intro id hid
  cases x with
  | ms id' sz lo len =>
    simp only [kills, List.map_cons, List.map_nil, List.mem_cons, List.not_mem_nil, or_false] at hid
    subst hid
    simp only [viewT] at hv
    cases hm : lookM m id with
    | none => simp [hm] at hv
    | some o => rfl
  | _ => simp [kills] at hid

/-- A new block that is only read. -/
theorem doneBox (h : Rel w0 okA F N Fr ρ σ a w) {o : Oper} (hd : ∀ d, o.dst = some d → d < N) {nid : Nat} (hn : Fr nid) {x : A} {u : Value} {t : T} {E : Nat} (hv : viewT (lookM σ.mm) x = some t)
    (hlive : ∀ id, id ∈ (kills x).map (·.1) → (lookM σ.mm id).isSome = true) (hx : RelA w (okS w0 okA ρ σ.mm) ρ x u) (hc : t.cells.all T.one = true) {K : Act → World → Prop}
    (hK : ∀ ρ' a' w', Rel w0 okA F N (fun id => Fr id ∧ id ≠ nid) ρ' (σ.put o.dst (.ip t.cells) (kills x)) a' w' → K a' w') : K (a.put o.dst (.pointer (some ⟨w.heap.size, 0, none⟩))) (w.alloc (.cells u.cells E)) := by
  have hup : ∀ id, id ∈ (kills x).map (·.1) → id = nid ∨ (lookM σ.mm id).isSome = true := fun id hid => .inr (hlive id hid)
  have hnm : ∀ id, (lookM (kills x ++ σ.mm) id).isSome = true → id ≠ nid ∧ (lookM σ.mm id).isSome = true := by
    intro id hid
    rw [lookM_append] at hid
    split at hid
    · cases hk : lookM (kills x) id with
      | none => simp [hk] at hid
      | some o' => exact absurd hk (kills_none _ _ _)
    · exact ⟨fun e => (by rw [e, h.fr nid hn] at hid; cases hid), hid⟩
  have hlt : ∀ id, (lookM σ.mm id).isSome = true → ρ id < w.heap.size := by
    intro id hid
    obtain ⟨o, ho⟩ := Option.isSome_iff_exists.1 hid
    have hb := (h.mm id o ho).lt
    exact hb
  have hold : ∀ b, okS w0 okA ρ σ.mm b → b < w.heap.size → okS w0 okA (fun i => if i = nid then w.heap.size + 1 else ρ i) (kills x ++ σ.mm) b := by
    refine fun b hb hlt' => ⟨hb.1, fun id hid => ?_⟩
    obtain ⟨h1, h2⟩ := hnm id hid
    simp only [h1, if_false]
    exact hb.2 id h2
  have hrel : RelT w (okS w0 okA (fun i => if i = nid then w.heap.size + 1 else ρ i) (kills x ++ σ.mm)) t u := by
    have h2 : ∀ id, id ∈ (kills x).map (·.1) → (lookM σ.mm id).isSome = true → okS w0 okA (fun i => if i = nid then w.heap.size + 1 else ρ i) (kills x ++ σ.mm) (ρ id) := by
      intro id hid hl
      refine ⟨(h.own id hl).elim (fun h1 => .inr h1) (fun h1 => .inl (h.fa _ h1)), fun id' hid' he => ?_⟩
      obtain ⟨g1, g2⟩ := hnm id' hid'
      simp only [g1, if_false] at he
      have := h.inj id' id g2 hl he
      subst this
      rw [lookM_append, if_pos hid] at hid'
      cases hk : lookM (kills x) id' with
      | none => simp [hk] at hid'
      | some o' => exact absurd hk (kills_none _ _ _)
    have h3 := viewT_rel h hx hv (ok' := fun b => b < w.heap.size → okS w0 okA (fun i => if i = nid then w.heap.size + 1 else ρ i) (kills x ++ σ.mm) b)
      (fun b hb hlt' => hold b hb hlt') (fun id hid hl _ => h2 id hid hl)
    exact RelT.step (fun b hb hlt' => ⟨rfl, hb hlt'⟩) (Nat.le_refl _) _ _ h3
  refine hK _ _ _ (h.upd o.dst hd nid hn (w.alloc (.cells u.cells E)) _ (w.heap.size + 1) (.ip t.cells) (kills x) hup rfl rfl (Out.refl _) (by rw [size_alloc]; omega) (fun b hb _ => Below.heap_alloc w _ b hb) (Keeps.of_heap fun b hb => Below.heap_alloc w _ b hb) (.inl (by omega)) (fun id o' hid ho => absurd ho (kills_none _ _ _)) ?_ (by simp [A.ids]))
  simp only [RelA]
  refine ⟨w.heap.size, 0, rfl, ⟨.inr h.size, fun id hid => ?_⟩, by rw [size_alloc]; omega, u.cells.toList, ?_, fun i y hy => ?_⟩
  · obtain ⟨g1, g2⟩ := hnm id hid
    simp only [g1, if_false]
    have := hlt id g2
    omega
  · exact RelL.step (fun b hb hlt' => ⟨Below.heap_alloc w _ b hlt', hb⟩) (by rw [size_alloc]; omega) _ _ (hrel.cells hc).1
  · simp only [World.cell?, heap_alloc_at, Option.isSome_none, Bool.false_eq_true, if_false, Nat.zero_add]
    simpa using hy

theorem ok_box (hT : ∀ t e, tt t = some e → TOk P t e) (h : Rel w0 okA F N Fr ρ σ a w) {nid : Nat} (hn : Fr nid) {o : Oper} (hd : ∀ d, o.dst = some d → d < N) {E : TypeId} {x : Operand} (ho : o.op = .box E x) {r : A} {u : List (Nat × Option O)}
    (he : aop tt sp nid o (evA σ) (lookM σ.mm) = some (r, u)) {K : Act → World → Prop} {Q : Exit → Act → World → Prop}
    (hK : ∀ ρ' a' w', Rel w0 okA F N (fun id => Fr id ∧ id ≠ nid) ρ' (σ.put o.dst r u) a' w' → K a' w') : o.wp P a w K Q := by
  simp only [aop, ho] at he
  split at he
  · rename_i e t het hv
    have hE := hT E e het
    split at he
    · rename_i hc
      have hrun : (execOp a.eval o).run P w = .ok (.value (.pointer (some ⟨w.heap.size, 0, none⟩))) (w.alloc (.cells (a.eval x).cells E)) := by
        simp [execOp, ho, Instr.box, newVar, newRow]
      unfold Oper.wp
      rw [hrun, Oper.upon_value]
      have hlive := viewT_live hv
      split at he
      · simp only [Option.some.injEq, Prod.mk.injEq] at he
        obtain ⟨rfl, rfl⟩ := he
        exact doneBox h hd hn hv hlive (h.ev x).1 hc.2 hK
      simp only [Option.some.injEq, Prod.mk.injEq] at he
      obtain ⟨rfl, rfl⟩ := he
      have hup : ∀ id, id ∈ ((nid, some (⟨E, e.sz, [t]⟩ : O)) :: kills (evA σ x)).map (·.1) → id = nid ∨ (lookM σ.mm id).isSome = true := by
        intro id hid
        simp only [List.map_cons, List.mem_cons] at hid
        exact hid.imp (fun e => e) (hlive id)
      have hrel : RelT w (okS w0 okA (fun i => if i = nid then w.heap.size else ρ i) ((nid, some ⟨E, e.sz, [t]⟩) :: kills (evA σ x) ++ σ.mm)) t (a.eval x) := by
        have h2 : ∀ id, id ∈ (kills (evA σ x)).map (·.1) → (lookM σ.mm id).isSome = true → okS w0 okA (fun i => if i = nid then w.heap.size else ρ i) ((nid, some ⟨E, e.sz, [t]⟩) :: kills (evA σ x) ++ σ.mm) (ρ id) := by
          intro id hid hl
          refine okS_killed h hup (Nat.le_refl _) id hl ?_
          rw [lookM_append, if_pos (by simp; exact .inr (by simpa using hid))]
          have hne : nid ≠ id := fun e => by rw [← e, h.fr nid hn] at hl; cases hl
          simp only [lookM, if_neg hne]
          cases hk : lookM (kills (evA σ x)) id with
          | none => rfl
          | some o' => exact absurd hk (kills_none _ _ _)
        -- first in the old class or at a killed block, then below the heap's size
        have h3 := viewT_rel h (h.ev x).1 hv (ok' := fun b => b < w.heap.size → okS w0 okA (fun i => if i = nid then w.heap.size else ρ i) ((nid, some ⟨E, e.sz, [t]⟩) :: kills (evA σ x) ++ σ.mm) b)
          (fun b hb hlt => okS_new h hup (Nat.le_refl _) b hb hlt) (fun id hid hl _ => h2 id hid hl)
        exact RelT.step (fun b hb hlt => ⟨rfl, hb hlt⟩) (Nat.le_refl _) _ _ h3
      obtain ⟨hcl, hc1⟩ := hrel.cells hc.2
      have hsz : (a.eval x).cells.size = e.sz := by have := hcl.length; simp at this; omega
      refine doneNew h hd hn (ks := kills (evA σ x)) hlive (fun id o' => kills_none _ _ _) hE.pos (by simp [hsz]) ?_ (by simp [RelA]) (by simp [A.ids]) hK
      intro j t' hj
      cases j with
      | zero =>
        simp only [List.getElem?_cons_zero, Option.some.injEq] at hj
        subst hj
        exact ⟨a.eval x, hrel, hsz, fun i y hy => by simpa using hy⟩
      | succ j => simp at hj
    · cases he
  · cases he
end
end Go.Ev
/- Loads, stores, places of fields and elements. -/
set_option linter.unusedVariables false
namespace Go.Ev
open Go Go.RowKit
section
variable {P : Program} {tt : Nat → Option TE} {sp : Nat → Option Spec} {w0 : World} {okA : Nat → Prop} {F : Pn} {N : Nat} {Fr : Nat → Prop} {ρ : Nat → Nat} {σ : St} {a : Act} {w : World}

theorem cut_some {l c : List T} {off n : Nat} (h : cut l off n = some c) : off + n ≤ l.length ∧ c = (l.drop off).take n ∧ c.length = n := by
  unfold cut at h
  split at h
  · rename_i hle
    simp only [Option.some.injEq] at h
    refine ⟨hle, h.symm, ?_⟩
    rw [← h]; simp; omega
  · cases h

theorem load_run {t : TypeId} {e : TE} (hE : TOk P t e) {ok : Nat → Prop} {b off : Nat} {l : List T} {us : List Value} {x : T} (hl : RelL w ok l us) (hlen : l.length = e.sz)
    (hc : ∀ i y, us[i]? = some y → w.cell? ⟨b, off + i, none⟩ = some y) (hx : mkT e.agg l = some x) : ∃ v, (loadVar t ⟨b, off, none⟩).run P w = .ok v w ∧ RelT w ok x v := by
  obtain ⟨i, hi, hsz, hby, hz⟩ := hE.info
  have hul := hl.length
  have hc' : ∀ j y, us[j]? = some y → w.cell? ((⟨b, off, none⟩ : Addr).add j) = some y := fun j y hy => by rw [Addr.add_lit]; exact hc j y hy
  cases ha : e.agg with
  | true =>
    simp only [mkT, ha, if_true, Option.some.injEq] at hx
    subst hx
    refine ⟨.agg us.toArray, ?_, by simp only [RelT]; exact ⟨us.toArray, rfl, by simpa using hl⟩⟩
    have hr := run_loadCells_list (P := P) w ⟨b, off, none⟩ us hc'
    rw [hul, hlen] at hr
    simp [loadVar, hE.agg, ha, sizeOf, typeInfo, hi, hsz, hr]
  | false =>
    simp only [mkT, ha, Bool.false_eq_true, if_false] at hx
    split at hx
    · simp only [Option.some.injEq] at hx
      subst hx
      rename_i x' 
      simp only [RelL] at hl
      obtain ⟨u, us', rfl, h1, rfl⟩ := hl
      have := hc 0 u rfl
      simp only [Nat.add_zero] at this
      exact ⟨u, by simp [loadVar, hE.agg, ha, this], h1⟩
    · cases hx

/-- The cells of an object's row. -/
theorem row_cells (h : Rel w0 okA F N Fr ρ σ a w) {id row : Nat} {o : O} {r : T} (hm : lookM σ.mm id = some o) (hr : o.rows[row]? = some r) (h1 : r.cells.all T.one = true) :
    ∃ u, RelT w (okS w0 okA ρ σ.mm) r u ∧ u.cells.size = o.sz ∧ RelL w (okS w0 okA ρ σ.mm) r.cells u.cells.toList ∧ ∀ i x, u.cells[i]? = some x → w.cell? ⟨ρ id, row * o.sz + i, none⟩ = some x := by
  obtain ⟨_, _, hR⟩ := (h.mm id o hm).rowc hr h1
  obtain ⟨u, e1, e2, e3⟩ := RelR.get _ _ _ _ _ hR hr
  exact ⟨u, e1, e2, (e1.cells h1).1, fun i x hx => by have := e3 i x hx; simpa using this⟩

theorem aLoad_ip (hT : ∀ t e, tt t = some e → TOk P t e) (h : Rel w0 okA F N Fr ρ σ a w) {t : TypeId} {e : TE} (het : tt t = some e) {l : List T} {r : A} {u : Value} (hx : RelA w (okS w0 okA ρ σ.mm) ρ (.ip l) u)
    (hl : aLoad e (lookM σ.mm) (.ip l) = some r) : ∃ v, (Instr.loadAt t u).run P w = .ok v w ∧ RelA w (okS w0 okA ρ σ.mm) ρ r v ∧ r.ids = [] := by
  have hE := hT t e het
  simp only [RelA] at hx
  obtain ⟨b, off, rfl, _, _, us, h1, h2⟩ := hx
  simp only [aLoad] at hl
  cases hc : cut l 0 e.sz with
  | none => simp [hc] at hl
  | some c =>
    simp only [hc] at hl
    cases hk : mkT e.agg c with
    | none => simp [hk] at hl
    | some y =>
      simp only [hk, Option.map_some, Option.some.injEq] at hl
      subst hl
      obtain ⟨c1, c2, c3⟩ := cut_some hc
      subst c2
      obtain ⟨v, v1, v2⟩ := load_run hE (b := b) (off := off) ((h1.drop 0).take e.sz) c3 (fun i z hz => by
        rw [List.getElem?_take] at hz
        split at hz
        · exact h2 i z (by simpa using hz)
        · cases hz) hk
      exact ⟨v, by simp [Instr.loadAt, Instr.sureAddr, v1], by simpa only [RelA] using v2, rfl⟩

theorem aLoad_run (hT : ∀ t e, tt t = some e → TOk P t e) (h : Rel w0 okA F N Fr ρ σ a w) {t : TypeId} {e : TE} (het : tt t = some e) {x r : A} {u : Value} (hx : RelA w (okS w0 okA ρ σ.mm) ρ x u)
    (hl : aLoad e (lookM σ.mm) x = some r) : ∃ v, (Instr.loadAt t u).run P w = .ok v w ∧ RelA w (okS w0 okA ρ σ.mm) ρ r v ∧ r.ids = [] := by
  have hE := hT t e het
  cases x with
  | mp id sz row off =>
    simp only [RelA] at hx
    subst hx
    simp only [aLoad] at hl
    cases hm : lookM σ.mm id with
    | none => simp [hm] at hl
    | some o =>
      simp only [hm] at hl
      split at hl
      · rename_i hsz
        cases hr : o.rows[row]? with
        | none => simp [hr] at hl
        | some rr =>
          simp only [hr] at hl
          split at hl
          · rename_i h1
            cases hc : cut rr.cells off e.sz with
            | none => simp [hc] at hl
            | some c =>
              simp only [hc] at hl
              cases hk : mkT e.agg c with
              | none => simp [hk] at hl
              | some y =>
                simp only [hk, Option.map_some, Option.some.injEq] at hl
                subst hl
                obtain ⟨u, e1, e2, e3, e4⟩ := row_cells h hm hr h1
                obtain ⟨c1, c2, c3⟩ := cut_some hc
                subst c2
                obtain ⟨v, v1, v2⟩ := load_run hE (b := ρ id) (off := row * sz + off) ((e3.drop off).take e.sz) c3 (fun i z hz => by
                  rw [List.getElem?_take] at hz
                  split at hz
                  · rw [List.getElem?_drop] at hz
                    have := e4 (off + i) z (by simpa using hz)
                    rw [hsz] at this
                    rwa [Nat.add_assoc]
                  · cases hz) hk
                exact ⟨v, by simp [Instr.loadAt, Instr.sureAddr, v1], by simpa only [RelA] using v2, rfl⟩
          · cases hl
      · cases hl
  | ip l => exact aLoad_ip hT h het hx hl
  | t y =>
    cases y with
    | ip l => exact aLoad_ip hT h het (by simpa only [RelA, RelT] using hx) hl
    | _ => simp [aLoad] at hl
  | _ => simp [aLoad] at hl

theorem ok_load (hT : ∀ t e, tt t = some e → TOk P t e) (h : Rel w0 okA F N Fr ρ σ a w) {nid : Nat} {o : Oper} (hd : ∀ d, o.dst = some d → d < N) {t : TypeId} {x : Operand} (ho : o.op = .load t x) {r : A} {u : List (Nat × Option O)}
    (he : aop tt sp nid o (evA σ) (lookM σ.mm) = some (r, u)) {K : Act → World → Prop} {Q : Exit → Act → World → Prop}
    (hK : ∀ ρ' a' w', Rel w0 okA F N (fun id => Fr id ∧ id ≠ nid) ρ' (σ.put o.dst r u) a' w' → K a' w') : o.wp P a w K Q := by
  simp only [aop, ho] at he
  split at he
  · rename_i e het
    cases hl : aLoad e (lookM σ.mm) (evA σ x) with
    | none => simp [hl] at he
    | some y =>
      simp only [hl, Option.map_some, Option.some.injEq, Prod.mk.injEq] at he
      obtain ⟨rfl, rfl⟩ := he
      obtain ⟨v, v1, v2, v3⟩ := aLoad_run hT h het (h.ev x).1 hl
      have hrun : (execOp a.eval o).run P w = .ok (.value v) w := by simp [execOp, ho, v1]
      unfold Oper.wp
      rw [hrun, Oper.upon_value]
      exact done0 h hd v2 (by simp [v3]) hK
  · cases he

theorem fldOk {t : TypeId} {e : TE} (hE : TOk P t e) {f off ft : Nat} (hf : e.flds[f]? = some (off, ft)) : ∃ fs, P.underlying t = some (.struct fs) ∧ ∃ fd, fs[f]? = some fd ∧ fd.offset = off ∧ fd.type = ft := by
  obtain ⟨fs, h1, h2⟩ := hE.flds (fun e0 => by rw [e0] at hf; simp at hf)
  refine ⟨fs, h1, ?_⟩
  rw [← h2, List.getElem?_map] at hf
  cases hq : fs.toList[f]? with
  | none => simp [hq] at hf
  | some fd =>
    simp only [hq, Option.map_some, Option.some.injEq, Prod.mk.injEq] at hf
    exact ⟨fd, by simpa using hq, hf.1, hf.2⟩

theorem ok_fieldAddr (hT : ∀ t e, tt t = some e → TOk P t e) (h : Rel w0 okA F N Fr ρ σ a w) {nid : Nat} {o : Oper} (hd : ∀ d, o.dst = some d → d < N) {t : TypeId} {x : Operand} {f : Nat} (ho : o.op = .fieldAddr t x f) {r : A} {u : List (Nat × Option O)}
    (he : aop tt sp nid o (evA σ) (lookM σ.mm) = some (r, u)) {K : Act → World → Prop} {Q : Exit → Act → World → Prop}
    (hK : ∀ ρ' a' w', Rel w0 okA F N (fun id => Fr id ∧ id ≠ nid) ρ' (σ.put o.dst r u) a' w' → K a' w') : o.wp P a w K Q := by
  simp only [aop, ho] at he
  split at he
  · rename_i e het
    split at he
    · rename_i off ft hf
      split at he
      · rename_i fe hfe
        obtain ⟨fs, f1, fd, f2, f3, f4⟩ := fldOk (hT t e het) hf
        obtain ⟨i, hi, hsz, _, _⟩ := (hT ft fe hfe).info
        have hpos := (hT ft fe hfe).pos
        have hrun : ∀ ad : Addr, a.eval x = .pointer (some ad) → (execOp a.eval o).run P w = .ok (.value (.pointer (some (ad.add off)))) w := by
          intro ad had
          have hne : ¬ i.size = 0 := by omega
          simp [execOp, ho, had, Instr.fieldAt, run_underlying f1, f2, Instr.sureAddr, fieldPlace, f3, f4, sizeOf, typeInfo, hi, hne]
        obtain ⟨h1, h2⟩ := h.ev x
        split at he
        · rename_i id sz row off' hx
          simp only [Option.some.injEq, Prod.mk.injEq] at he
          obtain ⟨rfl, rfl⟩ := he
          rw [hx] at h1 h2
          simp only [RelA] at h1
          unfold Oper.wp
          rw [hrun _ h1, Oper.upon_value]
          refine done0 (r := .mp id sz row (off' + off)) h hd ?_ (by simpa [A.ids] using h2) hK
          show Value.pointer _ = Value.pointer (some ⟨ρ id, row * sz + (off' + off), none⟩)
          rw [Addr.add_lit, Nat.add_assoc]
        · rename_i l hx
          simp only [Option.some.injEq, Prod.mk.injEq] at he
          obtain ⟨rfl, rfl⟩ := he
          rw [hx] at h1 h2
          simp only [RelA] at h1
          obtain ⟨b, o', e1, e2, e3, us, e4, e5⟩ := h1
          unfold Oper.wp
          rw [hrun _ e1, Oper.upon_value]
          refine done0 h hd ?_ (by simp [A.ids]) hK
          simp only [RelA]
          exact ⟨b, o' + off, by rw [Addr.add_lit], e2, e3, us.drop off, e4.drop off, fun i y hy => by
            rw [List.getElem?_drop] at hy
            rw [Nat.add_assoc]; exact e5 _ y hy⟩
        · cases he
      · cases he
    · cases he
  · cases he

theorem ok_field (hT : ∀ t e, tt t = some e → TOk P t e) (h : Rel w0 okA F N Fr ρ σ a w) {nid : Nat} {o : Oper} (hd : ∀ d, o.dst = some d → d < N) {t : TypeId} {x : Operand} {f : Nat} (ho : o.op = .field t x f) {r : A} {u : List (Nat × Option O)}
    (he : aop tt sp nid o (evA σ) (lookM σ.mm) = some (r, u)) {K : Act → World → Prop} {Q : Exit → Act → World → Prop}
    (hK : ∀ ρ' a' w', Rel w0 okA F N (fun id => Fr id ∧ id ≠ nid) ρ' (σ.put o.dst r u) a' w' → K a' w') : o.wp P a w K Q := by
  simp only [aop, ho] at he
  split at he
  · rename_i e het
    split at he
    · rename_i off ft hf
      split at he
      · rename_i fe l hfe hx
        cases hc : cut l off fe.sz with
        | none => simp [hc] at he
        | some c =>
          simp only [hc] at he
          cases hk : mkT fe.agg c with
          | none => simp [hk] at he
          | some y =>
            simp only [hk, Option.map_some, Option.some.injEq, Prod.mk.injEq] at he
            obtain ⟨rfl, rfl⟩ := he
            obtain ⟨fs, f1, fd, f2, f3, f4⟩ := fldOk (hT t e het) hf
            have hfE := hT ft fe hfe
            obtain ⟨i, hi, hsz, _, _⟩ := hfE.info
            have h1 := (h.ev x).1
            rw [hx] at h1
            simp only [RelA, RelT] at h1
            obtain ⟨us, e1, e2⟩ := h1
            obtain ⟨c1, c2, c3⟩ := cut_some hc
            subst c2
            have hR := (e2.drop off).take fe.sz
            have hul := e2.length
            simp only [Array.length_toList] at hul
            have hv : ∃ v, (part ft us off).run P w = .ok v w ∧ RelT w (okS w0 okA ρ σ.mm) y v := by
              cases ha : fe.agg with
              | true =>
                simp only [mkT, ha, if_true, Option.some.injEq] at hk
                subst hk
                refine ⟨.agg (us.extract off (off + fe.sz)), by simp [part, hfE.agg, ha, sizeOf, typeInfo, hi, hsz], ?_⟩
                simp only [RelT]
                refine ⟨_, rfl, ?_⟩
                have : (us.extract off (off + fe.sz)).toList = (us.toList.drop off).take fe.sz := by simp
                rw [this]; exact hR
              | false =>
                simp only [mkT, ha, Bool.false_eq_true, if_false] at hk
                split at hk
                · rename_i y' hy'
                  simp only [Option.some.injEq] at hk
                  subst hk
                  rw [hy'] at hR
                  simp only [RelL] at hR
                  obtain ⟨v, us', g1, g2, g3⟩ := hR
                  have g4 : us[off]? = some v := by
                    have : ((us.toList.drop off).take fe.sz)[0]? = some v := by rw [g1]; rfl
                    rw [List.getElem?_take] at this
                    split at this
                    · simpa using this
                    · cases this
                  exact ⟨v, by simp [part, hfE.agg, ha, g4], g2⟩
                · cases hk
            obtain ⟨v, v1, v2⟩ := hv
            have hrun : (execOp a.eval o).run P w = .ok (.value v) w := by
              simp [execOp, ho, e1, Instr.field, run_underlying f1, f2, asAgg, f3, f4, v1]
            unfold Oper.wp
            rw [hrun, Oper.upon_value]
            exact done0 h hd (by simpa only [RelA] using v2) (by simp [A.ids]) hK
      · cases he
    · cases he
  · cases he
end
end Go.Ev
/- Places of elements, stores, slices made and cut. -/
set_option linter.unusedVariables false
namespace Go.Ev
open Go Go.RowKit
section
variable {P : Program} {tt : Nat → Option TE} {sp : Nat → Option Spec} {w0 : World} {okA : Nat → Prop} {F : Pn} {N : Nat} {Fr : Nat → Prop} {ρ : Nat → Nat} {σ : St} {a : Act} {w : World}

theorem idx_eval (h : Rel w0 okA F N Fr ρ σ a w) {x : Operand} {i : Int} (hi : idx (evA σ x) = some i) : ∃ k, a.eval x = .int k i := by
  have h1 := (h.ev x).1
  generalize evA σ x = y at hi h1
  unfold idx at hi
  split at hi
  · simp only [Option.some.injEq] at hi
    subst hi
    simp only [RelA, RelT] at h1
    exact ⟨_, h1⟩
  · cases hi

theorem elemOk (hT : ∀ t e, tt t = some e → TOk P t e) {t el : Nat} {e ee : TE} (h1 : tt t = some e) (h2 : e.elem = some el) (h3 : tt el = some ee) :
    P.underlying t = some (.slice el) ∧ ∃ i, P.info? el = some i ∧ i.size = ee.sz ∧ i.bytes = ee.bytes ∧ i.zero = some ee.z := ⟨(hT t e h1).elem el h2, (hT el ee h3).info⟩

theorem ok_indexAddr (hT : ∀ t e, tt t = some e → TOk P t e) (h : Rel w0 okA F N Fr ρ σ a w) {nid : Nat} {o : Oper} (hd : ∀ d, o.dst = some d → d < N) {t : TypeId} {x ix : Operand} (ho : o.op = .indexAddr t x ix) {r : A} {u : List (Nat × Option O)}
    (he : aop tt sp nid o (evA σ) (lookM σ.mm) = some (r, u)) {K : Act → World → Prop} {Q : Exit → Act → World → Prop}
    (hK : ∀ ρ' a' w', Rel w0 okA F N (fun id => Fr id ∧ id ≠ nid) ρ' (σ.put o.dst r u) a' w' → K a' w') : o.wp P a w K Q := by
  simp only [aop, ho] at he
  cases hidx : idx (evA σ ix) with
  | none => simp [hidx] at he
  | some i =>
    simp only [hidx] at he
    cases hq : aIndex tt t (evA σ x) i with
    | none => simp [hq] at he
    | some y =>
      simp only [hq, Option.map_some, Option.some.injEq, Prod.mk.injEq] at he
      obtain ⟨rfl, rfl⟩ := he
      obtain ⟨k, hk⟩ := idx_eval h hidx
      obtain ⟨h1, h2⟩ := h.ev x
      unfold aIndex at hq
      split at hq
      · rename_i e het
        split at hq
        · rename_i el hel
          split at hq
          · rename_i ee hee
            obtain ⟨hu, inf, hinf, hsz, _, _⟩ := elemOk hT het hel hee
            have hrun : ∀ (p : Addr) (n c : Nat), a.eval x = .slice (some p) n c → 0 ≤ i → i < n → (execOp a.eval o).run P w = .ok (.value (.pointer (some (p.add (i.toNat * ee.sz))))) w := by
              intro p n c hp hi0 hin
              simp [execOp, ho, hp, hk, Instr.indexAt, asIntOf, run_underlying hu, hi0, hin, sizeOf, typeInfo, hinf, hsz]
            split at hq
            · rename_i sz l hx
              split at hq
              · rename_i hc
                obtain ⟨c1, c2, c3⟩ := hc
                split at hq
                · rename_i rr hrr
                  split at hq
                  · rename_i hr1
                    simp only [Option.some.injEq] at hq
                    subst hq
                    rw [hx] at h1
                    simp only [RelA, RelT] at h1
                    obtain ⟨p, c, e1, e2, e3⟩ := h1
                    obtain ⟨b, off, rfl, e4, e5, e6⟩ := e3 (by omega)
                    obtain ⟨v, g1, g2, g3⟩ := RelR.get _ _ _ _ _ e6 hrr
                    unfold Oper.wp
                    rw [hrun _ _ _ e1 c2 c3, Oper.upon_value]
                    refine done0 (r := .ip rr.cells) h hd ?_ (by simp [A.ids]) hK
                    simp only [RelA]
                    exact ⟨b, off + i.toNat * sz, by rw [Addr.add_lit, c1], e4, e5, v.cells.toList, (g1.cells hr1.1).1, fun j y hy => g3 j y (by simpa using hy)⟩
                  · cases hq
                · cases hq
              · cases hq
            · rename_i id sz lo len hx
              split at hq
              · rename_i hc
                obtain ⟨c1, c2, c3⟩ := hc
                simp only [Option.some.injEq] at hq
                subst hq
                rw [hx] at h1 h2
                simp only [RelA] at h1
                obtain ⟨c, e1, e2⟩ := h1
                unfold Oper.wp
                rw [hrun _ _ _ e1 c2 c3, Oper.upon_value]
                refine done0 (r := .mp id sz (lo + i.toNat) 0) h hd ?_ (by simpa [A.ids] using h2) hK
                simp only [RelA]
                rw [Addr.add_lit, c1, Nat.add_mul, Nat.add_zero]
              · cases hq
            all_goals cases hq
          · cases hq
        · split at hq
          · rename_i el n harr
            split at hq
            · rename_i ee hee
              obtain ⟨inf, hinf, hsz, _, _⟩ := (hT el ee hee).info
              have hu := (hT t e het).arr el n harr
              split at hq
              · rename_i id sz row off hx
                split at hq
                · rename_i hc
                  obtain ⟨c2, c3⟩ := hc
                  simp only [Option.some.injEq] at hq
                  subst hq
                  rw [hx] at h1 h2
                  simp only [RelA] at h1
                  have hrun : (execOp a.eval o).run P w = .ok (.value (.pointer (some ((Addr.mk (ρ id) (row * sz + off) none).add (i.toNat * ee.sz))))) w := by
                    simp [execOp, ho, h1, hk, Instr.indexAt, asIntOf, run_underlying hu, c2, c3, sizeOf, typeInfo, hinf, hsz, Instr.sureAddr]
                  unfold Oper.wp
                  rw [hrun, Oper.upon_value]
                  refine done0 (r := .mp id sz row (off + i.toNat * ee.sz)) h hd ?_ (by simpa [A.ids] using h2) hK
                  simp only [RelA]
                  rw [Addr.add_lit, Nat.add_assoc]
                · cases hq
              all_goals cases hq
            · cases hq
          · cases hq
      · cases hq

/-- A value that is handed to memory, seen where its own objects are dead. -/
theorem view_new (h : Rel w0 okA F N Fr ρ σ a w) {x : Operand} {t : T} (hv : viewT (lookM σ.mm) (evA σ x) = some t) {nid bn : Nat} {u : List (Nat × Option O)}
    (hup : ∀ id, id ∈ u.map (·.1) → id = nid ∨ (lookM σ.mm id).isSome = true) (hbn : w.heap.size ≤ bn)
    (hdead : ∀ id, id ∈ (kills (evA σ x)).map (·.1) → (lookM σ.mm id).isSome = true → lookM (u ++ σ.mm) id = none) :
    RelT w (okS w0 okA (fun i => if i = nid then bn else ρ i) (u ++ σ.mm)) t (a.eval x) := by
  have h3 := viewT_rel h (h.ev x).1 hv (ok' := fun b => b < w.heap.size → okS w0 okA (fun i => if i = nid then bn else ρ i) (u ++ σ.mm) b)
    (fun b hb hlt => okS_new h hup hbn b hb hlt) (fun id hid hl _ => okS_killed h hup hbn id hl (hdead id hid hl))
  exact RelT.step (fun b hb hlt => ⟨rfl, hb hlt⟩) (Nat.le_refl _) _ _ h3

theorem seg_get (cur : List Value) (p : Nat) (vs : List Value) (hl : p + vs.length ≤ cur.length) (k : Nat) :
    (cur.take p ++ vs ++ cur.drop (p + vs.length))[k]? = if p ≤ k ∧ k < p + vs.length then vs[k - p]? else cur[k]? := by
  have htl : (cur.take p).length = p := by simp; omega
  by_cases h1 : k < p
  · rw [if_neg (by omega), List.append_assoc, List.getElem?_append_left (by omega), List.getElem?_take, if_pos h1]
  · by_cases h2 : k < p + vs.length
    · rw [if_pos ⟨by omega, h2⟩, List.append_assoc, List.getElem?_append_right (by omega), htl, List.getElem?_append_left (by omega)]
    · rw [if_neg (by omega), List.getElem?_append_right (by simp; omega), List.getElem?_drop]
      congr 1
      simp; omega

theorem keeps_setRow {w : World} {g : Nat} {cs cs' : Array Value} {E : Nat} (hb : w.heap[g]? = some (.cells cs E (0, 0))) (hs : cs'.size = cs.size) : Keeps w (w.setRow g cs') := fun b c e h => by
  by_cases hg : b = g
  · subst hg
    rw [hb] at h
    simp only [Option.some.injEq, Obj.cells.injEq] at h
    obtain ⟨rfl, rfl, _⟩ := h
    exact ⟨cs', setRow_heap w b cs cs' E (0, 0) hb, hs⟩
  · exact ⟨c, by rw [setRow_other w g b _ hg]; exact h, rfl⟩
theorem ok_store (hT : ∀ t e, tt t = some e → TOk P t e) (h : Rel w0 okA F N Fr ρ σ a w) {nid : Nat} (hn : Fr nid) {o : Oper} (hd : ∀ d, o.dst = some d → d < N) {t : TypeId} {ad x : Operand} (ho : o.op = .store t ad x) {r : A} {u : List (Nat × Option O)}
    (he : aop tt sp nid o (evA σ) (lookM σ.mm) = some (r, u)) {K : Act → World → Prop} {Q : Exit → Act → World → Prop}
    (hK : ∀ ρ' a' w', Rel w0 okA F N (fun id => Fr id ∧ id ≠ nid) ρ' (σ.put o.dst r u) a' w' → K a' w') : o.wp P a w K Q := by
  simp only [aop, ho] at he
  split at he
  · rename_i e tx het hv
    split at he
    · rename_i id o' hst
      split at he
      · rename_i hkn
        simp only [Option.some.injEq, Prod.mk.injEq] at he
        obtain ⟨rfl, rfl⟩ := he
        have hE := hT t e het
        obtain ⟨inf, hinf, hsz, _, _⟩ := hE.info
        have h1 := (h.ev ad).1
        have hlive := viewT_live hv
        unfold aStore at hst
        split at hst
        · rename_i id0 sz row off hx
          rw [hx] at h1
          simp only [RelA] at h1
          split at hst
          · rename_i ob hm
            split at hst
            · rename_i hc
              obtain ⟨c1, c2, c3⟩ := hc
              split at hst
              · rename_i rr hrr
                split at hst
                · rename_i hd2
                  obtain ⟨d1, d2, d3⟩ := hd2
                  simp only [Option.some.injEq, Prod.mk.injEq] at hst
                  obtain ⟨rfl, rfl⟩ := hst
                  -- the new state's objects
                  have hup : ∀ i, i ∈ ((id0, some ({ ob with rows := ob.rows.set row (match rr with | .agg l => .agg (putCells l off tx.cells) | _ => tx) } : O)) :: kills (evA σ x)).map (·.1) → i = nid ∨ (lookM σ.mm i).isSome = true := by
                    intro i hi
                    simp only [List.map_cons, List.mem_cons] at hi
                    rcases hi with rfl | hi
                    · exact .inr (by rw [hm]; rfl)
                    · exact .inr (hlive i hi)
                  have hidn : id0 ≠ nid := fun e' => by rw [e', h.fr nid hn] at hm; cases hm
                  have hkne : ∀ i, i ∈ (kills (evA σ x)).map (·.1) → i ≠ id0 := by
                    intro i hi
                    obtain ⟨p, hp, rfl⟩ := List.mem_map.1 hi
                    have := List.all_eq_true.1 hkn p hp
                    simpa using this
                  have hview := view_new h hv hup (Nat.le_refl w.heap.size) (fun i hi hl => by
                    rw [lookM_append, if_pos (by simp; exact .inr (by simpa using hi))]
                    simp only [lookM, if_neg (Ne.symm (hkne i hi))]
                    cases hk : lookM (kills (evA σ x)) i with
                    | none => rfl
                    | some o'' => exact absurd hk (kills_none _ _ _))
                  obtain ⟨hcl, hc1⟩ := hview.cells c3
                  have hvs : (a.eval x).cells.toList.length = e.sz := by rw [hcl.length, c2]
                  obtain ⟨ur, e1, e2, e3, e4⟩ := row_cells h hm hrr d1
                  obtain ⟨⟨cs, hb, hcs⟩, hp, hR⟩ := (h.mm id0 ob hm).rowc hrr d1
                  have hur : ur.cells.toList.length = ob.sz := by simp [e2]
                  have hrl : rr.cells.length = ob.sz := by rw [← e3.length, hur]
                  have hrow : row < ob.rows.length := (List.getElem?_eq_some_iff.1 hrr).1
                  have hfit0 : row * ob.sz + ob.sz ≤ cs.size := by
                    have := Nat.mul_le_mul_right ob.sz (show row + 1 ≤ ob.rows.length from hrow)
                    rw [Nat.add_mul] at this; omega
                  have hfit : (row * sz + off) + 0 + (a.eval x).cells.toList.length ≤ cs.size := by rw [hvs, ← c1]; omega
                  have hrs := run_storeCells_at P (ρ id0) (row * sz + off) ob.E (a.eval x).cells.toList 0 cs w hb hfit hc1
                  have hrun : (execOp a.eval o).run P w = .ok .skip (w.setRow (ρ id0) (cs.toList.take (row * sz + off + 0) ++ (a.eval x).cells.toList ++ cs.toList.drop (row * sz + off + 0 + (a.eval x).cells.toList.length)).toArray) := by
                    have hcsz : (a.eval x).cells.size = inf.size := by rw [hsz]; simpa using hvs
                    simp [execOp, ho, h1, Instr.storeAt, Instr.sureAddr, storeVar, sizeOf, typeInfo, hinf, hcsz] at hrs ⊢
                    rw [hrs]
                    rfl
                  unfold Oper.wp
                  rw [hrun, Oper.upon_skip]
                  simp only [Nat.add_zero] at hfit ⊢
                  refine hK _ _ _ (h.upd o.dst hd nid hn (w.setRow (ρ id0) _) undef w.heap.size (.t (.v undef)) _ hup rfl rfl (Out.refl _) (by simp) (fun b _ hb2 => ?_) (keeps_setRow hb (by have h9 := hfit; simp only [Array.length_toList] at h9; simp only [List.size_toArray, List.length_append, List.length_take, List.length_drop, Array.length_toList]; omega)) (.inl (Nat.le_refl _)) ?_ (by simp [RelA, RelT]) (by simp [A.ids]))
                  · exact setRow_other w _ _ _ fun e' => hb2 id0 (by simp) hidn e'.symm
                  · intro i oi hi hoi
                    simp only [lookM] at hoi
                    by_cases hii : id0 = i
                    · rw [if_pos hii] at hoi
                      simp only [Option.some.injEq] at hoi
                      subst hoi; subst hii
                      rw [if_neg hidn]
                      have hstep : ∀ b, okS w0 okA (fun i => if i = nid then w.heap.size else ρ i) ((id0, some ({ ob with rows := ob.rows.set row (match rr with | .agg l => .agg (putCells l off tx.cells) | _ => tx) } : O)) :: kills (evA σ x) ++ σ.mm) b → b < w.heap.size →
                          (w.setRow (ρ id0) (cs.toList.take (row * sz + off) ++ (a.eval x).cells.toList ++ cs.toList.drop (row * sz + off + (a.eval x).cells.toList.length)).toArray).heap[b]? = w.heap[b]? ∧ okS w0 okA (fun i => if i = nid then w.heap.size else ρ i) ((id0, some ({ ob with rows := ob.rows.set row (match rr with | .agg l => .agg (putCells l off tx.cells) | _ => tx) } : O)) :: kills (evA σ x) ++ σ.mm) b := by
                        intro b hb2 hlt
                        refine ⟨setRow_other w _ _ _ fun e' => ?_, hb2⟩
                        have := hb2.2 id0 (by simp [lookM])
                        simp only [if_neg hidn] at this
                        exact this e'.symm
                      have hold : ∀ b, okS w0 okA ρ σ.mm b → b < w.heap.size → w.heap[b]? = w.heap[b]? ∧ okS w0 okA (fun i => if i = nid then w.heap.size else ρ i) ((id0, some ({ ob with rows := ob.rows.set row (match rr with | .agg l => .agg (putCells l off tx.cells) | _ => tx) } : O)) :: kills (evA σ x) ++ σ.mm) b :=
                        fun b hb2 hlt => ⟨rfl, okS_new h hup (Nat.le_refl _) b hb2 hlt⟩
                      refine .inl ⟨⟨_, setRow_heap w _ cs _ _ _ hb, by simp at hfit ⊢; omega⟩, hp, RelR.of_get _ _ _ fun j tj hj => ?_⟩
                      simp only [Nat.zero_add, cell_setRow_same w _ _ cs _ _ _ hb]
                      rw [List.getElem?_set] at hj
                      have hcsl : (row * sz + off) + (a.eval x).cells.toList.length ≤ cs.toList.length := by simpa using hfit
                      by_cases hjr : row = j
                      · subst hjr
                        rw [if_pos rfl, if_pos hrow] at hj
                        simp only [Option.some.injEq] at hj
                        -- the row's new value
                        have key : ∃ u' : Value, RelT w (okS w0 okA (fun i => if i = nid then w.heap.size else ρ i) ((id0, some ({ ob with rows := ob.rows.set row (match rr with | .agg l => .agg (putCells l off tx.cells) | _ => tx) } : O)) :: kills (evA σ x) ++ σ.mm)) tj u' ∧ u'.cells.toList = ur.cells.toList.take off ++ (a.eval x).cells.toList ++ ur.cells.toList.drop (off + (a.eval x).cells.toList.length) := by
                          have hposz := hE.pos
                          cases rr with
                          | agg l =>
                            simp only at hj
                            subst hj
                            refine ⟨.agg (ur.cells.toList.take off ++ (a.eval x).cells.toList ++ ur.cells.toList.drop (off + (a.eval x).cells.toList.length)).toArray, ?_, by simp [Value.cells]⟩
                            simp only [RelT]
                            refine ⟨_, rfl, ?_⟩
                            have hl3 : RelL w (okS w0 okA (fun i => if i = nid then w.heap.size else ρ i) ((id0, some ({ ob with rows := ob.rows.set row (.agg (putCells l off tx.cells)) } : O)) :: kills (evA σ x) ++ σ.mm)) l ur.cells.toList := RelL.step hold (Nat.le_refl _) _ _ e3
                            have hlen2 : tx.cells.length = (a.eval x).cells.toList.length := by rw [hcl.length]
                            have e5 : putCells l off tx.cells = l.take off ++ tx.cells ++ l.drop (off + (a.eval x).cells.toList.length) := by simp only [putCells, hlen2]
                            conv => arg 3; rw [e5]
                            exact ((hl3.take off).append hcl).append (hl3.drop (off + (a.eval x).cells.toList.length))
                          | v y =>
                            simp only at hj
                            subst hj
                            have : ob.sz = 1 := by simpa [T.cells] using hrl.symm
                            simp only [T.cells, List.length_cons, List.length_nil] at d2
                            refine ⟨a.eval x, hview, ?_⟩
                            rw [show off = 0 by omega, hvs, show e.sz = 1 by omega]
                            simp
                            exact List.eq_nil_of_length_eq_zero (by simp; simp at hur; omega)
                          | sl s y =>
                            simp only at hj
                            subst hj
                            have : ob.sz = 1 := by simpa [T.cells] using hrl.symm
                            simp only [T.cells, List.length_cons, List.length_nil] at d2
                            refine ⟨a.eval x, hview, ?_⟩
                            rw [show off = 0 by omega, hvs, show e.sz = 1 by omega]
                            simp
                            exact List.eq_nil_of_length_eq_zero (by simp; simp at hur; omega)
                          | ip y =>
                            simp only at hj
                            subst hj
                            have : ob.sz = 1 := by simpa [T.cells] using hrl.symm
                            simp only [T.cells, List.length_cons, List.length_nil] at d2
                            refine ⟨a.eval x, hview, ?_⟩
                            rw [show off = 0 by omega, hvs, show e.sz = 1 by omega]
                            simp
                            exact List.eq_nil_of_length_eq_zero (by simp; simp at hur; omega)
                          | fn s y =>
                            simp only at hj
                            subst hj
                            have : ob.sz = 1 := by simpa [T.cells] using hrl.symm
                            simp only [T.cells, List.length_cons, List.length_nil] at d2
                            refine ⟨a.eval x, hview, ?_⟩
                            rw [show off = 0 by omega, hvs, show e.sz = 1 by omega]
                            simp
                            exact List.eq_nil_of_length_eq_zero (by simp; simp at hur; omega)
                        obtain ⟨u', k1, k2⟩ := key
                        have hofl : off + (a.eval x).cells.toList.length ≤ ur.cells.toList.length := by rw [hvs, hur, ← hrl]; exact d2
                        refine ⟨u', RelT.step hstep (by simp) _ _ k1, ?_, fun i y hy => ?_⟩
                        · have : u'.cells.toList.length = ob.sz := by rw [k2]; simp at hofl hur ⊢; omega
                          simpa using this
                        · have hy' : u'.cells.toList[i]? = some y := by simpa using hy
                          rw [k2, seg_get _ _ _ hofl] at hy'
                          show (cs.toList.take (row * sz + off) ++ (a.eval x).cells.toList ++ cs.toList.drop (row * sz + off + (a.eval x).cells.toList.length)).toArray[row * ob.sz + i]? = some y
                          rw [List.getElem?_toArray, seg_get _ _ _ hcsl]
                          by_cases hin : off ≤ i ∧ i < off + (a.eval x).cells.toList.length
                          · rw [if_pos hin] at hy'
                            rw [if_pos (by rw [c1]; omega), show row * ob.sz + i - (row * sz + off) = i - off by rw [c1]; omega]
                            exact hy'
                          · rw [if_neg hin] at hy'
                            rw [if_neg (by rw [c1]; omega)]
                            have := e4 i y (by simpa using hy')
                            simpa [World.cell?, hb] using this
                      · rw [if_neg hjr] at hj
                        obtain ⟨v, g1, g2, g3⟩ := RelR.get _ _ _ _ _ hR hj
                        refine ⟨v, RelT.step hstep (by simp) _ _ (RelT.step hold (Nat.le_refl _) _ _ g1), g2, fun i y hy => ?_⟩
                        show (cs.toList.take (row * sz + off) ++ (a.eval x).cells.toList ++ cs.toList.drop (row * sz + off + (a.eval x).cells.toList.length)).toArray[j * ob.sz + i]? = some y
                        rw [List.getElem?_toArray, seg_get _ _ _ hcsl]
                        have hi2 : i < ob.sz := by rw [← g2]; exact (Array.getElem?_eq_some_iff.1 hy).1
                        rw [if_neg ?_]
                        · have := g3 i y hy
                          simpa [World.cell?, hb] using this
                        · intro hbad
                          rw [hvs] at hbad
                          rcases Nat.lt_or_ge j row with hlt | hge
                          · have := Nat.mul_le_mul_right ob.sz (show j + 1 ≤ row from hlt)
                            rw [Nat.add_mul] at this
                            rw [← c1] at hbad; omega
                          · have := Nat.mul_le_mul_right ob.sz (show row + 1 ≤ j by omega)
                            rw [Nat.add_mul] at this
                            rw [← c1] at hbad d3; omega
                    · rw [if_neg hii] at hoi
                      exact absurd hoi (kills_none _ _ _)
                · cases hst
              · cases hst
            · cases hst
          · cases hst
        · cases hst
      · cases he
    · cases he
  · cases he
end
end Go.Ev
/- Slices made and cut, lengths, structs and slices built. -/
set_option linter.unusedVariables false
namespace Go.Ev
open Go Go.RowKit
section
variable {P : Program} {tt : Nat → Option TE} {sp : Nat → Option Spec} {w0 : World} {okA : Nat → Prop} {F : Pn} {N : Nat} {Fr : Nat → Prop} {ρ : Nat → Nat} {σ : St} {a : Act} {w : World}

theorem madeCells_at (z : Array Value) (n sz j i : Nat) (hz : z.size = sz) (hi : i < sz) (hj : j < n) : (madeCells z (n * sz))[j * sz + i]? = z[i]? := by
  have h1 : j * sz + i < n * sz := by
    have := Nat.mul_le_mul_right sz (show j + 1 ≤ n from hj)
    rw [Nat.add_mul] at this; omega
  have h2 : (j * sz + i) % sz = i := by rw [Nat.mul_comm, Nat.mul_add_mod, Nat.mod_eq_of_lt hi]
  simp only [madeCells]
  rw [Array.getElem?_eq_getElem (by simpa using h1)]
  simp only [Array.getElem_map, Array.getElem_range, hz, h2]
  rw [getElem!_pos z i (by omega), Array.getElem?_eq_getElem (by omega)]

theorem ok_makeSlice (hT : ∀ t e, tt t = some e → TOk P t e) (h : Rel w0 okA F N Fr ρ σ a w) {nid : Nat} (hn : Fr nid) {o : Oper} (hd : ∀ d, o.dst = some d → d < N) {t : TypeId} {l c : Operand} (ho : o.op = .makeSlice t l c) {r : A} {u : List (Nat × Option O)}
    (he : aop tt sp nid o (evA σ) (lookM σ.mm) = some (r, u)) {K : Act → World → Prop} {Q : Exit → Act → World → Prop}
    (hK : ∀ ρ' a' w', Rel w0 okA F N (fun id => Fr id ∧ id ≠ nid) ρ' (σ.put o.dst r u) a' w' → K a' w') : o.wp P a w K Q := by
  simp only [aop, ho] at he
  split at he
  · rename_i e k n k' n' het hl hc
    split at he
    · rename_i el hel
      split at he
      · rename_i ee hee
        split at he
        · rename_i hcond
          obtain ⟨rfl, c1, c2, c3⟩ := hcond
          simp only [Option.some.injEq, Prod.mk.injEq] at he
          obtain ⟨rfl, rfl⟩ := he
          have hE := hT el ee hee
          obtain ⟨hu, i, hi, hsz, hby, hz⟩ := elemOk hT het hel hee
          have h1 := (h.ev l).1
          have h2 := (h.ev c).1
          rw [hl] at h1; rw [hc] at h2
          simp only [RelA, RelT] at h1 h2
          have hr := run_make (P := P) w t el i ee.z hu hi hz k k' n n c1 (Int.le_refl _) (by rw [hby]; exact c2) c3
          have hrun : (execOp a.eval o).run P w = .ok (.value (.slice (some ⟨w.heap.size, 0, none⟩) n.toNat n.toNat)) (w.alloc (.cells (madeCells ee.z.cells (n.toNat * ee.sz)) el)) := by
            rw [hsz] at hr
            simp [execOp, ho, h1, h2, hr]
          unfold Oper.wp
          rw [hrun, Oper.upon_value]
          refine doneNew h hd hn (ks := []) (by simp) (by simp [lookM]) hE.pos (by simp [madeCells]) ?_ (by simp only [RelA]; exact ⟨n.toNat, by simp, Nat.le_refl _, _, _, by simp only [if_true]; exact heap_alloc_at w _, by simp [madeCells], by simp only [maxLen]; omega⟩) (by simp [A.ids]) hK
          intro j t' hj
          have hjn : j < n.toNat := by have := (List.getElem?_eq_some_iff.1 hj).1; simpa using this
          have : t' = ee.zero := by
            rw [List.getElem?_replicate, if_pos hjn] at hj
            exact (Option.some.inj hj).symm
          subst this
          refine ⟨ee.z, hE.zrel _ _, hE.zsz, fun i x hx => ?_⟩
          have hi2 : i < ee.sz := by rw [← hE.zsz]; exact (Array.getElem?_eq_some_iff.1 hx).1
          rw [madeCells_at _ _ _ _ _ hE.zsz hi2 hjn]; exact hx
        · cases he
      · cases he
    · cases he
  · cases he

theorem aLen_eval (h : Rel w0 okA F N Fr ρ σ a w) {x : Operand} {n : Nat} (hn : aLen (evA σ x) = some n) : (∃ p c, a.eval x = .slice p n c ∧ n ≤ c) ∨ ∃ s, a.eval x = .string s ∧ s.size = n := by
  have h1 := (h.ev x).1
  generalize evA σ x = y at hn h1
  unfold aLen at hn
  split at hn
  · simp only [Option.some.injEq] at hn; subst hn
    simp only [RelA, RelT] at h1
    obtain ⟨p, c, e1, e2, _⟩ := h1
    exact .inl ⟨p, c, e1, e2⟩
  · simp only [Option.some.injEq] at hn; subst hn
    simp only [RelA] at h1
    obtain ⟨c, e1, e2, _⟩ := h1
    exact .inl ⟨_, c, e1, e2⟩
  · simp only [Option.some.injEq] at hn; subst hn
    simp only [RelA] at h1
    exact .inl ⟨_, 0, h1, Nat.le_refl _⟩
  · simp only [Option.some.injEq] at hn; subst hn
    simp only [RelA, RelT] at h1
    exact .inr ⟨_, h1, rfl⟩
  · cases hn

theorem ok_slice (hT : ∀ t e, tt t = some e → TOk P t e) (h : Rel w0 okA F N Fr ρ σ a w) {nid : Nat} {o : Oper} (hd : ∀ d, o.dst = some d → d < N) {t : TypeId} {x : Operand} {lo hi mx : Option Operand} (ho : o.op = .slice t x lo hi mx) {r : A} {u : List (Nat × Option O)}
    (he : aop tt sp nid o (evA σ) (lookM σ.mm) = some (r, u)) {K : Act → World → Prop} {Q : Exit → Act → World → Prop}
    (hK : ∀ ρ' a' w', Rel w0 okA F N (fun id => Fr id ∧ id ≠ nid) ρ' (σ.put o.dst r u) a' w' → K a' w') : o.wp P a w K Q := by
  simp only [aop, ho] at he
  split at he
  · cases he
  · rename_i hmx
    split at he
    · rename_i l hh hl hhi
      cases hq : aSlice tt t (evA σ x) l hh with
      | none => simp [hq] at he
      | some y =>
        simp only [hq, Option.map_some, Option.some.injEq, Prod.mk.injEq] at he
        obtain ⟨rfl, rfl⟩ := he
        obtain ⟨h1, h2⟩ := h.ev x
        unfold aSlice at hq
        split at hq
        · rename_i e het
          split at hq
          · rename_i el hel
            split at hq
            · rename_i ee hee
              obtain ⟨hu, inf, hinf, hsz, _, _⟩ := elemOk hT het hel hee
              have hrun : ∀ (p : Option Addr) (n c : Nat), a.eval x = .slice p n c → n ≤ c → 0 ≤ l → l ≤ hh → hh ≤ n → (hi = none → hh = n) →
                  (execOp a.eval o).run P w = .ok (.value (.slice (if c = l.toNat then p else p.map (·.add (l.toNat * ee.sz))) (hh.toNat - l.toNat) (c - l.toNat))) w := by
                intro p n c hp hnc c1 c2 c3 c4
                have hlow : ∀ y : Nat, hh ≤ y → (match lo with | some v => Instr.sliceBound (a.eval v) y .sliceB | none => pure 0).run P w = .ok l.toNat w := by
                  intro y hy
                  cases lo with
                  | none => simp only [Option.some.injEq] at hl; subst hl; rfl
                  | some v =>
                    obtain ⟨k, hk⟩ := idx_eval h hl
                    simp [Instr.sliceBound, hk, asIntOf, c1, show l ≤ (y : Int) by omega]
                have hhigh : (match hi with | some v => Instr.sliceBound (a.eval v) c .sliceAcap | none => pure n).run P w = .ok hh.toNat w := by
                  cases hi with
                  | none => rw [c4 rfl]; rfl
                  | some v =>
                    obtain ⟨k, hk⟩ := idx_eval h hhi
                    simp [Instr.sliceBound, hk, asIntOf, show 0 ≤ hh by omega, show hh ≤ (c : Int) by omega]
                have hlow' := hlow hh.toNat (by omega)
                cases lo with
                | none =>
                  cases hi with
                  | none => simp at hlow' hhigh; simp [execOp, ho, hp, Instr.sliceAt, Instr.slice, run_underlying hu, Instr.sliceBounds, sizeOf, typeInfo, hinf, hsz, hlow', hhigh]
                  | some v => simp at hlow' hhigh; simp [execOp, ho, hp, Instr.sliceAt, Instr.slice, run_underlying hu, Instr.sliceBounds, sizeOf, typeInfo, hinf, hsz, hlow', hhigh]
                | some v' =>
                  cases hi with
                  | none => simp at hlow' hhigh; simp [execOp, ho, hp, Instr.sliceAt, Instr.slice, run_underlying hu, Instr.sliceBounds, sizeOf, typeInfo, hinf, hsz, hlow', hhigh]
                  | some v => simp at hlow' hhigh; simp [execOp, ho, hp, Instr.sliceAt, Instr.slice, run_underlying hu, Instr.sliceBounds, sizeOf, typeInfo, hinf, hsz, hlow', hhigh]
              have hfull : ∀ n, aLen (evA σ x) = some n → hi = none → hh = n := by
                intro n hn hhn
                rw [hhn] at hhi
                simp only [hn, Option.map_some, Option.some.injEq] at hhi
                rw [← hhi]; rfl
              split at hq
              · rename_i sz ll hx
                split at hq
                · rename_i hc
                  obtain ⟨c0, c1, c2, c3⟩ := hc
                  simp only [Option.some.injEq] at hq
                  subst hq
                  rw [hx] at h1
                  simp only [RelA, RelT] at h1
                  obtain ⟨p, c, e1, e2, e3⟩ := h1
                  unfold Oper.wp
                  rw [hrun _ _ _ e1 e2 c1 c2 c3 (hfull _ (by rw [hx]; rfl)), Oper.upon_value]
                  refine done0 (r := .t (.sl sz ((ll.take hh.toNat).drop l.toNat))) h hd ?_ (by simp [A.ids]) hK
                  have hlen : ((ll.take hh.toNat).drop l.toNat).length = hh.toNat - l.toNat := by simp; omega
                  simp only [RelA, RelT]
                  refine ⟨_, _, by rw [hlen], by rw [hlen]; omega, fun hp => ?_⟩
                  rw [hlen] at hp
                  have hll : 0 < ll.length := by omega
                  obtain ⟨b, off, rfl, e4, e5, e6⟩ := e3 hll
                  have hsze : sz = ee.sz := c0.resolve_right (by omega)
                  refine ⟨b, off + l.toNat * sz, ?_, e4, e5, (e6.take hh.toNat).drop l.toNat⟩
                  have hne : ¬ c = l.toNat := by clear e4 e5 e6; omega
                  rw [if_neg hne]
                  simp [Addr.add_lit, hsze]
                · cases hq
              · rename_i id sz l0 len hx
                split at hq
                · rename_i hc
                  obtain ⟨c0, c1, c2, c3, c4⟩ := hc
                  simp only [Option.some.injEq] at hq
                  subst hq
                  rw [hx] at h1 h2
                  simp only [RelA] at h1
                  obtain ⟨c, e1, e2, e3⟩ := h1
                  unfold Oper.wp
                  rw [hrun _ _ _ e1 e2 c1 c2 c3 (hfull _ (by rw [hx]; rfl)), Oper.upon_value]
                  refine done0 (r := .ms id sz (l0 + l.toNat) (hh.toNat - l.toNat)) h hd ?_ (by simpa [A.ids] using h2) hK
                  simp only [RelA]
                  refine ⟨c - l.toNat, ?_, by omega, by rw [show l0 + l.toNat + (c - l.toNat) = l0 + c by omega]; exact e3⟩
                  congr 1
                  by_cases hcl : c = l.toNat
                  · have hl0 : l.toNat = 0 := by omega
                    rw [if_pos hcl, hl0, Nat.add_zero]
                  · rw [if_neg hcl]
                    simp [Addr.add_lit, c0, Nat.add_mul]
                · cases hq
              all_goals cases hq
            · cases hq
          · cases hq
        · cases hq
    · cases he
end
end Go.Ev
/- Calls, lengths, structs and slice literals. -/
set_option linter.unusedVariables false
namespace Go.Ev
open Go Go.RowKit
section
variable {P : Program} {tt : Nat → Option TE} {sp : Nat → Option Spec} {w0 : World} {okA : Nat → Prop} {F : Pn} {N : Nat} {Fr : Nat → Prop} {ρ : Nat → Nat} {σ : St} {a : Act} {w : World}

/-- What is asked of a function's meaning: the machine's call of it does that. -/
structure SpecOk (P : Program) (f : Nat) (s : Spec) : Prop where
  enters : ∀ args w, (callFunc f args).run P w = .ok (.enter f args) w
  calls : ∀ (w : World) (ρ : Nat → Nat) (ok : Nat → Prop) (args : List A) (vals : List Value) (m : Nat → Option O) (r : Ret) (u : List (Nat × Option O)),
    s args m = some (r, u) → RelAL w ok ρ args vals →
    (∀ id o, m id = some o → RelO w ok (ρ id) o ∧ ¬ ok (ρ id)) →
    (∀ id id', (m id).isSome = true → (m id').isSome = true → ρ id = ρ id' → id = id') →
    Calls P f vals.toArray w fun e w' => ∃ v bn, e = .returned v ∧ w'.os = w.os ∧ w'.tape = w.tape ∧ Out w w' ∧ w.heap.size ≤ w'.heap.size ∧ w.heap.size ≤ bn ∧ Keeps w w' ∧
      (∀ id, id ∈ u.map (·.1) → (m id).isSome = true) ∧
      (∀ b, b < w.heap.size → (∀ id, id ∈ u.map (·.1) → ρ id ≠ b) → w'.heap[b]? = w.heap[b]?) ∧
      RelRet w' (fun b => (ok b ∨ w.heap.size ≤ b ∨ ∃ id, id ∈ u.map (·.1) ∧ lookM u id = none ∧ ρ id = b) ∧ b ≠ bn) bn r v ∧
      (∀ id o, id ∈ u.map (·.1) → lookM u id = some o → RelO w' (fun b => (ok b ∨ w.heap.size ≤ b ∨ ∃ id, id ∈ u.map (·.1) ∧ lookM u id = none ∧ ρ id = b) ∧ b ≠ bn) (ρ id) o)

theorem evs_rel (h : Rel w0 okA F N Fr ρ σ a w) : ∀ l : List Operand, RelAL w (okS w0 okA ρ σ.mm) ρ (l.map (evA σ)) (l.map a.eval)
  | [] => by simp [RelAL]
  | x :: l => by simp only [List.map_cons, RelAL]; exact ⟨_, _, rfl, (h.ev x).1, evs_rel h l⟩
theorem evs_ids (h : Rel w0 okA F N Fr ρ σ a w) : ∀ (l : List Operand), ∀ id ∈ A.ids.idsL (l.map (evA σ)), ¬ Fr id
  | [], id, hid => by simp [A.ids.idsL] at hid
  | x :: l, id, hid => by
    simp only [List.map_cons, A.ids.idsL, List.mem_append] at hid
    exact hid.elim ((h.ev x).2 id) (evs_ids h l id)

theorem ret_rel {w : World} {ok : Nat → Prop} {ρ : Nat → Nat} {nid bn : Nat} {r : Ret} {v : Value} (h : RelRet w ok bn r v) (hb : ρ nid = bn) : RelA w ok ρ (r.a nid) v := by
  cases r with
  | ts l =>
    simp only [RelRet] at h
    obtain ⟨us, rfl, hl⟩ := h
    have key : ∀ (l : List T) (us : List Value), RelL w ok l us → RelAL w ok ρ (l.map .t) us := by
      intro l
      induction l with
      | nil => intro us h; simpa only [List.map_nil, RelAL, RelL] using h
      | cons t l ih =>
        intro us h
        simp only [RelL] at h
        obtain ⟨u, us', rfl, h1, h2⟩ := h
        simp only [List.map_cons, RelAL]
        exact ⟨u, us', rfl, by simpa only [RelA] using h1, ih us' h2⟩
    match l, hl with
    | [], hl => simp only [RelL] at hl; subst hl; simp only [Ret.a, List.map_nil, RelA, retVal]; exact ⟨_, rfl, by simp [RelAL]⟩
    | [t], hl =>
      simp only [RelL] at hl
      obtain ⟨u, us', rfl, h1, rfl⟩ := hl
      simpa only [Ret.a, retVal, RelA] using h1
    | t :: t' :: l', hl =>
      have hk := key _ _ hl
      have hlen := hl.length
      match us, hlen, hk with
      | u :: u' :: us', _, hk =>
        simp only [Ret.a, retVal, RelA]
        exact ⟨_, rfl, by simpa using hk⟩
  | own E sz rows =>
    simp only [RelRet] at h
    obtain ⟨c, rfl, h1, h2, _⟩ := h
    simp only [Ret.a, RelA]
    exact ⟨c, by simp [hb], h1, by rw [hb, Nat.zero_add]; exact h2⟩

theorem ok_call (hS : ∀ f s, sp f = some s → SpecOk P f s) (h : Rel w0 okA F N Fr ρ σ a w) {nid : Nat} (hn : Fr nid) {o : Oper} (hd : ∀ d, o.dst = some d → d < N) {c : Call} {f : Nat} (ho : o.op = .call c) (hc : c.callee = .value (.func f)) {r : A} {u : List (Nat × Option O)}
    (he : aop tt sp nid o (evA σ) (lookM σ.mm) = some (r, u)) {K : Act → World → Prop} {Q : Exit → Act → World → Prop}
    (hK : ∀ ρ' a' w', Rel w0 okA F N (fun id => Fr id ∧ id ≠ nid) ρ' (σ.put o.dst r u) a' w' → K a' w') : o.wp P a w K Q := by
  simp only [aop, ho, hc] at he
  cases hsf : sp f with
  | none => simp [hsf] at he
  | some s =>
    simp only [hsf] at he
    cases hq : s (c.args.toList.map (evA σ)) (restr (A.ids.idsL (c.args.toList.map (evA σ))) (lookM σ.mm)) with
    | none => simp [hq] at he
    | some q =>
      obtain ⟨rr, ru⟩ := q
      simp only [hq, Option.some.injEq, Prod.mk.injEq] at he
      obtain ⟨rfl, rfl⟩ := he
      have hs := hS f s hsf
      have hcall := hs.calls w ρ (okS w0 okA ρ σ.mm) (c.args.toList.map (evA σ)) (c.args.toList.map a.eval) _ rr ru hq (evs_rel h _)
        (fun id o' ho' => by
          unfold restr at ho'
          split at ho'
          · exact ⟨h.mm id o' ho', fun hok => hok.2 id (by rw [ho']; rfl) rfl⟩
          · cases ho')
        (fun id id' h1 h2 he' => by
          unfold restr at h1 h2
          split at h1
          · split at h2
            · exact h.inj id id' h1 h2 he'
            · cases h2
          · cases h1)
      have hrun : (execOp a.eval o).run P w = .ok (.enter f (c.args.toList.map a.eval).toArray) w := by
        have hargs : (c.args.map a.eval) = (c.args.toList.map a.eval).toArray := by simp [← Array.toList_map]
        simp [execOp, ho, resolve, hc, Act.eval, Deferred.ofValue, invoke, hs.enters]
        exact hargs
      unfold Oper.wp
      rw [hrun, Oper.upon_enter]
      refine hcall.mono ?_
      rintro e w' ⟨v, bn, rfl, g1, g2, g3, g4, g5, gk, g6, g7, g8, g9⟩
      have hlive : ∀ id, id ∈ ru.map (·.1) → (lookM σ.mm id).isSome = true := by
        intro id hid
        have := g6 id hid
        unfold restr at this
        split at this
        · exact this
        · cases this
      have hkeys : ∀ id, id ∈ (rr.upd nid ++ ru).map (·.1) → id = nid ∨ (lookM σ.mm id).isSome = true := by
        intro id hid
        rw [List.map_append, List.mem_append] at hid
        rcases hid with hid | hid
        · cases rr with
          | ts l => simp [Ret.upd] at hid
          | own E sz rows => simp [Ret.upd] at hid; exact .inl hid
        · exact .inr (hlive id hid)
      have hnn : ∀ id, id ∈ ru.map (·.1) → id ≠ nid := fun id hid e => by have := hlive id hid; rw [e, h.fr nid hn] at this; cases this
      have hlook : ∀ id, id ≠ nid → lookM (rr.upd nid ++ ru ++ σ.mm) id = lookM (ru ++ σ.mm) id := by
        intro id hne
        rw [List.append_assoc, lookM_append, if_neg]
        intro hm
        cases rr with
        | ts l => simp [Ret.upd] at hm
        | own E sz rows => simp [Ret.upd] at hm; exact hne hm
      -- what the callee leaves is of the new class
      have hcls : ∀ b, ((okS w0 okA ρ σ.mm b ∨ w.heap.size ≤ b ∨ ∃ id, id ∈ ru.map (·.1) ∧ lookM ru id = none ∧ ρ id = b) ∧ b ≠ bn) → okS w0 okA (fun i => if i = nid then bn else ρ i) (rr.upd nid ++ ru ++ σ.mm) b := by
        rintro b ⟨hb, hbn⟩
        refine ⟨?_, fun id hid => ?_⟩
        · rcases hb with hb | hb | ⟨id, hid, _, rfl⟩
          · exact hb.1
          · exact .inr (Nat.le_trans h.size hb)
          · exact (h.own id (hlive id hid)).elim .inr fun hF => .inl (h.fa _ hF)
        · by_cases e : id = nid
          · simp only [e, if_true]; exact fun e' => hbn e'.symm
          · simp only [e, if_false]
            have hl2 := (live_new hkeys hid).resolve_left e
            rw [hlook id e] at hid
            rcases hb with hb | hb | ⟨id', hid', hdead, rfl⟩
            · exact hb.2 id hl2
            · have := h.lt hl2; omega
            · intro he'
              have := h.inj id id' hl2 (hlive id' hid') he'
              subst this
              rw [lookM_append, if_pos hid', hdead] at hid
              cases hid
      have hst : ∀ b, ((okS w0 okA ρ σ.mm b ∨ w.heap.size ≤ b ∨ ∃ id, id ∈ ru.map (·.1) ∧ lookM ru id = none ∧ ρ id = b) ∧ b ≠ bn) → b < w'.heap.size → w'.heap[b]? = w'.heap[b]? ∧ okS w0 okA (fun i => if i = nid then bn else ρ i) (rr.upd nid ++ ru ++ σ.mm) b := fun b hb _ => ⟨rfl, hcls b hb⟩
      refine hK _ _ _ (h.upd o.dst hd nid hn w' v bn (rr.a nid) (rr.upd nid ++ ru) hkeys g1 g2 g3 g4 (fun b hb hb2 => g7 b hb fun id hid => hb2 id (by simp only [List.map_append, List.mem_append]; exact .inr hid) (hnn id hid)) gk (.inl g5) ?_ ?_ ?_)
      · intro id o' hid ho'
        by_cases e : id = nid
        · subst e
          simp only [if_true]
          cases rr with
          | ts l =>
            simp only [Ret.upd, List.nil_append] at hid
            exact absurd rfl (hnn id hid)
          | own E sz rows =>
            simp only [Ret.upd, List.cons_append, lookM, if_true, Option.some.injEq] at ho'
            subst ho'
            simp only [RelRet] at g8
            obtain ⟨cc, _, _, _, ⟨cs, q1, q2⟩, q3, q4⟩ := g8
            exact .inl ⟨⟨cs, q1, q2⟩, q3, RelR.step hst (Nat.le_refl _) _ rfl _ _ _ q4⟩
        · simp only [e, if_false]
          have hid' : id ∈ ru.map (·.1) := by
            rw [List.map_append, List.mem_append] at hid
            rcases hid with hid | hid
            · cases rr with
              | ts l => simp [Ret.upd] at hid
              | own E sz rows => simp [Ret.upd] at hid; exact absurd hid e
            · exact hid
          have ho'' : lookM ru id = some o' := by
            rw [lookM_append, if_neg] at ho'
            · exact ho'
            · intro hm
              cases rr with
              | ts l => simp [Ret.upd] at hm
              | own E sz rows => simp [Ret.upd] at hm; exact e hm
          exact RelO.step hst (Nat.le_refl _) rfl (g9 id o' hid' ho'')
      · have := ret_rel (ρ := fun i => if i = nid then bn else ρ i) (nid := nid) g8 (by simp)
        exact RelA.step hst (Nat.le_refl _) (Keeps.refl _) _ _ (fun _ _ => rfl) this
      · intro id hid
        cases rr with
        | ts l =>
          exfalso
          match l, hid with
          | [], hid => simp [Ret.a, A.ids, A.ids.idsL] at hid
          | [t], hid => simp [Ret.a, A.ids] at hid
          | t :: t' :: l', hid =>
            have key : ∀ l : List T, A.ids.idsL (l.map A.t) = [] := by
              intro l
              induction l with
              | nil => rfl
              | cons x l ih => simp [A.ids.idsL, A.ids, ih]
            simp only [Ret.a, A.ids, key] at hid
            cases hid
        | own E sz rows => simp [Ret.a, A.ids] at hid; exact .inr hid

theorem ok_len (hT : ∀ t e, tt t = some e → TOk P t e) (h : Rel w0 okA F N Fr ρ σ a w) {nid : Nat} {o : Oper} (hd : ∀ d, o.dst = some d → d < N) {c : Call} (ho : o.op = .call c) (hc : c.callee = .builtin .len) {r : A} {u : List (Nat × Option O)}
    (he : aop tt sp nid o (evA σ) (lookM σ.mm) = some (r, u)) {K : Act → World → Prop} {Q : Exit → Act → World → Prop}
    (hK : ∀ ρ' a' w', Rel w0 okA F N (fun id => Fr id ∧ id ≠ nid) ρ' (σ.put o.dst r u) a' w' → K a' w') : o.wp P a w K Q := by
  simp only [aop, ho, hc] at he
  split at he
  · rename_i x t0 ts hx htt
    have hargs : c.args = #[x] := by apply Array.ext'; simpa using hx
    have hat : c.argTypes[0]? = some t0 := by
      have : c.argTypes.toList[0]? = some t0 := by rw [htt]; rfl
      simpa using this
    split at he
    · rename_i e het
      have key : ∀ (p : Option Addr) (n cc : Nat) (el : Nat), e.elem = some el → a.eval x = .slice p n cc → (execOp a.eval o).run P w = .ok (.value (.int .i64 n)) w := by
        intro p n cc el hel hx
        simp [execOp, ho, resolve, hc, invoke, builtin, Builtin.len_, hat, hargs, hx, run_underlying ((hT t0 e het).elem el hel), goInt]
      have h1 := (h.ev x).1
      split at he
      · rename_i el sz l hel hxx
        simp only [Option.some.injEq, Prod.mk.injEq] at he
        obtain ⟨rfl, rfl⟩ := he
        rw [hxx] at h1
        simp only [RelA, RelT] at h1
        obtain ⟨p, cc, e1, e2, _⟩ := h1
        unfold Oper.wp
        rw [key _ _ _ _ hel e1, Oper.upon_value]
        exact done0 h hd (by simp [RelA, RelT]) (by simp [A.ids]) hK
      · rename_i el id sz lo len hel hxx
        simp only [Option.some.injEq, Prod.mk.injEq] at he
        obtain ⟨rfl, rfl⟩ := he
        rw [hxx] at h1
        simp only [RelA] at h1
        obtain ⟨cc, e1, e2, _⟩ := h1
        unfold Oper.wp
        rw [key _ _ _ _ hel e1, Oper.upon_value]
        exact done0 h hd (by simp [RelA, RelT]) (by simp [A.ids]) hK
      · rename_i el sz hel hxx
        simp only [Option.some.injEq, Prod.mk.injEq] at he
        obtain ⟨rfl, rfl⟩ := he
        rw [hxx] at h1
        simp only [RelA] at h1
        unfold Oper.wp
        rw [key _ _ _ _ hel h1, Oper.upon_value]
        exact done0 h hd (by simp [RelA, RelT]) (by simp [A.ids]) hK
      · cases he
    · cases he
  · cases he

theorem ok_minmax (h : Rel w0 okA F N Fr ρ σ a w) {nid : Nat} {o : Oper} (hd : ∀ d, o.dst = some d → d < N) {c : Call} (ho : o.op = .call c) (hc : c.callee = .builtin .max ∨ c.callee = .builtin .min) {r : A} {u : List (Nat × Option O)}
    (he : aop tt sp nid o (evA σ) (lookM σ.mm) = some (r, u)) {K : Act → World → Prop} {Q : Exit → Act → World → Prop}
    (hK : ∀ ρ' a' w', Rel w0 okA F N (fun id => Fr id ∧ id ≠ nid) ρ' (σ.put o.dst r u) a' w' → K a' w') : o.wp P a w K Q := by
  rcases hc with hc | hc
  all_goals
    simp only [aop, ho, hc] at he
    split at he
    · rename_i x y hx
      have hargs : c.args = #[x, y] := by apply Array.ext'; simpa using hx
      split at he
      · rename_i k i k' j hi hj
        simp only [Option.some.injEq, Prod.mk.injEq] at he
        obtain ⟨rfl, rfl⟩ := he
        have h1 := (h.ev x).1
        have h2 := (h.ev y).1
        rw [hi] at h1; rw [hj] at h2
        simp only [RelA, RelT] at h1 h2
        unfold Oper.wp
        have hrun : ∃ v, (execOp a.eval o).run P w = .ok (.value v) w ∧ v = _ :=
          ⟨_, by simp [execOp, ho, resolve, hc, invoke, builtin, Builtin.max_, Builtin.min_, Builtin.max2, Builtin.min2, hargs, h1, h2]; rfl, rfl⟩
        obtain ⟨v, hv, rfl⟩ := hrun
        rw [hv, Oper.upon_value]
        exact done0 h hd (by simp [RelA, RelT]) (by simp [A.ids]) hK
      · cases he
    · cases he
end
end Go.Ev
/- Structs and slice literals. -/
set_option linter.unusedVariables false
namespace Go.Ev
open Go Go.RowKit
section
variable {P : Program} {tt : Nat → Option TE} {sp : Nat → Option Spec} {w0 : World} {okA : Nat → Prop} {F : Pn} {N : Nat} {Fr : Nat → Prop} {ρ : Nat → Nat} {σ : St} {a : Act} {w : World}

theorem foldSet (off : Nat) : ∀ (l : List Value) (k : Nat) (cs : Array Value), off + k + l.length ≤ cs.size →
    (((l.zipIdx k).foldl (fun cs (x : Value × Nat) => cs.setIfInBounds (off + x.2) x.1) cs).toList = cs.toList.take (off + k) ++ l ++ cs.toList.drop (off + k + l.length))
  | [], k, cs, h => by simp
  | c :: l, k, cs, h => by
    simp only [List.zipIdx_cons, List.foldl_cons]
    rw [foldSet off l (k + 1) _ (by simp at h ⊢; omega)]
    apply List.ext_getElem?
    intro i
    have e1 := seg_get (cs.setIfInBounds (off + k) c).toList (off + (k + 1)) l (by simp at h ⊢; omega) i
    have e2 := seg_get cs.toList (off + k) (c :: l) (by simpa using h) i
    rw [e1, e2]
    simp only [List.length_cons, Array.toList_setIfInBounds, List.getElem?_set]
    simp only [List.length_cons] at h
    have hcs : cs.toList.length = cs.size := by simp
    by_cases h1 : off + (k + 1) ≤ i ∧ i < off + (k + 1) + l.length
    · rw [if_pos h1, if_pos (by omega)]
      rw [show i - (off + k) = (i - (off + (k + 1))) + 1 by omega]
      simp
    · rw [if_neg h1]
      by_cases h2 : off + k = i
      · subst h2
        rw [if_pos rfl, if_pos (by omega), if_pos (by omega)]
        simp
      · rw [if_neg h2, if_neg (by omega)]
theorem fill_cons {place : Nat → Option (Nat × Nat)} {cells : Array Value} {i off size : Nat} {v : Value} {rest : List (Nat × Value)} (hp : place i = some (off, size)) (hs : v.cells.size = size) (hf : off + v.cells.size ≤ cells.size) :
    Instr.fill place cells ((i, v) :: rest) = Instr.fill place (cells.toList.take off ++ v.cells.toList ++ cells.toList.drop (off + v.cells.toList.length)).toArray rest := by
  simp only [Instr.fill, hp, hs, ne_eq, not_true_eq_false, decide_false, Bool.false_or, decide_eq_true_eq]
  rw [if_neg (by omega)]
  congr 1
  have := foldSet off v.cells.toList 0 cells (by simpa using hf)
  apply Array.ext'
  simp only [Nat.add_zero] at this
  rw [← this, ← Array.foldl_toList]
  simp

theorem fillA_rel {w : World} {ok : Nat → Prop} {flds : List (Nat × Nat)} {szOf : Nat → Option Nat} {place : Nat → Option (Nat × Nat)}
    (hp : ∀ (i off ft n : Nat), flds[i]? = some (off, ft) → szOf ft = some n → place i = some (off, n)) :
    ∀ (ps : List (Nat × List T)) (vs : List (Nat × Value)) (cs l : List T) (cells : Array Value), fillA flds szOf cs ps = some l → RelL w ok cs cells.toList →
      vs.length = ps.length → (∀ (j : Nat) (p : Nat × List T) (v : Nat × Value), ps[j]? = some p → vs[j]? = some v → p.1 = v.1 ∧ RelL w ok p.2 v.2.cells.toList) → ∃ cells', Instr.fill place cells vs = some cells' ∧ RelL w ok l cells'.toList
  | [], vs, cs, l, cells, hf, hc, hl, _ => by
    simp only [fillA, Option.some.injEq] at hf
    subst hf
    have : vs = [] := List.eq_nil_of_length_eq_zero (by simpa using hl)
    subst this
    exact ⟨cells, rfl, hc⟩
  | (i, n) :: ps, [], cs, l, cells, hf, hc, hl, _ => by simp at hl
  | (i, n) :: ps, (i', v) :: vs, cs, l, cells, hf, hc, hl, hr => by
    simp only [fillA] at hf
    obtain ⟨e1, e2⟩ := hr 0 (i, n) (i', v) rfl rfl
    simp only at e1 e2
    subst e1
    split at hf
    · rename_i off ft hfl
      split at hf
      · rename_i hcond
        have hnl : v.cells.toList.length = n.length := e2.length
        have hcl : cells.toList.length = cs.length := hc.length
        have hvs : v.cells.size = n.length := by simpa using hnl
        have hcs : cells.size = cs.length := by simpa using hcl
        rw [fill_cons (hp _ _ _ _ hfl hcond.1) hvs (by omega)]
        refine fillA_rel hp ps vs _ l _ hf ?_ (by simpa using hl) (fun j p v' h1 h2 => hr (j + 1) p v' (by simpa using h1) (by simpa using h2))
        simp only [putCells]
        have := ((hc.take off).append e2).append (hc.drop (off + v.cells.toList.length))
        rw [hnl] at this ⊢
        simpa using this
      · cases hf
    · cases hf

theorem mapM_opt_get {α β : Type} (f : α → Option β) : ∀ (l : List α) (r : List β), l.mapM f = some r → r.length = l.length ∧ ∀ (j : Nat) (x : α), l[j]? = some x → ∃ y, r[j]? = some y ∧ f x = some y
  | [], r, h => by simp at h; subst h; simp
  | x :: l, r, h => by
    simp only [List.mapM_cons, Option.bind_eq_bind, Option.pure_def, Option.bind_eq_some_iff] at h
    obtain ⟨y, h1, r', h2, h3⟩ := h
    simp only [Option.some.injEq] at h3
    subst h3
    obtain ⟨e1, e2⟩ := mapM_opt_get f l r' h2
    refine ⟨by simp [e1], fun j z hj => ?_⟩
    cases j with
    | zero => simp at hj; subst hj; exact ⟨y, rfl, h1⟩
    | succ j => simp at hj; obtain ⟨y', g1, g2⟩ := e2 j z hj; exact ⟨y', by simpa using g1, g2⟩

theorem killsAll (σ : St) (l : List Operand) : ∀ id o, lookM (l.flatMap fun x => kills (evA σ x)) id ≠ some o := by
  induction l with
  | nil => intro id o h; simp [lookM] at h
  | cons x l ih =>
    intro id o h
    simp only [List.flatMap_cons] at h
    rw [lookM_append] at h
    split at h
    · exact kills_none _ _ _ h
    · exact ih id o h

/-- A value that only lets go of objects. -/
theorem doneKill (h : Rel w0 okA F N Fr ρ σ a w) {o : Oper} (hd : ∀ d, o.dst = some d → d < N) {nid : Nat} (hn : Fr nid) {r : A} {v : Value} {ks : List (Nat × Option O)}
    (hks : ∀ id, id ∈ ks.map (·.1) → (lookM σ.mm id).isSome = true) (hkn : ∀ id o, lookM ks id ≠ some o)
    (hr : RelA w (okS w0 okA (fun i => if i = nid then w.heap.size else ρ i) (ks ++ σ.mm)) (fun i => if i = nid then w.heap.size else ρ i) r v)
    (hi : r.ids = []) {K : Act → World → Prop}
    (hK : ∀ ρ' a' w', Rel w0 okA F N (fun id => Fr id ∧ id ≠ nid) ρ' (σ.put o.dst r ks) a' w' → K a' w') : K (a.put o.dst v) w :=
  hK _ _ _ (h.upd o.dst hd nid hn w v w.heap.size r ks (fun id hid => .inr (hks id hid)) rfl rfl (Out.refl _) (Nat.le_refl _) (fun b _ _ => rfl) (Keeps.refl _) (.inl (Nat.le_refl _)) (fun id o' _ ho => absurd ho (hkn id o')) hr (by simp [hi]))

theorem ok_build (hT : ∀ t e, tt t = some e → TOk P t e) (h : Rel w0 okA F N Fr ρ σ a w) {nid : Nat} (hn : Fr nid) {o : Oper} (hd : ∀ d, o.dst = some d → d < N) {t : TypeId} {parts : Array (Nat × Operand)} (ho : o.op = .build t parts) {r : A} {u : List (Nat × Option O)}
    (he : aop tt sp nid o (evA σ) (lookM σ.mm) = some (r, u)) {K : Act → World → Prop} {Q : Exit → Act → World → Prop}
    (hK : ∀ ρ' a' w', Rel w0 okA F N (fun id => Fr id ∧ id ≠ nid) ρ' (σ.put o.dst r u) a' w' → K a' w') : o.wp P a w K Q := by
  simp only [aop, ho] at he
  split at he
  · rename_i e ps het hps
    split at he
    · rename_i hcond
      cases hf : fillA e.flds (fun ft => (tt ft).map (·.sz)) e.zero.cells ps with
      | none => simp [hf] at he
      | some l =>
        simp only [hf, Option.some.injEq, Prod.mk.injEq] at he
        obtain ⟨rfl, rfl⟩ := he
        have hE := hT t e het
        obtain ⟨it, hit, hsz, hby, hz⟩ := hE.info
        obtain ⟨fs, hu, hfl⟩ := hE.flds hcond.1
        obtain ⟨pl, hpl⟩ := hE.places hcond.1 fs hu
        obtain ⟨hpl1, hpl2⟩ := mapM_opt_get _ _ _ hpl
        obtain ⟨hps1, hps2⟩ := mapM_opt_get _ _ _ hps
        have hflat : (parts.toList.flatMap fun p => kills (evA σ p.2)) = ((parts.toList.map (·.2)).flatMap fun x => kills (evA σ x)) := by rw [List.flatMap_map]
        have hkn := killsAll σ (parts.toList.map (·.2))
        rw [← hflat] at hkn
        have hks : ∀ id, id ∈ (parts.toList.flatMap fun p => kills (evA σ p.2)).map (·.1) → (lookM σ.mm id).isSome = true := by
          intro id hid
          simp only [List.mem_map, List.mem_flatMap] at hid
          obtain ⟨q, ⟨p, hp, hq⟩, rfl⟩ := hid
          obtain ⟨j, hj⟩ := List.mem_iff_getElem?.1 hp
          obtain ⟨y, hy1, hy2⟩ := hps2 j p hj
          cases hv : viewT (lookM σ.mm) (evA σ p.2) with
          | none => simp [hv] at hy2
          | some tp => exact viewT_live hv _ (List.mem_map.2 ⟨q, hq, rfl⟩)
        have hplace : ∀ (i off ft n : Nat), e.flds[i]? = some (off, ft) → (tt ft).map (·.sz) = some n → pl.toArray[i]? = some (off, n) := by
          intro i off ft n h1 h2
          rw [← hfl, List.getElem?_map] at h1
          cases hq : fs.toList[i]? with
          | none => simp [hq] at h1
          | some fd =>
            simp only [hq, Option.map_some, Option.some.injEq, Prod.mk.injEq] at h1
            obtain ⟨rfl, rfl⟩ := h1
            obtain ⟨y, g1, g2⟩ := hpl2 i fd hq
            cases hte : tt fd.type with
            | none => simp [hte] at h2
            | some fe =>
              simp only [hte, Option.map_some, Option.some.injEq] at h2
              obtain ⟨inf, i1, i2, _⟩ := (hT _ _ hte).info
              rw [i1] at g2
              simp only [Option.map_some, Option.some.injEq] at g2
              rw [List.getElem?_toArray, g1, ← g2, i2, h2]
        have hz0 := ((hE.zrel w (okS w0 okA (fun i => if i = nid then w.heap.size else ρ i) ((parts.toList.flatMap fun p => kills (evA σ p.2)) ++ σ.mm))).cells hE.zone).1
        obtain ⟨cells', f1, f2⟩ := fillA_rel hplace ps (parts.toList.map fun p => (p.1, a.eval p.2)) _ l e.z.cells hf hz0 (by simp [hps1]) (fun j p v h1 h2 => by
          rw [List.getElem?_map] at h2
          cases hq : parts.toList[j]? with
          | none => simp [hq] at h2
          | some q =>
            simp only [hq, Option.map_some, Option.some.injEq] at h2
            subst h2
            obtain ⟨y, g1, g2⟩ := hps2 j q hq
            rw [h1] at g1
            simp only [Option.some.injEq] at g1
            subst g1
            cases hv : viewT (lookM σ.mm) (evA σ q.2) with
            | none => simp [hv] at g2
            | some tp =>
              simp only [hv, Option.map_some, Option.some.injEq] at g2
              subst g2
              have h1c := List.all_eq_true.1 hcond.2 _ (List.mem_of_getElem? h1)
              refine ⟨rfl, ((view_new h hv (nid := nid) (bn := w.heap.size) (u := parts.toList.flatMap fun p => kills (evA σ p.2)) (fun id hid => .inr (hks id hid)) (Nat.le_refl _) (fun id hid hl => ?_)).cells h1c).1⟩
              rw [lookM_append, if_pos]
              · cases hk : lookM (parts.toList.flatMap fun p => kills (evA σ p.2)) id with
                | none => rfl
                | some o'' => exact absurd hk (hkn _ _)
              · obtain ⟨x, hx1, hx2⟩ := List.mem_map.1 hid
                exact List.mem_map.2 ⟨x, List.mem_flatMap.2 ⟨q, List.mem_of_getElem? hq, hx1⟩, hx2⟩)
        have hrun : (execOp a.eval o).run P w = .ok (.value (.agg cells')) w := by
          have hb : P.built t (parts.map fun (i, x) => (i, a.eval x)).toList = some cells' := by
            unfold Program.built
            simp only [hit, hu, hz, hpl]
            rw [← f1]
            congr 1
            simp
          have := run_build (P := P) w t (parts.map fun (i, x) => (i, a.eval x)) cells' hb
          simp only [execOp, ho, Sem.run_bind, this, Result.andThen_ok]
          rfl
        unfold Oper.wp
        rw [hrun, Oper.upon_value]
        exact doneKill h hd hn hks hkn (by simp only [RelA, RelT]; exact ⟨cells', rfl, f2⟩) rfl hK
    · cases he
  · cases he

theorem ok_makeFunc (h : Rel w0 okA F N Fr ρ σ a w) {nid : Nat} (hn : Fr nid) {o : Oper} (hd : ∀ d, o.dst = some d → d < N) {fn : Fn} {first caps : Array Operand} (ho : o.op = .makeFunc fn first caps) {r : A} {u : List (Nat × Option O)}
    (he : aop tt sp nid o (evA σ) (lookM σ.mm) = some (r, u)) {K : Act → World → Prop} {Q : Exit → Act → World → Prop}
    (hK : ∀ ρ' a' w', Rel w0 okA F N (fun id => Fr id ∧ id ≠ nid) ρ' (σ.put o.dst r u) a' w' → K a' w') : o.wp P a w K Q := by
  cases fn with
  | func f =>
    simp only [aop, ho] at he
    split at he
    · rename_i ts hfirst hts
      simp only [Option.some.injEq, Prod.mk.injEq] at he
      obtain ⟨rfl, rfl⟩ := he
      obtain ⟨hps1, hps2⟩ := mapM_opt_get _ _ _ hts
      have hkn := killsAll σ caps.toList
      have hks : ∀ id, id ∈ (caps.toList.flatMap fun x => kills (evA σ x)).map (·.1) → (lookM σ.mm id).isSome = true := by
        intro id hid
        simp only [List.mem_map, List.mem_flatMap] at hid
        obtain ⟨q, ⟨p, hp, hq⟩, rfl⟩ := hid
        obtain ⟨j, hj⟩ := List.mem_iff_getElem?.1 hp
        obtain ⟨y, hy1, hy2⟩ := hps2 j p hj
        exact viewT_live hy2 _ (List.mem_map.2 ⟨q, hq, rfl⟩)
      have hf0 : first = #[] := by apply Array.ext'; simpa using hfirst
      have hrun : (execOp a.eval o).run P w = .ok (.value (.func (.func f) #[] (caps.map a.eval))) w := by
        simp [execOp, ho, Instr.makeFunc, hf0]
      unfold Oper.wp
      rw [hrun, Oper.upon_value]
      refine doneKill h hd hn hks hkn ?_ rfl hK
      simp only [RelA, RelT]
      refine ⟨_, rfl, RelL.of_get _ _ (by simp [hps1]) fun j t v h1 h2 => ?_⟩
      simp only [Array.toList_map, List.getElem?_map] at h2
      cases hq : caps.toList[j]? with
      | none => simp [hq] at h2
      | some q =>
        simp only [hq, Option.map_some, Option.some.injEq] at h2
        subst h2
        obtain ⟨y, g1, g2⟩ := hps2 j q hq
        rw [h1] at g1
        simp only [Option.some.injEq] at g1
        subst g1
        refine view_new h g2 (nid := nid) (bn := w.heap.size) (u := caps.toList.flatMap fun x => kills (evA σ x)) (fun id hid => .inr (hks id hid)) (Nat.le_refl _) (fun id hid hl => ?_)
        rw [lookM_append, if_pos]
        · cases hk : lookM (caps.toList.flatMap fun x => kills (evA σ x)) id with
          | none => rfl
          | some o'' => exact absurd hk (hkn _ _)
        · obtain ⟨x, hx1, hx2⟩ := List.mem_map.1 hid
          exact List.mem_map.2 ⟨x, List.mem_flatMap.2 ⟨q, List.mem_of_getElem? hq, hx1⟩, hx2⟩
    · cases he
  | _ => simp [aop, ho] at he

theorem fill_rows {sz : Nat} : ∀ (vs : List Value) (k : Nat) (cells : Array Value), (k + vs.length) * sz ≤ cells.size → (∀ v ∈ vs, v.cells.size = sz) →
    ∃ cells', Instr.fill (fun i => some (i * sz, sz)) cells ((vs.zipIdx k).map fun x => (x.2, x.1)) = some cells' ∧ cells'.size = cells.size ∧
      (∀ i, i < k * sz → cells'[i]? = cells[i]?) ∧ ∀ (j : Nat) (v : Value) (i : Nat) (x : Value), vs[j]? = some v → v.cells[i]? = some x → cells'[(k + j) * sz + i]? = some x
  | [], k, cells, _, _ => ⟨cells, rfl, rfl, fun _ _ => rfl, fun j v i x h => by simp at h⟩
  | v :: vs, k, cells, h, hs => by
    have hv := hs v (by simp)
    have hk : k * sz + sz ≤ cells.size := by
      have := Nat.mul_le_mul_right sz (show k + 1 ≤ k + (v :: vs).length by simp)
      rw [Nat.add_mul] at this; omega
    simp only [List.zipIdx_cons, List.map_cons]
    rw [fill_cons (place := fun i => some (i * sz, sz)) rfl hv (by omega)]
    have hsize : (cells.toList.take (k * sz) ++ v.cells.toList ++ cells.toList.drop (k * sz + v.cells.toList.length)).toArray.size = cells.size := by simp; omega
    obtain ⟨cells', e1, e2, e3, e4⟩ := fill_rows vs (k + 1) (cells.toList.take (k * sz) ++ v.cells.toList ++ cells.toList.drop (k * sz + v.cells.toList.length)).toArray (by rw [hsize]; simp at h ⊢; rw [show k + 1 + vs.length = k + (vs.length + 1) by omega]; exact h) (fun x hx => hs x (by simp [hx]))
    have hseg := seg_get cells.toList (k * sz) v.cells.toList (by simp; omega)
    refine ⟨cells', e1, by rw [e2, hsize], fun i hi => ?_, fun j v' i x hj hx => ?_⟩
    · rw [e3 i (by rw [Nat.add_mul]; omega), List.getElem?_toArray, hseg, if_neg (by omega)]
      simp
    · cases j with
      | zero =>
        simp at hj
        subst hj
        have hi : i < sz := by rw [← hv]; exact (Array.getElem?_eq_some_iff.1 hx).1
        rw [Nat.add_zero, e3 _ (by rw [Nat.add_mul]; omega), List.getElem?_toArray, hseg, if_pos (by simp; omega), show k * sz + i - k * sz = i by omega]
        simpa using hx
      | succ j =>
        have := e4 j v' i x (by simpa using hj) hx
        rwa [show k + 1 + j = k + (j + 1) by omega] at this

theorem ok_buildSlice (hT : ∀ t e, tt t = some e → TOk P t e) (h : Rel w0 okA F N Fr ρ σ a w) {nid : Nat} (hn : Fr nid) {o : Oper} (hd : ∀ d, o.dst = some d → d < N) {t : TypeId} {len : Nat} {parts : Array (Nat × Operand)} (ho : o.op = .buildSlice t len parts) {r : A} {u : List (Nat × Option O)}
    (he : aop tt sp nid o (evA σ) (lookM σ.mm) = some (r, u)) {K : Act → World → Prop} {Q : Exit → Act → World → Prop}
    (hK : ∀ ρ' a' w', Rel w0 okA F N (fun id => Fr id ∧ id ≠ nid) ρ' (σ.put o.dst r u) a' w' → K a' w') : o.wp P a w K Q := by
  simp only [aop, ho] at he
  split at he
  · rename_i e het
    split at he
    · rename_i el hel
      split at he
      · rename_i ee ps hee hps
        split at he
        · rename_i hcond
          obtain ⟨c1, c2, c3⟩ := hcond
          simp only [Option.some.injEq, Prod.mk.injEq] at he
          obtain ⟨rfl, rfl⟩ := he
          have hE := hT el ee hee
          obtain ⟨hu, inf, hinf, hsz, hby, hz⟩ := elemOk hT het hel hee
          obtain ⟨hps1, hps2⟩ := mapM_opt_get _ _ _ hps
          have hlen : parts.toList.length = len := by have := congrArg List.length c1; simpa using this
          have hflat : (parts.toList.flatMap fun p => kills (evA σ p.2)) = ((parts.toList.map (·.2)).flatMap fun x => kills (evA σ x)) := by rw [List.flatMap_map]
          have hkn := killsAll σ (parts.toList.map (·.2))
          rw [← hflat] at hkn
          have hks : ∀ id, id ∈ (parts.toList.flatMap fun p => kills (evA σ p.2)).map (·.1) → (lookM σ.mm id).isSome = true := by
            intro id hid
            simp only [List.mem_map, List.mem_flatMap] at hid
            obtain ⟨q, ⟨p, hp, hq⟩, rfl⟩ := hid
            obtain ⟨j, hj⟩ := List.mem_iff_getElem?.1 hp
            obtain ⟨y, hy1, hy2⟩ := hps2 j p hj
            exact viewT_live hy2 _ (List.mem_map.2 ⟨q, hq, rfl⟩)
          have hup : ∀ id, id ∈ ((nid, some (⟨el, ee.sz, ps⟩ : O)) :: parts.toList.flatMap fun p => kills (evA σ p.2)).map (·.1) → id = nid ∨ (lookM σ.mm id).isSome = true := by
            intro id hid
            simp only [List.map_cons, List.mem_cons] at hid
            exact hid.imp (fun e => e) (hks id)
          have hview : ∀ (j : Nat) (p : Nat × Operand) (tp : T), parts.toList[j]? = some p → ps[j]? = some tp →
              RelT w (okS w0 okA (fun i => if i = nid then w.heap.size else ρ i) ((nid, some (⟨el, ee.sz, ps⟩ : O)) :: (parts.toList.flatMap fun p => kills (evA σ p.2)) ++ σ.mm)) tp (a.eval p.2) ∧ (a.eval p.2).cells.size = ee.sz := by
            intro j p tp hj htp
            obtain ⟨y, g1, g2⟩ := hps2 j p hj
            rw [htp] at g1
            simp only [Option.some.injEq] at g1
            subst g1
            have hv := view_new h g2 hup (Nat.le_refl w.heap.size) (fun id hid hl => by
              have hm : id ∈ (parts.toList.flatMap fun p => kills (evA σ p.2)).map (·.1) := by
                obtain ⟨x, hx1, hx2⟩ := List.mem_map.1 hid
                exact List.mem_map.2 ⟨x, List.mem_flatMap.2 ⟨p, List.mem_of_getElem? hj, hx1⟩, hx2⟩
              rw [lookM_append, if_pos (by simp only [List.map_cons, List.mem_cons]; exact .inr hm)]
              have hne : nid ≠ id := fun e => by rw [← e, h.fr nid hn] at hl; cases hl
              simp only [lookM, if_neg hne]
              cases hk : lookM (parts.toList.flatMap fun p => kills (evA σ p.2)) id with
              | none => rfl
              | some o'' => exact absurd hk (hkn _ _))
            have hc := List.all_eq_true.1 c2 tp (List.mem_of_getElem? htp)
            simp only [Bool.and_eq_true, beq_iff_eq] at hc
            have hcl := (hv.cells hc.1).1.length
            exact ⟨hv, by simp only [Array.length_toList] at hcl; omega⟩
          have hval : ∀ (j : Nat) (v : Value), (parts.toList.map fun p => a.eval p.2)[j]? = some v → ∃ p, parts.toList[j]? = some p ∧ v = a.eval p.2 := by
            intro j v hj
            rw [List.getElem?_map] at hj
            cases hq : parts.toList[j]? with
            | none => simp [hq] at hj
            | some p => simp only [hq, Option.map_some, Option.some.injEq] at hj; exact ⟨p, rfl, hj.symm⟩
          obtain ⟨cells', f1, f2, f3, f4⟩ := fill_rows (sz := ee.sz) (parts.toList.map fun p => a.eval p.2) 0 (madeCells ee.z.cells (len * ee.sz)) (by rw [size_madeCells, List.length_map, hlen, Nat.zero_add]; exact Nat.le_refl _) (fun v hv => by
            obtain ⟨j, hj⟩ := List.mem_iff_getElem?.1 hv
            obtain ⟨p, hp, rfl⟩ := hval j v hj
            have hlt : j < ps.length := by rw [hps1]; exact (List.getElem?_eq_some_iff.1 hp).1
            exact (hview j p _ hp (List.getElem?_eq_getElem hlt)).2)
          have hpz : (parts.map fun (i, x) => (i, a.eval x)).toList = ((parts.toList.map fun p => a.eval p.2).zipIdx 0).map fun x => (x.2, x.1) := by
            apply List.ext_getElem?
            intro j
            simp only [Array.toList_map, List.getElem?_map, List.getElem?_zipIdx]
            cases hq : parts.toList[j]? with
            | none => simp
            | some p =>
              have : (parts.toList.map (·.1))[j]? = some p.1 := by rw [List.getElem?_map, hq]; rfl
              rw [c1, List.getElem?_range (by rw [← hlen]; exact (List.getElem?_eq_some_iff.1 hq).1)] at this
              simp only [Option.some.injEq] at this
              simp [this]
          have hrun : (execOp a.eval o).run P w = .ok (.value (.slice (some ⟨w.heap.size, 0, none⟩) len len)) (w.alloc (.cells cells' el)) := by
            have hpos := hE.pos
            by_cases h0 : len = 0
            · subst h0
              have hpe : parts = #[] := by apply Array.ext'; exact List.eq_nil_of_length_eq_zero hlen
              subst hpe
              simp [Instr.fill] at f1
              subst f1
              simp [execOp, ho, Instr.buildSlice, run_underlying hu, sizeOf, typeInfo, hinf, Instr.fill, newRow, madeCells, Array.range_zero']
            · have := run_buildSlice (P := P) w t el len (parts.map fun (i, x) => (i, a.eval x)) cells' inf ee.z hu hinf hz (by rw [hsz]; omega) (by rw [hsz]; exact Nat.ne_of_gt (Nat.mul_pos (by omega) hpos)) (by rw [hpz, hsz]; exact f1)
              simp only [execOp, ho, Sem.run_bind, this, Result.andThen_ok]
              rfl
          unfold Oper.wp
          rw [hrun, Oper.upon_value]
          have hpl : ps.length = len := by rw [hps1, hlen]
          refine doneNew h hd hn (ks := parts.toList.flatMap fun p => kills (evA σ p.2)) hks hkn hE.pos (by rw [f2, hpl]; simp [size_madeCells]) ?_ (by simp only [RelA]; exact ⟨len, by simp, Nat.le_refl _, _, _, by simp only [if_true]; exact heap_alloc_at w _, by rw [f2]; simp [size_madeCells], by have := Nat.le_mul_of_pos_right len hE.pos; simp only [maxLen]; omega⟩) (by simp [A.ids]) hK
          intro j tj hj
          have hjl : j < parts.toList.length := by rw [← hps1]; exact (List.getElem?_eq_some_iff.1 hj).1
          obtain ⟨g1, g2⟩ := hview j _ tj (List.getElem?_eq_getElem hjl) hj
          refine ⟨_, g1, g2, fun i x hx => ?_⟩
          have := f4 j _ i x (by rw [List.getElem?_map, List.getElem?_eq_getElem hjl]; rfl) hx
          rwa [Nat.zero_add] at this
        · cases he
      · cases he
    · cases he
  · cases he
end
end Go.Ev
/- Maps: made, looked up, put into. -/
set_option linter.unusedVariables false
namespace Go.Ev
open Go Go.RowKit

theorem keyB_isKey {d : TypeDesc} {v : Value} (h : keyB d v = true) : MapKept.IsKey d v := by
  cases d <;> cases v <;> simp_all [keyB, MapKept.IsKey]
theorem keyEq_same {d : TypeDesc} {a b : Value} (ha : keyB d a = true) (hb : keyB d b = true) : Instr.sameNow d a b = some (keyEq a b) ∧ (keyEq a b = true → b = a) := by
  cases d <;> cases a <;> cases b <;> simp_all [keyB, keyEq, Instr.sameNow, MapKept.bytes_beq]
  all_goals (intro h; exact h.symm)
theorem keyT_agg {d : TypeDesc} {k : Value} {t : T} : keyT d (.agg [.v k, t]) = keyB d k := rfl

theorem RelE.length {w : World} {ok : Nat → Prop} : ∀ (l : List T) (es : List MapEntry), RelE w ok l es → es.length = l.length
  | [], es, h => by simp only [RelE] at h; subst h; rfl
  | t :: l, es, h => by
    simp only [RelE] at h
    obtain ⟨e, es', rfl, _, h2⟩ := h
    simp [RelE.length l es' h2]
/-- What is found, and what is put in. -/
theorem find_get {w : World} {ok : Nat → Prop} {d : TypeDesc} {k : Value} (hk : keyB d k = true) : ∀ (l : List T) (es : List MapEntry) (i : Nat), RelE w ok l es → l.all (keyT d) = true →
    (∀ x ∈ es, MapKept.IsKey d x.key) ∧ ((Instr.findNow d k es i = some none ∧ mGet k l = none ∧ ∀ t, mSet k t l = l ++ [.agg [.v k, t]]) ∨
      ∃ j e tv, Instr.findNow d k es i = some (some (i + j, e.val)) ∧ es[j]? = some e ∧ e.key = k ∧ mGet k l = some tv ∧ RelT w ok tv e.val ∧ ∀ t, mSet k t l = l.set j (.agg [.v k, t]))
  | [], es, i, h, _ => by
    simp only [RelE] at h
    subst h
    exact ⟨by simp, .inl ⟨rfl, rfl, fun t => rfl⟩⟩
  | t :: l, es, i, h, ha => by
    simp only [RelE] at h
    obtain ⟨e, es', rfl, ⟨tv, rfl, h2⟩, h3⟩ := h
    simp only [List.all_cons, keyT_agg, Bool.and_eq_true] at ha
    obtain ⟨s1, s2⟩ := keyEq_same hk ha.1
    obtain ⟨i1, i2⟩ := find_get hk l es' (i + 1) h3 ha.2
    refine ⟨fun x hx => ?_, ?_⟩
    · rcases List.mem_cons.1 hx with rfl | hx
      · exact keyB_isKey ha.1
      · exact i1 x hx
    · cases hq : keyEq k e.key with
      | true =>
        have he := s2 hq
        exact .inr ⟨0, e, tv, by simp [Instr.findNow, s1, hq], rfl, he, by simp [mGet, hq], h2, fun t => by rw [he] at hq; simp [mSet, he, hq]⟩
      | false =>
        rcases i2 with ⟨q1, q2, q3⟩ | ⟨j, e', tv', q1, q2, q3, q4, q5, q6⟩
        · exact .inl ⟨by simp [Instr.findNow, s1, hq, q1], by simp [mGet, hq, q2], fun t => by simp [mSet, hq, q3]⟩
        · exact .inr ⟨j + 1, e', tv', by simp [Instr.findNow, s1, hq, q1]; omega, by simpa using q2, q3, by simp [mGet, hq, q4], q5, fun t => by simp [mSet, hq, q6]⟩

theorem RelE.push {w : World} {ok : Nat → Prop} {e : MapEntry} {tv : T} (hv : RelT w ok tv e.val) : ∀ (l : List T) (es : List MapEntry), RelE w ok l es → RelE w ok (l ++ [.agg [.v e.key, tv]]) (es ++ [e])
  | [], es, h => by
    simp only [RelE] at h
    subst h
    simp only [List.nil_append, RelE]
    exact ⟨e, [], rfl, ⟨tv, rfl, hv⟩, rfl⟩
  | t :: l, es, h => by
    simp only [RelE] at h
    obtain ⟨e', es', rfl, h1, h2⟩ := h
    simp only [List.cons_append, RelE]
    exact ⟨e', _, rfl, h1, RelE.push hv l es' h2⟩
theorem RelE.set {w : World} {ok : Nat → Prop} {e : MapEntry} {tv : T} (hv : RelT w ok tv e.val) : ∀ (l : List T) (es : List MapEntry) (j : Nat), RelE w ok l es → RelE w ok (l.set j (.agg [.v e.key, tv])) (es.set j e)
  | [], es, j, h => by
    simp only [RelE] at h
    subst h
    simp [RelE]
  | t :: l, es, 0, h => by
    simp only [RelE] at h
    obtain ⟨e', es', rfl, h1, h2⟩ := h
    simp only [List.set_cons_zero, RelE]
    exact ⟨e, es', rfl, ⟨tv, rfl, hv⟩, h2⟩
  | t :: l, es, j + 1, h => by
    simp only [RelE] at h
    obtain ⟨e', es', rfl, h1, h2⟩ := h
    simp only [List.set_cons_succ, RelE]
    exact ⟨e', _, rfl, h1, RelE.set hv l es' j h2⟩

theorem mapL_some {rows l : List T} (h : mapL rows = some l) : rows = [.agg [.agg l], .v (.agg #[])] := by
  unfold mapL at h
  split at h
  · simp only [Option.some.injEq] at h; subst h; rfl
  · cases h

section
variable {P : Program} {tt : Nat → Option TE} {sp : Nat → Option Spec} {w0 : World} {okA : Nat → Prop} {F : Pn} {N : Nat} {Fr : Nat → Prop} {ρ : Nat → Nat} {σ : St} {a : Act} {w : World}

theorem RelO.map {ok : Nat → Prop} {b : Nat} {q : O} {l : List T} (h : RelO w ok b q) (hl : mapL q.rows = some l) :
    ∃ es : Array MapEntry, w.heap[b]? = some (.map es es.size) ∧ (∀ (i : Nat) (e : MapEntry), es[i]? = some e → e.born = i) ∧ RelE w ok l es.toList := by
  rcases h with ⟨_, hp, hR⟩ | ⟨l', h1, es, h2, h3, h4⟩
  · rw [mapL_some hl] at hR
    simp only [RelR, RelT] at hR
    obtain ⟨_, ⟨u, rfl, hs, _⟩, _⟩ := hR
    simp [Value.cells] at hs
    omega
  · rw [mapL_some hl] at h1
    simp only [List.cons.injEq, T.agg.injEq, and_true] at h1
    subst h1
    exact ⟨es, h2, h3, h4⟩
theorem ok_makeMap (hT : ∀ t e, tt t = some e → TOk P t e) (h : Rel w0 okA F N Fr ρ σ a w) {nid : Nat} (hn : Fr nid) {o : Oper} (hd : ∀ d, o.dst = some d → d < N) {t : TypeId} {hint : Option Operand} (ho : o.op = .makeMap t hint) {r : A} {u : List (Nat × Option O)}
    (he : aop tt sp nid o (evA σ) (lookM σ.mm) = some (r, u)) {K : Act → World → Prop} {Q : Exit → Act → World → Prop}
    (hK : ∀ ρ' a' w', Rel w0 okA F N (fun id => Fr id ∧ id ≠ nid) ρ' (σ.put o.dst r u) a' w' → K a' w') : o.wp P a w K Q := by
  simp only [aop, ho] at he
  split at he
  · split at he
    · simp only [Option.some.injEq, Prod.mk.injEq] at he
      obtain ⟨rfl, rfl⟩ := he
      have hrun : (execOp a.eval o).run P w = .ok (.value (.map (some w.heap.size))) (w.alloc (.map #[] 0)) := by
        simp [execOp, ho, Instr.makeMap]
      unfold Oper.wp
      rw [hrun, Oper.upon_value]
      refine hK _ _ _ (h.upd o.dst hd nid hn (w.alloc (.map #[] 0)) _ w.heap.size (.mr nid) [(nid, some ⟨t, 0, [.agg [.agg []], .v (.agg #[])]⟩)] (by simp) rfl rfl (Out.refl _) (by rw [size_alloc]; omega) (fun b hb _ => Below.heap_alloc w _ b hb) (Keeps.of_heap fun b hb => Below.heap_alloc w _ b hb) (.inl (Nat.le_refl _)) ?_ (by simp [RelA]) (by simp [A.ids]))
      intro id o' hid ho'
      simp only [List.map_cons, List.map_nil, List.mem_cons, List.not_mem_nil, or_false] at hid
      subst hid
      simp only [lookM, if_true, Option.some.injEq] at ho'
      subst ho'
      simp only [if_true]
      exact .inr ⟨[], rfl, #[], heap_alloc_at w _, by simp, by simp [RelE]⟩
    · cases he
  · cases he
theorem ok_lookup (hT : ∀ t e, tt t = some e → TOk P t e) (h : Rel w0 okA F N Fr ρ σ a w) {nid : Nat} {o : Oper} (hd : ∀ d, o.dst = some d → d < N) {t : TypeId} {x k : Operand} {ok : Bool} (ho : o.op = .lookup t x k ok) {r : A} {u : List (Nat × Option O)}
    (he : aop tt sp nid o (evA σ) (lookM σ.mm) = some (r, u)) {K : Act → World → Prop} {Q : Exit → Act → World → Prop}
    (hK : ∀ ρ' a' w', Rel w0 okA F N (fun id => Fr id ∧ id ≠ nid) ρ' (σ.put o.dst r u) a' w' → K a' w') : o.wp P a w K Q := by
  simp only [aop, ho] at he
  split at he
  · rename_i e id kv het hx hk
    split at he
    · rename_i kt d et q hmo hq
      split at he
      · rename_i ee l hee hl
        split at he
        · rename_i hc
          simp only [Option.some.injEq, Prod.mk.injEq] at he
          obtain ⟨rfl, rfl⟩ := he
          have hE := hT et ee hee
          obtain ⟨hu, hkd⟩ := (hT t e het).mapOf _ _ _ hmo
          obtain ⟨i, hi, hsz, hby, hz⟩ := hE.info
          have h1 := (h.ev x).1
          rw [hx] at h1
          simp only [RelA] at h1
          have h2 := (h.ev k).1
          rw [hk] at h2
          simp only [RelA, RelT] at h2
          obtain ⟨es, m1, m2, m3⟩ := (h.mm id q hq).map hl
          obtain ⟨f1, f2⟩ := find_get hc.1 l es.toList 0 m3 hc.2
          have hkey := keyB_isKey hc.1
          have hfin : ∀ (g : Option T) (v : Value) (b : Bool), b = g.isSome → RelT w (okS w0 okA ρ σ.mm) (g.getD ee.zero) v → (execOp a.eval o).run P w = .ok (.value (if ok then .tuple #[v, .bool b] else v)) w → o.wp P a w K Q → True := fun _ _ _ _ _ _ _ => trivial
          have fin : ∀ (g : Option T) (v : Value) (b : Bool), b = g.isSome → RelT w (okS w0 okA ρ σ.mm) (g.getD ee.zero) v → mGet kv l = g → (execOp a.eval o).run P w = .ok (.value (if ok then .tuple #[v, .bool b] else v)) w → o.wp P a w K Q := by
            intro g v b hb hv hg hrun
            unfold Oper.wp
            rw [hrun, Oper.upon_value]
            rw [hg] at hK
            refine done0 h hd ?_ ?_ hK
            · cases ok with
              | true =>
                simp only [lookR, if_true, RelA, RelAL, RelT]
                exact ⟨_, rfl, v, _, rfl, hv, _, _, rfl, by rw [hb], rfl⟩
              | false =>
                simp only [lookR, Bool.false_eq_true, if_false, RelA]
                exact hv
            · cases ok <;> simp [lookR, A.ids, A.ids.idsL]
          rcases f2 with ⟨q1, q2, q3⟩ | ⟨j, e', tv, q1, q2, q3, q4, q5, q6⟩
          · refine fin none ee.z false rfl (hE.zrel _ _) q2 ?_
            simp [execOp, ho, h1, h2, Instr.lookup, run_underlying hu, MapKept.run_getObj_map m1, MapKept.run_checkKey hkd hkey, MapKept.run_findKey hkd q1, Result.andThen, zeroValue, typeInfo, hi, hz]
          · refine fin (some tv) e'.val true rfl (by simpa using q5) q4 ?_
            simp [execOp, ho, h1, h2, Instr.lookup, run_underlying hu, MapKept.run_getObj_map m1, MapKept.run_checkKey hkd hkey, MapKept.run_findKey hkd q1, Result.andThen]
        · cases he
      · cases he
    · cases he
  · cases he

theorem ok_mapUpdate (hT : ∀ t e, tt t = some e → TOk P t e) (h : Rel w0 okA F N Fr ρ σ a w) {nid : Nat} (hn : Fr nid) {o : Oper} (hd : ∀ d, o.dst = some d → d < N) {t : TypeId} {x k y : Operand} (ho : o.op = .mapUpdate t x k y ∨ o.op = .insert t x k y) {r : A} {u : List (Nat × Option O)}
    (he : aop tt sp nid o (evA σ) (lookM σ.mm) = some (r, u)) {K : Act → World → Prop} {Q : Exit → Act → World → Prop}
    (hK : ∀ ρ' a' w', Rel w0 okA F N (fun id => Fr id ∧ id ≠ nid) ρ' (σ.put o.dst r u) a' w' → K a' w') : o.wp P a w K Q := by
  have he' : (match tt t, evA σ x, evA σ k with
    | some e, .mr id, .t (.v kv) => match e.mapOf, lookM σ.mm id with
      | some (_, d, _), some q => match mapL q.rows, viewT (lookM σ.mm) (evA σ y) with
        | some l, some tv => if keyB d kv = true ∧ l.all (keyT d) = true ∧ (kills (evA σ y)).all (fun p => p.1 != id) = true then
            some (A.t (.v undef), (id, some (⟨q.E, q.sz, [.agg [.agg (mSet kv tv l)], .v (.agg #[])]⟩ : O)) :: kills (evA σ y)) else none
        | _, _ => none
      | _, _ => none
    | _, _, _ => none) = some (r, u) := by
    rcases ho with ho | ho <;> (simp only [aop, ho] at he; exact he)
  split at he'
  · rename_i e id kv het hx hk
    split at he'
    · rename_i kt d et q hmo hq
      split at he'
      · rename_i l tv hl hv
        split at he'
        · rename_i hc
          obtain ⟨c1, c2, c3⟩ := hc
          simp only [Option.some.injEq, Prod.mk.injEq] at he'
          obtain ⟨rfl, rfl⟩ := he'
          obtain ⟨hu, hkd⟩ := (hT t e het).mapOf _ _ _ hmo
          have h1 := (h.ev x).1
          rw [hx] at h1
          simp only [RelA] at h1
          have h2 := (h.ev k).1
          rw [hk] at h2
          simp only [RelA, RelT] at h2
          obtain ⟨es, m1, m2, m3⟩ := (h.mm id q hq).map hl
          have hkey := keyB_isKey c1
          have hlive := viewT_live hv
          have hup : ∀ i, i ∈ ((id, some (⟨q.E, q.sz, [.agg [.agg (mSet kv tv l)], .v (.agg #[])]⟩ : O)) :: kills (evA σ y)).map (·.1) → i = nid ∨ (lookM σ.mm i).isSome = true := by
            intro i hi
            simp only [List.map_cons, List.mem_cons] at hi
            rcases hi with rfl | hi
            · exact .inr (by rw [hq]; rfl)
            · exact .inr (hlive i hi)
          have hidn : id ≠ nid := fun e' => by rw [e', h.fr nid hn] at hq; cases hq
          have hkne : ∀ i, i ∈ (kills (evA σ y)).map (·.1) → i ≠ id := by
            intro i hi
            obtain ⟨p, hp, rfl⟩ := List.mem_map.1 hi
            have := List.all_eq_true.1 c3 p hp
            simpa using this
          have hview := view_new h hv hup (Nat.le_refl w.heap.size) (fun i hi hl => by
            rw [lookM_append, if_pos (by simp; exact .inr (by simpa using hi))]
            simp only [lookM, if_neg (Ne.symm (hkne i hi))]
            cases hk : lookM (kills (evA σ y)) i with
            | none => rfl
            | some o'' => exact absurd hk (kills_none _ _ _))
          obtain ⟨f1, f2⟩ := find_get c1 l es.toList 0 m3 c2
          -- the new block
          have fin : ∀ es' : Array MapEntry, (execOp a.eval o).run P w = .ok .skip { w with heap := w.heap.setIfInBounds (ρ id) (.map es' es'.size) } → (∀ (i : Nat) (e : MapEntry), es'[i]? = some e → e.born = i) →
              (∀ ok' : Nat → Prop, RelE w ok' l es.toList → RelT w ok' tv (a.eval y) → RelE w ok' (mSet kv tv l) es'.toList) → o.wp P a w K Q := by
            intro es' hrun hborn hrel
            have hb1 := (MapKept.heap_set (o' := .map es' es'.size) m1).1
            have hb2 := (MapKept.heap_set (o' := .map es' es'.size) m1).2
            unfold Oper.wp
            rw [hrun, Oper.upon_skip]
            refine hK _ _ _ (h.upd o.dst hd nid hn { w with heap := w.heap.setIfInBounds (ρ id) (.map es' es'.size) } undef w.heap.size (.t (.v undef)) _ hup rfl rfl (Out.refl _) (by simp) (fun b _ hb3 => ?_) (fun b cs E hb => ?_) (.inl (Nat.le_refl _)) ?_ (by simp [RelA, RelT]) (by simp [A.ids]))
            · exact hb2 b fun e' => hb3 id (by simp) hidn e'.symm
            · refine ⟨cs, ?_, rfl⟩
              by_cases e' : b = ρ id
              · rw [e', m1] at hb; cases hb
              · exact (hb2 b e').trans hb
            · intro i oi hi hoi
              simp only [lookM] at hoi
              by_cases hii : id = i
              · rw [if_pos hii] at hoi
                simp only [Option.some.injEq] at hoi
                subst hoi; subst hii
                rw [if_neg hidn]
                have hstep : ∀ b, okS w0 okA (fun i => if i = nid then w.heap.size else ρ i) ((id, some (⟨q.E, q.sz, [.agg [.agg (mSet kv tv l)], .v (.agg #[])]⟩ : O)) :: kills (evA σ y) ++ σ.mm) b → b < w.heap.size →
                    (w.heap.setIfInBounds (ρ id) (.map es' es'.size))[b]? = w.heap[b]? ∧ okS w0 okA (fun i => if i = nid then w.heap.size else ρ i) ((id, some (⟨q.E, q.sz, [.agg [.agg (mSet kv tv l)], .v (.agg #[])]⟩ : O)) :: kills (evA σ y) ++ σ.mm) b := by
                  intro b hb3 hlt
                  refine ⟨hb2 b fun e' => ?_, hb3⟩
                  have := hb3.2 id (by simp [lookM])
                  simp only [if_neg hidn] at this
                  exact this e'.symm
                refine .inr ⟨mSet kv tv l, rfl, es', hb1, hborn, RelE.step (w := w) hstep (by simp) _ _ (hrel _ ?_ hview)⟩
                exact RelE.step (w := w) (fun b hb4 hlt => ⟨rfl, okS_new h hup (Nat.le_refl _) b hb4 hlt⟩) (Nat.le_refl _) _ _ m3
              · rw [if_neg hii] at hoi
                exact absurd hoi (kills_none _ _ _)
          rcases f2 with ⟨q1, q2, q3⟩ | ⟨j, e', tv', q1, q2, q3, q4, q5, q6⟩
          · refine fin (es.push { key := kv, val := a.eval y, born := es.size }) ?_ ?_ ?_
            · rcases ho with ho | ho <;> simp [execOp, ho, h1, h2, Instr.mapUpdate, run_underlying hu, MapKept.run_getObj_map m1, MapKept.run_checkKey hkd hkey, MapKept.run_findKey hkd q1, MapKept.run_setObj_map _ m1, Result.andThen]
            · intro i e'' hi
              rw [Array.getElem?_push] at hi
              split at hi
              · simp only [Option.some.injEq] at hi; subst hi; simp only; omega
              · exact m2 i e'' hi
            · intro ok' hr1 hr2
              rw [q3]
              simpa using RelE.push (e := { key := kv, val := a.eval y, born := es.size }) hr2 l es.toList hr1
          · have hj : es[j]? = some e' := by simpa using q2
            refine fin (es.modify j fun e => { e with key := kv, val := a.eval y }) ?_ ?_ ?_
            · rcases ho with ho | ho <;> simp [execOp, ho, h1, h2, Instr.mapUpdate, run_underlying hu, MapKept.run_getObj_map m1, MapKept.run_checkKey hkd hkey, MapKept.run_findKey hkd q1, hj, q3, MapKept.run_keyThatStays hkey, MapKept.run_setObj_map _ m1, Result.andThen]
            · intro i e'' hi
              rw [Array.getElem?_modify] at hi
              split at hi
              · cases hq2 : es[i]? with
                | none => simp [hq2] at hi
                | some e3 =>
                  simp only [hq2, Option.map_some, Option.some.injEq] at hi
                  subst hi
                  exact m2 i e3 hq2
              · exact m2 i e'' hi
            · intro ok' hr1 hr2
              rw [q6]
              have := RelE.set (e := { key := kv, val := a.eval y, born := e'.born }) hr2 l es.toList j hr1
              have hh : (es.modify j fun e => { e with key := kv, val := a.eval y }).toList = es.toList.set j { key := kv, val := a.eval y, born := e'.born } := by
                apply List.ext_getElem?
                intro i
                rw [Array.getElem?_toList, Array.getElem?_modify, List.getElem?_set]
                split
                · rename_i hji
                  subst hji
                  rw [hj]
                  have hjl : j < es.toList.length := (List.getElem?_eq_some_iff.1 q2).1
                  rw [if_pos (by simpa using hjl)]
                  rfl
                · simp
              rw [hh]
              exact this
        · cases he'
      · cases he'
    · cases he'
  · cases he'
end
end Go.Ev
