import PyProof.Rows.All
import Wide.All
import OpenK.AllK
import Wide.FinOn
import Lean
import PySem.Challenge.RW_nn0023_01
set_option Elab.async false
set_option linter.unusedVariables false
set_option linter.unusedSimpArgs false
set_option autoImplicit false
set_option maxRecDepth 100000
namespace Mine

/-- the digits of a number to a base, lowest first -/
noncomputable def digs (b : Nat) : Nat → Nat → List Nat
  | 0, _ => []
  | k + 1, N => if N = 0 then [] else N % b :: digs b k (N / b)
noncomputable def digits (b N : Nat) : List Nat := digs b N N
noncomputable def val (b : Nat) : List Nat → Nat
  | [] => 0
  | d :: r => d + b * val b r

theorem digs_enough {b : Nat} (hb : 2 ≤ b) : ∀ (k N : Nat), N ≤ k → digs b k N = digs b N N := by
  intro k
  induction k using Nat.strongRecOn with
  | ind k ih =>
    intro N h
    cases k with
    | zero => have : N = 0 := by omega
              subst this; rfl
    | succ k =>
      cases N with
      | zero => simp [digs]
      | succ N =>
        have hlt : (N + 1) / b < N + 1 := Nat.div_lt_self (by omega) (by omega)
        simp only [digs, Nat.add_eq_zero_iff, Nat.one_ne_zero, and_false, if_false]
        congr 1
        rw [ih k (by omega) _ (by omega)]
        by_cases e : N = k
        · subst e; rw [← ih N (by omega) _ (by omega)]
        · rw [ih N (by omega) _ (by omega)]

theorem digits_zero (b : Nat) : digits b 0 = [] := rfl
theorem digits_pos {b N : Nat} (hb : 2 ≤ b) (h : 0 < N) : digits b N = N % b :: digits b (N / b) := by
  unfold digits
  cases N with
  | zero => omega
  | succ N =>
    have hlt : (N + 1) / b < N + 1 := Nat.div_lt_self (by omega) (by omega)
    simp only [digs, Nat.add_eq_zero_iff, Nat.one_ne_zero, and_false, if_false]
    rw [digs_enough hb N _ (by omega)]

theorem val_digits {b : Nat} (hb : 2 ≤ b) : ∀ N, val b (digits b N) = N := by
  intro N
  induction N using Nat.strongRecOn with
  | ind N ih =>
    by_cases h : N = 0
    · subst h; rfl
    · rw [digits_pos hb (by omega), val, ih _ (Nat.div_lt_self (by omega) (by omega))]
      exact Nat.mod_add_div N b

theorem digits_lt {b : Nat} (hb : 2 ≤ b) : ∀ N, ∀ d ∈ digits b N, d < b := by
  intro N
  induction N using Nat.strongRecOn with
  | ind N ih =>
    intro d hd
    by_cases h : N = 0
    · subst h; simp [digits_zero] at hd
    · rw [digits_pos hb (by omega)] at hd
      rcases List.mem_cons.mp hd with rfl | hd
      · exact Nat.mod_lt _ (by omega)
      · exact ih _ (Nat.div_lt_self (by omega) (by omega)) d hd

/-- the top digit is not nought -/
noncomputable def TopOk (l : List Nat) : Prop := ∀ d, l.getLast? = some d → d ≠ 0

theorem digits_top {b : Nat} (hb : 2 ≤ b) : ∀ N, TopOk (digits b N) := by
  intro N
  induction N using Nat.strongRecOn with
  | ind N ih =>
    intro d hd
    by_cases h : N = 0
    · subst h; simp [digits_zero] at hd
    · rw [digits_pos hb (by omega)] at hd
      by_cases h2 : N / b = 0
      · rw [h2, digits_zero] at hd
        simp at hd
        have : N < b := by
          rcases Nat.lt_or_ge N b with g | g
          · exact g
          · have := Nat.div_pos g (by omega); omega
        rw [Nat.mod_eq_of_lt this] at hd
        omega
      · have hne : digits b (N / b) ≠ [] := by rw [digits_pos hb (Nat.pos_of_ne_zero h2)]; simp
        rw [List.getLast?_cons_of_ne_nil hne] at hd
        exact ih _ (Nat.div_lt_self (by omega) (by omega)) d hd

theorem val_append {b : Nat} : ∀ (l r : List Nat), val b (l ++ r) = val b l + b ^ l.length * val b r
  | [], r => by simp [val]
  | d :: l, r => by
    simp only [List.cons_append, val, val_append l r, List.length_cons, Nat.pow_succ]
    rw [Nat.mul_add, ← Nat.mul_assoc, Nat.mul_comm b (b ^ l.length), Nat.add_assoc]

theorem val_lt {b : Nat} (hb : 2 ≤ b) : ∀ {l : List Nat}, (∀ d ∈ l, d < b) → val b l < b ^ l.length
  | [], _ => by simp [val]
  | d :: l, h => by
    have ih := val_lt hb (l := l) fun x hx => h x (.tail _ hx)
    have hd := h d (.head _)
    simp only [val, List.length_cons, Nat.pow_succ]
    have : b * val b l + b ≤ b * b ^ l.length := by
      rw [← Nat.mul_succ]; exact Nat.mul_le_mul_left b ih
    rw [Nat.mul_comm (b ^ l.length) b]
    omega

theorem digits_uniq {b : Nat} (hb : 2 ≤ b) : ∀ {l : List Nat}, (∀ d ∈ l, d < b) → TopOk l → l = digits b (val b l)
  | [], _, _ => rfl
  | d :: l, h, t => by
    have hd := h d (.head _)
    have ht : TopOk l := fun e he => t e (by
      cases l with
      | nil => simp at he
      | cons x y => rw [List.getLast?_cons_of_ne_nil (by simp)]; exact he)
    have ih := digits_uniq hb (l := l) (fun x hx => h x (.tail _ hx)) ht
    have hpos : 0 < val b (d :: l) := by
      cases l with
      | nil =>
        have := t d (by simp)
        simp [val]; omega
      | cons x y =>
        rw [val]
        have : 0 < val b (x :: y) := by
          rcases Nat.eq_zero_or_pos (val b (x :: y)) with e | e
          · rw [e, digits_zero] at ih; cases ih
          · exact e
        have := Nat.mul_pos (show 0 < b by omega) this
        omega
    rw [digits_pos hb hpos]
    have e1 : val b (d :: l) % b = d := by rw [val, Nat.add_mul_mod_self_left, Nat.mod_eq_of_lt hd]
    have e2 : val b (d :: l) / b = val b l := by rw [val, Nat.add_mul_div_left _ _ (by omega), Nat.div_eq_of_lt hd, Nat.zero_add]
    rw [e1, e2, ← ih]

theorem digits_inj {b : Nat} (hb : 2 ≤ b) {M N : Nat} (h : digits b M = digits b N) : M = N := by
  have := congrArg (val b) h
  rwa [val_digits hb, val_digits hb] at this

/-- noughts struck off the end -/
noncomputable def strip : List Nat → List Nat
  | [] => []
  | d :: l => match strip l with
    | [] => if d = 0 then [] else [d]
    | r => d :: r

theorem strip_top : ∀ l : List Nat, TopOk (strip l)
  | [] => by intro d h; simp [strip] at h
  | d :: l => by
    intro e h
    have ih := strip_top l
    rw [strip] at h
    split at h
    · split at h
      · simp at h
      · simp at h; omega
    · rename_i r hr
      rw [List.getLast?_cons_of_ne_nil (by intro z; exact hr z)] at h
      exact ih e h
theorem strip_val {b : Nat} : ∀ l : List Nat, val b (strip l) = val b l
  | [] => rfl
  | d :: l => by
    have ih := strip_val (b := b) l
    rw [strip]
    split
    · rename_i h
      rw [h] at ih
      have ih : val b l = 0 := ih.symm
      rw [val, ih]
      split <;> simp_all [val]
    · rw [val, val, ih]
theorem strip_sub : ∀ (l : List Nat), ∀ d ∈ strip l, d ∈ l
  | [], d, h => by simp [strip] at h
  | x :: l, d, h => by
    rw [strip] at h
    split at h
    · split at h
      · simp at h
      · simp at h; subst h; exact .head _
    · rcases List.mem_cons.mp h with rfl | h
      · exact .head _
      · exact .tail _ (strip_sub l d h)
theorem strip_digits {b : Nat} (hb : 2 ≤ b) {l : List Nat} (h : ∀ d ∈ l, d < b) : strip l = digits b (val b l) := by
  rw [← strip_val (b := b) l]
  exact digits_uniq hb (fun d hd => h d (strip_sub l d hd)) (strip_top l)
/-- striking as the loop does it -/
theorem strip_snoc_zero : ∀ l : List Nat, strip (l ++ [0]) = strip l
  | [] => by simp [strip]
  | d :: l => by
    have ih := strip_snoc_zero l
    simp only [List.cons_append, strip, ih]
theorem strip_of_top : ∀ {l : List Nat}, TopOk l → strip l = l
  | [], _ => rfl
  | d :: l, h => by
    cases l with
    | nil =>
      have := h d (by simp)
      simp [strip, this]
    | cons x y =>
      have ih := strip_of_top (l := x :: y) fun e he => h e (by rw [List.getLast?_cons_of_ne_nil (by simp)]; exact he)
      rw [strip, ih]

theorem digits_length_lt {b : Nat} (hb : 2 ≤ b) {N k : Nat} (h : N < b ^ k) : (digits b N).length ≤ k := by
  induction k generalizing N with
  | zero => have : N = 0 := by simpa using h
            subst this; simp [digits_zero]
  | succ k ih =>
    by_cases e : N = 0
    · subst e; simp [digits_zero]
    · rw [digits_pos hb (by omega), List.length_cons]
      have : N / b < b ^ k := by
        rw [Nat.div_lt_iff_lt_mul (by omega)]
        rw [Nat.pow_succ] at h; exact h
      have := ih this
      omega
end Mine
namespace Mine
/-- the first i digits -/
noncomputable def fdig (b i X : Nat) : List Nat := (List.range i).map fun j => X / b ^ j % b
theorem fdig_zero (b X : Nat) : fdig b 0 X = [] := rfl
theorem fdig_length (b i X : Nat) : (fdig b i X).length = i := by simp [fdig]
theorem fdig_succ (b i X : Nat) : fdig b (i + 1) X = fdig b i X ++ [X / b ^ i % b] := by
  unfold fdig; rw [List.range_succ, List.map_append]; rfl
theorem fdig_cons (b i X : Nat) : fdig b (i + 1) X = X % b :: fdig b i (X / b) := by
  unfold fdig
  rw [List.range_succ_eq_map, List.map_cons, List.map_map]
  congr 1
  · simp
  · apply List.map_congr_left
    intro j _
    simp only [Function.comp, Nat.succ_eq_add_one, Nat.pow_succ]
    rw [Nat.mul_comm, ← Nat.div_div_eq_div_mul]
theorem fdig_eq {b : Nat} (hb : 2 ≤ b) : ∀ {i X : Nat}, (digits b X).length = i → fdig b i X = digits b X
  | 0, X, h => by rw [fdig_zero]; exact (List.length_eq_zero_iff.mp h).symm
  | i + 1, X, h => by
    have hX : 0 < X := by
      rcases Nat.eq_zero_or_pos X with e | e
      · subst e; simp [digits_zero] at h
      · exact e
    rw [digits_pos hb hX, List.length_cons] at h
    rw [fdig_cons, digits_pos hb hX, fdig_eq hb (by omega)]
theorem fdig_lt {b : Nat} (hb : 2 ≤ b) (i X : Nat) : ∀ d ∈ fdig b i X, d < b := by
  intro d h
  unfold fdig at h
  rw [List.mem_map] at h
  obtain ⟨j, _, rfl⟩ := h
  exact Nat.mod_lt _ (by omega)
theorem fdig_val {b : Nat} (hb : 2 ≤ b) : ∀ (i X : Nat), val b (fdig b i X) = X % b ^ i
  | 0, X => by simp [fdig_zero, val, Nat.mod_one]
  | i + 1, X => by
    rw [fdig_cons, val, fdig_val hb i, Nat.pow_succ, Nat.mul_comm (b ^ i) b, Nat.mod_mul]
theorem strip_fdig {b : Nat} (hb : 2 ≤ b) {i X : Nat} (h : X < b ^ i) : strip (fdig b i X) = digits b X := by
  rw [strip_digits hb (fdig_lt hb i X), fdig_val hb, Nat.mod_eq_of_lt h]
theorem lt_pow_digits {b : Nat} (hb : 2 ≤ b) (N : Nat) : N < b ^ (digits b N).length := by
  have := val_lt hb (digits_lt hb N)
  rwa [val_digits hb] at this
theorem digit_at {b : Nat} (hb : 2 ≤ b) {N i : Nat} (h : i < (digits b N).length) : (digits b N)[i] = N / b ^ i % b := by
  have := fdig_eq hb (X := N) rfl
  have e : (fdig b (digits b N).length N)[i]'(by rw [fdig_length]; exact h) = N / b ^ i % b := by simp [fdig]
  rw [← e]
  congr 1
  exact this.symm
theorem digits_len_mono' {b M N : Nat} (hb : 2 ≤ b) (h : M ≤ N) : (digits b M).length ≤ (digits b N).length :=
  digits_length_lt hb (Nat.lt_of_le_of_lt h (lt_pow_digits hb N))

/-- the carry ahead of place i -/
noncomputable def carryAt (b M N i : Nat) : Nat := (M % b ^ i + N % b ^ i) / b ^ i
theorem carry_zero (b M N : Nat) : carryAt b M N 0 = 0 := by simp [carryAt, Nat.mod_one]
theorem add_div_carry {b : Nat} (hb : 2 ≤ b) (M N i : Nat) : (M + N) / b ^ i = M / b ^ i + N / b ^ i + carryAt b M N i := by
  unfold carryAt
  have hp : 0 < b ^ i := Nat.pow_pos (by omega)
  conv => lhs; rw [← Nat.div_add_mod M (b ^ i), ← Nat.div_add_mod N (b ^ i)]
  rw [show b ^ i * (M / b ^ i) + M % b ^ i + (b ^ i * (N / b ^ i) + N % b ^ i) = b ^ i * (M / b ^ i + N / b ^ i) + (M % b ^ i + N % b ^ i) by rw [Nat.mul_add]; omega, Nat.mul_add_div hp]
theorem carry_digit {b : Nat} (hb : 2 ≤ b) (M N i : Nat) : (carryAt b M N i + (M / b ^ i % b + N / b ^ i % b)) % b = (M + N) / b ^ i % b := by
  rw [add_div_carry hb]
  simp only [Nat.add_mod, Nat.mod_mod]
  rw [Nat.add_comm]
theorem carry_succ {b : Nat} (hb : 2 ≤ b) (M N i : Nat) : (carryAt b M N i + (M / b ^ i % b + N / b ^ i % b)) / b = carryAt b M N (i + 1) := by
  have hp : 0 < b ^ i := Nat.pow_pos (by omega)
  unfold carryAt
  rw [Nat.pow_succ, Nat.mod_mul, Nat.mod_mul, ← Nat.div_div_eq_div_mul]
  congr 1
  rw [show M % b ^ i + b ^ i * (M / b ^ i % b) + (N % b ^ i + b ^ i * (N / b ^ i % b)) = b ^ i * (M / b ^ i % b + N / b ^ i % b) + (M % b ^ i + N % b ^ i) by rw [Nat.mul_add]; omega, Nat.mul_add_div hp]
  omega
theorem carry_le {b : Nat} (hb : 2 ≤ b) (M N i : Nat) : carryAt b M N i ≤ 1 := by
  have hp : 0 < b ^ i := Nat.pow_pos (by omega)
  have h1 := Nat.mod_lt M hp
  have h2 := Nat.mod_lt N hp
  unfold carryAt
  have : (M % b ^ i + N % b ^ i) / b ^ i < 2 := Nat.div_lt_of_lt_mul (by omega)
  omega
theorem div_pow_zero {b : Nat} {N i : Nat} (h : N < b ^ i) : N / b ^ i = 0 := Nat.div_eq_of_lt h
theorem lt_pow_of_len {b : Nat} (hb : 2 ≤ b) {N i : Nat} (h : (digits b N).length ≤ i) : N < b ^ i :=
  Nat.lt_of_lt_of_le (lt_pow_digits hb N) (Nat.pow_le_pow_right (by omega) h)
/-- the end of the sum -/
theorem add_end {b : Nat} (hb : 2 ≤ b) {M N : Nat} (h : (digits b N).length ≤ (digits b M).length) :
    (carryAt b M N (digits b M).length = 0 → fdig b (digits b M).length (M + N) = digits b (M + N)) ∧
    (0 < carryAt b M N (digits b M).length → fdig b (digits b M).length (M + N) ++ [carryAt b M N (digits b M).length] = digits b (M + N)) := by
  have hM := lt_pow_digits hb M
  have hN := lt_pow_of_len hb h
  have e := add_div_carry hb M N (digits b M).length
  rw [div_pow_zero hM, div_pow_zero hN] at e
  have hle := digits_len_mono' hb (show M ≤ M + N by omega)
  have hc := carry_le hb M N (digits b M).length
  generalize (digits b M).length = L at *
  constructor
  · intro h0
    rw [h0] at e
    apply fdig_eq hb
    have : M + N < b ^ L := (Nat.div_eq_zero_iff_lt (Nat.pow_pos (by omega))).mp (by omega)
    have := digits_length_lt hb this
    omega
  · intro h0
    have e1 : carryAt b M N L = 1 := by omega
    have hnl : ¬ M + N < b ^ L := fun h => by have := div_pow_zero h; omega
    have h2 : M + N < b ^ (L + 1) := by
      rw [Nat.pow_succ]
      have := Nat.mul_le_mul_left (b ^ L) hb
      omega
    have l1 := digits_length_lt hb h2
    have l2 : ¬ (digits b (M + N)).length ≤ L := fun h => hnl (lt_pow_of_len hb h)
    have := fdig_eq hb (X := M + N) (i := L + 1) (by omega)
    rw [← this, fdig_succ]
    congr 2
    rw [e, e1]
    simp only [Nat.add_zero, Nat.zero_add]
    rw [Nat.mod_eq_of_lt hb]

/-- the borrow ahead of place i -/
noncomputable def borrowAt (b M N i : Nat) : Nat := if M % b ^ i < N % b ^ i then 1 else 0
theorem borrow_zero (b M N : Nat) : borrowAt b M N 0 = 0 := by simp [borrowAt, Nat.mod_one]
theorem borrow_le (b M N i : Nat) : borrowAt b M N i ≤ 1 := by unfold borrowAt; split <;> omega
theorem sub_div_borrow {b : Nat} (hb : 2 ≤ b) {M N : Nat} (h : N ≤ M) (i : Nat) : (M - N) / b ^ i + N / b ^ i + borrowAt b M N i = M / b ^ i := by
  have hp : 0 < b ^ i := Nat.pow_pos (by omega)
  have hM := Nat.div_add_mod M (b ^ i)
  have hN := Nat.div_add_mod N (b ^ i)
  have lM := Nat.mod_lt M hp
  have lN := Nat.mod_lt N hp
  have hle : N / b ^ i ≤ M / b ^ i := Nat.div_le_div_right h
  unfold borrowAt
  generalize M / b ^ i = x at *
  generalize N / b ^ i = y at *
  generalize M % b ^ i = p at *
  generalize N % b ^ i = q at *
  generalize b ^ i = c at *
  obtain ⟨d, rfl⟩ : ∃ d, x = y + d := ⟨x - y, by omega⟩
  rw [Nat.mul_add] at hM
  split
  · rename_i hlt
    cases d with
    | zero => omega
    | succ d =>
      rw [Nat.mul_succ] at hM
      have : M - N = c * d + (c + p - q) := by omega
      rw [this, Nat.mul_add_div hp, Nat.div_eq_of_lt (by omega)]
      omega
  · have : M - N = c * d + (p - q) := by omega
    rw [this, Nat.mul_add_div hp, Nat.div_eq_of_lt (by omega)]
    omega
theorem borrow_succ {b : Nat} (hb : 2 ≤ b) (M N i : Nat) : borrowAt b M N (i + 1) = if M / b ^ i % b < N / b ^ i % b + borrowAt b M N i then 1 else 0 := by
  have hp : 0 < b ^ i := Nat.pow_pos (by omega)
  have lM := Nat.mod_lt M hp
  have lN := Nat.mod_lt N hp
  unfold borrowAt
  rw [Nat.pow_succ, Nat.mod_mul, Nat.mod_mul]
  generalize M / b ^ i % b = x at *
  generalize N / b ^ i % b = y at *
  generalize M % b ^ i = p at *
  generalize N % b ^ i = q at *
  generalize b ^ i = c at *
  have key : ∀ x y p q : Nat, p < c → q < c → x < y → p + c * x < q + c * y := fun x y p q hp hq h => by
    have := Nat.mul_le_mul_left c (show x + 1 ≤ y from h)
    rw [Nat.mul_add] at this
    omega
  rcases Nat.lt_trichotomy x y with h | h | h
  · have := key x y p q lM lN h
    rw [if_pos this, if_pos (by omega)]
  · subst h
    by_cases hpq : p < q
    · rw [if_pos (by omega), if_pos (by rw [if_pos hpq]; omega)]
    · rw [if_neg (by omega), if_neg (by rw [if_neg hpq]; omega)]
  · have := key y x q p lN lM h
    rw [if_neg (by omega), if_neg (by split <;> omega)]
theorem sub_digit {b : Nat} (hb : 2 ≤ b) {M N : Nat} (h : N ≤ M) (i : Nat) :
    (((M - N) / b ^ i % b : Nat) : Int) = (if ((M / b ^ i % b : Nat) : Int) - borrowAt b M N i - ((N / b ^ i % b : Nat) : Int) < 0 then ((M / b ^ i % b : Nat) : Int) - borrowAt b M N i - ((N / b ^ i % b : Nat) : Int) + b else ((M / b ^ i % b : Nat) : Int) - borrowAt b M N i - ((N / b ^ i % b : Nat) : Int)) := by
  have e := sub_div_borrow hb h i
  have hc := borrow_le b M N i
  generalize (M - N) / b ^ i = z at *
  generalize borrowAt b M N i = c at *
  generalize M / b ^ i = x at *
  generalize N / b ^ i = y at *
  have hz := Nat.mod_lt z (show 0 < b by omega)
  have hy := Nat.mod_lt y (show 0 < b by omega)
  have hx : x % b = (z % b + y % b + c) % b := by rw [← e]; simp only [Nat.add_mod, Nat.mod_mod]
  generalize z % b = z' at *
  generalize y % b = y' at *
  rcases Nat.lt_or_ge (z' + y' + c) b with g | g
  · rw [Nat.mod_eq_of_lt g] at hx
    rw [hx, if_neg (by omega)]
    omega
  · rw [Nat.mod_eq_sub_mod g, Nat.mod_eq_of_lt (show z' + y' + c - b < b by omega)] at hx
    rw [hx]
    split <;> omega
end Mine
namespace Mine
noncomputable def pl (N x y : Nat) : Nat := (x + y) % N
noncomputable def mi (N x y : Nat) : Nat := (x + N - y) % N
noncomputable def pr (N x y : Nat) : Nat := x * y % N
/-- the doubled point -/
noncomputable def dblP (N : Nat) (c P : Nat × Nat) : Nat × Nat :=
  let u := pl N P.1 P.2
  let d := mi N P.1 P.2
  let up := pr N u u
  let down := pr N d d
  let gap := mi N up down
  (pr N (pr N up c.2) down, pr N gap (pl N (pr N c.2 down) (pr N c.1 gap)))
noncomputable def joinP (N : Nat) (P Q D : Nat × Nat) : Nat × Nat :=
  let l := pr N (mi N P.1 P.2) (pl N Q.1 Q.2)
  let r := pr N (pl N P.1 P.2) (mi N Q.1 Q.2)
  (pr N D.2 (pr N (pl N l r) (pl N l r)), pr N D.1 (pr N (mi N l r) (mi N l r)))
noncomputable def lad (N : Nat) (c P : Nat × Nat) (k : Nat) : (Nat × Nat) × (Nat × Nat) :=
  if k ≤ 1 then (P, dblP N c P) else
    let b := lad N c P (k / 2)
    let m := joinP N b.2 b.1 P
    if k % 2 = 1 then (m, dblP N c b.2) else (dblP N c b.1, m)
termination_by k
decreasing_by omega
noncomputable def crossP (N : Nat) (P Q : Nat × Nat) : Nat := mi N (pr N P.1 Q.2) (pr N Q.1 P.2)
noncomputable def suyP (N s : Nat) : (Nat × Nat) × (Nat × Nat) :=
  let u := mi N (s * s % N) (5 % N)
  let v := 4 * s % N
  let cu := pr N (pr N u u) u
  let g := mi N v u
  let top := pr N (pr N (pr N g g) g) (pl N (pr N (3 % N) u) v)
  let bottom := pr N (pr N (16 % N) cu) v
  ((top, bottom), (cu, pr N (pr N v v) v))
end Mine
namespace Mine
open PySem
theorem powMod_go (b e m : Nat) : ∀ k, (List.range k).reverse.foldl (fun p i => if e.testBit i then p * p % m * b % m else p * p % m) (b ^ (e / 2 ^ k) % m) = b ^ e % m
  | 0 => by simp
  | k + 1 => by
    rw [List.range_succ, List.reverse_append, List.reverse_singleton, List.singleton_append, List.foldl_cons]
    rw [← powMod_go b e m k]
    congr 1
    have hd : e / 2 ^ k = 2 * (e / 2 ^ (k + 1)) + e / 2 ^ k % 2 := by
      rw [Nat.pow_succ, ← Nat.div_div_eq_div_mul]; omega
    have ht : e.testBit k = decide (e / 2 ^ k % 2 = 1) := Nat.testBit_eq_decide_div_mod_eq
    have h2 : b ^ (e / 2 ^ (k + 1)) % m * (b ^ (e / 2 ^ (k + 1)) % m) % m = b ^ (2 * (e / 2 ^ (k + 1))) % m := by
      rw [← Nat.mul_mod, ← Nat.pow_add]; congr 2; omega
    rw [h2, ht]
    rcases Nat.mod_two_eq_zero_or_one (e / 2 ^ k) with h | h
    · rw [h] at hd ⊢
      simp only [show ¬ (0 = 1) by decide, decide_false, Bool.false_eq_true, if_false]
      rw [Nat.add_zero] at hd
      rw [← hd]
    · rw [h] at hd ⊢
      simp only [decide_true, if_true]
      rw [show b ^ (e / 2 ^ k) = b ^ (2 * (e / 2 ^ (k + 1)) + 1) by rw [← hd], Nat.pow_succ b, Nat.mod_mul_mod]
theorem powMod_eq (b e m : Nat) : Builtin.powMod b e m = b ^ e % m := by
  unfold Builtin.powMod
  have h := powMod_go b e m (Builtin.Int.intBits e)
  have he : e < 2 ^ Builtin.Int.intBits e := by
    have := (PySem.intBits_le_iff (m := Builtin.Int.intBits e) (x := (e : Int))).mp (Nat.le_refl _)
    rwa [Int.natAbs_natCast] at this
  rw [Nat.div_eq_of_lt he, Nat.pow_zero] at h
  exact h

/-- a share modulo r -/
noncomputable def shr (t b : Int) (r : Nat) : Nat := (t * (((b % r).toNat ^ (r - 2) % r : Nat) : Int) % r).toNat
noncomputable abbrev Pt := Option (Nat × Nat)
/-- the sum as the law's text has it -/
noncomputable def sumP (a b r : Nat) : Pt → Pt → Pt
  | none, q => q
  | some p, none => some p
  | some p, some q =>
    if p.1 = q.1 ∧ (p.2 + q.2) % r = 0 then none else
      let rise := if p = q then shr (3 * p.1 * p.1 + 2 * a * p.1 + 1) (2 * b * p.2) r else shr ((q.2 : Int) - p.2) ((q.1 : Int) - p.1) r
      let x := (((b : Int) * rise * rise - a - p.1 - q.1) % r).toNat
      some (x, (((rise : Int) * ((p.1 : Int) - x) - p.2) % r).toNat)
noncomputable def mulP (a b r : Nat) (P : Nat × Nat) : Nat → Pt
  | 0 => none
  | k + 1 => sumP a b r (mulP a b r P k) (some P)
noncomputable def PtIn (r : Nat) (p : Pt) : Prop := ∀ q, p = some q → q.1 < r ∧ q.2 < r
theorem toNat_mod_lt {r : Nat} (h : 0 < r) (i : Int) : (i % r).toNat < r := by
  have := Int.emod_lt_of_pos i (show (0 : Int) < r by omega)
  have := Int.emod_nonneg i (show (r : Int) ≠ 0 by omega)
  omega
theorem shr_lt {t b : Int} {r : Nat} (h : 0 < r) : shr t b r < r := toNat_mod_lt h _
theorem sum_in {a b r : Nat} (h : 0 < r) {p q : Pt} (hp : PtIn r p) (hq : PtIn r q) : PtIn r (sumP a b r p q) := by
  cases p with
  | none => exact hq
  | some p =>
    cases q with
    | none => exact hp
    | some q =>
      intro s e
      simp only [sumP] at e
      split at e
      · cases e
      · cases e; exact ⟨toNat_mod_lt h _, toNat_mod_lt h _⟩
theorem mul_in {a b r : Nat} (h : 0 < r) {P : Nat × Nat} (hP : P.1 < r ∧ P.2 < r) : ∀ k, PtIn r (mulP a b r P k)
  | 0 => fun _ e => by cases e
  | k + 1 => sum_in h (mul_in h hP k) fun q e => by cases e; exact hP
end Mine
namespace Mine
open PySem PySem.W PyProof.Rows
set_option autoImplicit true

/-- value trees -/
inductive T where
  | none
  | bool (b : Bool)
  | int (i : Int)
  | str (s : Str)
  | fn (a : Addr)
  | tup (ts : List T)
  | list (ts : List T)
  | range (a b c : Int)
  | rests (n : T) (w : Int) (f g : Addr)
  deriving Inhabited

noncomputable abbrev Vis := Addr → Obj → Prop
noncomputable def vis (X : Addr → Prop) (h : Heap) : Vis := fun a o => ¬ X a ∧ h.get? a = some o

noncomputable def listObj (vs : List Value) (n : Nat) : Obj := { cls := .type "list", data := .seq vs.toArray n }
noncomputable def tupObj (vs : List Value) (n : Nat) : Obj := { cls := .type "tuple", data := .seq vs.toArray n }
noncomputable def rangeObj (a b c : Int) (t u v : Tok) : Obj := { cls := .type "range", data := .fields #[.int a t, .int b u, .int c v] }

mutual
noncomputable def Rep (V : Vis) : T → Value → Prop
  | .none, v => v = .none
  | .bool b, v => v = .bool b
  | .int i, v => ∃ t, v = .int i t
  | .str s, v => ∃ t, v = .str s t
  | .fn a, v => v = .ref a
  | .tup ts, v => ∃ a vs n, v = .ref a ∧ V a (tupObj vs n) ∧ RepAll V ts vs
  | .list ts, v => ∃ a vs n, v = .ref a ∧ V a (listObj vs n) ∧ RepAll V ts vs
  | .range a b c, v => ∃ r t u x, v = .ref r ∧ V r (rangeObj a b c t u x)
  | .rests n w f g, v => ∃ x dx vn t h₁ h₂ h₃ h₄ t₁ t₂ t₃ t₄ k, v = .ref x ∧ V x (⟨.ref 133, some dx, .plain, #[]⟩ : Obj) ∧
      V dx (dictOf [⟨h₁, .str "n" t₁, vn⟩, ⟨h₂, .str "w" t₂, .int w t⟩, ⟨h₃, .str "given_product" t₃, .ref f⟩, ⟨h₄, .str "given_parts" t₄, .ref g⟩] k) ∧ Rep V n vn
noncomputable def RepAll (V : Vis) : List T → List Value → Prop
  | [], vs => vs = []
  | t :: ts, vs => ∃ v r, vs = v :: r ∧ Rep V t v ∧ RepAll V ts r
end

mutual
theorem Rep.mono {V V' : Vis} (h : ∀ a o, V a o → V' a o) : ∀ {t : T} {v : Value}, Rep V t v → Rep V' t v
  | .none, _, r => r
  | .bool _, _, r => r
  | .int _, _, r => r
  | .str _, _, r => r
  | .fn _, _, r => r
  | .tup _, _, r => by
    obtain ⟨a, vs, n, e, q, r⟩ := r
    exact ⟨a, vs, n, e, h _ _ q, RepAll.mono h r⟩
  | .list _, _, r => by
    obtain ⟨a, vs, n, e, q, r⟩ := r
    exact ⟨a, vs, n, e, h _ _ q, RepAll.mono h r⟩
  | .range _ _ _, _, r => by
    obtain ⟨a, t, u, x, e, q⟩ := r
    exact ⟨a, t, u, x, e, h _ _ q⟩
  | .rests _ _ _ _, _, r => by
    obtain ⟨x, dx, vn, t, h₁, h₂, h₃, h₄, t₁, t₂, t₃, t₄, k, e, q, q', r⟩ := r
    exact ⟨x, dx, vn, t, h₁, h₂, h₃, h₄, t₁, t₂, t₃, t₄, k, e, h _ _ q, h _ _ q', Rep.mono h r⟩
theorem RepAll.mono {V V' : Vis} (h : ∀ a o, V a o → V' a o) : ∀ {t : List T} {v : List Value}, RepAll V t v → RepAll V' t v
  | [], _, r => r
  | _ :: _, _, r => by
    obtain ⟨v, vs, e, q, r⟩ := r
    exact ⟨v, vs, e, Rep.mono h q, RepAll.mono h r⟩
end

theorem RepAll.length {V : Vis} : ∀ {t : List T} {v : List Value}, RepAll V t v → v.length = t.length
  | [], _, r => by rw [show _ = [] from r]; rfl
  | _ :: _, _, r => by
    obtain ⟨v, vs, rfl, _, r⟩ := r
    simp [RepAll.length r]
theorem RepAll.get {V : Vis} : ∀ {ts : List T} {vs : List Value}, RepAll V ts vs → ∀ {i : Nat} {t : T}, ts[i]? = some t → ∃ v, vs[i]? = some v ∧ Rep V t v
  | [], _, _, i, t, e => by simp at e
  | _ :: _, _, r, 0, t, e => by
    obtain ⟨v, vs, rfl, q, r⟩ := r
    simp at e; subst e
    exact ⟨v, rfl, q⟩
  | _ :: _, _, r, i + 1, t, e => by
    obtain ⟨v, vs, rfl, q, r⟩ := r
    simp at e
    simpa using RepAll.get r e
theorem RepAll.append {V : Vis} : ∀ {ts us : List T} {vs ws : List Value}, RepAll V ts vs → RepAll V us ws → RepAll V (ts ++ us) (vs ++ ws)
  | [], _, _, _, r, q => by rw [show _ = [] from r]; exact q
  | _ :: _, _, _, _, r, q => by
    obtain ⟨v, vs, rfl, q', r⟩ := r
    exact ⟨v, _, rfl, q', RepAll.append r q⟩
theorem RepAll.one {V : Vis} {t : T} {v : Value} (r : Rep V t v) : RepAll V [t] [v] := ⟨v, [], rfl, r, rfl⟩
theorem RepAll.take {V : Vis} : ∀ {ts : List T} {vs : List Value} (n : Nat), RepAll V ts vs → RepAll V (ts.take n) (vs.take n)
  | [], _, n, r => by rw [show _ = [] from r]; simp; rfl
  | _ :: _, _, 0, r => by simp; rfl
  | _ :: _, _, n + 1, r => by
    obtain ⟨v, vs, rfl, q', r⟩ := r
    exact ⟨v, _, rfl, q', RepAll.take n r⟩
theorem RepAll.reverse {V : Vis} : ∀ {ts : List T} {vs : List Value}, RepAll V ts vs → RepAll V ts.reverse vs.reverse
  | [], _, r => by rw [show _ = [] from r]; rfl
  | _ :: _, _, r => by
    obtain ⟨v, vs, rfl, q', r⟩ := r
    rw [List.reverse_cons, List.reverse_cons]
    exact RepAll.append (RepAll.reverse r) (RepAll.one q')

/-- the background: what the text's top has left -/
structure Bg where
  prog : Program
  w : World
  K : Frag
  mg : Str → Option Value
  mb : Str → Option Value
  g : Heap
  kin : K.In g
  gns : g.Ns mainGlobals mg
  bns : g.Ns builtinsNs mb
  nolimit : g.NoLimit
  blt : ∀ x : Str, x ≠ "__name__" → mb x = bootBuiltins x

noncomputable abbrev Bx := Option (Addr × Addr)
noncomputable abbrev BSt := List Int × Int
noncomputable def InBox (bx : Bx) (b : Addr) : Prop := ∃ p, bx = some p ∧ (b = p.1 ∨ b = p.2)
noncomputable def Ext (bx : Bx) (h h' : Heap) : Prop := ∀ b o, ¬ InBox bx b → h.get? b = some o → h'.get? b = some o
noncomputable def BoxOK (X : Addr → Prop) (bx : Bx) (h : Heap) (st : BSt) : Prop :=
  ∀ p, bx = some p → X p.1 ∧ X p.2 ∧ p.1 ≠ p.2 ∧ (∃ n t, h.get? p.1 = some (listObj [.ref p.2, .int st.2 t] n)) ∧ ∃ n vs, h.get? p.2 = some (listObj vs n) ∧ IntsAre vs st.1

theorem Ext.refl {bx : Bx} {h : Heap} : Ext bx h h := fun _ _ _ e => e
theorem Ext.trans {bx : Bx} {h h' h'' : Heap} (a : Ext bx h h') (b : Ext bx h' h'') : Ext bx h h'' := fun c o n e => b c o n (a c o n e)
theorem Ext.of_stays {bx : Bx} {h h' : Heap} (a : ∀ b o, h.get? b = some o → h'.get? b = some o) : Ext bx h h' := fun c o _ e => a c o e
theorem inBox_X {X : Addr → Prop} {bx : Bx} {h : Heap} {st : BSt} (B : BoxOK X bx h st) {b : Addr} (i : InBox bx b) : X b := by
  obtain ⟨p, e, i⟩ := i
  obtain ⟨h1, h2, _⟩ := B p e
  rcases i with rfl | rfl <;> assumption
theorem BoxOK.keeps {X : Addr → Prop} {bx : Bx} {h h' : Heap} {st : BSt} (B : BoxOK X bx h st) (k : ∀ b o, h.get? b = some o → h'.get? b = some o) : BoxOK X bx h' st := fun p e => by
  obtain ⟨h1, h2, h3, ⟨n, t, h4⟩, m, vs, h5, h6⟩ := B p e
  exact ⟨h1, h2, h3, ⟨n, t, k _ _ h4⟩, m, vs, k _ _ h5, h6⟩
theorem BoxOK.none {X : Addr → Prop} {h : Heap} {st : BSt} : BoxOK X none h st := fun _ e => nomatch e
theorem BoxOK.wider {X X' : Addr → Prop} {bx : Bx} {h : Heap} {st : BSt} (B : BoxOK X bx h st) (k : ∀ b, X b → X' b) : BoxOK X' bx h st := fun p e => by
  obtain ⟨h1, h2, r⟩ := B p e
  exact ⟨k _ h1, k _ h2, r⟩

theorem vis_ext {X : Addr → Prop} {bx : Bx} {h h' : Heap} (hb : ∀ b, InBox bx b → X b) (k : Ext bx h h') : ∀ a o, vis X h a o → vis X h' a o :=
  fun _ _ q => ⟨q.1, k _ _ (fun i => q.1 (hb _ i)) q.2⟩
theorem vis_keeps {X : Addr → Prop} {h h' : Heap} (k : ∀ b o, h.get? b = some o → h'.get? b = some o) : ∀ a o, vis X h a o → vis X h' a o :=
  fun _ _ q => ⟨q.1, k _ _ q.2⟩
theorem vis_narrow {X X' : Addr → Prop} {h : Heap} (k : ∀ b o, h.get? b = some o → X' b → X b) : ∀ a o, vis X h a o → vis X' h a o :=
  fun _ _ q => ⟨fun x => q.1 (k _ _ q.2 x), q.2⟩

noncomputable def Room (A : Around) (n : Nat) : Prop := A.handled = none ∧ A.depth + n < recursionLimit ∧ A.units + 16 * n + 100 < cLine

theorem Room.le {A : Around} {n m : Nat} (r : Room A n) (h : m ≤ n) : Room A m := ⟨r.1, by have := r.2.1; omega, by have := r.2.2; omega⟩
theorem Room.deeper {A : Around} {n : Nat} {env : Env} (r : Room A (n + 1)) : Room (A.deeper env) n :=
  ⟨r.1, by have := r.2.1; show A.depth + 1 + n < _; omega, by have := r.2.2; show A.units + 3 + 16 * n + 100 < _; omega⟩

/-- what the background asks of a heap -/
structure BgIn (B : Bg) (X : Addr → Prop) (h : Heap) : Prop where
  bg : ∀ b o, B.g.get? b = some o → ¬ X b ∧ h.get? b = some o
  live : ∀ b, X b → ∃ o, h.get? b = some o

theorem BoxOK.live {X : Addr → Prop} {bx : Bx} {h : Heap} {st : BSt} (S : BoxOK X bx h st) {b : Addr} (i : InBox bx b) : ∃ o, h.get? b = some o := by
  obtain ⟨p, e, i⟩ := i
  obtain ⟨_, _, _, ⟨n, t, e1⟩, m, vs, e2, _⟩ := S p e
  rcases i with rfl | rfl
  · exact ⟨_, e1⟩
  · exact ⟨_, e2⟩

theorem BgIn.keeps {B : Bg} {X : Addr → Prop} {bx : Bx} {h h' : Heap} {st : BSt} (G : BgIn B X h) (k : Ext bx h h') (S : BoxOK X bx h' st) : BgIn B X h' where
  bg := fun b o e => ⟨(G.bg b o e).1, k _ _ (fun i => (G.bg b o e).1 (inBox_X S i)) (G.bg b o e).2⟩
  live := fun b x => by
    by_cases i : InBox bx b
    · exact S.live i
    · obtain ⟨o, e⟩ := G.live b x
      exact ⟨o, k _ _ i e⟩
theorem BgIn.fresh {B : Bg} {X : Addr → Prop} {h : Heap} (G : BgIn B X h) {b : Addr} (e : h.get? b = none) : ¬ X b := fun x => by
  obtain ⟨o, q⟩ := G.live b x
  rw [e] at q; cases q
theorem BgIn.next {B : Bg} {X : Addr → Prop} {h : Heap} (G : BgIn B X h) : ¬ X h.objs.size := fun x => by
  obtain ⟨o, q⟩ := G.live _ x
  exact Nat.lt_irrefl _ (Heap.lt_size q)

inductive Sl where
  | sh (t : T)
  | own (ts : List T)
  | odict (kvs : List (Int × T))

noncomputable abbrev REnv := List (Str × Sl)

noncomputable def Bound (env : Env) (h : Heap) (x : Str) (v : Value) : Prop :=
  (env.kindOf x = some .local ∧ ∃ m, h.Ns env.locals m ∧ m x = some v) ∨
  ((env.kindOf x = some .cell ∨ env.kindOf x = some .free) ∧ ∃ c, env.cells.lookup x = some c ∧ h.IsCell c (some v))

noncomputable def dictObj (es : List DictEntry) (n : Nat) : Obj := { cls := .type "dict", data := .dict es.toArray n }
noncomputable def RepKvs (V : Vis) : List (Int × T) → List DictEntry → Prop
  | [], es => es = []
  | (k, t) :: r, es => ∃ tk v es', es = ⟨hashInt k, .int k tk, v⟩ :: es' ∧ Rep V t v ∧ RepKvs V r es'

noncomputable def RepD (V : Vis) (D : Addr) (kvs : List (Int × T)) (es : List DictEntry) : Prop := D ≠ sysModules ∧ RepKvs V kvs es

noncomputable def SlotOK (X : Addr → Prop) (h : Heap) : Sl → Value → Prop
  | .sh t, v => Rep (vis X h) t v
  | .own ts, v => ∃ D vs n, v = .ref D ∧ X D ∧ h.get? D = some (listObj vs n) ∧ RepAll (vis X h) ts vs
  | .odict kvs, v => ∃ D es n, v = .ref D ∧ X D ∧ h.get? D = some (dictObj es n) ∧ RepD (vis X h) D kvs es

theorem RepKvs.mono {V V' : Vis} (h : ∀ a o, V a o → V' a o) : ∀ {t : List (Int × T)} {v : List DictEntry}, RepKvs V t v → RepKvs V' t v
  | [], _, r => r
  | (_, _) :: _, _, r => by
    obtain ⟨b, v, es, e, q, r⟩ := r
    exact ⟨b, v, es, e, Rep.mono h q, RepKvs.mono h r⟩

theorem RepD.mono {V V' : Vis} {D : Addr} (h : ∀ a o, V a o → V' a o) {t : List (Int × T)} {v : List DictEntry} (r : RepD V D t v) : RepD V' D t v := ⟨r.1, r.2.mono h⟩

theorem SlotOK.mono {X : Addr → Prop} {bx : Bx} {h h' : Heap} (hb : ∀ b, InBox bx b → X b) (k : Ext bx h h')
    (ho : ∀ D o, X D → h.get? D = some o → ¬ InBox bx D → h'.get? D = some o := fun D o _ e n => k D o n e) : ∀ {sl : Sl} {v : Value}, (∀ D, v = .ref D → (∀ t, sl ≠ .sh t) → ¬ InBox bx D) → SlotOK X h sl v → SlotOK X h' sl v
  | .sh _, _, _, r => Rep.mono (vis_ext hb k) r
  | .own _, _, hn, r => by
    obtain ⟨D, vs, n, rfl, x, e, r⟩ := r
    exact ⟨D, vs, n, rfl, x, ho _ _ x e (hn D rfl fun _ q => nomatch q), RepAll.mono (vis_ext hb k) r⟩
  | .odict _, _, hn, r => by
    obtain ⟨D, vs, n, rfl, x, e, r⟩ := r
    exact ⟨D, vs, n, rfl, x, ho _ _ x e (hn D rfl fun _ q => nomatch q), RepD.mono (vis_ext hb k) r⟩

end Mine
namespace Mine
open PySem PySem.W PyProof.Rows
set_option autoImplicit true

/-- what an expression's evaluation may count on -/
structure EOK (B : Bg) (X : Addr → Prop) (bx : Bx) (sc : Scope) (env : Env) (ρ : REnv) (h : Heap) : Prop where
  bg : BgIn B X h
  scope : env.scope = sc
  kind : sc.kind = .function
  glob : env.globals = mainGlobals
  blt : env.builtins = builtinsNs
  locB : ¬ InBox bx env.locals
  cellB : ∀ n c, env.cells.lookup n = some c → ¬ InBox bx c
  vars : ∀ x sl, ρ.lookup x = some sl → ∃ v, Bound env h x v ∧ SlotOK X h sl v ∧ (∀ D, v = .ref D → (∀ t, sl ≠ .sh t) → ¬ InBox bx D)

theorem Bound.keeps {env : Env} {h h' : Heap} {x : Str} {v : Value} (b : Bound env h x v) (hl : ∀ o, h.get? env.locals = some o → h'.get? env.locals = some o)
    (hc : ∀ n c o, env.cells.lookup n = some c → h.get? c = some o → h'.get? c = some o) : Bound env h' x v := by
  rcases b with ⟨k, m, ⟨o, es, ep, q, r⟩, e⟩ | ⟨k, c, e, o, q, r⟩
  · exact .inl ⟨k, m, ⟨o, es, ep, hl _ q, r⟩, e⟩
  · exact .inr ⟨k, c, e, o, hc _ _ _ e q, r⟩

theorem EOK.keeps {B : Bg} {X : Addr → Prop} {bx : Bx} {sc : Scope} {env : Env} {ρ : REnv} {h h' : Heap} {st : BSt} (F : EOK B X bx sc env ρ h) (k : Ext bx h h') (S : BoxOK X bx h' st) : EOK B X bx sc env ρ h' where
  bg := F.bg.keeps k S
  scope := F.scope
  kind := F.kind
  glob := F.glob
  blt := F.blt
  locB := F.locB
  cellB := F.cellB
  vars := fun x sl e => by
    obtain ⟨v, b, s, n⟩ := F.vars x sl e
    exact ⟨v, b.keeps (fun o q => k _ _ F.locB q) (fun n c o e q => k _ _ (F.cellB n c e) q), s.mono (fun _ i => inBox_X S i) k (ho := fun D o _ e n => k D o n e) n, n⟩

/-- an expression gives a tree -/
noncomputable def Ev (B : Bg) (bx : Bx) (n : Nat) (sc : Scope) (ρ : REnv) (st : BSt) (e : Expr) (t : T) (st' : BSt) : Prop :=
  ∀ A X env s (Q : Value → Shared → Prop), Room A n → EOK B X bx sc env ρ s.heap → BoxOK X bx s.heap st →
    (∀ v h' tk, Ext bx s.heap h' → BoxOK X bx h' st' → Rep (vis X h') t v → Q v { s with heap := h', toks := tk }) →
    wpAny (model B.prog B.w) A (eval e env) Q (fun _ _ => False) s

/-- a list of expressions (arguments, items) -/
noncomputable def Evs (B : Bg) (bx : Bx) (n : Nat) (sc : Scope) (ρ : REnv) (st : BSt) (es : List Expr) (ts : List T) (st' : BSt) : Prop :=
  ∀ A X env s pos (Q : List Value → Shared → Prop), Room A n → EOK B X bx sc env ρ s.heap → BoxOK X bx s.heap st →
    (∀ vs h' tk, Ext bx s.heap h' → BoxOK X bx h' st' → RepAll (vis X h') ts vs → Q vs { s with heap := h', toks := tk }) →
    wpAny (model B.prog B.w) A (spliced (backTo pos (starEach es env))) Q (fun _ _ => False) s

/-- an expression's truth -/
noncomputable def Tr (B : Bg) (bx : Bx) (n : Nat) (sc : Scope) (ρ : REnv) (st : BSt) (e : Expr) (b : Bool) (st' : BSt) : Prop :=
  ∀ A X env s (Q : Bool → Shared → Prop), Room A n → EOK B X bx sc env ρ s.heap → BoxOK X bx s.heap st →
    (∀ h' tk, Ext bx s.heap h' → BoxOK X bx h' st' → Q b { s with heap := h', toks := tk }) →
    wpAny (model B.prog B.w) A (isTrue e env (eval e env)) Q (fun _ _ => False) s

/-- a def of the text, on trees -/
noncomputable def Calls (B : Bg) (bx : Bx) (n : Nat) (f : Addr) (ts : List T) (st : BSt) (t : T) (st' : BSt) : Prop :=
  ∀ A X s vs (Q : Value → Shared → Prop), Room A n → BgIn B X s.heap → BoxOK X bx s.heap st → RepAll (vis X s.heap) ts vs →
    (∀ v h' tk, Ext bx s.heap h' → BoxOK X bx h' st' → Rep (vis X h') t v → Q v { s with heap := h', toks := tk }) →
    wpAny (model B.prog B.w) A (call (.ref f) vs) Q (fun _ _ => False) s

section
variable {B : Bg} {bx : Bx} {n : Nat} {sc : Scope} {ρ : REnv} {st st₁ st₂ st₃ : BSt}

theorem Ev.le {m : Nat} {e : Expr} {t : T} (h : Ev B bx m sc ρ st e t st₁) (l : m ≤ n) : Ev B bx n sc ρ st e t st₁ :=
  fun A X env s Q r F S q => h A X env s Q (r.le l) F S q
theorem Calls.le {m : Nat} {f : Addr} {ts : List T} {t : T} (h : Calls B bx m f ts st t st₁) (l : m ≤ n) : Calls B bx n f ts st t st₁ :=
  fun A X s vs Q r F S a q => h A X s vs Q (r.le l) F S a q

theorem Ev.int {i : Int} {k : Nat} {p : Pos} : Ev B bx n sc ρ st (.Constant (.int i) k p) (.int i) st :=
  fun _ _ _ _ _ _ _ S q => wpAny_Constant_int (q _ _ _ Ext.refl S ⟨_, rfl⟩)
theorem Ev.cnone {k : Nat} {p : Pos} : Ev B bx n sc ρ st (.Constant .none k p) .none st :=
  fun _ _ _ s _ _ _ S q => wpAny_Constant_none (q _ s.heap s.toks Ext.refl S rfl)
theorem Ev.bool {b : Bool} {k : Nat} {p : Pos} : Ev B bx n sc ρ st (.Constant (.bool b) k p) (.bool b) st :=
  fun _ _ _ s _ _ _ S q => wpAny_Constant_bool (q _ s.heap s.toks Ext.refl S rfl)
theorem Ev.str {x : Str} {k : Nat} {p : Pos} : Ev B bx n sc ρ st (.Constant (.str x) k p) (.str x) st :=
  fun _ _ _ _ _ _ _ S q => wpAny_Constant_str (q _ _ _ Ext.refl S ⟨_, rfl⟩)

theorem load_bound {B : Bg} {A : Around} {env : Env} {s : Shared} {x : Str} {v : Value} {Q : Value → Shared → Prop} {E : Value → Shared → Prop} (hk : env.scope.kind = .function) (b : Bound env s.heap x v) (q : Q v s)
    (hn : (x == ("__classdict__" : Str)) = false) : wpAny (model B.prog B.w) A (loadName env x) Q E s := by
  rcases b with ⟨k, m, N, e⟩ | ⟨k | k, c, e, C⟩
  · exact wpAny_loadName_local hk k N e q
  · exact wpAny_loadName_cell hk k e C q
  · exact wpAny_loadName_free hk k e C q hn

theorem Ev.name {x : Str} {p : Pos} {t : T} (e : ρ.lookup x = some (.sh t)) (hd : (x == ("__debug__" : Str)) = false := by decide) (hn : (x == ("__classdict__" : Str)) = false := by decide) :
    Ev B bx n sc ρ st (.Name x p) t st := fun A X env s Q _ F S q => by
  obtain ⟨v, b, r, _⟩ := F.vars x _ e
  exact wpAny_Name (load_bound (by rw [F.scope]; exact F.kind) b (q v s.heap s.toks Ext.refl S r) hn) hd

theorem BgIn.ns {X : Addr → Prop} {h : Heap} {a : Addr} {m : Str → Option Value} (G : BgIn B X h) (N : B.g.Ns a m) : h.Ns a m := N.keeps fun b o e => (G.bg b o e).2

theorem Ev.global {x : Str} {p : Pos} {a : Addr} (k : sc.names.lookup x = some .globalImplicit) (e : nsIn B.K mainGlobals x = some (some (.ref a))) (hd : (x == ("__debug__" : Str)) = false := by decide) :
    Ev B bx n sc ρ st (.Name x p) (.fn a) st := fun A X env s Q _ F S q => by
  refine Calls.Name_function_global (by rw [F.scope]; exact F.kind) (by show env.scope.names.lookup x = _; rw [F.scope]; exact k) ?_ hd
  exact Calls.loadGlobal_global (by rw [F.glob]; exact F.bg.ns B.gns) (mg_of B.kin B.gns e) (q _ s.heap s.toks Ext.refl S rfl)

/-- a name that stands for a built-in -/
theorem load_builtin {A : Around} {X : Addr → Prop} {env : Env} {s : Shared} {x : Str} {p : Pos} {v : Value} {Q : Value → Shared → Prop} (F : EOK B X bx sc env ρ s.heap) (k : sc.names.lookup x = some .globalImplicit)
    (e : nsIn B.K mainGlobals x = some none) (hv : bootBuiltins x = some v) (hn : x ≠ "__name__") (hd : (x == ("__debug__" : Str)) = false) (q : Q v s) :
    wpAny (model B.prog B.w) A (eval (.Name x p) env) Q (fun _ _ => False) s := by
  refine Calls.Name_function_global (by rw [F.scope]; exact F.kind) (by show env.scope.names.lookup x = _; rw [F.scope]; exact k) ?_ hd
  exact Calls.loadGlobal_builtin (by rw [F.glob]; exact F.bg.ns B.gns) (mg_none_of B.kin B.gns e) (by rw [F.blt]; exact F.bg.ns B.bns) ((B.blt x hn).trans hv) q

theorem Evs.nil : Evs B bx n sc ρ st [] [] st := fun _ _ _ s _ _ _ _ S q => wpAny_items_nil (q [] s.heap s.toks Ext.refl S rfl)
theorem Evs.cons {e : Expr} {es : List Expr} {t : T} {ts : List T} (h : Ev B bx n sc ρ st e t st₁) (hs : Evs B bx n sc ρ st₁ es ts st₂)
    (he : ∀ env, starEach (e :: es) env = (false, eval e env) :: starEach es env := by intro _; rfl) : Evs B bx n sc ρ st (e :: es) (t :: ts) st₂ := fun A X env s pos Q r F S q => by
  have hb := fun b => inBox_X (b := b) S
  refine wpAny_items_cons (h A X env s _ r F S fun v h' tk x S' rv => ?_) (he env)
  refine hs A X env _ pos _ r (F.keeps x S') S' fun vs h'' tk' x' S'' rvs => ?_
  exact q _ _ _ (x.trans x') S'' ⟨v, vs, rfl, rv.mono (vis_ext hb x'), rvs⟩

theorem pushed_keeps {h : Heap} (o : Obj) : ∀ b o', h.get? b = some o' → (h.push o).get? b = some o' := fun _ _ e => Heap.get?_push_of_some _ e

theorem Ev.tuple {es : List Expr} {k : Nat} {p : Pos} {ts : List T} (h : Evs B bx n sc ρ st es ts st₁) (hz : ts.length ≤ sizeLine := by (try simp only [List.length_cons, List.length_nil]); decide) :
    Ev B bx n sc ρ st (.Tuple es k p) (.tup ts) st₁ := fun A X env s Q r F S q => by
  refine wpAny_Tuple (h A X env s _ _ r F S fun vs h' tk x S' rv => ⟨by rw [rv.length]; exact hz, ?_⟩)
  have F' := F.keeps x S'
  refine q _ _ _ (x.trans (Ext.of_stays (pushed_keeps _))) (S'.keeps (pushed_keeps _)) ⟨h'.objs.size, vs, 0, rfl, ⟨F'.bg.next, Heap.get?_push_size _ rfl⟩, rv.mono (vis_keeps (pushed_keeps _))⟩
theorem Ev.list {es : List Expr} {p : Pos} {ts : List T} (h : Evs B bx n sc ρ st es ts st₁) (hz : ts.length ≤ sizeLine := by (try simp only [List.length_cons, List.length_nil]); decide) :
    Ev B bx n sc ρ st (.List es p) (.list ts) st₁ := fun A X env s Q r F S q => by
  refine wpAny_List (h A X env s _ _ r F S fun vs h' tk x S' rv => ⟨by rw [rv.length]; exact hz, ?_⟩)
  have F' := F.keeps x S'
  refine q _ _ _ (x.trans (Ext.of_stays (pushed_keeps _))) (S'.keeps (pushed_keeps _)) ⟨h'.objs.size, vs, 0, rfl, ⟨F'.bg.next, Heap.get?_push_size _ rfl⟩, rv.mono (vis_keeps (pushed_keeps _))⟩

/-- two values, then one step -/
theorem Ev.bin {op : Operator} {l r : Expr} {p : Pos} {a b c : T} (h : Ev B bx n sc ρ st l a st₁) (h' : Ev B bx n sc ρ st₁ r b st₂)
    (step : ∀ A X s (Q : Value → Shared → Prop) v w, Room A n → BgIn B X s.heap → BoxOK X bx s.heap st₂ → Rep (vis X s.heap) a v → Rep (vis X s.heap) b w →
      (∀ v h' tk, Ext bx s.heap h' → BoxOK X bx h' st₂ → Rep (vis X h') c v → Q v { s with heap := h', toks := tk }) → wpAny (model B.prog B.w) A (binaryOp op v w) Q (fun _ _ => False) s) :
    Ev B bx n sc ρ st (.BinOp l op r p) c st₂ := fun A X env s Q rm F S q => by
  refine wpAny_BinOp (h A X env s _ rm F S fun v h₁ tk₁ x₁ S₁ rv => ?_)
  refine h' A X env _ _ rm (F.keeps x₁ S₁) S₁ fun w h₂ tk₂ x₂ S₂ rw => ?_
  refine step A X _ _ v w rm ((F.keeps x₁ S₁).keeps x₂ S₂).bg S₂ (rv.mono (vis_ext (fun _ i => inBox_X S₁ i) x₂)) rw fun u h₃ tk₃ x₃ S₃ ru => ?_
  exact q u h₃ tk₃ ((x₁.trans x₂).trans x₃) S₃ ru

theorem Ev.bini {op : Operator} {l r : Expr} {p : Pos} {a b c : Int} (h : Ev B bx n sc ρ st l (.int a) st₁) (h' : Ev B bx n sc ρ st₁ r (.int b) st₂)
    (step : ∀ A s (Q : Value → Shared → Prop) t u, (∀ t tk, Q (.int c t) { s with toks := tk }) → wpAny (model B.prog B.w) A (binaryOp op (.int a t) (.int b u)) Q (fun _ _ => False) s) :
    Ev B bx n sc ρ st (.BinOp l op r p) (.int c) st₂ :=
  Ev.bin h h' fun A X s Q v w _ _ S rv rw q => by
    obtain ⟨t, rfl⟩ := rv
    obtain ⟨u, rfl⟩ := rw
    exact step A s Q t u fun t tk => q _ s.heap tk Ext.refl S ⟨_, rfl⟩

theorem Ev.add {l r : Expr} {p : Pos} {a b : Int} (h : Ev B bx n sc ρ st l (.int a) st₁) (h' : Ev B bx n sc ρ st₁ r (.int b) st₂) : Ev B bx n sc ρ st (.BinOp l .Add r p) (.int (a + b)) st₂ :=
  Ev.bini h h' fun _ _ _ _ _ q => add_int (q _ _)
theorem Ev.sub {l r : Expr} {p : Pos} {a b : Int} (h : Ev B bx n sc ρ st l (.int a) st₁) (h' : Ev B bx n sc ρ st₁ r (.int b) st₂) : Ev B bx n sc ρ st (.BinOp l .Sub r p) (.int (a - b)) st₂ :=
  Ev.bini h h' fun _ _ _ _ _ q => sub_int (q _ _)
theorem Ev.mul {l r : Expr} {p : Pos} {a b : Int} (h : Ev B bx n sc ρ st l (.int a) st₁) (h' : Ev B bx n sc ρ st₁ r (.int b) st₂) (ok : IntMulOk a b) : Ev B bx n sc ρ st (.BinOp l .Mult r p) (.int (a * b)) st₂ :=
  Ev.bini h h' fun _ _ _ _ _ q => mul_int (q _ _) ok
theorem Ev.mod {l r : Expr} {p : Pos} {a b : Int} (h : Ev B bx n sc ρ st l (.int a) st₁) (h' : Ev B bx n sc ρ st₁ r (.int b) st₂) (ok : 0 < b) : Ev B bx n sc ρ st (.BinOp l .Mod r p) (.int (a % b)) st₂ :=
  Ev.bini h h' fun _ _ _ _ _ q => mod_int' (by omega) (by rw [Int.fmod_eq_emod_of_nonneg _ (by omega)]; exact q _ _)
theorem Ev.div {l r : Expr} {p : Pos} {a b : Int} (h : Ev B bx n sc ρ st l (.int a) st₁) (h' : Ev B bx n sc ρ st₁ r (.int b) st₂) (ok : 0 < b) (lt : b < 1073741824) : Ev B bx n sc ρ st (.BinOp l .FloorDiv r p) (.int (a / b)) st₂ :=
  Ev.bini h h' fun _ _ _ _ _ q => floordiv_int (by omega) (by rw [Int.fdiv_eq_ediv_of_nonneg _ (by omega)]; exact q _ _) (.inl (PyProof.noPylong_small (by omega)))
theorem Ev.shl {l r : Expr} {p : Pos} {a b : Int} (h : Ev B bx n sc ρ st l (.int a) st₁) (h' : Ev B bx n sc ρ st₁ r (.int b) st₂) (h0 : 0 ≤ b) (ok : (Builtin.Int.intBits a : Int) + b ≤ 2 ^ 27) : Ev B bx n sc ρ st (.BinOp l .LShift r p) (.int (a * 2 ^ b.toNat)) st₂ :=
  Ev.bini h h' fun _ _ _ _ _ q => lshift_int h0 ok (q _ _)
theorem Ev.shr {l r : Expr} {p : Pos} {a b : Int} (h : Ev B bx n sc ρ st l (.int a) st₁) (h' : Ev B bx n sc ρ st₁ r (.int b) st₂) (h0 : 0 ≤ b) : Ev B bx n sc ρ st (.BinOp l .RShift r p) (.int (a / 2 ^ b.toNat)) st₂ :=
  Ev.bini h h' fun _ _ _ _ _ q => rshift_int h0 (by rw [Int.fdiv_eq_ediv_of_nonneg _ (Int.le_of_lt (Int.pow_pos (by decide)))]; exact q _ _)
theorem Ev.band {l r : Expr} {p : Pos} {a b : Int} (h : Ev B bx n sc ρ st l (.int a) st₁) (h' : Ev B bx n sc ρ st₁ r (.int b) st₂) : Ev B bx n sc ρ st (.BinOp l .BitAnd r p) (.int (Builtin.bitAnd a b)) st₂ :=
  Ev.bini h h' fun _ _ _ _ _ q => and_int (q _ _)
theorem Ev.cast {e : Expr} {t t' : T} (h : Ev B bx n sc ρ st e t st₁) (e' : t = t') : Ev B bx n sc ρ st e t' st₁ := e' ▸ h
theorem Ev.neg {x : Expr} {p : Pos} {a : Int} (h : Ev B bx n sc ρ st x (.int a) st₁) : Ev B bx n sc ρ st (.UnaryOp .USub x p) (.int (-a)) st₁ := fun A X env s Q rm F S q => by
  refine wpAny_UnaryOp (h A X env s _ rm F S fun v h₁ tk₁ x₁ S₁ rv => ?_)
  obtain ⟨t, rfl⟩ := rv
  exact neg_int (q _ _ _ x₁ S₁ ⟨_, rfl⟩)

/-- one comparison of two values -/
noncomputable def Cmp (B : Bg) (bx : Bx) (n : Nat) (op : CmpOp) (a b : T) (c : Bool) : Prop :=
  ∀ A X st s (Q : Value → Shared → Prop) v w, Room A n → BgIn B X s.heap → BoxOK X bx s.heap st → Rep (vis X s.heap) a v → Rep (vis X s.heap) b w →
    (∀ h' tk, Ext bx s.heap h' → BoxOK X bx h' st → Q (.bool c) { s with heap := h', toks := tk }) → wpAny (model B.prog B.w) A (compareOp op v w) Q (fun _ _ => False) s

theorem Ev.cmp {op : CmpOp} {l r : Expr} {p : Pos} {a b : T} {c : Bool} (h : Ev B bx n sc ρ st l a st₁) (h' : Ev B bx n sc ρ st₁ r b st₂) (hc : Cmp B bx n op a b c)
    (hm : behindInMarks op r = false := by with_unfolding_all rfl) : Ev B bx n sc ρ st (.Compare l [op] [r] p) (.bool c) st₂ := fun A X env s Q rm F S q => by
  refine wpAny_Compare1 (h A X env s _ rm F S fun v h₁ tk₁ x₁ S₁ rv => ?_) hm
  refine h' A X env _ _ rm (F.keeps x₁ S₁) S₁ fun w h₂ tk₂ x₂ S₂ rw => ?_
  refine hc A X st₂ _ _ v w rm ((F.keeps x₁ S₁).keeps x₂ S₂).bg S₂ (rv.mono (vis_ext (fun _ i => inBox_X S₁ i) x₂)) rw fun h₃ tk₃ x₃ S₃ => ?_
  exact q _ h₃ tk₃ ((x₁.trans x₂).trans x₃) S₃ rfl
theorem Tr.cmp {op : CmpOp} {l r : Expr} {p : Pos} {a b : T} {c : Bool} (h : Ev B bx n sc ρ st l a st₁) (h' : Ev B bx n sc ρ st₁ r b st₂) (hc : Cmp B bx n op a b c)
    (hm : behindInMarks op r = false := by with_unfolding_all rfl) : Tr B bx n sc ρ st (.Compare l [op] [r] p) c st₂ := fun A X env s Q rm F S q => by
  refine wpAny_isTrue_Compare1 (h A X env s _ rm F S fun v h₁ tk₁ x₁ S₁ rv => ?_) hm
  refine h' A X env _ _ rm (F.keeps x₁ S₁) S₁ fun w h₂ tk₂ x₂ S₂ rw => ?_
  refine hc A X st₂ _ _ v w rm ((F.keeps x₁ S₁).keeps x₂ S₂).bg S₂ (rv.mono (vis_ext (fun _ i => inBox_X S₁ i) x₂)) rw fun h₃ tk₃ x₃ S₃ => ?_
  exact wpAny_truthy_bool (q h₃ tk₃ ((x₁.trans x₂).trans x₃) S₃)

theorem Cmp.int {op : CmpOp} {a b : Int} {c : Bool} (step : ∀ A s (Q : Value → Shared → Prop) t u, Q (.bool c) s → wpAny (model B.prog B.w) A (compareOp op (.int a t) (.int b u)) Q (fun _ _ => False) s) : Cmp B bx n op (.int a) (.int b) c :=
  fun A X st s Q v w _ _ S rv rw q => by
    obtain ⟨t, rfl⟩ := rv
    obtain ⟨u, rfl⟩ := rw
    exact step A s Q t u (q s.heap s.toks Ext.refl S)
theorem Cmp.lt {a b : Int} : Cmp B bx n .Lt (.int a) (.int b) (decide (a < b)) := Cmp.int fun _ _ _ _ _ q => lt_int q
theorem Cmp.le {a b : Int} : Cmp B bx n .LtE (.int a) (.int b) (decide (a ≤ b)) := Cmp.int fun _ _ _ _ _ q => le_int q
theorem Cmp.gt {a b : Int} : Cmp B bx n .Gt (.int a) (.int b) (decide (a > b)) := Cmp.int fun _ _ _ _ _ q => gt_int q
theorem Cmp.ge {a b : Int} : Cmp B bx n .GtE (.int a) (.int b) (decide (a ≥ b)) := Cmp.int fun _ _ _ _ _ q => ge_int q
theorem Cmp.eq {a b : Int} : Cmp B bx n .Eq (.int a) (.int b) (decide (a = b)) := Cmp.int fun _ _ _ _ _ q => eq_int (by rw [show (a == b) = decide (a = b) from rfl]; exact q)
theorem Cmp.ne {a b : Int} : Cmp B bx n .NotEq (.int a) (.int b) (decide (a ≠ b)) := Cmp.int fun _ _ _ _ _ q => ne_int (by rw [show (a != b) = decide (a ≠ b) from by by_cases h : a = b <;> simp [h]]; exact q)
theorem Cmp.cast {op : CmpOp} {a b : T} {c c' : Bool} (h : Cmp B bx n op a b c) (e : c = c') : Cmp B bx n op a b c' := e ▸ h

noncomputable def T.isNone : T → Bool
  | .none => true
  | _ => false
theorem Rep.isNone {V : Vis} : ∀ {t : T} {v : Value}, Rep V t v → (v == .none) = t.isNone
  | .none, _, r => by rw [show _ = Value.none from r]; rfl
  | .bool _, _, r => by rw [show _ = Value.bool _ from r]; rfl
  | .int _, _, r => by obtain ⟨t, rfl⟩ := r; rfl
  | .str _, _, r => by obtain ⟨t, rfl⟩ := r; rfl
  | .fn _, _, r => by rw [show _ = Value.ref _ from r]; rfl
  | .tup _, _, r => by obtain ⟨a, vs, n, rfl, _⟩ := r; rfl
  | .list _, _, r => by obtain ⟨a, vs, n, rfl, _⟩ := r; rfl
  | .range _ _ _, _, r => by obtain ⟨a, t, u, x, rfl, _⟩ := r; rfl
  | .rests _ _ _ _, _, r => by obtain ⟨x, _, _, _, _, _, _, _, _, _, _, _, _, rfl, _⟩ := r; rfl
theorem Cmp.isNone {a : T} : Cmp B bx n .Is a .none a.isNone := fun A X st s Q v w _ _ S rv rw q => by
  rw [show w = Value.none from rw]
  refine is_none ?_
  rw [rv.isNone]
  exact q s.heap s.toks Ext.refl S
theorem Cmp.isNotNone {a : T} : Cmp B bx n .IsNot a .none (!a.isNone) := fun A X st s Q v w _ _ S rv rw q => by
  rw [show w = Value.none from rw]
  refine isNot_none ?_
  rw [rv.isNone]
  exact q s.heap s.toks Ext.refl S

mutual
noncomputable def T.py : T → Option PyData
  | .none => some .none
  | .bool b => some (.bool b)
  | .int i => some (.int i)
  | .str s => some (.str s)
  | .tup ts => (T.pys ts).map .tuple
  | .list ts => (T.pys ts).map .list
  | _ => Option.none
noncomputable def T.pys : List T → Option (List PyData)
  | [] => some []
  | t :: r => match T.py t, T.pys r with
    | some d, some ds => some (d :: ds)
    | _, _ => Option.none
end
mutual
theorem Rep.reads {X : Addr → Prop} {h : Heap} : ∀ {t : T} {v : Value} {d : PyData}, Rep (vis X h) t v → t.py = some d → ∃ as, Reads h v d as
  | .none, _, _, r, e => by cases e; rw [show _ = Value.none from r]; exact ⟨_, .none⟩
  | .bool b, _, _, r, e => by cases e; rw [show _ = Value.bool _ from r]; exact ⟨_, .bool b⟩
  | .int _, _, _, r, e => by cases e; obtain ⟨t, rfl⟩ := r; exact ⟨_, .int _ _⟩
  | .str _, _, _, r, e => by cases e; obtain ⟨t, rfl⟩ := r; exact ⟨_, .str _ _⟩
  | .tup ts, _, _, r, e => by
    obtain ⟨a, vs, n, rfl, q, r⟩ := r
    simp only [T.py, Option.map_eq_some_iff] at e
    obtain ⟨ds, e, rfl⟩ := e
    obtain ⟨as, R⟩ := RepAll.reads r e
    exact ⟨_, .tuple q.2 rfl rfl (by simpa using R)⟩
  | .list ts, _, _, r, e => by
    obtain ⟨a, vs, n, rfl, q, r⟩ := r
    simp only [T.py, Option.map_eq_some_iff] at e
    obtain ⟨ds, e, rfl⟩ := e
    obtain ⟨as, R⟩ := RepAll.reads r e
    exact ⟨_, .list q.2 rfl rfl (by simpa using R)⟩
  | .fn _, _, _, _, e => by simp [T.py] at e
  | .range _ _ _, _, _, _, e => by simp [T.py] at e
  | .rests _ _ _ _, _, _, _, e => by simp [T.py] at e
theorem RepAll.reads {X : Addr → Prop} {h : Heap} : ∀ {t : List T} {v : List Value} {d : List PyData}, RepAll (vis X h) t v → T.pys t = some d → ∃ as, ReadsAll h v d as
  | [], _, _, r, e => by cases e; rw [show _ = [] from r]; exact ⟨_, .nil⟩
  | t :: ts, _, _, r, e => by
    obtain ⟨v, vs, rfl, q, r⟩ := r
    simp only [T.pys] at e
    split at e
    · cases e
      rename_i d ds e1 e2
      obtain ⟨as, R⟩ := Rep.reads q e1
      obtain ⟨bs, R'⟩ := RepAll.reads r e2
      exact ⟨_, .cons R R'⟩
    · cases e
end

theorem Cmp.eqD {a b : T} {da db : PyData} (ha : a.py = some da) (hb : b.py = some db) (sa : SeqAt.shaped da = true) (sb : SeqAt.shaped db = true) : Cmp B bx n .Eq a b (PyData.eqv da db) := fun A X st s Q v w rm _ S rv rw q => by
  obtain ⟨as, ra⟩ := rv.reads ha
  obtain ⟨bs, rb⟩ := rw.reads hb
  exact eq_dataH ra rb sa sb (by have := rm.2.2; omega) (q s.heap s.toks Ext.refl S)
theorem Cmp.neD {a b : T} {da db : PyData} (ha : a.py = some da) (hb : b.py = some db) (sa : SeqAt.shaped da = true) (sb : SeqAt.shaped db = true) : Cmp B bx n .NotEq a b (!PyData.eqv da db) := fun A X st s Q v w rm _ S rv rw q => by
  obtain ⟨as, ra⟩ := rv.reads ha
  obtain ⟨bs, rb⟩ := rw.reads hb
  exact ne_dataH ra rb sa sb (by have := rm.2.2; omega) (q s.heap s.toks Ext.refl S)
theorem Cmp.inList {a : T} {bs : List T} {d : PyData} {xs : List PyData} (ha : a.py = some d) (hb : T.pys bs = some xs) (sa : SeqAt.shaped d = true) (sb : SeqAt.shaped (.list xs) = true) : Cmp B bx n .In a (.list bs) (xs.any fun y => PyData.eqv y d) := fun A X st s Q v w rm _ S rv rw q => by
  obtain ⟨as, ra⟩ := rv.reads ha
  obtain ⟨bs, rb⟩ := rw.reads (d := .list xs) (by simp [T.py, hb])
  exact SeqAt.in_list_reads rb ra (SeqAt.canLay_of_shaped sb) (SeqAt.canLay_of_shaped sa) (room_in_shaped sa (by have := rm.2.2; omega)) (q s.heap s.toks Ext.refl S)
theorem Cmp.notInList {a : T} {bs : List T} {d : PyData} {xs : List PyData} (ha : a.py = some d) (hb : T.pys bs = some xs) (sa : SeqAt.shaped d = true) (sb : SeqAt.shaped (.list xs) = true) : Cmp B bx n .NotIn a (.list bs) (!xs.any fun y => PyData.eqv y d) := fun A X st s Q v w rm _ S rv rw q => by
  obtain ⟨as, ra⟩ := rv.reads ha
  obtain ⟨bs, rb⟩ := rw.reads (d := .list xs) (by simp [T.py, hb])
  exact SeqAt.notIn_list_reads rb ra (SeqAt.canLay_of_shaped sb) (SeqAt.canLay_of_shaped sa) (room_in_shaped sa (by have := rm.2.2; omega)) (q s.heap s.toks Ext.refl S)

theorem Tr.bool {e : Expr} {b : Bool} (h : Ev B bx n sc ρ st e (.bool b) st₁) (he : ∀ env whole, isTrue e env whole = (do let v ← whole; standAt e.pos; holding [v] (truthy v)) := by intro _ _; rfl) : Tr B bx n sc ρ st e b st₁ := fun A X env s Q rm F S q => by
  refine wpAny_isTrue_value (h A X env s _ rm F S fun v h₁ tk₁ x₁ S₁ rv => ?_) (he _ _)
  rw [show v = Value.bool b from rv]
  exact wpAny_truthy_bool (q _ _ x₁ S₁)
theorem Tr.not {e : Expr} {b : Bool} {p : Pos} (h : Tr B bx n sc ρ st e b st₁) : Tr B bx n sc ρ st (.UnaryOp .Not e p) (!b) st₁ := fun A X env s Q rm F S q =>
  wpAny_isTrue_Not (h A X env s _ rm F S q)
noncomputable def Trs (B : Bg) (bx : Bx) (n : Nat) (sc : Scope) (ρ : REnv) (st : BSt) (op : BoolOp) (es : List Expr) (b : Bool) (st' : BSt) : Prop :=
  ∀ A X env s (Q : Bool → Shared → Prop), Room A n → EOK B X bx sc env ρ s.heap → BoxOK X bx s.heap st →
    (∀ h' tk, Ext bx s.heap h' → BoxOK X bx h' st' → Q b { s with heap := h', toks := tk }) → wpAny (model B.prog B.w) A (allTrue op es env) Q (fun _ _ => False) s
theorem Tr.ops {op : BoolOp} {es : List Expr} {p : Pos} {b : Bool} (h : Trs B bx n sc ρ st op es b st₁) : Tr B bx n sc ρ st (.BoolOp op es p) b st₁ := fun A X env s Q rm F S q =>
  wpAny_isTrue_BoolOp (h A X env s _ rm F S q)
theorem Trs.and_nil : Trs B bx n sc ρ st .And [] true st := fun _ _ _ s _ _ _ S q => wpAny_allTrue_And_nil (q s.heap s.toks Ext.refl S)
theorem Trs.or_nil : Trs B bx n sc ρ st .Or [] false st := fun _ _ _ s _ _ _ S q => wpAny_allTrue_Or_nil (q s.heap s.toks Ext.refl S)
theorem Trs.and_true {e : Expr} {es : List Expr} {b : Bool} (h : Tr B bx n sc ρ st e true st₁) (h' : Trs B bx n sc ρ st₁ .And es b st₂) : Trs B bx n sc ρ st .And (e :: es) b st₂ := fun A X env s Q rm F S q =>
  wpAny_allTrue_And_cons (h A X env s _ rm F S fun h₁ tk₁ x₁ S₁ => h' A X env _ _ rm (F.keeps x₁ S₁) S₁ fun h₂ tk₂ x₂ S₂ => q h₂ tk₂ (x₁.trans x₂) S₂)
theorem Trs.and_false {e : Expr} {es : List Expr} (h : Tr B bx n sc ρ st e false st₁) : Trs B bx n sc ρ st .And (e :: es) false st₁ := fun A X env s Q rm F S q =>
  wpAny_allTrue_And_cons (h A X env s _ rm F S fun h₁ tk₁ x₁ S₁ => q h₁ tk₁ x₁ S₁)
theorem Trs.or_true {e : Expr} {es : List Expr} (h : Tr B bx n sc ρ st e true st₁) : Trs B bx n sc ρ st .Or (e :: es) true st₁ := fun A X env s Q rm F S q =>
  wpAny_allTrue_Or_cons (h A X env s _ rm F S fun h₁ tk₁ x₁ S₁ => q h₁ tk₁ x₁ S₁)
theorem Trs.or_false {e : Expr} {es : List Expr} {b : Bool} (h : Tr B bx n sc ρ st e false st₁) (h' : Trs B bx n sc ρ st₁ .Or es b st₂) : Trs B bx n sc ρ st .Or (e :: es) b st₂ := fun A X env s Q rm F S q =>
  wpAny_allTrue_Or_cons (h A X env s _ rm F S fun h₁ tk₁ x₁ S₁ => h' A X env _ _ rm (F.keeps x₁ S₁) S₁ fun h₂ tk₂ x₂ S₂ => q h₂ tk₂ (x₁.trans x₂) S₂)

theorem Ev.if_true {c a b : Expr} {p : Pos} {t : T} (h : Tr B bx n sc ρ st c true st₁) (h' : Ev B bx n sc ρ st₁ a t st₂) : Ev B bx n sc ρ st (.IfExp c a b p) t st₂ := fun A X env s Q rm F S q =>
  wpAny_IfExp (h A X env s _ rm F S fun h₁ tk₁ x₁ S₁ => h' A X env _ _ rm (F.keeps x₁ S₁) S₁ fun v h₂ tk₂ x₂ S₂ => q v h₂ tk₂ (x₁.trans x₂) S₂)
theorem Ev.if_false {c a b : Expr} {p : Pos} {t : T} (h : Tr B bx n sc ρ st c false st₁) (h' : Ev B bx n sc ρ st₁ b t st₂) : Ev B bx n sc ρ st (.IfExp c a b p) t st₂ := fun A X env s Q rm F S q =>
  wpAny_IfExp (h A X env s _ rm F S fun h₁ tk₁ x₁ S₁ => h' A X env _ _ rm (F.keeps x₁ S₁) S₁ fun v h₂ tk₂ x₂ S₂ => q v h₂ tk₂ (x₁.trans x₂) S₂)
theorem Ev.and2_true {a b : Expr} {p : Pos} {t : T} (h : Ev B bx n sc ρ st a (.bool true) st₁) (h' : Ev B bx n sc ρ st₁ b t st₂) : Ev B bx n sc ρ st (.BoolOp .And [a, b] p) t st₂ := fun A X env s Q rm F S q =>
  wpAny_And2 (h A X env s _ rm F S fun v h₁ tk₁ x₁ S₁ rv => by
    rw [show v = Value.bool true from rv]
    exact wpAny_truthy_bool (h' A X env _ _ rm (F.keeps x₁ S₁) S₁ fun v h₂ tk₂ x₂ S₂ => q v h₂ tk₂ (x₁.trans x₂) S₂))
theorem Ev.and2_false {a b : Expr} {p : Pos} (h : Ev B bx n sc ρ st a (.bool false) st₁) : Ev B bx n sc ρ st (.BoolOp .And [a, b] p) (.bool false) st₁ := fun A X env s Q rm F S q =>
  wpAny_And2 (h A X env s _ rm F S fun v h₁ tk₁ x₁ S₁ rv => by
    rw [show v = Value.bool false from rv]
    exact wpAny_truthy_bool (q _ h₁ tk₁ x₁ S₁ rfl))
theorem Ev.or2_true {a b : Expr} {p : Pos} (h : Ev B bx n sc ρ st a (.bool true) st₁) : Ev B bx n sc ρ st (.BoolOp .Or [a, b] p) (.bool true) st₁ := fun A X env s Q rm F S q =>
  wpAny_Or2 (h A X env s _ rm F S fun v h₁ tk₁ x₁ S₁ rv => by
    rw [show v = Value.bool true from rv]
    exact wpAny_truthy_bool (q _ h₁ tk₁ x₁ S₁ rfl))
theorem Ev.or2_false {a b : Expr} {p : Pos} {t : T} (h : Ev B bx n sc ρ st a (.bool false) st₁) (h' : Ev B bx n sc ρ st₁ b t st₂) : Ev B bx n sc ρ st (.BoolOp .Or [a, b] p) t st₂ := fun A X env s Q rm F S q =>
  wpAny_Or2 (h A X env s _ rm F S fun v h₁ tk₁ x₁ S₁ rv => by
    rw [show v = Value.bool false from rv]
    exact wpAny_truthy_bool (h' A X env _ _ rm (F.keeps x₁ S₁) S₁ fun v h₂ tk₂ x₂ S₂ => q v h₂ tk₂ (x₁.trans x₂) S₂))
end
end Mine
namespace Mine
open PySem PySem.W PyProof.Rows
set_option autoImplicit true

/-- the facts of the class of rests, read off the written part -/
structure RestsCls (K : Frag) : Prop where
  get : ∀ name, plainGet K 133 name = true
  hasDict : hasDictIn K 133 = true
  n : findIn K (.ref 133) "n" = some none
  w : findIn K (.ref 133) "w" = some none
  p : findIn K (.ref 133) "given_product" = some none
  q : findIn K (.ref 133) "given_parts" = some none

section
variable {B : Bg} {bx : Bx} {n : Nat} {sc : Scope} {ρ : REnv} {st st₁ st₂ st₃ : BSt}

theorem BgIn.kin {X : Addr → Prop} {h : Heap} (G : BgIn B X h) : B.K.In h := fun a o e => (G.bg a o (B.kin a o e)).2

theorem isList_of {X : Addr → Prop} {h : Heap} {a : Addr} {vs : List Value} {k : Nat} (q : vis X h a (listObj vs k)) : h.IsList a vs.toArray := ⟨_, q.2, rfl, _, rfl⟩
theorem isTup_of {X : Addr → Prop} {h : Heap} {a : Addr} {vs : List Value} {k : Nat} (q : vis X h a (tupObj vs k)) : IsTup h a vs.toArray := ⟨_, q.2, rfl, _, rfl⟩

/-- an item of a list or of a tuple -/
theorem Ev.item {e i : Expr} {p : Pos} {ts : List T} {k : Int} {t : T} (h : Ev B bx n sc ρ st e (.list ts) st₁) (h' : Ev B bx n sc ρ st₁ i (.int k) st₂) (h0 : 0 ≤ k) (hk : ts[k.toNat]? = some t)
    (hz : ts.length ≤ 2 ^ 24) (hs : ∀ o j, subscripted i false o j = operate [o, j] (getItem o j) := by intro _ _; with_unfolding_all rfl) :
    Ev B bx n sc ρ st (.Subscript e i p) t st₂ := fun A X env s Q rm F S q => by
  refine Subscript_ (h A X env s _ rm F S fun v h₁ tk₁ x₁ S₁ rv => ?_)
  refine h' A X env _ _ rm (F.keeps x₁ S₁) S₁ fun u h₂ tk₂ x₂ S₂ ru => ?_
  obtain ⟨a, vs, m, rfl, qa, rs⟩ := rv.mono (vis_ext (fun _ i => inBox_X S₁ i) x₂)
  obtain ⟨tu, rfl⟩ := ru
  obtain ⟨x, hx, rx⟩ := rs.get hk
  have hl : ({ s with heap := h₂, toks := tk₂ } : Shared).heap.IsList a vs.toArray := isList_of qa
  refine tail_any hl.typeIs slot_list_getitem.lookup (wpAny_getItem_list hl h0 ?_ (by simpa using hx) (q x h₂ tk₂ (x₁.trans x₂) S₂ rx)) (hs _ _)
  have : k.toNat < ts.length := by
    rcases Nat.lt_or_ge k.toNat ts.length with g | g
    · exact g
    · rw [List.getElem?_eq_none g] at hk; cases hk
  omega
theorem Ev.titem {e i : Expr} {p : Pos} {ts : List T} {k : Int} {t : T} (h : Ev B bx n sc ρ st e (.tup ts) st₁) (h' : Ev B bx n sc ρ st₁ i (.int k) st₂) (h0 : 0 ≤ k) (hk : ts[k.toNat]? = some t)
    (hz : ts.length ≤ 2 ^ 24 := by (try simp only [List.length_cons, List.length_nil]); decide) (hs : ∀ o j, subscripted i false o j = operate [o, j] (getItem o j) := by intro _ _; with_unfolding_all rfl) :
    Ev B bx n sc ρ st (.Subscript e i p) t st₂ := fun A X env s Q rm F S q => by
  refine Subscript_ (h A X env s _ rm F S fun v h₁ tk₁ x₁ S₁ rv => ?_)
  refine h' A X env _ _ rm (F.keeps x₁ S₁) S₁ fun u h₂ tk₂ x₂ S₂ ru => ?_
  obtain ⟨a, vs, m, rfl, qa, rs⟩ := rv.mono (vis_ext (fun _ i => inBox_X S₁ i) x₂)
  obtain ⟨tu, rfl⟩ := ru
  obtain ⟨x, hx, rx⟩ := rs.get hk
  have hlt : k.toNat < ts.length := by
    rcases Nat.lt_or_ge k.toNat ts.length with g | g
    · exact g
    · rw [List.getElem?_eq_none g] at hk; cases hk
  have hln := rs.length
  exact item_tupleT (j := k.toNat) (isTup_of qa) (by omega) (by omega) (by
    unfold seqIndex?
    have e1 : ¬ k < 0 := by omega
    have e2 : 0 ≤ k ∧ k < (vs.length : Int) := by rw [hln]; omega
    simp [e1, e2]) hx (q x h₂ tk₂ (x₁.trans x₂) S₂ rx) (hs _ _)

theorem slice_upper {M : Model} {A : Around} {E : Value → Shared → Prop} {s : Shared} {env : Env} {u : Expr} {p : Pos} {Q : Value → Shared → Prop}
    (h : wpAny M A (eval u env) (fun v s₃ => Q (.ref s₃.heap.objs.size) { s₃ with heap := s₃.heap.push { cls := .type "slice", data := .fields #[.none, v, .none] } }) E s) : wpAny M A (eval (.Slice none (some u) none p) env) Q E s := by
  refine wpAny_Slice ?_
  rw [evalPart_none]
  refine wpAny_pure ?_
  rw [evalPart_some]
  exact wpAny_mono h (fun v s₃ h₃ => wpAny_pure h₃) fun _ _ x => x
theorem slice_step {M : Model} {A : Around} {E : Value → Shared → Prop} {s : Shared} {env : Env} {u : Expr} {p : Pos} {Q : Value → Shared → Prop}
    (h : wpAny M A (eval u env) (fun v s₃ => Q (.ref s₃.heap.objs.size) { s₃ with heap := s₃.heap.push { cls := .type "slice", data := .fields #[.none, .none, v] } }) E s) : wpAny M A (eval (.Slice none none (some u) p) env) Q E s := by
  refine wpAny_Slice ?_
  rw [evalPart_none]
  refine wpAny_pure (wpAny_pure ?_)
  rw [evalPart_some]
  exact h

/-- a list cut at an upper end -/
theorem Ev.upto {e u : Expr} {p p' : Pos} {ts : List T} {k : Int} (h : Ev B bx n sc ρ st e (.list ts) st₁) (h' : Ev B bx n sc ρ st₁ u (.int k) st₂) (h0 : 0 ≤ k) (hz : ts.length ≤ sizeLine) :
    Ev B bx n sc ρ st (.Subscript e (.Slice none (some u) none p') p) (.list (ts.take k.toNat)) st₂ := fun A X env s Q rm F S q => by
  refine Subscript_ (h A X env s _ rm F S fun v h₁ tk₁ x₁ S₁ rv => ?_)
  refine slice_upper (h' A X env _ _ rm (F.keeps x₁ S₁) S₁ fun u h₂ tk₂ x₂ S₂ ru => ?_)
  obtain ⟨a, vs, m, rfl, qa, rs⟩ := rv.mono (vis_ext (fun _ i => inBox_X S₁ i) x₂)
  obtain ⟨tu, rfl⟩ := ru
  have F₂ := (F.keeps x₁ S₁).keeps x₂ S₂
  have hl := isList_of qa
  have hl' : (h₂.push { cls := .type "slice", data := .fields #[.none, .int k tu, .none] }).IsList a vs.toArray := hl.push _
  refine tail_any (ops := [.ref h₂.objs.size, .ref a]) (Heap.IsList.typeIs (s := { s with heap := h₂.push { cls := .type "slice", data := .fields #[.none, .int k tu, .none] }, toks := tk₂ }) hl') slot_list_getitem.lookup
    (wpAny_getItem_list_slice hl' (Heap.IsSliceOf.new ..) .none (.int k tu) .none (by simp) ?_ (by rw [List.size_toArray, rs.length]; exact hz)) (by with_unfolding_all rfl)
  have e : slicePick vs.toArray none (some k) none = (vs.take k.toNat).toArray := by
    conv => lhs; rw [show k = (k.toNat : Int) by omega]
    exact slicePick_upto' vs.toArray k.toNat
  have k1 := pushed_keeps (h := h₂) { cls := .type "slice", data := .fields #[.none, .int k tu, .none] }
  refine q _ _ tk₂ ((x₁.trans x₂).trans (Ext.of_stays fun b o e => pushed_keeps _ _ _ (k1 b o e))) (S₂.keeps fun b o e => pushed_keeps _ _ _ (k1 b o e)) ⟨_, vs.take k.toNat, 0, rfl, ⟨?_, ?_⟩, (rs.take _).mono (vis_keeps fun b o e => pushed_keeps _ _ _ (k1 b o e))⟩
  · exact (F₂.bg.keeps (Ext.of_stays k1) (S₂.keeps k1)).next
  · show (Heap.push _ _).get? _ = _
    rw [e]
    exact Heap.get?_push_size _ rfl

/-- a list the other way round: row[::0 - 1] -/
theorem Ev.reversed {e u : Expr} {p p' : Pos} {ts : List T} (h : Ev B bx n sc ρ st e (.list ts) st₁) (h' : Ev B bx n sc ρ st₁ u (.int (-1)) st₂) (hz : ts.length ≤ sizeLine) :
    Ev B bx n sc ρ st (.Subscript e (.Slice none none (some u) p') p) (.list ts.reverse) st₂ := fun A X env s Q rm F S q => by
  refine Subscript_ (h A X env s _ rm F S fun v h₁ tk₁ x₁ S₁ rv => ?_)
  refine slice_step (h' A X env _ _ rm (F.keeps x₁ S₁) S₁ fun u h₂ tk₂ x₂ S₂ ru => ?_)
  obtain ⟨a, vs, m, rfl, qa, rs⟩ := rv.mono (vis_ext (fun _ i => inBox_X S₁ i) x₂)
  obtain ⟨tu, rfl⟩ := ru
  have F₂ := (F.keeps x₁ S₁).keeps x₂ S₂
  have hl := isList_of qa
  have hl' : (h₂.push { cls := .type "slice", data := .fields #[.none, .none, .int (-1) tu] }).IsList a vs.toArray := hl.push _
  refine tail_any (ops := [.ref a, .ref h₂.objs.size]) (Heap.IsList.typeIs (s := { s with heap := h₂.push { cls := .type "slice", data := .fields #[.none, .none, .int (-1) tu] }, toks := tk₂ }) hl') slot_list_getitem.lookup
    (wpAny_getItem_list_slice hl' (Heap.IsSliceOf.new ..) .none .none (.int (-1) tu) (by decide) ?_ (by rw [List.size_toArray, rs.length]; exact hz)) (by with_unfolding_all rfl)
  have e := krv_pick vs.toArray
  have k1 := pushed_keeps (h := h₂) { cls := .type "slice", data := .fields #[.none, .none, .int (-1) tu] }
  refine q _ _ tk₂ ((x₁.trans x₂).trans (Ext.of_stays fun b o e => pushed_keeps _ _ _ (k1 b o e))) (S₂.keeps fun b o e => pushed_keeps _ _ _ (k1 b o e)) ⟨_, vs.reverse, 0, rfl, ⟨?_, ?_⟩, rs.reverse.mono (vis_keeps fun b o e => pushed_keeps _ _ _ (k1 b o e))⟩
  · exact (F₂.bg.keeps (Ext.of_stays k1) (S₂.keeps k1)).next
  · show (Heap.push _ _).get? _ = _
    rw [e]
    exact Heap.get?_push_size _ rfl

/-- the attributes of a rests object -/
theorem attr_of (R : RestsCls B.K) {A : Around} {X : Addr → Prop} {s : Shared} {nt : T} {wi : Int} {f g : Addr} {v : Value} {name : Str} {t : T} {Q : Value → Shared → Prop} (G : BgIn B X s.heap)
    (rv : Rep (vis X s.heap) (.rests nt wi f g) v)
    (hf : findIn B.K (.ref 133) name = some none)
    (ha : ∀ h₁ h₂ h₃ h₄ t₁ t₂ t₃ t₄ vn t₀, ∃ u, getL name [⟨h₁, .str "n" t₁, vn⟩, ⟨h₂, .str "w" t₂, .int wi t₀⟩, ⟨h₃, .str "given_product" t₃, .ref f⟩, ⟨h₄, .str "given_parts" t₄, .ref g⟩] = some (some u) ∧ (Rep (vis X s.heap) nt vn → Rep (vis X s.heap) t u ∧ handedIn u = true))
    (q : ∀ u tk, Rep (vis X s.heap) t u → Q u { s with toks := tk }) : wpAny (model B.prog B.w) A (getAttr v name true) Q (fun _ _ => False) s := by
  obtain ⟨x, dx, vn, t₀, h₁, h₂, h₃, h₄, t₁, t₂, t₃, t₄, k, rfl, e1, e2, rn⟩ := rv
  obtain ⟨u, eu, hu⟩ := ha h₁ h₂ h₃ h₄ t₁ t₂ t₃ t₄ vn t₀
  obtain ⟨ru, hh⟩ := hu rn
  exact get_value G.kin (C := 133) (od := some (dictOf _ k)) ⟨e1.2, rfl, rfl, e2.2⟩ (plainGet_of (R.get name)).1 (findObj_own R.hasDict hf rfl (by rw [lookIn_dict]; exact eu)) hh (q u _ ru)

noncomputable def handedT : T → Bool
  | .rests .. => true
  | _ => true
theorem Rep.handed {V : Vis} : ∀ {t : T} {v : Value}, Rep V t v → handedIn v = true
  | .none, _, r => by rw [show _ = Value.none from r]; rfl
  | .bool _, _, r => by rw [show _ = Value.bool _ from r]; rfl
  | .int _, _, r => by obtain ⟨t, rfl⟩ := r; rfl
  | .str _, _, r => by obtain ⟨t, rfl⟩ := r; rfl
  | .fn _, _, r => by rw [show _ = Value.ref _ from r]; rfl
  | .tup _, _, r => by obtain ⟨a, vs, n, rfl, _⟩ := r; rfl
  | .list _, _, r => by obtain ⟨a, vs, n, rfl, _⟩ := r; rfl
  | .range _ _ _, _, r => by obtain ⟨a, t, u, x, rfl, _⟩ := r; rfl
  | .rests _ _ _ _, _, r => by obtain ⟨x, _, _, _, _, _, _, _, _, _, _, _, _, rfl, _⟩ := r; rfl

theorem Ev.attr {e : Expr} {name : Str} {p : Pos} {nt t : T} {wi : Int} {f g : Addr} (h : Ev B bx n sc ρ st e (.rests nt wi f g) st₁) (R : RestsCls B.K) (hf : findIn B.K (.ref 133) name = some none)
    (ha : ∀ (V : Vis) h₁ h₂ h₃ h₄ t₁ t₂ t₃ t₄ vn t₀, ∃ u, getL name [⟨h₁, .str "n" t₁, vn⟩, ⟨h₂, .str "w" t₂, .int wi t₀⟩, ⟨h₃, .str "given_product" t₃, .ref f⟩, ⟨h₄, .str "given_parts" t₄, .ref g⟩] = some (some u) ∧ (Rep V nt vn → Rep V t u))
    (he : ∀ env, eval (.Attribute e name p) env = (do
      let o ← eval e env
      standAt p.atName
      let r ← holding [o] (getAttr o name true)
      letTemporaryGo e o r
      pure r) := by intro _; with_unfolding_all rfl) : Ev B bx n sc ρ st (.Attribute e name p) t st₁ := fun A X env s Q rm F S q => by
  refine Attribute_any_ (h A X env s _ rm F S fun v h₁ tk₁ x₁ S₁ rv => ?_) (he env)
  refine attr_of R (F.keeps x₁ S₁).bg rv hf (t := t) (fun a1 a2 a3 a4 b1 b2 b3 b4 vn t0 => ?_) fun u tk ru => q u h₁ tk x₁ S₁ ru
  obtain ⟨u, e1, e2⟩ := ha (vis X h₁) a1 a2 a3 a4 b1 b2 b3 b4 vn t0
  exact ⟨u, e1, fun r => ⟨e2 r, (e2 r).handed⟩⟩
theorem Ev.attr_n {e : Expr} {p : Pos} {nt : T} {wi : Int} {f g : Addr} (h : Ev B bx n sc ρ st e (.rests nt wi f g) st₁) (R : RestsCls B.K)
    (he : ∀ env, eval (.Attribute e "n" p) env = (do
      let o ← eval e env
      standAt p.atName
      let r ← holding [o] (getAttr o "n" true)
      letTemporaryGo e o r
      pure r) := by intro _; with_unfolding_all rfl) : Ev B bx n sc ρ st (.Attribute e "n" p) nt st₁ :=
  Ev.attr h R R.n (fun V a1 a2 a3 a4 b1 b2 b3 b4 vn t0 => ⟨vn, by kernel_rfl, id⟩) he
theorem Ev.attr_w {e : Expr} {p : Pos} {nt : T} {wi : Int} {f g : Addr} (h : Ev B bx n sc ρ st e (.rests nt wi f g) st₁) (R : RestsCls B.K)
    (he : ∀ env, eval (.Attribute e "w" p) env = (do
      let o ← eval e env
      standAt p.atName
      let r ← holding [o] (getAttr o "w" true)
      letTemporaryGo e o r
      pure r) := by intro _; with_unfolding_all rfl) : Ev B bx n sc ρ st (.Attribute e "w" p) (.int wi) st₁ :=
  Ev.attr h R R.w (fun V a1 a2 a3 a4 b1 b2 b3 b4 vn t0 => ⟨.int wi t0, by kernel_rfl, fun _ => ⟨_, rfl⟩⟩) he
theorem Ev.attr_p {e : Expr} {p : Pos} {nt : T} {wi : Int} {f g : Addr} (h : Ev B bx n sc ρ st e (.rests nt wi f g) st₁) (R : RestsCls B.K)
    (he : ∀ env, eval (.Attribute e "given_product" p) env = (do
      let o ← eval e env
      standAt p.atName
      let r ← holding [o] (getAttr o "given_product" true)
      letTemporaryGo e o r
      pure r) := by intro _; with_unfolding_all rfl) : Ev B bx n sc ρ st (.Attribute e "given_product" p) (.fn f) st₁ :=
  Ev.attr h R R.p (fun V a1 a2 a3 a4 b1 b2 b3 b4 vn t0 => ⟨.ref f, by kernel_rfl, fun _ => rfl⟩) he
theorem Ev.attr_q {e : Expr} {p : Pos} {nt : T} {wi : Int} {f g : Addr} (h : Ev B bx n sc ρ st e (.rests nt wi f g) st₁) (R : RestsCls B.K)
    (he : ∀ env, eval (.Attribute e "given_parts" p) env = (do
      let o ← eval e env
      standAt p.atName
      let r ← holding [o] (getAttr o "given_parts" true)
      letTemporaryGo e o r
      pure r) := by intro _; with_unfolding_all rfl) : Ev B bx n sc ρ st (.Attribute e "given_parts" p) (.fn g) st₁ :=
  Ev.attr h R R.q (fun V a1 a2 a3 a4 b1 b2 b3 b4 vn t0 => ⟨.ref g, by kernel_rfl, fun _ => rfl⟩) he

/-- a call of a def that a name (or another expression) gives -/
theorem Ev.callF {fe e : Expr} {es : List Expr} {p : Pos} {a : Addr} {t : T} {ts : List T} (h : Ev B bx (n + 1) sc ρ st fe (.fn a) st₁) (hk : keepIn B.K (.ref a) = true) (hs : Evs B bx (n + 1) sc ρ st₁ (e :: es) ts st₂) (hc : Calls B bx (n + 1) a ts st₂ t st₃)
    (he : ∀ env, eval (.Call fe (e :: es) [] p) env = (do callWith p (← eval fe env) [] (backTo p (starEach (e :: es) env)) (backToKw p (keywordEach [] env))) := by intro _; rfl)
    (hp : ∀ env, starEach (e :: es) env = (false, eval e env) :: starEach es env := by intro _; rfl)
    (hq : ∀ env, (backTo p (starEach es env)).any (·.1) = false := by intro _; rfl) :
    Ev B bx (n + 1) sc ρ st (.Call fe (e :: es) [] p) t st₃ := fun A X env s Q rm F S q => by
  refine Call_ (h A X env s _ rm F S fun v h₁ tk₁ x₁ S₁ rv => ?_) (he env)
  rw [show v = Value.ref a from rv]
  refine callWith_K (h₀ := B.g) B.kin hk ?_ (hp env) (hq env)
  refine hs A X env _ _ _ rm (F.keeps x₁ S₁) S₁ fun vs h₂ tk₂ x₂ S₂ rs => ?_
  have F₂ := ((F.keeps x₁ S₁).keeps x₂ S₂).bg
  exact ⟨F₂.kin, hc A X _ _ _ rm F₂ S₂ rs fun v h₃ tk₃ x₃ S₃ rv => q v h₃ tk₃ ((x₁.trans x₂).trans x₃) S₃ rv⟩
theorem Ev.callF0 {fe : Expr} {p : Pos} {a : Addr} {t : T} (h : Ev B bx (n + 1) sc ρ st fe (.fn a) st₁) (hk : keepIn B.K (.ref a) = true) (hc : Calls B bx (n + 1) a [] st₁ t st₃)
    (he : ∀ env, eval (.Call fe [] [] p) env = (do callWith p (← eval fe env) [] (backTo p (starEach [] env)) (backToKw p (keywordEach [] env))) := by intro _; rfl) :
    Ev B bx (n + 1) sc ρ st (.Call fe [] [] p) t st₃ := fun A X env s Q rm F S q => by
  refine Call_ (h A X env s _ rm F S fun v h₁ tk₁ x₁ S₁ rv => ?_) (he env)
  rw [show v = Value.ref a from rv]
  have F₁ := (F.keeps x₁ S₁).bg
  exact callWith_K0 F₁.kin hk (hc A X _ _ _ rm F₁ S₁ rfl fun v h₃ tk₃ x₃ S₃ rv => q v h₃ tk₃ (x₁.trans x₃) S₃ rv)

/-- a call of a method of a rests object -/
theorem Ev.meth {oe e : Expr} {name : Str} {es : List Expr} {ap p : Pos} {a : Addr} {nt t : T} {wi : Int} {f g : Addr} {ts : List T} (h : Ev B bx (n + 1) sc ρ st oe (.rests nt wi f g) st₁) (R : RestsCls B.K)
    (hf : findIn B.K (.ref 133) name = some (some (.ref a))) (ht : isFn B.K (.ref a) = true) (hk : keepIn B.K (.ref a) = true)
    (hn : ∀ h₁ h₂ h₃ h₄ t₁ t₂ t₃ t₄ vn t₀, getL name [⟨h₁, .str "n" t₁, vn⟩, ⟨h₂, .str "w" t₂, .int wi t₀⟩, ⟨h₃, .str "given_product" t₃, .ref f⟩, ⟨h₄, .str "given_parts" t₄, .ref g⟩] = some none)
    (hs : Evs B bx (n + 1) sc ρ st₁ (e :: es) ts st₂) (hc : Calls B bx (n + 1) a (.rests nt wi f g :: ts) st₂ t st₃)
    {pl : Env → Sem Bool} (he : ∀ env, eval (.Call (.Attribute oe name ap) (e :: es) [] p) env = (do
      let ov ← eval oe env
      standAt ap.atName
      let (f, first) ← holding [ov] (getMethod ov name (pl env))
      callWith p f first (backTo p (starEach (e :: es) env)) []))
    (hp : ∀ env, starEach (e :: es) env = (false, eval e env) :: starEach es env := by intro _; rfl)
    (hq : ∀ env, (backTo p (starEach es env)).any (·.1) = false := by intro _; rfl) :
    Ev B bx (n + 1) sc ρ st (.Call (.Attribute oe name ap) (e :: es) [] p) t st₃ := fun A X env s Q rm F S q => by
  refine MethodCall_ (pl := pl env) (h A X env s _ rm F S fun v h₁ tk₁ x₁ S₁ rv => ?_) (he env)
  have F₁ := F.keeps x₁ S₁
  obtain ⟨x, dx, vn, t₀, a1, a2, a3, a4, b1, b2, b3, b4, k, rfl, e1, e2, rn⟩ := id rv
  refine method_fn (C := 133) F₁.bg.kin (od := some (dictOf _ k)) ⟨e1.2, rfl, rfl, e2.2⟩ (plainGet_of (R.get name)).1 (plainGet_of (R.get name)).2 hf (beq_iff_eq.mp ht) (by
    show (lookIn name (dictOf _ k)).map _ = _
    rw [lookIn_dict, hn]; rfl) ?_
  refine callWith_K (h₀ := B.g) B.kin hk ?_ (hp env) (hq env)
  refine hs A X env _ _ _ rm F₁ S₁ fun vs h₂ tk₂ x₂ S₂ rs => ?_
  have F₂ := (F₁.keeps x₂ S₂).bg
  refine ⟨F₂.kin, hc A X _ _ _ rm F₂ S₂ ⟨.ref x, vs, rfl, rv.mono (vis_ext (fun _ i => inBox_X S₁ i) x₂), rs⟩ fun v h₃ tk₃ x₃ S₃ rv => q v h₃ tk₃ ((x₁.trans x₂).trans x₃) S₃ rv⟩

/-- calls of built-ins -/
theorem Ev.builtin1 {x : Str} {np p : Pos} {id : String} {e : Expr} {es : List Expr} {ts : List T} {t : T} (k : sc.names.lookup x = some .globalImplicit)
    (e0 : nsIn B.K mainGlobals x = some none) (hv : bootBuiltins x = some (.builtin id)) (hn : x ≠ "__name__") (hd : (x == ("__debug__" : Str)) = false) (hs : Evs B bx n sc ρ st (e :: es) ts st₁)
    (step : ∀ A X s (Q : Value → Shared → Prop) vs, Room A n → BgIn B X s.heap → BoxOK X bx s.heap st₁ → RepAll (vis X s.heap) ts vs → (∀ v h' tk, Ext bx s.heap h' → BoxOK X bx h' st₁ → Rep (vis X h') t v → Q v { s with heap := h', toks := tk }) →
      wpAny (model B.prog B.w) A (call (.builtin id) vs) Q (fun _ _ => False) s)
    (he : ∀ env, eval (.Call (.Name x np) (e :: es) [] p) env = (do callWith p (← eval (.Name x np) env) [] (backTo p (starEach (e :: es) env)) (backToKw p (keywordEach [] env))) := by intro _; rfl)
    (hp : ∀ env, starEach (e :: es) env = (false, eval e env) :: starEach es env := by intro _; rfl)
    (hq : ∀ env, (backTo p (starEach es env)).any (·.1) = false := by intro _; rfl) : Ev B bx n sc ρ st (.Call (.Name x np) (e :: es) [] p) t st₁ := fun A X env s Q rm F S q => by
  refine Call_ (load_builtin F k e0 hv hn hd ?_) (he env)
  refine callWith_builtin1 ?_ (hp env) (hq env)
  refine hs A X env _ _ _ rm F S fun vs h₂ tk₂ x₂ S₂ rs => ?_
  exact step A X _ _ vs rm (F.keeps x₂ S₂).bg S₂ rs fun v h₃ tk₃ x₃ S₃ rv => q v h₃ tk₃ (x₂.trans x₃) S₃ rv
theorem Ev.type1 {x : Str} {np p : Pos} {id : String} {e : Expr} {es : List Expr} {ts : List T} {t : T} (k : sc.names.lookup x = some .globalImplicit)
    (e0 : nsIn B.K mainGlobals x = some none) (hv : bootBuiltins x = some (.type id)) (hn : x ≠ "__name__") (hd : (x == ("__debug__" : Str)) = false) (hs : Evs B bx n sc ρ st (e :: es) ts st₁)
    (step : ∀ A X s (Q : Value → Shared → Prop) vs, Room A n → BgIn B X s.heap → BoxOK X bx s.heap st₁ → RepAll (vis X s.heap) ts vs → (∀ v h' tk, Ext bx s.heap h' → BoxOK X bx h' st₁ → Rep (vis X h') t v → Q v { s with heap := h', toks := tk }) →
      wpAny (model B.prog B.w) A (PySem.call (.type id) vs) Q (fun _ _ => False) s)
    (he : ∀ env, eval (.Call (.Name x np) (e :: es) [] p) env = (do callWith p (← eval (.Name x np) env) [] (backTo p (starEach (e :: es) env)) (backToKw p (keywordEach [] env))) := by intro _; rfl)
    (hp : ∀ env, starEach (e :: es) env = (false, eval e env) :: starEach es env := by intro _; rfl)
    (hq : ∀ env, (backTo p (starEach es env)).any (·.1) = false := by intro _; rfl) : Ev B bx n sc ρ st (.Call (.Name x np) (e :: es) [] p) t st₁ := fun A X env s Q rm F S q => by
  refine Call_ (load_builtin F k e0 hv hn hd ?_) (he env)
  refine callWith_type1 ?_ (hp env) (hq env)
  refine hs A X env _ _ _ rm F S fun vs h₂ tk₂ x₂ S₂ rs => ?_
  exact step A X _ _ vs rm (F.keeps x₂ S₂).bg S₂ rs fun v h₃ tk₃ x₃ S₃ rv => q v h₃ tk₃ (x₂.trans x₃) S₃ rv

end
end Mine
namespace Mine
open PySem PySem.W PyProof.Rows
set_option autoImplicit true
section
variable {B : Bg} {bx : Bx} {n : Nat} {sc : Scope} {ρ : REnv} {st st₁ st₂ st₃ : BSt}

theorem Ev.len {np p : Pos} {e : Expr} {ts : List T} (h : Ev B bx n sc ρ st e (.list ts) st₁) (k : sc.names.lookup ("len" : Str) = some .globalImplicit) (e0 : nsIn B.K mainGlobals "len" = some none) (hz : ts.length ≤ 2 ^ 24)
    (hp : ∀ env, starEach [e] env = (false, eval e env) :: starEach [] env := by intro _; rfl) : Ev B bx n sc ρ st (.Call (.Name "len" np) [e] [] p) (.int ts.length) st₁ := by
  refine Ev.builtin1 (id := "len") k e0 PyProof.Rows.Boot.«len» (by decide) (by decide) (Evs.cons h Evs.nil hp) ?_ (hp := hp)
  intro A X s Q vs _ _ S rs q
  obtain ⟨v, _, rfl, ⟨a, ws, m, rfl, qa, rw⟩, rfl⟩ := rs
  have e := rw.length
  refine Calls.call_len_list (isList_of qa) (by rw [List.size_toArray]; omega) ?_
  exact q _ s.heap _ Ext.refl S ⟨_, by rw [List.size_toArray, e]⟩

theorem Ev.range1 {np p : Pos} {e : Expr} {a : Int} (h : Ev B bx n sc ρ st e (.int a) st₁) (k : sc.names.lookup ("range" : Str) = some .globalImplicit) (e0 : nsIn B.K mainGlobals "range" = some none)
    (hp : ∀ env, starEach [e] env = (false, eval e env) :: starEach [] env := by intro _; rfl) : Ev B bx n sc ρ st (.Call (.Name "range" np) [e] [] p) (.range 0 a 1) st₁ := by
  refine Ev.type1 (id := "range") k e0 PyProof.Rows.Boot.«range» (by decide) (by decide) (Evs.cons h Evs.nil hp) ?_ (hp := hp)
  intro A X s Q vs _ G S rs q
  obtain ⟨v, _, rfl, ⟨t, rfl⟩, rfl⟩ := rs
  refine call_range_1 (q _ _ _ (Ext.of_stays (pushed_keeps _)) (S.keeps (pushed_keeps _)) ⟨s.heap.objs.size, _, _, _, rfl, G.next, Heap.get?_push_size _ rfl⟩)
theorem Ev.range2 {np p : Pos} {e f : Expr} {a b : Int} (h : Ev B bx n sc ρ st e (.int a) st₁) (h' : Ev B bx n sc ρ st₁ f (.int b) st₂) (k : sc.names.lookup ("range" : Str) = some .globalImplicit) (e0 : nsIn B.K mainGlobals "range" = some none)
    (hp : ∀ env, starEach [e, f] env = (false, eval e env) :: starEach [f] env := by intro _; rfl) (hp' : ∀ env, starEach [f] env = (false, eval f env) :: starEach [] env := by intro _; rfl)
    (hq : ∀ env, (backTo p (starEach [f] env)).any (·.1) = false := by intro _; rfl) : Ev B bx n sc ρ st (.Call (.Name "range" np) [e, f] [] p) (.range a b 1) st₂ := by
  refine Ev.type1 (id := "range") k e0 PyProof.Rows.Boot.«range» (by decide) (by decide) (Evs.cons h (Evs.cons h' Evs.nil hp') hp) ?_ (hp := hp) (hq := hq)
  intro A X s Q vs _ G S rs q
  obtain ⟨v, _, rfl, ⟨t, rfl⟩, v', _, rfl, ⟨t', rfl⟩, rfl⟩ := rs
  refine call_range_2 (q _ _ _ (Ext.of_stays (pushed_keeps _)) (S.keeps (pushed_keeps _)) ⟨s.heap.objs.size, _, _, _, rfl, G.next, Heap.get?_push_size _ rfl⟩)
theorem Ev.range3 {np p : Pos} {e f g : Expr} {a b c : Int} (h : Ev B bx n sc ρ st e (.int a) st₁) (h' : Ev B bx n sc ρ st₁ f (.int b) st₂) (h'' : Ev B bx n sc ρ st₂ g (.int c) st₃) (hc : c ≠ 0) (hc' : c.natAbs < 1073741824)
    (k : sc.names.lookup ("range" : Str) = some .globalImplicit) (e0 : nsIn B.K mainGlobals "range" = some none)
    (hp : ∀ env, starEach [e, f, g] env = (false, eval e env) :: starEach [f, g] env := by intro _; rfl) (hp' : ∀ env, starEach [f, g] env = (false, eval f env) :: starEach [g] env := by intro _; rfl)
    (hp'' : ∀ env, starEach [g] env = (false, eval g env) :: starEach [] env := by intro _; rfl)
    (hq : ∀ env, (backTo p (starEach [f, g] env)).any (·.1) = false := by intro _; rfl) : Ev B bx n sc ρ st (.Call (.Name "range" np) [e, f, g] [] p) (.range a b c) st₃ := by
  refine Ev.type1 (id := "range") k e0 PyProof.Rows.Boot.«range» (by decide) (by decide) (Evs.cons h (Evs.cons h' (Evs.cons h'' Evs.nil hp'') hp') hp) ?_ (hp := hp) (hq := hq)
  intro A X s Q vs _ G S rs q
  obtain ⟨v, _, rfl, ⟨t, rfl⟩, v', _, rfl, ⟨t', rfl⟩, v'', _, rfl, ⟨t'', rfl⟩, rfl⟩ := rs
  refine call_range_3 hc (q _ _ _ (Ext.of_stays (pushed_keeps _)) (S.keeps (pushed_keeps _)) ⟨s.heap.objs.size, _, _, _, rfl, G.next, Heap.get?_push_size _ rfl⟩) (.inl (PyProof.noPylong_small hc'))
theorem Ev.abs {np p : Pos} {e : Expr} {a : Int} (h : Ev B bx n sc ρ st e (.int a) st₁) (k : sc.names.lookup ("abs" : Str) = some .globalImplicit) (e0 : nsIn B.K mainGlobals "abs" = some none)
    (hp : ∀ env, starEach [e] env = (false, eval e env) :: starEach [] env := by intro _; rfl) : Ev B bx n sc ρ st (.Call (.Name "abs" np) [e] [] p) (.int a.natAbs) st₁ := by
  refine Ev.builtin1 (id := "abs") k e0 PyProof.Rows.Boot.«abs» (by decide) (by decide) (Evs.cons h Evs.nil hp) ?_ (hp := hp)
  intro A X s Q vs _ _ S rs q
  obtain ⟨v, _, rfl, ⟨t, rfl⟩, rfl⟩ := rs
  exact call_abs_int fun u tk => q _ s.heap _ Ext.refl S ⟨u, by congr 1; split <;> omega⟩
theorem Ev.intOf {np p : Pos} {e : Expr} {a : Int} (h : Ev B bx n sc ρ st e (.int a) st₁) (k : sc.names.lookup ("int" : Str) = some .globalImplicit) (e0 : nsIn B.K mainGlobals "int" = some none)
    (hp : ∀ env, starEach [e] env = (false, eval e env) :: starEach [] env := by intro _; rfl) : Ev B bx n sc ρ st (.Call (.Name "int" np) [e] [] p) (.int a) st₁ := by
  refine Ev.type1 (id := "int") k e0 PyProof.Rows.Boot.«int» (by decide) (by decide) (Evs.cons h Evs.nil hp) ?_ (hp := hp)
  intro A X s Q vs _ _ S rs q
  obtain ⟨v, _, rfl, ⟨t, rfl⟩, rfl⟩ := rs
  exact call_int_int (q _ s.heap _ Ext.refl S ⟨_, rfl⟩)
theorem Ev.bits {oe : Expr} {ap p : Pos} {a : Int} (h : Ev B bx n sc ρ st oe (.int a) st₁) {pl : Env → Sem Bool} (he : ∀ env, eval (.Call (.Attribute oe "bit_length" ap) [] [] p) env = (do
      let ov ← eval oe env
      standAt ap.atName
      let (f, first) ← holding [ov] (getMethod ov "bit_length" (pl env))
      callWith p f first (backTo p (starEach [] env)) [])) : Ev B bx n sc ρ st (.Call (.Attribute oe "bit_length" ap) [] [] p) (.int (Builtin.Int.intBits a)) st₁ := fun A X env s Q rm F S q => by
  refine MethodCall_ (pl := pl env) (h A X env s _ rm F S fun v h₁ tk₁ x₁ S₁ rv => ?_) (he env)
  obtain ⟨t, rfl⟩ := rv
  refine getMethod_int_bit_length ?_
  refine callWith_method0 (call_int_bit_length ?_)
  exact q _ h₁ _ x₁ S₁ ⟨_, rfl⟩
end
end Mine
namespace Mine
open PySem PySem.W PyProof.Rows
set_option autoImplicit true
theorem kind_pow : builtinKind "pow" = none := by decide +kernel
theorem plain_pow : plainId "pow" = true := by decide +kernel
theorem entry_pow : entryFor table "pow" = some Builtin.«pow» := entryFor_of_fast (by kernel_rfl)
theorem args_pow (a b c : Value) : argsOk "pow" ⟨[a, b, c], []⟩ := by unfold argsOk; kernel_rfl

theorem dunder_pow : PySem.dunder "pow" = Str.ofString "__pow__" := by decide +kernel
theorem slot_pow : Slot "int" (Str.ofString "__pow__") "int.__pow__" := dunder_pow ▸ F.slot_int_pow
theorem pow_slot {prog : Program} {w : World} {A : Around} {E : Value → Shared → Prop} {s : Shared} {a b m : Int} {t u v : Tok} {Q : Value → Shared → Prop} (hb : 0 ≤ b) (hm : 1 < m)
    (h : ∀ t tk, Q (.int (Builtin.powMod (a % m).toNat b.natAbs m.natAbs : Nat) t) { s with toks := tk }) :
    wpAny (model prog w) A (call (.builtin "int.__pow__") [.int a t, .int b u, .int m v]) Q E s := by
  refine wpAny_call_entry F.slot_int_pow (typeIs_int s a t) F.entry_int_pow ?_ (F.args_int_pow_3 _ _ _)
  have hm0 : (m == 0) = false := by simp; omega
  have hm1 : (m.natAbs == 1) = false := by simp; omega
  have hb0 : ¬ b < 0 := by omega
  have hr : (decide (m < 0)) = false := by simp; omega
  have hr' : ¬ m < 0 := by omega
  have hab : (m.natAbs : Int) = m := by omega
  have hoh : (Value.int m v).onHeap = false := rfl
  have hoh' : (Value.int a t).onHeap = false := rfl
  obtain ⟨hp, g, d, tk, os⟩ := s
  wp_walk
  rw [hab]
  exact ⟨_, rfl, by simpa [hr] using h _ _⟩
theorem cs_pow {prog : Program} {w : World} {A : Around} {E : Value → Shared → Prop} {s : Shared} {a b m : Int} {t u v : Tok} {Q : Option Value → Shared → Prop} (h : wpAny (model prog w) A (call (.builtin "int.__pow__") [.int a t, .int b u, .int m v]) (fun v => Q (some v)) E s) :
    wpAny (model prog w) A (callSpecial? (.int a t) (Str.ofString "__pow__") [.int b u, .int m v]) Q E s := by
  refine wpAny_callSpecial?_slot (name := Str.ofString "__pow__") (typeIs_int s a t) slot_pow ?_
  exact h
theorem call_pow {prog : Program} {w : World} {A : Around} {E : Value → Shared → Prop} {s : Shared} {a b m : Int} {t u v : Tok} {Q : Value → Shared → Prop} (hb : 0 ≤ b) (hm : 1 < m)
    (h : ∀ t tk, Q (.int (Builtin.powMod (a % m).toNat b.natAbs m.natAbs : Nat) t) { s with toks := tk }) :
    wpAny (model prog w) A (call (.builtin "pow") [.int a t, .int b u, .int m v]) Q E s := by
  refine Calls.call_function_entry kind_pow plain_pow entry_pow (args_pow _ _ _) ?_
  have hl : typeLookup (.type "int") "__pow__" = pure (some (.builtin "int.__pow__")) := slot_pow.lookup
  unfold Builtin.«pow»
  refine wpAny_bind (m := Builtin.Builtins.bindParams "pow" ["base", "exp", "mod"] 2 _) (wpAny_pure ?_)
  refine wpAny_bind (wpAny_rule ?_)
  refine wpAny_bind (m := typeOf (.int a t)) (wpAny_pure ?_)
  dsimp only
  refine wpAny_bind (m := typeLookup (.type "int") (Str.ofString "__pow__")) (wpAny_of_eq hl ?_)
  dsimp only
  refine wpAny_bind (m := callSpecial? (.int a t) (Str.ofString "__pow__") [.int b u, .int m v]) (cs_pow (pow_slot hb hm fun t tk => ?_))
  dsimp only
  rw [if_pos (show (Value.int (↑(Builtin.powMod (a % m).toNat b.natAbs m.natAbs)) t != Value.notImplemented) = true from rfl)]
  exact wpAny_pure ⟨_, rfl, h _ _⟩

theorem Ev.powm {B : Bg} {bx : Bx} {n : Nat} {sc : Scope} {ρ : REnv} {st st₁ st₂ st₃ : BSt} {np p : Pos} {e f g : Expr} {a b c : Int} (h : Ev B bx n sc ρ st e (.int a) st₁) (h' : Ev B bx n sc ρ st₁ f (.int b) st₂) (h'' : Ev B bx n sc ρ st₂ g (.int c) st₃) (hb : 0 ≤ b) (hm : 1 < c)
    (k : sc.names.lookup ("pow" : Str) = some .globalImplicit) (e0 : nsIn B.K mainGlobals "pow" = some none)
    (hp : ∀ env, starEach [e, f, g] env = (false, eval e env) :: starEach [f, g] env := by intro _; rfl) (hp' : ∀ env, starEach [f, g] env = (false, eval f env) :: starEach [g] env := by intro _; rfl)
    (hp'' : ∀ env, starEach [g] env = (false, eval g env) :: starEach [] env := by intro _; rfl)
    (hq : ∀ env, (backTo p (starEach [f, g] env)).any (·.1) = false := by intro _; rfl) :
    Ev B bx n sc ρ st (.Call (.Name "pow" np) [e, f, g] [] p) (.int (Builtin.powMod (a % c).toNat b.natAbs c.natAbs : Nat)) st₃ := by
  refine Ev.builtin1 (id := "pow") k e0 PyProof.Rows.Boot.«pow» (by decide) (by decide) (Evs.cons h (Evs.cons h' (Evs.cons h'' Evs.nil hp'') hp') hp) ?_ (hp := hp) (hq := hq)
  intro A X s Q vs _ G S rs q
  obtain ⟨v, _, rfl, ⟨t, rfl⟩, v', _, rfl, ⟨t', rfl⟩, v'', _, rfl, ⟨t'', rfl⟩, rfl⟩ := rs
  exact call_pow hb hm fun t tk => q _ s.heap tk Ext.refl S ⟨_, rfl⟩
end Mine
namespace Mine
open PySem PySem.W PyProof.Rows
set_option autoImplicit true

inductive SetTo (x : Str) (sl : Sl) : REnv → REnv → Prop
  | nil : SetTo x sl [] [(x, sl)]
  | here {s r} : SetTo x sl ((x, s) :: r) ((x, sl) :: r)
  | there {y s r r'} : (x == y) = false → SetTo x sl r r' → SetTo x sl ((y, s) :: r) ((y, s) :: r')

theorem SetTo.lookup {x : Str} {sl : Sl} {ρ ρ' : REnv} (h : SetTo x sl ρ ρ') : ∀ y, ρ'.lookup y = if y = x then some sl else ρ.lookup y := by
  induction h with
  | nil =>
    intro y
    by_cases e : y = x
    · subst e; simp
    · have : (y == x) = false := by simpa using e
      simp [e, this]
  | @here s r =>
    intro y
    by_cases e : y = x
    · subst e; simp
    · have : (y == x) = false := by simpa using e
      simp [e, this, List.lookup_cons]
  | @there z s r r' hn _ ih =>
    intro y
    have hxz : ¬ x = z := by simpa using hn
    simp only [List.lookup_cons]
    by_cases e : y = x
    · subst e
      simp only [hn]
      rw [ih y]
      simp
    · by_cases e' : (y == z) = true
      · simp [e', e]
      · simp only [e']
        rw [ih y]

noncomputable def Sl.isSh : Sl → Bool
  | .sh _ => true
  | _ => false
theorem Sl.isSh_iff {sl : Sl} : (∀ t, sl ≠ .sh t) ↔ sl.isSh = false := by
  cases sl with
  | sh t => exact ⟨fun h => absurd rfl (h t), fun h => nomatch h⟩
  | own ts => exact ⟨fun _ => rfl, fun _ _ h => nomatch h⟩
  | odict ts => exact ⟨fun _ => rfl, fun _ _ h => nomatch h⟩

noncomputable def KeepM (M : Addr → Prop) (bx : Bx) (h h' : Heap) : Prop := ∀ b o, ¬ M b → ¬ InBox bx b → h.get? b = some o → h'.get? b = some o
noncomputable def Grow (M M' : Addr → Prop) (h : Heap) : Prop := ∀ b, M' b → M b ∨ h.get? b = none
noncomputable abbrev MY (M Y : Addr → Prop) : Addr → Prop := fun b => M b ∨ Y b

structure FOK (B : Bg) (M Y : Addr → Prop) (bx : Bx) (sc : Scope) (env : Env) (ρ : REnv) (h : Heap) : Prop where
  eok : EOK B (MY M Y) bx sc env ρ h
  disj : ∀ b, M b → ¬ Y b
  locM : M env.locals
  ns : ∃ m, h.Ns env.locals m
  cellM : ∀ n c, env.cells.lookup n = some c → M c ∧ c ≠ env.locals ∧ ∃ v, h.IsCell c v
  apart : env.cells.Pairwise fun x y => x.2 ≠ y.2
  cells : ∀ x, sc.names.lookup x = some .cell → (env.cells.lookup x).isSome = true
  own : ∀ x sl D, ρ.lookup x = some sl → sl.isSh = false → Bound env h x (.ref D) → M D ∧ D ≠ env.locals ∧ (∀ n c, env.cells.lookup n = some c → D ≠ c) ∧
    ∀ y sl', y ≠ x → ρ.lookup y = some sl' → sl'.isSh = false → ¬ Bound env h y (.ref D)
  boxY : ∀ b, InBox bx b → Y b

theorem KeepM.refl {M : Addr → Prop} {bx : Bx} {h : Heap} : KeepM M bx h h := fun _ _ _ _ e => e
theorem Grow.refl {M : Addr → Prop} {h : Heap} : Grow M M h := fun _ m => .inl m
theorem KeepM.trans {M M' : Addr → Prop} {bx : Bx} {h h' h'' : Heap} (k : KeepM M bx h h') (g : Grow M M' h) (k' : KeepM M' bx h' h'') : KeepM M bx h h'' := fun b o n i e =>
  k' b o (fun m => (g b m).elim n fun e' => by rw [e] at e'; cases e') i (k b o n i e)
theorem Grow.trans {M M' M'' : Addr → Prop} {bx : Bx} {h h' : Heap} (g : Grow M M' h) (g' : Grow M' M'' h') (k : KeepM M bx h h') (hb : ∀ b, M'' b → ¬ InBox bx b) : Grow M M'' h := fun b m => by
  by_cases e : M b
  · exact .inl e
  · rcases g' b m with m' | e'
    · exact (g b m').imp (fun x => x) id
    · refine .inr ?_
      cases q : h.get? b with
      | none => rfl
      | some o => have := k b o e (hb b m) q; rw [e'] at this; cases this
theorem KeepM.of_ext {M : Addr → Prop} {bx : Bx} {h h' : Heap} (k : Ext bx h h') : KeepM M bx h h' := fun b o _ i e => k b o i e

theorem bound_det {env : Env} {h : Heap} {x : Str} {v v' : Value} (a : Bound env h x v) (b : Bound env h x v') : v = v' := by
  rcases a with ⟨k, m, ⟨o, es, ep, q, d, _, f⟩, e⟩ | ⟨k, c, e, o, q, d⟩ <;> rcases b with ⟨k', m', ⟨o', es', ep', q', d', _, f'⟩, e'⟩ | ⟨k', c', e', o', q', d'⟩
  · rw [q] at q'; cases q'
    rw [d] at d'; cases d'
    have : m x = m' x := (f x).symm.trans (f' x)
    rw [e, e'] at this
    exact Option.some.inj this
  · rw [k] at k'; rcases k' with k' | k' <;> cases k'
  · rw [k'] at k; rcases k with k | k <;> cases k
  · rw [e] at e'; cases e'
    rw [q] at q'; cases q'
    rw [d] at d'; cases d'; rfl

theorem FOK.notBox {B : Bg} {M Y : Addr → Prop} {bx : Bx} {sc : Scope} {env : Env} {ρ : REnv} {h : Heap} (F : FOK B M Y bx sc env ρ h) {b : Addr} (m : M b) : ¬ InBox bx b := fun i => F.disj b m (F.boxY b i)

/-- after an expression, the frame stands -/
theorem FOK.keeps {B : Bg} {M Y : Addr → Prop} {bx : Bx} {sc : Scope} {env : Env} {ρ : REnv} {h h' : Heap} {st : BSt} (F : FOK B M Y bx sc env ρ h) (k : Ext bx h h') (S : BoxOK (MY M Y) bx h' st) : FOK B M Y bx sc env ρ h' where
  eok := F.eok.keeps k S
  disj := F.disj
  locM := F.locM
  ns := by
    obtain ⟨m, o, es, ep, q, r⟩ := F.ns
    exact ⟨m, o, es, ep, k _ _ F.eok.locB q, r⟩
  cellM := fun n c e => by
    obtain ⟨m, l, v, o, q, r⟩ := F.cellM n c e
    exact ⟨m, l, v, o, k _ _ (F.eok.cellB n c e) q, r⟩
  apart := F.apart
  cells := F.cells
  own := fun x sl D e i b => by
    obtain ⟨v, b₀, s₀, _⟩ := F.eok.vars x sl e
    have b₁ : Bound env h' x v := b₀.keeps (fun o q => k _ _ F.eok.locB q) (fun n c o e q => k _ _ (F.eok.cellB n c e) q)
    cases bound_det b b₁
    obtain ⟨m, l, c, u⟩ := F.own x sl D e i b₀
    refine ⟨m, l, c, fun y sl' hy e' i' b' => ?_⟩
    obtain ⟨v', b₀', s₀', _⟩ := F.eok.vars y sl' e'
    have b₁' : Bound env h' y v' := b₀'.keeps (fun o q => k _ _ F.eok.locB q) (fun n c o e q => k _ _ (F.eok.cellB n c e) q)
    cases bound_det b' b₁'
    exact u y sl' hy e' i' b₀'
  boxY := F.boxY

inductive Out where
  | next (ρ : REnv) (st : BSt)
  | ret (t : T) (st : BSt)

noncomputable def After (B : Bg) (M Y : Addr → Prop) (bx : Bx) (sc : Scope) (env : Env) (s : Shared) (Q : Flow → Shared → Prop) : Out → Prop
  | .next ρ' st' => ∀ M' h' tk, KeepM M bx s.heap h' → Grow M M' s.heap → FOK B M' Y bx sc env ρ' h' → BoxOK (MY M' Y) bx h' st' → Q .next { s with heap := h', toks := tk }
  | .ret t st' => ∀ M' v h' tk, KeepM M bx s.heap h' → Grow M M' s.heap → Rep (vis (MY M' Y) h') t v → BoxOK (MY M' Y) bx h' st' → Q (.ret v) { s with heap := h', toks := tk }

noncomputable def Ex1 (B : Bg) (bx : Bx) (n : Nat) (sc : Scope) (ρ : REnv) (st : BSt) (s : Stmt) (out : Out) : Prop :=
  ∀ A M Y env sh (Q : Flow → Shared → Prop), Room A n → FOK B M Y bx sc env ρ sh.heap → BoxOK (MY M Y) bx sh.heap st → After B M Y bx sc env sh Q out → wpAny (model B.prog B.w) A (exec s env) Q (fun _ _ => False) sh
noncomputable def Exs (B : Bg) (bx : Bx) (n : Nat) (sc : Scope) (ρ : REnv) (st : BSt) (ss : List Stmt) (out : Out) : Prop :=
  ∀ A M Y env sh (Q : Flow → Shared → Prop), Room A n → FOK B M Y bx sc env ρ sh.heap → BoxOK (MY M Y) bx sh.heap st → After B M Y bx sc env sh Q out → wpAny (model B.prog B.w) A (execs ss env) Q (fun _ _ => False) sh

/-- what is behind a first part -/
theorem After.shift {B : Bg} {M M' Y : Addr → Prop} {bx : Bx} {sc : Scope} {env : Env} {s : Shared} {Q : Flow → Shared → Prop} {out : Out} {h' : Heap} {tk : Nat} {ρ : REnv} (a : After B M Y bx sc env s Q out) (k : KeepM M bx s.heap h') (g : Grow M M' s.heap)
    (hb : ∀ b, M b → ¬ InBox bx b) (hY : ∀ b, InBox bx b → Y b) (hlive : ∀ b, InBox bx b → ∃ o, s.heap.get? b = some o) (hlive' : ∀ b, InBox bx b → ∃ o, h'.get? b = some o) : After B M' Y bx sc env { s with heap := h', toks := tk } Q out := by
  cases out with
  | next ρ' st' =>
    intro M'' h'' tk'' k' g' F S
    exact a M'' h'' tk'' (k.trans g k') (g.trans g' k fun b m i => F.notBox m i) F S
  | ret t st' =>
    intro M'' v h'' tk'' k' g' r S
    refine a M'' v h'' tk'' (k.trans g k') (g.trans g' k fun b m i => ?_) r S
    rcases g' b m with m' | e
    · rcases g b m' with m0 | e0
      · exact hb b m0 i
      · obtain ⟨o, q⟩ := hlive b i
        rw [e0] at q; cases q
    · obtain ⟨o, q⟩ := hlive' b i
      have e : h'.get? b = none := e
      rw [e] at q; cases q

section
variable {B : Bg} {bx : Bx} {n : Nat} {sc : Scope} {ρ ρ' : REnv} {st st₁ st₂ st₃ : BSt} {out : Out}

theorem Exs.nil : Exs B bx n sc ρ st [] (.next ρ st) := fun A M Y env sh Q r F S q => wpAny_execs_nil (q M sh.heap sh.toks KeepM.refl Grow.refl F S)
theorem Exs.cons {s : Stmt} {ss : List Stmt} (h : Ex1 B bx n sc ρ st s (.next ρ' st₁)) (h' : Exs B bx n sc ρ' st₁ ss out) : Exs B bx n sc ρ st (s :: ss) out := fun A M Y env sh Q r F S q => by
  refine wpAny_execs_cons (h A M Y env sh _ r F S fun M' h₁ tk₁ k g F₁ S₁ => ?_)
  exact h' A M' Y env _ Q r F₁ S₁ (q.shift (ρ := ρ') k g (fun b m => F.notBox m) F.boxY (fun b i => S.live i) (fun b i => S₁.live i))
theorem Exs.ret {s : Stmt} {ss : List Stmt} {t : T} (h : Ex1 B bx n sc ρ st s (.ret t st₁)) : Exs B bx n sc ρ st (s :: ss) (.ret t st₁) := fun A M Y env sh Q r F S q =>
  wpAny_execs_cons (h A M Y env sh _ r F S fun M' v h₁ tk₁ k g rv S₁ => q M' v h₁ tk₁ k g rv S₁)

theorem Ex1.ret {e : Expr} {p : Pos} {t : T} (h : Ev B bx n sc ρ st e t st₁) : Ex1 B bx n sc ρ st (.Return (some e) p) (.ret t st₁) := fun A M Y env sh Q r F S q =>
  wpAny_Return_some (h A _ env sh _ r F.eok S fun v h' tk x S' rv => q M v h' tk (KeepM.of_ext x) Grow.refl rv S')
theorem Ex1.if_true {c : Expr} {a b : List Stmt} {p : Pos} (h : Tr B bx n sc ρ st c true st₁) (h' : Exs B bx n sc ρ st₁ a out) : Ex1 B bx n sc ρ st (.If c a b p) out := fun A M Y env sh Q r F S q =>
  wpAny_If (h A _ env sh _ r F.eok S fun h₁ tk₁ x₁ S₁ => h' A M Y env _ Q r (F.keeps x₁ S₁) S₁ (q.shift (ρ := ρ) (KeepM.of_ext x₁) Grow.refl (fun b m => F.notBox m) F.boxY (fun b i => S.live i) (fun b i => S₁.live i)))
theorem Ex1.if_false {c : Expr} {a b : List Stmt} {p : Pos} (h : Tr B bx n sc ρ st c false st₁) (h' : Exs B bx n sc ρ st₁ b out) : Ex1 B bx n sc ρ st (.If c a b p) out := fun A M Y env sh Q r F S q =>
  wpAny_If (h A _ env sh _ r F.eok S fun h₁ tk₁ x₁ S₁ => h' A M Y env _ Q r (F.keeps x₁ S₁) S₁ (q.shift (ρ := ρ) (KeepM.of_ext x₁) Grow.refl (fun b m => F.notBox m) F.boxY (fun b i => S.live i) (fun b i => S₁.live i)))

/-- a value put under a name -/
theorem store_x {A : Around} {M Y : Addr → Prop} {env : Env} {s : Shared} {x : Str} {sl : Sl} {v : Value} {Q : Unit → Shared → Prop} {E : Value → Shared → Prop} (F : FOK B M Y bx sc env ρ s.heap) (S : BoxOK (MY M Y) bx s.heap st)
    (k : sc.names.lookup x = some .local ∨ sc.names.lookup x = some .cell) (hs : SetTo x sl ρ ρ') (r : SlotOK (MY M Y) s.heap sl v) (hB : ∀ D, v = .ref D → sl.isSh = false → ¬ InBox bx D)
    (own : ∀ D, v = .ref D → sl.isSh = false → M D ∧ D ≠ env.locals ∧ (∀ n c, env.cells.lookup n = some c → D ≠ c) ∧ ∀ y sl', y ≠ x → ρ.lookup y = some sl' → sl'.isSh = false → ¬ Bound env s.heap y (.ref D))
    (q : ∀ h' tk, KeepM M bx s.heap h' → FOK B M Y bx sc env ρ' h' → BoxOK (MY M Y) bx h' st → (∀ b, b ≠ env.locals → (∀ n c, env.cells.lookup n = some c → b ≠ c) → h'.get? b = s.heap.get? b) →
      (∀ y w, y ≠ x → Bound env s.heap y w → Bound env h' y w) → Q () { s with heap := h', toks := tk }) :
    wpAny (model B.prog B.w) A (storeName env x v) Q E s := by
  have hkind : env.scope.kind = .function := by rw [F.eok.scope]; exact F.eok.kind
  have hkof : ∀ y, env.kindOf y = sc.names.lookup y := fun y => by show env.scope.names.lookup y = _; rw [F.eok.scope]
  -- what both roads share: one object of the frame's own has changed
  have fin : ∀ (c : Addr) (h' : Heap), M c → Heap.SameBut c s.heap h' → Bound env h' x v → (∀ y w, y ≠ x → Bound env s.heap y w → Bound env h' y w) → (∀ y w, y ≠ x → Bound env h' y w → ∃ u, Bound env s.heap y u) →
      (∃ o, h'.get? c = some o) → (∃ m, h'.Ns env.locals m) → (∀ n d, env.cells.lookup n = some d → ∃ v, h'.IsCell d v) → (∀ sl' D, sl'.isSh = false → (∃ y, ρ.lookup y = some sl' ∧ Bound env s.heap y (.ref D)) → D ≠ c) → (∀ D, v = .ref D → sl.isSh = false → D ≠ c) →
      KeepM M bx s.heap h' ∧ FOK B M Y bx sc env ρ' h' ∧ BoxOK (MY M Y) bx h' st := by
    intro c h' mc sb bv old old' live' ns' cells' ownc ownv
    have cnb := F.notBox mc
    have get : ∀ b, b ≠ c → h'.get? b = s.heap.get? b := sb.2
    have km : KeepM M bx s.heap h' := fun b o m _ e => (get b fun z => m (z ▸ mc)).trans e
    have kv : ∀ a o, vis (MY M Y) s.heap a o → vis (MY M Y) h' a o := fun a o w => ⟨w.1, (get a fun z => w.1 (.inl (z ▸ mc))).trans w.2⟩
    have S' : BoxOK (MY M Y) bx h' st := fun p e => by
      obtain ⟨h1, h2, h3, ⟨n, t, h4⟩, m, vs, h5, h6⟩ := S p e
      refine ⟨h1, h2, h3, ⟨n, t, (get _ fun z => ?_).trans h4⟩, m, vs, (get _ fun z => ?_).trans h5, h6⟩
      · exact cnb (z ▸ ⟨p, e, .inl rfl⟩)
      · exact cnb (z ▸ ⟨p, e, .inr rfl⟩)
    have slot : ∀ {sl' : Sl} {w : Value}, SlotOK (MY M Y) s.heap sl' w → (∀ D, w = .ref D → sl'.isSh = false → D ≠ c) → SlotOK (MY M Y) h' sl' w := by
      intro sl' w r' hc
      cases sl' with
      | sh t => exact Rep.mono kv r'
      | own ts =>
        obtain ⟨D, vs, n, rfl, X, e, rs⟩ := r'
        exact ⟨D, vs, n, rfl, X, (get _ (hc D rfl rfl)).trans e, RepAll.mono kv rs⟩
      | odict ts =>
        obtain ⟨D, vs, n, rfl, X, e, rs⟩ := r'
        exact ⟨D, vs, n, rfl, X, (get _ (hc D rfl rfl)).trans e, RepD.mono kv rs⟩
    have lk := hs.lookup
    refine ⟨km, ?_, S'⟩
    constructor
    · exact {
        bg := ⟨fun b o e => ⟨(F.eok.bg.bg b o e).1, (get b fun z => (F.eok.bg.bg b o e).1 (.inl (z ▸ mc))).trans (F.eok.bg.bg b o e).2⟩, fun b xb => by
          by_cases z : b = c
          · subst z; exact live'
          · obtain ⟨o, e⟩ := F.eok.bg.live b xb
            exact ⟨o, (get b z).trans e⟩⟩
        scope := F.eok.scope
        kind := F.eok.kind
        glob := F.eok.glob
        blt := F.eok.blt
        locB := F.eok.locB
        cellB := F.eok.cellB
        vars := fun y sl' e => by
          rw [lk y] at e
          by_cases z : y = x
          · subst z
            rw [if_pos rfl] at e; cases e
            exact ⟨v, bv, slot r fun D eD i => ownv D eD i, fun D eD i => hB D eD (Sl.isSh_iff.mp i)⟩
          · rw [if_neg z] at e
            obtain ⟨w, b, r', n⟩ := F.eok.vars y sl' e
            exact ⟨w, old y w z b, slot r' fun D eD i => ownc sl' D i ⟨y, e, eD ▸ b⟩, n⟩ }
    · exact F.disj
    · exact F.locM
    · exact ns'
    · exact fun n d e => ⟨(F.cellM n d e).1, (F.cellM n d e).2.1, cells' n d e⟩
    · exact F.apart
    · exact F.cells
    · intro y sl' D e i b
      rw [lk y] at e
      by_cases z : y = x
      · subst z
        rw [if_pos rfl] at e; cases e
        obtain rfl := bound_det b bv
        obtain ⟨h1, h2, h3, h4⟩ := own D rfl i
        refine ⟨h1, h2, h3, fun y' sl'' hy e' i' b' => ?_⟩
        rw [lk y', if_neg hy] at e'
        obtain ⟨u, bu⟩ := old' y' _ hy b'
        cases bound_det b' (old y' u hy bu)
        exact h4 y' sl'' hy e' i' bu
      · rw [if_neg z] at e
        obtain ⟨u, bu⟩ := old' y _ z b
        cases bound_det b (old y u z bu)
        obtain ⟨h1, h2, h3, h4⟩ := F.own y sl' D e i bu
        refine ⟨h1, h2, h3, fun y' sl'' hy e' i' b' => ?_⟩
        rw [lk y'] at e'
        by_cases z' : y' = x
        · subst z'
          rw [if_pos rfl] at e'; cases e'
          obtain rfl := bound_det b' bv
          exact (own D rfl i').2.2.2 y sl' z e i bu
        · rw [if_neg z'] at e'
          obtain ⟨u', bu'⟩ := old' y' _ z' b'
          cases bound_det b' (old y' u' z' bu')
          exact h4 y' sl'' hy e' i' bu'
    · exact F.boxY
  obtain ⟨m, hn⟩ := F.ns
  rcases k with k | k
  · have hl : env.kindOf x = some .local := (hkof x).trans k
    refine wpAny_storeName_local hl hn (fun h' hn' hs' => ?_) (by rw [hkind]; rfl)
    have old : ∀ y w, y ≠ x → Bound env s.heap y w → Bound env h' y w := fun y w hy b => ?old
    have z := fin env.locals h' F.locM hs' (.inl ⟨hl, _, hn', by simp⟩) old (fun y w hy b => ?_) ?_ ⟨_, hn'⟩ (fun n d e => ?_) (fun sl' D i ⟨y, e, b⟩ => ?_) (fun D e i => ?_)
    · exact q h' _ z.1 z.2.1 z.2.2 (fun b h1 _ => hs'.2 b h1) old
    case old =>
      rcases b with ⟨ky, m', hm', e⟩ | ⟨ky, c, e, o, hc, hd⟩
      · have : m' = m := by
          obtain ⟨o, es, ep, q1, q2, q3, q4⟩ := hm'
          obtain ⟨o', es', ep', p1, p2, p3, p4⟩ := hn
          rw [q1] at p1; cases p1
          rw [q2] at p2; cases p2
          funext u; exact (q4 u).symm.trans (p4 u)
        subst this
        exact .inl ⟨ky, _, hn', by simp [hy, e]⟩
      · exact .inr ⟨ky, c, e, o, (hs'.2 c (F.cellM y c e).2.1).trans hc, hd⟩
    · rcases b with ⟨ky, m', hm', e⟩ | ⟨ky, c, e, o, hc, hd⟩
      · have : m' = fun u => if u = x then some v else m u := by
          obtain ⟨o, es, ep, q1, q2, q3, q4⟩ := hm'
          obtain ⟨o', es', ep', p1, p2, p3, p4⟩ := hn'
          rw [q1] at p1; cases p1
          rw [q2] at p2; cases p2
          funext u; exact (q4 u).symm.trans (p4 u)
        subst this
        simp only [hy, if_false] at e
        exact ⟨w, .inl ⟨ky, m, hn, e⟩⟩
      · exact ⟨w, .inr ⟨ky, c, e, o, (hs'.2 c (F.cellM y c e).2.1).symm.trans hc, hd⟩⟩
    · obtain ⟨o, _, _, e, _⟩ := hn'
      exact ⟨o, e⟩
    · obtain ⟨_, l, v', o, e', r'⟩ := F.cellM n d e
      exact ⟨v', o, (hs'.2 d l).trans e', r'⟩
    · exact (F.own y sl' D e i b).2.1
    · exact (own D e i).2.1
  · have hl : env.kindOf x = some .cell := (hkof x).trans k
    obtain ⟨c, hc⟩ := Option.isSome_iff_exists.mp (F.cells x k)
    obtain ⟨cM, cl, v₀, hv₀⟩ := F.cellM x c hc
    refine wpAny_storeName_cell hkind hl hc hv₀ fun h' hv' hs' => ?_
    have old : ∀ y w, y ≠ x → Bound env s.heap y w → Bound env h' y w := fun y w hy b => ?old
    have z := fin c h' cM hs' (.inr ⟨.inl hl, c, hc, hv'⟩) old (fun y w hy b => ?_) ?_ ?_ (fun n d e => ?_) (fun sl' D i ⟨y, e, b⟩ => ?_) (fun D e i => ?_)
    · exact q h' s.toks z.1 z.2.1 z.2.2 (fun b _ h2 => hs'.2 b (h2 x c hc)) old
    case old =>
      rcases b with ⟨ky, m', hm', e⟩ | ⟨ky, d, e, o, hd, r'⟩
      · exact .inl ⟨ky, m', hm'.sameBut hs' (Ne.symm cl), e⟩
      · have : d ≠ c := fun z => hy (name_of_addr F.apart (mem_of_lookup e) (z ▸ mem_of_lookup hc))
        exact .inr ⟨ky, d, e, o, (hs'.2 d this).trans hd, r'⟩
    · rcases b with ⟨ky, m', ⟨o, es, ep, q1, r'⟩, e⟩ | ⟨ky, d, e, o, hd, r'⟩
      · exact ⟨w, .inl ⟨ky, m', ⟨o, es, ep, (hs'.2 _ (Ne.symm cl)).symm.trans q1, r'⟩, e⟩⟩
      · have : d ≠ c := fun z => hy (name_of_addr F.apart (mem_of_lookup e) (z ▸ mem_of_lookup hc))
        exact ⟨w, .inr ⟨ky, d, e, o, (hs'.2 d this).symm.trans hd, r'⟩⟩
    · obtain ⟨o, e, _⟩ := hv'
      exact ⟨o, e⟩
    · exact ⟨m, hn.sameBut hs' (Ne.symm cl)⟩
    · by_cases z : d = c
      · subst z; exact ⟨_, hv'⟩
      · obtain ⟨_, l, v', o, e', r'⟩ := F.cellM n d e
        exact ⟨v', o, (hs'.2 d z).trans e', r'⟩
    · exact (F.own y sl' D e i b).2.2.1 x c hc
    · exact (own D e i).2.2.1 x c hc
theorem store_ {A : Around} {M Y : Addr → Prop} {env : Env} {s : Shared} {x : Str} {sl : Sl} {v : Value} {Q : Unit → Shared → Prop} {E : Value → Shared → Prop} (F : FOK B M Y bx sc env ρ s.heap) (S : BoxOK (MY M Y) bx s.heap st)
    (k : sc.names.lookup x = some .local ∨ sc.names.lookup x = some .cell) (hs : SetTo x sl ρ ρ') (r : SlotOK (MY M Y) s.heap sl v) (hB : ∀ D, v = .ref D → sl.isSh = false → ¬ InBox bx D)
    (own : ∀ D, v = .ref D → sl.isSh = false → M D ∧ D ≠ env.locals ∧ (∀ n c, env.cells.lookup n = some c → D ≠ c) ∧ ∀ y sl', y ≠ x → ρ.lookup y = some sl' → sl'.isSh = false → ¬ Bound env s.heap y (.ref D))
    (q : ∀ h' tk, KeepM M bx s.heap h' → FOK B M Y bx sc env ρ' h' → BoxOK (MY M Y) bx h' st → Q () { s with heap := h', toks := tk }) :
    wpAny (model B.prog B.w) A (storeName env x v) Q E s := store_x F S k hs r hB own fun h' tk a b c _ _ => q h' tk a b c
end
end Mine
namespace Mine
open PySem PySem.W PyProof.Rows

/-- several names, one after the other -/
inductive SetsTo : List (Str × T) → REnv → REnv → Prop
  | nil {r : REnv} : SetsTo [] r r
  | cons {x : Str} {t : T} {r : List (Str × T)} {a b c : REnv} : SetTo x (.sh t) a b → SetsTo r b c → SetsTo ((x, t) :: r) a c

inductive Stores (M : Model) (A : Around) (env : Env) : List Str → List (Value → Sem Unit) → Prop
  | nil : Stores M A env [] []
  | cons {x : Str} {f : Value → Sem Unit} {xs : List Str} {fs : List (Value → Sem Unit)} : (∀ v (Q : Unit → Shared → Prop) (E : Value → Shared → Prop) s, wpAny M A (storeName env x v) Q E s → wpAny M A (f v) Q E s) → Stores M A env xs fs → Stores M A env (x :: xs) (f :: fs)

noncomputable def nameOf : Expr → Option Str
  | .Name x _ => some x
  | _ => Option.none
theorem nameOf_some {e : Expr} {x : Str} (h : nameOf e = some x) : ∃ p, e = .Name x p := by
  unfold nameOf at h
  split at h
  · cases h; exact ⟨_, rfl⟩
  · cases h
theorem assignEach_names {M : Model} {A : Around} {env : Env} : ∀ {elts : List Expr} {xs : List Str}, elts.map nameOf = xs.map some → Stores M A env xs ((assignEach elts env).map (·.2)) ∧ (assignEach elts env).length = xs.length ∧ (assignEach elts env).findIdx? (·.1) = Option.none
  | [], [], _ => by
    have e : assignEach [] env = [] := by first | rfl | simp [assignEach]
    rw [e]; exact ⟨.nil, rfl, rfl⟩
  | [], _ :: _, e => by simp at e
  | _ :: _, [], e => by simp at e
  | e₀ :: r, y :: ys, e => by
    simp only [List.map_cons, List.cons.injEq] at e
    obtain ⟨a, b, c⟩ := assignEach_names (M := M) (A := A) (env := env) e.2
    obtain ⟨p, rfl⟩ := nameOf_some e.1
    have e' : assignEach (.Name y p :: r) env = (false, assign (.Name y p) env) :: assignEach r env := by first | rfl | simp [assignEach]
    rw [e']
    exact ⟨.cons (fun v Q E s h => wpAny_assign_Name h) a, by simp [b], by simp [List.findIdx?_cons, c]⟩
theorem bindNames {M : Model} {A : Around} {env : Env} : ∀ (xs : List Str), Stores M A env xs (xs.map fun n => bindName env n)
  | [] => .nil
  | _ :: r => .cons (fun v Q E s h => wpAny_bindName h) (bindNames r)

theorem ext_but_next {h h' : Heap} (e : Heap.ExtBut h.objs.size h h') : ∀ b o, h.get? b = some o → h'.get? b = some o := fun b o q => e b o (Nat.ne_of_lt (Heap.lt_size q)) q

section
variable {B : Bg} {bx : Bx} {n : Nat} {sc : Scope} {ρ ρ' ρ₁ ρ₂ : REnv} {st st₁ st₂ st₃ : BSt} {out : Out}

/-- a shared tree put under a name -/
theorem store_sh {A : Around} {M Y : Addr → Prop} {env : Env} {s : Shared} {x : Str} {t : T} {v : Value} {Q : Unit → Shared → Prop} {E : Value → Shared → Prop} (F : FOK B M Y bx sc env ρ s.heap) (S : BoxOK (MY M Y) bx s.heap st)
    (k : sc.names.lookup x = some .local ∨ sc.names.lookup x = some .cell) (hs : SetTo x (.sh t) ρ ρ') (r : Rep (vis (MY M Y) s.heap) t v)
    (q : ∀ h' tk, KeepM M bx s.heap h' → (∀ a o, vis (MY M Y) s.heap a o → vis (MY M Y) h' a o) → FOK B M Y bx sc env ρ' h' → BoxOK (MY M Y) bx h' st → Q () { s with heap := h', toks := tk }) :
    wpAny (model B.prog B.w) A (storeName env x v) Q E s :=
  store_ F S k hs r (fun _ _ i => nomatch i) (fun _ _ i => nomatch i) fun h' tk km F' S' => q h' tk km (fun a o w => ⟨w.1, km a o (fun m => w.1 (.inl m)) (fun i => w.1 (.inr (F.boxY a i))) w.2⟩) F' S'

theorem Ex1.assign {x : Str} {p' p : Pos} {e : Expr} {t : T} (h : Ev B bx n sc ρ st e t st₁) (k : sc.names.lookup x = some .local ∨ sc.names.lookup x = some .cell) (hs : SetTo x (.sh t) ρ ρ')
    (hw : ∀ env, swapsWith e (some (.Name x p')) p.line env = pure false := by intro _; rfl) : Ex1 B bx n sc ρ st (.Assign [.Name x p'] e p) (.next ρ' st₁) := fun A M Y env sh Q r F S q =>
  wpAny_Assign_Name (h A _ env sh _ r F.eok S fun v h₁ tk₁ x₁ S₁ rv =>
    store_sh (F.keeps x₁ S₁) S₁ k hs rv fun h₂ tk₂ km _ F₂ S₂ => q M h₂ tk₂ ((KeepM.of_ext x₁).trans Grow.refl km) Grow.refl F₂ S₂) (hw env)

theorem load_local {A : Around} {X : Addr → Prop} {env : Env} {s : Shared} {x : Str} {t : T} {Q : Value → Shared → Prop} {E : Value → Shared → Prop} (F : EOK B X bx sc env ρ s.heap) (e : ρ.lookup x = some (.sh t)) (hn : (x == ("__classdict__" : Str)) = false)
    (q : ∀ v, Rep (vis X s.heap) t v → Q v s) : wpAny (model B.prog B.w) A (loadName env x) Q E s := by
  obtain ⟨v, b, r, _⟩ := F.vars x _ e
  exact load_bound (by rw [F.scope]; exact F.kind) b (q v r) hn

theorem Ex1.aug {x : Str} {op : Operator} {p' p : Pos} {e : Expr} {a b c : Int} (e0 : ρ.lookup x = some (.sh (.int a))) (h : Ev B bx n sc ρ st e (.int b) st₁)
    (step : ∀ A s (Q : Value → Shared → Prop) t u, (∀ t tk, Q (.int c t) { s with toks := tk }) → wpAny (model B.prog B.w) A (inplaceOp op (.int a t) (.int b u)) Q (fun _ _ => False) s)
    (k : sc.names.lookup x = some .local ∨ sc.names.lookup x = some .cell) (hs : SetTo x (.sh (.int c)) ρ ρ') (hn : (x == ("__classdict__" : Str)) = false := by decide) :
    Ex1 B bx n sc ρ st (.AugAssign (.Name x p') op e p) (.next ρ' st₁) := fun A M Y env sh Q r F S q => by
  refine wpAny_AugAssign_Name (load_local F.eok e0 hn fun v rv => ?_)
  obtain ⟨t, rfl⟩ := rv
  refine h A _ env sh _ r F.eok S fun w h₁ tk₁ x₁ S₁ rw => ?_
  obtain ⟨u, rfl⟩ := rw
  refine step A _ _ t u fun t' tk' => ?_
  exact store_sh (F.keeps x₁ S₁) S₁ k hs ⟨_, rfl⟩ fun h₂ tk₂ km _ F₂ S₂ => q M h₂ tk₂ ((KeepM.of_ext x₁).trans Grow.refl km) Grow.refl F₂ S₂
theorem Ex1.iadd {x : Str} {p' p : Pos} {e : Expr} {a b : Int} (e0 : ρ.lookup x = some (.sh (.int a))) (h : Ev B bx n sc ρ st e (.int b) st₁) (k : sc.names.lookup x = some .local ∨ sc.names.lookup x = some .cell) (hs : SetTo x (.sh (.int (a + b))) ρ ρ')
    (hn : (x == ("__classdict__" : Str)) = false := by decide) : Ex1 B bx n sc ρ st (.AugAssign (.Name x p') .Add e p) (.next ρ' st₁) := Ex1.aug e0 h (fun A s Q t u q => wpAny_iadd_int (q _ _)) k hs hn
theorem Ex1.isub {x : Str} {p' p : Pos} {e : Expr} {a b : Int} (e0 : ρ.lookup x = some (.sh (.int a))) (h : Ev B bx n sc ρ st e (.int b) st₁) (k : sc.names.lookup x = some .local ∨ sc.names.lookup x = some .cell) (hs : SetTo x (.sh (.int (a - b))) ρ ρ')
    (hn : (x == ("__classdict__" : Str)) = false := by decide) : Ex1 B bx n sc ρ st (.AugAssign (.Name x p') .Sub e p) (.next ρ' st₁) := Ex1.aug e0 h (fun A s Q t u q => isub_int (q _ _)) k hs hn
theorem Ex1.imul {x : Str} {p' p : Pos} {e : Expr} {a b : Int} (e0 : ρ.lookup x = some (.sh (.int a))) (h : Ev B bx n sc ρ st e (.int b) st₁) (ok : IntMulOk a b) (k : sc.names.lookup x = some .local ∨ sc.names.lookup x = some .cell) (hs : SetTo x (.sh (.int (a * b))) ρ ρ')
    (hn : (x == ("__classdict__" : Str)) = false := by decide) : Ex1 B bx n sc ρ st (.AugAssign (.Name x p') .Mult e p) (.next ρ' st₁) := Ex1.aug e0 h (fun A s Q t u q => imul_int (q _ _) ok) k hs hn
theorem Ex1.ishr {x : Str} {p' p : Pos} {e : Expr} {a b : Int} (e0 : ρ.lookup x = some (.sh (.int a))) (h : Ev B bx n sc ρ st e (.int b) st₁) (h0 : 0 ≤ b) (k : sc.names.lookup x = some .local ∨ sc.names.lookup x = some .cell) (hs : SetTo x (.sh (.int (a / 2 ^ b.toNat))) ρ ρ')
    (hn : (x == ("__classdict__" : Str)) = false := by decide) : Ex1 B bx n sc ρ st (.AugAssign (.Name x p') .RShift e p) (.next ρ' st₁) :=
  Ex1.aug e0 h (fun A s Q t u q => irshift_int h0 (by rw [Int.fdiv_eq_ediv_of_nonneg _ (Int.le_of_lt (Int.pow_pos (by decide)))]; exact q _ _)) k hs hn


theorem stores_sh {A : Around} {M Y : Addr → Prop} {env : Env} {Q : Unit → Shared → Prop} {E : Value → Shared → Prop} {xs : List Str} {fs : List (Value → Sem Unit)} (hf : Stores (model B.prog B.w) A env xs fs) :
    ∀ {ts : List T} {vs : List Value} {ρ ρ' : REnv} {s : Shared}, FOK B M Y bx sc env ρ s.heap → BoxOK (MY M Y) bx s.heap st → xs.length = ts.length →
      (∀ x ∈ xs, sc.names.lookup x = some .local ∨ sc.names.lookup x = some .cell) → SetsTo (xs.zip ts) ρ ρ' → RepAll (vis (MY M Y) s.heap) ts vs →
      (∀ h' tk, KeepM M bx s.heap h' → FOK B M Y bx sc env ρ' h' → BoxOK (MY M Y) bx h' st → Q () { s with heap := h', toks := tk }) → wpAny (model B.prog B.w) A (assignInOrder fs vs) Q E s := by
  induction hf with
  | nil =>
    intro ts vs ρ ρ' s F S hl k hs r q
    cases ts with
    | nil =>
      cases hs
      rw [show vs = [] from r]
      exact wpAny_pure (q s.heap s.toks KeepM.refl F S)
    | cons t r => simp at hl
  | @cons x f xs fs hf _ ih =>
    intro ts vs ρ ρ' s F S hl k hs r q
    cases ts with
    | nil => simp at hl
    | cons t ts =>
      cases hs
      rename_i ρ₁ h1 h2
      obtain ⟨v, ws, rfl, rv, rs⟩ := r
      show wpAny _ A (do holding ws (f v); assignInOrder fs ws) Q E s
      refine wpAny_bind (wpAny_holding (hf v _ _ s (store_sh F S (k x (.head _)) h1 rv fun h₁ tk₁ km kv F₁ S₁ => ?_)))
      exact ih F₁ S₁ (by simpa using hl) (fun y hy => k y (.tail _ hy)) h2 (rs.mono kv) fun h₂ tk₂ km₂ F₂ S₂ => q h₂ tk₂ (km.trans Grow.refl km₂) F₂ S₂

/-- a, b, c = a tuple's value, stored in their order -/
theorem Ex1.assignT {elts : List Expr} {k : Nat} {tp p : Pos} {e : Expr} {xs : List Str} {ts : List T} (h : Ev B bx n sc ρ st e (.tup ts) st₁) (hx : elts.map nameOf = xs.map some) (hl : xs.length = ts.length)
    (kx : ∀ x ∈ xs, sc.names.lookup x = some .local ∨ sc.names.lookup x = some .cell) (hs : SetsTo (xs.zip ts) ρ ρ')
    (hw : ∀ env, swapsWithSole [.Tuple elts k tp] e p.line env = pure false := by intro _; rfl) (hv : ∀ env : Env, env.scope = sc → swappedStores [.Tuple elts k tp] e env = pure Option.none) :
    Ex1 B bx n sc ρ st (.Assign [.Tuple elts k tp] e p) (.next ρ' st₁) := fun A M Y env sh Q r F S q => by
  refine Assign_Tuple (h A _ env sh _ r F.eok S fun v h₁ tk₁ x₁ S₁ rv => ?_) (hw env) (hv env F.eok.scope)
  obtain ⟨a, vs, m, rfl, qa, rs⟩ := rv
  obtain ⟨sto, hlen, hstar⟩ := assignEach_names (M := model B.prog B.w) (A := A) (env := env) hx
  rw [arm_assign_Tuple]
  refine wpAny_bind (wpAny_standAt ?_)
  unfold unpack
  rw [hstar, hlen]
  have ht : IsTup h₁ a vs.toArray := isTup_of qa
  have hz : xs.length = vs.toArray.size := by rw [hl, List.size_toArray, rs.length]
  rw [hz]
  refine wpAny_bind (wpAny_holding (unpackItems_tuple (s := { sh with heap := h₁, toks := tk₁ }) r.1 ht fun h₂ e₂ => ?_))
  have k₂ := ext_but_next e₂
  have F₁ := F.keeps x₁ S₁
  have S₂ := S₁.keeps k₂
  refine stores_sh (s := { sh with heap := h₂, toks := tk₁ }) sto (F₁.keeps (Ext.of_stays k₂) S₂) S₂ hl kx hs (rs.mono (vis_keeps k₂)) fun h₃ tk₃ km F₃ S₃ => ?_
  exact q M h₃ tk₃ (((KeepM.of_ext x₁).trans Grow.refl (KeepM.of_ext (Ext.of_stays k₂))).trans Grow.refl km) Grow.refl F₃ S₃

/-- a, b = x, y of a display: the stores go backwards -/
theorem Ex1.assignS {elts : List Expr} {k : Nat} {tp p : Pos} {e : Expr} {xs : List Str} {ts : List T} (h : Ev B bx n sc ρ st e (.tup ts) st₁) (hl : xs.length = ts.length)
    (kx : ∀ x ∈ xs, sc.names.lookup x = some .local ∨ sc.names.lookup x = some .cell) (hs : SetsTo (xs.reverse.zip ts.reverse) ρ ρ')
    (hw : ∀ env, swapsWithSole [.Tuple elts k tp] e p.line env = pure false := by intro _; rfl) (hv : ∀ env : Env, env.scope = sc → swappedStores [.Tuple elts k tp] e env = pure (some xs)) :
    Ex1 B bx n sc ρ st (.Assign [.Tuple elts k tp] e p) (.next ρ' st₁) := fun A M Y env sh Q r F S q => by
  refine Assign_Tuple_swapped (names := xs) (h A _ env sh _ r F.eok S fun v h₁ tk₁ x₁ S₁ rv => ?_) (hw env) (hv env F.eok.scope)
  obtain ⟨a, vs, m, rfl, qa, rs⟩ := rv
  have ht : IsTup h₁ a vs.toArray := isTup_of qa
  have hz : xs.length = vs.toArray.size := by rw [hl, List.size_toArray, rs.length]
  rw [hz]
  refine unpackItems_tuple (s := { sh with heap := h₁, toks := tk₁ }) r.1 ht fun h₂ e₂ => ?_
  have k₂ := ext_but_next e₂
  have F₁ := F.keeps x₁ S₁
  have S₂ := S₁.keeps k₂
  refine stores_sh (s := { sh with heap := h₂, toks := tk₁ }) (bindNames xs.reverse) (F₁.keeps (Ext.of_stays k₂) S₂) S₂ (by simpa using hl) (fun x hx => kx x (by simpa using hx)) hs (by simpa using (rs.mono (vis_keeps k₂)).reverse) fun h₃ tk₃ km F₃ S₃ => ?_
  exact q M h₃ tk₃ (((KeepM.of_ext x₁).trans Grow.refl (KeepM.of_ext (Ext.of_stays k₂))).trans Grow.refl km) Grow.refl F₃ S₃
end
end Mine
namespace Mine
open PySem PySem.W PyProof.Rows
section
variable {B : Bg} {bx : Bx} {n : Nat} {sc : Scope} {ρ ρ' ρ₁ ρ₂ : REnv} {st st₁ st₂ st₃ : BSt} {out : Out}

noncomputable abbrev plus (M : Addr → Prop) (D : Addr) : Addr → Prop := fun b => M b ∨ b = D
noncomputable abbrev less (M : Addr → Prop) (D : Addr) : Addr → Prop := fun b => M b ∧ b ≠ D

theorem alive_push {h : Heap} {o : Obj} (ho : o.isFreed = false) : ∃ o', (h.push o).get? h.objs.size = some o' := ⟨o, Heap.get?_push_size _ ho⟩

theorem EOK.alloc {X : Addr → Prop} {env : Env} {h : Heap} (F : EOK B X bx sc env ρ h) (o : Obj) (ho : o.isFreed = false) (S : BoxOK X bx h st) : EOK B (plus X h.objs.size) bx sc env ρ (h.push o) := by
  have k := pushed_keeps (h := h) o
  have fr : ∀ b o', h.get? b = some o' → b ≠ h.objs.size := fun b o' e => Nat.ne_of_lt (Heap.lt_size e)
  have kv : ∀ a o', vis X h a o' → vis (plus X h.objs.size) (h.push o) a o' := fun a o' w => ⟨fun z => z.elim w.1 (fr a o' w.2), k _ _ w.2⟩
  exact {
    bg := ⟨fun b o' e => ⟨fun z => z.elim (F.bg.bg b o' e).1 (fr b o' (F.bg.bg b o' e).2), k _ _ (F.bg.bg b o' e).2⟩, fun b z => z.elim (fun x => (F.bg.live b x).imp fun o' e => k _ _ e) fun e => e ▸ alive_push ho⟩
    scope := F.scope
    kind := F.kind
    glob := F.glob
    blt := F.blt
    locB := F.locB
    cellB := F.cellB
    vars := fun x sl e => by
      obtain ⟨v, b, s, n⟩ := F.vars x sl e
      refine ⟨v, b.keeps (fun o' q => k _ _ q) (fun _ _ o' _ q => k _ _ q), ?_, n⟩
      cases sl with
      | sh t => exact Rep.mono kv s
      | own ts =>
        obtain ⟨D, vs, m, rfl, x, e, r⟩ := s
        exact ⟨D, vs, m, rfl, .inl x, k _ _ e, RepAll.mono kv r⟩
      | odict ts =>
        obtain ⟨D, vs, m, rfl, x, e, r⟩ := s
        exact ⟨D, vs, m, rfl, .inl x, k _ _ e, RepD.mono kv r⟩ }

theorem FOK.bound_keeps {M Y : Addr → Prop} {env : Env} {h h' : Heap} (F : FOK B M Y bx sc env ρ h) (k : ∀ b o, h.get? b = some o → h'.get? b = some o) {x : Str} {v : Value} (b : Bound env h' x v) {sl : Sl} (e : ρ.lookup x = some sl) : Bound env h x v := by
  obtain ⟨u, b₀, _⟩ := F.eok.vars x sl e
  cases bound_det b (b₀.keeps (fun o' q => k _ _ q) (fun _ _ o' _ q => k _ _ q))
  exact b₀

theorem swap_MY {M Y : Addr → Prop} {D : Addr} : plus (MY M Y) D = MY (plus M D) Y := by
  funext b
  apply propext
  constructor
  · rintro ((a | a) | a)
    · exact .inl (.inl a)
    · exact .inr a
    · exact .inl (.inr a)
  · rintro ((a | a) | a)
    · exact .inl (.inl a)
    · exact .inr a
    · exact .inl (.inr a)

theorem FOK.alloc {M Y : Addr → Prop} {env : Env} {h : Heap} (F : FOK B M Y bx sc env ρ h) (o : Obj) (ho : o.isFreed = false) (S : BoxOK (MY M Y) bx h st) : FOK B (plus M h.objs.size) Y bx sc env ρ (h.push o) := by
  have k := pushed_keeps (h := h) o
  have nxt : ¬ MY M Y h.objs.size := F.eok.bg.next
  exact {
    eok := swap_MY ▸ F.eok.alloc o ho S
    disj := fun b m => m.elim (F.disj b) fun e y => nxt (e ▸ .inr y)
    locM := .inl F.locM
    ns := F.ns.imp fun m q => q.push o
    cellM := fun n c e => ⟨.inl (F.cellM n c e).1, (F.cellM n c e).2.1, (F.cellM n c e).2.2.imp fun v q => q.keeps k⟩
    apart := F.apart
    cells := F.cells
    own := fun x sl D e i b => by
      obtain ⟨h1, h2, h3, h4⟩ := F.own x sl D e i (F.bound_keeps k b e)
      exact ⟨.inl h1, h2, h3, fun y sl' hy e' i' b' => h4 y sl' hy e' i' (F.bound_keeps k b' e')⟩
    boxY := F.boxY }

theorem grow_plus {M : Addr → Prop} {h : Heap} : Grow M (plus M h.objs.size) h := fun b m => m.imp id fun e => by
  cases q : h.get? b with
  | none => rfl
  | some o => rw [e] at q; exact absurd (Heap.lt_size q) (Nat.lt_irrefl _)

/-- a fresh list, put under a name as its own -/
theorem store_own {A : Around} {M Y : Addr → Prop} {env : Env} {s : Shared} {x : Str} {ts : List T} {vs : List Value} {D m : Nat} {Q : Unit → Shared → Prop} {E : Value → Shared → Prop} (F : FOK B M Y bx sc env ρ s.heap) (S : BoxOK (MY M Y) bx s.heap st)
    (k : sc.names.lookup x = some .local ∨ sc.names.lookup x = some .cell) (hs : SetTo x (.own ts) ρ ρ') (mD : M D) (e : s.heap.get? D = some (listObj vs m)) (r : RepAll (vis (MY M Y) s.heap) ts vs)
    (dl : D ≠ env.locals) (dc : ∀ n c, env.cells.lookup n = some c → D ≠ c) (db : ∀ y sl, ρ.lookup y = some sl → sl.isSh = false → ¬ Bound env s.heap y (.ref D))
    (q : ∀ h' tk, KeepM M bx s.heap h' → FOK B M Y bx sc env ρ' h' → BoxOK (MY M Y) bx h' st → Q () { s with heap := h', toks := tk }) :
    wpAny (model B.prog B.w) A (storeName env x (.ref D)) Q E s :=
  store_ F S k hs ⟨D, vs, m, rfl, .inl mD, e, r⟩ (fun D' e' _ => by cases e'; exact F.notBox mD) (fun D' e' _ => by
    cases e'
    exact ⟨mD, dl, dc, fun y sl' hy e'' i b => db y sl' e'' i b⟩) q

theorem FOK.fresh_own {M Y : Addr → Prop} {env : Env} {h : Heap} (F : FOK B M Y bx sc env ρ h) (o : Obj) : (h.objs.size ≠ env.locals) ∧ (∀ n c, env.cells.lookup n = some c → h.objs.size ≠ c) := by
  constructor
  · obtain ⟨m, hn⟩ := F.ns
    exact Nat.ne_of_gt hn.lt
  · intro n c e
    obtain ⟨_, _, v, hv⟩ := F.cellM n c e
    exact Nat.ne_of_gt hv.lt


theorem FOK.own_lt {M Y : Addr → Prop} {env : Env} {h : Heap} (F : FOK B M Y bx sc env ρ h) {y : Str} {sl : Sl} {D : Addr} (e : ρ.lookup y = some sl) (i : sl.isSh = false) (b : Bound env h y (.ref D)) : D < h.objs.size := by
  obtain ⟨u, b₀, s, _⟩ := F.eok.vars y sl e
  cases bound_det b b₀
  cases sl with
  | sh t => cases i
  | own ts => obtain ⟨D', vs, m, e, _, q, _⟩ := s; cases e; exact Heap.lt_size q
  | odict ts => obtain ⟨D', vs, m, e, _, q, _⟩ := s; cases e; exact Heap.lt_size q

theorem FOK.fresh_not {M Y : Addr → Prop} {env : Env} {h : Heap} (F : FOK B M Y bx sc env ρ h) (o : Obj) {y : Str} {sl : Sl} (e : ρ.lookup y = some sl) (i : sl.isSh = false) : ¬ Bound env (h.push o) y (.ref h.objs.size) := fun b =>
  Nat.lt_irrefl _ (F.own_lt e i (F.bound_keeps (pushed_keeps o) b e))

/-- x = [e1, e2 ..]: a list of the frame's own -/
theorem Ex1.ownNew {x : Str} {p' lp p : Pos} {es : List Expr} {ts : List T} (h : Evs B bx n sc ρ st es ts st₁) (k : sc.names.lookup x = some .local ∨ sc.names.lookup x = some .cell) (hs : SetTo x (.own ts) ρ ρ') (hz : ts.length ≤ sizeLine := by (try simp only [List.length_cons, List.length_nil]); decide) :
    Ex1 B bx n sc ρ st (.Assign [.Name x p'] (.List es lp) p) (.next ρ' st₁) := fun A M Y env sh Q r F S q => by
  refine wpAny_Assign_Name (wpAny_List (h A _ env sh _ _ r F.eok S fun vs h₁ tk₁ x₁ S₁ rs => ⟨by rw [rs.length]; exact hz, ?_⟩))
  have F₁ := F.keeps x₁ S₁
  have o : Obj := listObj vs 0
  have kp := pushed_keeps (h := h₁) (listObj vs 0)
  have F₂ := F₁.alloc (listObj vs 0) rfl S₁
  have S₂ : BoxOK (MY (plus M h₁.objs.size) Y) bx (h₁.push (listObj vs 0)) st₁ := (S₁.keeps kp).wider fun b m => m.imp .inl id
  have fo := F₁.fresh_own (listObj vs 0)
  have rs' : RepAll (vis (MY (plus M h₁.objs.size) Y) (h₁.push (listObj vs 0))) ts vs := rs.mono fun a o w => ⟨fun z => by
    rcases z with (z | z) | z
    · exact w.1 (.inl z)
    · rw [z] at w; exact absurd (Heap.lt_size w.2) (Nat.lt_irrefl _)
    · exact w.1 (.inr z), kp _ _ w.2⟩
  refine store_own (s := { sh with heap := h₁.push (listObj vs 0), toks := tk₁ }) F₂ S₂ k hs (.inr rfl) (Heap.get?_push_size _ rfl) rs' fo.1 fo.2 (fun y sl e i => F₁.fresh_not _ e i) fun h₃ tk₃ km F₃ S₃ => ?_
  · refine q _ h₃ tk₃ (((KeepM.of_ext x₁).trans Grow.refl (KeepM.of_ext (Ext.of_stays kp))).trans ?_ km) ?_ F₃ S₃
    · exact fun b m => m.imp id fun e => by
        subst e
        cases g : sh.heap.get? h₁.objs.size with
        | none => rfl
        | some o' => exact absurd (Heap.lt_size (x₁ _ _ (fun i => F₁.eok.bg.next (.inr (F.boxY _ i))) g)) (Nat.lt_irrefl _)
    · exact fun b m => m.imp id fun e => by
        subst e
        cases g : sh.heap.get? h₁.objs.size with
        | none => rfl
        | some o' => exact absurd (Heap.lt_size (x₁ _ _ (fun i => F₁.eok.bg.next (.inr (F.boxY _ i))) g)) (Nat.lt_irrefl _)

/-- an own object is written anew -/
theorem FOK.update {M Y : Addr → Prop} {env : Env} {h h' : Heap} {x : Str} {sl sl' : Sl} {D : Addr} (F : FOK B M Y bx sc env ρ h) (S : BoxOK (MY M Y) bx h st) (e : ρ.lookup x = some sl) (i : sl.isSh = false) (i' : sl'.isSh = false) (b : Bound env h x (.ref D))
    (hs : SetTo x sl' ρ ρ') (sb : ∀ a, a ≠ D → h'.get? a = h.get? a) (ob : ∃ o, h'.get? D = some o) (r : SlotOK (MY M Y) h' sl' (.ref D)) : KeepM M bx h h' ∧ FOK B M Y bx sc env ρ' h' ∧ BoxOK (MY M Y) bx h' st := by
  obtain ⟨mD, dl, dc, du⟩ := F.own x sl D e i b
  have nb := F.notBox mD
  have km : KeepM M bx h h' := fun a o m _ q => (sb a fun z => m (z ▸ mD)).trans q
  have kv : ∀ a o, vis (MY M Y) h a o → vis (MY M Y) h' a o := fun a o w => ⟨w.1, (sb a fun z => w.1 (.inl (z ▸ mD))).trans w.2⟩
  have S' : BoxOK (MY M Y) bx h' st := fun p e => by
    obtain ⟨h1, h2, h3, ⟨n, t, h4⟩, m, vs, h5, h6⟩ := S p e
    refine ⟨h1, h2, h3, ⟨n, t, (sb _ fun z => ?_).trans h4⟩, m, vs, (sb _ fun z => ?_).trans h5, h6⟩
    · exact nb (z ▸ ⟨p, e, .inl rfl⟩)
    · exact nb (z ▸ ⟨p, e, .inr rfl⟩)
  have up : ∀ {y w}, Bound env h y w → Bound env h' y w := fun b => b.keeps (fun o q => (sb _ (Ne.symm dl)).trans q) (fun n c o q q' => (sb _ (Ne.symm (dc n c q))).trans q')
  have down : ∀ {y w}, Bound env h' y w → Bound env h y w := fun b => b.keeps (fun o q => (sb _ (Ne.symm dl)).symm.trans q) (fun n c o q q' => (sb _ (Ne.symm (dc n c q))).symm.trans q')
  have lk := hs.lookup
  refine ⟨km, ?_, S'⟩
  exact {
    eok := {
      bg := ⟨fun a o q => ⟨(F.eok.bg.bg a o q).1, (sb a fun z => (F.eok.bg.bg a o q).1 (.inl (z ▸ mD))).trans (F.eok.bg.bg a o q).2⟩, fun a m => by
        by_cases z : a = D
        · subst z; exact ob
        · exact (F.eok.bg.live a m).imp fun o q => (sb a z).trans q⟩
      scope := F.eok.scope
      kind := F.eok.kind
      glob := F.eok.glob
      blt := F.eok.blt
      locB := F.eok.locB
      cellB := F.eok.cellB
      vars := fun y s' e' => by
        rw [lk y] at e'
        by_cases z : y = x
        · subst z
          rw [if_pos rfl] at e'; cases e'
          exact ⟨.ref D, up b, r, fun D' q _ => by cases q; exact nb⟩
        · rw [if_neg z] at e'
          obtain ⟨w, bw, rw', nw⟩ := F.eok.vars y s' e'
          refine ⟨w, up bw, ?_, nw⟩
          cases s' with
          | sh t => exact Rep.mono kv rw'
          | own ts =>
            obtain ⟨D', vs, m, rfl, xx, q, rr⟩ := rw'
            exact ⟨D', vs, m, rfl, xx, (sb _ fun zz => du y _ z e' rfl (zz ▸ bw)).trans q, RepAll.mono kv rr⟩
          | odict ts =>
            obtain ⟨D', vs, m, rfl, xx, q, rr⟩ := rw'
            exact ⟨D', vs, m, rfl, xx, (sb _ fun zz => du y _ z e' rfl (zz ▸ bw)).trans q, RepD.mono kv rr⟩ }
    disj := F.disj
    locM := F.locM
    ns := by
      obtain ⟨m, o, es, ep, q, rr⟩ := F.ns
      exact ⟨m, o, es, ep, (sb _ (Ne.symm dl)).trans q, rr⟩
    cellM := fun n c q => by
      obtain ⟨h1, h2, v, o, q', rr⟩ := F.cellM n c q
      exact ⟨h1, h2, v, o, (sb _ (Ne.symm (dc n c q))).trans q', rr⟩
    apart := F.apart
    cells := F.cells
    own := fun y s' D' e' ii bb => by
      have bb := down bb
      rw [lk y] at e'
      by_cases z : y = x
      · subst z
        obtain rfl : D = D' := by cases bound_det b bb; rfl
        refine ⟨mD, dl, dc, fun y' s'' hy e'' i'' b'' => ?_⟩
        rw [lk y', if_neg hy] at e''
        exact du y' s'' hy e'' i'' (down b'')
      · rw [if_neg z] at e'
        obtain ⟨h1, h2, h3, h4⟩ := F.own y s' D' e' ii bb
        refine ⟨h1, h2, h3, fun y' s'' hy e'' i'' b'' => ?_⟩
        rw [lk y'] at e''
        by_cases zz : y' = x
        · subst zz
          exact h4 y' sl hy e i (down b'')
        · rw [if_neg zz] at e''
          exact h4 y' s'' hy e'' i'' (down b'')
    boxY := F.boxY }

theorem interactive_of {env : Env} (h : env.scope.kind = .function) : interactive env = false := by
  unfold interactive
  rw [h]; rfl

/-- x.append(e), x a list of the frame's own -/
theorem Ex1.append {x : Str} {np ap p p' : Pos} {e : Expr} {ts : List T} {t : T} (e0 : ρ.lookup x = some (.own ts)) (h : Ev B bx n sc ρ st e t st₁) (hs : SetTo x (.own (ts ++ [t])) ρ ρ') (hz : ts.length ≤ sizeLine)
    (hn : (x == ("__classdict__" : Str)) = false := by decide) (hd : (x == ("__debug__" : Str)) = false := by decide) (hp : ∀ env, starEach [e] env = (false, eval e env) :: starEach [] env := by intro _; rfl)
    {pl : Env → Sem Bool} (he : ∀ env, eval (.Call (.Attribute (.Name x np) "append" ap) [e] [] p) env = (do
      let ov ← eval (.Name x np) env
      standAt ap.atName
      let (f, first) ← holding [ov] (getMethod ov "append" (pl env))
      callWith p f first (backTo p (starEach [e] env)) []))
    (hw : ∀ env, swapsWith (.Call (.Attribute (.Name x np) "append" ap) [e] [] p) Option.none p'.line env = pure false := by intro _; rfl) :
    Ex1 B bx n sc ρ st (.Expr (.Call (.Attribute (.Name x np) "append" ap) [e] [] p) p') (.next ρ' st₁) := fun A M Y env sh Q r F S q => by
  have hk : env.scope.kind = .function := by rw [F.eok.scope]; exact F.eok.kind
  refine wpAny_Expr ?_ (interactive_of hk) (hw env)
  obtain ⟨v, b, ⟨D, vs, m, rfl, xD, eD, rs⟩, _⟩ := F.eok.vars x _ e0
  refine MethodCall_ (pl := pl env) (wpAny_Name (load_bound hk b ?_ hn) hd) (he env)
  refine Calls.getMethod_list_append eD rfl rfl ?_
  refine callWith_method1 (Evs.cons h Evs.nil hp A _ env _ _ _ r F.eok S fun ws h₁ tk₁ x₁ S₁ rw => ?_) (hp env)
  obtain ⟨w, _, rfl, rw', rfl⟩ := rw
  have F₁ := F.keeps x₁ S₁
  have nb := F.notBox (F.own x _ D e0 rfl b).1
  have eD₁ : h₁.get? D = some (listObj vs m) := x₁ _ _ nb eD
  have b₁ : Bound env h₁ x (.ref D) := b.keeps (fun o q => x₁ _ _ F.eok.locB q) (fun n c o e q => x₁ _ _ (F.eok.cellB n c e) q)
  refine wpAny_list_append_plain (s := { sh with heap := h₁, toks := tk₁ }) ⟨m, eD₁⟩ (fun h₂ ho₂ hs₂ => ?_) (by rw [List.size_toArray, rs.length]; exact hz)
  obtain ⟨m₂, ho₂⟩ := ho₂
  have kv : ∀ a o, vis (MY M Y) h₁ a o → vis (MY M Y) h₂ a o := fun a o w => ⟨w.1, (hs₂.2 a fun z => w.1 (z ▸ xD)).trans w.2⟩
  have rs₁ := rs.mono (vis_ext (fun _ i => inBox_X S₁ i) x₁)
  have z := F₁.update S₁ e0 rfl (sl' := .own (ts ++ [t])) rfl b₁ hs hs₂.2 ⟨_, ho₂⟩ ⟨D, vs ++ [w], m₂, rfl, xD, by rw [ho₂]; simp [listObj], (rs₁.append (RepAll.one rw')).mono kv⟩
  exact q M h₂ tk₁ ((KeepM.of_ext x₁).trans Grow.refl z.1) Grow.refl z.2.1 z.2.2

/-- the own list becomes a shared one -/
theorem FOK.freeze {M Y : Addr → Prop} {env : Env} {h : Heap} {x : Str} {ts : List T} {D : Addr} (F : FOK B M Y bx sc env ρ h) (e0 : ρ.lookup x = some (.own ts)) (hs : SetTo x (.sh (.list ts)) ρ ρ') (b : Bound env h x (.ref D)) : FOK B (less M D) Y bx sc env ρ' h := by
  obtain ⟨mD, dl, dc, du⟩ := F.own x _ D e0 rfl b
  have kv : ∀ a o, vis (MY M Y) h a o → vis (MY (less M D) Y) h a o := fun a o w => ⟨fun z => w.1 (z.imp (·.1) id), w.2⟩
  have lk := hs.lookup
  exact {
    eok := {
      bg := ⟨fun a o q => ⟨fun z => (F.eok.bg.bg a o q).1 (z.imp (·.1) id), (F.eok.bg.bg a o q).2⟩, fun a m => F.eok.bg.live a (m.imp (·.1) id)⟩
      scope := F.eok.scope
      kind := F.eok.kind
      glob := F.eok.glob
      blt := F.eok.blt
      locB := F.eok.locB
      cellB := F.eok.cellB
      vars := fun y s' e' => by
        rw [lk y] at e'
        by_cases z : y = x
        · subst z
          rw [if_pos rfl] at e'; cases e'
          obtain ⟨v, b', ⟨D', vs, m, rfl, xD, eD, rs⟩, _⟩ := F.eok.vars y _ e0
          cases bound_det b b'
          exact ⟨.ref D, b, ⟨D, vs, m, rfl, ⟨fun z => z.elim (fun m => m.2 rfl) (F.disj D mD), eD⟩, rs.mono kv⟩, fun _ _ i => absurd rfl (i _)⟩
        · rw [if_neg z] at e'
          obtain ⟨w, bw, rw', nw⟩ := F.eok.vars y s' e'
          refine ⟨w, bw, ?_, nw⟩
          cases s' with
          | sh t => exact Rep.mono kv rw'
          | own us =>
            obtain ⟨D', vs, m, rfl, xx, q, rr⟩ := rw'
            exact ⟨D', vs, m, rfl, xx.imp (fun m => ⟨m, fun zz => du y _ z e' rfl (zz ▸ bw)⟩) id, q, RepAll.mono kv rr⟩
          | odict us =>
            obtain ⟨D', vs, m, rfl, xx, q, rr⟩ := rw'
            exact ⟨D', vs, m, rfl, xx.imp (fun m => ⟨m, fun zz => du y _ z e' rfl (zz ▸ bw)⟩) id, q, RepD.mono kv rr⟩ }
    disj := fun b m => F.disj b m.1
    locM := ⟨F.locM, Ne.symm dl⟩
    ns := F.ns
    cellM := fun n c q => ⟨⟨(F.cellM n c q).1, Ne.symm (dc n c q)⟩, (F.cellM n c q).2⟩
    apart := F.apart
    cells := F.cells
    own := fun y s' D' e' ii bb => by
      rw [lk y] at e'
      by_cases z : y = x
      · subst z
        rw [if_pos rfl] at e'; cases e'; cases ii
      · rw [if_neg z] at e'
        obtain ⟨h1, h2, h3, h4⟩ := F.own y s' D' e' ii bb
        refine ⟨⟨h1, fun zz => du y s' z e' ii (zz ▸ bb)⟩, h2, h3, fun y' s'' hy e'' i'' b'' => ?_⟩
        rw [lk y'] at e''
        by_cases zz : y' = x
        · subst zz
          rw [if_pos rfl] at e''; cases e''; cases i''
        · rw [if_neg zz] at e''
          exact h4 y' s'' hy e'' i'' b''
    boxY := F.boxY }

theorem BoxOK.less {M Y : Addr → Prop} {h : Heap} {D : Addr} (S : BoxOK (MY M Y) bx h st) (hY : ∀ b, InBox bx b → Y b) : BoxOK (MY (less M D) Y) bx h st := fun p e => by
  obtain ⟨_, _, r⟩ := S p e
  exact ⟨.inr (hY _ ⟨p, e, .inl rfl⟩), .inr (hY _ ⟨p, e, .inr rfl⟩), r⟩

theorem Exs.freeze {x : Str} {ts : List T} {ss : List Stmt} (e0 : ρ.lookup x = some (.own ts)) (hs : SetTo x (.sh (.list ts)) ρ ρ') (h : Exs B bx n sc ρ' st ss out) : Exs B bx n sc ρ st ss out := fun A M Y env sh Q r F S q => by
  obtain ⟨v, b, ⟨D, vs, m, rfl, xD, eD, rs⟩, _⟩ := F.eok.vars x _ e0
  refine h A (less M D) Y env sh Q r (F.freeze e0 hs b) (S.less F.boxY) ?_
  cases out with
  | next ρ₂ st₂ => exact fun M' h' tk k g F' S' => q M' h' tk (fun b o n i e => k b o (fun m => n m.1) i e) (fun b m => (g b m).imp (·.1) id) F' S'
  | ret t st₂ => exact fun M' v h' tk k g r' S' => q M' v h' tk (fun b o n i e => k b o (fun m => n m.1) i e) (fun b m => (g b m).imp (·.1) id) r' S'

/-- trees without a reference -/
noncomputable def T.atom : T → Bool
  | .none => true
  | .bool _ => true
  | .int _ => true
  | .str _ => true
  | _ => false
theorem Rep.atom {V V' : Vis} {t : T} {v : Value} (h : t.atom = true) (r : Rep V t v) : Rep V' t v := by
  cases t <;> first | exact r | cases h
end
end Mine
namespace Mine
open PySem PySem.W PyProof.Rows
section
variable {B : Bg} {bx : Bx} {n : Nat} {sc : Scope} {ρ ρ' ρ₁ ρ₂ : REnv} {st st₁ st₂ st₃ : BSt} {out : Out}

/-- an own list read as if it were shared, where what comes out bears no reference -/
theorem EOK.lend {X : Addr → Prop} {env : Env} {h : Heap} {x : Str} {ts : List T} {D : Addr} (F : EOK B X bx sc env ρ h) (e0 : ρ.lookup x = some (.own ts)) (hs : SetTo x (.sh (.list ts)) ρ ρ') (b : Bound env h x (.ref D))
    (others : ∀ y s', y ≠ x → ρ.lookup y = some s' → s'.isSh = true) : EOK B (less X D) bx sc env ρ' h := by
  have kv : ∀ a o, vis X h a o → vis (less X D) h a o := fun a o w => ⟨fun z => w.1 z.1, w.2⟩
  have lk := hs.lookup
  exact {
    bg := ⟨fun a o q => ⟨fun z => (F.bg.bg a o q).1 z.1, (F.bg.bg a o q).2⟩, fun a m => F.bg.live a m.1⟩
    scope := F.scope
    kind := F.kind
    glob := F.glob
    blt := F.blt
    locB := F.locB
    cellB := F.cellB
    vars := fun y s' e' => by
      rw [lk y] at e'
      by_cases z : y = x
      · subst z
        rw [if_pos rfl] at e'; cases e'
        obtain ⟨v, b', ⟨D', vs, m, rfl, xD, eD, rs⟩, _⟩ := F.vars y _ e0
        cases bound_det b b'
        exact ⟨.ref D, b, ⟨D, vs, m, rfl, ⟨fun z => z.2 rfl, eD⟩, rs.mono kv⟩, fun _ _ i => absurd rfl (i _)⟩
      · rw [if_neg z] at e'
        obtain ⟨w, bw, rw', nw⟩ := F.vars y s' e'
        refine ⟨w, bw, ?_, nw⟩
        cases s' with
        | sh t => exact Rep.mono kv rw'
        | own us => cases others y _ z e'
        | odict us => cases others y _ z e' }

/-- the frames' names but x hold shared trees -/
noncomputable def OnlyOwn (x : Str) (ρ : REnv) : Prop := ∀ y s', y ≠ x → ρ.lookup y = some s' → s'.isSh = true
theorem onlyOwn_of {x : Str} : ∀ {ρ : REnv}, (ρ.all fun p => p.1 == x || p.2.isSh) = true → OnlyOwn x ρ
  | [], _, _, _, _, e => by simp at e
  | (z, s) :: r, h, y, s', hy, e => by
    rw [List.all_cons, Bool.and_eq_true_iff] at h
    rw [List.lookup_cons] at e
    cases hb : y == z with
    | true =>
      rw [hb] at e; cases e
      rcases Bool.or_eq_true_iff.mp h.1 with q | q
      · exact absurd ((beq_iff_eq.mp hb).trans (beq_iff_eq.mp q)) hy
      · exact q
    | false => rw [hb] at e; exact onlyOwn_of h.2 y s' hy e

theorem lend_box {X : Addr → Prop} {h : Heap} {D : Addr} (S : BoxOK X bx h st) (nb : ¬ InBox bx D) : BoxOK (less X D) bx h st := fun p e => by
  obtain ⟨h1, h2, r⟩ := S p e
  exact ⟨⟨h1, fun z => nb (z ▸ ⟨p, e, .inl rfl⟩)⟩, ⟨h2, fun z => nb (z ▸ ⟨p, e, .inr rfl⟩)⟩, r⟩
theorem unlend_box {X : Addr → Prop} {h : Heap} {D : Addr} (S : BoxOK (less X D) bx h st) : BoxOK X bx h st := S.wider fun b m => m.1

theorem Ev.lend {x : Str} {ts : List T} {e : Expr} {t : T} (e0 : ρ.lookup x = some (.own ts)) (hs : SetTo x (.sh (.list ts)) ρ ρ') (ho : OnlyOwn x ρ) (h : Ev B bx n sc ρ' st e t st₁) (ha : t.atom = true) : Ev B bx n sc ρ st e t st₁ := fun A X env s Q r F S q => by
  obtain ⟨v, b, ⟨D, vs, m, rfl, xD, eD, rs⟩, nb⟩ := F.vars x _ e0
  have nb : ¬ InBox bx D := nb D rfl fun _ i => nomatch i
  exact h A _ env s Q r (F.lend e0 hs b ho) (lend_box S nb) fun v h' tk k S' rv => q v h' tk k (unlend_box S') (rv.atom ha)
theorem Tr.lend {x : Str} {ts : List T} {e : Expr} {c : Bool} (e0 : ρ.lookup x = some (.own ts)) (hs : SetTo x (.sh (.list ts)) ρ ρ') (ho : OnlyOwn x ρ) (h : Tr B bx n sc ρ' st e c st₁) : Tr B bx n sc ρ st e c st₁ := fun A X env s Q r F S q => by
  obtain ⟨v, b, ⟨D, vs, m, rfl, xD, eD, rs⟩, nb⟩ := F.vars x _ e0
  have nb : ¬ InBox bx D := nb D rfl fun _ i => nomatch i
  exact h A _ env s Q r (F.lend e0 hs b ho) (lend_box S nb) fun h' tk k S' => q h' tk k (unlend_box S')

/-- an item of an own list -/
theorem Ev.ownItem {x : Str} {i : Expr} {np p : Pos} {ts : List T} {k : Int} {t : T} (e0 : ρ.lookup x = some (.own ts)) (h' : Ev B bx n sc ρ st i (.int k) st₁) (h0 : 0 ≤ k) (hk : ts[k.toNat]? = some t)
    (hz : ts.length ≤ 2 ^ 24) (hs : ∀ o j, subscripted i false o j = operate [o, j] (getItem o j) := by intro _ _; with_unfolding_all rfl)
    (hn : (x == ("__classdict__" : Str)) = false := by decide) (hd : (x == ("__debug__" : Str)) = false := by decide) :
    Ev B bx n sc ρ st (.Subscript (.Name x np) i p) t st₁ := fun A X env s Q rm F S q => by
  have hkind : env.scope.kind = .function := by rw [F.scope]; exact F.kind
  obtain ⟨v, b, ⟨D, vs, m, rfl, xD, eD, rs⟩, nb⟩ := F.vars x _ e0
  have nb : ¬ InBox bx D := nb D rfl fun _ i => nomatch i
  refine Subscript_ (wpAny_Name (load_bound hkind b ?_ hn) hd)
  refine h' A X env _ _ rm F S fun u h₂ tk₂ x₂ S₂ ru => ?_
  obtain ⟨tu, rfl⟩ := ru
  obtain ⟨w, hx, rx⟩ := (rs.mono (vis_ext (fun _ i => inBox_X S i) x₂)).get hk
  have hl : h₂.IsList D vs.toArray := ⟨_, x₂ _ _ nb eD, rfl, _, rfl⟩
  refine tail_any (Heap.IsList.typeIs (s := { s with heap := h₂, toks := tk₂ }) hl) slot_list_getitem.lookup (wpAny_getItem_list (s := { s with heap := h₂, toks := tk₂ }) hl h0 ?_ (by simpa using hx) (q w h₂ tk₂ x₂ S₂ rx)) (hs _ _)
  have : k.toNat < ts.length := by
    rcases Nat.lt_or_ge k.toNat ts.length with g | g
    · exact g
    · rw [List.getElem?_eq_none g] at hk; cases hk
  omega

theorem stores_last {A : Around} {M Y : Addr → Prop} {env : Env} {Q : Unit → Shared → Prop} {E : Value → Shared → Prop} {x : Str} {f : Value → Sem Unit} {us : List T} {ws : List Value} {D m : Nat}
    (hfx : ∀ v (Q : Unit → Shared → Prop) (E : Value → Shared → Prop) s, wpAny (model B.prog B.w) A (storeName env x v) Q E s → wpAny (model B.prog B.w) A (f v) Q E s)
    (kx' : sc.names.lookup x = some .local ∨ sc.names.lookup x = some .cell) (mD : M D) (dl : D ≠ env.locals) (dc : ∀ n c, env.cells.lookup n = some c → D ≠ c)
    {xs : List Str} {fs : List (Value → Sem Unit)} (hf : Stores (model B.prog B.w) A env xs fs) :
    ∀ {ts : List T} {vs : List Value} {ρ ρ₁ ρ' : REnv} {s : Shared}, FOK B M Y bx sc env ρ s.heap → BoxOK (MY M Y) bx s.heap st → xs.length = ts.length →
      (∀ x ∈ xs, sc.names.lookup x = some .local ∨ sc.names.lookup x = some .cell) → SetsTo (xs.zip ts) ρ ρ₁ → SetTo x (.own us) ρ₁ ρ' → RepAll (vis (MY M Y) s.heap) ts vs →
      s.heap.get? D = some (listObj ws m) → RepAll (vis (MY M Y) s.heap) us ws → (∀ y sl, ρ.lookup y = some sl → sl.isSh = false → ¬ Bound env s.heap y (.ref D)) →
      (∀ h' tk, KeepM M bx s.heap h' → FOK B M Y bx sc env ρ' h' → BoxOK (MY M Y) bx h' st → Q () { s with heap := h', toks := tk }) → wpAny (model B.prog B.w) A (assignInOrder (fs ++ [f]) (vs ++ [.ref D])) Q E s := by
  induction hf with
  | nil =>
    intro ts vs ρ ρ₁ ρ' s F S hl k hs hs' r eD rD no q
    cases ts with
    | nil =>
      cases hs
      rw [show vs = [] from r]
      show wpAny _ A (do holding [] (f (.ref D)); assignInOrder [] []) Q E s
      refine wpAny_bind (wpAny_holding (hfx _ _ _ s (store_own F S kx' hs' mD eD rD dl dc no fun h' tk km F' S' => ?_)))
      exact wpAny_pure (q h' tk km F' S')
    | cons t r => simp at hl
  | @cons y g xs fs hg _ ih =>
    intro ts vs ρ ρ₁ ρ' s F S hl k hs hs' r eD rD no q
    cases ts with
    | nil => simp at hl
    | cons t ts =>
      cases hs
      rename_i ρ₂ h1 h2
      obtain ⟨v, vs', rfl, rv, rs⟩ := r
      show wpAny _ A (do holding (vs' ++ [.ref D]) (g v); assignInOrder (fs ++ [f]) (vs' ++ [.ref D])) Q E s
      refine wpAny_bind (wpAny_holding (hg v _ _ s (store_x F S (k y (.head _)) h1 rv (fun _ _ i => nomatch i) (fun _ _ i => nomatch i) fun h₁ tk₁ km F₁ S₁ same old => ?_)))
      have kv : ∀ a o, vis (MY M Y) s.heap a o → vis (MY M Y) h₁ a o := fun a o w => ⟨w.1, km a o (fun m => w.1 (.inl m)) (fun i => w.1 (.inr (F.boxY a i))) w.2⟩
      refine ih F₁ S₁ (by simpa using hl) (fun y hy => k y (.tail _ hy)) h2 hs' (rs.mono kv) ((same D dl dc).trans eD) (rD.mono kv) (fun z sl e i b => ?_) fun h₂ tk₂ km₂ F₂ S₂ => q h₂ tk₂ (km.trans Grow.refl km₂) F₂ S₂
      rw [h1.lookup z] at e
      by_cases hz : z = y
      · subst hz; rw [if_pos rfl] at e; cases e; cases i
      · rw [if_neg hz] at e
        obtain ⟨w, bw, sw, _⟩ := F.eok.vars z sl e
        cases bound_det b (old z w hz bw)
        exact no z sl e i bw

/-- a, b, c = [], x, y: a list of the frame's own, and shared values -/
theorem Ex1.assignOwn {x : Str} {lp tp tp' p : Pos} {elts es : List Expr} {k k' : Nat} {xs : List Str} {ts : List T} (h : Evs B bx n sc ρ st es ts st₁) (hl : xs.length = ts.length)
    (kx : ∀ y ∈ xs, sc.names.lookup y = some .local ∨ sc.names.lookup y = some .cell) (kx' : sc.names.lookup x = some .local ∨ sc.names.lookup x = some .cell) (hs : SetsTo (xs.reverse.zip ts.reverse) ρ ρ₁) (hs' : SetTo x (.own []) ρ₁ ρ')
    (hz : ts.length + 1 ≤ sizeLine := by (try simp only [List.length_cons, List.length_nil]); decide)
    (hw : ∀ env, swapsWithSole [.Tuple elts k tp] (.Tuple (.List [] lp :: es) k' tp') p.line env = pure false := by intro _; rfl) (hv : ∀ env : Env, env.scope = sc → swappedStores [.Tuple elts k tp] (.Tuple (.List [] lp :: es) k' tp') env = pure (some (x :: xs)))
    (hp : ∀ env, starEach (.List [] lp :: es) env = (false, eval (.List [] lp) env) :: starEach es env := by intro _; rfl) :
    Ex1 B bx n sc ρ st (.Assign [.Tuple elts k tp] (.Tuple (.List [] lp :: es) k' tp') p) (.next ρ' st₁) := fun A M Y env sh Q r F S q => by
  refine Assign_Tuple_swapped (names := x :: xs) (wpAny_Tuple (wpAny_items_cons (wpAny_List (wpAny_items_nil ⟨by decide, ?_⟩)) (hp env))) (hw env) (hv env F.eok.scope)
  have kp := pushed_keeps (h := sh.heap) (listObj [] 0)
  have F₁ := F.alloc (listObj [] 0) rfl S
  have S₁ : BoxOK (MY (plus M sh.heap.objs.size) Y) bx (sh.heap.push (listObj [] 0)) st := (S.keeps kp).wider fun b m => m.imp .inl id
  have fo := F.fresh_own (listObj [] 0)
  have eD : (sh.heap.push (listObj [] 0)).get? sh.heap.objs.size = some (listObj [] 0) := Heap.get?_push_size _ rfl
  have mD : plus M sh.heap.objs.size sh.heap.objs.size := .inr rfl
  refine h A _ env { sh with heap := sh.heap.push (listObj [] 0) } _ _ r F₁.eok S₁ fun vs h₂ tk₂ x₂ S₂ rs => ⟨by rw [List.length_cons, rs.length]; exact hz, ?_⟩
  have F₂ := F₁.keeps x₂ S₂
  have kp₂ := pushed_keeps (h := h₂) (tupObj (.ref sh.heap.objs.size :: vs) 0)
  have F₃ := F₂.keeps (Ext.of_stays kp₂) (S₂.keeps kp₂)
  have hz' : (x :: xs).length = (Value.ref sh.heap.objs.size :: vs).toArray.size := by rw [List.size_toArray, List.length_cons, List.length_cons, rs.length, hl]
  rw [hz']
  refine unpackItems_tuple (s := { sh with heap := h₂.push (tupObj (.ref sh.heap.objs.size :: vs) 0), toks := tk₂ }) (items := (Value.ref sh.heap.objs.size :: vs).toArray) r.1 ⟨_, Heap.get?_push_size _ rfl, rfl, _, rfl⟩ fun h₄ e₄ => ?_
  have k₄ := ext_but_next e₄
  have S₄ := (S₂.keeps kp₂).keeps k₄
  have F₄ := F₃.keeps (Ext.of_stays k₄) S₄
  have nb := F₁.notBox mD
  have eD₂ : h₂.get? sh.heap.objs.size = some (listObj [] 0) := x₂ _ _ nb eD
  have bk : ∀ {y : Str} {sl : Sl} {v : Value}, ρ.lookup y = some sl → Bound env h₄ y v → Bound env sh.heap y v := fun {y sl v} e b => by
    obtain ⟨u, b₀, _⟩ := F.eok.vars y sl e
    have up : Bound env h₄ y u := (((b₀.keeps (h' := sh.heap.push (listObj [] 0)) (fun o' q => kp _ _ q) (fun _ _ o' _ q => kp _ _ q)).keeps (h' := h₂) (fun o q => x₂ _ _ F.eok.locB q) (fun n c o e q => x₂ _ _ (F.eok.cellB n c e) q)).keeps
      (h' := h₂.push (tupObj (.ref sh.heap.objs.size :: vs) 0)) (fun o' q => kp₂ _ _ q) (fun _ _ o' _ q => kp₂ _ _ q)).keeps (fun o' q => k₄ _ _ q) (fun _ _ o' _ q => k₄ _ _ q)
    cases bound_det b up
    exact b₀
  have hrev : (Value.ref sh.heap.objs.size :: vs).toArray.toList.reverse = vs.reverse ++ [.ref sh.heap.objs.size] := by simp
  have hrevn : ((x :: xs).reverse.map fun n => bindName env n) = (xs.reverse.map fun n => bindName env n) ++ [bindName env x] := by simp
  rw [hrev, hrevn]
  refine stores_last (s := { sh with heap := h₄, toks := tk₂ }) (fun v Q E s h => wpAny_bindName h) kx' mD fo.1 fo.2 (bindNames xs.reverse) F₄ S₄ (by simpa using hl) (fun y hy => kx y (by simpa using hy)) hs hs'
    (rs.reverse.mono fun a o w => ⟨w.1, k₄ _ _ (kp₂ _ _ w.2)⟩) (k₄ _ _ (kp₂ _ _ eD₂)) rfl (fun y sl e i b => Nat.lt_irrefl _ (F.own_lt e i (bk e b))) fun h₅ tk₅ km F₅ S₅ => ?_
  refine q _ h₅ tk₅ ?_ grow_plus F₅ S₅
  exact (((KeepM.of_ext (Ext.of_stays kp)).trans grow_plus (KeepM.of_ext x₂)).trans grow_plus (KeepM.of_ext (Ext.of_stays fun b o e => k₄ _ _ (kp₂ _ _ e)))).trans grow_plus km
end
end Mine
namespace Mine
open PySem PySem.W PyProof.Rows
section
variable {B : Bg} {bx : Bx} {n : Nat} {sc : Scope} {ρ ρ' ρ₁ ρ₂ : REnv} {st st₁ st₂ st₃ : BSt} {out : Out}

theorem MY_plus {M Y : Addr → Prop} {D : Addr} : plus (MY M Y) D = MY M (plus Y D) := by
  funext b
  apply propext
  constructor
  · rintro ((a | a) | a)
    · exact .inl a
    · exact .inr (.inl a)
    · exact .inr (.inr a)
  · rintro (a | a | a)
    · exact .inl (.inl a)
    · exact .inl (.inr a)
    · exact .inr a

/-- an iterator is laid: none of the frame's business -/
theorem FOK.allocY {M Y : Addr → Prop} {env : Env} {h : Heap} (F : FOK B M Y bx sc env ρ h) (o : Obj) (ho : o.isFreed = false) (S : BoxOK (MY M Y) bx h st) : FOK B M (plus Y h.objs.size) bx sc env ρ (h.push o) := by
  have k := pushed_keeps (h := h) o
  have nxt : ¬ MY M Y h.objs.size := F.eok.bg.next
  exact {
    eok := MY_plus ▸ F.eok.alloc o ho S
    disj := fun b m y => y.elim (F.disj b m) fun e => nxt (.inl (e ▸ m))
    locM := F.locM
    ns := F.ns.imp fun m q => q.push o
    cellM := fun n c e => ⟨(F.cellM n c e).1, (F.cellM n c e).2.1, (F.cellM n c e).2.2.imp fun v q => q.keeps k⟩
    apart := F.apart
    cells := F.cells
    own := fun x sl D e i b => by
      obtain ⟨h1, h2, h3, h4⟩ := F.own x sl D e i (F.bound_keeps k b e)
      exact ⟨h1, h2, h3, fun y sl' hy e' i' b' => h4 y sl' hy e' i' (F.bound_keeps k b' e')⟩
    boxY := fun b i => .inl (F.boxY b i) }

/-- the frame where one object that lies outside of it has changed -/
theorem FOK.touch {M Y : Addr → Prop} {env : Env} {h h' : Heap} {I : Addr} (F : FOK B M (plus Y I) bx sc env ρ h) (hI : ¬ InBox bx I) (S : BoxOK (MY M (plus Y I)) bx h st) (k : ∀ b o, b ≠ I → h.get? b = some o → h'.get? b = some o) (live : ∃ o, h'.get? I = some o) :
    FOK B M (plus Y I) bx sc env ρ h' ∧ BoxOK (MY M (plus Y I)) bx h' st := by
  have nM : ∀ b, M b → b ≠ I := fun b m e => F.disj b m (.inr e)
  have kv : ∀ a o, vis (MY M (plus Y I)) h a o → vis (MY M (plus Y I)) h' a o := fun a o w => ⟨w.1, k _ _ (fun e => w.1 (.inr (.inr e))) w.2⟩
  have up : ∀ {y w}, Bound env h y w → Bound env h' y w := fun b => b.keeps (fun o q => k _ _ (nM _ F.locM) q) (fun n c o q q' => k _ _ (nM _ (F.cellM n c q).1) q')
  have down : ∀ {y w sl}, ρ.lookup y = some sl → Bound env h' y w → Bound env h y w := fun {y w sl} e b => by
    obtain ⟨u, b₀, _⟩ := F.eok.vars y sl e
    cases bound_det b (up b₀)
    exact b₀
  refine ⟨{
    eok := {
      bg := ⟨fun b o q => ⟨(F.eok.bg.bg b o q).1, k _ _ (fun e => (F.eok.bg.bg b o q).1 (.inr (.inr e))) (F.eok.bg.bg b o q).2⟩, fun b m => by
        by_cases z : b = I
        · subst z; exact live
        · exact (F.eok.bg.live b m).imp fun o q => k _ _ z q⟩
      scope := F.eok.scope
      kind := F.eok.kind
      glob := F.eok.glob
      blt := F.eok.blt
      locB := F.eok.locB
      cellB := F.eok.cellB
      vars := fun y s' e' => by
        obtain ⟨w, bw, rw', nw⟩ := F.eok.vars y s' e'
        refine ⟨w, up bw, ?_, nw⟩
        cases s' with
        | sh t => exact Rep.mono kv rw'
        | own us =>
          obtain ⟨D', vs, m, rfl, xx, q, rr⟩ := rw'
          exact ⟨D', vs, m, rfl, xx, k _ _ (nM _ (F.own y _ D' e' rfl bw).1) q, RepAll.mono kv rr⟩
        | odict us =>
          obtain ⟨D', vs, m, rfl, xx, q, rr⟩ := rw'
          exact ⟨D', vs, m, rfl, xx, k _ _ (nM _ (F.own y _ D' e' rfl bw).1) q, RepD.mono kv rr⟩ }
    disj := F.disj
    locM := F.locM
    ns := by
      obtain ⟨m, o, es, ep, q, rr⟩ := F.ns
      exact ⟨m, o, es, ep, k _ _ (nM _ F.locM) q, rr⟩
    cellM := fun n c q => by
      obtain ⟨h1, h2, v, o, q', rr⟩ := F.cellM n c q
      exact ⟨h1, h2, v, o, k _ _ (nM _ h1) q', rr⟩
    apart := F.apart
    cells := F.cells
    own := fun y s' D' e' ii bb => by
      obtain ⟨h1, h2, h3, h4⟩ := F.own y s' D' e' ii (down e' bb)
      exact ⟨h1, h2, h3, fun y' s'' hy e'' i'' b'' => h4 y' s'' hy e'' i'' (down e'' b'')⟩
    boxY := F.boxY }, fun p e => ?_⟩
  obtain ⟨h1, h2, h3, ⟨n, t, h4⟩, m, vs, h5, h6⟩ := S p e
  exact ⟨h1, h2, h3, ⟨n, t, k _ _ (fun z => hI (z ▸ ⟨p, e, .inl rfl⟩)) h4⟩, m, vs, k _ _ (fun z => hI (z ▸ ⟨p, e, .inr rfl⟩)) h5, h6⟩

/-- the iterator is let go -/
theorem FOK.dropY {M Y : Addr → Prop} {env : Env} {h h' : Heap} {I : Addr} (F : FOK B M (plus Y I) bx sc env ρ h) (hI : ¬ InBox bx I) (hbY : ∀ b, InBox bx b → Y b) (nY : ¬ Y I) (S : BoxOK (MY M (plus Y I)) bx h st) (k : ∀ b o, b ≠ I → h.get? b = some o → h'.get? b = some o) :
    FOK B M Y bx sc env ρ h' ∧ BoxOK (MY M Y) bx h' st := by
  have nM : ∀ b, M b → b ≠ I := fun b m e => F.disj b m (.inr e)
  have kv : ∀ a o, vis (MY M (plus Y I)) h a o → vis (MY M Y) h' a o := fun a o w => ⟨fun z => w.1 (z.imp id .inl), k _ _ (fun e => w.1 (.inr (.inr e))) w.2⟩
  have up : ∀ {y w}, Bound env h y w → Bound env h' y w := fun b => b.keeps (fun o q => k _ _ (nM _ F.locM) q) (fun n c o q q' => k _ _ (nM _ (F.cellM n c q).1) q')
  have down : ∀ {y w sl}, ρ.lookup y = some sl → Bound env h' y w → Bound env h y w := fun {y w sl} e b => by
    obtain ⟨u, b₀, _⟩ := F.eok.vars y sl e
    cases bound_det b (up b₀)
    exact b₀
  refine ⟨{
    eok := {
      bg := ⟨fun b o q => ⟨fun z => (F.eok.bg.bg b o q).1 (z.imp id .inl), k _ _ (fun e => (F.eok.bg.bg b o q).1 (.inr (.inr e))) (F.eok.bg.bg b o q).2⟩, fun b m => by
        have : b ≠ I := fun z => m.elim (fun m => nM b m z) fun y => nY (z ▸ y)
        exact (F.eok.bg.live b (m.imp id .inl)).imp fun o q => k _ _ this q⟩
      scope := F.eok.scope
      kind := F.eok.kind
      glob := F.eok.glob
      blt := F.eok.blt
      locB := F.eok.locB
      cellB := F.eok.cellB
      vars := fun y s' e' => by
        obtain ⟨w, bw, rw', nw⟩ := F.eok.vars y s' e'
        refine ⟨w, up bw, ?_, nw⟩
        cases s' with
        | sh t => exact Rep.mono kv rw'
        | own us =>
          obtain ⟨D', vs, m, rfl, xx, q, rr⟩ := rw'
          exact ⟨D', vs, m, rfl, .inl (F.own y _ D' e' rfl bw).1, k _ _ (nM _ (F.own y _ D' e' rfl bw).1) q, RepAll.mono kv rr⟩
        | odict us =>
          obtain ⟨D', vs, m, rfl, xx, q, rr⟩ := rw'
          exact ⟨D', vs, m, rfl, .inl (F.own y _ D' e' rfl bw).1, k _ _ (nM _ (F.own y _ D' e' rfl bw).1) q, RepD.mono kv rr⟩ }
    disj := fun b m y => F.disj b m (.inl y)
    locM := F.locM
    ns := by
      obtain ⟨m, o, es, ep, q, rr⟩ := F.ns
      exact ⟨m, o, es, ep, k _ _ (nM _ F.locM) q, rr⟩
    cellM := fun n c q => by
      obtain ⟨h1, h2, v, o, q', rr⟩ := F.cellM n c q
      exact ⟨h1, h2, v, o, k _ _ (nM _ h1) q', rr⟩
    apart := F.apart
    cells := F.cells
    own := fun y s' D' e' ii bb => by
      obtain ⟨h1, h2, h3, h4⟩ := F.own y s' D' e' ii (down e' bb)
      exact ⟨h1, h2, h3, fun y' s'' hy e'' i'' b'' => h4 y' s'' hy e'' i'' (down e'' b'')⟩
    boxY := hbY }, fun p e => ?_⟩
  obtain ⟨h1, h2, h3, ⟨n, t, h4⟩, m, vs, h5, h6⟩ := S p e
  exact ⟨.inr (hbY _ ⟨p, e, .inl rfl⟩), .inr (hbY _ ⟨p, e, .inr rfl⟩), h3, ⟨n, t, k _ _ (fun z => hI (z ▸ ⟨p, e, .inl rfl⟩)) h4⟩, m, vs, k _ _ (fun z => hI (z ▸ ⟨p, e, .inr rfl⟩)) h5, h6⟩

/-- the turns of a for, item by item -/
noncomputable def ForTo (B : Bg) (bx : Bx) (n : Nat) (sc : Scope) (x : Str) (body : List Stmt) : List T → REnv → BSt → Out → Prop
  | [], ρ, st, out => out = .next ρ st
  | t :: ts, ρ, st, out => ∃ ρ₀, SetTo x (.sh t) ρ ρ₀ ∧
      ((∃ ρ₁ st₁, Exs B bx n sc ρ₀ st body (.next ρ₁ st₁) ∧ ForTo B bx n sc x body ts ρ₁ st₁ out) ∨ (∃ u st₁, Exs B bx n sc ρ₀ st body (.ret u st₁) ∧ out = .ret u st₁))

/-- the items that a tree hands out -/
noncomputable def T.items : T → Option (List T)
  | .list ts => some ts
  | .tup ts => some ts
  | .range a b c => some ((List.range (Builtin.Range.rangeSize a b c).toNat).map fun (i : Nat) => T.int (a + (i : Int) * c))
  | _ => Option.none

/-- an iterator over trees -/
structure Iter (B : Bg) (bx : Bx) (A : Around) (I : Addr) (fp : List Addr) (P : Nat → Value → Prop) (St : Nat → Heap → Prop) (V : Vis) (ts : List T) : Prop where
  walks : Walks B.prog B.w A I fp [I] ts.length P St
  item : ∀ i v t, P i v → ts[i]? = some t → Rep V t v
  seen : ∀ b ∈ fp, b ≠ I → ∃ o, V b o
  live : ∀ i h, St i h → ∃ o, h.get? I = some o
  fpI : I ∈ fp

theorem for_walk {A : Around} {M Y : Addr → Prop} {env : Env} {sh : Shared} {I : Addr} {fp : List Addr} {P : Nat → Value → Prop} {St : Nat → Heap → Prop} {ts : List T} {x : Str} {px : Pos} {body : List Stmt} {Q : Flow → Shared → Prop}
    (W : Iter B bx A I fp P St (vis (MY M (plus Y I)) sh.heap) ts) (r : Room A n) (F : FOK B M (plus Y I) bx sc env ρ sh.heap) (S : BoxOK (MY M (plus Y I)) bx sh.heap st) (hI : ¬ InBox bx I) (hbY : ∀ b, InBox bx b → Y b) (nY : ¬ Y I)
    (k : sc.names.lookup x = some .local ∨ sc.names.lookup x = some .cell) (hst : St 0 sh.heap) (hf : ForTo B bx n sc x body ts ρ st out)
    (q : match out with
      | .next ρ' st' => ∀ M' h' tk, (∀ b o, b ≠ I → ¬ M b → ¬ InBox bx b → sh.heap.get? b = some o → h'.get? b = some o) → Grow M M' sh.heap → FOK B M' Y bx sc env ρ' h' → BoxOK (MY M' Y) bx h' st' → Q .next { sh with heap := h', toks := tk }
      | .ret t st' => ∀ M' v h' tk, (∀ b o, b ≠ I → ¬ M b → ¬ InBox bx b → sh.heap.get? b = some o → h'.get? b = some o) → Grow M M' sh.heap → Rep (vis (MY M' Y) h') t v → BoxOK (MY M' Y) bx h' st' → Q (.ret v) { sh with heap := h', toks := tk }) :
    codeAny (model B.prog B.w) A (.forLoop (.Name x px) (.ref I) body [] env) (fun r s' => match r with | .ok f => Q f s' | .error e => cameBackBy (model B.prog B.w) A env (fun _ _ => False) e s') sh := by
  refine codeAny_forLoop (fun m s' => ∃ i M' h' tk ρᵢ stᵢ, i ≤ ts.length ∧ m = ts.length + 1 - i ∧ s' = { sh with heap := h', toks := tk } ∧ (∀ b o, b ≠ I → ¬ M b → ¬ InBox bx b → sh.heap.get? b = some o → h'.get? b = some o) ∧ Grow M M' sh.heap ∧
    FOK B M' (plus Y I) bx sc env ρᵢ h' ∧ BoxOK (MY M' (plus Y I)) bx h' stᵢ ∧ St i h' ∧ ForTo B bx n sc x body (ts.drop i) ρᵢ stᵢ out) ?_ (ts.length + 1)
    ⟨0, M, sh.heap, sh.toks, ρ, st, Nat.zero_le _, rfl, rfl, fun _ _ _ _ _ e => e, Grow.refl, F, S, hst, hf⟩
  rintro m s' ⟨i, M', h', tk, ρᵢ, stᵢ, hi, rfl, rfl, keep, gr, F', S', hs', hf'⟩
  have noE : ∀ (e : Value) (s : Shared), False → notedBy (model B.prog B.w) A env (fun e s' => cameBackBy (model B.prog B.w) A env (fun _ _ => False) e s') e s := fun _ _ f => f.elim
  by_cases hlt : i < ts.length
  · have hd : ts.drop i = ts[i] :: ts.drop (i + 1) := List.drop_eq_getElem_cons hlt
    rw [hd] at hf'
    obtain ⟨ρ₀, hset, hb⟩ := hf'
    refine W.walks.item i _ _ _ hlt hs' fun v h₁ tk₁ hP hst₁ hk₁ => ?_
    have k₁ : ∀ b o, b ≠ I → h'.get? b = some o → h₁.get? b = some o := fun b o ne e => hk₁ b o (by simpa using ne) e
    obtain ⟨F₁, S₁⟩ := F'.touch hI S' k₁ (W.live _ _ hst₁)
    have rv : Rep (vis (MY M' (plus Y I)) h₁) ts[i] v := (W.item i v ts[i] hP (by simp [hlt])).mono fun a o w => by
      have nI : a ≠ I := fun e => w.1 (.inr (.inr e))
      have nM : ¬ M a := fun e => w.1 (.inl e)
      have nB : ¬ InBox bx a := fun e => w.1 (.inr (.inl (hbY a e)))
      refine ⟨fun z => ?_, k₁ _ _ nI (keep a o nI nM nB w.2)⟩
      rcases z with z | z
      · rcases gr a z with z | z
        · exact nM z
        · rw [w.2] at z; cases z
      · exact w.1 (.inr z)
    refine wpAny_assign_Name ?_
    refine wpAny_mono (E := fun _ _ => False) (store_sh (E := fun _ _ => False) (s := { sh with heap := h₁, toks := tk₁ }) F₁ S₁ k hset rv fun h₂ tk₂ km₂ _ F₂ S₂ => ?_) (fun _ _ y => y) noE
    have kI₂ : ∀ b o, b ≠ I → ¬ M b → ¬ InBox bx b → sh.heap.get? b = some o → h₂.get? b = some o := fun b o n1 n2 n3 e => by
      refine km₂ b o (fun m => ?_) n3 (k₁ b o n1 (keep b o n1 n2 n3 e))
      rcases gr b m with m | m
      · exact n2 m
      · rw [e] at m; cases m
    have st₂ : St (i + 1) h₂ := W.walks.frame _ _ _ hst₁ fun b hb o e => by
      refine km₂ b o (fun m => ?_) (fun ib => ?_) e
      · by_cases z : b = I
        · exact F'.disj b m (.inr z)
        · obtain ⟨o', w⟩ := W.seen b hb z
          rcases gr b m with m | m
          · exact w.1 (.inl m)
          · rw [w.2] at m; cases m
      · by_cases z : b = I
        · exact hI (z ▸ ib)
        · obtain ⟨o', w⟩ := W.seen b hb z
          exact w.1 (.inr (.inl (hbY b ib)))
    have frame_after : ∀ {M'' : Addr → Prop} {h₃ : Heap}, KeepM M' bx h₂ h₃ → Grow M' M'' h₂ → (∀ b o, b ≠ I → ¬ M b → ¬ InBox bx b → sh.heap.get? b = some o → h₃.get? b = some o) ∧ (∀ b, M'' b → ¬ InBox bx b → M b ∨ sh.heap.get? b = none ∨ b = I) ∧ St (i + 1) h₃ := by
      intro M'' h₃ km₃ gr₃
      refine ⟨fun b o n1 n2 n3 e => km₃ b o (fun m => ?_) n3 (kI₂ b o n1 n2 n3 e), fun b m n3 => ?_, W.walks.frame _ _ _ st₂ fun b hb o e => ?_⟩
      · rcases gr b m with m | m
        · exact n2 m
        · rw [e] at m; cases m
      · rcases gr₃ b m with m | m
        · exact (gr b m).imp id .inl
        · by_cases z : b = I
          · exact .inr (.inr z)
          · refine Classical.byCases (fun z' : M b => .inl z') fun z' => .inr (.inl ?_)
            cases g : sh.heap.get? b with
            | none => rfl
            | some o => have := kI₂ b o z z' n3 g; rw [m] at this; cases this
      · refine km₃ b o (fun m => ?_) (fun ib => ?_) e
        · by_cases z : b = I
          · exact F'.disj b m (.inr z)
          · obtain ⟨o', w⟩ := W.seen b hb z
            rcases gr b m with m | m
            · exact w.1 (.inl m)
            · rw [w.2] at m; cases m
        · by_cases z : b = I
          · exact hI (z ▸ ib)
          · obtain ⟨o', w⟩ := W.seen b hb z
            exact w.1 (.inr (.inl (hbY b ib)))
    rcases hb with ⟨ρ₃, st₃, hex, hrest⟩ | ⟨u, st₃, hex, rfl⟩
    · refine wpAny_mono (E := fun _ _ => False) (hex A M' (plus Y I) env _ _ r F₂ S₂ fun M'' h₃ tk₃ km₃ gr₃ F₃ S₃ => ?_) (fun _ _ y => y) noE
      obtain ⟨a1, a2, a3⟩ := frame_after km₃ gr₃
      refine ⟨ts.length + 1 - (i + 1), by omega, i + 1, M'', h₃, tk₃, ρ₃, st₃, hlt, rfl, rfl, a1, fun b m => ?_, F₃, S₃, a3, hrest⟩
      rcases a2 b m (F₃.notBox m) with z | z | z
      · exact .inl z
      · exact .inr z
      · exact absurd (.inr z) (F₃.disj b m)
    · refine wpAny_mono (E := fun _ _ => False) (hex A M' (plus Y I) env _ _ r F₂ S₂ fun M'' v' h₃ tk₃ km₃ gr₃ r₃ S₃ => ?_) (fun _ _ y => y) noE
      obtain ⟨a1, a2, a3⟩ := frame_after km₃ gr₃
      -- the objects of the body's own that stand at the iterator's place: none
      have nMI : ¬ M'' I := fun m => by
        rcases gr₃ I m with m | m
        · exact F'.disj I m (.inr rfl)
        · obtain ⟨o, e⟩ := W.live _ _ st₂
          have m : h₂.get? I = none := m
          rw [e] at m; cases m
      have nMB : ∀ b, M'' b → ¬ InBox bx b := fun b m ib => by
        rcases gr₃ b m with m | m
        · exact F'.notBox m ib
        · obtain ⟨o, e⟩ := S₂.live ib
          have m : h₂.get? b = none := m
          rw [e] at m; cases m
      refine q M'' v' h₃ tk₃ a1 (fun b m => ?_) (r₃.mono fun a o w => ⟨fun z => w.1 (z.imp id .inl), w.2⟩) ?_
      · rcases a2 b m (nMB b m) with z | z | z
        · exact .inl z
        · exact .inr z
        · exact absurd (z ▸ m) nMI
      · exact fun p e => by
          obtain ⟨h1, h2, rr⟩ := S₃ p e
          exact ⟨.inr (hbY _ ⟨p, e, .inl rfl⟩), .inr (hbY _ ⟨p, e, .inr rfl⟩), rr⟩
  · have hin : i = ts.length := by omega
    subst hin
    rw [List.drop_length] at hf'
    cases hf'
    refine W.walks.done _ _ _ hs' fun h₁ tk₁ hk₁ => wpAny_execs_nil ?_
    have k₁ : ∀ b o, b ≠ I → h'.get? b = some o → h₁.get? b = some o := fun b o ne e => hk₁ b o (by simpa using ne) e
    obtain ⟨F₁, S₁⟩ := F'.dropY hI hbY nY S' k₁
    exact q M' h₁ tk₁ (fun b o n1 n2 n3 e => k₁ b o n1 (keep b o n1 n2 n3 e)) gr F₁ S₁

theorem RepAll.item {V : Vis} : ∀ {ts : List T} {vs : List Value}, RepAll V ts vs → ∀ {i : Nat} {v : Value} {t : T}, vs[i]? = some v → ts[i]? = some t → Rep V t v := fun {ts vs} r {i v t} hv ht => by
  obtain ⟨w, hw, rw⟩ := r.get ht
  rw [hv] at hw; cases hw
  exact rw

theorem listIter_rep {A : Around} {X : Addr → Prop} {h : Heap} {l I : Addr} {vs : List Value} {ts : List T} {k : Nat} {V : Vis} (hh : A.handled = none) (ne : l ≠ I) (qa : V l (listObj vs k)) (rs : RepAll V ts vs) :
    Iter B bx A I [I, l] (fun i v => vs.toArray[i]? = some v) (fun i h => h.IsListIter I l i ∧ h.IsList l vs.toArray) V ts where
  walks := by
    have := Walks.list (prog := B.prog) (w := B.w) hh I l ne vs.toArray
    rw [show ts.length = vs.toArray.size by rw [List.size_toArray, rs.length]]
    exact this
  item := fun i v t hv ht => rs.item (by simpa using hv) ht
  seen := fun b hb z => by
    rcases List.mem_cons.mp hb with e | hb
    · exact absurd e z
    · rw [List.mem_singleton.mp hb]; exact ⟨_, qa⟩
  live := fun i h s => s.1.imp fun o e => e.1
  fpI := .head _
theorem tupIter_rep {A : Around} {l I : Addr} {vs : List Value} {ts : List T} {k : Nat} {V : Vis} (hh : A.handled = none) (ne : l ≠ I) (qa : V l (tupObj vs k)) (rs : RepAll V ts vs) :
    Iter B bx A I [I, l] (fun i v => vs.toArray[i]? = some v) (fun i h => h.IsTupleIter I l i ∧ h.IsTuple l vs.toArray) V ts where
  walks := by
    have := Walks.tuple (prog := B.prog) (w := B.w) hh I l ne vs.toArray
    rw [show ts.length = vs.toArray.size by rw [List.size_toArray, rs.length]]
    exact this
  item := fun i v t hv ht => rs.item (by simpa using hv) ht
  seen := fun b hb z => by
    rcases List.mem_cons.mp hb with e | hb
    · exact absurd e z
    · rw [List.mem_singleton.mp hb]; exact ⟨_, qa⟩
  live := fun i h s => s.1.imp fun o e => e.1
  fpI := .head _
theorem rangeIter_rep {A : Around} {I : Addr} {a b c : Int} {V : Vis} (hh : A.handled = none) (hs : 0 ≤ Builtin.Range.rangeSize a b c) :
    Iter B bx A I [I] (fun i v => ∃ t, v = .int (a + i * c) t) (fun i h => IsRangeIter h I (a + (i : Nat) * c) (((Builtin.Range.rangeSize a b c).toNat : Nat) - (i : Nat)) c) V ((List.range (Builtin.Range.rangeSize a b c).toNat).map fun (i : Nat) => T.int (a + (i : Int) * c)) where
  walks := by
    have := Walks.range (prog := B.prog) (w := B.w) hh I a c (Builtin.Range.rangeSize a b c).toNat
    rw [show ((List.range (Builtin.Range.rangeSize a b c).toNat).map fun (i : Nat) => T.int (a + (i : Int) * c)).length = (Builtin.Range.rangeSize a b c).toNat by simp]
    exact this
  item := fun i v t hv ht => by
    obtain ⟨tk, rfl⟩ := hv
    simp only [List.getElem?_map, Option.map_eq_some_iff] at ht
    obtain ⟨j, hj, rfl⟩ := ht
    have : j = i := by
      rw [List.getElem?_eq_some_iff] at hj
      obtain ⟨_, e⟩ := hj
      rw [List.getElem_range] at e
      exact e.symm
    subst this
    exact ⟨tk, rfl⟩
  seen := fun b hb z => absurd (List.mem_singleton.mp hb) z
  live := fun i h s => ⟨_, s⟩
  fpI := .head _

/-- an iterator is laid over a tree -/
theorem iter_of {A : Around} {X : Addr → Prop} {s : Shared} {t : T} {ts : List T} {v : Value} {Q : Value → Shared → Prop} {E : Value → Shared → Prop} (hh : A.handled = none) (rv : Rep (vis X s.heap) t v) (ht : t.items = some ts) (nX : ¬ X s.heap.objs.size)
    (hr : ∀ a b c, t = .range a b c → 0 ≤ Builtin.Range.rangeSize a b c ∧ Builtin.Range.small a b c = true)
    (q : ∀ o fp P St, Obj.isFreed o = false → Iter B bx A s.heap.objs.size fp P St (vis (plus X s.heap.objs.size) (s.heap.push o)) ts → St 0 (s.heap.push o) → Q (.ref s.heap.objs.size) { s with heap := s.heap.push o }) :
    wpAny (model B.prog B.w) A (pyIter v) Q E s := by
  have up : ∀ (o : Obj) a o', vis X s.heap a o' → vis (plus X s.heap.objs.size) (s.heap.push o) a o' := fun o a o' w => ⟨fun z => z.elim w.1 fun e => absurd (Heap.lt_size w.2) (e ▸ Nat.lt_irrefl _), pushed_keeps o _ _ w.2⟩
  cases t with
  | list us =>
    cases ht
    obtain ⟨l, vs, k, rfl, qa, rs⟩ := rv
    have ne : l ≠ s.heap.objs.size := Nat.ne_of_lt (Heap.lt_size qa.2)
    refine wpAny_pyIter_list (isList_of qa) (q _ _ _ _ rfl (listIter_rep (X := X) (h := s.heap) hh ne (up _ _ _ qa) (rs.mono (up _))) ⟨⟨_, Heap.get?_push_size _ rfl, rfl, rfl⟩, (isList_of qa).push _⟩)
  | tup us =>
    cases ht
    obtain ⟨l, vs, k, rfl, qa, rs⟩ := rv
    have ne : l ≠ s.heap.objs.size := Nat.ne_of_lt (Heap.lt_size qa.2)
    have it : s.heap.IsTuple l vs.toArray := ⟨_, qa.2, rfl, _, rfl⟩
    refine wpAny_pyIter_tuple it (q _ _ _ _ rfl (tupIter_rep hh ne (up _ _ _ qa) (rs.mono (up _))) ⟨⟨_, Heap.get?_push_size _ rfl, rfl, rfl⟩, ⟨_, pushed_keeps _ _ _ qa.2, rfl, _, rfl⟩⟩)
  | range a b c =>
    cases ht
    obtain ⟨l, t, u, x, rfl, qa⟩ := rv
    obtain ⟨h0, hs⟩ := hr a b c rfl
    refine wpAny_pyIter_range qa.2 hs (q _ _ _ _ rfl (rangeIter_rep hh h0) ?_)
    show Heap.get? _ _ = _
    rw [Heap.get?_push_size _ rfl]
    simp [rawInt, Int.toNat_of_nonneg h0]
  | none => cases ht
  | bool _ => cases ht
  | int _ => cases ht
  | str _ => cases ht
  | fn _ => cases ht
  | rests _ _ _ _ => cases ht

noncomputable def T.rangeOK : T → Bool
  | .range a b c => decide (0 ≤ Builtin.Range.rangeSize a b c) && Builtin.Range.small a b c
  | _ => true

theorem Ex1.for_ {x : Str} {px p : Pos} {e : Expr} {body : List Stmt} {t : T} {ts : List T} (h : Ev B bx n sc ρ st e t st₁) (ht : t.items = some ts) (hr : t.rangeOK = true) (k : sc.names.lookup x = some .local ∨ sc.names.lookup x = some .cell)
    (hf : ForTo B bx n sc x body ts ρ st₁ out) (hs : ∀ env x, foldedSetIterable e env x = pure x := by intro _ _; rfl) : Ex1 B bx n sc ρ st (.For (.Name x px) e body [] p) out := fun A M Y env sh Q r F S q => by
  refine wpAny_For (h A _ env sh _ r F.eok S fun v h₁ tk₁ x₁ S₁ rv => ?_) (hs env)
  have F₁ := F.keeps x₁ S₁
  refine iter_of (B := B) (bx := bx) (s := { sh with heap := h₁, toks := tk₁ }) r.1 rv ht F₁.eok.bg.next (fun a b c e => ?_) fun o fp P St ho W hst => ?_
  · subst e
    simp only [T.rangeOK, Bool.and_eq_true, decide_eq_true_eq] at hr
    exact hr
  · have kp := pushed_keeps (h := h₁) o
    have F₂ := F₁.allocY o ho S₁
    have nI : ¬ MY M Y h₁.objs.size := F₁.eok.bg.next
    have hI : ¬ InBox bx h₁.objs.size := fun i => nI (.inr (F.boxY _ i))
    have S₂ : BoxOK (MY M (plus Y h₁.objs.size)) bx (h₁.push o) st₁ := (S₁.keeps kp).wider fun b m => m.imp id .inl
    have fresh : ∀ b, sh.heap.get? b = none ∨ b ≠ h₁.objs.size := fun b => by
      by_cases z : b = h₁.objs.size
      · subst z
        refine .inl ?_
        cases g : sh.heap.get? h₁.objs.size with
        | none => rfl
        | some o' => exact absurd (Heap.lt_size (x₁ _ _ hI g)) (Nat.lt_irrefl _)
      · exact .inr z
    have keepAll : ∀ {h' : Heap}, (∀ b o', b ≠ h₁.objs.size → ¬ M b → ¬ InBox bx b → (h₁.push o).get? b = some o' → h'.get? b = some o') → KeepM M bx sh.heap h' := fun kk b o' n1 n2 e => by
      rcases fresh b with z | z
      · rw [e] at z; cases z
      · exact kk b o' z n1 n2 (kp _ _ (x₁ _ _ n2 e))
    have growAll : ∀ {M' : Addr → Prop}, Grow M M' (h₁.push o) → Grow M M' sh.heap := fun gg b m => (gg b m).imp id fun e => by
      cases g : sh.heap.get? b with
      | none => rfl
      | some o' =>
        by_cases ib : InBox bx b
        · obtain ⟨o2, e2⟩ := S₂.live ib
          rw [e2] at e; cases e
        · rw [kp _ _ (x₁ _ _ ib g)] at e; cases e
    refine for_walk (sh := { sh with heap := h₁.push o, toks := tk₁ }) (by rw [← MY_plus]; exact W) r F₂ S₂ hI F.boxY (fun y => nI (.inr y)) k hst hf ?_
    cases out with
    | next ρ' st' => exact fun M' h' tk kk gg F' S' => q M' h' tk (keepAll kk) (growAll gg) F' S'
    | ret u st' => exact fun M' v h' tk kk gg r' S' => q M' v h' tk (keepAll kk) (growAll gg) r' S'

/-- the turns of a while -/
noncomputable def WhileTo (B : Bg) (bx : Bx) (n : Nat) (sc : Scope) (c : Expr) (body : List Stmt) : Nat → REnv → BSt → Out → Prop
  | 0, _, _, _ => False
  | k + 1, ρ, st, out => (∃ st', Tr B bx n sc ρ st c false st' ∧ out = .next ρ st') ∨ (∃ st', Tr B bx n sc ρ st c true st' ∧
      ((∃ ρ₁ st₁, Exs B bx n sc ρ st' body (.next ρ₁ st₁) ∧ WhileTo B bx n sc c body k ρ₁ st₁ out) ∨ (∃ u st₁, Exs B bx n sc ρ st' body (.ret u st₁) ∧ out = .ret u st₁)))

theorem Ex1.while_ {c : Expr} {body : List Stmt} {p : Pos} {k : Nat} (h : WhileTo B bx n sc c body k ρ st out) : Ex1 B bx n sc ρ st (.While c body [] p) out := fun A M Y env sh Q r F S q => by
  refine wpAny_While ?_
  refine codeAny_whileLoop (fun m s' => ∃ M' h' tk ρᵢ stᵢ, s' = { sh with heap := h', toks := tk } ∧ KeepM M bx sh.heap h' ∧ Grow M M' sh.heap ∧ FOK B M' Y bx sc env ρᵢ h' ∧ BoxOK (MY M' Y) bx h' stᵢ ∧ WhileTo B bx n sc c body m ρᵢ stᵢ out) ?_ k
    ⟨M, sh.heap, sh.toks, ρ, st, rfl, KeepM.refl, Grow.refl, F, S, h⟩
  rintro m s' ⟨M', h', tk, ρᵢ, stᵢ, rfl, keep, gr, F', S', hw⟩
  have noE : ∀ (e : Value) (s : Shared), False → notedBy (model B.prog B.w) A env (fun e s' => cameBackBy (model B.prog B.w) A env (fun _ _ => False) e s') e s := fun _ _ f => f.elim
  have qs : After B M' Y bx sc env { sh with heap := h', toks := tk } Q out := q.shift (ρ := ρᵢ) keep gr (fun b m => F.notBox m) F.boxY (fun b i => S.live i) (fun b i => S'.live i)
  cases m with
  | zero => exact hw.elim
  | succ m =>
    rcases hw with ⟨st', ht, rfl⟩ | ⟨st', ht, hb⟩
    · refine wpAny_mono (E := fun _ _ => False) (ht A _ env _ _ r F'.eok S' fun h₁ tk₁ x₁ S₁ => ?_) (fun _ _ y => y) noE
      exact wpAny_execs_nil (qs M' h₁ tk₁ (KeepM.of_ext x₁) Grow.refl (F'.keeps x₁ S₁) S₁)
    · refine wpAny_mono (E := fun _ _ => False) (ht A _ env _ _ r F'.eok S' fun h₁ tk₁ x₁ S₁ => ?_) (fun _ _ y => y) noE
      have F₁ := F'.keeps x₁ S₁
      have keep₁ : KeepM M bx sh.heap h₁ := keep.trans gr (KeepM.of_ext x₁)
      rcases hb with ⟨ρ₂, st₂, hex, hrest⟩ | ⟨u, st₂, hex, rfl⟩
      · refine wpAny_mono (E := fun _ _ => False) (hex A M' Y env _ _ r F₁ S₁ fun M'' h₂ tk₂ km gg F₂ S₂ => ?_) (fun _ _ y => y) noE
        refine ⟨m, Nat.lt_succ_self _, M'', h₂, tk₂, ρ₂, st₂, rfl, keep₁.trans gr km, gr.trans gg keep₁ fun b m i => F₂.notBox m i, F₂, S₂, hrest⟩
      · refine wpAny_mono (E := fun _ _ => False) (hex A M' Y env _ _ r F₁ S₁ fun M'' v h₂ tk₂ km gg rv S₂ => ?_) (fun _ _ y => y) noE
        have qs₁ := qs.shift (ρ := ρᵢ) (tk := tk₁) (KeepM.of_ext x₁) Grow.refl (fun b m => F'.notBox m) F'.boxY (fun b i => S'.live i) (fun b i => S₁.live i)
        exact qs₁ M'' v h₂ tk₂ km gg rv S₂
end
end Mine
namespace Mine
open PySem PySem.W PyProof.Rows

theorem bindL_other {kindOf : Str → Option NameKind} {x : Str} : ∀ {l : List (Str × Value)} {m : Str → Option Value}, (∀ p ∈ l, p.1 ≠ x) → bindL kindOf l m x = m x
  | [], _, _ => rfl
  | (y, v) :: r, m, h => by
    unfold bindL
    rw [bindL_other fun p hp => h p (.tail _ hp)]
    have : x ≠ y := fun e => h (y, v) (.head _) e.symm
    split
    · simp [this]
    · rfl
theorem bindC_other {kindOf : Str → Option NameKind} {x : Str} : ∀ {l : List (Str × Value)} {m : Str → Option Value}, (∀ p ∈ l, p.1 ≠ x) → bindC kindOf l m x = m x
  | [], _, _ => rfl
  | (y, v) :: r, m, h => by
    unfold bindC
    rw [bindC_other fun p hp => h p (.tail _ hp)]
    have : x ≠ y := fun e => h (y, v) (.head _) e.symm
    split
    · rfl
    · simp [this]
theorem bindL_at {kindOf : Str → Option NameKind} {x : Str} {v : Value} (hk : kindOf x = some .local) : ∀ {l : List (Str × Value)} {m : Str → Option Value}, (l.map (·.1)).Nodup → (x, v) ∈ l → bindL kindOf l m x = some v
  | (y, w) :: r, m, hn, h => by
    unfold bindL
    rw [List.map_cons, List.nodup_cons] at hn
    rcases List.mem_cons.mp h with e | h
    · cases e
      rw [bindL_other fun p hp e => hn.1 (by have := List.mem_map_of_mem (f := (·.1)) hp; rw [e] at this; exact this), if_pos hk]
      simp
    · exact bindL_at hk hn.2 h
theorem bindC_at {kindOf : Str → Option NameKind} {x : Str} {v : Value} (hk : kindOf x = some .cell) : ∀ {l : List (Str × Value)} {m : Str → Option Value}, (l.map (·.1)).Nodup → (x, v) ∈ l → bindC kindOf l m x = some v
  | (y, w) :: r, m, hn, h => by
    unfold bindC
    rw [List.map_cons, List.nodup_cons] at hn
    rcases List.mem_cons.mp h with e | h
    · cases e
      rw [bindC_other fun p hp e => hn.1 (by have := List.mem_map_of_mem (f := (·.1)) hp; rw [e] at this; exact this), if_neg (by rw [hk]; decide)]
      simp
    · exact bindC_at hk hn.2 h

theorem zip_lookup {V : Vis} : ∀ {xs : List Str} {ts : List T} {vs : List Value}, RepAll V ts vs → ∀ {x : Str} {sl : Sl}, (xs.zip (ts.map Sl.sh)).lookup x = some sl → ∃ t v, sl = .sh t ∧ (x, v) ∈ xs.zip vs ∧ Rep V t v
  | [], _, _, _, x, sl, e => by simp at e
  | _ :: _, [], _, _, x, sl, e => by simp at e
  | y :: ys, t :: ts, _, r, x, sl, e => by
    obtain ⟨v, vs, rfl, rv, rs⟩ := r
    simp only [List.map_cons, List.zip_cons_cons, List.lookup_cons] at e
    cases hb : x == y with
    | true =>
      rw [hb] at e; cases e
      rw [beq_iff_eq.mp hb]
      exact ⟨t, v, rfl, .head _, rv⟩
    | false =>
      rw [hb] at e
      obtain ⟨t', v', h1, h2, h3⟩ := zip_lookup rs e
      exact ⟨t', v', h1, .tail _ h2, h3⟩

theorem lookup_mem' {α : Type} : ∀ {l : List (Str × α)} {n : Str} {c : α}, l.lookup n = some c → (n, c) ∈ l
  | (k, v) :: r, n, c, h => by
    rw [List.lookup_cons] at h
    cases hb : n == k with
    | true => rw [hb] at h; cases h; rw [beq_iff_eq.mp hb]; exact List.mem_cons_self
    | false => rw [hb] at h; exact List.mem_cons_of_mem _ (lookup_mem' h)

section
variable {B : Bg} {bx : Bx} {n : Nat} {st st' : BSt}

theorem calls_of {f : Addr} {ts : List T} {t : T} {name qual : Str} {params : Arguments} {body : List Stmt} {scope : Scope} {doc pm cdv ct oc : Value} {an od : Option Addr} {osl : Array (Option Value)} (xs : List Str) (ρ₀ : REnv)
    (hl : B.K.lookup f = some ⟨oc, od, .func (fnOf name qual params body scope .none .none doc pm an cdv ct), osl⟩) (hc : codeIn B.K cdv qual = true)
    (hb : ∀ vs : List Value, vs.length = xs.length → bindArgs (fnOf name qual params body scope .none .none doc pm an cdv ct) ⟨vs, []⟩ = pure (xs.zip vs))
    (hx : ∀ x ∈ xs, scope.names.lookup x = some .local ∨ scope.names.lookup x = some .cell) (hlen : xs.length = ts.length) (hnd : xs.Nodup) (hk : scope.kind = .function) (hco : scope.isCoroutine = false) (hgen : scope.isGenerator = false)
    (hρ : xs.zip (ts.map Sl.sh) = ρ₀) (h : Exs B bx n scope ρ₀ st body (.ret t st')) : Calls B bx (n + 1) f ts st t st' := fun A X s vs Q r G S ra q => by
  subst hρ
  have hvl : vs.length = xs.length := by rw [ra.length, hlen]
  have hzn : ((xs.zip vs).map (·.1)) = xs := by rw [List.map_fst_zip]; omega
  have hcells : ∀ n x, scope.names.lookup x = some .cell → ((cellsFrom n scope.names []).lookup x).isSome = true := fun n x e => cellsFrom_some _ _ _ (.inl e)
  refine wpAny_call (codeAny_call_cells (fd := fnOf name qual params body scope .none .none doc pm an cdv ct) (body := body) (binds := xs.zip vs) (by have := r.2.1; omega) (G.kin _ _ hl) rfl
    (B.nolimit.keeps fun b o e => (G.bg b o e).2) (codeRec_of G.kin hc) rfl (hb vs hvl) rfl (fun x hxm => ?_) (fun s₁ x => ?_) hco hgen hk)
  · have hm : x.1 ∈ xs := by rw [← hzn]; exact List.mem_map_of_mem hxm
    exact (hx x.1 hm).imp id fun e => ⟨e, hcells _ _ e⟩
  · -- the frame of the call
    generalize hE : callEnvC (fnOf name qual params body scope .none .none doc pm an cdv ct) s.heap.objs.size f = env at x
    have eS : env.scope = scope := by rw [← hE]; rfl
    have eL : env.locals = s.heap.objs.size := by rw [← hE]; rfl
    have eG : env.globals = mainGlobals := by rw [← hE]; rfl
    have eB : env.builtins = builtinsNs := by rw [← hE]; rfl
    have eC : env.cells = cellsFrom (s.heap.objs.size + 1) scope.names [] := by rw [← hE]; rfl
    obtain ⟨h₁, tk₁, rfl, keep⟩ := x.done
    have old : ∀ b o, s.heap.get? b = some o → b < s.heap.objs.size := fun b o e => Heap.lt_size e
    let M : Addr → Prop := fun b => b = env.locals ∨ ∃ n, env.cells.lookup n = some b
    have Mnew : ∀ b, M b → s.heap.objs.size ≤ b := fun b m => by
      rcases m with m | ⟨n, m⟩
      · rw [m, eL]; exact Nat.le_refl _
      · have := x.above n b (lookup_mem' m)
        rw [eL] at this; exact Nat.le_of_lt this
    have MX : ∀ b, M b → ¬ X b := fun b m xb => by
      obtain ⟨o, e⟩ := G.live b xb
      exact Nat.lt_irrefl _ (Nat.lt_of_lt_of_le (old b o e) (Mnew b m))
    have kv : ∀ a o, vis X s.heap a o → vis (MY M X) h₁ a o := fun a o w => ⟨fun z => z.elim (fun m => Nat.lt_irrefl _ (Nat.lt_of_lt_of_le (old a o w.2) (Mnew a m))) w.1, keep _ _ w.2⟩
    have hkof : ∀ y, env.kindOf y = scope.names.lookup y := fun y => by show env.scope.names.lookup y = _; rw [eS]
    have bX : ∀ b, InBox bx b → X b := fun b i => inBox_X S i
    have nB : ∀ b, M b → ¬ InBox bx b := fun b m i => MX b m (bX b i)
    have F : FOK B M X bx scope env (xs.zip (ts.map Sl.sh)) h₁ := {
      eok := {
        bg := ⟨fun b o e => ⟨fun z => z.elim (fun m => Nat.lt_irrefl _ (Nat.lt_of_lt_of_le (old b o (G.bg b o e).2) (Mnew b m))) (G.bg b o e).1, keep _ _ (G.bg b o e).2⟩, fun b z => by
          rcases z with (z | ⟨n, z⟩) | z
          · obtain ⟨o, es, ep, e, _⟩ := x.toInCall.ns
            exact ⟨o, z ▸ e⟩
          · obtain ⟨o, e, _⟩ := x.cell n b z
            exact ⟨o, e⟩
          · exact (G.live b z).imp fun o e => keep _ _ e⟩
        scope := eS
        kind := hk
        glob := eG
        blt := eB
        locB := nB _ (.inl rfl)
        cellB := fun n c e => nB _ (.inr ⟨n, e⟩)
        vars := fun y sl e => by
          obtain ⟨t', v, rfl, hm, rv⟩ := zip_lookup ra e
          refine ⟨v, ?_, rv.mono kv, fun _ _ i => absurd rfl (i _)⟩
          have hy : y ∈ xs := by rw [← hzn]; exact List.mem_map_of_mem hm
          rcases hx y hy with k | k
          · exact .inl ⟨(hkof y).trans k, _, x.toInCall.ns, bindL_at ((hkof y).trans k) (by rw [hzn]; exact hnd) hm⟩
          · obtain ⟨c, ec⟩ := Option.isSome_iff_exists.mp (hcells (s.heap.objs.size + 1) y k)
            rw [← eC] at ec
            have hcell := x.cell y c ec
            rw [bindC_at ((hkof y).trans k) (by rw [hzn]; exact hnd) hm] at hcell
            exact .inr ⟨.inl ((hkof y).trans k), c, ec, hcell⟩ }
      disj := MX
      locM := .inl rfl
      ns := ⟨_, x.toInCall.ns⟩
      cellM := fun n c e => ⟨.inr ⟨n, e⟩, Nat.ne_of_gt (x.above n c (lookup_mem' e)), _, x.cell n c e⟩
      apart := x.apart
      cells := fun y k => by rw [eC]; exact hcells _ _ k
      own := fun y sl D e i b => by
        obtain ⟨t', v, rfl, _⟩ := zip_lookup ra e
        cases i
      boxY := bX }
    have S₁ : BoxOK (MY M X) bx h₁ st := (S.keeps keep).wider fun b z => .inr z
    have rm : Room (A.deeper env) n := r.deeper
    refine wpAny_mono (E := fun _ _ => False) (h (A.deeper env) M X env { s with heap := h₁, toks := tk₁ } (fun f s' => match (Except.ok (Flow.ret (match f with | .ret v => v | _ => .none)) : Result) with | .ok (.ret v) => Q v s' | .ok _ => False | .error e => False) rm F S₁ ?_) (fun _ _ y => y) fun _ _ (y : False) => y.elim
    exact fun M' v h' tk km gr rv S' => q v h' tk (fun b o i e => km b o (fun m => Nat.lt_irrefl _ (Nat.lt_of_lt_of_le (old b o e) (Mnew b m))) i (keep _ _ e)) (fun p e => by
      obtain ⟨h1, h2, _⟩ := S p e
      obtain ⟨_, _, r⟩ := S' p e
      exact ⟨h1, h2, r⟩) (rv.mono fun a o w => ⟨fun z => w.1 (.inr z), w.2⟩)
end
end Mine
namespace Mine
open PySem PySem.W PyProof.Rows
section
variable {B : Bg} {bx : Bx} {n : Nat} {sc : Scope} {st st₁ st₂ st₃ : BSt} {out : Out}

noncomputable def SubEnv (ρ' ρ : REnv) : Prop := ∀ x sl, ρ'.lookup x = some sl → ρ.lookup x = some sl
theorem SubEnv.nil {ρ : REnv} : SubEnv [] ρ := fun _ _ e => by simp at e
theorem SubEnv.cons {x : Str} {s : Sl} {r ρ : REnv} (e : ρ.lookup x = some s) (h : SubEnv r ρ) : SubEnv ((x, s) :: r) ρ := fun y sl e' => by
  rw [List.lookup_cons] at e'
  cases hb : y == x with
  | true => rw [hb] at e'; cases e'; rw [beq_iff_eq.mp hb]; exact e
  | false => rw [hb] at e'; exact h y sl e'
theorem FOK.forget {M Y : Addr → Prop} {env : Env} {ρ ρ' : REnv} {h : Heap} (F : FOK B M Y bx sc env ρ h) (s : SubEnv ρ' ρ) : FOK B M Y bx sc env ρ' h := {
  eok := { F.eok with vars := fun x sl e => F.eok.vars x sl (s x sl e) }
  disj := F.disj
  locM := F.locM
  ns := F.ns
  cellM := F.cellM
  apart := F.apart
  cells := F.cells
  own := fun x sl D e i b => by
    obtain ⟨h1, h2, h3, h4⟩ := F.own x sl D (s x sl e) i b
    exact ⟨h1, h2, h3, fun y sl' hy e' i' => h4 y sl' hy (s y sl' e') i'⟩
  boxY := F.boxY }
theorem Exs.forget {ρ ρ' : REnv} {ss : List Stmt} (s : SubEnv ρ' ρ) (h : Exs B bx n sc ρ' st ss out) : Exs B bx n sc ρ st ss out := fun A M Y env sh Q r F S q => h A M Y env sh Q r (F.forget s) S q
theorem Exs.weak {ρ ρ₁ ρ₂ : REnv} {ss : List Stmt} (h : Exs B bx n sc ρ st ss (.next ρ₁ st₁)) (s : SubEnv ρ₂ ρ₁) : Exs B bx n sc ρ st ss (.next ρ₂ st₁) := fun A M Y env sh Q r F S q =>
  h A M Y env sh Q r F S fun M' h' tk k g F' S' => q M' h' tk k g (F'.forget s) S'
theorem Exs.last {ρ ρ₁ : REnv} {s : Stmt} (h : Ex1 B bx n sc ρ st s (.next ρ₁ st₁)) : Exs B bx n sc ρ st [s] (.next ρ₁ st₁) := Exs.cons h Exs.nil

theorem Ex1.iaddE {ρ ρ' : REnv} {x : Str} {p' p : Pos} {e : Expr} {a b c : Int} (e0 : ρ.lookup x = some (.sh (.int a))) (h : Ev B bx n sc ρ st e (.int b) st₁) (k : sc.names.lookup x = some .local ∨ sc.names.lookup x = some .cell) (hc : a + b = c) (hs : SetTo x (.sh (.int c)) ρ ρ')
    (hn : (x == ("__classdict__" : Str)) = false := by decide) : Ex1 B bx n sc ρ st (.AugAssign (.Name x p') .Add e p) (.next ρ' st₁) := by subst hc; exact Ex1.iadd e0 h k hs hn
theorem Ex1.ishrE {ρ ρ' : REnv} {x : Str} {p' p : Pos} {e : Expr} {a b c : Int} (e0 : ρ.lookup x = some (.sh (.int a))) (h : Ev B bx n sc ρ st e (.int b) st₁) (h0 : 0 ≤ b) (k : sc.names.lookup x = some .local ∨ sc.names.lookup x = some .cell) (hc : a / 2 ^ b.toNat = c) (hs : SetTo x (.sh (.int c)) ρ ρ')
    (hn : (x == ("__classdict__" : Str)) = false := by decide) : Ex1 B bx n sc ρ st (.AugAssign (.Name x p') .RShift e p) (.next ρ' st₁) := by subst hc; exact Ex1.ishr e0 h h0 k hs hn
theorem Ex1.imulE {ρ ρ' : REnv} {x : Str} {p' p : Pos} {e : Expr} {a b c : Int} (e0 : ρ.lookup x = some (.sh (.int a))) (h : Ev B bx n sc ρ st e (.int b) st₁) (ok : IntMulOk a b) (k : sc.names.lookup x = some .local ∨ sc.names.lookup x = some .cell) (hc : a * b = c) (hs : SetTo x (.sh (.int c)) ρ ρ')
    (hn : (x == ("__classdict__" : Str)) = false := by decide) : Ex1 B bx n sc ρ st (.AugAssign (.Name x p') .Mult e p) (.next ρ' st₁) := by subst hc; exact Ex1.imul e0 h ok k hs hn
theorem Ex1.appendE {ρ ρ' : REnv} {x : Str} {np ap p p' : Pos} {e : Expr} {ts us : List T} {t t' : T} (e0 : ρ.lookup x = some (.own ts)) (h : Ev B bx n sc ρ st e t st₁) (ht : t = t') (hu : ts ++ [t'] = us) (hs : SetTo x (.own us) ρ ρ') (hz : ts.length ≤ sizeLine)
    {pl : Env → Sem Bool} (he : ∀ env, eval (.Call (.Attribute (.Name x np) "append" ap) [e] [] p) env = (do
      let ov ← eval (.Name x np) env
      standAt ap.atName
      let (f, first) ← holding [ov] (getMethod ov "append" (pl env))
      callWith p f first (backTo p (starEach [e] env)) []))
    (hn : (x == ("__classdict__" : Str)) = false := by decide) (hd : (x == ("__debug__" : Str)) = false := by decide) (hp : ∀ env, starEach [e] env = (false, eval e env) :: starEach [] env := by intro _; rfl)
    (hw : ∀ env, swapsWith (.Call (.Attribute (.Name x np) "append" ap) [e] [] p) Option.none p'.line env = pure false := by intro _; rfl) :
    Ex1 B bx n sc ρ st (.Expr (.Call (.Attribute (.Name x np) "append" ap) [e] [] p) p') (.next ρ' st₁) := by subst hu ht; exact Ex1.append e0 h hs hz hn hd hp he hw

theorem WhileTo.more {c : Expr} {body : List Stmt} : ∀ {k m : Nat} {ρ : REnv} {st : BSt}, WhileTo B bx n sc c body k ρ st out → k ≤ m → WhileTo B bx n sc c body m ρ st out
  | 0, _, _, _, h, _ => h.elim
  | k + 1, 0, _, _, _, l => absurd l (Nat.not_succ_le_zero _)
  | k + 1, m + 1, ρ, st, h, l => by
    rcases h with h | ⟨st', ht, h | h⟩
    · exact .inl h
    · obtain ⟨ρ₁, st₁, a, b⟩ := h
      exact .inr ⟨st', ht, .inl ⟨ρ₁, st₁, a, b.more (Nat.le_of_succ_le_succ l)⟩⟩
    · exact .inr ⟨st', ht, .inr h⟩

theorem WhileTo.stop {c : Expr} {body : List Stmt} {k : Nat} {ρ : REnv} {st st' : BSt} (h : Tr B bx n sc ρ st c false st') : WhileTo B bx n sc c body (k + 1) ρ st (.next ρ st') := .inl ⟨st', h, rfl⟩
theorem WhileTo.turn {c : Expr} {body : List Stmt} {k : Nat} {ρ ρ₁ : REnv} {st st' st₁ : BSt} (h : Tr B bx n sc ρ st c true st') (hb : Exs B bx n sc ρ st' body (.next ρ₁ st₁)) (hr : WhileTo B bx n sc c body k ρ₁ st₁ out) : WhileTo B bx n sc c body (k + 1) ρ st out :=
  .inr ⟨st', h, .inl ⟨ρ₁, st₁, hb, hr⟩⟩

theorem WhileTo.rec_ {c : Expr} {body : List Stmt} (F : Nat → REnv) (G : Nat → Out) (N : Nat) (h : ∀ k, k ≤ N → (∀ j, j < k → WhileTo B bx n sc c body (j + 1) (F j) st (G j)) → WhileTo B bx n sc c body (k + 1) (F k) st (G k)) :
    WhileTo B bx n sc c body (N + 1) (F N) st (G N) := by
  have all : ∀ k, k ≤ N → WhileTo B bx n sc c body (k + 1) (F k) st (G k) := by
    intro k
    induction k using Nat.strongRecOn with
    | ind k ih => exact fun hk => h k hk fun j hj => ih j hj (by omega)
  exact all N (Nat.le_refl _)

theorem WhileTo.meas {c : Expr} {body : List Stmt} {α : Type} (m : α → Nat) (F : α → REnv) (G : α → Out) (h : ∀ a, (∀ a', m a' < m a → WhileTo B bx n sc c body (m a' + 1) (F a') st (G a')) → WhileTo B bx n sc c body (m a + 1) (F a) st (G a)) (a : α) :
    WhileTo B bx n sc c body (m a + 1) (F a) st (G a) := by
  have all : ∀ k a, m a = k → WhileTo B bx n sc c body (m a + 1) (F a) st (G a) := by
    intro k
    induction k using Nat.strongRecOn with
    | ind k ih => exact fun a e => h a fun a' l => ih _ (e ▸ l) a' rfl
  exact all _ a rfl

theorem WhileTo.measP {c : Expr} {body : List Stmt} {α : Type} (P : α → Prop) (m : α → Nat) (F : α → REnv) (G : α → Out) (h : ∀ a, P a → (∀ a', P a' → m a' < m a → WhileTo B bx n sc c body (m a' + 1) (F a') st (G a')) → WhileTo B bx n sc c body (m a + 1) (F a) st (G a)) (a : α) (hP : P a) :
    WhileTo B bx n sc c body (m a + 1) (F a) st (G a) := by
  have all : ∀ k a, P a → m a = k → WhileTo B bx n sc c body (m a + 1) (F a) st (G a) := by
    intro k
    induction k using Nat.strongRecOn with
    | ind k ih => exact fun a p e => h a p fun a' p' l => ih _ (e ▸ l) a' p' rfl
  exact all _ a hP rfl

theorem ForTo.rec_ {x : Str} {body : List Stmt} (F : Nat → REnv) (S : Nat → BSt) : ∀ (ts : List T) (m : Nat), (∀ i (hi : i < ts.length), ∃ ρ₀, SetTo x (.sh ts[i]) (F (m + i)) ρ₀ ∧ Exs B bx n sc ρ₀ (S (m + i)) body (.next (F (m + i + 1)) (S (m + i + 1)))) →
    ForTo B bx n sc x body ts (F m) (S m) (.next (F (m + ts.length)) (S (m + ts.length)))
  | [], m, _ => rfl
  | t :: ts, m, h => by
    obtain ⟨ρ₀, h1, h2⟩ := h 0 (by simp)
    refine ⟨ρ₀, h1, .inl ⟨F (m + 1), S (m + 1), h2, ?_⟩⟩
    have := ForTo.rec_ F S ts (m + 1) fun i hi => by
      obtain ⟨ρ₀, a, b⟩ := h (i + 1) (by simpa using hi)
      refine ⟨ρ₀, ?_, ?_⟩
      · simpa [Nat.add_assoc, Nat.add_comm 1] using a
      · simpa [Nat.add_assoc, Nat.add_comm 1] using b
    simpa [Nat.add_assoc, Nat.add_comm 1] using this
/-- a loop that always goes on; its frame by the turn's number -/
theorem ForTo.go {x : Str} {body : List Stmt} {ts : List T} {ρ : REnv} (F : Nat → REnv) (S : Nat → BSt) (h : ∀ i (hi : i < ts.length), ∃ ρ₀, SetTo x (.sh ts[i]) (F i) ρ₀ ∧ Exs B bx n sc ρ₀ (S i) body (.next (F (i + 1)) (S (i + 1)))) (e : F 0 = ρ) (es : S 0 = st)
    (eo : out = .next (F ts.length) (S ts.length)) : ForTo B bx n sc x body ts ρ st out := by
  subst e es eo
  have := ForTo.rec_ F S ts 0 fun i hi => by simpa using h i hi
  simpa using this
theorem ForTo.nil {x : Str} {body : List Stmt} {ρ : REnv} : ForTo B bx n sc x body [] ρ st (.next ρ st) := rfl
theorem ForTo.cons {x : Str} {body : List Stmt} {t : T} {ts : List T} {ρ ρ₀ ρ₁ : REnv} (h : SetTo x (.sh t) ρ ρ₀) (hb : Exs B bx n sc ρ₀ st body (.next ρ₁ st₁)) (hr : ForTo B bx n sc x body ts ρ₁ st₁ out) : ForTo B bx n sc x body (t :: ts) ρ st out :=
  ⟨ρ₀, h, .inl ⟨ρ₁, st₁, hb, hr⟩⟩
theorem ForTo.leave {x : Str} {body : List Stmt} {t u : T} {ts : List T} {ρ ρ₀ : REnv} (h : SetTo x (.sh t) ρ ρ₀) (hb : Exs B bx n sc ρ₀ st body (.ret u st₁)) : ForTo B bx n sc x body (t :: ts) ρ st (.ret u st₁) :=
  ⟨ρ₀, h, .inr ⟨u, st₁, hb, rfl⟩⟩
end

theorem lookup_ne {α : Type} {x y : Str} {v : α} {r : List (Str × α)} {o : Option α} (h : (x == y) = false) (e : r.lookup x = o) : List.lookup x ((y, v) :: r) = o := by
  rw [List.lookup_cons, h]; exact e
theorem lookup_eq {α : Type} {x : Str} {v : α} {r : List (Str × α)} : List.lookup x ((x, v) :: r) = some v := by simp
theorem nsIn_of {K K' : Frag} {a : Addr} {x : Str} {r : Option (Option Value)} (h : K = K') (e : nsIn K' a x = r) : nsIn K a x = r := h ▸ e
theorem keepIn_of {K K' : Frag} {v : Value} {r : Bool} (h : K = K') (e : keepIn K' v = r) : keepIn K v = r := h ▸ e
theorem isFn_of {K K' : Frag} {v : Value} {r : Bool} (h : K = K') (e : isFn K' v = r) : isFn K v = r := h ▸ e
theorem findIn_of {K K' : Frag} {v : Value} {x : Str} {r : Option (Option Value)} (h : K = K') (e : findIn K' v x = r) : findIn K v x = r := h ▸ e
theorem codeIn_of {K K' : Frag} {v : Value} {x : Str} {r : Bool} (h : K = K') (e : codeIn K' v x = r) : codeIn K v x = r := h ▸ e
theorem look_of {K K' : Frag} {a : Addr} {r : Option Obj} (h : K = K') (e : K'.lookup a = r) : K.lookup a = r := h ▸ e
end Mine
namespace Mine
open PySem PySem.W PyProof.Rows

noncomputable def relS (cs sc : Scope) : Scope :=
  { cs with names := cs.names.map fun (n, k) => if (k == .free && sc.kind == .function && sc.names.lookup n == some .cell) then (n, .cell) else (n, k) }
theorem relabel_eq {cs sc : Scope} {env : Env} (h : env.scope = sc) : relabel cs env = relS cs sc := by subst h; rfl

noncomputable def Ifs (B : Bg) (bx : Bx) (n : Nat) (sc : Scope) (ρ : REnv) (st : BSt) : List Expr → Bool → BSt → Prop
  | [], b, st' => b = true ∧ st' = st
  | [c], b, st' => Tr B bx n sc ρ st c b st'
  | _, _, _ => False

/-- a comprehension, item by item -/
noncomputable def CompTo (B : Bg) (bx : Bx) (n : Nat) (sc : Scope) (x : Str) (ifs : List Expr) (elt : Expr) (ρf : REnv) : List T → BSt → List T → BSt → Prop
  | [], st, us, st' => us = [] ∧ st = st'
  | t :: ts, st, us, st' => ∃ st₁, (Ifs B bx n sc ((x, .sh t) :: ρf) st ifs false st₁ ∧ CompTo B bx n sc x ifs elt ρf ts st₁ us st') ∨
      ∃ u st₂ us', Ifs B bx n sc ((x, .sh t) :: ρf) st ifs true st₁ ∧ Ev B bx n sc ((x, .sh t) :: ρf) st₁ elt u st₂ ∧ CompTo B bx n sc x ifs elt ρf ts st₂ us' st' ∧ us = u :: us'

/-- the scope of a comprehension, looked at without its frame -/
structure CompOK (cs sc : Scope) (x : Str) (keys : List Str) : Prop where
  kind : cs.kind = .function
  cell : ∀ y ∈ cs.names, y.2 ≠ .cell
  names : ∀ y ∈ cs.names, y.2 = .local → cs.names.lookup y.1 = some .local
  loc : cs.names.lookup x = some .local
  xr : (relS cs sc).names.lookup x = some .local
  free : ∀ y ∈ cs.names, y.2 = .free → y.1 ∈ keys
  keys : ∀ y ∈ keys, y ≠ x ∧ (relS cs sc).names.lookup y = some .cell ∧ sc.names.lookup y = some .cell ∧ (y, NameKind.free) ∈ cs.names

theorem closure_some {env : Env} : ∀ (names : List (Str × NameKind)) (acc : List (Str × Addr)), (∀ y ∈ names, y.2 = .free → (env.cells.lookup y.1).isSome = true) → (∀ y c, acc.lookup y = some c → env.cells.lookup y = some c) →
    ∃ cl, (forIn (m := Sem) names acc fun x r => if (x.2 == .free) = true then do let a ← cellOf env x.1; pure (ForInStep.yield ((x.1, a) :: r)) else pure (ForInStep.yield r)) = pure cl ∧ (∀ y c, cl.lookup y = some c → env.cells.lookup y = some c) ∧
      (∀ y, (acc.lookup y).isSome = true → (cl.lookup y).isSome = true) ∧ ∀ y ∈ names, y.2 = .free → (cl.lookup y.1).isSome = true
  | [], acc, _, ha => ⟨acc, rfl, ha, fun _ h => h, fun _ h => nomatch h⟩
  | (y, k) :: r, acc, h, ha => by
    by_cases hk : k = .free
    · subst hk
      obtain ⟨c, ec⟩ := Option.isSome_iff_exists.mp (h (y, .free) (.head _) rfl)
      obtain ⟨cl, e1, e2, e3, e4⟩ := closure_some r ((y, c) :: acc) (fun z hz => h z (.tail _ hz)) (fun z d e => by
        rw [List.lookup_cons] at e
        cases hb : z == y with
        | true => rw [hb] at e; cases e; rw [beq_iff_eq.mp hb]; exact ec
        | false => rw [hb] at e; exact ha z d e)
      refine ⟨cl, ?_, e2, fun z hz => e3 z ?_, fun z hz hf => ?_⟩
      · rw [List.forIn_cons, ← e1]
        have : cellOf env y = pure c := by unfold cellOf; dsimp only at ec; rw [ec]
        simp only [beq_self_eq_true, if_true, this]
        rfl
      · rw [List.lookup_cons]
        cases hb : z == y with
        | true => rfl
        | false => exact hz
      · rcases List.mem_cons.mp hz with rfl | hz
        · exact e3 _ (by simp)
        · exact e4 z hz hf
    · obtain ⟨cl, e1, e2, e3, e4⟩ := closure_some r acc (fun z hz => h z (.tail _ hz)) ha
      refine ⟨cl, ?_, e2, e3, fun z hz hf => ?_⟩
      · rw [List.forIn_cons, ← e1]
        have : (k == NameKind.free) = false := by simpa using hk
        simp only [this, Bool.false_eq_true, if_false]
        rfl
      · rcases List.mem_cons.mp hz with rfl | hz
        · exact absurd hf hk
        · exact e4 z hz hf

theorem closure_of {cs : Scope} {env : Env} (h : ∀ y ∈ cs.names, y.2 = .free → (env.cells.lookup y.1).isSome = true) :
    ∃ cl, closureFor cs env = pure cl ∧ (∀ y c, cl.lookup y = some c → env.cells.lookup y = some c) ∧ ∀ y ∈ cs.names, y.2 = .free → (cl.lookup y.1).isSome = true := by
  obtain ⟨cl, e1, e2, _, e4⟩ := closure_some cs.names [] h (fun _ _ e => by simp at e)
  refine ⟨cl, ?_, e2, e4⟩
  rw [← bind_pure (pure cl : Sem _), ← e1]
  rfl
end Mine
namespace Mine
open PySem PySem.W PyProof.Rows
section
variable {B : Bg} {bx : Bx} {n : Nat} {sc : Scope} {ρ ρ' : REnv} {st st₁ st₂ st₃ : BSt} {out : Out}

noncomputable abbrev X4 (X : Addr → Prop) (I D C : Addr) : Addr → Prop := plus (plus (plus X I) D) C

theorem comp_block {A : Around} {X : Addr → Prop} {env : Env} {s₂ : Shared} {I : Addr} {fp : List Addr} {P : Nat → Value → Prop} {St : Nat → Heap → Prop} {ts us : List T} {x : Str} {px : Pos} {ifs : List Expr} {elt iter : Expr} {cs : Scope} {cl : List (Str × Addr)} {pos : Pos} {ρf : REnv}
    {E : Value → Shared → Prop} {RR : Value → Addr → Result → Shared → Prop}
    (W : Iter B bx A I fp P St (vis (plus X I) s₂.heap) ts) (r : Room A n) (F : EOK B (plus X I) bx sc env ρ s₂.heap) (S : BoxOK (plus X I) bx s₂.heap st) (hI : ¬ InBox bx I) (hbX : ∀ b, InBox bx b → X b) (hst : St 0 s₂.heap)
    (hc : CompOK cs sc x (ρf.map (·.1))) (hsub : SubEnv ρf ρ) (hsh : (ρf.all fun p => p.2.isSh) = true)
    (hcl : ∀ y c, cl.lookup y = some c → env.cells.lookup y = some c) (hcl' : ∀ y ∈ cs.names, y.2 = .free → (cl.lookup y.1).isSome = true)
    (hcI : ∀ y sl c, ρ.lookup y = some sl → env.kindOf y = some .cell → env.cells.lookup y = some c → c ≠ I)
    (hto : CompTo B bx n (relS cs sc) x ifs elt ρf ts st us st₁) (hz : ts.length ≤ sizeLine)
    (hRR : ∀ D C h' tk m' ys k, s₂.heap.get? D = none → s₂.heap.get? C = none → D ≠ C → h'.Ns C m' → h'.get? D = some (listObj ys k) → RepAll (vis (X4 X I D C) h') us ys → (∀ b o, b ≠ I → ¬ InBox bx b → s₂.heap.get? b = some o → h'.get? b = some o) →
      BoxOK (plus X I) bx h' st₁ → RR (.ref D) C (.ok .next) { s₂ with heap := h', toks := tk }) :
    wpAny (model B.prog B.w) A (newList []) (fun acc s₃ => wpAny (model B.prog B.w) A (newFunctionEnv cs env.globals cl [] env.qual none .none (some env)) (fun cenv s₄ =>
      codeAny (model B.prog B.w) A (.compStart (.ListComp elt [⟨.Name x px, iter, ifs, 0⟩] cs pos) 0 (.ref I) acc { cenv with scope := relabel cs env }) (RR acc cenv.locals) s₄) E s₃) E s₂ := by
  have hrel : relabel cs env = relS cs sc := relabel_eq F.scope
  refine wpAny_newObj_type (wpAny_newFunctionEnv hc.cell (by intro y hy; simp at hy) (fun h₁ hns₁ hsb₁ => ?_) hc.kind)
  dsimp only at hns₁ hsb₁ ⊢
  generalize hH2 : s₂.heap.push { cls := .type "list", dict := none, data := .seq ([] : List Value).toArray } = H2 at hns₁ hsb₁ ⊢
  obtain ⟨D, hD⟩ : ∃ D, s₂.heap.objs.size = D := ⟨_, rfl⟩
  obtain ⟨C, hC0⟩ : ∃ C, H2.objs.size = C := ⟨_, rfl⟩
  have hC : C = D + 1 := by rw [← hC0, ← hH2, Heap.size_push, hD]
  rw [hC0] at hns₁ hsb₁
  have hDC : D ≠ C := by rw [hC]; exact Nat.ne_of_lt (Nat.lt_succ_self _)
  have below : ∀ b o, s₂.heap.get? b = some o → b ≠ C ∧ b ≠ D := fun b o e => by
    have := Heap.lt_size e
    rw [hD] at this
    exact ⟨by rw [hC]; exact Nat.ne_of_lt (Nat.lt_succ_of_lt this), Nat.ne_of_lt this⟩
  have old : ∀ b o, s₂.heap.get? b = some o → h₁.get? b = some o := fun b o e => hsb₁.extBut b o (below b o e).1 (Heap.get?_push_of_some _ (hH2 ▸ Heap.get?_push_of_some _ e))
  have hacc : h₁.get? D = some (listObj [] 0) := hsb₁.extBut _ _ hDC (Heap.get?_push_of_some _ (hH2 ▸ hD ▸ Heap.get?_push_size _ rfl))
  have fresh : ∀ a, D ≤ a → s₂.heap.get? a = none := fun a ha => by
    cases e : s₂.heap.get? a with
    | none => rfl
    | some o' => exact absurd (Heap.lt_size e) (Nat.not_lt.mpr (hD ▸ ha))
  have frD := fresh D (Nat.le_refl _)
  have frC := fresh C (by rw [hC]; exact Nat.le_succ _)
  obtain ⟨oI, eI⟩ := W.live 0 _ hst
  have nI := below I oI eI
  have hbL : ∀ b, InBox bx b → ∃ o, s₂.heap.get? b = some o := fun b i => S.live i
  have nBD : ¬ InBox bx D := fun i => by obtain ⟨o, e⟩ := hbL D i; rw [frD] at e; cases e
  have nBC : ¬ InBox bx C := fun i => by obtain ⟨o, e⟩ := hbL C i; rw [frC] at e; cases e
  have fpok : ∀ b ∈ fp, b ≠ C ∧ b ≠ D ∧ ¬ InBox bx b := fun b hb => by
    by_cases z : b = I
    · subst z; exact ⟨nI.1, nI.2, hI⟩
    · obtain ⟨o, w⟩ := W.seen b hb z
      exact ⟨(below b o w.2).1, (below b o w.2).2, fun i => w.1 (.inl (hbX b i))⟩
  have noE : ∀ (cenv : Env) (R : Result → Shared → Prop) (e : Value) (s : Shared), False → notedBy (model B.prog B.w) A cenv (fun e s' => R (.error e) s') e s := fun _ _ _ _ f => f.elim
  -- the frame of the comprehension, at a heap
  have frame : ∀ (h' : Heap) (m' : Str → Option Value) (t : T) (v : Value) (ys : List Value) (k : Nat), (∀ b o, b ≠ I → ¬ InBox bx b → s₂.heap.get? b = some o → h'.get? b = some o) → (∃ o, h'.get? I = some o) → h'.get? D = some (listObj ys k) → h'.Ns C m' → m' x = some v →
      Rep (vis (X4 X I D C) h') t v → (∀ b, InBox bx b → ∃ o, h'.get? b = some o) → EOK B (X4 X I D C) bx (relS cs sc) (compEnvC cs cl C env) ((x, .sh t) :: ρf) h' := by
    intro h' m' t v ys k K liveI eD nsC mx rv liveB
    exact {
      bg := ⟨fun b o e => by
        obtain ⟨a1, a2⟩ := F.bg.bg b o e
        refine ⟨fun z => ?_, K b o (fun z => a1 (.inr z)) (fun i => a1 (.inl (hbX b i))) a2⟩
        rcases z with (z | z) | z
        · exact a1 z
        · exact (below b o a2).2 z
        · exact (below b o a2).1 z, fun b z => by
        rcases z with ((z | z) | z) | z
        · by_cases i : InBox bx b
          · exact liveB b i
          · obtain ⟨o, e⟩ := F.bg.live b (.inl z)
            by_cases q : b = I
            · exact q ▸ liveI
            · exact ⟨o, K b o q i e⟩
        · exact z ▸ liveI
        · exact z ▸ ⟨_, eD⟩
        · obtain ⟨o, es, ep, e, _⟩ := nsC
          exact z ▸ ⟨o, e⟩⟩
      scope := hrel
      kind := hc.kind
      glob := F.glob
      blt := F.blt
      locB := nBC
      cellB := fun y c e => F.cellB y c (hcl y c e)
      vars := fun y sl e => by
        rw [List.lookup_cons] at e
        cases hb : y == x with
        | true =>
          rw [hb] at e; cases e
          rw [beq_iff_eq.mp hb]
          exact ⟨v, .inl ⟨by show (relabel cs env).names.lookup x = _; rw [hrel]; exact hc.xr, m', nsC, mx⟩, rv, fun _ _ i => absurd rfl (i _)⟩
        | false =>
          rw [hb] at e
          have hk : y ∈ ρf.map (·.1) := List.mem_map_of_mem (f := (·.1)) (lookup_mem' e)
          obtain ⟨k1, k2, k3, k4⟩ := hc.keys y hk
          have sh : sl.isSh = true := (List.all_eq_true.mp hsh) (y, sl) (lookup_mem' e)
          obtain ⟨u, bd, rep, _⟩ := F.vars y sl (hsub y sl e)
          cases sl with
          | own _ => cases sh
          | odict _ => cases sh
          | sh t' =>
            refine ⟨u, ?_, ?_, fun _ _ i => absurd rfl (i _)⟩
            · rcases bd with ⟨kk, _⟩ | ⟨kk, c, ec, o, q, dd⟩
              · have : env.kindOf y = some .cell := by show env.scope.names.lookup y = _; rw [F.scope]; exact k3
                rw [this] at kk; cases kk
              · obtain ⟨c', ec'⟩ := Option.isSome_iff_exists.mp (hcl' (y, .free) k4 rfl)
                have := hcl y c' ec'
                rw [ec] at this; cases this
                refine .inr ⟨.inl (by show (relabel cs env).names.lookup y = _; rw [hrel]; exact k2), c, ec', o, ?_, dd⟩
                refine K c o (fun z => ?_) (F.cellB y c ec) q
                exact hcI y _ c (hsub y _ e) (by show env.scope.names.lookup y = _; rw [F.scope]; exact k3) ec z
            · exact Rep.mono (t := t') (v := u) (V := vis (plus X I) s₂.heap) (V' := vis (X4 X I D C) h') (fun a o w => by
                have b1 := below a o w.2
                refine ⟨fun z => ?_, K a o (fun z => w.1 (.inr z)) (fun i => w.1 (.inl (hbX a i))) w.2⟩
                rcases z with (z | z) | z
                · exact w.1 z
                · exact b1.2 z
                · exact b1.1 z) rep }
  have hst₁ : St 0 h₁ := W.walks.frame _ _ _ hst fun b _ o e => old b o e
  have loop : ∀ s₃ : Shared, s₃ = { s₂ with heap := h₁, toks := s₂.toks + ([] : List (Str × Value)).length } →
      codeAny (model B.prog B.w) A (.compLoop (.ListComp elt [⟨.Name x px, iter, ifs, 0⟩] cs pos) 0 (.ref I) (.ref D) (compEnvC cs cl C env)) (RR (.ref D) C) s₃ := by
    rintro s₃ rfl
    refine codeAny_compLoop_tests
      (fun m s' => ∃ i h' tk m' ys k stᵢ ua ub, i ≤ ts.length ∧ m = ts.length + 1 - i ∧ s' = { s₂ with heap := h', toks := tk } ∧ St i h' ∧ (∀ b o, b ≠ I → ¬ InBox bx b → s₂.heap.get? b = some o → h'.get? b = some o) ∧
        h'.Ns C m' ∧ h'.get? D = some (listObj ys k) ∧ RepAll (vis (X4 X I D C) h') ua ys ∧ BoxOK (plus X I) bx h' stᵢ ∧ us = ua ++ ub ∧ ua.length ≤ i ∧ CompTo B bx n (relS cs sc) x ifs elt ρf (ts.drop i) stᵢ ub st₁) ?_ (ts.length + 1)
      ⟨0, h₁, _, _, [], 0, st, [], us, Nat.zero_le _, rfl, rfl, hst₁, fun b o _ _ e => old b o e, hns₁, hacc, rfl, S.keeps old, rfl, Nat.le_refl _, hto⟩
    rintro m s' ⟨i, h', tk, m', ys, k, stᵢ, ua, ub, hi, rfl, rfl, hst', K, nsC, eD, ra, S', hus, hul, hto'⟩
    have S'4 : BoxOK (X4 X I D C) bx h' stᵢ := S'.wider fun b z => .inl (.inl z)
    by_cases hlt : i < ts.length
    · have hd : ts.drop i = ts[i] :: ts.drop (i + 1) := List.drop_eq_getElem_cons hlt
      rw [hd] at hto'
      refine W.walks.item i _ _ _ hlt hst' fun v h₂ tk₂ hP hst₂ hk₂ => ?_
      have k₂ : ∀ b o, b ≠ I → h'.get? b = some o → h₂.get? b = some o := fun b o ne e => hk₂ b o (by simpa using ne) e
      have nsC₂ : h₂.Ns C m' := nsC.at' fun o e => k₂ C o (Ne.symm nI.1) e
      refine wpAny_assign_Name (wpAny_storeName_local (by show (relabel cs env).names.lookup x = _; rw [hrel]; exact hc.xr) nsC₂ (fun h₃ hn₃ hs₃ => ?_) (by simp [compEnvC, relabel, hc.kind]))
      have k₃ : ∀ b o, b ≠ I → b ≠ C → h'.get? b = some o → h₃.get? b = some o := fun b o n1 n2 e => hs₃.extBut b o n2 (k₂ b o n1 e)
      have K₃ : ∀ b o, b ≠ I → ¬ InBox bx b → s₂.heap.get? b = some o → h₃.get? b = some o := fun b o n1 n2 e => k₃ b o n1 (below b o e).1 (K b o n1 n2 e)
      have hst₃ : St (i + 1) h₃ := W.walks.frame _ _ _ hst₂ fun b hb o e => hs₃.extBut b o (fpok b hb).1 e
      have rv : Rep (vis (X4 X I D C) h₃) ts[i] v := (W.item i v ts[i] hP (by simp [hlt])).mono fun a o w => by
        have b1 := below a o w.2
        refine ⟨fun z => ?_, K₃ a o (fun z => w.1 (.inr z)) (fun j => w.1 (.inl (hbX a j))) w.2⟩
        rcases z with (z | z) | z
        · exact w.1 z
        · exact b1.2 z
        · exact b1.1 z
      have eD₃ : h₃.get? D = some (listObj ys k) := k₃ D _ (Ne.symm nI.2) hDC eD
      have S₃ : BoxOK (X4 X I D C) bx h₃ stᵢ := fun p e => by
        obtain ⟨a1, a2, a3, ⟨q, t, a4⟩, q', vs, a5, a6⟩ := S'4 p e
        have z : ∀ b, InBox bx b → b ≠ I ∧ b ≠ C := fun b j => ⟨fun z => hI (z ▸ j), fun z => nBC (z ▸ j)⟩
        exact ⟨a1, a2, a3, ⟨q, t, k₃ _ _ (z _ ⟨p, e, .inl rfl⟩).1 (z _ ⟨p, e, .inl rfl⟩).2 a4⟩, q', vs, k₃ _ _ (z _ ⟨p, e, .inr rfl⟩).1 (z _ ⟨p, e, .inr rfl⟩).2 a5, a6⟩
      have ra₃ : RepAll (vis (X4 X I D C) h₃) ua ys := ra.mono fun a o w => ⟨w.1, k₃ a o (fun z => w.1 (.inl (.inl (.inr z)))) (fun z => w.1 (.inr z)) w.2⟩
      have F₃ := frame h₃ _ ts[i] v ys k K₃ (W.live _ _ hst₃) eD₃ hn₃ (by simp) rv fun b j => S₃.live j
      obtain ⟨stₜ, hto'⟩ := hto'
      -- what is behind the tests
      have after : ∀ (b : Bool) (Z : Bool → Shared → Prop), Ifs B bx n (relS cs sc) ((x, .sh ts[i]) :: ρf) stᵢ ifs b stₜ → (∀ h₄ tk₄, Ext bx h₃ h₄ → BoxOK (X4 X I D C) bx h₄ stₜ → Z b { s₂ with heap := h₄, toks := tk₄ }) →
          wpAny (model B.prog B.w) A (forIn ifs true fun c r => if r = true then do let ok ← isTrue c (compEnvC cs cl C env) (eval c (compEnvC cs cl C env)); pure (ForInStep.yield ok) else pure (ForInStep.yield r)) Z
            (notedBy (model B.prog B.w) A (compEnvC cs cl C env) fun e s' => RR (.ref D) C (.error e) s') { s₂ with heap := h₃, toks := tk₂ + 1 } := by
        intro b Z hi' hZ
        match ifs, hi' with
        | [], hi' => obtain ⟨rfl, rfl⟩ := hi'; exact wpAny_tests_nil (hZ h₃ _ Ext.refl S₃)
        | [c], hi' => exact wpAny_tests_one (wpAny_mono (E := fun _ _ => False) (hi' A _ _ { s₂ with heap := h₃, toks := tk₂ + 1 } _ r F₃ S₃ hZ) (fun _ _ y => y) fun _ _ f => f.elim)
      have keep4 : ∀ {h₄ : Heap} {st₄ : BSt}, Ext bx h₃ h₄ → BoxOK (X4 X I D C) bx h₄ st₄ → St (i + 1) h₄ ∧ (∀ b o, b ≠ I → ¬ InBox bx b → s₂.heap.get? b = some o → h₄.get? b = some o) ∧ (∃ m₄, h₄.Ns C m₄) ∧ h₄.get? D = some (listObj ys k) ∧
          RepAll (vis (X4 X I D C) h₄) ua ys ∧ BoxOK (plus X I) bx h₄ st₄ := by
        intro h₄ st₄ x₄ S₄
        refine ⟨W.walks.frame _ _ _ hst₃ fun b hb o e => x₄ b o (fpok b hb).2.2 e, fun b o n1 n2 e => x₄ b o n2 (K₃ b o n1 n2 e), ⟨_, hn₃.at' fun o e => x₄ C o nBC e⟩, x₄ D _ nBD eD₃, ra₃.mono (vis_ext (fun _ j => inBox_X S₄ j) x₄), fun p e => ?_⟩
        obtain ⟨_, _, rr⟩ := S₄ p e
        exact ⟨.inl (hbX _ ⟨p, e, .inl rfl⟩), .inl (hbX _ ⟨p, e, .inr rfl⟩), rr⟩
      rcases hto' with ⟨hif, hrest⟩ | ⟨u, st₅, us', hif, hev, hrest, rfl⟩
      · refine after false _ hif fun h₄ tk₄ x₄ S₄ => ?_
        simp only [Bool.false_eq_true, if_false]
        obtain ⟨b1, b2, ⟨m₄, b3⟩, b4, b5, b6⟩ := keep4 x₄ S₄
        exact ⟨ts.length + 1 - (i + 1), by omega, i + 1, h₄, tk₄, m₄, ys, k, stₜ, ua, ub, hlt, rfl, rfl, b1, b2, b3, b4, b5, b6, hus, by omega, hrest⟩
      · refine after true _ hif fun h₄ tk₄ x₄ S₄ => ?_
        simp only [if_true]
        have F₄ := F₃.keeps x₄ S₄
        refine wpAny_mono (E := fun _ _ => False) (hev A _ _ { s₂ with heap := h₄, toks := tk₄ } _ r F₄ S₄ fun y h₅ tk₅ x₅ S₅ ry => ?_) (fun _ _ y => y) fun _ _ f => f.elim
        have x₄₅ : Ext bx h₃ h₅ := x₄.trans x₅
        obtain ⟨b1, b2, ⟨m₅, b3⟩, b4, b5, b6⟩ := keep4 x₄₅ S₅
        have hyl := b5.length
        refine wpAny_list_append_plain (s := { s₂ with heap := h₅, toks := tk₅ }) ⟨k, b4⟩ (fun h₆ ho₆ hs₆ => ?_) (by rw [List.size_toArray, hyl]; omega)
        obtain ⟨k₆, ho₆⟩ := ho₆
        have k6 : ∀ b o, b ≠ D → h₅.get? b = some o → h₆.get? b = some o := fun b o ne e => (hs₆.2 b ne).trans e
        have kv : ∀ a o, vis (X4 X I D C) h₅ a o → vis (X4 X I D C) h₆ a o := fun a o w => ⟨w.1, k6 a o (fun z => w.1 (.inl (.inr z))) w.2⟩
        refine ⟨ts.length + 1 - (i + 1), by omega, i + 1, h₆, tk₅, m₅, ys ++ [y], k₆, st₅, ua ++ [u], us', hlt, rfl, rfl, W.walks.frame _ _ _ b1 fun b hb o e => k6 b o (fpok b hb).2.1 e, fun b o n1 n2 e => k6 b o (below b o e).2 (b2 b o n1 n2 e),
          b3.at' fun o e => k6 C o (Ne.symm hDC) e, by rw [ho₆]; simp [listObj], (b5.append (RepAll.one ry)).mono kv, ?_, by rw [hus, List.append_assoc]; rfl, by rw [List.length_append, List.length_singleton]; omega, hrest⟩
        intro p e
        obtain ⟨a1, a2, a3, ⟨q, t, a4⟩, q', vs, a5, a6⟩ := b6 p e
        have z : ∀ b, InBox bx b → b ≠ D := fun b j => fun z => nBD (z ▸ j)
        exact ⟨a1, a2, a3, ⟨q, t, k6 _ _ (z _ ⟨p, e, .inl rfl⟩) a4⟩, q', vs, k6 _ _ (z _ ⟨p, e, .inr rfl⟩) a5, a6⟩
    · have hin : i = ts.length := by omega
      subst hin
      rw [List.drop_length] at hto'
      obtain ⟨rfl, rfl⟩ := hto'
      rw [List.append_nil] at hus
      subst hus
      refine W.walks.done _ _ _ hst' fun h₂ tk₂ hk₂ => ?_
      have k₂ : ∀ b o, b ≠ I → h'.get? b = some o → h₂.get? b = some o := fun b o ne e => hk₂ b o (by simpa using ne) e
      refine hRR D C h₂ tk₂ m' ys k frD frC hDC (nsC.at' fun o e => k₂ C o (Ne.symm nI.1) e) (k₂ D _ (Ne.symm nI.2) eD) (ra.mono fun a o w => ⟨w.1, k₂ a o (fun z => w.1 (.inl (.inl (.inr z)))) w.2⟩) (fun b o n1 n2 e => k₂ b o n1 (K b o n1 n2 e)) ?_
      intro p e
      obtain ⟨a1, a2, a3, ⟨q, t, a4⟩, q', vs, a5, a6⟩ := S' p e
      have z : ∀ b, InBox bx b → b ≠ I := fun b j => fun z => hI (z ▸ j)
      exact ⟨a1, a2, a3, ⟨q, t, k₂ _ _ (z _ ⟨p, e, .inl rfl⟩) a4⟩, q', vs, k₂ _ _ (z _ ⟨p, e, .inr rfl⟩) a5, a6⟩
  have fin := loop { s₂ with heap := h₁, toks := s₂.toks + ([] : List (Str × Value)).length } rfl
  clear loop
  subst hC0
  subst hD
  exact codeAny_compStart_list fin (W.walks.self 0 _ _ _ hst₁ fin)
end
end Mine
namespace Mine
open PySem PySem.W PyProof.Rows
section
variable {B : Bg} {bx : Bx} {n : Nat} {sc : Scope} {ρ ρ' : REnv} {st st₁ st₂ st₃ : BSt} {out : Out}

theorem comp_cells {X : Addr → Prop} {env : Env} {h : Heap} {cs : Scope} {x : Str} {ρf : REnv} (F : EOK B X bx sc env ρ h) (hc : CompOK cs sc x (ρf.map (·.1))) (hsub : SubEnv ρf ρ) : ∀ y ∈ cs.names, y.2 = .free → (env.cells.lookup y.1).isSome = true := by
  intro y hy hf
  have hk := hc.free y hy hf
  obtain ⟨p, hp, e⟩ := List.mem_map.mp hk
  have : ∃ sl, ρf.lookup y.1 = some sl := by
    clear hsub hc hf hy
    induction ρf with
    | nil => cases hp
    | cons q r ih =>
      obtain ⟨a, b⟩ := q
      rw [List.lookup_cons]
      cases hb : y.1 == a with
      | true => exact ⟨b, rfl⟩
      | false =>
        rcases List.mem_cons.mp hp with rfl | hp
        · simp at e; subst e; simp at hb
        · exact ih (List.mem_map_of_mem (f := (·.1)) hp |> fun z => by rw [← e]; exact z) hp
  obtain ⟨sl, es⟩ := this
  obtain ⟨u, bd, _⟩ := F.vars y.1 sl (hsub _ _ es)
  rcases bd with ⟨kk, _⟩ | ⟨_, c, ec, _⟩
  · have k3 := (hc.keys y.1 hk).2.2.1
    have : env.kindOf y.1 = some .cell := by show env.scope.names.lookup y.1 = _; rw [F.scope]; exact k3
    rw [this] at kk; cases kk
  · rw [ec]; rfl

theorem Ev.comp {elt iter : Expr} {x : Str} {px pos : Pos} {ifs : List Expr} {cs : Scope} {t : T} {ts us : List T} (ρf : REnv) (h : Ev B bx n sc ρ st iter t st₁) (ht : t.items = some ts) (hr : t.rangeOK = true) (hc : CompOK cs sc x (ρf.map (·.1))) (hsub : SubEnv ρf ρ)
    (hsh : (ρf.all fun p => p.2.isSh) = true) (hz : ts.length ≤ sizeLine) (hto : CompTo B bx n (relS cs sc) x ifs elt ρf ts st₁ us st₂) (hs : ∀ env x, foldedSetIterable iter env x = pure x := by intro _ _; rfl) :
    Ev B bx n sc ρ st (.ListComp elt [⟨.Name x px, iter, ifs, 0⟩] cs pos) (.list us) st₂ := fun A X env s Q r F S q => by
  obtain ⟨cl, hclos, hcl, hcl'⟩ := closure_of (comp_cells F hc hsub)
  rw [eval_ListComp]
  refine wpAny_comprehension_free (use := none) rfl (hs env) hclos hc.kind hc.names (h A X env s _ r F S fun v h₁ tk₁ x₁ S₁ rv => ?_)
  have F₁ := F.keeps x₁ S₁
  refine iter_of (B := B) (bx := bx) (s := { s with heap := h₁, toks := tk₁ }) r.1 rv ht F₁.bg.next (fun a b c e => by
    subst e
    simp only [T.rangeOK, Bool.and_eq_true, decide_eq_true_eq] at hr
    exact hr) fun o fp P St ho W hst => ?_
  have F₂ := F₁.alloc o ho S₁
  have S₂ : BoxOK (plus X h₁.objs.size) bx (h₁.push o) st₁ := (S₁.keeps (pushed_keeps o)).wider fun b z => .inl z
  have nB : ¬ InBox bx h₁.objs.size := fun i => F₁.bg.next (inBox_X S₁ i)
  refine comp_block (s₂ := { s with heap := h₁.push o, toks := tk₁ }) (RR := fun acc C => compPost _ A (fun _ _ => False) none Q acc C) W r F₂ S₂ nB (fun b i => inBox_X S₁ i) hst hc hsub hsh hcl hcl' (fun y sl c e1 e2 e3 z => ?_) hto hz ?_
  · obtain ⟨u, bd, _⟩ := F₁.vars y sl e1
    rcases bd with ⟨kk, _⟩ | ⟨_, c', ec, o', q', _⟩
    · rw [e2] at kk; cases kk
    · rw [e3] at ec; cases ec
      exact Nat.lt_irrefl _ (z ▸ Heap.lt_size q')
  · intro D C h' tk m' ys k frD frC hDC nsC eD ra K S'
    have nXD : ¬ plus X h₁.objs.size D := F₂.bg.fresh frD
    refine ⟨m', nsC, fun h'' hs'' => ?_⟩
    have k'' : ∀ b o, b ≠ C → h'.get? b = some o → h''.get? b = some o := fun b o ne e => hs''.extBut b o ne e
    have upC : ∀ b o, h₁.get? b = some o → b ≠ C ∧ b ≠ h₁.objs.size := by
      intro b o' e
      refine ⟨fun z => ?_, Nat.ne_of_lt (Heap.lt_size e)⟩
      have := pushed_keeps o b o' e
      rw [z] at this
      have frC : (h₁.push o).get? C = none := frC
      rw [frC] at this; cases this
    have nBC : ¬ InBox bx C := fun i => by
      obtain ⟨o', e⟩ := S₁.live i
      exact (upC C o' e).1 rfl
    refine q (.ref D) h'' tk (x₁.trans fun b o' i e => k'' b o' (upC b o' e).1 (K b o' (upC b o' e).2 i (pushed_keeps o b o' e))) (fun p e => ?_) ⟨D, ys, k, rfl, ⟨fun z => nXD (.inl z), k'' D _ hDC eD⟩, ra.mono fun a o' w => ⟨fun z => w.1 (.inl (.inl (.inl z))), k'' a o' (fun z => w.1 (.inr z)) w.2⟩⟩
    obtain ⟨a1, a2, a3, ⟨q1, t1, a4⟩, q', vs, a5, a6⟩ := S' p e
    have z : ∀ b, InBox bx b → b ≠ C := fun b j => fun z => nBC (z ▸ j)
    exact ⟨inBox_X S₁ ⟨p, e, .inl rfl⟩, inBox_X S₁ ⟨p, e, .inr rfl⟩, a3, ⟨q1, t1, k'' _ _ (z _ ⟨p, e, .inl rfl⟩) a4⟩, q', vs, k'' _ _ (z _ ⟨p, e, .inr rfl⟩) a5, a6⟩

/-- the frame where an object was laid that is none of its business -/
theorem FOK.wideY {M Y : Addr → Prop} {env : Env} {h h' : Heap} {C : Addr} (F : FOK B M Y bx sc env ρ h) (k : Ext bx h h') (S : BoxOK (MY M Y) bx h' st) (fr : h.get? C = none) (live : ∃ o, h'.get? C = some o) : FOK B M (plus Y C) bx sc env ρ h' := by
  have F' := F.keeps k S
  have nC : ¬ MY M Y C := F.eok.bg.fresh fr
  have neC : ∀ {a o}, h.get? a = some o → a ≠ C := fun {a o} e z => by rw [z, fr] at e; cases e
  have kv : ∀ a o, vis (MY M Y) h a o → vis (MY M (plus Y C)) h' a o := by
    intro a o w
    refine ⟨fun z => ?_, k a o (fun i => w.1 (.inr (F.boxY a i))) w.2⟩
    rcases z with z | z | z
    · exact w.1 (.inl z)
    · exact w.1 (.inr z)
    · exact neC w.2 z
  have up : ∀ {y w}, Bound env h y w → Bound env h' y w := fun b => b.keeps (fun o q => k _ _ F.eok.locB q) (fun n c o e q => k _ _ (F.eok.cellB n c e) q)
  exact {
    eok := {
      bg := ⟨fun b o e => by
        refine ⟨fun z => ?_, (F'.eok.bg.bg b o e).2⟩
        rcases z with z | z | z
        · exact (F.eok.bg.bg b o e).1 (.inl z)
        · exact (F.eok.bg.bg b o e).1 (.inr z)
        · exact neC (F.eok.bg.bg b o e).2 z, fun b z => by
        rcases z with z | z | z
        · exact F'.eok.bg.live b (.inl z)
        · exact F'.eok.bg.live b (.inr z)
        · exact z ▸ live⟩
      scope := F.eok.scope
      kind := F.eok.kind
      glob := F.eok.glob
      blt := F.eok.blt
      locB := F.eok.locB
      cellB := F.eok.cellB
      vars := fun y sl e => by
        obtain ⟨v, b, rs, nb⟩ := F.eok.vars y sl e
        refine ⟨v, up b, ?_, nb⟩
        cases sl with
        | sh t => exact Rep.mono kv rs
        | own us =>
          obtain ⟨D', vs, m, rfl, xx, q, rr⟩ := rs
          have mD := (F.own y _ D' e rfl b).1
          exact ⟨D', vs, m, rfl, .inl mD, k _ _ (F.notBox mD) q, RepAll.mono kv rr⟩
        | odict us =>
          obtain ⟨D', vs, m, rfl, xx, q, rr⟩ := rs
          have mD := (F.own y _ D' e rfl b).1
          exact ⟨D', vs, m, rfl, .inl mD, k _ _ (F.notBox mD) q, RepD.mono kv rr⟩ }
    disj := fun b m y => y.elim (F.disj b m) fun z => nC (.inl (z ▸ m))
    locM := F.locM
    ns := F'.ns
    cellM := F'.cellM
    apart := F.apart
    cells := F.cells
    own := F'.own
    boxY := fun b i => .inl (F.boxY b i) }

/-- y = [.. for ..], where the name is handed over ahead of the loop's own being let go -/
theorem Ex1.setComp {elt iter : Expr} {x y : Str} {px py pos p : Pos} {ifs : List Expr} {cs : Scope} {t : T} {ts us : List T} (ρf : REnv) (h : Ev B bx n sc ρ st iter t st₁) (ht : t.items = some ts) (hr : t.rangeOK = true) (hc : CompOK cs sc x (ρf.map (·.1))) (hsub : SubEnv ρf ρ)
    (hsh : (ρf.all fun p => p.2.isSh) = true) (hz : ts.length ≤ sizeLine) (hto : CompTo B bx n (relS cs sc) x ifs elt ρf ts st₁ us st₂) (k : sc.names.lookup y = some .local ∨ sc.names.lookup y = some .cell) (hset : SetTo y (.sh (.list us)) ρ ρ')
    (hw : ∀ env : Env, env.scope = sc → swapsWith (.ListComp elt [⟨.Name x px, iter, ifs, 0⟩] cs pos) (some (.Name y py)) p.line env = pure true)
    (hs : ∀ env x, foldedSetIterable iter env x = pure x := by intro _ _; rfl) :
    Ex1 B bx n sc ρ st (.Assign [.Name y py] (.ListComp elt [⟨.Name x px, iter, ifs, 0⟩] cs pos) p) (.next ρ' st₂) := fun A M Y env s Q r F S q => by
  obtain ⟨cl, hclos, hcl, hcl'⟩ := closure_of (comp_cells F.eok hc hsub)
  rw [exec_Assign_Name_used _ _ _ _ (hw env F.eok.scope)]
  refine wpAny_bind (wpAny_standAt (wpAny_bind ?_))
  show wpAny _ A (do let _ ← comprehension (.ListComp elt [⟨.Name x px, iter, ifs, 0⟩] cs pos) cs env _ (newList []) false (eval iter env) (some (PySem.assign (Expr.Name y py) env))) _ _ s
  refine wpAny_bind (wpAny_mono (wpAny_comprehension_free (E := fun _ _ => False) (use := some (PySem.assign (Expr.Name y py) env)) (Q := fun _ s' => Q .next s') rfl (hs env) hclos hc.kind hc.names
    (h A (MY M Y) env s _ r F.eok S fun v h₁ tk₁ x₁ S₁ rv => ?_)) (fun _ s' hq => wpAny_pure (wpAny_pure hq)) fun _ _ e => e)
  have F₁ := F.keeps x₁ S₁
  refine iter_of (B := B) (bx := bx) (s := { s with heap := h₁, toks := tk₁ }) r.1 rv ht F₁.eok.bg.next (fun a b c e => by
    subst e
    simp only [T.rangeOK, Bool.and_eq_true, decide_eq_true_eq] at hr
    exact hr) fun o fp P St ho W hst => ?_
  have F₂ := F₁.eok.alloc o ho S₁
  have S₂ : BoxOK (plus (MY M Y) h₁.objs.size) bx (h₁.push o) st₁ := (S₁.keeps (pushed_keeps o)).wider fun b z => .inl z
  have nB : ¬ InBox bx h₁.objs.size := fun i => F₁.eok.bg.next (inBox_X S₁ i)
  refine comp_block (s₂ := { s with heap := h₁.push o, toks := tk₁ }) (RR := fun acc C => compPost _ A (fun _ _ => False) (some (PySem.assign (Expr.Name y py) env)) (fun _ s' => Q .next s') acc C) W r F₂ S₂ nB (fun b i => inBox_X S₁ i) hst hc hsub hsh hcl hcl' (fun y sl c e1 e2 e3 z => ?_) hto hz ?_
  · obtain ⟨u, bd, _⟩ := F₁.eok.vars y sl e1
    rcases bd with ⟨kk, _⟩ | ⟨_, c', ec, o', q', _⟩
    · rw [e2] at kk; cases kk
    · rw [e3] at ec; cases ec
      exact Nat.lt_irrefl _ (z ▸ Heap.lt_size q')
  · intro D C h' tk m' ys kk frD frC hDC nsC eD ra K S'
    have nXD : ¬ plus (MY M Y) h₁.objs.size D := F₂.bg.fresh frD
    have frC₁ : h₁.get? C = none := by
      cases e : h₁.get? C with
      | none => rfl
      | some o' =>
        have := pushed_keeps o C o' e
        have frC : (h₁.push o).get? C = none := frC
        rw [frC] at this; cases this
    have nBC : ¬ InBox bx C := fun i => by
      obtain ⟨o', e⟩ := S₁.live i
      rw [frC₁] at e; cases e
    have x₂ : Ext bx h₁ h' := fun b o' i e => K b o' (Nat.ne_of_lt (Heap.lt_size e)) i (pushed_keeps o b o' e)
    have S₃ : BoxOK (MY M Y) bx h' st₂ := fun p e => by
      obtain ⟨_, _, rr⟩ := S' p e
      exact ⟨inBox_X S₁ ⟨p, e, .inl rfl⟩, inBox_X S₁ ⟨p, e, .inr rfl⟩, rr⟩
    have liveC : ∃ o, h'.get? C = some o := by obtain ⟨o, _, _, e, _⟩ := nsC; exact ⟨o, e⟩
    have F₃ : FOK B M (plus Y C) bx sc env ρ h' := F₁.wideY x₂ S₃ frC₁ liveC
    have S₃' : BoxOK (MY M (plus Y C)) bx h' st₂ := S₃.wider fun b z => z.imp id .inl
    have nMC : ¬ M C := fun m => F₃.disj C m (.inr rfl)
    have nYC : ¬ Y C := fun y => F₁.eok.bg.fresh frC₁ (.inr y)
    have sub : ∀ a, MY M (plus Y C) a → X4 (MY M Y) h₁.objs.size D C a := by
      intro a z
      rcases z with z | z | z
      · exact .inl (.inl (.inl (.inl z)))
      · exact .inl (.inl (.inl (.inr z)))
      · exact .inr z
    have nD : ¬ MY M (plus Y C) D := by
      intro z
      rcases z with z | z | z
      · exact nXD (.inl (.inl z))
      · exact nXD (.inl (.inr z))
      · exact hDC z
    have rD : Rep (vis (MY M (plus Y C)) h') (.list us) (.ref D) := ⟨D, ys, kk, rfl, ⟨nD, eD⟩, ra.mono fun a o' w => ⟨fun z => w.1 (sub a z), w.2⟩⟩
    show wpAny _ A (PySem.assign (Expr.Name y py) env (.ref D)) _ _ _
    refine wpAny_assign_Name (store_sh (s := { s with heap := h', toks := tk }) F₃ S₃' k hset rD fun h₄ tk₄ km₄ _ F₄ S₄ => ?_)
    have nsC₄ : h₄.Ns C m' := nsC.at' fun o e => km₄ C o nMC nBC e
    refine ⟨m', nsC₄, fun h'' hs'' => ?_⟩
    obtain ⟨F₅, S₅⟩ := F₄.dropY (h' := h'') nBC (fun b i => F.boxY b i) nYC S₄ fun b o ne e => hs''.extBut b o ne e
    refine q M h'' tk₄ (fun b o n1 n2 e => ?_) Grow.refl F₅ S₅
    have e₁ := x₁ b o n2 e
    have neC : b ≠ C := fun z => by rw [z, frC₁] at e₁; cases e₁
    exact hs''.extBut b o neC (km₄ b o n1 n2 (x₂ b o n2 e₁))
end
end Mine
namespace Mine
open PySem PySem.W PyProof.Rows
section
variable {B : Bg} {bx : Bx} {n : Nat} {sc : Scope} {ρ ρ' : REnv} {st st₁ st₂ st₃ : BSt} {out : Out}

theorem Tr.chain_true {op op' : CmpOp} {l m r : Expr} {p : Pos} {a b c : T} {d : Bool} (h : Ev B bx n sc ρ st l a st₁) (h' : Ev B bx n sc ρ st₁ m b st₂) (hc : Cmp B bx n op a b true) (h'' : Ev B bx n sc ρ st₂ r c st₃) (hc' : Cmp B bx n op' b c d)
    (hm : lastMarks [op, op'] [m, r] = false := by with_unfolding_all rfl) : Tr B bx n sc ρ st (.Compare l [op, op'] [m, r] p) d st₃ := fun A X env s Q rm F S q => by
  refine isTrue_chain (h A X env s _ rm F S fun v h₁ tk₁ x₁ S₁ rv => test_link ?_) hm
  have F₁ := F.keeps x₁ S₁
  refine h' A X env _ _ rm F₁ S₁ fun w h₂ tk₂ x₂ S₂ rw' => ?_
  have F₂ := F₁.keeps x₂ S₂
  refine hc A X st₂ _ _ v w rm F₂.bg S₂ (rv.mono (vis_ext (fun _ i => inBox_X S₂ i) x₂)) rw' fun h₃ tk₃ x₃ S₃ => wpAny_truthy_bool ?_
  have F₃ := F₂.keeps x₃ S₃
  simp only [if_true]
  refine test_last (h'' A X env _ _ rm F₃ S₃ fun u h₄ tk₄ x₄ S₄ ru => ?_)
  have F₄ := F₃.keeps x₄ S₄
  refine hc' A X st₃ _ _ w u rm F₄.bg S₄ ((rw'.mono (vis_ext (fun _ i => inBox_X S₃ i) x₃)).mono (vis_ext (fun _ i => inBox_X S₄ i) x₄)) ru fun h₅ tk₅ x₅ S₅ => wpAny_truthy_bool ?_
  exact q h₅ tk₅ ((((x₁.trans x₂).trans x₃).trans x₄).trans x₅) S₅
theorem Tr.chain_false {op op' : CmpOp} {l m r : Expr} {p : Pos} {a b : T} (h : Ev B bx n sc ρ st l a st₁) (h' : Ev B bx n sc ρ st₁ m b st₂) (hc : Cmp B bx n op a b false)
    (hm : lastMarks [op, op'] [m, r] = false := by with_unfolding_all rfl) : Tr B bx n sc ρ st (.Compare l [op, op'] [m, r] p) false st₂ := fun A X env s Q rm F S q => by
  refine isTrue_chain (h A X env s _ rm F S fun v h₁ tk₁ x₁ S₁ rv => test_link ?_) hm
  have F₁ := F.keeps x₁ S₁
  refine h' A X env _ _ rm F₁ S₁ fun w h₂ tk₂ x₂ S₂ rw' => ?_
  have F₂ := F₁.keeps x₂ S₂
  refine hc A X st₂ _ _ v w rm F₂.bg S₂ (rv.mono (vis_ext (fun _ i => inBox_X S₂ i) x₂)) rw' fun h₃ tk₃ x₃ S₃ => wpAny_truthy_bool ?_
  simp only [Bool.false_eq_true, if_false]
  exact q h₃ tk₃ ((x₁.trans x₂).trans x₃) S₃

theorem bools_get {V : Vis} {bs : List Bool} {vs : List Value} (r : RepAll V (bs.map T.bool) vs) {i : Nat} {v : Value} (e : vs[i]? = some v) : ∃ b, bs[i]? = some b ∧ v = .bool b := by
  have hl := r.length
  rw [List.length_map] at hl
  have hi : i < bs.length := by
    have := (List.getElem?_eq_some_iff.mp e).1
    omega
  have hb : bs[i]? = some bs[i] := by simp [hi]
  exact ⟨bs[i], hb, r.item (t := .bool bs[i]) e (by simp [hi])⟩
theorem range_all' (bs : List Bool) : ((List.range bs.length).all fun i => (bs[i]?).getD true) = bs.all id := by
  rw [Bool.eq_iff_iff]
  simp only [List.all_eq_true, List.mem_range]
  constructor
  · intro h b hb
    obtain ⟨i, hi, rfl⟩ := List.mem_iff_getElem.mp hb
    have := h i hi
    simpa [hi] using this
  · intro h i hi
    have := h bs[i] (List.getElem_mem hi)
    simpa [hi] using this
theorem Ev.all {np p : Pos} {e : Expr} {bs : List Bool} (h : Ev B bx n sc ρ st e (.list (bs.map T.bool)) st₁) (k : sc.names.lookup ("all" : Str) = some .globalImplicit) (e0 : nsIn B.K mainGlobals "all" = some none)
    (hp : ∀ env, starEach [e] env = (false, eval e env) :: starEach [] env := by intro _; rfl) : Ev B bx n sc ρ st (.Call (.Name "all" np) [e] [] p) (.bool (bs.all id)) st₁ := by
  refine Ev.builtin1 (id := "all") k e0 (by decide) (by decide) (by decide) (Evs.cons h Evs.nil hp) (fun A X s Q vs rm G S r q => ?_) (hp := hp)
  obtain ⟨v, _, rfl, ⟨l, us, kk, rfl, qa, rs⟩, rfl⟩ := r
  have hl := isList_of qa
  have hlt : l < s.heap.objs.size := Heap.lt_size qa.2
  refine call_all_walk (wpAny_pyIter_list hl ?_)
  refine ⟨s.heap.objs.size, [s.heap.objs.size, l], [s.heap.objs.size], us.toArray.size, _, _, fun i => (bs[i]?).getD true, rfl, Walks.list (A := A.in1) rm.1 _ l (Nat.ne_of_lt hlt) us.toArray,
    ⟨⟨_, Heap.get?_push_size _ rfl, rfl, rfl⟩, hl.push _⟩, fun i v s' Q' E' hP hQ => ?_, fun h' tk hk => ?_⟩
  · obtain ⟨b, e, rfl⟩ := bools_get rs (i := i) (v := v) (by simpa using hP)
    simp only [e, Option.getD_some] at hQ
    exact wpAny_truthy_bool hQ
  · have e : ((List.range us.toArray.size).all fun i => (bs[i]?).getD true) = bs.all id := by
      rw [List.size_toArray, rs.length, List.length_map]; exact range_all' bs
    rw [e]
    have k : ∀ b o, s.heap.get? b = some o → h'.get? b = some o := fun b x e => hk b x (fun hm => by rw [List.mem_singleton.mp hm] at e; exact Nat.lt_irrefl _ (Heap.lt_size e)) (Heap.get?_push_of_some _ e)
    exact q _ h' tk (Ext.of_stays k) (S.keeps k) rfl

theorem Ev.pow {l r : Expr} {p : Pos} {a b : Int} (h : Ev B bx n sc ρ st l (.int a) st₁) (h' : Ev B bx n sc ρ st₁ r (.int b) st₂) (h0 : 0 ≤ b) (ok : (Builtin.Int.intBits a : Int) * b ≤ 2 ^ 27) : Ev B bx n sc ρ st (.BinOp l .Pow r p) (.int (a ^ b.toNat)) st₂ :=
  Ev.bini h h' fun A s Q t u q => PyProof.Rows.pow_int h0 ok (q _ _)
end
end Mine
namespace Mine
open PySem PySem.W PyProof.Rows
section
variable {B : Bg} {bx : Bx} {n : Nat} {sc : Scope} {ρ ρ' : REnv} {st st₁ st₂ st₃ : BSt} {out : Out}

/-- trees and values of a dict -/
noncomputable def KV (V : Vis) : List (Int × T) → List (Int × Value) → Prop
  | [], vs => vs = []
  | (k, t) :: r, vs => ∃ v vs', vs = (k, v) :: vs' ∧ Rep V t v ∧ KV V r vs'
theorem KV.keys {V : Vis} : ∀ {kvs : List (Int × T)} {vs : List (Int × Value)}, KV V kvs vs → vs.map (·.1) = kvs.map (·.1)
  | [], _, h => by rw [show _ = [] from h]; rfl
  | (k, t) :: r, _, h => by
    obtain ⟨v, vs', rfl, _, h⟩ := h
    simp [KV.keys h]
theorem KV.mono {V V' : Vis} (h : ∀ a o, V a o → V' a o) : ∀ {kvs : List (Int × T)} {vs : List (Int × Value)}, KV V kvs vs → KV V' kvs vs
  | [], _, r => r
  | (_, _) :: _, _, r => by
    obtain ⟨v, vs', e, a, b⟩ := r
    exact ⟨v, vs', e, Rep.mono h a, KV.mono h b⟩
theorem KV.snoc {V : Vis} {k : Int} {t : T} {v : Value} (r : Rep V t v) : ∀ {kvs : List (Int × T)} {vs : List (Int × Value)}, KV V kvs vs → KV V (kvs ++ [(k, t)]) (vs ++ [(k, v)])
  | [], _, h => by rw [show _ = [] from h]; exact ⟨v, [], rfl, r, rfl⟩
  | (_, _) :: _, _, h => by
    obtain ⟨u, vs', rfl, a, b⟩ := h
    exact ⟨u, _, rfl, a, KV.snoc r b⟩
theorem KV.at {V : Vis} : ∀ {kvs : List (Int × T)} {vs : List (Int × Value)}, KV V kvs vs → ∀ {k : Int} {t : T}, kvs.lookup k = some t → ∃ v, valueAt vs k = some v ∧ Rep V t v
  | [], _, _, k, t, e => by simp at e
  | (a, u) :: r, _, h, k, t, e => by
    obtain ⟨v, vs', rfl, rv, h⟩ := h
    rw [List.lookup_cons] at e
    by_cases hk : k = a
    · subst hk
      simp at e; subst e
      exact ⟨v, by simp [valueAt], rv⟩
    · have : (k == a) = false := by simpa using hk
      rw [this] at e
      obtain ⟨w, e1, e2⟩ := KV.at h e
      refine ⟨w, ?_, e2⟩
      have hk' : ¬ a = k := fun z => hk z.symm
      simpa [valueAt, hk'] using e1
theorem KV.none {V : Vis} : ∀ {kvs : List (Int × T)} {vs : List (Int × Value)}, KV V kvs vs → ∀ {k : Int}, kvs.lookup k = Option.none → valueAt vs k = Option.none
  | [], _, h, k, _ => by rw [show _ = [] from h]; rfl
  | (a, u) :: r, _, h, k, e => by
    obtain ⟨v, vs', rfl, rv, h⟩ := h
    rw [List.lookup_cons] at e
    by_cases hk : k = a
    · subst hk; simp at e
    · have : (k == a) = false := by simpa using hk
      rw [this] at e
      have hk' : ¬ a = k := fun z => hk z.symm
      simpa [valueAt, hk'] using KV.none h e

theorem repKvs_pairs {V : Vis} : ∀ {kvs : List (Int × T)} {es : List DictEntry}, RepKvs V kvs es → ∃ vs, KV V kvs vs ∧ Pairs (intKind B.prog B.w) es vs ∧ ∀ e ∈ es, ∃ k, (intKind B.prog B.w).is k e.key = true ∧ e.hash = (intKind B.prog B.w).hash k
  | [], _, h => by rw [show _ = [] from h]; exact ⟨[], rfl, .nil, fun _ h => nomatch h⟩
  | (k, t) :: r, _, h => by
    obtain ⟨tk, v, es', rfl, rv, h⟩ := h
    obtain ⟨vs, h1, h2, h3⟩ := repKvs_pairs h
    refine ⟨(k, v) :: vs, ⟨v, vs, rfl, rv, h1⟩, .cons (intKind_is _ _ k tk) rfl h2, fun e he => ?_⟩
    rcases List.mem_cons.mp he with rfl | he
    · exact ⟨k, intKind_is _ _ k tk, rfl⟩
    · exact h3 e he
theorem pairs_repKvs {V : Vis} : ∀ {kvs : List (Int × T)} {vs : List (Int × Value)} {es : List DictEntry}, KV V kvs vs → Pairs (intKind B.prog B.w) es vs → (∀ e ∈ es, ∃ k, (intKind B.prog B.w).is k e.key = true ∧ e.hash = (intKind B.prog B.w).hash k) → RepKvs V kvs es
  | [], _, _, h, p, _ => by
    rw [show _ = [] from h] at p
    cases p; rfl
  | (k, t) :: r, _, _, h, p, hk => by
    obtain ⟨v, vs', rfl, rv, h⟩ := h
    cases p
    rename_i e es h1 h2 h3
    obtain ⟨k', a1, a2⟩ := hk e (.head _)
    have : k = k' := (intKind B.prog B.w).inj _ _ _ h1 a1
    subst this
    obtain ⟨tk, he⟩ := Value.isInt_shape (show Value.isInt k e.key = true from h1)
    obtain ⟨eh, ek, ev⟩ := e
    dsimp only at he h2 a2
    subst he h2
    refine ⟨tk, _, es, ?_, rv, pairs_repKvs h h3 fun e he => hk e (.tail _ he)⟩
    rw [a2]; rfl

theorem dictOf_of {V : Vis} {h : Heap} {D m : Nat} {kvs : List (Int × T)} {es : List DictEntry} (e : h.get? D = some (dictObj es m)) (r : RepKvs V kvs es) (nd : (kvs.map (·.1)).Nodup) :
    ∃ vs, KV V kvs vs ∧ h.DictOf (intKind B.prog B.w) D vs := by
  obtain ⟨vs, h1, h2, h3⟩ := repKvs_pairs (B := B) r
  refine ⟨vs, h1, _, es.toArray, m, e, ⟨rfl, rfl, rfl⟩, rfl, fun e he => h3 e (by simpa using he), by simpa using h2, by rw [h1.keys]; exact nd⟩
theorem of_dictOf {V : Vis} {h : Heap} {D : Nat} {kvs : List (Int × T)} {vs : List (Int × Value)} (k : KV V kvs vs) (d : h.DictOf (intKind B.prog B.w) D vs) : ∃ es m, h.get? D = some (dictObj es m) ∧ RepKvs V kvs es := by
  obtain ⟨o, es, ep, ho, hc, hd, hk, hp, _⟩ := d
  refine ⟨es.toList, ep, ?_, pairs_repKvs (B := B) k hp fun e he => hk e (by simpa using he)⟩
  obtain ⟨c, dd, dt, sl⟩ := o
  obtain ⟨e1, e2, e3⟩ := hc
  dsimp only at e1 e2 e3 hd
  subst e1 e2 e3 hd
  rw [ho]; simp [dictObj]

theorem Ev.dictGet {x : Str} {i : Expr} {np p : Pos} {kvs : List (Int × T)} {k : Int} {t : T} (e0 : ρ.lookup x = some (.odict kvs)) (nd : (kvs.map (·.1)).Nodup) (h' : Ev B bx n sc ρ st i (.int k) st₁) (hk : kvs.lookup k = some t)
    (hs : ∀ o j, subscripted i false o j = operate [o, j] (getItem o j) := by intro _ _; with_unfolding_all rfl) (hn : (x == ("__classdict__" : Str)) = false := by decide) (hd : (x == ("__debug__" : Str)) = false := by decide) :
    Ev B bx n sc ρ st (.Subscript (.Name x np) i p) t st₁ := fun A X env s Q rm F S q => by
  have hkind : env.scope.kind = .function := by rw [F.scope]; exact F.kind
  obtain ⟨v, b, ⟨D, es, m, rfl, xD, eD, nD, rs⟩, nb⟩ := F.vars x _ e0
  have nb : ¬ InBox bx D := nb D rfl fun _ i => nomatch i
  refine Subscript_ (wpAny_Name (load_bound hkind b ?_ hn) hd)
  refine h' A X env _ _ rm F S fun u h₂ tk₂ x₂ S₂ ru => ?_
  obtain ⟨tu, rfl⟩ := ru
  have eD₂ := x₂ _ _ nb eD
  obtain ⟨vs, kv, dO⟩ := dictOf_of (B := B) eD₂ (rs.mono (vis_ext (fun _ i => inBox_X S i) x₂)) nd
  obtain ⟨w, hv, rw'⟩ := kv.at hk
  exact tail_any dO.typeIs (s := { s with heap := h₂, toks := tk₂ }) slot_dict_getitem.lookup (wpAny_getItem_of (intKind_is _ _ k tu) dO.mapOf hv (q w h₂ _ x₂ S₂ rw')) (hs _ _)

theorem Tr.notInDict {x : Str} {e : Expr} {np p : Pos} {kvs : List (Int × T)} {k : Int} (e0 : ρ.lookup x = some (.odict kvs)) (nd : (kvs.map (·.1)).Nodup) (h : Ev B bx n sc ρ st e (.int k) st₁) {c : Bool} (hc : (!(kvs.lookup k).isSome) = c)
    (hn : (x == ("__classdict__" : Str)) = false := by decide) (hd : (x == ("__debug__" : Str)) = false := by decide) : Tr B bx n sc ρ st (.Compare e [.NotIn] [.Name x np] p) c st₁ := fun A X env s Q rm F S q => by
  have hkind : env.scope.kind = .function := by rw [F.scope]; exact F.kind
  refine wpAny_isTrue_Compare1 (h A X env s _ rm F S fun v h₁ tk₁ x₁ S₁ rv => ?_) (by with_unfolding_all rfl)
  have F₁ := F.keeps x₁ S₁
  obtain ⟨tu, rfl⟩ := rv
  obtain ⟨v, b, ⟨D, es, m, rfl, xD, eD, nD, rs⟩, nb⟩ := F₁.vars x _ e0
  refine wpAny_Name (load_bound (s := { s with heap := h₁, toks := tk₁ }) hkind b ?_ hn) hd
  obtain ⟨vs, kv, dO⟩ := dictOf_of (B := B) eD rs nd
  refine wpAny_notIn_of (s := { s with heap := h₁, toks := tk₁ }) (intKind_is _ _ k tu) (by simpa using nD) dO.mapOf (wpAny_truthy_bool ?_)
  have : (valueAt vs k).isSome = (kvs.lookup k).isSome := by
    cases hl : kvs.lookup k with
    | none => rw [kv.none hl]; rfl
    | some t => obtain ⟨w, e, _⟩ := kv.at hl; rw [e]; rfl
  rw [this, hc]
  exact q h₁ _ x₁ S₁

/-- x = {} -/
theorem Ex1.dictNew {x : Str} {p' dp p : Pos} (k : sc.names.lookup x = some .local ∨ sc.names.lookup x = some .cell) (hs : SetTo x (.odict []) ρ ρ') : Ex1 B bx n sc ρ st (.Assign [.Name x p'] (.Dict [] [] dp) p) (.next ρ' st) := fun A M Y env sh Q r F S q => by
  refine wpAny_Assign_Name (wpAny_Dict_empty ?_)
  have kp := pushed_keeps (h := sh.heap) (dictObj [] 0)
  have F₂ := F.alloc (dictObj [] 0) rfl S
  have S₂ : BoxOK (MY (plus M sh.heap.objs.size) Y) bx (sh.heap.push (dictObj [] 0)) st := (S.keeps kp).wider fun b m => m.imp .inl id
  have fo := F.fresh_own (dictObj [] 0)
  have big : sh.heap.objs.size ≠ sysModules := by
    obtain ⟨o, es, ep, e, _⟩ := B.gns
    have := Heap.lt_size (F.eok.bg.bg _ _ e).2
    intro z
    rw [z] at this
    exact absurd this (by decide)
  refine store_ (s := { sh with heap := sh.heap.push (dictObj [] 0) }) F₂ S₂ k hs ⟨_, [], 0, rfl, .inl (.inr rfl), Heap.get?_push_size _ rfl, big, rfl⟩ (fun D' e' _ => by cases e'; exact F₂.notBox (.inr rfl)) (fun D' e' _ => by
    cases e'
    exact ⟨.inr rfl, fo.1, fo.2, fun y sl' hy e'' i b => F.fresh_not _ e'' i b⟩) fun h₃ tk₃ km F₃ S₃ => ?_
  refine q _ h₃ tk₃ ((KeepM.of_ext (Ext.of_stays kp)).trans ?_ km) ?_ F₃ S₃
  · exact fun b m => m.imp id fun e => by
      subst e
      cases g : sh.heap.get? sh.heap.objs.size with
      | none => rfl
      | some o' => exact absurd (Heap.lt_size g) (Nat.lt_irrefl _)
  · exact fun b m => m.imp id fun e => by
      subst e
      cases g : sh.heap.get? sh.heap.objs.size with
      | none => rfl
      | some o' => exact absurd (Heap.lt_size g) (Nat.lt_irrefl _)

/-- x[k] = e, x a dict of the frame's own, k new in it -/
theorem Ex1.dictSet {x : Str} {i e : Expr} {np sp p : Pos} {kvs : List (Int × T)} {k : Int} {t : T} (e0 : ρ.lookup x = some (.odict kvs)) (nd : (kvs.map (·.1)).Nodup) (h : Ev B bx n sc ρ st e t st₁) (h' : Ev B bx n sc ρ st₁ i (.int k) st₂) (hk : kvs.lookup k = Option.none) (hz : kvs.length ≤ sizeLine)
    (hs : SetTo x (.odict (kvs ++ [(k, t)])) ρ ρ') (hn : (x == ("__classdict__" : Str)) = false := by decide) (hd : (x == ("__debug__" : Str)) = false := by decide)
    (hw : ∀ env, swapsWith e (some (.Subscript (.Name x np) i sp)) p.line env = pure false := by intro _; rfl) :
    Ex1 B bx n sc ρ st (.Assign [.Subscript (.Name x np) i sp] e p) (.next ρ' st₂) := fun A M Y env sh Q r F S q => by
  have hkind : env.scope.kind = .function := by rw [F.eok.scope]; exact F.eok.kind
  refine wpAny_Assign_Subscript (h A _ env sh _ r F.eok S fun v h₁ tk₁ x₁ S₁ rv => ?_) (hw env)
  have F₁ := F.keeps x₁ S₁
  obtain ⟨d, b, ⟨D, es, m, rfl, xD, eD, nD, rs⟩, nb⟩ := F₁.eok.vars x _ e0
  have nb : ¬ InBox bx D := nb D rfl fun _ i => nomatch i
  refine wpAny_Name (load_bound (s := { sh with heap := h₁, toks := tk₁ }) hkind b ?_ hn) hd
  refine h' A _ env { sh with heap := h₁, toks := tk₁ } _ r F₁.eok S₁ fun u h₂ tk₂ x₂ S₂ ru => ?_
  obtain ⟨tu, rfl⟩ := ru
  have F₂ := F₁.keeps x₂ S₂
  have eD₂ := x₂ _ _ nb eD
  have b₂ : Bound env h₂ x (.ref D) := b.keeps (fun o q => x₂ _ _ F.eok.locB q) (fun n c o e q => x₂ _ _ (F.eok.cellB n c e) q)
  have mv := vis_ext (X := MY M Y) (h := h₁) (h' := h₂) (bx := bx) (fun _ i => inBox_X S₁ i) x₂
  obtain ⟨vs, kv, dO⟩ := dictOf_of (B := B) eD₂ (rs.mono mv) nd
  have hl : vs.length = kvs.length := by have := congrArg List.length kv.keys; simpa using this
  refine wpAny_setItem_pairs (s := { sh with heap := h₂, toks := tk₂ }) (intKind_is _ _ k tu) dO (fun h₃ dO₃ hs₃ => ?_) (by omega)
  have nk : (vs.any fun kv => decide (kv.1 = k)) = false := by
    have := kv.none hk
    rw [valueAt, Option.map_eq_none_iff, List.find?_eq_none] at this
    rw [List.any_eq_false]
    exact this
  rw [stored, nk] at dO₃
  simp only [Bool.false_eq_true, if_false] at dO₃
  have kvm : ∀ a o, vis (MY M Y) h₂ a o → vis (MY M Y) h₃ a o := fun a o w => ⟨w.1, (hs₃.2 a fun z => w.1 (z ▸ xD)).trans w.2⟩
  have kv₃ := KV.snoc (k := k) (((rv.mono mv)).mono kvm) (kv.mono kvm)
  obtain ⟨es₃, m₃, e₃, r₃⟩ := of_dictOf (B := B) kv₃ dO₃
  have z := F₂.update S₂ e0 rfl (sl' := .odict (kvs ++ [(k, t)])) rfl b₂ hs hs₃.2 ⟨_, e₃⟩ ⟨D, es₃, m₃, rfl, xD, e₃, nD, r₃⟩
  exact q M h₃ _ (((KeepM.of_ext x₁).trans Grow.refl (KeepM.of_ext x₂)).trans Grow.refl z.1) Grow.refl z.2.1 z.2.2

/-- an expression that does not look at some of the names -/
theorem EOK.forget {X : Addr → Prop} {env : Env} {h : Heap} (F : EOK B X bx sc env ρ h) (s : SubEnv ρ' ρ) : EOK B X bx sc env ρ' h := { F with vars := fun x sl e => F.vars x sl (s x sl e) }
theorem Ev.forget {e : Expr} {t : T} (s : SubEnv ρ' ρ) (h : Ev B bx n sc ρ' st e t st₁) : Ev B bx n sc ρ st e t st₁ := fun A X env sh Q r F S q => h A X env sh Q r (F.forget s) S q
theorem Tr.forget {e : Expr} {c : Bool} (s : SubEnv ρ' ρ) (h : Tr B bx n sc ρ' st e c st₁) : Tr B bx n sc ρ st e c st₁ := fun A X env sh Q r F S q => h A X env sh Q r (F.forget s) S q
end
end Mine
namespace Mine
open PySem PySem.W PyProof.Rows
section
variable {prog : Program} {w : World} {A : Around} {E : Value → Shared → Prop} {s : Shared} {K : Frag} {L x dx : Addr} {h₀ : Heap} {m : Str → Option Value} {env : Env}

/-- self.attr = nm, in an __init__ -/
theorem init_set {attr nm : Str} {es es' : List DictEntry} {n n' : Nat} {v : Value} {Q : Flow → Shared → Prop} {np np' ap p : Pos} (F : Fr h₀ L s.heap m) (X₀ : K.In h₀) (N : News h₀ L s.heap [(x, instObj 133 dx), (dx, dictOf es n)]) (ne : x ≠ dx)
    (hk : env.scope.kind = .function) (hL : env.locals = L) (hself : env.kindOf ("self" : Str) = some .local) (hnm : env.kindOf nm = some .local) (mself : m "self" = some (.ref x)) (mnm : m nm = some v)
    (hs : findIn K (.ref 133) "__setattr__" = some (some (.builtin "object.__setattr__"))) (hp : plainOver K 133 = true) (ht : takerIn K 133 attr = some none) (hh : hasDictIn K 133 = true) (hl : (getL attr es).isSome = true)
    (e : (putL attr (PyData.keyHash w.params attr) (.str attr (s.toks + 1)) v es, putN attr es n) = (es', n')) (hz : es'.length ≤ 1000)
    (h : ∀ h' tk, Fr h₀ L h' m → News h₀ L h' [(x, instObj 133 dx), (dx, dictOf es' n')] → Q .next { s with heap := h', toks := tk })
    (hd : (nm == ("__debug__" : Str)) = false := by decide) (hn : (nm == ("__classdict__" : Str)) = false := by decide)
    (hw : swapsWith (.Name nm np') (some (.Attribute (.Name "self" np) attr ap)) p.line env = pure false := by rfl) :
    wpAny (model prog w) A (exec (.Assign [.Attribute (.Name "self" np) attr ap] (.Name nm np') p) env) Q E s := by
  subst hL
  refine plainObj_wpAny_Assign_Attribute ?_ hw
  refine wpAny_Name (wpAny_loadName_local hk hnm F.ns mnm ?_) hd
  refine wpAny_Name (wpAny_loadName_local hk hself F.ns mself ?_) (by decide)
  refine set_dict F X₀ N (InstAt.of_news N (.head _) (.tail _ (.head _))) rfl hs hp ht hh hl e (.tail ne (.head (by simp))) hz fun h' F' N' => h h' _ F' N'
end

section
variable {B : Bg} {bx : Bx} {n : Nat} {st st' : BSt}
/-- the call of a class whose __init__ lays four things by -/
theorem calls_init {nt : T} {wi : Int} {f g : Addr} {name qual : Str} {params : Arguments} {body : List Stmt} {scope : Scope} {doc pm cdv ct oc : Value} {an od : Option Addr} {osl : Array (Option Value)}
    (hl : B.K.lookup 88 = some ⟨oc, od, .func (fnOf name qual params body scope .none .none doc pm an cdv ct), osl⟩) (hc : codeIn B.K cdv qual = true)
    (hb : ∀ vs : List Value, vs.length = 5 → bindArgs (fnOf name qual params body scope .none .none doc pm an cdv ct) ⟨vs, []⟩ = pure ((["self", "n", "w", "times", "quot_rem"] : List Str).zip vs))
    (hx : ∀ y ∈ (["self", "n", "w", "times", "quot_rem"] : List Str), scope.names.lookup y = some .local) (hk : scope.kind = .function) (hco : scope.isCoroutine = false) (hgen : scope.isGenerator = false)
    (h1 : makesIn B.K 133 = true) (h2 : findIn B.K (.ref 133) "__init__" = some (some (.ref 88))) (h3 : typeIn B.K (.ref 88) = some (.type "function"))
    (hs : findIn B.K (.ref 133) "__setattr__" = some (some (.builtin "object.__setattr__"))) (hp : plainOver B.K 133 = true) (hh : hasDictIn B.K 133 = true)
    (t1 : takerIn B.K 133 "n" = some none) (t2 : takerIn B.K 133 "w" = some none) (t3 : takerIn B.K 133 "given_product" = some none) (t4 : takerIn B.K 133 "given_parts" = some none)
    {a1 a2 a3 a4 b1 b2 b3 b4 c1 c2 c3 c4 d1 d2 d3 d4 : Pos}
    (hbody : body = [.Assign [.Attribute (.Name "self" a1) "n" a2] (.Name "n" a3) a4, .Assign [.Attribute (.Name "self" b1) "w" b2] (.Name "w" b3) b4, .Assign [.Attribute (.Name "self" c1) "given_product" c2] (.Name "times" c3) c4, .Assign [.Attribute (.Name "self" d1) "given_parts" d2] (.Name "quot_rem" d3) d4]) :
    Calls B bx 3 133 [nt, .int wi, .fn f, .fn g] st (.rests nt wi f g) st := fun A X s vs Q r G S ra q => by
  obtain ⟨vn, _, rfl, rn, _, _, rfl, ⟨tw, rfl⟩, vf, _, rfl, ef, vg, _, rfl, eg, rfl⟩ := ra
  cases (show vf = .ref f from ef)
  cases (show vg = .ref g from eg)
  obtain ⟨hh', gg, dd, tk, os⟩ := s
  have kin : B.K.In hh' := G.kin
  refine wpAny_call (make_core (makes_of kin h1) (looks_findIn kin h2) (fun self => bind_fn kin self h3) (.inl rfl) ?_)
  have push2 : ∀ b o, hh'.get? b = some o → ((hh'.push emptyDict).push (instObj 133 hh'.objs.size)).get? b = some o := fun b o e => Heap.get?_push_of_some _ (Heap.get?_push_of_some _ e)
  have kin2 : B.K.In ((hh'.push emptyDict).push (instObj 133 hh'.objs.size)) := kin.keeps push2
  have depth : (A.under (.builtin "type.__call__" ⟨[.ref 133, vn, .int wi tw, .ref f, .ref g], []⟩)).depth < recursionLimit := by
    have := r.2.1
    show A.depth + _ < _
    have e : (Code.builtin "type.__call__" ⟨[.ref 133, vn, .int wi tw, .ref f, .ref g], []⟩).weight ≤ 2 := by
      unfold Code.weight
      have e1 : (Code.builtin "type.__call__" ⟨[.ref 133, vn, .int wi tw, .ref f, .ref g], []⟩).frames = 0 := by first | rfl | decide +kernel
      have e2 : (Code.builtin "type.__call__" ⟨[.ref 133, vn, .int wi tw, .ref f, .ref g], []⟩).isCaller = false := by first | rfl | decide +kernel
      rw [e1, e2]
      simp only [Bool.false_eq_true, if_false]
      split <;> split <;> omega
    omega
  refine codeAny_call_cells (fd := fnOf name qual params body scope .none .none doc pm an cdv ct) (body := body) (binds := (["self", "n", "w", "times", "quot_rem"] : List Str).zip [.ref (hh'.objs.size + 1), vn, .int wi tw, .ref f, .ref g]) depth (kin2 _ _ hl) rfl
    (B.nolimit.keeps fun b o e => push2 b o (G.bg b o e).2) (codeRec_of kin2 hc) rfl (hb _ rfl) rfl (fun y hy => ?_) (fun s₁ x => ?_) hco hgen hk
  · exact .inl (hx y.1 (List.of_mem_zip hy).1)
  · generalize hE : callEnvC (fnOf name qual params body scope .none .none doc pm an cdv ct) ((hh'.push emptyDict).push (instObj 133 hh'.objs.size)).objs.size 88 = env at x
    have eS : env.scope = scope := by rw [← hE]; rfl
    have eL : env.locals = hh'.objs.size + 2 := by rw [← hE]; show ((hh'.push emptyDict).push (instObj 133 hh'.objs.size)).objs.size = _; rw [Heap.size_push, Heap.size_push]
    obtain ⟨h₁, tk₁, rfl, keep⟩ := x.done
    have kof : ∀ y ∈ (["self", "n", "w", "times", "quot_rem"] : List Str), env.kindOf y = some .local := fun y hy => by show env.scope.names.lookup y = _; rw [eS]; exact hx y hy
    have dlt : hh'.get? hh'.objs.size = none := by
      cases e : hh'.get? hh'.objs.size with
      | none => rfl
      | some o => exact absurd (Heap.lt_size e) (Nat.lt_irrefl _)
    have xlt : hh'.get? (hh'.objs.size + 1) = none := by
      cases e : hh'.get? (hh'.objs.size + 1) with
      | none => rfl
      | some o => exact absurd (Heap.lt_size e) (Nat.not_lt.mpr (Nat.le_succ _))
    have F : Fr hh' env.locals h₁ (bindL env.kindOf ((["self", "n", "w", "times", "quot_rem"] : List Str).zip [.ref (hh'.objs.size + 1), vn, .int wi tw, .ref f, .ref g]) fun _ => Option.none) :=
      ⟨x.toInCall.ns, fun b o e => keep b o (push2 b o e), by rw [eL]; exact Nat.le_add_right _ 2⟩
    have g1 : ((hh'.push emptyDict).push (instObj 133 hh'.objs.size)).get? (hh'.objs.size + 1) = some (instObj 133 hh'.objs.size) := by
      have : ((hh'.push emptyDict).push (instObj 133 hh'.objs.size)).get? (hh'.push emptyDict).objs.size = some (instObj 133 hh'.objs.size) := Heap.get?_push_size _ rfl
      rwa [Heap.size_push] at this
    have g2 : ((hh'.push emptyDict).push (instObj 133 hh'.objs.size)).get? hh'.objs.size = some (dictOf [] 0) := Heap.get?_push_of_some _ (Heap.get?_push_size _ rfl)
    have N : News hh' env.locals h₁ [(hh'.objs.size + 1, instObj 133 hh'.objs.size), (hh'.objs.size, dictOf [] 0)] := fun p hp => by
      rcases List.mem_cons.mp hp with rfl | hp
      · exact ⟨keep _ _ g1, by rw [eL]; exact Nat.ne_of_lt (Nat.lt_succ_self _), xlt⟩
      · rw [List.mem_singleton.mp hp]
        exact ⟨keep _ _ g2, by rw [eL]; exact Nat.ne_of_lt (Nat.lt_add_of_pos_right (by decide)), dlt⟩
    have nd : (((["self", "n", "w", "times", "quot_rem"] : List Str).zip [.ref (hh'.objs.size + 1), vn, .int wi tw, .ref f, .ref g] : List (Str × Value)).map (·.1)).Nodup := by
      show (["self", "n", "w", "times", "quot_rem"] : List Str).Nodup
      decide
    have hkE : env.scope.kind = .function := by rw [eS]; exact hk
    have ne : hh'.objs.size + 1 ≠ hh'.objs.size := by omega
    have mm : ∀ y v, (y, v) ∈ ((["self", "n", "w", "times", "quot_rem"] : List Str).zip [.ref (hh'.objs.size + 1), vn, .int wi tw, .ref f, .ref g] : List (Str × Value)) → y ∈ (["self", "n", "w", "times", "quot_rem"] : List Str) →
        bindL env.kindOf ((["self", "n", "w", "times", "quot_rem"] : List Str).zip [.ref (hh'.objs.size + 1), vn, .int wi tw, .ref f, .ref g]) (fun _ => Option.none) y = some v := fun y v hm hy => bindL_at (kof y hy) nd hm
    subst hbody
    have ks := kof "self" (by simp)
    have ms := mm "self" _ (List.Mem.head _) (by simp)
    refine wpAny_execs_cons (init_set F kin N ne hkE rfl ks (kof "n" (by simp)) ms (mm "n" vn (List.Mem.tail _ (List.Mem.head _)) (by simp)) hs hp t1 hh rfl rfl (Nat.le_of_ble_eq_true rfl) fun h2 tk2 F2 N2 => ?_)
    refine wpAny_execs_cons (init_set F2 kin N2 ne hkE rfl ks (kof "w" (by simp)) ms (mm "w" _ (List.Mem.tail _ (List.Mem.tail _ (List.Mem.head _))) (by simp)) hs hp t2 hh rfl rfl (Nat.le_of_ble_eq_true rfl) fun h3 tk3 F3 N3 => ?_)
    refine wpAny_execs_cons (init_set F3 kin N3 ne hkE rfl ks (kof "times" (by simp)) ms (mm "times" _ (List.Mem.tail _ (List.Mem.tail _ (List.Mem.tail _ (List.Mem.head _)))) (by simp)) hs hp t3 hh rfl rfl (Nat.le_of_ble_eq_true rfl) fun h4 tk4 F4 N4 => ?_)
    refine wpAny_execs_cons (init_set F4 kin N4 ne hkE rfl ks (kof "quot_rem" (by simp)) ms (mm "quot_rem" _ (List.Mem.tail _ (List.Mem.tail _ (List.Mem.tail _ (List.Mem.tail _ (List.Mem.head _))))) (by simp)) hs hp t4 hh rfl rfl (Nat.le_of_ble_eq_true rfl) fun h5 tk5 F5 N5 => ?_)
    refine wpAny_execs_nil ⟨rfl, ?_⟩
    have k5 : ∀ b o, hh'.get? b = some o → h5.get? b = some o := F5.keep
    have nX : ∀ b, hh'.get? b = none → ¬ X b := fun b e => G.fresh e
    refine q (.ref (hh'.objs.size + 1)) h5 tk5 (Ext.of_stays k5) (S.keeps k5) ⟨_, _, vn, tw, _, _, _, _, _, _, _, _, _, rfl, ⟨nX _ xlt, (N5 _ (.head _)).1⟩, ⟨nX _ dlt, (N5 _ (.tail _ (.head _))).1⟩, rn.mono (vis_keeps k5)⟩
end
end Mine
namespace Mine
open PySem PySem.W PyProof.Rows
section
variable {B : Bg} {p : Addr × Addr} {n : Nat} {sc : Scope} {ρ ρ' : REnv} {st st₁ st₂ st₃ : BSt} {out : Out}

theorem Ev.box0 {x : Str} {np kp sp : Pos} {k : Nat} (e0 : ρ.lookup x = some (.sh (.fn p.1))) (hd : (x == ("__debug__" : Str)) = false := by decide) (hn : (x == ("__classdict__" : Str)) = false := by decide)
    (hs : ∀ o j, subscripted (.Constant (.int 0) k kp) false o j = operate [o, j] (getItem o j) := by intro _ _; with_unfolding_all rfl) :
    Ev B (some p) n sc ρ st (.Subscript (.Name x np) (.Constant (.int 0) k kp) sp) (.fn p.2) st := fun A X env s Q rm F S q => by
  refine Subscript_ (Ev.name e0 hd hn A X env s _ rm F S fun v h₁ tk₁ x₁ S₁ rv => ?_)
  cases (show v = .ref p.1 from rv)
  have F₁ := F.keeps x₁ S₁
  refine Ev.int A X env _ _ rm F₁ S₁ fun u h₂ tk₂ x₂ S₂ ru => ?_
  obtain ⟨tu, rfl⟩ := ru
  obtain ⟨_, _, _, ⟨m, t, e1⟩, _⟩ := S₂ p rfl
  have hl : h₂.IsList p.1 #[.ref p.2, .int st.2 t] := ⟨_, e1, rfl, m, rfl⟩
  exact tail_any (Heap.IsList.typeIs (s := { s with heap := h₂, toks := tk₂ }) hl) slot_list_getitem.lookup (wpAny_getItem_list (s := { s with heap := h₂, toks := tk₂ }) hl (by decide) (by decide) rfl (q _ h₂ _ (x₁.trans x₂) S₂ rfl)) (hs _ _)
theorem Ev.box1 {x : Str} {np kp sp : Pos} {k : Nat} (e0 : ρ.lookup x = some (.sh (.fn p.1))) (hd : (x == ("__debug__" : Str)) = false := by decide) (hn : (x == ("__classdict__" : Str)) = false := by decide)
    (hs : ∀ o j, subscripted (.Constant (.int 1) k kp) false o j = operate [o, j] (getItem o j) := by intro _ _; with_unfolding_all rfl) :
    Ev B (some p) n sc ρ st (.Subscript (.Name x np) (.Constant (.int 1) k kp) sp) (.int st.2) st := fun A X env s Q rm F S q => by
  refine Subscript_ (Ev.name e0 hd hn A X env s _ rm F S fun v h₁ tk₁ x₁ S₁ rv => ?_)
  cases (show v = .ref p.1 from rv)
  have F₁ := F.keeps x₁ S₁
  refine Ev.int A X env _ _ rm F₁ S₁ fun u h₂ tk₂ x₂ S₂ ru => ?_
  obtain ⟨tu, rfl⟩ := ru
  obtain ⟨_, _, _, ⟨m, t, e1⟩, _⟩ := S₂ p rfl
  have hl : h₂.IsList p.1 #[.ref p.2, .int st.2 t] := ⟨_, e1, rfl, m, rfl⟩
  exact tail_any (Heap.IsList.typeIs (s := { s with heap := h₂, toks := tk₂ }) hl) slot_list_getitem.lookup (wpAny_getItem_list (s := { s with heap := h₂, toks := tk₂ }) hl (by decide) (by decide) rfl (q _ h₂ _ (x₁.trans x₂) S₂ ⟨t, rfl⟩)) (hs _ _)
theorem Ev.boxLen {np q : Pos} {e : Expr} (h : Ev B (some p) n sc ρ st e (.fn p.2) st) (hz : st.1.length ≤ 2 ^ 24) (k : sc.names.lookup ("len" : Str) = some .globalImplicit) (e0 : nsIn B.K mainGlobals "len" = some none)
    (hp : ∀ env, starEach [e] env = (false, eval e env) :: starEach [] env := by intro _; rfl) : Ev B (some p) n sc ρ st (.Call (.Name "len" np) [e] [] q) (.int st.1.length) st := by
  refine Ev.builtin1 (id := "len") k e0 PyProof.Rows.Boot.«len» (by decide) (by decide) (Evs.cons h Evs.nil hp) ?_ (hp := hp)
  intro A X s Q vs _ _ S rs q
  obtain ⟨v, _, rfl, ev, rfl⟩ := rs
  cases (show v = .ref p.2 from ev)
  obtain ⟨_, _, _, _, m, vs, e2, hi⟩ := S p rfl
  have hl : s.heap.IsList p.2 vs.toArray := ⟨_, e2, rfl, m, rfl⟩
  have hlen : vs.length = st.1.length := hi.length
  refine Calls.call_len_list hl (by rw [List.size_toArray, hlen]; omega) ?_
  exact q _ s.heap _ Ext.refl S ⟨_, by rw [List.size_toArray, hlen]⟩

theorem box_upd {X : Addr → Prop} {h : Heap} {is js : List Int} {sd sd' : Int} {f : Obj → Obj} {D : Addr} (S : BoxOK X (some p) h (is, sd)) (hD : D = p.1 ∨ D = p.2)
    (h1 : ∃ n t, (h.update D f).get? p.1 = some (listObj [.ref p.2, .int sd' t] n)) (h2 : ∃ n vs, (h.update D f).get? p.2 = some (listObj vs n) ∧ IntsAre vs js) : Ext (some p) h (h.update D f) ∧ BoxOK X (some p) (h.update D f) (js, sd') := by
  refine ⟨fun b o i e => ?_, fun q e => ?_⟩
  · rw [Heap.get?_update_other h f (fun z => i ⟨p, rfl, by rw [← z]; exact hD⟩)]
    exact e
  · cases e
    obtain ⟨a1, a2, a3, _, _⟩ := S p rfl
    exact ⟨a1, a2, a3, h1, h2⟩

theorem Ev.boxPop {oe ae : Expr} {ap q : Pos} {i : Int} {r : List Int} {sd : Int} (h : Ev B (some p) n sc ρ (i :: r, sd) oe (.fn p.2) (i :: r, sd)) (ha : Ev B (some p) n sc ρ (i :: r, sd) ae (.int 0) (i :: r, sd)) (hz : r.length + 1 ≤ sizeLine)
    {pl : Env → Sem Bool} (he : ∀ env, eval (.Call (.Attribute oe "pop" ap) [ae] [] q) env = (do
      let ov ← eval oe env
      standAt ap.atName
      let (f, first) ← holding [ov] (getMethod ov "pop" (pl env))
      callWith q f first (backTo q (starEach [ae] env)) []))
    (hp : ∀ env, starEach [ae] env = (false, eval ae env) :: starEach [] env := by intro _; rfl) :
    Ev B (some p) n sc ρ (i :: r, sd) (.Call (.Attribute oe "pop" ap) [ae] [] q) (.int i) (r, sd) := fun A X env s Q rm F S k => by
  refine MethodCall_ (pl := pl env) (h A X env s _ rm F S fun v h₁ tk₁ x₁ S₁ rv => ?_) (he env)
  cases (show v = .ref p.2 from rv)
  have F₁ := F.keeps x₁ S₁
  obtain ⟨_, _, _, _, m, vs, e2, hi⟩ := S₁ p rfl
  refine PySem.getMethod_builtin (s := { s with heap := h₁, toks := tk₁ }) ⟨_, e2, rfl⟩ PySem.F.plainAttrs_list PySem.F.slot_list_pop PySem.F.type_list_pop (fun a e => by cases e; exact ⟨_, e2, rfl⟩) ?_
  refine callWith_method1 (Evs.cons ha Evs.nil hp A X env { s with heap := h₁, toks := tk₁ } _ _ rm F₁ S₁ fun ws h₂ tk₂ x₂ S₂ rw' => ?_) (hp env)
  obtain ⟨w, _, rfl, ⟨tu, rfl⟩, rfl⟩ := rw'
  obtain ⟨b1, b2, b3, ⟨m1, t1, e1⟩, m, vs, e2, hi⟩ := S₂ p rfl
  obtain ⟨t, vs', rfl, hi'⟩ := hi.cons_inv
  have hl := hi'.length
  refine call_meets PySem.F.slot_list_pop ⟨_, e2, rfl⟩ PySem.F.entry_list_pop (PySem.F.args_list_pop_2 _ _) (PySem.MeetsSeq.list_pop_at p.2 (Value.int i t :: vs').toArray m 0 tu 0 (.int i t) (by decide) (by unfold seqIndex?; simp) (by simp) (by rw [List.size_toArray, List.length_cons, hl]; exact hz)) ⟨e2, ?_⟩
  have z := box_upd (f := Obj.mapSeq fun xs => xs.eraseIdxIfInBounds 0) (is := i :: r) (js := r) (sd := sd) (sd' := sd) S₂ (.inr rfl) ⟨m1, t1, by rw [Heap.get?_update_other _ _ (Ne.symm b3)]; exact e1⟩ (by
    have := PySem.IsL.update (l := p.2) (h := h₂) (n := m) (items := (Value.int i t :: vs').toArray) e2 (fun xs => xs.eraseIdxIfInBounds 0)
    rw [show (Value.int i t :: vs').toArray.eraseIdxIfInBounds 0 = vs'.toArray from kl_erase [] vs' _] at this
    exact ⟨_, vs', this, hi'⟩)
  exact k _ _ tk₂ ((x₁.trans x₂).trans z.1) z.2 ⟨t, rfl⟩

theorem Ex1.boxSet {x : Str} {np kp sp q : Pos} {k : Nat} {e : Expr} {c : Int} {is : List Int} {sd : Int} (h : Ev B (some p) n sc ρ (is, sd) e (.int c) (is, sd)) (e0 : ρ.lookup x = some (.sh (.fn p.1))) (hd : (x == ("__debug__" : Str)) = false := by decide) (hn : (x == ("__classdict__" : Str)) = false := by decide)
    (hw : ∀ env, swapsWith e (some (.Subscript (.Name x np) (.Constant (.int 1) k kp) sp)) q.line env = pure false := by intro _; rfl) :
    Ex1 B (some p) n sc ρ (is, sd) (.Assign [.Subscript (.Name x np) (.Constant (.int 1) k kp) sp] e q) (.next ρ (is, c)) := fun A M Y env sh Q r F S k' => by
  refine wpAny_Assign_Subscript (h A _ env sh _ r F.eok S fun v h₁ tk₁ x₁ S₁ rv => ?_) (hw env)
  obtain ⟨tc, rfl⟩ := rv
  have F₁ := F.keeps x₁ S₁
  refine Ev.name e0 hd hn A _ env { sh with heap := h₁, toks := tk₁ } _ r F₁.eok S₁ fun w h₂ tk₂ x₂ S₂ rw' => ?_
  cases (show w = .ref p.1 from rw')
  have F₂ := F₁.keeps x₂ S₂
  refine Ev.int A _ env _ _ r F₂.eok S₂ fun u h₃ tk₃ x₃ S₃ ru => ?_
  obtain ⟨tu, rfl⟩ := ru
  have F₃ := F₂.keeps x₃ S₃
  obtain ⟨b1, b2, b3, ⟨m1, t1, e1⟩, m, vs, e2, hi⟩ := S₃ p rfl
  refine ki_setAt (s := { sh with heap := h₃, toks := tk₃ }) (items := #[.ref p.2, .int sd t1]) (n := m1) e1 (by decide) (by decide) (show (1 : Int) < ((2 : Nat) : Int) by decide) ?_
  have z := box_upd (f := Obj.mapSeq fun xs => xs.setIfInBounds (1 : Int).toNat (.int c tc)) (is := is) (js := is) (sd := sd) (sd' := c) S₃ (.inl rfl) (by
    have := PySem.IsL.update (l := p.1) (h := h₃) (n := m1) (items := #[.ref p.2, .int sd t1]) e1 (fun xs => xs.setIfInBounds (1 : Int).toNat (.int c tc))
    exact ⟨_, tc, this⟩) ⟨m, vs, by rw [Heap.get?_update_other _ _ b3]; exact e2, hi⟩
  exact k' M _ tk₃ (((KeepM.of_ext x₁).trans Grow.refl (KeepM.of_ext x₂)).trans Grow.refl (KeepM.of_ext (x₃.trans z.1))) Grow.refl (F₃.keeps z.1 z.2) z.2
end
end Mine
namespace Mine
open PySem PySem.W PyProof.Rows
section
variable {B : Bg} {n : Nat} {sc : Scope} {ρ ρ' : REnv} {st st₁ st₂ st₃ : BSt} {out : Out}

theorem intsAre_of {V : Vis} : ∀ {is : List Int} {vs : List Value}, RepAll V (is.map T.int) vs → IntsAre vs is
  | [], _, r => by rw [show _ = [] from r]; exact .nil
  | i :: is, _, r => by
    obtain ⟨v, vs, rfl, ⟨t, rfl⟩, r⟩ := r
    exact .cons i t (intsAre_of r)

/-- two objects that no name of the frame knows become the box -/
theorem FOK.toBox {M Y : Addr → Prop} {env : Env} {h h' : Heap} {p : Addr × Addr} (F : FOK B M Y none sc env ρ h) (hρ : ∀ y sl, ρ.lookup y = some sl → sl.isSh = true) (k : ∀ b o, h.get? b = some o → h'.get? b = some o) (f1 : h.get? p.1 = none) (f2 : h.get? p.2 = none)
    (l1 : ∃ o, h'.get? p.1 = some o) (l2 : ∃ o, h'.get? p.2 = some o) : FOK B M (plus (plus Y p.2) p.1) (some p) sc env ρ h' := by
  have old : ∀ {b o}, h.get? b = some o → b ≠ p.1 ∧ b ≠ p.2 := by
    intro b o e
    constructor
    · intro z; rw [z, f1] at e; cases e
    · intro z; rw [z, f2] at e; cases e
  have nb : ∀ {b o}, h.get? b = some o → ¬ InBox (some p) b := fun {b o} e i => by
    obtain ⟨q, eq, hi⟩ := i
    cases eq
    rcases hi with hi | hi
    · exact (old e).1 hi
    · exact (old e).2 hi
  have kv : ∀ a o, vis (MY M Y) h a o → vis (MY M (plus (plus Y p.2) p.1)) h' a o := by
    intro a o w
    refine ⟨fun z => ?_, k a o w.2⟩
    rcases z with z | (z | z) | z
    · exact w.1 (.inl z)
    · exact w.1 (.inr z)
    · exact (old w.2).2 z
    · exact (old w.2).1 z
  have up : ∀ {y w}, Bound env h y w → Bound env h' y w := fun b => b.keeps (fun o q => k _ _ q) (fun n c o e q => k _ _ q)
  exact {
    eok := {
      bg := ⟨fun b o e => by
        have e' := (F.eok.bg.bg b o e).2
        refine ⟨fun z => ?_, k _ _ e'⟩
        rcases z with z | (z | z) | z
        · exact (F.eok.bg.bg b o e).1 (.inl z)
        · exact (F.eok.bg.bg b o e).1 (.inr z)
        · exact (old e').2 z
        · exact (old e').1 z, fun b z => by
        rcases z with z | (z | z) | z
        · exact (F.eok.bg.live b (.inl z)).imp fun o q => k _ _ q
        · exact (F.eok.bg.live b (.inr z)).imp fun o q => k _ _ q
        · exact z ▸ l2
        · exact z ▸ l1⟩
      scope := F.eok.scope
      kind := F.eok.kind
      glob := F.eok.glob
      blt := F.eok.blt
      locB := by
        obtain ⟨m, o, es, ep, e, _⟩ := F.ns
        exact nb e
      cellB := fun n c e => by
        obtain ⟨_, _, v, o, q, _⟩ := F.cellM n c e
        exact nb q
      vars := fun y sl e => by
        obtain ⟨v, b, rs, _⟩ := F.eok.vars y sl e
        have sh := hρ y sl e
        cases sl with
        | sh t => exact ⟨v, up b, Rep.mono kv rs, fun _ _ i => absurd rfl (i _)⟩
        | own _ => cases sh
        | odict _ => cases sh }
    disj := fun b m y => by
      obtain ⟨o, e⟩ := F.eok.bg.live b (.inl m)
      rcases y with (y | y) | y
      · exact F.disj b m y
      · exact (old e).2 y
      · exact (old e).1 y
    locM := F.locM
    ns := by
      obtain ⟨m, o, es, ep, e, q⟩ := F.ns
      exact ⟨m, o, es, ep, k _ _ e, q⟩
    cellM := fun n c e => by
      obtain ⟨h1, h2, v, o, q, d⟩ := F.cellM n c e
      exact ⟨h1, h2, v, o, k _ _ q, d⟩
    apart := F.apart
    cells := F.cells
    own := fun y sl D e i => by
      have := hρ y sl e
      rw [this] at i; cases i
    boxY := fun b i => by
      obtain ⟨q, e, hi⟩ := i
      cases e
      rcases hi with rfl | rfl
      · exact .inr rfl
      · exact .inl (.inr rfl) }

/-- box = [[.. for ..], sd], and all that is behind it -/
theorem Exs.boxNew {elt iter : Expr} {x : Str} {px pos bp lp kp p' : Pos} {kc : Nat} {sd : Int} {cs : Scope} {t : T} {ts : List T} {is : List Int} {ss : List Stmt} {b : Bool} {ρ' : Addr → REnv} (h : Ev B none n sc ρ st iter t st) (ht : t.items = some ts) (hr : t.rangeOK = true) (hc : CompOK cs sc x [])
    (hz : ts.length ≤ sizeLine) (hto : CompTo B none n (relS cs sc) x [] elt [] ts st (is.map T.int) st) (k : sc.names.lookup ("box" : Str) = some .local ∨ sc.names.lookup ("box" : Str) = some .cell) (hρ : ∀ y sl, ρ.lookup y = some sl → sl.isSh = true)
    (hset : ∀ a, SetTo ("box" : Str) (.sh (.fn a)) ρ (ρ' a)) (h' : ∀ p : Addr × Addr, ∃ st', Exs B (some p) n sc (ρ' p.1) (is, sd) ss (.ret (.bool b) st'))
    (he : ∀ env, starEach [.ListComp elt [⟨.Name x px, iter, [], 0⟩] cs pos, .Constant (.int sd) kc kp] env = (false, eval (.ListComp elt [⟨.Name x px, iter, [], 0⟩] cs pos) env) :: starEach [.Constant (.int sd) kc kp] env := by intro _; rfl)
    (he' : ∀ env, starEach [.Constant (.int sd) kc kp] env = (false, eval (.Constant (.int sd) kc kp) env) :: starEach [] env := by intro _; rfl)
    (hs : ∀ env x, foldedSetIterable iter env x = pure x := by intro _ _; rfl) :
    Exs B none n sc ρ st (.Assign [.Name "box" bp] (.List [.ListComp elt [⟨.Name x px, iter, [], 0⟩] cs pos, .Constant (.int sd) kc kp] lp) p' :: ss) (.ret (.bool b) st) := fun A M Y env sh Q r F S q => by
  have nbn : ∀ b, ¬ InBox none b := fun b i => by obtain ⟨p, e, _⟩ := i; cases e
  obtain ⟨cl, hclos, hcl, hcl'⟩ := closure_of (comp_cells (ρf := []) F.eok hc (SubEnv.nil))
  refine wpAny_execs_cons (wpAny_Assign_Name (wpAny_List ?_))
  refine wpAny_items_cons ?_ (he env)
  rw [eval_ListComp]
  refine wpAny_comprehension_free (use := none) rfl (hs env) hclos hc.kind hc.names (h A (MY M Y) env sh _ r F.eok S fun v h₁ tk₁ x₁ S₁ rv => ?_)
  have F₁ := F.keeps x₁ S₁
  refine iter_of (B := B) (bx := none) (s := { sh with heap := h₁, toks := tk₁ }) r.1 rv ht F₁.eok.bg.next (fun a b c e => by
    subst e
    simp only [T.rangeOK, Bool.and_eq_true, decide_eq_true_eq] at hr
    exact hr) fun o fp P St ho W hst => ?_
  have F₂ := F₁.eok.alloc o ho S₁
  have S₂ : BoxOK (plus (MY M Y) h₁.objs.size) none (h₁.push o) st := BoxOK.none
  refine comp_block (ρf := []) (s₂ := { sh with heap := h₁.push o, toks := tk₁ }) (RR := fun acc C => compPost _ A (fun _ _ => False) none _ acc C) W r F₂ S₂ (nbn _) (fun b i => absurd i (nbn b)) hst hc SubEnv.nil rfl hcl hcl' (fun y sl c e1 e2 e3 z => ?_) hto hz ?_
  · obtain ⟨u, bd, _⟩ := F₁.eok.vars y sl e1
    rcases bd with ⟨kk, _⟩ | ⟨_, c', ec, o', q', _⟩
    · rw [e2] at kk; cases kk
    · rw [e3] at ec; cases ec
      exact Nat.lt_irrefl _ (z ▸ Heap.lt_size q')
  · intro D C h₃ tk₃ m' ys kk frD frC hDC nsC eD ra K S'
    refine ⟨m', nsC, fun h₄ hs₄ => ?_⟩
    have k₄ : ∀ b o, b ≠ C → h₃.get? b = some o → h₄.get? b = some o := fun b o ne e => hs₄.extBut b o ne e
    have neC : ∀ {b o'}, h₁.get? b = some o' → b ≠ C := fun {b o'} e z => by
      have := pushed_keeps o b o' e
      rw [z] at this
      have frC : (h₁.push o).get? C = none := frC
      rw [frC] at this; cases this
    have x₄ : Ext none h₁ h₄ := fun b o' _ e => k₄ b o' (neC e) (K b o' (Nat.ne_of_lt (Heap.lt_size e)) (nbn b) (pushed_keeps o b o' e))
    have xA : ∀ b o', sh.heap.get? b = some o' → h₄.get? b = some o' := fun b o' e => x₄ b o' (nbn b) (x₁ b o' (nbn b) e)
    have F₄ := F₁.keeps (st := st) x₄ BoxOK.none
    refine Evs.cons (st := st) Ev.int Evs.nil he' A (MY M Y) env { sh with heap := h₄, toks := tk₃ } _ _ r F₄.eok BoxOK.none fun ws h₅ tk₅ x₅ _ rw' => ?_
    obtain ⟨w, _, rfl, ⟨tw, rfl⟩, rfl⟩ := rw'
    refine ⟨by simp [sizeLine], ?_⟩
    have eD₅ : h₅.get? D = some (listObj ys kk) := x₅ D _ (nbn D) (k₄ D _ hDC eD)
    have fD : sh.heap.get? D = none := by
      cases e : sh.heap.get? D with
      | none => rfl
      | some o' =>
        have := pushed_keeps o D o' (x₁ D o' (nbn D) e)
        have frD : (h₁.push o).get? D = none := frD
        rw [frD] at this; cases this
    have f1 : sh.heap.get? h₅.objs.size = none := by
      cases e : sh.heap.get? h₅.objs.size with
      | none => rfl
      | some o' => exact absurd (Heap.lt_size (x₅ _ o' (nbn _) (xA _ o' e))) (Nat.lt_irrefl _)
    have k₆ := pushed_keeps (h := h₅) (listObj [.ref D, .int sd tw] 0)
    have e1₆ : (h₅.push (listObj [.ref D, .int sd tw] 0)).get? h₅.objs.size = some (listObj [.ref D, .int sd tw] 0) := Heap.get?_push_size _ rfl
    have neD : h₅.objs.size ≠ D := fun z => by
      have := Heap.lt_size eD₅
      rw [z] at this
      exact Nat.lt_irrefl _ this
    have F₆ := F.toBox (p := (h₅.objs.size, D)) (h' := h₅.push (listObj [.ref D, .int sd tw] 0)) hρ (fun b o' e => k₆ _ _ (x₅ b o' (nbn b) (xA b o' e))) f1 fD ⟨_, e1₆⟩ ⟨_, k₆ _ _ eD₅⟩
    have S₆ : BoxOK (MY M (plus (plus Y D) h₅.objs.size)) (some (h₅.objs.size, D)) (h₅.push (listObj [.ref D, .int sd tw] 0)) (is, sd) := fun p e => by
      cases e
      exact ⟨.inr (.inr rfl), .inr (.inl (.inr rfl)), neD, ⟨0, tw, e1₆⟩, kk, ys, k₆ _ _ eD₅, intsAre_of ra⟩
    refine store_sh (s := { sh with heap := h₅.push (listObj [.ref D, .int sd tw] 0), toks := tk₅ }) F₆ S₆ k (hset h₅.objs.size) (v := .ref h₅.objs.size) rfl fun h₇ tk₇ km₇ _ F₇ S₇ => ?_
    obtain ⟨st', hx⟩ := h' (h₅.objs.size, D)
    refine hx A M _ env { sh with heap := h₇, toks := tk₇ } Q r F₇ S₇ fun M' v' h₈ tk₈ km₈ gr₈ rv₈ S₈ => ?_
    have nB : ∀ {b o'}, sh.heap.get? b = some o' → ¬ InBox (some (h₅.objs.size, D)) b := fun {b o'} e i => by
      obtain ⟨p, ep, hi⟩ := i
      cases ep
      rcases hi with hi | hi
      · rw [hi, f1] at e; cases e
      · rw [hi, fD] at e; cases e
    have to7 : ∀ {b o'}, ¬ M b → sh.heap.get? b = some o' → h₇.get? b = some o' := fun {b o'} nm e => km₇ b o' nm (nB e) (k₆ _ _ (x₅ b o' (nbn b) (xA b o' e)))
    refine q M' v' h₈ tk₈ (fun b o' nm _ e => km₈ b o' nm (nB e) (to7 nm e)) (fun b m => ?_) rv₈ BoxOK.none
    refine Classical.byCases (fun z : M b => .inl z) fun z => ?_
    rcases gr₈ b m with g | g
    · exact .inl g
    · refine .inr ?_
      cases e : sh.heap.get? b with
      | none => rfl
      | some o' =>
        have := to7 z e
        have g : h₇.get? b = none := g
        rw [g] at this; cases this
end
end Mine
namespace Mine
open PySem PySem.W PyProof.Rows
/-- values of a given number -/
theorem allS {n : Nat} {Q : List Value → Prop} (h : ∀ (a : Value) (l : List Value), l.length = n → Q (a :: l)) : ∀ vs : List Value, vs.length = n + 1 → Q vs
  | [], e => by cases e
  | a :: l, e => h a l (Nat.succ.inj e)
theorem all0 {Q : List Value → Prop} (h : Q []) : ∀ vs : List Value, vs.length = 0 → Q vs
  | [], _ => h
theorem all1 {Q : List Value → Prop} (h : ∀ a, Q [a]) : ∀ vs : List Value, vs.length = 1 → Q vs := allS fun a => all0 (Q := fun l => Q (a :: l)) (h a)
theorem all2 {Q : List Value → Prop} (h : ∀ a b, Q [a, b]) : ∀ vs : List Value, vs.length = 2 → Q vs := allS fun a => all1 (Q := fun l => Q (a :: l)) (h a)
theorem all3 {Q : List Value → Prop} (h : ∀ a b c, Q [a, b, c]) : ∀ vs : List Value, vs.length = 3 → Q vs := allS fun a => all2 (Q := fun l => Q (a :: l)) (h a)
theorem all4 {Q : List Value → Prop} (h : ∀ a b c d, Q [a, b, c, d]) : ∀ vs : List Value, vs.length = 4 → Q vs := allS fun a => all3 (Q := fun l => Q (a :: l)) (h a)
theorem all5 {Q : List Value → Prop} (h : ∀ a b c d e, Q [a, b, c, d, e]) : ∀ vs : List Value, vs.length = 5 → Q vs := allS fun a => all4 (Q := fun l => Q (a :: l)) (h a)
theorem all6 {Q : List Value → Prop} (h : ∀ a b c d e f, Q [a, b, c, d, e, f]) : ∀ vs : List Value, vs.length = 6 → Q vs := allS fun a => all5 (Q := fun l => Q (a :: l)) (h a)
theorem all7 {Q : List Value → Prop} (h : ∀ a b c d e f g, Q [a, b, c, d, e, f, g]) : ∀ vs : List Value, vs.length = 7 → Q vs := allS fun a => all6 (Q := fun l => Q (a :: l)) (h a)
theorem all8 {Q : List Value → Prop} (h : ∀ a b c d e f g h, Q [a, b, c, d, e, f, g, h]) : ∀ vs : List Value, vs.length = 8 → Q vs := allS fun a => all7 (Q := fun l => Q (a :: l)) (h a)
end Mine
namespace Mine
open PySem PySem.W PyProof.Rows
/-- the k-th statement of the text -/
noncomputable def nthS : List Stmt → Nat → Stmt
  | s :: _, 0 => s
  | _ :: l, n + 1 => nthS l n
  | [], _ => .Pass ⟨0, 0, 0, 0⟩
noncomputable abbrev stm (i : Nat) : Stmt := nthS PySem.Challenge.pw_nn0023_01.main.body i
noncomputable def innerS : Stmt → List Stmt
  | .ClassDef _ _ _ b .. => b
  | _ => []
noncomputable abbrev mth (i j : Nat) : Stmt := nthS (innerS (stm i)) j
noncomputable def argsS : Stmt → Arguments
  | .FunctionDef _ a .. => a
  | _ => { posonlyargs := [], args := [], vararg := none, kwonlyargs := [], kw_defaults := [], kwarg := none, defaults := [] }
noncomputable def bodyS : Stmt → List Stmt
  | .FunctionDef _ _ b .. => b
  | _ => []
noncomputable def scopeS : Stmt → Scope
  | .FunctionDef _ _ _ _ _ _ s .. => s
  | _ => { kind := .function, names := [], isGenerator := false, isCoroutine := false }
noncomputable abbrev fo (s : Stmt) (n q m : Str) (mi : Nat) (c : Addr) : Obj := { cls := .type "function", data := .func { name := n, qualname := q, params := argsS s, body := .stmts (bodyS s), scope := scopeS s, globals := 3, closure := [], defaults := .none, kwdefaults := .none, pyModule := .str m mi, code := .ref c } }
noncomputable abbrev en (P : Params) (k : Str) (i : Nat) (v : Value) : DictEntry := { hash := PyData.keyHash P k, key := .str k i, val := v }
/-- what the walk reads of the heap behind the top -/
noncomputable def K39 : Params → Frag := fun P => [
  (2, { cls := .none, data := .dict #[en P "type.__subclasses__.Exception.0" 205 (.int 24 0), en P "type.__subclasses__.Exception.n" 206 (.int 1 0)] 2 }),
  (3, { cls := .type "dict", data := .dict #[en P "__name__" 165 (.str "law_nn0023_01" 498), en P "__doc__" 166 (.none), en P "__package__" 167 (.none), en P "__loader__" 168 (.builtin "__main__.__loader__#opaque"), en P "__spec__" 169 (.none), en P "__annotations__" 170 (.ref 6), en P "__builtins__" 171 (.ref 4), en P "__file__" 173 (.str "/claim/cut.py" 172), en P "__cached__" 174 (.none), en P "GmpError" 208 (.ref 24), en P "OutOfRange" 224 (.ref 37), en P "normal" 232 (.ref 46), en P "nat_of" 242 (.ref 53), en P "compare" 251 (.ref 60), en P "add" 264 (.ref 67), en P "sub" 278 (.ref 74), en P "Rests" 372 (.ref 133), en P "doubled" 385 (.ref 144), en P "joined_points" 397 (.ref 151), en P "times_point" 411 (.ref 158), en P "suyama" 425 (.ref 165), en P "primes_up_to" 431 (.ref 170), en P "first_stage" 443 (.ref 177), en P "crossing" 452 (.ref 184), en P "second_stage_product" 458 (.ref 189), en P "is_proper_part" 466 (.ref 196), en P "by_curve" 480 (.ref 203), en P "by_curves" 497 (.ref 210), en P "_law_take" 507 (.ref 217), en P "_law_row" 516 (.ref 224), en P "_law_of" 526 (.ref 231), en P "_law_primes" 532 (.ref 238), en P "_law_times" 541 (.ref 245), en P "_law_parts" 552 (.ref 252), en P "_law_share" 561 (.ref 259), en P "_law_sum" 575 (.ref 266), en P "_law_multiple" 586 (.ref 273), en P "_law_curve" 598 (.ref 280), en P "_law_same" 610 (.ref 287), en P "_law_second_right" 616 (.ref 292), en P "_law_stage" 622 (.ref 297), en P "law" 628 (.ref 302)] 42 }),
  (15, { cls := .type "tuple", data := .seq #[.type "Exception"] }),
  (22, { cls := .type "tuple", data := .seq #[] }),
  (23, { cls := .type "dict", data := .dict #[en P "__module__" 196 (.str "gmp.limbs" 187), en P "__firstlineno__" 200 (.int 2 199), en P "__static_attributes__" 201 (.ref 22), en P "__weakref__" 203 (.ref 25), en P "__doc__" 204 (.none)] 3 }),
  (24, { cls := .type "type", data := .cls { name := "GmpError", bases := [.type "Exception"], mro := [.ref 24, .type "Exception", .type "BaseException", .type "object"], ns := 23, qualname := "GmpError", subclasses := [.ref 37] }, slots := #[some (.ref 15), none, some (.str "GmpError" 189), some (.str "GmpError" 197), some (.builtin "Exception.__new__"), some (.bool true)] }),
  (25, { cls := .type "getset_descriptor", data := .fields #[.str "__weakref__" 202, .ref 24, .builtin "ExceptionGroup.__weakref__", .none] }),
  (28, { cls := .type "tuple", data := .seq #[.ref 24] }),
  (35, { cls := .type "tuple", data := .seq #[] }),
  (36, { cls := .type "dict", data := .dict #[en P "__module__" 216 (.str "gmp.limbs" 187), en P "__firstlineno__" 220 (.int 4 219), en P "__static_attributes__" 221 (.ref 35), en P "__doc__" 222 (.none)] 2 }),
  (37, { cls := .type "type", data := .cls { name := "OutOfRange", bases := [.ref 24], mro := [.ref 37, .ref 24, .type "Exception", .type "BaseException", .type "object"], ns := 36, qualname := "OutOfRange" }, slots := #[some (.ref 28), none, some (.str "OutOfRange" 209), some (.str "OutOfRange" 217), some (.builtin "Exception.__new__"), some (.bool true)] }),
  (40, { cls := .type "tuple", data := .seq #[] }),
  (42, { cls := .type "tuple", data := .seq #[.str "a" 228, .str "end" 229] }),
  (43, { cls := .type "tuple", data := .seq #[] }),
  (45, { cls := .type "code", data := .fields #[.str "normal" 225, .str "normal" 226, .str "/claim/cut.py" 227, .int 6 0, .int 1 0, .int 0 0, .int 0 0, .int 3 0, .ref 40, .bool true, .int 181 0, .ref 41, .none, .ref 42, .ref 43, .ref 44, .int 230 0, .int 6 0, .str "/claim/cut.py" 231] }),
  (46, fo (stm 3) "normal" "normal" "gmp.limbs" 187 45),
  (47, { cls := .type "tuple", data := .seq #[] }),
  (49, { cls := .type "tuple", data := .seq #[.str "number" 236, .str "w" 237, .str "found" 238, .str "mask" 239] }),
  (50, { cls := .type "tuple", data := .seq #[] }),
  (52, { cls := .type "code", data := .fields #[.str "nat_of" 233, .str "nat_of" 234, .str "/claim/cut.py" 235, .int 11 0, .int 2 0, .int 0 0, .int 0 0, .int 3 0, .ref 47, .bool true, .int 181 0, .ref 48, .none, .ref 49, .ref 50, .ref 51, .int 240 0, .int 11 0, .str "/claim/cut.py" 241] }),
  (53, fo (stm 4) "nat_of" "nat_of" "gmp.limbs" 187 52),
  (54, { cls := .type "tuple", data := .seq #[] }),
  (56, { cls := .type "tuple", data := .seq #[.str "a" 246, .str "b" 247, .str "at" 248] }),
  (57, { cls := .type "tuple", data := .seq #[] }),
  (59, { cls := .type "code", data := .fields #[.str "compare" 243, .str "compare" 244, .str "/claim/cut.py" 245, .int 19 0, .int 2 0, .int 0 0, .int 0 0, .int 3 0, .ref 54, .bool true, .int 181 0, .ref 55, .none, .ref 56, .ref 57, .ref 58, .int 249 0, .int 19 0, .str "/claim/cut.py" 250] }),
  (60, fo (stm 5) "compare" "compare" "gmp.limbs" 187 59),
  (61, { cls := .type "tuple", data := .seq #[] }),
  (63, { cls := .type "tuple", data := .seq #[.str "a" 255, .str "b" 256, .str "w" 257, .str "found" 258, .str "carry" 259, .str "mask" 260, .str "at" 261] }),
  (64, { cls := .type "tuple", data := .seq #[] }),
  (66, { cls := .type "code", data := .fields #[.str "add" 252, .str "add" 253, .str "/claim/cut.py" 254, .int 26 0, .int 3 0, .int 0 0, .int 0 0, .int 3 0, .ref 61, .bool true, .int 181 0, .ref 62, .none, .ref 63, .ref 64, .ref 65, .int 262 0, .int 26 0, .str "/claim/cut.py" 263] }),
  (67, fo (stm 6) "add" "add" "gmp.limbs" 187 66),
  (68, { cls := .type "tuple", data := .seq #[] }),
  (70, { cls := .type "tuple", data := .seq #[.str "a" 268, .str "b" 269, .str "w" 270, .str "found" 271, .str "borrow" 272, .str "base" 273, .str "at" 274, .str "limb" 275] }),
  (71, { cls := .type "tuple", data := .seq #[] }),
  (73, { cls := .type "code", data := .fields #[.str "sub" 265, .str "sub" 266, .str "/claim/cut.py" 267, .int 41 0, .int 3 0, .int 0 0, .int 0 0, .int 3 0, .ref 68, .bool true, .int 181 0, .ref 69, .none, .ref 70, .ref 71, .ref 72, .int 276 0, .int 41 0, .str "/claim/cut.py" 277] }),
  (74, fo (stm 7) "sub" "sub" "gmp.limbs" 187 73),
  (82, { cls := .type "tuple", data := .seq #[] }),
  (84, { cls := .type "tuple", data := .seq #[.str "self" 296, .str "n" 297, .str "w" 298, .str "times" 299, .str "quot_rem" 300] }),
  (85, { cls := .type "tuple", data := .seq #[] }),
  (87, { cls := .type "code", data := .fields #[.str "__init__" 293, .str "Rests.__init__" 294, .str "/claim/cut.py" 295, .int 53 0, .int 5 0, .int 0 0, .int 0 0, .int 3 0, .ref 82, .bool true, .int 181 0, .ref 83, .none, .ref 84, .ref 85, .ref 86, .int 301 0, .int 53 0, .str "/claim/cut.py" 302] }),
  (88, fo (mth 9 0) "__init__" "Rests.__init__" "gmp.curves" 279 87),
  (89, { cls := .type "tuple", data := .seq #[] }),
  (91, { cls := .type "tuple", data := .seq #[.str "self" 307, .str "number" 308, .str "parts" 309] }),
  (92, { cls := .type "tuple", data := .seq #[] }),
  (94, { cls := .type "code", data := .fields #[.str "plain" 304, .str "Rests.plain" 305, .str "/claim/cut.py" 306, .int 59 0, .int 2 0, .int 0 0, .int 0 0, .int 3 0, .ref 89, .bool true, .int 181 0, .ref 90, .none, .ref 91, .ref 92, .ref 93, .int 310 0, .int 59 0, .str "/claim/cut.py" 311] }),
  (95, fo (mth 9 1) "plain" "Rests.plain" "gmp.curves" 279 94),
  (96, { cls := .type "tuple", data := .seq #[] }),
  (98, { cls := .type "tuple", data := .seq #[.str "self" 316, .str "a" 317, .str "b" 318, .str "found" 319] }),
  (99, { cls := .type "tuple", data := .seq #[] }),
  (101, { cls := .type "code", data := .fields #[.str "plus" 313, .str "Rests.plus" 314, .str "/claim/cut.py" 315, .int 63 0, .int 3 0, .int 0 0, .int 0 0, .int 3 0, .ref 96, .bool true, .int 181 0, .ref 97, .none, .ref 98, .ref 99, .ref 100, .int 320 0, .int 63 0, .str "/claim/cut.py" 321] }),
  (102, fo (mth 9 2) "plus" "Rests.plus" "gmp.curves" 279 101),
  (103, { cls := .type "tuple", data := .seq #[] }),
  (105, { cls := .type "tuple", data := .seq #[.str "self" 326, .str "a" 327, .str "b" 328] }),
  (106, { cls := .type "tuple", data := .seq #[] }),
  (108, { cls := .type "code", data := .fields #[.str "minus" 323, .str "Rests.minus" 324, .str "/claim/cut.py" 325, .int 67 0, .int 3 0, .int 0 0, .int 0 0, .int 3 0, .ref 103, .bool true, .int 181 0, .ref 104, .none, .ref 105, .ref 106, .ref 107, .int 329 0, .int 67 0, .str "/claim/cut.py" 330] }),
  (109, fo (mth 9 3) "minus" "Rests.minus" "gmp.curves" 279 108),
  (110, { cls := .type "tuple", data := .seq #[] }),
  (112, { cls := .type "tuple", data := .seq #[.str "self" 335, .str "a" 336, .str "b" 337, .str "product" 338, .str "parts" 339] }),
  (113, { cls := .type "tuple", data := .seq #[] }),
  (115, { cls := .type "code", data := .fields #[.str "product" 332, .str "Rests.product" 333, .str "/claim/cut.py" 334, .int 72 0, .int 3 0, .int 0 0, .int 0 0, .int 3 0, .ref 110, .bool true, .int 181 0, .ref 111, .none, .ref 112, .ref 113, .ref 114, .int 340 0, .int 72 0, .str "/claim/cut.py" 341] }),
  (116, fo (mth 9 4) "product" "Rests.product" "gmp.curves" 279 115),
  (117, { cls := .type "tuple", data := .seq #[] }),
  (119, { cls := .type "tuple", data := .seq #[.str "self" 346, .str "a" 347] }),
  (120, { cls := .type "tuple", data := .seq #[] }),
  (122, { cls := .type "code", data := .fields #[.str "squared" 343, .str "Rests.squared" 344, .str "/claim/cut.py" 345, .int 76 0, .int 2 0, .int 0 0, .int 0 0, .int 3 0, .ref 117, .bool true, .int 181 0, .ref 118, .none, .ref 119, .ref 120, .ref 121, .int 348 0, .int 76 0, .str "/claim/cut.py" 349] }),
  (123, fo (mth 9 5) "squared" "Rests.squared" "gmp.curves" 279 122),
  (124, { cls := .type "tuple", data := .seq #[] }),
  (126, { cls := .type "tuple", data := .seq #[.str "self" 354, .str "a" 355, .str "parts" 356, .str "b" 357] }),
  (127, { cls := .type "tuple", data := .seq #[] }),
  (129, { cls := .type "code", data := .fields #[.str "common_with" 351, .str "Rests.common_with" 352, .str "/claim/cut.py" 353, .int 79 0, .int 2 0, .int 0 0, .int 0 0, .int 3 0, .ref 124, .bool true, .int 181 0, .ref 125, .none, .ref 126, .ref 127, .ref 128, .int 358 0, .int 79 0, .str "/claim/cut.py" 359] }),
  (130, fo (mth 9 6) "common_with" "Rests.common_with" "gmp.curves" 279 129),
  (131, { cls := .type "tuple", data := .seq #[.str "given_parts" 361, .str "given_product" 362, .str "n" 363, .str "w" 364] }),
  (132, { cls := .type "dict", data := .dict #[en P "__module__" 288 (.str "gmp.curves" 279), en P "__firstlineno__" 292 (.int 51 291), en P "__init__" 303 (.ref 88), en P "plain" 312 (.ref 95), en P "plus" 322 (.ref 102), en P "minus" 331 (.ref 109), en P "product" 342 (.ref 116), en P "squared" 350 (.ref 123), en P "common_with" 360 (.ref 130), en P "__static_attributes__" 365 (.ref 131), en P "__dict__" 367 (.ref 134), en P "__weakref__" 369 (.ref 135), en P "__doc__" 370 (.none)] 4 }),
  (133, { cls := .type "type", data := .cls { name := "Rests", bases := [.type "object"], mro := [.ref 133, .type "object"], ns := 132, qualname := "Rests" }, slots := #[none, none, some (.str "Rests" 281), some (.str "Rests" 289), some (.builtin "object.__new__"), some (.bool true)] }),
  (134, { cls := .type "getset_descriptor", data := .fields #[.str "__dict__" 366, .ref 133, .builtin "function.__dict__", .builtin "function.__dict__#set"] }),
  (135, { cls := .type "getset_descriptor", data := .fields #[.str "__weakref__" 368, .ref 133, .builtin "ExceptionGroup.__weakref__", .none] }),
  (138, { cls := .type "tuple", data := .seq #[] }),
  (140, { cls := .type "tuple", data := .seq #[.str "point" 376, .str "curve" 377, .str "rests" 378, .str "up" 379, .str "down" 380, .str "gap" 381, .str "low" 382] }),
  (141, { cls := .type "tuple", data := .seq #[] }),
  (143, { cls := .type "code", data := .fields #[.str "doubled" 373, .str "doubled" 374, .str "/claim/cut.py" 375, .int 84 0, .int 3 0, .int 0 0, .int 0 0, .int 3 0, .ref 138, .bool true, .int 181 0, .ref 139, .none, .ref 140, .ref 141, .ref 142, .int 383 0, .int 84 0, .str "/claim/cut.py" 384] }),
  (144, fo (stm 10) "doubled" "doubled" "gmp.curves" 279 143),
  (145, { cls := .type "tuple", data := .seq #[] }),
  (147, { cls := .type "tuple", data := .seq #[.str "one" 389, .str "other" 390, .str "apart" 391, .str "rests" 392, .str "left" 393, .str "right" 394] }),
  (148, { cls := .type "tuple", data := .seq #[] }),
  (150, { cls := .type "code", data := .fields #[.str "joined_points" 386, .str "joined_points" 387, .str "/claim/cut.py" 388, .int 90 0, .int 4 0, .int 0 0, .int 0 0, .int 3 0, .ref 145, .bool true, .int 181 0, .ref 146, .none, .ref 147, .ref 148, .ref 149, .int 395 0, .int 90 0, .str "/claim/cut.py" 396] }),
  (151, fo (stm 11) "joined_points" "joined_points" "gmp.curves" 279 150),
  (152, { cls := .type "tuple", data := .seq #[] }),
  (154, { cls := .type "tuple", data := .seq #[.str "k" 401, .str "point" 402, .str "curve" 403, .str "rests" 404, .str "low" 405, .str "high" 406, .str "place" 407, .str "middle" 408] }),
  (155, { cls := .type "tuple", data := .seq #[] }),
  (157, { cls := .type "code", data := .fields #[.str "times_point" 398, .str "times_point" 399, .str "/claim/cut.py" 400, .int 94 0, .int 4 0, .int 0 0, .int 0 0, .int 3 0, .ref 152, .bool true, .int 181 0, .ref 153, .none, .ref 154, .ref 155, .ref 156, .int 409 0, .int 94 0, .str "/claim/cut.py" 410] }),
  (158, fo (stm 12) "times_point" "times_point" "gmp.curves" 279 157),
  (159, { cls := .type "tuple", data := .seq #[] }),
  (161, { cls := .type "tuple", data := .seq #[.str "sigma" 415, .str "rests" 416, .str "u" 417, .str "v" 418, .str "cube_u" 419, .str "gap" 420, .str "top" 421, .str "bottom" 422] }),
  (162, { cls := .type "tuple", data := .seq #[] }),
  (164, { cls := .type "code", data := .fields #[.str "suyama" 412, .str "suyama" 413, .str "/claim/cut.py" 414, .int 103 0, .int 2 0, .int 0 0, .int 0 0, .int 3 0, .ref 159, .bool true, .int 181 0, .ref 160, .none, .ref 161, .ref 162, .ref 163, .int 423 0, .int 103 0, .str "/claim/cut.py" 424] }),
  (165, fo (stm 13) "suyama" "suyama" "gmp.curves" 279 164),
  (166, { cls := .type "tuple", data := .seq #[] }),
  (169, { cls := .type "code", data := .fields #[.str "primes_up_to" 426, .str "primes_up_to" 427, .str "/claim/cut.py" 428, .int 110 0, .int 1 0, .int 0 0, .int 0 0, .int 3 0, .ref 166, .bool true, .int 181 0, .ref 167, .none, .none, .none, .ref 168, .int 429 0, .int 110 0, .str "/claim/cut.py" 430] }),
  (170, fo (stm 14) "primes_up_to" "primes_up_to" "gmp.curves" 279 169),
  (171, { cls := .type "tuple", data := .seq #[] }),
  (173, { cls := .type "tuple", data := .seq #[.str "point" 435, .str "curve" 436, .str "first" 437, .str "rests" 438, .str "p" 439, .str "most" 440] }),
  (174, { cls := .type "tuple", data := .seq #[] }),
  (176, { cls := .type "code", data := .fields #[.str "first_stage" 432, .str "first_stage" 433, .str "/claim/cut.py" 434, .int 116 0, .int 4 0, .int 0 0, .int 0 0, .int 3 0, .ref 171, .bool true, .int 181 0, .ref 172, .none, .ref 173, .ref 174, .ref 175, .int 441 0, .int 116 0, .str "/claim/cut.py" 442] }),
  (177, fo (stm 15) "first_stage" "first_stage" "gmp.curves" 279 176),
  (178, { cls := .type "tuple", data := .seq #[] }),
  (180, { cls := .type "tuple", data := .seq #[.str "one" 447, .str "other" 448, .str "rests" 449] }),
  (181, { cls := .type "tuple", data := .seq #[] }),
  (183, { cls := .type "code", data := .fields #[.str "crossing" 444, .str "crossing" 445, .str "/claim/cut.py" 446, .int 123 0, .int 3 0, .int 0 0, .int 0 0, .int 3 0, .ref 178, .bool true, .int 181 0, .ref 179, .none, .ref 180, .ref 181, .ref 182, .int 450 0, .int 123 0, .str "/claim/cut.py" 451] }),
  (184, fo (stm 16) "crossing" "crossing" "gmp.curves" 279 183),
  (185, { cls := .type "tuple", data := .seq #[] }),
  (188, { cls := .type "code", data := .fields #[.str "second_stage_product" 453, .str "second_stage_product" 454, .str "/claim/cut.py" 455, .int 125 0, .int 6 0, .int 0 0, .int 0 0, .int 3 0, .ref 185, .bool true, .int 181 0, .ref 186, .none, .none, .none, .ref 187, .int 456 0, .int 125 0, .str "/claim/cut.py" 457] }),
  (189, fo (stm 17) "second_stage_product" "second_stage_product" "gmp.curves" 279 188),
  (190, { cls := .type "tuple", data := .seq #[] }),
  (192, { cls := .type "tuple", data := .seq #[.str "g" 462, .str "n" 463] }),
  (193, { cls := .type "tuple", data := .seq #[] }),
  (195, { cls := .type "code", data := .fields #[.str "is_proper_part" 459, .str "is_proper_part" 460, .str "/claim/cut.py" 461, .int 142 0, .int 2 0, .int 0 0, .int 0 0, .int 3 0, .ref 190, .bool true, .int 181 0, .ref 191, .none, .ref 192, .ref 193, .ref 194, .int 464 0, .int 142 0, .str "/claim/cut.py" 465] }),
  (196, fo (stm 18) "is_proper_part" "is_proper_part" "gmp.curves" 279 195),
  (197, { cls := .type "tuple", data := .seq #[] }),
  (199, { cls := .type "tuple", data := .seq #[.str "sigma" 470, .str "first" 471, .str "second" 472, .str "width" 473, .str "rests" 474, .str "curve" 475, .str "point" 476, .str "found" 477] }),
  (200, { cls := .type "tuple", data := .seq #[] }),
  (202, { cls := .type "code", data := .fields #[.str "by_curve" 467, .str "by_curve" 468, .str "/claim/cut.py" 469, .int 144 0, .int 5 0, .int 0 0, .int 0 0, .int 3 0, .ref 197, .bool true, .int 181 0, .ref 198, .none, .ref 199, .ref 200, .ref 201, .int 478 0, .int 144 0, .str "/claim/cut.py" 479] }),
  (203, fo (stm 19) "by_curve" "by_curve" "gmp.curves" 279 202),
  (204, { cls := .type "tuple", data := .seq #[] }),
  (206, { cls := .type "tuple", data := .seq #[.str "n" 484, .str "sigmas" 485, .str "first" 486, .str "second" 487, .str "width" 488, .str "w" 489, .str "times" 490, .str "quot_rem" 491, .str "rests" 492, .str "sigma" 493, .str "found" 494] }),
  (207, { cls := .type "tuple", data := .seq #[] }),
  (209, { cls := .type "code", data := .fields #[.str "by_curves" 481, .str "by_curves" 482, .str "/claim/cut.py" 483, .int 154 0, .int 8 0, .int 0 0, .int 0 0, .int 3 0, .ref 204, .bool true, .int 181 0, .ref 205, .none, .ref 206, .ref 207, .ref 208, .int 495 0, .int 154 0, .str "/claim/cut.py" 496] }),
  (210, fo (stm 20) "by_curves" "by_curves" "gmp.curves" 279 209),
  (211, { cls := .type "tuple", data := .seq #[] }),
  (213, { cls := .type "tuple", data := .seq #[.str "box" 503, .str "limit" 504] }),
  (214, { cls := .type "tuple", data := .seq #[] }),
  (216, { cls := .type "code", data := .fields #[.str "_law_take" 500, .str "_law_take" 501, .str "/claim/cut.py" 502, .int 162 0, .int 2 0, .int 0 0, .int 0 0, .int 3 0, .ref 211, .bool true, .int 181 0, .ref 212, .none, .ref 213, .ref 214, .ref 215, .int 505 0, .int 162 0, .str "/claim/cut.py" 506] }),
  (217, fo (stm 22) "_law_take" "_law_take" "law_nn0023_01" 498 216),
  (218, { cls := .type "tuple", data := .seq #[] }),
  (220, { cls := .type "tuple", data := .seq #[.str "number" 511, .str "w" 512, .str "found" 513] }),
  (221, { cls := .type "tuple", data := .seq #[] }),
  (223, { cls := .type "code", data := .fields #[.str "_law_row" 508, .str "_law_row" 509, .str "/claim/cut.py" 510, .int 167 0, .int 2 0, .int 0 0, .int 0 0, .int 3 0, .ref 218, .bool true, .int 181 0, .ref 219, .none, .ref 220, .ref 221, .ref 222, .int 514 0, .int 167 0, .str "/claim/cut.py" 515] }),
  (224, fo (stm 23) "_law_row" "_law_row" "law_nn0023_01" 498 223),
  (225, { cls := .type "tuple", data := .seq #[] }),
  (227, { cls := .type "tuple", data := .seq #[.str "row" 520, .str "w" 521, .str "found" 522, .str "limb" 523] }),
  (228, { cls := .type "tuple", data := .seq #[] }),
  (230, { cls := .type "code", data := .fields #[.str "_law_of" 517, .str "_law_of" 518, .str "/claim/cut.py" 519, .int 173 0, .int 2 0, .int 0 0, .int 0 0, .int 3 0, .ref 225, .bool true, .int 181 0, .ref 226, .none, .ref 227, .ref 228, .ref 229, .int 524 0, .int 173 0, .str "/claim/cut.py" 525] }),
  (231, fo (stm 24) "_law_of" "_law_of" "law_nn0023_01" 498 230),
  (232, { cls := .type "tuple", data := .seq #[] }),
  (234, { cls := .type "tuple", data := .seq #[] }),
  (235, { cls := .type "tuple", data := .seq #[] }),
  (237, { cls := .type "code", data := .fields #[.str "_law_primes" 527, .str "_law_primes" 528, .str "/claim/cut.py" 529, .int 178 0, .int 0 0, .int 0 0, .int 0 0, .int 3 0, .ref 232, .bool true, .int 181 0, .ref 233, .none, .ref 234, .ref 235, .ref 236, .int 530 0, .int 178 0, .str "/claim/cut.py" 531] }),
  (238, fo (stm 25) "_law_primes" "_law_primes" "law_nn0023_01" 498 237),
  (239, { cls := .type "tuple", data := .seq #[] }),
  (241, { cls := .type "tuple", data := .seq #[.str "a" 536, .str "b" 537, .str "w" 538] }),
  (242, { cls := .type "tuple", data := .seq #[] }),
  (244, { cls := .type "code", data := .fields #[.str "_law_times" 533, .str "_law_times" 534, .str "/claim/cut.py" 535, .int 180 0, .int 3 0, .int 0 0, .int 0 0, .int 3 0, .ref 239, .bool true, .int 181 0, .ref 240, .none, .ref 241, .ref 242, .ref 243, .int 539 0, .int 180 0, .str "/claim/cut.py" 540] }),
  (245, fo (stm 26) "_law_times" "_law_times" "law_nn0023_01" 498 244),
  (246, { cls := .type "tuple", data := .seq #[] }),
  (248, { cls := .type "tuple", data := .seq #[.str "a" 545, .str "b" 546, .str "w" 547, .str "one" 548, .str "other" 549] }),
  (249, { cls := .type "tuple", data := .seq #[] }),
  (251, { cls := .type "code", data := .fields #[.str "_law_parts" 542, .str "_law_parts" 543, .str "/claim/cut.py" 544, .int 182 0, .int 3 0, .int 0 0, .int 0 0, .int 3 0, .ref 246, .bool true, .int 181 0, .ref 247, .none, .ref 248, .ref 249, .ref 250, .int 550 0, .int 182 0, .str "/claim/cut.py" 551] }),
  (252, fo (stm 27) "_law_parts" "_law_parts" "law_nn0023_01" 498 251),
  (253, { cls := .type "tuple", data := .seq #[] }),
  (255, { cls := .type "tuple", data := .seq #[.str "top" 556, .str "bottom" 557, .str "r" 558] }),
  (256, { cls := .type "tuple", data := .seq #[] }),
  (258, { cls := .type "code", data := .fields #[.str "_law_share" 553, .str "_law_share" 554, .str "/claim/cut.py" 555, .int 185 0, .int 3 0, .int 0 0, .int 0 0, .int 3 0, .ref 253, .bool true, .int 181 0, .ref 254, .none, .ref 255, .ref 256, .ref 257, .int 559 0, .int 185 0, .str "/claim/cut.py" 560] }),
  (259, fo (stm 28) "_law_share" "_law_share" "law_nn0023_01" 498 258),
  (260, { cls := .type "tuple", data := .seq #[] }),
  (262, { cls := .type "tuple", data := .seq #[.str "one" 565, .str "other" 566, .str "curve" 567, .str "a" 568, .str "b" 569, .str "r" 570, .str "rise" 571, .str "x" 572] }),
  (263, { cls := .type "tuple", data := .seq #[] }),
  (265, { cls := .type "code", data := .fields #[.str "_law_sum" 562, .str "_law_sum" 563, .str "/claim/cut.py" 564, .int 187 0, .int 3 0, .int 0 0, .int 0 0, .int 3 0, .ref 260, .bool true, .int 181 0, .ref 261, .none, .ref 262, .ref 263, .ref 264, .int 573 0, .int 187 0, .str "/claim/cut.py" 574] }),
  (266, fo (stm 29) "_law_sum" "_law_sum" "law_nn0023_01" 498 265),
  (267, { cls := .type "tuple", data := .seq #[] }),
  (269, { cls := .type "tuple", data := .seq #[.str "k" 579, .str "point" 580, .str "curve" 581, .str "found" 582, .str "turn" 583] }),
  (270, { cls := .type "tuple", data := .seq #[] }),
  (272, { cls := .type "code", data := .fields #[.str "_law_multiple" 576, .str "_law_multiple" 577, .str "/claim/cut.py" 578, .int 199 0, .int 3 0, .int 0 0, .int 0 0, .int 3 0, .ref 267, .bool true, .int 181 0, .ref 268, .none, .ref 269, .ref 270, .ref 271, .int 584 0, .int 199 0, .str "/claim/cut.py" 585] }),
  (273, fo (stm 30) "_law_multiple" "_law_multiple" "law_nn0023_01" 498 272),
  (274, { cls := .type "tuple", data := .seq #[] }),
  (276, { cls := .type "tuple", data := .seq #[.str "box" 590, .str "r" 591, .str "a" 592, .str "x" 593, .str "y" 594, .str "b" 595] }),
  (277, { cls := .type "tuple", data := .seq #[] }),
  (279, { cls := .type "code", data := .fields #[.str "_law_curve" 587, .str "_law_curve" 588, .str "/claim/cut.py" 589, .int 204 0, .int 2 0, .int 0 0, .int 0 0, .int 3 0, .ref 274, .bool true, .int 181 0, .ref 275, .none, .ref 276, .ref 277, .ref 278, .int 596 0, .int 204 0, .str "/claim/cut.py" 597] }),
  (280, fo (stm 31) "_law_curve" "_law_curve" "law_nn0023_01" 498 279),
  (281, { cls := .type "tuple", data := .seq #[] }),
  (283, { cls := .type "tuple", data := .seq #[.str "told" 602, .str "point" 603, .str "w" 604, .str "r" 605, .str "above" 606, .str "below" 607] }),
  (284, { cls := .type "tuple", data := .seq #[] }),
  (286, { cls := .type "code", data := .fields #[.str "_law_same" 599, .str "_law_same" 600, .str "/claim/cut.py" 601, .int 208 0, .int 4 0, .int 0 0, .int 0 0, .int 3 0, .ref 281, .bool true, .int 181 0, .ref 282, .none, .ref 283, .ref 284, .ref 285, .int 608 0, .int 208 0, .str "/claim/cut.py" 609] }),
  (287, fo (stm 32) "_law_same" "_law_same" "law_nn0023_01" 498 286),
  (288, { cls := .type "tuple", data := .seq #[] }),
  (291, { cls := .type "code", data := .fields #[.str "_law_second_right" 611, .str "_law_second_right" 612, .str "/claim/cut.py" 613, .int 213 0, .int 6 0, .int 0 0, .int 0 0, .int 3 0, .ref 288, .bool true, .int 181 0, .ref 289, .none, .none, .none, .ref 290, .int 614 0, .int 213 0, .str "/claim/cut.py" 615] }),
  (292, fo (stm 33) "_law_second_right" "_law_second_right" "law_nn0023_01" 498 291),
  (293, { cls := .type "tuple", data := .seq #[] }),
  (296, { cls := .type "code", data := .fields #[.str "_law_stage" 617, .str "_law_stage" 618, .str "/claim/cut.py" 619, .int 227 0, .int 3 0, .int 0 0, .int 0 0, .int 3 0, .ref 293, .bool true, .int 181 0, .ref 294, .none, .none, .none, .ref 295, .int 620 0, .int 227 0, .str "/claim/cut.py" 621] }),
  (297, fo (stm 34) "_law_stage" "_law_stage" "law_nn0023_01" 498 296),
  (298, { cls := .type "tuple", data := .seq #[] }),
  (301, { cls := .type "code", data := .fields #[.str "law" 623, .str "law" 624, .str "/claim/cut.py" 625, .int 247 0, .int 1 0, .int 0 0, .int 0 0, .int 3 0, .ref 298, .bool true, .int 181 0, .ref 299, .none, .none, .none, .ref 300, .int 626 0, .int 247 0, .str "/claim/cut.py" 627] }),
  (302, fo (stm 35) "law" "law" "law_nn0023_01" 498 301)]
end Mine
namespace Mine
open PySem PySem.W PyProof.Rows
local macro_rules | `(tactic| walk_at "my lk") => `(tactic| first | with_reducible exact lookup_eq | exact lookup_ne (by decide) (by walk_at "my lk"))
local macro_rules | `(tactic| walk_at "my set") => `(tactic| first | with_reducible exact SetTo.here | exact SetTo.nil | exact SetTo.there (by decide) (by walk_at "my set"))
local macro_rules | `(tactic| walk_at "my sets") => `(tactic| first | exact SetsTo.nil | exact SetsTo.cons (by walk_at "my set") (by walk_at "my sets"))
local macro_rules | `(tactic| walk_at "my kd") => `(tactic| first | exact Or.inl rfl | exact Or.inr rfl)
local macro_rules | `(tactic| walk_at "my kds") => `(tactic| decide)
local macro_rules | `(tactic| walk_at "my k") => `(tactic| first | exact nsIn_of (by assumption) (by exact rfl) | exact keepIn_of (by assumption) (by exact rfl) | exact findIn_of (by assumption) (by exact rfl) | exact isFn_of (by assumption) (by exact rfl) | exact codeIn_of (by assumption) (by exact rfl) | exact look_of (by assumption) (by exact rfl))
local macro_rules | `(tactic| walk_at "my he") => `(tactic| (intro _; exact rfl))
local macro_rules | `(tactic| walk_at "my rsets") => `(tactic| ((try simp only [List.reverse_cons, List.reverse_nil, List.nil_append, List.cons_append, List.zip_cons_cons, List.zip_nil_right, List.zip_nil_left]); walk_at "my sets"))
local macro_rules | `(tactic| walk_at "my sub") => `(tactic| first | exact SubEnv.nil | exact SubEnv.cons (by walk_at "my lk") (by walk_at "my sub"))
local macro_rules | `(tactic| walk_at "my enter") => `(tactic| (
  (case hl => walk_at "my k")
  (case hc => walk_at "my k")
  (case hx => decide)
  (case hlen => exact rfl)
  (case hnd => decide)
  (case hk => exact rfl)
  (case hco => exact rfl)
  (case hgen => exact rfl)
  (case hr => exact rfl)))
section
variable {B : Bg} {bx : Bx} {n : Nat} {st : BSt}

noncomputable abbrev nInt (k : Nat) : T := .int (k : Int)
/-- a row of limbs -/
noncomputable abbrev rowT (ds : List Nat) : T := .list (ds.map nInt)

theorem strip_prefix : ∀ l : List Nat, l.take (strip l).length = strip l
  | [] => rfl
  | d :: l => by
    have ih := strip_prefix l
    rw [strip]
    split
    · split <;> simp_all
    · simp [ih]
theorem strip_le : ∀ l : List Nat, (strip l).length ≤ l.length := fun l => by
  have := congrArg List.length (strip_prefix l)
  rw [List.length_take] at this
  omega

theorem calls_normal (hK : B.K = K39 B.w.params) {ds : List Nat} (hz : ds.length ≤ 1000) : Calls B bx 1 46 [rowT ds] st (rowT (strip ds)) st := by
  refine' calls_of ["a"] [("a", .sh (rowT ds))] ?hl ?hc ?hb ?hx ?hlen ?hnd ?hk ?hco ?hgen ?hr ?h
  case hl => walk_at "my k"
  case hc => walk_at "my k"
  case hb => exact all1 fun _ => rfl
  case hx => decide
  case hlen => rfl
  case hnd => decide
  case hk => rfl
  case hco => rfl
  case hgen => rfl
  case hr => rfl
  refine Exs.cons (ρ' := [("a", .sh (rowT ds)), ("end", .sh (nInt ds.length))]) (Ex1.assign (Ev.cast (t' := nInt ds.length) (Ev.len (Ev.name (by walk_at "my lk")) rfl (by walk_at "my k") (by simp <;> omega)) (by simp)) (by walk_at "my kd") (by walk_at "my set")) ?_
  refine Exs.cons (ρ' := [("a", .sh (rowT ds)), ("end", .sh (nInt (strip ds).length))]) (Ex1.while_ (k := ds.length + 1) ?w) (Exs.ret (Ex1.ret (Ev.cast (Ev.upto (ts := ds.map nInt) (k := ((strip ds).length : Nat)) (Ev.name (by walk_at "my lk")) (Ev.name (by walk_at "my lk")) (by omega) (by simp [sizeLine]; omega)) ?e)))
  case e => simp [← List.map_take, strip_prefix]
  case w =>
    rw [show strip ds = strip (ds.take ds.length) by simp]
    refine WhileTo.rec_ (fun k => [("a", .sh (rowT ds)), ("end", .sh (nInt k))]) (fun k => .next [("a", .sh (rowT ds)), ("end", .sh (nInt (strip (ds.take k)).length))] st) ds.length fun k hk ih => ?_
    · cases k with
      | zero => exact WhileTo.stop (Tr.ops (Trs.and_false (Tr.cmp (Ev.name (by walk_at "my lk")) Ev.int (Cmp.cast Cmp.gt (by simp)))))
      | succ k =>
        have hlt : k < ds.length := by omega
        have htk : ds.take (k + 1) = ds.take k ++ [ds[k]] := by rw [List.take_add_one, List.getElem?_eq_getElem hlt]; rfl
        by_cases hd : ds[k] = 0
        · refine WhileTo.turn (ρ₁ := [("a", .sh (rowT ds)), ("end", .sh (nInt k))]) (st₁ := st) (Tr.ops (Trs.and_true (Tr.cmp (Ev.name (by walk_at "my lk")) Ev.int (Cmp.cast Cmp.gt (by simp <;> omega))) (Trs.and_true (Tr.cmp
            (Ev.item (t := nInt ds[k]) (ts := ds.map nInt) (k := ((k + 1 : Nat) : Int) - 1) (Ev.name (by walk_at "my lk")) (Ev.sub (Ev.name (by walk_at "my lk")) Ev.int) (by omega) (by simp [hlt]) (by simp <;> omega)) Ev.int (Cmp.cast Cmp.eq (by simp [hd]))) Trs.and_nil))) ?_ ?_
          · exact Exs.cons (Ex1.isub (by walk_at "my lk") Ev.int (by walk_at "my kd") (by rw [show ((k + 1 : Nat) : Int) - 1 = (k : Int) by omega]; walk_at "my set")) Exs.nil
          · have := ih k (by omega)
            rw [htk, hd, strip_snoc_zero]
            exact this
        · have ht : TopOk (ds.take (k + 1)) := by
            intro d e
            rw [htk, List.getLast?_concat] at e
            cases e
            exact hd
          rw [strip_of_top ht, show (ds.take (k + 1)).length = k + 1 by simp; omega]
          exact WhileTo.stop (Tr.ops (Trs.and_true (Tr.cmp (Ev.name (by walk_at "my lk")) Ev.int (Cmp.cast Cmp.gt (by simp <;> omega))) (Trs.and_false (Tr.cmp
            (Ev.item (t := nInt ds[k]) (ts := ds.map nInt) (k := ((k + 1 : Nat) : Int) - 1) (Ev.name (by walk_at "my lk")) (Ev.sub (Ev.name (by walk_at "my lk")) Ev.int) (by omega) (by simp [hlt]) (by simp <;> omega)) Ev.int (Cmp.cast Cmp.eq (by simp [hd]))))))
end
section
variable {B : Bg} {bx : Bx} {n : Nat} {st : BSt}

theorem bitAnd_mask (N w : Nat) : Builtin.bitAnd (N : Int) (1 * 2 ^ ((w : Nat) : Int).toNat - 1) = ((N % 2 ^ w : Nat) : Int) := by
  have hp : (0 : Int) < 2 ^ w := Int.pow_pos (by decide)
  have e : (1 * 2 ^ ((w : Nat) : Int).toNat - 1 : Int) = ((2 ^ w - 1 : Nat) : Int) := by
    rw [Int.toNat_natCast, Int.one_mul]
    have : 1 ≤ 2 ^ w := Nat.one_le_two_pow
    push_cast [this]
    omega
  rw [e, bitAnd_pp (by omega) (by omega), Int.toNat_natCast, Int.toNat_natCast, Nat.and_two_pow_sub_one_eq_mod]
theorem two_le_pow {w : Nat} (h : 1 ≤ w) : 2 ≤ 2 ^ w := by
  calc 2 = 2 ^ 1 := rfl
    _ ≤ 2 ^ w := Nat.pow_le_pow_right (by decide) h
theorem len_digits {w N : Nat} (hw : 1 ≤ w) (hN : N < 2 ^ 64) : (digits (2 ^ w) N).length ≤ 64 := by
  refine digits_length_lt (two_le_pow hw) (Nat.lt_of_lt_of_le hN ?_)
  rw [← Nat.pow_mul]
  exact Nat.pow_le_pow_right (by decide) (by omega)
theorem bits_one : (Builtin.Int.intBits 1 : Int) = 1 := by decide +kernel

theorem calls_nat_of (hK : B.K = K39 B.w.params) {N w : Nat} (hw : 1 ≤ w) (hw' : w ≤ 64) (hN : N < 2 ^ 64) : Calls B bx 1 53 [nInt N, nInt w] st (rowT (digits (2 ^ w) N)) st := by
  refine' calls_of ["number", "w"] [("number", .sh (nInt N)), ("w", .sh (nInt w))] ?hl ?hc ?hb ?hx ?hlen ?hnd ?hk ?hco ?hgen ?hr ?h
  case hl => walk_at "my k"
  case hc => walk_at "my k"
  case hb => exact all2 fun _ _ => rfl
  case hx => decide
  case hlen => rfl
  case hnd => decide
  case hk => rfl
  case hco => rfl
  case hgen => rfl
  case hr => rfl
  refine Exs.cons (Ex1.if_false (Tr.cmp (Ev.name (by walk_at "my lk")) Ev.int (Cmp.cast Cmp.lt (by simp))) Exs.nil) ?_
  refine Exs.cons (ρ' := [("number", .sh (nInt N)), ("w", .sh (nInt w)), ("mask", .sh (.int (1 * 2 ^ ((w : Nat) : Int).toNat - 1))), ("found", .own [])])
    (Ex1.assignOwn (x := "found") (ρ₁ := [("number", .sh (nInt N)), ("w", .sh (nInt w)), ("mask", .sh (.int (1 * 2 ^ ((w : Nat) : Int).toNat - 1)))]) (xs := ["mask"]) (ts := [.int (1 * 2 ^ ((w : Nat) : Int).toNat - 1)]) (Evs.cons (Ev.sub (Ev.shl Ev.int (Ev.name (by walk_at "my lk")) (by omega) (by rw [bits_one]; omega)) Ev.int) Evs.nil) rfl (by decide) (by decide) (by walk_at "my rsets") (by walk_at "my set") (hv := fun env e => by cases env; cases e; rfl)) ?_
  refine Exs.cons (ρ' := [("number", .sh (nInt 0)), ("w", .sh (nInt w)), ("mask", .sh (.int (1 * 2 ^ ((w : Nat) : Int).toNat - 1))), ("found", .own ((digits (2 ^ w) N).map nInt))])
    (Ex1.while_ (k := N + 1) ?w) (Exs.freeze (x := "found") (by walk_at "my lk") (by walk_at "my set") (Exs.ret (Ex1.ret (Ev.name (by walk_at "my lk")))))
  case w =>
    refine WhileTo.measP (fun p : Nat × List Nat => p.2.length + (digits (2 ^ w) p.1).length ≤ 64) (fun p : Nat × List Nat => p.1) (fun p => [("number", .sh (nInt p.1)), ("w", .sh (nInt w)), ("mask", .sh (.int (1 * 2 ^ ((w : Nat) : Int).toNat - 1))), ("found", .own (p.2.map nInt))])
      (fun p => .next [("number", .sh (nInt 0)), ("w", .sh (nInt w)), ("mask", .sh (.int (1 * 2 ^ ((w : Nat) : Int).toNat - 1))), ("found", .own ((p.2 ++ digits (2 ^ w) p.1).map nInt))] st) (fun p hp ih => ?_) (N, []) (by simpa using len_digits hw hN)
    obtain ⟨N', acc⟩ := p
    dsimp only at ih hp ⊢
    by_cases h0 : N' = 0
    · subst h0
      rw [digits_zero, List.append_nil]
      exact WhileTo.stop (Tr.cmp (Ev.name (by walk_at "my lk")) Ev.int (Cmp.cast Cmp.gt (by simp)))
    · have hd := digits_pos (two_le_pow hw) (Nat.pos_of_ne_zero h0)
      have hlt : N' / 2 ^ w < N' := Nat.div_lt_self (Nat.pos_of_ne_zero h0) (two_le_pow hw)
      rw [hd, List.length_cons] at hp
      have rest := ih (N' / 2 ^ w, acc ++ [N' % 2 ^ w]) (by simp; omega) hlt
      dsimp only at rest
      rw [List.append_assoc, List.singleton_append, ← hd] at rest
      refine WhileTo.turn (Tr.cmp (Ev.name (by walk_at "my lk")) Ev.int (Cmp.cast Cmp.gt (by simp; omega)))
        (Exs.cons (ρ' := [("number", .sh (nInt N')), ("w", .sh (nInt w)), ("mask", .sh (.int (1 * 2 ^ ((w : Nat) : Int).toNat - 1))), ("found", .own ((acc ++ [N' % 2 ^ w]).map nInt))])
          (Ex1.appendE (t' := nInt (N' % 2 ^ w)) (us := (acc ++ [N' % 2 ^ w]).map nInt) (by walk_at "my lk") (Ev.band (Ev.name (by walk_at "my lk")) (Ev.name (by walk_at "my lk"))) (by rw [bitAnd_mask]) (by simp) (by walk_at "my set") (by simp [sizeLine]; omega) (by walk_at "my he"))
          (Exs.cons (Ex1.ishrE (c := ((N' / 2 ^ w : Nat) : Int)) (by walk_at "my lk") (Ev.name (by walk_at "my lk")) (by omega) (by walk_at "my kd") (by simp) (by walk_at "my set")) Exs.nil)) (WhileTo.more rest (by omega))
end
section
variable {B : Bg} {bx : Bx} {n : Nat} {sc : Scope} {ρ ρ' : REnv} {st st₁ st₂ st₃ st₄ : BSt} {out : Out}
theorem Ev.nm {x : Str} {p : Pos} {t : T} (e : ρ.lookup x = some (.sh t) := by walk_at "my lk") (hd : (x == ("__debug__" : Str)) = false := by decide) (hn : (x == ("__classdict__" : Str)) = false := by decide) : Ev B bx n sc ρ st (.Name x p) t st := Ev.name e hd hn
theorem Evs.c1 {e : Expr} {t : T} (h : Ev B bx n sc ρ st e t st₁) (he : ∀ env, starEach [e] env = (false, eval e env) :: starEach [] env := by intro _; rfl) : Evs B bx n sc ρ st [e] [t] st₁ := Evs.cons h Evs.nil he
theorem Evs.c2 {e f : Expr} {t u : T} (h : Ev B bx n sc ρ st e t st₁) (h' : Ev B bx n sc ρ st₁ f u st₂) (he : ∀ env, starEach [e, f] env = (false, eval e env) :: starEach [f] env := by intro _; rfl) (hf : ∀ env, starEach [f] env = (false, eval f env) :: starEach [] env := by intro _; rfl) :
    Evs B bx n sc ρ st [e, f] [t, u] st₂ := Evs.cons h (Evs.cons h' Evs.nil hf) he
theorem Evs.c3 {e f g : Expr} {t u v : T} (h : Ev B bx n sc ρ st e t st₁) (h' : Ev B bx n sc ρ st₁ f u st₂) (h'' : Ev B bx n sc ρ st₂ g v st₃) (he : ∀ env, starEach [e, f, g] env = (false, eval e env) :: starEach [f, g] env := by intro _; rfl) (hf : ∀ env, starEach [f, g] env = (false, eval f env) :: starEach [g] env := by intro _; rfl)
    (hg : ∀ env, starEach [g] env = (false, eval g env) :: starEach [] env := by intro _; rfl) :
    Evs B bx n sc ρ st [e, f, g] [t, u, v] st₃ := Evs.cons h (Evs.cons h' (Evs.cons h'' Evs.nil hg) hf) he
theorem Evs.c4 {e f g i : Expr} {t u v w : T} (h : Ev B bx n sc ρ st e t st₁) (h' : Ev B bx n sc ρ st₁ f u st₂) (h'' : Ev B bx n sc ρ st₂ g v st₃) (h₃ : Ev B bx n sc ρ st₃ i w st₄) (he : ∀ env, starEach [e, f, g, i] env = (false, eval e env) :: starEach [f, g, i] env := by intro _; rfl) (hf : ∀ env, starEach [f, g, i] env = (false, eval f env) :: starEach [g, i] env := by intro _; rfl)
    (hg : ∀ env, starEach [g, i] env = (false, eval g env) :: starEach [i] env := by intro _; rfl) (hi : ∀ env, starEach [i] env = (false, eval i env) :: starEach [] env := by intro _; rfl) :
    Evs B bx n sc ρ st [e, f, g, i] [t, u, v, w] st₄ := Evs.cons h (Evs.cons h' (Evs.cons h'' (Evs.cons h₃ Evs.nil hi) hg) hf) he
theorem Calls.pos {m : Nat} {f : Addr} {ts : List T} {t : T} (h : Calls B bx m f ts st t st₁) (l : m ≤ n) : Calls B bx n f ts st t st₁ := Calls.le h l
theorem Ev.fn_ {x : Str} {np p : Pos} {m : Nat} {e : Expr} {es : List Expr} {a : Addr} {t : T} {ts : List T} (hs : Evs B bx n sc ρ st (e :: es) ts st₂) (hc : Calls B bx m a ts st₂ t st₃) (l : m ≤ n := by omega) (l0 : 1 ≤ m := by omega)
    (k : sc.names.lookup x = some .globalImplicit := by exact rfl) (e0 : nsIn B.K mainGlobals x = some (some (.ref a)) := by walk_at "my k") (hk : keepIn B.K (.ref a) = true := by walk_at "my k") (hd : (x == ("__debug__" : Str)) = false := by decide)
    (he : ∀ env, eval (.Call (.Name x np) (e :: es) [] p) env = (do callWith p (← eval (.Name x np) env) [] (backTo p (starEach (e :: es) env)) (backToKw p (keywordEach [] env))) := by intro _; rfl)
    (hp : ∀ env, starEach (e :: es) env = (false, eval e env) :: starEach es env := by intro _; rfl)
    (hq : ∀ env, (backTo p (starEach es env)).any (·.1) = false := by intro _; rfl) : Ev B bx n sc ρ st (.Call (.Name x np) (e :: es) [] p) t st₃ := by
  obtain ⟨n', rfl⟩ : ∃ n', n = n' + 1 := ⟨n - 1, by omega⟩
  exact Ev.callF (Ev.global k e0 hd) hk hs (hc.le l) he hp hq
theorem Ev.lenS {np p : Pos} {e : Expr} {ts : List T} {L : Nat} (h : Ev B bx n sc ρ st e (.list ts) st₁) (hL : ts.length = L := by simp) (hz : L ≤ 2 ^ 24 := by omega) (k : sc.names.lookup ("len" : Str) = some .globalImplicit := by exact rfl) (e0 : nsIn B.K mainGlobals "len" = some none := by walk_at "my k")
    (hp : ∀ env, starEach [e] env = (false, eval e env) :: starEach [] env := by intro _; rfl) : Ev B bx n sc ρ st (.Call (.Name "len" np) [e] [] p) (nInt L) st₁ := by
  subst hL; exact Ev.len h k e0 hz hp
theorem Ev.lenR {np p : Pos} {e : Expr} {ds : List Nat} (h : Ev B bx n sc ρ st e (rowT ds) st₁) (hz : ds.length ≤ 2 ^ 24 := by omega) (k : sc.names.lookup ("len" : Str) = some .globalImplicit := by exact rfl) (e0 : nsIn B.K mainGlobals "len" = some none := by walk_at "my k")
    (hp : ∀ env, starEach [e] env = (false, eval e env) :: starEach [] env := by intro _; rfl) : Ev B bx n sc ρ st (.Call (.Name "len" np) [e] [] p) (nInt ds.length) st₁ := by
  refine Ev.cast (Ev.len (show Ev B bx n sc ρ st e (.list (ds.map nInt)) st₁ from h) k e0 (by simpa using hz) hp) ?_
  simp
theorem Ev.itemR {e i : Expr} {p : Pos} {ds : List Nat} {k : Nat} {t : T} (h : Ev B bx n sc ρ st e (rowT ds) st₁) (h' : Ev B bx n sc ρ st₁ i (nInt k) st₂) (hk : k < ds.length) (ht : nInt ds[k] = t)
    (hz : ds.length ≤ 2 ^ 24 := by omega) (hs : ∀ o j, subscripted i false o j = operate [o, j] (getItem o j) := by intro _ _; with_unfolding_all rfl) :
    Ev B bx n sc ρ st (.Subscript e i p) t st₂ := by
  refine Ev.item (show Ev B bx n sc ρ st e (.list (ds.map nInt)) st₁ from h) h' (Int.natCast_nonneg k) ?_ (by simpa using hz) hs
  simp [hk, ← ht]
theorem Cmp.ltT {a b : Int} (h : a < b) : Cmp B bx n .Lt (.int a) (.int b) true := Cmp.cast Cmp.lt (by simp [h])
theorem Cmp.ltF {a b : Int} (h : b ≤ a) : Cmp B bx n .Lt (.int a) (.int b) false := Cmp.cast Cmp.lt (by simp [h])
theorem Cmp.leT {a b : Int} (h : a ≤ b) : Cmp B bx n .LtE (.int a) (.int b) true := Cmp.cast Cmp.le (by simp [h])
theorem Cmp.leF {a b : Int} (h : b < a) : Cmp B bx n .LtE (.int a) (.int b) false := Cmp.cast Cmp.le (by simp [h])
theorem Cmp.gtT {a b : Int} (h : b < a) : Cmp B bx n .Gt (.int a) (.int b) true := Cmp.cast Cmp.gt (by simp [h])
theorem Cmp.gtF {a b : Int} (h : a ≤ b) : Cmp B bx n .Gt (.int a) (.int b) false := Cmp.cast Cmp.gt (by simp [h])
theorem Cmp.geT {a b : Int} (h : b ≤ a) : Cmp B bx n .GtE (.int a) (.int b) true := Cmp.cast Cmp.ge (by simp [h])
theorem Cmp.geF {a b : Int} (h : a < b) : Cmp B bx n .GtE (.int a) (.int b) false := Cmp.cast Cmp.ge (by simp [h])
theorem Cmp.eqT {a b : Int} (h : a = b) : Cmp B bx n .Eq (.int a) (.int b) true := Cmp.cast Cmp.eq (by simp [h])
theorem Cmp.eqF {a b : Int} (h : a ≠ b) : Cmp B bx n .Eq (.int a) (.int b) false := Cmp.cast Cmp.eq (by simp [h])
theorem Cmp.neT {a b : Int} (h : a ≠ b) : Cmp B bx n .NotEq (.int a) (.int b) true := Cmp.cast Cmp.ne (by simp [h])
theorem Cmp.neF {a b : Int} (h : a = b) : Cmp B bx n .NotEq (.int a) (.int b) false := Cmp.cast Cmp.ne (by simp [h])
theorem Ev.intE {e : Expr} {a b : Int} (h : Ev B bx n sc ρ st e (.int a) st₁) (e' : a = b) : Ev B bx n sc ρ st e (.int b) st₁ := Ev.cast h (by rw [e'])
theorem Ex1.set {x : Str} {p' p : Pos} {e : Expr} {t : T} (h : Ev B bx n sc ρ st e t st₁) (hs : SetTo x (.sh t) ρ ρ' := by walk_at "my set") (k : sc.names.lookup x = some .local ∨ sc.names.lookup x = some .cell := by walk_at "my kd")
    (hw : ∀ env, swapsWith e (some (.Name x p')) p.line env = pure false := by intro _; rfl) : Ex1 B bx n sc ρ st (.Assign [.Name x p'] e p) (.next ρ' st₁) := Ex1.assign h k hs hw
theorem Ex1.set2 {x y : Expr} {x' y' : Str} {k : Nat} {tp p : Pos} {e : Expr} {t u : T} (h : Ev B bx n sc ρ st e (.tup [t, u]) st₁) (hs : SetsTo ([(y', u), (x', t)]) ρ ρ' := by walk_at "my sets")
    (kx : ∀ x ∈ [x', y'], sc.names.lookup x = some .local ∨ sc.names.lookup x = some .cell := by decide)
    (hw : ∀ env, swapsWithSole [.Tuple [x, y] k tp] e p.line env = pure false := by intro _; rfl) (hv : ∀ env : Env, env.scope = sc → swappedStores [.Tuple [x, y] k tp] e env = pure (some [x', y']) := by intro env e; cases env; cases e; rfl) :
    Ex1 B bx n sc ρ st (.Assign [.Tuple [x, y] k tp] e p) (.next ρ' st₁) := Ex1.assignS (xs := [x', y']) (ts := [t, u]) h rfl kx hs hw hv
theorem Ex1.unp2 {x y : Str} {px py : Pos} {k : Nat} {tp p : Pos} {e : Expr} {t u : T} (h : Ev B bx n sc ρ st e (.tup [t, u]) st₁) (hs : SetsTo ([(x, t), (y, u)]) ρ ρ' := by walk_at "my sets")
    (kx : ∀ z ∈ [x, y], sc.names.lookup z = some .local ∨ sc.names.lookup z = some .cell := by decide)
    (hw : ∀ env, swapsWithSole [.Tuple [.Name x px, .Name y py] k tp] e p.line env = pure false := by intro _; rfl) (hv : ∀ env : Env, env.scope = sc → swappedStores [.Tuple [.Name x px, .Name y py] k tp] e env = pure Option.none := by intro env e; cases env; cases e; rfl) :
    Ex1 B bx n sc ρ st (.Assign [.Tuple [.Name x px, .Name y py] k tp] e p) (.next ρ' st₁) := Ex1.assignT (xs := [x, y]) (ts := [t, u]) h rfl rfl kx hs hw hv
end
section
variable {B : Bg} {bx : Bx} {n : Nat} {st : BSt}

noncomputable def cmpN (a b : Nat) : Int := if a < b then -1 else if a = b then 0 else 1

theorem range_down (L : Nat) : Builtin.Range.rangeSize ((L : Int) - 1) (-1) (-1) = L := by
  unfold Builtin.Range.rangeSize
  simp
  omega

theorem val_take_succ {b : Nat} {l : List Nat} {k : Nat} (h : k < l.length) : val b (l.take (k + 1)) = val b (l.take k) + b ^ k * l[k] := by
  rw [List.take_add_one, List.getElem?_eq_getElem h, val_append]
  simp only [Option.toList_some, val, List.length_take, Nat.mul_zero, Nat.add_zero]
  rw [Nat.min_eq_left (Nat.le_of_lt h)]

theorem digits_len_mono {b M N : Nat} (hb : 2 ≤ b) (h : M ≤ N) : (digits b M).length ≤ (digits b N).length := by
  refine digits_length_lt hb (Nat.lt_of_le_of_lt h ?_)
  have := val_lt hb (digits_lt hb N)
  rwa [val_digits hb] at this

noncomputable def downItems (k : Nat) : List T := (List.range k).map fun (i : Nat) => T.int ((k : Int) - 1 + (i : Int) * (-1))
theorem downItems_succ (k : Nat) : downItems (k + 1) = nInt k :: downItems k := by
  unfold downItems
  rw [List.range_succ_eq_map, List.map_cons, List.map_map]
  congr 1
  · simp
  · apply List.map_congr_left
    intro i _
    simp
    omega
theorem items_down (L : Nat) : (T.range ((L : Int) - 1) (-1) (-1)).items = some (downItems L) := by
  simp only [T.items, range_down, Int.toNat_natCast, downItems]
theorem rangeOK_down {L : Nat} (h : L ≤ 2 ^ 40) : (T.range ((L : Int) - 1) (-1) (-1)).rangeOK = true := by
  simp only [T.rangeOK, range_down, Builtin.Range.small, Builtin.Range.rangeFitsLong, Bool.and_eq_true, Bool.or_eq_true, decide_eq_true_eq, beq_iff_eq, show ¬ ((-1 : Int) > 0) by decide, if_false]
  omega

theorem Exs.ifNext (c : Prop) [Decidable c] {sc : Scope} {ρ ρ₁ : REnv} {st₁ st₂ : BSt} {s : Stmt} {ss : List Stmt} {t : T} (h : Ex1 B bx n sc ρ st s (if c then .next ρ₁ st₁ else .ret t st₂)) (h' : c → Exs B bx n sc ρ₁ st₁ ss (.ret t st₂)) : Exs B bx n sc ρ st (s :: ss) (.ret t st₂) := by
  by_cases hc : c
  · rw [if_pos hc] at h; exact Exs.cons h (h' hc)
  · rw [if_neg hc] at h; exact Exs.ret h

theorem calls_compare (hK : B.K = K39 B.w.params) {b M N : Nat} (hb : 2 ≤ b) (hM : (digits b M).length ≤ 1000) (hN : (digits b N).length ≤ 1000) : Calls B bx 1 60 [rowT (digits b M), rowT (digits b N)] st (.int (cmpN M N)) st := by
  refine' calls_of ["a", "b"] [("a", .sh (rowT (digits b M))), ("b", .sh (rowT (digits b N)))] ?hl ?hc ?hb ?hx ?hlen ?hnd ?hk ?hco ?hgen ?hr ?h
  walk_at "my enter"
  case hb => exact all2 fun _ _ => rfl
  have hlt : (digits b M).length < (digits b N).length → M < N := fun h => by
    rcases Nat.lt_or_ge M N with g | g
    · exact g
    · have := digits_len_mono hb g; omega
  have hgt : (digits b N).length < (digits b M).length → N < M := fun h => by
    rcases Nat.lt_or_ge N M with g | g
    · exact g
    · have := digits_len_mono hb g; omega
  generalize hds : digits b M = ds at *
  generalize hes : digits b N = es at *
  have vM : val b ds = M := by rw [← hds]; exact val_digits hb M
  have vN : val b es = N := by rw [← hes]; exact val_digits hb N
  have lM : ∀ d ∈ ds, d < b := by rw [← hds]; exact digits_lt hb M
  have lN : ∀ d ∈ es, d < b := by rw [← hes]; exact digits_lt hb N
  by_cases hl : ds.length = es.length
  · refine Exs.cons (Ex1.if_false (Tr.cmp (Ev.lenR Ev.nm) (Ev.lenR Ev.nm) (Cmp.neF (by omega))) Exs.nil) ?_
    have key : ∀ k, k ≤ ds.length → val b (ds.drop k) = val b (es.drop k) → ∀ sc body, (∀ i (h1 : i < ds.length) (h2 : i < es.length), ds[i] = es[i] → Exs B bx 0 sc [("a", .sh (rowT ds)), ("b", .sh (rowT es)), ("at", .sh (nInt i))] st body (.next [("a", .sh (rowT ds)), ("b", .sh (rowT es))] st)) →
        (∀ i (h1 : i < ds.length) (h2 : i < es.length), ds[i] ≠ es[i] → Exs B bx 0 sc [("a", .sh (rowT ds)), ("b", .sh (rowT es)), ("at", .sh (nInt i))] st body (.ret (.int (if ds[i] < es[i] then -1 else 1)) st)) →
        ForTo B bx 0 sc "at" body (downItems k) [("a", .sh (rowT ds)), ("b", .sh (rowT es))] st (if M = N then .next [("a", .sh (rowT ds)), ("b", .sh (rowT es))] st else .ret (.int (cmpN M N)) st) := by
      intro k
      induction k with
      | zero =>
        intro _ hv sc body _ _
        have : M = N := by rw [← vM, ← vN]; simpa using hv
        rw [if_pos this]
        exact ForTo.nil
      | succ k ih =>
        intro hk hv sc body h1 h2
        have k1 : k < ds.length := by omega
        have k2 : k < es.length := by omega
        have d1 : ds.drop k = ds[k] :: ds.drop (k + 1) := List.drop_eq_getElem_cons k1
        have d2 : es.drop k = es[k] :: es.drop (k + 1) := List.drop_eq_getElem_cons k2
        rw [downItems_succ]
        by_cases he : ds[k] = es[k]
        · refine ForTo.cons (by walk_at "my set") (h1 k k1 k2 he) (ih (by omega) (by rw [d1, d2, val, val, he, hv]) sc body h1 h2)
        · have eM : M = val b (ds.take k) + b ^ k * (ds[k] + b * val b (ds.drop (k + 1))) := by
            rw [← vM]
            conv => lhs; rw [← List.take_append_drop k ds, val_append, d1, val]
            rw [List.length_take, Nat.min_eq_left (Nat.le_of_lt k1)]
          have eN : N = val b (es.take k) + b ^ k * (es[k] + b * val b (es.drop (k + 1))) := by
            rw [← vN]
            conv => lhs; rw [← List.take_append_drop k es, val_append, d2, val]
            rw [List.length_take, Nat.min_eq_left (Nat.le_of_lt k2)]
          have l1 : val b (ds.take k) < b ^ k := by
            have := val_lt hb (l := ds.take k) fun d hd => lM d (List.mem_of_mem_take hd)
            rwa [List.length_take, Nat.min_eq_left (Nat.le_of_lt k1)] at this
          have l2 : val b (es.take k) < b ^ k := by
            have := val_lt hb (l := es.take k) fun d hd => lN d (List.mem_of_mem_take hd)
            rwa [List.length_take, Nat.min_eq_left (Nat.le_of_lt k2)] at this
          rw [← hv] at eN
          generalize b * val b (ds.drop (k + 1)) = H at eM eN
          have step : ∀ {x y p q : Nat}, p < b ^ k → q < b ^ k → x < y → p + b ^ k * (x + H) < q + b ^ k * (y + H) := by
            intro x y p q hp hq hxy
            have := Nat.mul_le_mul_left (b ^ k) (show x + H + 1 ≤ y + H by omega)
            rw [Nat.mul_add, Nat.mul_one] at this
            omega
          have hc : (if ds[k] < es[k] then -1 else 1 : Int) = cmpN M N ∧ M ≠ N := by
            unfold cmpN
            by_cases hlt' : ds[k] < es[k]
            · have := step l1 l2 hlt'
              rw [← eM, ← eN] at this
              rw [if_pos hlt', if_pos this]
              exact ⟨rfl, by omega⟩
            · have := step l2 l1 (show es[k] < ds[k] by omega)
              rw [← eM, ← eN] at this
              rw [if_neg hlt', if_neg (by omega), if_neg (by omega)]
              exact ⟨rfl, by omega⟩
          rw [if_neg hc.2, ← hc.1]
          exact ForTo.leave (by walk_at "my set") (h2 k k1 k2 he)
    have e0 : val b (ds.drop ds.length) = val b (es.drop ds.length) := by rw [List.drop_length, hl, List.drop_length]
    have hfor := fun sc body (g1) (g2) => key ds.length (Nat.le_refl _) e0 sc body g1 g2
    have stepT : ∀ i (h1 : i < ds.length) (h2 : i < es.length), ds[i] ≠ es[i] → ((ds[i] : Nat) : Int) ≠ ((es[i] : Nat) : Int) := fun i h1 h2 h => by omega
    refine Exs.ifNext (M = N) (ρ₁ := [("a", .sh (rowT ds)), ("b", .sh (rowT es))]) (Ex1.for_ (Ev.range3 (Ev.sub (Ev.lenR Ev.nm) Ev.int) (Ev.neg Ev.int) (Ev.neg Ev.int) (by decide) (by decide) rfl (by walk_at "my k")) (items_down _) (rangeOK_down (by omega)) (by walk_at "my kd") (hfor _ _ (fun i h1 h2 he => ?_) (fun i h1 h2 he => ?_))) (fun e => ?_)
    · exact Exs.forget (ρ' := [("a", .sh (rowT ds)), ("b", .sh (rowT es)), ("at", .sh (nInt i))]) (by walk_at "my sub") (Exs.weak (Exs.last (Ex1.if_false (Tr.cmp (Ev.itemR Ev.nm Ev.nm h1 rfl) (Ev.itemR Ev.nm Ev.nm h2 rfl) (Cmp.neF (by omega))) Exs.nil)) (by walk_at "my sub"))
    · refine Exs.ret (Ex1.if_true (Tr.cmp (Ev.itemR Ev.nm Ev.nm h1 rfl) (Ev.itemR Ev.nm Ev.nm h2 rfl) (Cmp.neT (by omega))) ?_)
      by_cases hlt' : ds[i] < es[i]
      · rw [if_pos hlt']
        exact Exs.ret (Ex1.ret (Ev.if_true (Tr.cmp (Ev.itemR Ev.nm Ev.nm h1 rfl) (Ev.itemR Ev.nm Ev.nm h2 rfl) (Cmp.ltT (by omega))) (Ev.neg Ev.int)))
      · rw [if_neg hlt']
        exact Exs.ret (Ex1.ret (Ev.if_false (Tr.cmp (Ev.itemR Ev.nm Ev.nm h1 rfl) (Ev.itemR Ev.nm Ev.nm h2 rfl) (Cmp.ltF (by omega))) Ev.int))
    · subst e
      exact Exs.ret (Ex1.ret (Ev.intE Ev.int (by simp [cmpN])))
  · refine Exs.ret (Ex1.if_true (Tr.cmp (Ev.lenR Ev.nm) (Ev.lenR Ev.nm) (Cmp.neT (by omega))) ?_)
    by_cases h : ds.length < es.length
    · have : cmpN M N = -1 := by unfold cmpN; rw [if_pos (hlt h)]
      rw [this]
      exact Exs.ret (Ex1.ret (Ev.if_true (Tr.cmp (Ev.lenR Ev.nm) (Ev.lenR Ev.nm) (Cmp.ltT (by omega))) (Ev.neg Ev.int)))
    · have hg := hgt (by omega)
      have : cmpN M N = 1 := by unfold cmpN; rw [if_neg (by omega), if_neg (by omega)]
      rw [this]
      exact Exs.ret (Ex1.ret (Ev.if_false (Tr.cmp (Ev.lenR Ev.nm) (Ev.lenR Ev.nm) (Cmp.ltF (by omega))) Ev.int))
end
section
variable {B : Bg} {bx : Bx} {n : Nat} {sc : Scope} {ρ ρ' : REnv} {st st₁ st₂ st₃ : BSt} {out : Out}
theorem Exs.consP {α : Type} (F : α → REnv) (P : α → Prop) {s : Stmt} {ss : List Stmt} (h : ∃ x, P x ∧ Ex1 B bx n sc ρ st s (.next (F x) st₁)) (h' : ∀ x, P x → Exs B bx n sc (F x) st₁ ss out) : Exs B bx n sc ρ st (s :: ss) out := by
  obtain ⟨x, p, e⟩ := h
  exact Exs.cons e (h' x p)
theorem ForTo.up {x : Str} {body : List Stmt} (F : Nat → REnv) {m : Nat} {g : Nat → T} (h : ∀ i, i < m → ∃ ρ₀, SetTo x (.sh (g i)) (F i) ρ₀ ∧ Exs B bx n sc ρ₀ st body (.next (F (i + 1)) st)) (e : F 0 = ρ) :
    ForTo B bx n sc x body ((List.range m).map g) ρ st (.next (F m) st) := by
  refine ForTo.go F (fun _ => st) (fun i hi => ?_) e rfl (by simp)
  have hi' : i < m := by simpa using hi
  obtain ⟨ρ₀, h1, h2⟩ := h i hi'
  refine ⟨ρ₀, ?_, h2⟩
  simpa using h1
theorem range_up {a b : Nat} (h : a ≤ b) : Builtin.Range.rangeSize (a : Int) (b : Int) 1 = ((b - a : Nat) : Int) := by
  unfold Builtin.Range.rangeSize
  simp
  omega
theorem items_up {a b : Nat} (h : a ≤ b) : (T.range (a : Int) (b : Int) 1).items = some ((List.range (b - a)).map fun i => nInt (a + i)) := by
  simp only [T.items, range_up h, Int.toNat_natCast]
  congr 1
  apply List.map_congr_left
  intro i _
  show T.int _ = T.int _
  congr 1
  push_cast
  omega
theorem items_to (b : Nat) : (T.range 0 (b : Int) 1).items = some ((List.range b).map nInt) := by
  have := items_up (Nat.zero_le b)
  simpa [show (fun i => nInt (0 + i)) = nInt from by funext i; simp] using this
theorem rangeOK_up {a b : Nat} (h : a ≤ b) (hb : b ≤ 2 ^ 40) : (T.range (a : Int) (b : Int) 1).rangeOK = true := by
  simp only [T.rangeOK, range_up h, Bool.and_eq_true, decide_eq_true_eq]
  exact ⟨by omega, small_one (by omega) (by omega) (by omega) (by omega)⟩
theorem rangeOK_to {b : Nat} (hb : b ≤ 2 ^ 40) : (T.range 0 (b : Int) 1).rangeOK = true := rangeOK_up (Nat.zero_le b) hb

theorem toNat_pow (w : Nat) : (2 : Int) ^ ((w : Nat) : Int).toNat = ((2 ^ w : Nat) : Int) := by rw [Int.toNat_natCast]; push_cast; rfl

theorem calls_add (hK : B.K = K39 B.w.params) {M N w : Nat} (hw : 1 ≤ w) (hw' : w ≤ 64) (hM : (digits (2 ^ w) M).length ≤ 1000) (hN : (digits (2 ^ w) N).length ≤ 1000) :
    Calls B bx 1 67 [rowT (digits (2 ^ w) M), rowT (digits (2 ^ w) N), nInt w] st (rowT (digits (2 ^ w) (M + N))) st := by
  refine' calls_of ["a", "b", "w"] [("a", .sh (rowT (digits (2 ^ w) M))), ("b", .sh (rowT (digits (2 ^ w) N))), ("w", .sh (nInt w))] ?hl ?hc ?hb ?hx ?hlen ?hnd ?hk ?hco ?hgen ?hr ?h
  walk_at "my enter"
  case hb => exact all3 fun _ _ _ => rfl
  have hb := two_le_pow hw
  refine Exs.consP (st₁ := st) (fun p : Nat × Nat => [("a", .sh (rowT (digits (2 ^ w) p.1))), ("b", .sh (rowT (digits (2 ^ w) p.2))), ("w", .sh (nInt w))]) (fun p => (digits (2 ^ w) p.2).length ≤ (digits (2 ^ w) p.1).length ∧ (digits (2 ^ w) p.1).length ≤ 1000 ∧ p.1 + p.2 = M + N) ?_ ?_
  · by_cases hl : (digits (2 ^ w) M).length < (digits (2 ^ w) N).length
    · exact ⟨(N, M), ⟨Nat.le_of_lt hl, hN, Nat.add_comm _ _⟩, Ex1.if_true (Tr.cmp (Ev.lenR Ev.nm) (Ev.lenR Ev.nm) (Cmp.ltT (by omega))) (Exs.last (Ex1.set2 (x' := "a") (y' := "b") (Ev.tuple (Evs.c2 Ev.nm Ev.nm))))⟩
    · exact ⟨(M, N), ⟨Nat.le_of_not_lt hl, hM, rfl⟩, Ex1.if_false (Tr.cmp (Ev.lenR Ev.nm) (Ev.lenR Ev.nm) (Cmp.ltF (by omega))) Exs.nil⟩
  rintro ⟨M', N'⟩ ⟨hle, hL, hs⟩
  dsimp only at hle hL hs ⊢
  rw [← hs]
  refine Exs.cons (ρ' := [("a", .sh (rowT (digits (2 ^ w) M'))), ("b", .sh (rowT (digits (2 ^ w) N'))), ("w", .sh (nInt w)), ("mask", .sh (.int (1 * 2 ^ ((w : Nat) : Int).toNat - 1))), ("carry", .sh (nInt 0)), ("found", .own [])])
    (Ex1.assignOwn (x := "found") (ρ₁ := [("a", .sh (rowT (digits (2 ^ w) M'))), ("b", .sh (rowT (digits (2 ^ w) N'))), ("w", .sh (nInt w)), ("mask", .sh (.int (1 * 2 ^ ((w : Nat) : Int).toNat - 1))), ("carry", .sh (nInt 0))]) (xs := ["carry", "mask"]) (ts := [nInt 0, .int (1 * 2 ^ ((w : Nat) : Int).toNat - 1)])
      (Evs.c2 Ev.int (Ev.sub (Ev.shl Ev.int Ev.nm (by omega) (by rw [bits_one]; omega)) Ev.int)) rfl (by decide) (by decide) (by walk_at "my rsets") (by walk_at "my set") (hv := fun env e => by cases env; cases e; rfl)) ?_
  refine Exs.cons (ρ' := [("a", .sh (rowT (digits (2 ^ w) M'))), ("b", .sh (rowT (digits (2 ^ w) N'))), ("w", .sh (nInt w)), ("mask", .sh (.int (1 * 2 ^ ((w : Nat) : Int).toNat - 1))), ("carry", .sh (nInt (carryAt (2 ^ w) M' N' (digits (2 ^ w) N').length))), ("found", .own ((fdig (2 ^ w) (digits (2 ^ w) N').length (M' + N')).map nInt))])
    (Ex1.for_ (Ev.range1 (Ev.lenR Ev.nm) rfl (by walk_at "my k")) (items_to _) (rangeOK_to (by omega)) (by walk_at "my kd") (ForTo.up (fun i : Nat => ([("a", .sh (rowT (digits (2 ^ w) M'))), ("b", .sh (rowT (digits (2 ^ w) N'))), ("w", .sh (nInt w)), ("mask", .sh (.int (1 * 2 ^ ((w : Nat) : Int).toNat - 1))), ("carry", .sh (nInt (carryAt (2 ^ w) M' N' i))), ("found", .own ((fdig (2 ^ w) i (M' + N')).map nInt))] : REnv)) (fun i hi => ?_) ?_)) ?_
  · refine ⟨[("a", .sh (rowT (digits (2 ^ w) M'))), ("b", .sh (rowT (digits (2 ^ w) N'))), ("w", .sh (nInt w)), ("mask", .sh (.int (1 * 2 ^ ((w : Nat) : Int).toNat - 1))), ("carry", .sh (nInt (carryAt (2 ^ w) M' N' i))), ("found", .own ((fdig (2 ^ w) i (M' + N')).map nInt)), ("at", .sh (nInt i))], by walk_at "my set", ?_⟩
    refine Exs.forget (ρ' := [("a", .sh (rowT (digits (2 ^ w) M'))), ("b", .sh (rowT (digits (2 ^ w) N'))), ("w", .sh (nInt w)), ("mask", .sh (.int (1 * 2 ^ ((w : Nat) : Int).toNat - 1))), ("carry", .sh (nInt (carryAt (2 ^ w) M' N' i))), ("at", .sh (nInt i)), ("found", .own ((fdig (2 ^ w) i (M' + N')).map nInt))]) (by walk_at "my sub") ?_
    refine Exs.weak (ρ₁ := [("a", .sh (rowT (digits (2 ^ w) M'))), ("b", .sh (rowT (digits (2 ^ w) N'))), ("w", .sh (nInt w)), ("mask", .sh (.int (1 * 2 ^ ((w : Nat) : Int).toNat - 1))), ("carry", .sh (nInt (carryAt (2 ^ w) M' N' (i + 1)))), ("at", .sh (nInt i)), ("found", .own ((fdig (2 ^ w) (i + 1) (M' + N')).map nInt))]) ?_ (by walk_at "my sub")
    refine Exs.cons (Ex1.iaddE (c := ((carryAt (2 ^ w) M' N' i + (M' / (2 ^ w) ^ i % 2 ^ w + N' / (2 ^ w) ^ i % 2 ^ w) : Nat) : Int)) (by walk_at "my lk") (Ev.add (Ev.itemR Ev.nm Ev.nm (by omega) rfl) (Ev.itemR Ev.nm Ev.nm hi rfl)) (by walk_at "my kd") (by rw [digit_at hb, digit_at hb]; push_cast; rfl) (by walk_at "my set")) ?_
    refine Exs.cons (Ex1.appendE (t' := nInt ((M' + N') / (2 ^ w) ^ i % 2 ^ w)) (us := ((fdig (2 ^ w) (i + 1) (M' + N')).map nInt)) (by walk_at "my lk") (Ev.band Ev.nm Ev.nm) (by rw [bitAnd_mask, carry_digit hb]) (by rw [fdig_succ, List.map_append]; rfl) (by walk_at "my set") (by simp [sizeLine, fdig_length]; omega) (by walk_at "my he")) ?_
    exact Exs.last (Ex1.ishrE (c := ((carryAt (2 ^ w) M' N' (i + 1) : Nat) : Int)) (by walk_at "my lk") Ev.nm (by omega) (by walk_at "my kd") (by rw [toNat_pow, ← Int.natCast_ediv, carry_succ hb]) (by walk_at "my set"))
  · simp [carry_zero, fdig_zero]
  have hN' := lt_pow_digits hb N'
  have hend := add_end hb hle
  have hdM := @digit_at (2 ^ w) hb M'
  have hdN : ∀ i, (digits (2 ^ w) N').length ≤ i → N' / (2 ^ w) ^ i = 0 := fun i h => div_pow_zero (lt_pow_of_len hb h)
  obtain ⟨la, hla⟩ : ∃ la, (digits (2 ^ w) M').length = la := ⟨_, rfl⟩
  obtain ⟨lb, hlb⟩ : ∃ lb, (digits (2 ^ w) N').length = lb := ⟨_, rfl⟩
  rw [hla] at hL hle hend
  rw [hlb] at hle hdN ⊢
  refine Exs.cons (ρ' := [("a", .sh (rowT (digits (2 ^ w) M'))), ("b", .sh (rowT (digits (2 ^ w) N'))), ("w", .sh (nInt w)), ("mask", .sh (.int (1 * 2 ^ ((w : Nat) : Int).toNat - 1))), ("carry", .sh (nInt (carryAt (2 ^ w) M' N' (la)))), ("found", .own ((fdig (2 ^ w) (la) (M' + N')).map nInt))])
    (Ex1.for_ (Ev.range2 (Ev.cast (Ev.lenR Ev.nm) (by rw [hlb])) (Ev.cast (Ev.lenR Ev.nm) (by rw [hla])) rfl (by walk_at "my k")) (items_up (a := lb) (b := la) hle) (rangeOK_up hle (by omega)) (by walk_at "my kd") (Eq.subst (motive := fun k => ForTo _ _ _ _ _ _ _ _ _ (.next ([("a", .sh (rowT (digits (2 ^ w) M'))), ("b", .sh (rowT (digits (2 ^ w) N'))), ("w", .sh (nInt w)), ("mask", .sh (.int (1 * 2 ^ ((w : Nat) : Int).toNat - 1))), ("carry", .sh (nInt (carryAt (2 ^ w) M' N' (k)))), ("found", .own ((fdig (2 ^ w) (k) (M' + N')).map nInt))]) _)) (show lb + (la - lb) = la by omega) (ForTo.up (fun i : Nat => ([("a", .sh (rowT (digits (2 ^ w) M'))), ("b", .sh (rowT (digits (2 ^ w) N'))), ("w", .sh (nInt w)), ("mask", .sh (.int (1 * 2 ^ ((w : Nat) : Int).toNat - 1))), ("carry", .sh (nInt (carryAt (2 ^ w) M' N' (lb + i)))), ("found", .own ((fdig (2 ^ w) (lb + i) (M' + N')).map nInt))] : REnv)) (fun i hi => ?_) rfl))) ?_
  · refine ⟨[("a", .sh (rowT (digits (2 ^ w) M'))), ("b", .sh (rowT (digits (2 ^ w) N'))), ("w", .sh (nInt w)), ("mask", .sh (.int (1 * 2 ^ ((w : Nat) : Int).toNat - 1))), ("carry", .sh (nInt (carryAt (2 ^ w) M' N' (lb + i)))), ("found", .own ((fdig (2 ^ w) (lb + i) (M' + N')).map nInt)), ("at", .sh (nInt (lb + i)))], by walk_at "my set", ?_⟩
    refine Exs.forget (ρ' := [("a", .sh (rowT (digits (2 ^ w) M'))), ("b", .sh (rowT (digits (2 ^ w) N'))), ("w", .sh (nInt w)), ("mask", .sh (.int (1 * 2 ^ ((w : Nat) : Int).toNat - 1))), ("carry", .sh (nInt (carryAt (2 ^ w) M' N' (lb + i)))), ("at", .sh (nInt (lb + i))), ("found", .own ((fdig (2 ^ w) (lb + i) (M' + N')).map nInt))]) (by walk_at "my sub") ?_
    refine Exs.weak (ρ₁ := [("a", .sh (rowT (digits (2 ^ w) M'))), ("b", .sh (rowT (digits (2 ^ w) N'))), ("w", .sh (nInt w)), ("mask", .sh (.int (1 * 2 ^ ((w : Nat) : Int).toNat - 1))), ("carry", .sh (nInt (carryAt (2 ^ w) M' N' (lb + (i + 1))))), ("at", .sh (nInt (lb + i))), ("found", .own ((fdig (2 ^ w) (lb + (i + 1)) (M' + N')).map nInt))]) ?_ (by walk_at "my sub")
    refine Exs.cons (Ex1.iaddE (c := ((carryAt (2 ^ w) M' N' (lb + i) + (M' / (2 ^ w) ^ (lb + i) % 2 ^ w + N' / (2 ^ w) ^ (lb + i) % 2 ^ w) : Nat) : Int)) (by walk_at "my lk") (Ev.itemR Ev.nm Ev.nm (by omega) rfl) (by walk_at "my kd") (by rw [hdM, hdN _ (by omega)]; simp) (by walk_at "my set")) ?_
    refine Exs.cons (Ex1.appendE (t' := nInt ((M' + N') / (2 ^ w) ^ (lb + i) % 2 ^ w)) (us := ((fdig (2 ^ w) (lb + (i + 1)) (M' + N')).map nInt)) (by walk_at "my lk") (Ev.band Ev.nm Ev.nm) (by rw [bitAnd_mask, carry_digit hb]) (by rw [← Nat.add_assoc, fdig_succ, List.map_append]; rfl) (by walk_at "my set") (by simp [sizeLine, fdig_length]; omega) (by walk_at "my he")) ?_
    exact Exs.last (Ex1.ishrE (c := ((carryAt (2 ^ w) M' N' (lb + (i + 1)) : Nat) : Int)) (by walk_at "my lk") Ev.nm (by omega) (by walk_at "my kd") (by rw [toNat_pow, ← Int.natCast_ediv, carry_succ hb, Nat.add_assoc]) (by walk_at "my set"))
  refine Exs.cons (st₁ := st) (ρ' := [("found", .own ((digits (2 ^ w) (M' + N')).map nInt))]) ?_ (Exs.freeze (x := "found") (by walk_at "my lk") (by walk_at "my set") (Exs.ret (Ex1.ret Ev.nm)))
  rcases Nat.eq_zero_or_pos (carryAt (2 ^ w) M' N' la) with h0 | h0
  · refine Ex1.if_false (Tr.cmp Ev.nm Ev.int (Cmp.gtF (by omega))) (Exs.weak Exs.nil ?_)
    rw [← hend.1 h0]
    walk_at "my sub"
  · refine Ex1.if_true (Tr.cmp Ev.nm Ev.int (Cmp.gtT (by omega))) (Exs.weak (Exs.last (Ex1.appendE (t' := nInt (carryAt (2 ^ w) M' N' la)) (us := ((digits (2 ^ w) (M' + N')).map nInt)) (by walk_at "my lk") Ev.nm rfl (by rw [← hend.2 h0, List.map_append]; rfl) (by walk_at "my set") (by simp [sizeLine, fdig_length]; omega) (by walk_at "my he"))) (by walk_at "my sub"))
end
section
variable {B : Bg} {bx : Bx} {n : Nat} {sc : Scope} {ρ ρ' : REnv} {st st₁ st₂ st₃ : BSt} {out : Out}
noncomputable abbrev subEnv (M N w bo : Nat) (t : REnv) : REnv := ("a", .sh (rowT (digits (2 ^ w) M))) :: ("b", .sh (rowT (digits (2 ^ w) N))) :: ("w", .sh (nInt w)) :: ("base", .sh (.int (1 * 2 ^ ((w : Nat) : Int).toNat))) :: ("borrow", .sh (nInt bo)) :: t
theorem calls_sub (hK : B.K = K39 B.w.params) {M N w : Nat} (hw : 1 ≤ w) (hw' : w ≤ 64) (hM : (digits (2 ^ w) M).length ≤ 1000) (hle : N ≤ M) :
    Calls B bx 2 74 [rowT (digits (2 ^ w) M), rowT (digits (2 ^ w) N), nInt w] st (rowT (digits (2 ^ w) (M - N))) st := by
  refine' calls_of ["a", "b", "w"] [("a", .sh (rowT (digits (2 ^ w) M))), ("b", .sh (rowT (digits (2 ^ w) N))), ("w", .sh (nInt w))] ?hl ?hc ?hb ?hx ?hlen ?hnd ?hk ?hco ?hgen ?hr ?h
  walk_at "my enter"
  case hb => exact all3 fun _ _ _ => rfl
  have hb := two_le_pow hw
  have hN : (digits (2 ^ w) N).length ≤ 1000 := Nat.le_trans (digits_len_mono' hb hle) hM
  have hcmp : cmpN M N = 0 ∨ cmpN M N = 1 := by unfold cmpN; split; omega; split <;> simp
  refine Exs.cons (Ex1.if_false (Tr.cmp (Ev.fn_ (Evs.c2 Ev.nm Ev.nm) (calls_compare hK hb hM hN)) Ev.int (Cmp.ltF (by omega))) Exs.nil) ?_
  refine Exs.cons (ρ' := subEnv M N w 0 [("found", .own [])])
    (Ex1.assignOwn (x := "found") (ρ₁ := subEnv M N w 0 []) (xs := ["borrow", "base"]) (ts := [nInt 0, .int (1 * 2 ^ ((w : Nat) : Int).toNat)])
      (Evs.c2 Ev.int (Ev.shl Ev.int Ev.nm (by omega) (by rw [bits_one]; omega))) rfl (by decide) (by decide) (by walk_at "my rsets") (by walk_at "my set") (hv := fun env e => by cases env; cases e; rfl)) ?_
  have hdM := @digit_at (2 ^ w) hb M
  have hdN := @digit_at (2 ^ w) hb N
  have hzN : ∀ i, (digits (2 ^ w) N).length ≤ i → N / (2 ^ w) ^ i = 0 := fun i h => div_pow_zero (lt_pow_of_len hb h)
  have hend : strip (fdig (2 ^ w) (digits (2 ^ w) M).length (M - N)) = digits (2 ^ w) (M - N) := strip_fdig hb (Nat.lt_of_le_of_lt (Nat.sub_le _ _) (lt_pow_digits hb M))
  refine Exs.cons (ρ' := subEnv M N w (borrowAt (2 ^ w) M N (digits (2 ^ w) M).length) [("found", .own ((fdig (2 ^ w) (digits (2 ^ w) M).length (M - N)).map nInt))])
    (Ex1.for_ (Ev.range1 (Ev.lenR Ev.nm) rfl (by walk_at "my k")) (items_to _) (rangeOK_to (by omega)) (by walk_at "my kd") (ForTo.up (fun i : Nat => subEnv M N w (borrowAt (2 ^ w) M N i) [("found", .own ((fdig (2 ^ w) i (M - N)).map nInt))]) (fun i hi => ?_) ?_)) ?_
  · refine ⟨subEnv M N w (borrowAt (2 ^ w) M N i) [("found", .own ((fdig (2 ^ w) i (M - N)).map nInt)), ("at", .sh (nInt i))], by walk_at "my set", ?_⟩
    refine Exs.forget (ρ' := subEnv M N w (borrowAt (2 ^ w) M N i) [("at", .sh (nInt i)), ("found", .own ((fdig (2 ^ w) i (M - N)).map nInt))]) (by walk_at "my sub") ?_
    obtain ⟨limb, hlimb⟩ : ∃ limb : Int, ((M / (2 ^ w) ^ i % 2 ^ w : Nat) : Int) - borrowAt (2 ^ w) M N i - ((N / (2 ^ w) ^ i % 2 ^ w : Nat) : Int) = limb := ⟨_, rfl⟩
    have hdig := sub_digit hb hle i
    have hbor := borrow_succ hb M N i
    rw [hlimb] at hdig
    refine Exs.weak (ρ₁ := subEnv M N w (borrowAt (2 ^ w) M N (i + 1)) [("at", .sh (nInt i)), ("found", .own ((fdig (2 ^ w) (i + 1) (M - N)).map nInt)), ("limb", .sh (.int limb))]) ?_ (by walk_at "my sub")
    refine Exs.cons (st₁ := st) (ρ' := subEnv M N w (borrowAt (2 ^ w) M N i) [("at", .sh (nInt i)), ("found", .own ((fdig (2 ^ w) i (M - N)).map nInt)), ("limb", .sh (.int limb))]) ?_ ?_
    · refine Ex1.set (Ev.intE (b := limb) (Ev.sub (Ev.sub (Ev.itemR Ev.nm Ev.nm hi rfl) Ev.nm) (b := ((N / (2 ^ w) ^ i % 2 ^ w : Nat) : Int)) ?_) (by rw [hdM]; exact hlimb))
      rcases Nat.lt_or_ge i (digits (2 ^ w) N).length with h | h
      · exact Ev.if_true (Tr.cmp Ev.nm (Ev.lenR Ev.nm) (Cmp.ltT (by omega))) (Ev.itemR Ev.nm Ev.nm h (by rw [hdN]))
      · exact Ev.if_false (Tr.cmp Ev.nm (Ev.lenR Ev.nm) (Cmp.ltF (by omega))) (Ev.intE Ev.int (by rw [hzN i h]; simp))
    by_cases hneg : limb < 0
    · have e1 : borrowAt (2 ^ w) M N (i + 1) = 1 := by rw [hbor, if_pos (by omega)]
      rw [e1]
      rw [if_pos hneg] at hdig
      refine Exs.cons (Ex1.set (Ev.if_true (Tr.cmp Ev.nm Ev.int (Cmp.ltT hneg)) Ev.int)) ?_
      exact Exs.last (Ex1.appendE (t' := nInt ((M - N) / (2 ^ w) ^ i % 2 ^ w)) (us := ((fdig (2 ^ w) (i + 1) (M - N)).map nInt)) (by walk_at "my lk") (Ev.if_true (Tr.cmp Ev.nm Ev.int (Cmp.ltT hneg)) (Ev.add Ev.nm Ev.nm)) (by show _ = T.int _; rw [hdig, toNat_pow, Int.one_mul]) (by rw [fdig_succ, List.map_append]; rfl) (by walk_at "my set") (by simp [sizeLine, fdig_length]; omega) (by walk_at "my he"))
    · have e1 : borrowAt (2 ^ w) M N (i + 1) = 0 := by rw [hbor, if_neg (by omega)]
      rw [e1]
      rw [if_neg hneg] at hdig
      refine Exs.cons (Ex1.set (Ev.if_false (Tr.cmp Ev.nm Ev.int (Cmp.ltF (by omega))) Ev.int)) ?_
      exact Exs.last (Ex1.appendE (t' := nInt ((M - N) / (2 ^ w) ^ i % 2 ^ w)) (us := ((fdig (2 ^ w) (i + 1) (M - N)).map nInt)) (by walk_at "my lk") (Ev.if_false (Tr.cmp Ev.nm Ev.int (Cmp.ltF (by omega))) Ev.nm) (by show _ = T.int _; rw [hdig]) (by rw [fdig_succ, List.map_append]; rfl) (by walk_at "my set") (by simp [sizeLine, fdig_length]; omega) (by walk_at "my he"))
  · simp [borrow_zero, fdig_zero]
  · refine Exs.freeze (x := "found") (by walk_at "my lk") (by walk_at "my set") (Exs.ret (Ex1.ret ?_))
    rw [← hend]
    exact Ev.fn_ (Evs.c1 Ev.nm) (calls_normal hK (by rw [fdig_length]; exact hM))
end
section
variable {B : Bg} {bx : Bx} {n : Nat} {sc : Scope} {ρ ρ' : REnv} {st st₁ st₂ st₃ : BSt} {out : Out}
theorem bits_le {m : Nat} {x : Int} (h : x.natAbs < 2 ^ m) : Builtin.Int.intBits x ≤ m := intBits_le_iff.mpr h
theorem mulOk {a b : Int} (h : a.natAbs < 2 ^ 64) : IntMulOk a b := IntMulOk.of_left (bits_le h)
theorem mulOkN {a : Nat} {b : Int} (h : a < 2 ^ 64) : IntMulOk (a : Int) b := mulOk (by omega)

theorem calls_law_row (hK : B.K = K39 B.w.params) {N w : Nat} (hw : 1 ≤ w) (hw' : w ≤ 64) (hN : N < 2 ^ 64) : Calls B bx 1 224 [nInt N, nInt w] st (rowT (digits (2 ^ w) N)) st := by
  refine' calls_of ["number", "w"] [("number", .sh (nInt N)), ("w", .sh (nInt w))] ?hl ?hc ?hb ?hx ?hlen ?hnd ?hk ?hco ?hgen ?hr ?h
  walk_at "my enter"
  case hb => exact all2 fun _ _ => rfl
  refine Exs.cons (ρ' := [("number", .sh (nInt N)), ("w", .sh (nInt w)), ("found", .own [])]) (Ex1.ownNew Evs.nil (by walk_at "my kd") (by walk_at "my set")) ?_
  refine Exs.cons (ρ' := [("number", .sh (nInt 0)), ("w", .sh (nInt w)), ("found", .own ((digits (2 ^ w) N).map nInt))])
    (Ex1.while_ (k := N + 1) ?w) (Exs.freeze (x := "found") (by walk_at "my lk") (by walk_at "my set") (Exs.ret (Ex1.ret Ev.nm)))
  case w =>
    refine WhileTo.measP (fun p : Nat × List Nat => p.2.length + (digits (2 ^ w) p.1).length ≤ 64) (fun p : Nat × List Nat => p.1) (fun p => [("number", .sh (nInt p.1)), ("w", .sh (nInt w)), ("found", .own (p.2.map nInt))])
      (fun p => .next [("number", .sh (nInt 0)), ("w", .sh (nInt w)), ("found", .own ((p.2 ++ digits (2 ^ w) p.1).map nInt))] st) (fun p hp ih => ?_) (N, []) (by simpa using len_digits hw hN)
    obtain ⟨N', acc⟩ := p
    dsimp only at ih hp ⊢
    by_cases h0 : N' = 0
    · subst h0
      rw [digits_zero, List.append_nil]
      exact WhileTo.stop (Tr.cmp Ev.nm Ev.int (Cmp.gtF (by simp)))
    · have hd := digits_pos (two_le_pow hw) (Nat.pos_of_ne_zero h0)
      have hlt : N' / 2 ^ w < N' := Nat.div_lt_self (Nat.pos_of_ne_zero h0) (two_le_pow hw)
      rw [hd, List.length_cons] at hp
      have rest := ih (N' / 2 ^ w, acc ++ [N' % 2 ^ w]) (by simp; omega) hlt
      dsimp only at rest
      rw [List.append_assoc, List.singleton_append, ← hd] at rest
      have hpos : 0 < 2 ^ w := Nat.pow_pos (by decide)
      refine WhileTo.turn (Tr.cmp Ev.nm Ev.int (Cmp.gtT (by omega)))
        (Exs.cons (ρ' := [("number", .sh (nInt N')), ("w", .sh (nInt w)), ("found", .own ((acc ++ [N' % 2 ^ w]).map nInt))])
          (Ex1.appendE (t' := nInt (N' % 2 ^ w)) (us := (acc ++ [N' % 2 ^ w]).map nInt) (by walk_at "my lk") (Ev.mod (b := ((2 ^ w : Nat) : Int)) Ev.nm (Ev.intE (Ev.shl Ev.int Ev.nm (by omega) (by rw [bits_one]; omega)) (by rw [toNat_pow, Int.one_mul])) (by omega)) (by show T.int _ = T.int _; rw [← Int.natCast_emod]) (by simp) (by walk_at "my set") (by simp [sizeLine]; omega) (by walk_at "my he"))
          (Exs.last (Ex1.set (Ev.intE (b := ((N' / 2 ^ w : Nat) : Int)) (Ev.shr Ev.nm Ev.nm (by omega)) (by rw [toNat_pow, ← Int.natCast_ediv]))))) (WhileTo.more rest (by omega))

theorem val_drop {b : Nat} {ds : List Nat} {k : Nat} (h : k < ds.length) : val b (ds.drop k) = ds[k] + b * val b (ds.drop (k + 1)) := by
  rw [List.drop_eq_getElem_cons h, val]

theorem calls_law_of (hK : B.K = K39 B.w.params) {ds : List Nat} {w : Nat} (hw : 1 ≤ w) (hw' : w ≤ 64) (hd' : ∀ d ∈ ds, d < 2 ^ w) (hL : ds.length ≤ 1000) : Calls B bx 1 231 [rowT ds, nInt w] st (nInt (val (2 ^ w) ds)) st := by
  refine' calls_of ["row", "w"] [("row", .sh (rowT ds)), ("w", .sh (nInt w))] ?hl ?hc ?hb ?hx ?hlen ?hnd ?hk ?hco ?hgen ?hr ?h
  walk_at "my enter"
  case hb => exact all2 fun _ _ => rfl
  have hb := two_le_pow hw
  refine Exs.cons (ρ' := [("row", .sh (rowT ds)), ("w", .sh (nInt w)), ("found", .sh (nInt 0))]) (Ex1.set Ev.int) ?_
  refine Exs.cons (ρ' := [("row", .sh (rowT ds)), ("w", .sh (nInt w)), ("found", .sh (nInt (val (2 ^ w) ds)))])
    (Ex1.for_ (t := .list (ds.map nInt).reverse) (Ev.reversed Ev.nm (Ev.intE (Ev.sub Ev.int Ev.int) (by decide)) (by simp [sizeLine]; omega)) rfl rfl (by walk_at "my kd")
      (ForTo.go (fun i => [("row", .sh (rowT ds)), ("w", .sh (nInt w)), ("found", .sh (nInt (val (2 ^ w) (ds.drop (ds.length - i)))))]) (fun _ => st) (fun i hi => ?_) ?_ rfl ?_)) (Exs.ret (Ex1.ret Ev.nm))
  · have hi' : i < ds.length := by simpa using hi
    refine ⟨[("row", .sh (rowT ds)), ("w", .sh (nInt w)), ("found", .sh (nInt (val (2 ^ w) (ds.drop (ds.length - i))))), ("limb", .sh (nInt (ds[ds.length - 1 - i]'(by omega))))], ?_, ?_⟩
    · rw [show (ds.map nInt).reverse[i] = nInt (ds[ds.length - 1 - i]'(by omega)) by simp]
      walk_at "my set"
    · have e := val_drop (b := 2 ^ w) (show ds.length - 1 - i < ds.length by omega)
      rw [show ds.length - 1 - i + 1 = ds.length - i by omega] at e
      have hs : val (2 ^ w) (ds.drop (ds.length - i)) < 2 ^ (64 * 1000) := by
        refine Nat.lt_of_lt_of_le (val_lt hb fun d h => hd' d (List.mem_of_mem_drop h)) ?_
        rw [← Nat.pow_mul]
        refine Nat.pow_le_pow_right (by decide) (Nat.mul_le_mul hw' ?_)
        rw [List.length_drop]; omega
      have hbits := bits_le (m := 64 * 1000) (x := ((val (2 ^ w) (ds.drop (ds.length - i)) : Nat) : Int)) (by rwa [Int.natAbs_natCast])
      refine Exs.weak (ρ₁ := [("row", .sh (rowT ds)), ("w", .sh (nInt w)), ("found", .sh (nInt (val (2 ^ w) (ds.drop (ds.length - (i + 1)))))), ("limb", .sh (nInt (ds[ds.length - 1 - i]'(by omega))))]) (Exs.last ?_) (by walk_at "my sub")
      refine Ex1.set (Ev.intE (Ev.add (Ev.shl Ev.nm Ev.nm (by omega) (by omega)) Ev.nm) ?_)
      rw [show ds.length - (i + 1) = ds.length - 1 - i by omega, e, toNat_pow]
      push_cast
      rw [Int.mul_comm, Int.add_comm]
  · simp [val]
  · simp

theorem calls_law_of_d (hK : B.K = K39 B.w.params) {N w : Nat} (hw : 1 ≤ w) (hw' : w ≤ 64) (hN : N < 2 ^ 64) : Calls B bx 1 231 [rowT (digits (2 ^ w) N), nInt w] st (nInt N) st := by
  have := calls_law_of (bx := bx) (st := st) hK (ds := digits (2 ^ w) N) hw hw' (digits_lt (two_le_pow hw) N) (Nat.le_trans (len_digits hw hN) (by decide))
  rwa [val_digits (two_le_pow hw)] at this

theorem calls_law_times (hK : B.K = K39 B.w.params) {M N w : Nat} (hw : 1 ≤ w) (hw' : w ≤ 64) (hM : M < 2 ^ 32) (hN : N < 2 ^ 32) : Calls B bx 2 245 [rowT (digits (2 ^ w) M), rowT (digits (2 ^ w) N), nInt w] st (rowT (digits (2 ^ w) (M * N))) st := by
  refine' calls_of ["a", "b", "w"] [("a", .sh (rowT (digits (2 ^ w) M))), ("b", .sh (rowT (digits (2 ^ w) N))), ("w", .sh (nInt w))] ?hl ?hc ?hb ?hx ?hlen ?hnd ?hk ?hco ?hgen ?hr ?h
  walk_at "my enter"
  case hb => exact all3 fun _ _ _ => rfl
  have hMN : M * N < 2 ^ 64 := Nat.lt_of_lt_of_le (Nat.mul_lt_mul'' hM hN) (by decide)
  exact Exs.ret (Ex1.ret (Ev.fn_ (Evs.c2 (Ev.intE (b := ((M * N : Nat) : Int)) (Ev.mul (Ev.fn_ (Evs.c2 Ev.nm Ev.nm) (calls_law_of_d hK hw hw' (by omega))) (Ev.fn_ (Evs.c2 Ev.nm Ev.nm) (calls_law_of_d hK hw hw' (by omega))) (mulOkN (by omega))) (by push_cast; rfl)) Ev.nm) (calls_law_row hK hw hw' hMN)))

theorem calls_law_parts (hK : B.K = K39 B.w.params) {M N w : Nat} (hw : 1 ≤ w) (hw' : w ≤ 64) (hM : M < 2 ^ 64) (hN : N < 2 ^ 30) (h0 : 0 < N) : Calls B bx 2 252 [rowT (digits (2 ^ w) M), rowT (digits (2 ^ w) N), nInt w] st (.tup [rowT (digits (2 ^ w) (M / N)), rowT (digits (2 ^ w) (M % N))]) st := by
  refine' calls_of ["a", "b", "w"] [("a", .sh (rowT (digits (2 ^ w) M))), ("b", .sh (rowT (digits (2 ^ w) N))), ("w", .sh (nInt w))] ?hl ?hc ?hb ?hx ?hlen ?hnd ?hk ?hco ?hgen ?hr ?h
  walk_at "my enter"
  case hb => exact all3 fun _ _ _ => rfl
  have h1 : M / N < 2 ^ 64 := Nat.lt_of_le_of_lt (Nat.div_le_self _ _) hM
  have h2 : M % N < 2 ^ 64 := Nat.lt_of_le_of_lt (Nat.mod_le _ _) hM
  refine Exs.cons (ρ' := [("a", .sh (rowT (digits (2 ^ w) M))), ("b", .sh (rowT (digits (2 ^ w) N))), ("w", .sh (nInt w)), ("other", .sh (nInt N)), ("one", .sh (nInt M))])
    (Ex1.set2 (x' := "one") (y' := "other") (Ev.tuple (Evs.c2 (Ev.fn_ (Evs.c2 Ev.nm Ev.nm) (calls_law_of_d hK hw hw' (by omega))) (Ev.fn_ (Evs.c2 Ev.nm Ev.nm) (calls_law_of_d hK hw hw' (by omega)))))) ?_
  exact Exs.ret (Ex1.ret (Ev.tuple (Evs.c2 (Ev.fn_ (Evs.c2 (Ev.intE (b := ((M / N : Nat) : Int)) (Ev.div Ev.nm Ev.nm (by omega) (by omega)) (by push_cast; rfl)) Ev.nm) (calls_law_row hK hw hw' h1)) (Ev.fn_ (Evs.c2 (Ev.intE (b := ((M % N : Nat) : Int)) (Ev.mod Ev.nm Ev.nm (by omega)) (by push_cast; rfl)) Ev.nm) (calls_law_row hK hw hw' h2)))))
end
section
variable {B : Bg} {bx : Bx} {n : Nat} {sc : Scope} {ρ ρ' : REnv} {st st₁ st₂ st₃ : BSt} {out : Out}
theorem restsCls (hK : B.K = K39 B.w.params) : RestsCls B.K := by
  rw [hK]
  exact ⟨fun name => rfl, rfl, rfl, rfl, rfl, rfl⟩
noncomputable abbrev row (w N : Nat) : T := rowT (digits (2 ^ w) N)
noncomputable abbrev restsT (w N : Nat) : T := .rests (row w N) w 245 252
theorem Ev.me {oe e : Expr} {name : Str} {es : List Expr} {ap p : Pos} {a : Addr} {nt t : T} {wi : Int} {f g : Addr} {ts : List T} {m : Nat} (hK : B.K = K39 B.w.params) (h : Ev B bx n sc ρ st oe (.rests nt wi f g) st₁)
    (hs : Evs B bx n sc ρ st₁ (e :: es) ts st₂) (hc : Calls B bx m a (.rests nt wi f g :: ts) st₂ t st₃) (l : m ≤ n := by omega) (l0 : 1 ≤ m := by omega)
    (hf : findIn B.K (.ref 133) name = some (some (.ref a)) := by walk_at "my k") (ht : isFn B.K (.ref a) = true := by walk_at "my k") (hk : keepIn B.K (.ref a) = true := by walk_at "my k")
    (hn : ∀ h₁ h₂ h₃ h₄ t₁ t₂ t₃ t₄ vn t₀, getL name [⟨h₁, .str "n" t₁, vn⟩, ⟨h₂, .str "w" t₂, .int wi t₀⟩, ⟨h₃, .str "given_product" t₃, .ref f⟩, ⟨h₄, .str "given_parts" t₄, .ref g⟩] = some none := by intros; exact rfl)
    {pl : Env → Sem Bool} (he : ∀ env, eval (.Call (.Attribute oe name ap) (e :: es) [] p) env = (do
      let ov ← eval oe env
      standAt ap.atName
      let (f, first) ← holding [ov] (getMethod ov name (pl env))
      callWith p f first (backTo p (starEach (e :: es) env)) []) := by intro _; exact rfl)
    (hp : ∀ env, starEach (e :: es) env = (false, eval e env) :: starEach es env := by intro _; rfl)
    (hq : ∀ env, (backTo p (starEach es env)).any (·.1) = false := by intro _; rfl) :
    Ev B bx n sc ρ st (.Call (.Attribute oe name ap) (e :: es) [] p) t st₃ := by
  obtain ⟨n', rfl⟩ : ∃ n', n = n' + 1 := ⟨n - 1, by omega⟩
  exact Ev.meth h (restsCls hK) hf ht hk hn hs (hc.le l) he hp hq
theorem Ev.fnL {x : Str} {np p : Pos} {m : Nat} {e : Expr} {es : List Expr} {a : Addr} {t : T} {ts : List T} (hs : Evs B bx n sc ρ st (e :: es) ts st₂) (hc : Calls B bx m a ts st₂ t st₃) (l : m ≤ n := by omega) (l0 : 1 ≤ m := by omega)
    (k : ρ.lookup x = some (.sh (.fn a)) := by walk_at "my lk") (hk : keepIn B.K (.ref a) = true := by walk_at "my k") (hd : (x == ("__debug__" : Str)) = false := by decide) (hcd : (x == ("__classdict__" : Str)) = false := by decide)
    (he : ∀ env, eval (.Call (.Name x np) (e :: es) [] p) env = (do callWith p (← eval (.Name x np) env) [] (backTo p (starEach (e :: es) env)) (backToKw p (keywordEach [] env))) := by intro _; rfl)
    (hp : ∀ env, starEach (e :: es) env = (false, eval e env) :: starEach es env := by intro _; rfl)
    (hq : ∀ env, (backTo p (starEach es env)).any (·.1) = false := by intro _; rfl) : Ev B bx n sc ρ st (.Call (.Name x np) (e :: es) [] p) t st₃ := by
  obtain ⟨n', rfl⟩ : ∃ n', n = n' + 1 := ⟨n - 1, by omega⟩
  exact Ev.callF (Ev.name k hd hcd) hk hs (hc.le l) he hp hq
theorem Ev.t0 {e : Expr} {p p' : Pos} {k : Nat} {t u : T} (h : Ev B bx n sc ρ st e (.tup [t, u]) st₁) (hs : ∀ o j, subscripted (.Constant (.int 0) k p') false o j = operate [o, j] (getItem o j) := by intro _ _; with_unfolding_all rfl) : Ev B bx n sc ρ st (.Subscript e (.Constant (.int 0) k p') p) t st₁ := Ev.titem h Ev.int (by decide) rfl (hs := hs)
theorem Ev.t1 {e : Expr} {p p' : Pos} {k : Nat} {t u : T} (h : Ev B bx n sc ρ st e (.tup [t, u]) st₁) (hs : ∀ o j, subscripted (.Constant (.int 1) k p') false o j = operate [o, j] (getItem o j) := by intro _ _; with_unfolding_all rfl) : Ev B bx n sc ρ st (.Subscript e (.Constant (.int 1) k p') p) u st₁ := Ev.titem h Ev.int (by decide) rfl (hs := hs)
theorem Ev.an (hK : B.K = K39 B.w.params) {x : Str} {np p : Pos} {nt : T} {wi : Int} {f g : Addr} (e : ρ.lookup x = some (.sh (.rests nt wi f g)) := by walk_at "my lk") (hd : (x == ("__debug__" : Str)) = false := by decide) (hn : (x == ("__classdict__" : Str)) = false := by decide) 
    (he : ∀ env, eval (.Attribute (.Name x np) "n" p) env = (do
      let o ← eval (.Name x np) env
      standAt p.atName
      let r ← holding [o] (getAttr o "n" true)
      letTemporaryGo (.Name x np) o r
      pure r) := by intro _; with_unfolding_all rfl) : Ev B bx n sc ρ st (.Attribute (.Name x np) "n" p) nt st := Ev.attr_n (Ev.name e hd hn) (restsCls hK) he
theorem Ev.aw (hK : B.K = K39 B.w.params) {x : Str} {np p : Pos} {nt : T} {wi : Int} {f g : Addr} (e : ρ.lookup x = some (.sh (.rests nt wi f g)) := by walk_at "my lk") (hd : (x == ("__debug__" : Str)) = false := by decide) (hn : (x == ("__classdict__" : Str)) = false := by decide) 
    (he : ∀ env, eval (.Attribute (.Name x np) "w" p) env = (do
      let o ← eval (.Name x np) env
      standAt p.atName
      let r ← holding [o] (getAttr o "w" true)
      letTemporaryGo (.Name x np) o r
      pure r) := by intro _; with_unfolding_all rfl) : Ev B bx n sc ρ st (.Attribute (.Name x np) "w" p) (.int wi) st := Ev.attr_w (Ev.name e hd hn) (restsCls hK) he
theorem len_row {w N : Nat} (hw : 1 ≤ w) (hN : N < 2 ^ 64) : (digits (2 ^ w) N).length ≤ 1000 := Nat.le_trans (len_digits hw hN) (by decide)

/-- what is asked of the numbers -/
structure Fit (w N : Nat) : Prop where
  w1 : 1 ≤ w
  w2 : w ≤ 64
  pos : 0 < N
  lt : N < 2 ^ 30

theorem calls_plain (hK : B.K = K39 B.w.params) {w N X : Nat} (hf : Fit w N) (hX : X < 2 ^ 64) : Calls B bx 3 95 [restsT w N, nInt X] st (row w (X % N)) st := by
  refine' calls_of ["self", "number"] [("self", .sh (restsT w N)), ("number", .sh (nInt X))] ?hl ?hc ?hb ?hx ?hlen ?hnd ?hk ?hco ?hgen ?hr ?h
  walk_at "my enter"
  case hb => exact all2 fun _ _ => rfl
  obtain ⟨w1, w2, pos, lt⟩ := hf
  refine Exs.cons (ρ' := [("self", .sh (restsT w N)), ("number", .sh (nInt X)), ("parts", .sh (.fn 252))]) (Ex1.set (Ev.attr_q Ev.nm (restsCls hK))) ?_
  exact Exs.ret (Ex1.ret (Ev.t1 (Ev.fnL (Evs.c3 (Ev.fn_ (Evs.c2 Ev.nm (Ev.aw hK)) (calls_nat_of hK w1 w2 hX)) (Ev.an hK) (Ev.aw hK)) (calls_law_parts hK w1 w2 hX lt pos))))

theorem calls_plus (hK : B.K = K39 B.w.params) {w N x y : Nat} (hf : Fit w N) (hx : x < N) (hy : y < N) : Calls B bx 3 102 [restsT w N, row w x, row w y] st (row w ((x + y) % N)) st := by
  refine' calls_of ["self", "a", "b"] [("self", .sh (restsT w N)), ("a", .sh (row w x)), ("b", .sh (row w y))] ?hl ?hc ?hb ?hx ?hlen ?hnd ?hk ?hco ?hgen ?hr ?h
  walk_at "my enter"
  case hb => exact all3 fun _ _ _ => rfl
  obtain ⟨w1, w2, pos, lt⟩ := hf
  have hb := two_le_pow w1
  refine Exs.cons (ρ' := [("self", .sh (restsT w N)), ("a", .sh (row w x)), ("b", .sh (row w y)), ("found", .sh (row w (x + y)))]) (Ex1.set (Ev.fn_ (Evs.c3 Ev.nm Ev.nm (Ev.aw hK)) (calls_add hK w1 w2 (len_row w1 (by omega)) (len_row w1 (by omega))))) ?_
  have hc := calls_compare (bx := bx) (st := st) hK (M := x + y) (N := N) hb (len_row w1 (by omega)) (len_row w1 (by omega))
  by_cases h : x + y < N
  · rw [Nat.mod_eq_of_lt h]
    exact Exs.ret (Ex1.ret (Ev.if_false (Tr.cmp (Ev.fn_ (Evs.c2 Ev.nm (Ev.an hK)) hc) Ev.int (Cmp.geF (by unfold cmpN; rw [if_pos h]; decide))) Ev.nm))
  · rw [Nat.mod_eq_sub_mod (by omega), Nat.mod_eq_of_lt (show x + y - N < N by omega)]
    exact Exs.ret (Ex1.ret (Ev.if_true (Tr.cmp (Ev.fn_ (Evs.c2 Ev.nm (Ev.an hK)) hc) Ev.int (Cmp.geT (by unfold cmpN; rw [if_neg h]; split <;> decide))) (Ev.fn_ (Evs.c3 Ev.nm (Ev.an hK) (Ev.aw hK)) (calls_sub hK w1 w2 (len_row w1 (by omega)) (by omega)))))

theorem calls_minus (hK : B.K = K39 B.w.params) {w N x y : Nat} (hf : Fit w N) (hx : x < N) (hy : y < N) : Calls B bx 3 109 [restsT w N, row w x, row w y] st (row w ((x + N - y) % N)) st := by
  refine' calls_of ["self", "a", "b"] [("self", .sh (restsT w N)), ("a", .sh (row w x)), ("b", .sh (row w y))] ?hl ?hc ?hb ?hx ?hlen ?hnd ?hk ?hco ?hgen ?hr ?h
  walk_at "my enter"
  case hb => exact all3 fun _ _ _ => rfl
  obtain ⟨w1, w2, pos, lt⟩ := hf
  have hb := two_le_pow w1
  have hc := calls_compare (bx := bx) (st := st) hK (M := x) (N := y) hb (len_row w1 (by omega)) (len_row w1 (by omega))
  by_cases h : x < y
  · rw [Nat.mod_eq_of_lt (show x + N - y < N by omega)]
    refine Exs.cons (Ex1.if_false (Tr.cmp (Ev.fn_ (Evs.c2 Ev.nm Ev.nm) hc) Ev.int (Cmp.geF (by unfold cmpN; rw [if_pos h]; decide))) Exs.nil) ?_
    exact Exs.ret (Ex1.ret (Ev.fn_ (Evs.c3 (Ev.fn_ (Evs.c3 Ev.nm (Ev.an hK) (Ev.aw hK)) (calls_add hK w1 w2 (len_row w1 (by omega)) (len_row w1 (by omega)))) Ev.nm (Ev.aw hK)) (calls_sub hK w1 w2 (len_row w1 (by omega)) (by omega))))
  · rw [show x + N - y = x - y + N by omega, Nat.add_mod_right, Nat.mod_eq_of_lt (show x - y < N by omega)]
    exact Exs.ret (Ex1.if_true (Tr.cmp (Ev.fn_ (Evs.c2 Ev.nm Ev.nm) hc) Ev.int (Cmp.geT (by unfold cmpN; rw [if_neg h]; split <;> decide))) (Exs.ret (Ex1.ret (Ev.fn_ (Evs.c3 Ev.nm Ev.nm (Ev.aw hK)) (calls_sub hK w1 w2 (len_row w1 (by omega)) (by omega))))))

theorem calls_product (hK : B.K = K39 B.w.params) {w N x y : Nat} (hf : Fit w N) (hx : x < N) (hy : y < N) : Calls B bx 3 116 [restsT w N, row w x, row w y] st (row w (x * y % N)) st := by
  refine' calls_of ["self", "a", "b"] [("self", .sh (restsT w N)), ("a", .sh (row w x)), ("b", .sh (row w y))] ?hl ?hc ?hb ?hx ?hlen ?hnd ?hk ?hco ?hgen ?hr ?h
  walk_at "my enter"
  case hb => exact all3 fun _ _ _ => rfl
  obtain ⟨w1, w2, pos, lt⟩ := hf
  have hxy : x * y < 2 ^ 64 := Nat.lt_of_lt_of_le (Nat.mul_lt_mul'' (Nat.lt_trans hx lt) (Nat.lt_trans hy lt)) (by decide)
  refine Exs.cons (ρ' := [("self", .sh (restsT w N)), ("a", .sh (row w x)), ("b", .sh (row w y)), ("parts", .sh (.fn 252)), ("product", .sh (.fn 245))]) (Ex1.set2 (x' := "product") (y' := "parts") (Ev.tuple (Evs.c2 (Ev.attr_p Ev.nm (restsCls hK)) (Ev.attr_q Ev.nm (restsCls hK))))) ?_
  exact Exs.ret (Ex1.ret (Ev.t1 (Ev.fnL (Evs.c3 (Ev.fnL (Evs.c3 Ev.nm Ev.nm (Ev.aw hK)) (calls_law_times hK w1 w2 (by omega) (by omega))) (Ev.an hK) (Ev.aw hK)) (calls_law_parts hK w1 w2 hxy lt pos))))

theorem calls_squared (hK : B.K = K39 B.w.params) {w N x : Nat} (hf : Fit w N) (hx : x < N) : Calls B bx 4 123 [restsT w N, row w x] st (row w (x * x % N)) st := by
  refine' calls_of ["self", "a"] [("self", .sh (restsT w N)), ("a", .sh (row w x))] ?hl ?hc ?hb ?hx ?hlen ?hnd ?hk ?hco ?hgen ?hr ?h
  walk_at "my enter"
  case hb => exact all2 fun _ _ => rfl
  exact Exs.ret (Ex1.ret (Ev.me hK Ev.nm (Evs.c2 Ev.nm Ev.nm) (calls_product hK hf hx hx)))

theorem calls_common (hK : B.K = K39 B.w.params) {w N x : Nat} (hf : Fit w N) (hx : x < N) : Calls B bx 3 130 [restsT w N, row w x] st (row w (Nat.gcd x N)) st := by
  refine' calls_of ["self", "a"] [("self", .sh (restsT w N)), ("a", .sh (row w x))] ?hl ?hc ?hb ?hx ?hlen ?hnd ?hk ?hco ?hgen ?hr ?h
  walk_at "my enter"
  case hb => exact all2 fun _ _ => rfl
  obtain ⟨w1, w2, pos, lt⟩ := hf
  refine Exs.cons (ρ' := [("self", .sh (restsT w N)), ("a", .sh (row w x)), ("b", .sh (row w N)), ("parts", .sh (.fn 252))]) (Ex1.set2 (x' := "parts") (y' := "b") (Ev.tuple (Evs.c2 (Ev.attr_q Ev.nm (restsCls hK)) (Ev.an hK)))) ?_
  refine Exs.cons (ρ' := [("self", .sh (restsT w N)), ("a", .sh (row w 0)), ("b", .sh (row w (Nat.gcd x N))), ("parts", .sh (.fn 252))]) (Ex1.while_ (k := x + 1) ?w) (Exs.ret (Ex1.ret Ev.nm))
  refine WhileTo.measP (fun p : Nat × Nat => p.1 < 2 ^ 30 ∧ p.2 < 2 ^ 30) (fun p : Nat × Nat => p.1) (fun p => [("self", .sh (restsT w N)), ("a", .sh (row w p.1)), ("b", .sh (row w p.2)), ("parts", .sh (.fn 252))])
    (fun p => .next [("self", .sh (restsT w N)), ("a", .sh (row w 0)), ("b", .sh (row w (Nat.gcd p.1 p.2))), ("parts", .sh (.fn 252))] st) (fun p hp ih => ?_) (x, N) ⟨by dsimp only; omega, lt⟩
  obtain ⟨a, b⟩ := p
  dsimp only at hp ih ⊢
  have hl := len_row (N := a) w1 (by omega)
  by_cases h0 : a = 0
  · subst h0
    rw [Nat.gcd_zero_left]
    exact WhileTo.stop (Tr.cmp (Ev.lenR Ev.nm) Ev.int (Cmp.gtF (by simp [digits_zero])))
  · have hpos : 0 < a := Nat.pos_of_ne_zero h0
    have hm : b % a < a := Nat.mod_lt _ hpos
    have rest := ih (b % a, a) ⟨by dsimp only; omega, hp.1⟩ hm
    dsimp only at rest
    rw [← Nat.gcd_rec] at rest
    refine WhileTo.turn (Tr.cmp (Ev.lenR Ev.nm) Ev.int (Cmp.gtT (by rw [digits_pos (two_le_pow w1) hpos]; simp <;> omega))) (Exs.last (Ex1.set2 (x' := "a") (y' := "b") (Ev.tuple (Evs.c2 (Ev.t1 (Ev.fnL (Evs.c3 Ev.nm Ev.nm (Ev.aw hK)) (calls_law_parts hK w1 w2 (by omega) hp.1 hpos))) Ev.nm)))) (WhileTo.more rest (by omega))
end
section
variable {B : Bg} {bx : Bx} {n : Nat} {sc : Scope} {ρ ρ' : REnv} {st st₁ st₂ st₃ : BSt} {out : Out}
theorem pl_lt {w N x y : Nat} (hf : Fit w N) : pl N x y < N := Nat.mod_lt _ hf.pos
theorem mi_lt {w N x y : Nat} (hf : Fit w N) : mi N x y < N := Nat.mod_lt _ hf.pos
theorem pr_lt {w N x y : Nat} (hf : Fit w N) : pr N x y < N := Nat.mod_lt _ hf.pos
theorem md_lt {w N x : Nat} (hf : Fit w N) : x % N < N := Nat.mod_lt _ hf.pos
local macro_rules | `(tactic| walk_at "my lt") => `(tactic| first | assumption | exact pl_lt (by assumption) | exact mi_lt (by assumption) | exact pr_lt (by assumption) | exact md_lt (by assumption))

theorem Ev.rplus (hK : B.K = K39 B.w.params) {w N x y : Nat} {e f : Expr} {np ap p : Pos} (hf : Fit w N) (h : Ev B bx n sc ρ st e (row w x) st) (h' : Ev B bx n sc ρ st f (row w y) st) (hx : x < N := by walk_at "my lt") (hy : y < N := by walk_at "my lt") (l : 3 ≤ n := by omega)
    (k : ρ.lookup ("rests" : Str) = some (.sh (restsT w N)) := by walk_at "my lk")
    (he : ∀ env, starEach [e, f] env = (false, eval e env) :: starEach [f] env := by intro _; rfl) (hg : ∀ env, starEach [f] env = (false, eval f env) :: starEach [] env := by intro _; rfl)
    {pl : Env → Sem Bool} (hm : ∀ env, eval (.Call (.Attribute (.Name "rests" np) "plus" ap) [e, f] [] p) env = (do
      let ov ← eval (.Name "rests" np) env
      standAt ap.atName
      let (g, first) ← holding [ov] (getMethod ov "plus" (pl env))
      callWith p g first (backTo p (starEach [e, f] env)) []) := by intro _; exact rfl)
    (hq : ∀ env, (backTo p (starEach [f] env)).any (·.1) = false := by intro _; rfl) :
    Ev B bx n sc ρ st (.Call (.Attribute (.Name "rests" np) "plus" ap) [e, f] [] p) (row w (Mine.pl N x y)) st :=
  Ev.me hK (Ev.name k) (Evs.c2 h h' he hg) (calls_plus hK hf hx hy) l (he := hm) (hp := he) (hq := hq)
theorem Ev.rminus (hK : B.K = K39 B.w.params) {w N x y : Nat} {e f : Expr} {np ap p : Pos} (hf : Fit w N) (h : Ev B bx n sc ρ st e (row w x) st) (h' : Ev B bx n sc ρ st f (row w y) st) (hx : x < N := by walk_at "my lt") (hy : y < N := by walk_at "my lt") (l : 3 ≤ n := by omega)
    (k : ρ.lookup ("rests" : Str) = some (.sh (restsT w N)) := by walk_at "my lk")
    (he : ∀ env, starEach [e, f] env = (false, eval e env) :: starEach [f] env := by intro _; rfl) (hg : ∀ env, starEach [f] env = (false, eval f env) :: starEach [] env := by intro _; rfl)
    {pl : Env → Sem Bool} (hm : ∀ env, eval (.Call (.Attribute (.Name "rests" np) "minus" ap) [e, f] [] p) env = (do
      let ov ← eval (.Name "rests" np) env
      standAt ap.atName
      let (g, first) ← holding [ov] (getMethod ov "minus" (pl env))
      callWith p g first (backTo p (starEach [e, f] env)) []) := by intro _; exact rfl)
    (hq : ∀ env, (backTo p (starEach [f] env)).any (·.1) = false := by intro _; rfl) :
    Ev B bx n sc ρ st (.Call (.Attribute (.Name "rests" np) "minus" ap) [e, f] [] p) (row w (Mine.mi N x y)) st :=
  Ev.me hK (Ev.name k) (Evs.c2 h h' he hg) (calls_minus hK hf hx hy) l (he := hm) (hp := he) (hq := hq)
theorem Ev.rprod (hK : B.K = K39 B.w.params) {w N x y : Nat} {e f : Expr} {np ap p : Pos} (hf : Fit w N) (h : Ev B bx n sc ρ st e (row w x) st) (h' : Ev B bx n sc ρ st f (row w y) st) (hx : x < N := by walk_at "my lt") (hy : y < N := by walk_at "my lt") (l : 3 ≤ n := by omega)
    (k : ρ.lookup ("rests" : Str) = some (.sh (restsT w N)) := by walk_at "my lk")
    (he : ∀ env, starEach [e, f] env = (false, eval e env) :: starEach [f] env := by intro _; rfl) (hg : ∀ env, starEach [f] env = (false, eval f env) :: starEach [] env := by intro _; rfl)
    {pl : Env → Sem Bool} (hm : ∀ env, eval (.Call (.Attribute (.Name "rests" np) "product" ap) [e, f] [] p) env = (do
      let ov ← eval (.Name "rests" np) env
      standAt ap.atName
      let (g, first) ← holding [ov] (getMethod ov "product" (pl env))
      callWith p g first (backTo p (starEach [e, f] env)) []) := by intro _; exact rfl)
    (hq : ∀ env, (backTo p (starEach [f] env)).any (·.1) = false := by intro _; rfl) :
    Ev B bx n sc ρ st (.Call (.Attribute (.Name "rests" np) "product" ap) [e, f] [] p) (row w (Mine.pr N x y)) st :=
  Ev.me hK (Ev.name k) (Evs.c2 h h' he hg) (calls_product hK hf hx hy) l (he := hm) (hp := he) (hq := hq)
theorem Ev.rsq (hK : B.K = K39 B.w.params) {w N x : Nat} {e : Expr} {np ap p : Pos} (hf : Fit w N) (h : Ev B bx n sc ρ st e (row w x) st) (hx : x < N := by walk_at "my lt") (l : 4 ≤ n := by omega)
    (k : ρ.lookup ("rests" : Str) = some (.sh (restsT w N)) := by walk_at "my lk")
    (he : ∀ env, starEach [e] env = (false, eval e env) :: starEach [] env := by intro _; rfl)
    {pl : Env → Sem Bool} (hm : ∀ env, eval (.Call (.Attribute (.Name "rests" np) "squared" ap) [e] [] p) env = (do
      let ov ← eval (.Name "rests" np) env
      standAt ap.atName
      let (g, first) ← holding [ov] (getMethod ov "squared" (pl env))
      callWith p g first (backTo p (starEach [e] env)) []) := by intro _; exact rfl)
    (hq : ∀ env, (backTo p (starEach [] env)).any (·.1) = false := by intro _; rfl) :
    Ev B bx n sc ρ st (.Call (.Attribute (.Name "rests" np) "squared" ap) [e] [] p) (row w (Mine.pr N x x)) st :=
  Ev.me hK (Ev.name k) (Evs.c1 h he) (calls_squared hK hf hx) l (he := hm) (hp := he) (hq := hq)
theorem Ev.rplain (hK : B.K = K39 B.w.params) {w N x : Nat} {e : Expr} {np ap p : Pos} (hf : Fit w N) (h : Ev B bx n sc ρ st e (nInt x) st) (hx : x < 2 ^ 64 := by omega) (l : 3 ≤ n := by omega)
    (k : ρ.lookup ("rests" : Str) = some (.sh (restsT w N)) := by walk_at "my lk")
    (he : ∀ env, starEach [e] env = (false, eval e env) :: starEach [] env := by intro _; rfl)
    {pl : Env → Sem Bool} (hm : ∀ env, eval (.Call (.Attribute (.Name "rests" np) "plain" ap) [e] [] p) env = (do
      let ov ← eval (.Name "rests" np) env
      standAt ap.atName
      let (g, first) ← holding [ov] (getMethod ov "plain" (pl env))
      callWith p g first (backTo p (starEach [e] env)) []) := by intro _; exact rfl)
    (hq : ∀ env, (backTo p (starEach [] env)).any (·.1) = false := by intro _; rfl) :
    Ev B bx n sc ρ st (.Call (.Attribute (.Name "rests" np) "plain" ap) [e] [] p) (row w (x % N)) st :=
  Ev.me hK (Ev.name k) (Evs.c1 h he) (calls_plain hK hf hx) l (he := hm) (hp := he) (hq := hq)

noncomputable abbrev pt (w : Nat) (P : Nat × Nat) : T := .tup [row w P.1, row w P.2]
noncomputable def InN (N : Nat) (P : Nat × Nat) : Prop := P.1 < N ∧ P.2 < N

theorem calls_doubled (hK : B.K = K39 B.w.params) {w N : Nat} {P c : Nat × Nat} (hf : Fit w N) (hP : InN N P) (hc : InN N c) : Calls B bx 5 144 [pt w P, pt w c, restsT w N] st (pt w (dblP N c P)) st := by
  refine' calls_of ["point", "curve", "rests"] [("point", .sh (pt w P)), ("curve", .sh (pt w c)), ("rests", .sh (restsT w N))] ?hl ?hc ?hb ?hx ?hlen ?hnd ?hk ?hco ?hgen ?hr ?h
  walk_at "my enter"
  case hb => exact all3 fun _ _ _ => rfl
  obtain ⟨p1, p2⟩ := hP
  obtain ⟨c1, c2⟩ := hc
  refine Exs.cons (Ex1.set2 (ρ' := [("point", .sh (pt w P)), ("curve", .sh (pt w c)), ("rests", .sh (restsT w N)), ("down", .sh (row w _)), ("up", .sh (row w _))]) (x' := "up") (y' := "down") (Ev.tuple (Evs.c2 (Ev.rplus hK hf (Ev.t0 Ev.nm) (Ev.t1 Ev.nm)) (Ev.rminus hK hf (Ev.t0 Ev.nm) (Ev.t1 Ev.nm))))) ?_
  refine Exs.cons (Ex1.set2 (ρ' := [("point", .sh (pt w P)), ("curve", .sh (pt w c)), ("rests", .sh (restsT w N)), ("down", .sh (row w _)), ("up", .sh (row w _))]) (x' := "up") (y' := "down") (Ev.tuple (Evs.c2 (Ev.rsq hK hf Ev.nm) (Ev.rsq hK hf Ev.nm)))) ?_
  refine Exs.cons (Ex1.set (Ev.rminus hK hf Ev.nm Ev.nm)) ?_
  refine Exs.cons (Ex1.set (Ev.rprod hK hf (Ev.t1 Ev.nm) Ev.nm)) ?_
  exact Exs.ret (Ex1.ret (Ev.tuple (Evs.c2 (Ev.rprod hK hf (Ev.rprod hK hf Ev.nm (Ev.t1 Ev.nm)) Ev.nm) (Ev.rprod hK hf Ev.nm (Ev.rplus hK hf Ev.nm (Ev.rprod hK hf (Ev.t0 Ev.nm) Ev.nm))))))
end
local macro_rules | `(tactic| walk_at "my lt") => `(tactic| first | assumption | exact pl_lt (by assumption) | exact mi_lt (by assumption) | exact pr_lt (by assumption) | exact md_lt (by assumption))
section
variable {B : Bg} {bx : Bx} {n : Nat} {sc : Scope} {ρ ρ' : REnv} {st st₁ st₂ st₃ : BSt} {out : Out}
theorem dbl_in {w N : Nat} {P c : Nat × Nat} (hf : Fit w N) : InN N (dblP N c P) := ⟨pr_lt hf, pr_lt hf⟩
theorem join_in {w N : Nat} {P Q D : Nat × Nat} (hf : Fit w N) : InN N (joinP N P Q D) := ⟨pr_lt hf, pr_lt hf⟩
theorem calls_joined (hK : B.K = K39 B.w.params) {w N : Nat} {P Q D : Nat × Nat} (hf : Fit w N) (hP : InN N P) (hQ : InN N Q) (hD : InN N D) : Calls B bx 5 151 [pt w P, pt w Q, pt w D, restsT w N] st (pt w (joinP N P Q D)) st := by
  refine' calls_of ["one", "other", "apart", "rests"] [("one", .sh (pt w P)), ("other", .sh (pt w Q)), ("apart", .sh (pt w D)), ("rests", .sh (restsT w N))] ?hl ?hc ?hb ?hx ?hlen ?hnd ?hk ?hco ?hgen ?hr ?h
  walk_at "my enter"
  case hb => exact all4 fun _ _ _ _ => rfl
  obtain ⟨p1, p2⟩ := hP
  obtain ⟨q1, q2⟩ := hQ
  obtain ⟨d1, d2⟩ := hD
  refine Exs.cons (Ex1.set (Ev.rprod hK hf (Ev.rminus hK hf (Ev.t0 Ev.nm) (Ev.t1 Ev.nm)) (Ev.rplus hK hf (Ev.t0 Ev.nm) (Ev.t1 Ev.nm)))) ?_
  refine Exs.cons (Ex1.set (Ev.rprod hK hf (Ev.rplus hK hf (Ev.t0 Ev.nm) (Ev.t1 Ev.nm)) (Ev.rminus hK hf (Ev.t0 Ev.nm) (Ev.t1 Ev.nm)))) ?_
  exact Exs.ret (Ex1.ret (Ev.tuple (Evs.c2 (Ev.rprod hK hf (Ev.t1 Ev.nm) (Ev.rsq hK hf (Ev.rplus hK hf Ev.nm Ev.nm))) (Ev.rprod hK hf (Ev.t0 Ev.nm) (Ev.rsq hK hf (Ev.rminus hK hf Ev.nm Ev.nm))))))

theorem lad_in {w N : Nat} {P c : Nat × Nat} (hf : Fit w N) (hP : InN N P) : ∀ k, InN N (lad N c P k).1 ∧ InN N (lad N c P k).2 := by
  intro k
  rw [lad]
  split
  · exact ⟨hP, dbl_in hf⟩
  · dsimp only
    split
    · exact ⟨join_in hf, dbl_in hf⟩
    · exact ⟨dbl_in hf, join_in hf⟩
theorem bitAnd_one (N : Nat) : Builtin.bitAnd (N : Int) 1 = ((N % 2 : Nat) : Int) := bitAnd_mask N 1
theorem downItems_get {L i : Nat} (h : i < (downItems L).length) : (downItems L)[i] = nInt (L - 1 - i) := by
  have h' : i < L := by simpa [downItems] using h
  simp only [downItems, List.getElem_map, List.getElem_range]
  show T.int _ = T.int _
  congr 1
  omega
theorem downItems_length (L : Nat) : (downItems L).length = L := by simp [downItems]
theorem pow_log2_div {k : Nat} (h : k ≠ 0) : k / 2 ^ Nat.log2 k = 1 := by
  have h1 := Nat.log2_self_le h
  have h2 : k < 2 ^ (Nat.log2 k + 1) := Nat.lt_log2_self
  rw [Nat.pow_succ] at h2
  have : k / 2 ^ Nat.log2 k < 2 := Nat.div_lt_of_lt_mul h2
  have : 1 ≤ k / 2 ^ Nat.log2 k := (Nat.le_div_iff_mul_le (Nat.pow_pos (by decide))).mpr (by omega)
  omega
theorem calls_times_point (hK : B.K = K39 B.w.params) {w N k : Nat} {P c : Nat × Nat} (hf : Fit w N) (hP : InN N P) (hc : InN N c) (hk : 0 < k) (hk' : k < 2 ^ 32) : Calls B bx 6 158 [nInt k, pt w P, pt w c, restsT w N] st (pt w (lad N c P k).1) st := by
  refine' calls_of ["k", "point", "curve", "rests"] [("k", .sh (nInt k)), ("point", .sh (pt w P)), ("curve", .sh (pt w c)), ("rests", .sh (restsT w N))] ?hl ?hc ?hb ?hx ?hlen ?hnd ?hk ?hco ?hgen ?hr ?h
  walk_at "my enter"
  case hb => exact all4 fun _ _ _ _ => rfl
  have hk0 : k ≠ 0 := by omega
  have hlad1 : lad N c P 1 = (P, dblP N c P) := by rw [lad]; rfl
  have hlog : Nat.log2 k < 32 := (Nat.log2_lt hk0).mpr hk'
  refine Exs.cons (ρ' := [("k", .sh (nInt k)), ("point", .sh (pt w P)), ("curve", .sh (pt w c)), ("rests", .sh (restsT w N)), ("high", .sh (pt w (lad N c P 1).2)), ("low", .sh (pt w (lad N c P 1).1))])
    (Ex1.set2 (x' := "low") (y' := "high") (t := pt w (lad N c P 1).1) (u := pt w (lad N c P 1).2) (Ev.tuple (Evs.c2 (Ev.cast Ev.nm (by rw [hlad1])) (Ev.cast (Ev.fn_ (Evs.c3 Ev.nm Ev.nm Ev.nm) (calls_doubled hK hf hP hc)) (by rw [hlad1]))))) ?_
  have hbits : ((Builtin.Int.intBits (k : Int) : Nat) : Int) = ((Nat.log2 k : Nat) : Int) + 1 := by
    unfold Builtin.Int.intBits
    rw [if_neg (by simp; omega), Int.natAbs_natCast]
    push_cast; rfl
  refine Exs.cons (ρ' := [("k", .sh (nInt k)), ("point", .sh (pt w P)), ("curve", .sh (pt w c)), ("rests", .sh (restsT w N)), ("high", .sh (pt w (lad N c P k).2)), ("low", .sh (pt w (lad N c P k).1))])
    (Ex1.for_ (t := .range (((Nat.log2 k : Nat) : Int) - 1) (-1) (-1)) (Ev.range3 (Ev.intE (Ev.sub (Ev.bits Ev.nm (by walk_at "my he")) Ev.int) (by rw [hbits]; omega)) (Ev.neg Ev.int) (Ev.neg Ev.int) (by decide) (by decide) rfl (by walk_at "my k")) (items_down _) (rangeOK_down (by omega)) (by walk_at "my kd")
      (ForTo.go (fun i => [("k", .sh (nInt k)), ("point", .sh (pt w P)), ("curve", .sh (pt w c)), ("rests", .sh (restsT w N)), ("high", .sh (pt w (lad N c P (k / 2 ^ (Nat.log2 k - i))).2)), ("low", .sh (pt w (lad N c P (k / 2 ^ (Nat.log2 k - i))).1))]) (fun _ => st) (fun i hi => ?_) ?_ rfl ?_)) (Exs.ret (Ex1.ret Ev.nm))
  · have hi' : i < Nat.log2 k := by rwa [downItems_length] at hi
    obtain ⟨l, hl⟩ : ∃ l, Nat.log2 k - (i + 1) = l := ⟨_, rfl⟩
    have hl1 : Nat.log2 k - i = l + 1 := by omega
    have hge : 2 ≤ k / 2 ^ l := by
      have h1 := Nat.log2_self_le hk0
      rw [Nat.le_div_iff_mul_le (Nat.pow_pos (by decide))]
      have : 2 ^ (l + 1) ≤ 2 ^ Nat.log2 k := Nat.pow_le_pow_right (by decide) (by omega)
      rw [Nat.pow_succ] at this
      omega
    have hhalf : k / 2 ^ (l + 1) = k / 2 ^ l / 2 := by rw [Nat.pow_succ, Nat.div_div_eq_div_mul]
    have hstep := lad.eq_1 N c P (k / 2 ^ l)
    rw [if_neg (by omega), ← hhalf] at hstep
    have hin := lad_in (c := c) hf hP (k / 2 ^ (l + 1))
    rw [hl, hl1, downItems_get, show Nat.log2 k - 1 - i = l by omega]
    generalize lad N c P (k / 2 ^ (l + 1)) = b at hstep hin ⊢
    refine ⟨[("k", .sh (nInt k)), ("point", .sh (pt w P)), ("curve", .sh (pt w c)), ("rests", .sh (restsT w N)), ("high", .sh (pt w b.2)), ("low", .sh (pt w b.1)), ("place", .sh (nInt l))], by walk_at "my set", ?_⟩
    refine Exs.cons (ρ' := [("k", .sh (nInt k)), ("point", .sh (pt w P)), ("curve", .sh (pt w c)), ("rests", .sh (restsT w N)), ("high", .sh (pt w b.2)), ("low", .sh (pt w b.1)), ("place", .sh (nInt l)), ("middle", .sh (pt w (joinP N b.2 b.1 P)))]) (Ex1.set (Ev.fn_ (Evs.c4 Ev.nm Ev.nm Ev.nm Ev.nm) (calls_joined hK hf hin.2 hin.1 hP))) ?_
    refine Exs.weak (ρ₁ := [("k", .sh (nInt k)), ("point", .sh (pt w P)), ("curve", .sh (pt w c)), ("rests", .sh (restsT w N)), ("high", .sh (pt w (lad N c P (k / 2 ^ l)).2)), ("low", .sh (pt w (lad N c P (k / 2 ^ l)).1)), ("place", .sh (nInt l)), ("middle", .sh (pt w (joinP N b.2 b.1 P)))]) ?_ (by walk_at "my sub")
    by_cases hodd : k / 2 ^ l % 2 = 1
    · rw [hstep, if_pos hodd]
      exact Exs.last (Ex1.if_true (Tr.cmp (Ev.intE (b := ((k / 2 ^ l % 2 : Nat) : Int)) (Ev.band (Ev.intE (b := ((k / 2 ^ l : Nat) : Int)) (Ev.shr Ev.nm Ev.nm (by omega)) (by rw [toNat_pow, ← Int.natCast_ediv])) Ev.int) (bitAnd_one _)) Ev.int (Cmp.eqT (by omega))) (Exs.last (Ex1.set2 (x' := "low") (y' := "high") (Ev.tuple (Evs.c2 Ev.nm (Ev.fn_ (Evs.c3 Ev.nm Ev.nm Ev.nm) (calls_doubled hK hf hin.2 hc)))))))
    · rw [hstep, if_neg hodd]
      exact Exs.last (Ex1.if_false (Tr.cmp (Ev.intE (b := ((k / 2 ^ l % 2 : Nat) : Int)) (Ev.band (Ev.intE (b := ((k / 2 ^ l : Nat) : Int)) (Ev.shr Ev.nm Ev.nm (by omega)) (by rw [toNat_pow, ← Int.natCast_ediv])) Ev.int) (bitAnd_one _)) Ev.int (Cmp.eqF (by omega))) (Exs.last (Ex1.set2 (x' := "low") (y' := "high") (Ev.tuple (Evs.c2 (Ev.fn_ (Evs.c3 Ev.nm Ev.nm Ev.nm) (calls_doubled hK hf hin.1 hc)) Ev.nm)))))
  · rw [Nat.sub_zero, pow_log2_div hk0]
  · rw [downItems_length, Nat.sub_self, Nat.pow_zero, Nat.div_one]
end
section
variable {B : Bg} {bx : Bx} {n : Nat} {sc : Scope} {ρ ρ' : REnv} {st st₁ st₂ st₃ : BSt} {out : Out}
theorem CompTo.map {α : Type} {x : Str} {elt : Expr} {ρf : REnv} {g f : α → T} : ∀ {l : List α}, (∀ a ∈ l, Ev B bx n sc ((x, .sh (g a)) :: ρf) st elt (f a) st) → CompTo B bx n sc x [] elt ρf (l.map g) st (l.map f) st
  | [], _ => ⟨rfl, rfl⟩
  | a :: l, h => ⟨st, .inr ⟨f a, st, l.map f, ⟨rfl, rfl⟩, h a (.head _), CompTo.map fun b hb => h b (.tail _ hb), rfl⟩⟩
theorem CompTo.filter {α : Type} {x : Str} {c elt : Expr} {ρf : REnv} {g f : α → T} {p : α → Bool} : ∀ {l : List α}, (∀ a ∈ l, Tr B bx n sc ((x, .sh (g a)) :: ρf) st c (p a) st) → (∀ a ∈ l, p a = true → Ev B bx n sc ((x, .sh (g a)) :: ρf) st elt (f a) st) →
    CompTo B bx n sc x [c] elt ρf (l.map g) st ((l.filter p).map f) st
  | [], _, _ => ⟨rfl, rfl⟩
  | a :: l, ht, h => by
    have ih := CompTo.filter (l := l) (fun b hb => ht b (.tail _ hb)) fun b hb => h b (.tail _ hb)
    have ha := ht a (.head _)
    refine ⟨st, ?_⟩
    cases hp : p a with
    | false =>
      rw [hp] at ha
      rw [List.filter_cons_of_neg (by simp [hp])]
      exact .inl ⟨ha, ih⟩
    | true =>
      rw [hp] at ha
      rw [List.filter_cons_of_pos hp]
      exact .inr ⟨f a, st, _, ha, h a (.head _) hp, ih, rfl⟩
theorem Ev.compK {elt iter : Expr} {x : Str} {px pos : Pos} {ifs : List Expr} {cs : Scope} {t : T} {ts us : List T} (ρf : REnv) (keys : List Str) (h : Ev B bx n sc ρ st iter t st₁) (hto : CompTo B bx n (relS cs sc) x ifs elt ρf ts st₁ us st₂) (ht : t.items = some ts := by exact rfl) (hr : t.rangeOK = true := by exact rfl)
    (hz : ts.length ≤ sizeLine := by (simp [sizeLine] <;> omega)) (hk : ρf.map (·.1) = keys := by exact rfl) (hc : CompOK cs sc x keys := by exact ⟨rfl, by decide, by decide, rfl, rfl, by decide, by decide⟩) (hsub : SubEnv ρf ρ := by walk_at "my sub")
    (hsh : (ρf.all fun p => p.2.isSh) = true := by exact rfl) (hs : ∀ env x, foldedSetIterable iter env x = pure x := by intro _ _; rfl) :
    Ev B bx n sc ρ st (.ListComp elt [⟨.Name x px, iter, ifs, 0⟩] cs pos) (.list us) st₂ := by
  subst hk
  exact Ev.comp ρf h ht hr hc hsub hsh hz hto hs
theorem Ex1.setCompK {elt iter : Expr} {x y : Str} {px py pos p : Pos} {ifs : List Expr} {cs : Scope} {t : T} {ts us : List T} (ρf : REnv) (keys : List Str) (h : Ev B bx n sc ρ st iter t st₁) (hto : CompTo B bx n (relS cs sc) x ifs elt ρf ts st₁ us st₂) (ht : t.items = some ts := by exact rfl) (hr : t.rangeOK = true := by exact rfl)
    (hz : ts.length ≤ sizeLine := by (simp [sizeLine] <;> omega)) (hset : SetTo y (.sh (.list us)) ρ ρ' := by walk_at "my set") (hk : ρf.map (·.1) = keys := by exact rfl) (hc : CompOK cs sc x keys := by exact ⟨rfl, by decide, by decide, rfl, rfl, by decide, by decide⟩) (hsub : SubEnv ρf ρ := by walk_at "my sub")
    (hsh : (ρf.all fun p => p.2.isSh) = true := by exact rfl) (k : sc.names.lookup y = some .local ∨ sc.names.lookup y = some .cell := by walk_at "my kd")
    (hw : ∀ env : Env, env.scope = sc → swapsWith (.ListComp elt [⟨.Name x px, iter, ifs, 0⟩] cs pos) (some (.Name y py)) p.line env = pure true := by intro env e; cases env; cases e; rfl)
    (hs : ∀ env x, foldedSetIterable iter env x = pure x := by intro _ _; rfl) :
    Ex1 B bx n sc ρ st (.Assign [.Name y py] (.ListComp elt [⟨.Name x px, iter, ifs, 0⟩] cs pos) p) (.next ρ' st₂) := by
  subst hk
  exact Ex1.setComp ρf h ht hr hc hsub hsh hz hto k hset hw hs

theorem Ex1.ifB {c : Expr} {a e : List Stmt} {p : Pos} {b : Bool} (h : Tr B bx n sc ρ st c b st₁) (ht : b = true → Exs B bx n sc ρ st₁ a out) (hf : b = false → Exs B bx n sc ρ st₁ e out) : Ex1 B bx n sc ρ st (.If c a e p) out := by
  cases b with
  | true => exact Ex1.if_true h (ht rfl)
  | false => exact Ex1.if_false h (hf rfl)
noncomputable def primesN : Nat → List Nat
  | 0 => []
  | i + 1 => if (primesN i).all fun p => decide (0 < (2 + i) % p) then primesN i ++ [2 + i] else primesN i
noncomputable def primesTo (b : Nat) : List Nat := primesN (b - 1)
theorem primesN_ge : ∀ i, ∀ p ∈ primesN i, 2 ≤ p
  | 0, p, h => nomatch h
  | i + 1, p, h => by
    unfold primesN at h
    split at h
    · rcases List.mem_append.mp h with h | h
      · exact primesN_ge i p h
      · rw [List.mem_singleton.mp h]; omega
    · exact primesN_ge i p h
theorem primesN_len : ∀ i, (primesN i).length ≤ i
  | 0 => Nat.le_refl _
  | i + 1 => by
    have := primesN_len i
    unfold primesN
    split
    · rw [List.length_append, List.length_singleton]; omega
    · omega

theorem calls_primes (hK : B.K = K39 B.w.params) {b : Nat} (h1 : 1 ≤ b) (h2 : b ≤ 1000) : Calls B bx 1 170 [nInt b] st (.list ((primesTo b).map nInt)) st := by
  refine' calls_of ["bound"] [("bound", .sh (nInt b))] ?hl ?hc ?hb ?hx ?hlen ?hnd ?hk ?hco ?hgen ?hr ?h
  walk_at "my enter"
  case hb => exact all1 fun _ => rfl
  refine Exs.cons (ρ' := [("bound", .sh (nInt b)), ("found", .own [])]) (Ex1.ownNew Evs.nil (by walk_at "my kd") (by walk_at "my set")) ?_
  refine Exs.cons (ρ' := [("bound", .sh (nInt b)), ("found", .own ((primesTo b).map nInt))]) ?_ (Exs.freeze (x := "found") (by walk_at "my lk") (by walk_at "my set") (Exs.ret (Ex1.ret Ev.nm)))
  refine Ex1.for_ (t := .range ((2 : Nat) : Int) ((b + 1 : Nat) : Int) 1) (Ev.range2 Ev.int (Ev.intE (Ev.add Ev.nm Ev.int) (by omega)) rfl (by walk_at "my k")) (items_up (a := 2) (b := b + 1) (by omega)) (rangeOK_up (by omega) (by omega)) (by walk_at "my kd")
    (Eq.subst (motive := fun k => ForTo _ _ _ _ _ _ _ _ _ (.next [("bound", .sh (nInt b)), ("found", .own ((primesN k).map nInt))] _)) (show b + 1 - 2 = b - 1 by omega) (ForTo.up (fun i : Nat => [("bound", .sh (nInt b)), ("found", .own ((primesN i).map nInt))]) (fun i hi => ?_) rfl))
  refine ⟨[("bound", .sh (nInt b)), ("found", .own ((primesN i).map nInt)), ("at", .sh (nInt (2 + i)))], by walk_at "my set", ?_⟩
  have hlen := primesN_len i
  refine Exs.weak (ρ₁ := [("bound", .sh (nInt b)), ("found", .own ((primesN (i + 1)).map nInt)), ("at", .sh (nInt (2 + i)))]) (Exs.last ?_) (by walk_at "my sub")
  refine Ex1.ifB (st₁ := st) (b := ((primesN i).map fun p => decide (0 < (2 + i) % p)).all id) (Tr.lend (x := "found") (ts := (primesN i).map nInt) (ρ' := [("bound", .sh (nInt b)), ("found", .sh (.list ((primesN i).map nInt))), ("at", .sh (nInt (2 + i)))]) (by walk_at "my lk") (by walk_at "my set") (onlyOwn_of rfl)
    (Tr.bool (Ev.all (bs := (primesN i).map fun p => decide (0 < (2 + i) % p)) (Ev.compK (t := .list ((primesN i).map nInt)) [("at", .sh (nInt (2 + i)))] ["at"] Ev.nm ?_) rfl (by walk_at "my k")))) (fun h => ?_) (fun h => ?_)
  · rw [List.map_map]
    refine CompTo.map fun p hp => ?_
    have h2 := primesN_ge i p hp
    exact Ev.cast (Ev.cmp (Ev.mod Ev.nm Ev.nm (by omega)) Ev.int Cmp.gt) (by show T.bool _ = T.bool _; congr 1; rw [decide_eq_decide, ← Int.natCast_emod]; omega)
  · have h' : ((primesN i).all fun p => decide (0 < (2 + i) % p)) = true := by simpa using h
    rw [primesN, if_pos h']
    exact Exs.last (Ex1.appendE (t' := nInt (2 + i)) (us := (primesN i ++ [2 + i]).map nInt) (by walk_at "my lk") Ev.nm rfl (by simp) (by walk_at "my set") (by simp [sizeLine]; omega) (by walk_at "my he"))
  · have h' : ¬ ((primesN i).all fun p => decide (0 < (2 + i) % p)) = true := by simpa using h
    rw [primesN, if_neg h']
    exact Exs.nil
end
section
variable {B : Bg} {bx : Bx} {n : Nat} {sc : Scope} {ρ ρ' : REnv} {st st₁ st₂ st₃ : BSt} {out : Out}
theorem calls_suyama (hK : B.K = K39 B.w.params) {w N s : Nat} (hf : Fit w N) (hs : s < 2 ^ 16) : Calls B bx 5 165 [nInt s, restsT w N] st (.tup [pt w (suyP N s).1, pt w (suyP N s).2]) st := by
  refine' calls_of ["sigma", "rests"] [("sigma", .sh (nInt s)), ("rests", .sh (restsT w N))] ?hl ?hc ?hb ?hx ?hlen ?hnd ?hk ?hco ?hgen ?hr ?h
  walk_at "my enter"
  case hb => exact all2 fun _ _ => rfl
  have hss : s * s < 2 ^ 64 := Nat.lt_of_lt_of_le (Nat.mul_lt_mul'' hs hs) (by decide)
  refine Exs.cons (Ex1.set (Ev.rminus hK hf (Ev.rplain hK hf (Ev.intE (b := ((s * s : Nat) : Int)) (Ev.mul Ev.nm Ev.nm (mulOkN (by omega))) (by push_cast; rfl)) hss) (Ev.rplain (x := 5) hK hf Ev.int))) ?_
  refine Exs.cons (Ex1.set (Ev.rplain hK hf (Ev.intE (b := ((4 * s : Nat) : Int)) (Ev.mul Ev.int Ev.nm (mulOkN (a := 4) (by omega))) (by push_cast; rfl)))) ?_
  refine Exs.cons (Ex1.set2 (ρ' := [("sigma", .sh (nInt s)), ("rests", .sh (restsT w N)), ("u", .sh (row w _)), ("v", .sh (row w _)), ("gap", .sh (row w _)), ("cube_u", .sh (row w _))]) (x' := "cube_u") (y' := "gap") (Ev.tuple (Evs.c2 (Ev.rprod hK hf (Ev.rsq hK hf Ev.nm) Ev.nm) (Ev.rminus hK hf Ev.nm Ev.nm)))) ?_
  refine Exs.cons (Ex1.set (Ev.rprod hK hf (Ev.rprod hK hf (Ev.rsq hK hf Ev.nm) Ev.nm) (Ev.rplus hK hf (Ev.rprod hK hf (Ev.rplain (x := 3) hK hf Ev.int) Ev.nm) Ev.nm))) ?_
  refine Exs.cons (Ex1.set (Ev.rprod hK hf (Ev.rprod hK hf (Ev.rplain (x := 16) hK hf Ev.int) Ev.nm) Ev.nm)) ?_
  exact Exs.ret (Ex1.ret (Ev.cast (Ev.tuple (Evs.c2 (Ev.tuple (Evs.c2 Ev.nm Ev.nm)) (Ev.tuple (Evs.c2 Ev.nm (Ev.rprod hK hf (Ev.rsq hK hf Ev.nm) Ev.nm))))) (by exact rfl)))
theorem suy_in {w N s : Nat} (hf : Fit w N) : InN N (suyP N s).1 ∧ InN N (suyP N s).2 := ⟨⟨pr_lt hf, pr_lt hf⟩, ⟨pr_lt hf, pr_lt hf⟩⟩

theorem calls_crossing (hK : B.K = K39 B.w.params) {w N : Nat} {P Q : Nat × Nat} (hf : Fit w N) (hP : InN N P) (hQ : InN N Q) : Calls B bx 4 184 [pt w P, pt w Q, restsT w N] st (row w (crossP N P Q)) st := by
  refine' calls_of ["one", "other", "rests"] [("one", .sh (pt w P)), ("other", .sh (pt w Q)), ("rests", .sh (restsT w N))] ?hl ?hc ?hb ?hx ?hlen ?hnd ?hk ?hco ?hgen ?hr ?h
  walk_at "my enter"
  case hb => exact all3 fun _ _ _ => rfl
  obtain ⟨p1, p2⟩ := hP
  obtain ⟨q1, q2⟩ := hQ
  exact Exs.ret (Ex1.ret (Ev.rminus hK hf (Ev.rprod hK hf (Ev.t0 Ev.nm) (Ev.t1 Ev.nm)) (Ev.rprod hK hf (Ev.t0 Ev.nm) (Ev.t1 Ev.nm))))

theorem row_one {w : Nat} (hw : 1 ≤ w) : row w 1 = .list [.int 1] := by
  show rowT (digits (2 ^ w) 1) = _
  have h2 := two_le_pow hw
  rw [digits_pos h2 (by decide), Nat.mod_eq_of_lt h2, Nat.div_eq_of_lt h2, digits_zero]
  rfl
theorem Ev.one_row {p p' : Pos} {k : Nat} {w : Nat} (hw : 1 ≤ w) (he : ∀ env, starEach [.Constant (.int 1) k p'] env = (false, eval (.Constant (.int 1) k p') env) :: starEach [] env := by intro _; rfl) : Ev B bx n sc ρ st (.List [.Constant (.int 1) k p'] p) (row w 1) st :=
  Ev.cast (Ev.list (Evs.c1 Ev.int he)) (row_one hw).symm
theorem cmpN_gt {a b : Nat} : decide (cmpN a b > 0) = decide (b < a) := by
  rw [decide_eq_decide]; unfold cmpN
  split
  · omega
  · split <;> omega
theorem cmpN_lt {a b : Nat} : decide (cmpN a b < 0) = decide (a < b) := by
  rw [decide_eq_decide]; unfold cmpN
  split
  · omega
  · split <;> omega
theorem calls_proper (hK : B.K = K39 B.w.params) {w g N : Nat} (hw : 1 ≤ w) (hg : g < 2 ^ 64) (hN : N < 2 ^ 64) : Calls B bx 2 196 [row w g, row w N] st (.bool (decide (1 < g) && decide (g < N))) st := by
  refine' calls_of ["g", "n"] [("g", .sh (row w g)), ("n", .sh (row w N))] ?hl ?hc ?hb ?hx ?hlen ?hnd ?hk ?hco ?hgen ?hr ?h
  walk_at "my enter"
  case hb => exact all2 fun _ _ => rfl
  have h2 := two_le_pow hw
  have c1 := calls_compare (bx := bx) (st := st) hK (M := g) (N := 1) h2 (len_row hw hg) (len_row hw (by omega))
  have c2 := calls_compare (bx := bx) (st := st) hK (M := g) (N := N) h2 (len_row hw hg) (len_row hw hN)
  by_cases h : 1 < g
  · refine Exs.ret (Ex1.ret (Ev.cast (Ev.and2_true (Ev.cast (Ev.cmp (Ev.fn_ (Evs.c2 Ev.nm (Ev.one_row hw)) c1) Ev.int Cmp.gt) (by rw [cmpN_gt]; simp [h])) (Ev.cmp (Ev.fn_ (Evs.c2 Ev.nm Ev.nm) c2) Ev.int Cmp.lt)) (by rw [cmpN_lt]; simp [h])))
  · refine Exs.ret (Ex1.ret (Ev.cast (Ev.and2_false (Ev.cast (Ev.cmp (Ev.fn_ (Evs.c2 Ev.nm (Ev.one_row hw)) c1) Ev.int Cmp.gt) (by rw [cmpN_gt]; simp [h]))) (by simp [h])))

noncomputable def climb (p F m : Nat) : Nat := if h : m * p ≤ F ∧ 2 ≤ p ∧ 0 < m then climb p F (m * p) else m
termination_by F + 1 - m
decreasing_by
  have : m * 2 ≤ m * p := Nat.mul_le_mul_left m h.2.1
  omega
theorem climb_le {p F m : Nat} (h : m ≤ F) : climb p F m ≤ F := by
  fun_induction climb p F m with
  | case1 m h' ih => exact ih h'.1
  | case2 m h' => exact h
theorem climb_pos {p F m : Nat} (h : 0 < m) : 0 < climb p F m := by
  fun_induction climb p F m with
  | case1 m h' ih => exact ih (Nat.mul_pos h (by omega))
  | case2 m h' => exact h
noncomputable def firstP (N : Nat) (c : Nat × Nat) (F : Nat) (P : Nat × Nat) : Nat × Nat := (primesTo F).foldl (fun P p => (lad N c P (climb p F p)).1) P
theorem foldl_in {w N F : Nat} {c : Nat × Nat} (hf : Fit w N) : ∀ (l : List Nat) {P : Nat × Nat}, InN N P → InN N (l.foldl (fun P p => (lad N c P (climb p F p)).1) P)
  | [], _, h => h
  | p :: l, _, h => foldl_in hf l (lad_in hf h _).1
theorem primesN_le : ∀ i, ∀ p ∈ primesN i, p ≤ i + 1
  | 0, p, h => nomatch h
  | i + 1, p, h => by
    unfold primesN at h
    split at h
    · rcases List.mem_append.mp h with h | h
      · have := primesN_le i p h; omega
      · rw [List.mem_singleton.mp h]; omega
    · have := primesN_le i p h; omega
theorem primesTo_le {F p : Nat} (h : p ∈ primesTo F) : 2 ≤ p ∧ p ≤ F := by
  have h1 := primesN_ge _ p h
  have h2 := primesN_le _ p h
  omega

theorem climb_step {p F m : Nat} (h : m * p ≤ F) (hp : 2 ≤ p) (hm : 0 < m) : climb p F m = climb p F (m * p) := by
  rw [climb, dif_pos ⟨h, hp, hm⟩]
theorem climb_stop {p F m : Nat} (h : ¬ m * p ≤ F) : climb p F m = m := by
  rw [climb, dif_neg fun h' => h h'.1]

/-- the greatest power, as both texts climb to it -/
theorem climb_walk {c : Expr} {body : List Stmt} {p F : Nat} (hp : 2 ≤ p) (Fr : Nat → REnv) (ht : ∀ m, 0 < m → m ≤ F → Tr B bx n sc (Fr m) st c (decide (m * p ≤ F)) st) (hb : ∀ m, 0 < m → m ≤ F → m * p ≤ F → Exs B bx n sc (Fr m) st body (.next (Fr (m * p)) st)) {m : Nat} (hm : 0 < m) (hm' : m ≤ F) :
    WhileTo B bx n sc c body (F - m + 1) (Fr m) st (.next (Fr (climb p F m)) st) := by
  refine WhileTo.measP (fun m => 0 < m ∧ m ≤ F) (fun m => F - m) Fr (fun m => .next (Fr (climb p F m)) st) (fun m hm ih => ?_) m ⟨hm, hm'⟩
  obtain ⟨h0, h1⟩ := hm
  have t := ht m h0 h1
  have h2 : m * 2 ≤ m * p := Nat.mul_le_mul_left m hp
  by_cases h : m * p ≤ F
  · rw [climb_step h hp h0]
    rw [decide_eq_true h] at t
    exact WhileTo.turn t (hb m h0 h1 h) (WhileTo.more (ih (m * p) ⟨by omega, h⟩ (by omega)) (by omega))
  · rw [climb_stop h]
    rw [decide_eq_false h] at t
    exact WhileTo.stop t

theorem calls_first_stage (hK : B.K = K39 B.w.params) {w N F : Nat} {P c : Nat × Nat} (hf : Fit w N) (hP : InN N P) (hc : InN N c) (h1 : 1 ≤ F) (h2 : F ≤ 1000) : Calls B bx 7 177 [pt w P, pt w c, nInt F, restsT w N] st (pt w (firstP N c F P)) st := by
  refine' calls_of ["point", "curve", "first", "rests"] [("point", .sh (pt w P)), ("curve", .sh (pt w c)), ("first", .sh (nInt F)), ("rests", .sh (restsT w N))] ?hl ?hc ?hb ?hx ?hlen ?hnd ?hk ?hco ?hgen ?hr ?h
  walk_at "my enter"
  case hb => exact all4 fun _ _ _ _ => rfl
  refine Exs.cons (ρ' := [("point", .sh (pt w (firstP N c F P))), ("curve", .sh (pt w c)), ("first", .sh (nInt F)), ("rests", .sh (restsT w N))]) (Ex1.for_ (t := .list ((primesTo F).map nInt)) (Ev.fn_ (Evs.c1 Ev.nm) (calls_primes hK h1 h2)) rfl rfl (by walk_at "my kd")
    (ForTo.go (fun i => [("point", .sh (pt w (((primesTo F).take i).foldl (fun P p => (lad N c P (climb p F p)).1) P))), ("curve", .sh (pt w c)), ("first", .sh (nInt F)), ("rests", .sh (restsT w N))]) (fun _ => st) (fun i hi => ?_) rfl rfl ?_)) (Exs.ret (Ex1.ret Ev.nm))
  · have hi' : i < (primesTo F).length := by simpa using hi
    obtain ⟨hp2, hpF⟩ := primesTo_le (List.getElem_mem hi')
    have e : ((primesTo F).take (i + 1)).foldl (fun P p => (lad N c P (climb p F p)).1) P = (lad N c (((primesTo F).take i).foldl (fun P p => (lad N c P (climb p F p)).1) P) (climb (primesTo F)[i] F (primesTo F)[i])).1 := by
      rw [List.take_add_one, List.getElem?_eq_getElem hi', List.foldl_append]; rfl
    have hin := foldl_in (F := F) (c := c) hf ((primesTo F).take i) hP
    rw [e]
    generalize ((primesTo F).take i).foldl (fun P p => (lad N c P (climb p F p)).1) P = P' at *
    refine ⟨[("point", .sh (pt w P')), ("curve", .sh (pt w c)), ("first", .sh (nInt F)), ("rests", .sh (restsT w N)), ("p", .sh (nInt (primesTo F)[i]))], by simp only [List.getElem_map]; walk_at "my set", ?_⟩
    generalize (primesTo F)[i] = p at *
    refine Exs.weak (ρ₁ := [("point", .sh (pt w (lad N c P' (climb p F p)).1)), ("curve", .sh (pt w c)), ("first", .sh (nInt F)), ("rests", .sh (restsT w N)), ("p", .sh (nInt p)), ("most", .sh (nInt (climb p F p)))]) ?_ (by walk_at "my sub")
    refine Exs.cons (ρ' := [("point", .sh (pt w P')), ("curve", .sh (pt w c)), ("first", .sh (nInt F)), ("rests", .sh (restsT w N)), ("p", .sh (nInt p)), ("most", .sh (nInt p))]) (Ex1.set Ev.nm) ?_
    refine Exs.cons (Ex1.while_ (climb_walk hp2 (fun m => [("point", .sh (pt w P')), ("curve", .sh (pt w c)), ("first", .sh (nInt F)), ("rests", .sh (restsT w N)), ("p", .sh (nInt p)), ("most", .sh (nInt m))]) (fun m h0 hm => ?_) (fun m h0 hm hmp => ?_) (by omega) hpF)) ?_
    · exact Tr.cmp (Ev.intE (b := ((m * p : Nat) : Int)) (Ev.mul Ev.nm Ev.nm (mulOkN (by omega))) (by push_cast; rfl)) Ev.nm (Cmp.cast Cmp.le (by rw [decide_eq_decide]; omega))
    · exact Exs.last (Ex1.imulE (c := ((m * p : Nat) : Int)) (by walk_at "my lk") Ev.nm (mulOkN (by omega)) (by walk_at "my kd") (by push_cast; rfl) (by walk_at "my set"))
    · have hcl := climb_le (p := p) hpF
      exact Exs.last (Ex1.set (Ev.fn_ (Evs.c4 Ev.nm Ev.nm Ev.nm Ev.nm) (calls_times_point hK hf hin hc (climb_pos (by omega)) (by omega))))
  · rw [List.length_map, List.take_length]; rfl
end
noncomputable def greatP (N : Nat) (c P : Nat × Nat) (W : Nat) : Nat → Nat × Nat
  | 0 => (lad N c P W).1
  | 1 => dblP N c (lad N c P W).1
  | i + 2 => joinP N (greatP N c P W (i + 1)) (lad N c P W).1 (greatP N c P W i)
noncomputable def termP (N : Nat) (c P : Nat × Nat) (W p : Nat) : Nat :=
  if (p + W / 2) / W = 0 ∨ ((p : Int) - ((p + W / 2) / W * W : Nat)).natAbs = 0 then (lad N c P p).1.2
  else crossP N (greatP N c P W ((p + W / 2) / W - 1)) (lad N c P ((p : Int) - ((p + W / 2) / W * W : Nat)).natAbs).1
noncomputable def secondP (N : Nat) (c P : Nat × Nat) (F S W : Nat) : Nat := ((primesTo S).filter fun p => decide (F < p)).foldl (fun f p => pr N f (termP N c P W p)) (1 % N)
section
variable {B : Bg} {bx : Bx} {n : Nat} {sc : Scope} {ρ ρ' : REnv} {st st₁ st₂ st₃ : BSt} {out : Out}
theorem great_in {w N W : Nat} {c P : Nat × Nat} (hf : Fit w N) (hP : InN N P) : ∀ i, InN N (greatP N c P W i)
  | 0 => (lad_in hf hP W).1
  | 1 => dbl_in hf
  | i + 2 => join_in hf
theorem Ev.lenOwn {x : Str} {np np' p : Pos} {ts : List T} {L : Nat} (e0 : ρ.lookup x = some (.own ts)) (hL : ts.length = L := by simp) (hz : L ≤ 2 ^ 24 := by omega) (k : sc.names.lookup ("len" : Str) = some .globalImplicit := by exact rfl) (e1 : nsIn B.K mainGlobals "len" = some none := by walk_at "my k")
    (hd : (x == ("__debug__" : Str)) = false := by decide) (hn : (x == ("__classdict__" : Str)) = false := by decide) (hp : ∀ env, starEach [.Name x np'] env = (false, eval (.Name x np') env) :: starEach [] env := by intro _; rfl) :
    Ev B bx n sc ρ st (.Call (.Name "len" np) [.Name x np'] [] p) (nInt L) st :=
  Ev.forget (ρ' := [(x, .own ts)]) (SubEnv.cons e0 SubEnv.nil) (Ev.lend (x := x) (ts := ts) (ρ' := [(x, .sh (.list ts))]) lookup_eq SetTo.here (onlyOwn_of (by simp)) (Ev.lenS (Ev.name lookup_eq hd hn) hL hz k e1 hp) rfl)
noncomputable abbrev greatT (w N : Nat) (c P : Nat × Nat) (W L : Nat) : List T := (List.range L).map fun i => pt w (greatP N c P W i)
theorem greatT_get {w N W L i : Nat} {c P : Nat × Nat} (h : i < L) : (greatT w N c P W L)[i]? = some (pt w (greatP N c P W i)) := by simp [h]
theorem greatT_succ {w N W L : Nat} {c P : Nat × Nat} : greatT w N c P W L ++ [pt w (greatP N c P W L)] = greatT w N c P W (L + 1) := by
  show _ = List.map _ _
  rw [List.range_succ, List.map_append]; rfl

/-- the small multiples that were laid by -/
noncomputable def Laid (w N : Nat) (c P : Nat × Nat) (kvs : List (Int × T)) : Prop := (kvs.map (·.1)).Nodup ∧ ∀ k t, kvs.lookup k = some t → t = pt w (lad N c P k.toNat).1
noncomputable abbrev sEnv (w N : Nat) (c P : Nat × Nat) (F S W L f : Nat) (kvs : List (Int × T)) (r : REnv) : REnv :=
  ("point", .sh (pt w P)) :: ("curve", .sh (pt w c)) :: ("first", .sh (nInt F)) :: ("second", .sh (nInt S)) :: ("width", .sh (nInt W)) :: ("rests", .sh (restsT w N)) :: ("small", .odict kvs) :: ("one", .sh (pt w (lad N c P W).1)) :: ("great", .own (greatT w N c P W L)) :: ("found", .sh (row w f)) :: r

theorem lookup_none_mem : ∀ {kvs : List (Int × T)} {k : Int}, kvs.lookup k = none → k ∉ kvs.map (·.1)
  | [], _, _, h => by simp at h
  | q :: r, k, e, h => by
    rw [List.lookup_cons] at e
    rw [List.map_cons, List.mem_cons] at h
    cases hb : k == q.1 with
    | true => rw [hb] at e; cases e
    | false =>
      rw [hb] at e
      rcases h with h | h
      · simp [h] at hb
      · exact lookup_none_mem e h
theorem nodup_snoc {kvs : List (Int × T)} {k : Int} {t : T} (h : (kvs.map (·.1)).Nodup) (hk : kvs.lookup k = none) : ((kvs ++ [(k, t)]).map (·.1)).Nodup := by
  rw [List.map_append, List.nodup_append]
  refine ⟨h, by simp, ?_⟩
  intro a ha b hb e
  simp at hb
  subst hb e
  exact lookup_none_mem hk ha
theorem lookup_snoc {kvs : List (Int × T)} {k k' : Int} {t t' : T} (h : (kvs ++ [(k, t)]).lookup k' = some t') : kvs.lookup k' = some t' ∨ (k' = k ∧ t' = t) := by
  induction kvs with
  | nil =>
    rw [List.nil_append, List.lookup_cons] at h
    cases hb : k' == k with
    | true => rw [hb] at h; cases h; exact .inr ⟨by simpa using hb, rfl⟩
    | false => rw [hb] at h; cases h
  | cons q r ih =>
    rw [List.cons_append, List.lookup_cons] at h
    rw [List.lookup_cons]
    cases hb : k' == q.1 with
    | true => rw [hb] at h; exact .inl h
    | false => rw [hb] at h; exact ih h
theorem lookup_snoc_new {kvs : List (Int × T)} {k : Int} {t : T} (h : kvs.lookup k = none) : (kvs ++ [(k, t)]).lookup k = some t := by
  induction kvs with
  | nil => simp
  | cons q r ih =>
    rw [List.lookup_cons] at h
    rw [List.cons_append, List.lookup_cons]
    cases hb : k == q.1 with
    | true => rw [hb] at h; cases h
    | false => rw [hb] at h; exact ih h
theorem Laid.snoc {w N : Nat} {c P : Nat × Nat} {kvs : List (Int × T)} (h : Laid w N c P kvs) {k : Nat} (hk : kvs.lookup (k : Int) = none) : Laid w N c P (kvs ++ [((k : Int), pt w (lad N c P k).1)]) := by
  refine ⟨nodup_snoc h.1 hk, fun k' t e => ?_⟩
  rcases lookup_snoc e with e | ⟨rfl, rfl⟩
  · exact h.2 k' t e
  · simp

theorem Exs.forX {α : Type} {x : Str} {px p : Pos} {e : Expr} {body ss : List Stmt} {t : T} {ts : List T} (Fr : α → REnv) (h : Ev B bx n sc ρ st e t st₁) (ht : t.items = some ts) (hr : t.rangeOK = true) (k : sc.names.lookup x = some .local ∨ sc.names.lookup x = some .cell)
    (hf : ∃ a, ForTo B bx n sc x body ts ρ st₁ (.next (Fr a) st₂)) (h' : ∀ a, Exs B bx n sc (Fr a) st₂ ss out) (hs : ∀ env x, foldedSetIterable e env x = pure x := by intro _ _; rfl) : Exs B bx n sc ρ st (.For (.Name x px) e body [] p :: ss) out := by
  obtain ⟨a, hf⟩ := hf
  exact Exs.cons (Ex1.for_ h ht hr k hf hs) (h' a)
theorem second_loop {w N F S W : Nat} {P c : Nat × Nat} (hf : Fit w N) : ∀ sc' body, (∀ p, 2 ≤ p → p ≤ S → ∀ L kvs f, 2 ≤ L → L ≤ 2000 → kvs.length ≤ 10000 → Laid w N c P kvs → f < N → ∃ L' kvs', 2 ≤ L' ∧ L' ≤ 2000 ∧ kvs'.length ≤ kvs.length + 1 ∧ Laid w N c P kvs' ∧
      Exs B bx 6 sc' (sEnv w N c P F S W L f kvs [("p", .sh (nInt p))]) st body (.next (sEnv w N c P F S W L' (pr N f (termP N c P W p)) kvs' []) st)) →
      ∀ (l : List Nat), (∀ p ∈ l, 2 ≤ p ∧ p ≤ S) → ∀ L kvs f, 2 ≤ L → L ≤ 2000 → kvs.length + l.length ≤ 10000 → Laid w N c P kvs → f < N →
      ∃ L' kvs', ForTo B bx 6 sc' "p" body (l.map nInt) (sEnv w N c P F S W L f kvs []) st (.next (sEnv w N c P F S W L' (l.foldl (fun f p => pr N f (termP N c P W p)) f) kvs' []) st) := by
    intro sc' body hbody l
    induction l with
    | nil => intro _ L kvs f _ _ _ _ _; exact ⟨L, kvs, ForTo.nil⟩
    | cons p l ih =>
      intro hl L kvs f h1 h2 h3 h4 h5
      rw [List.length_cons] at h3
      obtain ⟨L', kvs', a1, a2, a3, a4, a5⟩ := hbody p (hl p (.head _)).1 (hl p (.head _)).2 L kvs f h1 h2 (by omega) h4 h5
      obtain ⟨L'', kvs'', b⟩ := ih (fun q hq => hl q (.tail _ hq)) L' kvs' _ a1 a2 (by omega) a4 (pr_lt hf)
      exact ⟨L'', kvs'', ForTo.cons (by walk_at "my set") a5 b⟩

theorem calls_second (hK : B.K = K39 B.w.params) {w N F S W : Nat} {P c : Nat × Nat} (hf : Fit w N) (hP : InN N P) (hc : InN N c) (hS1 : 1 ≤ S) (hS : S ≤ 1000) (hW : 2 ≤ W) (hW' : W ≤ 1000) :
    Calls B bx 7 189 [pt w P, pt w c, nInt F, nInt S, nInt W, restsT w N] st (row w (secondP N c P F S W)) st := by
  refine' calls_of ["point", "curve", "first", "second", "width", "rests"] [("point", .sh (pt w P)), ("curve", .sh (pt w c)), ("first", .sh (nInt F)), ("second", .sh (nInt S)), ("width", .sh (nInt W)), ("rests", .sh (restsT w N))] ?hl ?hc ?hb ?hx ?hlen ?hnd ?hk ?hco ?hgen ?hr ?h
  walk_at "my enter"
  case hb => exact all6 fun _ _ _ _ _ _ => rfl
  obtain ⟨c1, c2⟩ := id hc
  have o1 := (lad_in (c := c) hf hP W).1
  refine Exs.cons (ρ' := [("point", .sh (pt w P)), ("curve", .sh (pt w c)), ("first", .sh (nInt F)), ("second", .sh (nInt S)), ("width", .sh (nInt W)), ("rests", .sh (restsT w N)), ("small", .odict [])]) (Ex1.dictNew (by walk_at "my kd") (by walk_at "my set")) ?_
  refine Exs.cons (ρ' := [("point", .sh (pt w P)), ("curve", .sh (pt w c)), ("first", .sh (nInt F)), ("second", .sh (nInt S)), ("width", .sh (nInt W)), ("rests", .sh (restsT w N)), ("small", .odict []), ("one", .sh (pt w (lad N c P W).1))]) (Ex1.set (Ev.fn_ (Evs.c4 Ev.nm Ev.nm Ev.nm Ev.nm) (calls_times_point hK hf hP hc (by omega) (by omega)))) ?_
  refine Exs.cons (ρ' := [("point", .sh (pt w P)), ("curve", .sh (pt w c)), ("first", .sh (nInt F)), ("second", .sh (nInt S)), ("width", .sh (nInt W)), ("rests", .sh (restsT w N)), ("small", .odict []), ("one", .sh (pt w (lad N c P W).1)), ("great", .own [pt w (lad N c P W).1, pt w (dblP N c (lad N c P W).1)])]) (Ex1.ownNew (ts := [pt w (lad N c P W).1, pt w (dblP N c (lad N c P W).1)]) (Evs.c2 Ev.nm (Ev.fn_ (Evs.c3 Ev.nm Ev.nm Ev.nm) (calls_doubled hK hf o1 hc))) (by walk_at "my kd") (by walk_at "my set")) ?_
  rw [show [pt w (lad N c P W).1, pt w (dblP N c (lad N c P W).1)] = greatT w N c P W 2 from rfl]
  refine Exs.cons (ρ' := [("point", .sh (pt w P)), ("curve", .sh (pt w c)), ("first", .sh (nInt F)), ("second", .sh (nInt S)), ("width", .sh (nInt W)), ("rests", .sh (restsT w N)), ("small", .odict []), ("one", .sh (pt w (lad N c P W).1)), ("great", .own (greatT w N c P W 2)), ("found", .sh (row w (1 % N)))]) (Ex1.set (Ev.rplain (x := 1) hK hf Ev.int)) ?_
  have hlen : (primesTo S).length ≤ 1000 := Nat.le_trans (primesN_len _) (by omega)
  have hmem : ∀ p ∈ (primesTo S).filter (fun p => decide (F < p)), 2 ≤ p ∧ p ≤ S := fun p hp => primesTo_le (List.mem_filter.mp hp).1
  have hfl : ((primesTo S).filter fun p => decide (F < p)).length ≤ 1000 := Nat.le_trans (List.length_filter_le _ _) hlen
  refine Exs.forX (st₁ := st) (st₂ := st) (t := .list (((primesTo S).filter fun p => decide (F < p)).map nInt)) (fun p : Nat × List (Int × T) => sEnv w N c P F S W p.1 (secondP N c P F S W) p.2 []) (Ev.compK (t := .list ((primesTo S).map nInt)) [("first", .sh (nInt F))] ["first"] (Ev.fn_ (Evs.c1 Ev.nm) (calls_primes hK hS1 hS)) ?_) rfl rfl (by walk_at "my kd") ?_ (fun p => Exs.ret (Ex1.ret Ev.nm))
  · exact CompTo.filter (g := nInt) (f := nInt) (p := fun p => decide (F < p)) (fun p hp => Tr.cmp Ev.nm Ev.nm (Cmp.cast Cmp.gt (by rw [decide_eq_decide]; omega))) (fun p hp _ => Ev.nm)
  refine Exists.elim (second_loop (F := F) (S := S) hf _ _ (fun p hp2 hpS L kvs f h1 h2 h3 h4 h5 => ?_) _ hmem 2 [] (1 % N) (by omega) (by omega) (by simp; omega) ⟨by simp, fun k t e => by simp at e⟩ (md_lt hf)) fun L' h => Exists.elim h fun kvs' h => ⟨(L', kvs'), h⟩
  obtain ⟨many, hmany⟩ : ∃ many, (p + W / 2) / W = many := ⟨_, rfl⟩
  obtain ⟨steps, hsteps⟩ : ∃ steps, ((p : Int) - (many * W : Nat)).natAbs = steps := ⟨_, rfl⟩
  have hterm : termP N c P W p = if many = 0 ∨ steps = 0 then (lad N c P p).1.2 else crossP N (greatP N c P W (many - 1)) (lad N c P steps).1 := by rw [termP, hmany, hsteps]
  have hmany1 : many ≤ 1500 := by
    rw [← hmany]
    refine Nat.le_trans (Nat.div_le_self _ _) ?_
    omega
  have hsteps1 : steps ≤ 1600000 := by
    have : many * W ≤ 1500 * 1000 := Nat.mul_le_mul hmany1 hW'
    omega
  have hL' : max L many ≤ 2000 := by omega
  -- ahead of the fork
  have fork : ∃ kvs', kvs'.length ≤ kvs.length + 1 ∧ Laid w N c P kvs' ∧ (many = 0 ∨ steps = 0 → kvs' = kvs) ∧ (¬ (many = 0 ∨ steps = 0) → kvs'.lookup (steps : Int) = some (pt w (lad N c P steps).1) ∧
      ((kvs.lookup (steps : Int) = none ∧ kvs' = kvs ++ [((steps : Int), pt w (lad N c P steps).1)]) ∨ ((kvs.lookup (steps : Int)).isSome = true ∧ kvs' = kvs))) := by
    by_cases hz : many = 0 ∨ steps = 0
    · exact ⟨kvs, by omega, h4, fun _ => rfl, fun h => absurd hz h⟩
    · cases hl : kvs.lookup (steps : Int) with
      | none => exact ⟨_, by simp, h4.snoc hl, fun h => absurd h hz, fun _ => ⟨lookup_snoc_new hl, .inl ⟨rfl, rfl⟩⟩⟩
      | some t =>
        have := h4.2 _ _ hl
        rw [Int.toNat_natCast] at this
        exact ⟨kvs, by omega, h4, fun _ => rfl, fun _ => ⟨by rw [hl, this], .inr ⟨rfl, rfl⟩⟩⟩
  obtain ⟨kvs', k1, k2, k3, k4⟩ := fork
  refine ⟨max L many, kvs', by omega, hL', k1, k2, ?_⟩
  refine Exs.weak (ρ₁ := sEnv w N c P F S W (max L many) (pr N f (termP N c P W p)) kvs' [("p", .sh (nInt p)), ("many", .sh (nInt many)), ("steps", .sh (nInt steps))]) ?_ (by walk_at "my sub")
  refine Exs.cons (Ex1.set (Ev.intE (b := ((many : Nat) : Int)) (Ev.div (Ev.intE (b := ((p + W / 2 : Nat) : Int)) (Ev.add Ev.nm (Ev.intE (b := ((W / 2 : Nat) : Int)) (Ev.div Ev.nm Ev.int (by omega) (by omega)) (by push_cast; rfl))) (by push_cast; rfl)) Ev.nm (by omega) (by omega)) (by rw [← hmany]; push_cast; rfl))) ?_
  refine Exs.cons (Ex1.set (Ev.intE (b := ((steps : Nat) : Int)) (Ev.abs (Ev.sub Ev.nm (Ev.mul Ev.nm Ev.nm (mulOkN (by omega)))) rfl (by walk_at "my k")) (by rw [← hsteps]; push_cast; rfl))) ?_
  refine Exs.cons (st₁ := st) (ρ' := sEnv w N c P F S W (max L many) f kvs [("p", .sh (nInt p)), ("many", .sh (nInt many)), ("steps", .sh (nInt steps))]) (Ex1.while_ (k := many - L + 1) ?w) ?_
  case w =>
    refine WhileTo.measP (fun L => 2 ≤ L ∧ L ≤ 2000) (fun L => many - L) (fun L => sEnv w N c P F S W L f kvs [("p", .sh (nInt p)), ("many", .sh (nInt many)), ("steps", .sh (nInt steps))]) (fun L => .next (sEnv w N c P F S W (max L many) f kvs [("p", .sh (nInt p)), ("many", .sh (nInt many)), ("steps", .sh (nInt steps))]) st) (fun L hL ih => ?_) L ⟨h1, h2⟩
    by_cases hlt : L < many
    · have rest := ih (L + 1) ⟨by omega, by omega⟩ (by omega)
      rw [show max (L + 1) many = max L many by omega] at rest
      have e3 : greatP N c P W L = joinP N (greatP N c P W (L - 1)) (lad N c P W).1 (greatP N c P W (L - 2)) := by
        obtain ⟨j, rfl⟩ : ∃ j, L = j + 2 := ⟨L - 2, by omega⟩
        rfl
      refine WhileTo.turn (Tr.cmp (Ev.lenOwn (L := L) (by walk_at "my lk")) Ev.nm (Cmp.ltT (by omega))) (Exs.last (Ex1.appendE (t' := pt w (greatP N c P W L)) (us := greatT w N c P W (L + 1)) (by walk_at "my lk") ?_ rfl greatT_succ (by walk_at "my set") (by simp [sizeLine]; omega) (by walk_at "my he"))) (WhileTo.more rest (by omega))
      rw [e3]
      exact Ev.fn_ (Evs.c4 (Ev.ownItem (ts := greatT w N c P W L) (k := ((L - 1 : Nat) : Int)) (by walk_at "my lk") (Ev.intE (Ev.sub (Ev.lenOwn (L := L) (by walk_at "my lk")) Ev.int) (by omega)) (by omega) (by rw [Int.toNat_natCast]; exact greatT_get (by omega)) (by simp; omega)) Ev.nm
        (Ev.ownItem (ts := greatT w N c P W L) (k := ((L - 2 : Nat) : Int)) (by walk_at "my lk") (Ev.intE (Ev.sub (Ev.lenOwn (L := L) (by walk_at "my lk")) Ev.int) (by omega)) (by omega) (by rw [Int.toNat_natCast]; exact greatT_get (by omega)) (by simp; omega)) Ev.nm) (calls_joined hK hf (great_in hf hP _) o1 (great_in hf hP _))
    · rw [show max L many = L by omega]
      exact WhileTo.stop (Tr.cmp (Ev.lenOwn (L := L) (by walk_at "my lk")) Ev.nm (Cmp.ltF (by omega)))
  rw [hterm]
  by_cases hz : many = 0 ∨ steps = 0
  · rw [if_pos hz, k3 hz]
    refine Exs.last (Ex1.if_true (Tr.ops ?_) (Exs.last (Ex1.set (Ev.rprod hK hf Ev.nm (Ev.t1 (Ev.fn_ (Evs.c4 Ev.nm Ev.nm Ev.nm Ev.nm) (calls_times_point hK hf hP hc (by omega) (by omega)))) (hy := (lad_in hf hP p).1.2)))))
    by_cases hm : many = 0
    · exact Trs.or_true (Tr.cmp Ev.nm Ev.int (Cmp.eqT (by omega)))
    · exact Trs.or_false (Tr.cmp Ev.nm Ev.int (Cmp.eqF (by omega))) (Trs.or_true (Tr.cmp Ev.nm Ev.int (Cmp.eqT (by omega))))
  · rw [if_neg hz]
    obtain ⟨k5, k6⟩ := k4 hz
    refine Exs.last (Ex1.if_false (Tr.ops (Trs.or_false (Tr.cmp Ev.nm Ev.int (Cmp.eqF (by omega))) (Trs.or_false (Tr.cmp Ev.nm Ev.int (Cmp.eqF (by omega))) Trs.or_nil))) ?_)
    refine Exs.cons (ρ' := sEnv w N c P F S W (max L many) f kvs' [("p", .sh (nInt p)), ("many", .sh (nInt many)), ("steps", .sh (nInt steps))]) (st₁ := st) ?_ ?_
    · rcases k6 with ⟨hl, rfl⟩ | ⟨hl, rfl⟩
      · exact Ex1.if_true (Tr.notInDict (k := (steps : Int)) (by walk_at "my lk") h4.1 Ev.nm (by rw [hl]; rfl)) (Exs.last (Ex1.dictSet (k := (steps : Int)) (by walk_at "my lk") h4.1 (Ev.fn_ (Evs.c4 Ev.nm Ev.nm Ev.nm Ev.nm) (calls_times_point hK hf hP hc (by omega) (by omega))) Ev.nm hl (by simp [sizeLine]; omega) (by walk_at "my set")))
      · exact Ex1.if_false (Tr.notInDict (k := (steps : Int)) (by walk_at "my lk") h4.1 Ev.nm (by rw [hl]; rfl)) Exs.nil
    · exact Exs.last (Ex1.set (Ev.rprod hK hf Ev.nm (Ev.fn_ (Evs.c3 (Ev.ownItem (ts := greatT w N c P W (max L many)) (k := ((many - 1 : Nat) : Int)) (by walk_at "my lk") (Ev.intE (Ev.sub Ev.nm Ev.int) (by omega)) (by omega) (by rw [Int.toNat_natCast]; exact greatT_get (by omega)) (by simp; omega)) (Ev.dictGet (k := (steps : Int)) (by walk_at "my lk") k2.1 Ev.nm k5) Ev.nm) (calls_crossing hK hf (great_in hf hP _) (lad_in hf hP steps).1)) (hy := mi_lt hf)))
end
section
variable {B : Bg} {bx : Bx} {n : Nat} {sc : Scope} {ρ ρ' : REnv} {st st₁ st₂ st₃ : BSt} {out : Out}
theorem calls_Rests (hK : B.K = K39 B.w.params) {w N : Nat} : Calls B bx 3 133 [row w N, nInt w, .fn 245, .fn 252] st (restsT w N) st := by
  refine calls_init (B := B) (bx := bx) (look_of hK (by exact rfl)) (codeIn_of hK (by exact rfl)) ?hb (by decide) rfl rfl rfl (by rw [hK]; rfl) (by rw [hK]; rfl) (by rw [hK]; rfl) (by rw [hK]; rfl) (by rw [hK]; rfl) (by rw [hK]; rfl) (by rw [hK]; rfl) (by rw [hK]; rfl) (by rw [hK]; rfl) (by rw [hK]; rfl) rfl
  case hb => exact all5 fun _ _ _ _ _ => rfl

noncomputable def proper (N g : Nat) : Option Nat := if 1 < g ∧ g < N then some g else none
noncomputable def byCurve (N s F S W : Nat) : Option Nat :=
  let cp := suyP N s
  let g1 := Nat.gcd cp.1.2 N
  if 1 < g1 then proper N g1 else
    let P := firstP N cp.1 F cp.2
    let g2 := Nat.gcd P.2 N
    proper N (if g2 = 1 then Nat.gcd (secondP N cp.1 P F S W) N else g2)
noncomputable def optT (w : Nat) : Option Nat → T
  | none => .none
  | some g => row w g
theorem Ev.proper (hK : B.K = K39 B.w.params) {w N g : Nat} {x : Str} {np np' np'' ap p p' : Pos} {k : Nat} {kp ip : Pos} (hf : Fit w N) (hg : g < 2 ^ 64) (l : 2 ≤ n) (k1 : sc.names.lookup ("is_proper_part" : Str) = some .globalImplicit) (e0 : ρ.lookup x = some (.sh (row w g))) (e1 : ρ.lookup ("rests" : Str) = some (.sh (restsT w N)))
    (hd : (x == ("__debug__" : Str)) = false := by decide) (hn : (x == ("__classdict__" : Str)) = false := by decide)
    (hq1 : ∀ env, starEach [.Name x np', .Attribute (.Name "rests" np) "n" ap] env = (false, eval (.Name x np') env) :: starEach [.Attribute (.Name "rests" np) "n" ap] env := by intro _; rfl)
    (hq2 : ∀ env, starEach [.Attribute (.Name "rests" np) "n" ap] env = (false, eval (.Attribute (.Name "rests" np) "n" ap) env) :: starEach [] env := by intro _; rfl) :
    Ev B bx n sc ρ st (.IfExp (.Call (.Name "is_proper_part" np'') [.Name x np', .Attribute (.Name "rests" np) "n" ap] [] p) (.Name x p') (.Constant .none k kp) ip) (optT w (Mine.proper N g)) st := by
  have hN : N < 2 ^ 64 := Nat.lt_trans hf.lt (by decide)
  have hc := calls_proper (bx := bx) (st := st) hK (w := w) (g := g) (N := N) hf.w1 hg hN
  have ht : Tr B bx n sc ρ st (.Call (.Name "is_proper_part" np'') [.Name x np', .Attribute (.Name "rests" np) "n" ap] [] p) (decide (1 < g) && decide (g < N)) st :=
    Tr.bool (Ev.fn_ (Evs.c2 (Ev.name e0 hd hn) (Ev.an hK e1) hq1 hq2) hc l (by decide) k1 (hp := hq1))
  unfold Mine.proper
  by_cases h : 1 < g ∧ g < N
  · rw [if_pos h]
    rw [decide_eq_true h.1, decide_eq_true h.2] at ht
    exact Ev.if_true ht (Ev.name e0 hd hn)
  · rw [if_neg h]
    have : (decide (1 < g) && decide (g < N)) = false := by
      rw [Bool.and_eq_false_iff, decide_eq_false_iff_not, decide_eq_false_iff_not]
      omega
    rw [this] at ht
    exact Ev.if_false ht Ev.cnone

theorem second_lt {w N F S W : Nat} {c P : Nat × Nat} (hf : Fit w N) : secondP N c P F S W < N := by
  unfold secondP
  generalize (primesTo S).filter (fun p => decide (F < p)) = l
  have : ∀ (l : List Nat) f, f < N → l.foldl (fun f p => pr N f (termP N c P W p)) f < N := by
    intro l
    induction l with
    | nil => exact fun f h => h
    | cons p l ih => exact fun f h => ih _ (pr_lt hf)
  exact this l _ (md_lt hf)
theorem gcd_lt {N a : Nat} (hN : 0 < N) (h : N < 2 ^ 30) : Nat.gcd a N < 2 ^ 64 := by
  have := Nat.le_of_dvd hN (Nat.gcd_dvd_right a N)
  omega
theorem first_in {w N F : Nat} {c P : Nat × Nat} (hf : Fit w N) (h : InN N P) : InN N (firstP N c F P) := foldl_in hf _ h

theorem calls_by_curve (hK : B.K = K39 B.w.params) {w N s F S W : Nat} (hf : Fit w N) (hs : s < 2 ^ 16) (hF : 1 ≤ F) (hF' : F ≤ 1000) (hS : 1 ≤ S) (hS' : S ≤ 1000) (hW : 2 ≤ W) (hW' : W ≤ 1000) :
    Calls B bx 8 203 [nInt s, nInt F, nInt S, nInt W, restsT w N] st (optT w (byCurve N s F S W)) st := by
  refine' calls_of ["sigma", "first", "second", "width", "rests"] [("sigma", .sh (nInt s)), ("first", .sh (nInt F)), ("second", .sh (nInt S)), ("width", .sh (nInt W)), ("rests", .sh (restsT w N))] ?hl ?hc ?hb ?hx ?hlen ?hnd ?hk ?hco ?hgen ?hr ?h
  walk_at "my enter"
  case hb => exact all5 fun _ _ _ _ _ => rfl
  obtain ⟨hc, hP⟩ := suy_in (s := s) hf
  have hb2 := two_le_pow hf.w1
  have l1 := len_row (N := 1) hf.w1 (by decide)
  unfold byCurve
  dsimp only
  generalize hc' : (suyP N s).1 = c at *
  generalize hP' : (suyP N s).2 = P at *
  refine Exs.cons (ρ' := [("sigma", .sh (nInt s)), ("first", .sh (nInt F)), ("second", .sh (nInt S)), ("width", .sh (nInt W)), ("rests", .sh (restsT w N)), ("curve", .sh (pt w c)), ("point", .sh (pt w P))])
    (Ex1.unp2 (t := pt w c) (u := pt w P) (Ev.cast (Ev.fn_ (Evs.c2 Ev.nm Ev.nm) (calls_suyama hK hf hs)) (by rw [hc', hP']))) ?_
  have g1 := gcd_lt (a := c.2) hf.pos hf.lt
  refine Exs.cons (Ex1.set (Ev.me hK Ev.nm (Evs.c1 (Ev.t1 Ev.nm)) (calls_common hK hf hc.2))) ?_
  have c1 := calls_compare (bx := bx) (st := st) hK (M := Nat.gcd c.2 N) (N := 1) hb2 (len_row hf.w1 g1) l1
  by_cases h1 : 1 < Nat.gcd c.2 N
  · rw [if_pos h1]
    refine Exs.ret (Ex1.if_true (Tr.cmp (Ev.fn_ (Evs.c2 Ev.nm (Ev.one_row hf.w1)) c1) Ev.int (Cmp.cast Cmp.gt (by rw [cmpN_gt, decide_eq_true h1]))) (Exs.ret (Ex1.ret (Ev.proper hK hf g1 (by omega) rfl (by walk_at "my lk") (by walk_at "my lk")))))
  · rw [if_neg h1]
    refine Exs.cons (Ex1.if_false (Tr.cmp (Ev.fn_ (Evs.c2 Ev.nm (Ev.one_row hf.w1)) c1) Ev.int (Cmp.cast Cmp.gt (by rw [cmpN_gt, decide_eq_false h1]))) Exs.nil) ?_
    have hP1 := first_in (F := F) (c := c) hf hP
    refine Exs.cons (Ex1.set (Ev.fn_ (Evs.c4 Ev.nm Ev.nm Ev.nm Ev.nm) (calls_first_stage hK hf hP hc hF hF'))) ?_
    generalize firstP N c F P = P1 at *
    have g2 := gcd_lt (a := P1.2) hf.pos hf.lt
    refine Exs.cons (Ex1.set (Ev.me hK Ev.nm (Evs.c1 (Ev.t1 Ev.nm)) (calls_common hK hf hP1.2))) ?_
    have c2 := calls_compare (bx := bx) (st := st) hK (M := Nat.gcd P1.2 N) (N := 1) hb2 (len_row hf.w1 g2) l1
    have hz : decide (cmpN (Nat.gcd P1.2 N) 1 = 0) = decide (Nat.gcd P1.2 N = 1) := by
      rw [decide_eq_decide]; unfold cmpN
      split
      · omega
      · split <;> omega
    refine Exs.cons (st₁ := st) (ρ' := [("sigma", .sh (nInt s)), ("first", .sh (nInt F)), ("second", .sh (nInt S)), ("width", .sh (nInt W)), ("rests", .sh (restsT w N)), ("curve", .sh (pt w c)), ("point", .sh (pt w P1)), ("found", .sh (row w (if Nat.gcd P1.2 N = 1 then Nat.gcd (secondP N c P1 F S W) N else Nat.gcd P1.2 N)))]) ?_ (Exs.ret (Ex1.ret (Ev.proper hK hf ?_ (by omega) rfl (by walk_at "my lk") (by walk_at "my lk"))))
    · by_cases h2 : Nat.gcd P1.2 N = 1
      · rw [if_pos h2]
        refine Ex1.if_true (Tr.cmp (Ev.fn_ (Evs.c2 Ev.nm (Ev.one_row hf.w1)) c2) Ev.int (Cmp.cast Cmp.eq (by rw [hz, decide_eq_true h2]))) (Exs.last (Ex1.set (Ev.me hK Ev.nm (Evs.c1 (Ev.fn_ (Evs.cons Ev.nm (Evs.cons Ev.nm (Evs.c4 Ev.nm Ev.nm Ev.nm Ev.nm))) (calls_second hK hf hP1 hc hS hS' hW hW'))) (calls_common hK hf (second_lt hf)))))
      · rw [if_neg h2]
        exact Ex1.if_false (Tr.cmp (Ev.fn_ (Evs.c2 Ev.nm (Ev.one_row hf.w1)) c2) Ev.int (Cmp.cast Cmp.eq (by rw [hz, decide_eq_false h2]))) Exs.nil
    · split
      · exact gcd_lt hf.pos hf.lt
      · exact g2
end
section
variable {B : Bg} {bx : Bx} {n : Nat} {sc : Scope} {ρ ρ' : REnv} {st st₁ st₂ st₃ : BSt} {out : Out}
noncomputable def byCurves (N F S W : Nat) : List Nat → Option (Nat × Nat)
  | [] => none
  | s :: ss => match byCurve N s F S W with
    | some g => some (g, s)
    | none => byCurves N F S W ss
noncomputable def optT2 (w : Nat) : Option (Nat × Nat) → T
  | none => .none
  | some p => .tup [row w p.1, nInt p.2]
theorem calls_by_curves (hK : B.K = K39 B.w.params) {w N F S W : Nat} {ss : List Nat} (hf : Fit w N) (hs : ∀ s ∈ ss, s < 2 ^ 16) (hF : 1 ≤ F) (hF' : F ≤ 1000) (hS : 1 ≤ S) (hS' : S ≤ 1000) (hW : 2 ≤ W) (hW' : W ≤ 1000) :
    Calls B bx 9 210 [row w N, .list (ss.map nInt), nInt F, nInt S, nInt W, nInt w, .fn 245, .fn 252] st (optT2 w (byCurves N F S W ss)) st := by
  refine' calls_of ["n", "sigmas", "first", "second", "width", "w", "times", "quot_rem"] [("n", .sh (row w N)), ("sigmas", .sh (.list (ss.map nInt))), ("first", .sh (nInt F)), ("second", .sh (nInt S)), ("width", .sh (nInt W)), ("w", .sh (nInt w)), ("times", .sh (.fn 245)), ("quot_rem", .sh (.fn 252))] ?hl ?hc ?hb ?hx ?hlen ?hnd ?hk ?hco ?hgen ?hr ?h
  walk_at "my enter"
  case hb => exact all8 fun _ _ _ _ _ _ _ _ => rfl
  refine Exs.cons (Ex1.set (Ev.fn_ (Evs.c4 Ev.nm Ev.nm Ev.nm Ev.nm) (calls_Rests hK))) ?_
  have loop : ∀ sc' body (ρ : REnv) (gr : Nat → REnv), (∀ s ∈ ss, Exs B bx 8 sc' (gr s) st body (match byCurve N s F S W with | some g => .ret (.tup [row w g, nInt s]) st | none => .next ρ st)) → (∀ s, SetTo ("sigma" : Str) (.sh (nInt s)) ρ (gr s)) →
      ForTo B bx 8 sc' "sigma" body (ss.map nInt) ρ st (match byCurves N F S W ss with | some p => .ret (.tup [row w p.1, nInt p.2]) st | none => .next ρ st) := by
    intro sc' body ρ gr
    clear hs
    induction ss with
    | nil => intro _ _; exact ForTo.nil
    | cons s ss ih =>
      intro h hset
      have h0 := h s (.head _)
      unfold byCurves
      cases hb : byCurve N s F S W with
      | some g =>
        rw [hb] at h0
        exact ForTo.leave (hset s) h0
      | none =>
        rw [hb] at h0
        exact ForTo.cons (hset s) h0 (ih (fun s' hs' => h s' (.tail _ hs')) hset)
  have fin := fun sc' body h hset => loop sc' body [("n", .sh (row w N)), ("sigmas", .sh (.list (ss.map nInt))), ("first", .sh (nInt F)), ("second", .sh (nInt S)), ("width", .sh (nInt W)), ("w", .sh (nInt w)), ("times", .sh (.fn 245)), ("quot_rem", .sh (.fn 252)), ("rests", .sh (restsT w N))] (fun s => [("n", .sh (row w N)), ("sigmas", .sh (.list (ss.map nInt))), ("first", .sh (nInt F)), ("second", .sh (nInt S)), ("width", .sh (nInt W)), ("w", .sh (nInt w)), ("times", .sh (.fn 245)), ("quot_rem", .sh (.fn 252)), ("rests", .sh (restsT w N)), ("sigma", .sh (nInt s))]) h hset
  clear loop
  have step : ∀ {s : Stmt} {r : List Stmt} {ρ ρ₁ : REnv} {sc' : Scope}, Ex1 B bx 8 sc' ρ st s (match byCurves N F S W ss with | some p => .ret (.tup [row w p.1, nInt p.2]) st | none => .next ρ₁ st) → Exs B bx 8 sc' ρ₁ st r (.ret .none st) → Exs B bx 8 sc' ρ st (s :: r) (.ret (optT2 w (byCurves N F S W ss)) st) := by
    intro s r ρ ρ₁ sc' h1 h2
    cases hb : byCurves N F S W ss with
    | none => rw [hb] at h1; exact Exs.cons h1 h2
    | some p => rw [hb] at h1; exact Exs.ret h1
  refine step (Ex1.for_ (t := .list (ss.map nInt)) Ev.nm rfl rfl (by walk_at "my kd") (fin _ _ (fun s hm => ?_) fun s => ?_)) (Exs.ret (Ex1.ret Ev.cnone))
  · have hb := calls_by_curve (bx := bx) (st := st) hK (w := w) (N := N) (s := s) hf (hs s hm) hF hF' hS hS' hW hW'
    refine Exs.cons (Ex1.set (Ev.fn_ (Evs.cons Ev.nm (Evs.c4 Ev.nm Ev.nm Ev.nm Ev.nm)) hb)) ?_
    cases byCurve N s F S W with
    | some g => exact Exs.ret (Ex1.if_true (Tr.cmp Ev.nm Ev.cnone Cmp.isNotNone) (Exs.ret (Ex1.ret (Ev.tuple (Evs.c2 (Ev.cast (t := optT w (some g)) Ev.nm rfl) Ev.nm)))))
    | none => exact Exs.cons (Ex1.if_false (Tr.cmp Ev.nm Ev.cnone Cmp.isNotNone) Exs.nil) (Exs.weak Exs.nil (by walk_at "my sub"))
  · walk_at "my set"
end
section
variable {B : Bg} {bx : Bx} {n : Nat} {sc : Scope} {ρ ρ' : REnv} {st st₁ st₂ st₃ : BSt} {out : Out}
theorem mulOkR {a b : Int} (h : b.natAbs < 2 ^ 64) : IntMulOk a b := IntMulOk.of_right (bits_le h)
noncomputable def primes14 : List Nat := [11, 13, 17, 19, 23, 29, 31, 37, 41, 43, 47, 53, 59, 61]
theorem star_const (c : Const) (k : Nat) (p : Pos) (es : List Expr) (env : Env) : starEach (.Constant c k p :: es) env = (false, eval (.Constant c k p) env) :: starEach es env := by rfl
noncomputable def intOf : Expr → Option Int
  | .Constant (.int i) _ _ => some i
  | _ => none
theorem intOf_some {e : Expr} {i : Int} (h : intOf e = some i) : ∃ k p, e = .Constant (.int i) k p := by
  unfold intOf at h
  split at h
  · cases h; exact ⟨_, _, rfl⟩
  · cases h
noncomputable def constsOf : List Expr → Option (List Int)
  | [] => some []
  | e :: r => (intOf e).bind fun i => (constsOf r).map (i :: ·)
theorem Evs.consts : ∀ {es : List Expr} {is : List Int}, constsOf es = some is → Evs B bx n sc ρ st es (is.map T.int) st
  | [], _, h => by cases h; exact Evs.nil
  | e :: r, _, h => by
    obtain ⟨i, hi, h1⟩ := Option.bind_eq_some_iff.mp h
    obtain ⟨js, h2, rfl⟩ := Option.map_eq_some_iff.mp h1
    obtain ⟨k, p, rfl⟩ := intOf_some hi
    exact Evs.cons Ev.int (Evs.consts h2) (fun env => star_const _ _ _ _ env)
theorem Ev.consts {es : List Expr} {p : Pos} (is : List Int) (h : constsOf es = some is) (hz : is.length ≤ sizeLine) : Ev B bx n sc ρ st (.List es p) (.list (is.map T.int)) st :=
  @Ev.list B bx n sc ρ st st es p (is.map T.int) (Evs.consts h) (by rw [List.length_map]; exact hz)
theorem calls_law_primes (hK : B.K = K39 B.w.params) : Calls B bx 1 238 [] st (.list (primes14.map nInt)) st := by
  refine' calls_of [] [] ?hl ?hc ?hb ?hx ?hlen ?hnd ?hk ?hco ?hgen ?hr ?h
  walk_at "my enter"
  case hb => exact all0 rfl
  refine Exs.ret ?_
  refine Ex1.ret ?_
  have e : primes14.map nInt = ([11, 13, 17, 19, 23, 29, 31, 37, 41, 43, 47, 53, 59, 61] : List Int).map T.int := rfl
  rw [e]
  generalize hl : ([11, 13, 17, 19, 23, 29, 31, 37, 41, 43, 47, 53, 59, 61] : List Int) = l
  have hz : l.length ≤ sizeLine := by rw [← hl]; simp [sizeLine]
  refine @Ev.consts B bx 0 _ [] st _ _ l ?_ hz
  rw [← hl]
  exact rfl

theorem calls_share (hK : B.K = K39 B.w.params) {t b : Int} {r : Nat} (h2 : 2 ≤ r) (hr : r < 2 ^ 30) : Calls B bx 1 259 [.int t, .int b, nInt r] st (nInt (shr t b r)) st := by
  refine' calls_of ["top", "bottom", "r"] [("top", .sh (.int t)), ("bottom", .sh (.int b)), ("r", .sh (nInt r))] ?hl ?hc ?hb ?hx ?hlen ?hnd ?hk ?hco ?hgen ?hr ?h
  walk_at "my enter"
  case hb => exact all3 fun _ _ _ => rfl
  have e : Builtin.powMod (b % (r : Int)).toNat ((r : Int) - 2).natAbs (r : Int).natAbs = (b % r).toNat ^ (r - 2) % r := by
    rw [powMod_eq, Int.natAbs_natCast, show ((r : Int) - 2).natAbs = r - 2 by omega]
  have hlt : (b % (r : Int)).toNat ^ (r - 2) % r < r := Nat.mod_lt _ (by omega)
  refine Exs.ret (Ex1.ret (Ev.intE (Ev.mod (Ev.mul Ev.nm (Ev.intE (b := (((b % r).toNat ^ (r - 2) % r : Nat) : Int)) (Ev.powm Ev.nm (Ev.sub Ev.nm Ev.int) Ev.nm (by omega) (by omega) rfl (by walk_at "my k")) (by rw [e])) (mulOkR (by rw [Int.natAbs_natCast]; omega))) Ev.nm (by omega)) ?_))
  unfold shr
  rw [Int.toNat_of_nonneg (Int.emod_nonneg _ (by omega))]

noncomputable def optPT : Pt → T
  | none => .none
  | some p => .tup [nInt p.1, nInt p.2]
noncomputable abbrev crv (a b r : Nat) : T := .tup [nInt a, nInt b, nInt r]
theorem eqv_pair {a b c d : Int} : PyData.eqv (.tuple [.int a, .int b]) (.tuple [.int c, .int d]) = (decide (a = c) && decide (b = d)) := by
  simp only [PyData.eqv, PyData.eqvAll, Bool.and_true]; rfl
theorem toNat_cast {r : Nat} {i : Int} (h : 0 < r) : (((i % r).toNat : Nat) : Int) = i % r := Int.toNat_of_nonneg (Int.emod_nonneg _ (by omega))

theorem calls_sum (hK : B.K = K39 B.w.params) {a b r : Nat} {p q : Pt} (h2 : 2 ≤ r) (hr : r ≤ 1000) (ha : a < r) (hb : b < r) (hp : PtIn r p) (hq : PtIn r q) : Calls B bx 2 266 [optPT p, optPT q, crv a b r] st (optPT (sumP a b r p q)) st := by
  refine' calls_of ["one", "other", "curve"] [("one", .sh (optPT p)), ("other", .sh (optPT q)), ("curve", .sh (crv a b r))] ?hl ?hc ?hb ?hx ?hlen ?hnd ?hk ?hco ?hgen ?hr ?h
  walk_at "my enter"
  case hb => exact all3 fun _ _ _ => rfl
  refine Exs.cons (ρ' := [("one", .sh (optPT p)), ("other", .sh (optPT q)), ("curve", .sh (crv a b r)), ("a", .sh (nInt a)), ("b", .sh (nInt b)), ("r", .sh (nInt r))])
    (Ex1.assignT (xs := ["a", "b", "r"]) (ts := [nInt a, nInt b, nInt r]) Ev.nm rfl rfl (by decide) (by walk_at "my sets") (hv := fun env e => by cases env; cases e; rfl)) ?_
  cases p with
  | none =>
    refine Exs.ret (Ex1.if_true (Tr.ops (Trs.or_true (Tr.cmp (Ev.cast (t := optPT none) (t' := .none) Ev.nm rfl) Ev.cnone Cmp.isNone))) (Exs.ret (Ex1.ret ?_)))
    cases q with
    | none => exact Ev.if_true (Tr.cmp (Ev.cast (t := optPT none) (t' := .none) Ev.nm rfl) Ev.cnone Cmp.isNone) (Ev.cast Ev.nm (by exact rfl))
    | some q => exact Ev.if_false (Tr.cmp (Ev.cast (t := optPT (some q)) (t' := .tup [nInt q.1, nInt q.2]) Ev.nm rfl) Ev.cnone Cmp.isNone) (Ev.cast Ev.nm (by exact rfl))
  | some p =>
    cases q with
    | none =>
      exact Exs.ret (Ex1.if_true (Tr.ops (Trs.or_false (Tr.cmp (Ev.cast (t := optPT (some p)) (t' := .tup [nInt p.1, nInt p.2]) Ev.nm rfl) Ev.cnone Cmp.isNone) (Trs.or_true (Tr.cmp (Ev.cast (t := optPT none) (t' := .none) Ev.nm rfl) Ev.cnone Cmp.isNone)))) (Exs.ret (Ex1.ret (Ev.if_true (Tr.cmp (Ev.cast (t := optPT none) (t' := .none) Ev.nm rfl) Ev.cnone Cmp.isNone) (Ev.cast Ev.nm (by exact rfl))))))
    | some q =>
      obtain ⟨p1, p2⟩ := hp p rfl
      obtain ⟨q1, q2⟩ := hq q rfl
      rw [show optPT (some p) = .tup [nInt p.1, nInt p.2] from rfl, show optPT (some q) = .tup [nInt q.1, nInt q.2] from rfl]
      obtain ⟨x, y⟩ := p
      obtain ⟨u, v⟩ := q
      dsimp only at p1 p2 q1 q2 ⊢
      refine Exs.cons (Ex1.if_false (Tr.ops (Trs.or_false (Tr.cmp Ev.nm Ev.cnone Cmp.isNone) (Trs.or_false (Tr.cmp Ev.nm Ev.cnone Cmp.isNone) Trs.or_nil))) Exs.nil) ?_
      have hm : ((y : Int) + v) % r = ((y + v) % r : Nat) := by push_cast; rfl
      by_cases hz : x = u ∧ (y + v) % r = 0
      · refine Exs.ret (Ex1.if_true (Tr.ops (Trs.and_true (Tr.cmp (Ev.t0 Ev.nm) (Ev.t0 Ev.nm) (Cmp.eqT (by omega))) (Trs.and_true (Tr.cmp (Ev.mod (Ev.add (Ev.t1 Ev.nm) (Ev.t1 Ev.nm)) Ev.nm (by omega)) Ev.int (Cmp.eqT (by rw [hm, hz.2]; rfl))) Trs.and_nil))) (Exs.ret (Ex1.ret ?_)))
        rw [sumP, if_pos hz]
        exact Ev.cnone
      · refine Exs.cons (st₁ := st) (ρ' := [("one", .sh (.tup [nInt x, nInt y])), ("other", .sh (.tup [nInt u, nInt v])), ("curve", .sh (crv a b r)), ("a", .sh (nInt a)), ("b", .sh (nInt b)), ("r", .sh (nInt r))]) (Ex1.if_false (Tr.ops ?_) Exs.nil) ?_
        · by_cases hx : x = u
          · have : ¬ (y + v) % r = 0 := fun h => hz ⟨hx, h⟩
            exact Trs.and_true (Tr.cmp (Ev.t0 Ev.nm) (Ev.t0 Ev.nm) (Cmp.eqT (by omega))) (Trs.and_false (Tr.cmp (Ev.mod (Ev.add (Ev.t1 Ev.nm) (Ev.t1 Ev.nm)) Ev.nm (by omega)) Ev.int (Cmp.eqF (by rw [hm]; omega))))
          · exact Trs.and_false (Tr.cmp (Ev.t0 Ev.nm) (Ev.t0 Ev.nm) (Cmp.eqF (by omega)))
        · obtain ⟨rise, hrise⟩ : ∃ rise, (if (x, y) = (u, v) then shr (3 * (x : Nat) * (x : Nat) + 2 * a * (x : Nat) + 1) (2 * b * (y : Nat)) r else shr ((v : Int) - y) ((u : Int) - x) r) = rise := ⟨_, rfl⟩
          have hrl : rise < r := by rw [← hrise]; split <;> exact shr_lt (by omega)
          have hsum : sumP a b r (some (x, y)) (some (u, v)) = some ((((b : Int) * rise * rise - a - x - u) % r).toNat, (((rise : Int) * ((x : Int) - (((b : Int) * rise * rise - a - x - u) % r).toNat) - y) % r).toNat) := by
            simp only [sumP]
            rw [if_neg hz, hrise]
          refine Exs.cons (st₁ := st) (ρ' := [("one", .sh (.tup [nInt x, nInt y])), ("other", .sh (.tup [nInt u, nInt v])), ("curve", .sh (crv a b r)), ("a", .sh (nInt a)), ("b", .sh (nInt b)), ("r", .sh (nInt r)), ("rise", .sh (nInt rise))]) ?_ ?_
          · have hcmp : Cmp B bx 1 .Eq (.tup [nInt x, nInt y]) (.tup [nInt u, nInt v]) (decide ((x, y) = (u, v))) := Cmp.cast (Cmp.eqD (da := .tuple [.int x, .int y]) (db := .tuple [.int u, .int v]) rfl rfl rfl rfl) (by
              rw [eqv_pair, ← Bool.decide_and, decide_eq_decide, Prod.mk.injEq]; omega)
            by_cases he : (x, y) = (u, v)
            · rw [if_pos he] at hrise
              rw [decide_eq_true he] at hcmp
              refine Ex1.if_true (Tr.cmp Ev.nm Ev.nm hcmp) (Exs.last (Ex1.set ?_))
              rw [← hrise]
              exact Ev.fn_ (Evs.c3 (Ev.add (Ev.add (Ev.mul (Ev.mul Ev.int (Ev.t0 Ev.nm) (mulOkR (by rw [Int.natAbs_natCast]; omega))) (Ev.t0 Ev.nm) (mulOkR (by rw [Int.natAbs_natCast]; omega))) (Ev.mul (Ev.mul Ev.int Ev.nm (mulOkR (by rw [Int.natAbs_natCast]; omega))) (Ev.t0 Ev.nm) (mulOkR (by rw [Int.natAbs_natCast]; omega)))) Ev.int)
                (Ev.mul (Ev.mul Ev.int Ev.nm (mulOkR (by rw [Int.natAbs_natCast]; omega))) (Ev.t1 Ev.nm) (mulOkR (by rw [Int.natAbs_natCast]; omega))) Ev.nm) (calls_share hK h2 (by omega))
            · rw [if_neg he] at hrise
              rw [decide_eq_false he] at hcmp
              refine Ex1.if_false (Tr.cmp Ev.nm Ev.nm hcmp) (Exs.last (Ex1.set ?_))
              rw [← hrise]
              exact Ev.fn_ (Evs.c3 (Ev.sub (Ev.t1 Ev.nm) (Ev.t1 Ev.nm)) (Ev.sub (Ev.t0 Ev.nm) (Ev.t0 Ev.nm)) Ev.nm) (calls_share hK h2 (by omega))
          · rw [hsum]
            obtain ⟨z, hz'⟩ : ∃ z : Nat, (((b : Int) * rise * rise - a - x - u) % r).toNat = z := ⟨_, rfl⟩
            have hzl : z < r := by rw [← hz']; exact toNat_mod_lt (by omega) _
            have hzc : ((b : Int) * rise * rise - a - x - u) % r = (z : Int) := by rw [← hz', toNat_cast (by omega)]
            rw [hz']
            refine Exs.cons (Ex1.set (Ev.intE (b := (z : Int)) (Ev.mod (Ev.sub (Ev.sub (Ev.sub (Ev.mul (Ev.mul Ev.nm Ev.nm (mulOkR (by rw [Int.natAbs_natCast]; omega))) Ev.nm (mulOkR (by rw [Int.natAbs_natCast]; omega))) Ev.nm) (Ev.t0 Ev.nm)) (Ev.t0 Ev.nm)) Ev.nm (by omega)) hzc)) ?_
            exact Exs.ret (Ex1.ret (Ev.tuple (Evs.c2 Ev.nm (Ev.intE (Ev.mod (Ev.sub (Ev.mul Ev.nm (Ev.sub (Ev.t0 Ev.nm) Ev.nm) (mulOk (by rw [Int.natAbs_natCast]; omega))) (Ev.t1 Ev.nm)) Ev.nm (by omega)) (toNat_cast (by omega)).symm))))
end
inductive St3 where
  | nil | out | other
  deriving DecidableEq
noncomputable def sameP (r : Nat) (X : Nat × Nat) : Pt → Bool
  | none => decide (X.2 = 0)
  | some q => decide (X.2 ≠ 0) && decide (X.1 = q.1 * X.2 % r)
noncomputable def stageLoop (a b r F : Nat) : List Nat → Nat × Nat → St3
  | [], _ => .other
  | p :: l, P => match mulP a b r P (climb p F p) with
    | none => .out
    | some Q => if Q.1 = 0 then .nil else stageLoop a b r F l Q
noncomputable def stage (s F r : Nat) : St3 :=
  let u := (((s : Int) * s - 5) % r).toNat
  let v := 4 * s % r
  if u = 0 ∨ v = 0 then .nil else
    let a := (((shr (((v : Int) - u) ^ 3 * (3 * u + v)) (4 * u ^ 3 * v) r : Nat) - 2 : Int) % r).toNat
    let x := shr (u ^ 3) (v ^ 3) r
    let b := (x * x * x + a * x * x + x) % r
    if b = 0 ∨ ((a : Int) * a - 4) % r = 0 then .nil else stageLoop a b r F ([2, 3, 5, 7].filter fun p => decide (p ≤ F)) (x, 1)
noncomputable def stT : St3 → T
  | .nil => .none
  | .out => .str "out"
  | .other => .str "other"
section
variable {B : Bg} {bx : Bx} {n : Nat} {sc : Scope} {ρ ρ' : REnv} {st st₁ st₂ st₃ : BSt} {out : Out}
theorem Ev.and2 {a b : Expr} {p : Pos} {c d : Bool} (h : Ev B bx n sc ρ st a (.bool c) st) (h' : c = true → Ev B bx n sc ρ st b (.bool d) st) : Ev B bx n sc ρ st (.BoolOp .And [a, b] p) (.bool (c && d)) st := by
  cases c with
  | true => exact Ev.and2_true h (h' rfl)
  | false => exact Ev.and2_false h
theorem calls_multiple (hK : B.K = K39 B.w.params) {a b r k : Nat} {P : Nat × Nat} (h2 : 2 ≤ r) (hr : r ≤ 1000) (ha : a < r) (hb : b < r) (hP : P.1 < r ∧ P.2 < r) (hk : k ≤ 2 ^ 30) : Calls B bx 3 273 [nInt k, .tup [nInt P.1, nInt P.2], crv a b r] st (optPT (mulP a b r P k)) st := by
  refine' calls_of ["k", "point", "curve"] [("k", .sh (nInt k)), ("point", .sh (.tup [nInt P.1, nInt P.2])), ("curve", .sh (crv a b r))] ?hl ?hc ?hb ?hx ?hlen ?hnd ?hk ?hco ?hgen ?hr ?h
  walk_at "my enter"
  case hb => exact all3 fun _ _ _ => rfl
  refine Exs.cons (ρ' := [("k", .sh (nInt k)), ("point", .sh (.tup [nInt P.1, nInt P.2])), ("curve", .sh (crv a b r)), ("found", .sh (optPT (mulP a b r P 0)))]) (Ex1.set (t := optPT (mulP a b r P 0)) (Ev.cast Ev.cnone rfl)) ?_
  refine Exs.cons (ρ' := [("k", .sh (nInt k)), ("point", .sh (.tup [nInt P.1, nInt P.2])), ("curve", .sh (crv a b r)), ("found", .sh (optPT (mulP a b r P k)))]) (Ex1.for_ (Ev.range1 Ev.nm rfl (by walk_at "my k")) (items_to _) (rangeOK_to (by omega)) (by walk_at "my kd")
    (ForTo.up (fun i => [("k", .sh (nInt k)), ("point", .sh (.tup [nInt P.1, nInt P.2])), ("curve", .sh (crv a b r)), ("found", .sh (optPT (mulP a b r P i)))]) (fun i hi => ?_) rfl)) (Exs.ret (Ex1.ret Ev.nm))
  refine ⟨[("k", .sh (nInt k)), ("point", .sh (.tup [nInt P.1, nInt P.2])), ("curve", .sh (crv a b r)), ("found", .sh (optPT (mulP a b r P i))), ("turn", .sh (nInt i))], by walk_at "my set", ?_⟩
  refine Exs.weak (ρ₁ := [("k", .sh (nInt k)), ("point", .sh (.tup [nInt P.1, nInt P.2])), ("curve", .sh (crv a b r)), ("found", .sh (optPT (mulP a b r P (i + 1)))), ("turn", .sh (nInt i))]) (Exs.last (Ex1.set (t := optPT (mulP a b r P (i + 1))) ?_)) (by walk_at "my sub")
  exact Ev.fn_ (Evs.c3 Ev.nm (Ev.cast (t := .tup [nInt P.1, nInt P.2]) (t' := optPT (some P)) Ev.nm rfl) Ev.nm) (calls_sum (p := mulP a b r P i) (q := some P) hK h2 hr ha hb (mul_in (by omega) hP i) (fun q e => by cases e; exact hP))

theorem calls_same (hK : B.K = K39 B.w.params) {w r : Nat} {X : Nat × Nat} {p : Pt} (hf : Fit w r) (hX : InN r X) (hp : PtIn r p) : Calls B bx 2 287 [pt w X, optPT p, nInt w, nInt r] st (.bool (sameP r X p)) st := by
  refine' calls_of ["told", "point", "w", "r"] [("told", .sh (pt w X)), ("point", .sh (optPT p)), ("w", .sh (nInt w)), ("r", .sh (nInt r))] ?hl ?hc ?hb ?hx ?hlen ?hnd ?hk ?hco ?hgen ?hr ?h
  walk_at "my enter"
  case hb => exact all4 fun _ _ _ _ => rfl
  obtain ⟨x1, x2⟩ := hX
  have hlt := hf.lt
  refine Exs.cons (Ex1.set2 (ρ' := [("told", .sh (pt w X)), ("point", .sh (optPT p)), ("w", .sh (nInt w)), ("r", .sh (nInt r)), ("below", .sh (nInt X.2)), ("above", .sh (nInt X.1))]) (x' := "above") (y' := "below") (Ev.tuple (Evs.c2 (Ev.fn_ (Evs.c2 (Ev.t0 Ev.nm) Ev.nm) (calls_law_of_d hK hf.w1 hf.w2 (by omega))) (Ev.fn_ (Evs.c2 (Ev.t1 Ev.nm) Ev.nm) (calls_law_of_d hK hf.w1 hf.w2 (by omega)))))) ?_
  cases p with
  | none =>
    refine Exs.ret (Ex1.if_true (Tr.cmp (Ev.cast (t := optPT none) (t' := .none) Ev.nm rfl) Ev.cnone Cmp.isNone) (Exs.ret (Ex1.ret (Ev.cast (Ev.cmp Ev.nm Ev.int Cmp.eq) ?_))))
    show T.bool _ = T.bool _
    rw [show decide ((X.2 : Int) = 0) = decide (X.2 = 0) by rw [decide_eq_decide]; omega]
    rfl
  | some q =>
    obtain ⟨q1, q2⟩ := hp q rfl
    rw [show optPT (some q) = .tup [nInt q.1, nInt q.2] from rfl]
    refine Exs.cons (Ex1.if_false (Tr.cmp Ev.nm Ev.cnone Cmp.isNone) Exs.nil) (Exs.ret (Ex1.ret ?_))
    refine Ev.cast (Ev.and2 (c := decide (X.2 ≠ 0)) (d := decide (X.1 = q.1 * X.2 % r)) (Ev.cast (Ev.cmp Ev.nm Ev.int Cmp.ne) ?_) (fun _ => Ev.cast (Ev.cmp Ev.nm (Ev.intE (b := ((q.1 * X.2 % r : Nat) : Int)) (Ev.mod (Ev.mul (Ev.t0 Ev.nm) Ev.nm (mulOkR (by rw [Int.natAbs_natCast]; omega))) Ev.nm (by omega)) (by push_cast; rfl)) Cmp.eq) ?_)) rfl
    · show T.bool _ = T.bool _; congr 1; rw [decide_eq_decide]; omega
    · show T.bool _ = T.bool _; congr 1; rw [decide_eq_decide]; omega
end
section
variable {B : Bg} {bx : Bx} {n : Nat} {sc : Scope} {ρ ρ' : REnv} {st st₁ st₂ st₃ : BSt} {out : Out}
theorem Ev.cube {e : Expr} {p p' : Pos} {k : Nat} {a : Int} (h : Ev B bx n sc ρ st e (.int a) st) (ha : a.natAbs < 2 ^ 64 := by omega) : Ev B bx n sc ρ st (.BinOp e .Pow (.Constant (.int 3) k p') p) (.int (a ^ 3)) st :=
  Ev.intE (Ev.pow h Ev.int (by decide) (by have := bits_le ha; omega)) rfl
noncomputable abbrev stEnv (s F r u v a x b : Nat) (P : Nat × Nat) (t : REnv) : REnv :=
  ("sigma", .sh (nInt s)) :: ("first", .sh (nInt F)) :: ("r", .sh (nInt r)) :: ("v", .sh (nInt v)) :: ("u", .sh (nInt u)) :: ("a", .sh (nInt a)) :: ("x", .sh (nInt x)) :: ("b", .sh (nInt b)) :: ("point", .sh (.tup [nInt P.1, nInt P.2])) :: t
noncomputable def outS (o : St3) (ρ : REnv) (st : BSt) : Out := match o with
  | .nil => .ret .none st
  | .out => .ret (.str "out") st
  | .other => .next ρ st
theorem stage_walk {s F r u v a x b : Nat} (hr : 2 ≤ r) : ∀ (sc' : Scope) (body : List Stmt), (∀ p, 2 ≤ p → p ≤ F → ∀ P : Nat × Nat, P.1 < r ∧ P.2 < r → Exs B bx n sc' (stEnv s F r u v a x b P [("p", .sh (nInt p))]) st body (match mulP a b r P (climb p F p) with | none => .ret (.str "out") st | some Q => if Q.1 = 0 then .ret .none st else .next (stEnv s F r u v a x b Q []) st)) →
    ∀ (l : List Nat), (∀ p ∈ l, 2 ≤ p ∧ p ≤ F) → ∀ P : Nat × Nat, P.1 < r ∧ P.2 < r → ∃ P', ForTo B bx n sc' "p" body (l.map nInt) (stEnv s F r u v a x b P []) st (outS (stageLoop a b r F l P) (stEnv s F r u v a x b P' []) st) := by
  intro sc' body h l
  induction l with
  | nil => intro _ P _; exact ⟨P, ForTo.nil⟩
  | cons p l ih =>
    intro hl P hP
    have h0 := h p (hl p (.head _)).1 (hl p (.head _)).2 P hP
    unfold stageLoop
    have hin := mul_in (a := a) (b := b) (show 0 < r by omega) hP (climb p F p)
    cases hm : mulP a b r P (climb p F p) with
    | none =>
      rw [hm] at h0
      exact ⟨P, ForTo.leave (by walk_at "my set") h0⟩
    | some Q =>
      rw [hm] at h0 hin
      dsimp only at h0 ⊢
      by_cases hz : Q.1 = 0
      · rw [if_pos hz] at h0 ⊢
        exact ⟨P, ForTo.leave (by walk_at "my set") h0⟩
      · rw [if_neg hz] at h0 ⊢
        obtain ⟨P', hP'⟩ := ih (fun q hq => hl q (.tail _ hq)) Q (hin Q rfl)
        exact ⟨P', ForTo.cons (by walk_at "my set") h0 hP'⟩
theorem Exs.stageEnd {s : Stmt} {ss : List Stmt} {o : St3} (h : Ex1 B bx n sc ρ st s (outS o ρ' st)) (h' : Exs B bx n sc ρ' st ss (.ret (.str "other") st)) : Exs B bx n sc ρ st (s :: ss) (.ret (stT o) st) := by
  cases o with
  | nil => exact Exs.ret h
  | out => exact Exs.ret h
  | other => exact Exs.cons h h'

theorem Tr.or2 {a b : Expr} {p : Pos} {c d e : Bool} (h : Tr B bx n sc ρ st a c st) (h' : Tr B bx n sc ρ st b d st) (he : e = (c || d)) : Tr B bx n sc ρ st (.BoolOp .Or [a, b] p) e st := by
  subst he
  cases c with
  | true => exact Tr.ops (Trs.or_true h)
  | false =>
    cases d with
    | true => exact Tr.ops (Trs.or_false h (Trs.or_true h'))
    | false => exact Tr.ops (Trs.or_false h (Trs.or_false h' Trs.or_nil))
theorem Exs.stageFor {x : Str} {px p : Pos} {e : Expr} {body ss : List Stmt} {t : T} {ts : List T} {o : St3} (Fr : Nat × Nat → REnv) (h : Ev B bx n sc ρ st e t st) (ht : t.items = some ts) (hr : t.rangeOK = true) (k : sc.names.lookup x = some .local ∨ sc.names.lookup x = some .cell)
    (hf : ∃ P', ForTo B bx n sc x body ts ρ st (outS o (Fr P') st)) (h' : ∀ P', Exs B bx n sc (Fr P') st ss (.ret (.str "other") st)) (hs : ∀ env x, foldedSetIterable e env x = pure x := by intro _ _; rfl) : Exs B bx n sc ρ st (.For (.Name x px) e body [] p :: ss) (.ret (stT o) st) := by
  obtain ⟨P', hf⟩ := hf
  exact Exs.stageEnd (Ex1.for_ h ht hr k hf hs) (h' P')
theorem calls_stage (hK : B.K = K39 B.w.params) {s F r : Nat} (h2 : 2 ≤ r) (hr : r ≤ 1000) (hs : s < 2 ^ 16) (hF : F ≤ 1000) : Calls B bx 4 297 [nInt s, nInt F, nInt r] st (stT (stage s F r)) st := by
  refine' calls_of ["sigma", "first", "r"] [("sigma", .sh (nInt s)), ("first", .sh (nInt F)), ("r", .sh (nInt r))] ?hl ?hc ?hb ?hx ?hlen ?hnd ?hk ?hco ?hgen ?hr ?h
  walk_at "my enter"
  case hb => exact all3 fun _ _ _ => rfl
  have h0 : 0 < r := by omega
  unfold stage
  dsimp only
  have hul : (((s : Int) * s - 5) % r).toNat < r := toNat_mod_lt h0 _
  have hvl : 4 * s % r < r := Nat.mod_lt _ h0
  have hu : ((s : Int) * s - 5) % r = ((((s : Int) * s - 5) % r).toNat : Nat) := (toNat_cast h0).symm
  generalize (((s : Int) * s - 5) % r).toNat = u at *
  generalize hv : 4 * s % r = v at *
  refine Exs.cons (ρ' := [("sigma", .sh (nInt s)), ("first", .sh (nInt F)), ("r", .sh (nInt r)), ("v", .sh (nInt v)), ("u", .sh (nInt u))]) (Ex1.set2 (x' := "u") (y' := "v") (t := nInt u) (u := nInt v) (Ev.tuple (Evs.c2 (Ev.intE (Ev.mod (Ev.sub (Ev.mul Ev.nm Ev.nm (mulOk (by rw [Int.natAbs_natCast]; omega))) Ev.int) Ev.nm (by omega)) hu)
    (Ev.intE (Ev.mod (Ev.mul Ev.int Ev.nm (mulOkR (by rw [Int.natAbs_natCast]; omega))) Ev.nm (by omega)) (by rw [← hv]; push_cast; rfl))))) ?_
  by_cases hz : u = 0 ∨ v = 0
  · rw [if_pos hz]
    refine Exs.ret (Ex1.if_true (Tr.ops ?_) (Exs.ret (Ex1.ret Ev.cnone)))
    by_cases hm : u = 0
    · exact Trs.or_true (Tr.cmp Ev.nm Ev.int (Cmp.eqT (by omega)))
    · exact Trs.or_false (Tr.cmp Ev.nm Ev.int (Cmp.eqF (by omega))) (Trs.or_true (Tr.cmp Ev.nm Ev.int (Cmp.eqT (by omega))))
  · rw [if_neg hz]
    refine Exs.cons (Ex1.if_false (Tr.ops (Trs.or_false (Tr.cmp Ev.nm Ev.int (Cmp.eqF (by omega))) (Trs.or_false (Tr.cmp Ev.nm Ev.int (Cmp.eqF (by omega))) Trs.or_nil))) Exs.nil) ?_
    have hal : (((shr (((v : Int) - u) ^ 3 * (3 * u + v)) (4 * u ^ 3 * v) r : Nat) - 2 : Int) % r).toNat < r := toNat_mod_lt h0 _
    have ha : ((shr (((v : Int) - u) ^ 3 * (3 * u + v)) (4 * u ^ 3 * v) r : Nat) - 2 : Int) % r = ((((shr (((v : Int) - u) ^ 3 * (3 * u + v)) (4 * u ^ 3 * v) r : Nat) - 2 : Int) % r).toNat : Nat) := (toNat_cast h0).symm
    have hxl : shr (u ^ 3) (v ^ 3) r < r := shr_lt h0
    generalize (((shr (((v : Int) - u) ^ 3 * (3 * u + v)) (4 * u ^ 3 * v) r : Nat) - 2 : Int) % r).toNat = a at *
    refine Exs.cons (Ex1.set (t := nInt a) (Ev.intE (Ev.mod (Ev.sub (Ev.fn_ (Evs.c3 (Ev.mul (Ev.cube (Ev.sub Ev.nm Ev.nm)) (Ev.add (Ev.mul Ev.int Ev.nm (mulOkR (by rw [Int.natAbs_natCast]; omega))) Ev.nm) (mulOkR (by omega))) (Ev.mul (Ev.mul Ev.int (Ev.cube Ev.nm) (mulOk (by omega))) Ev.nm (mulOkR (by rw [Int.natAbs_natCast]; omega))) Ev.nm) (calls_share hK h2 (by omega))) Ev.int) Ev.nm (by omega)) ha)) ?_
    refine Exs.cons (Ex1.set (Ev.fn_ (Evs.c3 (Ev.cube Ev.nm) (Ev.cube Ev.nm) Ev.nm) (calls_share hK h2 (by omega)))) ?_
    generalize hx : shr ((u : Int) ^ 3) ((v : Int) ^ 3) r = x at *
    obtain ⟨b, hb⟩ : ∃ b, (x * x * x + a * x * x + x) % r = b := ⟨_, rfl⟩
    have hbl : b < r := by rw [← hb]; exact Nat.mod_lt _ h0
    refine Exs.cons (Ex1.set (t := nInt b) (Ev.intE (Ev.mod (Ev.add (Ev.add (Ev.mul (Ev.mul Ev.nm Ev.nm (mulOk (by rw [Int.natAbs_natCast]; omega))) Ev.nm (mulOkR (by rw [Int.natAbs_natCast]; omega))) (Ev.mul (Ev.mul Ev.nm Ev.nm (mulOk (by rw [Int.natAbs_natCast]; omega))) Ev.nm (mulOkR (by rw [Int.natAbs_natCast]; omega)))) Ev.nm) Ev.nm (by omega)) (by rw [← hb]; push_cast; rfl))) ?_
    rw [hb]
    have hq : ∀ {e f : Expr} {p : Pos} {sc' : Scope} {ρ : REnv}, Tr B bx 3 sc' ρ st e (decide (b = 0)) st → Tr B bx 3 sc' ρ st f (decide (((a : Int) * a - 4) % r = 0)) st → Tr B bx 3 sc' ρ st (.BoolOp .Or [e, f] p) (decide (b = 0 ∨ ((a : Int) * a - 4) % r = 0)) st := by
      intro e f p sc' ρ g1 g2
      refine Tr.or2 g1 g2 ?_
      rw [Bool.decide_or]
    by_cases hd : b = 0 ∨ ((a : Int) * a - 4) % r = 0
    · rw [decide_eq_true hd] at hq
      rw [if_pos hd]
      exact Exs.ret (Ex1.if_true (hq (Tr.cmp Ev.nm Ev.int (Cmp.cast Cmp.eq (by rw [decide_eq_decide]; omega))) (Tr.cmp (Ev.mod (Ev.sub (Ev.mul Ev.nm Ev.nm (mulOk (by rw [Int.natAbs_natCast]; omega))) Ev.int) Ev.nm (by omega)) Ev.int Cmp.eq)) (Exs.ret (Ex1.ret Ev.cnone)))
    · rw [decide_eq_false hd] at hq
      rw [if_neg hd]
      refine Exs.cons (Ex1.if_false (hq (Tr.cmp Ev.nm Ev.int (Cmp.cast Cmp.eq (by rw [decide_eq_decide]; omega))) (Tr.cmp (Ev.mod (Ev.sub (Ev.mul Ev.nm Ev.nm (mulOk (by rw [Int.natAbs_natCast]; omega))) Ev.int) Ev.nm (by omega)) Ev.int Cmp.eq)) Exs.nil) ?_
      refine Exs.cons (ρ' := stEnv s F r u v a x b (x, 1) []) (Ex1.set (t := .tup [nInt x, nInt 1]) (Ev.tuple (Evs.c2 Ev.nm Ev.int))) ?_
      have hmem : ∀ p ∈ [2, 3, 5, 7].filter (fun p => decide (p ≤ F)), 2 ≤ p ∧ p ≤ F := fun p hp => by
        rw [List.mem_filter] at hp
        have := of_decide_eq_true hp.2
        have h1 := hp.1
        simp at h1
        omega
      refine Exs.stageFor (st := st) (t := .list (([2, 3, 5, 7].filter fun p => decide (p ≤ F)).map nInt)) (fun P' => stEnv s F r u v a x b P' []) (Ev.compK (t := .list ([2, 3, 5, 7].map nInt)) [("first", .sh (nInt F))] ["first"] (Ev.cast (Ev.consts [2, 3, 5, 7] rfl (by simp [sizeLine])) rfl) ?_) rfl rfl (by walk_at "my kd") (stage_walk (n := 3) h2 _ _ (fun p hp2 hpF P hP => ?_) _ hmem (x, 1) ⟨hxl, by dsimp only; omega⟩) (fun P' => Exs.ret (Ex1.ret Ev.str))
      · exact CompTo.filter (g := nInt) (f := nInt) (p := fun p => decide (p ≤ F)) (fun p hp => Tr.cmp Ev.nm Ev.nm (Cmp.cast Cmp.le (by rw [decide_eq_decide]; omega))) (fun p hp _ => Ev.nm)
      · refine Exs.cons (ρ' := stEnv s F r u v a x b P [("p", .sh (nInt p)), ("most", .sh (nInt p))]) (Ex1.set Ev.nm) ?_
        refine Exs.cons (Ex1.while_ (climb_walk hp2 (fun m => stEnv s F r u v a x b P [("p", .sh (nInt p)), ("most", .sh (nInt m))]) (fun m h0 hm => ?_) (fun m h0 hm hmp => ?_) (by omega) hpF)) ?_
        · exact Tr.cmp (Ev.intE (b := ((m * p : Nat) : Int)) (Ev.mul Ev.nm Ev.nm (mulOkN (by omega))) (by push_cast; rfl)) Ev.nm (Cmp.cast Cmp.le (by rw [decide_eq_decide]; omega))
        · exact Exs.last (Ex1.set (t := nInt (m * p)) (Ev.intE (b := ((m * p : Nat) : Int)) (Ev.mul Ev.nm Ev.nm (mulOkN (by omega))) (by push_cast; rfl)))
        · have hcl := climb_le (p := p) hpF
          have hmul := calls_multiple (bx := bx) (st := st) hK (a := a) (b := b) (k := climb p F p) (P := P) h2 hr hal hbl hP (by omega)
          refine Exs.cons (Ex1.set (Ev.fn_ (Evs.c3 Ev.nm Ev.nm (Ev.tuple (Evs.c3 Ev.nm Ev.nm Ev.nm))) hmul)) ?_
          cases mulP a b r P (climb p F p) with
          | none => exact Exs.ret (Ex1.if_true (Tr.cmp (Ev.cast (t := optPT none) (t' := .none) Ev.nm rfl) Ev.cnone Cmp.isNone) (Exs.ret (Ex1.ret Ev.str)))
          | some Q =>
            rw [show optPT (some Q) = .tup [nInt Q.1, nInt Q.2] from rfl]
            refine Exs.cons (Ex1.if_false (Tr.cmp Ev.nm Ev.cnone Cmp.isNone) Exs.nil) ?_
            dsimp only
            by_cases hz : Q.1 = 0
            · rw [if_pos hz]
              exact Exs.ret (Ex1.if_true (Tr.cmp (Ev.t0 Ev.nm) Ev.int (Cmp.eqT (by omega))) (Exs.ret (Ex1.ret Ev.cnone)))
            · rw [if_neg hz]
              exact Exs.weak (Exs.last (Ex1.if_false (Tr.cmp (Ev.t0 Ev.nm) Ev.int (Cmp.eqF (by omega))) Exs.nil)) (by walk_at "my sub")
end
noncomputable def takeB : BSt → Nat → Nat × BSt
  | (i :: r, sd), m => ((i % m).toNat, (r, sd))
  | ([], sd), m => (((sd * 4093 + 12289) % 1000003 / 8 % m).toNat, ([], (sd * 4093 + 12289) % 1000003))
theorem takeB_lt {st : BSt} {m : Nat} (h : 0 < m) : (takeB st m).1 < m := by
  obtain ⟨is, sd⟩ := st
  cases is with
  | nil => exact toNat_mod_lt h _
  | cons i r => exact toNat_mod_lt h _
theorem takeB_len {st : BSt} {m : Nat} : (takeB st m).2.1.length ≤ st.1.length := by
  obtain ⟨is, sd⟩ := st
  cases is with
  | nil => exact Nat.le_refl _
  | cons i r => exact Nat.le_succ _
section
variable {B : Bg} {p : Addr × Addr} {n : Nat} {sc : Scope} {ρ ρ' : REnv} {st st₁ st₂ st₃ : BSt} {out : Out}
theorem calls_take (hK : B.K = K39 B.w.params) {m : Nat} (hm : 0 < m) (hm' : m ≤ 1000) (hz : st.1.length ≤ 1000) : Calls B (some p) 1 217 [.fn p.1, nInt m] st (nInt (takeB st m).1) (takeB st m).2 := by
  refine' calls_of ["box", "limit"] [("box", .sh (.fn p.1)), ("limit", .sh (nInt m))] ?hl ?hc ?hb ?hx ?hlen ?hnd ?hk ?hco ?hgen ?hr ?h
  walk_at "my enter"
  case hb => exact all2 fun _ _ => rfl
  obtain ⟨is, sd⟩ := st
  cases is with
  | cons i r =>
    have hz' : r.length + 1 ≤ 1000 := by simpa using hz
    refine Exs.ret (Ex1.if_true (Tr.cmp (Ev.boxLen (Ev.box0 (by walk_at "my lk")) (by simp; omega) rfl (by walk_at "my k")) Ev.int (Cmp.gtT (by simp <;> omega))) (Exs.ret (Ex1.ret (Ev.intE (Ev.mod (Ev.boxPop (Ev.box0 (by walk_at "my lk")) Ev.int (by simp [sizeLine]; omega) (by walk_at "my he")) Ev.nm (by omega)) ?_))))
    show _ = (((i % m).toNat : Nat) : Int)
    rw [toNat_cast hm]
  | nil =>
    refine Exs.cons (Ex1.if_false (Tr.cmp (Ev.boxLen (Ev.box0 (by walk_at "my lk")) (by simp) rfl (by walk_at "my k")) Ev.int (Cmp.gtF (by simp))) Exs.nil) ?_
    refine Exs.cons (Ex1.boxSet (c := (sd * 4093 + 12289) % 1000003) (Ev.mod (Ev.add (Ev.mul (Ev.box1 (by walk_at "my lk")) Ev.int (mulOkR (by decide))) Ev.int) Ev.int (by decide)) (by walk_at "my lk")) ?_
    refine Exs.ret (Ex1.ret (Ev.intE (Ev.mod (Ev.div (Ev.box1 (by walk_at "my lk")) Ev.int (by decide) (by decide)) Ev.nm (by omega)) ?_))
    show _ = ((((sd * 4093 + 12289) % 1000003 / 8 % m).toNat : Nat) : Int)
    rw [toNat_cast hm]

structure Crv where
  a : Nat
  b : Nat
  x : Nat
  y : Nat
noncomputable def curveB (st : BSt) (r : Nat) : Option Crv × BSt :=
  let a := takeB st r
  let x := takeB a.2 (r - 1)
  let y := takeB x.2 (r - 1)
  let X := 1 + x.1
  let Y := 1 + y.1
  let b := shr ((X : Int) * X * X + a.1 * X * X + X) ((Y : Int) * Y) r
  (if b = 0 ∨ ((a.1 : Int) * a.1 - 4) % r = 0 then none else some ⟨a.1, b, X, Y⟩, y.2)
noncomputable def crvT (r : Nat) : Option Crv → T
  | none => .none
  | some c => .tup [crv c.a c.b r, .tup [nInt c.x, nInt c.y]]
theorem calls_curve (hK : B.K = K39 B.w.params) {r : Nat} (h2 : 3 ≤ r) (hr : r ≤ 1000) (hz : st.1.length ≤ 1000) : Calls B (some p) 2 280 [.fn p.1, nInt r] st (crvT r (curveB st r).1) (curveB st r).2 := by
  refine' calls_of ["box", "r"] [("box", .sh (.fn p.1)), ("r", .sh (nInt r))] ?hl ?hc ?hb ?hx ?hlen ?hnd ?hk ?hco ?hgen ?hr ?h
  walk_at "my enter"
  case hb => exact all2 fun _ _ => rfl
  unfold curveB
  dsimp only
  have c1 := calls_take (p := p) (st := st) hK (m := r) (by omega) (by omega) hz
  have l1 := takeB_lt (st := st) (m := r) (by omega)
  have z1 := takeB_len (st := st) (m := r)
  generalize takeB st r = A at *
  obtain ⟨a, st1⟩ := A
  dsimp only at c1 l1 z1 ⊢
  have c2 := calls_take (p := p) (st := st1) hK (m := r - 1) (by omega) (by omega) (by omega)
  have l2 := takeB_lt (st := st1) (m := r - 1) (by omega)
  have z2 := takeB_len (st := st1) (m := r - 1)
  generalize takeB st1 (r - 1) = A at *
  obtain ⟨x, st2⟩ := A
  dsimp only at c2 l2 z2 ⊢
  have c3 := calls_take (p := p) (st := st2) hK (m := r - 1) (by omega) (by omega) (by omega)
  have l3 := takeB_lt (st := st2) (m := r - 1) (by omega)
  generalize takeB st2 (r - 1) = A at *
  obtain ⟨y, st3⟩ := A
  dsimp only at c3 l3 ⊢
  obtain ⟨X, hX⟩ : ∃ X, 1 + x = X := ⟨_, rfl⟩
  obtain ⟨Y, hY⟩ : ∃ Y, 1 + y = Y := ⟨_, rfl⟩
  rw [hX, hY]
  refine Exs.cons (st₁ := st3) (ρ' := [("box", .sh (.fn p.1)), ("r", .sh (nInt r)), ("y", .sh (nInt Y)), ("x", .sh (nInt X)), ("a", .sh (nInt a))]) (Ex1.assignS (xs := ["a", "x", "y"]) (ts := [nInt a, nInt X, nInt Y]) (Ev.tuple (Evs.c3 (Ev.fn_ (Evs.c2 Ev.nm Ev.nm) c1) (Ev.intE (Ev.add Ev.int (Ev.fn_ (Evs.c2 Ev.nm (Ev.intE (Ev.sub Ev.nm Ev.int) (by omega))) c2)) (by omega)) (Ev.intE (Ev.add Ev.int (Ev.fn_ (Evs.c2 Ev.nm (Ev.intE (Ev.sub Ev.nm Ev.int) (by omega))) c3)) (by omega))))
    rfl (by decide) (by walk_at "my rsets") (hv := fun env e => by cases env; cases e; rfl)) ?_
  have hbl : shr ((X : Int) * X * X + a * X * X + X) ((Y : Int) * Y) r < r := shr_lt (by omega)
  refine Exs.cons (Ex1.set (Ev.fn_ (Evs.c3 (Ev.add (Ev.add (Ev.mul (Ev.mul Ev.nm Ev.nm (mulOk (by rw [Int.natAbs_natCast]; omega))) Ev.nm (mulOkR (by rw [Int.natAbs_natCast]; omega))) (Ev.mul (Ev.mul Ev.nm Ev.nm (mulOk (by rw [Int.natAbs_natCast]; omega))) Ev.nm (mulOkR (by rw [Int.natAbs_natCast]; omega)))) Ev.nm) (Ev.mul Ev.nm Ev.nm (mulOk (by rw [Int.natAbs_natCast]; omega))) Ev.nm) (calls_share hK (by omega) (by omega)))) ?_
  generalize shr ((X : Int) * X * X + a * X * X + X) ((Y : Int) * Y) r = b at *
  have hq : ∀ {e f : Expr} {q : Pos} {sc' : Scope} {ρ : REnv}, Tr B (some p) 1 sc' ρ st3 e (decide (b = 0)) st3 → Tr B (some p) 1 sc' ρ st3 f (decide (((a : Int) * a - 4) % r = 0)) st3 → Tr B (some p) 1 sc' ρ st3 (.BoolOp .Or [e, f] q) (decide (b = 0 ∨ ((a : Int) * a - 4) % r = 0)) st3 := by
    intro e f q sc' ρ g1 g2
    refine Tr.or2 g1 g2 ?_
    rw [Bool.decide_or]
  by_cases hd : b = 0 ∨ ((a : Int) * a - 4) % r = 0
  · rw [decide_eq_true hd] at hq
    rw [if_pos hd]
    exact Exs.ret (Ex1.ret (Ev.if_true (hq (Tr.cmp Ev.nm Ev.int (Cmp.cast Cmp.eq (by rw [decide_eq_decide]; omega))) (Tr.cmp (Ev.mod (Ev.sub (Ev.mul Ev.nm Ev.nm (mulOk (by rw [Int.natAbs_natCast]; omega))) Ev.int) Ev.nm (by omega)) Ev.int Cmp.eq)) Ev.cnone))
  · rw [decide_eq_false hd] at hq
    rw [if_neg hd]
    exact Exs.ret (Ex1.ret (Ev.if_false (hq (Tr.cmp Ev.nm Ev.int (Cmp.cast Cmp.eq (by rw [decide_eq_decide]; omega))) (Tr.cmp (Ev.mod (Ev.sub (Ev.mul Ev.nm Ev.nm (mulOk (by rw [Int.natAbs_natCast]; omega))) Ev.int) Ev.nm (by omega)) Ev.int Cmp.eq)) (Ev.tuple (Evs.c2 (Ev.tuple (Evs.c3 Ev.nm Ev.nm Ev.nm)) (Ev.tuple (Evs.c2 Ev.nm Ev.nm))))))
end
noncomputable def badP (a b r : Nat) (P : Nat × Nat) (S W : Nat) : Bool := (List.range (2 + S / W - 1)).any fun i => match mulP a b r P ((1 + i) * W) with | none => true | some q => decide (q.1 = 0)
noncomputable def otherP (W p : Nat) : Nat := if (p + W / 2) / W = 0 ∨ p = (p + W / 2) / W * W then p else (2 * ((p + W / 2) / W * W : Nat) - (p : Int)).natAbs
noncomputable def dueP (a b r : Nat) (P : Nat × Nat) (F S W : Nat) : Bool :=
  ([2, 3, 5, 7, 11, 13, 17, 19].filter fun p => decide (F < p) && decide (p ≤ S)).foldl (fun d p => d || (mulP a b r P p).isNone || (mulP a b r P (otherP W p)).isNone) false
noncomputable def rightP (a b r : Nat) (P c S0 : Nat × Nat) (F S W : Nat) : Bool := if badP a b r P S W then true else (decide (secondP r c S0 F S W = 0) == dueP a b r P F S W)
noncomputable def rightB (st : BSt) (a b r : Nat) (P c S0 : Nat × Nat) : Bool × BSt :=
  let f := takeB st 6
  let s := takeB f.2 18
  let w := takeB s.2 7
  (rightP a b r P c S0 f.1 (5 + s.1) (2 + w.1), w.2)
section
variable {B : Bg} {bx : Bx} {p : Addr × Addr} {n : Nat} {sc : Scope} {ρ ρ' : REnv} {st st₁ st₂ st₃ : BSt} {out : Out}
theorem Tr.chainB {l m r : Expr} {q : Pos} {a b c : Int} (h : Ev B bx n sc ρ st l (.int a) st) (h' : Ev B bx n sc ρ st m (.int b) st) (h'' : Ev B bx n sc ρ st r (.int c) st)
    (hm : lastMarks [.Lt, .LtE] [m, r] = false := by with_unfolding_all rfl) : Tr B bx n sc ρ st (.Compare l [.Lt, .LtE] [m, r] q) (decide (a < b) && decide (b ≤ c)) st := by
  by_cases hab : a < b
  · rw [decide_eq_true hab, Bool.true_and]
    exact Tr.chain_true h h' (Cmp.ltT hab) h'' Cmp.le hm
  · rw [decide_eq_false hab, Bool.false_and]
    exact Tr.chain_false h h' (Cmp.ltF (by omega)) hm
theorem Tr.chainN {l m r : Expr} {q : Pos} {a b c : Nat} (h : Ev B bx n sc ρ st l (nInt a) st) (h' : Ev B bx n sc ρ st m (nInt b) st) (h'' : Ev B bx n sc ρ st r (nInt c) st)
    (hm : lastMarks [.Lt, .LtE] [m, r] = false := by with_unfolding_all rfl) : Tr B bx n sc ρ st (.Compare l [.Lt, .LtE] [m, r] q) (decide (a < b) && decide (b ≤ c)) st := by
  have := Tr.chainB h h' h'' (q := q) hm
  rwa [show decide ((a : Int) < b) = decide (a < b) by rw [decide_eq_decide]; omega, show decide ((b : Int) ≤ c) = decide (b ≤ c) by rw [decide_eq_decide]; omega] at this
theorem pys_ints : ∀ (ds : List Nat), T.pys (ds.map nInt) = some (ds.map fun (d : Nat) => PyData.int (d : Int))
  | [] => rfl
  | d :: ds => by
    have := pys_ints ds
    simp only [List.map_cons, T.pys, T.py, this]
theorem canLay_ints : ∀ (is : List Int), PyData.canLayAll0 (is.map PyData.int) = true
  | [] => rfl
  | i :: is => by simp [PyData.canLayAll0, PyData.canLay0, canLay_ints is]
theorem depth_ints : ∀ (is : List Int), PyData.depthAll (is.map PyData.int) = 0
  | [] => rfl
  | i :: is => by simp [PyData.depthAll, PyData.depth, depth_ints is]
theorem shaped_ints (is : List Int) : SeqAt.shaped (.list (is.map PyData.int)) = true := by
  simp [SeqAt.shaped, PyData.canLay0, canLay_ints, PyData.depth, depth_ints]
theorem shaped_row (ds : List Nat) : SeqAt.shaped (.list (ds.map fun (d : Nat) => PyData.int (d : Int))) = true := by
  have := shaped_ints (ds.map fun (d : Nat) => (d : Int))
  rwa [List.map_map] at this
theorem row_py (ds : List Nat) : (rowT ds).py = some (.list (ds.map fun (d : Nat) => PyData.int (d : Int))) := by simp [T.py, pys_ints]
theorem eqv_nil {xs : List PyData} : PyData.eqv (.list xs) (.list []) = xs.isEmpty := by
  cases xs <;> simp [PyData.eqv, PyData.eqvAll]
theorem Cmp.rowNil {w N : Nat} (hw : 1 ≤ w) : Cmp B bx n .Eq (row w N) (.list []) (decide (N = 0)) := by
  refine Cmp.cast (Cmp.eqD (row_py _) (db := .list []) rfl (shaped_row _) rfl) ?_
  rw [eqv_nil]
  by_cases h : N = 0
  · subst h; simp [digits_zero]
  · have := digits_pos (two_le_pow hw) (Nat.pos_of_ne_zero h)
    rw [this]; simp [h]
theorem optPT_py (q : Pt) : (optPT q).py = some (match q with | none => .none | some q => .tuple [.int q.1, .int q.2]) := by
  cases q <;> rfl
theorem none_in (ps : List Pt) : Cmp B bx n .In .none (.list (ps.map optPT)) (ps.any Option.isNone) := by
  have hp : ∀ ps : List Pt, T.pys (ps.map optPT) = some (ps.map fun q => match q with | none => .none | some q => .tuple [.int q.1, .int q.2]) := by
    intro ps
    induction ps with
    | nil => rfl
    | cons q ps ih => simp only [List.map_cons, T.pys, optPT_py, ih]
  have hc : ∀ ps : List Pt, PyData.canLayAll0 (ps.map fun q => match q with | none => .none | some q => .tuple [.int q.1, .int q.2]) = true := by
    intro ps
    induction ps with
    | nil => rfl
    | cons q ps ih => cases q <;> simp [PyData.canLayAll0, PyData.canLay0, ih]
  have hdp : ∀ ps : List Pt, PyData.depthAll (ps.map fun q => match q with | none => .none | some q => .tuple [.int q.1, .int q.2]) ≤ 1 := by
    intro ps
    induction ps with
    | nil => simp [PyData.depthAll]
    | cons q ps ih => cases q <;> simp [PyData.depthAll, PyData.depth, ih]
  refine Cmp.cast (Cmp.inList (d := .none) rfl (hp ps) rfl (by
    have h1 := hc ps
    have h2 := hdp ps
    simp only [SeqAt.shaped, PyData.canLay0, PyData.depth, Bool.and_eq_true]
    exact ⟨h1, decide_eq_true (Nat.le_trans (Nat.succ_le_succ h2) (show 2 ≤ 64 by decide))⟩)) ?_
  rw [List.any_map]
  congr 1
  funext q
  cases q <;> rfl

theorem Exs.consB {c : Expr} {a e ss : List Stmt} {q : Pos} {b : Bool} (h : Tr B bx n sc ρ st c b st₁) (ht : b = true → Exs B bx n sc ρ st₁ a out) (hf : b = false → Exs B bx n sc ρ st₁ ss out) {t : T} {st₄ : BSt} (ho : out = .ret t st₄ := by exact rfl) (he : e = [] := by exact rfl) : Exs B bx n sc ρ st (.If c a e q :: ss) out := by
  subst ho he
  cases b with
  | true => exact Exs.ret (Ex1.if_true h (ht rfl))
  | false => exact Exs.cons (Ex1.if_false h Exs.nil) (hf rfl)
theorem pys_I : ∀ (is : List Int), T.pys (is.map T.int) = some (is.map PyData.int)
  | [] => rfl
  | d :: ds => by
    have := pys_I ds
    simp only [List.map_cons, T.pys, T.py, this]
theorem Cmp.onesNe {α : Type} (l : List α) (f : α → Bool) : Cmp B bx n .NotEq (.list ((l.filter f).map fun _ => T.int 1)) (.list []) (l.any f) := by
  have e : ((l.filter f).map fun _ => T.int 1) = ((l.filter f).map fun _ => (1 : Int)).map T.int := by rw [List.map_map]; rfl
  rw [e]
  refine Cmp.cast (Cmp.neD (da := .list (((l.filter f).map fun _ => (1 : Int)).map PyData.int)) (db := .list []) (by simp only [T.py, pys_I, Option.map_some]) rfl (shaped_ints _) rfl) ?_
  rw [eqv_nil]
  rw [Bool.eq_iff_iff, List.any_eq_true]
  simp [List.isEmpty_iff]
noncomputable abbrev rEnv (w a b r : Nat) (P c S0 : Nat × Nat) (bp : Addr) (F S W : Nat) (t : REnv) : REnv :=
  ("curve", .sh (crv a b r)) :: ("point", .sh (.tup [nInt P.1, nInt P.2])) :: ("pair", .sh (pt w c)) :: ("start", .sh (pt w S0)) :: ("rests", .sh (restsT w r)) :: ("box", .sh (.fn bp)) :: ("first", .sh (nInt F)) :: ("second", .sh (nInt S)) :: ("width", .sh (nInt W)) :: t
theorem other_lt {W p : Nat} (hW : 2 ≤ W) (hW' : W ≤ 1000) (hp : p ≤ 1000) : otherP W p ≤ 2 ^ 30 := by
  unfold otherP
  split
  · omega
  · have h1 : (p + W / 2) / W ≤ 1500 := Nat.le_trans (Nat.div_le_self _ _) (by omega)
    have : (p + W / 2) / W * W ≤ 1500 * 1000 := Nat.mul_le_mul h1 hW'
    omega
theorem calls_right (hK : B.K = K39 B.w.params) {w a b r : Nat} {P c S0 : Nat × Nat} (hf : Fit w r) (h2 : 2 ≤ r) (hr : r ≤ 1000) (ha : a < r) (hb : b < r) (hP : P.1 < r ∧ P.2 < r) (hc : InN r c) (hS0 : InN r S0) (hz : st.1.length ≤ 1000) :
    Calls B (some p) 8 292 [crv a b r, .tup [nInt P.1, nInt P.2], pt w c, pt w S0, restsT w r, .fn p.1] st (.bool (rightB st a b r P c S0).1) (rightB st a b r P c S0).2 := by
  refine' calls_of ["curve", "point", "pair", "start", "rests", "box"] [("curve", .sh (crv a b r)), ("point", .sh (.tup [nInt P.1, nInt P.2])), ("pair", .sh (pt w c)), ("start", .sh (pt w S0)), ("rests", .sh (restsT w r)), ("box", .sh (.fn p.1))] ?hl ?hc ?hb ?hx ?hlen ?hnd ?hk ?hco ?hgen ?hr ?h
  walk_at "my enter"
  case hb => exact all6 fun _ _ _ _ _ _ => rfl
  unfold rightB
  dsimp only
  have c1 := calls_take (p := p) (st := st) hK (m := 6) (by omega) (by omega) hz
  have l1 := takeB_lt (st := st) (m := 6) (by omega)
  have z1 := takeB_len (st := st) (m := 6)
  generalize takeB st 6 = A at *
  obtain ⟨F, st1⟩ := A
  dsimp only at c1 l1 z1 ⊢
  have c2 := calls_take (p := p) (st := st1) hK (m := 18) (by omega) (by omega) (by omega)
  have l2 := takeB_lt (st := st1) (m := 18) (by omega)
  have z2 := takeB_len (st := st1) (m := 18)
  generalize takeB st1 18 = A at *
  obtain ⟨s0, st2⟩ := A
  dsimp only at c2 l2 z2 ⊢
  have c3 := calls_take (p := p) (st := st2) hK (m := 7) (by omega) (by omega) (by omega)
  have l3 := takeB_lt (st := st2) (m := 7) (by omega)
  generalize takeB st2 7 = A at *
  obtain ⟨w0, st3⟩ := A
  dsimp only at c3 l3 ⊢
  obtain ⟨S, hS⟩ : ∃ S, 5 + s0 = S := ⟨_, rfl⟩
  obtain ⟨W, hW⟩ : ∃ W, 2 + w0 = W := ⟨_, rfl⟩
  rw [hS, hW]
  refine Exs.cons (st₁ := st3) (ρ' := rEnv w a b r P c S0 p.1 F S W []) (Ex1.assignT (xs := ["first", "second", "width"]) (ts := [nInt F, nInt S, nInt W]) (Ev.tuple (Evs.c3 (Ev.fn_ (Evs.c2 Ev.nm Ev.int) c1) (Ev.intE (Ev.add Ev.int (Ev.fn_ (Evs.c2 Ev.nm Ev.int) c2)) (by omega)) (Ev.intE (Ev.add Ev.int (Ev.fn_ (Evs.c2 Ev.nm Ev.int) c3)) (by omega))))
    rfl rfl (by decide) (by walk_at "my sets") (hv := fun env e => by cases env; cases e; rfl)) ?_
  obtain ⟨ps, hps⟩ : ∃ ps, [2, 3, 5, 7, 11, 13, 17, 19].filter (fun p => decide (F < p) && decide (p ≤ S)) = ps := ⟨_, rfl⟩
  have hmem : ∀ p ∈ ps, 2 ≤ p ∧ p ≤ 1000 := fun p hp => by
    rw [← hps, List.mem_filter] at hp
    have h1 := hp.1
    simp at h1
    omega
  refine Exs.cons (st₁ := st3) (ρ' := rEnv w a b r P c S0 p.1 F S W [("primes", .sh (.list (ps.map nInt)))]) (Ex1.setCompK (t := .list ([2, 3, 5, 7, 11, 13, 17, 19].map nInt)) [("first", .sh (nInt F)), ("second", .sh (nInt S))] ["first", "second"] (Ev.cast (Ev.consts [2, 3, 5, 7, 11, 13, 17, 19] rfl (by simp [sizeLine])) rfl) ?_) ?_
  · rw [← hps]
    exact CompTo.filter (g := nInt) (f := nInt) (fun q hq => Tr.chainN Ev.nm Ev.nm Ev.nm) (fun q hq _ => Ev.nm)
  obtain ⟨G, hG⟩ : ∃ G, 2 + S / W - 1 = G := ⟨_, rfl⟩
  have hSW : S / W ≤ S := Nat.div_le_self _ _
  have hG1 : G ≤ 30 := by omega
  have hone : 1 ≤ 2 + S / W := Nat.le_trans (by decide) (Nat.le_add_right 2 _)
  have hforty : 2 + S / W ≤ 2 ^ 40 := Nat.le_trans (Nat.add_le_add_left hSW 2) (by omega)
  refine Exs.cons (st₁ := st3) (ρ' := rEnv w a b r P c S0 p.1 F S W [("primes", .sh (.list (ps.map nInt))), ("greats", .sh (.list ((List.range G).map fun i => optPT (mulP a b r P ((1 + i) * W)))))])
    (Ex1.setCompK (t := .range ((1 : Nat) : Int) ((2 + S / W : Nat) : Int) 1) (ts := (List.range G).map fun i => nInt (1 + i)) [("width", .sh (nInt W)), ("point", .sh (.tup [nInt P.1, nInt P.2])), ("curve", .sh (crv a b r))] ["width", "point", "curve"]
      (Ev.range2 Ev.int (Ev.intE (Ev.add Ev.int (Ev.intE (b := ((S / W : Nat) : Int)) (Ev.div Ev.nm Ev.nm (by omega) (by omega)) (by push_cast; rfl))) (by push_cast; rfl)) rfl (by walk_at "my k")) ?_ (by rw [← hG]; exact items_up hone) (rangeOK_up hone hforty)) ?_
  · refine CompTo.map fun i hi => ?_
    have hi' : i < G := List.mem_range.mp hi
    have hk : (1 + i) * W ≤ 31 * 9 := Nat.mul_le_mul (by omega) (by omega)
    exact Ev.fn_ (Evs.c3 (Ev.intE (b := (((1 + i) * W : Nat) : Int)) (Ev.mul Ev.nm Ev.nm (mulOkN (by omega))) (by push_cast; rfl)) Ev.nm Ev.nm) (calls_multiple hK h2 hr ha hb hP (by omega))
  obtain ⟨bt, hbt⟩ : ∃ bt : Nat → Bool, bt = fun i => match mulP a b r P ((1 + i) * W) with | none => true | some q => decide (q.1 = 0) := ⟨_, rfl⟩
  have hbad : badP a b r P S W = (List.range G).any bt := by unfold badP; rw [hG, hbt]
  refine Exs.consB (st₁ := st3) (b := badP a b r P S W) (Tr.cmp (Ev.compK (t := .list ((List.range G).map fun i => optPT (mulP a b r P ((1 + i) * W)))) (us := ((List.range G).filter bt).map fun _ => T.int 1) [] [] Ev.nm ?_) (Ev.list Evs.nil) ?_) (fun hbd => ?_) (fun hbd => ?_)
  · refine CompTo.filter (fun i hi => ?_) (fun i hi _ => Ev.int)
    rw [hbt]
    dsimp only
    generalize mulP a b r P ((1 + i) * W) = m
    cases m with
    | none => exact Tr.ops (Trs.or_true (Tr.cmp (Ev.cast (t := optPT none) (t' := .none) Ev.nm rfl) Ev.cnone Cmp.isNone))
    | some q => exact Tr.or2 (Tr.cmp (Ev.cast (t := optPT (some q)) (t' := .tup [nInt q.1, nInt q.2]) Ev.nm rfl) Ev.cnone Cmp.isNone) (Tr.cmp (Ev.t0 (Ev.cast (t := optPT (some q)) (t' := .tup [nInt q.1, nInt q.2]) Ev.nm rfl)) Ev.int Cmp.eq) (by
        show _ = (false || _)
        rw [Bool.false_or, decide_eq_decide]; omega)
  · rw [hbad]
    exact Cmp.onesNe _ _
  · unfold rightP
    rw [if_pos hbd]
    exact Exs.ret (Ex1.ret Ev.bool)
  · unfold rightP
    rw [if_neg (by rw [hbd]; decide)]
    refine Exs.cons (Ex1.set Ev.bool) ?_
    have hdue : dueP a b r P F S W = ps.foldl (fun d p => d || (mulP a b r P p).isNone || (mulP a b r P (otherP W p)).isNone) false := by unfold dueP; rw [hps]
    obtain ⟨df, hdf⟩ : ∃ df : Bool → Nat → Bool, df = fun d p => d || (mulP a b r P p).isNone || (mulP a b r P (otherP W p)).isNone := ⟨_, rfl⟩
    rw [hdue, ← hdf]
    refine Exs.cons (st₁ := st3) (ρ' := rEnv w a b r P c S0 p.1 F S W [("primes", .sh (.list (ps.map nInt))), ("greats", .sh (.list ((List.range G).map fun i => optPT (mulP a b r P ((1 + i) * W))))), ("due", .sh (.bool (ps.foldl df false)))])
      (Ex1.for_ (t := .list (ps.map nInt)) Ev.nm rfl rfl (by walk_at "my kd") (ForTo.go (fun i => rEnv w a b r P c S0 p.1 F S W [("primes", .sh (.list (ps.map nInt))), ("greats", .sh (.list ((List.range G).map fun i => optPT (mulP a b r P ((1 + i) * W))))), ("due", .sh (.bool ((ps.take i).foldl df false)))]) (fun _ => st3) (fun i hi => ?_) rfl rfl ?_)) ?_
    · have hi' : i < ps.length := by simpa using hi
      have e : (ps.take (i + 1)).foldl df false = df ((ps.take i).foldl df false) ps[i] := by
        rw [List.take_add_one, List.getElem?_eq_getElem hi', List.foldl_append]; rfl
      obtain ⟨hp2, hp1⟩ := hmem _ (List.getElem_mem hi')
      rw [e, List.getElem_map]
      generalize (ps.take i).foldl df false = d at *
      generalize ps[i] = q at *
      obtain ⟨gr, hgr⟩ : ∃ gr, ((List.range G).map fun i => optPT (mulP a b r P ((1 + i) * W))) = gr := ⟨_, rfl⟩
      rw [hgr]
      refine ⟨rEnv w a b r P c S0 p.1 F S W [("primes", .sh (.list (ps.map nInt))), ("greats", .sh (.list gr)), ("due", .sh (.bool d)), ("p", .sh (nInt q))], by walk_at "my set", ?_⟩
      obtain ⟨many, hmany⟩ : ∃ many, (q + W / 2) / W = many := ⟨_, rfl⟩
      have hmany1 : many ≤ 1500 := by
        rw [← hmany]
        exact Nat.le_trans (Nat.div_le_self _ _) (by omega)
      have hoth : otherP W q = if many = 0 ∨ q = many * W then q else (2 * (many * W : Nat) - (q : Int)).natAbs := by unfold otherP; rw [hmany]
      have hol := other_lt (W := W) (p := q) (by omega) (by omega) hp1
      refine Exs.weak (ρ₁ := rEnv w a b r P c S0 p.1 F S W [("primes", .sh (.list (ps.map nInt))), ("greats", .sh (.list gr)), ("due", .sh (.bool (df d q))), ("p", .sh (nInt q)), ("many", .sh (nInt many)), ("other", .sh (nInt (otherP W q))), ("ends", .sh (.list ([q, otherP W q].map fun k => optPT (mulP a b r P k))))]) ?_ (by walk_at "my sub")
      refine Exs.cons (Ex1.set (Ev.intE (b := ((many : Nat) : Int)) (Ev.div (Ev.intE (b := ((q + W / 2 : Nat) : Int)) (Ev.add Ev.nm (Ev.intE (b := ((W / 2 : Nat) : Int)) (Ev.div Ev.nm Ev.int (by omega) (by omega)) (by push_cast; rfl))) (by push_cast; rfl)) Ev.nm (by omega) (by omega)) (by rw [← hmany]; push_cast; rfl))) ?_
      have hmw : IntMulOk (many : Int) (W : Int) := mulOkN (by omega)
      have hdf' : df d q = (d || ((mulP a b r P q).isNone || (mulP a b r P (otherP W q)).isNone)) := by rw [hdf, ← Bool.or_assoc]
      refine Exs.cons (st₁ := st3) (Ex1.set (t := nInt (otherP W q)) ?_) ?_
      · rw [hoth]
        by_cases hm : many = 0
        · rw [if_pos (.inl hm)]
          exact Ev.if_true (Tr.ops (Trs.or_true (Tr.cmp Ev.nm Ev.int (Cmp.eqT (by omega))))) Ev.nm
        · by_cases hq : q = many * W
          · rw [if_pos (.inr hq)]
            exact Ev.if_true (Tr.ops (Trs.or_false (Tr.cmp Ev.nm Ev.int (Cmp.eqF (by omega))) (Trs.or_true (Tr.cmp Ev.nm (Ev.intE (b := ((many * W : Nat) : Int)) (Ev.mul Ev.nm Ev.nm hmw) (by push_cast; rfl)) (Cmp.eqT (by omega)))))) Ev.nm
          · rw [if_neg (by omega)]
            refine Ev.if_false (Tr.ops (Trs.or_false (Tr.cmp Ev.nm Ev.int (Cmp.eqF (by omega))) (Trs.or_false (Tr.cmp Ev.nm (Ev.intE (b := ((many * W : Nat) : Int)) (Ev.mul Ev.nm Ev.nm hmw) (by push_cast; rfl)) (Cmp.eqF (by omega))) Trs.or_nil))) ?_
            exact Ev.intE (Ev.abs (Ev.sub (Ev.mul (Ev.mul Ev.int Ev.nm (mulOkR (by rw [Int.natAbs_natCast]; omega))) Ev.nm (mulOkR (by rw [Int.natAbs_natCast]; omega))) Ev.nm) rfl (by walk_at "my k")) (by rw [Int.mul_assoc]; push_cast; rfl)
      · generalize otherP W q = o at *
        refine Exs.cons (Ex1.setCompK (t := .tup [nInt q, nInt o]) (ts := [q, o].map nInt) (us := [q, o].map fun k => optPT (mulP a b r P k)) [("point", .sh (.tup [nInt P.1, nInt P.2])), ("curve", .sh (crv a b r))] ["point", "curve"] (Ev.tuple (Evs.c2 Ev.nm Ev.nm)) (CompTo.map fun k hk => ?_)) ?_
        · have hk' : k ≤ 2 ^ 30 := by
            simp at hk
            omega
          exact Ev.fn_ (Evs.c3 Ev.nm Ev.nm Ev.nm) (calls_multiple hK h2 hr ha hb hP hk')
        · have hin : Cmp B (some p) 7 .In .none (.list ([q, o].map fun k => optPT (mulP a b r P k))) ((mulP a b r P q).isNone || (mulP a b r P o).isNone) := by
            have := none_in (B := B) (bx := some p) (n := 7) [mulP a b r P q, mulP a b r P o]
            simpa using this
          refine Exs.last (Ex1.set (t := .bool (df d q)) ?_)
          rw [hdf']
          cases d with
          | true => exact Ev.or2_true Ev.nm
          | false => exact Ev.or2_false Ev.nm (Ev.cmp Ev.cnone Ev.nm hin)
    · rw [List.length_map, List.take_length]
    · have hsec := calls_second (bx := some p) (st := st3) hK (F := F) (S := S) (W := W) hf hS0 hc (by omega) (by omega) (by omega) (by omega)
      refine Exs.cons (Ex1.set (Ev.fn_ (Evs.cons Ev.nm (Evs.cons Ev.nm (Evs.c4 Ev.nm Ev.nm Ev.nm Ev.nm))) hsec)) ?_
      refine Exs.ret (Ex1.ret (Ev.cast (Ev.cmp (Ev.cmp Ev.nm (Ev.list Evs.nil) (Cmp.rowNil hf.w1)) Ev.nm (Cmp.eqD (da := .bool (decide (secondP r c S0 F S W = 0))) (db := .bool (ps.foldl df false)) rfl rfl rfl rfl)) ?_))
      rfl
end
/-- what the law asks of the numbers -/
structure Drawn (r : Nat) (c : Crv) : Prop where
  a : c.a < r
  x : 0 < c.x ∧ c.x < r
  y : 0 < c.y ∧ c.y < r
  b : c.b = shr ((c.x : Int) * c.x * c.x + c.a * c.x * c.x + c.x) ((c.y : Int) * c.y) r
  nb : c.b ≠ 0
  na : ¬ ((c.a : Int) * c.a - 4) % r = 0
noncomputable abbrev pairP (r : Nat) (c : Crv) : Nat × Nat := ((c.a + 2) % r, 4 % r)
noncomputable abbrev startP (r : Nat) (c : Crv) (s : Nat) : Nat × Nat := (c.x * s % r, s)
structure PureLaw : Prop where
  ladder : ∀ r ∈ primes14, ∀ c : Crv, Drawn r c → ∀ s k, 0 < s → s < r → 0 < k → k ≤ 60 → sameP r (lad r (pairP r c) (startP r c s) k).1 (mulP c.a c.b r (c.x, c.y) k) = true
  right : ∀ r ∈ primes14, ∀ c : Crv, Drawn r c → ∀ s F S W, 0 < s → s < r → F < 6 → 5 ≤ S → S < 23 → 2 ≤ W → W < 9 → rightP c.a c.b r (c.x, c.y) (pairP r c) (startP r c s) F S W = true
  part : ∀ p ∈ primes14, ∀ q ∈ primes14, ∀ F S W ss g s, 2 ≤ F → F < 8 → 3 ≤ S → S < 15 → 2 ≤ W → W < 7 → (∀ s ∈ ss, 6 ≤ s ∧ s < 26) → byCurves (p * q) F S W ss = some (g, s) → (g = p ∨ g = q) ∧ s ∈ ss
  stages : ∀ p ∈ primes14, ∀ q ∈ primes14, ∀ F S W s0 ss, 2 ≤ F → F < 8 → 3 ≤ S → S < 15 → 2 ≤ W → W < 7 → (∀ s ∈ s0 :: ss, 6 ≤ s ∧ s < 26) →
    (stage s0 F p = .out → stage s0 F q = .other → byCurves (p * q) F S W (s0 :: ss) = some (p, s0)) ∧ (stage s0 F p = .other → stage s0 F q = .out → byCurves (p * q) F S W (s0 :: ss) = some (q, s0))
theorem primes14_le {r : Nat} (h : r ∈ primes14) : 11 ≤ r ∧ r ≤ 61 := by
  simp [primes14] at h
  omega
section
variable {B : Bg} {bx : Bx} {p : Addr × Addr} {n : Nat} {sc : Scope} {ρ ρ' ρ₁ : REnv} {st st₁ st₂ st₃ : BSt} {out : Out}
noncomputable def ExsR (B : Bg) (bx : Bx) (n : Nat) (sc : Scope) (ρ : REnv) (st : BSt) (ss : List Stmt) (t : T) : Prop := ∃ st', Exs B bx n sc ρ st ss (.ret t st')
theorem ExsR.cons {s : Stmt} {ss : List Stmt} {t : T} (h : Ex1 B bx n sc ρ st s (.next ρ₁ st₁)) (h' : ExsR B bx n sc ρ₁ st₁ ss t) : ExsR B bx n sc ρ st (s :: ss) t := h'.imp fun _ e => Exs.cons h e
theorem ExsR.consP (P : BSt → Prop) {s : Stmt} {ss : List Stmt} {t : T} (h : ∃ st₁, P st₁ ∧ Ex1 B bx n sc ρ st s (.next ρ₁ st₁)) (h' : ∀ st₁, P st₁ → ExsR B bx n sc ρ₁ st₁ ss t) : ExsR B bx n sc ρ st (s :: ss) t := by
  obtain ⟨st₁, p, e⟩ := h
  exact ExsR.cons e (h' st₁ p)
theorem ExsR.ret {s : Stmt} {ss : List Stmt} {t : T} (h : Ex1 B bx n sc ρ st s (.ret t st₁)) : ExsR B bx n sc ρ st (s :: ss) t := ⟨_, Exs.ret h⟩
theorem Ev.gl {x : Str} {q : Pos} {a : Addr} (k : sc.names.lookup x = some .globalImplicit := by exact rfl) (e : nsIn B.K mainGlobals x = some (some (.ref a)) := by walk_at "my k") (hk : keepIn B.K (.ref a) = true := by walk_at "my k") (hd : (x == ("__debug__" : Str)) = false := by decide) :
    Ev B bx n sc ρ st (.Name x q) (.fn a) st := Ev.global k e hd
theorem Ev.prime (hK : B.K = K39 B.w.params) {np q q' : Pos} {e : Expr} {k i : Nat} (h : Ev B bx n sc ρ st e (nInt k) st₁) (hk : k < primes14.length) (hi : primes14[k] = i) (l : 1 ≤ n) (kk : sc.names.lookup ("_law_primes" : Str) = some .globalImplicit)
    (hs : ∀ o j, subscripted e false o j = operate [o, j] (getItem o j) := by intro _ _; with_unfolding_all rfl) : Ev B bx n sc ρ st (.Subscript (.Call (.Name "_law_primes" np) [] [] q) e q') (nInt i) st₁ := by
  obtain ⟨n', rfl⟩ : ∃ n', n = n' + 1 := ⟨n - 1, by omega⟩
  exact Ev.itemR (ds := primes14) (Ev.callF0 (Ev.gl kk) (by walk_at "my k") ((calls_law_primes hK).le (by omega))) h hk (by rw [hi]) (by decide) hs
noncomputable def lawBody (K : Frag) : List Stmt := match K.lookup 302 with
  | some ⟨_, _, .func fd, _⟩ => (match fd.body with | .stmts b => b | _ => [])
  | _ => []
noncomputable def lawScope (K : Frag) : Scope := match K.lookup 302 with
  | some ⟨_, _, .func fd, _⟩ => fd.scope
  | _ => { kind := .function, names := [], isGenerator := false, isCoroutine := false }
theorem law_open {K : Frag} {name qual : Str} {params : Arguments} {body : List Stmt} {scope : Scope} {doc pm cdv ct oc : Value} {an od : Option Addr} {osl : Array (Option Value)}
    (hl : K.lookup 302 = some ⟨oc, od, .func (fnOf name qual params body scope .none .none doc pm an cdv ct), osl⟩) (h : Exs B bx n scope ρ st body out) : Exs B bx n (lawScope K) ρ st (lawBody K) out := by
  unfold lawBody lawScope
  rw [hl]
  exact h
theorem eqv_ints : ∀ (is js : List Int), PyData.eqv (.list (is.map PyData.int)) (.list (js.map PyData.int)) = decide (is = js) := by
  have : ∀ (is js : List Int), PyData.eqvAll (is.map PyData.int) (js.map PyData.int) = decide (is = js) := by
    intro is
    induction is with
    | nil => intro js; cases js <;> simp [PyData.eqvAll]
    | cons i is ih =>
      intro js
      cases js with
      | nil => simp [PyData.eqvAll]
      | cons j js =>
        simp only [List.map_cons, PyData.eqvAll, PyData.eqv, ih]
        rw [show (i == j) = decide (i = j) from rfl, ← Bool.decide_and, decide_eq_decide, List.cons.injEq]
  intro is js
  simp only [PyData.eqv]
  exact this is js
theorem digits_map_int (ds : List Nat) : (ds.map fun (d : Nat) => PyData.int (d : Int)) = (ds.map fun (d : Nat) => (d : Int)).map PyData.int := by rw [List.map_map]; rfl
theorem eqv_row {w g h : Nat} (hw : 1 ≤ w) : PyData.eqv (.list ((digits (2 ^ w) g).map fun (d : Nat) => PyData.int (d : Int))) (.list ((digits (2 ^ w) h).map fun (d : Nat) => PyData.int (d : Int))) = decide (g = h) := by
  rw [digits_map_int, digits_map_int, eqv_ints, decide_eq_decide]
  constructor
  · intro e
    have : digits (2 ^ w) g = digits (2 ^ w) h := (List.map_inj_right (f := fun (d : Nat) => (d : Int)) fun a b e => by omega).mp e
    exact digits_inj (two_le_pow hw) this
  · intro e; rw [e]

theorem law_seed {is : List Int} {sc' : Scope} {body : List Stmt} {x : Str} {ρ : REnv} (gr : Int → REnv) (hset : ∀ i, SetTo x (.sh (.int i)) ρ (gr i)) (h : ∀ i sd, Exs B (some p) n sc' (gr i) (is, sd) body (.next ρ (is, (sd * 31 + i) % 1000003))) :
    ∀ (l : List Int) (sd : Int), ∃ sd', ForTo B (some p) n sc' x body (l.map T.int) ρ (is, sd) (.next ρ (is, sd'))
  | [], sd => ⟨sd, ForTo.nil⟩
  | i :: l, sd => by
    obtain ⟨sd', h'⟩ := law_seed gr hset h l ((sd * 31 + i) % 1000003)
    exact ⟨sd', ForTo.cons (hset i) (h i sd) h'⟩

theorem seedFor {x : Str} {px q : Pos} {e : Expr} {body : List Stmt} {t : T} {l is : List Int} {sd : Int} (P : BSt → Prop) (hP : ∀ sd', P (is, sd')) (h : Ev B (some p) n sc ρ (is, sd) e t (is, sd)) (ht : t.items = some (l.map T.int)) (hr : t.rangeOK = true) (k : sc.names.lookup x = some .local ∨ sc.names.lookup x = some .cell)
    (hf : ∃ sd', ForTo B (some p) n sc x body (l.map T.int) ρ (is, sd) (.next ρ (is, sd'))) (hs : ∀ env x, foldedSetIterable e env x = pure x := by intro _ _; rfl) : ∃ st₁, P st₁ ∧ Ex1 B (some p) n sc ρ (is, sd) (.For (.Name x px) e body [] q) (.next ρ st₁) := by
  obtain ⟨sd', hf⟩ := hf
  exact ⟨_, hP sd', Ex1.for_ h ht hr k hf hs⟩
theorem Ex1.assignC {x : Str} {p' p : Pos} {e : Expr} {t : T} (h : Ev B bx n sc ρ st e t st₁) (hs : SetTo x (.sh t) ρ ρ' := by walk_at "my set") (k : sc.names.lookup x = some .local ∨ sc.names.lookup x = some .cell := by walk_at "my kd")
    (hw : ∀ env : Env, env.scope = sc → swapsWith e (some (.Name x p')) p.line env = pure false := by intro env e; cases env; cases e; rfl) : Ex1 B bx n sc ρ st (.Assign [.Name x p'] e p) (.next ρ' st₁) := fun A M Y env sh Q r F S q => by
  refine wpAny_Assign_Name (h A _ env sh _ r F.eok S fun v h' tk x' S' rv => ?_) (hw env F.eok.scope)
  exact store_sh (s := { sh with heap := h', toks := tk }) (F.keeps x' S') S' k hs rv fun h₂ tk₂ km _ F₂ S₂ => q M h₂ tk₂ ((KeepM.of_ext x').trans Grow.refl km) Grow.refl F₂ S₂
theorem drawS {sc' : Scope} {elt : Expr} {ρf : REnv} {x : Str} (h : ∀ t st, st.1.length ≤ 100 → ∃ s st', 6 ≤ s ∧ s < 26 ∧ st'.1.length ≤ 100 ∧ Ev B (some p) n sc' ((x, .sh t) :: ρf) st elt (nInt s) st') :
    ∀ (ts : List T) (st : BSt), st.1.length ≤ 100 → ∃ (ss : List Nat) (st' : BSt), (∀ s ∈ ss, 6 ≤ s ∧ s < 26) ∧ ss.length = ts.length ∧ st'.1.length ≤ 100 ∧ CompTo B (some p) n sc' x [] elt ρf ts st (ss.map nInt) st'
  | [], st, hz => ⟨[], st, (fun _ h => by cases h), rfl, hz, rfl, rfl⟩
  | t :: ts, st, hz => by
    obtain ⟨s, st₁, h1, h2, h3, h4⟩ := h t st hz
    obtain ⟨ss, st₂, g1, g2, g3, g4⟩ := drawS h ts st₁ h3
    refine ⟨s :: ss, st₂, fun u hu => ?_, by simp [g2], g3, ⟨st, .inr ⟨nInt s, st₁, ss.map nInt, ⟨rfl, rfl⟩, h4, g4, rfl⟩⟩⟩
    rcases List.mem_cons.mp hu with rfl | hu
    · exact ⟨h1, h2⟩
    · exact g1 u hu
theorem ExsR.draw {q q' : Pos} {elt iter : Expr} {cs : Scope} {x y : Str} {px py : Pos} {ss : List Stmt} {t u : T} {ts : List T} {ρ₁ : List Nat → REnv} (ρf : REnv) (keys : List Str) (h : Ev B (some p) n sc ρ st iter t st₁) (ht : t.items = some ts) (hr : t.rangeOK = true) (hz : ts.length ≤ sizeLine) (hk : ρf.map (·.1) = keys) (hc : CompOK cs sc x keys) (hsub : SubEnv ρf ρ)
    (hsh : (ρf.all fun p => p.2.isSh) = true) (hs₁ : st₁.1.length ≤ 100) (hE : ∀ t st, st.1.length ≤ 100 → ∃ s st', 6 ≤ s ∧ s < 26 ∧ st'.1.length ≤ 100 ∧ Ev B (some p) n (relS cs sc) ((x, .sh t) :: ρf) st elt (nInt s) st') (hset : ∀ l : List Nat, SetTo y (.sh (.list (l.map nInt))) ρ (ρ₁ l))
    (k : sc.names.lookup y = some .local ∨ sc.names.lookup y = some .cell) (h' : ∀ (l : List Nat) st₂, (∀ s ∈ l, 6 ≤ s ∧ s < 26) → l.length = ts.length → st₂.1.length ≤ 100 → ExsR B (some p) n sc (ρ₁ l) st₂ ss u)
    (hw : ∀ env : Env, env.scope = sc → swapsWith (.ListComp elt [⟨.Name x px, iter, [], 0⟩] cs q) (some (.Name y py)) q'.line env = pure false := by intro env e; cases env; cases e; rfl)
    (hs : ∀ env x, foldedSetIterable iter env x = pure x := by intro _ _; rfl) :
    ExsR B (some p) n sc ρ st (.Assign [.Name y py] (.ListComp elt [⟨.Name x px, iter, [], 0⟩] cs q) q' :: ss) u := by
  obtain ⟨l, st₂, g1, g2, g3, g4⟩ := drawS (B := B) (p := p) (n := n) hE ts st₁ hs₁
  subst hk
  exact ExsR.cons (Ex1.assignC (Ev.comp ρf h ht hr hc hsub hsh hz g4 hs) (hset l) k hw) (h' l st₂ g1 g2 g3)
theorem canLayN : ∀ (ds : List Nat), PyData.canLayAll0 (ds.map fun (d : Nat) => PyData.int (d : Int)) = true
  | [] => rfl
  | i :: is => by simp [PyData.canLayAll0, PyData.canLay0, canLayN is]
theorem depthN : ∀ (ds : List Nat), PyData.depthAll (ds.map fun (d : Nat) => PyData.int (d : Int)) = 0
  | [] => rfl
  | i :: is => by simp [PyData.depthAll, PyData.depth, depthN is]
theorem shaped_rows {w a b : Nat} : SeqAt.shaped (.list [.list ((digits (2 ^ w) a).map fun (d : Nat) => PyData.int (d : Int)), .list ((digits (2 ^ w) b).map fun (d : Nat) => PyData.int (d : Int))]) = true := by
  simp [SeqAt.shaped, PyData.canLay0, PyData.canLayAll0, canLayN, PyData.depth, PyData.depthAll, depthN]
theorem rowNotIn {w g a b : Nat} (hw : 1 ≤ w) (h : g = a ∨ g = b) : Cmp B bx n .NotIn (row w g) (.list [row w a, row w b]) false := by
  refine Cmp.cast (Cmp.notInList (row_py _) (xs := [.list ((digits (2 ^ w) a).map fun (d : Nat) => PyData.int (d : Int)), .list ((digits (2 ^ w) b).map fun (d : Nat) => PyData.int (d : Int))]) (by simp only [T.pys, row_py]) (shaped_row _) shaped_rows) ?_
  simp only [List.any_cons, List.any_nil, eqv_row hw, Bool.or_false]
  rcases h with rfl | rfl <;> simp
theorem intNotIn {s : Nat} {ss : List Nat} (h : s ∈ ss) : Cmp B bx n .NotIn (nInt s) (.list (ss.map nInt)) false := by
  refine Cmp.cast (Cmp.notInList (d := .int s) rfl (pys_ints ss) rfl (shaped_row _)) ?_
  rw [Bool.not_eq_false', List.any_eq_true]
  exact ⟨.int s, List.mem_map_of_mem (f := fun (d : Nat) => PyData.int (d : Int)) h, by simp [PyData.eqv]⟩
noncomputable def stD : St3 → PyData
  | .nil => .none
  | .out => .str "out"
  | .other => .str "other"
theorem stT_py (a : St3) : (stT a).py = some (stD a) := by cases a <;> rfl
theorem stD_eqv (a b : St3) : PyData.eqv (stD a) (stD b) = decide (a = b) := by cases a <;> cases b <;> first | rfl | decide
theorem stD_shaped (a b : St3) : SeqAt.shaped (.list [stD a, stD b]) = true := by cases a <;> cases b <;> decide +kernel
theorem stEq (a b c d : St3) : Cmp B bx n .Eq (.list [stT a, stT b]) (.list [stT c, stT d]) (decide (a = c ∧ b = d)) := by
  refine Cmp.cast (Cmp.eqD (da := .list [stD a, stD b]) (db := .list [stD c, stD d]) (by simp [T.py, T.pys, stT_py]) (by simp [T.py, T.pys, stT_py]) (stD_shaped _ _) (stD_shaped _ _)) ?_
  simp only [PyData.eqv, PyData.eqvAll, stD_eqv, Bool.and_true, Bool.decide_and]
theorem stNe (a b c d : St3) : Cmp B bx n .NotEq (.list [stT a, stT b]) (.list [stT c, stT d]) (!decide (a = c ∧ b = d)) := by
  refine Cmp.cast (Cmp.neD (da := .list [stD a, stD b]) (db := .list [stD c, stD d]) (by simp [T.py, T.pys, stT_py]) (by simp [T.py, T.pys, stT_py]) (stD_shaped _ _) (stD_shaped _ _)) ?_
  simp only [PyData.eqv, PyData.eqvAll, stD_eqv, Bool.and_true, Bool.decide_and]
theorem pairD {w g s : Nat} : (T.tup [row w g, nInt s]).py = some (.tuple [.list ((digits (2 ^ w) g).map fun (d : Nat) => PyData.int (d : Int)), .int s]) := by simp only [T.py, T.pys, pys_ints, Option.map_some]
theorem pairD_shaped {w g s : Nat} : SeqAt.shaped (.tuple [.list ((digits (2 ^ w) g).map fun (d : Nat) => PyData.int (d : Int)), .int s]) = true := by
  simp [SeqAt.shaped, PyData.canLay0, PyData.canLayAll0, canLayN, PyData.depth, PyData.depthAll, depthN]
theorem pairEq {w g s : Nat} (hw : 1 ≤ w) : Cmp B bx n .Eq (.tup [row w g, nInt s]) (.tup [row w g, nInt s]) true := by
  refine Cmp.cast (Cmp.eqD pairD pairD pairD_shaped pairD_shaped) ?_
  have := eqv_row (w := w) (g := g) (h := g) hw
  simp only [PyData.eqv, PyData.eqvAll] at this ⊢
  rw [this]; simp
theorem pairNe {w g s : Nat} (hw : 1 ≤ w) : Cmp B bx n .NotEq (.tup [row w g, nInt s]) (.tup [row w g, nInt s]) false := by
  refine Cmp.cast (Cmp.neD pairD pairD pairD_shaped pairD_shaped) ?_
  have := eqv_row (w := w) (g := g) (h := g) hw
  simp only [PyData.eqv, PyData.eqvAll] at this ⊢
  rw [this]; simp
theorem take_ok (hK : B.K = K39 B.w.params) (hz : st.1.length ≤ 100) (m : Nat) (h0 : 0 < m) (h1 : m ≤ 1000) : ∃ v st', v < m ∧ st'.1.length ≤ 100 ∧ Calls B (some p) 1 217 [.fn p.1, nInt m] st (nInt v) st' :=
  ⟨_, _, takeB_lt h0, Nat.le_trans takeB_len hz, calls_take hK h0 h1 (by omega)⟩
theorem curve_ok (hK : B.K = K39 B.w.params) {r : Nat} (hz : st.1.length ≤ 100) (h2 : 3 ≤ r) (hr : r ≤ 1000) : ∃ o st', (∀ c, o = some c → Drawn r c) ∧ st'.1.length ≤ 100 ∧ Calls B (some p) 2 280 [.fn p.1, nInt r] st (crvT r o) st' := by
  refine ⟨_, _, fun c e => ?_, ?_, calls_curve hK h2 hr (by omega)⟩
  · unfold curveB at e
    dsimp only at e
    split at e
    · cases e
    · rename_i hn
      cases e
      have l2 := takeB_lt (st := (takeB st r).2) (m := r - 1) (by omega)
      have l3 := takeB_lt (st := (takeB (takeB st r).2 (r - 1)).2) (m := r - 1) (by omega)
      exact ⟨takeB_lt (by omega), ⟨by dsimp only; omega, by dsimp only; omega⟩, ⟨by dsimp only; omega, by dsimp only; omega⟩, rfl, fun h => hn (.inl h), fun h => hn (.inr h)⟩
  · exact Nat.le_trans takeB_len (Nat.le_trans takeB_len (Nat.le_trans takeB_len hz))
theorem right_ok (hK : B.K = K39 B.w.params) (hL : PureLaw) {w r s : Nat} {c : Crv} (hr : r ∈ primes14) (hf : Fit w r) (hD : Drawn r c) (hs : 0 < s) (hs' : s < r) (hz : st.1.length ≤ 100) :
    ∃ st', st'.1.length ≤ 100 ∧ Calls B (some p) 8 292 [crv c.a c.b r, .tup [nInt c.x, nInt c.y], pt w (pairP r c), pt w (startP r c s), restsT w r, .fn p.1] st (.bool true) st' := by
  have hrb := primes14_le hr
  have hbl : c.b < r := by rw [hD.b]; exact shr_lt (by omega)
  have h := calls_right (B := B) (p := p) (st := st) (w := w) (a := c.a) (b := c.b) (r := r) (P := (c.x, c.y)) (c := pairP r c) (S0 := startP r c s) hK hf (by omega) (by omega) hD.a hbl ⟨hD.x.2, hD.y.2⟩ ⟨Nat.mod_lt _ (by omega), Nat.mod_lt _ (by omega)⟩ ⟨Nat.mod_lt _ (by omega), hs'⟩ (by omega)
  have e : (rightB st c.a c.b r (c.x, c.y) (pairP r c) (startP r c s)).1 = true := by
    have l1 := takeB_lt (st := st) (m := 6) (by omega)
    have l2 := takeB_lt (st := (takeB st 6).2) (m := 18) (by omega)
    have l3 := takeB_lt (st := (takeB (takeB st 6).2 18).2) (m := 7) (by omega)
    exact hL.right r hr c hD s _ _ _ hs hs' l1 (by omega) (by omega) (by omega) (by omega)
  rw [e] at h
  exact ⟨_, Nat.le_trans takeB_len (Nat.le_trans takeB_len (Nat.le_trans takeB_len hz)), h⟩
theorem Tr.notT {e : Expr} {q : Pos} (h : Tr B bx n sc ρ st e true st₁) : Tr B bx n sc ρ st (.UnaryOp .Not e q) false st₁ := Tr.not h
set_option maxHeartbeats 4000000 in
theorem calls_law (hK : B.K = K39 B.w.params) (hL : PureLaw) {is : List Int} (hz : is.length ≤ 63) : Exs B none 9 (lawScope B.K) [("script", .sh (.list (is.map T.int)))] st (lawBody B.K) (.ret (.bool true) st) := by
  refine law_open (look_of hK (by exact rfl)) ?_
  have hz' : (is.map T.int).length ≤ sizeLine := by rw [List.length_map]; simp [sizeLine]; omega
  refine Exs.boxNew (is := is.take 40) (t := .list ((is.map T.int).take 40)) (ρ' := fun a => [("script", .sh (.list (is.map T.int))), ("box", .sh (.fn a))]) (Ev.upto (k := (40 : Int)) Ev.nm Ev.int (by decide) hz') rfl rfl ⟨rfl, by decide, by decide, rfl, rfl, by decide, by decide⟩ ?_ ?_ (by walk_at "my kd") ?_ (fun a => by walk_at "my set") (fun p => ?_)
  · simp [sizeLine]; omega
  · rw [← List.map_take]
    exact CompTo.map fun i hi => Ev.intOf Ev.nm rfl (by walk_at "my k")
  · intro y sl e
    rw [List.lookup_cons] at e
    split at e
    · cases e; rfl
    · simp at e
  · show ExsR B (some p) 9 _ _ _ _ _
    have hlen : (is.take 40).length ≤ 40 := by rw [List.length_take]; omega
    generalize hi40 : is.take 40 = i40 at *
    refine ExsR.consP (ρ₁ := [("script", .sh (.list (is.map T.int))), ("box", .sh (.fn p.1))]) (fun st₁ => st₁.1.length ≤ 100) ?_ (fun st0 z0 => ?_)
    · refine seedFor (t := .list ((is.map T.int).take 40)) (l := i40) (fun st₁ => st₁.1.length ≤ 100) (fun sd' => by dsimp only; omega) (Ev.upto (k := (40 : Int)) Ev.nm Ev.int (by decide) hz') (by rw [← hi40, List.map_take]; rfl) rfl (by walk_at "my kd")
        (law_seed (fun i => [("script", .sh (.list (is.map T.int))), ("box", .sh (.fn p.1)), ("one", .sh (.int i))]) (fun i => ?_) (fun i sd => ?_) i40 7)
      · walk_at "my set"
      · exact Exs.weak (Exs.last (Ex1.boxSet (Ev.mod (Ev.add (Ev.mul (Ev.box1 (by walk_at "my lk")) Ev.int (mulOkR (by decide))) Ev.nm) Ev.int (by decide)) (by walk_at "my lk"))) (by walk_at "my sub")
    obtain ⟨w0, st1, l1, z1, c1⟩ := take_ok (p := p) hK z0 6 (by omega) (by omega)
    obtain ⟨ri, st2, l2, z2, c2⟩ := take_ok (p := p) hK z1 14 (by omega) (by omega)
    obtain ⟨w, hw⟩ : ∃ w, 3 + w0 = w := ⟨_, rfl⟩
    obtain ⟨r, hr, hri⟩ : ∃ r, r ∈ primes14 ∧ primes14[ri]'l2 = r := ⟨_, List.getElem_mem _, rfl⟩
    have hrb := primes14_le hr
    have hf : Fit w r := ⟨by omega, by omega, by omega, by omega⟩
    refine ExsR.cons (st₁ := st2) (Ex1.set2 (x' := "w") (y' := "r") (t := nInt w) (u := nInt r) (Ev.tuple (Evs.c2 (Ev.intE (Ev.add Ev.int (Ev.fn_ (Evs.c2 Ev.nm Ev.int) c1)) (by omega)) (Ev.prime hK (Ev.fn_ (Evs.c2 Ev.nm Ev.int) c2) l2 hri (by omega) rfl)))) ?_
    obtain ⟨o, st3, hD, z3, c3⟩ := curve_ok (p := p) (r := r) hK z2 (by omega) (by omega)
    refine ExsR.cons (Ex1.set (Ev.fn_ (Evs.c2 Ev.nm Ev.nm) c3)) ?_
    refine ExsR.cons (Ex1.set (Ev.fn_ (Evs.c4 (Ev.fn_ (Evs.c2 Ev.nm Ev.nm) (calls_law_row hK hf.w1 hf.w2 (by omega))) Ev.nm Ev.gl Ev.gl) (calls_Rests hK))) ?_
    refine ExsR.consP (ρ₁ := [("script", .sh (.list (is.map T.int))), ("box", .sh (.fn p.1)), ("r", .sh (nInt r)), ("w", .sh (nInt w))]) (fun st₁ => st₁.1.length ≤ 100) ?_ (fun st4 z4 => ?_)
    · cases o with
      | none => exact ⟨st3, z3, Ex1.if_false (Tr.cmp (Ev.cast (t := crvT r none) (t' := .none) Ev.nm rfl) Ev.cnone Cmp.isNotNone) (Exs.weak Exs.nil (by walk_at "my sub"))⟩
      | some c =>
        have hDc := hD c rfl
        obtain ⟨s0, st5, l5, z5, c5⟩ := take_ok (p := p) hK z3 (r - 1) (by omega) (by omega)
        obtain ⟨k0, st6, l6, z6, c6⟩ := take_ok (p := p) hK z5 60 (by omega) (by omega)
        obtain ⟨s, hs⟩ : ∃ s, 1 + s0 = s := ⟨_, rfl⟩
        obtain ⟨k, hk⟩ : ∃ k, 1 + k0 = k := ⟨_, rfl⟩
        have hbl : c.b < r := by rw [hDc.b]; exact shr_lt (by omega)
        have hxy : c.x < r ∧ c.y < r := ⟨hDc.x.2, hDc.y.2⟩
        have hpin : InN r (pairP r c) := ⟨Nat.mod_lt _ (by omega), Nat.mod_lt _ (by omega)⟩
        have hm1 : (c.a + 2) % r < r := Nat.mod_lt _ (by omega)
        have hm4 : 4 % r < r := Nat.mod_lt _ (by omega)
        have hms : c.x * s % r < r := Nat.mod_lt _ (by omega)
        have hsin : InN r (startP r c s) := ⟨Nat.mod_lt _ (by omega), by dsimp only; omega⟩
        obtain ⟨st7, z7, c7⟩ := right_ok (p := p) (s := s) hK hL hr hf hDc (by omega) (by omega) z6
        refine ⟨st7, z7, Ex1.if_true (Tr.cmp (Ev.cast (t := crvT r (some c)) (t' := .tup [crv c.a c.b r, .tup [nInt c.x, nInt c.y]]) Ev.nm rfl) Ev.cnone Cmp.isNotNone) ?_⟩
        refine Exs.cons (Ex1.unp2 (Ev.cast (t := crvT r (some c)) (t' := .tup [crv c.a c.b r, .tup [nInt c.x, nInt c.y]]) Ev.nm rfl)) ?_
        refine Exs.cons (st₁ := st6) (Ex1.set2 (x' := "scale") (y' := "k") (t := nInt s) (u := nInt k) (Ev.tuple (Evs.c2 (Ev.intE (Ev.add Ev.int (Ev.fn_ (Evs.c2 Ev.nm (Ev.intE (Ev.sub Ev.nm Ev.int) (by omega))) c5)) (by omega)) (Ev.intE (Ev.add Ev.int (Ev.fn_ (Evs.c2 Ev.nm Ev.int) c6)) (by omega))))) ?_
        refine Exs.cons (Ex1.set (t := pt w (pairP r c)) (Ev.tuple (Evs.c2 (Ev.fn_ (Evs.c2 (Ev.intE (b := (((c.a + 2) % r : Nat) : Int)) (Ev.mod (Ev.add (Ev.titem Ev.nm Ev.int (by decide) rfl) Ev.int) Ev.nm (by omega)) (by push_cast; rfl)) Ev.nm) (calls_law_row hK hf.w1 hf.w2 (by omega)))
          (Ev.fn_ (Evs.c2 (Ev.intE (b := ((4 % r : Nat) : Int)) (Ev.mod Ev.int Ev.nm (by omega)) (by push_cast; rfl)) Ev.nm) (calls_law_row hK hf.w1 hf.w2 (by omega)))))) ?_
        refine Exs.cons (Ex1.set (t := pt w (startP r c s)) (Ev.tuple (Evs.c2 (Ev.fn_ (Evs.c2 (Ev.intE (b := ((c.x * s % r : Nat) : Int)) (Ev.mod (Ev.mul (Ev.t0 Ev.nm) Ev.nm (mulOkR (by rw [Int.natAbs_natCast]; omega))) Ev.nm (by omega)) (by push_cast; rfl)) Ev.nm) (calls_law_row hK hf.w1 hf.w2 (by omega)))
          (Ev.fn_ (Evs.c2 Ev.nm Ev.nm) (calls_law_row (N := s) hK hf.w1 hf.w2 (by omega)))))) ?_
        have hsame := hL.ladder r hr c hDc s k (by omega) (by omega) (by omega) (by omega)
        have csame := calls_same (bx := some p) (st := st6) (w := w) (r := r) (X := (lad r (pairP r c) (startP r c s) k).1) (p := mulP c.a c.b r (c.x, c.y) k) hK hf (lad_in hf hsin k).1 (mul_in (by omega) hxy k)
        rw [hsame] at csame
        refine Exs.cons (Ex1.if_false (Tr.notT (Tr.bool (Ev.fn_ (Evs.c4 (Ev.fn_ (Evs.c4 Ev.nm Ev.nm Ev.nm Ev.nm) (calls_times_point hK hf hsin hpin (by omega) (by omega))) (Ev.fn_ (Evs.c3 Ev.nm Ev.nm Ev.nm) (calls_multiple (P := (c.x, c.y)) hK (by omega) (by omega) hDc.a hbl hxy (by omega))) Ev.nm Ev.nm) csame))) Exs.nil) ?_
        exact Exs.weak (Exs.last (Ex1.if_false (Tr.notT (Tr.bool (Ev.fn_ (Evs.cons Ev.nm (Evs.cons Ev.nm (Evs.c4 Ev.nm Ev.nm Ev.nm Ev.nm))) c7))) Exs.nil)) (by walk_at "my sub")
    obtain ⟨pi, st5, l5, z5, c5⟩ := take_ok (p := p) hK z4 14 (by omega) (by omega)
    obtain ⟨qi, st6, l6, z6, c6⟩ := take_ok (p := p) hK z5 14 (by omega) (by omega)
    obtain ⟨pp, hp, hpi⟩ : ∃ r, r ∈ primes14 ∧ primes14[pi]'l5 = r := ⟨_, List.getElem_mem _, rfl⟩
    obtain ⟨qq, hq, hqi⟩ : ∃ r, r ∈ primes14 ∧ primes14[qi]'l6 = r := ⟨_, List.getElem_mem _, rfl⟩
    have hpb := primes14_le hp
    have hqb := primes14_le hq
    refine ExsR.cons (st₁ := st6) (Ex1.set2 (x' := "p") (y' := "q") (t := nInt pp) (u := nInt qq) (Ev.tuple (Evs.c2 (Ev.prime hK (Ev.fn_ (Evs.c2 Ev.nm Ev.int) c5) l5 hpi (by omega) rfl) (Ev.prime hK (Ev.fn_ (Evs.c2 Ev.nm Ev.int) c6) l6 hqi (by omega) rfl)))) ?_
    obtain ⟨mi, st7, l7, z7, c7⟩ := take_ok (p := p) hK z6 2 (by omega) (by omega)
    refine ExsR.draw (st₁ := st7) (t := .range 0 ((1 + mi : Nat) : Int) 1) (ρ₁ := fun l => [("script", .sh (.list (is.map T.int))), ("box", .sh (.fn p.1)), ("r", .sh (nInt r)), ("w", .sh (nInt w)), ("q", .sh (nInt qq)), ("p", .sh (nInt pp)), ("sigmas", .sh (.list (l.map nInt)))]) [("box", .sh (.fn p.1))] ["box"]
      (Ev.range1 (Ev.intE (Ev.add Ev.int (Ev.fn_ (Evs.c2 Ev.nm Ev.int) c7)) (by push_cast; rfl)) rfl (by walk_at "my k")) (items_to _) (rangeOK_to (by omega)) (by simp [sizeLine]; omega) rfl ⟨rfl, by decide, by decide, rfl, rfl, by decide, by decide⟩ (by walk_at "my sub") rfl z7 (fun t st hz => ?_) (fun l => by walk_at "my set") (by walk_at "my kd") (fun ss st8 hss hlen z8 => ?_)
    · obtain ⟨v, st', lv, zv, cv⟩ := take_ok (p := p) hK hz 20 (by omega) (by omega)
      exact ⟨6 + v, st', by omega, by omega, zv, Ev.intE (Ev.add Ev.int (Ev.fn_ (Evs.c2 Ev.nm Ev.int) cv)) (by omega)⟩
    have hl1 : ss.length = 1 + mi := by rw [hlen]; simp
    obtain ⟨s0, sr, hsr⟩ : ∃ s0 sr, ss = s0 :: sr := by
      cases ss with
      | nil => rw [List.length_nil] at hl1; omega
      | cons s0 sr => exact ⟨s0, sr, rfl⟩
    obtain ⟨f0, st9, l9, z9, c9⟩ := take_ok (p := p) hK z8 6 (by omega) (by omega)
    obtain ⟨e0, st10, l10, z10, c10⟩ := take_ok (p := p) hK z9 12 (by omega) (by omega)
    obtain ⟨d0, st11, l11, z11, c11⟩ := take_ok (p := p) hK z10 5 (by omega) (by omega)
    obtain ⟨F, hF⟩ : ∃ F, 2 + f0 = F := ⟨_, rfl⟩
    obtain ⟨S, hS⟩ : ∃ S, 3 + e0 = S := ⟨_, rfl⟩
    obtain ⟨W, hW⟩ : ∃ W, 2 + d0 = W := ⟨_, rfl⟩
    refine ExsR.cons (st₁ := st11) (Ex1.assignT (xs := ["first", "second", "width"]) (ts := [nInt F, nInt S, nInt W]) (Ev.tuple (Evs.c3 (Ev.intE (Ev.add Ev.int (Ev.fn_ (Evs.c2 Ev.nm Ev.int) c9)) (by omega)) (Ev.intE (Ev.add Ev.int (Ev.fn_ (Evs.c2 Ev.nm Ev.int) c10)) (by omega)) (Ev.intE (Ev.add Ev.int (Ev.fn_ (Evs.c2 Ev.nm Ev.int) c11)) (by omega))))
      rfl rfl (by decide) (by walk_at "my sets") (hv := fun env e => by cases env; cases e; rfl)) ?_
    have hpq : pp * qq ≤ 61 * 61 := Nat.mul_le_mul hpb.2 hqb.2
    have hpq0 : 0 < pp * qq := Nat.mul_pos (by omega) (by omega)
    have hfn : Fit w (pp * qq) := ⟨by omega, by omega, hpq0, by omega⟩
    have cby := calls_by_curves (bx := some p) (st := st11) (w := w) (N := pp * qq) (F := F) (S := S) (W := W) (ss := ss) hK hfn (fun s hs => by have := hss s hs; omega) (by omega) (by omega) (by omega) (by omega) (by omega) (by omega)
    have hpart := hL.part pp hp qq hq F S W ss
    have hstg := hL.stages pp hp qq hq F S W s0 sr (by omega) (by omega) (by omega) (by omega) (by omega) (by omega) (by rw [← hsr]; exact hss)
    rw [← hsr] at hstg
    refine ExsR.cons (Ex1.set (Ev.fn_ (Evs.cons (Ev.fn_ (Evs.c2 (Ev.intE (b := ((pp * qq : Nat) : Int)) (Ev.mul Ev.nm Ev.nm (mulOkN (by omega))) (by push_cast; rfl)) Ev.nm) (calls_law_row hK hf.w1 hf.w2 (by omega))) (Evs.cons Ev.nm (Evs.cons Ev.nm (Evs.cons Ev.nm (Evs.c4 Ev.nm Ev.nm Ev.gl Ev.gl))))) cby)) ?_
    generalize byCurves (pp * qq) F S W ss = told at *
    refine ExsR.cons (ρ₁ := [("script", .sh (.list (is.map T.int))), ("box", .sh (.fn p.1)), ("r", .sh (nInt r)), ("w", .sh (nInt w)), ("q", .sh (nInt qq)), ("p", .sh (nInt pp)), ("sigmas", .sh (.list (ss.map nInt))), ("first", .sh (nInt F)), ("second", .sh (nInt S)), ("width", .sh (nInt W)), ("told", .sh (optT2 w told))]) (st₁ := st11) (Ex1.if_false ?_ Exs.nil) ?_
    · cases told with
      | none => exact Tr.ops (Trs.and_false (Tr.cmp (Ev.cast (t := optT2 w none) (t' := .none) Ev.nm rfl) Ev.cnone Cmp.isNotNone))
      | some gs =>
        obtain ⟨g, s⟩ := gs
        obtain ⟨hg, hs⟩ := hpart g s (by omega) (by omega) (by omega) (by omega) (by omega) (by omega) hss rfl
        refine Tr.ops (Trs.and_true (Tr.cmp (Ev.cast (t := optT2 w (some (g, s))) (t' := .tup [row w g, nInt s]) Ev.nm rfl) Ev.cnone Cmp.isNotNone) (Trs.and_false (Tr.or2 (c := false) (d := false)
          (Tr.cmp (Ev.t0 (Ev.cast (t := optT2 w (some (g, s))) (t' := .tup [row w g, nInt s]) Ev.nm rfl)) (Ev.list (Evs.c2 (Ev.fn_ (Evs.c2 Ev.nm Ev.nm) (calls_law_row hK hf.w1 hf.w2 (by omega))) (Ev.fn_ (Evs.c2 Ev.nm Ev.nm) (calls_law_row hK hf.w1 hf.w2 (by omega))))) (rowNotIn hf.w1 hg))
          (Tr.cmp (Ev.t1 (Ev.cast (t := optT2 w (some (g, s))) (t' := .tup [row w g, nInt s]) Ev.nm rfl)) Ev.nm (intNotIn hs)) rfl)))
    refine ExsR.cons (Ex1.setCompK (t := .tup [nInt pp, nInt qq]) (ts := [pp, qq].map nInt) (us := [pp, qq].map fun one => stT (stage s0 F one)) [("sigmas", .sh (.list (ss.map nInt))), ("first", .sh (nInt F))] ["sigmas", "first"] (Ev.tuple (Evs.c2 Ev.nm Ev.nm)) (CompTo.map fun one ho => ?_)) ?_
    · have hob : 2 ≤ one ∧ one ≤ 1000 := by
        simp at ho
        omega
      have hs0 := hss s0 (by rw [hsr]; exact .head _)
      exact Ev.fn_ (Evs.c3 (Ev.itemR (ds := ss) (k := 0) Ev.nm Ev.int (by omega) (by simp [hsr])) Ev.nm Ev.nm) (calls_stage (s := s0) hK hob.1 hob.2 (by omega) (by omega))
    have hs0e : ∀ {ρ : REnv} {sc' : Scope} {np kp q' : Pos} {k : Nat} (_ : ρ.lookup ("sigmas" : Str) = some (.sh (.list (ss.map nInt)))) (hs : ∀ o j, subscripted (.Constant (.int 0) k kp) false o j = operate [o, j] (getItem o j)), Ev B (some p) 9 sc' ρ st11 (.Subscript (.Name "sigmas" np) (.Constant (.int 0) k kp) q') (nInt s0) st11 := by
      intro ρ sc' np kp q' k e hs
      exact Ev.itemR (ds := ss) (k := 0) (Ev.name e) Ev.int (by omega) (by simp [hsr]) (hs := hs)
    refine ExsR.cons (ρ₁ := [("script", .sh (.list (is.map T.int))), ("box", .sh (.fn p.1)), ("r", .sh (nInt r)), ("w", .sh (nInt w)), ("q", .sh (nInt qq)), ("p", .sh (nInt pp)), ("sigmas", .sh (.list (ss.map nInt))), ("first", .sh (nInt F)), ("second", .sh (nInt S)), ("width", .sh (nInt W)), ("told", .sh (optT2 w told)), ("stages", .sh (.list ([pp, qq].map fun one => stT (stage s0 F one))))]) (st₁ := st11) (Ex1.if_false (Tr.ops ?_) Exs.nil) (ExsR.ret (st₁ := st11) (Ex1.ret ?_))
    · have hc := stEq (B := B) (bx := some p) (n := 9) (stage s0 F pp) (stage s0 F qq) .out .other
      by_cases he : stage s0 F pp = .out ∧ stage s0 F qq = .other
      · rw [decide_eq_true he] at hc
        have ht := hstg.1 he.1 he.2
        subst ht
        exact Trs.and_true (Tr.cmp (Ev.cast (t := .list ([pp, qq].map fun one => stT (stage s0 F one))) (t' := .list [stT (stage s0 F pp), stT (stage s0 F qq)]) Ev.nm rfl) (Ev.cast (t' := .list [stT .out, stT .other]) (Ev.list (Evs.c2 Ev.str Ev.str)) rfl) hc) (Trs.and_false (Tr.cmp (Ev.cast (t := optT2 w (some (pp, s0))) (t' := .tup [row w pp, nInt s0]) Ev.nm rfl) (Ev.tuple (Evs.c2 (Ev.fn_ (Evs.c2 Ev.nm Ev.nm) (calls_law_row hK hf.w1 hf.w2 (by omega))) (hs0e (by walk_at "my lk") (by intro _ _; with_unfolding_all rfl)))) (pairNe hf.w1)))
      · rw [decide_eq_false he] at hc
        exact Trs.and_false (Tr.cmp (Ev.cast (t := .list ([pp, qq].map fun one => stT (stage s0 F one))) (t' := .list [stT (stage s0 F pp), stT (stage s0 F qq)]) Ev.nm rfl) (Ev.cast (t' := .list [stT .out, stT .other]) (Ev.list (Evs.c2 Ev.str Ev.str)) rfl) hc)
    · have hc := stNe (B := B) (bx := some p) (n := 9) (stage s0 F pp) (stage s0 F qq) .other .out
      by_cases he : stage s0 F pp = .other ∧ stage s0 F qq = .out
      · rw [decide_eq_true he] at hc
        have ht := hstg.2 he.1 he.2
        subst ht
        exact Ev.or2_false (Ev.cast (Ev.cmp (Ev.cast (t := .list ([pp, qq].map fun one => stT (stage s0 F one))) (t' := .list [stT (stage s0 F pp), stT (stage s0 F qq)]) Ev.nm rfl) (Ev.cast (t' := .list [stT .other, stT .out]) (Ev.list (Evs.c2 Ev.str Ev.str)) rfl) hc) rfl) (Ev.cmp (Ev.cast (t := optT2 w (some (qq, s0))) (t' := .tup [row w qq, nInt s0]) Ev.nm rfl) (Ev.tuple (Evs.c2 (Ev.fn_ (Evs.c2 Ev.nm Ev.nm) (calls_law_row hK hf.w1 hf.w2 (by omega))) (hs0e (by walk_at "my lk") (by intro _ _; with_unfolding_all rfl)))) (pairEq hf.w1))
      · rw [decide_eq_false he] at hc
        exact Ev.or2_true (Ev.cast (Ev.cmp (Ev.cast (t := .list ([pp, qq].map fun one => stT (stage s0 F one))) (t' := .list [stT (stage s0 F pp), stT (stage s0 F qq)]) Ev.nm rfl) (Ev.cast (t' := .list [stT .other, stT .out]) (Ev.list (Evs.c2 Ev.str Ev.str)) rfl) hc) rfl)
end
theorem intsAre_rep {V : Vis} : ∀ {vs : List Value} {is : List Int}, IntsAre vs is → RepAll V (is.map T.int) vs
  | _, _, .nil => rfl
  | _, _, .cons i t h => ⟨_, _, rfl, ⟨t, rfl⟩, intsAre_rep h⟩
theorem join_frame (hL : PureLaw) {w : World} {prog pr : Program} {loose : List Str} {mean : ExcName → Option Value} {mg mb : Str → Option Value} {s₁ : Shared} {h₁ : Heap} {tk₁ : Nat} {is : List Int} {vs : List Value} {a : Addr} {env : Env} {m : Str → Option Value} (KX : (K39 w.params).In s₁.heap)
    (TP : Top pr loose mean mg mb s₁.heap) (ho : s₁.heap.get? a = some (listObj vs 0)) (hi : IntsAre vs is) (hz : is.length ≤ 63) (hsc : env.scope = lawScope (K39 w.params)) (hkind : (lawScope (K39 w.params)).kind = .function) (hscr : (lawScope (K39 w.params)).names.lookup ("script" : Str) = some .local)
    (hLo : env.locals = s₁.heap.objs.size) (hG : env.globals = mainGlobals) (hB : env.builtins = builtinsNs) (F : Fr s₁.heap env.locals h₁ m) (hm : m "script" = some (.ref a)) (hc : ∀ n c, env.cells.lookup n = some c → (∃ v o, h₁.get? c = some o ∧ o.data = .cell v) ∧ c ≠ env.locals ∧ s₁.heap.get? c = none)
    (hap : env.cells.Pairwise fun x y => x.2 ≠ y.2) (hcs : ∀ x, (lawScope (K39 w.params)).names.lookup x = some .cell → (env.cells.lookup x).isSome = true) {A : Around} (hA : Room A 9) {Q : Flow → Shared → Prop}
    (hq : ∀ h' tk, (∀ b o, s₁.heap.get? b = some o → h'.get? b = some o) → Q (.ret (.bool true)) { s₁ with heap := h', toks := tk }) :
    wpAny (model prog w) A (execs (lawBody (K39 w.params)) env) Q (fun _ _ => False) { s₁ with heap := h₁, toks := tk₁ } := by
  let B : Bg := { prog := prog, w := w, K := K39 w.params, mg := mg, mb := mb, g := s₁.heap, kin := KX, gns := TP.g, bns := TP.b, nolimit := TP.nolimit, blt := TP.builtins }
  have nbn : ∀ b, ¬ InBox none b := fun b i => by obtain ⟨p, e, _⟩ := i; cases e
  have nM : ∀ b o, s₁.heap.get? b = some o → ¬ (b = env.locals ∨ ∃ n, env.cells.lookup n = some b) := fun b o e z => by
    rcases z with z | ⟨n, z⟩
    · rw [z, hLo] at e
      exact Nat.lt_irrefl _ (Heap.lt_size e)
    · have := (hc n b z).2.2
      rw [this] at e; cases e
  have F' : FOK B (fun b => b = env.locals ∨ ∃ n, env.cells.lookup n = some b) (fun _ => False) none (lawScope (K39 w.params)) env [("script", .sh (.list (is.map T.int)))] h₁ := {
    eok := {
      bg := ⟨fun b o e => ⟨fun z => z.elim (nM b o e) id, F.keep b o e⟩, fun b z => by
        rcases z with (z | ⟨n, z⟩) | z
        · obtain ⟨o, _, _, e, _⟩ := F.ns
          exact ⟨o, z ▸ e⟩
        · exact (hc n b z).1.elim fun _ h => h.imp fun o e => e.1
        · exact z.elim⟩
      scope := hsc
      kind := hkind
      glob := hG
      blt := hB
      locB := nbn _
      cellB := fun n c e => nbn _
      vars := fun x sl e => by
        rw [List.lookup_cons] at e
        cases hb : x == "script" with
        | true =>
          rw [hb] at e; cases e
          rw [beq_iff_eq.mp hb]
          refine ⟨.ref a, .inl ⟨by show env.scope.names.lookup _ = _; rw [hsc]; exact hscr, m, F.ns, hm⟩, ⟨a, vs, 0, rfl, ⟨fun z => z.elim (nM a _ ho) id, F.keep _ _ ho⟩, intsAre_rep hi⟩, fun _ _ i => absurd rfl (i _)⟩
        | false => rw [hb] at e; simp at e }
    disj := fun b m y => y
    locM := .inl rfl
    ns := ⟨m, F.ns⟩
    cellM := fun n c e => ⟨.inr ⟨n, e⟩, (hc n c e).2.1, (hc n c e).1⟩
    apart := hap
    cells := hcs
    own := fun x sl D e i => by
      rw [List.lookup_cons] at e
      split at e
      · cases e; cases i
      · simp at e
    boxY := fun b i => absurd i (nbn b) }
  refine calls_law (B := B) (st := ([], 0)) rfl hL hz A _ _ env { s₁ with heap := h₁, toks := tk₁ } Q hA F' BoxOK.none fun M' v h' tk km gr rv S' => ?_
  cases (show v = .bool true from rv)
  exact hq h' tk fun b o e => km b o (nM b o e) (nbn b) (F.keep b o e)
end Mine
namespace Mine
section
variable {K : Type} [Lean.Grind.CommRing K]

/-- no zero divisors, inverses, odd -/
structure Fld (K : Type) [Lean.Grind.CommRing K] : Prop where
  nd : ∀ x y : K, x * y = 0 → x = 0 ∨ y = 0
  inv : ∀ x : K, x ≠ 0 → ∃ y : K, x * y = 1
  two : (2 : K) ≠ 0
  one : (1 : K) ≠ 0

noncomputable abbrev KP (K : Type) := Option (K × K)
noncomputable def OnC (a b : K) : KP K → Prop
  | none => True
  | some p => b * p.2 * p.2 = p.1 * p.1 * p.1 + a * p.1 * p.1 + p.1
noncomputable def negK : KP K → KP K
  | none => none
  | some p => some (p.1, -p.2)
noncomputable def Slope (a b l : K) (p q : K × K) : Prop := (p = q → l * (2 * b * p.2) = 3 * p.1 * p.1 + 2 * a * p.1 + 1) ∧ (p ≠ q → l * (q.1 - p.1) = q.2 - p.2)
noncomputable def IsSum (a b : K) : KP K → KP K → KP K → Prop
  | none, q, r => r = q
  | some p, none, r => r = some p
  | some p, some q, r => (p.1 = q.1 ∧ p.2 + q.2 = 0 ∧ r = none) ∨ (¬ (p.1 = q.1 ∧ p.2 + q.2 = 0) ∧ ∃ l x y : K, Slope a b l p q ∧ r = some (x, y) ∧ x = b * l * l - a - p.1 - q.1 ∧ y = l * (p.1 - x) - p.2)
structure Line (a b l n x1 x2 x3 : K) : Prop where
  e1 : b * l * l - a = x1 + x2 + x3
  e2 : 1 - 2 * b * l * n = x1 * x2 + x1 * x3 + x2 * x3
  e3 : b * n * n = x1 * x2 * x3

theorem cancel (H : Fld K) {x y z : K} (hx : x ≠ 0) (h : x * y = x * z) : y = z := by
  have : x * (y - z) = 0 := by grind
  rcases H.nd _ _ this with h | h
  · exact absurd h hx
  · grind

/-- F at a point of the first line -/
theorem F_at {a b l1 n1 l2 n2 xA xB xS yS : K} (h1 : b * l1 * l1 - a = xA + xB + xS) (h2 : 1 - 2 * b * l1 * n1 = xA * xB + xA * xS + xB * xS) (hS : yS = l2 * xS + n2) (hS' : -yS = l1 * xS + n1) :
    xA * xA + (a + b * l1 * l2 + xS) * xA + (1 + b * (l1 * n2 + l2 * n1) + xS * (a + b * l1 * l2 + xS)) - b * (l1 + l2) * (l1 * xA + n1) = 0 := by
  grind
end
end Mine
namespace Mine
section
variable {K : Type} [Lean.Grind.CommRing K] {a b : K}

theorem lin1 {u v l1 r1 : K} (c1 : K) (h1 : l1 = r1) (k : u - v = c1 * (l1 - r1)) : u = v := by
  rw [h1] at k; clear h1; grind
theorem lin2 {u v l1 r1 l2 r2 : K} (c1 c2 : K) (h1 : l1 = r1) (h2 : l2 = r2) (k : u - v = c1 * (l1 - r1) + c2 * (l2 - r2)) : u = v := by
  rw [h1, h2] at k; clear h1 h2; grind
theorem lin3 {u v l1 r1 l2 r2 l3 r3 : K} (c1 c2 c3 : K) (h1 : l1 = r1) (h2 : l2 = r2) (h3 : l3 = r3) (k : u - v = c1 * (l1 - r1) + c2 * (l2 - r2) + c3 * (l3 - r3)) : u = v := by
  rw [h1, h2, h3] at k; clear h1 h2 h3; grind
theorem lin4 {u v l1 r1 l2 r2 l3 r3 l4 r4 : K} (c1 c2 c3 c4 : K) (h1 : l1 = r1) (h2 : l2 = r2) (h3 : l3 = r3) (h4 : l4 = r4) (k : u - v = c1 * (l1 - r1) + c2 * (l2 - r2) + c3 * (l3 - r3) + c4 * (l4 - r4)) : u = v := by
  rw [h1, h2, h3, h4] at k; clear h1 h2 h3 h4; grind
theorem sub_ne {x y : K} (h : x ≠ y) : x - y ≠ 0 := fun e => h (by grind)
theorem tan_e1 {l x1 x : K} (hx : x = b * l * l - a - x1 - x1) : b * l * l - a = x1 + x1 + x := by grind
theorem tan_e2 {l x1 y1 x : K} (hx : x = b * l * l - a - x1 - x1) (s : l * (2 * b * y1) = 3 * x1 * x1 + 2 * a * x1 + 1) : 1 - 2 * b * l * (y1 - l * x1) = x1 * x1 + x1 * x + x1 * x := by grind
theorem tan_e3 {l x1 y1 x : K} (hp : b * y1 * y1 = x1 * x1 * x1 + a * x1 * x1 + x1) (hx : x = b * l * l - a - x1 - x1) (s : l * (2 * b * y1) = 3 * x1 * x1 + 2 * a * x1 + 1) : b * (y1 - l * x1) * (y1 - l * x1) = x1 * x1 * x := by
  refine lin3 1 (-(x1 * x1)) (-x1) hp hx s ?_
  clear hp hx s; grind
theorem tan_y {l x1 y1 x y : K} (hy : y = l * (x1 - x) - y1) : -y = l * x + (y1 - l * x1) := by grind
theorem on_line {l x1 y1 : K} : y1 = l * x1 + (y1 - l * x1) := by grind
theorem ch_e1 {l x1 x2 x : K} (hx : x = b * l * l - a - x1 - x2) : b * l * l - a = x1 + x2 + x := by grind
theorem ch_e2 (H : Fld K) {l x1 y1 x2 y2 x : K} (hp : b * y1 * y1 = x1 * x1 * x1 + a * x1 * x1 + x1) (hq : b * y2 * y2 = x2 * x2 * x2 + a * x2 * x2 + x2) (hx : b * l * l - a = x1 + x2 + x) (s : l * (x2 - x1) = y2 - y1) (hd : x1 ≠ x2) :
    1 - 2 * b * l * (y1 - l * x1) = x1 * x2 + x1 * x + x2 * x := by
  refine cancel H (sub_ne hd) ?_
  have h2 : y2 = y1 + l * (x2 - x1) := by clear hp hq hx hd; grind
  subst h2
  refine lin3 (-1) 1 ((x1 - x2) * (x1 + x2)) hp hq hx ?_
  clear s hd hp hq hx; grind
theorem ch_e3 {l x1 y1 x2 x : K} (hp : b * y1 * y1 = x1 * x1 * x1 + a * x1 * x1 + x1) (hx : b * l * l - a = x1 + x2 + x) (e2 : 1 - 2 * b * l * (y1 - l * x1) = x1 * x2 + x1 * x + x2 * x) : b * (y1 - l * x1) * (y1 - l * x1) = x1 * x2 * x := by
  refine lin3 1 (-(x1 * x1)) x1 hp hx e2 ?_
  clear hp hx e2; grind
theorem ch_l2 {l x1 y1 x2 y2 : K} (s : l * (x2 - x1) = y2 - y1) : y2 = l * x2 + (y1 - l * x1) := by grind

theorem same_x (H : Fld K) (hb : b ≠ 0) {x y1 y2 : K} (hp : b * y1 * y1 = x * x * x + a * x * x + x) (hq : b * y2 * y2 = x * x * x + a * x * x + x) : y1 = y2 ∨ y1 + y2 = 0 := by
  have h1 : b * ((y1 - y2) * (y1 + y2)) = 0 := by grind
  rcases H.nd _ _ h1 with h1 | h1
  · exact absurd h1 hb
  · rcases H.nd _ _ h1 with h1 | h1
    · left; grind
    · exact .inr h1

/-- the line of a sum -/
theorem sum_line (H : Fld K) (hb : b ≠ 0) {p q s : K × K} (hp : OnC a b (some p)) (hq : OnC a b (some q)) (h : IsSum a b (some p) (some q) (some s)) : ∃ l n, Line a b l n p.1 q.1 s.1 ∧ p.2 = l * p.1 + n ∧ q.2 = l * q.1 + n ∧ -s.2 = l * s.1 + n := by
  obtain ⟨x1, y1⟩ := p
  obtain ⟨x2, y2⟩ := q
  simp only [OnC, IsSum] at hp hq h
  rcases h with ⟨_, _, h⟩ | ⟨hn, l, x, y, hs, h, hx, hy⟩
  · cases h
  · cases h
    obtain ⟨s1, s2⟩ := hs
    dsimp only at *
    by_cases e : ((x1, y1) : K × K) = (x2, y2)
    · have s1' := s1 e
      cases e
      exact ⟨l, y1 - l * x1, ⟨tan_e1 hx, tan_e2 hx s1', tan_e3 hp hx s1'⟩, on_line, on_line, tan_y hy⟩
    · have s2 := s2 e
      have hx12 : x1 ≠ x2 := by
        intro hx
        subst hx
        rcases same_x H hb hp hq with h | h
        · exact e (by rw [h])
        · exact hn ⟨rfl, h⟩
      have e2 := ch_e2 H hp hq (ch_e1 hx) s2 hx12
      exact ⟨l, y1 - l * x1, ⟨ch_e1 hx, e2, ch_e3 hp (ch_e1 hx) e2⟩, on_line, ch_l2 s2, tan_y hy⟩
theorem lt_slope {l n x1 y1 x3 : K} (e1 : b * l * l - a = x1 + x1 + x3) (e2 : 1 - 2 * b * l * n = x1 * x1 + x1 * x3 + x1 * x3) (hy : y1 = l * x1 + n) : l * (2 * b * y1) = 3 * x1 * x1 + 2 * a * x1 + 1 := by subst hy; grind
/-- a line gives a sum -/
theorem line_sum {l n : K} {p q : K × K} {x : K} (L : Line a b l n p.1 q.1 x) (hp : p.2 = l * p.1 + n) (hq : q.2 = l * q.1 + n) (hn : ¬ (p.1 = q.1 ∧ p.2 + q.2 = 0)) : IsSum a b (some p) (some q) (some (x, -(l * x + n))) := by
  obtain ⟨x1, y1⟩ := p
  obtain ⟨x2, y2⟩ := q
  obtain ⟨e1, e2, e3⟩ := L
  dsimp only at *
  refine .inr ⟨hn, l, x, _, ⟨fun e => ?_, fun e => ?_⟩, rfl, ?_, ?_⟩
  · cases e; exact lt_slope e1 e2 hp
  · dsimp only; subst hp hq; clear e1 e2 e3 hn e; grind
  · dsimp only; clear hp hq e2 e3 hn; grind
  · dsimp only; subst hp; clear e1 e2 e3 hn hq; grind
/-- sums are unique -/
theorem sum_uniq (H : Fld K) (hb : b ≠ 0) {P Q R R' : KP K} (hP : OnC a b P) (hQ : OnC a b Q) (h : IsSum a b P Q R) (h' : IsSum a b P Q R') : R = R' := by
  cases P with
  | none => exact Eq.trans h (Eq.symm h')
  | some p =>
    cases Q with
    | none => exact Eq.trans h (Eq.symm h')
    | some q =>
      obtain ⟨x1, y1⟩ := p
      obtain ⟨x2, y2⟩ := q
      simp only [OnC] at hP hQ
      rcases h with ⟨c1, c2, h⟩ | ⟨hn, l, x, y, hs, h, hx, hy⟩ <;> rcases h' with ⟨d1, d2, h'⟩ | ⟨hn', l', x', y', hs', h', hx', hy'⟩
      · rw [h, h']
      · exact absurd ⟨c1, c2⟩ hn'
      · exact absurd ⟨d1, d2⟩ hn
      · dsimp only at *
        have hl : l = l' := by
          by_cases e : ((x1, y1) : K × K) = (x2, y2)
          · have g1 := hs.1 e
            have g2 := hs'.1 e
            cases e
            dsimp only at g1 g2
            have hy0 : 2 * b * y1 ≠ 0 := by
              intro h0
              rcases H.nd _ _ h0 with h0 | h0
              · rcases H.nd _ _ h0 with h0 | h0
                · exact H.two h0
                · exact hb h0
              · exact hn ⟨rfl, by rw [h0]; grind⟩
            refine cancel H hy0 ?_
            clear hs hs' hx hy hx' hy' hP hQ hn hn'
            grind
          · have g1 := hs.2 e
            have g2 := hs'.2 e
            dsimp only at g1 g2
            have hx12 : x2 ≠ x1 := by
              intro hx
              subst hx
              rcases same_x H hb hP hQ with h | h
              · exact e (by rw [h])
              · exact hn ⟨rfl, h⟩
            refine cancel H (sub_ne hx12) ?_
            clear hs hs' hx hy hx' hy' hP hQ hn hn'
            grind
        subst hl
        rw [h, h', hx', hx] at *
        rw [hy, hy', hx']
end
end Mine
namespace Mine
section
variable {K : Type} [Lean.Grind.CommRing K] {a b : K}

theorem on_sum_aux {l n x1 x2 x y : K} (L : Line a b l n x1 x2 x) (hy : -y = l * x + n) : b * y * y = x * x * x + a * x * x + x := by
  obtain ⟨e1, e2, e3⟩ := L
  have h : y = -(l * x + n) := by clear e1 e2 e3; grind
  subst h
  refine lin3 (x * x) (-x) 1 e1 e2 e3 ?_
  clear e1 e2 e3 hy; grind
theorem on_sum (H : Fld K) (hb : b ≠ 0) {P Q R : KP K} (hP : OnC a b P) (hQ : OnC a b Q) (h : IsSum a b P Q R) : OnC a b R := by
  cases P with
  | none => rw [show R = Q from h]; exact hQ
  | some p =>
    cases Q with
    | none => rw [show R = some p from h]; exact hP
    | some q =>
      cases R with
      | none => trivial
      | some r =>
        obtain ⟨l, n, L, _, _, hr⟩ := sum_line H hb hP hQ h
        exact on_sum_aux L hr
theorem on_neg {P : KP K} (h : OnC a b P) : OnC a b (negK P) := by
  cases P with
  | none => trivial
  | some p =>
    simp only [OnC, negK] at h ⊢
    rw [← h]; clear h; grind
theorem neg_neg (P : KP K) : negK (negK P) = P := by
  cases P with
  | none => rfl
  | some p =>
    obtain ⟨x, y⟩ := p
    simp only [negK]
    rw [show - -y = y by grind]
theorem sum_comm {P Q R : KP K} (h : IsSum a b P Q R) : IsSum a b Q P R := by
  cases P with
  | none => cases Q with
    | none => exact h
    | some q => exact h
  | some p => cases Q with
    | none => exact h
    | some q =>
      obtain ⟨x1, y1⟩ := p
      obtain ⟨x2, y2⟩ := q
      rcases h with ⟨c1, c2, h⟩ | ⟨hn, l, x, y, hs, h, hx, hy⟩
      · exact .inl ⟨c1.symm, by dsimp only at *; rw [← c2]; clear c2 c1 h; grind, h⟩
      · refine .inr ⟨fun c => hn ⟨c.1.symm, by dsimp only at *; rw [← c.2]; clear c hs hx hy hn h; grind⟩, l, x, y, ⟨fun e => ?_, fun e => ?_⟩, h, ?_, ?_⟩
        · have := hs.1 e.symm
          cases e; exact this
        · have := hs.2 (Ne.symm e)
          dsimp only at *
          clear hs hx hy hn e h; grind
        · dsimp only at *; rw [hx]; clear hs hx hy hn h; grind
        · by_cases e : ((x1, y1) : K × K) = (x2, y2)
          · cases e; exact hy
          · have := hs.2 e
            dsimp only at *
            rw [hy]; clear hs hx hy hn h e; grind

/-- no double point -/
theorem nonsing (H : Fld K) (ha : a * a ≠ 4) {x : K} (h0 : x * x * x + a * x * x + x = 0) (h1 : 3 * x * x + 2 * a * x + 1 = 0) : False := by
  have hx : x ≠ 0 := by
    intro e; subst e
    exact H.one (by clear h0; grind)
  have h2 : x * x + a * x + 1 = 0 := by
    refine cancel H hx ?_
    clear h1 hx ha; grind
  have h3 : x * x = 1 := by clear h0 hx ha; grind
  have h4 : a * x = -2 := by clear h0 h1 hx ha; grind
  exact ha (by
    have : a * a * (x * x) = 4 := by clear h0 h1 h2 h3 hx ha; grind
    rw [h3] at this; clear h0 h1 h2 h3 h4 hx ha; grind)

theorem sum_neg {P Q R : KP K} (h : IsSum a b P Q R) : IsSum a b (negK P) (negK Q) (negK R) := by
  cases P with
  | none => rw [show R = Q from h]; rfl
  | some p => cases Q with
    | none => rw [show R = some p from h]; rfl
    | some q =>
      obtain ⟨x1, y1⟩ := p
      obtain ⟨x2, y2⟩ := q
      rcases h with ⟨c1, c2, h⟩ | ⟨hn, l, x, y, hs, h, hx, hy⟩
      · subst h
        exact .inl ⟨c1, by dsimp only at *; clear c1; grind, rfl⟩
      · subst h
        refine .inr ⟨fun c => hn ⟨c.1, by have := c.2; dsimp only at *; clear c hs hx hy hn; grind⟩, -l, x, -y, ⟨fun e => ?_, fun e => ?_⟩, rfl, ?_, ?_⟩
        · have e' : ((x1, y1) : K × K) = (x2, y2) := by
            simp only [Prod.mk.injEq] at e ⊢
            exact ⟨e.1, by have := e.2; clear hs hx hy hn; grind⟩
          have := hs.1 e'
          dsimp only at *; clear hs hx hy hn e e'; grind
        · have e' : ((x1, y1) : K × K) ≠ (x2, y2) := by
            intro e'
            cases e'; exact e rfl
          have := hs.2 e'
          dsimp only at *; clear hs hx hy hn e e'; grind
        · dsimp only at *; rw [hx]; clear hs hx hy hn; grind
        · dsimp only at *; rw [hy]; clear hs hx hy hn; grind
end
end Mine
namespace Mine
section
variable {K : Type} [Lean.Grind.CommRing K] {a b : K}

theorem sum_cancel (H : Fld K) (ha : a * a ≠ 4) (hb : b ≠ 0) {A B S : KP K} (hA : OnC a b A) (hB : OnC a b B) (h : IsSum a b A B S) : IsSum a b S (negK B) A := by
  cases A with
  | none =>
    rw [show S = B from h]
    cases B with
    | none => rfl
    | some p => exact .inl ⟨rfl, by dsimp only; clear h; grind, rfl⟩
  | some p => cases B with
    | none => rw [show S = some p from h]; rfl
    | some q =>
      cases S with
      | none =>
        rcases h with ⟨c1, c2, h⟩ | ⟨hn, l, x, y, hs, h, hx, hy⟩
        · obtain ⟨x1, y1⟩ := p
          obtain ⟨x2, y2⟩ := q
          dsimp only at c1 c2
          show some (x1, y1) = some (x2, -y2)
          rw [c1, show y1 = -y2 by clear hA hB; grind]
        · cases h
      | some s =>
        obtain ⟨l, n, ⟨e1, e2, e3⟩, h1, h2, h3⟩ := sum_line H hb hA hB h
        obtain ⟨x1, y1⟩ := p
        obtain ⟨x2, y2⟩ := q
        obtain ⟨x, y⟩ := s
        dsimp only at *
        have L' : Line a b (-l) (-n) x x2 x1 := ⟨by clear e2 e3 h1 h2 h3 hA hB h; grind, by clear e1 e3 h1 h2 h3 hA hB h; grind, by clear e1 e2 h1 h2 h3 hA hB h; grind⟩
        have r := line_sum (p := (x, y)) (q := (x2, -y2)) L' (by dsimp only; clear e1 e2 e3 h1 h2 hA hB h L'; grind) (by dsimp only; clear e1 e2 e3 h1 h3 hA hB h L'; grind) (fun c => by
          obtain ⟨c1, c2⟩ := c
          dsimp only at c1 c2
          subst c1
          have hy : y = y2 := by clear e1 e2 e3 h1 h2 h3 hA hB h L'; grind
          subst hy
          have h2y : 2 * y = 0 := by clear e1 e2 e3 h1 hA hB h L' c2; grind
          have hy0 : y = 0 := by
            rcases H.nd _ _ h2y with e | e
            · exact absurd e H.two
            · exact e
          subst hy0
          have hroot : x * x * x + a * x * x + x = 0 := by
            have := hB
            simp only [OnC] at this
            clear e1 e2 e3 h1 h2 h3 hA hB h L' h2y; grind
          have ht := lt_slope (y1 := (0 : K)) (x1 := x) (x3 := x1) (n := n) (l := l) (a := a) (b := b) (by clear e2 e3 h1 h2 h3 hA hB h L' hroot h2y; grind) (by clear e1 e3 h1 h2 h3 hA hB h L' hroot h2y; grind) h2
          exact nonsing H ha hroot (by clear e1 e2 e3 h1 h2 h3 hA hB h L' hroot h2y; grind))
        have e : -((-l) * x1 + (-n)) = y1 := by clear e1 e2 e3 h2 h3 hA hB h L' r; grind
        rw [e] at r
        exact r

theorem sum_ex (H : Fld K) (hb : b ≠ 0) (P Q : KP K) (hP : OnC a b P) (hQ : OnC a b Q) : ∃ R, IsSum a b P Q R := by
  cases P with
  | none => exact ⟨Q, rfl⟩
  | some p => cases Q with
    | none => exact ⟨some p, rfl⟩
    | some q =>
      obtain ⟨x1, y1⟩ := p
      obtain ⟨x2, y2⟩ := q
      by_cases c : x1 = x2 ∧ y1 + y2 = 0
      · exact ⟨none, .inl ⟨c.1, c.2, rfl⟩⟩
      · have : ∃ l, Slope a b l (x1, y1) (x2, y2) := by
          by_cases e : ((x1, y1) : K × K) = (x2, y2)
          · cases e
            have hy0 : 2 * b * y1 ≠ 0 := by
              intro h0
              rcases H.nd _ _ h0 with h0 | h0
              · rcases H.nd _ _ h0 with h0 | h0
                · exact H.two h0
                · exact hb h0
              · exact c ⟨rfl, by rw [h0]; grind⟩
            obtain ⟨i, hi⟩ := H.inv _ hy0
            refine ⟨(3 * x1 * x1 + 2 * a * x1 + 1) * i, fun _ => ?_, fun e => absurd rfl e⟩
            dsimp only
            clear hy0 c hP hQ; grind
          · have hx12 : x2 ≠ x1 := by
              intro hx
              subst hx
              rcases same_x H hb hP hQ with h | h
              · exact e (by dsimp only at h; rw [h])
              · exact c ⟨rfl, h⟩
            obtain ⟨i, hi⟩ := H.inv _ (sub_ne hx12)
            refine ⟨(y2 - y1) * i, fun e' => absurd e' e, fun _ => ?_⟩
            dsimp only
            clear hx12 c hP hQ e; grind
        obtain ⟨l, hl⟩ := this
        exact ⟨_, .inr ⟨c, l, _, _, hl, rfl, rfl, rfl⟩⟩
end
end Mine
namespace Mine
section
variable {K : Type} [Lean.Grind.CommRing K] {a b : K}

/-- the conic of a sum of three -/
theorem conic {l1 n1 l2 n2 xA yA xB yB xS yS xC yC xD yD : K} (L1 : Line a b l1 n1 xA xB xS) (L2 : Line a b l2 n2 xS xC xD) (hA : yA = l1 * xA + n1) (hB : yB = l1 * xB + n1) (hS' : -yS = l1 * xS + n1) (hS : yS = l2 * xS + n2) (hC : yC = l2 * xC + n2) (hD : -yD = l2 * xD + n2) :
    ∃ al be ga : K, al = a + b * l1 * l2 + xS ∧ be = b * (l1 + l2) ∧ xA * xA + al * xA + ga - be * yA = 0 ∧ xB * xB + al * xB + ga - be * yB = 0 ∧ xC * xC + al * xC + ga - be * yC = 0 ∧ xD * xD + al * xD + ga + be * yD = 0 ∧ 2 * b * al - be * be = -b * (xA + xB + xC + xD) := by
  refine ⟨_, _, 1 + b * (l1 * n2 + l2 * n1) + xS * (a + b * l1 * l2 + xS), rfl, rfl, ?_, ?_, ?_, ?_, ?_⟩
  · rw [hA]; exact F_at L1.e1 L1.e2 hS hS'
  · rw [hB]
    exact F_at (xB := xA) (by rw [L1.e1]; clear L1 L2 hA hB hS hS' hC hD; grind) (by rw [L1.e2]; clear L1 L2 hA hB hS hS' hC hD; grind) hS hS'
  · rw [hC]
    have := F_at (l1 := l2) (n1 := n2) (l2 := l1) (n2 := n1) (xA := xC) (xB := xD) (xS := xS) (yS := -yS) (a := a) (b := b) (by rw [L2.e1]; clear L1 L2 hA hB hS hS' hC hD; grind) (by rw [L2.e2]; clear L1 L2 hA hB hS hS' hC hD; grind) hS' (by rw [← hS]; clear L1 L2 hA hB hS hS' hC hD; grind)
    rw [← this]; clear this L1 L2 hA hB hS hS' hC hD; grind
  · have h := F_at (l1 := l2) (n1 := n2) (l2 := l1) (n2 := n1) (xA := xD) (xB := xC) (xS := xS) (yS := -yS) (a := a) (b := b) (by rw [L2.e1]; clear L1 L2 hA hB hS hS' hC hD; grind) (by rw [L2.e2]; clear L1 L2 hA hB hS hS' hC hD; grind) hS' (by rw [← hS]; clear L1 L2 hA hB hS hS' hC hD; grind)
    rw [← hD] at h
    rw [← h]; clear h L1 L2 hA hB hS hS' hC hD; grind
  · have e1 := L1.e1
    have e2 := L2.e1
    clear L1 L2 hA hB hS hS' hC hD
    refine lin2 (-b) (-b) e1 e2 ?_
    clear e1 e2; grind

/-- two conics with one form tell the same fourth point -/
theorem same_conic (H : Fld K) (hb : b ≠ 0) {al be ga s xD yD xE yE : K} (hD : xD * xD + al * xD + ga + be * yD = 0) (hE : xE * xE + al * xE + ga + be * yE = 0) (sD : 2 * b * al - be * be = -b * (s + xD)) (sE : 2 * b * al - be * be = -b * (s + xE)) : xD = xE ∧ (be ≠ 0 → yD = yE) := by
  have hx : xD = xE := by
    refine cancel H hb ?_
    clear hD hE; grind
  subst hx
  refine ⟨rfl, fun h => ?_⟩
  refine cancel H h ?_
  clear sD sE; grind

theorem three_roots (H : Fld K) {al ga x1 x2 x3 : K} (h1 : x1 * x1 + al * x1 + ga = 0) (h2 : x2 * x2 + al * x2 + ga = 0) (h3 : x3 * x3 + al * x3 + ga = 0) (h12 : x1 ≠ x2) (h13 : x1 ≠ x3) (h23 : x2 ≠ x3) : False := by
  have a1 : x1 + x2 + al = 0 := by
    refine cancel H (sub_ne h12) ?_
    clear h3 h12 h13 h23; grind
  have a2 : x1 + x3 + al = 0 := by
    refine cancel H (sub_ne h13) ?_
    clear h2 h12 h13 h23; grind
  exact h23 (by clear h1 h2 h3 h12 h13 h23; grind)

/-- a point on the line of a sum: one of the three -/
theorem on_line_root (H : Fld K) {l n x1 x2 x3 x y : K} (L : Line a b l n x1 x2 x3) (hc : b * y * y = x * x * x + a * x * x + x) (hy : y = l * x + n) (h1 : x ≠ x1) (h2 : x ≠ x2) : x = x3 := by
  obtain ⟨e1, e2, e3⟩ := L
  subst hy
  have h : (x - x1) * ((x - x2) * (x - x3)) = 0 := by
    refine lin4 (-1) (x * x) (-x) 1 hc e1 e2 e3 ?_
    clear hc e1 e2 e3 h1 h2; grind
  rcases H.nd _ _ h with h | h
  · exact absurd (by clear hc e1 e2 e3 h2; grind) h1
  · rcases H.nd _ _ h with h | h
    · exact absurd (by clear hc e1 e2 e3 h1; grind) h2
    · clear hc e1 e2 e3 h1 h2; grind
end
end Mine
namespace Mine
section
variable {K : Type} [Lean.Grind.CommRing K] {a b : K}

theorem not_opp {P Q R : K × K} (h : IsSum a b (some P) (some Q) (some R)) : ¬ (P.1 = Q.1 ∧ P.2 + Q.2 = 0) := by
  rcases h with ⟨_, _, h⟩ | ⟨hn, _⟩
  · cases h
  · exact hn

/-- a line through three points is the line of the first two -/
theorem line_of_three (H : Fld K) {u v w l n xA yA xB yB xC yC : K} (hw : w ≠ 0) (fA : u * xA + v - w * yA = 0) (fB : u * xB + v - w * yB = 0) (fC : u * xC + v - w * yC = 0) (hA : yA = l * xA + n) (hB : yB = l * xB + n) (hx : xA ≠ xB) : yC = l * xC + n := by
  have h1 : u = w * l := by
    refine cancel H (sub_ne hx) ?_
    subst hA hB
    clear fC hx hw; grind
  refine cancel H hw ?_
  subst h1 hA hB
  clear fB hx hw; grind

theorem lin_al (H : Fld K) {al al' ga ga' be xA yA xB yB : K} (fA : xA * xA + al * xA + ga - be * yA = 0) (fA' : xA * xA + al' * xA + ga' - be * yA = 0) (fB : xB * xB + al * xB + ga - be * yB = 0) (fB' : xB * xB + al' * xB + ga' - be * yB = 0) (hx : xA ≠ xB) : al = al' ∧ ga = ga' := by
  have hal : al = al' := by
    refine cancel H (sub_ne hx) ?_
    refine lin4 1 (-1) (-1) 1 fA fA' fB fB' ?_
    clear fA fA' fB fB' hx; grind
  subst hal
  refine ⟨rfl, ?_⟩
  refine lin2 1 (-1) fA fA' ?_
  clear fA fA' fB fB' hx; grind
theorem no_y {al ga x y : K} (f : x * x + al * x + ga - 0 * y = 0) : x * x + al * x + ga = 0 := by rw [← f]; clear f; grind
theorem diff_at {al al' be be' ga ga' x y : K} (f : x * x + al * x + ga - be * y = 0) (f' : x * x + al' * x + ga' - be' * y = 0) : (al - al') * x + (ga - ga') - (be - be') * y = 0 := by
  refine lin2 1 (-1) f f' ?_
  clear f f'; grind
theorem perm3 {x y z w : K} : -b * (x + y + z + w) = -b * (z + x + y + w) := by grind
theorem assoc_i (H : Fld K) (hb : b ≠ 0) {A B C S T D E : K × K} (oA : OnC a b (some A)) (oB : OnC a b (some B)) (oC : OnC a b (some C)) (h1 : IsSum a b (some A) (some B) (some S)) (h2 : IsSum a b (some S) (some C) (some D)) (h3 : IsSum a b (some B) (some C) (some T))
    (h4 : IsSum a b (some T) (some A) (some E)) (xAB : A.1 ≠ B.1) (xAC : A.1 ≠ C.1) (xBC : B.1 ≠ C.1) : D = E := by
  have oS := on_sum H hb oA oB h1
  have oT := on_sum H hb oB oC h3
  have nSC := not_opp h2
  obtain ⟨l1, n1, L1, g1, g2, g3⟩ := sum_line H hb oA oB h1
  obtain ⟨l2, n2, L2, g4, g5, g6⟩ := sum_line H hb oS oC h2
  obtain ⟨l3, n3, L3, k1, k2, k3⟩ := sum_line H hb oB oC h3
  obtain ⟨l4, n4, L4, k4, k5, k6⟩ := sum_line H hb oT oA h4
  obtain ⟨al, be, ga, u1, u2, fA, fB, fC, fD, sm⟩ := conic L1 L2 g1 g2 g3 g4 g5 g6
  obtain ⟨al', be', ga', u3, u4, fB', fC', fA', fE, sm'⟩ := conic L3 L4 k1 k2 k3 k4 k5 k6
  clear u1 u2 u3 u4
  obtain ⟨xA, yA⟩ := A
  obtain ⟨xB, yB⟩ := B
  obtain ⟨xC, yC⟩ := C
  obtain ⟨xS, yS⟩ := S
  obtain ⟨xD, yD⟩ := D
  obtain ⟨xE, yE⟩ := E
  dsimp only at *
  by_cases hbe : be = be'
  · subst hbe
    obtain ⟨hal, hga⟩ := lin_al H fA fA' fB fB' xAB
    subst hal hga
    have hz : be ≠ 0 := by
      intro e
      subst e
      exact three_roots H (no_y fA) (no_y fB) (no_y fC) xAB xAC xBC
    obtain ⟨hx, hy⟩ := same_conic H hb (s := xA + xB + xC) fD fE sm (by rw [sm', perm3])
    rw [hx, hy hz]
  · exfalso
    have hC := line_of_three H (sub_ne hbe) (diff_at fA fA') (diff_at fB fB') (diff_at fC fC') g1 g2 xAB
    have hxS := on_line_root H L1 oC hC (Ne.symm xAC) (Ne.symm xBC)
    refine nSC ⟨hxS.symm, ?_⟩
    have hxS' : xC = xS := hxS
    subst hxS'
    have hC' : yC = l1 * xC + n1 := hC
    rw [hC', ← g3, Lean.Grind.AddCommMonoid.add_comm, Lean.Grind.AddCommGroup.neg_add_cancel]
end
end Mine
namespace Mine
section
variable {K : Type} [Lean.Grind.CommRing K] {a b : K}

/-- a difference of two conics that touch at A: the line is the tangent -/
theorem line_of_touch (H : Fld K) {u v w l n xA yA xC yC : K} (hw : w ≠ 0) (fA : u * xA + v - w * yA = 0) (dA : u - w * l = 0) (fC : u * xC + v - w * yC = 0) (hA : yA = l * xA + n) : yC = l * xC + n := by
  refine cancel H hw ?_
  subst hA
  have hu : u = w * l := by clear fA fC hw; grind
  subst hu
  clear dA hw; grind
theorem diff_d {al al' be be' l x : K} (d : 2 * x + al - be * l = 0) (d' : 2 * x + al' - be' * l = 0) : (al - al') - (be - be') * l = 0 := by
  refine lin2 1 (-1) d d' ?_
  clear d d'; grind
theorem touch1 {l1 l2 xA xS : K} (e1 : b * l1 * l1 - a = xA + xA + xS) : 2 * xA + (a + b * l1 * l2 + xS) - b * (l1 + l2) * l1 = 0 := by
  refine lin1 (-1) e1 ?_
  clear e1; grind
theorem touch2_ring {b a xA xC xT l1 l3 l4 yA n3 n4 yT : K}
    (s : l1 * (2 * b * yA) = 3 * xA * xA + 2 * a * xA + 1)
    (e1 : b * l3 * l3 - a = xA + xC + xT) (e2 : 1 - 2 * b * l3 * n3 = xA * xC + xA * xT + xC * xT)
    (k1 : yA = l3 * xA + n3) (k3 : -yT = l3 * xT + n3) (k4 : yT = l4 * xT + n4) (k5 : yA = l4 * xA + n4) :
    (xA - xT) * (2 * xA + (a + b * l3 * l4 + xT) - b * (l3 + l4) * l1) = 0 := by
  have h1 : 2 * yA = (xA - xT) * (l3 + l4) := by
    refine lin4 1 (-1) (-1) 1 k1 k3 k4 k5 ?_
    clear s e1 e2 k1 k3 k4 k5; grind
  have hn : n3 = yA - l3 * xA := by clear s e1 e2 k3 k4 k5 h1; grind
  subst hn
  have h2 : 3 * xA * xA + 2 * a * xA + 1 = 2 * b * l3 * yA + (xA - xC) * (xA - xT) := by
    refine lin2 (-2 * xA) 1 e1 e2 ?_
    clear s e1 e2 k1 k3 k4 k5 h1; grind
  have h3 : (xA - xT) * (b * (l3 + l4) * l1) = 3 * xA * xA + 2 * a * xA + 1 := by
    rw [← s]
    refine lin1 (-b * l1) h1 ?_
    clear s e1 e2 k1 k3 k4 k5 h1 h2; grind
  have h4 : (xA - xT) * (2 * xA + (a + b * l3 * l4 + xT)) = 3 * xA * xA + 2 * a * xA + 1 := by
    rw [h2]
    refine lin2 (-(xA - xT)) (-b * l3) e1 h1 ?_
    clear s e1 e2 k1 k3 k4 k5 h1 h2 h3; grind
  clear s e1 e2 k1 k3 k4 k5 h1 h2
  refine lin2 1 (-1) h4 h3 ?_
  clear h3 h4; grind
theorem dbl_root (H : Fld K) {al ga x1 x2 : K} (h1 : x1 * x1 + al * x1 + ga = 0) (d : 2 * x1 + al = 0) (h2 : x2 * x2 + al * x2 + ga = 0) (h12 : x1 ≠ x2) : False := by
  have : x1 + x2 + al = 0 := by
    refine cancel H (sub_ne h12) ?_
    clear d h12; grind
  exact h12 (by clear h1 h2 h12; grind)
theorem lin_al2 (H : Fld K) {al al' ga ga' be xA yA xC yC : K} (fA : xA * xA + al * xA + ga - be * yA = 0) (fA' : xA * xA + al' * xA + ga' - be * yA = 0) (fC : xC * xC + al * xC + ga - be * yC = 0) (fC' : xC * xC + al' * xC + ga' - be * yC = 0) (hx : xA ≠ xC) : al = al' ∧ ga = ga' := lin_al H fA fA' fC fC' hx
end
end Mine
namespace Mine
section
variable {K : Type} [Lean.Grind.CommRing K] {a b : K}

theorem neg_some {q : K × K} : negK (some q) = some (q.1, -q.2) := rfl
theorem opp_ends {p q : K × K} {R : KP K} (h : p.1 = q.1 ∧ p.2 + q.2 = 0) (s : IsSum a b (some p) (some q) R) : R = none := by
  rcases s with ⟨_, _, h'⟩ | ⟨hn, _⟩
  · exact h'
  · exact absurd h hn
theorem none_opp {P Q : KP K} (h : IsSum a b P Q none) : Q = negK P := by
  cases P with
  | none => exact Eq.symm h
  | some p => cases Q with
    | none => cases h
    | some q =>
      rcases h with ⟨c1, c2, _⟩ | ⟨_, l, x, y, _, h, _⟩
      · obtain ⟨x1, y1⟩ := p
        obtain ⟨x2, y2⟩ := q
        dsimp only at c1 c2
        subst c1
        show some (x1, y2) = some (x1, -y1)
        rw [show y2 = -y1 by grind]
      · cases h
theorem neg_sum (P : KP K) : IsSum a b P (negK P) none := by
  cases P with
  | none => rfl
  | some p => exact .inl ⟨rfl, by dsimp only; grind, rfl⟩

theorem zero_of (H : Fld K) {x y : K} (hx : x ≠ 0) (h : x * y = 0) : y = 0 := by
  rcases H.nd _ _ h with h | h
  · exact absurd h hx
  · exact h

theorem assoc_ii (H : Fld K) (ha : a * a ≠ 4) (hb : b ≠ 0) {A C S T D E : K × K} (oA : OnC a b (some A)) (oC : OnC a b (some C)) (h1 : IsSum a b (some A) (some A) (some S)) (h2 : IsSum a b (some S) (some C) (some D)) (h3 : IsSum a b (some A) (some C) (some T))
    (h4 : IsSum a b (some T) (some A) (some E)) (xAC : A.1 ≠ C.1) : D = E := by
  have oS := on_sum H hb oA oA h1
  have oT := on_sum H hb oA oC h3
  have nSC := not_opp h2
  have nTA := not_opp h4
  have xAT : A.1 ≠ T.1 := by
    intro e
    rcases same_x (a := a) H hb (x := T.1) (y1 := T.2) (y2 := A.2) oT (by rw [← e]; exact oA) with h | h
    · have hTA : T = A := Prod.ext e.symm h
      subst hTA
      have := sum_cancel H ha hb oC oA (sum_comm h3)
      have hn := opp_ends (p := T) (q := (T.1, -T.2)) ⟨rfl, by dsimp only; clear this h e; grind⟩ this
      cases hn
    · exact nTA ⟨e.symm, h⟩
  obtain ⟨l1, n1, L1, g1, g2, g3⟩ := sum_line H hb oA oA h1
  obtain ⟨l2, n2, L2, g4, g5, g6⟩ := sum_line H hb oS oC h2
  obtain ⟨l3, n3, L3, k1, k2, k3⟩ := sum_line H hb oA oC h3
  obtain ⟨l4, n4, L4, k4, k5, k6⟩ := sum_line H hb oT oA h4
  obtain ⟨al, be, ga, u1, u2, fA, _, fC, fD, sm⟩ := conic L1 L2 g1 g2 g3 g4 g5 g6
  obtain ⟨al', be', ga', u3, u4, fA', fC', _, fE, sm'⟩ := conic L3 L4 k1 k2 k3 k4 k5 k6
  have sl := lt_slope L1.e1 L1.e2 g1
  have d := touch1 (l2 := l2) L1.e1
  have d' := zero_of H (sub_ne xAT) (touch2_ring sl L3.e1 L3.e2 k1 k3 k4 k5)
  rw [← u1, ← u2] at d
  rw [← u3, ← u4] at d'
  clear u1 u2 u3 u4
  obtain ⟨xA, yA⟩ := A
  obtain ⟨xC, yC⟩ := C
  obtain ⟨xS, yS⟩ := S
  obtain ⟨xD, yD⟩ := D
  obtain ⟨xE, yE⟩ := E
  dsimp only at *
  by_cases hbe : be = be'
  · subst hbe
    obtain ⟨hal, hga⟩ := lin_al H fA fA' fC fC' xAC
    subst hal hga
    have hz : be ≠ 0 := by
      intro e
      subst e
      exact dbl_root H (no_y fA) (by rw [← d]; clear d; grind) (no_y fC) xAC
    obtain ⟨hx, hy⟩ := same_conic H hb (s := xA + xA + xC) fD fE sm (by rw [sm']; clear sm sm'; grind)
    rw [hx, hy hz]
  · exfalso
    have hC := line_of_touch H (sub_ne hbe) (diff_at fA fA') (diff_d d d') (diff_at fC fC') g1
    have hxS := on_line_root H L1 oC hC (Ne.symm xAC) (Ne.symm xAC)
    refine nSC ⟨hxS.symm, ?_⟩
    have hxS' : xC = xS := hxS
    subst hxS'
    have hC' : yC = l1 * xC + n1 := hC
    rw [hC', ← g3, Lean.Grind.AddCommMonoid.add_comm, Lean.Grind.AddCommGroup.neg_add_cancel]

theorem assoc (H : Fld K) (ha : a * a ≠ 4) (hb : b ≠ 0) {A B C S T D E : KP K} (oA : OnC a b A) (oB : OnC a b B) (oC : OnC a b C) (h1 : IsSum a b A B S) (h2 : IsSum a b S C D) (h3 : IsSum a b B C T) (h4 : IsSum a b A T E) : D = E := by
  have oS := on_sum H hb oA oB h1
  have oT := on_sum H hb oB oC h3
  have uq := fun {P Q R R' : KP K} => sum_uniq (a := a) H hb (P := P) (Q := Q) (R := R) (R' := R')
  cases A with
  | none =>
    cases (show S = B from h1)
    cases (show E = T from h4)
    exact uq oB oC h2 h3
  | some A => cases B with
    | none =>
      cases (show S = some A from h1)
      cases (show T = C from h3)
      exact uq oA oC h2 h4
    | some B => cases C with
      | none =>
        cases (show T = some B from h3)
        have : D = S := by
          cases S with
          | none => exact h2
          | some s => exact h2
        cases this
        exact uq oA oB h1 h4
      | some C =>
        by_cases eS : S = none
        · subst eS
          cases (show D = some C from h2)
          have e := none_opp h1
          have := sum_cancel H ha hb oC oB (sum_comm h3)
          rw [e, neg_neg] at this
          exact uq oT oA this (sum_comm h4)
        by_cases eT : T = none
        · subst eT
          cases (show E = some A from h4)
          have e := none_opp h3
          have := sum_cancel H ha hb oA oB h1
          rw [← e] at this
          exact uq oS oC h2 this
        by_cases eD : D = none
        · subst eD
          have e := none_opp h2
          have c1 := sum_cancel H ha hb oA oB h1
          have c2 := sum_neg c1
          rw [neg_neg, ← e] at c2
          have : T = negK (some A) := uq oB oC h3 (sum_comm c2)
          rw [this] at h4
          exact uq oA (on_neg oA) (neg_sum _) h4
        by_cases eE : E = none
        · subst eE
          have e := none_opp h4
          have c1 := sum_cancel H ha hb oB oC h3
          have c2 := sum_cancel H ha hb oC oB (sum_comm h3)
          have c3 := sum_neg c2
          rw [neg_neg, e, neg_neg] at c3
          have : S = negK (some C) := uq oA oB h1 c3
          rw [this] at h2
          exact uq (on_neg oC) oC h2 (sum_comm (neg_sum _))
        obtain ⟨s, rfl⟩ := Option.ne_none_iff_exists'.mp eS
        obtain ⟨t, rfl⟩ := Option.ne_none_iff_exists'.mp eT
        obtain ⟨d, rfl⟩ := Option.ne_none_iff_exists'.mp eD
        obtain ⟨e, rfl⟩ := Option.ne_none_iff_exists'.mp eE
        have twin : ∀ {p q : K × K}, OnC a b (some p) → OnC a b (some q) → p.1 = q.1 → p = q ∨ some q = negK (some p) := by
          intro p q hp hq hx
          rcases same_x (a := a) H hb (x := q.1) (y1 := p.2) (y2 := q.2) (by rw [← hx] ; exact hp) hq with h | h
          · exact .inl (Prod.ext hx h)
          · refine .inr ?_
            obtain ⟨x1, y1⟩ := p
            obtain ⟨x2, y2⟩ := q
            dsimp only at hx h
            subst hx
            show some (x1, y2) = some (x1, -y1)
            rw [show y2 = -y1 by clear hp hq; grind]
        by_cases xAC : A.1 = C.1
        · rcases twin oA oC xAC with h | h
          · subst h
            have := uq oA oB h1 (sum_comm h3)
            cases this
            exact uq oS oA h2 (sum_comm h4)
          · have c1 := sum_cancel H ha hb oB oA (sum_comm h1)
            rw [← h] at c1
            have c2 := sum_cancel H ha hb oB oC h3
            rw [h, neg_neg] at c2
            rw [uq oS oC h2 c1]
            exact uq oT oA c2 (sum_comm h4)
        · by_cases xAB : A.1 = B.1
          · rcases twin oA oB xAB with h | h
            · subst h
              rw [assoc_ii H ha hb oA oC h1 h2 h3 (sum_comm h4) xAC]
            · rw [h] at h1
              exact absurd (uq oA (on_neg oA) h1 (neg_sum _)) (by intro h; cases h)
          · by_cases xBC : B.1 = C.1
            · rcases twin oB oC xBC with h | h
              · subst h
                rw [assoc_ii H ha hb oB oA h3 (sum_comm h4) (sum_comm h1) h2 (Ne.symm xAB)]
              · rw [h] at h3
                exact absurd (uq oB (on_neg oB) h3 (neg_sum _)) (by intro h; cases h)
            · rw [assoc_i H hb oA oB oC h1 h2 h3 (sum_comm h4) xAB xAC xBC]
end
end Mine
namespace Mine
section
variable {K : Type} [Lean.Grind.CommRing K] {a b : K}

/-- the multiples of a point -/
structure Muls (a b : K) (P : K × K) (M : Nat → KP K) : Prop where
  on : OnC a b (some P)
  zero : M 0 = none
  succ : ∀ k, IsSum a b (M k) (some P) (M (k + 1))

theorem Muls.onC (H : Fld K) (hb : b ≠ 0) {P : K × K} {M : Nat → KP K} (h : Muls a b P M) : ∀ k, OnC a b (M k)
  | 0 => by rw [h.zero]; trivial
  | k + 1 => on_sum H hb (h.onC H hb k) h.on (h.succ k)
theorem sum_none (P : KP K) : IsSum a b P none P := by
  cases P with
  | none => rfl
  | some p => rfl
theorem Muls.one {P : K × K} {M : Nat → KP K} (h : Muls a b P M) : M 1 = some P := by
  have := h.succ 0
  rw [h.zero] at this
  exact this
theorem Muls.add (H : Fld K) (ha : a * a ≠ 4) (hb : b ≠ 0) {P : K × K} {M : Nat → KP K} (h : Muls a b P M) (m : Nat) : ∀ n, IsSum a b (M m) (M n) (M (m + n))
  | 0 => by rw [h.zero]; exact sum_none _
  | n + 1 => by
    have ih := h.add H ha hb m n
    obtain ⟨E, hE⟩ := sum_ex H hb (M m) (M (n + 1)) (h.onC H hb m) (h.onC H hb (n + 1))
    have := assoc H ha hb (h.onC H hb m) (h.onC H hb n) h.on ih (h.succ (m + n)) (h.succ n) hE
    rw [show m + (n + 1) = m + n + 1 by omega, this]
    exact hE
/-- the multiples of a multiple -/
theorem Muls.mul (H : Fld K) (ha : a * a ≠ 4) (hb : b ≠ 0) {P Q : K × K} {M : Nat → KP K} (h : Muls a b P M) {m : Nat} (hm : M m = some Q) : Muls a b Q fun k => M (m * k) := by
  refine ⟨by rw [← hm]; exact h.onC H hb m, by rw [Nat.mul_zero, h.zero], fun k => ?_⟩
  have := h.add H ha hb (m * k) m
  rw [hm] at this
  exact this
theorem Muls.uniq (H : Fld K) (hb : b ≠ 0) {P : K × K} {M M' : Nat → KP K} (h : Muls a b P M) (h' : Muls a b P M') : ∀ k, M k = M' k
  | 0 => by rw [h.zero, h'.zero]
  | k + 1 => by
    have e := h.uniq H hb h' k
    have := h'.succ k
    rw [← e] at this
    exact sum_uniq H hb (h.onC H hb k) h.on (h.succ k) this

noncomputable def RepK (X : K × K) : KP K → Prop
  | none => X.2 = 0 ∧ X.1 ≠ 0
  | some p => X.2 ≠ 0 ∧ X.1 = p.1 * X.2
noncomputable def dblK (c P : K × K) : K × K :=
  let up := (P.1 + P.2) * (P.1 + P.2)
  let down := (P.1 - P.2) * (P.1 - P.2)
  (up * c.2 * down, (up - down) * (c.2 * down + c.1 * (up - down)))
noncomputable def joinK (P Q D : K × K) : K × K :=
  let l := (P.1 - P.2) * (Q.1 + Q.2)
  let r := (P.1 + P.2) * (Q.1 - Q.2)
  (D.2 * ((l + r) * (l + r)), D.1 * ((l - r) * (l - r)))
theorem mul_ne (H : Fld K) {x y : K} (hx : x ≠ 0) (hy : y ≠ 0) : x * y ≠ 0 := fun h => by
  rcases H.nd _ _ h with h | h
  · exact hx h
  · exact hy h
theorem four_ne (H : Fld K) : (4 : K) ≠ 0 := fun h => mul_ne H H.two H.two (by rw [← h]; grind)
theorem sq_ne (H : Fld K) {x : K} (h : x * x ≠ 0) : x ≠ 0 := fun e => h (by rw [e]; grind)

theorem dbl_at {c1 c2 x Z : K} (hc : 4 * c1 = (a + 2) * c2) : dblK (c1, c2) (x * Z, Z) = (Z * Z * (Z * Z) * c2 * ((x * x - 1) * (x * x - 1)), 4 * (Z * Z * (Z * Z)) * c2 * (x * x * x + a * x * x + x)) := by
  simp only [dblK]
  refine Prod.ext ?_ ?_
  · dsimp only; clear hc; grind
  · dsimp only
    refine lin1 (4 * x * x * (Z * Z * (Z * Z))) hc ?_
    clear hc; grind
theorem dbl_rep (H : Fld K) (ha : a * a ≠ 4) (hb : b ≠ 0) {c X : K × K} {P R : KP K} (hc : 4 * c.1 = (a + 2) * c.2) (hc2 : c.2 ≠ 0) (oP : OnC a b P) (hX : RepK X P) (h : IsSum a b P P R) : RepK (dblK c X) R := by
  obtain ⟨X, Z⟩ := X
  obtain ⟨c1, c2⟩ := c
  cases P with
  | none =>
    cases (show R = none from h)
    obtain ⟨h1, h2⟩ := hX
    dsimp only at *
    subst h1
    have h3 := mul_ne H (mul_ne H (mul_ne H h2 h2) (mul_ne H h2 h2)) hc2
    refine ⟨?_, fun e => h3 ?_⟩
    · simp only [dblK]; clear hc h2 hc2 h3; grind
    · simp only [dblK] at e; rw [← e]; clear hc h2 hc2 h3 e; grind
  | some p =>
    obtain ⟨x, y⟩ := p
    obtain ⟨h1, h2⟩ := hX
    dsimp only at *
    subst h2
    simp only [OnC] at oP
    rw [dbl_at hc, ← oP]
    have hz4 := mul_ne H (mul_ne H (mul_ne H h1 h1) (mul_ne H h1 h1)) hc2
    rcases h with ⟨_, c2', h⟩ | ⟨hn, l, x', y', hs, h, hx, hy⟩
    · subst h
      have hy0 : y = 0 := zero_of H H.two (by dsimp only at c2'; rw [← c2']; clear oP hc; grind)
      subst hy0
      refine ⟨by dsimp only; clear hc h1 hc2 oP; grind, ?_⟩
      refine mul_ne H hz4 ?_
      have : x * x - 1 ≠ 0 := by
        intro e
        refine ha ?_
        have hr : x * (x * x - 1) + a * x * x + x + x = 0 := by
          rw [show (0 : K) = b * 0 * 0 by grind, oP]; clear oP e hc; grind
        rw [e] at hr
        have hxx : x * x = 1 := by clear hr oP hc; grind
        clear e oP hc
        have h4 : a * (x * x) + 2 * x = 0 := by rw [← hr]; grind
        rw [hxx] at h4
        have : a = -2 * x := by clear hr; grind
        subst this
        rw [show -2 * x * (-2 * x) = 4 * (x * x) by grind, hxx]; grind
      exact mul_ne H this this
    · subst h
      have sl := hs.1 rfl
      dsimp only at sl hx hn
      have hy0 : y ≠ 0 := by
        intro e
        subst e
        exact hn ⟨rfl, by grind⟩
      refine ⟨?_, ?_⟩
      · dsimp only
        refine mul_ne H ?_ (mul_ne H (mul_ne H hb hy0) hy0)
        rw [show 4 * (Z * Z * (Z * Z)) * c2 = 4 * (Z * Z * (Z * Z) * c2) by clear sl hx hy oP hc; grind]
        exact mul_ne H (four_ne H) hz4
      · dsimp only
        have key : (x * x - 1) * (x * x - 1) = x' * (4 * (b * y * y)) := by
          have k1 : (l * (2 * b * y)) * (l * (2 * b * y)) = 4 * (b * l * l) * (b * y * y) := by clear sl hx hy oP hc; grind
          have k2 : b * l * l = x' + a + x + x := by clear sl oP hc k1; grind
          rw [k2, sl, oP] at k1
          rw [oP]
          clear sl k2 hx hy oP hc
          refine lin1 1 k1 ?_
          clear k1; grind
        rw [key]; clear sl hx hy oP hc key; grind
end
end Mine
namespace Mine
section
variable {K : Type} [Lean.Grind.CommRing K] {a b : K}

theorem join_at {x1 Z1 x2 Z2 xd Zd : K} : joinK (x1 * Z1, Z1) (x2 * Z2, Z2) (xd * Zd, Zd) = (4 * (Zd * (Z1 * Z1 * (Z2 * Z2))) * ((x1 * x2 - 1) * (x1 * x2 - 1)), 4 * (Zd * (Z1 * Z1 * (Z2 * Z2))) * (xd * ((x1 - x2) * (x1 - x2)))) := by
  simp only [joinK]
  refine Prod.ext ?_ ?_
  · dsimp only; grind
  · dsimp only; grind
theorem join_left {X1 x2 Z2 xd Zd : K} : joinK (X1, 0) (x2 * Z2, Z2) (xd * Zd, Zd) = (4 * (Zd * (X1 * X1 * (Z2 * Z2))) * (x2 * x2), 4 * (Zd * (X1 * X1 * (Z2 * Z2))) * xd) := by
  simp only [joinK]
  refine Prod.ext ?_ ?_
  · dsimp only; grind
  · dsimp only; grind
theorem join_right {x1 Z1 X2 xd Zd : K} : joinK (x1 * Z1, Z1) (X2, 0) (xd * Zd, Zd) = (4 * (Zd * (X2 * X2 * (Z1 * Z1))) * (x1 * x1), 4 * (Zd * (X2 * X2 * (Z1 * Z1))) * xd) := by
  simp only [joinK]
  refine Prod.ext ?_ ?_
  · dsimp only; grind
  · dsimp only; grind
/-- the law of sum and difference -/
theorem sum_diff_ring {x1 y1 x2 y2 l l' xs xd : K} (hp : b * y1 * y1 = x1 * x1 * x1 + a * x1 * x1 + x1) (hq : b * y2 * y2 = x2 * x2 * x2 + a * x2 * x2 + x2) (s : l * (x2 - x1) = y2 - y1) (s' : l' * (x2 - x1) = -y2 - y1) (hs : xs = b * l * l - a - x1 - x2) (hd : xd = b * l' * l' - a - x1 - x2) :
    ((x1 - x2) * (x1 - x2)) * (xs * (xd * ((x1 - x2) * (x1 - x2)))) = ((x1 - x2) * (x1 - x2)) * ((x1 * x2 - 1) * (x1 * x2 - 1)) := by
  have h1 : xs * ((x1 - x2) * (x1 - x2)) = (x1 * x1 * x1 + a * x1 * x1 + x1) + (x2 * x2 * x2 + a * x2 * x2 + x2) - 2 * (b * y1 * y2) - (a + x1 + x2) * ((x1 - x2) * (x1 - x2)) := by
    have e : b * (l * (x2 - x1)) * (l * (x2 - x1)) = b * y2 * y2 + b * y1 * y1 - 2 * (b * y1 * y2) := by
      rw [s]; clear s s' hs hd hp hq; grind
    rw [hp, hq] at e
    subst hs
    refine lin1 1 e ?_
    clear e s s' hd hp hq; grind
  have h2 : xd * ((x1 - x2) * (x1 - x2)) = (x1 * x1 * x1 + a * x1 * x1 + x1) + (x2 * x2 * x2 + a * x2 * x2 + x2) + 2 * (b * y1 * y2) - (a + x1 + x2) * ((x1 - x2) * (x1 - x2)) := by
    have e : b * (l' * (x2 - x1)) * (l' * (x2 - x1)) = b * y2 * y2 + b * y1 * y1 + 2 * (b * y1 * y2) := by
      rw [s']; clear s s' hs hd hp hq; grind
    rw [hp, hq] at e
    subst hd
    refine lin1 1 e ?_
    clear e s s' hs hp hq; grind
  have h3 : (b * y1 * y2) * (b * y1 * y2) = (x1 * x1 * x1 + a * x1 * x1 + x1) * (x2 * x2 * x2 + a * x2 * x2 + x2) := by
    rw [← hp, ← hq]; clear hp hq s s' hs hd h1 h2; grind
  have h4 : ((x1 - x2) * (x1 - x2)) * (xs * (xd * ((x1 - x2) * (x1 - x2)))) = (xs * ((x1 - x2) * (x1 - x2))) * (xd * ((x1 - x2) * (x1 - x2))) := by
    clear hp hq s s' hs hd h1 h2 h3; grind
  rw [h4, h1, h2]
  clear hp hq s s' hs hd h1 h2 h4
  generalize b * y1 * y2 = g at *
  refine lin1 (-4) h3 ?_
  clear h3; grind
theorem sum_diff (H : Fld K) (ha : a * a ≠ 4) (hb : b ≠ 0) {p q d s : K × K} (op : OnC a b (some p)) (oq : OnC a b (some q)) (hs : IsSum a b (some p) (some q) (some s)) (hd : IsSum a b (some p) (negK (some q)) (some d)) (hx : p.1 ≠ q.1) : s.1 * (d.1 * ((p.1 - q.1) * (p.1 - q.1))) = (p.1 * q.1 - 1) * (p.1 * q.1 - 1) := by
  obtain ⟨x1, y1⟩ := p
  obtain ⟨x2, y2⟩ := q
  rcases hs with ⟨c, _, _⟩ | ⟨_, l, x, y, sl, h, hX, hY⟩
  · exact absurd c hx
  · rcases hd with ⟨c, _, _⟩ | ⟨_, l', x', y', sl', h', hX', hY'⟩
    · exact absurd c hx
    · cases h
      cases h'
      have t := sl.2 (fun e => hx (congrArg (·.1) e))
      have t' := sl'.2 (fun e => hx (congrArg (·.1) e))
      exact cancel H (mul_ne H (sub_ne hx) (sub_ne hx)) (sum_diff_ring op oq t t' hX hX')
/-- joining two points whose difference is not nought, nor at x = 0 -/
theorem join_rep (H : Fld K) (ha : a * a ≠ 4) (hb : b ≠ 0) {d X Y D : K × K} {Hi Lo S : KP K} (od : OnC a b (some d)) (oL : OnC a b Lo) (hd : IsSum a b Lo (some d) Hi) (hx : d.1 ≠ 0) (hX : RepK X Hi) (hY : RepK Y Lo) (hD : RepK D (some d)) (h : IsSum a b Hi Lo S) : RepK (joinK X Y D) S := by
  have oH := on_sum H hb oL od hd
  obtain ⟨XD, ZD⟩ := D
  obtain ⟨d1, d2⟩ := hD
  dsimp only at d1 d2
  subst d2
  obtain ⟨X1, Z1⟩ := X
  obtain ⟨X2, Z2⟩ := Y
  have hc := sum_cancel H ha hb od oL (sum_comm hd)
  cases Lo with
  | none =>
    cases (show Hi = some d from hd)
    cases (show S = some d from h)
    obtain ⟨e1, e2⟩ := hX
    obtain ⟨f1, f2⟩ := hY
    dsimp only at e1 e2 f1 f2
    subst e2 f1
    rw [join_right]
    refine ⟨?_, ?_⟩
    · exact mul_ne H (mul_ne H (four_ne H) (mul_ne H d1 (mul_ne H (mul_ne H f2 f2) (mul_ne H e1 e1)))) hx
    · dsimp only; clear hd h hc hx; grind
  | some q => cases Hi with
    | none =>
      cases (show S = some q from h)
      have e := none_opp hd
      obtain ⟨e1, e2⟩ := hX
      obtain ⟨f1, f2⟩ := hY
      dsimp only at e1 e2 f1 f2
      subst e1 f2
      have hq : d.1 = q.1 := by have := congrArg (fun t => (t.getD (0, 0)).1) e; exact this
      rw [join_left]
      refine ⟨?_, ?_⟩
      · exact mul_ne H (mul_ne H (four_ne H) (mul_ne H d1 (mul_ne H (mul_ne H e2 e2) (mul_ne H f1 f1)))) hx
      · dsimp only; rw [hq]; clear hd h hc hx; grind
    | some p =>
      obtain ⟨e1, e2⟩ := hX
      obtain ⟨f1, f2⟩ := hY
      dsimp only at e1 e2 f1 f2
      subst e2 f2
      rw [join_at]
      have hz := mul_ne H (four_ne H) (mul_ne H d1 (mul_ne H (mul_ne H e1 e1) (mul_ne H f1 f1)))
      have op := oH
      have oq := oL
      by_cases hpq : p.1 = q.1
      · rcases same_x (a := a) H hb (x := q.1) (y1 := p.2) (y2 := q.2) (by rw [← hpq]; exact op) oq with g | g
        · have : p = q := Prod.ext hpq g
          subst this
          have := opp_ends (p := p) (q := (p.1, -p.2)) ⟨rfl, by dsimp only; clear hd h hc hx op oq; grind⟩ hc
          cases this
        · have hS := opp_ends ⟨hpq, g⟩ h
          subst hS
          refine ⟨by rw [hpq]; clear hd h hc hx op oq; grind, ?_⟩
          refine mul_ne H hz ?_
          obtain ⟨x, y⟩ := q
          have hp : p = (x, -y) := Prod.ext hpq (by dsimp only at *; clear hd h hc hx op oq; grind)
          subst hp
          dsimp only at *
          have hn : x * x - 1 ≠ 0 := by
            intro e
            rcases hc with ⟨_, _, hc⟩ | ⟨hn, l, xs, ys, sl, hc, hxs, hys⟩
            · cases hc
            · cases hc
              have t := sl.1 rfl
              dsimp only at t hxs hx hn
              have hy0 : y ≠ 0 := fun e => hn ⟨rfl, by rw [e]; grind⟩
              have k1 : (l * (2 * b * -y)) * (l * (2 * b * -y)) = 4 * (b * l * l) * (b * y * y) := by clear t hxs hx hn hys sl op oq hd h; grind
              have k2 : b * l * l = xs + a + x + x := by rw [hxs]; clear hx hn hys sl op oq hd h t k1; grind
              rw [k2, t, show b * y * y = x * x * x + a * x * x + x from oq] at k1
              have k3 : (x * x - 1) * (x * x - 1) = 4 * (xs * (x * x * x + a * x * x + x)) := by
                refine lin1 1 k1 ?_
                clear t hxs hx hn hys sl op oq hd h k1; grind
              rw [e, ← show b * y * y = x * x * x + a * x * x + x from oq] at k3
              exact mul_ne H (four_ne H) (mul_ne H hx (mul_ne H (mul_ne H hb hy0) hy0)) (by rw [← k3]; grind)
          exact mul_ne H hn hn
      · obtain ⟨s, rfl⟩ : ∃ s, S = some s := by
          cases S with
          | some s => exact ⟨s, rfl⟩
          | none =>
            have e := none_opp h
            exact absurd (congrArg (fun t => (t.getD (0, 0)).1) e).symm hpq
        have e := sum_diff H ha hb op oq h hc hpq
        refine ⟨mul_ne H hz (mul_ne H hx (mul_ne H (sub_ne hpq) (sub_ne hpq))), ?_⟩
        dsimp only
        rw [← e]
        clear hd h hc hx op oq e hz hpq
        grind
end
end Mine
namespace Mine
open Lean.Grind
section
variable {K : Type} [CommRing K] {r : Nat} [IsCharP K r]

/-- a whole number's class -/
noncomputable def ph (K : Type) [CommRing K] (x : Int) : K := (Ring.intCast (α := K)).intCast x
theorem ph_add (x y : Int) : ph K (x + y) = ph K x + ph K y := Ring.intCast_add x y
theorem ph_mul (x y : Int) : ph K (x * y) = ph K x * ph K y := Ring.intCast_mul x y
theorem ph_sub (x y : Int) : ph K (x - y) = ph K x - ph K y := Ring.intCast_sub x y
theorem ph_zero : ph K 0 = 0 := Ring.intCast_zero
theorem ph_one : ph K 1 = 1 := Ring.intCast_one
theorem ph_num (n : Nat) : ph K (OfNat.ofNat n) = OfNat.ofNat n := Ring.intCast_ofNat n
theorem ph_iff (r : Nat) [IsCharP K r] (x : Int) : ph K x = 0 ↔ x % r = 0 := IsCharP.intCast_eq_zero_iff r x
theorem ph_mod (r : Nat) [IsCharP K r] (x : Int) : ph K (x % r) = ph K x := IsCharP.intCast_emod r x
theorem ph_eq (r : Nat) [IsCharP K r] {x y : Int} : ph K x = ph K y ↔ x % r = y % r := IsCharP.intCast_ext_iff r
/-- the classes of small numbers differ -/
theorem ph_inj (r : Nat) [IsCharP K r] {x y : Nat} (hx : x < r) (hy : y < r) (h : ph K x = ph K y) : x = y := by
  have h := (ph_eq r).mp h
  rw [Int.emod_eq_of_lt (by omega) (by omega), Int.emod_eq_of_lt (by omega) (by omega)] at h
  omega
theorem ph_nz (r : Nat) [IsCharP K r] {x : Nat} (hx : x < r) (h : x ≠ 0) : ph K x ≠ 0 := fun e => h (by
  have := (ph_iff r (x : Int)).mp e
  rw [Int.emod_eq_of_lt (by omega) (by omega)] at this
  omega)
/-- reduced by a multiple of the characteristic -/
theorem ph_modN (r : Nat) [IsCharP K r] {N : Nat} (h : r ∣ N) (x : Nat) : ph K ((x % N : Nat) : Int) = ph K x := by
  rw [ph_eq r]
  obtain ⟨k, rfl⟩ := h
  have : ((x % (r * k) : Nat) : Int) % (r : Nat) = ((x % (r * k) % r : Nat) : Int) := by omega
  rw [this, Nat.mod_mul_right_mod]
  omega
theorem ph_toNat (r : Nat) [IsCharP K r] (hr : 0 < r) (x : Int) : ph K ((x % r).toNat : Int) = ph K x := by
  rw [Int.toNat_of_nonneg (Int.emod_nonneg _ (by omega)), ph_mod]
theorem ph_pow (x : Int) : ∀ n : Nat, ph K (x ^ n) = ph K x ^ n
  | 0 => by rw [Int.pow_zero, Semiring.pow_zero]; exact ph_one
  | n + 1 => by rw [Int.pow_succ, Semiring.pow_succ, ph_mul, ph_pow x n]

noncomputable abbrev InM (N : Nat) (P : Nat × Nat) : Prop := P.1 < N ∧ P.2 < N
noncomputable def phP (K : Type) [CommRing K] (P : Nat × Nat) : K × K := (ph K P.1, ph K P.2)
theorem ph_pl {N : Nat} (r : Nat) [IsCharP K r] (h : r ∣ N) (x y : Nat) : ph K (pl N x y : Nat) = ph K x + ph K y := by
  unfold pl
  rw [ph_modN r h, ← ph_add]; rfl
theorem ph_pr {N : Nat} (r : Nat) [IsCharP K r] (h : r ∣ N) (x y : Nat) : ph K (pr N x y : Nat) = ph K x * ph K y := by
  unfold pr
  rw [ph_modN r h, ← ph_mul]; rfl
theorem ph_N {N : Nat} (r : Nat) [IsCharP K r] (h : r ∣ N) : ph K N = 0 := by
  rw [ph_iff r]
  omega
theorem ph_mi {N : Nat} (r : Nat) [IsCharP K r] (h : r ∣ N) {x y : Nat} (hy : y < N) : ph K (mi N x y : Nat) = ph K x - ph K y := by
  unfold mi
  rw [ph_modN r h, show ((x + N - y : Nat) : Int) = (x : Int) + N - y by omega, ph_sub, ph_add, ph_N r h]
  grind
theorem pl_lt' {N x y : Nat} (h : 0 < N) : pl N x y < N := Nat.mod_lt _ h
theorem mi_lt' {N x y : Nat} (h : 0 < N) : mi N x y < N := Nat.mod_lt _ h
theorem pr_lt' {N x y : Nat} (h : 0 < N) : pr N x y < N := Nat.mod_lt _ h
theorem dblM {N : Nat} (h : 0 < N) {c P : Nat × Nat} : InM N (dblP N c P) := ⟨pr_lt' h, pr_lt' h⟩
theorem joinM {N : Nat} (h : 0 < N) {P Q D : Nat × Nat} : InM N (joinP N P Q D) := ⟨pr_lt' h, pr_lt' h⟩
theorem ph_dbl {N : Nat} (r : Nat) [IsCharP K r] (h : r ∣ N) (h0 : 0 < N) {c P : Nat × Nat} (hP : InM N P) : phP K (dblP N c P) = dblK (phP K c) (phP K P) := by
  simp only [phP, dblP, dblK, ph_pr r h, ph_pl r h, ph_mi r h hP.2, ph_mi r h (pr_lt' h0)]
theorem ph_join {N : Nat} (r : Nat) [IsCharP K r] (h : r ∣ N) (h0 : 0 < N) {P Q D : Nat × Nat} (hP : InM N P) (hQ : InM N Q) : phP K (joinP N P Q D) = joinK (phP K P) (phP K Q) (phP K D) := by
  simp only [phP, joinP, joinK, ph_pr r h, ph_pl r h, ph_mi r h hP.2, ph_mi r h hQ.2, ph_mi r h (pr_lt' h0)]
theorem ladM {N : Nat} (h : 0 < N) {c P : Nat × Nat} (hP : InM N P) : ∀ k, InM N (lad N c P k).1 ∧ InM N (lad N c P k).2 := by
  intro k
  rw [lad]
  split
  · exact ⟨hP, dblM h⟩
  · split
    · exact ⟨joinM h, dblM h⟩
    · exact ⟨dblM h, joinM h⟩
/-- the ladder tells the multiples -/
theorem lad_rep (H : Fld K) {N : Nat} (r : Nat) [IsCharP K r] (h : r ∣ N) (h0 : 0 < N) {a b : K} (ha : a * a ≠ 4) (hb : b ≠ 0) {c X : Nat × Nat} {P : K × K} {M : Nat → KP K} (hM : Muls a b P M) (hx : P.1 ≠ 0) (hc : 4 * (phP K c).1 = (a + 2) * (phP K c).2) (hc2 : (phP K c).2 ≠ 0) (hX : InM N X) (R : RepK (phP K X) (some P)) :
    ∀ k, 0 < k → RepK (phP K (lad N c X k).1) (M k) ∧ RepK (phP K (lad N c X k).2) (M (k + 1)) := by
  intro k
  induction k using Nat.strongRecOn with
  | ind k ih =>
    intro hk
    rw [lad]
    split
    · have e : k = 1 := by omega
      subst e
      refine ⟨by rw [hM.one]; exact R, ?_⟩
      dsimp only
      rw [ph_dbl r h h0 hX]
      have := hM.add H ha hb 1 1
      rw [hM.one] at this
      exact dbl_rep H ha hb hc hc2 hM.on R this
    · obtain ⟨i1, i2⟩ := ih (k / 2) (by omega) (by omega)
      obtain ⟨j1, j2⟩ := ladM h0 (c := c) hX (k / 2)
      have jn := join_rep H ha hb hM.on (hM.onC H hb (k / 2)) (hM.succ (k / 2)) hx i2 i1 R (hM.add H ha hb (k / 2 + 1) (k / 2))
      rw [← ph_join r h h0 j2 j1] at jn
      split
      · rename_i hodd
        have e1 : k / 2 + 1 + k / 2 = k := by omega
        have e2 : k / 2 + 1 + (k / 2 + 1) = k + 1 := by omega
        rw [e1] at jn
        refine ⟨jn, ?_⟩
        dsimp only
        rw [ph_dbl r h h0 j2, ← e2]
        exact dbl_rep H ha hb hc hc2 (hM.onC H hb _) i2 (hM.add H ha hb _ _)
      · have e1 : k / 2 + k / 2 = k := by omega
        have e2 : k / 2 + 1 + k / 2 = k + 1 := by omega
        rw [e2] at jn
        refine ⟨?_, jn⟩
        dsimp only
        rw [ph_dbl r h h0 j1]
        conv => rhs; rw [← e1]
        exact dbl_rep H ha hb hc hc2 (hM.onC H hb _) i1 (hM.add H ha hb _ _)
/-- far out stays far out -/
theorem lad_out {N : Nat} (r : Nat) [IsCharP K r] (h : r ∣ N) (h0 : 0 < N) {c X : Nat × Nat} (hX : InM N X) (hz : (phP K X).2 = 0) : ∀ k, (phP K (lad N c X k).1).2 = 0 ∧ (phP K (lad N c X k).2).2 = 0 := by
  have hd : ∀ {Y : Nat × Nat}, InM N Y → (phP K Y).2 = 0 → (phP K (dblP N c Y)).2 = 0 := by
    intro Y hY e
    rw [ph_dbl r h h0 hY]
    simp only [dblK, e]
    grind
  intro k
  induction k using Nat.strongRecOn with
  | ind k ih =>
    rw [lad]
    split
    · exact ⟨hz, hd hX hz⟩
    · obtain ⟨i1, i2⟩ := ih (k / 2) (by omega)
      obtain ⟨j1, j2⟩ := ladM h0 (c := c) hX (k / 2)
      have jn : (phP K (joinP N (lad N c X (k / 2)).2 (lad N c X (k / 2)).1 X)).2 = 0 := by
        rw [ph_join r h h0 j2 j1]
        simp only [joinK, i1, i2]
        grind
      split
      · exact ⟨jn, hd j2 i2⟩
      · exact ⟨hd j1 i1, jn⟩
end
end Mine
namespace Mine
open Lean.Grind
section
variable {K : Type} [CommRing K] {r : Nat} [IsCharP K r]

theorem ph2 : ph K 2 = 2 := ph_num 2
theorem ph3 : ph K 3 = 3 := ph_num 3
theorem ph4 : ph K 4 = 4 := ph_num 4
theorem ph5 : ph K 5 = 5 := ph_num 5
theorem ph16 : ph K 16 = 16 := ph_num 16
/-- an odd prime, and its field -/
structure Good (K : Type) [CommRing K] (r : Nat) : Prop where
  big : 11 ≤ r
  ferm : ∀ x < r, x ≠ 0 → x * (x ^ (r - 2) % r) % r = 1
  sur : ∀ x : K, ∃ n : Nat, n < r ∧ x = ph K n

theorem Good.inv1 (G : Good K r) {n : Nat} (hn : n < r) (h0 : n ≠ 0) : ph K n * ph K ((n ^ (r - 2) % r : Nat) : Int) = 1 := by
  have := G.ferm n hn h0
  rw [← ph_mul, ← ph_one, ph_eq r]
  have hb := G.big
  rw [Int.emod_eq_of_lt (a := 1) (by omega) (by omega)]
  exact_mod_cast this
theorem Good.fld (G : Good K r) : Fld K := by
  have hb := G.big
  have inv : ∀ x : K, x ≠ 0 → ∃ y : K, x * y = 1 := by
    intro x hx
    obtain ⟨n, hn, rfl⟩ := G.sur x
    refine ⟨_, G.inv1 hn fun e => hx ?_⟩
    subst e
    exact ph_zero
  have num : ∀ k : Nat, 0 < k → k < r → ph K k ≠ 0 := fun k h1 h2 => ph_nz r h2 (by omega)
  refine ⟨fun x y h => ?_, inv, ?_, ?_⟩
  · by_cases hx : x = 0
    · exact .inl hx
    · obtain ⟨z, hz⟩ := inv x hx
      refine .inr ?_
      have : y = (x * z) * y := by rw [hz]; clear h hz; grind
      rw [this, show x * z * y = z * (x * y) by clear this h hz; grind, h]
      clear this h hz; grind
  · rw [← ph_num (K := K) 2]; exact num 2 (by omega) (by omega)
  · rw [← ph_one (K := K)]; exact num 1 (by omega) (by omega)
theorem ph_shr (G : Good K r) (t b : Int) (h : ph K b ≠ 0) : ph K (shr t b r : Nat) * ph K b = ph K t := by
  have hb := G.big
  unfold shr
  have n1 := Int.emod_nonneg b (show (r : Int) ≠ 0 by omega)
  have n2 := Int.emod_lt_of_pos b (show (0 : Int) < r by omega)
  have e : ph K b = ph K ((b % r).toNat : Int) := (ph_toNat r (by omega) b).symm
  have hx : (b % r).toNat ≠ 0 := by
    intro z
    rw [z] at e
    exact h (e.trans ph_zero)
  have i := G.inv1 (n := (b % r).toNat) (by omega) hx
  rw [ph_toNat r (by omega), ph_mul]
  rw [← e] at i
  rw [Semiring.mul_assoc, CommRing.mul_comm _ (ph K b), i]
  exact Semiring.mul_one _

noncomputable def ptK (K : Type) [CommRing K] (p : Pt) : KP K := p.map (phP K)
theorem sum_map (G : Good K r) {a b : Nat} (hb : ph K b ≠ 0) {p q : Pt} (hp : PtIn r p) (hq : PtIn r q) (op : OnC (ph K a) (ph K b) (ptK K p)) (oq : OnC (ph K a) (ph K b) (ptK K q)) : IsSum (ph K a) (ph K b) (ptK K p) (ptK K q) (ptK K (sumP a b r p q)) := by
  have H := G.fld
  have big := G.big
  cases p with
  | none => cases q <;> rfl
  | some p => cases q with
    | none => rfl
    | some q =>
      obtain ⟨x1, y1⟩ := p
      obtain ⟨x2, y2⟩ := q
      have i1 := hp _ rfl
      have i2 := hq _ rfl
      dsimp only at i1 i2
      simp only [sumP]
      split
      · rename_i c
        refine .inl ⟨?_, ?_, rfl⟩
        · simp only [phP, c.1]
        · simp only [phP]
          rw [← ph_add, ph_iff r]
          exact_mod_cast c.2
      · rename_i c
        have hn : ¬ ((phP K (x1, y1)).1 = (phP K (x2, y2)).1 ∧ (phP K (x1, y1)).2 + (phP K (x2, y2)).2 = 0) := by
          rintro ⟨c1, c2⟩
          simp only [phP] at c1 c2
          rw [← ph_add, ph_iff r] at c2
          exact c ⟨ph_inj r i1.1 i2.1 c1, by exact_mod_cast c2⟩
        refine .inr ⟨hn, ph K ((if (x1, y1) = (x2, y2) then shr (3 * x1 * x1 + 2 * a * x1 + 1) (2 * b * y1) r else shr ((y2 : Int) - y1) ((x2 : Int) - x1) r : Nat) : Int), _, _, ⟨?_, ?_⟩, rfl, ?_, ?_⟩
        · intro e
          have ee : ((x1, y1) : Nat × Nat) = (x2, y2) := Prod.ext (ph_inj r i1.1 i2.1 (congrArg (·.1) e)) (ph_inj r i1.2 i2.2 (congrArg (·.2) e))
          rw [if_pos ee]
          cases ee
          simp only [phP]
          have hy : ph K y1 ≠ 0 := by
            intro z
            exact hn ⟨rfl, by simp only [phP, z]; grind⟩
          have h2 : ph K (2 * b * y1) ≠ 0 := by
            rw [ph_mul, ph_mul, ph_num]
            exact mul_ne H (mul_ne H H.two hb) hy
          have := ph_shr G (3 * x1 * x1 + 2 * a * x1 + 1) (2 * b * y1) h2
          simp only [ph_add, ph_mul, ph2, ph3, ph_one] at this
          exact this
        · intro e
          have ee : ((x1, y1) : Nat × Nat) ≠ (x2, y2) := fun z => e (by rw [z])
          rw [if_neg ee]
          have hx12 : ph K x2 ≠ ph K x1 := by
            intro hx
            rcases same_x (a := ph K a) H hb (x := ph K x1) (y1 := ph K y1) (y2 := ph K y2) op (by rw [← hx]; exact oq) with h | h
            · exact e (Prod.ext hx.symm h)
            · exact hn ⟨hx.symm, h⟩
          have := ph_shr G ((y2 : Int) - y1) ((x2 : Int) - x1) (by rw [ph_sub]; exact sub_ne hx12)
          rw [ph_sub, ph_sub] at this
          exact this
        · simp only [phP]
          rw [ph_toNat r (by omega)]
          simp only [ph_sub, ph_mul]
        · simp only [phP]
          rw [ph_toNat r (by omega)]
          simp only [ph_sub, ph_mul]
theorem muls_of (G : Good K r) {a b : Nat} (hb : ph K b ≠ 0) {P : Nat × Nat} (hP : P.1 < r ∧ P.2 < r) (op : OnC (ph K a) (ph K b) (some (phP K P))) : Muls (ph K a) (ph K b) (phP K P) fun k => ptK K (mulP a b r P k) := by
  have H := G.fld
  have big := G.big
  have iP : PtIn r (some P) := fun q e => by cases e; exact hP
  have on : ∀ k, OnC (ph K a) (ph K b) (ptK K (mulP a b r P k)) := by
    intro k
    induction k with
    | zero => trivial
    | succ k ih => exact on_sum H hb ih op (sum_map G hb (mul_in (by omega) hP k) iP ih op)
  exact ⟨op, rfl, fun k => sum_map G hb (mul_in (by omega) hP k) iP (on k) op⟩
end
end Mine
namespace Mine
open Lean.Grind
section
variable {K : Type} [CommRing K] {r : Nat} [IsCharP K r]

theorem same_of (G : Good K r) {X : Nat × Nat} {p : Pt} (hX : InM r X) (R : RepK (phP K X) (ptK K p)) : sameP r X p = true := by
  cases p with
  | none =>
    obtain ⟨h1, h2⟩ := R
    simp only [sameP, decide_eq_true_eq]
    rcases Nat.eq_zero_or_pos X.2 with e | e
    · exact e
    · exact absurd h1 (ph_nz r hX.2 (by omega))
  | some q =>
    obtain ⟨h1, h2⟩ := R
    simp only [phP] at h1 h2
    simp only [sameP, Bool.and_eq_true, decide_eq_true_eq]
    refine ⟨fun e => h1 (by rw [e]; exact ph_zero), ?_⟩
    have big := G.big
    refine ph_inj (K := K) r hX.1 (Nat.mod_lt _ (by omega)) ?_
    rw [h2, ph_modN r (Nat.dvd_refl r), ← ph_mul]
    rfl

/-- a drawn curve in the field -/
structure Crvs (K : Type) [CommRing K] (r : Nat) (a b x y : Nat) (c : Nat × Nat) (X : Nat × Nat) : Prop where
  ha : ph K a * ph K a ≠ 4
  hb : ph K b ≠ 0
  on : OnC (ph K a) (ph K b) (some (phP K (x, y)))
  hx : x < r ∧ x ≠ 0
  hy : y < r
  hc : 4 * (phP K c).1 = (ph K a + 2) * (phP K c).2
  hc2 : (phP K c).2 ≠ 0
  rep : RepK (phP K X) (some (phP K (x, y)))
theorem drawn_crvs (G : Good K r) {c : Crv} (D : Drawn r c) {s : Nat} (hs : 0 < s) (hs' : s < r) : Crvs K r c.a c.b c.x c.y (pairP r c) (startP r c s) := by
  have big := G.big
  have H := G.fld
  have hy : ph K c.y ≠ 0 := ph_nz r D.y.2 (by have := D.y.1; omega)
  have hyy : ph K ((c.y : Int) * c.y) ≠ 0 := by rw [ph_mul]; exact mul_ne H hy hy
  have hb := D.nb
  have eb := D.b
  have hbl : c.b < r := by rw [eb]; exact shr_lt (by omega)
  have e := ph_shr G ((c.x : Int) * c.x * c.x + c.a * c.x * c.x + c.x) ((c.y : Int) * c.y) hyy
  rw [← eb] at e
  simp only [ph_add, ph_mul] at e
  refine ⟨fun h => ?_, ph_nz r hbl hb, ?_, ⟨D.x.2, by have := D.x.1; omega⟩, D.y.2, ?_, ?_, ?_, ?_⟩
  · refine D.na ((ph_iff (K := K) r _).mp ?_)
    rw [ph_sub, ph_mul, h, ph4]
    grind
  · simp only [OnC, phP]
    rw [← e]; clear e; grind
  · simp only [phP]
    rw [ph_modN r (Nat.dvd_refl r), ph_modN r (Nat.dvd_refl r), show ((c.a + 2 : Nat) : Int) = (c.a : Int) + 2 by omega, ph_add, ph2, show ((4 : Nat) : Int) = 4 from rfl, ph4]
    clear e; grind
  · simp only [phP]
    rw [ph_modN r (Nat.dvd_refl r), show ((4 : Nat) : Int) = 4 from rfl, ph4]
    exact four_ne H
  · simp only [phP]
    exact ph_nz r hs' (by omega)
  · simp only [phP]
    rw [ph_modN r (Nat.dvd_refl r), ← ph_mul]; rfl
theorem ladder_of (G : Good K r) {c : Crv} (D : Drawn r c) {s k : Nat} (hs : 0 < s) (hs' : s < r) (hk : 0 < k) : sameP r (lad r (pairP r c) (startP r c s) k).1 (mulP c.a c.b r (c.x, c.y) k) = true := by
  have big := G.big
  have C := drawn_crvs G D hs hs'
  have hX : InM r (startP r c s) := ⟨Nat.mod_lt _ (by omega), hs'⟩
  exact same_of G (ladM (by omega) hX k).1 (lad_rep G.fld r (Nat.dvd_refl r) (by omega) C.ha C.hb (muls_of G C.hb (P := (c.x, c.y)) ⟨C.hx.1, C.hy⟩ C.on) (ph_nz r C.hx.1 C.hx.2) C.hc C.hc2 hX C.rep k hk).1

theorem rep_zero {X : K × K} {P : KP K} (R : RepK X P) : X.2 = 0 ↔ P = none := by
  cases P with
  | none => exact ⟨fun _ => rfl, fun _ => R.1⟩
  | some p => exact ⟨fun h => absurd h R.1, fun h => by cases h⟩
theorem ptK_none {p : Pt} : ptK K p = none ↔ p = none := by
  cases p with
  | none => exact ⟨fun _ => rfl, fun _ => rfl⟩
  | some q => exact ⟨fun h => (by cases h), fun h => (by cases h)⟩

/-- the crossing is nought just where the sum or the difference is far out -/
theorem cross_iff (H : Fld K) {a b : K} (ha : a * a ≠ 4) (hb : b ≠ 0) {P : K × K} {M : Nat → KP K} (hM : Muls a b P M) {X Y : K × K} {n s : Nat} {p : K × K} (hn : M n = some p) (hs : s ≤ n) (RX : RepK X (M n)) (RY : RepK Y (M s)) : X.1 * Y.2 - Y.1 * X.2 = 0 ↔ M (n + s) = none ∨ M (n - s) = none := by
  have oC := hM.onC H hb
  have s1 := hM.add H ha hb n s
  have s2 := hM.add H ha hb (n - s) s
  rw [show n - s + s = n by omega] at s2
  have s3 := sum_cancel H ha hb (oC _) (oC _) s2
  rw [hn] at RX s1 s2 s3
  obtain ⟨x1, x2⟩ := RX
  obtain ⟨X1, X2⟩ := X
  obtain ⟨Y1, Y2⟩ := Y
  dsimp only at *
  subst x2
  have oN := oC n
  have oS := oC s
  have qS := oC (n - s)
  rw [hn] at oN
  constructor
  · intro h
    generalize M s = Q at *
    cases Q with
    | none =>
      obtain ⟨y1, y2⟩ := RY
      dsimp only at y1 y2
      subst y1
      exact absurd (show Y1 * X2 = 0 by clear s1 s2 s3 oN oS qS; grind) (mul_ne H y2 x1)
    | some q =>
      obtain ⟨y1, y2⟩ := RY
      dsimp only at y1 y2
      subst y2
      have hx : p.1 = q.1 := by
        refine cancel H (mul_ne H x1 y1) ?_
        clear s1 s2 s3 oN oS qS
        grind
      rcases same_x (a := a) H hb (x := q.1) (y1 := p.2) (y2 := q.2) (by rw [← hx]; exact oN) oS with h | h
      · refine .inr ?_
        have : p = q := Prod.ext hx h
        subst this
        exact opp_ends (p := p) (q := (p.1, -p.2)) ⟨rfl, by dsimp only; clear s1 s2 s3 oN oS qS; grind⟩ s3
      · exact .inl (opp_ends ⟨hx, h⟩ s1)
  · intro h
    have : ∃ y, M s = some (p.1, y) := by
      rcases h with h | h
      · rw [h] at s1
        exact ⟨_, none_opp s1⟩
      · rw [h] at s2
        exact ⟨p.2, Eq.symm s2⟩
    obtain ⟨y, hy⟩ := this
    rw [hy] at RY
    obtain ⟨y1, y2⟩ := RY
    dsimp only at y1 y2
    rw [y2]
    clear s1 s2 s3 oN oS qS h
    grind
end
end Mine
namespace Mine
open Lean.Grind
section
variable {K : Type} [CommRing K] {r : Nat} [IsCharP K r]

theorem fold_zero (H : Fld K) (r : Nat) [IsCharP K r] (t : Nat → Nat) : ∀ (l : List Nat) (f : Nat), ph K (l.foldl (fun f p => pr r f (t p)) f : Nat) = 0 ↔ ph K f = 0 ∨ ∃ p ∈ l, ph K (t p) = 0
  | [], f => by simp
  | p :: l, f => by
    rw [List.foldl_cons, fold_zero H r t l, ph_pr r (Nat.dvd_refl r)]
    constructor
    · rintro (h | ⟨q, hq, h⟩)
      · rcases H.nd _ _ h with h | h
        · exact .inl h
        · exact .inr ⟨p, .head _, h⟩
      · exact .inr ⟨q, .tail _ hq, h⟩
    · rintro (h | ⟨q, hq, h⟩)
      · exact .inl (by rw [h]; grind)
      · rcases List.mem_cons.mp hq with rfl | hq
        · exact .inl (by rw [h]; grind)
        · exact .inr ⟨q, hq, h⟩
theorem fold_due (u v : Nat → Bool) : ∀ (l : List Nat) (d : Bool), l.foldl (fun d p => d || u p || v p) d = true ↔ d = true ∨ ∃ p ∈ l, u p = true ∨ v p = true
  | [], d => by simp
  | p :: l, d => by
    rw [List.foldl_cons, fold_due u v l]
    simp only [Bool.or_eq_true, List.mem_cons]
    constructor
    · rintro (((h | h) | h) | ⟨q, hq, h⟩)
      · exact .inl h
      · exact .inr ⟨p, .inl rfl, .inl h⟩
      · exact .inr ⟨p, .inl rfl, .inr h⟩
      · exact .inr ⟨q, .inr hq, h⟩
    · rintro (h | ⟨q, rfl | hq, h⟩)
      · exact .inl (.inl (.inl h))
      · rcases h with h | h
        · exact .inl (.inl (.inr h))
        · exact .inl (.inr h)
      · exact .inr ⟨q, hq, h⟩
theorem primesTo_small : ∀ S, 5 ≤ S → S < 23 → primesTo S = [2, 3, 5, 7, 11, 13, 17, 19].filter fun p => decide (p ≤ S) := by
  have : ∀ S < 23, 5 ≤ S → primesTo S = [2, 3, 5, 7, 11, 13, 17, 19].filter fun p => decide (p ≤ S) := by decide +kernel
  intro S h1 h2
  exact this S h2 h1

section
variable {a b x y : Nat} {c X : Nat × Nat} {W Q : Nat}
noncomputable abbrev MK (K : Type) [CommRing K] (a b r x y : Nat) (k : Nat) : KP K := ptK K (mulP a b r (x, y) k)
/-- the row of greats: the multiples of the width -/
theorem great_rep (G : Good K r) (C : Crvs K r a b x y c X) (hX : InM r X) (hW : 0 < W) (good : ∀ i ≤ Q, ∃ q, mulP a b r (x, y) ((1 + i) * W) = some q ∧ q.1 ≠ 0) : ∀ i ≤ Q, RepK (phP K (greatP r c X W i)) (MK K a b r x y ((1 + i) * W)) ∧ InM r (greatP r c X W i) := by
  have H := G.fld
  have big := G.big
  have hM := muls_of G C.hb (P := (x, y)) ⟨C.hx.1, C.hy⟩ C.on
  have L := fun k hk => lad_rep H r (Nat.dvd_refl r) (by omega) C.ha C.hb hM (ph_nz r C.hx.1 C.hx.2) C.hc C.hc2 hX C.rep k hk
  have i0 := (ladM (c := c) (show 0 < r by omega) hX W).1
  have L0 := (L W hW).1
  intro i
  induction i using Nat.strongRecOn with
  | ind i ih =>
    intro hi
    match i with
    | 0 =>
      rw [show (1 + 0) * W = W by omega]
      exact ⟨L0, i0⟩
    | 1 =>
      refine ⟨?_, dblM (by omega)⟩
      rw [greatP, ph_dbl r (Nat.dvd_refl r) (by omega) i0]
      have := hM.add H C.ha C.hb W W
      rw [show W + W = (1 + 1) * W by omega] at this
      exact dbl_rep H C.ha C.hb C.hc C.hc2 (hM.onC H C.hb _) L0 this
    | i + 2 =>
      obtain ⟨r1, m1⟩ := ih (i + 1) (by omega) (by omega)
      obtain ⟨r2, m2⟩ := ih i (by omega) (by omega)
      refine ⟨?_, joinM (by omega)⟩
      rw [greatP, ph_join r (Nat.dvd_refl r) (by omega) m1 i0]
      obtain ⟨q, hq, hq0⟩ := good i (by omega)
      have hql := mul_in (a := a) (b := b) (show 0 < r by omega) (P := (x, y)) ⟨C.hx.1, C.hy⟩ ((1 + i) * W) q hq
      have e : MK K a b r x y ((1 + i) * W) = some (phP K q) := by simp only [MK, hq]; rfl
      have A1 := hM.add H C.ha C.hb W ((1 + i) * W)
      have A2 := hM.add H C.ha C.hb ((1 + (i + 1)) * W) W
      rw [show W + (1 + i) * W = (1 + (i + 1)) * W by grind] at A1
      rw [show (1 + (i + 1)) * W + W = (1 + (i + 2)) * W by grind] at A2
      rw [show ptK K (mulP a b r (x, y) ((1 + i) * W)) = some (phP K q) from e] at A1
      rw [e] at r2
      have on := hM.onC H C.hb ((1 + i) * W)
      rw [show ptK K (mulP a b r (x, y) ((1 + i) * W)) = some (phP K q) from e] at on
      exact join_rep H C.ha C.hb on (hM.onC H C.hb W) A1 (ph_nz r hql.1 hq0) r1 L0 r2 A2
theorem div_facts {p S W : Nat} (h2 : 2 ≤ p) (hW : 0 < W) (hp : p ≤ S) : (p + W / 2) / W ≤ 1 + S / W := by
  have : (p + W / 2) / W ≤ (S + W) / W := Nat.div_le_div_right (by omega)
  rw [Nat.add_div_right _ hW] at this
  omega
theorem near {p W : Nat} (hW : 0 < W) : p + W / 2 < ((p + W / 2) / W) * W + W ∧ ((p + W / 2) / W) * W ≤ p + W / 2 := by
  have h1 := Nat.div_add_mod (p + W / 2) W
  have h2 := Nat.mod_lt (p + W / 2) hW
  rw [Nat.mul_comm] at h1
  omega
/-- one prime's term -/
theorem term_iff (G : Good K r) (C : Crvs K r a b x y c X) (hX : InM r X) (hW : 2 ≤ W) {S p : Nat} (good : ∀ i ≤ S / W, ∃ q, mulP a b r (x, y) ((1 + i) * W) = some q ∧ q.1 ≠ 0) (h2 : 2 ≤ p) (hp : p ≤ S) :
    ph K (termP r c X W p : Nat) = 0 ↔ mulP a b r (x, y) p = none ∨ mulP a b r (x, y) (otherP W p) = none := by
  have H := G.fld
  have big := G.big
  have hM := muls_of G C.hb (P := (x, y)) ⟨C.hx.1, C.hy⟩ C.on
  have L := fun k hk => lad_rep H r (Nat.dvd_refl r) (by omega) C.ha C.hb hM (ph_nz r C.hx.1 C.hx.2) C.hc C.hc2 hX C.rep k hk
  have hm := div_facts h2 (show 0 < W by omega) hp
  obtain ⟨n1, n2⟩ := near (p := p) (show 0 < W by omega)
  unfold termP otherP
  generalize (p + W / 2) / W = m at *
  by_cases c0 : m = 0 ∨ p = m * W
  · rw [if_pos (by omega), if_pos c0, or_self]
    exact (rep_zero (L p (by omega)).1).trans ptK_none
  · rw [if_neg (by omega), if_neg c0]
    have hm0 : 0 < m := by omega
    obtain ⟨gr, gm⟩ := great_rep G C hX (by omega) good (m - 1) (by omega)
    obtain ⟨q, hq, hq0⟩ := good (m - 1) (by omega)
    rw [show 1 + (m - 1) = m by omega] at gr hq
    have hWm : W ≤ m * W := by
      have := Nat.mul_le_mul_right W (show 1 ≤ m from hm0)
      omega
    have hs : ((p : Int) - (m * W : Nat)).natAbs ≤ m * W := by omega
    have hs0 : 0 < ((p : Int) - (m * W : Nat)).natAbs := by omega
    have lr := (L _ hs0).1
    have lm := (ladM (c := c) (show 0 < r by omega) hX ((p : Int) - (m * W : Nat)).natAbs).1
    have key := cross_iff H C.ha C.hb hM (n := m * W) (p := phP K q) (by rw [hq]; rfl) hs gr lr
    have e : ph K (crossP r (greatP r c X W (m - 1)) (lad r c X ((p : Int) - (m * W : Nat)).natAbs).1 : Nat) = (phP K (greatP r c X W (m - 1))).1 * (phP K (lad r c X ((p : Int) - (m * W : Nat)).natAbs).1).2 - (phP K (lad r c X ((p : Int) - (m * W : Nat)).natAbs).1).1 * (phP K (greatP r c X W (m - 1))).2 := by
      unfold crossP
      rw [ph_mi r (Nat.dvd_refl r) (pr_lt' (by omega)), ph_pr r (Nat.dvd_refl r), ph_pr r (Nat.dvd_refl r)]
      rfl
    rw [e, key]
    rw [ptK_none, ptK_none]
    rcases Nat.lt_or_ge p (m * W) with h | h
    · rw [show m * W - ((p : Int) - (m * W : Nat)).natAbs = p by omega, show m * W + ((p : Int) - (m * W : Nat)).natAbs = (2 * (m * W : Nat) - (p : Int)).natAbs by omega]
      exact Or.comm
    · rw [show m * W + ((p : Int) - (m * W : Nat)).natAbs = p by omega, show m * W - ((p : Int) - (m * W : Nat)).natAbs = (2 * (m * W : Nat) - (p : Int)).natAbs by omega]
end
theorem isNone_iff' {p : Pt} : p.isNone = true ↔ p = none := by cases p <;> simp
theorem right_of (G : Good K r) {c : Crv} (D : Drawn r c) {s F S W : Nat} (hs : 0 < s) (hs' : s < r) (hS : 5 ≤ S) (hS' : S < 23) (hW : 2 ≤ W) : rightP c.a c.b r (c.x, c.y) (pairP r c) (startP r c s) F S W = true := by
  have big := G.big
  have H := G.fld
  have C := drawn_crvs G D hs hs'
  have hX : InM r (startP r c s) := ⟨Nat.mod_lt _ (by omega), hs'⟩
  unfold rightP
  split
  · rfl
  · rename_i bad
    have good : ∀ i ≤ S / W, ∃ q, mulP c.a c.b r (c.x, c.y) ((1 + i) * W) = some q ∧ q.1 ≠ 0 := by
      intro i hi
      unfold badP at bad
      rw [Bool.not_eq_true, List.any_eq_false] at bad
      have := bad i (List.mem_range.mpr (by omega))
      split at this
      · exact absurd rfl this
      · rename_i q hq
        exact ⟨q, hq, by simpa using this⟩
    rw [beq_iff_eq, Bool.eq_iff_iff, decide_eq_true_iff]
    unfold dueP secondP
    rw [fold_due, primesTo_small S hS hS', List.filter_filter]
    have hz : ∀ n : Nat, n < r → (n = 0 ↔ ph K n = 0) := fun n hn => ⟨fun e => by rw [e]; exact ph_zero, fun e => by
      rcases Nat.eq_zero_or_pos n with z | z
      · exact z
      · exact absurd e (ph_nz r hn (by omega))⟩
    have hlt : ∀ (l : List Nat) (f : Nat), f < r → l.foldl (fun f p => pr r f (termP r (pairP r c) (startP r c s) W p)) f < r := by
      intro l
      induction l with
      | nil => exact fun f h => h
      | cons p l ih => exact fun f _ => ih _ (pr_lt' (by omega))
    rw [hz _ (hlt _ _ (Nat.mod_lt _ (by omega))), fold_zero H r]
    have h1 : ph K ((1 % r : Nat) : Int) ≠ 0 := by
      rw [ph_modN r (Nat.dvd_refl r)]
      exact ph_nz r (by omega) (by omega)
    have mem : ∀ p ∈ [2, 3, 5, 7, 11, 13, 17, 19].filter (fun p => decide (F < p) && decide (p ≤ S)), 2 ≤ p ∧ p ≤ S := by
      intro p hp
      rw [List.mem_filter] at hp
      have h := hp.2
      simp only [Bool.and_eq_true, decide_eq_true_eq] at h
      refine ⟨?_, h.2⟩
      have := hp.1
      simp only [List.mem_cons, List.not_mem_nil, or_false] at this
      omega
    constructor
    · rintro (h | ⟨p, hp, h⟩)
      · exact absurd h h1
      · have := (term_iff G C hX hW good (mem p hp).1 (mem p hp).2).mp h
        exact .inr ⟨p, hp, by rw [isNone_iff', isNone_iff']; exact this⟩
    · rintro (h | ⟨p, hp, h⟩)
      · cases h
      · rw [isNone_iff', isNone_iff'] at h
        exact .inr ⟨p, hp, (term_iff G C hX hW good (mem p hp).1 (mem p hp).2).mpr h⟩
end
end Mine
namespace Mine
open Lean.Grind
section
variable {K : Type} [CommRing K] {r : Nat} [IsCharP K r]

theorem climb_posM {p F : Nat} : ∀ m, 0 < m → 0 < climb p F m := by
  intro m
  induction m using climb.induct (p := p) (F := F) with
  | case1 m h ih =>
    intro hm
    rw [climb, dif_pos h]
    exact ih (Nat.mul_pos hm (by omega))
  | case2 m h =>
    intro hm
    rw [climb, dif_neg h]
    exact hm
theorem primesTo_first : ∀ F, 2 ≤ F → F < 8 → primesTo F = [2, 3, 5, 7].filter fun p => decide (p ≤ F) := by
  have : ∀ F < 8, 2 ≤ F → primesTo F = [2, 3, 5, 7].filter fun p => decide (p ≤ F) := by decide +kernel
  intro F h1 h2
  exact this F h2 h1

/-- once far out, always -/
theorem first_out {N : Nat} (r : Nat) [IsCharP K r] (h : r ∣ N) (h0 : 0 < N) {c : Nat × Nat} {F : Nat} : ∀ (l : List Nat) {X : Nat × Nat}, InM N X → (phP K X).2 = 0 → (phP K (l.foldl (fun P p => (lad N c P (climb p F p)).1) X)).2 = 0
  | [], X, _, hz => hz
  | p :: l, X, hX, hz => by
    rw [List.foldl_cons]
    exact first_out r h h0 l (ladM h0 hX _).1 (lad_out r h h0 hX hz _).1
/-- the first stage, as the law walks it -/
theorem loop_of (G : Good K r) {N : Nat} (h : r ∣ N) (h0 : 0 < N) {a b : Nat} (ha : ph K a * ph K a ≠ 4) (hb : ph K b ≠ 0) {c : Nat × Nat} (hc : 4 * (phP K c).1 = (ph K a + 2) * (phP K c).2) (hc2 : (phP K c).2 ≠ 0) {F : Nat} : ∀ (l : List Nat) (P X : Nat × Nat), (∀ p ∈ l, 0 < p) → InM N X → P.1 < r ∧ P.2 < r → P.1 ≠ 0 →
    OnC (ph K a) (ph K b) (some (phP K P)) → RepK (phP K X) (some (phP K P)) →
    (stageLoop a b r F l P = .out → (phP K (l.foldl (fun P p => (lad N c P (climb p F p)).1) X)).2 = 0) ∧ (stageLoop a b r F l P = .other → (phP K (l.foldl (fun P p => (lad N c P (climb p F p)).1) X)).2 ≠ 0)
  | [], P, X, _, hX, hP, hx, on, R => ⟨fun e => (by cases e), fun _ => R.1⟩
  | p :: l, P, X, hl, hX, hP, hx, on, R => by
    have big := G.big
    have H := G.fld
    have hM := muls_of G hb hP on
    have lr := (lad_rep H r h h0 ha hb hM (ph_nz r hP.1 hx) hc hc2 hX R (climb p F p) (climb_posM p (hl p (.head _)))).1
    have lm := (ladM (c := c) h0 hX (climb p F p)).1
    have onQ := hM.onC H hb (climb p F p)
    rw [stageLoop, List.foldl_cons]
    cases hq : mulP a b r P (climb p F p) with
    | none =>
      rw [hq] at lr
      exact ⟨fun _ => first_out r h h0 l lm lr.1, fun e => (by cases e)⟩
    | some Q =>
      rw [hq] at lr onQ
      have hQ := mul_in (a := a) (b := b) (show 0 < r by omega) hP (climb p F p) Q hq
      dsimp only
      split
      · exact ⟨fun e => (by cases e), fun e => (by cases e)⟩
      · rename_i hx'
        exact loop_of G h h0 ha hb hc hc2 l Q _ (fun p hp => hl p (.tail _ hp)) lm hQ hx' onQ lr

theorem ph_suy {N : Nat} (r : Nat) [IsCharP K r] (h : r ∣ N) (h0 : 0 < N) (s : Nat) : ∃ u v : K, u = ph K s * ph K s - 5 ∧ v = 4 * ph K s ∧ phP K (suyP N s).1 = ((v - u) * (v - u) * (v - u) * (3 * u + v), 16 * (u * u * u) * v) ∧ phP K (suyP N s).2 = (u * u * u, v * v * v) := by
  refine ⟨_, _, rfl, rfl, ?_, ?_⟩
  · simp only [phP, suyP, ph_pr r h, ph_pl r h, ph_mi r h (Nat.mod_lt _ h0), ph_mi r h (mi_lt' h0), ph_modN r h]
    simp only [show ((5 : Nat) : Int) = 5 from rfl, show ((3 : Nat) : Int) = 3 from rfl, show ((16 : Nat) : Int) = 16 from rfl, ph5, ph3, ph16, show ∀ x : Nat, ((4 * x : Nat) : Int) = 4 * (x : Int) by omega, show ∀ x : Nat, ((x * x : Nat) : Int) = (x : Int) * (x : Int) from fun _ => rfl, ph_mul, ph4]
  · simp only [phP, suyP, ph_pr r h, ph_pl r h, ph_mi r h (Nat.mod_lt _ h0), ph_mi r h (mi_lt' h0), ph_modN r h]
    simp only [show ((5 : Nat) : Int) = 5 from rfl, ph5, show ∀ x : Nat, ((4 * x : Nat) : Int) = 4 * (x : Int) by omega, show ∀ x : Nat, ((x * x : Nat) : Int) = (x : Int) * (x : Int) from fun _ => rfl, ph_mul, ph4]
theorem suyM {N : Nat} (h : 0 < N) (s : Nat) : InM N (suyP N s).1 ∧ InM N (suyP N s).2 := ⟨⟨pr_lt' h, pr_lt' h⟩, ⟨pr_lt' h, pr_lt' h⟩⟩
theorem cube (x : K) : x ^ 3 = x * x * x := by grind
theorem stage_of (G : Good K r) {N : Nat} (h : r ∣ N) (h0 : 0 < N) {s F : Nat} (hF : 2 ≤ F) (hF' : F < 8) (hs : stage s F r ≠ .nil) :
    (phP K (suyP N s).1).2 ≠ 0 ∧ (stage s F r = .out → (phP K (firstP N (suyP N s).1 F (suyP N s).2)).2 = 0) ∧ (stage s F r = .other → (phP K (firstP N (suyP N s).1 F (suyP N s).2)).2 ≠ 0) := by
  have big := G.big
  have H := G.fld
  obtain ⟨U, V, eU, eV, e1, e2⟩ := ph_suy (K := K) r h h0 s
  have cb : ∀ x : K, x ^ 3 = x * x * x := cube
  unfold stage at hs ⊢
  unfold firstP
  rw [primesTo_first F hF hF']
  dsimp only at hs ⊢
  generalize hu : (((s : Int) * s - 5) % r).toNat = u at *
  generalize hv : 4 * s % r = v at *
  have pu : ph K u = U := by rw [← hu, ph_toNat r (by omega), ph_sub, ph_mul, ph5, eU]
  have pv : ph K v = V := by rw [← hv, ph_modN r (Nat.dvd_refl r), eV, show ((4 * s : Nat) : Int) = 4 * (s : Int) by omega, ph_mul, ph4]
  split at hs
  · exact absurd rfl hs
  · rename_i c1
    rw [if_neg c1]
    have ul : u < r := by rw [← hu]; exact toNat_mod_lt (by omega) _
    have vl : v < r := by rw [← hv]; exact Nat.mod_lt _ (by omega)
    have hU : U ≠ 0 := by rw [← pu]; exact ph_nz r ul (by omega)
    have hV : V ≠ 0 := by rw [← pv]; exact ph_nz r vl (by omega)
    have h16 : (16 : K) ≠ 0 := fun e => mul_ne H (four_ne H) (four_ne H) (by rw [← e]; grind)
    have hUUU := mul_ne H (mul_ne H hU hU) hU
    have hVVV := mul_ne H (mul_ne H hV hV) hV
    have hbot : 16 * (U * U * U) * V ≠ 0 := mul_ne H (mul_ne H h16 hUUU) hV
    have ea := ph_shr G (((v : Int) - u) ^ 3 * (3 * u + v)) (4 * u ^ 3 * v) (by
      simp only [ph_mul, ph_pow, ph4, pu, pv, cb]
      exact mul_ne H (mul_ne H (four_ne H) hUUU) hV)
    have ex := ph_shr G ((u : Int) ^ 3) ((v : Int) ^ 3) (by
      simp only [ph_pow, pv, cb]
      exact hVVV)
    simp only [ph_mul, ph_pow, ph4, ph3, ph_add, ph_sub, pu, pv, cb] at ea ex
    generalize hsh : shr (((v : Int) - u) ^ 3 * (3 * u + v)) (4 * u ^ 3 * v) r = sh at *
    generalize ha : (((sh : Int) - 2) % r).toNat = a at *
    have exl : shr ((u : Int) ^ 3) ((v : Int) ^ 3) r < r := shr_lt (by omega)
    generalize hx : shr ((u : Int) ^ 3) ((v : Int) ^ 3) r = x at *
    generalize hb : (x * x * x + a * x * x + x) % r = b at *
    have pa : ph K a = ph K sh - 2 := by rw [← ha, ph_toNat r (by omega), ph_sub, ph2]
    have pb : ph K b = ph K x * ph K x * ph K x + ph K a * ph K x * ph K x + ph K x := by
      rw [← hb, ph_modN r (Nat.dvd_refl r), show ((x * x * x + a * x * x + x : Nat) : Int) = (x : Int) * x * x + a * x * x + x from by push_cast; rfl]
      simp only [ph_add, ph_mul]
    split at hs
    · exact absurd rfl hs
    · rename_i c2
      rw [if_neg c2]
      have bl : b < r := by rw [← hb]; exact Nat.mod_lt _ (by omega)
      have hb0 : ph K b ≠ 0 := ph_nz r bl (fun e => c2 (.inl e))
      have ha4 : ph K a * ph K a ≠ 4 := by
        intro e
        refine c2 (.inr ((ph_iff (K := K) r _).mp ?_))
        rw [ph_sub, ph_mul, e, ph4]
        grind
      have hx0 : ph K x ≠ 0 := fun e => hUUU (by rw [← ex, e]; grind)
      have hx0' : x ≠ 0 := fun e => hx0 (by rw [e]; exact ph_zero)
      have b2 : (phP K (suyP N s).1).2 ≠ 0 := by rw [e1]; exact hbot
      have one : phP K (x, 1) = (ph K x, 1) := by
        simp only [phP]
        rw [show ((1 : Nat) : Int) = 1 from rfl, ph_one]
      refine ⟨b2, loop_of G h h0 ha4 hb0 (c := (suyP N s).1) ?_ b2 _ (x, 1) (suyP N s).2 ?_ (suyM h0 s).2 ⟨exl, by show 1 < r; omega⟩ hx0' ?_ ?_⟩
      · rw [e1, pa]
        dsimp only
        clear pa pb one b2 hx0' hx0 ha4 hb0 ex hbot hVVV hUUU h16 hV hU pu pv eU eV e1 e2
        refine lin1 (-4) ea ?_
        clear ea; grind
      · intro p hp
        rw [List.mem_filter] at hp
        have := hp.1
        simp only [List.mem_cons, List.not_mem_nil, or_false] at this
        omega
      · rw [one]
        simp only [OnC]
        rw [pb]
        clear pa pb one b2 hx0' hx0 ha4 hb0 ex ea hbot hVVV hUUU h16 hV hU pu pv eU eV e1 e2
        grind
      · rw [one, e2]
        exact ⟨hVVV, ex.symm⟩
end
end Mine
namespace Mine
open Lean.Grind

theorem ferm14 : ∀ r ∈ primes14, ∀ x < r, x ≠ 0 → x * (x ^ (r - 2) % r) % r = 1 := by decide +kernel
theorem pri14 {r d : Nat} (hr : r ∈ primes14) (h : d ∣ r) : d = 1 ∨ d = r := by
  have : ∀ r ∈ primes14, ∀ d < r + 1, r % d = 0 → d = 1 ∨ d = r := by decide +kernel
  have l := primes14_le hr
  have := Nat.le_of_dvd (by omega) h
  exact ‹∀ r ∈ primes14, ∀ d < r + 1, r % d = 0 → d = 1 ∨ d = r› r hr d (by omega) (Nat.mod_eq_zero_of_dvd h)
theorem fin_val {r : Nat} [NeZero r] (x : Fin r) : ph (Fin r) (x.val : Int) = x := by
  refine Fin.ext ?_
  show (Fin.intCast (x.val : Int)).val = x.val
  simp [Fin.intCast]
theorem good_fin {r : Nat} [NeZero r] (hr : r ∈ primes14) : Good (Fin r) r := by
  have l := primes14_le hr
  refine ⟨l.1, ferm14 r hr, fun x => ⟨x.val, x.isLt, ?_⟩⟩
  exact (fin_val x).symm
theorem coprime14 {p x : Nat} (hp : p ∈ primes14) (h : ¬ p ∣ x) : Nat.gcd x p = 1 := by
  rcases pri14 hp (Nat.gcd_dvd_right x p) with e | e
  · exact e
  · exact absurd (e ▸ Nat.gcd_dvd_left x p) h
theorem divisors {p q d : Nat} (hp : p ∈ primes14) (hq : q ∈ primes14) (h : d ∣ p * q) (h1 : 1 < d) (h2 : d < p * q) : d = p ∨ d = q := by
  have lp := primes14_le hp
  by_cases hd : p ∣ d
  · obtain ⟨e, rfl⟩ := hd
    have he : e ∣ q := Nat.dvd_of_mul_dvd_mul_left (by omega) h
    rcases pri14 hq he with rfl | rfl
    · exact .inl (Nat.mul_one p)
    · exact absurd h2 (Nat.lt_irrefl _)
  · have hc : Nat.Coprime d p := coprime14 hp hd
    have := hc.dvd_of_dvd_mul_left h
    rcases pri14 hq this with e | e
    · omega
    · exact .inr e
theorem proper_some {N g x : Nat} (h : proper N g = some x) : x = g ∧ 1 < g ∧ g < N := by
  unfold proper at h
  split at h
  · rename_i c
    cases h
    exact ⟨rfl, c⟩
  · cases h
theorem curve_part {p q s F S W g : Nat} (hp : p ∈ primes14) (hq : q ∈ primes14) (h : byCurve (p * q) s F S W = some g) : g = p ∨ g = q := by
  unfold byCurve at h
  dsimp only at h
  split at h
  · obtain ⟨rfl, h1, h2⟩ := proper_some h
    exact divisors hp hq (Nat.gcd_dvd_right _ _) h1 h2
  · obtain ⟨e, h1, h2⟩ := proper_some h
    subst e
    refine divisors hp hq ?_ h1 h2
    split
    · exact Nat.gcd_dvd_right _ _
    · exact Nat.gcd_dvd_right _ _
theorem curves_part {p q F S W g s : Nat} (hp : p ∈ primes14) (hq : q ∈ primes14) : ∀ (ss : List Nat), byCurves (p * q) F S W ss = some (g, s) → (g = p ∨ g = q) ∧ s ∈ ss
  | [], h => by cases h
  | t :: ss, h => by
    unfold byCurves at h
    split at h
    · rename_i g' hg
      cases h
      exact ⟨curve_part hp hq hg, .head _⟩
    · obtain ⟨h1, h2⟩ := curves_part hp hq ss h
      exact ⟨h1, .tail _ h2⟩
theorem gcd_pq {p q x : Nat} (hp : p ∈ primes14) (hq : q ∈ primes14) (h1 : p ∣ x) (h2 : ¬ q ∣ x) : Nat.gcd x (p * q) = p := by
  have hc : Nat.Coprime x q := coprime14 hq h2
  rw [Nat.Coprime.gcd_mul_right_cancel_right p hc.symm]
  exact Nat.gcd_eq_right h1
theorem gcd_one {p q x : Nat} (hp : p ∈ primes14) (hq : q ∈ primes14) (h1 : ¬ p ∣ x) (h2 : ¬ q ∣ x) : Nat.gcd x (p * q) = 1 := by
  have hc : Nat.Coprime x q := coprime14 hq h2
  rw [Nat.Coprime.gcd_mul_right_cancel_right p hc.symm]
  exact coprime14 hp h1
theorem ph_dvd (K : Type) [CommRing K] (r : Nat) [IsCharP K r] (x : Nat) : ph K x = 0 ↔ r ∣ x := by
  rw [ph_iff r]
  omega
/-- where the first stage is out for p alone -/
theorem curve_out {p q s F S W : Nat} [NeZero p] [NeZero q] (hp : p ∈ primes14) (hq : q ∈ primes14) {N : Nat} (hN : N = p * q) (hF : 2 ≤ F) (hF' : F < 8) (o1 : stage s F p = .out) (o2 : stage s F q = .other) : byCurve N s F S W = some p := by
  have lp := primes14_le hp
  have lq := primes14_le hq
  have N0 : 0 < N := by rw [hN]; exact Nat.mul_pos (by omega) (by omega)
  have P := stage_of (good_fin hp) (N := N) (s := s) ⟨q, hN⟩ N0 hF hF' (by rw [o1]; intro e; cases e)
  have Q := stage_of (good_fin hq) (N := N) (s := s) ⟨p, by rw [hN, Nat.mul_comm]⟩ N0 hF hF' (by rw [o2]; intro e; cases e)
  obtain ⟨p1, p2, _⟩ := P
  obtain ⟨q1, _, q2⟩ := Q
  have p2 := p2 o1
  have q2 := q2 o2
  simp only [phP] at p1 p2 q1 q2
  rw [ne_eq, ph_dvd] at p1 q1 q2
  rw [ph_dvd] at p2
  unfold byCurve
  dsimp only
  rw [hN] at p1 p2 q1 q2 ⊢
  have g2 := gcd_pq hp hq p2 q2
  rw [gcd_one hp hq p1 q1, if_neg (by omega), if_neg (by rw [g2]; omega), g2]
  unfold proper
  rw [if_pos]
  refine ⟨by omega, ?_⟩
  have := Nat.mul_lt_mul_of_pos_left (show 1 < q by omega) (show 0 < p by omega)
  omega
theorem curves_out {p q s F S W : Nat} {ss : List Nat} [NeZero p] [NeZero q] (hp : p ∈ primes14) (hq : q ∈ primes14) {N : Nat} (hN : N = p * q) (hF : 2 ≤ F) (hF' : F < 8) (o1 : stage s F p = .out) (o2 : stage s F q = .other) : byCurves N F S W (s :: ss) = some (p, s) := by
  rw [byCurves, curve_out hp hq hN hF hF' o1 o2]
theorem neZero14 {p : Nat} (hp : p ∈ primes14) : NeZero p := ⟨by have := primes14_le hp; omega⟩
theorem pureLaw : PureLaw where
  ladder := fun r hr c D s k hs hs' hk _ => by
    have := neZero14 hr
    exact ladder_of (good_fin hr) D hs hs' hk
  right := fun r hr c D s F S W hs hs' _ h1 h2 h3 _ => by
    have := neZero14 hr
    exact right_of (good_fin hr) D hs hs' h1 h2 h3
  part := fun p hp q hq F S W ss g s _ _ _ _ _ _ _ h => curves_part hp hq ss h
  stages := fun p hp q hq F S W s0 ss h1 h2 _ _ _ _ _ => by
    have := neZero14 hp
    have := neZero14 hq
    exact ⟨fun o1 o2 => curves_out hp hq rfl h1 h2 o1 o2, fun o1 o2 => curves_out hq hp (Nat.mul_comm p q) h1 h2 o2 o1⟩
end Mine
namespace Mine
open PySem PySem.W PyProof.Rows
noncomputable abbrev PW : Program := PySem.Challenge.pw_nn0023_01
noncomputable abbrev co (s : Stmt) (n q : Str) : Obj := { cls := .none, data := .func { name := n, qualname := q, params := argsS s, body := .stmts (bodyS s), scope := scopeS s, globals := 0, closure := [], defaults := .none, kwdefaults := .none } }
/-- the heap's objects; three of them grow -/
noncomputable def obsF (P : Params) (x y z : Obj) : List Obj := [
  boot_o_0 P,
  boot_o_1 P,
  x,
  y,
  boot_o_4 P,
  boot_o_5 P,
  boot_o_6 P,
  boot_o_7 P,
  boot_o_8 P,
  boot_o_9 P,
  boot_o_10 P,
  { cls := .type "tuple", data := .seq #[] },
  z,
  { cls := .type "code", data := .fields #[.str "<module>" 182, .str "<module>" 183, .str "/claim/cut.py" 184, .int 1 0, .int 0 0, .int 0 0, .int 0 0, .int 0 0, .ref 11, .bool false, .int 181 0, .ref 12, .none, .none, .none, .none, .int 185 0, .int 1 0, .str "/claim/cut.py" 186] },
  { cls := .type "frame", slots := #[some (.ref 13), some (.ref 3), some (.ref 3), none, some (.str "__main__" 164), none, some (.ref 0)] },
  { cls := .type "tuple", data := .seq #[.type "Exception"] },
  { cls := .type "builtin_function_or_method", data := .fields #[.builtin "type.__prepare__", .type "type"] },
  { cls := .type "dict", data := .dict #[en P "__module__" 196 (.str "gmp.limbs" 187), en P "__qualname__" 198 (.str "GmpError" 197), en P "__firstlineno__" 200 (.int 2 199), en P "__static_attributes__" 201 (.ref 22)] 4 },
  { cls := .type "tuple", data := .seq #[] },
  { cls := .none, data := .fields #[] },
  { cls := .type "code", data := .fields #[.str "GmpError" 191, .str "GmpError" 192, .str "/claim/cut.py" 193, .int 2 0, .int 0 0, .int 0 0, .int 0 0, .int 0 0, .ref 18, .bool false, .int 181 0, .ref 19, .none, .none, .none, .none, .int 194 0, .int 2 0, .str "/claim/cut.py" 195] },
  { cls := .type "frame", slots := #[some (.ref 20), some (.ref 3), some (.ref 17), none, some (.str "gmp.limbs" 187), none, some (.ref 0)] },
  { cls := .type "tuple", data := .seq #[] },
  { cls := .type "dict", data := .dict #[en P "__module__" 196 (.str "gmp.limbs" 187), en P "__firstlineno__" 200 (.int 2 199), en P "__static_attributes__" 201 (.ref 22), en P "__weakref__" 203 (.ref 25), en P "__doc__" 204 (.none)] 3 },
  { cls := .type "type", data := .cls { name := "GmpError", bases := [.type "Exception"], mro := [.ref 24, .type "Exception", .type "BaseException", .type "object"], ns := 23, qualname := "GmpError", subclasses := [.ref 37] }, slots := #[some (.ref 15), none, some (.str "GmpError" 189), some (.str "GmpError" 197), some (.builtin "Exception.__new__"), some (.bool true)] },
  { cls := .type "getset_descriptor", data := .fields #[.str "__weakref__" 202, .ref 24, .builtin "ExceptionGroup.__weakref__", .none] },
  { cls := .type "super", data := .fields #[.ref 24, .ref 24, .ref 24] },
  { cls := .type "builtin_function_or_method", data := .fields #[.builtin "object.__init_subclass__", .ref 24] },
  { cls := .type "tuple", data := .seq #[.ref 24] },
  { cls := .type "builtin_function_or_method", data := .fields #[.builtin "type.__prepare__", .type "type"] },
  { cls := .type "dict", data := .dict #[en P "__module__" 216 (.str "gmp.limbs" 187), en P "__qualname__" 218 (.str "OutOfRange" 217), en P "__firstlineno__" 220 (.int 4 219), en P "__static_attributes__" 221 (.ref 35)] 4 },
  { cls := .type "tuple", data := .seq #[] },
  { cls := .none, data := .fields #[] },
  { cls := .type "code", data := .fields #[.str "OutOfRange" 211, .str "OutOfRange" 212, .str "/claim/cut.py" 213, .int 4 0, .int 0 0, .int 0 0, .int 0 0, .int 0 0, .ref 31, .bool false, .int 181 0, .ref 32, .none, .none, .none, .none, .int 214 0, .int 4 0, .str "/claim/cut.py" 215] },
  { cls := .type "frame", slots := #[some (.ref 33), some (.ref 3), some (.ref 30), none, some (.str "gmp.limbs" 187), none, some (.ref 0)] },
  { cls := .type "tuple", data := .seq #[] },
  { cls := .type "dict", data := .dict #[en P "__module__" 216 (.str "gmp.limbs" 187), en P "__firstlineno__" 220 (.int 4 219), en P "__static_attributes__" 221 (.ref 35), en P "__doc__" 222 (.none)] 2 },
  { cls := .type "type", data := .cls { name := "OutOfRange", bases := [.ref 24], mro := [.ref 37, .ref 24, .type "Exception", .type "BaseException", .type "object"], ns := 36, qualname := "OutOfRange" }, slots := #[some (.ref 28), none, some (.str "OutOfRange" 209), some (.str "OutOfRange" 217), some (.builtin "Exception.__new__"), some (.bool true)] },
  { cls := .type "super", data := .fields #[.ref 37, .ref 37, .ref 37] },
  { cls := .type "builtin_function_or_method", data := .fields #[.builtin "object.__init_subclass__", .ref 37] },
  { cls := .type "tuple", data := .seq #[] },
  { cls := .none, data := .fields #[] },
  { cls := .type "tuple", data := .seq #[.str "a" 228, .str "end" 229] },
  { cls := .type "tuple", data := .seq #[] },
  co (stm 3) "normal" "normal",
  { cls := .type "code", data := .fields #[.str "normal" 225, .str "normal" 226, .str "/claim/cut.py" 227, .int 6 0, .int 1 0, .int 0 0, .int 0 0, .int 3 0, .ref 40, .bool true, .int 181 0, .ref 41, .none, .ref 42, .ref 43, .ref 44, .int 230 0, .int 6 0, .str "/claim/cut.py" 231] },
  fo (stm 3) "normal" "normal" "gmp.limbs" 187 45,
  { cls := .type "tuple", data := .seq #[] },
  { cls := .none, data := .fields #[] },
  { cls := .type "tuple", data := .seq #[.str "number" 236, .str "w" 237, .str "found" 238, .str "mask" 239] },
  { cls := .type "tuple", data := .seq #[] },
  co (stm 4) "nat_of" "nat_of",
  { cls := .type "code", data := .fields #[.str "nat_of" 233, .str "nat_of" 234, .str "/claim/cut.py" 235, .int 11 0, .int 2 0, .int 0 0, .int 0 0, .int 3 0, .ref 47, .bool true, .int 181 0, .ref 48, .none, .ref 49, .ref 50, .ref 51, .int 240 0, .int 11 0, .str "/claim/cut.py" 241] },
  fo (stm 4) "nat_of" "nat_of" "gmp.limbs" 187 52,
  { cls := .type "tuple", data := .seq #[] },
  { cls := .none, data := .fields #[] },
  { cls := .type "tuple", data := .seq #[.str "a" 246, .str "b" 247, .str "at" 248] },
  { cls := .type "tuple", data := .seq #[] },
  co (stm 5) "compare" "compare",
  { cls := .type "code", data := .fields #[.str "compare" 243, .str "compare" 244, .str "/claim/cut.py" 245, .int 19 0, .int 2 0, .int 0 0, .int 0 0, .int 3 0, .ref 54, .bool true, .int 181 0, .ref 55, .none, .ref 56, .ref 57, .ref 58, .int 249 0, .int 19 0, .str "/claim/cut.py" 250] },
  fo (stm 5) "compare" "compare" "gmp.limbs" 187 59,
  { cls := .type "tuple", data := .seq #[] },
  { cls := .none, data := .fields #[] },
  { cls := .type "tuple", data := .seq #[.str "a" 255, .str "b" 256, .str "w" 257, .str "found" 258, .str "carry" 259, .str "mask" 260, .str "at" 261] },
  { cls := .type "tuple", data := .seq #[] },
  co (stm 6) "add" "add",
  { cls := .type "code", data := .fields #[.str "add" 252, .str "add" 253, .str "/claim/cut.py" 254, .int 26 0, .int 3 0, .int 0 0, .int 0 0, .int 3 0, .ref 61, .bool true, .int 181 0, .ref 62, .none, .ref 63, .ref 64, .ref 65, .int 262 0, .int 26 0, .str "/claim/cut.py" 263] },
  fo (stm 6) "add" "add" "gmp.limbs" 187 66,
  { cls := .type "tuple", data := .seq #[] },
  { cls := .none, data := .fields #[] },
  { cls := .type "tuple", data := .seq #[.str "a" 268, .str "b" 269, .str "w" 270, .str "found" 271, .str "borrow" 272, .str "base" 273, .str "at" 274, .str "limb" 275] },
  { cls := .type "tuple", data := .seq #[] },
  co (stm 7) "sub" "sub",
  { cls := .type "code", data := .fields #[.str "sub" 265, .str "sub" 266, .str "/claim/cut.py" 267, .int 41 0, .int 3 0, .int 0 0, .int 0 0, .int 3 0, .ref 68, .bool true, .int 181 0, .ref 69, .none, .ref 70, .ref 71, .ref 72, .int 276 0, .int 41 0, .str "/claim/cut.py" 277] },
  fo (stm 7) "sub" "sub" "gmp.limbs" 187 73,
  { cls := .type "tuple", data := .seq #[] },
  { cls := .type "builtin_function_or_method", data := .fields #[.builtin "type.__prepare__", .type "type"] },
  { cls := .type "dict", data := .dict #[en P "__module__" 288 (.str "gmp.curves" 279), en P "__qualname__" 290 (.str "Rests" 289), en P "__firstlineno__" 292 (.int 51 291), en P "__init__" 303 (.ref 88), en P "plain" 312 (.ref 95), en P "plus" 322 (.ref 102), en P "minus" 331 (.ref 109), en P "product" 342 (.ref 116), en P "squared" 350 (.ref 123), en P "common_with" 360 (.ref 130), en P "__static_attributes__" 365 (.ref 131)] 11 },
  { cls := .type "tuple", data := .seq #[] },
  { cls := .none, data := .fields #[.int 53 0, .int 4 0, .ref 87, .int 59 0, .int 4 0, .ref 94, .int 63 0, .int 4 0, .ref 101, .int 67 0, .int 4 0, .ref 108, .int 72 0, .int 4 0, .ref 115, .int 76 0, .int 4 0, .ref 122, .int 79 0, .int 4 0, .ref 129] },
  { cls := .type "code", data := .fields #[.str "Rests" 283, .str "Rests" 284, .str "/claim/cut.py" 285, .int 51 0, .int 0 0, .int 0 0, .int 0 0, .int 0 0, .ref 78, .bool false, .int 181 0, .ref 79, .none, .none, .none, .none, .int 286 0, .int 51 0, .str "/claim/cut.py" 287] },
  { cls := .type "frame", slots := #[some (.ref 80), some (.ref 3), some (.ref 77), none, some (.str "gmp.curves" 279), none, some (.ref 0)] },
  { cls := .type "tuple", data := .seq #[] },
  { cls := .none, data := .fields #[] },
  { cls := .type "tuple", data := .seq #[.str "self" 296, .str "n" 297, .str "w" 298, .str "times" 299, .str "quot_rem" 300] },
  { cls := .type "tuple", data := .seq #[] },
  co (mth 9 0) "__init__" "Rests.__init__",
  { cls := .type "code", data := .fields #[.str "__init__" 293, .str "Rests.__init__" 294, .str "/claim/cut.py" 295, .int 53 0, .int 5 0, .int 0 0, .int 0 0, .int 3 0, .ref 82, .bool true, .int 181 0, .ref 83, .none, .ref 84, .ref 85, .ref 86, .int 301 0, .int 53 0, .str "/claim/cut.py" 302] },
  fo (mth 9 0) "__init__" "Rests.__init__" "gmp.curves" 279 87,
  { cls := .type "tuple", data := .seq #[] },
  { cls := .none, data := .fields #[] },
  { cls := .type "tuple", data := .seq #[.str "self" 307, .str "number" 308, .str "parts" 309] },
  { cls := .type "tuple", data := .seq #[] },
  co (mth 9 1) "plain" "Rests.plain",
  { cls := .type "code", data := .fields #[.str "plain" 304, .str "Rests.plain" 305, .str "/claim/cut.py" 306, .int 59 0, .int 2 0, .int 0 0, .int 0 0, .int 3 0, .ref 89, .bool true, .int 181 0, .ref 90, .none, .ref 91, .ref 92, .ref 93, .int 310 0, .int 59 0, .str "/claim/cut.py" 311] },
  fo (mth 9 1) "plain" "Rests.plain" "gmp.curves" 279 94,
  { cls := .type "tuple", data := .seq #[] },
  { cls := .none, data := .fields #[] },
  { cls := .type "tuple", data := .seq #[.str "self" 316, .str "a" 317, .str "b" 318, .str "found" 319] },
  { cls := .type "tuple", data := .seq #[] },
  co (mth 9 2) "plus" "Rests.plus",
  { cls := .type "code", data := .fields #[.str "plus" 313, .str "Rests.plus" 314, .str "/claim/cut.py" 315, .int 63 0, .int 3 0, .int 0 0, .int 0 0, .int 3 0, .ref 96, .bool true, .int 181 0, .ref 97, .none, .ref 98, .ref 99, .ref 100, .int 320 0, .int 63 0, .str "/claim/cut.py" 321] },
  fo (mth 9 2) "plus" "Rests.plus" "gmp.curves" 279 101,
  { cls := .type "tuple", data := .seq #[] },
  { cls := .none, data := .fields #[] },
  { cls := .type "tuple", data := .seq #[.str "self" 326, .str "a" 327, .str "b" 328] },
  { cls := .type "tuple", data := .seq #[] },
  co (mth 9 3) "minus" "Rests.minus",
  { cls := .type "code", data := .fields #[.str "minus" 323, .str "Rests.minus" 324, .str "/claim/cut.py" 325, .int 67 0, .int 3 0, .int 0 0, .int 0 0, .int 3 0, .ref 103, .bool true, .int 181 0, .ref 104, .none, .ref 105, .ref 106, .ref 107, .int 329 0, .int 67 0, .str "/claim/cut.py" 330] },
  fo (mth 9 3) "minus" "Rests.minus" "gmp.curves" 279 108,
  { cls := .type "tuple", data := .seq #[] },
  { cls := .none, data := .fields #[] },
  { cls := .type "tuple", data := .seq #[.str "self" 335, .str "a" 336, .str "b" 337, .str "product" 338, .str "parts" 339] },
  { cls := .type "tuple", data := .seq #[] },
  co (mth 9 4) "product" "Rests.product",
  { cls := .type "code", data := .fields #[.str "product" 332, .str "Rests.product" 333, .str "/claim/cut.py" 334, .int 72 0, .int 3 0, .int 0 0, .int 0 0, .int 3 0, .ref 110, .bool true, .int 181 0, .ref 111, .none, .ref 112, .ref 113, .ref 114, .int 340 0, .int 72 0, .str "/claim/cut.py" 341] },
  fo (mth 9 4) "product" "Rests.product" "gmp.curves" 279 115,
  { cls := .type "tuple", data := .seq #[] },
  { cls := .none, data := .fields #[] },
  { cls := .type "tuple", data := .seq #[.str "self" 346, .str "a" 347] },
  { cls := .type "tuple", data := .seq #[] },
  co (mth 9 5) "squared" "Rests.squared",
  { cls := .type "code", data := .fields #[.str "squared" 343, .str "Rests.squared" 344, .str "/claim/cut.py" 345, .int 76 0, .int 2 0, .int 0 0, .int 0 0, .int 3 0, .ref 117, .bool true, .int 181 0, .ref 118, .none, .ref 119, .ref 120, .ref 121, .int 348 0, .int 76 0, .str "/claim/cut.py" 349] },
  fo (mth 9 5) "squared" "Rests.squared" "gmp.curves" 279 122,
  { cls := .type "tuple", data := .seq #[] },
  { cls := .none, data := .fields #[] },
  { cls := .type "tuple", data := .seq #[.str "self" 354, .str "a" 355, .str "parts" 356, .str "b" 357] },
  { cls := .type "tuple", data := .seq #[] },
  co (mth 9 6) "common_with" "Rests.common_with",
  { cls := .type "code", data := .fields #[.str "common_with" 351, .str "Rests.common_with" 352, .str "/claim/cut.py" 353, .int 79 0, .int 2 0, .int 0 0, .int 0 0, .int 3 0, .ref 124, .bool true, .int 181 0, .ref 125, .none, .ref 126, .ref 127, .ref 128, .int 358 0, .int 79 0, .str "/claim/cut.py" 359] },
  fo (mth 9 6) "common_with" "Rests.common_with" "gmp.curves" 279 129,
  { cls := .type "tuple", data := .seq #[.str "given_parts" 361, .str "given_product" 362, .str "n" 363, .str "w" 364] },
  { cls := .type "dict", data := .dict #[en P "__module__" 288 (.str "gmp.curves" 279), en P "__firstlineno__" 292 (.int 51 291), en P "__init__" 303 (.ref 88), en P "plain" 312 (.ref 95), en P "plus" 322 (.ref 102), en P "minus" 331 (.ref 109), en P "product" 342 (.ref 116), en P "squared" 350 (.ref 123), en P "common_with" 360 (.ref 130), en P "__static_attributes__" 365 (.ref 131), en P "__dict__" 367 (.ref 134), en P "__weakref__" 369 (.ref 135), en P "__doc__" 370 (.none)] 4 },
  { cls := .type "type", data := .cls { name := "Rests", bases := [.type "object"], mro := [.ref 133, .type "object"], ns := 132, qualname := "Rests" }, slots := #[none, none, some (.str "Rests" 281), some (.str "Rests" 289), some (.builtin "object.__new__"), some (.bool true)] },
  { cls := .type "getset_descriptor", data := .fields #[.str "__dict__" 366, .ref 133, .builtin "function.__dict__", .builtin "function.__dict__#set"] },
  { cls := .type "getset_descriptor", data := .fields #[.str "__weakref__" 368, .ref 133, .builtin "ExceptionGroup.__weakref__", .none] },
  { cls := .type "super", data := .fields #[.ref 133, .ref 133, .ref 133] },
  { cls := .type "builtin_function_or_method", data := .fields #[.builtin "object.__init_subclass__", .ref 133] },
  { cls := .type "tuple", data := .seq #[] },
  { cls := .none, data := .fields #[] },
  { cls := .type "tuple", data := .seq #[.str "point" 376, .str "curve" 377, .str "rests" 378, .str "up" 379, .str "down" 380, .str "gap" 381, .str "low" 382] },
  { cls := .type "tuple", data := .seq #[] },
  co (stm 10) "doubled" "doubled",
  { cls := .type "code", data := .fields #[.str "doubled" 373, .str "doubled" 374, .str "/claim/cut.py" 375, .int 84 0, .int 3 0, .int 0 0, .int 0 0, .int 3 0, .ref 138, .bool true, .int 181 0, .ref 139, .none, .ref 140, .ref 141, .ref 142, .int 383 0, .int 84 0, .str "/claim/cut.py" 384] },
  fo (stm 10) "doubled" "doubled" "gmp.curves" 279 143,
  { cls := .type "tuple", data := .seq #[] },
  { cls := .none, data := .fields #[] },
  { cls := .type "tuple", data := .seq #[.str "one" 389, .str "other" 390, .str "apart" 391, .str "rests" 392, .str "left" 393, .str "right" 394] },
  { cls := .type "tuple", data := .seq #[] },
  co (stm 11) "joined_points" "joined_points",
  { cls := .type "code", data := .fields #[.str "joined_points" 386, .str "joined_points" 387, .str "/claim/cut.py" 388, .int 90 0, .int 4 0, .int 0 0, .int 0 0, .int 3 0, .ref 145, .bool true, .int 181 0, .ref 146, .none, .ref 147, .ref 148, .ref 149, .int 395 0, .int 90 0, .str "/claim/cut.py" 396] },
  fo (stm 11) "joined_points" "joined_points" "gmp.curves" 279 150,
  { cls := .type "tuple", data := .seq #[] },
  { cls := .none, data := .fields #[] },
  { cls := .type "tuple", data := .seq #[.str "k" 401, .str "point" 402, .str "curve" 403, .str "rests" 404, .str "low" 405, .str "high" 406, .str "place" 407, .str "middle" 408] },
  { cls := .type "tuple", data := .seq #[] },
  co (stm 12) "times_point" "times_point",
  { cls := .type "code", data := .fields #[.str "times_point" 398, .str "times_point" 399, .str "/claim/cut.py" 400, .int 94 0, .int 4 0, .int 0 0, .int 0 0, .int 3 0, .ref 152, .bool true, .int 181 0, .ref 153, .none, .ref 154, .ref 155, .ref 156, .int 409 0, .int 94 0, .str "/claim/cut.py" 410] },
  fo (stm 12) "times_point" "times_point" "gmp.curves" 279 157,
  { cls := .type "tuple", data := .seq #[] },
  { cls := .none, data := .fields #[] },
  { cls := .type "tuple", data := .seq #[.str "sigma" 415, .str "rests" 416, .str "u" 417, .str "v" 418, .str "cube_u" 419, .str "gap" 420, .str "top" 421, .str "bottom" 422] },
  { cls := .type "tuple", data := .seq #[] },
  co (stm 13) "suyama" "suyama",
  { cls := .type "code", data := .fields #[.str "suyama" 412, .str "suyama" 413, .str "/claim/cut.py" 414, .int 103 0, .int 2 0, .int 0 0, .int 0 0, .int 3 0, .ref 159, .bool true, .int 181 0, .ref 160, .none, .ref 161, .ref 162, .ref 163, .int 423 0, .int 103 0, .str "/claim/cut.py" 424] },
  fo (stm 13) "suyama" "suyama" "gmp.curves" 279 164,
  { cls := .type "tuple", data := .seq #[] },
  { cls := .none, data := .fields #[] },
  co (stm 14) "primes_up_to" "primes_up_to",
  { cls := .type "code", data := .fields #[.str "primes_up_to" 426, .str "primes_up_to" 427, .str "/claim/cut.py" 428, .int 110 0, .int 1 0, .int 0 0, .int 0 0, .int 3 0, .ref 166, .bool true, .int 181 0, .ref 167, .none, .none, .none, .ref 168, .int 429 0, .int 110 0, .str "/claim/cut.py" 430] },
  fo (stm 14) "primes_up_to" "primes_up_to" "gmp.curves" 279 169,
  { cls := .type "tuple", data := .seq #[] },
  { cls := .none, data := .fields #[] },
  { cls := .type "tuple", data := .seq #[.str "point" 435, .str "curve" 436, .str "first" 437, .str "rests" 438, .str "p" 439, .str "most" 440] },
  { cls := .type "tuple", data := .seq #[] },
  co (stm 15) "first_stage" "first_stage",
  { cls := .type "code", data := .fields #[.str "first_stage" 432, .str "first_stage" 433, .str "/claim/cut.py" 434, .int 116 0, .int 4 0, .int 0 0, .int 0 0, .int 3 0, .ref 171, .bool true, .int 181 0, .ref 172, .none, .ref 173, .ref 174, .ref 175, .int 441 0, .int 116 0, .str "/claim/cut.py" 442] },
  fo (stm 15) "first_stage" "first_stage" "gmp.curves" 279 176,
  { cls := .type "tuple", data := .seq #[] },
  { cls := .none, data := .fields #[] },
  { cls := .type "tuple", data := .seq #[.str "one" 447, .str "other" 448, .str "rests" 449] },
  { cls := .type "tuple", data := .seq #[] },
  co (stm 16) "crossing" "crossing",
  { cls := .type "code", data := .fields #[.str "crossing" 444, .str "crossing" 445, .str "/claim/cut.py" 446, .int 123 0, .int 3 0, .int 0 0, .int 0 0, .int 3 0, .ref 178, .bool true, .int 181 0, .ref 179, .none, .ref 180, .ref 181, .ref 182, .int 450 0, .int 123 0, .str "/claim/cut.py" 451] },
  fo (stm 16) "crossing" "crossing" "gmp.curves" 279 183,
  { cls := .type "tuple", data := .seq #[] },
  { cls := .none, data := .fields #[] },
  co (stm 17) "second_stage_product" "second_stage_product",
  { cls := .type "code", data := .fields #[.str "second_stage_product" 453, .str "second_stage_product" 454, .str "/claim/cut.py" 455, .int 125 0, .int 6 0, .int 0 0, .int 0 0, .int 3 0, .ref 185, .bool true, .int 181 0, .ref 186, .none, .none, .none, .ref 187, .int 456 0, .int 125 0, .str "/claim/cut.py" 457] },
  fo (stm 17) "second_stage_product" "second_stage_product" "gmp.curves" 279 188,
  { cls := .type "tuple", data := .seq #[] },
  { cls := .none, data := .fields #[] },
  { cls := .type "tuple", data := .seq #[.str "g" 462, .str "n" 463] },
  { cls := .type "tuple", data := .seq #[] },
  co (stm 18) "is_proper_part" "is_proper_part",
  { cls := .type "code", data := .fields #[.str "is_proper_part" 459, .str "is_proper_part" 460, .str "/claim/cut.py" 461, .int 142 0, .int 2 0, .int 0 0, .int 0 0, .int 3 0, .ref 190, .bool true, .int 181 0, .ref 191, .none, .ref 192, .ref 193, .ref 194, .int 464 0, .int 142 0, .str "/claim/cut.py" 465] },
  fo (stm 18) "is_proper_part" "is_proper_part" "gmp.curves" 279 195,
  { cls := .type "tuple", data := .seq #[] },
  { cls := .none, data := .fields #[] },
  { cls := .type "tuple", data := .seq #[.str "sigma" 470, .str "first" 471, .str "second" 472, .str "width" 473, .str "rests" 474, .str "curve" 475, .str "point" 476, .str "found" 477] },
  { cls := .type "tuple", data := .seq #[] },
  co (stm 19) "by_curve" "by_curve",
  { cls := .type "code", data := .fields #[.str "by_curve" 467, .str "by_curve" 468, .str "/claim/cut.py" 469, .int 144 0, .int 5 0, .int 0 0, .int 0 0, .int 3 0, .ref 197, .bool true, .int 181 0, .ref 198, .none, .ref 199, .ref 200, .ref 201, .int 478 0, .int 144 0, .str "/claim/cut.py" 479] },
  fo (stm 19) "by_curve" "by_curve" "gmp.curves" 279 202,
  { cls := .type "tuple", data := .seq #[] },
  { cls := .none, data := .fields #[] },
  { cls := .type "tuple", data := .seq #[.str "n" 484, .str "sigmas" 485, .str "first" 486, .str "second" 487, .str "width" 488, .str "w" 489, .str "times" 490, .str "quot_rem" 491, .str "rests" 492, .str "sigma" 493, .str "found" 494] },
  { cls := .type "tuple", data := .seq #[] },
  co (stm 20) "by_curves" "by_curves",
  { cls := .type "code", data := .fields #[.str "by_curves" 481, .str "by_curves" 482, .str "/claim/cut.py" 483, .int 154 0, .int 8 0, .int 0 0, .int 0 0, .int 3 0, .ref 204, .bool true, .int 181 0, .ref 205, .none, .ref 206, .ref 207, .ref 208, .int 495 0, .int 154 0, .str "/claim/cut.py" 496] },
  fo (stm 20) "by_curves" "by_curves" "gmp.curves" 279 209,
  { cls := .type "tuple", data := .seq #[] },
  { cls := .none, data := .fields #[] },
  { cls := .type "tuple", data := .seq #[.str "box" 503, .str "limit" 504] },
  { cls := .type "tuple", data := .seq #[] },
  co (stm 22) "_law_take" "_law_take",
  { cls := .type "code", data := .fields #[.str "_law_take" 500, .str "_law_take" 501, .str "/claim/cut.py" 502, .int 162 0, .int 2 0, .int 0 0, .int 0 0, .int 3 0, .ref 211, .bool true, .int 181 0, .ref 212, .none, .ref 213, .ref 214, .ref 215, .int 505 0, .int 162 0, .str "/claim/cut.py" 506] },
  fo (stm 22) "_law_take" "_law_take" "law_nn0023_01" 498 216,
  { cls := .type "tuple", data := .seq #[] },
  { cls := .none, data := .fields #[] },
  { cls := .type "tuple", data := .seq #[.str "number" 511, .str "w" 512, .str "found" 513] },
  { cls := .type "tuple", data := .seq #[] },
  co (stm 23) "_law_row" "_law_row",
  { cls := .type "code", data := .fields #[.str "_law_row" 508, .str "_law_row" 509, .str "/claim/cut.py" 510, .int 167 0, .int 2 0, .int 0 0, .int 0 0, .int 3 0, .ref 218, .bool true, .int 181 0, .ref 219, .none, .ref 220, .ref 221, .ref 222, .int 514 0, .int 167 0, .str "/claim/cut.py" 515] },
  fo (stm 23) "_law_row" "_law_row" "law_nn0023_01" 498 223,
  { cls := .type "tuple", data := .seq #[] },
  { cls := .none, data := .fields #[] },
  { cls := .type "tuple", data := .seq #[.str "row" 520, .str "w" 521, .str "found" 522, .str "limb" 523] },
  { cls := .type "tuple", data := .seq #[] },
  co (stm 24) "_law_of" "_law_of",
  { cls := .type "code", data := .fields #[.str "_law_of" 517, .str "_law_of" 518, .str "/claim/cut.py" 519, .int 173 0, .int 2 0, .int 0 0, .int 0 0, .int 3 0, .ref 225, .bool true, .int 181 0, .ref 226, .none, .ref 227, .ref 228, .ref 229, .int 524 0, .int 173 0, .str "/claim/cut.py" 525] },
  fo (stm 24) "_law_of" "_law_of" "law_nn0023_01" 498 230,
  { cls := .type "tuple", data := .seq #[] },
  { cls := .none, data := .fields #[] },
  { cls := .type "tuple", data := .seq #[] },
  { cls := .type "tuple", data := .seq #[] },
  co (stm 25) "_law_primes" "_law_primes",
  { cls := .type "code", data := .fields #[.str "_law_primes" 527, .str "_law_primes" 528, .str "/claim/cut.py" 529, .int 178 0, .int 0 0, .int 0 0, .int 0 0, .int 3 0, .ref 232, .bool true, .int 181 0, .ref 233, .none, .ref 234, .ref 235, .ref 236, .int 530 0, .int 178 0, .str "/claim/cut.py" 531] },
  fo (stm 25) "_law_primes" "_law_primes" "law_nn0023_01" 498 237,
  { cls := .type "tuple", data := .seq #[] },
  { cls := .none, data := .fields #[] },
  { cls := .type "tuple", data := .seq #[.str "a" 536, .str "b" 537, .str "w" 538] },
  { cls := .type "tuple", data := .seq #[] },
  co (stm 26) "_law_times" "_law_times",
  { cls := .type "code", data := .fields #[.str "_law_times" 533, .str "_law_times" 534, .str "/claim/cut.py" 535, .int 180 0, .int 3 0, .int 0 0, .int 0 0, .int 3 0, .ref 239, .bool true, .int 181 0, .ref 240, .none, .ref 241, .ref 242, .ref 243, .int 539 0, .int 180 0, .str "/claim/cut.py" 540] },
  fo (stm 26) "_law_times" "_law_times" "law_nn0023_01" 498 244,
  { cls := .type "tuple", data := .seq #[] },
  { cls := .none, data := .fields #[] },
  { cls := .type "tuple", data := .seq #[.str "a" 545, .str "b" 546, .str "w" 547, .str "one" 548, .str "other" 549] },
  { cls := .type "tuple", data := .seq #[] },
  co (stm 27) "_law_parts" "_law_parts",
  { cls := .type "code", data := .fields #[.str "_law_parts" 542, .str "_law_parts" 543, .str "/claim/cut.py" 544, .int 182 0, .int 3 0, .int 0 0, .int 0 0, .int 3 0, .ref 246, .bool true, .int 181 0, .ref 247, .none, .ref 248, .ref 249, .ref 250, .int 550 0, .int 182 0, .str "/claim/cut.py" 551] },
  fo (stm 27) "_law_parts" "_law_parts" "law_nn0023_01" 498 251,
  { cls := .type "tuple", data := .seq #[] },
  { cls := .none, data := .fields #[] },
  { cls := .type "tuple", data := .seq #[.str "top" 556, .str "bottom" 557, .str "r" 558] },
  { cls := .type "tuple", data := .seq #[] },
  co (stm 28) "_law_share" "_law_share",
  { cls := .type "code", data := .fields #[.str "_law_share" 553, .str "_law_share" 554, .str "/claim/cut.py" 555, .int 185 0, .int 3 0, .int 0 0, .int 0 0, .int 3 0, .ref 253, .bool true, .int 181 0, .ref 254, .none, .ref 255, .ref 256, .ref 257, .int 559 0, .int 185 0, .str "/claim/cut.py" 560] },
  fo (stm 28) "_law_share" "_law_share" "law_nn0023_01" 498 258,
  { cls := .type "tuple", data := .seq #[] },
  { cls := .none, data := .fields #[] },
  { cls := .type "tuple", data := .seq #[.str "one" 565, .str "other" 566, .str "curve" 567, .str "a" 568, .str "b" 569, .str "r" 570, .str "rise" 571, .str "x" 572] },
  { cls := .type "tuple", data := .seq #[] },
  co (stm 29) "_law_sum" "_law_sum",
  { cls := .type "code", data := .fields #[.str "_law_sum" 562, .str "_law_sum" 563, .str "/claim/cut.py" 564, .int 187 0, .int 3 0, .int 0 0, .int 0 0, .int 3 0, .ref 260, .bool true, .int 181 0, .ref 261, .none, .ref 262, .ref 263, .ref 264, .int 573 0, .int 187 0, .str "/claim/cut.py" 574] },
  fo (stm 29) "_law_sum" "_law_sum" "law_nn0023_01" 498 265,
  { cls := .type "tuple", data := .seq #[] },
  { cls := .none, data := .fields #[] },
  { cls := .type "tuple", data := .seq #[.str "k" 579, .str "point" 580, .str "curve" 581, .str "found" 582, .str "turn" 583] },
  { cls := .type "tuple", data := .seq #[] },
  co (stm 30) "_law_multiple" "_law_multiple",
  { cls := .type "code", data := .fields #[.str "_law_multiple" 576, .str "_law_multiple" 577, .str "/claim/cut.py" 578, .int 199 0, .int 3 0, .int 0 0, .int 0 0, .int 3 0, .ref 267, .bool true, .int 181 0, .ref 268, .none, .ref 269, .ref 270, .ref 271, .int 584 0, .int 199 0, .str "/claim/cut.py" 585] },
  fo (stm 30) "_law_multiple" "_law_multiple" "law_nn0023_01" 498 272,
  { cls := .type "tuple", data := .seq #[] },
  { cls := .none, data := .fields #[] },
  { cls := .type "tuple", data := .seq #[.str "box" 590, .str "r" 591, .str "a" 592, .str "x" 593, .str "y" 594, .str "b" 595] },
  { cls := .type "tuple", data := .seq #[] },
  co (stm 31) "_law_curve" "_law_curve",
  { cls := .type "code", data := .fields #[.str "_law_curve" 587, .str "_law_curve" 588, .str "/claim/cut.py" 589, .int 204 0, .int 2 0, .int 0 0, .int 0 0, .int 3 0, .ref 274, .bool true, .int 181 0, .ref 275, .none, .ref 276, .ref 277, .ref 278, .int 596 0, .int 204 0, .str "/claim/cut.py" 597] },
  fo (stm 31) "_law_curve" "_law_curve" "law_nn0023_01" 498 279,
  { cls := .type "tuple", data := .seq #[] },
  { cls := .none, data := .fields #[] },
  { cls := .type "tuple", data := .seq #[.str "told" 602, .str "point" 603, .str "w" 604, .str "r" 605, .str "above" 606, .str "below" 607] },
  { cls := .type "tuple", data := .seq #[] },
  co (stm 32) "_law_same" "_law_same",
  { cls := .type "code", data := .fields #[.str "_law_same" 599, .str "_law_same" 600, .str "/claim/cut.py" 601, .int 208 0, .int 4 0, .int 0 0, .int 0 0, .int 3 0, .ref 281, .bool true, .int 181 0, .ref 282, .none, .ref 283, .ref 284, .ref 285, .int 608 0, .int 208 0, .str "/claim/cut.py" 609] },
  fo (stm 32) "_law_same" "_law_same" "law_nn0023_01" 498 286,
  { cls := .type "tuple", data := .seq #[] },
  { cls := .none, data := .fields #[] },
  co (stm 33) "_law_second_right" "_law_second_right",
  { cls := .type "code", data := .fields #[.str "_law_second_right" 611, .str "_law_second_right" 612, .str "/claim/cut.py" 613, .int 213 0, .int 6 0, .int 0 0, .int 0 0, .int 3 0, .ref 288, .bool true, .int 181 0, .ref 289, .none, .none, .none, .ref 290, .int 614 0, .int 213 0, .str "/claim/cut.py" 615] },
  fo (stm 33) "_law_second_right" "_law_second_right" "law_nn0023_01" 498 291,
  { cls := .type "tuple", data := .seq #[] },
  { cls := .none, data := .fields #[] },
  co (stm 34) "_law_stage" "_law_stage",
  { cls := .type "code", data := .fields #[.str "_law_stage" 617, .str "_law_stage" 618, .str "/claim/cut.py" 619, .int 227 0, .int 3 0, .int 0 0, .int 0 0, .int 3 0, .ref 293, .bool true, .int 181 0, .ref 294, .none, .none, .none, .ref 295, .int 620 0, .int 227 0, .str "/claim/cut.py" 621] },
  fo (stm 34) "_law_stage" "_law_stage" "law_nn0023_01" 498 296,
  { cls := .type "tuple", data := .seq #[] },
  { cls := .none, data := .fields #[] },
  co (stm 35) "law" "law",
  { cls := .type "code", data := .fields #[.str "law" 623, .str "law" 624, .str "/claim/cut.py" 625, .int 247 0, .int 1 0, .int 0 0, .int 0 0, .int 3 0, .ref 298, .bool true, .int 181 0, .ref 299, .none, .none, .none, .ref 300, .int 626 0, .int 247 0, .str "/claim/cut.py" 627] },
  fo (stm 35) "law" "law" "law_nn0023_01" 498 301]
noncomputable def mainD (P : Params) (v : Value) (m : Nat) : Obj := { cls := .type "dict", data := .dict (List.toArray (List.take m [en P "__name__" 165 v, en P "__doc__" 166 (.none), en P "__package__" 167 (.none), en P "__loader__" 168 (.builtin "__main__.__loader__#opaque"), en P "__spec__" 169 (.none), en P "__annotations__" 170 (.ref 6), en P "__builtins__" 171 (.ref 4), en P "__file__" 173 (.str "/claim/cut.py" 172), en P "__cached__" 174 (.none), en P "GmpError" 208 (.ref 24), en P "OutOfRange" 224 (.ref 37), en P "normal" 232 (.ref 46), en P "nat_of" 242 (.ref 53), en P "compare" 251 (.ref 60), en P "add" 264 (.ref 67), en P "sub" 278 (.ref 74), en P "Rests" 372 (.ref 133), en P "doubled" 385 (.ref 144), en P "joined_points" 397 (.ref 151), en P "times_point" 411 (.ref 158), en P "suyama" 425 (.ref 165), en P "primes_up_to" 431 (.ref 170), en P "first_stage" 443 (.ref 177), en P "crossing" 452 (.ref 184), en P "second_stage_product" 458 (.ref 189), en P "is_proper_part" 466 (.ref 196), en P "by_curve" 480 (.ref 203), en P "by_curves" 497 (.ref 210), en P "_law_take" 507 (.ref 217), en P "_law_row" 516 (.ref 224), en P "_law_of" 526 (.ref 231), en P "_law_primes" 532 (.ref 238), en P "_law_times" 541 (.ref 245), en P "_law_parts" 552 (.ref 252), en P "_law_share" 561 (.ref 259), en P "_law_sum" 575 (.ref 266), en P "_law_multiple" 586 (.ref 273), en P "_law_curve" 598 (.ref 280), en P "_law_same" 610 (.ref 287), en P "_law_second_right" 616 (.ref 292), en P "_law_stage" 622 (.ref 297), en P "law" 628 (.ref 302)])) m }
noncomputable def fields12 (k : Nat) : Obj := { cls := .none, data := .fields (List.toArray (List.take k [.int 2 0, .int 0 0, .ref 20, .int 4 0, .int 0 0, .ref 33, .int 6 0, .int 0 0, .ref 45, .int 11 0, .int 0 0, .ref 52, .int 19 0, .int 0 0, .ref 59, .int 26 0, .int 0 0, .ref 66, .int 41 0, .int 0 0, .ref 73, .int 51 0, .int 0 0, .ref 80, .int 84 0, .int 0 0, .ref 143, .int 90 0, .int 0 0, .ref 150, .int 94 0, .int 0 0, .ref 157, .int 103 0, .int 0 0, .ref 164, .int 110 0, .int 0 0, .ref 169, .int 116 0, .int 0 0, .ref 176, .int 123 0, .int 0 0, .ref 183, .int 125 0, .int 0 0, .ref 188, .int 142 0, .int 0 0, .ref 195, .int 144 0, .int 0 0, .ref 202, .int 154 0, .int 0 0, .ref 209, .int 162 0, .int 0 0, .ref 216, .int 167 0, .int 0 0, .ref 223, .int 173 0, .int 0 0, .ref 230, .int 178 0, .int 0 0, .ref 237, .int 180 0, .int 0 0, .ref 244, .int 182 0, .int 0 0, .ref 251, .int 185 0, .int 0 0, .ref 258, .int 187 0, .int 0 0, .ref 265, .int 199 0, .int 0 0, .ref 272, .int 204 0, .int 0 0, .ref 279, .int 208 0, .int 0 0, .ref 286, .int 213 0, .int 0 0, .ref 291, .int 227 0, .int 0 0, .ref 296, .int 247 0, .int 0 0, .ref 301])) }
noncomputable def sub2 (P : Params) : Obj := { cls := .none, data := .dict #[en P "type.__subclasses__.Exception.0" 205 (.int 24 0), en P "type.__subclasses__.Exception.n" 206 (.int 1 0)] 2 }
noncomputable abbrev no2 : Obj := { cls := .none, data := .dict #[] 0 }
/-- the state behind some statements -/
noncomputable def stH (x : Params → Obj) (v : Value) (m k n : Nat) (P : Params) : Heap := ⟨⟨List.take n (obsF P (x P) (mainD P v m) (fields12 k))⟩, {}⟩
noncomputable def stS (x : Params → Obj) (v : Value) (m k n t : Nat) (w : World) (os : OsState) : Shared := ⟨stH x v m k n w.params, ⟨[]⟩, boot_drawn, t, os⟩
noncomputable def envP : Env := { scope := PW.main.scope, locals := mainNs, globals := mainNs, cells := [], code := .ref 13, frame := some 14 }
noncomputable abbrev qP : Pos := ⟨0, 0, 0, 0⟩
noncomputable abbrev bP : List Stmt := behindTheImports PW
noncomputable abbrev cP : Code := .body bP envP
noncomputable abbrev annP : Option Value := some (.ref 6)

noncomputable def s0 (w : World) (os : OsState) : Shared := ⟨boot_heap w.params, ⟨[]⟩, boot_drawn, boot_toks, os⟩
noncomputable def sA : World → OsState → Shared := stS (fun _ => no2) (.str "__main__" 164) 9 0 15 187
theorem pre_go (w : World) (os : OsState) : topGo treeTable PW w 11 annP 12 (s0 w os) (topStub PW) = some (sA w os, ⟨denote treeTable cP, cP, qP, [topFrame qP]⟩) := by kernel_rfl
theorem block_go (w : World) (os : OsState) : segRun treeTable PW w 11 annP 1 1 (sA w os) (blockOf bP envP cP qP [topFrame qP]) = some (.next, sA w os, cP, qP) := by kernel_rfl

noncomputable def s1 : World → OsState → Shared := stS sub2 (.str "gmp.limbs" 187) 11 6 40 225
noncomputable abbrev p1 : Pos := ⟨4, 0, 5, 8⟩
noncomputable abbrev g1 : List Stmt := (bP.drop 0).take 3
theorem go1 (w : World) (os : OsState) : segRun treeTable PW w 11 annP 1 419 (sA w os) (piecesOf g1 envP cP qP [topFrame qP]) = some (.next, s1 w os, cP, p1) := by kernel_rfl
noncomputable def s2 : World → OsState → Shared := stS sub2 (.str "gmp.curves" 279) 16 21 75 281
noncomputable abbrev p2 : Pos := ⟨50, 0, 50, 8⟩
noncomputable abbrev g2 : List Stmt := (bP.drop 3).take 6
theorem go2 (w : World) (os : OsState) : segRun treeTable PW w 11 annP 1 174 (s1 w os) (piecesOf g2 envP cP p1 [topFrame qP]) = some (.next, s2 w os, cP, p2) := by kernel_rfl
noncomputable def s3 : World → OsState → Shared := stS sub2 (.str "gmp.curves" 279) 17 24 138 373
noncomputable abbrev p3 : Pos := ⟨51, 0, 83, 16⟩
noncomputable abbrev g3 : List Stmt := (bP.drop 9).take 1
theorem go3 (w : World) (os : OsState) : segRun treeTable PW w 11 annP 1 430 (s2 w os) (piecesOf g3 envP cP p2 [topFrame qP]) = some (.next, s3 w os, cP, p3) := by kernel_rfl
noncomputable def s4 : World → OsState → Shared := stS sub2 (.str "gmp.curves" 279) 28 57 211 498
noncomputable abbrev p4 : Pos := ⟨154, 0, 160, 15⟩
noncomputable abbrev g4 : List Stmt := (bP.drop 10).take 11
theorem go4 (w : World) (os : OsState) : segRun treeTable PW w 11 annP 1 364 (s3 w os) (piecesOf g4 envP cP p3 [topFrame qP]) = some (.next, s4 w os, cP, p4) := by kernel_rfl
noncomputable def s5 : World → OsState → Shared := stS sub2 (.str "law_nn0023_01" 498) 42 99 303 629
noncomputable abbrev p5 : Pos := ⟨247, 0, 272, 76⟩
noncomputable abbrev g5 : List Stmt := (bP.drop 21).take 15
theorem go5 (w : World) (os : OsState) : segRun treeTable PW w 11 annP 1 441 (s4 w os) (piecesOf g5 envP cP p4 [topFrame qP]) = some (.next, s5 w os, cP, p5) := by kernel_rfl
theorem fin_go (w : World) (os : OsState) : topRun treeTable PW w 11 annP 2 (s5 w os) ⟨doneF .next, cP, p5, [topFrame qP]⟩ = some (s5 w os) := by kernel_rfl
theorem run_5 (w : World) (os : OsState) : topRun treeTable PW w 11 annP 2 (s5 w os) (restOf (bP.drop 36) envP cP p5 [topFrame qP]) = some (s5 w os) := by
  have e : bP.drop 36 = [] := by kernel_rfl
  rw [e]
  exact piece_nil (fin_go w os)
theorem run_4 (w : World) (os : OsState) : topRun treeTable PW w 11 annP (441 + 2) (s4 w os) (restOf (bP.drop 21) envP cP p4 [topFrame qP]) = some (s5 w os) := by
  have e : bP.drop 21 = (bP.drop 21).take 15 ++ bP.drop 36 := by
    have h := List.take_append_drop 15 (bP.drop 21)
    rw [List.drop_drop] at h
    exact h.symm
  rw [e]
  exact piece_app (go5 w os) (run_5 w os)
theorem run_3 (w : World) (os : OsState) : topRun treeTable PW w 11 annP (364 + 443) (s3 w os) (restOf (bP.drop 10) envP cP p3 [topFrame qP]) = some (s5 w os) := by
  have e : bP.drop 10 = (bP.drop 10).take 11 ++ bP.drop 21 := by
    have h := List.take_append_drop 11 (bP.drop 10)
    rw [List.drop_drop] at h
    exact h.symm
  rw [e]
  exact piece_app (go4 w os) (run_4 w os)
theorem run_2 (w : World) (os : OsState) : topRun treeTable PW w 11 annP (430 + 807) (s2 w os) (restOf (bP.drop 9) envP cP p2 [topFrame qP]) = some (s5 w os) := by
  have e : bP.drop 9 = (bP.drop 9).take 1 ++ bP.drop 10 := by
    have h := List.take_append_drop 1 (bP.drop 9)
    rw [List.drop_drop] at h
    exact h.symm
  rw [e]
  exact piece_app (go3 w os) (run_3 w os)
theorem run_1 (w : World) (os : OsState) : topRun treeTable PW w 11 annP (174 + 1237) (s1 w os) (restOf (bP.drop 3) envP cP p1 [topFrame qP]) = some (s5 w os) := by
  have e : bP.drop 3 = (bP.drop 3).take 6 ++ bP.drop 9 := by
    have h := List.take_append_drop 6 (bP.drop 3)
    rw [List.drop_drop] at h
    exact h.symm
  rw [e]
  exact piece_app (go2 w os) (run_2 w os)
theorem run_0 (w : World) (os : OsState) : topRun treeTable PW w 11 annP (419 + 1411) (sA w os) (restOf (bP.drop 0) envP cP qP [topFrame qP]) = some (s5 w os) := by
  have e : bP.drop 0 = (bP.drop 0).take 3 ++ bP.drop 3 := by
    have h := List.take_append_drop 3 (bP.drop 0)
    rw [List.drop_drop] at h
    exact h.symm
  rw [e]
  exact piece_app (go1 w os) (run_1 w os)
theorem run_all (w : World) (os : OsState) : topRun treeTable PW w 11 annP (12 + (1 + 1830)) (s0 w os) (topStub PW) = some (s5 w os) :=
  go_top (pre_go w os) (piece_block (block_go w os) (run_0 w os))
noncomputable def as39 : List Addr := [2, 3, 15, 22, 23, 24, 25, 28, 35, 36, 37, 40, 42, 43, 45, 46, 47, 49, 50, 52, 53, 54, 56, 57, 59, 60, 61, 63, 64, 66, 67, 68, 70, 71, 73, 74, 82, 84, 85, 87, 88, 89, 91, 92, 94, 95, 96, 98, 99, 101, 102, 103, 105, 106, 108, 109, 110, 112, 113, 115, 116, 117, 119, 120, 122, 123, 124, 126, 127, 129, 130, 131, 132, 133, 134, 135, 138, 140, 141, 143, 144, 145, 147, 148, 150, 151, 152, 154, 155, 157, 158, 159, 161, 162, 164, 165, 166, 169, 170, 171, 173, 174, 176, 177, 178, 180, 181, 183, 184, 185, 188, 189, 190, 192, 193, 195, 196, 197, 199, 200, 202, 203, 204, 206, 207, 209, 210, 211, 213, 214, 216, 217, 218, 220, 221, 223, 224, 225, 227, 228, 230, 231, 232, 234, 235, 237, 238, 239, 241, 242, 244, 245, 246, 248, 249, 251, 252, 253, 255, 256, 258, 259, 260, 262, 263, 265, 266, 267, 269, 270, 272, 273, 274, 276, 277, 279, 280, 281, 283, 284, 286, 287, 288, 291, 292, 293, 296, 297, 298, 301, 302]
theorem as39_ok : ∀ P, as39 = (K39 P).map (·.1) := by intro P; kernel_rfl
noncomputable def qv : Program := view PySem.Challenge.pw_nn0023_01 [1, 2, 3, 4, 5, 6, 7, 9, 10, 11, 12, 13, 14, 15, 16, 17, 18, 19, 20, 22, 23, 24, 25, 26, 27, 28, 29, 30, 31, 32, 33, 34, 35]
theorem open39 : ∀ w : World, (fencedOpening treeTable PW w 3772).map (fun s => (s.heap, s.gens, s.drawn, s.toks)) = some (boot_heap w.params, ⟨[]⟩, boot_drawn, boot_toks) :=
  boot_open (by kernel_rfl) (by decide) (fun s => by kernel_rfl)
theorem size39 (w : World) : ((boot_heap w.params).isNs mainGlobals && (⟨[]⟩ : Array GenState).size == 0, (boot_heap w.params).objs.size, (boot_heap w.params).nsMap mainGlobals "__annotations__") = (true, 11, annP) := by kernel_rfl
noncomputable abbrev hP : Params → Heap := stH sub2 (.str "law_nn0023_01" 498) 42 99 303
theorem looks39 (w : World) : (fun os => ((staticsOk (importedModules PW.main.body) (boot_heap w.params) (hP w.params) && namesBound PW (hP w.params) && gensDone ⟨hP w.params, ⟨[]⟩, boot_drawn, 629, os⟩ && laidKept (boot_heap w.params) (hP w.params)),
    openSeen qv [] (importedModules PW.main.body) (fun s => xlAt qv [] s && recOk (RowW.records PySem.Challenge.rw_nn0023_01.row.toRowW) s) true ⟨hP w.params, ⟨[]⟩, boot_drawn, 629, os⟩, Hook.obs (kHook K39 as39 as39_ok) ⟨hP w.params, ⟨[]⟩, boot_drawn, 629, os⟩)) = fun _ => (true, openGood qv [], Hook.val (kHook K39 as39 as39_ok) w) := by kernel_rfl
theorem left39 : LeftO PySem.Challenge.rw_nn0023_01.row.prog qv [] (fun s => xlAt qv [] s && recOk (RowW.records PySem.Challenge.rw_nn0023_01.row.toRowW) s) (Hook.obs (kHook K39 as39 as39_ok)) (Hook.val (kHook K39 as39 as39_ok)) 3772 :=
  LeftO.of_pieces (p := PW) open39 size39 run_all (by decide) looks39
end Mine
open PySem PySem.W PyProof.Rows
namespace Mine
theorem well_all {P : Params} {h : Heap} : ∀ {is : List Int} {vs : List Value}, WellAll P h vs (ofPys (is.map PyData.int)) → IntsAre vs is
  | [], _, w => by
    have w : WellAll P h _ [] := w
    cases w; exact .nil
  | i :: is, _, w => by
    have w : WellAll P h _ (WData.int i :: ofPys (is.map PyData.int)) := w
    cases w with
    | cons a b =>
      cases a with
      | int _ t => exact .cons i t (well_all b)
theorem well_ints {P : Params} {h : Heap} {a : Addr} {is : List Int} (w : Well P h (.ref a) (ofPy (.list (is.map PyData.int)))) : ∃ vs, h.get? a = some (listObj vs 0) ∧ IntsAre vs is := by
  have w : Well P h (.ref a) (.list (ofPys (is.map PyData.int))) := w
  cases w with
  | list e r => exact ⟨_, e, well_all r⟩
theorem room_caller : Room callerA 10 := ⟨rfl, by decide +kernel, by decide +kernel⟩
theorem cellsFrom_mem {names : List (Str × NameKind)} {n : Nat} {x : Str} (h : names.lookup x = some .cell) : ((cellsFrom n names []).lookup x).isSome = true := cellsFrom_some _ _ _ (.inl h)
theorem look_two {a b : Bool} (x : a = true) (y : b = true) : (a && b) = true := by rw [x, y]; rfl
theorem law_said : PySem.Challenge.rw_nn0023_01.wellSaid = true := by
  unfold OpenLaw.wellSaid OpenRow.wellSaid OpenRow.partSaid looksOpen
  repeat' with_reducible refine look_two ?_ ?_
  all_goals decide +kernel
theorem law_ok : (chainsOk qv && opensWell PySem.Challenge.rw_nn0023_01.row.prog && (frees PySem.Challenge.rw_nn0023_01.row.toRowW && PySem.Challenge.rw_nn0023_01.row.within.isEmpty)) = true := by
  unfold opensWell
  repeat' with_reducible refine look_two ?_ ?_
  all_goals decide +kernel
end Mine
local macro_rules | `(tactic| k_behind $G:ident $ho:ident $hd:ident $hcd:ident $hD:ident $hmg:ident $hpre:ident $hlay:ident $hrd:ident $hwl:ident $hlo:ident $cd:ident) => `(tactic| (
  have X := (Ground.X $G).1
  have V := (Ground.X $G).2
  refine Ground.open $G ?_
  intro T B D TE TW
  try (refine guard_noD D (by decide +kernel) ?_; clear D)
  obtain ⟨_, _, M⟩ := bmod_of_top T
  have TA := at_of_top T
  try (obtain ⟨_, _, he, B0⟩ := based_of_top T rfl $hmg $ho $hd; have he' : $cd = _ := he; subst he'; clear he)
  clear $hmg
  wrow_args $hpre $hlay $hrd $hwl $hlo
  all_goals (
    first | refine callC_kw (enter_call ?_) | refine enter_call ?_ | refine callC_kw (enter_callW ?_) | refine enter_callW ?_ | w_how
    w_top on
    try refine codeAny_mono ?_ (fun _ _ g => GoodW.toG g)
    have K0 := below_caller (Top.heap T)
    w_call any $ho $hd $hcd $hD T F
    clear $hd TA
    k_drop
    skip)))
set_option maxRecDepth 100000 in
set_option maxHeartbeats 8000000 in
theorem PySem.Challenge.cw_nn0023_01_holds : PySem.Challenge.rw_nn0023_01.Holds := by
  w_on
  refine holds_law Mine.law_said fun said => ?_
  refine holds_open (q := Mine.qv) (loose := []) (XP := XL Mine.qv []) (YP := Hook.says (kHook Mine.K39 Mine.as39 Mine.as39_ok)) Mine.left39 (Hook.of _) (Hook.keeps _) (fun s e => xl_of s (Bool.and_eq_true_iff.mp e).1) XL.keeps (by rfl) (by rfl) (by rfl) (fun s e => recFacts_of (Bool.and_eq_true_iff.mp e).2) (by rfl) (by first | assumption | decide +kernel) Mine.law_ok ⟨rfl, rfl, rfl, rfl, rfl, by decide +kernel⟩ ?hw ?hc
  case hw => w_witness2

  k_fill
  intro w s₀ s₁ mg mb G Y fa o pm cd doc dV kV ho hd hcd hD hmg hg args vals as hpre hlay hrd hwl hlo
  have KX := kIn_of Y
  k_behind G ho hd hcd hD hmg hpre hlay hrd hwl hlo cd
  rename_i TP TB TE TW b1 bo BM q1 q2 is e1 e2 e3 e4 e5 q3 q4 la vs q5 e6 e7 wl rl hI e8 hlen e9 K0 h₁ tk₁ F oF oS oB lF lS lB N0 X0
  obtain ⟨us, hla, hus⟩ := Mine.well_ints wl
  have hz : is.length ≤ 63 := by omega
  have n1 := N0 _ (.head _)
  have n2 := N0 _ (.tail _ (.head _))
  have n3 := N0 _ (.tail _ (.tail _ (.head _)))
  refine wpAny_mono (E := fun _ _ => False) (Mine.join_frame Mine.pureLaw (is := is) (vs := us) (a := la) KX TP hla hus hz ?_ ?_ ?_ rfl rfl rfl F ?_ ?_ ?_ ?_ ?_ ?_) (fun _ _ q => q) (fun _ _ f => f.elim)
  · exact rfl
  · exact rfl
  · exact rfl
  · exact rfl
  · intro n c e
    have e' : List.lookup n [(("first" : Str), s₁.heap.objs.size + 1 + 1 + 1), ("sigmas", s₁.heap.objs.size + 1 + 1), ("box", s₁.heap.objs.size + 1)] = some c := e
    rw [List.lookup_cons] at e'
    split at e'
    · cases e'; exact ⟨⟨_, _, n1.1, lF⟩, n1.2.1, n1.2.2⟩
    · rw [List.lookup_cons] at e'
      split at e'
      · cases e'; exact ⟨⟨_, _, n2.1, lS⟩, n2.2.1, n2.2.2⟩
      · rw [List.lookup_cons] at e'
        split at e'
        · cases e'; exact ⟨⟨_, _, n3.1, lB⟩, n3.2.1, n3.2.2⟩
        · simp at e'
  · show List.Pairwise (fun x y : Str × Addr => x.2 ≠ y.2) [(("first" : Str), s₁.heap.objs.size + 1 + 1 + 1), ("sigmas", s₁.heap.objs.size + 1 + 1), ("box", s₁.heap.objs.size + 1)]
    refine .cons (fun y hy => ?_) (.cons (fun y hy => ?_) (.cons (fun y hy => by cases hy) .nil))
    · simp at hy
      rcases hy with rfl | rfl <;> simp <;> omega
    · simp at hy
      subst hy; simp
  · intro x hx
    exact Mine.cellsFrom_mem hx
  · exact Mine.room_caller.deeper
  · intro h' tk keep
    refine ⟨.inl ⟨.bool true, .bool true, [], rfl, fun cls => ?_, ?_, ?_, fun h => ?_⟩, keep, rfl, hg⟩
    · exact rfl
    · exact .bool true
    · first | rfl | wrow_post
    · exact ⟨.nil, fun a h => by cases h⟩
