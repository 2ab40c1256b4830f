import PyProof.Rows.All
import Wide.All
import Open.Line
import Open.FastT9
import PySem.Challenge.RW_nn0036_01
set_option Elab.async false
set_option maxRecDepth 100000
set_option maxHeartbeats 8000000
set_option compiler.extract_closed false
namespace Mine

/-- the number that a row of digits stands for -/
noncomputable def pv (B : Nat) : List Nat → Nat
  | [] => 0
  | x :: r => x + B * pv B r
noncomputable def Dig (B : Nat) (xs : List Nat) : Prop := ∀ x ∈ xs, x < B
noncomputable def Nrm (xs : List Nat) : Prop := xs.getLast? ≠ some 0
/-- the row of a number -/
noncomputable def dig (B n : Nat) : List Nat := if h : n = 0 ∨ B < 2 then [] else (n % B) :: dig B (n / B)
termination_by n
decreasing_by exact Nat.div_lt_self (by omega) (by omega)
noncomputable def rn (xs : List Nat) : List Int := xs.map fun (n : Nat) => (n : Int)

theorem rn_length (xs : List Nat) : (rn xs).length = xs.length := by simp [rn]
theorem rn_getD (xs : List Nat) (i : Nat) : (rn xs).getD i 0 = (xs.getD i 0 : Int) := by
  simp only [rn, List.getD_eq_getElem?_getD, List.getElem?_map]
  cases xs[i]? <;> rfl
theorem rn_get? {xs : List Nat} {i : Nat} (h : i < xs.length) : (rn xs)[i]? = some ((xs.getD i 0 : Nat) : Int) := by
  simp [rn, List.getD_eq_getElem?_getD, List.getElem?_eq_getElem h]
theorem rn_append (xs ys : List Nat) : rn (xs ++ ys) = rn xs ++ rn ys := by simp [rn]
theorem rn_take (xs : List Nat) (k : Nat) : (rn xs).take k = rn (xs.take k) := by simp [rn]
theorem rn_drop (xs : List Nat) (k : Nat) : (rn xs).drop k = rn (xs.drop k) := by simp [rn]
theorem rn_set (xs : List Nat) (k v : Nat) : (rn xs).set k (v : Int) = rn (xs.set k v) := by simp [rn]
theorem rn_replicate (k v : Nat) : List.replicate k (v : Int) = rn (List.replicate k v) := by simp [rn]

theorem pv_nil {B : Nat} : pv B [] = 0 := rfl
theorem pv_append {B : Nat} : ∀ (xs ys : List Nat), pv B (xs ++ ys) = pv B xs + B ^ xs.length * pv B ys
  | [], ys => by simp [pv]
  | x :: xs, ys => by
    rw [List.cons_append, pv, pv, pv_append xs ys, List.length_cons, Nat.pow_succ, Nat.mul_add, Nat.add_assoc, ← Nat.mul_assoc, Nat.mul_comm B (B ^ xs.length)]
theorem pv_snoc {B : Nat} (xs : List Nat) (v : Nat) : pv B (xs ++ [v]) = pv B xs + B ^ xs.length * v := by
  rw [pv_append]; simp [pv]
theorem Dig.append {B : Nat} {xs ys : List Nat} (h : Dig B xs) (k : Dig B ys) : Dig B (xs ++ ys) := fun x hx => (List.mem_append.mp hx).elim (h x) (k x)
theorem Dig.one {B v : Nat} (h : v < B) : Dig B [v] := fun x hx => by rw [List.mem_singleton.mp hx]; exact h
theorem Dig.nil {B : Nat} : Dig B [] := fun _ h => by cases h
theorem Dig.take {B : Nat} {xs : List Nat} (h : Dig B xs) (k : Nat) : Dig B (xs.take k) := fun x hx => h x (List.mem_of_mem_take hx)
theorem Dig.drop {B : Nat} {xs : List Nat} (h : Dig B xs) (k : Nat) : Dig B (xs.drop k) := fun x hx => h x (List.mem_of_mem_drop hx)
theorem Dig.getD {B : Nat} {xs : List Nat} (h : Dig B xs) (hB : 0 < B) (i : Nat) : xs.getD i 0 < B := by
  rw [List.getD_eq_getElem?_getD]
  cases q : xs[i]? with
  | none => exact hB
  | some v => exact h v (List.mem_of_getElem? q)
theorem Dig.set {B : Nat} {xs : List Nat} (h : Dig B xs) (i : Nat) {v : Nat} (hv : v < B) : Dig B (xs.set i v) := fun x hx => by
  rcases List.mem_or_eq_of_mem_set hx with h1 | h1
  · exact h x h1
  · rw [h1]; exact hv
theorem Dig.replicate {B k : Nat} (hB : 0 < B) : Dig B (List.replicate k 0) := fun x hx => by rw [List.eq_of_mem_replicate hx]; exact hB
theorem pv_replicate {B k : Nat} : pv B (List.replicate k 0) = 0 := by
  induction k with
  | zero => rfl
  | succ k ih => rw [List.replicate_succ, pv, ih]; simp
theorem pv_lt {B : Nat} : ∀ {xs : List Nat}, Dig B xs → pv B xs < B ^ xs.length
  | [], _ => by simp [pv]
  | x :: xs, h => by
    have h1 : x < B := h x (.head _)
    have h2 := pv_lt (xs := xs) fun y hy => h y (.tail _ hy)
    rw [pv, List.length_cons, Nat.pow_succ]
    have : B * pv B xs + B ≤ B * B ^ xs.length := by rw [← Nat.mul_succ]; exact Nat.mul_le_mul_left _ h2
    rw [Nat.mul_comm (B ^ xs.length)]
    omega
theorem pv_take_succ {B : Nat} (xs : List Nat) (i : Nat) : pv B (xs.take (i + 1)) = pv B (xs.take i) + B ^ i * xs.getD i 0 := by
  by_cases h : i < xs.length
  · rw [List.take_add_one, List.getElem?_eq_getElem h]
    simp only [Option.toList_some]
    rw [pv_snoc, List.length_take, Nat.min_eq_left (Nat.le_of_lt h), List.getD_eq_getElem?_getD, List.getElem?_eq_getElem h]; rfl
  · rw [List.take_of_length_le (by omega), List.take_of_length_le (by omega), List.getD_eq_getElem?_getD, List.getElem?_eq_none (by omega)]; simp
theorem pv_split {B : Nat} (xs : List Nat) (i : Nat) : pv B xs = pv B (xs.take i) + B ^ i * pv B (xs.drop i) := by
  by_cases h : i ≤ xs.length
  · conv => lhs; rw [← List.take_append_drop i xs]
    rw [pv_append, List.length_take, Nat.min_eq_left h]
  · rw [List.take_of_length_le (by omega), List.drop_of_length_le (by omega)]; simp [pv]
theorem pv_drop_step {B : Nat} (xs : List Nat) {i : Nat} (h : i < xs.length) : pv B (xs.drop i) = xs.getD i 0 + B * pv B (xs.drop (i + 1)) := by
  rw [List.drop_eq_getElem_cons h, pv, List.getD_eq_getElem?_getD, List.getElem?_eq_getElem h]; rfl
theorem pv_set {B : Nat} (xs : List Nat) (i v : Nat) (h : i < xs.length) : pv B (xs.set i v) + B ^ i * xs.getD i 0 = pv B xs + B ^ i * v := by
  have h1 := pv_split (B := B) (xs.set i v) i
  have h2 := pv_split (B := B) xs i
  rw [pv_drop_step _ (by simpa using h)] at h1
  rw [pv_drop_step _ h] at h2
  have e1 : (xs.set i v).take i = xs.take i := by rw [List.take_set_of_le (Nat.le_refl _)]
  have e2 : (xs.set i v).drop (i + 1) = xs.drop (i + 1) := by rw [List.drop_set_of_lt (by omega)]
  have e3 : (xs.set i v).getD i 0 = v := by rw [List.getD_eq_getElem?_getD, List.getElem?_set_self h]; rfl
  rw [e1, e2, e3] at h1
  rw [h1, h2]
  simp only [Nat.mul_add]
  omega

theorem dig_zero {B : Nat} : dig B 0 = [] := by rw [dig]; simp
theorem dig_step {B n : Nat} (hB : 2 ≤ B) (hn : n ≠ 0) : dig B n = (n % B) :: dig B (n / B) := by
  rw [dig, dif_neg (by omega)]
theorem pv_dig {B : Nat} (hB : 2 ≤ B) (n : Nat) : pv B (dig B n) = n := by
  induction n using Nat.strongRecOn with
  | ind n ih =>
    by_cases hn : n = 0
    · subst hn; rw [dig_zero]; rfl
    · rw [dig_step hB hn, pv, ih _ (Nat.div_lt_self (by omega) (by omega))]
      exact Nat.mod_add_div n B
theorem dig_Dig {B : Nat} (n : Nat) : Dig B (dig B n) := by
  induction n using Nat.strongRecOn with
  | ind n ih =>
    by_cases h : n = 0 ∨ B < 2
    · rw [dig, dif_pos h]; exact Dig.nil
    · rw [dig, dif_neg h]
      intro x hx
      rcases List.mem_cons.mp hx with rfl | hx
      · exact Nat.mod_lt _ (by omega)
      · exact ih _ (Nat.div_lt_self (by omega) (by omega)) x hx
theorem dig_Nrm {B : Nat} (n : Nat) : Nrm (dig B n) := by
  induction n using Nat.strongRecOn with
  | ind n ih =>
    by_cases h : n = 0 ∨ B < 2
    · rw [dig, dif_pos h]; intro q; cases q
    · rw [dig, dif_neg h]
      have := ih _ (Nat.div_lt_self (show 0 < n by omega) (show 1 < B by omega))
      unfold Nrm at this ⊢
      cases q : dig B (n / B) with
      | nil =>
        simp only [List.getLast?_singleton]
        intro z
        have hz : n % B = 0 := by simpa using z
        have h0 : n / B = 0 := by rw [← pv_dig (B := B) (by omega) (n / B), q]; rfl
        have := Nat.mod_add_div n B
        rw [hz, h0] at this
        omega
      | cons y r =>
        rw [q] at this
        rw [List.getLast?_cons_cons]
        exact this
theorem Nrm.tail {x : Nat} {r : List Nat} (h : Nrm (x :: r)) : Nrm r := by
  cases r with
  | nil => intro q; cases q
  | cons y r => unfold Nrm at h ⊢; rwa [List.getLast?_cons_cons] at h
theorem pv_pos {B : Nat} (hB : 2 ≤ B) : ∀ {xs : List Nat}, Nrm xs → xs ≠ [] → 0 < pv B xs
  | [], _, h => absurd rfl h
  | x :: r, hn, _ => by
    rw [pv]
    cases r with
    | nil => have : x ≠ 0 := fun q => hn (by simp [q]); omega
    | cons y r =>
      have := pv_pos hB hn.tail (by simp)
      have := Nat.mul_pos (show 0 < B by omega) this
      omega
theorem dig_pv {B : Nat} (hB : 2 ≤ B) : ∀ {xs : List Nat}, Dig B xs → Nrm xs → dig B (pv B xs) = xs
  | [], _, _ => by rw [pv, dig_zero]
  | x :: r, hd, hn => by
    have hx : x < B := hd x (.head _)
    have hp := pv_pos hB hn (by simp)
    rw [dig_step hB (by omega), pv]
    have e1 : (x + B * pv B r) % B = x := by rw [Nat.add_mul_mod_self_left, Nat.mod_eq_of_lt hx]
    have e2 : (x + B * pv B r) / B = pv B r := by rw [Nat.add_mul_div_left _ _ (by omega), Nat.div_eq_of_lt hx, Nat.zero_add]
    rw [e1, e2, dig_pv hB (fun y hy => hd y (.tail _ hy)) hn.tail]
theorem eq_dig {B n : Nat} {xs : List Nat} (hB : 2 ≤ B) (hd : Dig B xs) (hn : Nrm xs) (hp : pv B xs = n) : xs = dig B n := by
  rw [← hp, dig_pv hB hd hn]
theorem dig_len_le {B n k : Nat} (hB : 2 ≤ B) (h : n < B ^ k) : (dig B n).length ≤ k := by
  induction k generalizing n with
  | zero => rw [Nat.pow_zero] at h; have : n = 0 := by omega
            subst this; rw [dig_zero]; simp
  | succ k ih =>
    by_cases hn : n = 0
    · subst hn; rw [dig_zero]; simp
    · rw [dig_step hB hn, List.length_cons]
      have := ih (n := n / B) (by rw [Nat.div_lt_iff_lt_mul (by omega)]; rw [Nat.pow_succ] at h; exact h)
      omega
theorem pow_le_pv {B : Nat} (hB : 2 ≤ B) : ∀ {xs : List Nat}, Nrm xs → xs ≠ [] → B ^ (xs.length - 1) ≤ pv B xs
  | [], _, h => absurd rfl h
  | [x], hn, _ => by
    have : x ≠ 0 := fun q => hn (by simp [q])
    simp [pv]; omega
  | x :: y :: r, hn, _ => by
    have := pow_le_pv hB hn.tail (by simp)
    rw [pv]
    simp only [List.length_cons, Nat.add_sub_cancel] at this ⊢
    rw [Nat.pow_succ]
    have := Nat.mul_le_mul_left B this
    rw [Nat.mul_comm (B ^ r.length)]
    omega
theorem Nrm_of_le {B : Nat} {xs : List Nat} (hB : 2 ≤ B) (hd : Dig B xs) (h : xs = [] ∨ B ^ (xs.length - 1) ≤ pv B xs) : Nrm xs := by
  intro q
  rcases h with rfl | h
  · cases q
  · obtain ⟨ys, rfl⟩ : ∃ ys, xs = ys ++ [0] := by
      have := List.getLast?_eq_some_iff.mp q
      exact this
    rw [pv_snoc, List.length_append] at h
    have := pv_lt (B := B) (xs := ys) fun x hx => hd x (List.mem_append.mpr (.inl hx))
    simp at h
    omega
theorem Nrm_snoc {xs : List Nat} {v : Nat} (h : v ≠ 0) : Nrm (xs ++ [v]) := by
  intro q; rw [List.getLast?_append] at q; simp at q; exact h q
theorem dig_lt_len {B n k : Nat} (hB : 2 ≤ B) (h : (dig B n).length ≤ k) : n < B ^ k := by
  have := pv_lt (dig_Dig (B := B) n)
  rw [pv_dig hB] at this
  exact Nat.lt_of_lt_of_le this (Nat.pow_le_pow_right (by omega) h)
theorem dig_ge_len {B n : Nat} (hB : 2 ≤ B) (h : n ≠ 0) : B ^ ((dig B n).length - 1) ≤ n := by
  have := pow_le_pv hB (dig_Nrm (B := B) n) (by rw [dig_step hB h]; simp)
  rwa [pv_dig hB] at this
theorem dig_nil_iff {B n : Nat} (hB : 2 ≤ B) : (dig B n).length = 0 ↔ n = 0 := by
  constructor
  · intro h
    rw [← pv_dig hB n, List.length_eq_zero_iff.mp h]; rfl
  · rintro rfl; rw [dig_zero]; rfl
theorem len_lt_of {B m n : Nat} (hB : 2 ≤ B) (h : (dig B m).length < (dig B n).length) : m < n := by
  have h1 := dig_lt_len hB (Nat.le_refl (dig B m).length)
  have hn : n ≠ 0 := fun q => by rw [q, dig_zero] at h; simp at h
  have h2 := dig_ge_len hB hn
  exact Nat.lt_of_lt_of_le h1 (Nat.le_trans (Nat.pow_le_pow_right (by omega) (by omega)) h2)
theorem len_mono {B m n : Nat} (hB : 2 ≤ B) (h : m ≤ n) : (dig B m).length ≤ (dig B n).length :=
  dig_len_le hB (Nat.lt_of_le_of_lt h (dig_lt_len hB (Nat.le_refl _)))

/-- without the noughts at the end -/
noncomputable def normN (xs : List Nat) : List Nat := (xs.reverse.dropWhile (· == 0)).reverse
theorem normN_split (xs : List Nat) : ∃ k, xs = normN xs ++ List.replicate k 0 := by
  refine ⟨(xs.reverse.takeWhile (· == 0)).length, ?_⟩
  have h1 : xs.reverse.takeWhile (· == 0) = List.replicate (xs.reverse.takeWhile (· == 0)).length 0 := by
    rw [List.eq_replicate_iff]
    refine ⟨rfl, fun b hb => ?_⟩
    have := List.all_takeWhile (l := xs.reverse) (p := (· == 0))
    simpa using List.all_eq_true.mp this b hb
  have h2 := List.takeWhile_append_dropWhile (p := (· == 0)) (l := xs.reverse)
  have h3 : xs = (xs.reverse.dropWhile (· == 0)).reverse ++ (xs.reverse.takeWhile (· == 0)).reverse := by
    rw [← List.reverse_append, h2, List.reverse_reverse]
  rw [h1] at h3
  simpa [normN] using h3
theorem normN_Nrm (xs : List Nat) : Nrm (normN xs) := by
  intro q
  unfold normN at q
  rw [List.getLast?_reverse] at q
  have := List.head?_dropWhile_not (p := (· == 0)) (l := xs.reverse)
  rw [q] at this
  simp at this
theorem normN_pv {B : Nat} (xs : List Nat) : pv B (normN xs) = pv B xs := by
  obtain ⟨k, h⟩ := normN_split xs
  conv => rhs; rw [h]
  rw [pv_append, pv_replicate]; simp
theorem normN_Dig {B : Nat} {xs : List Nat} (h : Dig B xs) : Dig B (normN xs) := by
  obtain ⟨k, e⟩ := normN_split xs
  intro x hx
  exact h x (by rw [e]; exact List.mem_append.mpr (.inl hx))
theorem normN_dig {B : Nat} {xs : List Nat} (hB : 2 ≤ B) (h : Dig B xs) : normN xs = dig B (pv B xs) := eq_dig hB (normN_Dig h) (normN_Nrm xs) (normN_pv xs)
end Mine
namespace Mine
/-- just so many digits -/
noncomputable def digL (B n : Nat) : Nat → List Nat
  | 0 => []
  | k + 1 => (n % B) :: digL B (n / B) k
theorem digL_length (B : Nat) : ∀ k n, (digL B n k).length = k
  | 0, _ => rfl
  | k + 1, n => by rw [digL, List.length_cons, digL_length B k]
theorem digL_Dig {B : Nat} (hB : 0 < B) : ∀ k n, Dig B (digL B n k)
  | 0, _ => Dig.nil
  | k + 1, n => fun x hx => by
    rw [digL] at hx
    rcases List.mem_cons.mp hx with rfl | hx
    · exact Nat.mod_lt _ hB
    · exact digL_Dig hB k _ x hx
theorem digL_pv {B : Nat} (hB : 0 < B) : ∀ k n, n < B ^ k → pv B (digL B n k) = n
  | 0, n, h => by simp at h; subst h; rfl
  | k + 1, n, h => by
    rw [digL, pv, digL_pv hB k (n / B) (by rw [Nat.div_lt_iff_lt_mul hB, ← Nat.pow_succ]; exact h)]
    exact Nat.mod_add_div n B
theorem eq_digL {B : Nat} : ∀ {xs : List Nat} {n : Nat}, Dig B xs → pv B xs = n → xs = digL B n xs.length
  | [], _, _, _ => rfl
  | x :: r, n, hd, hp => by
    have hx : x < B := hd x (.head _)
    rw [pv] at hp
    rw [List.length_cons, digL, ← hp, Nat.add_mul_mod_self_left, Nat.mod_eq_of_lt hx, Nat.add_mul_div_left _ _ (by omega), Nat.div_eq_of_lt hx, Nat.zero_add]
    rw [← eq_digL (fun y hy => hd y (.tail _ hy)) rfl]
theorem pv_zeros {B : Nat} : ∀ {xs : List Nat}, (∀ j, xs.getD j 0 = 0) → pv B xs = 0
  | [], _ => rfl
  | x :: r, h => by
    have h0 := h 0
    simp at h0
    rw [pv, h0, pv_zeros (xs := r) fun j => by have := h (j + 1); simpa using this, Nat.mul_zero]
theorem getD_drop (xs : List Nat) (i j : Nat) : (xs.drop i).getD j 0 = xs.getD (i + j) 0 := by
  simp [List.getD_eq_getElem?_getD, List.getElem?_drop]
/-- noughts above -/
theorem pv_top {B : Nat} {xs : List Nat} {k : Nat} (hd : Dig B xs) (hB : 0 < B) (h : ∀ j, k ≤ j → xs.getD j 0 = 0) : pv B xs < B ^ k := by
  rw [pv_split xs k, pv_zeros (xs := xs.drop k) fun j => by rw [getD_drop]; exact h _ (by omega), Nat.mul_zero, Nat.add_zero]
  refine Nat.lt_of_lt_of_le (pv_lt (hd.take k)) (Nat.pow_le_pow_right hB ?_)
  rw [List.length_take]; omega
theorem top_pv {B : Nat} {xs : List Nat} {k : Nat} (hB : 0 < B) (h : pv B xs < B ^ k) : ∀ j, k ≤ j → xs.getD j 0 = 0 := by
  intro j hj
  by_cases hl : j < xs.length
  · have s := pv_split (B := B) xs j
    rw [pv_drop_step xs hl, Nat.mul_add] at s
    have : B ^ k ≤ B ^ j := Nat.pow_le_pow_right hB hj
    rcases Nat.eq_zero_or_pos (xs.getD j 0) with q | q
    · exact q
    · have := Nat.mul_le_mul_left (B ^ j) q
      omega
  · rw [List.getD_eq_getElem?_getD, List.getElem?_eq_none (by omega)]; rfl
theorem pv_set' {B : Nat} {xs : List Nat} {i v : Nat} (h : i < xs.length) : pv B (xs.set i v) + B ^ i * xs.getD i 0 = pv B xs + B ^ i * v := pv_set xs i v h
theorem getD_set_self {xs : List Nat} {i v : Nat} (h : i < xs.length) : (xs.set i v).getD i 0 = v := by
  rw [List.getD_eq_getElem?_getD, List.getElem?_set_self h]; rfl
theorem getD_set_ne' {xs : List Nat} {i j v : Nat} (h : i ≠ j) : (xs.set i v).getD j 0 = xs.getD j 0 := by
  simp [List.getD_eq_getElem?_getD, List.getElem?_set_ne h]
theorem pv_div {B : Nat} {xs : List Nat} (hd : Dig B xs) (hB : 0 < B) {k : Nat} (hk : k ≤ xs.length) : pv B xs / B ^ k = pv B (xs.drop k) := by
  have t := pv_lt (hd.take k)
  rw [List.length_take, Nat.min_eq_left hk] at t
  rw [pv_split xs k, Nat.add_mul_div_left _ _ (Nat.pow_pos hB), Nat.div_eq_of_lt t, Nat.zero_add]

/-- one turn of a school product -/
theorem mul_turn {B p p' f k cy x y s : Nat} (h : p + B ^ k * cy = s) (hs : p' + B ^ k * f = p + B ^ k * ((cy + (f + x * y)) % B)) :
    p' + B ^ (k + 1) * ((cy + (f + x * y)) / B) = s + B ^ k * (x * y) := by
  have e : B ^ k * ((cy + (f + x * y)) % B) + B ^ (k + 1) * ((cy + (f + x * y)) / B) = B ^ k * (cy + (f + x * y)) := by
    rw [Nat.pow_succ, Nat.mul_assoc, ← Nat.mul_add, Nat.mod_add_div]
  rw [Nat.mul_add, Nat.mul_add] at e
  omega
theorem mul_carry {B cy f x y : Nat} (hc : cy < B) (hf : f < B) (hx : x < B) (hy : y < B) : (cy + (f + x * y)) / B < B := by
  rw [Nat.div_lt_iff_lt_mul (by omega)]
  have h1 : x * y ≤ (B - 1) * (B - 1) := Nat.mul_le_mul (by omega) (by omega)
  obtain ⟨c, rfl⟩ : ∃ c, B = c + 1 := ⟨B - 1, by omega⟩
  rw [Nat.add_sub_cancel] at h1
  rw [Nat.add_mul, Nat.mul_add, Nat.one_mul, Nat.mul_one]
  omega
end Mine
namespace Mine
theorem take_turn {B p p' s P k f v m bo qt cy gy : Nat} (h : p + P = s + B ^ k * cy) (hs : p' + B ^ k * f = p + B ^ k * v) (hv : v + m = f + B * bo) (ht : gy + cy = B * qt + m) :
    p' + (P + B ^ k * gy) = s + B ^ (k + 1) * (qt + bo) := by
  have e : B ^ k * cy + B ^ k * v + B ^ k * gy = B ^ k * f + B ^ (k + 1) * (qt + bo) := by
    rw [Nat.pow_succ, Nat.mul_assoc, ← Nat.mul_add, ← Nat.mul_add, ← Nat.mul_add]
    congr 1
    rw [Nat.mul_add]
    omega
  omega
theorem take_carry {B g y cy f m qt : Nat} (hB : 0 < B) (hy : y < B) (hc : cy ≤ g) (ht : g * y + cy = B * qt + m) : qt + (if f < m then 1 else 0) ≤ g := by
  have h1 : g * y ≤ g * (B - 1) := Nat.mul_le_mul_left _ (by omega)
  have h2 : g * (B - 1) + g = g * B := by rw [← Nat.mul_succ]; congr 1; omega
  have h3 : B * qt + m ≤ B * g := by rw [Nat.mul_comm B g]; omega
  split
  · have : B * qt < B * g := by omega
    have := Nat.lt_of_mul_lt_mul_left this
    omega
  · have : B * qt ≤ B * g := by omega
    have := Nat.le_of_mul_le_mul_left this hB
    omega
theorem take_end {W P v M bo : Nat} (h : v + P = W + M * bo) (hb : bo ≤ 1) (hv : v < M) : bo = (if P ≤ W then 0 else 1) ∧ v = (if P ≤ W then W - P else W + M - P) := by
  have : bo = 0 ∨ bo = 1 := by omega
  rcases this with rfl | rfl
  · rw [Nat.mul_zero] at h
    rw [if_pos (by omega), if_pos (by omega)]; omega
  · rw [Nat.mul_one] at h
    rw [if_neg (by omega), if_neg (by omega)]; omega
theorem put_end {B m p p' f cy S : Nat} (hB : 0 < B) (h : p + B ^ m * cy = S) (hs : p' + B ^ m * f = p + B ^ m * ((f + cy) % B)) (hp : p' < B ^ (m + 1)) : p' = S % B ^ (m + 1) := by
  have e : B ^ m * f + B ^ m * cy = B ^ m * ((f + cy) % B) + B ^ (m + 1) * ((f + cy) / B) := by
    rw [Nat.pow_succ, Nat.mul_assoc, ← Nat.mul_add, ← Nat.mul_add, Nat.mod_add_div]
  have : S = p' + B ^ (m + 1) * ((f + cy) / B) := by omega
  rw [this, Nat.add_mul_mod_self_left, Nat.mod_eq_of_lt hp]

/-- Knuth's guess -/
theorem guess_ok {B U V K x y W D : Nat} (hW : W = U * K + x) (hx : x < K) (hD : D = V * K + y) (hy : y < K) (hV : B ≤ V + 1) (hV0 : 0 < V) (hq : W / D < B) (hB : 0 < B) :
    W / D ≤ Min.min (U / V) (B - 1) ∧ Min.min (U / V) (B - 1) ≤ W / D + 1 := by
  have hK : 0 < K := by omega
  have hD0 : 0 < D := by have := Nat.mul_pos hV0 hK; omega
  constructor
  · have h1 : W / D ≤ U / V := by
      rw [Nat.le_div_iff_mul_le hV0]
      have h2 : W / D * D ≤ W := Nat.div_mul_le_self ..
      have h3 : W / D * (V * K) ≤ W / D * D := Nat.mul_le_mul_left _ (by omega)
      have h4 : W / D * V * K < (U + 1) * K := by rw [Nat.mul_assoc, Nat.add_mul]; omega
      have := Nat.lt_of_mul_lt_mul_right h4
      omega
    omega
  · generalize hg : Min.min (U / V) (B - 1) = g
    have g1 : g * V ≤ U := by rw [← Nat.le_div_iff_mul_le hV0]; omega
    have g2 : g ≤ B - 1 := by omega
    rcases Nat.eq_zero_or_pos g with q | q
    · rw [q]; exact Nat.zero_le _
    · have h1 : g - 1 ≤ W / D := by
        rw [Nat.le_div_iff_mul_le hD0]
        have h2 : (g - 1) * D ≤ (g - 1) * ((V + 1) * K) := Nat.mul_le_mul_left _ (by rw [Nat.add_mul]; omega)
        have h3 : (g - 1) * (V + 1) ≤ g * V := by
          obtain ⟨j, rfl⟩ : ∃ j, g = j + 1 := ⟨g - 1, by omega⟩
          rw [Nat.add_sub_cancel, Nat.mul_add, Nat.add_mul]; omega
        have h4 : (g - 1) * ((V + 1) * K) ≤ U * K := by rw [← Nat.mul_assoc]; exact Nat.mul_le_mul_right _ (by omega)
        omega
      exact Nat.sub_le_iff_le_add.mp h1
end Mine
namespace Mine
theorem pv_take3 {B : Nat} {xs : List Nat} (hd : Dig B xs) (hB : 0 < B) {k m : Nat} (h : pv B xs < B ^ (k + m)) (hk : k ≤ xs.length) : pv B ((xs.drop k).take m) = pv B xs / B ^ k := by
  rw [pv_div hd hB hk]
  have s := pv_split (B := B) (xs.drop k) m
  have : pv B ((xs.drop k).drop m) = 0 := pv_zeros fun j => by
    rw [List.drop_drop, getD_drop]; exact top_pv hB h _ (by omega)
  rw [this] at s; simpa using s.symm
/-- one turn of a long division -/
theorem div_turn {B i n V W g : Nat} {f s y : Nat} (hB : 2 ≤ B) (hn : 2 ≤ n) (hV : V = (f * B + s) * B ^ (n - 2) + y) (hy : y < B ^ (n - 2)) (hf : 0 < f) (hVn : V < B ^ n) (hW : W < B ^ (i + 1) * V)
    (hg : g = Min.min (W / B ^ (i + n - 2) / (f * B + s)) (B - 1)) :
    W < B ^ (i + n + 1) ∧ g < B ∧ W / (B ^ i * V) < B ∧ (B ^ i * (g * V) ≤ W → g = W / (B ^ i * V)) ∧ (¬ B ^ i * (g * V) ≤ W → g = W / (B ^ i * V) + 1 ∧ (W + B ^ (i + n + 1) - B ^ i * (g * V) + B ^ i * V) % B ^ (i + n + 1) = W - W / (B ^ i * V) * (B ^ i * V)) := by
  have hBi : 0 < B ^ i := Nat.pow_pos (by omega)
  have hK : 0 < B ^ (i + n - 2) := Nat.pow_pos (by omega)
  have hfB : B ≤ f * B := Nat.le_mul_of_pos_left _ hf
  have eK : B ^ i * B ^ (n - 2) = B ^ (i + n - 2) := by rw [← Nat.pow_add]; congr 1; omega
  have hD : B ^ i * V = (f * B + s) * B ^ (i + n - 2) + B ^ i * y := by rw [hV, Nat.mul_add, Nat.mul_left_comm, eK]
  have hyK : B ^ i * y < B ^ (i + n - 2) := by rw [← eK]; exact Nat.mul_lt_mul_of_pos_left hy hBi
  have hVpos : 0 < V := by
    rcases Nat.eq_zero_or_pos V with q | q
    · rw [q] at hW; omega
    · exact q
  have hDpos : 0 < B ^ i * V := Nat.mul_pos hBi hVpos
  have hWM : W < B ^ (i + n + 1) := by
    refine Nat.lt_of_lt_of_le hW ?_
    rw [show i + n + 1 = i + 1 + n by omega, Nat.pow_add B (i + 1)]
    exact Nat.mul_le_mul_left _ (Nat.le_of_lt hVn)
  have hq : W / (B ^ i * V) < B := by
    rw [Nat.div_lt_iff_lt_mul hDpos]
    rw [Nat.pow_succ, Nat.mul_assoc, Nat.mul_left_comm] at hW
    exact hW
  have G := guess_ok (B := B) (U := W / B ^ (i + n - 2)) (V := f * B + s) (K := B ^ (i + n - 2)) (x := W % B ^ (i + n - 2)) (y := B ^ i * y) (W := W) (D := B ^ i * V)
    (by rw [Nat.mul_comm]; exact (Nat.div_add_mod ..).symm) (Nat.mod_lt _ hK) hD hyK (by omega) (by omega) hq (by omega)
  rw [← hg] at G
  have hqm := Nat.div_mul_le_self W (B ^ i * V)
  have hlt := Nat.lt_mul_div_succ W hDpos
  rw [Nat.mul_comm] at hlt
  have eg : B ^ i * (g * V) = g * (B ^ i * V) := Nat.mul_left_comm ..
  generalize hqq : W / (B ^ i * V) = q at *
  generalize hDD : B ^ i * V = D at *
  have hMD : D ≤ B ^ (i + n + 1) := by
    rw [← hDD, show i + n + 1 = i + (n + 1) by omega, Nat.pow_add B i]
    exact Nat.mul_le_mul_left _ (Nat.le_trans (Nat.le_of_lt hVn) (Nat.pow_le_pow_right (by omega) (by omega)))
  have gB : g < B := by rw [hg]; have := Nat.min_le_right (W / B ^ (i + n - 2) / (f * B + s)) (B - 1); omega
  refine ⟨hWM, gB, hq, fun h => ?_, fun h => ?_⟩
  · rw [eg] at h
    have h1 : g ≤ q := by rw [← hqq, Nat.le_div_iff_mul_le hDpos]; exact h
    exact Nat.le_antisymm h1 G.1
  · rw [eg] at h
    have h1 : g ≠ q := fun e => h (e ▸ hqm)
    have e : g = q + 1 := by have := G.1; have := G.2; clear hg; omega
    refine ⟨e, ?_⟩
    rw [eg, e, Nat.add_mul, Nat.one_mul]
    rw [Nat.add_mul, Nat.one_mul] at hlt
    have e2 : W + B ^ (i + n + 1) - (q * D + D) + D = (W - q * D) + B ^ (i + n + 1) := by omega
    rw [e2, Nat.add_mod_right, Nat.mod_eq_of_lt (by omega)]
theorem div_step {B i V W q P R' : Nat} (h : P = W + V * (B ^ (i + 1) * R')) (hq : q * (B ^ i * V) ≤ W) : P = (W - q * (B ^ i * V)) + V * (B ^ i * (q + B * R')) := by
  have e : V * (B ^ i * (q + B * R')) = q * (B ^ i * V) + V * (B ^ (i + 1) * R') := by
    rw [Nat.mul_add, Nat.mul_add, Nat.pow_succ, Nat.mul_assoc (B ^ i) B, Nat.mul_comm V (B ^ i * q), Nat.mul_right_comm, Nat.mul_comm q]
  rw [e]; omega
theorem dig_one {B x : Nat} (h0 : x ≠ 0) (h : x < B) : dig B x = [x] := by
  rw [dig_step (by omega) h0, Nat.mod_eq_of_lt h, Nat.div_eq_of_lt h, dig_zero]
end Mine
namespace Mine
structure HG (A B m n p q a b : Nat) : Prop where
  det : m * q = n * p + 1
  one : A = m * a + n * b
  two : B = p * a + q * b
theorem HG.id (A B : Nat) : HG A B 1 0 0 1 A B := ⟨by omega, by omega, by omega⟩
theorem HG.mpos {A B m n p q a b : Nat} (g : HG A B m n p q a b) : 0 < m ∧ 0 < q := by
  have := g.det
  constructor
  · rcases Nat.eq_zero_or_pos m with h | h
    · rw [h] at this; omega
    · exact h
  · rcases Nat.eq_zero_or_pos q with h | h
    · rw [h] at this; omega
    · exact h
theorem HG.le {A B m n p q a b : Nat} (g : HG A B m n p q a b) (ha : 0 < a) (hb : 0 < b) : m ≤ A ∧ n ≤ A ∧ p ≤ B ∧ q ≤ B ∧ a ≤ A ∧ b ≤ B := by
  have h1 := g.one
  have h2 := g.two
  have h3 := g.mpos
  have a1 := Nat.le_mul_of_pos_right m ha
  have a2 := Nat.le_mul_of_pos_right n hb
  have a3 := Nat.le_mul_of_pos_right p ha
  have a4 := Nat.le_mul_of_pos_right q hb
  have a5 := Nat.le_mul_of_pos_left a h3.1
  have a6 := Nat.le_mul_of_pos_left b h3.2
  omega
theorem HG.gt {A B m n p q a b k r : Nat} (g : HG A B m n p q a b) (h : a = k * b + r) : HG A B m (m * k + n) p (p * k + q) r b := by
  have h1 := g.det
  have h2 := g.one
  have h3 := g.two
  subst h
  exact ⟨by grind, by grind, by grind⟩
theorem HG.lt {A B m n p q a b k r : Nat} (g : HG A B m n p q a b) (h : b = k * a + r) : HG A B (m + n * k) n (p + q * k) q a r := by
  have h1 := g.det
  have h2 := g.one
  have h3 := g.two
  subst h
  exact ⟨by grind, by grind, by grind⟩
theorem HG.mul {A B m n p q a b m2 n2 p2 q2 a' b' : Nat} (g : HG A B m n p q a b) (g2 : HG a b m2 n2 p2 q2 a' b') : HG A B (m * m2 + n * p2) (m * n2 + n * q2) (p * m2 + q * p2) (p * n2 + q * q2) a' b' := by
  have h1 := g.det
  have h2 := g.one
  have h3 := g.two
  have h4 := g2.det
  have h5 := g2.one
  have h6 := g2.two
  subst h5 h6
  refine ⟨?_, by grind, by grind⟩
  have e : (m * m2 + n * p2) * (p * n2 + q * q2) + (m * q) * (n2 * p2) + (n * p) * (m2 * q2) = (m * n2 + n * q2) * (p * m2 + q * p2) + (m * q) * (m2 * q2) + (n * p) * (n2 * p2) := by grind
  rw [h1, h4] at e
  have e2 : (n * p + 1) * (n2 * p2 + 1) + n * p * (n2 * p2) = (n * p + 1) * (n2 * p2) + n * p * (n2 * p2 + 1) + 1 := by grind
  omega
/-- the high parts' matrix, led back -/
theorem HG.back {ah bh m n p q c d al bb P a' b' : Nat} (g : HG ah bh m n p q c d) (h1 : a' + n * bb = c * P + q * al) (h2 : b' + p * al = d * P + m * bb) : HG (ah * P + al) (bh * P + bb) m n p q a' b' := by
  have e1 := g.det
  have e2 := g.one
  have e3 := g.two
  refine ⟨e1, ?_, ?_⟩
  · have x1 : m * (a' + n * bb) + n * (b' + p * al) = m * (c * P + q * al) + n * (d * P + m * bb) := by rw [h1, h2]
    have x2 : m * (c * P + q * al) + n * (d * P + m * bb) = ah * P + (m * q) * al + n * (m * bb) := by subst e2; grind
    have x3 : m * (a' + n * bb) + n * (b' + p * al) = m * a' + n * b' + n * (m * bb) + (n * p) * al := by grind
    rw [e1, Nat.add_mul, Nat.one_mul] at x2
    omega
  · have x1 : p * (a' + n * bb) + q * (b' + p * al) = p * (c * P + q * al) + q * (d * P + m * bb) := by rw [h1, h2]
    have x2 : p * (c * P + q * al) + q * (d * P + m * bb) = bh * P + (m * q) * bb + q * (p * al) := by subst e3; grind
    have x3 : p * (a' + n * bb) + q * (b' + p * al) = p * a' + q * b' + q * (p * al) + (n * p) * bb := by grind
    rw [e1, Nat.add_mul, Nat.one_mul] at x2
    omega
theorem half_le {c d m n ah N hh : Nat} (h : ah = m * c + n * d) (hN : ah < 2 ^ N) (hh1 : 1 ≤ hh) (hNh : N ≤ 2 * hh - 1) (hc : 2 ^ hh ≤ c) (hd : 2 ^ hh ≤ d) : m < 2 ^ (hh - 1) ∧ n < 2 ^ (hh - 1) := by
  have e : 2 ^ (hh - 1) * 2 ^ hh = 2 ^ (2 * hh - 1) := by rw [← Nat.pow_add]; congr 1; omega
  have hM : 2 ^ N ≤ 2 ^ (hh - 1) * 2 ^ hh := by rw [e]; exact Nat.pow_le_pow_right (by decide) hNh
  have a1 := Nat.mul_le_mul_left m hc
  have a2 := Nat.mul_le_mul_left n hd
  exact ⟨Nat.lt_of_mul_lt_mul_right (show m * 2 ^ hh < 2 ^ (hh - 1) * 2 ^ hh by omega), Nat.lt_of_mul_lt_mul_right (show n * 2 ^ hh < 2 ^ (hh - 1) * 2 ^ hh by omega)⟩
theorem high_math {a b m n p q c d pl h hh N : Nat} (g : HG (a / 2 ^ pl) (b / 2 ^ pl) m n p q c d) (ha : a / 2 ^ pl < 2 ^ N) (hb : b / 2 ^ pl < 2 ^ N) (hh1 : 1 ≤ hh) (hNh : N ≤ 2 * hh - 1) (hc : 2 ^ hh ≤ c) (hd : 2 ^ hh ≤ d) (hp : h ≤ pl + (hh - 1)) :
    n * (b % 2 ^ pl) ≤ c * 2 ^ pl + q * (a % 2 ^ pl) ∧ p * (a % 2 ^ pl) ≤ d * 2 ^ pl + m * (b % 2 ^ pl) ∧
    HG a b m n p q (c * 2 ^ pl + q * (a % 2 ^ pl) - n * (b % 2 ^ pl)) (d * 2 ^ pl + m * (b % 2 ^ pl) - p * (a % 2 ^ pl)) ∧ 2 ^ h ≤ c * 2 ^ pl + q * (a % 2 ^ pl) - n * (b % 2 ^ pl) ∧ 2 ^ h ≤ d * 2 ^ pl + m * (b % 2 ^ pl) - p * (a % 2 ^ pl) := by
  obtain ⟨m1, n1⟩ := half_le g.one ha hh1 hNh hc hd
  obtain ⟨p1, q1⟩ := half_le g.two hb hh1 hNh hc hd
  have hP : 0 < 2 ^ pl := Nat.pow_pos (by decide)
  have al := Nat.mod_lt a hP
  have bb := Nat.mod_lt b hP
  have e : 2 ^ hh = 2 * 2 ^ (hh - 1) := by rw [← Nat.pow_succ']; congr 1; omega
  have hE : 2 ^ h ≤ 2 ^ (hh - 1) * 2 ^ pl := by rw [← Nat.pow_add]; exact Nat.pow_le_pow_right (by decide) (by omega)
  have c1 : 2 * (2 ^ (hh - 1) * 2 ^ pl) ≤ c * 2 ^ pl := by rw [← Nat.mul_assoc, ← e]; exact Nat.mul_le_mul_right _ hc
  have d1 : 2 * (2 ^ (hh - 1) * 2 ^ pl) ≤ d * 2 ^ pl := by rw [← Nat.mul_assoc, ← e]; exact Nat.mul_le_mul_right _ hd
  have n2 : n * (b % 2 ^ pl) ≤ 2 ^ (hh - 1) * 2 ^ pl := Nat.mul_le_mul (Nat.le_of_lt n1) (Nat.le_of_lt bb)
  have p2 : p * (a % 2 ^ pl) ≤ 2 ^ (hh - 1) * 2 ^ pl := Nat.mul_le_mul (Nat.le_of_lt p1) (Nat.le_of_lt al)
  have x1 : n * (b % 2 ^ pl) ≤ c * 2 ^ pl + q * (a % 2 ^ pl) := by omega
  have x2 : p * (a % 2 ^ pl) ≤ d * 2 ^ pl + m * (b % 2 ^ pl) := by omega
  refine ⟨x1, x2, ?_, by omega, by omega⟩
  have := g.back (P := 2 ^ pl) (al := a % 2 ^ pl) (bb := b % 2 ^ pl) (Nat.sub_add_cancel x1) (Nat.sub_add_cancel x2)
  rwa [Nat.mul_comm, Nat.div_add_mod, Nat.mul_comm, Nat.div_add_mod] at this
end Mine
namespace Mine
/-- the walk of the extended euclid -/
structure GE (one other a b : Nat) (s ls t lt : Int) : Prop where
  bz : (one : Int) * s + other * t = a
  bz2 : (one : Int) * ls + other * lt = b
  gc : Nat.gcd a b = Nat.gcd one other
  pos : 0 < a
  sn : ∃ S LS T LT : Nat, ((s = S ∧ ls = -(LS : Int) ∧ t = -(T : Int) ∧ lt = LT) ∨ (s = -(S : Int) ∧ ls = LS ∧ t = T ∧ lt = -(LT : Int))) ∧ a * LS + b * S = other ∧ a * LT + b * T = one
  J : (a = one ∧ b = other ∧ s = 1 ∧ ls = 0 ∧ t = 0 ∧ lt = 1) ∨ (0 < b ∧ b < a ∧ one ≠ other ∧ 0 < other) ∨
    (b = 0 ∧ 0 < other ∧ ((one = other ∧ s = 0 ∧ t = 1) ∨ (one ≠ other ∧ 2 * a * s.natAbs ≤ other ∧ 2 * a * t.natAbs ≤ one)))
theorem GE.start {one other : Nat} (h : 0 < one) : GE one other one other 1 0 0 1 where
  bz := by omega
  bz2 := by omega
  gc := rfl
  pos := h
  sn := ⟨1, 0, 0, 1, .inl ⟨rfl, rfl, rfl, rfl⟩, by omega, by omega⟩
  J := .inl ⟨rfl, rfl, rfl, rfl, rfl, rfl⟩
theorem GE.step {one other a b : Nat} {s ls t lt : Int} (g : GE one other a b s ls t lt) (hb : 0 < b) : GE one other b (a % b) ls (s - (a / b : Nat) * ls) lt (t - (a / b : Nat) * lt) := by
  have dm := Nat.div_add_mod a b
  obtain ⟨q, hq⟩ : ∃ q, q = a / b := ⟨_, rfl⟩
  obtain ⟨r, hr⟩ : ∃ r, r = a % b := ⟨_, rfl⟩
  have ml := Nat.mod_lt a hb
  have hgc : Nat.gcd b r = Nat.gcd a b := by rw [hr, Nat.gcd_comm a b, Nat.gcd_rec b a, Nat.gcd_comm]
  rw [← hq, ← hr] at dm
  rw [← hr] at ml
  rw [← hq, ← hr]
  obtain ⟨b1, b2, b3, b4, ⟨S, LS, T, LT, hs, e1, e2⟩, J⟩ := g
  have n1 : b * (S + q * LS) + r * LS = other := by subst dm; grind
  have n2 : b * (T + q * LT) + r * LT = one := by subst dm; grind
  have dmi : (a : Int) = b * q + r := by rw [← dm]; push_cast; rfl
  refine ⟨b2, ?_, hgc.trans b3, hb, ⟨LS, S + q * LS, LT, T + q * LT, ?_, by omega, by omega⟩, ?_⟩
  · have : (one : Int) * (s - q * ls) + other * (t - q * lt) = (one * s + other * t) - q * (one * ls + other * lt) := by grind
    rw [this, b1, b2, dmi, Int.mul_comm]; omega
  · rcases hs with ⟨rfl, rfl, rfl, rfl⟩ | ⟨rfl, rfl, rfl, rfl⟩
    · right; push_cast; refine ⟨rfl, ?_, rfl, ?_⟩ <;> grind
    · left; push_cast; refine ⟨rfl, ?_, rfl, ?_⟩ <;> grind
  · have ho : 0 < other := by
      rcases J with ⟨_, h, _⟩ | ⟨_, _, _, h⟩ | ⟨h, _⟩
      · omega
      · exact h
      · omega
    rcases Nat.eq_zero_or_pos r with h0 | h0
    · right; right
      refine ⟨h0, ho, ?_⟩
      rw [h0] at n1 n2 dm
      simp only [Nat.zero_mul, Nat.add_zero] at n1 n2 dm
      have key : a ≠ b → 2 * b * ls.natAbs ≤ other ∧ 2 * b * lt.natAbs ≤ one := fun ne => by
        have q2 : 2 ≤ q := by
          rcases Nat.lt_or_ge q 2 with h | h
          · have : q = 0 ∨ q = 1 := by omega
            rcases this with h | h
            · rw [h] at dm; omega
            · rw [h] at dm; omega
          · exact h
        have l1 : ls.natAbs = LS := by rcases hs with ⟨_, h, _, _⟩ | ⟨_, h, _, _⟩ <;> omega
        have l2 : lt.natAbs = LT := by rcases hs with ⟨_, _, _, h⟩ | ⟨_, _, _, h⟩ <;> omega
        rw [l1, l2]
        have m1 : b * (2 * LS) ≤ b * (S + q * LS) := Nat.mul_le_mul_left _ (Nat.le_trans (Nat.mul_le_mul_right _ q2) (Nat.le_add_left ..))
        have m2 : b * (2 * LT) ≤ b * (T + q * LT) := Nat.mul_le_mul_left _ (Nat.le_trans (Nat.mul_le_mul_right _ q2) (Nat.le_add_left ..))
        rw [show 2 * b * LS = b * (2 * LS) by rw [Nat.mul_comm 2 b, Nat.mul_assoc], show 2 * b * LT = b * (2 * LT) by rw [Nat.mul_comm 2 b, Nat.mul_assoc]]
        omega
      rcases J with ⟨h1, h2, h3, h4, h5, h6⟩ | ⟨h1, h2, h3, h4⟩ | ⟨h1, _⟩
      · by_cases c : one = other
        · exact .inl ⟨c, h4, h6⟩
        · exact .inr ⟨c, key (by omega)⟩
      · exact .inr ⟨h3, key (by omega)⟩
      · omega
    · right; left
      refine ⟨h0, ml, ?_, ho⟩
      rcases J with ⟨h1, h2, _⟩ | ⟨_, _, h3, _⟩ | ⟨h1, _⟩
      · intro c
        have : a = b := by omega
        rw [this, Nat.mod_self] at hr
        omega
      · exact h3
      · omega
theorem GE.bound {one other a b : Nat} {s ls t lt : Int} (g : GE one other a b s ls t lt) (hb : 0 < b) : s.natAbs ≤ other ∧ ls.natAbs ≤ other ∧ t.natAbs ≤ one ∧ lt.natAbs ≤ one := by
  obtain ⟨S, LS, T, LT, hs, e1, e2⟩ := g.sn
  have m1 := Nat.le_mul_of_pos_left S hb
  have m2 := Nat.le_mul_of_pos_left LS g.pos
  have m3 := Nat.le_mul_of_pos_left T hb
  have m4 := Nat.le_mul_of_pos_left LT g.pos
  rcases hs with ⟨_, _, _, _⟩ | ⟨_, _, _, _⟩ <;> omega
/-- what comes out of it -/
structure GX (one other : Nat) (s t : Int) : Prop where
  bz : (one : Int) * s + other * t = Nat.gcd one other
  z1 : one = 0 → s = 0 ∧ t = if 0 < other then 1 else 0
  z2 : 0 < one → other = 0 → s = 1 ∧ t = 0
  eq : 0 < one → one = other → s = 0 ∧ t = 1
  le : 0 < one → 0 < other → one ≠ other → 2 * Nat.gcd one other * s.natAbs ≤ other ∧ 2 * Nat.gcd one other * t.natAbs ≤ one
theorem GE.done {one other a : Nat} {s ls t lt : Int} (g : GE one other a 0 s ls t lt) (h : 0 < one) : a = Nat.gcd one other ∧ GX one other s t := by
  have e : a = Nat.gcd one other := by rw [← g.gc, Nat.gcd_zero_right]
  refine ⟨e, by rw [← e]; exact g.bz, fun q => by omega, fun _ q => ?_, fun _ q => ?_, fun _ h1 h2 => ?_⟩
  · rcases g.J with ⟨_, _, h3, _, h5, _⟩ | ⟨h1, _⟩ | ⟨_, h1, _⟩
    · exact ⟨h3, h5⟩
    · omega
    · omega
  · rcases g.J with ⟨h1, h2, _⟩ | ⟨h1, _⟩ | ⟨_, _, h1⟩
    · have := g.pos; omega
    · omega
    · rcases h1 with ⟨_, h⟩ | ⟨h, _⟩
      · exact h
      · exact absurd q h
  · rw [← e]
    rcases g.J with ⟨_, h3, _⟩ | ⟨h1, _⟩ | ⟨_, _, h1⟩
    · omega
    · omega
    · rcases h1 with ⟨h, _⟩ | ⟨_, h⟩
      · exact absurd h h2
      · exact h
theorem GX.zero {other : Nat} : GX 0 other 0 (if 0 < other then 1 else 0) := by
  refine ⟨?_, fun _ => ⟨rfl, rfl⟩, fun h => by omega, fun h => by omega, fun h => by omega⟩
  rw [Nat.gcd_zero_left]
  by_cases c : 0 < other
  · rw [if_pos c]; omega
  · rw [if_neg c]; omega
/-- the exact halves -/
theorem GX.two {one other : Nat} {s t : Int} (g : GX one other s t) (h1 : 0 < one) (h2 : 0 < other) (ne : one ≠ other) : (other = 2 * Nat.gcd one other → s = 1) ∧ (one = 2 * Nat.gcd one other → t = 1) := by
  obtain ⟨l1, l2⟩ := g.le h1 h2 ne
  have bz := g.bz
  have gp : 0 < Nat.gcd one other := Nat.gcd_pos_of_pos_left _ h1
  generalize hg : Nat.gcd one other = c at *
  constructor
  · intro e
    have s1 : s.natAbs ≤ 1 := by
      have : 2 * c * s.natAbs ≤ 2 * c * 1 := by omega
      exact Nat.le_of_mul_le_mul_left this (by omega)
    have l2' : 2 * (c : Int) * t ≤ one := by
      have : ((2 * c * t.natAbs : Nat) : Int) ≤ one := by omega
      rw [Int.natCast_mul, Int.natCast_mul] at this
      have q : 2 * (c : Int) * t ≤ 2 * (c : Int) * (t.natAbs : Int) := Int.mul_le_mul_of_nonneg_left (by omega) (by omega)
      exact Int.le_trans q this
    have eo : (other : Int) = 2 * c := by omega
    rw [eo] at bz
    have : s = -1 ∨ s = 0 ∨ s = 1 := by omega
    rcases this with h | h | h
    · rw [h] at bz; omega
    · rw [h, Int.mul_zero, Int.zero_add, Int.mul_assoc, Int.mul_left_comm] at bz
      have : (c : Int) * (2 * t) = c * 1 := by omega
      have := Int.eq_of_mul_eq_mul_left (by omega) this
      omega
    · exact h
  · intro e
    have t1 : t.natAbs ≤ 1 := by
      have : 2 * c * t.natAbs ≤ 2 * c * 1 := by omega
      exact Nat.le_of_mul_le_mul_left this (by omega)
    have l1' : 2 * (c : Int) * s ≤ other := by
      have : ((2 * c * s.natAbs : Nat) : Int) ≤ other := by omega
      rw [Int.natCast_mul, Int.natCast_mul] at this
      have q : 2 * (c : Int) * s ≤ 2 * (c : Int) * (s.natAbs : Int) := Int.mul_le_mul_of_nonneg_left (by omega) (by omega)
      exact Int.le_trans q this
    have eo : (one : Int) = 2 * c := by omega
    rw [eo] at bz
    have : t = -1 ∨ t = 0 ∨ t = 1 := by omega
    rcases this with h | h | h
    · rw [h] at bz; omega
    · rw [h, Int.mul_zero, Int.add_zero, Int.mul_assoc, Int.mul_left_comm] at bz
      have : (c : Int) * (2 * s) = c * 1 := by omega
      have := Int.eq_of_mul_eq_mul_left (by omega) this
      omega
    · exact h
end Mine
open PySem PySem.W PySem.Calls PyProof.Rows
namespace Mine

/-- what a value is, told without the heap -/
inductive V where
  | int (i : Int) | bool (b : Bool) | none | str (s : PySem.Str) | fn (n : PySem.Str) | row (xs : List Int) | tup (vs : List V) | adr (a : Addr)

abbrev GM := PySem.Str → Option Value

noncomputable def Keep (h h' : Heap) : Prop := ∀ b o, h.get? b = some o → h'.get? b = some o
theorem Keep.refl (h : Heap) : Keep h h := fun _ _ e => e
theorem Keep.trans {a b c : Heap} (x : Keep a b) (y : Keep b c) : Keep a c := fun q o e => y q o (x q o e)
theorem Keep.push (h : Heap) (o : Obj) : Keep h (h.push o) := fun _ _ e => Heap.get?_push_of_some o e
theorem Keep.live {h h' : Heap} (x : Keep h h') {b : Addr} (e : h.get? b ≠ none) : h'.get? b ≠ none := by
  cases q : h.get? b with
  | none => exact absurd q e
  | some o => rw [x b o q]; exact fun z => nomatch z
theorem Keep.dead {h h' : Heap} (x : Keep h h') {b : Addr} (e : h'.get? b = none) : h.get? b = none := by
  cases q : h.get? b with
  | none => rfl
  | some o => rw [x b o q] at e; cases e
theorem get_size (h : Heap) : h.get? h.objs.size = none := by
  cases q : h.get? h.objs.size with
  | none => rfl
  | some o => exact absurd (Heap.lt_size q) (Nat.lt_irrefl _)

inductive Rep (mg : GM) (h : Heap) (H : List Addr) : Value → V → Prop
  | int (i : Int) (t : Tok) : Rep mg h H (.int i t) (.int i)
  | bool (b : Bool) : Rep mg h H (.bool b) (.bool b)
  | none : Rep mg h H .none .none
  | str (s : PySem.Str) (t : Tok) : Rep mg h H (.str s t) (.str s)
  | fn {n : PySem.Str} {a : Addr} (e : mg n = some (.ref a)) : Rep mg h H (.ref a) (.fn n)
  | adr (a : Addr) : Rep mg h H (.ref a) (.adr a)
  | row {a : Addr} {vs : List Value} {xs : List Int} (ha : a ∉ H) (hl : h.IsList a vs.toArray) (hi : IntsAre vs xs) : Rep mg h H (.ref a) (.row xs)
  | tup {a : Addr} {vs : List Value} {xs : List V} (ha : a ∉ H) (hl : IsTup h a vs.toArray) (hn : vs.length = xs.length)
      (hi : ∀ (i : Nat) v x, vs[i]? = some v → xs[i]? = some x → Rep mg h H v x) : Rep mg h H (.ref a) (.tup xs)

noncomputable def Ext (h : Heap) (H : List Addr) (h' : Heap) (H' : List Addr) : Prop := ∀ b o, b ∉ H → h.get? b = some o → b ∉ H' ∧ h'.get? b = some o
theorem Ext.keep {h h' : Heap} {H : List Addr} (k : Keep h h') : Ext h H h' H := fun b o n e => ⟨n, k b o e⟩

theorem Rep.mono {mg : GM} {h h' : Heap} {H H' : List Addr} (x : Ext h H h' H') : ∀ {v : Value} {V : V}, Rep mg h H v V → Rep mg h' H' v V := by
  intro v V r
  induction r with
  | int i t => exact .int i t
  | bool b => exact .bool b
  | none => exact .none
  | str s t => exact .str s t
  | fn e => exact .fn e
  | adr a => exact .adr a
  | row ha hl hi =>
    obtain ⟨o, ho, r⟩ := hl
    have := x _ _ ha ho
    exact .row this.1 ⟨o, this.2, r⟩ hi
  | tup ha hl hn _ ih =>
    obtain ⟨o, ho, r⟩ := hl
    have := x _ _ ha ho
    exact .tup this.1 ⟨o, this.2, r⟩ hn ih

theorem Rep.keep {mg : GM} {h h' : Heap} {H : List Addr} (k : Keep h h') {v : Value} {V : V} (r : Rep mg h H v V) : Rep mg h' H v V := r.mono (Ext.keep k)

noncomputable def Reps (mg : GM) (h : Heap) (H : List Addr) : List Value → List V → Prop
  | [], [] => True
  | v :: vs, x :: xs => Rep mg h H v x ∧ Reps mg h H vs xs
  | _, _ => False
theorem Reps.mono {mg : GM} {h h' : Heap} {H H' : List Addr} (x : Ext h H h' H') : ∀ {vs : List Value} {xs : List V}, Reps mg h H vs xs → Reps mg h' H' vs xs
  | [], [], _ => trivial
  | _ :: _, _ :: _, r => ⟨r.1.mono x, Reps.mono x r.2⟩
theorem Reps.length {mg : GM} {h : Heap} {H : List Addr} : ∀ {vs : List Value} {xs : List V}, Reps mg h H vs xs → vs.length = xs.length
  | [], [], _ => rfl
  | _ :: _, _ :: _, r => congrArg (· + 1) (Reps.length r.2)
theorem Reps.at {mg : GM} {h : Heap} {H : List Addr} : ∀ {vs : List Value} {xs : List V}, Reps mg h H vs xs → ∀ (i : Nat) v x, vs[i]? = some v → xs[i]? = some x → Rep mg h H v x
  | [], [], _, i, v, x, e, _ => by simp at e
  | _ :: _, _ :: _, r, 0, v, x, e, f => by simp at e f; subst e; subst f; exact r.1
  | _ :: _, _ :: _, r, i + 1, v, x, e, f => Reps.at r.2 i v x (by simpa using e) (by simpa using f)
theorem Reps.of {mg : GM} {h : Heap} {H : List Addr} : ∀ {vs : List Value} {xs : List V}, vs.length = xs.length → (∀ (i : Nat) v x, vs[i]? = some v → xs[i]? = some x → Rep mg h H v x) → Reps mg h H vs xs
  | [], [], _, _ => trivial
  | v :: vs, x :: xs, e, f => ⟨f 0 v x rfl rfl, Reps.of (by simpa using e) fun i v x a b => f (i + 1) v x (by simpa using a) (by simpa using b)⟩
theorem Rep.tup_of {mg : GM} {h : Heap} {H : List Addr} {a : Addr} {vs : List Value} {xs : List V} (ha : a ∉ H) (hl : IsTup h a vs.toArray) (r : Reps mg h H vs xs) : Rep mg h H (.ref a) (.tup xs) :=
  .tup ha hl r.length r.at
theorem Rep.tup_inv {mg : GM} {h : Heap} {H : List Addr} {v : Value} {xs : List V} (r : Rep mg h H v (.tup xs)) : ∃ a vs, v = .ref a ∧ a ∉ H ∧ IsTup h a vs.toArray ∧ Reps mg h H vs xs := by
  cases r with
  | tup ha hl hn hi => exact ⟨_, _, rfl, ha, hl, Reps.of hn hi⟩
theorem Rep.row_inv {mg : GM} {h : Heap} {H : List Addr} {v : Value} {xs : List Int} (r : Rep mg h H v (.row xs)) : ∃ a vs, v = .ref a ∧ a ∉ H ∧ h.IsList a vs.toArray ∧ IntsAre vs xs := by
  cases r with
  | row ha hl hi => exact ⟨_, _, rfl, ha, hl, hi⟩
theorem Rep.int_inv {mg : GM} {h : Heap} {H : List Addr} {v : Value} {i : Int} (r : Rep mg h H v (.int i)) : ∃ t, v = .int i t := by
  cases r; exact ⟨_, rfl⟩
theorem Rep.bool_inv {mg : GM} {h : Heap} {H : List Addr} {v : Value} {i : Bool} (r : Rep mg h H v (.bool i)) : v = .bool i := by
  cases r; rfl
theorem Rep.str_inv {mg : GM} {h : Heap} {H : List Addr} {v : Value} {i : PySem.Str} (r : Rep mg h H v (.str i)) : ∃ t, v = .str i t := by
  cases r; exact ⟨_, rfl⟩
theorem Rep.fn_inv {mg : GM} {h : Heap} {H : List Addr} {v : Value} {n : PySem.Str} (r : Rep mg h H v (.fn n)) : ∃ a, v = .ref a ∧ mg n = some (.ref a) := by
  cases r with
  | fn e => exact ⟨_, rfl, e⟩

/-- the text's defs, by their places -/
noncomputable def stmts : List Stmt := PySem.Challenge.pw_nn0036_01.main.body
noncomputable def dOf : Stmt → Option DefRec
  | .FunctionDef name a b _ _ _ sc _ _ pos => some ⟨name, a, b, sc, pos⟩
  | _ => none
noncomputable def defs : List DefRec := stmts.filterMap dOf
noncomputable def dNone : DefRec := ⟨"", { posonlyargs := [], args := [], vararg := none, kwonlyargs := [], kw_defaults := [], kwarg := none, defaults := [] }, [], { kind := .function, names := [], isGenerator := false, isCoroutine := false }, ⟨0, 0, 0, 0⟩⟩
noncomputable def dAt (i : Nat) : DefRec := ((stmts[i]?).bind dOf).getD dNone
theorem dAt_mem {i : Nat} (h : (((stmts[i]?).bind dOf).isSome) = true) : dAt i ∈ defs := by
  unfold dAt defs
  cases q : stmts[i]? with
  | none => rw [q] at h; cases h
  | some st =>
    rw [q] at h
    simp only [Option.bind_some] at h ⊢
    cases r : dOf st with
    | none => rw [r] at h; cases h
    | some d => exact List.mem_filterMap.mpr ⟨st, List.mem_of_getElem? q, r⟩

noncomputable def bnames : List PySem.Str := ["len", "range", "abs", "int", "min", "max", "enumerate"]

/-- what stands at the top -/
structure Gd (mg mb : GM) (h : Heap) : Prop where
  g : h.Ns mainGlobals mg
  b : h.Ns builtinsNs mb
  lim : h.NoLimit
  bi : ∀ x : PySem.Str, x ≠ "__name__" → mb x = bootBuiltins x
  free : ∀ x ∈ bnames, mg x = none
  fn : ∀ d ∈ defs, ∃ a o pm code doc, mg d.name = some (.ref a) ∧ h.get? a = some o ∧ o.data = .func (docDef d.name d.params d.body d.scope pm code doc) ∧ h.CodeRec code d.name
  unit : ∃ v, mg "UNIT" = some v ∧ Rep mg h [] v (.tup [.row [1], .row [], .row [], .row [1]])
  noinv : ∃ (Cc : Addr) (bm : List Value) (newId initId B : String), OwnClsQ "NoInverse" Cc bm newId mg h ∧ ExcBaseFacts B newId initId bm ∧ bm.contains (.type "BaseException") = true

/-- the top, at the call's start -/
structure Tp where
  prog : Program
  w : World
  mg : GM
  mb : GM
  hg : Heap
  gd : Gd mg mb hg

/-- a frame's own names, and what it keeps -/
structure Frm (h₀ : Heap) (L : Addr) (h : Heap) (m : PySem.Str → Option Value) : Prop where
  ns : h.Ns L m
  keep : ∀ b o, h₀.get? b = some o → h.get? b = some o
  new : h₀.get? L = none
theorem Frm.set {h₀ h h' : Heap} {L : Addr} {m m' : PySem.Str → Option Value} (F : Frm h₀ L h m) (hn : h'.Ns L m') (hs : Heap.SameBut L h h') : Frm h₀ L h' m' :=
  ⟨hn, fun b o e => (hs.2 b fun q => by rw [q, F.new] at e; cases e).trans (F.keep b o e), F.new⟩

/-- the frame at hand and what lies below it -/
structure Cx (T : Tp) where
  A : Around
  hb : Heap
  L : Addr
  D : List Addr
  fa : Addr
  cd : Value
  cl : List (PySem.Str × Addr) := []
  room : Nat
  hh : A.handled = none
  hle : Keep T.hg hb
  hD : ∀ b ∈ D, T.hg.get? b = none
  rm : A.depth + room ≤ recursionLimit
  un : A.units + 4 * room + 100 ≤ cLine

variable {T : Tp}

abbrev Cx.env (C : Cx T) (d : DefRec) : Env := { envOf d.name d.scope C.L C.fa C.cd with cells := C.cl }
/-- what this frame hides: its own lists, and what it is walking along -/
structure Own where
  o : List Addr
  x : List Addr
noncomputable def Cx.hid (C : Cx T) (O : Own) : List Addr := C.L :: (O.o ++ (O.x ++ C.D))
theorem mem_hid {C : Cx T} {O : Own} {b : Addr} : b ∈ C.hid O ↔ b = C.L ∨ b ∈ O.o ∨ b ∈ O.x ∨ b ∈ C.D := by
  simp only [Cx.hid, List.mem_cons, List.mem_append]

/-- what a local name holds -/
inductive LV where
  | val (v : V)
  | own (xs : List Int)
  | arr (xs : List Int)
  | pin (a : Addr) (xs : List Int)
  | box (a b : Addr) (xs : List Int) (k : Int)

abbrev Loc := List (PySem.Str × LV)

noncomputable def LRep (C : Cx T) (h : Heap) (O : Own) (v : Value) : LV → Prop
  | .val x => Rep T.mg h (C.hid O) v x
  | .own xs => ∃ a vs, v = .ref a ∧ a ∈ O.o ∧ PlainL h a vs.toArray ∧ IntsAre vs xs
  | .arr xs => ∃ a vs, v = .ref a ∧ a ∈ O.o ∧ h.IsList a vs.toArray ∧ IntsAre vs xs
  | .pin a xs => ∃ vs, v = .ref a ∧ a ∈ O.o ∧ h.IsList a vs.toArray ∧ IntsAre vs xs
  | .box a b xs k => ∃ t vs n, v = .ref a ∧ a ∈ O.o ∧ b ∈ O.o ∧ a ≠ b ∧ h.IsList a #[.ref b, .int k t] ∧ IsL h b vs.toArray n ∧ IntsAre vs xs

noncomputable def LV.isOwn : LV → Bool
  | .val _ => false
  | _ => true
noncomputable def LV.isBox : LV → Bool
  | .box .. => true
  | _ => false

structure St (d : DefRec) (C : Cx T) (ρ : Loc) (O : Own) (s : Shared) (m : PySem.Str → Option Value) : Prop where
  kind : d.scope.kind = .function
  fr : Frm C.hb C.L s.heap m
  loc : ∀ x lv, ρ.lookup x = some lv → ∃ v, m x = some v ∧ LRep C s.heap O v lv
  dst : ∀ x y lv lv', x ≠ y → ρ.lookup x = some lv → ρ.lookup y = some lv' → lv.isOwn = true → lv'.isOwn = true → m x ≠ m y ∧ lv.isBox = false
  fresh : ∀ b, (b ∈ O.o ∨ b ∈ O.x) → C.hb.get? b = none ∧ b ≠ C.L ∧ b ∉ C.D
  apart : ∀ b ∈ O.o, b ∉ O.x
  dlt : ∀ b ∈ C.hid O, s.heap.get? b ≠ none

variable {d : DefRec} {C : Cx T} {ρ : Loc} {O : Own} {s s' : Shared} {m : PySem.Str → Option Value}

theorem St.hg (S : St d C ρ O s m) : Keep T.hg s.heap := fun b o e => S.fr.keep b o (C.hle b o e)
theorem St.hidn (S : St d C ρ O s m) : ∀ b ∈ C.hid O, T.hg.get? b = none ∧ s.heap.get? b ≠ none := by
  intro b hb
  refine ⟨?_, S.dlt b hb⟩
  have own : (b ∈ O.o ∨ b ∈ O.x) → T.hg.get? b = none := fun h => by
    cases q : T.hg.get? b with
    | none => rfl
    | some o => have := C.hle _ _ q; rw [(S.fresh b h).1] at this; cases this
  rcases mem_hid.mp hb with rfl | h | h | h
  · cases q : T.hg.get? C.L with
    | none => rfl
    | some o => have := C.hle _ _ q; rw [S.fr.new] at this; cases this
  · exact own (.inl h)
  · exact own (.inr h)
  · exact C.hD b h

theorem LRep.keep {h h' : Heap} {v : Value} (k : Keep h h') : ∀ {lv : LV}, LRep C h O v lv → LRep C h' O v lv
  | .val _, r => Rep.keep k r
  | .own _, ⟨a, vs, e, ho, hp, hi⟩ => ⟨a, vs, e, ho, hp.keeps k, hi⟩
  | .arr _, ⟨a, vs, e, ho, ⟨o, q, r⟩, hi⟩ => ⟨a, vs, e, ho, ⟨o, k _ _ q, r⟩, hi⟩
  | .pin _ _, ⟨vs, e, ho, ⟨o, q, r⟩, hi⟩ => ⟨vs, e, ho, ⟨o, k _ _ q, r⟩, hi⟩
  | .box _ _ _ _, ⟨t, vs, n, e, ho, hb, hn, ⟨o, q, r⟩, q', hi⟩ => ⟨t, vs, n, e, ho, hb, hn, ⟨o, k _ _ q, r⟩, k _ _ q', hi⟩

theorem St.keep (S : St d C ρ O s m) (k : Keep s.heap s'.heap) : St d C ρ O s' m where
  kind := S.kind
  fr := ⟨S.fr.ns.keeps k, fun b o e => k _ _ (S.fr.keep b o e), S.fr.new⟩
  loc := fun x lv e => let ⟨v, a, b⟩ := S.loc x lv e; ⟨v, a, b.keep k⟩
  dst := S.dst
  fresh := S.fresh
  apart := S.apart
  dlt := fun b hb => k.live (S.dlt b hb)

/-- an expression that changes nothing has this value -/
structure EV (d : DefRec) (C : Cx T) (ρ : Loc) (e : Expr) (x : V) : Prop where
  mk ::
  run : ∀ O s m (Q E : Value → Shared → Prop), St d C ρ O s m → (∀ v h' tk, Keep s.heap h' → Rep T.mg h' (C.hid O) v x → Q v { s with heap := h', toks := tk }) →
    wpAny (model T.prog T.w) C.A (eval e (C.env d)) Q E s

/-- a list of them, as a call's arguments or a display's items -/
structure EVs (d : DefRec) (C : Cx T) (ρ : Loc) (es : List Expr) (xs : List V) : Prop where
  mk ::
  run : ∀ O s m pos (Q : List Value → Shared → Prop) (E : Value → Shared → Prop), St d C ρ O s m → (∀ vs h' tk, Keep s.heap h' → Reps T.mg h' (C.hid O) vs xs → Q vs { s with heap := h', toks := tk }) →
    wpAny (model T.prog T.w) C.A (spliced (backTo pos (starEach es (C.env d)))) Q E s

/-- a test -/
structure ET (d : DefRec) (C : Cx T) (ρ : Loc) (e : Expr) (b : Bool) : Prop where
  mk ::
  run : ∀ O s m (Q : Bool → Shared → Prop) (E : Value → Shared → Prop), St d C ρ O s m → (∀ h' tk, Keep s.heap h' → Q b { s with heap := h', toks := tk }) →
    wpAny (model T.prog T.w) C.A (isTrue e (C.env d) (eval e (C.env d))) Q E s

/-- an expression gives a list that may be read -/
structure ER (d : DefRec) (C : Cx T) (ρ : Loc) (e : Expr) (xs : List Int) : Prop where
  mk ::
  run : ∀ O s m (Q E : Value → Shared → Prop), St d C ρ O s m → (∀ a vs h' tk, Keep s.heap h' → h'.IsList a vs.toArray → IntsAre vs xs → Q (.ref a) { s with heap := h', toks := tk }) →
    wpAny (model T.prog T.w) C.A (eval e (C.env d)) Q E s

/-- an expression gives a new list that nobody else has -/
structure EF (d : DefRec) (C : Cx T) (ρ : Loc) (e : Expr) (xs : List Int) : Prop where
  mk ::
  run : ∀ O s m (Q E : Value → Shared → Prop), St d C ρ O s m → (∀ a vs n h' tk, Keep s.heap h' → s.heap.get? a = none → IsL h' a vs n → IntsAre vs.toList xs → Q (.ref a) { s with heap := h', toks := tk }) →
    wpAny (model T.prog T.w) C.A (eval e (C.env d)) Q E s

/-- a call of a def, whatever the caller -/
noncomputable def FN (T : Tp) (name : PySem.Str) (n : Nat) (Vs : List V) (x : V) : Prop :=
  (∃ d ∈ defs, d.name = name) ∧
  ∀ (A : Around) (s : Shared) (D : List Addr) (vs : List Value) (a : Addr) (Q E : Value → Shared → Prop), Keep T.hg s.heap → (∀ b ∈ D, T.hg.get? b = none ∧ s.heap.get? b ≠ none) →
    A.handled = none → A.depth + n < recursionLimit → A.units + 4 * n + 104 ≤ cLine → T.mg name = some (.ref a) → Reps T.mg s.heap D vs Vs →
    (∀ v h' tk, Keep s.heap h' → Rep T.mg h' D v x → Q v { s with heap := h', toks := tk }) → wpAny (model T.prog T.w) A (call (.ref a) vs) Q E s

end Mine
namespace Mine
variable {T : Tp} {d : DefRec} {C : Cx T} {ρ : Loc}

theorem ldF {s : Shared} {m : PySem.Str → Option Value} {x : PySem.Str} {pos : Pos} {v : Value} {Q E : Value → Shared → Prop} (F : Frm C.hb C.L s.heap m) (hv : m x = some v) (h : Q v s) (hk : d.scope.kind = .function) (hl : (C.env d).kindOf x = some .local) (hd : (x == ("__debug__" : PySem.Str)) = false) :
    wpAny (model T.prog T.w) C.A (eval (.Name x pos) (C.env d)) Q E s := wpAny_Name (wpAny_loadName_local (env := C.env d) hk hl F.ns hv h) hd
theorem ldnF {s : Shared} {m : PySem.Str → Option Value} {x : PySem.Str} {v : Value} {Q E : Value → Shared → Prop} (F : Frm C.hb C.L s.heap m) (hv : m x = some v) (h : Q v s) (hk : d.scope.kind = .function) (hl : (C.env d).kindOf x = some .local) :
    wpAny (model T.prog T.w) C.A (loadName (C.env d) x) Q E s := wpAny_loadName_local (env := C.env d) hk hl F.ns hv h
theorem EV.cell {x : PySem.Str} {pos : Pos} {c : Addr} {i : Int} {t : Tok} (hc : C.cl.lookup x = some c) (hv : C.hb.IsCell c (some (.int i t))) (hx : (C.env d).kindOf x = some .cell) (hd : (x == ("__debug__" : PySem.Str)) = false) :
    EV d C ρ (.Name x pos) (.int i) := by
  refine ⟨fun O s m Q E S k => ?_⟩
  exact wpAny_Name (wpAny_loadName_cell (env := C.env d) S.kind hx hc (hv.keeps S.fr.keep) (k _ s.heap s.toks (Keep.refl _) (.int _ _))) hd
theorem EV.name {x : PySem.Str} {pos : Pos} {v : V} (h : ρ.lookup x = some (.val v)) (hx : (C.env d).kindOf x = some .local) (hd : (x == ("__debug__" : PySem.Str)) = false) :
    EV d C ρ (.Name x pos) v := by
  refine ⟨fun O s m Q E S k => ?_⟩
  obtain ⟨u, hv, r⟩ := S.loc x _ h
  exact ldF S.fr hv (k u s.heap s.toks (Keep.refl _) r) S.kind hx hd

theorem EV.glob {x : PySem.Str} {pos : Pos} {v : V} {u : Value} (e : T.mg x = some u) (r : ∀ h H, Keep T.hg h → (∀ b ∈ H, T.hg.get? b = none) → Rep T.mg h H u v) (hx : (C.env d).kindOf x = some .globalImplicit) (hd : (x == ("__debug__" : PySem.Str)) = false) :
    EV d C ρ (.Name x pos) v := by
  refine ⟨fun O s m Q E S k => ?_⟩
  exact Name_function_global S.kind hx (loadGlobal_global (env := C.env d) (T.gd.g.keeps S.hg) e (k _ s.heap s.toks (Keep.refl _) (r _ _ S.hg fun b hb => (S.hidn b hb).1))) hd

theorem EV.fn {x : PySem.Str} {pos : Pos} {n : Nat} {Vs : List V} {y : V} (h : FN T x n Vs y) (hx : (C.env d).kindOf x = some .globalImplicit) (hd : (x == ("__debug__" : PySem.Str)) = false) :
    EV d C ρ (.Name x pos) (.fn x) := by
  obtain ⟨⟨d', hd', rfl⟩, _⟩ := h
  obtain ⟨a, o, pm, code, doc, h1, h2, h3, h4⟩ := T.gd.fn d' hd'
  exact EV.glob h1 (fun _ _ _ _ => .fn h1) hx hd

theorem EV.unit {pos : Pos} (hx : (C.env d).kindOf "UNIT" = some .globalImplicit) : EV d C ρ (.Name "UNIT" pos) (.tup [.row [1], .row [], .row [], .row [1]]) := by
  obtain ⟨v, e, r⟩ := T.gd.unit
  exact EV.glob e (fun h H k n => r.mono fun b o _ q => ⟨fun hb => (nomatch (n b hb).symm.trans q), k _ _ q⟩) hx (by decide)

theorem EV.int {i : Int} {k' pos} : EV d C ρ (.Constant (.int i) k' pos) (.int i) := ⟨fun _ s _ _ _ _ k => wpAny_Constant_int (k _ _ _ (Keep.refl s.heap) (.int _ _))⟩
theorem EV.str {i : PySem.Str} {k' pos} : EV d C ρ (.Constant (.str i) k' pos) (.str i) := ⟨fun _ s _ _ _ _ k => wpAny_Constant_str (k _ _ _ (Keep.refl s.heap) (.str _ _))⟩
theorem EV.bool {i : Bool} {k' pos} : EV d C ρ (.Constant (.bool i) k' pos) (.bool i) := ⟨fun _ s _ _ _ _ k => wpAny_Constant_bool (k _ s.heap s.toks (Keep.refl _) (.bool _))⟩

/-- an operation upon two ints -/
structure OpI (op : Operator) (a b r : Int) : Prop where
  mk ::
  run : ∀ (prog : Program) (w : World) (A : Around) (t u : Tok) (s : Shared) (Q E : Value → Shared → Prop),
  (∀ t' tk, Q (.int r t') { s with toks := tk }) → wpAny (model prog w) A (binaryOp op (.int a t) (.int b u)) Q E s
theorem EV.bin {op : Operator} {e₁ e₂ : Expr} {pos : Pos} {a b r : Int} (h₁ : EV d C ρ e₁ (.int a)) (h₂ : EV d C ρ e₂ (.int b)) (ho : OpI op a b r) : EV d C ρ (.BinOp e₁ op e₂ pos) (.int r) := by
  refine ⟨fun O s m Q E S k => ?_⟩
  refine wpAny_BinOp (h₁.run O s m _ _ S fun v h' tk K r₁ => h₂.run O _ m _ _ (S.keep K) fun v' h'' tk' K' r₂ => ?_)
  obtain ⟨t, rfl⟩ := r₁.int_inv
  obtain ⟨u, rfl⟩ := r₂.int_inv
  exact ho.run _ _ _ _ _ _ _ _ fun t' tk => k _ _ _ (K.trans K') (.int _ _)

theorem OpI.add {a b : Int} : OpI .Add a b (a + b) := ⟨fun _ _ _ _ _ _ _ _ k => add_int (k _ _)⟩
theorem OpI.sub {a b : Int} : OpI .Sub a b (a - b) := ⟨fun _ _ _ _ _ _ _ _ k => sub_int (k _ _)⟩
theorem intBits_small {a : Int} (h : a.natAbs < 2 ^ 1000) : Builtin.Int.intBits a ≤ 2 ^ 20 := by
  have : Builtin.Int.intBits a ≤ 1000 := intBits_le h
  exact Nat.le_trans this (by decide)
theorem OpI.mul {a b : Int} (ha : a.natAbs < 2 ^ 1000) (hb : b.natAbs < 2 ^ 1000) : OpI .Mult a b (a * b) := ⟨fun _ _ _ _ _ _ _ _ k => mul_int (k _ _) (IntMulOk.of_bits (intBits_small ha) (intBits_small hb))⟩
theorem noPy {a b : Int} (h : b.natAbs < 2 ^ 1000) : Builtin.divisionGoesByPylong a b = false := by
  refine PyProof.noPylong_of_log2 ?_
  by_cases h0 : b.natAbs = 0
  · rw [h0]; decide +kernel
  · exact Nat.lt_of_lt_of_le ((Nat.log2_lt h0).mpr h) (by decide)
theorem OpI.fdiv {a b : Int} (h0 : b ≠ 0) (hb : b.natAbs < 2 ^ 1000) : OpI .FloorDiv a b (a.fdiv b) := ⟨fun _ _ _ _ _ _ _ _ k => floordiv_int h0 (k _ _) (.inl (noPy hb))⟩
theorem OpI.mod {a b : Int} (h0 : b ≠ 0) : OpI .Mod a b (a.fmod b) := ⟨fun _ _ _ _ _ _ _ _ k => mod_int' h0 (k _ _)⟩
theorem OpI.shl {a b : Int} (h0 : 0 ≤ b) (h1 : b ≤ 1000000) (ha : a.natAbs < 2 ^ 64) : OpI .LShift a b (a * 2 ^ b.toNat) := ⟨fun _ _ _ _ _ _ _ _ k => lshift_int_small h0 h1 ha (k _ _)⟩
theorem OpI.shr {a b : Int} (h0 : 0 ≤ b) : OpI .RShift a b (a.fdiv (2 ^ b.toNat)) := ⟨fun _ _ _ _ _ _ _ _ k => rshift_int h0 (k _ _)⟩
theorem OpI.and {a b : Int} : OpI .BitAnd a b (Builtin.bitAnd a b) := ⟨fun _ _ _ _ _ _ _ _ k => and_int (k _ _)⟩
theorem OpI.or {a b : Int} : OpI .BitOr a b (Builtin.bitOr a b) := ⟨fun _ _ _ _ _ _ _ _ k => or_int (k _ _)⟩
theorem OpI.to {op : Operator} {a b r r' : Int} (h : OpI op a b r) (e : r = r') : OpI op a b r' := e ▸ h

theorem EV.to {e : Expr} {x y : V} (h : EV d C ρ e x) (q : x = y) : EV d C ρ e y := q ▸ h
theorem EV.toI {e : Expr} {x y : Int} (h : EV d C ρ e (.int x)) (q : x = y) : EV d C ρ e (.int y) := q ▸ h

theorem EV.neg {e : Expr} {pos : Pos} {a : Int} (h : EV d C ρ e (.int a)) : EV d C ρ (.UnaryOp .USub e pos) (.int (-a)) := by
  refine ⟨fun O s m Q E S k => ?_⟩
  refine wpAny_UnaryOp (h.run O s m _ _ S fun v h' tk K r => ?_)
  obtain ⟨t, rfl⟩ := r.int_inv
  exact neg_int (k _ _ _ K (.int _ _))
theorem EV.not {e : Expr} {pos : Pos} {b : Bool} (h : EV d C ρ e (.bool b)) : EV d C ρ (.UnaryOp .Not e pos) (.bool !b) := by
  refine ⟨fun O s m Q E S k => ?_⟩
  refine wpAny_UnaryOp (h.run O s m _ _ S fun v h' tk K r => ?_)
  obtain rfl := r.bool_inv
  exact not_of (wpAny_truthy_bool (k _ _ _ K (.bool _)))

/-- a comparison of two ints -/
noncomputable def CmI (op : CmpOp) (a b : Int) (r : Bool) : Prop := ∀ (prog : Program) (w : World) (A : Around) (t u : Tok) (s : Shared) (Q E : Value → Shared → Prop),
  Q (.bool r) s → wpAny (model prog w) A (compareOp op (.int a t) (.int b u)) Q E s
theorem CmI.lt {a b : Int} : CmI .Lt a b (decide (a < b)) := fun _ _ _ _ _ _ _ _ k => lt_int k
theorem CmI.le {a b : Int} : CmI .LtE a b (decide (a ≤ b)) := fun _ _ _ _ _ _ _ _ k => le_int k
theorem CmI.gt {a b : Int} : CmI .Gt a b (decide (b < a)) := fun _ _ _ _ _ _ _ _ k => gt_int k
theorem CmI.ge {a b : Int} : CmI .GtE a b (decide (b ≤ a)) := fun _ _ _ _ _ _ _ _ k => ge_int k
theorem CmI.eq {a b : Int} : CmI .Eq a b (decide (a = b)) := fun _ _ _ _ _ _ _ _ k => eq_int (by rw [show (a == b) = decide (a = b) from by by_cases h : a = b <;> simp [h]]; exact k)
theorem CmI.ne {a b : Int} : CmI .NotEq a b (!decide (a = b)) := fun _ _ _ _ _ _ _ _ k => ne_int (by rw [show (a != b) = !decide (a = b) from by by_cases h : a = b <;> simp [h]]; exact k)

/-- a comparison of two values -/
noncomputable def CmV (op : CmpOp) (x y : V) (r : Bool) : Prop := ∀ (T : Tp) (A : Around) (s : Shared) (H : List Addr) (u v : Value) (Q E : Value → Shared → Prop), A.handled = none → A.units + 100 ≤ cLine → Rep T.mg s.heap H u x → Rep T.mg s.heap H v y →
  (∀ h' tk, Keep s.heap h' → Q (.bool r) { s with heap := h', toks := tk }) → wpAny (model T.prog T.w) A (compareOp op u v) Q E s
theorem CmI.toV {op : CmpOp} {a b : Int} {r : Bool} (h : CmI op a b r) : CmV op (.int a) (.int b) r := by
  intro T A s H u v Q E _ _ ru rv k
  obtain ⟨t, rfl⟩ := ru.int_inv
  obtain ⟨t', rfl⟩ := rv.int_inv
  exact h _ _ _ _ _ _ _ _ (k s.heap s.toks (Keep.refl _))
theorem CmV.bool_eq {a b : Bool} : CmV .Eq (.bool a) (.bool b) (a == b) := by
  intro T A s H u v Q E _ _ ru rv k
  obtain rfl := ru.bool_inv
  obtain rfl := rv.bool_inv
  exact eq_bool (k s.heap s.toks (Keep.refl _))
theorem CmV.bool_ne {a b : Bool} : CmV .NotEq (.bool a) (.bool b) (a != b) := by
  intro T A s H u v Q E _ _ ru rv k
  obtain rfl := ru.bool_inv
  obtain rfl := rv.bool_inv
  exact ne_bool (k s.heap s.toks (Keep.refl _))

theorem EV.cmp {op : CmpOp} {l r : Expr} {pos : Pos} {x y : V} {b : Bool} (h₁ : EV d C ρ l x) (h₂ : EV d C ρ r y) (ho : CmV op x y b) (hm : behindInMarks op r = false) : EV d C ρ (.Compare l [op] [r] pos) (.bool b) := by
  refine ⟨fun O s m Q E S k => ?_⟩
  have hu : C.A.units + 100 ≤ cLine := by have := C.un; omega
  refine wpAny_Compare1 (h₁.run O s m _ _ S fun v h' tk K r₁ => h₂.run O _ m _ _ (S.keep K) fun v' h'' tk' K' r₂ => ?_) hm
  exact ho T _ _ _ _ _ _ _ C.hh hu (r₁.keep K') r₂ fun h3 tk3 K3 => k _ _ _ ((K.trans K').trans K3) (.bool _)
theorem ET.cmp {op : CmpOp} {l r : Expr} {pos : Pos} {x y : V} {b : Bool} (h₁ : EV d C ρ l x) (h₂ : EV d C ρ r y) (ho : CmV op x y b) (hm : behindInMarks op r = false) : ET d C ρ (.Compare l [op] [r] pos) b := by
  refine ⟨fun O s m Q E S k => ?_⟩
  have hu : C.A.units + 100 ≤ cLine := by have := C.un; omega
  refine wpAny_isTrue_Compare1 (h₁.run O s m _ _ S fun v h' tk K r₁ => h₂.run O _ m _ _ (S.keep K) fun v' h'' tk' K' r₂ => ?_) hm
  exact ho T _ _ _ _ _ _ _ C.hh hu (r₁.keep K') r₂ fun h3 tk3 K3 => wpAny_truthy_bool (k _ _ ((K.trans K').trans K3))

theorem ET.not {x : Expr} {pos : Pos} {b : Bool} (h : ET d C ρ x b) : ET d C ρ (.UnaryOp .Not x pos) !b := by
  refine ⟨fun O s m Q E S k => ?_⟩
  exact wpAny_isTrue_Not (h.run O s m _ _ S fun h' tk K => k h' tk K)
theorem ET.val {e : Expr} {b : Bool} (h : EV d C ρ e (.bool b)) (he : ∀ whole, isTrue e (C.env d) whole = (do let v ← whole; standAt e.pos; holding [v] (truthy v))) : ET d C ρ e b := by
  refine ⟨fun O s m Q E S k => ?_⟩
  refine wpAny_isTrue_value (h.run O s m _ _ S fun v h' tk K r => ?_) (he _)
  obtain rfl := r.bool_inv
  exact wpAny_truthy_bool (k _ _ K)

/-- tests one behind the other -/
structure ETs (d : DefRec) (C : Cx T) (ρ : Loc) (op : BoolOp) (es : List Expr) (b : Bool) : Prop where
  mk ::
  run : ∀ O s m (Q : Bool → Shared → Prop) (E : Value → Shared → Prop), St d C ρ O s m → (∀ h' tk, Keep s.heap h' → Q b { s with heap := h', toks := tk }) →
    wpAny (model T.prog T.w) C.A (allTrue op es (C.env d)) Q E s
theorem ETs.and_nil : ETs d C ρ .And [] true := ⟨fun _ s _ _ _ _ k => wpAny_allTrue_And_nil (k s.heap s.toks (Keep.refl _))⟩
theorem ETs.or_nil : ETs d C ρ .Or [] false := ⟨fun _ s _ _ _ _ k => wpAny_allTrue_Or_nil (k s.heap s.toks (Keep.refl _))⟩
theorem ETs.and_cons {e : Expr} {es : List Expr} {b c : Bool} (h : ET d C ρ e b) (h' : b = true → ETs d C ρ .And es c) : ETs d C ρ .And (e :: es) (b && c) := by
  refine ⟨fun O s m Q E S k => ?_⟩
  refine wpAny_allTrue_And_cons (h.run O s m _ _ S fun h₁ tk K => ?_)
  cases b with
  | false => exact k _ _ K
  | true => exact (h' rfl).run O _ m _ _ (S.keep K) fun h₂ tk₂ K₂ => k _ _ (K.trans K₂)
theorem ETs.or_cons {e : Expr} {es : List Expr} {b c : Bool} (h : ET d C ρ e b) (h' : b = false → ETs d C ρ .Or es c) : ETs d C ρ .Or (e :: es) (b || c) := by
  refine ⟨fun O s m Q E S k => ?_⟩
  refine wpAny_allTrue_Or_cons (h.run O s m _ _ S fun h₁ tk K => ?_)
  cases b with
  | true => exact k _ _ K
  | false => exact (h' rfl).run O _ m _ _ (S.keep K) fun h₂ tk₂ K₂ => k _ _ (K.trans K₂)
theorem ET.op {op : BoolOp} {es : List Expr} {pos : Pos} {b : Bool} (h : ETs d C ρ op es b) : ET d C ρ (.BoolOp op es pos) b := by
  refine ⟨fun O s m Q E S k => ?_⟩
  exact wpAny_isTrue_BoolOp (h.run O s m _ _ S k)

theorem EV.and2 {x y : Expr} {pos : Pos} {a b : Bool} (h₁ : EV d C ρ x (.bool a)) (h₂ : a = true → EV d C ρ y (.bool b)) : EV d C ρ (.BoolOp .And [x, y] pos) (.bool (a && b)) := by
  refine ⟨fun O s m Q E S k => ?_⟩
  refine wpAny_And2 (h₁.run O s m _ _ S fun v h' tk K r => ?_)
  obtain rfl := r.bool_inv
  refine wpAny_truthy_bool ?_
  cases a with
  | false => exact k _ _ _ K (.bool _)
  | true => exact (h₂ rfl).run O _ m _ _ (S.keep K) fun v' h'' tk' K' r' => k _ _ _ (K.trans K') r'

theorem EV.ite {t a b : Expr} {pos : Pos} {c : Bool} {x y : V} (ht : ET d C ρ t c) (ha : c = true → EV d C ρ a x) (hb : c = false → EV d C ρ b y) : EV d C ρ (.IfExp t a b pos) (if c then x else y) := by
  refine ⟨fun O s m Q E S k => ?_⟩
  refine wpAny_IfExp (ht.run O s m _ _ S fun h' tk K => ?_)
  cases c with
  | true => exact (ha rfl).run O _ m _ _ (S.keep K) fun v' h'' tk' K' r' => k _ _ _ (K.trans K') r'
  | false => exact (hb rfl).run O _ m _ _ (S.keep K) fun v' h'' tk' K' r' => k _ _ _ (K.trans K') r'
theorem EV.iteI {t a b : Expr} {pos : Pos} {c : Bool} {x y : Int} (ht : ET d C ρ t c) (ha : c = true → EV d C ρ a (.int x)) (hb : c = false → EV d C ρ b (.int y)) : EV d C ρ (.IfExp t a b pos) (.int (if c then x else y)) :=
  (EV.ite ht ha hb).to (by cases c <;> rfl)

theorem EVs.nil : EVs d C ρ [] [] := ⟨fun _ s _ _ _ _ _ k => args_nil (k [] s.heap s.toks (Keep.refl _) trivial)⟩
theorem EVs.cons {e : Expr} {es : List Expr} {x : V} {xs : List V} (h₁ : EV d C ρ e x) (h₂ : EVs d C ρ es xs) (he : starEach (e :: es) (C.env d) = (false, eval e (C.env d)) :: starEach es (C.env d)) : EVs d C ρ (e :: es) (x :: xs) := by
  refine ⟨fun O s m pos Q E S k => ?_⟩
  refine args_cons (h₁.run O s m _ _ S fun v h' tk K r => h₂.run O _ m pos _ _ (S.keep K) fun vs h'' tk' K' r' => ?_) he
  exact k _ _ _ (K.trans K') ⟨r.keep K', r'⟩
end Mine
namespace Mine
variable {T : Tp} {d : DefRec} {C : Cx T} {ρ : Loc}

theorem ER.val {e : Expr} {xs : List Int} (h : EV d C ρ e (.row xs)) : ER d C ρ e xs := by
  refine ⟨fun O s m Q E S k => ?_⟩
  refine h.run O s m Q E S fun v h' tk K r => ?_
  obtain ⟨a, vs, rfl, _, hl, hi⟩ := r.row_inv
  exact k a vs h' tk K hl hi
theorem ER.own {x : PySem.Str} {pos : Pos} {xs : List Int} (h : ρ.lookup x = some (.own xs)) (hx : (C.env d).kindOf x = some .local) (hd : (x == ("__debug__" : PySem.Str)) = false) : ER d C ρ (.Name x pos) xs := by
  refine ⟨fun O s m Q E S k => ?_⟩
  obtain ⟨u, hv, a, vs, rfl, _, hp, hi⟩ := S.loc x _ h
  exact ldF S.fr hv (k a vs s.heap s.toks (Keep.refl _) hp.isList hi) S.kind hx hd
theorem ER.arr {x : PySem.Str} {pos : Pos} {xs : List Int} (h : ρ.lookup x = some (.arr xs)) (hx : (C.env d).kindOf x = some .local) (hd : (x == ("__debug__" : PySem.Str)) = false) : ER d C ρ (.Name x pos) xs := by
  refine ⟨fun O s m Q E S k => ?_⟩
  obtain ⟨u, hv, a, vs, rfl, _, hp, hi⟩ := S.loc x _ h
  exact ldF S.fr hv (k a vs s.heap s.toks (Keep.refl _) hp hi) S.kind hx hd
theorem EV.ef {e : Expr} {xs : List Int} (h : EF d C ρ e xs) : EV d C ρ e (.row xs) := by
  refine ⟨fun O s m Q E S k => ?_⟩
  refine h.run O s m Q E S fun a vs n h' tk K hn hl hi => k _ h' tk K (.row (fun ha => S.dlt a ha hn) (by simpa using hl.isList) hi)
theorem ER.ef {e : Expr} {xs : List Int} (h : EF d C ρ e xs) : ER d C ρ e xs := ER.val (EV.ef h)

theorem IntsAre.ofReps {mg : GM} {h : Heap} {H : List Addr} : ∀ {vs : List Value} {xs : List Int}, Reps mg h H vs (xs.map V.int) → IntsAre vs xs
  | [], [], _ => .nil
  | _ :: _, x :: _, r => by obtain ⟨t, rfl⟩ := r.1.int_inv; exact .cons x t (IntsAre.ofReps r.2)
  | [], _ :: _, r => r.elim
  | _ :: _, [], r => r.elim

theorem EF.list {es : List Expr} {pos : Pos} {xs : List Int} (h : EVs d C ρ es (xs.map V.int)) (hz : xs.length ≤ 1000) : EF d C ρ (.List es pos) xs := by
  refine ⟨fun O s m Q E S k => ?_⟩
  refine wpAny_List (h.run O s m pos _ _ S fun vs h' tk K r => ?_)
  have hi := IntsAre.ofReps r
  have hl := hi.length
  refine ⟨by rw [sizeLine_eq]; omega, ?_⟩
  exact k _ vs.toArray 0 _ tk (K.trans (Keep.push _ _)) (K.dead (get_size h')) (IsL.new h' vs.toArray) hi

theorem EV.tup {es : List Expr} {n : Nat} {pos : Pos} {xs : List V} (h : EVs d C ρ es xs) (hz : xs.length ≤ 1000) : EV d C ρ (.Tuple es n pos) (.tup xs) := by
  refine ⟨fun O s m Q E S k => ?_⟩
  refine wpAny_Tuple (h.run O s m pos _ _ S fun vs h' tk K r => ?_)
  refine ⟨by rw [r.length, sizeLine_eq]; omega, ?_⟩
  refine k _ _ tk (K.trans (Keep.push _ _)) (.tup_of (vs := vs) (fun ha => S.dlt _ ha (K.dead (get_size h'))) ⟨_, Heap.get?_push_size _ rfl, rfl, 0, rfl⟩ (r.mono (Ext.keep (Keep.push _ _))))

theorem EF.mul {e₁ e₂ : Expr} {pos : Pos} {x n : Int} (h₁ : EF d C ρ e₁ [x]) (h₂ : EV d C ρ e₂ (.int n)) (hn : n ≤ 1000000) (hlo : -1000000 ≤ n) : EF d C ρ (.BinOp e₁ .Mult e₂ pos) (List.replicate n.toNat x) := by
  refine ⟨fun O s m Q E S k => ?_⟩
  refine wpAny_BinOp (h₁.run O s m _ _ S fun a vs k0 h' tk K hd hl hi => h₂.run O _ m _ _ (S.keep K) fun v' h'' tk' K' r₂ => ?_)
  obtain ⟨t, rfl⟩ := r₂.int_inv
  have hl' : h''.get? a = some { cls := .type "list", dict := none, data := .seq vs k0, slots := #[] } := K' _ _ hl
  obtain ⟨t0, hv⟩ : ∃ t0, vs.toList = [Value.int x t0] := by
    generalize vs.toList = l at hi
    cases hi with
    | cons _ t0 r => cases r; exact ⟨t0, rfl⟩
  have hs : vs.size = 1 := by rw [← Array.length_toList, hv]; rfl
  have he : vs.isEmpty = false := by simp [Array.isEmpty, hs]
  refine wpAny_binaryOp_repeat_ref (T := "list") (U := "int") (by decide) ⟨_, hl', rfl⟩ (fun s' => typeIs_int s' n t) noFill_list_mul PySem.F.fills_int_mul PySem.F.slot_int_rmul repeat_list PySem.F.slot_int_index.lookup
    (call_meets PySem.F.slot_int_rmul (typeIs_int _ n t) PySem.F.entry_int_rmul (PySem.F.args_int_rmul_2 _ _) (int___rmul___int_list n t a vs k0)
      ⟨hl', rfl, ⟨_, hl', rfl⟩, call_meets PySem.F.slot_list_mul ⟨_, hl', rfl⟩ PySem.F.entry_list_mul (PySem.F.args_list_mul_2 _ _)
        (AutoListH.list___mul___list_int_3 a vs k0 n t (by simp [Builtin.List.listFitsIndex]; omega) (by rw [hs]; omega) (by rw [hs]; simp [Builtin.List.listTooLong, sizeLine]; omega))
        ⟨hl', ?_⟩⟩)
  refine k _ _ 0 _ _ ((K.trans K').trans (Keep.push _ _)) ((K.trans K').dead (get_size h'')) (IsL.new h'' _) ?_
  rw [he, if_neg (by decide), listMul_foldl]
  simp only [List.nil_append, hv, lm_rep_flat_one]
  generalize n.toNat = j
  induction j with
  | zero => exact .nil
  | succ j ih => exact .cons x t0 ih

theorem EF.cat {e₁ e₂ : Expr} {pos : Pos} {xs ys : List Int} (h₁ : EV d C ρ e₁ (.row xs)) (h₂ : EV d C ρ e₂ (.row ys)) (hz : xs.length + ys.length ≤ 1000000) : EF d C ρ (.BinOp e₁ .Add e₂ pos) (xs ++ ys) := by
  refine ⟨fun O s m Q E S k => ?_⟩
  refine wpAny_BinOp (h₁.run O s m _ _ S fun v h' tk K r₁ => h₂.run O _ m _ _ (S.keep K) fun v' h'' tk' K' r₂ => ?_)
  obtain ⟨a, vs, rfl, _, hl, hi⟩ := (r₁.keep K').row_inv
  obtain ⟨b, ws, rfl, _, hl2, hj⟩ := r₂.row_inv
  obtain ⟨⟨cls, dd, data, sl⟩, ho, hc, n, hd⟩ := id hl
  obtain ⟨⟨cls2, dd2, data2, sl2⟩, ho2, hc2, n2, hd2⟩ := id hl2
  simp only at hc hd hc2 hd2
  subst hc hd hc2 hd2
  have := hi.length
  have := hj.length
  refine concat_meets ⟨_, ho, rfl⟩ ⟨_, ho2, rfl⟩ noFill_list_add seq_list_add PySem.F.slot_list_add PySem.F.entry_list_add (PySem.F.args_list_add_2 _ _) (list_addW a b vs.toArray ws.toArray n n2 dd dd2 sl sl2 (by simp [sizeLine]; omega)) ⟨ho, ho2, ?_⟩
  refine k _ _ 0 _ _ ((K.trans K').trans (Keep.push _ _)) ((K.trans K').dead (get_size h'')) (IsL.new h'' _) ?_
  simpa using hi.append hj

/-- a builtin's name -/
theorem ldb {x : PySem.Str} {pos : Pos} {O : Own} {s : Shared} {m : PySem.Str → Option Value} {v : Value} {Q E : Value → Shared → Prop} (S : St d C ρ O s m) (hb : x ∈ bnames) (hv : bootBuiltins x = some v)
    (hx : (C.env d).kindOf x = some .globalImplicit) (h : Q v s) : wpAny (model T.prog T.w) C.A (eval (.Name x pos) (C.env d)) Q E s := by
  have hn : x ≠ "__name__" := by intro q; subst q; exact absurd hb (by decide)
  have hd : (x == ("__debug__" : PySem.Str)) = false := by
    cases q : (x == ("__debug__" : PySem.Str)) with
    | false => rfl
    | true => have := eq_of_beq q; subst this; exact absurd hb (by decide)
  exact Name_function_global S.kind hx (loadGlobal_builtin (env := C.env d) (T.gd.g.keeps S.hg) (T.gd.free x hb) (T.gd.b.keeps S.hg) ((T.gd.bi x hn).trans hv) h) hd

theorem EV.len {e : Expr} {p pos : Pos} {xs : List Int} (h : ER d C ρ e xs) (hx : (C.env d).kindOf "len" = some .globalImplicit) (hz : xs.length ≤ 1000000)
    (he : starEach [e] (C.env d) = (false, eval e (C.env d)) :: starEach [] (C.env d))
    (hc : eval (.Call (.Name "len" p) [e] [] pos) (C.env d) = (do callWith pos (← eval (.Name "len" p) (C.env d)) [] (backTo pos (starEach [e] (C.env d))) (backToKw pos (keywordEach [] (C.env d))))) : EV d C ρ (.Call (.Name "len" p) [e] [] pos) (.int xs.length) := by
  refine ⟨fun O s m Q E S k => ?_⟩
  refine Call_ (ldb S (by decide) boot_len hx (callWith_builtin1 (args_cons (h.run O s m _ _ S fun a vs h' tk K hl hi => args_nil ?_) he) he)) hc
  have := hi.length
  have e2 : vs.toArray.size = xs.length := by simp [this]
  refine call_len_list hl (by rw [e2]; omega) ?_
  rw [e2]
  exact k _ _ _ K (.int _ _)

theorem EV.b1 {x : PySem.Str} {id : String} {e : Expr} {p pos : Pos} {a r : Int} (h : EV d C ρ e (.int a)) (hb : x ∈ bnames) (hv : bootBuiltins x = some (.builtin id)) (hx : (C.env d).kindOf x = some .globalImplicit)
    (hr : ∀ (prog : Program) (w : World) (A : Around) (s : Shared) (t : Tok) (Q E : Value → Shared → Prop), (∀ t' tk, Q (.int r t') { s with toks := tk }) → wpAny (model prog w) A (call (.builtin id) [.int a t]) Q E s)
    (he : starEach [e] (C.env d) = (false, eval e (C.env d)) :: starEach [] (C.env d))
    (hc : eval (.Call (.Name x p) [e] [] pos) (C.env d) = (do callWith pos (← eval (.Name x p) (C.env d)) [] (backTo pos (starEach [e] (C.env d))) (backToKw pos (keywordEach [] (C.env d))))) : EV d C ρ (.Call (.Name x p) [e] [] pos) (.int r) := by
  refine ⟨fun O s m Q E S k => ?_⟩
  refine Call_ (ldb S hb hv hx (callWith_builtin1 (args_cons (h.run O s m _ _ S fun v h' tk K r => args_nil ?_) he) he)) hc
  obtain ⟨t, rfl⟩ := r.int_inv
  exact hr _ _ _ _ _ _ _ fun t' tk' => k _ _ _ K (.int _ _)
theorem EV.abs {e : Expr} {p pos : Pos} {a : Int} (h : EV d C ρ e (.int a)) (hx : (C.env d).kindOf "abs" = some .globalImplicit)
    (he : starEach [e] (C.env d) = (false, eval e (C.env d)) :: starEach [] (C.env d))
    (hc : eval (.Call (.Name "abs" p) [e] [] pos) (C.env d) = (do callWith pos (← eval (.Name "abs" p) (C.env d)) [] (backTo pos (starEach [e] (C.env d))) (backToKw pos (keywordEach [] (C.env d))))) : EV d C ρ (.Call (.Name "abs" p) [e] [] pos) (.int a.natAbs) :=
  EV.b1 h (by decide) boot_abs hx (fun prog w A s t Q E k => call_abs_int fun u tk => by
    have e : (if a < 0 then -a else a) = (a.natAbs : Int) := by split <;> omega
    rw [e]; exact k _ _) he hc

theorem EV.b2 {x : PySem.Str} {id : String} {e e' : Expr} {p pos : Pos} {a b r : Int} (h : EV d C ρ e (.int a)) (h' : EV d C ρ e' (.int b)) (hb : x ∈ bnames) (hv : bootBuiltins x = some (.builtin id)) (hx : (C.env d).kindOf x = some .globalImplicit)
    (hr : ∀ (prog : Program) (w : World) (A : Around) (s : Shared) (t u : Tok) (Q E : Value → Shared → Prop), A.handled = none → (∀ h' t' tk, Keep s.heap h' → Q (.int r t') { s with heap := h', toks := tk }) → wpAny (model prog w) A (call (.builtin id) [.int a t, .int b u]) Q E s)
    (he : starEach [e, e'] (C.env d) = (false, eval e (C.env d)) :: starEach [e'] (C.env d)) (he' : starEach [e'] (C.env d) = (false, eval e' (C.env d)) :: starEach [] (C.env d))
    (hc : eval (.Call (.Name x p) [e, e'] [] pos) (C.env d) = (do callWith pos (← eval (.Name x p) (C.env d)) [] (backTo pos (starEach [e, e'] (C.env d))) (backToKw pos (keywordEach [] (C.env d))))) : EV d C ρ (.Call (.Name x p) [e, e'] [] pos) (.int r) := by
  refine ⟨fun O s m Q E S k => ?_⟩
  refine Call_ (ldb S hb hv hx (callWith_builtin1 (args_cons (h.run O s m _ _ S fun v h₁ tk K r => args_cons (h'.run O _ m _ _ (S.keep K) fun v' h₂ tk' K' r' => args_nil ?_) he') he) he (by rw [he']; rfl))) hc
  obtain ⟨t, rfl⟩ := r.int_inv
  obtain ⟨u, rfl⟩ := r'.int_inv
  exact hr _ _ _ _ _ _ _ _ C.hh fun h3 t' tk' K3 => k _ _ _ ((K.trans K').trans K3) (.int _ _)
theorem EV.max {e e' : Expr} {p pos : Pos} {a b : Int} (h : EV d C ρ e (.int a)) (h' : EV d C ρ e' (.int b)) (hx : (C.env d).kindOf "max" = some .globalImplicit)
    (he : starEach [e, e'] (C.env d) = (false, eval e (C.env d)) :: starEach [e'] (C.env d)) (he' : starEach [e'] (C.env d) = (false, eval e' (C.env d)) :: starEach [] (C.env d))
    (hc : eval (.Call (.Name "max" p) [e, e'] [] pos) (C.env d) = (do callWith pos (← eval (.Name "max" p) (C.env d)) [] (backTo pos (starEach [e, e'] (C.env d))) (backToKw pos (keywordEach [] (C.env d))))) : EV d C ρ (.Call (.Name "max" p) [e, e'] [] pos) (.int (Max.max a b)) :=
  EV.b2 h h' (by decide) boot_max hx (fun prog w A s t u Q E hh k => max_two_ints hh fun h' tk K => by
    by_cases c : b > a
    · rw [if_pos c, show b = Max.max a b from by omega]; exact k _ _ _ K
    · rw [if_neg c]; have := k h' t tk K; rwa [show Max.max a b = a from by omega] at this) he he' hc
theorem EV.min {e e' : Expr} {p pos : Pos} {a b : Int} (h : EV d C ρ e (.int a)) (h' : EV d C ρ e' (.int b)) (hx : (C.env d).kindOf "min" = some .globalImplicit)
    (he : starEach [e, e'] (C.env d) = (false, eval e (C.env d)) :: starEach [e'] (C.env d)) (he' : starEach [e'] (C.env d) = (false, eval e' (C.env d)) :: starEach [] (C.env d))
    (hc : eval (.Call (.Name "min" p) [e, e'] [] pos) (C.env d) = (do callWith pos (← eval (.Name "min" p) (C.env d)) [] (backTo pos (starEach [e, e'] (C.env d))) (backToKw pos (keywordEach [] (C.env d))))) : EV d C ρ (.Call (.Name "min" p) [e, e'] [] pos) (.int (Min.min a b)) :=
  EV.b2 h h' (by decide) boot_min hx (fun prog w A s t u Q E hh k => min_two_ints hh fun h' tk K => by
    by_cases c : b < a
    · rw [if_pos c]; have := k h' u tk K; rwa [show Min.min a b = b from by omega] at this
    · rw [if_neg c]; have := k h' t tk K; rwa [show Min.min a b = a from by omega] at this) he he' hc

theorem EV.intb {e : Expr} {p pos : Pos} {b : Bool} (h : EV d C ρ e (.bool b)) (hx : (C.env d).kindOf "int" = some .globalImplicit)
    (he : starEach [e] (C.env d) = (false, eval e (C.env d)) :: starEach [] (C.env d))
    (hc : eval (.Call (.Name "int" p) [e] [] pos) (C.env d) = (do callWith pos (← eval (.Name "int" p) (C.env d)) [] (backTo pos (starEach [e] (C.env d))) (backToKw pos (keywordEach [] (C.env d))))) : EV d C ρ (.Call (.Name "int" p) [e] [] pos) (.int (if b then 1 else 0)) := by
  refine ⟨fun O s m Q E S k => ?_⟩
  refine Call_ (ldb S (by decide) PyProof.Rows.boot_int hx (PyProof.Rows.callWith_type1 (args_cons (h.run O s m _ _ S fun v h' tk K r => args_nil ?_) he) he)) hc
  obtain rfl := r.bool_inv
  exact call_int_bool (k _ _ _ K (.int _ _))

theorem EV.bitlen {e : Expr} {ap pos : Pos} {a : Int} (h : EV d C ρ e (.int a))
    (pl : Sem Bool) (hc : eval (.Call (.Attribute e "bit_length" ap) [] [] pos) (C.env d) = (do
      let ov ← eval e (C.env d)
      standAt ap.atName
      let (f, first) ← holding [ov] (getMethod ov "bit_length" pl)
      callWith pos f first (backTo pos (starEach [] (C.env d))) [])) : EV d C ρ (.Call (.Attribute e "bit_length" ap) [] [] pos) (.int (Builtin.Int.intBits a)) := by
  refine ⟨fun O s m Q E S k => ?_⟩
  refine MethodCall_ (h.run O s m _ _ S fun v h' tk K r => ?_) hc
  obtain ⟨t, rfl⟩ := r.int_inv
  exact getMethod_int_bit_length (callWith_method0 (call_int_bit_length (k _ _ _ K (.int _ _))))

/-- a def's call -/
theorem EV.call {x : PySem.Str} {p pos : Pos} {e : Expr} {es : List Expr} {n : Nat} {Vs : List V} {y : V} (hf : FN T x n Vs y) (h : EVs d C ρ (e :: es) Vs) (hx : (C.env d).kindOf x = some .globalImplicit) (hn : n < C.room)
    (hd : (x == ("__debug__" : PySem.Str)) = false) (he : starEach (e :: es) (C.env d) = (false, eval e (C.env d)) :: starEach es (C.env d))
    (hc : eval (.Call (.Name x p) (e :: es) [] pos) (C.env d) = (do callWith pos (← eval (.Name x p) (C.env d)) [] (backTo pos (starEach (e :: es) (C.env d))) (backToKw pos (keywordEach [] (C.env d))))) : EV d C ρ (.Call (.Name x p) (e :: es) [] pos) y := by
  refine ⟨fun O s m Q E S k => ?_⟩
  refine Call_ ((EV.fn hf hx hd).run O s m _ _ S fun v h' tk K r => ?_) hc
  obtain ⟨a, rfl, hm⟩ := r.fn_inv
  obtain ⟨⟨d', hd', rfl⟩, hf⟩ := hf
  obtain ⟨a', o, pm, code, doc, h1, h2, h3, h4⟩ := T.gd.fn d' hd'
  rw [h1] at hm
  cases hm
  have hr := C.rm
  have hu := C.un
  refine callWith_def h3 (h.run O _ m pos _ _ (S.keep K) fun vs h₂ tk₂ K₂ r₂ => ⟨((S.keep (s' := { s with heap := h', toks := tk }) K).keep (s' := { s with heap := h₂, toks := tk₂ }) K₂).hg _ _ h2, ?_⟩) he
  have S2 : St d C ρ O { s with heap := h₂, toks := tk₂ } m := S.keep (K.trans K₂)
  exact hf C.A _ (C.hid O) vs a _ _ S2.hg S2.hidn C.hh (by omega) (by omega) h1 r₂ fun v h3 tk3 K3 r3 => k _ _ _ ((K.trans K₂).trans K3) r3

/-- a call of a def that a local name holds -/
theorem EV.callL {f : PySem.Str} {x : PySem.Str} {p pos : Pos} {e : Expr} {es : List Expr} {n : Nat} {Vs : List V} {y : V} (hl : ρ.lookup f = some (.val (.fn x))) (hf : FN T x n Vs y) (h : EVs d C ρ (e :: es) Vs) (hx : (C.env d).kindOf f = some .local) (hn : n < C.room)
    (hd : (f == ("__debug__" : PySem.Str)) = false) (he : starEach (e :: es) (C.env d) = (false, eval e (C.env d)) :: starEach es (C.env d))
    (hc : eval (.Call (.Name f p) (e :: es) [] pos) (C.env d) = (do callWith pos (← eval (.Name f p) (C.env d)) [] (backTo pos (starEach (e :: es) (C.env d))) (backToKw pos (keywordEach [] (C.env d))))) : EV d C ρ (.Call (.Name f p) (e :: es) [] pos) y := by
  refine ⟨fun O s m Q E S k => ?_⟩
  refine Call_ ((EV.name hl hx hd).run O s m _ _ S fun v h' tk K r => ?_) hc
  obtain ⟨a, rfl, hm⟩ := r.fn_inv
  obtain ⟨⟨d', hd', rfl⟩, hf⟩ := hf
  obtain ⟨a', o, pm, code, doc, h1, h2, h3, h4⟩ := T.gd.fn d' hd'
  rw [h1] at hm
  cases hm
  have hr := C.rm
  have hu := C.un
  refine callWith_def h3 (h.run O _ m pos _ _ (S.keep K) fun vs h₂ tk₂ K₂ r₂ => ⟨((S.keep (s' := { s with heap := h', toks := tk }) K).keep (s' := { s with heap := h₂, toks := tk₂ }) K₂).hg _ _ h2, ?_⟩) he
  have S2 : St d C ρ O { s with heap := h₂, toks := tk₂ } m := S.keep (K.trans K₂)
  exact hf C.A _ (C.hid O) vs a _ _ S2.hg S2.hidn C.hh (by omega) (by omega) h1 r₂ fun v h3 tk3 K3 r3 => k _ _ _ ((K.trans K₂).trans K3) r3
end Mine
namespace Mine
variable {T : Tp} {d : DefRec} {C : Cx T} {ρ : Loc}

theorem EV.itemR {e i : Expr} {pos : Pos} {xs : List Int} {k v : Int} (h : ER d C ρ e xs) (hi : EV d C ρ i (.int k)) (h0 : 0 ≤ k) (hv : xs[k.toNat]? = some v) (hk : k ≤ 1000000)
    (hs : ∀ o i', subscripted i false o i' = operate [o, i'] (getItem o i')) : EV d C ρ (.Subscript e i pos) (.int v) := by
  refine ⟨fun O s m Q E S kk => ?_⟩
  refine Subscript_ (h.run O s m _ _ S fun a vs h' tk K hl hI => hi.run O _ m _ _ (S.keep K) fun v' h'' tk' K' r => ?_)
  obtain ⟨t, rfl⟩ := r.int_inv
  obtain ⟨t', hx⟩ := hI.get k.toNat v hv
  have hl' : h''.IsList a vs.toArray := let ⟨o, q, r⟩ := hl; ⟨o, K' _ _ q, r⟩
  exact tail_any (s := { s with heap := h'', toks := tk' }) (Heap.IsList.typeIs hl') PySem.slot_list_getitem.lookup (wpAny_getItem_list hl' h0 (by omega) (by simpa using hx) (kk _ _ _ (K.trans K') (.int _ _))) (hs _ _)
theorem EV.itemN {e i : Expr} {pos : Pos} {xs : List Int} {k v : Int} (h : ER d C ρ e xs) (hi : EV d C ρ i (.int k)) (h0 : k < 0) (h1 : -(xs.length : Int) ≤ k) (hv : xs[(k + xs.length).toNat]? = some v) (hk : -1000000 ≤ k)
    (hs : ∀ o i', subscripted i false o i' = operate [o, i'] (getItem o i')) : EV d C ρ (.Subscript e i pos) (.int v) := by
  refine ⟨fun O s m Q E S kk => ?_⟩
  refine Subscript_ (h.run O s m _ _ S fun a vs h' tk K hl hI => hi.run O _ m _ _ (S.keep K) fun v' h'' tk' K' r => ?_)
  obtain ⟨t, rfl⟩ := r.int_inv
  obtain ⟨t', hx⟩ := hI.get _ v hv
  have hn := hI.length
  have hl' : h''.IsList a vs.toArray := let ⟨o, q, r⟩ := hl; ⟨o, K' _ _ q, r⟩
  have hz : (vs.toArray.size : Int) = xs.length := by simp [hn]
  exact tail_any (s := { s with heap := h'', toks := tk' }) (Heap.IsList.typeIs hl') PySem.slot_list_getitem.lookup (wpAny_getItem_list_neg hl' h0 (by rw [hz]; exact h1) (by omega) (by rw [hz]; simpa using hx) (kk _ _ _ (K.trans K') (.int _ _))) (hs _ _)
theorem EV.itemT {e i : Expr} {pos : Pos} {xs : List V} {k : Nat} {v : V} (h : EV d C ρ e (.tup xs)) (hi : EV d C ρ i (.int k)) (hv : xs[k]? = some v) (hk : k ≤ 1000000)
    (hs : ∀ o i', subscripted i false o i' = operate [o, i'] (getItem o i')) : EV d C ρ (.Subscript e i pos) v := by
  refine ⟨fun O s m Q E S kk => ?_⟩
  refine Subscript_ (h.run O s m _ _ S fun u h' tk K r => hi.run O _ m _ _ (S.keep K) fun v' h'' tk' K' r' => ?_)
  obtain ⟨t, rfl⟩ := r'.int_inv
  obtain ⟨a, vs, rfl, _, ht, hr⟩ := (r.keep K').tup_inv
  have hn := hr.length
  have hlt : k < xs.length := (List.getElem?_eq_some_iff.mp hv).1
  obtain ⟨u', hu⟩ : ∃ u', vs[k]? = some u' := ⟨_, List.getElem?_eq_getElem (by omega)⟩
  refine tail_any (s := { s with heap := h'', toks := tk' }) (IsTup.typeIs ht) slot_tuple_getitem.lookup (getItem_tuple ht (j := k) (by omega) (by omega) ?_ (by simpa using hu) (kk _ _ _ (K.trans K') (hr.at k _ _ hu hv))) (hs _ _)
  rw [seqIndex_of (by omega) (by simp; omega)]
  simp

/-- a part of a slice -/
structure EP (d : DefRec) (C : Cx T) (ρ : Loc) (e : Option Expr) (k : Option Int) : Prop where
  mk ::
  run : ∀ O s m (Q E : Value → Shared → Prop), St d C ρ O s m → (∀ v h' tk, Keep s.heap h' → IsPart v k → Q v { s with heap := h', toks := tk }) → wpAny (model T.prog T.w) C.A (evalPart e (C.env d)) Q E s
theorem EP.none : EP d C ρ none none := ⟨fun _ s _ _ _ _ k => wpAny_pure (k _ s.heap s.toks (Keep.refl _) .none)⟩
theorem EP.some {e : Expr} {i : Int} (h : EV d C ρ e (.int i)) : EP d C ρ (some e) (some i) := by
  refine ⟨fun O s m Q E S k => ?_⟩
  rw [evalPart_some]
  exact h.run O s m Q E S fun v h' tk K r => by obtain ⟨t, rfl⟩ := r.int_inv; exact k _ _ _ K (.int _ _)

theorem EF.slice {e : Expr} {lo up st : Option Expr} {p pos : Pos} {xs : List Int} {a b c : Option Int} (h : ER d C ρ e xs) (ha : EP d C ρ lo a) (hb : EP d C ρ up b) (hc : EP d C ρ st c) (h0 : c ≠ some 0) (hz : xs.length ≤ 1000000)
    (hs : ∀ (Q E : Value → Shared → Prop) s, wpAny (model T.prog T.w) C.A (eval e (C.env d)) (fun o s₁ => wpAny (model T.prog T.w) C.A (eval (.Slice lo up st p) (C.env d)) (fun i s₂ => s₂.TypeIs o "list" ∧ wpAny (model T.prog T.w) C.A (getItem o i) Q E s₂) E s₁) E s → wpAny (model T.prog T.w) C.A (eval (.Subscript e (.Slice lo up st p) pos) (C.env d)) Q E s) :
    EF d C ρ (.Subscript e (.Slice lo up st p) pos) (pickNums xs a b c) := by
  refine ⟨fun O s m Q E S k => ?_⟩
  refine hs _ _ _ (h.run O s m _ _ S fun l vs h1 t1 K1 hl hi => wpAny_Slice (ha.run O _ m _ _ (S.keep K1) fun v2 h2 t2 K2 p2 => hb.run O _ m _ _ (S.keep (K1.trans K2)) fun v3 h3 t3 K3 p3 => hc.run O _ m _ _ (S.keep ((K1.trans K2).trans K3)) fun v4 h4 t4 K4 p4 => ?_))
  have K14 : Keep h1 h4 := (K2.trans K3).trans K4
  have hl4 : h4.IsList l vs.toArray := let ⟨o, q, r⟩ := hl; ⟨o, K14 _ _ q, r⟩
  have hl5 := hl4.push { cls := .type "slice", data := .fields #[v2, v3, v4] }
  have hn := hi.length
  refine ⟨Heap.IsList.typeIs (s := { s with heap := _, toks := t4 }) hl5, wpAny_getItem_list_slice hl5 (Heap.IsSliceOf.new ..) p2 p3 p4 h0 ?_ (by simp [sizeLine]; omega)⟩
  refine k _ _ 0 _ _ (((K1.trans K14).trans (Keep.push _ _)).trans (Keep.push _ _)) (((K1.trans K14).trans (Keep.push _ _)).dead (get_size _)) (IsL.new _ _) ?_
  exact hi.pick a b c

theorem slice_form {e : Expr} {lo up : Option Expr} {p pos : Pos} {env : Env} {M : Model} {A : Around} (ht : ∀ o r, letTemporaryGo e o r = pure ()) (Q E : Value → Shared → Prop) (s : Shared)
    (h : wpAny M A (eval e env) (fun o s₁ => wpAny M A (eval (.Slice lo up none p) env) (fun i s₂ => s₂.TypeIs o "list" ∧ wpAny M A (getItem o i) Q E s₂) E s₁) E s) : wpAny M A (eval (.Subscript e (.Slice lo up none p) pos) env) Q E s :=
  wpAny_Subscript_Slice list_getitem_lookup h ht
theorem slice_form_step {e st : Expr} {lo up : Option Expr} {p pos : Pos} {env : Env} {M : Model} {A : Around} (ht : ∀ o r, letTemporaryGo e o r = pure ()) (Q E : Value → Shared → Prop) (s : Shared)
    (h : wpAny M A (eval e env) (fun o s₁ => wpAny M A (eval (.Slice lo up (some st) p) env) (fun i s₂ => s₂.TypeIs o "list" ∧ wpAny M A (getItem o i) Q E s₂) E s₁) E s) : wpAny M A (eval (.Subscript e (.Slice lo up (some st) p) pos) env) Q E s :=
  wpAny_Subscript_Slice_step list_getitem_lookup h ht

theorem pick_upto (xs : List Int) (b : Nat) : pickNums xs none (some (b : Int)) none = xs.take b := by
  have h1 : (slicePick (xs.map (fun i => Value.int i 0)).toArray none (some (b : Int)) none).toList = (xs.map (fun i => Value.int i 0)).take b := by
    rw [slicePick_upto']
  have hi : IntsAre (xs.map (fun i => Value.int i 0)) xs := by
    induction xs with
    | nil => exact .nil
    | cons x r ih => exact .cons x 0 (ih (by rw [slicePick_upto']))
  have h2 := hi.pick none (some (b : Int)) none
  rw [h1] at h2
  exact h2.nums.symm.trans (hi.take b).nums
theorem intsAre_lit (xs : List Int) : IntsAre (xs.map (fun i => Value.int i 0)) xs := by
  induction xs with
  | nil => exact .nil
  | cons x r ih => exact .cons x 0 ih
theorem pick_all (xs : List Int) : pickNums xs none none none = xs := by
  have h2 := (intsAre_lit xs).pick none none none
  rw [slicePick_all] at h2
  exact h2.nums.symm.trans (intsAre_lit xs).nums
theorem pick_run' (xs : List Int) (a b : Nat) (hb : b ≤ xs.length) (hab : a ≤ b) : pickNums xs (some (a : Int)) (some (b : Int)) none = (xs.drop a).take (b - a) := by
  have h2 := (intsAre_lit xs).pick (some (a : Int)) (some (b : Int)) none
  rw [slicePick_run _ a b (by simpa using hb) hab] at h2
  exact h2.nums.symm.trans (((intsAre_lit xs).drop a).take (b - a)).nums
end Mine
namespace Mine
variable {T : Tp} {d : DefRec} {C : Cx T} {ρ : Loc}

/-- what lies outside this frame's own lists stays -/
noncomputable def Stay (C : Cx T) (h : Heap) (O : Own) (h' : Heap) (O' : Own) : Prop := Ext h (C.L :: O.o) h' (C.L :: O'.o) ∧ O'.x = O.x
theorem Stay.refl (h : Heap) (O : Own) : Stay C h O h O := ⟨fun _ _ n e => ⟨n, e⟩, rfl⟩
theorem Stay.trans {h h' h'' : Heap} {O O' O'' : Own} (x : Stay C h O h' O') (y : Stay C h' O' h'' O'') : Stay C h O h'' O'' :=
  ⟨fun b o n e => let ⟨n', e'⟩ := x.1 b o n e; y.1 b o n' e', y.2.trans x.2⟩
theorem Stay.keep {h h' : Heap} {O : Own} (k : Keep h h') : Stay C h O h' O := ⟨fun b o n e => ⟨n, k b o e⟩, rfl⟩

theorem lookup_cons_self {x : PySem.Str} {lv : LV} : ((x, lv) :: ρ).lookup x = some lv := by simp [List.lookup_cons]
theorem lookup_cons_ne {x y : PySem.Str} {lv : LV} (h : y ≠ x) : ((x, lv) :: ρ).lookup y = ρ.lookup y := by
  rw [List.lookup_cons, show (y == x) = false from beq_eq_false_iff_ne.mpr h]
theorem lookup_cons_cases {x y : PySem.Str} {lv lv' : LV} (h : ((x, lv) :: ρ).lookup y = some lv') : (y = x ∧ lv' = lv) ∨ (y ≠ x ∧ ρ.lookup y = some lv') := by
  by_cases e : y = x
  · subst e; rw [lookup_cons_self] at h; exact .inl ⟨rfl, (Option.some.inj h).symm⟩
  · rw [lookup_cons_ne e] at h; exact .inr ⟨e, h⟩

theorem lookup_mem {x : PySem.Str} {lv : LV} : ∀ {ρ : Loc}, ρ.lookup x = some lv → (x, lv) ∈ ρ
  | (z, l) :: r, e => by
    rcases lookup_cons_cases e with ⟨rfl, rfl⟩ | ⟨_, e⟩
    · exact .head _
    · exact .tail _ (lookup_mem e)

theorem LRep.move {h h' : Heap} {O O' : Own} {v : Value} (x : Ext h (C.hid O) h' (C.hid O')) (hs : ∀ b ∈ O.o, b ∈ O'.o) (ho : ∀ b ∈ O.o, ∀ o, h.get? b = some o → h'.get? b = some o) :
    ∀ {lv : LV}, LRep C h O v lv → LRep C h' O' v lv
  | .val _, r => Rep.mono x r
  | .own _, ⟨a, vs, e, hm, ⟨o, n, q, r⟩, hi⟩ => ⟨a, vs, e, hs a hm, ⟨o, n, ho a hm o q, r⟩, hi⟩
  | .arr _, ⟨a, vs, e, hm, ⟨o, q, r⟩, hi⟩ => ⟨a, vs, e, hs a hm, ⟨o, ho a hm o q, r⟩, hi⟩
  | .pin a _, ⟨vs, e, hm, ⟨o, q, r⟩, hi⟩ => ⟨vs, e, hs a hm, ⟨o, ho a hm o q, r⟩, hi⟩
  | .box a b _ _, ⟨t, vs, n, e, hm, hb, hn, ⟨o, q, r⟩, q', hi⟩ => ⟨t, vs, n, e, hs a hm, hs b hb, hn, ⟨o, ho a hm o q, r⟩, ho b hb _ q', hi⟩

theorem St.Lhid {O : Own} : C.L ∈ C.hid O := mem_hid.mpr (.inl rfl)

/-- a local name is bound to a value -/
theorem St.store {A : Around} {O : Own} {s : Shared} {m : PySem.Str → Option Value} {x : PySem.Str} {v : Value} {V : V} {Q : Unit → Shared → Prop} {E : Value → Shared → Prop} (S : St d C ρ O s m) (r : Rep T.mg s.heap (C.hid O) v V)
    (hx : (C.env d).kindOf x = some .local)
    (k : ∀ h' tk, Heap.SameBut C.L s.heap h' → St d C ((x, .val V) :: ρ) O { s with heap := h', toks := tk } (fun y => if y = x then some v else m y) → Stay C s.heap O h' O → Q () { s with heap := h', toks := tk }) :
    wpAny (model T.prog T.w) A (storeName (C.env d) x v) Q E s := by
  refine wpAny_storeName_local hx S.fr.ns (fun h' hn hs => ?_) (by show (d.scope.kind == .class || (d.scope.kind == .module && C.L != mainGlobals)) = false; rw [S.kind]; rfl)
  have hn' : h'.Ns C.L (fun y => if y = x then some v else m y) := hn
  have hs' : Heap.SameBut C.L s.heap h' := hs
  have hget : ∀ b o, b ≠ C.L → s.heap.get? b = some o → h'.get? b = some o := fun b o ne e => (hs'.2 b ne).trans e
  have hE : Ext s.heap (C.hid O) h' (C.hid O) := fun b o n e => ⟨n, hget b o (fun q => n (q ▸ St.Lhid)) e⟩
  have hO : ∀ b ∈ O.o, ∀ o, s.heap.get? b = some o → h'.get? b = some o := fun b hb o e => hget b o (S.fresh b (.inl hb)).2.1 e
  refine k h' _ hs' ⟨S.kind, S.fr.set hn' hs', fun y lv e => ?_, fun y z lv lv' ne e e' o o' => ?_, S.fresh, S.apart, fun b hb => ?_⟩ ⟨fun b o n e => ⟨n, hget b o (fun q => n (q ▸ .head _)) e⟩, rfl⟩
  · rcases lookup_cons_cases e with ⟨rfl, rfl⟩ | ⟨ne, e⟩
    · exact ⟨v, if_pos rfl, Rep.mono hE r⟩
    · obtain ⟨u, hu, hr⟩ := S.loc y lv e
      exact ⟨u, by simpa [ne] using hu, hr.move hE (fun _ h => h) hO⟩
  · rcases lookup_cons_cases e with ⟨rfl, rfl⟩ | ⟨ny, e2⟩
    · cases o
    · rcases lookup_cons_cases e' with ⟨rfl, rfl⟩ | ⟨nz, e3⟩
      · cases o'
      · simp only [ny, nz, if_false]; exact S.dst y z lv lv' ne e2 e3 o o'
  · by_cases q : b = C.L
    · subst q
      obtain ⟨o, _, _, ho, _⟩ := hn'
      show h'.get? C.L ≠ none
      rw [ho]; exact fun z => nomatch z
    · show h'.get? b ≠ none
      rw [hs'.2 b q]; exact S.dlt b hb

/-- a local name is bound to a new list of this frame's own -/
theorem St.storeOwn {O : Own} {s s₁ : Shared} {m : PySem.Str → Option Value} {x : PySem.Str} {a : Addr} {vs : Array Value} {n : Nat} {xs : List Int} {lv : LV} {Q : Unit → Shared → Prop} {E : Value → Shared → Prop} (S : St d C ρ O s m)
    (K : Keep s.heap s₁.heap) (hd : s.heap.get? a = none) (hl : IsL s₁.heap a vs n) (hi : IntsAre vs.toList xs) (hlv : lv = .own xs ∨ lv = .arr xs) (hnb : ρ.all (fun p => !p.2.isBox) = true)
    (hx : (C.env d).kindOf x = some .local)
    (k : ∀ O' h' tk m', St d C ((x, lv) :: ρ) O' { s₁ with heap := h', toks := tk } m' → Stay C s.heap O h' O' → Q () { s₁ with heap := h', toks := tk }) :
    wpAny (model T.prog T.w) C.A (storeName (C.env d) x (.ref a)) Q E s₁ := by
  have S1 : St d C ρ O s₁ m := S.keep K
  refine wpAny_storeName_local hx S1.fr.ns (fun h' hn hs => ?_) (by show (d.scope.kind == .class || (d.scope.kind == .module && C.L != mainGlobals)) = false; rw [S.kind]; rfl)
  have hn' : h'.Ns C.L (fun y => if y = x then some (.ref a) else m y) := hn
  have hs' : Heap.SameBut C.L s₁.heap h' := hs
  have hget : ∀ b o, b ≠ C.L → s₁.heap.get? b = some o → h'.get? b = some o := fun b o ne e => (hs'.2 b ne).trans e
  have haL : a ≠ C.L := fun q => S.dlt C.L St.Lhid (q ▸ hd)
  have live : ∀ b o, s.heap.get? b = some o → b ≠ a := fun b o e q => by subst q; rw [hd] at e; cases e
  have hE : Ext s.heap (C.hid O) h' (C.hid ⟨a :: O.o, O.x⟩) := fun b o n' e => by
    refine ⟨fun hb => ?_, hget b o (fun q => n' (q ▸ St.Lhid)) (K b o e)⟩
    rcases mem_hid.mp hb with q | q | q | q
    · exact n' (mem_hid.mpr (.inl q))
    · rcases List.mem_cons.mp q with q | q
      · exact live b o e q
      · exact n' (mem_hid.mpr (.inr (.inl q)))
    · exact n' (mem_hid.mpr (.inr (.inr (.inl q))))
    · exact n' (mem_hid.mpr (.inr (.inr (.inr q))))
  have hO : ∀ b ∈ O.o, ∀ o, s.heap.get? b = some o → h'.get? b = some o := fun b hb o e => hget b o (S.fresh b (.inl hb)).2.1 (K b o e)
  have hl' : h'.get? a = some { cls := .type "list", dict := none, data := .seq vs n, slots := #[] } := hget a _ haL hl
  have hlr : LRep C h' ⟨a :: O.o, O.x⟩ (.ref a) lv := by
    rcases hlv with rfl | rfl
    · exact ⟨a, vs.toList, rfl, .head _, ⟨_, n, hl', rfl, rfl, rfl⟩, hi⟩
    · exact ⟨a, vs.toList, rfl, .head _, ⟨_, hl', rfl, n, rfl⟩, hi⟩
  have hlb : lv.isBox = false := by rcases hlv with rfl | rfl <;> rfl
  have box : ∀ y lv', ρ.lookup y = some lv' → lv'.isBox = false := fun y lv' e => by
    have h1 : (y, lv') ∈ ρ := lookup_mem e
    simpa using List.all_eq_true.mp hnb _ h1
  have adr : ∀ y lv', ρ.lookup y = some lv' → lv'.isOwn = true → ∃ b, m y = some (.ref b) ∧ b ∈ O.o := fun y lv' e o => by
    obtain ⟨u, hu, hr⟩ := S.loc y lv' e
    cases lv' with
    | val => cases o
    | own ys => obtain ⟨b, _, rfl, hb, _⟩ := hr; exact ⟨b, hu, hb⟩
    | arr ys => obtain ⟨b, _, rfl, hb, _⟩ := hr; exact ⟨b, hu, hb⟩
    | pin c ys => obtain ⟨_, rfl, hb, _⟩ := hr; exact ⟨c, hu, hb⟩
    | box a1 b1 ys k => obtain ⟨_, _, _, rfl, hb, _⟩ := hr; exact ⟨a1, hu, hb⟩
  have nea : ∀ y lv', ρ.lookup y = some lv' → lv'.isOwn = true → m y ≠ some (.ref a) := fun y lv' e o q => by
    obtain ⟨b, h1, h2⟩ := adr y lv' e o
    rw [h1] at q
    cases q
    exact S.dlt a (mem_hid.mpr (.inr (.inl h2))) hd
  refine k ⟨a :: O.o, O.x⟩ h' _ (fun y => if y = x then some (.ref a) else m y) ⟨S.kind, S1.fr.set hn' hs', fun y lv' e => ?_, fun y z lv' lv'' ne e e' o o' => ?_, fun b hb => ?_, fun b hb hx' => ?_, fun b hb => ?_⟩ ⟨fun b o n' e => ⟨fun hb => ?_, hget b o (fun q => n' (q ▸ .head _)) (K b o e)⟩, rfl⟩
  · rcases lookup_cons_cases e with ⟨rfl, rfl⟩ | ⟨ne, e⟩
    · exact ⟨_, if_pos rfl, hlr⟩
    · obtain ⟨u, hu, hr⟩ := S.loc y lv' e
      exact ⟨u, by simpa [ne] using hu, hr.move hE (fun _ h => .tail _ h) hO⟩
  · rcases lookup_cons_cases e with ⟨rfl, rfl⟩ | ⟨ny, e2⟩
    · rcases lookup_cons_cases e' with ⟨rfl, rfl⟩ | ⟨nz, e3⟩
      · exact absurd rfl ne
      · simp only [if_true, nz, if_false]
        exact ⟨fun q => nea z lv'' e3 o' q.symm, hlb⟩
    · rcases lookup_cons_cases e' with ⟨rfl, rfl⟩ | ⟨nz, e3⟩
      · simp only [if_true, ny, if_false]
        exact ⟨nea y lv' e2 o, box y lv' e2⟩
      · simp only [ny, nz, if_false]; exact S.dst y z lv' lv'' ne e2 e3 o o'
  · rcases hb with hb | hb
    · rcases List.mem_cons.mp hb with rfl | hb
      · refine ⟨Keep.dead (h' := s.heap) S.fr.keep hd, haL, fun q => S.dlt b (mem_hid.mpr (.inr (.inr (.inr q)))) hd⟩
      · exact S.fresh b (.inl hb)
    · exact S.fresh b (.inr hb)
  · rcases List.mem_cons.mp hb with rfl | hb
    · exact S.dlt b (mem_hid.mpr (.inr (.inr (.inl hx')))) hd
    · exact S.apart b hb hx'
  · show h'.get? b ≠ none
    by_cases q : b = C.L
    · subst q
      obtain ⟨o, _, _, ho, _⟩ := hn'
      rw [ho]; exact fun z => nomatch z
    · rw [hs'.2 b q]
      by_cases q' : b = a
      · subst q'; rw [hl]; exact fun z => nomatch z
      · refine S1.dlt b (mem_hid.mpr ?_)
        rcases mem_hid.mp hb with h | h | h | h
        · exact .inl h
        · exact .inr (.inl ((List.mem_cons.mp h).resolve_left q'))
        · exact .inr (.inr (.inl h))
        · exact .inr (.inr (.inr h))
  · rcases List.mem_cons.mp hb with q | q
    · exact n' (q ▸ .head _)
    · rcases List.mem_cons.mp q with q | q
      · exact live b o e q
      · exact n' (.tail _ q)
end Mine
namespace Mine
variable {T : Tp} {d : DefRec} {C : Cx T} {ρ : Loc}

/-- a statement leads on -/
structure ES (d : DefRec) (C : Cx T) (ρ : Loc) (st : Stmt) (ρ' : Loc) : Prop where
  mk ::
  run : ∀ O s m (Q : Flow → Shared → Prop) (E : Value → Shared → Prop), St d C ρ O s m →
    (∀ O' h' tk m', St d C ρ' O' { s with heap := h', toks := tk } m' → Stay C s.heap O h' O' → Q .next { s with heap := h', toks := tk }) →
    wpAny (model T.prog T.w) C.A (exec st (C.env d)) Q E s

/-- how a block ends -/
inductive Out where
  | next (ρ : Loc)
  | ret (v : V) (ρ : Loc)

noncomputable def OutOk (d : DefRec) (C : Cx T) (f : Flow) (o : Out) (O : Own) (s : Shared) : Prop := match o with
  | .next ρ => f = .next ∧ ∃ m, St d C ρ O s m
  | .ret x ρ => ∃ v m, f = .ret v ∧ Rep T.mg s.heap (C.hid O) v x ∧ St d C ρ O s m

/-- a block -/
structure EX (d : DefRec) (C : Cx T) (ρ : Loc) (ss : List Stmt) (Φ : Out → Prop) : Prop where
  mk ::
  run : ∀ O s m (Q : Flow → Shared → Prop) (E : Value → Shared → Prop), St d C ρ O s m →
    (∀ f o O' h' tk, Φ o → OutOk d C f o O' { s with heap := h', toks := tk } → Stay C s.heap O h' O' → Q f { s with heap := h', toks := tk }) →
    wpAny (model T.prog T.w) C.A (execs ss (C.env d)) Q E s

theorem EX.nil {Φ : Out → Prop} (h : Φ (.next ρ)) : EX d C ρ [] Φ := by
  refine ⟨fun O s m Q E S k => ?_⟩
  exact wpAny_execs_nil (k _ _ O s.heap s.toks h ⟨rfl, m, S⟩ (.refl _ _))
theorem EX.step {ρ' : Loc} {st : Stmt} {rest : List Stmt} {Φ : Out → Prop} (h : ES d C ρ st ρ') (h' : EX d C ρ' rest Φ) : EX d C ρ (st :: rest) Φ := by
  refine ⟨fun O s m Q E S k => ?_⟩
  refine wpAny_execs_cons (h.run O s m _ _ S fun O' h1 tk m' S' y => ?_)
  exact h'.run O' _ m' _ _ S' fun f o O'' h2 tk2 hΦ ho y2 => k f o O'' h2 tk2 hΦ ho (y.trans y2)
theorem EX.mono {ss : List Stmt} {Φ Φ' : Out → Prop} (h : EX d C ρ ss Φ) (i : ∀ o, Φ o → Φ' o) : EX d C ρ ss Φ' := by
  refine ⟨fun O s m Q E S k => ?_⟩
  exact h.run O s m Q E S fun f o O' h' tk hΦ => k f o O' h' tk (i o hΦ)

/-- what is said behind a block whose end is not a return -/
noncomputable def Then (d : DefRec) (C : Cx T) (rest : List Stmt) (Φ : Out → Prop) : Out → Prop
  | .next ρ => EX d C ρ rest Φ
  | .ret v ρ => Φ (.ret v ρ)

theorem EX.ite {t : Expr} {body orelse : List Stmt} {pos : Pos} {rest : List Stmt} {b : Bool} {Φ : Out → Prop} (ht : ET d C ρ t b) (h1 : b = true → EX d C ρ body (Then d C rest Φ)) (h2 : b = false → EX d C ρ orelse (Then d C rest Φ)) :
    EX d C ρ (.If t body orelse pos :: rest) Φ := by
  refine ⟨fun O s m Q E S k => ?_⟩
  have go : ∀ ss h' tk, Keep s.heap h' → EX d C ρ ss (Then d C rest Φ) → wpAny (model T.prog T.w) C.A (execs ss (C.env d)) (fun f s' => match f with | .next => wpAny (model T.prog T.w) C.A (execs rest (C.env d)) Q E s' | f => Q f s') E { s with heap := h', toks := tk } := by
    intro ss h' tk K h
    refine h.run O _ m _ _ (S.keep K) fun f o O' h2 tk2 hΦ ho y => ?_
    cases o with
    | next ρ' =>
      obtain ⟨rfl, m', S'⟩ := ho
      exact EX.run hΦ O' _ m' _ _ S' fun f o O'' h3 tk3 hΦ' ho' y' => k f o O'' h3 tk3 hΦ' ho' (((Stay.keep K).trans y).trans y')
    | ret v ρ' =>
      obtain ⟨u, m', rfl, r, S'⟩ := ho
      exact k _ (.ret v ρ') O' h2 tk2 hΦ ⟨u, m', rfl, r, S'⟩ ((Stay.keep K).trans y)
  refine wpAny_execs_cons (wpAny_If (ht.run O s m _ _ S fun h' tk K => ?_))
  cases b with
  | true => exact go body h' tk K (h1 rfl)
  | false => exact go orelse h' tk K (h2 rfl)

theorem EX.ret {e : Expr} {pos : Pos} {rest : List Stmt} {v : V} {Φ : Out → Prop} (h : EV d C ρ e v) (hΦ : Φ (.ret v ρ)) : EX d C ρ (.Return (some e) pos :: rest) Φ := by
  refine ⟨fun O s m Q E S k => ?_⟩
  refine wpAny_execs_cons (wpAny_Return_some (h.run O s m _ _ S fun u h' tk K r => ?_))
  exact k _ _ O h' tk hΦ ⟨u, m, rfl, r, S.keep K⟩ (.keep K)

/-- less may be known -/
noncomputable def Sub : Loc → Loc → Prop
  | [], _ => True
  | (x, lv) :: r, ρ => (∃ lv', ρ.lookup x = some lv' ∧ lv' = lv) ∧ Sub r ρ
theorem Sub.look : ∀ {ρ' ρ : Loc}, Sub ρ' ρ → ∀ x lv, ρ'.lookup x = some lv → ρ.lookup x = some lv
  | (y, l) :: r, ρ, ⟨⟨l', h, q⟩, hr⟩, x, lv, e => by
    rcases lookup_cons_cases e with ⟨rfl, rfl⟩ | ⟨_, e2⟩
    · rw [h, q]
    · exact Sub.look hr x lv e2
theorem St.sub {ρ' : Loc} {O : Own} {s : Shared} {m : PySem.Str → Option Value} (S : St d C ρ O s m) (h : Sub ρ' ρ) : St d C ρ' O s m :=
  ⟨S.kind, S.fr, fun x lv e => S.loc x lv (h.look x lv e), fun x y lv lv' ne e e' => S.dst x y lv lv' ne (h.look _ _ e) (h.look _ _ e'), S.fresh, S.apart, S.dlt⟩
theorem EX.sub {ρ' : Loc} {ss : List Stmt} {Φ : Out → Prop} (h : Sub ρ' ρ) (h' : EX d C ρ' ss Φ) : EX d C ρ ss Φ := by
  refine ⟨fun O s m Q E S k => ?_⟩
  exact h'.run O s m Q E (S.sub h) k
theorem Then.sub {ρ' : Loc} {ss : List Stmt} {Φ : Out → Prop} (h : Sub ρ' ρ) (h' : Then d C ss Φ (.next ρ')) : Then d C ss Φ (.next ρ) := EX.sub h h'

theorem ES.assign {x : PySem.Str} {p pos : Pos} {e : Expr} {v : V} (h : EV d C ρ e v) (hx : (C.env d).kindOf x = some .local) (hs : swapsWith e (some (.Name x p)) pos.line (C.env d) = pure false) :
    ES d C ρ (.Assign [.Name x p] e pos) ((x, .val v) :: ρ) := by
  refine ⟨fun O s m Q E S k => ?_⟩
  refine wpAny_Assign_Name (h.run O s m _ _ S fun u h' tk K r => ?_) hs
  exact (S.keep (s' := { s with heap := h', toks := tk }) K).store r hx fun h2 tk2 _ S' y => k O h2 tk2 _ S' ((Stay.keep K).trans y)
theorem ES.assignOwn {x : PySem.Str} {p pos : Pos} {e : Expr} {xs : List Int} {lv : LV} (h : EF d C ρ e xs) (hlv : lv = .own xs ∨ lv = .arr xs) (hnb : ρ.all (fun p => !p.2.isBox) = true) (hx : (C.env d).kindOf x = some .local) (hs : swapsWith e (some (.Name x p)) pos.line (C.env d) = pure false) :
    ES d C ρ (.Assign [.Name x p] e pos) ((x, lv) :: ρ) := by
  refine ⟨fun O s m Q E S k => ?_⟩
  refine wpAny_Assign_Name (h.run O s m _ _ S fun a vs n h' tk K hd hl hi => ?_) hs
  exact S.storeOwn (s₁ := { s with heap := h', toks := tk }) K hd hl hi hlv hnb hx fun O' h2 tk2 m' S' y => k O' h2 tk2 m' S' y

/-- an operation in place upon two ints -/
structure OpJ (op : Operator) (a b r : Int) : Prop where
  mk ::
  run : ∀ (prog : Program) (w : World) (A : Around) (t u : Tok) (s : Shared) (Q E : Value → Shared → Prop),
  (∀ t' tk, Q (.int r t') { s with toks := tk }) → wpAny (model prog w) A (inplaceOp op (.int a t) (.int b u)) Q E s
theorem OpJ.add {a b : Int} : OpJ .Add a b (a + b) := ⟨fun _ _ _ _ _ _ _ _ k => iadd_int (k _ _)⟩
theorem OpJ.sub {a b : Int} : OpJ .Sub a b (a - b) := ⟨fun _ _ _ _ _ _ _ _ k => isub_int (k _ _)⟩
theorem OpJ.mod {a b : Int} (h0 : b ≠ 0) : OpJ .Mod a b (a.fmod b) := ⟨fun _ _ _ _ _ _ _ _ k => imod_int h0 (k _ _)⟩
theorem OpJ.shr {a b : Int} (h0 : 0 ≤ b) : OpJ .RShift a b (a.fdiv (2 ^ b.toNat)) := ⟨fun _ _ _ _ _ _ _ _ k => irshift_int h0 (k _ _)⟩
theorem OpJ.or {a b : Int} : OpJ .BitOr a b (Builtin.bitOr a b) := ⟨fun _ _ _ _ _ _ _ _ k => ior_int (k _ _)⟩
theorem OpJ.to {op : Operator} {a b r r' : Int} (h : OpJ op a b r) (e : r = r') : OpJ op a b r' := e ▸ h

theorem ES.aug {x : PySem.Str} {p pos : Pos} {op : Operator} {e : Expr} {a b r : Int} (hl : ρ.lookup x = some (.val (.int a))) (h : EV d C ρ e (.int b)) (ho : OpJ op a b r) (hx : (C.env d).kindOf x = some .local) :
    ES d C ρ (.AugAssign (.Name x p) op e pos) ((x, .val (.int r)) :: ρ) := by
  refine ⟨fun O s m Q E S k => ?_⟩
  obtain ⟨u, hu, ru⟩ := S.loc x _ hl
  obtain ⟨t, rfl⟩ := Rep.int_inv ru
  refine wpAny_AugAssign_Name (ldnF S.fr hu (h.run O s m _ _ S fun v h' tk K rv => ?_) S.kind hx)
  obtain ⟨t', rfl⟩ := rv.int_inv
  refine ho.run _ _ _ _ _ _ _ _ fun t3 tk3 => ?_
  exact (S.keep (s' := { s with heap := h', toks := tk3 }) K).store (.int r t3) hx fun h2 tk2 _ S' y => k O h2 tk2 _ S' ((Stay.keep K).trans y)

/-- a change of one own list -/
theorem St.poke {O : Own} {s : Shared} {m : PySem.Str → Option Value} {x : PySem.Str} {a : Addr} {h' : Heap} {lv lv' : LV} {tk : Nat} (S : St d C ρ O s m) (hl : ρ.lookup x = some lv) (ho : lv.isOwn = true) (hb : lv.isBox = false) (ho' : lv'.isOwn = true) (hb' : lv'.isBox = false) (hm : m x = some (.ref a)) (ha : a ∈ O.o)
    (hs : Heap.SameBut a s.heap h') (hlive : h'.get? a ≠ none) (hr : LRep C h' O (.ref a) lv') : St d C ((x, lv') :: ρ) O { s with heap := h', toks := tk } m ∧ Stay C s.heap O h' O := by
  have haL : a ≠ C.L := (S.fresh a (.inl ha)).2.1
  have hah : a ∈ C.hid O := mem_hid.mpr (.inr (.inl ha))
  have hE : Ext s.heap (C.hid O) h' (C.hid O) := fun b o n e => ⟨n, (hs.2 b (fun q => n (q ▸ hah))).trans e⟩
  refine ⟨⟨S.kind, ⟨S.fr.ns.sameBut hs (Ne.symm haL), fun b o e => (hs.2 b fun q => ?_).trans (S.fr.keep b o e), S.fr.new⟩, fun y l e => ?_, fun y z l l' ne e e' o o' => ?_, S.fresh, S.apart, fun b hb => ?_⟩, fun b o n e => ⟨n, (hs.2 b (fun q => n (q ▸ .tail _ ha))).trans e⟩, rfl⟩
  · subst q; rw [(S.fresh b (.inl ha)).1] at e; cases e
  · rcases lookup_cons_cases e with ⟨rfl, rfl⟩ | ⟨ne, e2⟩
    · exact ⟨_, hm, hr⟩
    · obtain ⟨u, hu, r⟩ := S.loc y l e2
      refine ⟨u, hu, ?_⟩
      have dd : l.isOwn = true → m y ≠ m x ∧ l.isBox = false := fun q => S.dst y x l lv ne e2 hl q ho
      have un : ∀ b, u = .ref b → l.isOwn = true → b ≠ a := fun b q o z => (dd o).1 (by rw [hu, hm, q, z])
      have mv : ∀ b, b ≠ a → ∀ o, s.heap.get? b = some o → h'.get? b = some o := fun b n o q => (hs.2 b n).trans q
      cases l with
      | val V => exact Rep.mono hE r
      | own ys => obtain ⟨b, vs, rfl, hbm, ⟨o, n, q, z⟩, hi⟩ := r; exact ⟨b, vs, rfl, hbm, ⟨o, n, mv b (un b rfl rfl) o q, z⟩, hi⟩
      | arr ys => obtain ⟨b, vs, rfl, hbm, ⟨o, q, z⟩, hi⟩ := r; exact ⟨b, vs, rfl, hbm, ⟨o, mv b (un b rfl rfl) o q, z⟩, hi⟩
      | pin c ys => obtain ⟨vs, rfl, hbm, ⟨o, q, z⟩, hi⟩ := r; exact ⟨vs, rfl, hbm, ⟨o, mv c (un c rfl rfl) o q, z⟩, hi⟩
      | box a1 b1 ys k => have := (dd rfl).2; cases this
  · rcases lookup_cons_cases e with ⟨rfl, rfl⟩ | ⟨ny, e2⟩
    · rcases lookup_cons_cases e' with ⟨rfl, rfl⟩ | ⟨nz, e3⟩
      · exact absurd rfl ne
      · exact ⟨(S.dst y z lv l' ne hl e3 ho o').1, hb'⟩
    · rcases lookup_cons_cases e' with ⟨rfl, rfl⟩ | ⟨nz, e3⟩
      · exact S.dst y z l lv ne e2 hl o ho
      · exact S.dst y z l l' ne e2 e3 o o'
  · show h'.get? b ≠ none
    by_cases q : b = a
    · subst q; exact hlive
    · rw [hs.2 b q]; exact S.dlt b hb

theorem ES.append {x : PySem.Str} {xp ap p pos : Pos} {e : Expr} {xs : List Int} {v : Int} (hl : ρ.lookup x = some (.own xs)) (h : EV d C ρ e (.int v)) (hz : xs.length ≤ 1000000) (hx : (C.env d).kindOf x = some .local) (hd : (x == ("__debug__" : PySem.Str)) = false)
    (hi' : interactive (C.env d) = false) (hs : swapsWith (.Call (.Attribute (.Name x xp) "append" ap) [e] [] p) none pos.line (C.env d) = pure false)
    (hbase : attributeBase (.Name x xp) "append" (C.env d) (eval (.Name x xp) (C.env d)) = eval (.Name x xp) (C.env d))
    (hfew : ((backTo p (starEach [e] (C.env d))).all (fun x => !x.1) && (backToKw p (keywordEach [] (C.env d))).all (fun x => x.1.isSome)
      && decide (([e] : List Expr).length + ([] : List Keyword).length + (if ([] : List Keyword).isEmpty then 0 else 1) < 30)) = true)
    (hline : (ap.endLine == p.line) = true) (htrees : backTo p (starEach [e] (C.env d)) = [(false, eval e (C.env d))]) :
    ES d C ρ (.Expr (.Call (.Attribute (.Name x xp) "append" ap) [e] [] p) pos) ((x, .own (xs ++ [v])) :: ρ) := by
  refine ⟨fun O s m Q E S k => ?_⟩
  obtain ⟨u, hu, a, vs, rfl, ha, hp, hI⟩ := S.loc x _ hl
  refine wpAny_Expr (wpAny_Call_append hbase hfew hline htrees (ldF S.fr hu ⟨a, vs.toArray, rfl, hp, h.run O s m _ _ S fun w h' tk K r => ?_⟩ S.kind hx hd)) hi' hs
  obtain ⟨t, rfl⟩ := r.int_inv
  have hn := hI.length
  have S1 : St d C ρ O { s with heap := h', toks := tk } m := S.keep K
  refine list_append_plainL (hp.keeps K) (fun h2 hp2 hs2 => ?_) (by simp [sizeLine]; omega)
  have hr : LRep C h2 O (.ref a) (.own (xs ++ [v])) := ⟨a, vs ++ [.int v t], rfl, ha, by simpa using hp2, hI.append (.cons v t .nil)⟩
  have hlv : h2.get? a ≠ none := by obtain ⟨o, n, q, _⟩ := hp2; rw [q]; exact fun z => nomatch z
  have := S1.poke (tk := tk) hl rfl rfl rfl rfl hu ha hs2 hlv hr
  exact k O h2 tk m this.1 ((Stay.keep K).trans this.2)

theorem IntsAre.set : ∀ {vs : List Value} {xs : List Int}, IntsAre vs xs → ∀ (i : Nat) (v : Int) (t : Tok), IntsAre (vs.set i (.int v t)) (xs.set i v)
  | _, _, .nil, _, _, _ => .nil
  | _, _, .cons n t r, 0, v, u => .cons v u r
  | _, _, .cons n t r, i + 1, v, u => .cons n t (IntsAre.set r i v u)

theorem ES.setItem {x : PySem.Str} {xp p pos : Pos} {i e : Expr} {xs : List Int} {v k : Int} (hl : ρ.lookup x = some (.arr xs)) (h : EV d C ρ e (.int v)) (hi : EV d C ρ i (.int k)) (h0 : 0 ≤ k) (hk : k < xs.length) (hz : xs.length ≤ 1000000)
    (hx : (C.env d).kindOf x = some .local) (hd : (x == ("__debug__" : PySem.Str)) = false) (hs : swapsWith e (some (.Subscript (.Name x xp) i p)) pos.line (C.env d) = pure false) :
    ES d C ρ (.Assign [.Subscript (.Name x xp) i p] e pos) ((x, .arr (xs.set k.toNat v)) :: ρ) := by
  refine ⟨fun O s m Q E S kk => ?_⟩
  obtain ⟨u, hu, a, vs, rfl, ha, hp, hI⟩ := S.loc x _ hl
  have hn := hI.length
  refine wpAny_Assign_Subscript (h.run O s m _ _ S fun w h1 t1 K1 r1 => ldF (S.keep (s' := { s with heap := h1, toks := t1 }) K1).fr hu (hi.run O _ m _ _ (S.keep (s' := { s with heap := h1, toks := t1 }) K1) fun w2 h2 t2 K2 r2 => ?_) S.kind hx hd) hs
  obtain ⟨t, rfl⟩ := r1.int_inv
  obtain ⟨t', rfl⟩ := r2.int_inv
  have K : Keep s.heap h2 := K1.trans K2
  have S2 : St d C ρ O { s with heap := h2, toks := t2 } m := S.keep K
  have hp2 : h2.IsList a vs.toArray := let ⟨o, q, z⟩ := hp; ⟨o, K _ _ q, z⟩
  refine wpAny_setItem_list hp2 h0 (by omega) (by simp; omega) fun h3 hp3 hs3 => ?_
  have hr : LRep C h3 O (.ref a) (.arr (xs.set k.toNat v)) := ⟨a, vs.set k.toNat (.int v t), rfl, ha, by simpa using hp3, IntsAre.set hI _ _ _⟩
  have hlv : h3.get? a ≠ none := by obtain ⟨o, q, _⟩ := hp3; rw [q]; exact fun z => nomatch z
  have := S2.poke (tk := t2) hl rfl rfl rfl rfl hu ha hs3 hlv hr
  exact kk O h3 t2 m this.1 ((Stay.keep K).trans this.2)
end Mine
namespace Mine
variable {T : Tp} {d : DefRec} {C : Cx T} {ρ : Loc}

theorem Stay.ext {h h' : Heap} {O O' : Own} (y : Stay C h O h' O') : Ext h (C.hid O) h' (C.hid O') := fun b o n e => by
  have n1 : b ∉ C.L :: O.o := fun q => n (mem_hid.mpr ((List.mem_cons.mp q).elim .inl fun z => .inr (.inl z)))
  obtain ⟨n2, e2⟩ := y.1 b o n1 e
  refine ⟨fun q => ?_, e2⟩
  rcases mem_hid.mp q with q | q | q | q
  · exact n2 (q ▸ .head _)
  · exact n2 (.tail _ q)
  · rw [y.2] at q; exact n (mem_hid.mpr (.inr (.inr (.inl q))))
  · exact n (mem_hid.mpr (.inr (.inr (.inr q))))

noncomputable def push : Loc → List PySem.Str → List V → Loc
  | ρ, x :: xs, v :: vs => push ((x, .val v) :: ρ) xs vs
  | ρ, _, _ => ρ

noncomputable def Tgts (d : DefRec) (C : Cx T) : List (Value → Sem Unit) → List PySem.Str → Prop
  | [], [] => True
  | t :: ts, x :: xs => ((∀ (v : Value) (Q : Unit → Shared → Prop) (E : Value → Shared → Prop) (s : Shared), wpAny (model T.prog T.w) C.A (storeName (C.env d) x v) Q E s → wpAny (model T.prog T.w) C.A (t v) Q E s) ∧ (C.env d).kindOf x = some .local) ∧ Tgts d C ts xs
  | _, _ => False

theorem St.storeAll {O : Own} {ts' : List (Value → Sem Unit)} {vs' : List Value} : ∀ {ts : List (Value → Sem Unit)} {xs : List PySem.Str} {vs : List Value} {Vs : List V} {ρ : Loc} {s : Shared} {m : PySem.Str → Option Value} {Q : Unit → Shared → Prop} {E : Value → Shared → Prop}, St d C ρ O s m → Tgts d C ts xs → xs.length = Vs.length → Reps T.mg s.heap (C.hid O) vs Vs →
    (∀ h' tk m', Heap.SameBut C.L s.heap h' → (∀ y, y ∉ xs → m' y = m y) → St d C (push ρ xs Vs) O { s with heap := h', toks := tk } m' → Stay C s.heap O h' O → wpAny (model T.prog T.w) C.A (assignInOrder ts' vs') Q E { s with heap := h', toks := tk }) →
    wpAny (model T.prog T.w) C.A (assignInOrder (ts ++ ts') (vs ++ vs')) Q E s
  | [], [], [], [], ρ, s, m, Q, E, S, _, _, _, k => k s.heap s.toks m (.refl ..) (fun _ _ => rfl) S (.refl _ _)
  | t :: ts, x :: xs, v :: vs, V :: Vs, ρ, s, m, Q, E, S, ht, hn, r, k => by
    show wpAny _ _ (do holding (vs ++ vs') (t v); assignInOrder (ts ++ ts') (vs ++ vs')) Q E s
    refine wpAny_bind (wpAny_holding (ht.1.1 v _ _ s (S.store r.1 ht.1.2 fun h' tk hsb S' y => ?_)))
    refine St.storeAll S' ht.2 (by simpa using hn) (r.2.mono y.ext) fun h2 tk2 m2 hsb2 hm2 S2 y2 => ?_
    refine k h2 tk2 m2 (hsb.trans hsb2) (fun z hz => ?_) S2 (y.trans y2)
    have h1 : z ≠ x := fun q => hz (q ▸ .head _)
    rw [hm2 z fun q => hz (.tail _ q), if_neg h1]
  | [], _ :: _, _, _, _, _, _, _, _, _, ht, _, _, _ => ht.elim
  | _ :: _, [], _, _, _, _, _, _, _, _, ht, _, _, _ => ht.elim
  | [], [], _, _ :: _, _, _, _, _, _, _, _, hn, _, _ => by simp at hn
  | [], [], _ :: _, [], _, _, _, _, _, _, _, _, r, _ => r.elim
  | _ :: _, _ :: _, _, [], _, _, _, _, _, _, _, hn, _, _ => by simp at hn
  | _ :: _, _ :: _, [], _ :: _, _, _, _, _, _, _, _, _, r, _ => r.elim
theorem St.storeAll0 {O : Own} {ts : List (Value → Sem Unit)} {xs : List PySem.Str} {vs : List Value} {Vs : List V} {ρ : Loc} {s : Shared} {m : PySem.Str → Option Value} {Q : Unit → Shared → Prop} {E : Value → Shared → Prop} (S : St d C ρ O s m) (ht : Tgts d C ts xs) (hn : xs.length = Vs.length) (r : Reps T.mg s.heap (C.hid O) vs Vs)
    (k : ∀ h' tk m', St d C (push ρ xs Vs) O { s with heap := h', toks := tk } m' → Stay C s.heap O h' O → Q () { s with heap := h', toks := tk }) :
    wpAny (model T.prog T.w) C.A (assignInOrder ts vs) Q E s := by
  have := St.storeAll (ts' := []) (vs' := []) (Q := Q) (E := E) S ht hn r fun h' tk m' _ _ S' y => wpAny_pure (k h' tk m' S' y)
  simpa using this
theorem push_own : ∀ {xs : List PySem.Str} {Vs : List V} {ρ : Loc} {y : PySem.Str} {lv : LV}, xs.length = Vs.length → (push ρ xs Vs).lookup y = some lv → lv.isOwn = true → y ∉ xs ∧ ρ.lookup y = some lv
  | [], [], _, _, _, _, e, _ => ⟨fun h => (nomatch h), e⟩
  | x :: xs, V :: Vs, ρ, y, lv, hn, e, o => by
    obtain ⟨h1, h2⟩ := push_own (xs := xs) (Vs := Vs) (ρ := (x, .val V) :: ρ) (by simpa using hn) e o
    rcases lookup_cons_cases h2 with ⟨rfl, rfl⟩ | ⟨ne, h3⟩
    · cases o
    · exact ⟨fun q => (List.mem_cons.mp q).elim ne h1, h3⟩
  | [], _ :: _, _, _, _, hn, _, _ => by simp at hn
  | _ :: _, [], _, _, _, hn, _, _ => by simp at hn
theorem push_box : ∀ {xs : List PySem.Str} {Vs : List V} {ρ : Loc}, ρ.all (fun p => !p.2.isBox) = true → (push ρ xs Vs).all (fun p => !p.2.isBox) = true
  | [], _, _, h => h
  | _ :: _, [], _, h => h
  | x :: xs, V :: Vs, ρ, h => push_box (xs := xs) (Vs := Vs) (ρ := (x, .val V) :: ρ) (by simp only [List.all_cons, h]; rfl)

theorem keep_extBut {h h' : Heap} (hs : Heap.ExtBut h.objs.size h h') : Keep h h' := fun b o e => hs b o (Nat.ne_of_lt (Heap.lt_size e)) e

theorem ES.tup {elts : List Expr} {n : Nat} {tp pos : Pos} {e : Expr} {Vs : List V} (xs : List PySem.Str) (h : EV d C ρ e (.tup Vs)) (ht : Tgts d C ((assignEach elts (C.env d)).map (·.2)) xs) (hn : xs.length = Vs.length)
    (hn' : (assignEach elts (C.env d)).length = Vs.length) (hstar : (assignEach elts (C.env d)).findIdx? (·.1) = none)
    (hs : swapsWithSole [.Tuple elts n tp] e pos.line (C.env d) = pure false) (hw : swappedStores [.Tuple elts n tp] e (C.env d) = pure none) :
    ES d C ρ (.Assign [.Tuple elts n tp] e pos) (push ρ xs Vs) := by
  refine ⟨fun O s m Q E S k => ?_⟩
  refine Assign_Tuple (h.run O s m _ _ S fun u h' tk K r => ?_) hs hw
  obtain ⟨a, vs, rfl, _, htp, hr⟩ := r.tup_inv
  refine wpAny_assign_Tuple C.hh htp (by simp [hn', hr.length]) hstar fun h2 he => ?_
  have K2 : Keep s.heap h2 := K.trans (keep_extBut he)
  refine St.storeAll0 (S.keep (s' := { s with heap := h2, toks := tk }) K2) ht hn (hr.mono (Ext.keep (keep_extBut he))) fun h3 tk3 m3 S3 y3 => ?_
  exact k O h3 tk3 m3 S3 ((Stay.keep K2).trans y3)

theorem tgts_bind (xs : List PySem.Str) (h : ∀ x ∈ xs, (C.env d).kindOf x = some .local) : Tgts d C (xs.map fun n => bindName (C.env d) n) xs := by
  induction xs with
  | nil => trivial
  | cons x r ih => exact ⟨⟨fun v Q E s q => wpAny_bindName q, h x (.head _)⟩, ih fun y hy => h y (.tail _ hy)⟩

theorem Reps.append {mg : GM} {h : Heap} {H : List Addr} : ∀ {vs ws : List Value} {xs ys : List V}, Reps mg h H vs xs → Reps mg h H ws ys → Reps mg h H (vs ++ ws) (xs ++ ys)
  | [], _, [], _, _, r => r
  | _ :: _, _, _ :: _, _, q, r => ⟨q.1, Reps.append q.2 r⟩
theorem Reps.reverse {mg : GM} {h : Heap} {H : List Addr} : ∀ {vs : List Value} {xs : List V}, Reps mg h H vs xs → Reps mg h H vs.reverse xs.reverse
  | [], [], _ => trivial
  | v :: vs, x :: xs, r => by
    rw [List.reverse_cons, List.reverse_cons]
    exact (Reps.reverse r.2).append ⟨r.1, trivial⟩

theorem ES.swap {elts : List Expr} {n : Nat} {tp pos : Pos} {e : Expr} {Vs : List V} (xs : List PySem.Str) (h : EV d C ρ e (.tup Vs)) (hx : ∀ x ∈ xs, (C.env d).kindOf x = some .local) (hn : xs.length = Vs.length)
    (hs : swapsWithSole [.Tuple elts n tp] e pos.line (C.env d) = pure false) (hw : swappedStores [.Tuple elts n tp] e (C.env d) = pure (some xs)) :
    ES d C ρ (.Assign [.Tuple elts n tp] e pos) (push ρ xs.reverse Vs.reverse) := by
  refine ⟨fun O s m Q E S k => ?_⟩
  refine Assign_Tuple_swapped (names := xs) (h.run O s m _ _ S fun u h' tk K r => ?_) hs hw
  obtain ⟨a, vs, rfl, _, htp, hr⟩ := r.tup_inv
  have hl : xs.length = vs.toArray.size := by simp [hn, hr.length]
  rw [hl]
  refine unpackItems_tuple C.hh htp fun h2 he => ?_
  have K2 : Keep s.heap h2 := K.trans (keep_extBut he)
  refine St.storeAll0 (S.keep (s' := { s with heap := h2, toks := tk }) K2) (tgts_bind _ fun x q => hx x (List.mem_reverse.mp q)) (by simpa using hn) ((hr.mono (Ext.keep (keep_extBut he))).reverse) fun h3 tk3 m3 S3 y3 => ?_
  exact k O h3 tk3 m3 S3 ((Stay.keep K2).trans y3)

/-- a new list is hidden -/
theorem St.adopt {O : Own} {s s₁ : Shared} {m : PySem.Str → Option Value} {a : Addr} (S : St d C ρ O s m) (K : Keep s.heap s₁.heap) (hd : s.heap.get? a = none) (hl : s₁.heap.get? a ≠ none) :
    St d C ρ ⟨a :: O.o, O.x⟩ s₁ m ∧ Stay C s.heap O s₁.heap ⟨a :: O.o, O.x⟩ ∧ ∀ y lv, ρ.lookup y = some lv → lv.isOwn = true → m y ≠ some (.ref a) := by
  have live : ∀ b o, s.heap.get? b = some o → b ≠ a := fun b o e q => by subst q; rw [hd] at e; cases e
  have hE : Ext s.heap (C.hid O) s₁.heap (C.hid ⟨a :: O.o, O.x⟩) := fun b o n' e => by
    refine ⟨fun hb => ?_, K b o e⟩
    rcases mem_hid.mp hb with q | q | q | q
    · exact n' (mem_hid.mpr (.inl q))
    · rcases List.mem_cons.mp q with q | q
      · exact live b o e q
      · exact n' (mem_hid.mpr (.inr (.inl q)))
    · exact n' (mem_hid.mpr (.inr (.inr (.inl q))))
    · exact n' (mem_hid.mpr (.inr (.inr (.inr q))))
  have S1 : St d C ρ O s₁ m := S.keep K
  refine ⟨⟨S.kind, S1.fr, fun y lv e => ?_, S.dst, fun b hb => ?_, fun b hb hx => ?_, fun b hb => ?_⟩, ⟨fun b o n' e => ⟨fun hb => ?_, K b o e⟩, rfl⟩, fun y lv e o q => ?_⟩
  · obtain ⟨u, hu, r⟩ := S.loc y lv e
    exact ⟨u, hu, r.move hE (fun _ h => .tail _ h) fun b _ o q => K b o q⟩
  · rcases hb with hb | hb
    · rcases List.mem_cons.mp hb with rfl | hb
      · exact ⟨Keep.dead (h' := s.heap) S.fr.keep hd, fun q => S.dlt C.L St.Lhid (q ▸ hd), fun q => S.dlt b (mem_hid.mpr (.inr (.inr (.inr q)))) hd⟩
      · exact S.fresh b (.inl hb)
    · exact S.fresh b (.inr hb)
  · rcases List.mem_cons.mp hb with rfl | hb
    · exact S.dlt b (mem_hid.mpr (.inr (.inr (.inl hx)))) hd
    · exact S.apart b hb hx
  · rcases mem_hid.mp hb with h | h | h | h
    · exact S1.dlt b (mem_hid.mpr (.inl h))
    · rcases List.mem_cons.mp h with rfl | h
      · exact hl
      · exact S1.dlt b (mem_hid.mpr (.inr (.inl h)))
    · exact S1.dlt b (mem_hid.mpr (.inr (.inr (.inl h))))
    · exact S1.dlt b (mem_hid.mpr (.inr (.inr (.inr h))))
  · rcases List.mem_cons.mp hb with q | q
    · exact n' (q ▸ .head _)
    · rcases List.mem_cons.mp q with q | q
      · exact live b o e q
      · exact n' (.tail _ q)
  · obtain ⟨u, hu, hr⟩ := S.loc y lv e
    rw [q] at hu
    cases hu
    have bad : a ∈ O.o → False := fun h => S.dlt a (mem_hid.mpr (.inr (.inl h))) hd
    cases lv with
    | val => cases o
    | own ys => obtain ⟨b, _, h1, hb, _⟩ := hr; cases h1; exact bad hb
    | arr ys => obtain ⟨b, _, h1, hb, _⟩ := hr; cases h1; exact bad hb
    | pin c ys => obtain ⟨_, h1, hb, _⟩ := hr; cases h1; exact bad hb
    | box a1 b1 ys k => obtain ⟨_, _, _, h1, hb, _⟩ := hr; cases h1; exact bad hb

/-- a local name is bound to a hidden list that no other name holds -/
theorem St.storeHeld {O : Own} {s : Shared} {m : PySem.Str → Option Value} {x : PySem.Str} {a : Addr} {lv : LV} {Q : Unit → Shared → Prop} {E : Value → Shared → Prop} (S : St d C ρ O s m)
    (hr : LRep C s.heap O (.ref a) lv) (ha : a ∈ O.o) (hlb : lv.isBox = false) (hnb : ρ.all (fun p => !p.2.isBox) = true) (free : ∀ y l, ρ.lookup y = some l → l.isOwn = true → m y ≠ some (.ref a))
    (hx : (C.env d).kindOf x = some .local)
    (k : ∀ h' tk m', St d C ((x, lv) :: ρ) O { s with heap := h', toks := tk } m' → Stay C s.heap O h' O → Q () { s with heap := h', toks := tk }) :
    wpAny (model T.prog T.w) C.A (storeName (C.env d) x (.ref a)) Q E s := by
  refine wpAny_storeName_local hx S.fr.ns (fun h' hn hs => ?_) (by show (d.scope.kind == .class || (d.scope.kind == .module && C.L != mainGlobals)) = false; rw [S.kind]; rfl)
  have hn' : h'.Ns C.L (fun y => if y = x then some (.ref a) else m y) := hn
  have hs' : Heap.SameBut C.L s.heap h' := hs
  have hget : ∀ b o, b ≠ C.L → s.heap.get? b = some o → h'.get? b = some o := fun b o ne e => (hs'.2 b ne).trans e
  have hE : Ext s.heap (C.hid O) h' (C.hid O) := fun b o n e => ⟨n, hget b o (fun q => n (q ▸ St.Lhid)) e⟩
  have hO : ∀ b ∈ O.o, ∀ o, s.heap.get? b = some o → h'.get? b = some o := fun b hb o e => hget b o (S.fresh b (.inl hb)).2.1 e
  have box : ∀ y lv', ρ.lookup y = some lv' → lv'.isBox = false := fun y lv' e => by simpa using List.all_eq_true.mp hnb _ (lookup_mem e)
  refine k h' _ _ ⟨S.kind, S.fr.set hn' hs', fun y l e => ?_, fun y z l l' ne e e' o o' => ?_, S.fresh, S.apart, fun b hb => ?_⟩ ⟨fun b o n e => ⟨n, hget b o (fun q => n (q ▸ .head _)) e⟩, rfl⟩
  · rcases lookup_cons_cases e with ⟨rfl, rfl⟩ | ⟨ne, e⟩
    · exact ⟨_, if_pos rfl, hr.move hE (fun _ h => h) hO⟩
    · obtain ⟨u, hu, hr⟩ := S.loc y l e
      exact ⟨u, by simpa [ne] using hu, hr.move hE (fun _ h => h) hO⟩
  · rcases lookup_cons_cases e with ⟨rfl, rfl⟩ | ⟨ny, e2⟩
    · rcases lookup_cons_cases e' with ⟨rfl, rfl⟩ | ⟨nz, e3⟩
      · exact absurd rfl ne
      · simp only [if_true, nz, if_false]
        exact ⟨fun q => free z l' e3 o' q.symm, hlb⟩
    · rcases lookup_cons_cases e' with ⟨rfl, rfl⟩ | ⟨nz, e3⟩
      · simp only [if_true, ny, if_false]
        exact ⟨free y l e2 o, box y l e2⟩
      · simp only [ny, nz, if_false]; exact S.dst y z l l' ne e2 e3 o o'
  · show h'.get? b ≠ none
    by_cases q : b = C.L
    · subst q
      obtain ⟨o, _, _, ho, _⟩ := hn'
      rw [ho]; exact fun z => nomatch z
    · rw [hs'.2 b q]; exact S.dlt b hb
end Mine
namespace Mine
variable {T : Tp} {d : DefRec} {C : Cx T} {ρ : Loc}

theorem Reps.ints {mg : GM} {h h' : Heap} {H H' : List Addr} : ∀ {vs : List Value} {xs : List Int}, Reps mg h H vs (xs.map V.int) → Reps mg h' H' vs (xs.map V.int)
  | [], [], _ => trivial
  | _ :: _, x :: _, r => by obtain ⟨t, rfl⟩ := r.1.int_inv; exact ⟨.int x t, Reps.ints r.2⟩
  | [], _ :: _, r => r.elim
  | _ :: _, [], r => r.elim

/-- x, ys = (a new list, ints) -/
theorem ES.swapOwn {elts : List Expr} {n n' : Nat} {tp tp' pos : Pos} {e : Expr} {es : List Expr} {ks : List Int} {zs : List Int} {lv : LV} (x : PySem.Str) (xs : List PySem.Str) (h : EF d C ρ e zs) (hes : EVs d C ρ es (ks.map V.int)) (hlv : lv = .own zs ∨ lv = .arr zs)
    (hnb : ρ.all (fun p => !p.2.isBox) = true) (hx : ∀ y ∈ x :: xs, (C.env d).kindOf y = some .local) (hn : xs.length = ks.length) (hk : ks.length ≤ 100)
    (he : starEach (e :: es) (C.env d) = (false, eval e (C.env d)) :: starEach es (C.env d))
    (hs : swapsWithSole [.Tuple elts n tp] (.Tuple (e :: es) n' tp') pos.line (C.env d) = pure false) (hw : swappedStores [.Tuple elts n tp] (.Tuple (e :: es) n' tp') (C.env d) = pure (some (x :: xs))) :
    ES d C ρ (.Assign [.Tuple elts n tp] (.Tuple (e :: es) n' tp') pos) ((x, lv) :: push ρ xs.reverse (ks.map V.int).reverse) := by
  refine ⟨fun O s m Q E S k => ?_⟩
  refine Assign_Tuple_swapped (names := x :: xs) (wpAny_Tuple (args_cons (h.run O s m _ _ S fun a vs0 n0 h1 t1 K1 hd hl hi => hes.run O _ m _ _ _ (S.keep K1) fun vs h2 t2 K2 r => ?_) he)) hs hw
  have hlen := r.length
  rw [List.length_map] at hlen
  refine ⟨by rw [sizeLine_eq, List.length_cons]; omega, ?_⟩
  have K3 : Keep h2 (h2.push { cls := .type "tuple", data := .seq (Value.ref a :: vs).toArray }) := Keep.push _ _
  have htp : IsTup (h2.push { cls := .type "tuple", data := .seq (Value.ref a :: vs).toArray }) h2.objs.size (Value.ref a :: vs).toArray := ⟨_, Heap.get?_push_size _ rfl, rfl, 0, rfl⟩
  have hsz : (x :: xs).length = (Value.ref a :: vs).toArray.size := by simp [hn, hlen]
  rw [hsz]
  refine unpackItems_tuple C.hh htp fun h4 he4 => ?_
  have K4 : Keep s.heap h4 := ((K1.trans K2).trans K3).trans (keep_extBut he4)
  have K14 : Keep h1 h4 := (K2.trans K3).trans (keep_extBut he4)
  have hl4 : h4.get? a = some { cls := .type "list", dict := none, data := .seq vs0 n0, slots := #[] } := K14 _ _ hl
  have AD := S.adopt (s₁ := { s with heap := h4, toks := t2 }) K4 hd (by show h4.get? a ≠ none; rw [hl4]; exact fun z => nomatch z)
  have e1 : (x :: xs).reverse.map (fun n => bindName (C.env d) n) = (xs.reverse.map fun n => bindName (C.env d) n) ++ [bindName (C.env d) x] := by simp
  have e2 : (Value.ref a :: vs).toArray.toList.reverse = vs.reverse ++ [Value.ref a] := by simp
  rw [e1, e2]
  have r' : Reps T.mg h4 (C.hid ⟨a :: O.o, O.x⟩) vs.reverse (ks.map V.int).reverse := by
    have := (Reps.ints (mg := T.mg) (h' := h4) (H' := C.hid ⟨a :: O.o, O.x⟩) r).reverse
    exact this
  refine St.storeAll AD.1 (tgts_bind _ fun y q => hx y (.tail _ (List.mem_reverse.mp q))) (by simp [hn]) r' fun h5 t5 m5 hsb hm5 S5 y5 => ?_
  show wpAny _ _ (do holding [] (bindName (C.env d) x (.ref a)); assignInOrder [] []) _ E _
  have haL : a ≠ C.L := fun q => S.dlt C.L St.Lhid (q ▸ hd)
  have hl5 : h5.get? a = some { cls := .type "list", dict := none, data := .seq vs0 n0, slots := #[] } := (hsb.2 a haL).trans hl4
  have hr5 : LRep C h5 ⟨a :: O.o, O.x⟩ (.ref a) lv := by
    rcases hlv with rfl | rfl
    · exact ⟨a, vs0.toList, rfl, .head _, ⟨_, n0, hl5, rfl, rfl, rfl⟩, hi⟩
    · exact ⟨a, vs0.toList, rfl, .head _, ⟨_, hl5, rfl, n0, rfl⟩, hi⟩
  refine wpAny_bind (wpAny_holding (wpAny_bindName (S5.storeHeld hr5 (.head _) (by rcases hlv with rfl | rfl <;> rfl) (push_box hnb) (fun y l e o => ?_) (hx x (.head _)) fun h6 t6 m6 S6 y6 => wpAny_pure ?_)))
  · have hp := push_own (by simp [hn]) e o
    rw [hm5 y hp.1]
    exact AD.2.2 y l hp.2 o
  · exact k _ h6 t6 m6 S6 ((AD.2.1.trans y5).trans y6)

/-- an own list is let go: it may be read from now on, and no more changed -/
theorem EX.freeze {x : PySem.Str} {xs : List Int} {lv : LV} {ss : List Stmt} {Φ : Out → Prop} (hl : ρ.lookup x = some lv) (hlv : lv = .own xs ∨ lv = .arr xs) (h : EX d C ((x, .val (.row xs)) :: ρ) ss Φ) : EX d C ρ ss Φ := by
  refine ⟨fun O s m Q E S k => ?_⟩
  obtain ⟨u, hu, hr⟩ := S.loc x lv hl
  obtain ⟨a, vs, rfl, ha, hL, hi⟩ : ∃ a vs, u = .ref a ∧ a ∈ O.o ∧ s.heap.IsList a vs.toArray ∧ IntsAre vs xs := by
    rcases hlv with rfl | rfl
    · obtain ⟨a, vs, e, ha, hp, hi⟩ := hr; exact ⟨a, vs, e, ha, hp.isList, hi⟩
    · exact hr
  have hown : lv.isOwn = true := by rcases hlv with rfl | rfl <;> rfl
  have hsub : ∀ b, b ∈ O.o.filter (· ≠ a) ↔ b ∈ O.o ∧ b ≠ a := fun b => by simp [List.mem_filter]
  have hE : Ext s.heap (C.hid O) s.heap (C.hid ⟨O.o.filter (· ≠ a), O.x⟩) := fun b o n e => by
    refine ⟨fun q => n ?_, e⟩
    rcases mem_hid.mp q with q | q | q | q
    · exact mem_hid.mpr (.inl q)
    · exact mem_hid.mpr (.inr (.inl ((hsub b).mp q).1))
    · exact mem_hid.mpr (.inr (.inr (.inl q)))
    · exact mem_hid.mpr (.inr (.inr (.inr q)))
  have hah : a ∉ C.hid ⟨O.o.filter (· ≠ a), O.x⟩ := fun q => by
    rcases mem_hid.mp q with q | q | q | q
    · exact (S.fresh a (.inl ha)).2.1 q
    · exact ((hsub a).mp q).2 rfl
    · exact S.apart a ha q
    · exact (S.fresh a (.inl ha)).2.2 q
  have S' : St d C ((x, .val (.row xs)) :: ρ) ⟨O.o.filter (· ≠ a), O.x⟩ s m := by
    refine ⟨S.kind, S.fr, fun y l e => ?_, fun y z l l' ne e e' o o' => ?_, fun b hb => S.fresh b (hb.imp (fun q => ((hsub b).mp q).1) id), fun b hb => S.apart b ((hsub b).mp hb).1, fun b hb => ?_⟩
    · rcases lookup_cons_cases e with ⟨rfl, rfl⟩ | ⟨ne, e2⟩
      · exact ⟨_, hu, .row hah hL hi⟩
      · obtain ⟨w, hw, r⟩ := S.loc y l e2
        refine ⟨w, hw, ?_⟩
        have dd : l.isOwn = true → m y ≠ m x ∧ l.isBox = false := fun q => S.dst y x l lv ne e2 hl q hown
        have un : ∀ b, w = .ref b → l.isOwn = true → b ≠ a := fun b q o z => (dd o).1 (by rw [hw, hu, q, z])
        cases l with
        | val V => exact Rep.mono hE r
        | own ys => obtain ⟨b, vs, rfl, hbm, z⟩ := r; exact ⟨b, vs, rfl, (hsub b).mpr ⟨hbm, un b rfl rfl⟩, z⟩
        | arr ys => obtain ⟨b, vs, rfl, hbm, z⟩ := r; exact ⟨b, vs, rfl, (hsub b).mpr ⟨hbm, un b rfl rfl⟩, z⟩
        | pin c ys => obtain ⟨vs, rfl, hbm, z⟩ := r; exact ⟨vs, rfl, (hsub c).mpr ⟨hbm, un c rfl rfl⟩, z⟩
        | box a1 b1 ys k => have := (dd rfl).2; cases this
    · rcases lookup_cons_cases e with ⟨rfl, rfl⟩ | ⟨ny, e2⟩
      · cases o
      · rcases lookup_cons_cases e' with ⟨rfl, rfl⟩ | ⟨nz, e3⟩
        · cases o'
        · exact S.dst y z l l' ne e2 e3 o o'
    · refine S.dlt b (mem_hid.mpr ?_)
      rcases mem_hid.mp hb with q | q | q | q
      · exact .inl q
      · exact .inr (.inl ((hsub b).mp q).1)
      · exact .inr (.inr (.inl q))
      · exact .inr (.inr (.inr q))
  refine h.run _ s m Q E S' fun f o O' h' tk hΦ ho y => k f o O' h' tk hΦ ho ?_
  refine Stay.trans (h' := s.heap) (O' := ⟨O.o.filter (· ≠ a), O.x⟩) ⟨fun b o n e => ⟨fun q => n ?_, e⟩, rfl⟩ y
  rcases List.mem_cons.mp q with q | q
  · exact q ▸ .head _
  · exact .tail _ ((hsub b).mp q).1
end Mine
namespace Mine
variable {T : Tp} {d : DefRec} {C : Cx T} {ρ : Loc}

/-- an iterator over ints: where it stands, what it changes, what it reads -/
structure Iter (T : Tp) (A : Around) (it : Addr) (src : List Addr) (N : Nat) (item : Nat → Int) (It : Nat → Heap → Prop) : Prop where
  live : ∀ i h, It i h → h.get? it ≠ none
  nsrc : it ∉ src
  stable : ∀ i h h', It i h → (∀ b o, b = it ∨ b ∈ src → h.get? b = some o → h'.get? b = some o) → It i h'
  next : ∀ i, i < N → ∀ (s : Shared) (Q : Option Value → Shared → Prop) (E : Value → Shared → Prop), It i s.heap →
    (∀ t h' tk, It (i + 1) h' → (∀ b o, b ≠ it → s.heap.get? b = some o → h'.get? b = some o) → Q (some (.int (item i) t)) { s with heap := h', toks := tk }) → wpAny (model T.prog T.w) A (pyNext (.ref it)) Q E s
  fin : ∀ (s : Shared) (Q : Option Value → Shared → Prop) (E : Value → Shared → Prop), It N s.heap →
    (∀ h' tk, (∀ b o, b ≠ it → s.heap.get? b = some o → h'.get? b = some o) → Q none { s with heap := h', toks := tk }) → wpAny (model T.prog T.w) A (pyNext (.ref it)) Q E s

/-- one iterator more is hidden -/
theorem St.hideX {O : Own} {s : Shared} {m : PySem.Str → Option Value} {it : Addr} {h' : Heap} {tk : Nat} (S : St d C ρ O s m) (K : Keep s.heap h') (hd : s.heap.get? it = none) (hl : h'.get? it ≠ none) :
    St d C ρ ⟨O.o, it :: O.x⟩ { s with heap := h', toks := tk } m := by
  have S1 : St d C ρ O { s with heap := h', toks := tk } m := S.keep K
  have hE : Ext s.heap (C.hid O) h' (C.hid ⟨O.o, it :: O.x⟩) := fun b o n e => by
    refine ⟨fun q => ?_, K b o e⟩
    rcases mem_hid.mp q with q | q | q | q
    · exact n (mem_hid.mpr (.inl q))
    · exact n (mem_hid.mpr (.inr (.inl q)))
    · rcases List.mem_cons.mp q with q | q
      · subst q; rw [hd] at e; cases e
      · exact n (mem_hid.mpr (.inr (.inr (.inl q))))
    · exact n (mem_hid.mpr (.inr (.inr (.inr q))))
  refine ⟨S.kind, S1.fr, fun y l e => ?_, S.dst, fun b hb => ?_, fun b hb hx => ?_, fun b hb => ?_⟩
  · obtain ⟨u, hu, r⟩ := S.loc y l e
    exact ⟨u, hu, r.move hE (fun _ h => h) fun b _ o q => K b o q⟩
  · rcases hb with hb | hb
    · exact S.fresh b (.inl hb)
    · rcases List.mem_cons.mp hb with rfl | hb
      · exact ⟨Keep.dead (h' := s.heap) S.fr.keep hd, fun q => S.dlt C.L St.Lhid (q ▸ hd), fun q => S.dlt b (mem_hid.mpr (.inr (.inr (.inr q)))) hd⟩
      · exact S.fresh b (.inr hb)
  · rcases List.mem_cons.mp hx with rfl | hx
    · exact S.dlt b (mem_hid.mpr (.inr (.inl hb))) hd
    · exact S.apart b hb hx
  · rcases mem_hid.mp hb with q | q | q | q
    · exact S1.dlt b (mem_hid.mpr (.inl q))
    · exact S1.dlt b (mem_hid.mpr (.inr (.inl q)))
    · rcases List.mem_cons.mp q with rfl | q
      · exact hl
      · exact S1.dlt b (mem_hid.mpr (.inr (.inr (.inl q))))
    · exact S1.dlt b (mem_hid.mpr (.inr (.inr (.inr q))))

/-- a hidden iterator changes -/
theorem St.tick {O : Own} {s : Shared} {m : PySem.Str → Option Value} {it : Addr} {h' : Heap} {tk : Nat} (S : St d C ρ O s m) (hit : it ∈ O.x) (k : ∀ b o, b ≠ it → s.heap.get? b = some o → h'.get? b = some o) (hl : h'.get? it ≠ none) :
    St d C ρ O { s with heap := h', toks := tk } m := by
  have hE : Ext s.heap (C.hid O) h' (C.hid O) := fun b o n e => ⟨n, k b o (fun q => n (q ▸ mem_hid.mpr (.inr (.inr (.inl hit))))) e⟩
  have itf := S.fresh it (.inr hit)
  refine ⟨S.kind, ⟨?_, fun b o e => k b o (fun q => ?_) (S.fr.keep b o e), S.fr.new⟩, fun y l e => ?_, S.dst, S.fresh, S.apart, fun b hb => ?_⟩
  · obtain ⟨o, es, ep, e, r⟩ := S.fr.ns
    exact ⟨o, es, ep, k _ _ (Ne.symm itf.2.1) e, r⟩
  · subst q; rw [itf.1] at e; cases e
  · obtain ⟨u, hu, r⟩ := S.loc y l e
    exact ⟨u, hu, r.move hE (fun _ h => h) fun b hb o q => k b o (fun z => S.apart b hb (z ▸ hit)) q⟩
  · show h'.get? b ≠ none
    by_cases q : b = it
    · subst q; exact hl
    · have := S.dlt b hb
      cases z : s.heap.get? b with
      | none => exact absurd z this
      | some o => rw [k b o q z]; exact fun z => nomatch z

/-- the iterator is let go -/
theorem St.unX {O : Own} {s : Shared} {m : PySem.Str → Option Value} {it : Addr} {o : List Addr} {x : List Addr} {h' : Heap} {tk : Nat} (S : St d C ρ ⟨o, it :: x⟩ s m) (k : ∀ b o, b ≠ it → s.heap.get? b = some o → h'.get? b = some o) (hnx : it ∉ x) :
    St d C ρ ⟨o, x⟩ { s with heap := h', toks := tk } m ∧ Ext s.heap (C.hid ⟨o, it :: x⟩) h' (C.hid ⟨o, x⟩) := by
  have itf := S.fresh it (.inr (.head _))
  have hE : Ext s.heap (C.hid ⟨o, it :: x⟩) h' (C.hid ⟨o, x⟩) := fun b o' n e => by
    refine ⟨fun q => n ?_, k b o' (fun q => n (q ▸ mem_hid.mpr (.inr (.inr (.inl (.head _)))))) e⟩
    rcases mem_hid.mp q with q | q | q | q
    · exact mem_hid.mpr (.inl q)
    · exact mem_hid.mpr (.inr (.inl q))
    · exact mem_hid.mpr (.inr (.inr (.inl (.tail _ q))))
    · exact mem_hid.mpr (.inr (.inr (.inr q)))
  refine ⟨⟨S.kind, ⟨?_, fun b o e => k b o (fun q => ?_) (S.fr.keep b o e), S.fr.new⟩, fun y l e => ?_, S.dst, fun b hb => S.fresh b (hb.imp id (List.mem_cons_of_mem _)), fun b hb hx => S.apart b hb (.tail _ hx), fun b hb => ?_⟩, hE⟩
  · obtain ⟨o, es, ep, e, r⟩ := S.fr.ns
    exact ⟨o, es, ep, k _ _ (Ne.symm itf.2.1) e, r⟩
  · subst q; rw [itf.1] at e; cases e
  · obtain ⟨u, hu, r⟩ := S.loc y l e
    exact ⟨u, hu, r.move hE (fun _ h => h) fun b hb o q => k b o (fun z => S.apart b hb (z ▸ .head _)) q⟩
  · show h'.get? b ≠ none
    have nb : b ≠ it := fun q => by
      subst q
      rcases mem_hid.mp hb with q | q | q | q
      · exact itf.2.1 q
      · exact S.apart b q (.head _)
      · exact hnx q
      · exact itf.2.2 q
    have hb' : b ∈ C.hid ⟨o, it :: x⟩ := by
      rcases mem_hid.mp hb with q | q | q | q
      · exact mem_hid.mpr (.inl q)
      · exact mem_hid.mpr (.inr (.inl q))
      · exact mem_hid.mpr (.inr (.inr (.inl (.tail _ q))))
      · exact mem_hid.mpr (.inr (.inr (.inr q)))
    have := S.dlt b hb'
    cases z : s.heap.get? b with
    | none => exact absurd z this
    | some o => rw [k b o nb z]; exact fun z => nomatch z

/-- a turn's end -/
noncomputable def TurnEnd (I : Loc → Prop) (Φ : Out → Prop) : Out → Prop
  | .next ρ => ∃ ρ', Sub ρ' ρ ∧ I ρ'
  | .ret v ρ => Φ (.ret v ρ)

theorem EX.iter {x : PySem.Str} {px pos : Pos} {e : Expr} {body : List Stmt} {rest : List Stmt} {N : Nat} {item : Nat → Int} {Φ : Out → Prop} (I : Nat → Loc → Prop)
    (h : ∀ O s m (Q E : Value → Shared → Prop), St d C ρ O s m →
      (∀ u h' tk, Keep s.heap h' → (∀ (Q' : Value → Shared → Prop), (∀ it src It h'' tk', Keep h' h'' → s.heap.get? it = none → (∀ b ∈ src, b ∉ C.hid O) → (∀ b ∈ src, h''.get? b ≠ none) → Iter T C.A it src N item It → It 0 h'' → Q' (.ref it) { s with heap := h'', toks := tk' }) → wpAny (model T.prog T.w) C.A (pyIter u) Q' E { s with heap := h', toks := tk }) → Q u { s with heap := h', toks := tk }) →
      wpAny (model T.prog T.w) C.A (eval e (C.env d)) Q E s)
    (hx : (C.env d).kindOf x = some .local) (hs : ∀ x, foldedSetIterable e (C.env d) x = pure x)
    (h0 : I 0 ρ) (turn : ∀ i ρ', i < N → I i ρ' → EX d C ((x, .val (.int (item i))) :: ρ') body (TurnEnd (I (i + 1)) Φ)) (fin : ∀ ρ', I N ρ' → EX d C ρ' rest Φ) :
    EX d C ρ (.For (.Name x px) e body [] pos :: rest) Φ := by
  refine ⟨fun O s m Q E S k => ?_⟩
  refine wpAny_execs_cons (wpAny_For (h O s m _ _ S fun u h1 t1 K1 hit => hit _ fun it src It h2 t2 K2 hd hsrc hsl W h0' => ?_) hs)
  have K : Keep s.heap h2 := K1.trans K2
  have hitL : h2.get? it ≠ none := W.live 0 h2 h0'
  have hnx : it ∉ O.x := fun q => S.dlt it (mem_hid.mpr (.inr (.inr (.inl q)))) hd
  have live : ∀ b o, s.heap.get? b = some o → b ≠ it := fun b o e q => by subst q; rw [hd] at e; cases e
  refine codeAny_forLoop (fun n s' => ∃ i ρ' o h' tk m', s' = { s with heap := h', toks := tk } ∧ n = N + 1 - i ∧ i ≤ N ∧ I i ρ' ∧ St d C ρ' ⟨o, it :: O.x⟩ s' m' ∧ It i h' ∧ (∀ b ∈ src, b ∉ C.hid ⟨o, it :: O.x⟩ ∧ h'.get? b ≠ none) ∧ Stay C s.heap O h' ⟨o, O.x⟩) ?_ (N + 1)
    ⟨0, ρ, O.o, h2, t2, m, rfl, by omega, Nat.zero_le _, h0, S.hideX K hd hitL, h0', fun b hb => ⟨fun q => ?_, hsl b hb⟩, .keep K⟩
  · rintro n _ ⟨i, ρ', o, h', tk, m', rfl, rfl, hi, hI, S', hIt, hsr, y⟩
    have itf := S'.fresh it (.inr (.head _))
    by_cases hlt : i < N
    · refine W.next i hlt _ _ _ hIt fun t h3 t3 hIt3 k3 => ?_
      have S3 : St d C ρ' ⟨o, it :: O.x⟩ { s with heap := h3, toks := t3 } m' := S'.tick (.head _) k3 (W.live _ _ hIt3)
      refine wpAny_assign_Name (S3.store (.int (item i) t) hx fun h4 t4 hsb4 S4 y4 => ?_)
      have k4 : ∀ b o', b ≠ C.L → h3.get? b = some o' → h4.get? b = some o' := fun b o' ne e => (hsb4.2 b ne).trans e
      have src4 : ∀ b ∈ src, b ≠ C.L ∧ b ≠ it := fun b hb => ⟨fun q => (hsr b hb).1 (q ▸ St.Lhid), fun q => W.nsrc (q ▸ hb)⟩
      have hIt4 : It (i + 1) h4 := W.stable _ _ _ hIt3 fun b o' hb e => k4 b o' (by rcases hb with rfl | hb; exact itf.2.1; exact (src4 b hb).1) e
      have sr4 : ∀ b ∈ src, b ∉ C.hid ⟨o, it :: O.x⟩ ∧ h4.get? b ≠ none := fun b hb => by
        refine ⟨(hsr b hb).1, ?_⟩
        obtain ⟨ne1, ne2⟩ := src4 b hb
        have z := (hsr b hb).2
        cases q : h'.get? b with
        | none => exact absurd q z
        | some o' => rw [k4 b o' ne1 (k3 b o' ne2 q)]; exact fun z => nomatch z
      have yy : Stay C s.heap O h4 ⟨o, O.x⟩ := ⟨fun b o' n' e => by
        obtain ⟨n2, e2⟩ := y.1 b o' n' e
        exact ⟨n2, k4 b o' (fun q => n2 (q ▸ .head _)) (k3 b o' (live b o' e) e2)⟩, rfl⟩
      refine (turn i ρ' hlt hI).run _ _ _ _ _ S4 fun f ou O5 h5 t5 hΦ ho y5 => ?_
      have x5 : O5.x = it :: O.x := y5.2
      obtain ⟨o5, x5'⟩ := O5
      simp only at x5
      subst x5
      have yy5 : Stay C s.heap O h5 ⟨o5, O.x⟩ := ⟨fun b o' n' e => by
        obtain ⟨n2, e2⟩ := yy.1 b o' n' e
        exact y5.1 b o' n2 e2, rfl⟩
      cases ou with
      | next ρ5 =>
        obtain ⟨rfl, m5, S5⟩ := ho
        obtain ⟨ρ6, hsub, hI6⟩ := hΦ
        have itn : it ∉ C.L :: o := fun q => (List.mem_cons.mp q).elim itf.2.1 fun z => S'.apart it z (.head _)
        have sn : ∀ b ∈ src, b ∉ C.L :: o := fun b hb q => (hsr b hb).1 (mem_hid.mpr ((List.mem_cons.mp q).elim .inl fun z => .inr (.inl z)))
        refine ⟨N + 1 - (i + 1), by omega, i + 1, ρ6, o5, h5, t5, m5, rfl, rfl, hlt, hI6, S5.sub hsub, ?_, fun b hb => ?_, yy5⟩
        · exact W.stable _ _ _ hIt4 fun b o' hb e => (y5.1 b o' (by rcases hb with rfl | hb; exact itn; exact sn b hb) e).2
        · have z := (sr4 b hb).2
          cases q : h4.get? b with
          | none => exact absurd q z
          | some o' =>
            have w := y5.1 b o' (sn b hb) q
            have w2 : b ∉ C.hid ⟨o5, it :: O.x⟩ := fun q' => by
              rcases mem_hid.mp q' with q' | q' | q' | q'
              · exact w.1 (q' ▸ .head _)
              · exact w.1 (.tail _ q')
              · exact (sr4 b hb).1 (mem_hid.mpr (.inr (.inr (.inl q'))))
              · exact (sr4 b hb).1 (mem_hid.mpr (.inr (.inr (.inr q'))))
            exact ⟨w2, by show h5.get? b ≠ none; rw [w.2]; exact fun z => nomatch z⟩
      | ret v ρ5 =>
        obtain ⟨u5, m5, rfl, r5, S5⟩ := ho
        have U := S5.unX (O := O) (h' := h5) (tk := t5) (fun _ _ _ e => e) hnx
        exact k _ (.ret v ρ5) ⟨o5, O.x⟩ h5 t5 hΦ ⟨u5, m5, rfl, r5.mono U.2, U.1⟩ yy5
    · have hin : i = N := by omega
      subst hin
      refine W.fin _ _ _ hIt fun h3 t3 k3 => wpAny_execs_nil ?_
      have U := S'.unX (O := O) (h' := h3) (tk := t3) k3 hnx
      refine (fin ρ' hI).run _ _ _ _ _ U.1 fun f ou O5 h5 t5 hΦ ho y5 => k f ou O5 h5 t5 hΦ ho ?_
      refine Stay.trans (h' := h3) (O' := ⟨o, O.x⟩) ⟨fun b o' n' e => ?_, rfl⟩ y5
      obtain ⟨n2, e2⟩ := y.1 b o' n' e
      exact ⟨n2, k3 b o' (live b o' e) e2⟩
  · rcases mem_hid.mp q with q | q | q | q
    · exact hsrc b hb (mem_hid.mpr (.inl q))
    · exact hsrc b hb (mem_hid.mpr (.inr (.inl q)))
    · rcases List.mem_cons.mp q with q | q
      · exact W.nsrc (q ▸ hb)
      · exact hsrc b hb (mem_hid.mpr (.inr (.inr (.inl q))))
    · exact hsrc b hb (mem_hid.mpr (.inr (.inr (.inr q))))
end Mine
namespace Mine
variable {T : Tp} {d : DefRec} {C : Cx T} {ρ : Loc}

theorem iter_row {A : Around} {it a : Addr} {vs : List Value} {xs : List Int} (hh : A.handled = none) (hi : IntsAre vs xs) (hne : it ≠ a) :
    Iter T A it [a] xs.length (fun i => xs.getD i 0) (fun i h => h.IsListIter it a i ∧ h.IsList a vs.toArray) where
  live := fun i h ⟨⟨o, q, _⟩, _⟩ => by rw [q]; exact fun z => nomatch z
  nsrc := by simpa using hne
  stable := fun i h h' ⟨⟨o, q, r⟩, ⟨o', q', r'⟩⟩ k => ⟨⟨o, k _ _ (.inl rfl) q, r⟩, ⟨o', k _ _ (.inr (.head _)) q', r'⟩⟩
  next := fun i hlt s Q E ⟨h1, h2⟩ k => by
    obtain ⟨t, ht⟩ := hi.get i (xs.getD i 0) (by simp [List.getD, hlt])
    refine wpAny_pyNext_list_item h1 h2 (x := .int (xs.getD i 0) t) (by simpa using ht) fun h' hit' hs => ?_
    obtain ⟨o', q', r'⟩ := h2
    exact k t h' s.toks ⟨hit', ⟨o', (hs.2 a (Ne.symm hne)).trans q', r'⟩⟩ fun b o ne e => (hs.2 b ne).trans e
  fin := fun s Q E ⟨h1, h2⟩ k => by
    refine wpAny_pyNext_list_end hh h1 h2 (by have := hi.length; simp; omega) fun h' he => k h' s.toks fun b o ne e => he b o ne e

theorem EX.forRow {x : PySem.Str} {px pos : Pos} {e : Expr} {body rest : List Stmt} {xs : List Int} {Φ : Out → Prop} (I : Nat → Loc → Prop) (h : EV d C ρ e (.row xs)) (hx : (C.env d).kindOf x = some .local) (hs : ∀ x, foldedSetIterable e (C.env d) x = pure x)
    (h0 : I 0 ρ) (turn : ∀ i ρ', i < xs.length → I i ρ' → EX d C ((x, .val (.int (xs.getD i 0))) :: ρ') body (TurnEnd (I (i + 1)) Φ)) (fin : ∀ ρ', I xs.length ρ' → EX d C ρ' rest Φ) :
    EX d C ρ (.For (.Name x px) e body [] pos :: rest) Φ := by
  refine EX.iter (N := xs.length) (item := fun i => xs.getD i 0) I (fun O s m Q E S k => ?_) hx hs h0 turn fin
  refine h.run O s m Q E S fun u h' tk K r => k u h' tk K fun Q' k' => ?_
  obtain ⟨a, vs, rfl, ha, hl, hi⟩ := r.row_inv
  refine wpAny_pyIter_list hl ?_
  have K2 : Keep h' (h'.push { cls := .type "list_iterator", data := .fields #[.ref a, .int 0 0] }) := Keep.push _ _
  have hne : h'.objs.size ≠ a := fun q => by obtain ⟨o, e, _⟩ := hl; rw [← q, get_size] at e; cases e
  exact k' _ [a] _ _ tk K2 (K.dead (get_size h')) (fun b hb => by rw [List.mem_singleton.mp hb]; exact ha) (fun b hb => by
    rw [List.mem_singleton.mp hb]
    obtain ⟨o, e, _⟩ := hl
    rw [K2 _ _ e]; exact fun z => nomatch z) (iter_row C.hh hi hne) ⟨⟨_, Heap.get?_push_size _ rfl, rfl, rfl⟩, hl.push _⟩

theorem iter_range {A : Around} {it : Addr} {a c : Int} {N : Nat} (hh : A.handled = none) :
    Iter T A it [] N (fun i => a + i * c) (fun i h => i ≤ N ∧ IsRangeIter h it (a + i * c) ((N : Int) - i) c) where
  live := fun i h ⟨_, q⟩ => by have q' : h.get? it = some _ := q; rw [q']; exact fun z => nomatch z
  nsrc := fun h => nomatch h
  stable := fun i h h' ⟨hi, q⟩ k => ⟨hi, k _ _ (.inl rfl) q⟩
  next := fun i hlt s Q E ⟨hi, q⟩ k => by
    refine wpAny_pyNext_range_item q (by omega) fun h' hit hs => k s.toks h' _ ⟨by omega, ?_⟩ fun b o ne e => (hs.2 b ne).trans e
    have e1 : a + ((i + 1 : Nat) : Int) * c = a + (i : Int) * c + c := by push_cast; rw [Int.add_mul, Int.one_mul, Int.add_assoc]
    have e2 : (N : Int) - ((i + 1 : Nat) : Int) = (N : Int) - (i : Int) - 1 := by push_cast; omega
    rw [e1, e2]; exact hit
  fin := fun s Q E ⟨_, q⟩ k => wpAny_pyNext_range_end hh q (by omega) fun h' he => k h' s.toks fun b o ne e => he b o ne e

/-- a range -/
structure ERg (d : DefRec) (C : Cx T) (ρ : Loc) (e : Expr) (a b c : Int) : Prop where
  mk ::
  run : ∀ O s m (Q E : Value → Shared → Prop), St d C ρ O s m → (∀ r t u v h' tk, Keep s.heap h' → IsRange h' r a b c t u v → Q (.ref r) { s with heap := h', toks := tk }) → wpAny (model T.prog T.w) C.A (eval e (C.env d)) Q E s

theorem ERg.one {e : Expr} {p pos : Pos} {n : Int} (h : EV d C ρ e (.int n)) (hx : (C.env d).kindOf "range" = some .globalImplicit)
    (he : starEach [e] (C.env d) = (false, eval e (C.env d)) :: starEach [] (C.env d))
    (hc : eval (.Call (.Name "range" p) [e] [] pos) (C.env d) = (do callWith pos (← eval (.Name "range" p) (C.env d)) [] (backTo pos (starEach [e] (C.env d))) (backToKw pos (keywordEach [] (C.env d))))) : ERg d C ρ (.Call (.Name "range" p) [e] [] pos) 0 n 1 := by
  refine ⟨fun O s m Q E S k => ?_⟩
  refine Call_ (ldb S (by decide) boot_range hx (PyProof.Rows.callWith_type1 (args_cons (h.run O s m _ _ S fun v h' tk K r => args_nil ?_) he) he)) hc
  obtain ⟨t, rfl⟩ := r.int_inv
  exact call_range_1 (k _ _ _ _ _ _ (K.trans (Keep.push _ _)) (IsRange.new _ _ _ _ _ _ _))
theorem ERg.two {e e' : Expr} {p pos : Pos} {a b : Int} (h : EV d C ρ e (.int a)) (h' : EV d C ρ e' (.int b)) (hx : (C.env d).kindOf "range" = some .globalImplicit)
    (he : starEach [e, e'] (C.env d) = (false, eval e (C.env d)) :: starEach [e'] (C.env d)) (he' : starEach [e'] (C.env d) = (false, eval e' (C.env d)) :: starEach [] (C.env d))
    (hc : eval (.Call (.Name "range" p) [e, e'] [] pos) (C.env d) = (do callWith pos (← eval (.Name "range" p) (C.env d)) [] (backTo pos (starEach [e, e'] (C.env d))) (backToKw pos (keywordEach [] (C.env d))))) : ERg d C ρ (.Call (.Name "range" p) [e, e'] [] pos) a b 1 := by
  refine ⟨fun O s m Q E S k => ?_⟩
  refine Call_ (ldb S (by decide) boot_range hx (PyProof.Rows.callWith_type1 (args_cons (h.run O s m _ _ S fun v h₁ tk K r => args_cons (h'.run O _ m _ _ (S.keep K) fun v' h₂ tk' K' r' => args_nil ?_) he') he) he (by rw [he']; rfl))) hc
  obtain ⟨t, rfl⟩ := r.int_inv
  obtain ⟨u, rfl⟩ := r'.int_inv
  exact call_range_2 (k _ _ _ _ _ _ ((K.trans K').trans (Keep.push _ _)) (IsRange.new _ _ _ _ _ _ _))
theorem ERg.three {e e' e'' : Expr} {p pos : Pos} {a b c : Int} (h : EV d C ρ e (.int a)) (h' : EV d C ρ e' (.int b)) (h'' : EV d C ρ e'' (.int c)) (hc0 : c ≠ 0) (hcs : c.natAbs < 1000) (hx : (C.env d).kindOf "range" = some .globalImplicit)
    (he : starEach [e, e', e''] (C.env d) = (false, eval e (C.env d)) :: starEach [e', e''] (C.env d)) (he' : starEach [e', e''] (C.env d) = (false, eval e' (C.env d)) :: starEach [e''] (C.env d)) (he'' : starEach [e''] (C.env d) = (false, eval e'' (C.env d)) :: starEach [] (C.env d))
    (hc : eval (.Call (.Name "range" p) [e, e', e''] [] pos) (C.env d) = (do callWith pos (← eval (.Name "range" p) (C.env d)) [] (backTo pos (starEach [e, e', e''] (C.env d))) (backToKw pos (keywordEach [] (C.env d))))) : ERg d C ρ (.Call (.Name "range" p) [e, e', e''] [] pos) a b c := by
  refine ⟨fun O s m Q E S k => ?_⟩
  refine Call_ (ldb S (by decide) boot_range hx (PyProof.Rows.callWith_type1 (args_cons (h.run O s m _ _ S fun v h₁ tk K r => args_cons (h'.run O _ m _ _ (S.keep K) fun v' h₂ tk' K' r' => args_cons (h''.run O _ m _ _ (S.keep (K.trans K')) fun v'' h₃ tk'' K'' r'' => args_nil ?_) he'') he') he) he (by rw [he', he'']; rfl))) hc
  obtain ⟨t, rfl⟩ := r.int_inv
  obtain ⟨u, rfl⟩ := r'.int_inv
  obtain ⟨v, rfl⟩ := r''.int_inv
  exact call_range_3 hc0 (k _ _ _ _ _ _ (((K.trans K').trans K'').trans (Keep.push _ _)) (IsRange.new _ _ _ _ _ _ _)) (.inl (PyProof.noPylong_small (by omega)))

theorem EX.forRange {x : PySem.Str} {px pos : Pos} {e : Expr} {body rest : List Stmt} {a b c : Int} {Φ : Out → Prop} (N : Nat) (I : Nat → Loc → Prop) (h : ERg d C ρ e a b c) (hN : Builtin.Range.rangeSize a b c = N) (hsm : Builtin.Range.small a b c = true) (hx : (C.env d).kindOf x = some .local) (hs : ∀ x, foldedSetIterable e (C.env d) x = pure x)
    (h0 : I 0 ρ) (turn : ∀ i ρ', i < N → I i ρ' → EX d C ((x, .val (.int (a + i * c))) :: ρ') body (TurnEnd (I (i + 1)) Φ)) (fin : ∀ ρ', I N ρ' → EX d C ρ' rest Φ) :
    EX d C ρ (.For (.Name x px) e body [] pos :: rest) Φ := by
  refine EX.iter (N := N) (item := fun i => a + i * c) I (fun O s m Q E S k => ?_) hx hs h0 turn fin
  refine h.run O s m Q E S fun r t u v h' tk K hr => k _ h' tk K fun Q' k' => ?_
  refine wpAny_pyIter_range hr hsm ?_
  rw [hN]
  exact k' _ [] _ _ tk (Keep.push _ _) (K.dead (get_size h')) (fun b hb => nomatch hb) (fun b hb => nomatch hb) (iter_range C.hh) ⟨Nat.zero_le _, by simpa using (Heap.get?_push_size h' (o := { cls := .type "range_iterator", data := .fields #[rawInt a, rawInt N, rawInt c] }) rfl)⟩

theorem small_up {a b : Int} (ha : -1000000 ≤ a) (ha' : a ≤ 1000000) (hb : -1000000 ≤ b) (hb' : b ≤ 1000000) : Builtin.Range.small a b 1 = true := small_one (by omega) (by omega) (by omega) (by omega)
theorem size_up {a b : Int} : Builtin.Range.rangeSize a b 1 = ((b - a).toNat : Int) := PyProof.Rows.rangeSize_nat a b
theorem size_down {a b : Int} : Builtin.Range.rangeSize a b (-1) = ((a - b).toNat : Int) := by
  unfold Builtin.Range.rangeSize
  simp only [show ¬ ((-1 : Int) > 0) by decide, if_false]
  simp only [show (- (-1 : Int)) = 1 by decide, Int.ediv_one]
  split <;> omega
theorem small_down {a b : Int} (ha : -1000000 ≤ a) (ha' : a ≤ 1000000) (hb : -1000000 ≤ b) (hb' : b ≤ 1000000) : Builtin.Range.small a b (-1) = true := by
  unfold Builtin.Range.small
  rw [size_down]
  simp only [Builtin.Range.rangeFitsLong, Bool.and_eq_true, Bool.or_eq_true, decide_eq_true_eq, beq_iff_eq, show ¬ ((-1 : Int) > 0) by decide, if_false]
  omega

theorem EX.while {t : Expr} {body rest : List Stmt} {pos : Pos} {Φ : Out → Prop} (I : Nat → Loc → Prop) (n : Nat) (h0 : I n ρ)
    (turn : ∀ k ρ', I k ρ' → ∃ b, ET d C ρ' t b ∧ (b = true → EX d C ρ' body (TurnEnd (fun ρ'' => ∃ k' < k, I k' ρ'') Φ)) ∧ (b = false → EX d C ρ' rest Φ)) :
    EX d C ρ (.While t body [] pos :: rest) Φ := by
  refine ⟨fun O s m Q E S k => ?_⟩
  refine wpAny_execs_cons (wpAny_While ?_)
  refine codeAny_whileLoop (fun n s' => ∃ ρ' O' h' tk m', s' = { s with heap := h', toks := tk } ∧ I n ρ' ∧ St d C ρ' O' s' m' ∧ Stay C s.heap O h' O') ?_ n ⟨ρ, O, s.heap, s.toks, m, rfl, h0, S, .refl _ _⟩
  rintro n _ ⟨ρ', O', h', tk, m', rfl, hI, S', y⟩
  obtain ⟨b, ht, h1, h2⟩ := turn n ρ' hI
  refine ht.run O' _ m' _ _ S' fun h2' tk2 K => ?_
  have S2 : St d C ρ' O' { s with heap := h2', toks := tk2 } m' := S'.keep K
  cases b with
  | true =>
    simp only [if_true]
    refine (h1 rfl).run O' _ m' _ _ S2 fun f o O'' h3 tk3 hΦ ho y3 => ?_
    have yy := (y.trans (Stay.keep K)).trans y3
    cases o with
    | next ρ3 =>
      obtain ⟨rfl, m3, S3⟩ := ho
      obtain ⟨ρ4, hsub, k', hk', hI'⟩ := hΦ
      exact ⟨k', hk', ρ4, O'', h3, tk3, m3, rfl, hI', S3.sub hsub, yy⟩
    | ret v ρ3 =>
      obtain ⟨u, m3, rfl, r, S3⟩ := ho
      exact k _ (.ret v ρ3) O'' h3 tk3 hΦ ⟨u, m3, rfl, r, S3⟩ yy
  | false =>
    simp only [Bool.false_eq_true, if_false]
    refine wpAny_execs_nil ?_
    refine (h2 rfl).run O' _ m' _ _ S2 fun f o O'' h3 tk3 hΦ ho y3 => k f o O'' h3 tk3 hΦ ho ((y.trans (Stay.keep K)).trans y3)
end Mine
namespace Mine
variable {T : Tp} {d : DefRec} {C : Cx T} {ρ : Loc}

theorem zip_lookup_reps {mg : GM} {h : Heap} {H : List Addr} : ∀ {xs : List PySem.Str} {vs : List Value} {Vs : List V}, Reps mg h H vs Vs → ∀ x lv, (xs.zip (Vs.map LV.val)).lookup x = some lv → ∃ v V, (xs.zip vs).lookup x = some v ∧ lv = .val V ∧ Rep mg h H v V
  | [], _, _, _, x, lv, e => by simp at e
  | y :: xs, v :: vs, V :: Vs, r, x, lv, e => by
    rw [List.map_cons, List.zip_cons_cons] at e
    rcases lookup_cons_cases e with ⟨rfl, rfl⟩ | ⟨ne, e⟩
    · exact ⟨v, V, by simp [List.lookup_cons], rfl, r.1⟩
    · obtain ⟨v', V', h1, h2, h3⟩ := zip_lookup_reps r.2 x lv e
      refine ⟨v', V', ?_, h2, h3⟩
      rw [List.zip_cons_cons, List.lookup_cons, show (x == y) = false from beq_eq_false_iff_ne.mpr ne]
      exact h1
  | _ :: _, [], [], _, x, lv, e => by simp at e
theorem lookup_reverse_nodup {α : Type} : ∀ {l : List (PySem.Str × α)}, (l.map (·.1)).Nodup → ∀ x, l.reverse.lookup x = l.lookup x
  | [], _, _ => rfl
  | (y, v) :: r, hn, x => by
    have hn' : y ∉ r.map (·.1) ∧ (r.map (·.1)).Nodup := by simpa using hn
    rw [List.reverse_cons, List.lookup_append, lookup_reverse_nodup hn'.2, List.lookup_cons]
    by_cases e : x = y
    · subst e
      have : r.lookup x = none := by
        cases q : r.lookup x with
        | none => rfl
        | some w =>
          exfalso
          apply hn'.1
          clear hn hn'
          induction r with
          | nil => cases q
          | cons p r ih =>
            obtain ⟨z, l⟩ := p
            rw [List.lookup_cons] at q
            by_cases e : x = z
            · subst e; simp
            · rw [show (x == z) = false from beq_eq_false_iff_ne.mpr e] at q
              exact List.mem_cons_of_mem _ (ih q)
      simp [this, List.lookup_cons]
    · have h2 : (x == y) = false := beq_eq_false_iff_ne.mpr e
      simp only [h2, List.lookup_cons, List.lookup_nil]
      simp

/-- the block hands this back -/
noncomputable def RetIs (x : V) (o : Out) : Prop := ∃ ρ', o = .ret x ρ' ∨ (o = .next ρ' ∧ x = .none)

theorem FN.of {n : Nat} {Vs : List V} {x : V} (names : List PySem.Str) (hd : d ∈ defs)
    (hb : ∀ pm code doc (vs : List Value), vs.length = Vs.length → bindArgs (docDef d.name d.params d.body d.scope pm code doc) ⟨vs, []⟩ = pure (names.zip vs))
    (hl : names.length = Vs.length) (hnd : names.Nodup) (hloc : ∀ y ∈ names, d.scope.names.lookup y = some .local) (hcell : ∀ y ∈ d.scope.names, y.2 ≠ .cell)
    (hco : d.scope.isCoroutine = false) (hgen : d.scope.isGenerator = false) (hk : d.scope.kind = .function)
    (hbody : ∀ C : Cx T, C.room = n → EX d C (names.zip (Vs.map LV.val)) d.body (RetIs x)) : FN T d.name n Vs x := by
  refine ⟨⟨d, hd, rfl⟩, ?_⟩
  intro A s D vs a Q E hK hD hh hdep hun hm hr k
  obtain ⟨a', o, pm, code, doc, h1, h2, h3, h4⟩ := T.gd.fn d hd
  rw [h1] at hm
  cases hm
  have hlen : vs.length = Vs.length := hr.length
  have hfst : (names.zip vs).map (·.1) = names := by
    rw [List.map_fst_zip]; omega
  refine wpAny_call (codeAny_call_def (fd := docDef d.name d.params d.body d.scope pm code doc) (body := d.body) (binds := names.zip vs) (by omega) (hK _ _ h2) h3 (T.gd.lim.keeps hK) (h4.keeps hK) rfl (BindsTo.of_eq (hb pm code doc vs hlen)) hcell
    (fun y hy => hloc y.1 (by rw [← hfst]; exact List.mem_map_of_mem hy)) (fun h₀ hns hk₀ => ?_) hco hgen hk)
  have hdl : ∀ env : Env, (A.deeper env).depth = A.depth + 1 := fun _ => rfl
  have hul : ∀ env : Env, (A.deeper env).units = A.units + 3 := fun _ => rfl
  let C : Cx T := { A := A.deeper (callEnv (docDef d.name d.params d.body d.scope pm code doc) s.heap.objs.size a), hb := s.heap, L := s.heap.objs.size, D := D, fa := a, cd := code, room := n, hh := hh, hle := hK, hD := fun b hb => (hD b hb).1, rm := by rw [hdl]; omega, un := by rw [hul]; omega }
  have hns' : h₀.Ns s.heap.objs.size (fun y => (names.zip vs).lookup y) := by
    have := hns
    simp only [lookup_reverse_nodup (l := names.zip vs) (by rw [hfst]; exact hnd)] at this
    exact this
  have S : St d C (names.zip (Vs.map LV.val)) ⟨[], []⟩ { s with heap := h₀, toks := s.toks + (names.zip vs).length } (fun y => (names.zip vs).lookup y) := by
    have hE : Ext s.heap D h₀ (C.hid ⟨[], []⟩) := fun b o nb e => by
      refine ⟨fun q => ?_, hk₀ b o e⟩
      rcases mem_hid.mp q with q | q | q | q
      · exact absurd (Heap.lt_size e) (by rw [show b = s.heap.objs.size from q]; exact Nat.lt_irrefl _)
      · cases q
      · cases q
      · exact nb q
    refine ⟨hk, ⟨hns', hk₀, get_size _⟩, fun y lv e => ?_, fun y z lv lv' ne e e' ho => ?_, fun b hb => ?_, fun b hb => ?_, fun b hb => ?_⟩
    · obtain ⟨v, V, q1, rfl, q3⟩ := zip_lookup_reps hr y lv e
      exact ⟨v, q1, Rep.mono hE q3⟩
    · obtain ⟨v, V, q1, rfl, q3⟩ := zip_lookup_reps hr y lv e
      cases ho
    · rcases hb with hb | hb <;> cases hb
    · cases hb
    · show h₀.get? b ≠ none
      rcases mem_hid.mp hb with q | q | q | q
      · obtain ⟨o', es, ep, e, _⟩ := hns'
        rw [show b = s.heap.objs.size from q, e]; exact fun z => nomatch z
      · cases q
      · cases q
      · exact Keep.live hk₀ (hD b q).2
  refine (hbody C rfl).run ⟨[], []⟩ _ _ _ _ S fun f ou O' h' tk hΦ ho y => ?_
  obtain ⟨ρ', hΦ⟩ := hΦ
  rcases hΦ with rfl | ⟨rfl, rfl⟩
  · obtain ⟨v, m', rfl, r, S'⟩ := ho
    refine k v h' tk S'.fr.keep (r.mono fun b o nb e => ⟨fun q => nb (mem_hid.mpr (.inr (.inr (.inr q)))), e⟩)
  · obtain ⟨rfl, m', S'⟩ := ho
    exact k .none h' tk S'.fr.keep .none

/-- the arguments, counted -/
theorem lens1 {P : List Value → Prop} {n : Nat} (h : ∀ v0, P [v0]) (hn : n = 1) : ∀ vs : List Value, vs.length = n → P vs := by
  intro vs hl
  rw [hn] at hl
  obtain ⟨v, rfl⟩ := List.length_eq_one_iff.mp hl
  exact h v
theorem lens2 {P : List Value → Prop} {n : Nat} (h : ∀ v0 v1, P [v0, v1]) (hn : n = 2) : ∀ vs : List Value, vs.length = n → P vs
  | [], hl => by rw [hn] at hl; cases hl
  | v0 :: r, hl => lens1 (P := fun r => P (v0 :: r)) (fun v1 => h v0 v1) rfl r (Nat.succ.inj (hl.trans hn))
theorem lens3 {P : List Value → Prop} {n : Nat} (h : ∀ v0 v1 v2, P [v0, v1, v2]) (hn : n = 3) : ∀ vs : List Value, vs.length = n → P vs
  | [], hl => by rw [hn] at hl; cases hl
  | v0 :: r, hl => lens2 (P := fun r => P (v0 :: r)) (fun v1 v2 => h v0 v1 v2) rfl r (Nat.succ.inj (hl.trans hn))
theorem lens4 {P : List Value → Prop} {n : Nat} (h : ∀ v0 v1 v2 v3, P [v0, v1, v2, v3]) (hn : n = 4) : ∀ vs : List Value, vs.length = n → P vs
  | [], hl => by rw [hn] at hl; cases hl
  | v0 :: r, hl => lens3 (P := fun r => P (v0 :: r)) (fun v1 v2 v3 => h v0 v1 v2 v3) rfl r (Nat.succ.inj (hl.trans hn))
theorem lens5 {P : List Value → Prop} {n : Nat} (h : ∀ v0 v1 v2 v3 v4, P [v0, v1, v2, v3, v4]) (hn : n = 5) : ∀ vs : List Value, vs.length = n → P vs
  | [], hl => by rw [hn] at hl; cases hl
  | v0 :: r, hl => lens4 (P := fun r => P (v0 :: r)) (fun v1 v2 v3 v4 => h v0 v1 v2 v3 v4) rfl r (Nat.succ.inj (hl.trans hn))
theorem lens6 {P : List Value → Prop} {n : Nat} (h : ∀ v0 v1 v2 v3 v4 v5, P [v0, v1, v2, v3, v4, v5]) (hn : n = 6) : ∀ vs : List Value, vs.length = n → P vs
  | [], hl => by rw [hn] at hl; cases hl
  | v0 :: r, hl => lens5 (P := fun r => P (v0 :: r)) (fun v1 v2 v3 v4 v5 => h v0 v1 v2 v3 v4 v5) rfl r (Nat.succ.inj (hl.trans hn))
theorem lens7 {P : List Value → Prop} {n : Nat} (h : ∀ v0 v1 v2 v3 v4 v5 v6, P [v0, v1, v2, v3, v4, v5, v6]) (hn : n = 7) : ∀ vs : List Value, vs.length = n → P vs
  | [], hl => by rw [hn] at hl; cases hl
  | v0 :: r, hl => lens6 (P := fun r => P (v0 :: r)) (fun v1 v2 v3 v4 v5 v6 => h v0 v1 v2 v3 v4 v5 v6) rfl r (Nat.succ.inj (hl.trans hn))
end Mine
namespace Mine

theorem OpI.shl1 {w : Nat} (hw : w ≤ 1000) : OpI .LShift 1 (w : Int) ((2 ^ w : Nat) : Int) :=
  (OpI.shl (by omega) (by omega) (by decide)).to (by rw [Int.toNat_natCast, Int.one_mul]; push_cast; rfl)
theorem OpI.shrN {a w : Nat} : OpI .RShift (a : Int) (w : Int) ((a / 2 ^ w : Nat) : Int) :=
  (OpI.shr (by omega)).to (by rw [Int.toNat_natCast, Int.fdiv_eq_ediv_of_nonneg _ (Int.pow_nonneg (by decide))]; push_cast; rfl)
theorem OpJ.shrN {a w : Nat} : OpJ .RShift (a : Int) (w : Int) ((a / 2 ^ w : Nat) : Int) :=
  (OpJ.shr (by omega)).to (by rw [Int.toNat_natCast, Int.fdiv_eq_ediv_of_nonneg _ (Int.pow_nonneg (by decide))]; push_cast; rfl)
theorem le64 {b : Nat} (h : b ≤ 2 ^ 64) : b < 2 ^ 1000 := Nat.lt_of_le_of_lt h (by decide)
theorem OpI.fdivN {a b : Nat} (h0 : b ≠ 0) (hb : b ≤ 2 ^ 64) : OpI .FloorDiv (a : Int) (b : Int) ((a / b : Nat) : Int) :=
  (OpI.fdiv (by omega) (by rw [Int.natAbs_natCast]; exact le64 hb)).to (by rw [Int.fdiv_eq_ediv_of_nonneg _ (by omega)]; push_cast; rfl)
theorem OpI.modN {a b : Nat} (h0 : b ≠ 0) : OpI .Mod (a : Int) (b : Int) ((a % b : Nat) : Int) :=
  (OpI.mod (by omega)).to (by rw [Int.fmod_eq_emod_of_nonneg _ (by omega)]; push_cast; rfl)
theorem OpJ.modN {a b : Nat} (h0 : b ≠ 0) : OpJ .Mod (a : Int) (b : Int) ((a % b : Nat) : Int) :=
  (OpJ.mod (by omega)).to (by rw [Int.fmod_eq_emod_of_nonneg _ (by omega)]; push_cast; rfl)
theorem bitAnd_nat (a b : Nat) : Builtin.bitAnd (a : Int) (b : Int) = ((a &&& b : Nat) : Int) := by
  unfold Builtin.bitAnd
  simp
theorem OpI.maskN {a w : Nat} : OpI .BitAnd (a : Int) (((2 ^ w : Nat) : Int) - 1) ((a % 2 ^ w : Nat) : Int) :=
  OpI.and.to (by
    have h : 0 < 2 ^ w := Nat.pow_pos (by decide)
    have e : (((2 ^ w : Nat) : Int) - 1) = ((2 ^ w - 1 : Nat) : Int) := by omega
    rw [e, bitAnd_nat, Nat.and_two_pow_sub_one_eq_mod])
end Mine
namespace Mine
variable {T : Tp} {d : DefRec} {C : Cx T} {ρ : Loc}
theorem EF.nil {pos : Pos} : EF d C ρ (.List [] pos) [] := EF.list (xs := []) EVs.nil (by decide)
theorem EF.one {e : Expr} {pos : Pos} {x : Int} (h : EV d C ρ e (.int x)) (he : starEach [e] (C.env d) = (false, eval e (C.env d)) :: starEach [] (C.env d)) : EF d C ρ (.List [e] pos) [x] :=
  EF.list (xs := [x]) (EVs.cons h EVs.nil he) (by simp)
theorem EF.cut {e : Expr} {lo up : Option Expr} {p pos : Pos} {xs : List Int} {a b : Option Int} (h : ER d C ρ e xs) (ha : EP d C ρ lo a) (hb : EP d C ρ up b) (hz : xs.length ≤ 1000000)
    (ht : ∀ o r, letTemporaryGo e o r = pure ()) : EF d C ρ (.Subscript e (.Slice lo up none p) pos) (pickNums xs a b none) :=
  EF.slice h ha hb EP.none (by simp) hz fun _ _ _ => slice_form ht _ _ _
theorem EV.itemC {e : Expr} {k' : Nat} {p pos : Pos} {xs : List V} {k : Nat} {v : V} (h : EV d C ρ e (.tup xs)) (hv : xs[k]? = some v) (hk : k ≤ 1000000)
    (hs : ∀ o i', subscripted (.Constant (.int (k : Int)) k' p) false o i' = operate [o, i'] (getItem o i')) : EV d C ρ (.Subscript e (.Constant (.int (k : Int)) k' p) pos) v :=
  EV.itemT h EV.int hv hk hs
end Mine
namespace Mine
variable {T : Tp} {d : DefRec} {C : Cx T} {ρ : Loc}
theorem EX.turn {I : Loc → Prop} {Φ : Out → Prop} (ρ' : Loc) (hs : Sub ρ' ρ) (hI : I ρ') : EX d C ρ [] (TurnEnd I Φ) := EX.nil ⟨ρ', hs, hI⟩
theorem EX.thenEnd {rest : List Stmt} {Φ : Out → Prop} (h : EX d C ρ rest Φ) : EX d C ρ [] (Then d C rest Φ) := EX.nil h
theorem Sub.cons {x : PySem.Str} {lv lv' : LV} {r : Loc} (h : ρ.lookup x = some lv') (e : lv' = lv) (hr : Sub r ρ) : Sub ((x, lv) :: r) ρ := ⟨⟨lv', h, e⟩, hr⟩
theorem Sub.nil : Sub [] ρ := trivial
theorem lvI {a b : Int} (h : a = b) : LV.val (.int a) = LV.val (.int b) := h ▸ rfl
theorem lvO {a b : List Int} (h : a = b) : LV.own a = LV.own b := h ▸ rfl
theorem lvA {a b : List Int} (h : a = b) : LV.arr a = LV.arr b := h ▸ rfl
theorem lvR {a b : List Int} (h : a = b) : LV.val (.row a) = LV.val (.row b) := h ▸ rfl
theorem EX.retv {e : Expr} {pos : Pos} {rest : List Stmt} {v x : V} {Φ : Out → Prop} (h : EV d C ρ e v) (hv : v = x) (hΦ : ∀ ρ', Φ (.ret x ρ')) : EX d C ρ (.Return (some e) pos :: rest) Φ := by
  subst hv
  exact EX.ret h (hΦ ρ)
theorem vI {a b : Int} (h : a = b) : V.int a = V.int b := h ▸ rfl
theorem vR {a b : List Int} (h : a = b) : V.row a = V.row b := h ▸ rfl
theorem vB {a b : Bool} (h : a = b) : V.bool a = V.bool b := h ▸ rfl
end Mine

namespace Mine
variable {T : Tp} {d : DefRec} {C : Cx T} {ρ : Loc}
noncomputable def locs (d : DefRec) (xs : List PySem.Str) : Bool := xs.all fun y => decide (d.scope.names.lookup y = some .local)
theorem locs_of {xs : List PySem.Str} (h : locs d xs = true) : ∀ y ∈ xs, (C.env d).kindOf y = some .local := fun y hy => of_decide_eq_true (List.all_eq_true.mp h y hy)

noncomputable def EIs (d : DefRec) (C : Cx T) (ρ : Loc) (es : List Expr) (ks : List Int) : Prop := EVs d C ρ es (ks.map V.int)
theorem EIs.nil : EIs d C ρ [] [] := EVs.nil
theorem EIs.cons {e : Expr} {es : List Expr} {x : Int} {xs : List Int} (h₁ : EV d C ρ e (.int x)) (h₂ : EIs d C ρ es xs) (he : starEach (e :: es) (C.env d) = (false, eval e (C.env d)) :: starEach es (C.env d)) : EIs d C ρ (e :: es) (x :: xs) := EVs.cons h₁ h₂ he

theorem ES.own3 {elts : List Expr} {n n' : Nat} {tp tp' pos : Pos} {e : Expr} {es : List Expr} {ks : List Int} {zs : List Int} {x : PySem.Str} {xs : List PySem.Str}
    (hw : swappedStores [.Tuple elts n tp] (.Tuple (e :: es) n' tp') (C.env d) = pure (some (x :: xs)))
    (hs : swapsWithSole [.Tuple elts n tp] (.Tuple (e :: es) n' tp') pos.line (C.env d) = pure false)
    (h : EF d C ρ e zs) (hes : EIs d C ρ es ks) 
    (hnb : ρ.all (fun p => !p.2.isBox) = true) (hx : locs d (x :: xs) = true) (hn : xs.length = ks.length) (hk : ks.length ≤ 100)
    (he : starEach (e :: es) (C.env d) = (false, eval e (C.env d)) :: starEach es (C.env d)) :
    ES d C ρ (.Assign [.Tuple elts n tp] (.Tuple (e :: es) n' tp') pos) ((x, .own zs) :: push ρ xs.reverse (ks.map V.int).reverse) :=
  ES.swapOwn x xs h hes (.inl rfl) hnb (locs_of hx) hn hk he hs hw
theorem ES.arr3 {elts : List Expr} {n n' : Nat} {tp tp' pos : Pos} {e : Expr} {es : List Expr} {ks : List Int} {zs : List Int} {x : PySem.Str} {xs : List PySem.Str}
    (hw : swappedStores [.Tuple elts n tp] (.Tuple (e :: es) n' tp') (C.env d) = pure (some (x :: xs)))
    (hs : swapsWithSole [.Tuple elts n tp] (.Tuple (e :: es) n' tp') pos.line (C.env d) = pure false)
    (h : EF d C ρ e zs) (hes : EIs d C ρ es ks) 
    (hnb : ρ.all (fun p => !p.2.isBox) = true) (hx : locs d (x :: xs) = true) (hn : xs.length = ks.length) (hk : ks.length ≤ 100)
    (he : starEach (e :: es) (C.env d) = (false, eval e (C.env d)) :: starEach es (C.env d)) :
    ES d C ρ (.Assign [.Tuple elts n tp] (.Tuple (e :: es) n' tp') pos) ((x, .arr zs) :: push ρ xs.reverse (ks.map V.int).reverse) :=
  ES.swapOwn x xs h hes (.inr rfl) hnb (locs_of hx) hn hk he hs hw
theorem ES.swap' {elts : List Expr} {n : Nat} {tp pos : Pos} {e : Expr} {Vs : List V} {xs : List PySem.Str}
    (hw : swappedStores [.Tuple elts n tp] e (C.env d) = pure (some xs)) (hs : swapsWithSole [.Tuple elts n tp] e pos.line (C.env d) = pure false)
    (h : EV d C ρ e (.tup Vs)) (hx : locs d xs = true) (hn : xs.length = Vs.length) :
    ES d C ρ (.Assign [.Tuple elts n tp] e pos) (push ρ xs.reverse Vs.reverse) := ES.swap xs h (locs_of hx) hn hs hw
theorem ES.arr1 {x : PySem.Str} {p pos : Pos} {e : Expr} {xs : List Int} (h : EF d C ρ e xs) (hnb : ρ.all (fun p => !p.2.isBox) = true) (hx : (C.env d).kindOf x = some .local) (hs : swapsWith e (some (.Name x p)) pos.line (C.env d) = pure false) :
    ES d C ρ (.Assign [.Name x p] e pos) ((x, .arr xs) :: ρ) := ES.assignOwn h (.inr rfl) hnb hx hs

theorem EV.lenN {e : Expr} {p pos : Pos} {xs : List Nat} (h : ER d C ρ e (rn xs)) (hx : (C.env d).kindOf "len" = some .globalImplicit) (hz : xs.length ≤ 1000000)
    (he : starEach [e] (C.env d) = (false, eval e (C.env d)) :: starEach [] (C.env d))
    (hc : eval (.Call (.Name "len" p) [e] [] pos) (C.env d) = (do callWith pos (← eval (.Name "len" p) (C.env d)) [] (backTo pos (starEach [e] (C.env d))) (backToKw pos (keywordEach [] (C.env d))))) : EV d C ρ (.Call (.Name "len" p) [e] [] pos) (.int xs.length) :=
  (EV.len h hx (by rw [rn_length]; exact hz) he hc).toI (by rw [rn_length])
theorem EV.itemRN {e i : Expr} {pos : Pos} {xs : List Nat} {k : Int} (h : ER d C ρ e (rn xs)) (hi : EV d C ρ i (.int k)) (h0 : 0 ≤ k) (hv : k.toNat < xs.length) (hk : k ≤ 1000000)
    (hs : ∀ o i', subscripted i false o i' = operate [o, i'] (getItem o i')) : EV d C ρ (.Subscript e i pos) (.int (xs.getD k.toNat 0 : Nat)) :=
  EV.itemR h hi h0 (rn_get? hv) hk hs
theorem EF.cutUpto {e b : Expr} {p pos : Pos} {xs : List Nat} {k : Nat} (h : ER d C ρ e (rn xs)) (hb : EV d C ρ b (.int k)) (hz : xs.length ≤ 1000000)
    (ht : ∀ o r, letTemporaryGo e o r = pure ()) : EF d C ρ (.Subscript e (.Slice none (some b) none p) pos) (rn (xs.take k)) := by
  have := EF.cut (pos := pos) (p := p) h EP.none (EP.some hb) (by rw [rn_length]; exact hz) ht
  rwa [pick_upto, rn_take] at this
end Mine
namespace Mine
variable {T : Tp} {d : DefRec} {C : Cx T} {ρ : Loc}

noncomputable def NextIs (ρ₁ : Loc) (o : Out) : Prop := ∃ ρ', o = .next ρ' ∧ Sub ρ₁ ρ'
theorem EX.nextIs {ρ₁ : Loc} (h : Sub ρ₁ ρ) : EX d C ρ [] (NextIs ρ₁) := EX.nil ⟨ρ, rfl, h⟩
theorem EX.join (ρ₁ : Loc) {t : Expr} {body orelse : List Stmt} {pos : Pos} {rest : List Stmt} {b : Bool} {Φ : Out → Prop} (ht : ET d C ρ t b) (h1 : b = true → EX d C ρ body (NextIs ρ₁)) (h2 : b = false → EX d C ρ orelse (NextIs ρ₁)) (h : EX d C ρ₁ rest Φ) :
    EX d C ρ (.If t body orelse pos :: rest) Φ :=
  EX.ite ht (fun hb => (h1 hb).mono fun o ⟨ρ', e, hs⟩ => by subst e; exact EX.sub hs h) (fun hb => (h2 hb).mono fun o ⟨ρ', e, hs⟩ => by subst e; exact EX.sub hs h)

theorem EX.forUp {x : PySem.Str} {px pos : Pos} {e : Expr} {body rest : List Stmt} {Φ : Out → Prop} (n : Nat) (I : Nat → Loc → Prop) (h : ERg d C ρ e 0 n 1) (hn : n ≤ 1000000) (hx : (C.env d).kindOf x = some .local) (hs : ∀ x, foldedSetIterable e (C.env d) x = pure x)
    (h0 : I 0 ρ) (turn : ∀ i ρ', i < n → I i ρ' → EX d C ((x, .val (.int (i : Nat))) :: ρ') body (TurnEnd (I (i + 1)) Φ)) (fin : ∀ ρ', I n ρ' → EX d C ρ' rest Φ) :
    EX d C ρ (.For (.Name x px) e body [] pos :: rest) Φ := by
  refine EX.forRange n I h (by rw [size_up]; omega) (small_up (by omega) (by omega) (by omega) (by omega)) hx hs h0 (fun i ρ' hi hI => ?_) fin
  have := turn i ρ' hi hI
  rwa [show (0 : Int) + (i : Int) * 1 = (i : Int) by omega]
theorem EX.forFrom {x : PySem.Str} {px pos : Pos} {e : Expr} {body rest : List Stmt} {Φ : Out → Prop} (m n : Nat) (I : Nat → Loc → Prop) (h : ERg d C ρ e m n 1) (hm : m ≤ n) (hn : n ≤ 1000000) (hx : (C.env d).kindOf x = some .local) (hs : ∀ x, foldedSetIterable e (C.env d) x = pure x)
    (h0 : I m ρ) (turn : ∀ i ρ', m ≤ i → i < n → I i ρ' → EX d C ((x, .val (.int (i : Nat))) :: ρ') body (TurnEnd (I (i + 1)) Φ)) (fin : ∀ ρ', I n ρ' → EX d C ρ' rest Φ) :
    EX d C ρ (.For (.Name x px) e body [] pos :: rest) Φ := by
  refine EX.forRange (n - m) (fun i => I (m + i)) h (by rw [size_up]; omega) (small_up (by omega) (by omega) (by omega) (by omega)) hx hs h0 (fun i ρ' hi hI => ?_) (by rw [show m + (n - m) = n by omega]; exact fin)
  have := turn (m + i) ρ' (by omega) (by omega) hI
  rwa [show (m : Int) + (i : Int) * 1 = ((m + i : Nat) : Int) by omega]
theorem EX.forDown {x : PySem.Str} {px pos : Pos} {e : Expr} {body rest : List Stmt} {Φ : Out → Prop} {a b : Int} (n : Nat) (I : Nat → Loc → Prop) (h : ERg d C ρ e a b (-1)) (ha : a = n - 1) (hb : b = -1) (hn : n ≤ 1000000) (hx : (C.env d).kindOf x = some .local) (hs : ∀ x, foldedSetIterable e (C.env d) x = pure x)
    (h0 : I n ρ) (turn : ∀ i ρ', i < n → I (i + 1) ρ' → EX d C ((x, .val (.int (i : Nat))) :: ρ') body (TurnEnd (I i) Φ)) (fin : ∀ ρ', I 0 ρ' → EX d C ρ' rest Φ) :
    EX d C ρ (.For (.Name x px) e body [] pos :: rest) Φ := by
  subst ha hb
  refine EX.forRange n (fun i => I (n - i)) h (by rw [size_down]; omega) (small_down (by omega) (by omega) (by omega) (by omega)) hx hs h0 (fun i ρ' hi hI => ?_) (by rw [Nat.sub_self]; exact fin)
  have := turn (n - 1 - i) ρ' (by omega) (by rw [show n - 1 - i + 1 = n - i by omega]; exact hI)
  rwa [show (n : Int) - 1 + (i : Int) * -1 = ((n - 1 - i : Nat) : Int) by omega, show n - (i + 1) = n - 1 - i by omega]
/-- along a row of digits -/
theorem EX.forRowN {x : PySem.Str} {px pos : Pos} {e : Expr} {body rest : List Stmt} {xs : List Nat} {Φ : Out → Prop} (I : Nat → Loc → Prop) (h : EV d C ρ e (.row (rn xs))) (hx : (C.env d).kindOf x = some .local) (hs : ∀ x, foldedSetIterable e (C.env d) x = pure x)
    (h0 : I 0 ρ) (turn : ∀ i ρ', i < xs.length → I i ρ' → EX d C ((x, .val (.int (xs.getD i 0 : Nat))) :: ρ') body (TurnEnd (I (i + 1)) Φ)) (fin : ∀ ρ', I xs.length ρ' → EX d C ρ' rest Φ) :
    EX d C ρ (.For (.Name x px) e body [] pos :: rest) Φ := by
  refine EX.forRow I h hx hs h0 (fun i ρ' hi hI => ?_) (by rw [rn_length]; exact fin)
  rw [rn_length] at hi
  have := turn i ρ' hi hI
  rwa [rn_getD]

theorem OpI.addN {a b : Nat} : OpI .Add (a : Int) (b : Int) ((a + b : Nat) : Int) := OpI.add.to (by omega)
theorem OpI.subN {a b : Nat} (h : b ≤ a) : OpI .Sub (a : Int) (b : Int) ((a - b : Nat) : Int) := OpI.sub.to (by omega)
theorem OpI.mulN {a b : Nat} (ha : a ≤ 2 ^ 64) (hb : b ≤ 2 ^ 64) : OpI .Mult (a : Int) (b : Int) ((a * b : Nat) : Int) :=
  (OpI.mul (by rw [Int.natAbs_natCast]; exact le64 ha) (by rw [Int.natAbs_natCast]; exact le64 hb)).to (by push_cast; rfl)
theorem OpJ.addN {a b : Nat} : OpJ .Add (a : Int) (b : Int) ((a + b : Nat) : Int) := OpJ.add.to (by omega)
theorem OpI.shlN {a n : Nat} (hn : n ≤ 100000) (ha : a < 2 ^ 64) : OpI .LShift (a : Int) (n : Int) ((a * 2 ^ n : Nat) : Int) :=
  (OpI.shl (by omega) (by omega) (by rw [Int.natAbs_natCast]; exact ha)).to (by rw [Int.toNat_natCast]; push_cast; rfl)
theorem bitOr_nat (a b : Nat) : Builtin.bitOr (a : Int) (b : Int) = ((a ||| b : Nat) : Int) := by
  unfold Builtin.bitOr Builtin.bitAnd Builtin.bitNot
  have h1 : ¬ (0 : Int) ≤ -(a : Int) - 1 := by omega
  have h2 : ¬ (0 : Int) ≤ -(b : Int) - 1 := by omega
  simp only [decide_eq_false h1, decide_eq_false h2]
  try unfold Builtin.bitNot
  have e1 : (-(-(a : Int) - 1) - 1).toNat = a := by omega
  have e2 : (-(-(b : Int) - 1) - 1).toNat = b := by omega
  rw [e1, e2]
  omega
theorem OpI.orN {a b : Nat} : OpI .BitOr (a : Int) (b : Int) ((a ||| b : Nat) : Int) := OpI.or.to (bitOr_nat a b)
theorem OpJ.orN {a b : Nat} : OpJ .BitOr (a : Int) (b : Int) ((a ||| b : Nat) : Int) := OpJ.or.to (bitOr_nat a b)
theorem EV.itemNN {e i : Expr} {pos : Pos} {xs : List Nat} {k : Nat} (h : ER d C ρ e (rn xs)) (hi : EV d C ρ i (.int (k : Nat))) (hv : k < xs.length) (hk : xs.length ≤ 1000000)
    (hs : ∀ o i', subscripted i false o i' = operate [o, i'] (getItem o i')) : EV d C ρ (.Subscript e i pos) (.int (xs.getD k 0 : Nat)) :=
  EV.itemR h hi (by omega) (by rw [Int.toNat_natCast]; exact rn_get? hv) (by omega) hs
theorem EV.call' {x : PySem.Str} {p pos : Pos} {e : Expr} {es : List Expr} {n : Nat} {Vs : List V} {y : V} (h : EVs d C ρ (e :: es) Vs) (hf : FN T x n Vs y) (hx : (C.env d).kindOf x = some .globalImplicit) (hn : n < C.room)
    (hd : (x == ("__debug__" : PySem.Str)) = false) (he : starEach (e :: es) (C.env d) = (false, eval e (C.env d)) :: starEach es (C.env d))
    (hc : eval (.Call (.Name x p) (e :: es) [] pos) (C.env d) = (do callWith pos (← eval (.Name x p) (C.env d)) [] (backTo pos (starEach (e :: es) (C.env d))) (backToKw pos (keywordEach [] (C.env d))))) : EV d C ρ (.Call (.Name x p) (e :: es) [] pos) y :=
  EV.call hf h hx hn hd he hc
theorem EV.callL' {f : PySem.Str} {x : PySem.Str} {p pos : Pos} {e : Expr} {es : List Expr} {n : Nat} {Vs : List V} {y : V} (hl : ρ.lookup f = some (.val (.fn x))) (h : EVs d C ρ (e :: es) Vs) (hf : FN T x n Vs y) (hx : (C.env d).kindOf f = some .local) (hn : n < C.room)
    (hd : (f == ("__debug__" : PySem.Str)) = false) (he : starEach (e :: es) (C.env d) = (false, eval e (C.env d)) :: starEach es (C.env d))
    (hc : eval (.Call (.Name f p) (e :: es) [] pos) (C.env d) = (do callWith pos (← eval (.Name f p) (C.env d)) [] (backTo pos (starEach (e :: es) (C.env d))) (backToKw pos (keywordEach [] (C.env d))))) : EV d C ρ (.Call (.Name f p) (e :: es) [] pos) y :=
  EV.callL hl hf h hx hn hd he hc
theorem ES.setN {x : PySem.Str} {xp p pos : Pos} {i e : Expr} {xs : List Nat} {v k : Nat} (hl : ρ.lookup x = some (.arr (rn xs))) (h : EV d C ρ e (.int (v : Nat))) (hi : EV d C ρ i (.int (k : Nat))) (hk : k < xs.length) (hz : xs.length ≤ 1000000)
    (hx : (C.env d).kindOf x = some .local) (hd : (x == ("__debug__" : PySem.Str)) = false) (hs : swapsWith e (some (.Subscript (.Name x xp) i p)) pos.line (C.env d) = pure false) :
    ES d C ρ (.Assign [.Subscript (.Name x xp) i p] e pos) ((x, .arr (rn (xs.set k v))) :: ρ) := by
  have := ES.setItem (pos := pos) (p := p) hl h hi (by omega) (by rw [rn_length]; omega) (by rw [rn_length]; exact hz) hx hd hs
  rwa [Int.toNat_natCast, rn_set] at this
theorem ES.appendN {x : PySem.Str} {xp ap p pos : Pos} {e : Expr} {xs : List Nat} {v : Nat} (hl : ρ.lookup x = some (.own (rn xs))) (h : EV d C ρ e (.int (v : Nat))) (hz : xs.length ≤ 1000000) (hx : (C.env d).kindOf x = some .local) (hd : (x == ("__debug__" : PySem.Str)) = false)
    (hi' : interactive (C.env d) = false) (hs : swapsWith (.Call (.Attribute (.Name x xp) "append" ap) [e] [] p) none pos.line (C.env d) = pure false)
    (hbase : attributeBase (.Name x xp) "append" (C.env d) (eval (.Name x xp) (C.env d)) = eval (.Name x xp) (C.env d))
    (hfew : ((backTo p (starEach [e] (C.env d))).all (fun x => !x.1) && (backToKw p (keywordEach [] (C.env d))).all (fun x => x.1.isSome)
      && decide (([e] : List Expr).length + ([] : List Keyword).length + (if ([] : List Keyword).isEmpty then 0 else 1) < 30)) = true)
    (hline : (ap.endLine == p.line) = true) (htrees : backTo p (starEach [e] (C.env d)) = [(false, eval e (C.env d))]) :
    ES d C ρ (.Expr (.Call (.Attribute (.Name x xp) "append" ap) [e] [] p) pos) ((x, .own (rn (xs ++ [v]))) :: ρ) := by
  have := ES.append (pos := pos) (p := p) (ap := ap) (xp := xp) hl h (by rw [rn_length]; exact hz) hx hd hi' hs hbase hfew hline htrees
  rwa [show rn (xs ++ [v]) = rn xs ++ [(v : Int)] by rw [rn_append]; rfl]
end Mine
namespace Mine
/-- the bit length -/
noncomputable def bl (n : Nat) : Nat := Builtin.Int.intBits (n : Int)
theorem bl_eq (n : Nat) : bl n = if n = 0 then 0 else n.log2 + 1 := by
  unfold bl Builtin.Int.intBits
  by_cases h : n = 0
  · subst h; rfl
  · have h1 : ((n : Int) == 0) = false := by simp [h]
    rw [h1, if_neg h]; simp
theorem lt_bl {n k : Nat} : bl n ≤ k ↔ n < 2 ^ k := by
  rw [bl_eq]
  by_cases h : n = 0
  · subst h; simp [Nat.pow_pos]
  · rw [if_neg h, Nat.succ_le_iff, Nat.log2_lt h]
theorem le_bl {n k : Nat} : k < bl n ↔ 2 ^ k ≤ n := by
  have := @lt_bl n k
  constructor
  · intro h; exact Nat.not_lt.mp fun q => absurd (this.mpr q) (Nat.not_le.mpr h)
  · intro h; exact Nat.not_le.mp fun q => absurd (this.mp q) (Nat.not_lt.mpr h)
theorem bl_mono {m n : Nat} (h : m ≤ n) : bl m ≤ bl n := lt_bl.mpr (Nat.lt_of_le_of_lt h (lt_bl.mp (Nat.le_refl _)))
theorem bl_zero : bl 0 = 0 := rfl
theorem bl_pos {n : Nat} (h : n ≠ 0) : 0 < bl n := le_bl.mpr (by simp; omega)
theorem bl_eq_of {n k : Nat} (h1 : 2 ^ k ≤ n) (h2 : n < 2 ^ (k + 1)) : bl n = k + 1 := by
  have := lt_bl.mpr h2; have := le_bl.mpr h1; omega
theorem bl_digit {w k x r n : Nat} (hx : x ≠ 0) (hn : n = r + 2 ^ (w * k) * x) (hr : r < 2 ^ (w * k)) : bl n = k * w + bl x := by
  have h0 := bl_pos hx
  obtain ⟨j, hj⟩ : ∃ j, bl x = j + 1 := ⟨bl x - 1, by omega⟩
  have h1 : 2 ^ j ≤ x := le_bl.mp (by omega)
  have h2 : x < 2 ^ (j + 1) := lt_bl.mp (by omega)
  have e : k * w = w * k := Nat.mul_comm ..
  rw [hj, ← Nat.add_assoc]
  refine bl_eq_of ?_ ?_
  · rw [e, Nat.pow_add, hn]
    exact Nat.le_trans (Nat.mul_le_mul_left _ h1) (Nat.le_add_left _ _)
  · rw [e, Nat.add_assoc, Nat.pow_add, hn]
    have := Nat.mul_le_mul_left (2 ^ (w * k)) (Nat.succ_le_of_lt h2)
    rw [Nat.mul_succ] at this
    omega
variable {T : Tp} {d : DefRec} {C : Cx T} {ρ : Loc}
theorem EF.zeros {e₁ e₂ : Expr} {pos : Pos} {n : Nat} (h₁ : EF d C ρ e₁ [0]) (h₂ : EV d C ρ e₂ (.int (n : Nat))) (hn : n ≤ 1000000) : EF d C ρ (.BinOp e₁ .Mult e₂ pos) (rn (List.replicate n 0)) := by
  have := EF.mul (pos := pos) h₁ h₂ (by omega) (by omega)
  rwa [Int.toNat_natCast, show (0 : Int) = ((0 : Nat) : Int) from rfl, rn_replicate] at this
theorem EF.catN {e₁ e₂ : Expr} {pos : Pos} {xs ys : List Nat} (h₁ : EV d C ρ e₁ (.row (rn xs))) (h₂ : EV d C ρ e₂ (.row (rn ys))) (hz : xs.length + ys.length ≤ 1000000) : EF d C ρ (.BinOp e₁ .Add e₂ pos) (rn (xs ++ ys)) := by
  rw [rn_append]
  exact EF.cat h₁ h₂ (by rw [rn_length, rn_length]; exact hz)
theorem EF.oneN {e : Expr} {pos : Pos} {x : Nat} (h : EV d C ρ e (.int (x : Nat))) (he : starEach [e] (C.env d) = (false, eval e (C.env d)) :: starEach [] (C.env d)) : EF d C ρ (.List [e] pos) (rn [x]) := EF.one h he
theorem EV.bitlenN {e : Expr} {ap pos : Pos} {a : Nat} {pl : Sem Bool} (h : EV d C ρ e (.int (a : Nat)))
    (hc : eval (.Call (.Attribute e "bit_length" ap) [] [] pos) (C.env d) = (do
      let ov ← eval e (C.env d)
      standAt ap.atName
      let (f, first) ← holding [ov] (getMethod ov "bit_length" pl)
      callWith pos f first (backTo pos (starEach [] (C.env d))) [])) : EV d C ρ (.Call (.Attribute e "bit_length" ap) [] [] pos) (.int (bl a)) :=
  EV.bitlen h pl hc
theorem OpI.mulS {a b : Int} (ha : -1000000000 ≤ a ∧ a ≤ 1000000000) (hb : -1000000000 ≤ b ∧ b ≤ 1000000000) : OpI .Mult a b (a * b) :=
  OpI.mul (Nat.lt_of_le_of_lt (show a.natAbs ≤ 2 ^ 64 by omega) (by decide)) (Nat.lt_of_le_of_lt (show b.natAbs ≤ 2 ^ 64 by omega) (by decide))
theorem EX.forOff {x : PySem.Str} {px pos : Pos} {e : Expr} {body rest : List Stmt} {Φ : Out → Prop} (m n : Nat) (I : Nat → Loc → Prop) (h : ERg d C ρ e m n 1) (hm : m ≤ 1000000) (hn : n ≤ 1000000) (hx : (C.env d).kindOf x = some .local) (hs : ∀ x, foldedSetIterable e (C.env d) x = pure x)
    (h0 : I 0 ρ) (turn : ∀ i ρ', i < n - m → I i ρ' → EX d C ((x, .val (.int ((m + i : Nat) : Nat))) :: ρ') body (TurnEnd (I (i + 1)) Φ)) (fin : ∀ ρ', I (n - m) ρ' → EX d C ρ' rest Φ) :
    EX d C ρ (.For (.Name x px) e body [] pos :: rest) Φ := by
  refine EX.forRange (n - m) I h (by rw [size_up]; omega) (small_up (by omega) (by omega) (by omega) (by omega)) hx hs h0 (fun i ρ' hi hI => ?_) fin
  have := turn i ρ' hi hI
  rwa [show (m : Int) + (i : Int) * 1 = ((m + i : Nat) : Int) by omega]
end Mine
namespace Mine
variable {T : Tp} {d : DefRec} {C : Cx T} {ρ : Loc}
theorem OpI.addC1 {a : Nat} : OpI .Add (a : Int) 1 ((a + 1 : Nat) : Int) := OpI.add.to (by omega)
theorem OpI.mulC2 {a : Nat} (h : a ≤ 2 ^ 64) : OpI .Mult 2 (a : Int) ((2 * a : Nat) : Int) := by
  have := OpI.mulN (a := 2) (b := a) (by decide) h
  exact this
theorem OpI.mulC3 {a : Nat} (h : a ≤ 2 ^ 64) : OpI .Mult 3 (a : Int) ((3 * a : Nat) : Int) := by
  have := OpI.mulN (a := 3) (b := a) (by decide) h
  exact this
theorem OpI.fdivC2 {a : Nat} : OpI .FloorDiv (a : Int) 2 ((a / 2 : Nat) : Int) := OpI.fdivN (b := 2) (by decide) (by decide)
theorem OpI.fdivC4 {a : Nat} : OpI .FloorDiv (a : Int) 4 ((a / 4 : Nat) : Int) := OpI.fdivN (b := 4) (by decide) (by decide)
theorem OpI.addC2 {a : Nat} : OpI .Add (a : Int) 2 ((a + 2 : Nat) : Int) := OpI.add.to (by omega)
theorem EV.lastN {e i : Expr} {pos : Pos} {xs : List Nat} (h : ER d C ρ e (rn xs)) (hi : EV d C ρ i (.int (-1))) (hv : 0 < xs.length) (hk : xs.length ≤ 1000000)
    (hs : ∀ o i', subscripted i false o i' = operate [o, i'] (getItem o i')) : EV d C ρ (.Subscript e i pos) (.int (xs.getD (xs.length - 1) 0 : Nat)) :=
  EV.itemN h hi (by decide) (by rw [rn_length]; omega) (by rw [rn_length, show ((-1 : Int) + (xs.length : Int)).toNat = xs.length - 1 by omega]; exact rn_get? (by omega)) (by decide) hs
theorem EV.m1 {k' : Nat} {p pos : Pos} : EV d C ρ (.UnaryOp .USub (.Constant (.int 1) k' p) pos) (.int (-1)) := EV.neg EV.int
theorem EF.cutAll {e : Expr} {p pos : Pos} {xs : List Nat} (h : ER d C ρ e (rn xs)) (hz : xs.length ≤ 1000000)
    (ht : ∀ o r, letTemporaryGo e o r = pure ()) : EF d C ρ (.Subscript e (.Slice none none none p) pos) (rn xs) := by
  have := EF.cut (pos := pos) (p := p) h EP.none EP.none (by rw [rn_length]; exact hz) ht
  rwa [pick_all] at this
theorem EF.cutRun {e b c : Expr} {p pos : Pos} {xs : List Nat} {k l : Nat} (h : ER d C ρ e (rn xs)) (hb : EV d C ρ b (.int k)) (hc : EV d C ρ c (.int l)) (hkl : k ≤ l) (hl : l ≤ xs.length) (hz : xs.length ≤ 1000000)
    (ht : ∀ o r, letTemporaryGo e o r = pure ()) : EF d C ρ (.Subscript e (.Slice (some b) (some c) none p) pos) (rn ((xs.drop k).take (l - k))) := by
  have := EF.cut (pos := pos) (p := p) h (EP.some hb) (EP.some hc) (by rw [rn_length]; exact hz) ht
  rwa [pick_run' _ _ _ (by rw [rn_length]; exact hl) hkl, rn_drop, rn_take] at this
end Mine
namespace Mine
variable {T : Tp} {d : DefRec} {C : Cx T} {ρ : Loc}

theorem mem_hidX {C : Cx T} {o x : List Addr} {its : List Addr} {b : Addr} : b ∈ C.hid ⟨o, its ++ x⟩ ↔ b ∈ its ∨ b ∈ C.hid ⟨o, x⟩ := by
  simp only [mem_hid, List.mem_append]
  constructor
  · rintro (h | h | (h | h) | h)
    · exact .inr (.inl h)
    · exact .inr (.inr (.inl h))
    · exact .inl h
    · exact .inr (.inr (.inr (.inl h)))
    · exact .inr (.inr (.inr (.inr h)))
  · rintro (h | h | h | h | h)
    · exact .inr (.inr (.inl (.inl h)))
    · exact .inl h
    · exact .inr (.inl h)
    · exact .inr (.inr (.inl (.inr h)))
    · exact .inr (.inr (.inr h))

/-- iterators are hidden -/
theorem St.hideXs {O : Own} {s : Shared} {m : PySem.Str → Option Value} {its : List Addr} {h' : Heap} {tk : Nat} (S : St d C ρ O s m) (K : Keep s.heap h') (hd : ∀ b ∈ its, s.heap.get? b = none) (hl : ∀ b ∈ its, h'.get? b ≠ none) :
    St d C ρ ⟨O.o, its ++ O.x⟩ { s with heap := h', toks := tk } m := by
  have S1 : St d C ρ O { s with heap := h', toks := tk } m := S.keep K
  have hE : Ext s.heap (C.hid O) h' (C.hid ⟨O.o, its ++ O.x⟩) := fun b o n e => by
    refine ⟨fun q => ?_, K b o e⟩
    rcases mem_hidX.mp q with q | q
    · rw [hd b q] at e; cases e
    · exact n q
  refine ⟨S.kind, S1.fr, fun y l e => ?_, S.dst, fun b hb => ?_, fun b hb hx => ?_, fun b hb => ?_⟩
  · obtain ⟨u, hu, r⟩ := S.loc y l e
    exact ⟨u, hu, r.move hE (fun _ h => h) fun b _ o q => K b o q⟩
  · rcases hb with hb | hb
    · exact S.fresh b (.inl hb)
    · rcases List.mem_append.mp hb with hb | hb
      · exact ⟨Keep.dead (h' := s.heap) S.fr.keep (hd b hb), fun q => S.dlt C.L St.Lhid (q ▸ hd b hb), fun q => S.dlt b (mem_hid.mpr (.inr (.inr (.inr q)))) (hd b hb)⟩
      · exact S.fresh b (.inr hb)
  · rcases List.mem_append.mp hx with hx | hx
    · exact S.dlt b (mem_hid.mpr (.inr (.inl hb))) (hd b hx)
    · exact S.apart b hb hx
  · rcases mem_hidX.mp hb with q | q
    · exact hl b q
    · exact S1.dlt b q

/-- hidden iterators change -/
theorem St.tickXs {O : Own} {s : Shared} {m : PySem.Str → Option Value} {its : List Addr} {h' : Heap} {tk : Nat} (S : St d C ρ O s m) (hit : ∀ b ∈ its, b ∈ O.x) (k : ∀ b o, b ∉ its → s.heap.get? b = some o → h'.get? b = some o) (hl : ∀ b ∈ its, h'.get? b ≠ none) :
    St d C ρ O { s with heap := h', toks := tk } m := by
  have hE : Ext s.heap (C.hid O) h' (C.hid O) := fun b o n e => ⟨n, k b o (fun q => n (mem_hid.mpr (.inr (.inr (.inl (hit b q)))))) e⟩
  refine ⟨S.kind, ⟨?_, fun b o e => k b o (fun q => ?_) (S.fr.keep b o e), S.fr.new⟩, fun y l e => ?_, S.dst, S.fresh, S.apart, fun b hb => ?_⟩
  · obtain ⟨o, es, ep, e, r⟩ := S.fr.ns
    exact ⟨o, es, ep, k _ _ (fun q => (S.fresh _ (.inr (hit _ q))).2.1 rfl) e, r⟩
  · rw [(S.fresh b (.inr (hit b q))).1] at e; cases e
  · obtain ⟨u, hu, r⟩ := S.loc y l e
    exact ⟨u, hu, r.move hE (fun _ h => h) fun b hb o q => k b o (fun z => S.apart b hb (hit b z)) q⟩
  · show h'.get? b ≠ none
    by_cases q : b ∈ its
    · exact hl b q
    · have := S.dlt b hb
      cases z : s.heap.get? b with
      | none => exact absurd z this
      | some o => rw [k b o q z]; exact fun z => nomatch z

/-- the iterators are let go -/
theorem St.unXs {s : Shared} {m : PySem.Str → Option Value} {its : List Addr} {o : List Addr} {x : List Addr} {h' : Heap} {tk : Nat} (S : St d C ρ ⟨o, its ++ x⟩ s m) (k : ∀ b o, b ∉ its → s.heap.get? b = some o → h'.get? b = some o) (hnx : ∀ b ∈ its, b ∉ x) :
    St d C ρ ⟨o, x⟩ { s with heap := h', toks := tk } m ∧ Ext s.heap (C.hid ⟨o, its ++ x⟩) h' (C.hid ⟨o, x⟩) := by
  have hin : ∀ b ∈ its, b ∈ its ++ x := fun b q => List.mem_append.mpr (.inl q)
  have hE : Ext s.heap (C.hid ⟨o, its ++ x⟩) h' (C.hid ⟨o, x⟩) := fun b o' n e =>
    ⟨fun q => n (mem_hidX.mpr (.inr q)), k b o' (fun q => n (mem_hidX.mpr (.inl q))) e⟩
  refine ⟨⟨S.kind, ⟨?_, fun b o e => k b o (fun q => ?_) (S.fr.keep b o e), S.fr.new⟩, fun y l e => ?_, S.dst, fun b hb => S.fresh b (hb.imp id fun q => List.mem_append.mpr (.inr q)), fun b hb hx => S.apart b hb (List.mem_append.mpr (.inr hx)), fun b hb => ?_⟩, hE⟩
  · obtain ⟨o', es, ep, e, r⟩ := S.fr.ns
    exact ⟨o', es, ep, k _ _ (fun q => (S.fresh _ (.inr (hin _ q))).2.1 rfl) e, r⟩
  · rw [(S.fresh b (.inr (hin b q))).1] at e; cases e
  · obtain ⟨u, hu, r⟩ := S.loc y l e
    exact ⟨u, hu, r.move hE (fun _ h => h) fun b hb o q => k b o (fun z => S.apart b hb (hin b z)) q⟩
  · show h'.get? b ≠ none
    have nb : b ∉ its := fun q => by
      rcases mem_hid.mp hb with z | z | z | z
      · exact (S.fresh b (.inr (hin b q))).2.1 z
      · exact S.apart b z (hin b q)
      · exact hnx b q z
      · exact (S.fresh b (.inr (hin b q))).2.2 z
    have := S.dlt b (mem_hidX.mpr (.inr hb))
    cases z : s.heap.get? b with
    | none => exact absurd z this
    | some o => rw [k b o nb z]; exact fun z => nomatch z

theorem EX.enumRow {xi xv : PySem.Str} {n0 : Nat} {pi pv tp p cp pos : Pos} {e : Expr} {body rest : List Stmt} {xs : List Int} {Φ : Out → Prop} (I : Nat → Loc → Prop) (h : EV d C ρ e (.row xs))
    (hz : xs.length ≤ 1000000)
    (hxi : (C.env d).kindOf xi = some .local) (hxv : (C.env d).kindOf xv = some .local) (hen : (C.env d).kindOf "enumerate" = some .globalImplicit)
    (he : starEach [e] (C.env d) = (false, eval e (C.env d)) :: starEach [] (C.env d))
    (hc : eval (.Call (.Name "enumerate" p) [e] [] cp) (C.env d) = (do callWith cp (← eval (.Name "enumerate" p) (C.env d)) [] (backTo cp (starEach [e] (C.env d))) (backToKw cp (keywordEach [] (C.env d)))))
    (hs : ∀ x, foldedSetIterable (.Call (.Name "enumerate" p) [e] [] cp) (C.env d) x = pure x)
    (h0 : I 0 ρ) (turn : ∀ i ρ', i < xs.length → I i ρ' → EX d C ((xv, .val (.int (xs.getD i 0))) :: (xi, .val (.int (i : Nat))) :: ρ') body (TurnEnd (I (i + 1)) Φ)) (fin : ∀ ρ', I xs.length ρ' → EX d C ρ' rest Φ) :
    EX d C ρ (.For (.Tuple [.Name xi pi, .Name xv pv] n0 tp) (.Call (.Name "enumerate" p) [e] [] cp) body [] pos :: rest) Φ := by
  refine ⟨fun O s m Q E S k => ?_⟩
  refine wpAny_execs_cons (wpAny_For (Call_ (ldb S (by decide) boot_enumerate hen (PyProof.Rows.callWith_type1 (args_cons (h.run O s m _ _ S fun u h1 t1 K1 r => args_nil ?_) he) he)) hc) hs)
  obtain ⟨l, vs, rfl, hlh, hl1, hints⟩ := r.row_inv
  have hlen := hints.length
  refine call_enumerate_list (s := { s with heap := h1, toks := t1 }) hl1 fun h2 he2 hi2 hsz2 hk2 => ?_
  show wpAny (model T.prog T.w) C.A (pyIter (.ref (h1.objs.size + 1))) _ _ { s with heap := h2, toks := t1 }
  refine wpAny_pyIter_enum (s := { s with heap := h2, toks := t1 }) he2 ?_
  replace hk2 : Keep h1 h2 := hk2
  have K : Keep s.heap h2 := K1.trans hk2
  replace he2 : IsEnum h2 (h1.objs.size + 1) h1.objs.size 0 .none := he2
  replace hi2 : h2.IsListIter h1.objs.size l 0 := hi2
  obtain ⟨en, hene⟩ : ∃ en, en = h1.objs.size + 1 := ⟨_, rfl⟩
  obtain ⟨it, hite⟩ : ∃ it, it = h1.objs.size := ⟨_, rfl⟩
  rw [← hene, ← hite] at he2
  rw [← hite] at hi2
  rw [← hene]
  have hne : en ≠ it := fun q => by rw [hene, hite] at q; exact absurd q (Nat.succ_ne_self _)
  have dead1 : ∀ b ∈ [en, it], h1.get? b = none := fun b hb => by
    cases q : h1.get? b with
    | none => rfl
    | some o =>
      have this : b < h1.objs.size := Heap.lt_size q
      simp only [List.mem_cons, List.not_mem_nil, or_false] at hb
      rcases hb with q' | q'
      · rw [q', hene] at this; exact absurd this (Nat.not_lt.mpr (Nat.le_succ _))
      · rw [q', hite] at this; exact absurd this (Nat.lt_irrefl _)
  have dead : ∀ b ∈ [en, it], s.heap.get? b = none := fun b hb => K1.dead (dead1 b hb)
  have hl2 : h2.IsList l vs.toArray := let ⟨o, q, z⟩ := hl1; ⟨o, hk2 _ _ q, z⟩
  have lne : l ∉ [en, it] := fun q => by obtain ⟨o, z, _⟩ := hl1; rw [dead1 l q] at z; cases z
  have liveIt : ∀ {h' : Heap} {i : Int} {old : Value} {j : Nat}, IsEnum h' en it i old → h'.IsListIter it l j → ∀ b ∈ [en, it], h'.get? b ≠ none := fun a1 a2 b hb => by
    simp only [List.mem_cons, List.not_mem_nil, or_false] at hb
    rcases hb with rfl | rfl
    · have a1' : Heap.get? _ b = some _ := a1
      rw [a1']; exact fun z => nomatch z
    · obtain ⟨o, q, _⟩ := a2; rw [q]; exact fun z => nomatch z
  have hnx : ∀ b ∈ [en, it], b ∉ O.x := fun b hb q => S.dlt b (mem_hid.mpr (.inr (.inr (.inl q)))) (dead b hb)
  have live : ∀ b o, s.heap.get? b = some o → b ∉ [en, it] := fun b o e q => by rw [dead b q] at e; cases e
  have hlL : ∀ {o : List Addr}, (∀ b, b ∈ C.hid ⟨o, [en, it] ++ O.x⟩ → b = l → False) → l ∉ C.L :: o := fun z q => z l (mem_hid.mpr ((List.mem_cons.mp q).elim .inl fun z => .inr (.inl z))) rfl
  refine codeAny_forLoop_any (fun n s' => ∃ i ρ' o h' tk m' old, s' = { s with heap := h', toks := tk } ∧ n = xs.length + 1 - i ∧ i ≤ xs.length ∧ I i ρ' ∧ St d C ρ' ⟨o, [en, it] ++ O.x⟩ s' m' ∧ (IsEnum h' en it (i : Int) old ∧ h'.IsListIter it l i ∧ h'.IsList l vs.toArray) ∧ (∀ b, b ∈ C.hid ⟨o, [en, it] ++ O.x⟩ → b = l → False) ∧ Stay C s.heap O h' ⟨o, O.x⟩) ?_ (xs.length + 1)
    ⟨0, ρ, O.o, h2, t1, m, .none, rfl, by omega, Nat.zero_le _, h0, S.hideXs K dead (liveIt he2 hi2), ⟨he2, hi2, hl2⟩, fun b hb q => ?_, .keep K⟩
  · rintro n _ ⟨i, ρ', o, h', tk, m', old, rfl, rfl, hi, hI, S', ⟨hE', hI', hL'⟩, hln, y⟩
    have xin : ∀ b ∈ [en, it], b ∈ [en, it] ++ O.x := fun b q => List.mem_append.mpr (.inl q)
    have itf := fun b (hb : b ∈ [en, it]) => S'.fresh b (.inr (xin b hb))
    by_cases hlt : i < xs.length
    · obtain ⟨t, ht⟩ := hints.get i (xs.getD i 0) (by simp [List.getD, hlt])
      refine wpAny_pyNext_enum_item (s := { s with heap := h', toks := tk }) hE' hI' hL' (x := .int (xs.getD i 0) t) (by simpa using ht) hne fun h3 hE3 hI3 htup hsz hk3 => ?_
      refine wpAny_letOwnedTupleGo_enum (s := { s with heap := h3, toks := tk + 1 }) hE3 fun h4 hE4 hs4 => ?_
      replace hs4 : Heap.SameBut en h3 h4 := hs4
      replace htup : h3.get? h'.objs.size = some { cls := .type "tuple", data := .seq #[.int i tk, .int (xs.getD i 0) t] } := htup
      replace hk3 : ∀ b o, b ≠ en → b ≠ it → h'.get? b = some o → h3.get? b = some o := hk3
      have k4 : ∀ b o', b ∉ [en, it] → h'.get? b = some o' → h4.get? b = some o' := fun b o' ne q => by
        simp only [List.mem_cons, List.not_mem_nil, or_false, not_or] at ne
        exact (hs4.2 b ne.1).trans (hk3 b o' ne.1 ne.2 q)
      have hI4 : h4.IsListIter it l (i + 1) := by obtain ⟨o', q, z⟩ := hI3; exact ⟨o', (hs4.2 it (Ne.symm hne)).trans q, z⟩
      have S4 : St d C ρ' ⟨o, [en, it] ++ O.x⟩ { s with heap := h4, toks := tk + 1 } m' := S'.tickXs (tk := tk + 1) xin k4 (liveIt hE4 hI4)
      have htup4 : h4.get? h'.objs.size = some { cls := .type "tuple", data := .seq #[.int i tk, .int (xs.getD i 0) t] } :=
        (hs4.2 _ (Nat.ne_of_gt (Heap.lt_size (show h'.get? en = some _ from hE')))).trans htup
      refine wpAny_assign_Tuple (s := { s with heap := h4, toks := tk + 1 }) (t := h'.objs.size) (items := #[.int i tk, .int (xs.getD i 0) t]) C.hh ⟨_, htup4, rfl, 0, rfl⟩ rfl rfl fun h5 hx5 => ?_
      have K5 : Keep h4 h5 := keep_extBut hx5
      refine St.storeAll0 (xs := [xi, xv]) (Vs := [.int (i : Nat), .int (xs.getD i 0)]) (S4.keep (s' := { s with heap := h5, toks := tk + 1 }) K5) ⟨⟨fun v Q E s q => wpAny_assign_Name q, hxi⟩, ⟨fun v Q E s q => wpAny_assign_Name q, hxv⟩, trivial⟩ rfl ⟨.int _ _, .int _ _, trivial⟩ fun h6 t6 m6 S6 y6 => ?_
      have itn : ∀ b ∈ [en, it], b ∉ C.L :: o := fun b hb q => (List.mem_cons.mp q).elim (itf b hb).2.1 fun z => S'.apart b z (xin b hb)
      have kit6 : ∀ b o', b ∈ [en, it] → h4.get? b = some o' → h6.get? b = some o' := fun b o' hb q => (y6.1 b o' (itn b hb) (K5 b o' q)).2
      have ln : l ∉ C.L :: o := hlL hln
      have hE6 : IsEnum h6 en it ((i : Int) + 1) (.int (xs.getD i 0) t) := kit6 en _ (.head _) hE4
      have hI6 : h6.IsListIter it l (i + 1) := by obtain ⟨o', q, z⟩ := hI4; exact ⟨o', kit6 it _ (.tail _ (.head _)) q, z⟩
      have hL6 : h6.IsList l vs.toArray := by obtain ⟨o', q, z⟩ := hL'; exact ⟨o', (y6.1 l o' ln (K5 l o' (k4 l o' lne q))).2, z⟩
      have yy : Stay C s.heap O h6 ⟨o, O.x⟩ := ⟨fun b o' n' e => by
        obtain ⟨n2, e2⟩ := y.1 b o' n' e
        exact ⟨n2, (y6.1 b o' n2 (K5 b o' (k4 b o' (live b o' e) e2))).2⟩, rfl⟩
      refine (turn i ρ' hlt hI).run _ _ _ _ _ S6 fun f ou O5 h7 t7 hΦ ho y7 => ?_
      have x5 : O5.x = [en, it] ++ O.x := y7.2
      obtain ⟨o5, x5'⟩ := O5
      simp only at x5
      subst x5
      have yy7 : Stay C s.heap O h7 ⟨o5, O.x⟩ := ⟨fun b o' n' e => by
        obtain ⟨n2, e2⟩ := yy.1 b o' n' e
        exact y7.1 b o' n2 e2, rfl⟩
      cases ou with
      | next ρ5 =>
        obtain ⟨rfl, m5, S7⟩ := ho
        obtain ⟨ρ6, hsub, hI7⟩ := hΦ
        refine ⟨xs.length + 1 - (i + 1), by omega, i + 1, ρ6, o5, h7, t7, m5, .int (xs.getD i 0) t, rfl, rfl, hlt, hI7, S7.sub hsub, ⟨?_, ?_, ?_⟩, fun b hb q => ?_, yy7⟩
        · have e1 : ((i + 1 : Nat) : Int) = (i : Int) + 1 := by push_cast; rfl
          rw [e1]
          exact (y7.1 en _ (itn en (.head _)) hE6).2
        · obtain ⟨o', q, z⟩ := hI6; exact ⟨o', (y7.1 it _ (itn it (.tail _ (.head _))) q).2, z⟩
        · obtain ⟨o', q, z⟩ := hL6; exact ⟨o', (y7.1 l _ ln q).2, z⟩
        · subst q
          obtain ⟨o', q, z⟩ := hL6
          have w := (y7.1 b _ ln q).1
          rcases mem_hid.mp hb with q' | q' | q' | q'
          · exact w (q' ▸ .head _)
          · exact w (.tail _ q')
          · exact hln b (mem_hid.mpr (.inr (.inr (.inl q')))) rfl
          · exact hln b (mem_hid.mpr (.inr (.inr (.inr q')))) rfl
      | ret v ρ5 =>
        obtain ⟨u5, m5, rfl, r5, S7⟩ := ho
        have U := S7.unXs (its := [en, it]) (x := O.x) (h' := h7) (tk := t7) (fun _ _ _ e => e) hnx
        exact k _ (.ret v ρ5) ⟨o5, O.x⟩ h7 t7 hΦ ⟨u5, m5, rfl, r5.mono U.2, U.1⟩ yy7
    · have hin : i = xs.length := by omega
      subst hin
      refine wpAny_pyNext_enum_end (s := { s with heap := h', toks := tk }) C.hh hE' hI' hL' (by simp [hlen]) fun h3 hx3 => wpAny_execs_nil ?_
      have k3 : ∀ b o', b ∉ [en, it] → h'.get? b = some o' → h3.get? b = some o' := fun b o' ne q => hx3 b o' (fun z => ne (z ▸ .tail _ (.head _))) q
      have U := S'.unXs (its := [en, it]) (x := O.x) (h' := h3) (tk := tk) k3 hnx
      refine (fin ρ' hI).run _ _ _ _ _ U.1 fun f ou O5 h5 t5 hΦ ho y5 => k f ou O5 h5 t5 hΦ ho ?_
      refine Stay.trans (h' := h3) (O' := ⟨o, O.x⟩) ⟨fun b o' n' e => ?_, rfl⟩ y5
      obtain ⟨n2, e2⟩ := y.1 b o' n' e
      exact ⟨n2, k3 b o' (live b o' e) e2⟩
  · subst q
    rcases mem_hidX.mp hb with q | q
    · exact lne q
    · exact hlh q
end Mine
namespace Mine
variable {T : Tp} {d : DefRec} {C : Cx T} {ρ : Loc}

/-- own lists change, and the heap grows -/
theorem St.pokeK {O : Own} {s : Shared} {m : PySem.Str → Option Value} {x : PySem.Str} {v : Value} {h' : Heap} {lv lv' : LV} {tk : Nat} {W : List Addr} (S : St d C ρ O s m) (hl : ρ.lookup x = some lv) (hm : m x = some v) (hW : ∀ b ∈ W, b ∈ O.o)
    (hoth : ∀ y l, y ≠ x → ρ.lookup y = some l → l.isOwn = true → l.isBox = false ∧ lv'.isBox = false ∧ m y ≠ m x ∧ ∀ b, m y = some (.ref b) → b ∉ W)
    (hs : ∀ b o, b ∉ W → s.heap.get? b = some o → h'.get? b = some o) (hlive : ∀ b ∈ W, h'.get? b ≠ none) (hr : LRep C h' O v lv') : St d C ((x, lv') :: ρ) O { s with heap := h', toks := tk } m ∧ Stay C s.heap O h' O := by
  have hah : ∀ b ∈ W, b ∈ C.hid O := fun b h => mem_hid.mpr (.inr (.inl (hW b h)))
  have hE : Ext s.heap (C.hid O) h' (C.hid O) := fun b o n e => ⟨n, hs b o (fun q => n (hah b q)) e⟩
  refine ⟨⟨S.kind, ⟨?_, fun b o e => hs b o (fun q => ?_) (S.fr.keep b o e), S.fr.new⟩, fun y l e => ?_, fun y z l l' ne e e' o o' => ?_, S.fresh, S.apart, fun b hb => ?_⟩, fun b o n e => ⟨n, hs b o (fun q => n (.tail _ (hW b q))) e⟩, rfl⟩
  · obtain ⟨o, es, ep, e, r⟩ := S.fr.ns
    exact ⟨o, es, ep, hs _ _ (fun q => (S.fresh _ (.inl (hW _ q))).2.1 rfl) e, r⟩
  · rw [(S.fresh b (.inl (hW b q))).1] at e; cases e
  · rcases lookup_cons_cases e with ⟨rfl, rfl⟩ | ⟨ne, e2⟩
    · exact ⟨_, hm, hr⟩
    · obtain ⟨u, hu, r⟩ := S.loc y l e2
      refine ⟨u, hu, ?_⟩
      have un : ∀ b, u = .ref b → l.isOwn = true → b ∉ W := fun b q o => (hoth y l ne e2 o).2.2.2 b (by rw [hu, q])
      cases l with
      | val V => exact Rep.mono hE r
      | own ys => obtain ⟨b, vs, rfl, hbm, ⟨o, n, q, z⟩, hi⟩ := r; exact ⟨b, vs, rfl, hbm, ⟨o, n, hs b _ (un b rfl rfl) q, z⟩, hi⟩
      | arr ys => obtain ⟨b, vs, rfl, hbm, ⟨o, q, z⟩, hi⟩ := r; exact ⟨b, vs, rfl, hbm, ⟨o, hs b _ (un b rfl rfl) q, z⟩, hi⟩
      | pin c ys => obtain ⟨vs, rfl, hbm, ⟨o, q, z⟩, hi⟩ := r; exact ⟨vs, rfl, hbm, ⟨o, hs c _ (un c rfl rfl) q, z⟩, hi⟩
      | box a1 b1 ys k => have := (hoth y _ ne e2 rfl).1; cases this
  · rcases lookup_cons_cases e with ⟨rfl, rfl⟩ | ⟨ny, e2⟩
    · rcases lookup_cons_cases e' with ⟨rfl, rfl⟩ | ⟨nz, e3⟩
      · exact absurd rfl ne
      · have := hoth z l' nz e3 o'; exact ⟨Ne.symm this.2.2.1, this.2.1⟩
    · rcases lookup_cons_cases e' with ⟨rfl, rfl⟩ | ⟨nz, e3⟩
      · have := hoth y l ny e2 o; exact ⟨this.2.2.1, this.1⟩
      · exact S.dst y z l l' ne e2 e3 o o'
  · show h'.get? b ≠ none
    by_cases q : b ∈ W
    · exact hlive b q
    · have := S.dlt b hb
      cases z : s.heap.get? b with
      | none => exact absurd z this
      | some o => rw [hs b o q z]; exact fun z => nomatch z

theorem St.pin {O : Own} {s : Shared} {m : PySem.Str → Option Value} {x : PySem.Str} {xs : List Int} (S : St d C ρ O s m) (hl : ρ.lookup x = some (.arr xs)) : ∃ a, St d C ((x, .pin a xs) :: ρ) O s m := by
  obtain ⟨u, hu, a, vs, rfl, ha, hL, hi⟩ := S.loc x _ hl
  refine ⟨a, ⟨S.kind, S.fr, fun y l e => ?_, fun y z l l' ne e e' o o' => ?_, S.fresh, S.apart, S.dlt⟩⟩
  · rcases lookup_cons_cases e with ⟨rfl, rfl⟩ | ⟨ne, e2⟩
    · exact ⟨_, hu, vs, rfl, ha, hL, hi⟩
    · exact S.loc y l e2
  · rcases lookup_cons_cases e with ⟨rfl, rfl⟩ | ⟨ny, e2⟩
    · rcases lookup_cons_cases e' with ⟨rfl, rfl⟩ | ⟨nz, e3⟩
      · exact absurd rfl ne
      · exact ⟨(S.dst y z _ l' ne hl e3 rfl o').1, rfl⟩
    · rcases lookup_cons_cases e' with ⟨rfl, rfl⟩ | ⟨nz, e3⟩
      · exact S.dst y z l _ ne e2 hl o rfl
      · exact S.dst y z l l' ne e2 e3 o o'
theorem EX.pin {x : PySem.Str} {xs : List Int} {ss : List Stmt} {Φ : Out → Prop} (hl : ρ.lookup x = some (.arr xs)) (h : ∀ a, EX d C ((x, .pin a xs) :: ρ) ss Φ) : EX d C ρ ss Φ := by
  refine ⟨fun O s m Q E S k => ?_⟩
  obtain ⟨a, S'⟩ := S.pin hl
  exact (h a).run O s m Q E S' k
theorem St.unpin {O : Own} {s : Shared} {m : PySem.Str → Option Value} {x : PySem.Str} {a : Addr} {xs : List Int} (S : St d C ρ O s m) (hl : ρ.lookup x = some (.pin a xs)) : St d C ((x, .arr xs) :: ρ) O s m := by
  obtain ⟨u, hu, vs, rfl, ha, hL, hi⟩ := S.loc x _ hl
  refine ⟨S.kind, S.fr, fun y l e => ?_, fun y z l l' ne e e' o o' => ?_, S.fresh, S.apart, S.dlt⟩
  · rcases lookup_cons_cases e with ⟨rfl, rfl⟩ | ⟨ne, e2⟩
    · exact ⟨_, hu, a, vs, rfl, ha, hL, hi⟩
    · exact S.loc y l e2
  · rcases lookup_cons_cases e with ⟨rfl, rfl⟩ | ⟨ny, e2⟩
    · rcases lookup_cons_cases e' with ⟨rfl, rfl⟩ | ⟨nz, e3⟩
      · exact absurd rfl ne
      · exact ⟨(S.dst y z _ l' ne hl e3 rfl o').1, rfl⟩
    · rcases lookup_cons_cases e' with ⟨rfl, rfl⟩ | ⟨nz, e3⟩
      · exact S.dst y z l _ ne e2 hl o rfl
      · exact S.dst y z l l' ne e2 e3 o o'
theorem EX.unpin {x : PySem.Str} {a : Addr} {xs : List Int} {ss : List Stmt} {Φ : Out → Prop} (hl : ρ.lookup x = some (.pin a xs)) (h : EX d C ((x, .arr xs) :: ρ) ss Φ) : EX d C ρ ss Φ :=
  ⟨fun O s m Q E S k => h.run O s m Q E (S.unpin hl) k⟩

theorem ER.pin {x : PySem.Str} {pos : Pos} {a : Addr} {xs : List Int} (h : ρ.lookup x = some (.pin a xs)) (hx : (C.env d).kindOf x = some .local) (hd : (x == ("__debug__" : PySem.Str)) = false) : ER d C ρ (.Name x pos) xs := by
  refine ⟨fun O s m Q E S k => ?_⟩
  obtain ⟨u, hv, vs, rfl, _, hp, hi⟩ := S.loc x _ h
  exact ldF S.fr hv (k a vs s.heap s.toks (Keep.refl _) hp hi) S.kind hx hd

theorem ES.setPin {x : PySem.Str} {xp p pos : Pos} {i e : Expr} {a : Addr} {xs : List Int} {v k : Int} (hl : ρ.lookup x = some (.pin a xs)) (h : EV d C ρ e (.int v)) (hi : EV d C ρ i (.int k)) (h0 : 0 ≤ k) (hk : k < xs.length) (hz : xs.length ≤ 1000000)
    (hx : (C.env d).kindOf x = some .local) (hd : (x == ("__debug__" : PySem.Str)) = false) (hs : swapsWith e (some (.Subscript (.Name x xp) i p)) pos.line (C.env d) = pure false) :
    ES d C ρ (.Assign [.Subscript (.Name x xp) i p] e pos) ((x, .pin a (xs.set k.toNat v)) :: ρ) := by
  refine ⟨fun O s m Q E S kk => ?_⟩
  obtain ⟨u, hu, vs, rfl, ha, hp, hI⟩ := S.loc x _ hl
  have hn := hI.length
  refine wpAny_Assign_Subscript (h.run O s m _ _ S fun w h1 t1 K1 r1 => ldF (S.keep (s' := { s with heap := h1, toks := t1 }) K1).fr hu (hi.run O _ m _ _ (S.keep (s' := { s with heap := h1, toks := t1 }) K1) fun w2 h2 t2 K2 r2 => ?_) S.kind hx hd) hs
  obtain ⟨t, rfl⟩ := r1.int_inv
  obtain ⟨t', rfl⟩ := r2.int_inv
  have K : Keep s.heap h2 := K1.trans K2
  have S2 : St d C ρ O { s with heap := h2, toks := t2 } m := S.keep K
  have hp2 : h2.IsList a vs.toArray := let ⟨o, q, z⟩ := hp; ⟨o, K _ _ q, z⟩
  refine wpAny_setItem_list hp2 h0 (by omega) (by simp; omega) fun h3 hp3 hs3 => ?_
  have hr : LRep C h3 O (.ref a) (.pin a (xs.set k.toNat v)) := ⟨vs.set k.toNat (.int v t), rfl, ha, by simpa using hp3, IntsAre.set hI _ _ _⟩
  have hlv : h3.get? a ≠ none := by obtain ⟨o, q, _⟩ := hp3; rw [q]; exact fun z => nomatch z
  have := S2.poke (tk := t2) hl rfl rfl rfl rfl hu ha hs3 hlv hr
  exact kk O h3 t2 m this.1 ((Stay.keep K).trans this.2)
theorem ES.setPinN {x : PySem.Str} {xp p pos : Pos} {i e : Expr} {a : Addr} {xs : List Nat} {v k : Nat} (hl : ρ.lookup x = some (.pin a (rn xs))) (h : EV d C ρ e (.int (v : Nat))) (hi : EV d C ρ i (.int (k : Nat))) (hk : k < xs.length) (hz : xs.length ≤ 1000000)
    (hx : (C.env d).kindOf x = some .local) (hd : (x == ("__debug__" : PySem.Str)) = false) (hs : swapsWith e (some (.Subscript (.Name x xp) i p)) pos.line (C.env d) = pure false) :
    ES d C ρ (.Assign [.Subscript (.Name x xp) i p] e pos) ((x, .pin a (rn (xs.set k v))) :: ρ) := by
  have := ES.setPin (pos := pos) (p := p) hl h hi (by omega) (by rw [rn_length]; omega) (by rw [rn_length]; exact hz) hx hd hs
  rwa [Int.toNat_natCast, rn_set] at this

/-- an expression that changes own lists -/
structure EM (d : DefRec) (C : Cx T) (ρ : Loc) (e : Expr) (x : V) (ρ' : Loc) : Prop where
  mk ::
  run : ∀ O s m (Q E : Value → Shared → Prop), St d C ρ O s m → (∀ v h' tk, St d C ρ' O { s with heap := h', toks := tk } m → Stay C s.heap O h' O → Rep T.mg h' (C.hid O) v x → Q v { s with heap := h', toks := tk }) →
    wpAny (model T.prog T.w) C.A (eval e (C.env d)) Q E s
theorem EM.ev {e : Expr} {x : V} (h : EV d C ρ e x) : EM d C ρ e x ρ :=
  ⟨fun O s m Q E S k => h.run O s m Q E S fun v h' tk K r => k v h' tk (S.keep K) (.keep K) r⟩
structure EMs (d : DefRec) (C : Cx T) (ρ : Loc) (es : List Expr) (xs : List V) (ρ' : Loc) : Prop where
  mk ::
  run : ∀ O s m pos (Q : List Value → Shared → Prop) (E : Value → Shared → Prop), St d C ρ O s m → (∀ vs h' tk, St d C ρ' O { s with heap := h', toks := tk } m → Stay C s.heap O h' O → Reps T.mg h' (C.hid O) vs xs → Q vs { s with heap := h', toks := tk }) →
    wpAny (model T.prog T.w) C.A (spliced (backTo pos (starEach es (C.env d)))) Q E s
theorem EMs.nil : EMs d C ρ [] [] ρ := ⟨fun _ s _ _ _ _ S k => args_nil (k [] s.heap s.toks S (.refl _ _) trivial)⟩
theorem EMs.cons {e : Expr} {es : List Expr} {x : V} {xs : List V} {ρ' ρ'' : Loc} (h₁ : EM d C ρ e x ρ') (h₂ : EMs d C ρ' es xs ρ'') (he : starEach (e :: es) (C.env d) = (false, eval e (C.env d)) :: starEach es (C.env d)) : EMs d C ρ (e :: es) (x :: xs) ρ'' := by
  refine ⟨fun O s m pos Q E S k => ?_⟩
  refine args_cons (h₁.run O s m _ _ S fun v h' tk S' y r => h₂.run O _ m pos _ _ S' fun vs h'' tk' S'' y' r' => ?_) he
  exact k _ _ _ S'' (y.trans y') ⟨r.mono y'.ext, r'⟩
theorem EM.call {x : PySem.Str} {p pos : Pos} {e : Expr} {es : List Expr} {n : Nat} {Vs : List V} {y : V} {ρ' : Loc} (h : EMs d C ρ (e :: es) Vs ρ') (hf : FN T x n Vs y) (hx : (C.env d).kindOf x = some .globalImplicit) (hn : n < C.room)
    (hd : (x == ("__debug__" : PySem.Str)) = false) (he : starEach (e :: es) (C.env d) = (false, eval e (C.env d)) :: starEach es (C.env d))
    (hc : eval (.Call (.Name x p) (e :: es) [] pos) (C.env d) = (do callWith pos (← eval (.Name x p) (C.env d)) [] (backTo pos (starEach (e :: es) (C.env d))) (backToKw pos (keywordEach [] (C.env d))))) : EM d C ρ (.Call (.Name x p) (e :: es) [] pos) y ρ' := by
  refine ⟨fun O s m Q E S k => ?_⟩
  refine Call_ ((EV.fn hf hx hd).run O s m _ _ S fun v h' tk K r => ?_) hc
  obtain ⟨a, rfl, hm⟩ := r.fn_inv
  obtain ⟨⟨d', hd', rfl⟩, hf⟩ := hf
  obtain ⟨a', o, pm, code, doc, h1, h2, h3, h4⟩ := T.gd.fn d' hd'
  rw [h1] at hm
  cases hm
  have hr := C.rm
  have hu := C.un
  refine callWith_def h3 (h.run O _ m pos _ _ (S.keep K) fun vs h₂ tk₂ S₂ y₂ r₂ => ⟨S₂.hg _ _ h2, ?_⟩) he
  exact hf C.A _ (C.hid O) vs a _ _ S₂.hg S₂.hidn C.hh (by omega) (by omega) h1 r₂ fun v h3 tk3 K3 r3 => k _ _ _ (S₂.keep K3) (((Stay.keep K).trans y₂).trans (.keep K3)) r3
theorem EM.bin {op : Operator} {e₁ e₂ : Expr} {pos : Pos} {a b r : Int} {ρ' ρ'' : Loc} (h₁ : EM d C ρ e₁ (.int a) ρ') (h₂ : EM d C ρ' e₂ (.int b) ρ'') (ho : OpI op a b r) : EM d C ρ (.BinOp e₁ op e₂ pos) (.int r) ρ'' := by
  refine ⟨fun O s m Q E S k => ?_⟩
  refine wpAny_BinOp (h₁.run O s m _ _ S fun v h' tk S' y r₁ => h₂.run O _ m _ _ S' fun v' h'' tk' S'' y' r₂ => ?_)
  obtain ⟨t, rfl⟩ := r₁.int_inv
  obtain ⟨u, rfl⟩ := r₂.int_inv
  exact ho.run _ _ _ _ _ _ _ _ fun t' tk => k _ h'' tk (S''.keep (s' := { s with heap := h'', toks := tk }) (Keep.refl _)) (y.trans y') (.int _ _)
theorem EM.tup {es : List Expr} {n : Nat} {pos : Pos} {xs : List V} {ρ' : Loc} (h : EMs d C ρ es xs ρ') (hz : xs.length ≤ 1000) : EM d C ρ (.Tuple es n pos) (.tup xs) ρ' := by
  refine ⟨fun O s m Q E S k => ?_⟩
  refine wpAny_Tuple (h.run O s m pos _ _ S fun vs h' tk S' y r => ?_)
  refine ⟨by rw [r.length, sizeLine_eq]; omega, ?_⟩
  have K : Keep h' (h'.push { cls := .type "tuple", data := .seq vs.toArray }) := Keep.push _ _
  refine k _ _ tk (S'.keep K) (y.trans (.keep K)) (.tup_of (vs := vs) (fun ha => S'.dlt _ ha (get_size h')) ⟨_, Heap.get?_push_size _ rfl, rfl, 0, rfl⟩ (r.mono (Ext.keep K)))

/-- statements with such expressions -/
theorem ES.assignM {x : PySem.Str} {p pos : Pos} {e : Expr} {v : V} {ρ' : Loc} (h : EM d C ρ e v ρ') (hx : (C.env d).kindOf x = some .local) (hs : swapsWith e (some (.Name x p)) pos.line (C.env d) = pure false) :
    ES d C ρ (.Assign [.Name x p] e pos) ((x, .val v) :: ρ') := by
  refine ⟨fun O s m Q E S k => ?_⟩
  refine wpAny_Assign_Name (h.run O s m _ _ S fun u h' tk S' y r => ?_) hs
  exact S'.store r hx fun h2 tk2 _ S'' y' => k O h2 tk2 _ S'' (y.trans y')
theorem ES.exprM {pos : Pos} {e : Expr} {ρ' : Loc} (h : EM d C ρ e .none ρ') (hi' : interactive (C.env d) = false) (hs : swapsWith e none pos.line (C.env d) = pure false) :
    ES d C ρ (.Expr e pos) ρ' := by
  refine ⟨fun O s m Q E S k => ?_⟩
  exact wpAny_Expr (h.run O s m _ _ S fun u h' tk S' y r => by cases r; exact k O h' tk m S' y) hi' hs
theorem ES.swapM {elts : List Expr} {n : Nat} {tp pos : Pos} {e : Expr} {Vs : List V} {xs : List PySem.Str} {ρ' : Loc}
    (hw : swappedStores [.Tuple elts n tp] e (C.env d) = pure (some xs)) (hs : swapsWithSole [.Tuple elts n tp] e pos.line (C.env d) = pure false)
    (h : EM d C ρ e (.tup Vs) ρ') (hx : locs d xs = true) (hn : xs.length = Vs.length) :
    ES d C ρ (.Assign [.Tuple elts n tp] e pos) (push ρ' xs.reverse Vs.reverse) := by
  refine ⟨fun O s m Q E S k => ?_⟩
  refine Assign_Tuple_swapped (names := xs) (h.run O s m _ _ S fun u h' tk S' y r => ?_) hs hw
  obtain ⟨a, vs, rfl, _, htp, hr⟩ := r.tup_inv
  have hl : xs.length = vs.toArray.size := by simp [hn, hr.length]
  rw [hl]
  refine unpackItems_tuple C.hh htp fun h2 he => ?_
  have K2 : Keep h' h2 := keep_extBut he
  refine St.storeAll0 (S'.keep (s' := { s with heap := h2, toks := tk }) K2) (tgts_bind _ fun x q => locs_of hx x (List.mem_reverse.mp q)) (by simpa using hn) ((hr.mono (Ext.keep K2)).reverse) fun h3 tk3 m3 S3 y3 => ?_
  exact k O h3 tk3 m3 S3 ((y.trans (.keep K2)).trans y3)

/-- a test that changes own lists -/
structure EMT (d : DefRec) (C : Cx T) (ρ : Loc) (e : Expr) (b : Bool) (ρ' : Loc) : Prop where
  mk ::
  run : ∀ O s m (Q : Bool → Shared → Prop) (E : Value → Shared → Prop), St d C ρ O s m → (∀ h' tk, St d C ρ' O { s with heap := h', toks := tk } m → Stay C s.heap O h' O → Q b { s with heap := h', toks := tk }) →
    wpAny (model T.prog T.w) C.A (isTrue e (C.env d) (eval e (C.env d))) Q E s
theorem EMT.cmp {op : CmpOp} {l r : Expr} {pos : Pos} {x y : V} {b : Bool} {ρ' : Loc} (h₁ : EM d C ρ l x ρ') (h₂ : EV d C ρ' r y) (ho : CmV op x y b) (hm : behindInMarks op r = false) : EMT d C ρ (.Compare l [op] [r] pos) b ρ' := by
  refine ⟨fun O s m Q E S k => ?_⟩
  have hu : C.A.units + 100 ≤ cLine := by have := C.un; omega
  refine wpAny_isTrue_Compare1 (h₁.run O s m _ _ S fun v h' tk S' y r₁ => h₂.run O _ m _ _ S' fun v' h'' tk' K' r₂ => ?_) hm
  exact ho T _ _ _ _ _ _ _ C.hh hu (r₁.keep K') r₂ fun h3 tk3 K3 => wpAny_truthy_bool (k _ _ (S'.keep (K'.trans K3)) (y.trans (.keep (K'.trans K3))))
theorem EMT.val {e : Expr} {b : Bool} {ρ' : Loc} (h : EM d C ρ e (.bool b) ρ') (he : ∀ whole, isTrue e (C.env d) whole = (do let v ← whole; standAt e.pos; holding [v] (truthy v))) : EMT d C ρ e b ρ' := by
  refine ⟨fun O s m Q E S k => ?_⟩
  refine wpAny_isTrue_value (h.run O s m _ _ S fun v h' tk S' y r => ?_) (he _)
  obtain rfl := r.bool_inv
  exact wpAny_truthy_bool (k _ _ S' y)
theorem EMT.not {x : Expr} {pos : Pos} {b : Bool} {ρ' : Loc} (h : EMT d C ρ x b ρ') : EMT d C ρ (.UnaryOp .Not x pos) (!b) ρ' :=
  ⟨fun O s m _ _ S k => wpAny_isTrue_Not (h.run O s m _ _ S fun h' tk S' y => k h' tk S' y)⟩
theorem EX.iteM {t : Expr} {body orelse : List Stmt} {pos : Pos} {rest : List Stmt} {b : Bool} {Φ : Out → Prop} {ρ₁ : Loc} (ht : EMT d C ρ t b ρ₁) (h1 : b = true → EX d C ρ₁ body (Then d C rest Φ)) (h2 : b = false → EX d C ρ₁ orelse (Then d C rest Φ)) :
    EX d C ρ (.If t body orelse pos :: rest) Φ := by
  refine ⟨fun O s m Q E S k => ?_⟩
  have go : ∀ ss h' tk, St d C ρ₁ O { s with heap := h', toks := tk } m → Stay C s.heap O h' O → EX d C ρ₁ ss (Then d C rest Φ) → wpAny (model T.prog T.w) C.A (execs ss (C.env d)) (fun f s' => match f with | .next => wpAny (model T.prog T.w) C.A (execs rest (C.env d)) Q E s' | f => Q f s') E { s with heap := h', toks := tk } := by
    intro ss h' tk S' y0 h
    refine h.run O _ m _ _ S' fun f o O' h2 tk2 hΦ ho y => ?_
    cases o with
    | next ρ' =>
      obtain ⟨rfl, m', S'⟩ := ho
      exact EX.run hΦ O' _ m' _ _ S' fun f o O'' h3 tk3 hΦ' ho' y' => k f o O'' h3 tk3 hΦ' ho' ((y0.trans y).trans y')
    | ret v ρ' =>
      obtain ⟨u, m', rfl, r, S'⟩ := ho
      exact k _ (.ret v ρ') O' h2 tk2 hΦ ⟨u, m', rfl, r, S'⟩ (y0.trans y)
  refine wpAny_execs_cons (wpAny_If (ht.run O s m _ _ S fun h' tk S' y => ?_))
  cases b with
  | true => exact go body h' tk S' y (h1 rfl)
  | false => exact go orelse h' tk S' y (h2 rfl)
theorem EX.joinM (ρ₂ : Loc) {t : Expr} {body orelse : List Stmt} {pos : Pos} {rest : List Stmt} {b : Bool} {Φ : Out → Prop} {ρ₁ : Loc} (ht : EMT d C ρ t b ρ₁) (h1 : b = true → EX d C ρ₁ body (NextIs ρ₂)) (h2 : b = false → EX d C ρ₁ orelse (NextIs ρ₂)) (h : EX d C ρ₂ rest Φ) :
    EX d C ρ (.If t body orelse pos :: rest) Φ :=
  EX.iteM ht (fun hb => (h1 hb).mono fun o ⟨ρ', e, hs⟩ => by subst e; exact EX.sub hs h) (fun hb => (h2 hb).mono fun o ⟨ρ', e, hs⟩ => by subst e; exact EX.sub hs h)

/-- a def that changes its first argument -/
noncomputable def FNm (T : Tp) (name : PySem.Str) (n : Nat) (xs : List Int) (Vs : List V) (xs' : List Int) (x : V) : Prop :=
  (∃ d ∈ defs, d.name = name) ∧
  ∀ (A : Around) (s : Shared) (D : List Addr) (vs : List Value) (a0 : Addr) (ws : List Value) (a : Addr) (Q E : Value → Shared → Prop), Keep T.hg s.heap → (∀ b ∈ D, T.hg.get? b = none ∧ s.heap.get? b ≠ none) →
    A.handled = none → A.depth + n < recursionLimit → A.units + 4 * n + 104 ≤ cLine → T.mg name = some (.ref a) → a0 ∈ D → s.heap.IsList a0 ws.toArray → IntsAre ws xs → Reps T.mg s.heap D vs Vs →
    (∀ v h' tk ws', (∀ b o, b ≠ a0 → s.heap.get? b = some o → h'.get? b = some o) → h'.IsList a0 ws'.toArray → IntsAre ws' xs' → Rep T.mg h' D v x → Q v { s with heap := h', toks := tk }) → wpAny (model T.prog T.w) A (call (.ref a) (.ref a0 :: vs)) Q E s

theorem EM.callPin {f x : PySem.Str} {p px pos : Pos} {es : List Expr} {n : Nat} {a : Addr} {xs xs' : List Int} {Vs : List V} {y : V} (hl : ρ.lookup x = some (.pin a xs)) (h : EVs d C ρ es Vs) (hf : FNm T f n xs Vs xs' y) (hfx : (C.env d).kindOf f = some .globalImplicit) (hn : n < C.room)
    (hd : (f == ("__debug__" : PySem.Str)) = false) (hx : (C.env d).kindOf x = some .local) (hdx : (x == ("__debug__" : PySem.Str)) = false)
    (he : starEach (.Name x px :: es) (C.env d) = (false, eval (.Name x px) (C.env d)) :: starEach es (C.env d))
    (hc : eval (.Call (.Name f p) (.Name x px :: es) [] pos) (C.env d) = (do callWith pos (← eval (.Name f p) (C.env d)) [] (backTo pos (starEach (.Name x px :: es) (C.env d))) (backToKw pos (keywordEach [] (C.env d))))) :
    EM d C ρ (.Call (.Name f p) (.Name x px :: es) [] pos) y ((x, .pin a xs') :: ρ) := by
  refine ⟨fun O s m Q E S k => ?_⟩
  obtain ⟨⟨d', hd', rfl⟩, hf⟩ := hf
  obtain ⟨fa, o, pm, code, doc, h1, h2, h3, h4⟩ := T.gd.fn d' hd'
  refine Call_ ((EV.glob (v := .fn d'.name) h1 (fun _ _ _ _ => .fn h1) hfx hd).run O s m _ _ S fun v h' tk K r => ?_) hc
  obtain ⟨fa', rfl, hm⟩ := r.fn_inv
  rw [h1] at hm
  cases hm
  have hr := C.rm
  have hu := C.un
  obtain ⟨u, hu', ws, rfl, ha, hp, hI⟩ := S.loc x _ hl
  have S1 : St d C ρ O { s with heap := h', toks := tk } m := S.keep K
  refine callWith_def h3 (args_cons (ldF S1.fr hu' (h.run O _ m pos _ _ S1 fun vs h₂ tk₂ K₂ r₂ => ?_) S.kind hx hdx) he) he
  have S2 : St d C ρ O { s with heap := h₂, toks := tk₂ } m := S1.keep K₂
  refine ⟨S2.hg _ _ h2, ?_⟩
  have hp2 : h₂.IsList a ws.toArray := let ⟨o, q, z⟩ := hp; ⟨o, K₂ _ _ (K _ _ q), z⟩
  refine hf C.A _ (C.hid O) vs a ws _ _ _ S2.hg S2.hidn C.hh (by omega) (by omega) h1 (mem_hid.mpr (.inr (.inl ha))) hp2 hI r₂ fun v h3 tk3 ws' K3 hp3 hI3 r3 => ?_
  have P := S2.pokeK (W := [a]) (tk := tk3) (lv' := .pin a xs') hl hu' (fun b hb => by rw [List.mem_singleton.mp hb]; exact ha)
    (fun y l ne e o => by
      have dd := S.dst y x l _ ne e hl o rfl
      refine ⟨dd.2, rfl, dd.1, fun b hb q => ?_⟩
      rw [List.mem_singleton.mp q] at hb
      exact dd.1 (hb.trans hu'.symm))
    (fun b o nb e => K3 b o (fun q => nb (q ▸ .head _)) e) (fun b hb => by
      rw [List.mem_singleton.mp hb]
      obtain ⟨o, q, _⟩ := hp3; rw [q]; exact fun z => nomatch z) ⟨ws', rfl, ha, hp3, hI3⟩
  exact k v h3 tk3 P.1 ((Stay.keep (K.trans K₂)).trans P.2) r3

/-- the block hands this back, with the first argument so changed -/
noncomputable def RetPin (x0 : PySem.Str) (a : Addr) (xs' : List Int) (x : V) (o : Out) : Prop := ∃ ρ', (o = .ret x ρ' ∨ (o = .next ρ' ∧ x = .none)) ∧ ρ'.lookup x0 = some (.pin a xs')

theorem isFreed_freed (o : Obj) : ({ o with data := .freed } : Obj).isFreed = true := rfl
theorem get?_hide (h : Heap) (a b : Addr) : ((h.update a fun o => { o with data := .freed }).get? b) = if b = a then none else h.get? b := by
  by_cases e : b = a
  · subst e
    rw [if_pos rfl]
    cases h
    simp only [Heap.update, Heap.get?, Array.getElem?_modify, if_true]
    split
    · rfl
    · rename_i o' hne
      rename_i objs l
      cases q : objs[b]? with
      | none => simp
      | some o => exact absurd (by rw [q]; rfl) (hne o.cls o.dict o.slots)
  · rw [if_neg e]; exact Heap.get?_update_other h _ (Ne.symm e)

theorem FNm.of {n : Nat} {xs : List Int} {Vs : List V} {xs' : List Int} {x : V} (x0 : PySem.Str) (names : List PySem.Str) (hd : d ∈ defs)
    (hb : ∀ pm code doc (vs : List Value), vs.length = Vs.length + 1 → bindArgs (docDef d.name d.params d.body d.scope pm code doc) ⟨vs, []⟩ = pure ((x0 :: names).zip vs))
    (hl : names.length = Vs.length) (hnd : (x0 :: names).Nodup) (hloc : ∀ y ∈ x0 :: names, d.scope.names.lookup y = some .local) (hcell : ∀ y ∈ d.scope.names, y.2 ≠ .cell)
    (hco : d.scope.isCoroutine = false) (hgen : d.scope.isGenerator = false) (hk : d.scope.kind = .function)
    (hbody : ∀ (C : Cx T) (a : Addr), C.room = n → EX d C ((x0, .pin a xs) :: names.zip (Vs.map LV.val)) d.body (RetPin x0 a xs' x)) : FNm T d.name n xs Vs xs' x := by
  refine ⟨⟨d, hd, rfl⟩, ?_⟩
  intro A s D vs a0 ws a Q E hK hD hh hdep hun hm ha0 hws hwi hr k
  obtain ⟨a', o, pm, code, doc, h1, h2, h3, h4⟩ := T.gd.fn d hd
  rw [h1] at hm
  cases hm
  have hlen : vs.length = Vs.length := hr.length
  have hfst : ((x0 :: names).zip (Value.ref a0 :: vs)).map (·.1) = x0 :: names := by
    rw [List.map_fst_zip]; simp; omega
  refine wpAny_call (codeAny_call_def (fd := docDef d.name d.params d.body d.scope pm code doc) (body := d.body) (binds := (x0 :: names).zip (Value.ref a0 :: vs)) (by omega) (hK _ _ h2) h3 (T.gd.lim.keeps hK) (h4.keeps hK) rfl (BindsTo.of_eq (hb pm code doc (Value.ref a0 :: vs) (by simp; omega))) hcell
    (fun y hy => hloc y.1 (by rw [← hfst]; exact List.mem_map_of_mem hy)) (fun h₀ hns hk₀ => ?_) hco hgen hk)
  have hdl : ∀ env : Env, (A.deeper env).depth = A.depth + 1 := fun _ => rfl
  have hul : ∀ env : Env, (A.deeper env).units = A.units + 3 := fun _ => rfl
  have a0T := (hD a0 ha0).1
  have a0live := (hD a0 ha0).2
  let hb0 : Heap := s.heap.update a0 fun o => { o with data := .freed }
  have gb : ∀ b, hb0.get? b = if b = a0 then none else s.heap.get? b := get?_hide s.heap a0
  have szb : hb0.objs.size = s.heap.objs.size := (Heap.SameBut.update s.heap a0 _).1
  have gb' : ∀ b o, hb0.get? b = some o → b ≠ a0 ∧ s.heap.get? b = some o := fun b o e => by
    rw [gb] at e
    split at e
    · cases e
    · exact ⟨by assumption, e⟩
  have hle0 : Keep T.hg hb0 := fun b o e => by
    rw [gb, if_neg (fun q => by rw [q, a0T] at e; cases e)]
    exact hK b o e
  let C : Cx T := { A := A.deeper (callEnv (docDef d.name d.params d.body d.scope pm code doc) s.heap.objs.size a), hb := hb0, L := s.heap.objs.size, D := D.filter (· ≠ a0), fa := a, cd := code, room := n, hh := hh, hle := hle0, hD := fun b hb => (hD b (List.mem_filter.mp hb).1).1, rm := by rw [hdl]; omega, un := by rw [hul]; omega }
  have hns' : h₀.Ns s.heap.objs.size (fun y => ((x0 :: names).zip (Value.ref a0 :: vs)).lookup y) := by
    have := hns
    simp only [lookup_reverse_nodup (l := (x0 :: names).zip (Value.ref a0 :: vs)) (by rw [hfst]; exact hnd)] at this
    exact this
  have hx0 : x0 ∉ names := (List.nodup_cons.mp hnd).1
  have a0lt : a0 < s.heap.objs.size := by
    cases q : s.heap.get? a0 with
    | none => exact absurd q a0live
    | some o => exact Heap.lt_size q
  have S : St d C ((x0, .pin a0 xs) :: names.zip (Vs.map LV.val)) ⟨[a0], []⟩ { s with heap := h₀, toks := s.toks + ((x0 :: names).zip (Value.ref a0 :: vs)).length } (fun y => ((x0 :: names).zip (Value.ref a0 :: vs)).lookup y) := by
    have hE : Ext s.heap D h₀ (C.hid ⟨[a0], []⟩) := fun b o nb e => by
      refine ⟨fun q => ?_, hk₀ b o e⟩
      rcases mem_hid.mp q with q | q | q | q
      · exact absurd (Heap.lt_size e) (by rw [show b = s.heap.objs.size from q]; exact Nat.lt_irrefl _)
      · rw [List.mem_singleton.mp q] at nb; exact nb ha0
      · cases q
      · exact nb (List.mem_filter.mp q).1
    have look : ∀ y lv, ((x0, LV.pin a0 xs) :: names.zip (Vs.map LV.val)).lookup y = some lv → (y = x0 ∧ lv = .pin a0 xs) ∨ (y ≠ x0 ∧ ∃ v V, (names.zip vs).lookup y = some v ∧ lv = .val V ∧ Rep T.mg s.heap D v V) := fun y lv e => by
      rcases lookup_cons_cases e with ⟨rfl, rfl⟩ | ⟨ne, e⟩
      · exact .inl ⟨rfl, rfl⟩
      · obtain ⟨v, V, q1, q2, q3⟩ := zip_lookup_reps hr y lv e
        exact .inr ⟨ne, v, V, q1, q2, q3⟩
    refine ⟨hk, ⟨hns', fun b o e => hk₀ b o (gb' b o e).2, by show hb0.get? s.heap.objs.size = none; rw [gb]; split; rfl; exact get_size _⟩, fun y lv e => ?_, fun y z lv lv' ne e e' ho ho' => ?_, fun b hb => ?_, fun b hb => ?_, fun b hb => ?_⟩
    · rcases look y lv e with ⟨rfl, rfl⟩ | ⟨ne, v, V, q1, rfl, q3⟩
      · refine ⟨.ref a0, by simp [List.lookup_cons], ws, rfl, .head _, ?_, hwi⟩
        obtain ⟨o, q, z⟩ := hws; exact ⟨o, hk₀ _ _ q, z⟩
      · refine ⟨v, ?_, Rep.mono hE q3⟩
        rw [List.zip_cons_cons, List.lookup_cons, show (y == x0) = false from beq_eq_false_iff_ne.mpr ne]
        exact q1
    · rcases look y lv e with ⟨rfl, rfl⟩ | ⟨_, v, V, q1, rfl, q3⟩
      · rcases look z lv' e' with ⟨rfl, rfl⟩ | ⟨_, v, V, q1, rfl, q3⟩
        · exact absurd rfl ne
        · cases ho'
      · cases ho
    · rcases hb with hb | hb
      · rw [List.mem_singleton.mp hb]
        refine ⟨by show hb0.get? a0 = none; rw [gb, if_pos rfl], fun q => ?_, fun q => ?_⟩
        · rw [show a0 = s.heap.objs.size from q] at a0lt; exact absurd a0lt (Nat.lt_irrefl _)
        · have := (List.mem_filter.mp q).2; simp at this
      · cases hb
    · exact fun z => nomatch z
    · show h₀.get? b ≠ none
      rcases mem_hid.mp hb with q | q | q | q
      · obtain ⟨o', es, ep, e, _⟩ := hns'
        rw [show b = s.heap.objs.size from q, e]; exact fun z => nomatch z
      · rw [List.mem_singleton.mp q]; exact Keep.live hk₀ a0live
      · cases q
      · exact Keep.live hk₀ (hD b (List.mem_filter.mp q).1).2
  refine (hbody C a0 rfl).run ⟨[a0], []⟩ _ _ _ _ S fun f ou O' h' tk hΦ ho y => ?_
  obtain ⟨ρ', hΦ, hpin⟩ := hΦ
  have keyO : ∀ {m'}, St d C ρ' O' { s with heap := h', toks := tk } m' → (∀ b o, b ≠ a0 → s.heap.get? b = some o → h'.get? b = some o) ∧ (∃ ws', h'.IsList a0 ws'.toArray ∧ IntsAre ws' xs') ∧ a0 ∈ O'.o := fun S' => by
    obtain ⟨u, hu, ws', _, ho, hL, hi⟩ := S'.loc x0 _ hpin
    exact ⟨fun b o nb e => S'.fr.keep b o (by show hb0.get? b = some o; rw [gb, if_neg nb]; exact e), ⟨ws', hL, hi⟩, ho⟩
  rcases hΦ with rfl | ⟨rfl, rfl⟩
  · obtain ⟨v, m', rfl, r, S'⟩ := ho
    obtain ⟨k1, ⟨ws', k2, k3⟩, k4⟩ := keyO S'
    refine k v h' tk ws' k1 k2 k3 (r.mono fun b o nb e => ⟨fun q => nb ?_, e⟩)
    by_cases qa : b = a0
    · rw [qa]; exact mem_hid.mpr (.inr (.inl k4))
    · exact mem_hid.mpr (.inr (.inr (.inr (List.mem_filter.mpr ⟨q, by simpa using qa⟩))))
  · obtain ⟨rfl, m', S'⟩ := ho
    obtain ⟨k1, ⟨ws', k2, k3⟩, k4⟩ := keyO S'
    exact k .none h' tk ws' k1 k2 k3 .none
end Mine
namespace Mine
variable {T : Tp} {d : DefRec} {C : Cx T} {ρ : Loc}
theorem EX.enumRowN {xi xv : PySem.Str} {n0 : Nat} {pi pv tp p cp pos : Pos} {e : Expr} {body rest : List Stmt} {xs : List Nat} {Φ : Out → Prop} (I : Nat → Loc → Prop) (h : EV d C ρ e (.row (rn xs)))
    (hz : xs.length ≤ 1000000)
    (hxi : (C.env d).kindOf xi = some .local) (hxv : (C.env d).kindOf xv = some .local) (hen : (C.env d).kindOf "enumerate" = some .globalImplicit)
    (he : starEach [e] (C.env d) = (false, eval e (C.env d)) :: starEach [] (C.env d))
    (hc : eval (.Call (.Name "enumerate" p) [e] [] cp) (C.env d) = (do callWith cp (← eval (.Name "enumerate" p) (C.env d)) [] (backTo cp (starEach [e] (C.env d))) (backToKw cp (keywordEach [] (C.env d)))))
    (hs : ∀ x, foldedSetIterable (.Call (.Name "enumerate" p) [e] [] cp) (C.env d) x = pure x)
    (h0 : I 0 ρ) (turn : ∀ i ρ', i < xs.length → I i ρ' → EX d C ((xv, .val (.int (xs.getD i 0 : Nat))) :: (xi, .val (.int (i : Nat))) :: ρ') body (TurnEnd (I (i + 1)) Φ)) (fin : ∀ ρ', I xs.length ρ' → EX d C ρ' rest Φ) :
    EX d C ρ (.For (.Tuple [.Name xi pi, .Name xv pv] n0 tp) (.Call (.Name "enumerate" p) [e] [] cp) body [] pos :: rest) Φ := by
  refine EX.enumRow I h (by rw [rn_length]; exact hz) hxi hxv hen he hc hs h0 (fun i ρ' hi hI => ?_) (by rw [rn_length]; exact fin)
  rw [rn_length] at hi
  have := turn i ρ' hi hI
  rwa [rn_getD]
end Mine
namespace Mine
variable {T : Tp} {d : DefRec} {C : Cx T} {ρ : Loc}
/-- both ways the same -/
theorem EV.iteN {t a b : Expr} {pos : Pos} {c : Bool} {v : V} (ht : ET d C ρ t c) (ha : c = true → EV d C ρ a v) (hb : c = false → EV d C ρ b v) : EV d C ρ (.IfExp t a b pos) v :=
  (EV.ite ht ha hb).to (by cases c <;> rfl)
end Mine
namespace Mine
variable {T : Tp} {d : DefRec} {C : Cx T} {ρ : Loc}
theorem OpI.subC2 {a : Nat} (h : 2 ≤ a) : OpI .Sub (a : Int) 2 ((a - 2 : Nat) : Int) := OpI.sub.to (by omega)
noncomputable def tnames : List Expr → Option (List PySem.Str)
  | [] => some []
  | .Name x _ :: r => (tnames r).map (x :: ·)
  | _ => none
theorem Tgts.of : ∀ {elts : List Expr} {xs : List PySem.Str}, tnames elts = some xs → (∀ x ∈ xs, (C.env d).kindOf x = some .local) → Tgts d C ((assignEach elts (C.env d)).map (·.2)) xs ∧ (assignEach elts (C.env d)).length = xs.length ∧ (assignEach elts (C.env d)).findIdx? (·.1) = none
  | [], _, h, _ => by cases h; exact ⟨trivial, rfl, rfl⟩
  | e :: r, xs, h, hl => by
    cases e <;> first | (cases h; done) | skip
    rename_i x p
    cases q : tnames r with
    | none => rw [tnames, q] at h; cases h
    | some ys =>
      rw [tnames, q] at h
      cases h
      obtain ⟨h1, h2, h3⟩ := Tgts.of (elts := r) q fun y hy => hl y (.tail _ hy)
      refine ⟨⟨⟨fun v Q E s q => wpAny_assign_Name q, hl x (.head _)⟩, h1⟩, ?_, ?_⟩
      · show _ + 1 = _ + 1; rw [h2]
      · show List.findIdx? _ ((false, _) :: _) = none
        rw [List.findIdx?_cons]; simp only [Bool.false_eq_true, if_false, h3]; rfl
theorem ES.tup' {elts : List Expr} {n : Nat} {tp pos : Pos} {e : Expr} {Vs : List V} {xs : List PySem.Str} (hx : tnames elts = some xs) (hw : swappedStores [.Tuple elts n tp] e (C.env d) = pure none) (h : EV d C ρ e (.tup Vs)) (hl : locs d xs = true) (hn : xs.length = Vs.length)
    (hs : swapsWithSole [.Tuple elts n tp] e pos.line (C.env d) = pure false) :
    ES d C ρ (.Assign [.Tuple elts n tp] e pos) (push ρ xs Vs) :=
  let t := Tgts.of (C := C) hx (locs_of hl)
  ES.tup xs h t.1 hn (t.2.1.trans hn) t.2.2 hs hw
end Mine
namespace Mine
variable {T : Tp} {d : DefRec} {C : Cx T} {ρ : Loc}
theorem EV.item0 {e : Expr} {k' : Nat} {p pos : Pos} {v : V} {r : List V} (h : EV d C ρ e (.tup (v :: r)))
    (hs : ∀ o i', subscripted (.Constant (.int 0) k' p) false o i' = operate [o, i'] (getItem o i')) : EV d C ρ (.Subscript e (.Constant (.int 0) k' p) pos) v :=
  EV.itemT (k := 0) h EV.int rfl (by decide) hs
theorem EV.item1 {e : Expr} {k' : Nat} {p pos : Pos} {v v1 : V} {r : List V} (h : EV d C ρ e (.tup (v1 :: v :: r)))
    (hs : ∀ o i', subscripted (.Constant (.int 1) k' p) false o i' = operate [o, i'] (getItem o i')) : EV d C ρ (.Subscript e (.Constant (.int 1) k' p) pos) v :=
  EV.itemT (k := 1) h EV.int rfl (by decide) hs
theorem EV.item2 {e : Expr} {k' : Nat} {p pos : Pos} {v v1 v2 : V} {r : List V} (h : EV d C ρ e (.tup (v1 :: v2 :: v :: r)))
    (hs : ∀ o i', subscripted (.Constant (.int 2) k' p) false o i' = operate [o, i'] (getItem o i')) : EV d C ρ (.Subscript e (.Constant (.int 2) k' p) pos) v :=
  EV.itemT (k := 2) h EV.int rfl (by decide) hs

/-- an expression's value is one of these -/
structure EVr (d : DefRec) (C : Cx T) (ρ : Loc) (e : Expr) (P : V → Prop) : Prop where
  mk ::
  run : ∀ O s m (Q E : Value → Shared → Prop), St d C ρ O s m → (∀ x v h' tk, P x → Keep s.heap h' → Rep T.mg h' (C.hid O) v x → Q v { s with heap := h', toks := tk }) →
    wpAny (model T.prog T.w) C.A (eval e (C.env d)) Q E s
/-- a def whose result is one of these -/
noncomputable def FNr (T : Tp) (name : PySem.Str) (n : Nat) (Vs : List V) (P : V → Prop) : Prop :=
  (∃ d ∈ defs, d.name = name) ∧
  ∀ (A : Around) (s : Shared) (D : List Addr) (vs : List Value) (a : Addr) (Q E : Value → Shared → Prop), Keep T.hg s.heap → (∀ b ∈ D, T.hg.get? b = none ∧ s.heap.get? b ≠ none) →
    A.handled = none → A.depth + n < recursionLimit → A.units + 4 * n + 104 ≤ cLine → T.mg name = some (.ref a) → Reps T.mg s.heap D vs Vs →
    (∀ x v h' tk, P x → Keep s.heap h' → Rep T.mg h' D v x → Q v { s with heap := h', toks := tk }) → wpAny (model T.prog T.w) A (call (.ref a) vs) Q E s
theorem FN.rel {name : PySem.Str} {n : Nat} {Vs : List V} {x : V} {P : V → Prop} (h : FN T name n Vs x) (hp : P x) : FNr T name n Vs P :=
  ⟨h.1, fun A s D vs a Q E h1 h2 h3 h4 h5 h6 h7 k => h.2 A s D vs a Q E h1 h2 h3 h4 h5 h6 h7 fun v h' tk K r => k x v h' tk hp K r⟩
theorem FNr.mono {name : PySem.Str} {n : Nat} {Vs : List V} {P P' : V → Prop} (h : FNr T name n Vs P) (hp : ∀ x, P x → P' x) : FNr T name n Vs P' :=
  ⟨h.1, fun A s D vs a Q E h1 h2 h3 h4 h5 h6 h7 k => h.2 A s D vs a Q E h1 h2 h3 h4 h5 h6 h7 fun x v h' tk p K r => k x v h' tk (hp x p) K r⟩
theorem FNr.to {name : PySem.Str} {n : Nat} {Vs : List V} {P : V → Prop} {x : V} (h : FNr T name n Vs P) (hp : ∀ y, P y → y = x) : FN T name n Vs x :=
  ⟨h.1, fun A s D vs a Q E h1 h2 h3 h4 h5 h6 h7 k => h.2 A s D vs a Q E h1 h2 h3 h4 h5 h6 h7 fun y v h' tk p K r => k v h' tk K (hp y p ▸ r)⟩
theorem FN.room {name : PySem.Str} {n n' : Nat} {Vs : List V} {x : V} (h : FN T name n Vs x) (hn : n ≤ n') : FN T name n' Vs x :=
  ⟨h.1, fun A s D vs a Q E h1 h2 h3 h4 h5 h6 h7 k => h.2 A s D vs a Q E h1 h2 h3 (by omega) (by omega) h6 h7 k⟩
theorem FNr.room {name : PySem.Str} {n n' : Nat} {Vs : List V} {P : V → Prop} (h : FNr T name n Vs P) (hn : n ≤ n') : FNr T name n' Vs P :=
  ⟨h.1, fun A s D vs a Q E h1 h2 h3 h4 h5 h6 h7 k => h.2 A s D vs a Q E h1 h2 h3 (by omega) (by omega) h6 h7 k⟩

noncomputable def RetSat (P : V → Prop) (o : Out) : Prop := ∃ x, P x ∧ RetIs x o

theorem FNr.of {n : Nat} {Vs : List V} {P : V → Prop} (names : List PySem.Str) (hd : d ∈ defs)
    (hb : ∀ pm code doc (vs : List Value), vs.length = Vs.length → bindArgs (docDef d.name d.params d.body d.scope pm code doc) ⟨vs, []⟩ = pure (names.zip vs))
    (hl : names.length = Vs.length) (hnd : names.Nodup) (hloc : ∀ y ∈ names, d.scope.names.lookup y = some .local) (hcell : ∀ y ∈ d.scope.names, y.2 ≠ .cell)
    (hco : d.scope.isCoroutine = false) (hgen : d.scope.isGenerator = false) (hk : d.scope.kind = .function)
    (hbody : ∀ C : Cx T, C.room = n → EX d C (names.zip (Vs.map LV.val)) d.body (RetSat P)) : FNr T d.name n Vs P := by
  refine ⟨⟨d, hd, rfl⟩, ?_⟩
  intro A s D vs a Q E hK hD hh hdep hun hm hr k
  obtain ⟨a', o, pm, code, doc, h1, h2, h3, h4⟩ := T.gd.fn d hd
  rw [h1] at hm
  cases hm
  have hlen : vs.length = Vs.length := hr.length
  have hfst : (names.zip vs).map (·.1) = names := by
    rw [List.map_fst_zip]; omega
  refine wpAny_call (codeAny_call_def (fd := docDef d.name d.params d.body d.scope pm code doc) (body := d.body) (binds := names.zip vs) (by omega) (hK _ _ h2) h3 (T.gd.lim.keeps hK) (h4.keeps hK) rfl (BindsTo.of_eq (hb pm code doc vs hlen)) hcell
    (fun y hy => hloc y.1 (by rw [← hfst]; exact List.mem_map_of_mem hy)) (fun h₀ hns hk₀ => ?_) hco hgen hk)
  have hdl : ∀ env : Env, (A.deeper env).depth = A.depth + 1 := fun _ => rfl
  have hul : ∀ env : Env, (A.deeper env).units = A.units + 3 := fun _ => rfl
  let C : Cx T := { A := A.deeper (callEnv (docDef d.name d.params d.body d.scope pm code doc) s.heap.objs.size a), hb := s.heap, L := s.heap.objs.size, D := D, fa := a, cd := code, room := n, hh := hh, hle := hK, hD := fun b hb => (hD b hb).1, rm := by rw [hdl]; omega, un := by rw [hul]; omega }
  have hns' : h₀.Ns s.heap.objs.size (fun y => (names.zip vs).lookup y) := by
    have := hns
    simp only [lookup_reverse_nodup (l := names.zip vs) (by rw [hfst]; exact hnd)] at this
    exact this
  have S : St d C (names.zip (Vs.map LV.val)) ⟨[], []⟩ { s with heap := h₀, toks := s.toks + (names.zip vs).length } (fun y => (names.zip vs).lookup y) := by
    have hE : Ext s.heap D h₀ (C.hid ⟨[], []⟩) := fun b o nb e => by
      refine ⟨fun q => ?_, hk₀ b o e⟩
      rcases mem_hid.mp q with q | q | q | q
      · exact absurd (Heap.lt_size e) (by rw [show b = s.heap.objs.size from q]; exact Nat.lt_irrefl _)
      · cases q
      · cases q
      · exact nb q
    refine ⟨hk, ⟨hns', hk₀, get_size _⟩, fun y lv e => ?_, fun y z lv lv' ne e e' ho => ?_, fun b hb => ?_, fun b hb => ?_, fun b hb => ?_⟩
    · obtain ⟨v, V, q1, rfl, q3⟩ := zip_lookup_reps hr y lv e
      exact ⟨v, q1, Rep.mono hE q3⟩
    · obtain ⟨v, V, q1, rfl, q3⟩ := zip_lookup_reps hr y lv e
      cases ho
    · rcases hb with hb | hb <;> cases hb
    · cases hb
    · show h₀.get? b ≠ none
      rcases mem_hid.mp hb with q | q | q | q
      · obtain ⟨o', es, ep, e, _⟩ := hns'
        rw [show b = s.heap.objs.size from q, e]; exact fun z => nomatch z
      · cases q
      · cases q
      · exact Keep.live hk₀ (hD b q).2
  refine (hbody C rfl).run ⟨[], []⟩ _ _ _ _ S fun f ou O' h' tk hΦ ho y => ?_
  obtain ⟨x, hP, ρ', hΦ⟩ := hΦ
  rcases hΦ with rfl | ⟨rfl, rfl⟩
  · obtain ⟨v, m', rfl, r, S'⟩ := ho
    exact k x v h' tk hP S'.fr.keep (r.mono fun b o nb e => ⟨fun q => nb (mem_hid.mpr (.inr (.inr (.inr q)))), e⟩)
  · obtain ⟨rfl, m', S'⟩ := ho
    exact k .none .none h' tk hP S'.fr.keep .none

theorem EVr.call {x : PySem.Str} {p pos : Pos} {e : Expr} {es : List Expr} {n : Nat} {Vs : List V} {P : V → Prop} (h : EVs d C ρ (e :: es) Vs) (hf : FNr T x n Vs P) (hx : (C.env d).kindOf x = some .globalImplicit) (hn : n < C.room)
    (hd : (x == ("__debug__" : PySem.Str)) = false) (he : starEach (e :: es) (C.env d) = (false, eval e (C.env d)) :: starEach es (C.env d))
    (hc : eval (.Call (.Name x p) (e :: es) [] pos) (C.env d) = (do callWith pos (← eval (.Name x p) (C.env d)) [] (backTo pos (starEach (e :: es) (C.env d))) (backToKw pos (keywordEach [] (C.env d))))) : EVr d C ρ (.Call (.Name x p) (e :: es) [] pos) P := by
  refine ⟨fun O s m Q E S k => ?_⟩
  obtain ⟨⟨d', hd', rfl⟩, hf⟩ := hf
  obtain ⟨a, o, pm, code, doc, h1, h2, h3, h4⟩ := T.gd.fn d' hd'
  refine Call_ ((EV.glob (v := .fn d'.name) h1 (fun _ _ _ _ => .fn h1) hx hd).run O s m _ _ S fun v h' tk K r => ?_) hc
  obtain ⟨a', rfl, hm⟩ := r.fn_inv
  rw [h1] at hm
  cases hm
  have hr := C.rm
  have hu := C.un
  refine callWith_def h3 (h.run O _ m pos _ _ (S.keep K) fun vs h₂ tk₂ K₂ r₂ => ⟨((S.keep (s' := { s with heap := h', toks := tk }) K).keep (s' := { s with heap := h₂, toks := tk₂ }) K₂).hg _ _ h2, ?_⟩) he
  have S2 : St d C ρ O { s with heap := h₂, toks := tk₂ } m := S.keep (K.trans K₂)
  exact hf C.A _ (C.hid O) vs a _ _ S2.hg S2.hidn C.hh (by omega) (by omega) h1 r₂ fun x v h3 tk3 p K3 r3 => k x _ _ _ p ((K.trans K₂).trans K3) r3
theorem EX.assignR {x : PySem.Str} {p pos : Pos} {e : Expr} {P : V → Prop} {rest : List Stmt} {Φ : Out → Prop} (h : EVr d C ρ e P) (hx : (C.env d).kindOf x = some .local) (hs : swapsWith e (some (.Name x p)) pos.line (C.env d) = pure false)
    (hr : ∀ v, P v → EX d C ((x, .val v) :: ρ) rest Φ) : EX d C ρ (.Assign [.Name x p] e pos :: rest) Φ := by
  refine ⟨fun O s m Q E S k => ?_⟩
  refine wpAny_execs_cons (wpAny_Assign_Name (h.run O s m _ _ S fun v u h' tk hp K r => ?_) hs)
  refine (S.keep (s' := { s with heap := h', toks := tk }) K).store r hx fun h2 tk2 _ S' y => ?_
  exact (hr v hp).run O _ _ _ _ S' fun f o O'' h3 tk3 hΦ ho y3 => k f o O'' h3 tk3 hΦ ho (((Stay.keep K).trans y).trans y3)
theorem EX.tupR {elts : List Expr} {n : Nat} {tp pos : Pos} {e : Expr} {xs : List PySem.Str} {P : V → Prop} {rest : List Stmt} {Φ : Out → Prop} (hx : tnames elts = some xs) (hw : swappedStores [.Tuple elts n tp] e (C.env d) = pure none) (h : EVr d C ρ e P) (hl : locs d xs = true)
    (hs : swapsWithSole [.Tuple elts n tp] e pos.line (C.env d) = pure false)
    (hr : ∀ v, P v → ∃ Vs, v = .tup Vs ∧ xs.length = Vs.length ∧ EX d C (push ρ xs Vs) rest Φ) : EX d C ρ (.Assign [.Tuple elts n tp] e pos :: rest) Φ := by
  have t := Tgts.of (C := C) hx (locs_of hl)
  refine ⟨fun O s m Q E S k => ?_⟩
  refine wpAny_execs_cons (Assign_Tuple (h.run O s m _ _ S fun v u h' tk hp K r => ?_) hs hw)
  obtain ⟨Vs, rfl, hn, hE⟩ := hr v hp
  obtain ⟨a, vs, rfl, _, htp, hr'⟩ := r.tup_inv
  refine wpAny_assign_Tuple C.hh htp (by simp [t.2.1, hn, hr'.length]) t.2.2 fun h2 he => ?_
  have K2 : Keep s.heap h2 := K.trans (keep_extBut he)
  refine St.storeAll0 (S.keep (s' := { s with heap := h2, toks := tk }) K2) t.1 hn (hr'.mono (Ext.keep (keep_extBut he))) fun h3 tk3 m3 S3 y3 => ?_
  exact hE.run O _ _ _ _ S3 fun f o O'' h4 tk4 hΦ ho y4 => k f o O'' h4 tk4 hΦ ho (((Stay.keep K2).trans y3).trans y4)
end Mine
namespace Mine
variable {T : Tp} {d : DefRec} {C : Cx T} {ρ : Loc}
theorem EV.iteT {t a b : Expr} {pos : Pos} {c : Bool} {v : V} (ht : ET d C ρ t c) (hc : c = true) (ha : EV d C ρ a v) : EV d C ρ (.IfExp t a b pos) v :=
  EV.iteN ht (fun _ => ha) (fun h => by rw [h] at hc; cases hc)
theorem EV.iteF {t a b : Expr} {pos : Pos} {c : Bool} {v : V} (ht : ET d C ρ t c) (hc : c = false) (ha : EV d C ρ b v) : EV d C ρ (.IfExp t a b pos) v :=
  EV.iteN ht (fun h => by rw [h] at hc; cases hc) (fun _ => ha)
theorem EX.iteT {t : Expr} {body orelse : List Stmt} {pos : Pos} {rest : List Stmt} {b : Bool} {Φ : Out → Prop} (ht : ET d C ρ t b) (hb : b = true) (h1 : EX d C ρ body (Then d C rest Φ)) : EX d C ρ (.If t body orelse pos :: rest) Φ :=
  EX.ite ht (fun _ => h1) (fun h => by rw [h] at hb; cases hb)
theorem EX.iteF {t : Expr} {body orelse : List Stmt} {pos : Pos} {rest : List Stmt} {b : Bool} {Φ : Out → Prop} (ht : ET d C ρ t b) (hb : b = false) (h1 : EX d C ρ orelse (Then d C rest Φ)) : EX d C ρ (.If t body orelse pos :: rest) Φ :=
  EX.ite ht (fun h => by rw [h] at hb; cases hb) (fun _ => h1)
end Mine
namespace Mine
variable {T : Tp} {d : DefRec} {C : Cx T} {ρ : Loc}
noncomputable def NextP (P : Loc → Prop) (o : Out) : Prop := ∃ ρ', o = .next ρ' ∧ ∃ ρ₁, Sub ρ₁ ρ' ∧ P ρ₁
theorem EX.nextP {P : Loc → Prop} (ρ₁ : Loc) (h : Sub ρ₁ ρ) (hp : P ρ₁) : EX d C ρ [] (NextP P) := EX.nil ⟨ρ, rfl, ρ₁, h, hp⟩
theorem EX.joinP (P : Loc → Prop) {t : Expr} {body orelse : List Stmt} {pos : Pos} {rest : List Stmt} {b : Bool} {Φ : Out → Prop} (ht : ET d C ρ t b) (h1 : b = true → EX d C ρ body (NextP P)) (h2 : b = false → EX d C ρ orelse (NextP P)) (h : ∀ ρ₁, P ρ₁ → EX d C ρ₁ rest Φ) :
    EX d C ρ (.If t body orelse pos :: rest) Φ :=
  EX.ite ht (fun hb => (h1 hb).mono fun o ⟨ρ', e, ρ₁, hs, hp⟩ => by subst e; exact EX.sub hs (h ρ₁ hp)) (fun hb => (h2 hb).mono fun o ⟨ρ', e, ρ₁, hs, hp⟩ => by subst e; exact EX.sub hs (h ρ₁ hp))
theorem EX.retr {e : Expr} {pos : Pos} {rest : List Stmt} {v : V} {P : V → Prop} (h : EV d C ρ e v) (hp : P v) : EX d C ρ (.Return (some e) pos :: rest) (RetSat P) :=
  EX.ret h ⟨v, hp, ρ, .inl rfl⟩
end Mine
namespace Mine
variable {T : Tp} {d : DefRec} {C : Cx T} {ρ : Loc}

/-- a plain value's datum -/
noncomputable def pd1 : V → PyData
  | .int i => .int i
  | .bool b => .bool b
  | .row xs => .list (xs.map .int)
  | _ => .none
noncomputable def pd : V → PyData
  | .tup vs => .tuple (vs.map pd1)
  | v => pd1 v
noncomputable def flat1 : V → Bool
  | .int _ | .bool _ | .none | .row _ => true
  | _ => false
noncomputable def flat : V → Bool
  | .tup vs => vs.all flat1
  | v => flat1 v
theorem ints_carried : ∀ {vs : List Value} {ns : List Int}, IntsAre vs ns → CarriedAll vs (ns.map PyData.int)
  | _, _, .nil => .nil
  | _, _, .cons _ t r => .cons (.int _ t) (ints_carried r)
theorem Rep.reads1 {mg : GM} {h : Heap} {H : List Addr} {v : Value} {x : V} (r : Rep mg h H v x) (hf : flat1 x = true) : ∃ as, Reads h v (pd1 x) as := by
  cases r with
  | int i t => exact ⟨_, .int i t⟩
  | bool b => exact ⟨_, .bool b⟩
  | none => exact ⟨_, .none⟩
  | str s t => cases hf
  | fn e => cases hf
  | adr a => cases hf
  | row ha hl hi => exact ⟨_, reads_newData hl (ints_carried hi)⟩
  | tup ha hl hn hi => cases hf
theorem Reps.reads {mg : GM} {h : Heap} {H : List Addr} : ∀ {vs : List Value} {xs : List V}, Reps mg h H vs xs → xs.all flat1 = true → ∃ as, ReadsAll h vs (xs.map pd1) as
  | [], [], _, _ => ⟨_, .nil⟩
  | v :: vs, x :: xs, r, hf => by
    rw [List.all_cons, Bool.and_eq_true] at hf
    obtain ⟨as, h1⟩ := r.1.reads1 hf.1
    obtain ⟨bs, h2⟩ := Reps.reads r.2 hf.2
    exact ⟨_, .cons h1 h2⟩
theorem Rep.reads {mg : GM} {h : Heap} {H : List Addr} {v : Value} {x : V} (r : Rep mg h H v x) (hf : flat x = true) : ∃ as, Reads h v (pd x) as := by
  cases x with
  | tup vs =>
    obtain ⟨a, us, rfl, _, ⟨o, ho, hc, n, hd⟩, hr⟩ := r.tup_inv
    obtain ⟨as, hra⟩ := hr.reads hf
    exact ⟨_, .tuple ho hc hd (by simpa using hra)⟩
  | int i => exact r.reads1 rfl
  | bool b => exact r.reads1 rfl
  | none => exact r.reads1 rfl
  | str s => cases hf
  | fn n => cases hf
  | adr n => cases hf
  | row xs => exact r.reads1 rfl
theorem ints_lay : ∀ ns : List Int, PyData.canLayAll0 (ns.map PyData.int) = true ∧ PyData.depthAll (ns.map PyData.int) = 0
  | [] => ⟨rfl, rfl⟩
  | _ :: r => by
    have := ints_lay r
    simp [PyData.canLayAll0, PyData.canLay0, PyData.depthAll, PyData.depth, this.1, this.2]
theorem pd1_lay (x : V) : (pd1 x).canLay0 = true ∧ (pd1 x).depth ≤ 1 := by
  cases x with
  | row xs => have := ints_lay xs; simp [pd1, PyData.canLay0, PyData.depth, this.1, this.2]
  | _ => simp [pd1, PyData.canLay0, PyData.depth]
theorem pd1s_lay : ∀ xs : List V, PyData.canLayAll0 (xs.map pd1) = true ∧ PyData.depthAll (xs.map pd1) ≤ 1
  | [] => ⟨rfl, by decide⟩
  | x :: r => by
    have h1 := pd1_lay x
    have h2 := pd1s_lay r
    simp only [List.map_cons, PyData.canLayAll0, PyData.depthAll, h1.1, h2.1, Bool.and_self, true_and]
    omega
theorem pd_shaped (x : V) : SeqAt.shaped (pd x) = true := by
  have key : ∀ y : PyData, y.canLay0 = true → y.depth ≤ 2 → SeqAt.shaped y = true := fun y h1 h2 => by
    unfold SeqAt.shaped; rw [h1, Bool.true_and]; exact decide_eq_true (by omega)
  have k1 : ∀ x, SeqAt.shaped (pd1 x) = true := fun x => key _ (pd1_lay x).1 (Nat.le_trans (pd1_lay x).2 (by decide))
  cases x with
  | tup vs =>
    have := pd1s_lay vs
    exact key _ (by simp [pd, PyData.canLay0, this.1]) (by simp only [pd, PyData.depth]; omega)
  | int i => exact k1 (.int i)
  | bool i => exact k1 (.bool i)
  | none => exact k1 .none
  | str i => exact k1 (.str i)
  | fn i => exact k1 (.fn i)
  | adr i => exact k1 (.adr i)
  | row i => exact k1 (.row i)
theorem CmV.eq_self {x : V} (hf : flat x = true) : CmV .Eq x x true := by
  intro T A s H u v Q E hh hu ru rv k
  obtain ⟨as, r1⟩ := ru.reads hf
  obtain ⟨bs, r2⟩ := rv.reads hf
  refine eq_dataH r1 r2 (pd_shaped x) (pd_shaped x) (by omega) ?_
  rw [SeqAt.eqv_refl _ (SeqAt.canLay_of_shaped (pd_shaped x))]
  exact k s.heap s.toks (Keep.refl _)
theorem CmV.eq_of {x y : V} (h : x = y) (hf : flat x = true) : CmV .Eq x y true := h ▸ CmV.eq_self hf
theorem CmV.ne_self {x : V} (hf : flat x = true) : CmV .NotEq x x false := by
  intro T A s H u v Q E hh hu ru rv k
  obtain ⟨as, r1⟩ := ru.reads hf
  obtain ⟨bs, r2⟩ := rv.reads hf
  refine ne_dataH r1 r2 (pd_shaped x) (pd_shaped x) (by omega) ?_
  rw [SeqAt.eqv_refl _ (SeqAt.canLay_of_shaped (pd_shaped x))]
  exact k s.heap s.toks (Keep.refl _)
theorem CmV.row_str {xs : List Int} {t : PySem.Str} (ht : SeqAt.shaped (.str t) = true) : CmV .Eq (.row xs) (.str t) false := by
  intro T A s H u v Q E hh hu ru rv k
  obtain ⟨as, r1⟩ := ru.reads rfl
  obtain ⟨tk, rfl⟩ := rv.str_inv
  exact eq_dataH r1 (.str t tk) (pd_shaped (.row xs)) ht (by omega) (k s.heap s.toks (Keep.refl _))
theorem CmV.str_str {a b : PySem.Str} : CmV .Eq (.str a) (.str b) (a == b) := by
  intro T A s H u v Q E hh hu ru rv k
  obtain ⟨t1, rfl⟩ := ru.str_inv
  obtain ⟨t2, rfl⟩ := rv.str_inv
  exact PyProof.Rows.eq_str (k s.heap s.toks (Keep.refl _))

theorem slicePick_back (vs : List Value) : (slicePick vs.toArray none none (some (-1))).toList = vs.reverse := by
  have all := congrArg Array.toList (slicePick_all vs.toArray)
  have fwd : sliceRange 0 (vs.length : Int) 1 = List.range vs.length := by
    unfold sliceRange
    have e : (if (0 : Int) < vs.length then ((vs.length : Int) - 0 + 1 - 1) / 1 else 0).toNat = vs.length := by
      rw [Int.ediv_one]; split <;> omega
    simp only [show (1 : Int) > 0 from by decide, if_true, e]
    conv => rhs; rw [← List.map_id (List.range vs.length)]
    exact List.map_congr_left fun k _ => by show (0 + 1 * (k : Int)).toNat = k; omega
  have bwd : sliceRange ((vs.length : Int) - 1) (-1) (-1) = (List.range vs.length).reverse := by
    unfold sliceRange
    have e : (if (vs.length : Int) - 1 > -1 then ((vs.length : Int) - 1 - -1 - -1 - 1) / - -1 else 0).toNat = vs.length := by
      rw [show (- -1 : Int) = 1 from rfl, Int.ediv_one]; split <;> omega
    simp only [show ¬ ((-1 : Int) > 0) from by decide, if_false, e]
    apply List.ext_getElem
    · simp
    · intro i h1 h2
      rw [List.length_map, List.length_range] at h1
      rw [List.getElem_map, List.getElem_reverse, List.getElem_range, List.getElem_range, List.length_range]
      omega
  have s1 : ((sliceRange 0 (vs.length : Int) 1).filterMap (vs.toArray[·]?)) = vs := by simpa [slicePick, sliceBounds] using all
  have s2 : (slicePick vs.toArray none none (some (-1))).toList = (sliceRange ((vs.length : Int) - 1) (-1) (-1)).filterMap (vs.toArray[·]?) := by simp [slicePick, sliceBounds]
  rw [s2, bwd, List.filterMap_reverse, ← fwd, s1]
/-- a row backwards -/
theorem EF.rev {e st : Expr} {p pos : Pos} {xs : List Nat} (h : ER d C ρ e (rn xs)) (hst : EV d C ρ st (.int (-1))) (hz : xs.length ≤ 1000000)
    (ht : ∀ o r, letTemporaryGo e o r = pure ()) : EF d C ρ (.Subscript e (.Slice none none (some st) p) pos) (rn xs.reverse) := by
  have h1 := EF.slice (pos := pos) (p := p) h EP.none EP.none (EP.some hst) (by decide) (by rw [rn_length]; exact hz) fun _ _ _ => slice_form_step ht _ _ _
  have h2 : pickNums (rn xs) none none (some (-1)) = rn xs.reverse := by
    have a := (intsAre_lit (rn xs)).pick none none (some (-1))
    have e : (slicePick ((rn xs).map fun i => Value.int i 0).toArray none none (some (-1))).toList = ((rn xs).map fun i => Value.int i 0).reverse := by
      rw [slicePick_back]
    rw [e] at a
    have b := (intsAre_lit (rn xs)).reverse
    have := a.nums.symm.trans b.nums
    rw [this]; simp [rn]
  rwa [h2] at h1

theorem EV.gdef {x : PySem.Str} {pos : Pos} (h : ∃ d ∈ defs, d.name = x) (hx : (C.env d).kindOf x = some .globalImplicit) (hd : (x == ("__debug__" : PySem.Str)) = false) : EV d C ρ (.Name x pos) (.fn x) := by
  obtain ⟨d', hd', rfl⟩ := h
  obtain ⟨a, o, pm, code, doc, h1, h2, h3, h4⟩ := T.gd.fn d' hd'
  exact EV.glob h1 (fun _ _ _ _ => .fn h1) hx hd
theorem EV.mulS {pos : Pos} (hx : (C.env d).kindOf "mul_school" = some .globalImplicit) : EV d C ρ (.Name "mul_school" pos) (.fn "mul_school") :=
  EV.gdef ⟨dAt 40, dAt_mem rfl, rfl⟩ hx (by decide)
theorem EV.divS {pos : Pos} (hx : (C.env d).kindOf "divrem_school" = some .globalImplicit) : EV d C ρ (.Name "divrem_school" pos) (.fn "divrem_school") :=
  EV.gdef ⟨dAt 46, dAt_mem rfl, rfl⟩ hx (by decide)
theorem wpAny_And3 {M : Model} {A : Around} {E : Value → Shared → Prop} {s : Shared} {env : Env} {x y z : Expr} {pos : Pos} {Q : Value → Shared → Prop}
    (h : wpAny M A (eval x env) (fun v s₁ => wpAny M A (truthy v) (fun t s₂ => if t then wpAny M A (eval (.BoolOp .And [y, z] pos) env) Q E s₂ else Q v s₂) E s₁) E s) : wpAny M A (eval (.BoolOp .And [x, y, z] pos) env) Q E s := by
  show wpAny M A (do
    let v ← eval x env
    standAt pos
    let t ← holding [v] (truthy v)
    match BoolOp.And, t with
    | .And, false | .Or, true => pure v
    | _, _ => boolOp pos .And [eval y env, eval z env]) Q E s
  refine wpAny_bind (wpAny_mono h (fun v s₁ h₁ => wpAny_bind (wpAny_standAt (wpAny_bind (wpAny_holding (wpAny_mono h₁ (fun t s₂ h₂ => ?_) fun _ _ x => x))))) fun _ _ x => x)
  cases t with
  | false => exact wpAny_pure h₂
  | true => exact h₂
theorem EV.and3 {x y z : Expr} {pos : Pos} {a b c : Bool} (h₁ : EV d C ρ x (.bool a)) (h₂ : a = true → EV d C ρ y (.bool b)) (h₃ : a = true → b = true → EV d C ρ z (.bool c)) : EV d C ρ (.BoolOp .And [x, y, z] pos) (.bool (a && (b && c))) := by
  refine ⟨fun O s m Q E S k => wpAny_And3 (h₁.run O s m _ _ S fun v h' tk K r => ?_)⟩
  obtain rfl := r.bool_inv
  refine wpAny_truthy_bool ?_
  cases a with
  | false => exact k _ _ _ K (.bool _)
  | true => exact (EV.and2 (pos := pos) (h₂ rfl) (h₃ rfl)).run O _ m _ _ (S.keep K) fun v' h'' tk' K' r' => k _ _ _ (K.trans K') r'
end Mine
namespace Mine
section
variable {prog : Program} {w : World} {A : Around} {E : Value → Shared → Prop}
theorem draw_list {it l : Addr} {items : Array Value} (hne : l ≠ it) : ∀ (n i : Nat) (s : Shared) (Q : List Value → Shared → Prop), s.heap.IsListIter it l i → s.heap.IsList l items → i + n ≤ items.size →
    (∀ h', h'.IsListIter it l (i + n) → Heap.SameBut it s.heap h' → Q ((items.toList.drop i).take n) { s with heap := h' }) → wpAny (model prog w) A (draw (.ref it) n) Q E s
  | 0, i, s, Q, hit, _, _, hQ => wpAny_pure (by simpa using hQ s.heap hit (Heap.SameBut.refl ..))
  | n + 1, i, s, Q, hit, hl, hle, hQ => by
    have hlt : i < items.size := by omega
    show wpAny _ _ (pyNext (.ref it) >>= _) Q E s
    refine wpAny_bind (wpAny_pyNext_list_item hit hl (x := items[i]) (by simp [hlt]) fun h₁ hit₁ hs₁ => ?_)
    refine wpAny_bind (wpAny_holding (draw_list hne n (i + 1) _ _ hit₁ (hl.extBut hs₁.extBut hne) (by omega) fun h₂ hit₂ hs₂ => wpAny_pure ?_))
    have hd : items.toList.drop i = items[i] :: items.toList.drop (i + 1) := by simp [List.drop_eq_getElem_cons, hlt]
    have := hQ h₂ (by rw [show i + (n + 1) = i + 1 + n by omega]; exact hit₂) (hs₁.trans hs₂)
    rw [hd, List.take_succ_cons] at this
    exact this
theorem unpackItems_list {l : Addr} {items : Array Value} {s : Shared} {Q : List Value → Shared → Prop} (hh : A.handled = none) (hl : s.heap.IsList l items)
    (hQ : ∀ h', Heap.ExtBut s.heap.objs.size s.heap h' → Q items.toList { s with heap := h' }) : wpAny (model prog w) A (unpackItems (.ref l) items.size none) Q E s := by
  have hlt : l ≠ s.heap.objs.size := by obtain ⟨o, ho, _⟩ := hl; exact Nat.ne_of_lt (Heap.lt_size ho)
  unfold unpackItems
  refine wpAny_bind ?_
  unfold notIterableAtAll
  refine wpAny_bind (wpAny_specialOf hl.typeIs slot_list_iter.lookup (wpAny_pure ?_))
  simp only [Bool.false_eq_true, if_false]
  refine wpAny_bind (wpAny_holding (wpAny_pyIter_list hl ?_))
  refine wpAny_bind (wpAny_holding (draw_list hlt items.size 0 _ _ ⟨_, Heap.get?_push_size _ rfl, rfl, rfl⟩ (hl.push _) (by omega) fun h₁ hit₁ hs₁ => ?_))
  have hall : List.take items.size (List.drop 0 items.toList) = items.toList := by
    rw [List.drop_zero]; exact List.take_of_length_le (by simp)
  rw [hall, if_neg (by simp)]
  have hl₁ : h₁.IsList l items := (hl.push _).extBut hs₁.extBut hlt
  refine wpAny_bind (wpAny_holding (wpAny_pyNext_list_end hh hit₁ hl₁ (by simp) fun h₂ he₂ => ?_))
  simp only [Option.isSome_none, Bool.false_eq_true, if_false]
  exact wpAny_pure (hQ h₂ fun b o hb e => he₂ b o hb (hs₁.extBut b o hb (Heap.get?_push_of_some _ e)))
end
variable {T : Tp} {d : DefRec} {C : Cx T} {ρ : Loc}

theorem reps_ints {mg : GM} {h : Heap} {H : List Addr} : ∀ {vs : List Value} {xs : List Int}, IntsAre vs xs → Reps mg h H vs (xs.map V.int)
  | _, _, .nil => trivial
  | _, _, .cons i t r => ⟨.int i t, reps_ints r⟩

/-- names from a new list -/
theorem ES.tupF {elts : List Expr} {n : Nat} {tp pos : Pos} {e : Expr} {xs : List Int} {names : List PySem.Str} (hx : tnames elts = some names) (hw : swappedStores [.Tuple elts n tp] e (C.env d) = pure none) (h : EF d C ρ e xs) (hl : locs d names = true) (hn : names.length = xs.length)
    (hs : swapsWithSole [.Tuple elts n tp] e pos.line (C.env d) = pure false) :
    ES d C ρ (.Assign [.Tuple elts n tp] e pos) (push ρ names (xs.map V.int)) := by
  have t := Tgts.of (C := C) hx (locs_of hl)
  refine ⟨fun O s m Q E S k => ?_⟩
  refine Assign_Tuple (h.run O s m _ _ S fun a vs n0 h' tk K hd hL hi => ?_) hs hw
  have hlen := hi.length
  rw [assign_Tuple]
  refine wpAny_bind (wpAny_standAt ?_)
  unfold unpack
  rw [t.2.2, t.2.1, show names.length = vs.size by rw [hn, ← hlen, Array.length_toList]]
  refine wpAny_bind (wpAny_holding (unpackItems_list (s := { s with heap := h', toks := tk }) C.hh hL.isList fun h2 he => ?_))
  have K2 : Keep s.heap h2 := K.trans (keep_extBut he)
  refine St.storeAll0 (S.keep (s' := { s with heap := h2, toks := tk }) K2) t.1 (by rw [hn, List.length_map]) (reps_ints hi) fun h3 tk3 m3 S3 y3 => ?_
  exact k O h3 tk3 m3 S3 ((Stay.keep K2).trans y3)

theorem ints_fun : ∀ {vs : List Value} {xs ys : List Int}, IntsAre vs xs → IntsAre vs ys → xs = ys
  | _, _, _, .nil, .nil => rfl
  | _, _, _, .cons i t r, .cons _ _ q => by rw [ints_fun r q]

theorem paired_ints {mg : GM} {h : Heap} {H : List Addr} {f : List Int → Int} {F : Value → Value → Prop} (hF : ∀ v u r, F v u → Rep mg h H v (.row r) → ∃ t, u = .int (f r) t) :
    ∀ {vs ys : List Value} {rows : List (List Int)}, Paired F vs ys → Reps mg h H vs (rows.map V.row) → IntsAre ys (rows.map f)
  | _, _, [], .nil, _ => .nil
  | _, _, r :: rows, .cons a b, q => by
    obtain ⟨t, rfl⟩ := hF _ _ _ a q.1
    exact .cons _ t (paired_ints hF b q.2)
  | _, _, _ :: _, .nil, q => q.elim
  | _, _, [], .cons _ _, q => q.elim

/-- [g(x, y) for x in (rows)] -/
theorem EF.comp {g x y mx : PySem.Str} {gp px xp yp mp cpos pos : Pos} {scope : Scope} {cl : List (PySem.Str × Addr)} {c : Addr} {k : Int} {tk0 : Tok} {n : Nat} {rows : List (List Int)} {f : List Int → Int}
    (hl : ρ.lookup mx = some (.val (.tup (rows.map V.row)))) (hz : rows.length ≤ 1000) (hf : ∀ r ∈ rows, FN T g n [.row r, .int k] (.int (f r))) (hn : n < C.room)
    (hcell : C.hb.IsCell c (some (.int k tk0)))
    (hclos : closureFor scope (C.env d) = pure cl) (hcells : ∀ y ∈ scope.names, y.2 ≠ .cell) (hkind : scope.kind = .function)
    (hnames : ∀ y ∈ scope.names, y.2 = .local → scope.names.lookup y.1 = some .local) (hx : scope.names.lookup x = some .local)
    (hkx : ∀ Cc, (compEnvC scope cl Cc (C.env d)).kindOf x = some .local) (hky : ∀ Cc, (compEnvC scope cl Cc (C.env d)).kindOf y = some .cell) (hkg : ∀ Cc, (compEnvC scope cl Cc (C.env d)).kindOf g = some .globalImplicit)
    (hkm : (C.env d).kindOf mx = some .local) (hdm : (mx == ("__debug__" : PySem.Str)) = false)
    (hcl : cl.lookup y = some c) (hdx : (x == ("__debug__" : PySem.Str)) = false) (hdy : (y == ("__debug__" : PySem.Str)) = false) (hdg : (g == ("__debug__" : PySem.Str)) = false)
    (hs : ∀ x, foldedSetIterable (.Name mx mp) (C.env d) x = pure x) :
    EF d C ρ (.ListComp (.Call (.Name g gp) [.Name x xp, .Name y yp] [] cpos) [⟨.Name x px, .Name mx mp, [], 0⟩] scope pos) (rows.map f) := by
  refine ⟨fun O s m Q E S kk => ?_⟩
  obtain ⟨u0, hu0, r0⟩ := S.loc mx _ hl
  obtain ⟨a, vs, rfl, hah, htup, hr⟩ := Rep.tup_inv r0
  have hlen := hr.length
  rw [List.length_map] at hlen
  have hne' : a ≠ s.heap.objs.size := fun q => by obtain ⟨o, e, _⟩ := htup; rw [q, get_size] at e; cases e
  have halt : a < s.heap.objs.size := by obtain ⟨o, e, _⟩ := htup; exact Heap.lt_size e
  have Kp : Keep s.heap (s.heap.push { cls := .type "tuple_iterator", data := .fields #[.ref a, .int 0 0] }) := Keep.push _ _
  refine wpAny_ListComp_free (fun _ => true) (fun v u => ∃ r t, u = .int (f r) t ∧ ∀ r', Rep T.mg s.heap (C.hid O) v (.row r') → r' = r) hclos hcells hkind hnames hx (ldF S.fr hu0 ?_ S.kind hkm hdm) hs
  refine wpAny_pyIter_tuple htup ?_
  refine ⟨s.heap.objs.size, _, _, _, _, _, rfl, Walks.tuple C.hh s.heap.objs.size a hne' vs.toArray, by rw [sizeLine_eq]; simp; omega,
    ⟨⟨_, Heap.get?_push_size _ rfl, rfl, rfl⟩, IsTup.push htup _⟩, fun b hb => ?_, ⟨fun Cc i v s₃ m₃ E' _ _ _ _ _ _ => ?_, fun Cc i v s₃ m₃ E' hC hv _ hns hm hk htk => ?_⟩, fun D h' tk ys us hD hL hP hul hui hF hk => ?_⟩
  · simp only [List.mem_cons, List.not_mem_nil, or_false] at hb
    show b < (s.heap.push _).objs.size
    rw [Heap.size_push]
    rcases hb with rfl | rfl
    · exact Nat.lt_succ_self _
    · exact Nat.lt_succ_of_lt halt
  · rw [List.forIn_nil]
    exact wpAny_pure ⟨rfl, s₃.heap, s₃.toks, rfl, fun _ _ e => e⟩
  · -- one item
    have hk' : ∀ b o, b ≠ s.heap.objs.size → s.heap.get? b = some o → s₃.heap.get? b = some o := fun b o nb e => hk b o (by simpa using nb) (Kp b o e)
    have K3 : Keep s.heap s₃.heap := fun b o e => hk' b o (fun q => by rw [q, get_size] at e; cases e) e
    have hv' : vs[i]? = some v := by simpa using hv
    have hi : i < rows.length := by have := (List.getElem?_eq_some_iff.mp hv').1; omega
    have hrep := hr.at i v (.row rows[i]) hv' (by simp [hi])
    obtain ⟨b, us, rfl, hbh, hl, hints⟩ := hrep.row_inv
    have hmem : rows[i] ∈ rows := List.getElem_mem hi
    obtain ⟨⟨d', hd', rfl⟩, hfn⟩ := hf _ hmem
    obtain ⟨fa, o, pm, code, doc, g1, g2, g3, g4⟩ := T.gd.fn d' hd'
    have hg3 : Keep T.hg s₃.heap := fun b o e => K3 b o (S.hg b o e)
    have hl3 : s₃.heap.IsList b us.toArray := let ⟨o, q, z⟩ := hl; ⟨o, K3 _ _ q, z⟩
    have hr0 := C.rm
    have hu0 := C.un
    refine Call_ (Name_function_global (env := compEnvC scope cl Cc (C.env d)) hkind (hkg Cc) (loadGlobal_global (env := compEnvC scope cl Cc (C.env d)) (T.gd.g.keeps hg3) g1 ?_) hdg) rfl
    refine callWith_def g3 (args_cons (wpAny_Name (wpAny_loadName_local (env := compEnvC scope cl Cc (C.env d)) hkind (hkx Cc) hns hm ?_) hdx) rfl) rfl
    refine args_cons (wpAny_Name (wpAny_loadName_cell (env := compEnvC scope cl Cc (C.env d)) hkind (hky Cc) hcl ((hcell.keeps S.fr.keep).keeps K3) (args_nil ?_)) hdy) rfl
    refine ⟨hg3 _ _ g2, ?_⟩
    refine hfn C.A s₃ [] _ fa _ _ hg3 (fun b hb => by cases hb) C.hh (by omega) (by omega) g1 ⟨.row (fun h => by cases h) hl3 hints, .int _ _, trivial⟩ fun v' h4 tk4 K4 r4 => ?_
    obtain ⟨t4, rfl⟩ := r4.int_inv
    refine ⟨⟨rows[i], t4, rfl, fun r' hr' => ?_⟩, h4, tk4, rfl, K4⟩
    obtain ⟨b', us', e', _, hl', hi'⟩ := hr'.row_inv
    cases e'
    obtain ⟨o1, q1, c1, n1, d1⟩ := hl
    obtain ⟨o2, q2, c2, n2, d2⟩ := hl'
    rw [q1] at q2
    cases q2
    rw [d1] at d2
    have e : us = us' := by cases us; cases us'; all_goals simp_all
    subst e
    exact ints_fun hi' hints
  · have eus : us = vs := by
      apply List.ext_getElem?
      intro j
      cases q : us[j]? with
      | some v => have := hui j v q; rw [← this]; simp
      | none =>
        have h1 : us.length ≤ j := by simpa using q
        symm; simp at hul ⊢; omega
    rw [eus] at hF
    rw [List.filter_eq_self.mpr fun _ _ => rfl] at hF
    have hI : IntsAre ys.toList (rows.map f) := paired_ints (fun v u r hFu hru => by
      obtain ⟨r', t, e, hq⟩ := hFu
      exact ⟨t, by rw [e, hq r hru]⟩) hF hr
    have Kf : Keep s.heap h' := fun b o e => hk b o (by
      have : b ≠ s.heap.objs.size := fun q => by rw [q, get_size] at e; cases e
      simpa using this) (Kp b o e)
    obtain ⟨n', hn'⟩ := hP
    exact kk D ys n' h' tk Kf (Kp.dead hD) hn' hI
end Mine
namespace Mine
variable {T : Tp}

/-- the def whose last parameter is a cell -/
theorem FN.half {n : Nat} {V1 V2 V3 : V} {k : Int} {x : V}
    (hbody : ∀ C : Cx T, C.room = n → C.cl = [(("w" : PySem.Str), C.L + 1)] → (∃ t, C.hb.IsCell (C.L + 1) (some (.int k t))) → EX (dAt 56) C [("one", .val V1), ("other", .val V2), ("least", .val V3)] (dAt 56).body (RetIs x)) :
    FN T "_law_half_right" n [V1, V2, V3, .int k] x := by
  have hd : dAt 56 ∈ defs := dAt_mem rfl
  refine ⟨⟨dAt 56, hd, rfl⟩, ?_⟩
  intro A s D vs a Q E hK hD hh hdep hun hm hr kk
  obtain ⟨a', o, pm, code, doc, h1, h2, h3, h4⟩ := T.gd.fn (dAt 56) hd
  have e0 : T.mg "_law_half_right" = some (.ref a') := h1
  rw [e0] at hm
  cases hm
  match vs, hr with
  | [v1, v2, v3, v4], ⟨r1, r2, r3, r4, _⟩ =>
  obtain ⟨t4, rfl⟩ := r4.int_inv
  refine wpAny_call (codeAny_call_cells (fd := docDef (dAt 56).name (dAt 56).params (dAt 56).body (dAt 56).scope pm code doc) (body := (dAt 56).body) (binds := [("one", v1), ("other", v2), ("least", v3), ("w", .int k t4)]) (by omega) (hK _ _ h2) h3 (T.gd.lim.keeps hK) (h4.keeps hK) rfl rfl rfl (fun y hy => ?_) (fun s₁ I => ?_) rfl rfl rfl)
  · simp only [List.mem_cons, List.not_mem_nil, or_false] at hy
    rcases hy with rfl | rfl | rfl | rfl
    · exact .inl rfl
    · exact .inl rfl
    · exact .inl rfl
    · exact .inr ⟨rfl, rfl⟩
  have hdl : ∀ env : Env, (A.deeper env).depth = A.depth + 1 := fun _ => rfl
  have hul : ∀ env : Env, (A.deeper env).units = A.units + 3 := fun _ => rfl
  obtain ⟨⟨⟨h₀, tk₀, rfl⟩, hns, hk₀, hL0⟩, hcell, _, _⟩ := I
  replace hk₀ : Keep s.heap h₀ := hk₀
  have hcw : h₀.IsCell (s.heap.objs.size + 1) (some (.int k t4)) := hcell "w" (s.heap.objs.size + 1) rfl
  have hns' : h₀.Ns s.heap.objs.size (bindL (callEnvC (docDef (dAt 56).name (dAt 56).params (dAt 56).body (dAt 56).scope pm code doc) s.heap.objs.size a).kindOf [("one", v1), ("other", v2), ("least", v3), ("w", .int k t4)] fun _ => none) := hns
  let hb0 : Heap := h₀.update s.heap.objs.size fun o => { o with data := .freed }
  have gb : ∀ b, hb0.get? b = if b = s.heap.objs.size then none else h₀.get? b := get?_hide h₀ s.heap.objs.size
  have gb' : ∀ b o, hb0.get? b = some o → b ≠ s.heap.objs.size ∧ h₀.get? b = some o := fun b o e => by
    rw [gb] at e
    split at e
    · cases e
    · exact ⟨by assumption, e⟩
  have up : ∀ b o, s.heap.get? b = some o → hb0.get? b = some o := fun b o e => by
    rw [gb, if_neg (fun q => by rw [q, get_size] at e; cases e)]; exact hk₀ b o e
  let C : Cx T := { A := A.deeper (callEnvC (docDef (dAt 56).name (dAt 56).params (dAt 56).body (dAt 56).scope pm code doc) s.heap.objs.size a), hb := hb0, L := s.heap.objs.size, D := D, fa := a, cd := code, cl := [("w", s.heap.objs.size + 1)], room := n, hh := hh, hle := fun b o e => up b o (hK b o e), hD := fun b hb => (hD b hb).1, rm := by rw [hdl]; omega, un := by rw [hul]; omega }
  have S : St (dAt 56) C [("one", .val V1), ("other", .val V2), ("least", .val V3)] ⟨[], []⟩ { s with heap := h₀, toks := tk₀ } (bindL (callEnvC (docDef (dAt 56).name (dAt 56).params (dAt 56).body (dAt 56).scope pm code doc) s.heap.objs.size a).kindOf [("one", v1), ("other", v2), ("least", v3), ("w", .int k t4)] fun _ => none) := by
    have hE : Ext s.heap D h₀ (C.hid ⟨[], []⟩) := fun b o nb e => by
      refine ⟨fun q => ?_, hk₀ b o e⟩
      rcases mem_hid.mp q with q | q | q | q
      · exact absurd (Heap.lt_size e) (by rw [show b = s.heap.objs.size from q]; exact Nat.lt_irrefl _)
      · cases q
      · cases q
      · exact nb q
    refine ⟨rfl, ⟨hns', fun b o e => (gb' b o e).2, by show hb0.get? s.heap.objs.size = none; rw [gb, if_pos rfl]⟩, fun y lv e => ?_, fun y z lv lv' ne e e' ho => ?_, fun b hb => ?_, fun b hb => ?_, fun b hb => ?_⟩
    · rcases lookup_cons_cases e with ⟨rfl, rfl⟩ | ⟨_, e⟩
      · exact ⟨v1, rfl, Rep.mono hE r1⟩
      · rcases lookup_cons_cases e with ⟨rfl, rfl⟩ | ⟨_, e⟩
        · exact ⟨v2, rfl, Rep.mono hE r2⟩
        · rcases lookup_cons_cases e with ⟨rfl, rfl⟩ | ⟨_, e⟩
          · exact ⟨v3, rfl, Rep.mono hE r3⟩
          · cases e
    · rcases lookup_cons_cases e with ⟨rfl, rfl⟩ | ⟨_, e⟩
      · cases ho
      · rcases lookup_cons_cases e with ⟨rfl, rfl⟩ | ⟨_, e⟩
        · cases ho
        · rcases lookup_cons_cases e with ⟨rfl, rfl⟩ | ⟨_, e⟩
          · cases ho
          · cases e
    · rcases hb with hb | hb <;> cases hb
    · cases hb
    · show h₀.get? b ≠ none
      rcases mem_hid.mp hb with q | q | q | q
      · obtain ⟨o', es, ep, e, _⟩ := hns'
        rw [show b = s.heap.objs.size from q, e]; exact fun z => nomatch z
      · cases q
      · cases q
      · exact Keep.live hk₀ (hD b q).2
  refine (hbody C rfl rfl ⟨t4, by
    obtain ⟨o, q, z⟩ := hcw
    exact ⟨o, by show hb0.get? (s.heap.objs.size + 1) = some o; rw [gb, if_neg (Nat.succ_ne_self _)]; exact q, z⟩⟩).run ⟨[], []⟩ _ _ _ _ S fun f ou O' h' tk hΦ ho y => ?_
  obtain ⟨ρ', hΦ⟩ := hΦ
  rcases hΦ with rfl | ⟨rfl, rfl⟩
  · obtain ⟨v, m', rfl, r, S'⟩ := ho
    exact kk v h' tk (fun b o e => S'.fr.keep b o (up b o e)) (r.mono fun b o nb e => ⟨fun q => nb (mem_hid.mpr (.inr (.inr (.inr q)))), e⟩)
  · obtain ⟨rfl, m', S'⟩ := ho
    exact kk .none h' tk (fun b o e => S'.fr.keep b o (up b o e)) .none
end Mine
namespace Mine
variable {T : Tp} {d : DefRec} {C : Cx T} {ρ : Loc}
noncomputable def CellIs (C : Cx T) (x : PySem.Str) (k : Int) : Prop := ∃ c t, C.cl.lookup x = some c ∧ C.hb.IsCell c (some (.int k t))
theorem EV.cellw {x : PySem.Str} {pos : Pos} {k : Int} (h : CellIs C x k) (hx : (C.env d).kindOf x = some .cell) (hd : (x == ("__debug__" : PySem.Str)) = false) : EV d C ρ (.Name x pos) (.int k) :=
  let ⟨_, _, h1, h2⟩ := h
  EV.cell h1 h2 hx hd
theorem EV.maxN {e e' : Expr} {p pos : Pos} {a b : Nat} (h : EV d C ρ e (.int (a : Nat))) (h' : EV d C ρ e' (.int (b : Nat))) (hx : (C.env d).kindOf "max" = some .globalImplicit)
    (he : starEach [e, e'] (C.env d) = (false, eval e (C.env d)) :: starEach [e'] (C.env d)) (he' : starEach [e'] (C.env d) = (false, eval e' (C.env d)) :: starEach [] (C.env d))
    (hc : eval (.Call (.Name "max" p) [e, e'] [] pos) (C.env d) = (do callWith pos (← eval (.Name "max" p) (C.env d)) [] (backTo pos (starEach [e, e'] (C.env d))) (backToKw pos (keywordEach [] (C.env d))))) : EV d C ρ (.Call (.Name "max" p) [e, e'] [] pos) (.int (Max.max a b : Nat)) :=
  (EV.max h h' hx he he' hc).toI (by omega)
theorem EV.minN {e e' : Expr} {p pos : Pos} {a b : Nat} (h : EV d C ρ e (.int (a : Nat))) (h' : EV d C ρ e' (.int (b : Nat))) (hx : (C.env d).kindOf "min" = some .globalImplicit)
    (he : starEach [e, e'] (C.env d) = (false, eval e (C.env d)) :: starEach [e'] (C.env d)) (he' : starEach [e'] (C.env d) = (false, eval e' (C.env d)) :: starEach [] (C.env d))
    (hc : eval (.Call (.Name "min" p) [e, e'] [] pos) (C.env d) = (do callWith pos (← eval (.Name "min" p) (C.env d)) [] (backTo pos (starEach [e, e'] (C.env d))) (backToKw pos (keywordEach [] (C.env d))))) : EV d C ρ (.Call (.Name "min" p) [e, e'] [] pos) (.int (Min.min a b : Nat)) :=
  (EV.min h h' hx he he' hc).toI (by omega)
end Mine
namespace Mine
variable {T : Tp} {d : DefRec} {C : Cx T} {ρ : Loc}

theorem box_only {O : Own} {s : Shared} {m : PySem.Str → Option Value} {x : PySem.Str} {a b : Addr} {xs : List Int} {k : Int} (S : St d C ρ O s m) (hl : ρ.lookup x = some (.box a b xs k)) {P : Prop} :
    ∀ y l, y ≠ x → ρ.lookup y = some l → l.isOwn = true → P := fun y l ne e o => by
  have := (S.dst x y _ l (Ne.symm ne) hl e rfl o).2
  cases this

theorem ER.box0 {x : PySem.Str} {k' : Nat} {xp p pos : Pos} {a b : Addr} {xs : List Int} {k : Int} (hl : ρ.lookup x = some (.box a b xs k)) (hx : (C.env d).kindOf x = some .local) (hd : (x == ("__debug__" : PySem.Str)) = false)
    (hs : ∀ o i', subscripted (.Constant (.int 0) k' p) false o i' = operate [o, i'] (getItem o i')) : ER d C ρ (.Subscript (.Name x xp) (.Constant (.int 0) k' p) pos) xs := by
  refine ⟨fun O s m Q E S kk => ?_⟩
  obtain ⟨u, hu, t, vs, n, rfl, ha, hb, hne, hA, hB, hi⟩ := S.loc x _ hl
  refine Subscript_ (ldF S.fr hu ((EV.int (i := 0)).run O _ m _ _ S fun v' h'' tk' K' r => ?_) S.kind hx hd)
  obtain ⟨t', rfl⟩ := r.int_inv
  have hA' : h''.IsList a #[.ref b, .int k t] := let ⟨o, q, r⟩ := hA; ⟨o, K' _ _ q, r⟩
  have hB' : IsL h'' b vs.toArray n := K' _ _ hB
  exact tail_any (s := { s with heap := h'', toks := tk' }) (Heap.IsList.typeIs hA') PySem.slot_list_getitem.lookup (wpAny_getItem_list hA' (by decide) (by decide) (x := .ref b) rfl (kk b vs _ _ K' (by simpa using hB'.isList) hi)) (hs _ _)
theorem EV.box1 {x : PySem.Str} {k' : Nat} {xp p pos : Pos} {a b : Addr} {xs : List Int} {k : Int} (hl : ρ.lookup x = some (.box a b xs k)) (hx : (C.env d).kindOf x = some .local) (hd : (x == ("__debug__" : PySem.Str)) = false)
    (hs : ∀ o i', subscripted (.Constant (.int 1) k' p) false o i' = operate [o, i'] (getItem o i')) : EV d C ρ (.Subscript (.Name x xp) (.Constant (.int 1) k' p) pos) (.int k) := by
  refine ⟨fun O s m Q E S kk => ?_⟩
  obtain ⟨u, hu, t, vs, n, rfl, ha, hb, hne, hA, hB, hi⟩ := S.loc x _ hl
  refine Subscript_ (ldF S.fr hu ((EV.int (i := 1)).run O _ m _ _ S fun v' h'' tk' K' r => ?_) S.kind hx hd)
  obtain ⟨t', rfl⟩ := r.int_inv
  have hA' : h''.IsList a #[.ref b, .int k t] := let ⟨o, q, r⟩ := hA; ⟨o, K' _ _ q, r⟩
  exact tail_any (s := { s with heap := h'', toks := tk' }) (Heap.IsList.typeIs hA') PySem.slot_list_getitem.lookup (wpAny_getItem_list hA' (by decide) (by decide) (x := .int k t) rfl (kk _ _ _ K' (.int _ _))) (hs _ _)

theorem ES.setBox {x : PySem.Str} {k' : Nat} {xp cp p pos : Pos} {e : Expr} {a b : Addr} {xs : List Int} {k v : Int} (hl : ρ.lookup x = some (.box a b xs k)) (h : EV d C ρ e (.int v))
    (hx : (C.env d).kindOf x = some .local) (hd : (x == ("__debug__" : PySem.Str)) = false) (hs : swapsWith e (some (.Subscript (.Name x xp) (.Constant (.int 1) k' cp) p)) pos.line (C.env d) = pure false) :
    ES d C ρ (.Assign [.Subscript (.Name x xp) (.Constant (.int 1) k' cp) p] e pos) ((x, .box a b xs v) :: ρ) := by
  refine ⟨fun O s m Q E S kk => ?_⟩
  obtain ⟨u, hu, t, vs, n, rfl, ha, hb, hne, hA, hB, hi⟩ := S.loc x _ hl
  refine wpAny_Assign_Subscript (h.run O s m _ _ S fun w h1 t1 K1 r1 => ldF (S.keep (s' := { s with heap := h1, toks := t1 }) K1).fr hu ((EV.int (i := 1)).run O _ m _ _ (S.keep (s' := { s with heap := h1, toks := t1 }) K1) fun w2 h2 t2 K2 r2 => ?_) S.kind hx hd) hs
  obtain ⟨tv, rfl⟩ := r1.int_inv
  obtain ⟨t', rfl⟩ := r2.int_inv
  have K : Keep s.heap h2 := K1.trans K2
  have S2 : St d C ρ O { s with heap := h2, toks := t2 } m := S.keep K
  have hA2 : h2.IsList a #[.ref b, .int k t] := let ⟨o, q, z⟩ := hA; ⟨o, K _ _ q, z⟩
  have hB2 : IsL h2 b vs.toArray n := K _ _ hB
  refine wpAny_setItem_list hA2 (by decide) (by decide) (by simp) fun h3 hA3 hs3 => ?_
  have hr : LRep C h3 O (.ref a) (.box a b xs v) := ⟨tv, vs, n, rfl, ha, hb, hne, by simpa using hA3, (hs3.2 b (Ne.symm hne)).trans hB2, hi⟩
  have P := S2.pokeK (W := [a]) (tk := t2) hl hu (fun c hc => by rw [List.mem_singleton.mp hc]; exact ha) (fun y l ne e o => box_only S2 hl y l ne e o)
    (fun c o nc e => (hs3.2 c (fun q => nc (q ▸ .head _))).trans e) (fun c hc => by
      rw [List.mem_singleton.mp hc]
      obtain ⟨o, q, _⟩ := hA3; rw [q]; exact fun z => nomatch z) hr
  exact kk O h3 t2 m P.1 ((Stay.keep K).trans P.2)

theorem EM.pop {x : PySem.Str} {k' k2 : Nat} {xp cp p ap c2 pos : Pos} {a b : Addr} {x0 : Int} {xs : List Int} {k : Int} {pl : Sem Bool} (hl : ρ.lookup x = some (.box a b (x0 :: xs) k)) (hx : (C.env d).kindOf x = some .local) (hd : (x == ("__debug__" : PySem.Str)) = false) (hz : xs.length ≤ 1000000)
    (hs : ∀ o i', subscripted (.Constant (.int 0) k' cp) false o i' = operate [o, i'] (getItem o i'))
    (hc : eval (.Call (.Attribute (.Subscript (.Name x xp) (.Constant (.int 0) k' cp) p) "pop" ap) [.Constant (.int 0) k2 c2] [] pos) (C.env d) = (do
      let ov ← eval (.Subscript (.Name x xp) (.Constant (.int 0) k' cp) p) (C.env d)
      standAt ap.atName
      let (f, first) ← holding [ov] (getMethod ov "pop" pl)
      callWith pos f first (backTo pos (starEach [.Constant (.int 0) k2 c2] (C.env d))) [])) :
    EM d C ρ (.Call (.Attribute (.Subscript (.Name x xp) (.Constant (.int 0) k' cp) p) "pop" ap) [.Constant (.int 0) k2 c2] [] pos) (.int x0) ((x, .box a b xs k) :: ρ) := by
  refine ⟨fun O s m Q E S kk => ?_⟩
  obtain ⟨u, hu, t, vs, n, rfl, ha, hb, hne, hA, hB, hi⟩ := S.loc x _ hl
  cases hi with
  | cons _ t0 hi' =>
  rename_i vs'
  have hlen := hi'.length
  refine MethodCall_ (Subscript_ (ldF S.fr hu ((EV.int (i := 0)).run O _ m _ _ S fun v' h1 t1 K1 r => ?_) S.kind hx hd)) hc
  obtain ⟨t', rfl⟩ := r.int_inv
  have hA1 : h1.IsList a #[.ref b, .int k t] := let ⟨o, q, r⟩ := hA; ⟨o, K1 _ _ q, r⟩
  have hB1 : IsL h1 b (Value.int x0 t0 :: vs').toArray n := K1 _ _ hB
  refine tail_any (s := { s with heap := h1, toks := t1 }) (Heap.IsList.typeIs hA1) PySem.slot_list_getitem.lookup (wpAny_getItem_list hA1 (by decide) (by decide) (x := .ref b) rfl ?_) (hs _ _)
  refine getMethod_list_of (s := { s with heap := h1, toks := t1 }) PySem.F.slot_list_pop PySem.F.type_list_pop hB1.isList ⟨_, hB1, rfl⟩ ?_
  have S1 : St d C ρ O { s with heap := h1, toks := t1 } m := S.keep K1
  refine callWith_method1 (args_cons ((EV.int (i := 0)).run O _ m _ _ S1 fun v2 h2 t2 K2 r2 => args_nil ?_) rfl) rfl
  obtain ⟨t3, rfl⟩ := r2.int_inv
  have hB2 : IsL h2 b (Value.int x0 t0 :: vs').toArray n := K2 _ _ hB1
  have hA2 : h2.IsList a #[.ref b, .int k t] := let ⟨o, q, r⟩ := hA1; ⟨o, K2 _ _ q, r⟩
  have S2 : St d C ρ O { s with heap := h2, toks := t2 } m := S1.keep K2
  refine call_meets (s := { s with heap := h2, toks := t2 }) PySem.F.slot_list_pop ⟨_, hB2, rfl⟩ PySem.F.entry_list_pop (PySem.F.args_list_pop_2 _ _) (PySem.MeetsSeq.list_pop_at b _ n 0 t3 0 (.int x0 t0) (by decide) (by simp [seqIndex?]) rfl (by rw [sizeLine_eq]; simp; omega)) ⟨hB2, ?_⟩
  have hB3 := IsL.update hB2 (fun xs => xs.eraseIdxIfInBounds 0)
  have e : (Value.int x0 t0 :: vs').toArray.eraseIdxIfInBounds 0 = vs'.toArray := by simp
  rw [e] at hB3
  have hsb := Heap.SameBut.update h2 b (Obj.mapSeq fun xs => xs.eraseIdxIfInBounds 0)
  have hr : LRep C (h2.update b (Obj.mapSeq fun xs => xs.eraseIdxIfInBounds 0)) O (.ref a) (.box a b xs k) :=
    ⟨t, vs', _, rfl, ha, hb, hne, (let ⟨o, q, z⟩ := hA2; ⟨o, (hsb.2 a hne).trans q, z⟩), hB3, hi'⟩
  have P := S2.pokeK (W := [b]) (tk := t2) hl hu (fun c hc => by rw [List.mem_singleton.mp hc]; exact hb) (fun y l ne e o => box_only S2 hl y l ne e o)
    (fun c o nc e => (hsb.2 c (fun q => nc (q ▸ .head _))).trans e) (fun c hc => by
      rw [List.mem_singleton.mp hc]
      have hB3' : Heap.get? _ b = some _ := hB3
      rw [hB3']; exact fun z => nomatch z) hr
  exact kk _ _ _ P.1 ((Stay.keep (K1.trans K2)).trans P.2) (.int _ _)

/-- a def that draws from the box -/
noncomputable def FNbox (T : Tp) (name : PySem.Str) (n : Nat) (xs : List Int) (k : Int) (Vs : List V) (xs' : List Int) (k' : Int) (x : V) : Prop :=
  (∃ d ∈ defs, d.name = name) ∧
  ∀ (A : Around) (s : Shared) (D : List Addr) (vs : List Value) (a b : Addr) (t : Tok) (ws : List Value) (nn : Nat) (fa : Addr) (Q E : Value → Shared → Prop), Keep T.hg s.heap → (∀ b ∈ D, T.hg.get? b = none ∧ s.heap.get? b ≠ none) →
    A.handled = none → A.depth + n < recursionLimit → A.units + 4 * n + 104 ≤ cLine → T.mg name = some (.ref fa) → a ∈ D → b ∈ D → a ≠ b → s.heap.IsList a #[.ref b, .int k t] → IsL s.heap b ws.toArray nn → IntsAre ws xs → Reps T.mg s.heap D vs Vs →
    (∀ v h' tk t' ws' nn', (∀ c o, c ≠ a → c ≠ b → s.heap.get? c = some o → h'.get? c = some o) → h'.IsList a #[.ref b, .int k' t'] → IsL h' b ws'.toArray nn' → IntsAre ws' xs' → Rep T.mg h' D v x → Q v { s with heap := h', toks := tk }) → wpAny (model T.prog T.w) A (call (.ref fa) (.ref a :: vs)) Q E s

theorem EM.callBox {f x : PySem.Str} {p px pos : Pos} {es : List Expr} {n : Nat} {a b : Addr} {xs xs' : List Int} {k k' : Int} {Vs : List V} {y : V} (hl : ρ.lookup x = some (.box a b xs k)) (h : EVs d C ρ es Vs) (hf : FNbox T f n xs k Vs xs' k' y) (hfx : (C.env d).kindOf f = some .globalImplicit) (hn : n < C.room)
    (hd : (f == ("__debug__" : PySem.Str)) = false) (hx : (C.env d).kindOf x = some .local) (hdx : (x == ("__debug__" : PySem.Str)) = false)
    (he : starEach (.Name x px :: es) (C.env d) = (false, eval (.Name x px) (C.env d)) :: starEach es (C.env d))
    (hc : eval (.Call (.Name f p) (.Name x px :: es) [] pos) (C.env d) = (do callWith pos (← eval (.Name f p) (C.env d)) [] (backTo pos (starEach (.Name x px :: es) (C.env d))) (backToKw pos (keywordEach [] (C.env d))))) :
    EM d C ρ (.Call (.Name f p) (.Name x px :: es) [] pos) y ((x, .box a b xs' k') :: ρ) := by
  refine ⟨fun O s m Q E S kk => ?_⟩
  obtain ⟨⟨d', hd', rfl⟩, hf⟩ := hf
  obtain ⟨fa, o, pm, code, doc, h1, h2, h3, h4⟩ := T.gd.fn d' hd'
  refine Call_ ((EV.glob (v := .fn d'.name) h1 (fun _ _ _ _ => .fn h1) hfx hd).run O s m _ _ S fun v h' tk K r => ?_) hc
  obtain ⟨fa', rfl, hm⟩ := r.fn_inv
  rw [h1] at hm
  cases hm
  have hr := C.rm
  have hu := C.un
  obtain ⟨u, hu', t, ws, nn, rfl, ha, hb, hne, hA, hB, hi⟩ := S.loc x _ hl
  have S1 : St d C ρ O { s with heap := h', toks := tk } m := S.keep K
  refine callWith_def h3 (args_cons (ldF S1.fr hu' (h.run O _ m pos _ _ S1 fun vs h₂ tk₂ K₂ r₂ => ?_) S.kind hx hdx) he) he
  have S2 : St d C ρ O { s with heap := h₂, toks := tk₂ } m := S1.keep K₂
  refine ⟨S2.hg _ _ h2, ?_⟩
  have hA2 : h₂.IsList a #[.ref b, .int k t] := let ⟨o, q, z⟩ := hA; ⟨o, K₂ _ _ (K _ _ q), z⟩
  have hB2 : IsL h₂ b ws.toArray nn := K₂ _ _ (K _ _ hB)
  refine hf C.A _ (C.hid O) vs a b t ws nn _ _ _ S2.hg S2.hidn C.hh (by omega) (by omega) h1 (mem_hid.mpr (.inr (.inl ha))) (mem_hid.mpr (.inr (.inl hb))) hne hA2 hB2 hi r₂ fun v h3 tk3 t' ws' nn' K3 hA3 hB3 hI3 r3 => ?_
  have P := S2.pokeK (W := [a, b]) (tk := tk3) (lv' := .box a b xs' k') hl hu' (fun c hc => by
      simp only [List.mem_cons, List.not_mem_nil, or_false] at hc
      rcases hc with rfl | rfl
      · exact ha
      · exact hb)
    (fun y l ne e o => box_only S2 hl y l ne e o)
    (fun c o nc e => by
      simp only [List.mem_cons, List.not_mem_nil, or_false, not_or] at nc
      exact K3 c o nc.1 nc.2 e) (fun c hc => by
      simp only [List.mem_cons, List.not_mem_nil, or_false] at hc
      rcases hc with rfl | rfl
      · obtain ⟨o, q, _⟩ := hA3; rw [q]; exact fun z => nomatch z
      · have hB3' : Heap.get? _ c = some _ := hB3
        rw [hB3']; exact fun z => nomatch z) ⟨t', ws', nn', rfl, ha, hb, hne, hA3, hB3, hI3⟩
  exact kk v h3 tk3 P.1 ((Stay.keep (K.trans K₂)).trans P.2) r3

noncomputable def RetBox (x0 : PySem.Str) (a b : Addr) (xs' : List Int) (k' : Int) (x : V) (o : Out) : Prop := ∃ ρ', o = .ret x ρ' ∧ ρ'.lookup x0 = some (.box a b xs' k')

theorem FNbox.of {n : Nat} {xs xs' : List Int} {k k' : Int} {Vs : List V} {x : V} (x0 : PySem.Str) (names : List PySem.Str) (hd : d ∈ defs)
    (hb : ∀ pm code doc (vs : List Value), vs.length = Vs.length + 1 → bindArgs (docDef d.name d.params d.body d.scope pm code doc) ⟨vs, []⟩ = pure ((x0 :: names).zip vs))
    (hl : names.length = Vs.length) (hnd : (x0 :: names).Nodup) (hloc : ∀ y ∈ x0 :: names, d.scope.names.lookup y = some .local) (hcell : ∀ y ∈ d.scope.names, y.2 ≠ .cell)
    (hco : d.scope.isCoroutine = false) (hgen : d.scope.isGenerator = false) (hk : d.scope.kind = .function)
    (hbody : ∀ (C : Cx T) (a b : Addr), C.room = n → EX d C ((x0, .box a b xs k) :: names.zip (Vs.map LV.val)) d.body (RetBox x0 a b xs' k' x)) : FNbox T d.name n xs k Vs xs' k' x := by
  refine ⟨⟨d, hd, rfl⟩, ?_⟩
  intro A s D vs a0 b0 t0 ws nn a Q E hK hD hh hdep hun hm ha0 hb0' hne0 hA hB hwi hr kk
  obtain ⟨a', o, pm, code, doc, h1, h2, h3, h4⟩ := T.gd.fn d hd
  rw [h1] at hm
  cases hm
  have hlen : vs.length = Vs.length := hr.length
  have hfst : ((x0 :: names).zip (Value.ref a0 :: vs)).map (·.1) = x0 :: names := by
    rw [List.map_fst_zip]; simp; omega
  refine wpAny_call (codeAny_call_def (fd := docDef d.name d.params d.body d.scope pm code doc) (body := d.body) (binds := (x0 :: names).zip (Value.ref a0 :: vs)) (by omega) (hK _ _ h2) h3 (T.gd.lim.keeps hK) (h4.keeps hK) rfl (BindsTo.of_eq (hb pm code doc (Value.ref a0 :: vs) (by simp; omega))) hcell
    (fun y hy => hloc y.1 (by rw [← hfst]; exact List.mem_map_of_mem hy)) (fun h₀ hns hk₀ => ?_) hco hgen hk)
  have hdl : ∀ env : Env, (A.deeper env).depth = A.depth + 1 := fun _ => rfl
  have hul : ∀ env : Env, (A.deeper env).units = A.units + 3 := fun _ => rfl
  let hb0 : Heap := (s.heap.update a0 fun o => { o with data := .freed }).update b0 fun o => { o with data := .freed }
  have gb : ∀ c, hb0.get? c = if c = b0 then none else if c = a0 then none else s.heap.get? c := fun c => by
    show ((s.heap.update a0 fun o => { o with data := .freed }).update b0 fun o => { o with data := .freed }).get? c = _
    rw [get?_hide, get?_hide]
  have gb' : ∀ c o, hb0.get? c = some o → c ≠ a0 ∧ c ≠ b0 ∧ s.heap.get? c = some o := fun c o e => by
    rw [gb] at e
    split at e
    · cases e
    · split at e
      · cases e
      · exact ⟨by assumption, by assumption, e⟩
  have up : ∀ c o, c ≠ a0 → c ≠ b0 → s.heap.get? c = some o → hb0.get? c = some o := fun c o n1 n2 e => by rw [gb, if_neg n2, if_neg n1]; exact e
  have a0lt : a0 < s.heap.objs.size := by obtain ⟨o, q, _⟩ := hA; exact Heap.lt_size q
  have b0lt : b0 < s.heap.objs.size := Heap.lt_size (show s.heap.get? b0 = some _ from hB)
  let C : Cx T := { A := A.deeper (callEnv (docDef d.name d.params d.body d.scope pm code doc) s.heap.objs.size a), hb := hb0, L := s.heap.objs.size, D := D.filter (fun c => decide (c ≠ a0 ∧ c ≠ b0)), fa := a, cd := code, room := n, hh := hh, hle := fun c o e => up c o (fun q => by rw [q, (hD a0 ha0).1] at e; cases e) (fun q => by rw [q, (hD b0 hb0').1] at e; cases e) (hK c o e), hD := fun c hc => (hD c (List.mem_filter.mp hc).1).1, rm := by rw [hdl]; omega, un := by rw [hul]; omega }
  have hns' : h₀.Ns s.heap.objs.size (fun y => ((x0 :: names).zip (Value.ref a0 :: vs)).lookup y) := by
    have := hns
    simp only [lookup_reverse_nodup (l := (x0 :: names).zip (Value.ref a0 :: vs)) (by rw [hfst]; exact hnd)] at this
    exact this
  have inD : ∀ c, c ∈ D → c ≠ a0 → c ≠ b0 → c ∈ D.filter (fun c => decide (c ≠ a0 ∧ c ≠ b0)) := fun c h1 h2 h3 => List.mem_filter.mpr ⟨h1, decide_eq_true ⟨h2, h3⟩⟩
  have S : St d C ((x0, .box a0 b0 xs k) :: names.zip (Vs.map LV.val)) ⟨[a0, b0], []⟩ { s with heap := h₀, toks := s.toks + ((x0 :: names).zip (Value.ref a0 :: vs)).length } (fun y => ((x0 :: names).zip (Value.ref a0 :: vs)).lookup y) := by
    have hE : Ext s.heap D h₀ (C.hid ⟨[a0, b0], []⟩) := fun c o nb e => by
      refine ⟨fun q => ?_, hk₀ c o e⟩
      rcases mem_hid.mp q with q | q | q | q
      · exact absurd (Heap.lt_size e) (by rw [show c = s.heap.objs.size from q]; exact Nat.lt_irrefl _)
      · have q' : c ∈ [a0, b0] := q
        simp only [List.mem_cons, List.not_mem_nil, or_false] at q'
        rcases q' with rfl | rfl
        · exact nb ha0
        · exact nb hb0'
      · cases q
      · exact nb (List.mem_filter.mp q).1
    have look : ∀ y lv, ((x0, LV.box a0 b0 xs k) :: names.zip (Vs.map LV.val)).lookup y = some lv → (y = x0 ∧ lv = .box a0 b0 xs k) ∨ (y ≠ x0 ∧ ∃ v V, (names.zip vs).lookup y = some v ∧ lv = .val V ∧ Rep T.mg s.heap D v V) := fun y lv e => by
      rcases lookup_cons_cases e with ⟨rfl, rfl⟩ | ⟨ne, e⟩
      · exact .inl ⟨rfl, rfl⟩
      · obtain ⟨v, V, q1, q2, q3⟩ := zip_lookup_reps hr y lv e
        exact .inr ⟨ne, v, V, q1, q2, q3⟩
    refine ⟨hk, ⟨hns', fun c o e => hk₀ c o (gb' c o e).2.2, by show hb0.get? s.heap.objs.size = none; rw [gb]; split; rfl; split; rfl; exact get_size _⟩, fun y lv e => ?_, fun y z lv lv' ne e e' ho ho' => ?_, fun c hc => ?_, fun c hc => ?_, fun c hc => ?_⟩
    · rcases look y lv e with ⟨rfl, rfl⟩ | ⟨ne, v, V, q1, rfl, q3⟩
      · refine ⟨.ref a0, by simp [List.lookup_cons], t0, ws, nn, rfl, .head _, .tail _ (.head _), hne0, ?_, hk₀ _ _ hB, hwi⟩
        obtain ⟨o, q, z⟩ := hA; exact ⟨o, hk₀ _ _ q, z⟩
      · refine ⟨v, ?_, Rep.mono hE q3⟩
        rw [List.zip_cons_cons, List.lookup_cons, show (y == x0) = false from beq_eq_false_iff_ne.mpr ne]
        exact q1
    · rcases look y lv e with ⟨rfl, rfl⟩ | ⟨_, v, V, q1, rfl, q3⟩
      · rcases look z lv' e' with ⟨rfl, rfl⟩ | ⟨_, v, V, q1, rfl, q3⟩
        · exact absurd rfl ne
        · cases ho'
      · cases ho
    · rcases hc with hc | hc
      · have hc' : c ∈ [a0, b0] := hc
        simp only [List.mem_cons, List.not_mem_nil, or_false] at hc'
        have dead : hb0.get? c = none := by rw [gb]; rcases hc' with rfl | rfl; split; rfl; rw [if_pos rfl]; rw [if_pos rfl]
        have clt : c < s.heap.objs.size := by rcases hc' with rfl | rfl; exact a0lt; exact b0lt
        refine ⟨dead, fun q => ?_, fun q => ?_⟩
        · rw [show c = s.heap.objs.size from q] at clt; exact absurd clt (Nat.lt_irrefl _)
        · have := of_decide_eq_true (List.mem_filter.mp q).2
          rcases hc' with rfl | rfl
          · exact this.1 rfl
          · exact this.2 rfl
      · cases hc
    · exact fun z => nomatch z
    · show h₀.get? c ≠ none
      rcases mem_hid.mp hc with q | q | q | q
      · obtain ⟨o', es, ep, e, _⟩ := hns'
        rw [show c = s.heap.objs.size from q, e]; exact fun z => nomatch z
      · have q' : c ∈ [a0, b0] := q
        simp only [List.mem_cons, List.not_mem_nil, or_false] at q'
        rcases q' with rfl | rfl
        · exact Keep.live hk₀ (hD _ ha0).2
        · exact Keep.live hk₀ (hD _ hb0').2
      · cases q
      · exact Keep.live hk₀ (hD c (List.mem_filter.mp q).1).2
  refine (hbody C a0 b0 rfl).run ⟨[a0, b0], []⟩ _ _ _ _ S fun f ou O' h' tk hΦ ho y => ?_
  obtain ⟨ρ', rfl, hpin⟩ := hΦ
  obtain ⟨v, m', rfl, r, S'⟩ := ho
  obtain ⟨u, hu, t', ws', nn', _, hoa, hob, _, hA', hB', hi'⟩ := S'.loc x0 _ hpin
  refine kk v h' tk t' ws' nn' (fun c o n1 n2 e => S'.fr.keep c o (up c o n1 n2 e)) hA' hB' hi' (r.mono fun c o nb e => ⟨fun q => nb ?_, e⟩)
  by_cases qa : c = a0
  · rw [qa]; exact mem_hid.mpr (.inr (.inl hoa))
  · by_cases qb : c = b0
    · rw [qb]; exact mem_hid.mpr (.inr (.inl hob))
    · exact mem_hid.mpr (.inr (.inr (.inr (inD c q qa qb))))
end Mine
namespace Mine
variable {T : Tp} {d : DefRec} {C : Cx T} {ρ : Loc}
theorem EX.retM {e : Expr} {pos : Pos} {rest : List Stmt} {v : V} {ρ' : Loc} {Φ : Out → Prop} (h : EM d C ρ e v ρ') (hΦ : Φ (.ret v ρ')) : EX d C ρ (.Return (some e) pos :: rest) Φ := by
  refine ⟨fun O s m Q E S k => ?_⟩
  refine wpAny_execs_cons (wpAny_Return_some (h.run O s m _ _ S fun u h' tk S' y r => ?_))
  exact k _ _ O h' tk hΦ ⟨u, m, rfl, r, S'⟩ y
theorem EM.to {e : Expr} {x y : V} {ρ' : Loc} (h : EM d C ρ e x ρ') (q : x = y) : EM d C ρ e y ρ' := q ▸ h
end Mine
namespace Mine
variable {T : Tp} {d : DefRec} {C : Cx T} {ρ : Loc}

/-- a block that ends in this exception -/
structure EXe (d : DefRec) (C : Cx T) (ρ : Loc) (ss : List Stmt) (Cc : Addr) : Prop where
  mk ::
  run : ∀ O s m (Q : Flow → Shared → Prop) (E : Value → Shared → Prop), St d C ρ O s m →
    (∀ h1 h' tk m1 e vs, Frm C.hb C.L h1 m1 → Heap.MadeExcOf h1 h' e (.ref Cc) vs → E (.ref e) { s with heap := h', toks := tk }) →
    wpAny (model T.prog T.w) C.A (execs ss (C.env d)) Q E s
theorem EXe.iteF {t : Expr} {body : List Stmt} {pos : Pos} {rest : List Stmt} {b : Bool} {Cc : Addr} (ht : ET d C ρ t b) (hb : b = false) (h : EXe d C ρ rest Cc) : EXe d C ρ (.If t body [] pos :: rest) Cc := by
  subst hb
  refine ⟨fun O s m Q E S k => ?_⟩
  refine wpAny_execs_cons (wpAny_If (ht.run O s m _ _ S fun h' tk K => ?_))
  simp only [Bool.false_eq_true, if_false]
  exact wpAny_execs_nil (h.run O _ m _ _ (S.keep K) k)
theorem EXe.tupR {elts : List Expr} {n : Nat} {tp pos : Pos} {e : Expr} {xs : List PySem.Str} {P : V → Prop} {rest : List Stmt} {Cc : Addr} (hx : tnames elts = some xs) (hw : swappedStores [.Tuple elts n tp] e (C.env d) = pure none) (h : EVr d C ρ e P) (hl : locs d xs = true)
    (hs : swapsWithSole [.Tuple elts n tp] e pos.line (C.env d) = pure false)
    (hr : ∀ v, P v → ∃ Vs, v = .tup Vs ∧ xs.length = Vs.length ∧ EXe d C (push ρ xs Vs) rest Cc) : EXe d C ρ (.Assign [.Tuple elts n tp] e pos :: rest) Cc := by
  have t := Tgts.of (C := C) hx (locs_of hl)
  refine ⟨fun O s m Q E S k => ?_⟩
  refine wpAny_execs_cons (Assign_Tuple (h.run O s m _ _ S fun v u h' tk hp K r => ?_) hs hw)
  obtain ⟨Vs, rfl, hn, hE⟩ := hr v hp
  obtain ⟨a, vs, rfl, _, htp, hr'⟩ := r.tup_inv
  refine wpAny_assign_Tuple C.hh htp (by simp [t.2.1, hn, hr'.length]) t.2.2 fun h2 he => ?_
  have K2 : Keep s.heap h2 := K.trans (keep_extBut he)
  refine St.storeAll0 (S.keep (s' := { s with heap := h2, toks := tk }) K2) t.1 hn (hr'.mono (Ext.keep (keep_extBut he))) fun h3 tk3 m3 S3 y3 => ?_
  exact hE.run O _ _ _ _ S3 k
theorem EXe.raise {t : Expr} {np cpos rp pos : Pos} {e₀ : Expr} {orelse rest : List Stmt} {b : Bool} {x0 : V} {Cc : Addr} {bm : List Value} {newId initId B : String} (ht : ET d C ρ t b) (hb : b = true) (he : EV d C ρ e₀ x0)
    (ho : OwnClsQ "NoInverse" Cc bm newId T.mg T.hg) (hf : ExcBaseFacts B newId initId bm) (hcl : C.cl = [])
    (hst : starEach [e₀] (C.env d) = (false, eval e₀ (C.env d)) :: starEach [] (C.env d)) (hx : (C.env d).kindOf "NoInverse" = some .globalImplicit) :
    EXe d C ρ (.If t [.Raise (some (.Call (.Name "NoInverse" np) [e₀] [] cpos)) none rp] orelse pos :: rest) Cc := by
  subst hb
  refine ⟨fun O s m Q E S k => ?_⟩
  have henv : C.env d = envOf d.name d.scope C.L C.fa C.cd := by
    show ({ envOf d.name d.scope C.L C.fa C.cd with cells := C.cl } : Env) = _
    rw [hcl]; rfl
  refine wpAny_execs_cons (wpAny_If (ht.run O s m _ _ S fun h' tk K => ?_))
  simp only [if_true]
  have S1 : St d C ρ O { s with heap := h', toks := tk } m := S.keep K
  have Fb : Fr T.hg (T.hg.objs.size) h' m → True := fun _ => trivial
  obtain ⟨tl, N, nm, q, bs, hdct, sn, sub, ab, col, dd, k0, k1, k2, k3, k5, mN, hC, hN, hni, TT⟩ := ho.own.obj
  refine wpAny_execs_cons ?_
  refine wpAny_Raise_call_subT (C := Cc) (nm := nm) (q := q) (N := N) (bs := bs) (bm := tl) (hdct := hdct) (sn := sn) (sub := sub) (ab := ab) (col := col) (dd := dd) (k0 := k0) (k1 := k1) (k2 := k2) (k3 := k3) (k5 := k5)
    hf (mN := mN) (TT.hasType hf.hasBase) C.hh (by rw [hst]; rfl) hni (Name_function_global S.kind hx (loadGlobal_global (env := C.env d) (T.gd.g.keeps S1.hg) ho.bound ⟨rfl, ?_⟩) (by decide))
  rw [hst]
  refine Calls.evalArgs_plain ?_
  show wpAny _ _ (spliced (backTo cpos ((false, eval e₀ (C.env d)) :: starEach [] (C.env d)))) _ _ _
  rw [← hst]
  refine args_cons (he.run O _ m _ _ S1 fun v h2 t2 K2 r => args_nil ?_) hst
  have S2 : St d C ρ O { s with heap := h2, toks := t2 } m := S1.keep K2
  exact ⟨rfl, (by rw [sizeLine_eq]; exact (by decide : (1 : Nat) ≤ 16777216)), S2.hg _ _ hC, hN.keeps S2.hg, TT.keeps S2.hg, fun h3 e3 hx3 => k h2 h3 t2 m e3 _ S2.fr hx3⟩

/-- a call that ends in the exception -/
noncomputable def FNe (T : Tp) (name : PySem.Str) (n : Nat) (Vs : List V) (Cc : Addr) : Prop :=
  (∃ d ∈ defs, d.name = name) ∧
  ∀ (A : Around) (s : Shared) (vs : List Value) (a : Addr) (base : Heap) (outer : List Env) (Q E : Value → Shared → Prop), Keep T.hg s.heap → Below A base outer s.heap →
    A.handled = none → A.depth + n < recursionLimit → A.units + 4 * n + 104 ≤ cLine → T.mg name = some (.ref a) → Reps T.mg s.heap [] vs Vs →
    (∀ e t h' tk, Heap.FlyingW base outer e (.ref Cc) (.ref t) h' → s.heap.UpToSlots h' → E (.ref e) { s with heap := h', toks := tk }) → wpAny (model T.prog T.w) A (call (.ref a) vs) Q E s

theorem FNe.of {n : Nat} {Vs : List V} {Cc : Addr} (names : List PySem.Str) (hd : d ∈ defs)
    (hb : ∀ pm code doc (vs : List Value), vs.length = Vs.length → bindArgs (docDef d.name d.params d.body d.scope pm code doc) ⟨vs, []⟩ = pure (names.zip vs))
    (hl : names.length = Vs.length) (hnd : names.Nodup) (hloc : ∀ y ∈ names, d.scope.names.lookup y = some .local) (hcell : ∀ y ∈ d.scope.names, y.2 ≠ .cell)
    (hco : d.scope.isCoroutine = false) (hgen : d.scope.isGenerator = false) (hk : d.scope.kind = .function)
    (hbody : ∀ C : Cx T, C.room = n → C.cl = [] → EXe d C (names.zip (Vs.map LV.val)) d.body Cc) : FNe T d.name n Vs Cc := by
  refine ⟨⟨d, hd, rfl⟩, ?_⟩
  intro A s vs a base outer Q E hK KB hh hdep hun hm hr k
  obtain ⟨a', o, pm, code, doc, h1, h2, h3, h4⟩ := T.gd.fn d hd
  rw [h1] at hm
  cases hm
  have hlen : vs.length = Vs.length := hr.length
  have hfst : (names.zip vs).map (·.1) = names := by
    rw [List.map_fst_zip]; omega
  refine wpAny_call (codeAny_call_def (fd := docDef d.name d.params d.body d.scope pm code doc) (body := d.body) (binds := names.zip vs) (by omega) (hK _ _ h2) h3 (T.gd.lim.keeps hK) (h4.keeps hK) rfl (BindsTo.of_eq (hb pm code doc vs hlen)) hcell
    (fun y hy => hloc y.1 (by rw [← hfst]; exact List.mem_map_of_mem hy)) (fun h₀ hns hk₀ => ?_) hco hgen hk)
  have hdl : ∀ env : Env, (A.deeper env).depth = A.depth + 1 := fun _ => rfl
  have hul : ∀ env : Env, (A.deeper env).units = A.units + 3 := fun _ => rfl
  let C : Cx T := { A := A.deeper (callEnv (docDef d.name d.params d.body d.scope pm code doc) s.heap.objs.size a), hb := s.heap, L := s.heap.objs.size, D := [], fa := a, cd := code, room := n, hh := hh, hle := hK, hD := fun b hb => (by cases hb), rm := by rw [hdl]; omega, un := by rw [hul]; omega }
  have hns' : h₀.Ns s.heap.objs.size (fun y => (names.zip vs).lookup y) := by
    have := hns
    simp only [lookup_reverse_nodup (l := names.zip vs) (by rw [hfst]; exact hnd)] at this
    exact this
  have S : St d C (names.zip (Vs.map LV.val)) ⟨[], []⟩ { s with heap := h₀, toks := s.toks + (names.zip vs).length } (fun y => (names.zip vs).lookup y) := by
    have hE : Ext s.heap [] h₀ (C.hid ⟨[], []⟩) := fun b o nb e => by
      refine ⟨fun q => ?_, hk₀ b o e⟩
      rcases mem_hid.mp q with q | q | q | q
      · exact absurd (Heap.lt_size e) (by rw [show b = s.heap.objs.size from q]; exact Nat.lt_irrefl _)
      · cases q
      · cases q
      · cases q
    refine ⟨hk, ⟨hns', hk₀, get_size _⟩, fun y lv e => ?_, fun y z lv lv' ne e e' ho => ?_, fun b hb => ?_, fun b hb => ?_, fun b hb => ?_⟩
    · obtain ⟨v, V, q1, rfl, q3⟩ := zip_lookup_reps hr y lv e
      exact ⟨v, q1, Rep.mono hE q3⟩
    · obtain ⟨v, V, q1, rfl, q3⟩ := zip_lookup_reps hr y lv e
      cases ho
    · rcases hb with hb | hb <;> cases hb
    · cases hb
    · show h₀.get? b ≠ none
      rcases mem_hid.mp hb with q | q | q | q
      · obtain ⟨o', es, ep, e, _⟩ := hns'
        rw [show b = s.heap.objs.size from q, e]; exact fun z => nomatch z
      · cases q
      · cases q
      · cases q
  refine (hbody C rfl rfl).run ⟨[], []⟩ _ _ _ _ S fun h1 h' tk m1 e xs F hx => ?_
  exact leave_madeW (name := d.name) (scope := d.scope) (L := s.heap.objs.size) (a := a) (cd := code) (m := m1) (h := h1) KB hx ⟨F.ns, F.keep, Nat.le_refl _⟩ (fun h2 t x1 x2 x3 x4 => k e t h2 tk x1 x4) hk

/-- a call after which the caller's frame object may have been made -/
noncomputable def FNx (T : Tp) (name : PySem.Str) (n : Nat) (Vs : List V) (x : V) : Prop :=
  (∃ d ∈ defs, d.name = name) ∧
  ∀ (A : Around) (s : Shared) (vs : List Value) (a L0 : Addr) (env0 : Env) (m0 : PySem.Str → Option Value) (Q E : Value → Shared → Prop), Keep T.hg s.heap → A.frames = some [env0] → env0.scope.kind ≠ .module → env0.frame = some L0 → s.heap.Ns L0 m0 → T.hg.get? L0 = none →
    A.handled = none → A.depth + n < recursionLimit → A.units + 4 * n + 104 ≤ cLine → T.mg name = some (.ref a) → Reps T.mg s.heap [] vs Vs →
    (∀ v h' tk, (∀ b o, b ≠ L0 → s.heap.get? b = some o → h'.get? b = some o) → h'.Ns L0 m0 → Rep T.mg h' [] v x → Q v { s with heap := h', toks := tk }) → wpAny (model T.prog T.w) A (call (.ref a) vs) Q E s
theorem FN.toX {name : PySem.Str} {n : Nat} {Vs : List V} {x : V} (h : FN T name n Vs x) : FNx T name n Vs x :=
  ⟨h.1, fun A s vs a L0 env0 m0 Q E hK _ _ _ hns _ hh h4 h5 h6 h7 k => h.2 A s [] vs a Q E hK (fun _ hb => by cases hb) hh h4 h5 h6 h7 fun v h' tk K r => k v h' tk (fun b o _ e => K b o e) (hns.keeps K) r⟩
theorem St.upL {O : Own} {s : Shared} {m : PySem.Str → Option Value} {h' : Heap} {tk : Nat} (S : St d C ρ O s m) (k : ∀ b o, b ≠ C.L → s.heap.get? b = some o → h'.get? b = some o) (hn : h'.Ns C.L m) : St d C ρ O { s with heap := h', toks := tk } m ∧ Stay C s.heap O h' O := by
  have hE : Ext s.heap (C.hid O) h' (C.hid O) := fun b o n e => ⟨n, k b o (fun q => n (q ▸ St.Lhid)) e⟩
  refine ⟨⟨S.kind, ⟨hn, fun b o e => k b o (fun q => by rw [q, S.fr.new] at e; cases e) (S.fr.keep b o e), S.fr.new⟩, fun y l e => ?_, S.dst, S.fresh, S.apart, fun b hb => ?_⟩, fun b o n e => ⟨n, k b o (fun q => n (q ▸ .head _)) e⟩, rfl⟩
  · obtain ⟨u, hu, r⟩ := S.loc y l e
    exact ⟨u, hu, r.move hE (fun _ h => h) fun b hb o q => k b o (fun z => (S.fresh b (.inl hb)).2.1 z) q⟩
  · show h'.get? b ≠ none
    by_cases q : b = C.L
    · obtain ⟨o, _, _, ho, _⟩ := hn
      rw [q, ho]; exact fun z => nomatch z
    · have := S.dlt b hb
      cases z : s.heap.get? b with
      | none => exact absurd z this
      | some o => rw [k b o q z]; exact fun z => nomatch z
theorem reps_nil {mg : GM} {h : Heap} {H : List Addr} : ∀ {vs : List Value} {xs : List V}, Reps mg h H vs xs → Reps mg h [] vs xs := fun r => r.mono fun b o _ e => ⟨fun q => (by cases q), e⟩
theorem EM.callX {x : PySem.Str} {p pos : Pos} {e : Expr} {es : List Expr} {n : Nat} {Vs : List V} {i : Bool} {ρ' : Loc} (hfr : C.A.frames = some [C.env d]) (h : EMs d C ρ (e :: es) Vs ρ') (hf : FNx T x n Vs (.bool i)) (hx : (C.env d).kindOf x = some .globalImplicit) (hn : n < C.room)
    (hd : (x == ("__debug__" : PySem.Str)) = false) (he : starEach (e :: es) (C.env d) = (false, eval e (C.env d)) :: starEach es (C.env d))
    (hc : eval (.Call (.Name x p) (e :: es) [] pos) (C.env d) = (do callWith pos (← eval (.Name x p) (C.env d)) [] (backTo pos (starEach (e :: es) (C.env d))) (backToKw pos (keywordEach [] (C.env d))))) : EM d C ρ (.Call (.Name x p) (e :: es) [] pos) (.bool i) ρ' := by
  refine ⟨fun O s m Q E S k => ?_⟩
  obtain ⟨⟨d', hd', rfl⟩, hf⟩ := hf
  obtain ⟨a, o, pm, code, doc, h1, h2, h3, h4⟩ := T.gd.fn d' hd'
  refine Call_ ((EV.glob (v := .fn d'.name) h1 (fun _ _ _ _ => .fn h1) hx hd).run O s m _ _ S fun v h' tk K r => ?_) hc
  obtain ⟨a', rfl, hm⟩ := r.fn_inv
  rw [h1] at hm
  cases hm
  have hr := C.rm
  have hu := C.un
  refine callWith_def h3 (h.run O _ m pos _ _ (S.keep K) fun vs h₂ tk₂ S₂ y₂ r₂ => ⟨S₂.hg _ _ h2, ?_⟩) he
  refine hf C.A _ vs a C.L (C.env d) m _ _ S₂.hg hfr (by show d.scope.kind ≠ .module; rw [S.kind]; decide) rfl S₂.fr.ns (S₂.hidn C.L St.Lhid).1 C.hh (by omega) (by omega) h1 (reps_nil r₂) fun v h3 tk3 K3 n3 r3 => ?_
  obtain rfl := r3.bool_inv
  have U := S₂.upL (h' := h3) (tk := tk3) K3 n3
  exact k _ _ _ U.1 (((Stay.keep K).trans y₂).trans U.2) (.bool _)
end Mine
namespace Mine
variable {T : Tp} {d : DefRec} {C : Cx T} {ρ : Loc}
theorem EX.tryAssignR {x : PySem.Str} {p apos pos : Pos} {e : Expr} {h₀ : ExceptHandler} {hs : List ExceptHandler} {P : V → Prop} {rest : List Stmt} {Φ : Out → Prop} (h : EVr d C ρ e P) (hx : (C.env d).kindOf x = some .local) (hsw : swapsWith e (some (.Name x p)) apos.line (C.env d) = pure false)
    (hr : ∀ v, P v → EX d C ((x, .val v) :: ρ) rest Φ) : EX d C ρ (.Try [.Assign [.Name x p] e apos] (h₀ :: hs) [] [] pos :: rest) Φ := by
  refine ⟨fun O s m Q E S k => ?_⟩
  refine wpAny_execs_cons (wpAny_Try_except (wpAny_execs_cons (wpAny_Assign_Name (h.run O s m _ _ S fun v u h' tk hp K r => ?_) hsw)))
  refine (S.keep (s' := { s with heap := h', toks := tk }) K).store r hx fun h2 tk2 _ S' y => ?_
  refine wpAny_execs_nil (wpAny_execs_nil ?_)
  exact (hr v hp).run O _ _ _ _ S' fun f o O'' h3 tk3 hΦ ho y3 => k f o O'' h3 tk3 hΦ ho (((Stay.keep K).trans y).trans y3)
theorem FNr.room' {name : PySem.Str} {n n' : Nat} {Vs : List V} {P : V → Prop} (h : FNr T name n Vs P) (hn : n ≤ n') : FNr T name n' Vs P := h.room hn
/-- the frame was left and come back to -/
theorem St.land {s : Shared} {m : PySem.Str → Option Value} {h' : Heap} {tk : Nat} (S : St d C ρ ⟨[], []⟩ s m) (k : ∀ b o, b ∉ C.hid ⟨[], []⟩ → s.heap.get? b = some o → h'.get? b = some o) (up : s.heap.UpToSlots h')
    (hD : ∀ b ∈ C.D, C.hb.get? b = none ∧ h'.get? b ≠ none) : St d C ρ ⟨[], []⟩ { s with heap := h', toks := tk } m := by
  have hE : Ext s.heap (C.hid ⟨[], []⟩) h' (C.hid ⟨[], []⟩) := fun b o n e => ⟨n, k b o n e⟩
  have hn : h'.Ns C.L m := up.ns S.fr.ns
  refine ⟨S.kind, ⟨hn, fun b o e => k b o (fun q => ?_) (S.fr.keep b o e), S.fr.new⟩, fun y l e => ?_, S.dst, S.fresh, S.apart, fun b hb => ?_⟩
  · rcases mem_hid.mp q with q | q | q | q
    · rw [q, S.fr.new] at e; cases e
    · cases q
    · cases q
    · rw [(hD b q).1] at e; cases e
  · obtain ⟨u, hu, r⟩ := S.loc y l e
    exact ⟨u, hu, r.move hE (fun _ h => h) fun b hb => by cases hb⟩
  · show h'.get? b ≠ none
    rcases mem_hid.mp hb with q | q | q | q
    · obtain ⟨o, _, _, ho, _⟩ := hn
      rw [q, ho]; exact fun z => nomatch z
    · cases q
    · cases q
    · exact (hD b q).2
end Mine
namespace Mine
variable {T : Tp} {d : DefRec} {C : Cx T} {ρ : Loc}

theorem EV.intI {e : Expr} {p pos : Pos} {a : Int} (h : EV d C ρ e (.int a)) (hx : (C.env d).kindOf "int" = some .globalImplicit)
    (he : starEach [e] (C.env d) = (false, eval e (C.env d)) :: starEach [] (C.env d))
    (hc : eval (.Call (.Name "int" p) [e] [] pos) (C.env d) = (do callWith pos (← eval (.Name "int" p) (C.env d)) [] (backTo pos (starEach [e] (C.env d))) (backToKw pos (keywordEach [] (C.env d))))) : EV d C ρ (.Call (.Name "int" p) [e] [] pos) (.int a) := by
  refine ⟨fun O s m Q E S k => ?_⟩
  refine Call_ (ldb S (by decide) PyProof.Rows.boot_int hx (PyProof.Rows.callWith_type1 (args_cons (h.run O s m _ _ S fun v h' tk K r => args_nil ?_) he) he)) hc
  obtain ⟨t, rfl⟩ := r.int_inv
  exact call_int_int (k _ _ _ K (.int _ _))

/-- a box's name gives its address -/
theorem EV.boxName {x : PySem.Str} {pos : Pos} {a b : Addr} {xs : List Int} {k : Int} (hl : ρ.lookup x = some (.box a b xs k)) (hx : (C.env d).kindOf x = some .local) (hd : (x == ("__debug__" : PySem.Str)) = false) : EV d C ρ (.Name x pos) (.adr a) := by
  refine ⟨fun O s m Q E S kk => ?_⟩
  obtain ⟨u, hu, t, vs, n, rfl, _⟩ := S.loc x _ hl
  exact ldF S.fr hu (kk _ s.heap s.toks (Keep.refl _) (.adr a)) S.kind hx hd

/-- a local name is bound to a new box -/
theorem St.storeBox {O : Own} {s : Shared} {m : PySem.Str → Option Value} {x : PySem.Str} {a b : Addr} {xs : List Int} {k0 : Int} {Q : Unit → Shared → Prop} {E : Value → Shared → Prop} (S : St d C ρ O s m)
    (hr : LRep C s.heap O (.ref a) (.box a b xs k0)) (hno : ∀ y l, ρ.lookup y = some l → l.isOwn = false) (hx : (C.env d).kindOf x = some .local)
    (k : ∀ h' tk m', St d C ((x, .box a b xs k0) :: ρ) O { s with heap := h', toks := tk } m' → Stay C s.heap O h' O → Q () { s with heap := h', toks := tk }) :
    wpAny (model T.prog T.w) C.A (storeName (C.env d) x (.ref a)) Q E s := by
  refine wpAny_storeName_local hx S.fr.ns (fun h' hn hs => ?_) (by show (d.scope.kind == .class || (d.scope.kind == .module && C.L != mainGlobals)) = false; rw [S.kind]; rfl)
  have hn' : h'.Ns C.L (fun y => if y = x then some (.ref a) else m y) := hn
  have hs' : Heap.SameBut C.L s.heap h' := hs
  have hget : ∀ b o, b ≠ C.L → s.heap.get? b = some o → h'.get? b = some o := fun b o ne e => (hs'.2 b ne).trans e
  have hE : Ext s.heap (C.hid O) h' (C.hid O) := fun b o n e => ⟨n, hget b o (fun q => n (q ▸ St.Lhid)) e⟩
  have hO : ∀ b ∈ O.o, ∀ o, s.heap.get? b = some o → h'.get? b = some o := fun b hb o e => hget b o (S.fresh b (.inl hb)).2.1 e
  refine k h' _ _ ⟨S.kind, S.fr.set hn' hs', fun y l e => ?_, fun y z l l' ne e e' o o' => ?_, S.fresh, S.apart, fun b hb => ?_⟩ ⟨fun b o n e => ⟨n, hget b o (fun q => n (q ▸ .head _)) e⟩, rfl⟩
  · rcases lookup_cons_cases e with ⟨rfl, rfl⟩ | ⟨ne, e⟩
    · exact ⟨_, if_pos rfl, hr.move hE (fun _ h => h) hO⟩
    · obtain ⟨u, hu, hr⟩ := S.loc y l e
      exact ⟨u, by simpa [ne] using hu, hr.move hE (fun _ h => h) hO⟩
  · rcases lookup_cons_cases e with ⟨rfl, rfl⟩ | ⟨ny, e2⟩
    · rcases lookup_cons_cases e' with ⟨rfl, rfl⟩ | ⟨nz, e3⟩
      · exact absurd rfl ne
      · rw [hno z l' e3] at o'; cases o'
    · rw [hno y l e2] at o; cases o
  · show h'.get? b ≠ none
    by_cases q : b = C.L
    · subst q
      obtain ⟨o, _, _, ho, _⟩ := hn'
      rw [ho]; exact fun z => nomatch z
    · rw [hs'.2 b q]; exact S.dlt b hb

/-- x = [a new list, an int] -/
theorem ES.newBox {x : PySem.Str} {p lp pos : Pos} {e e1 : Expr} {xs : List Int} {k0 : Int} (h : EF d C ρ e xs) (h1 : EV d C ρ e1 (.int k0)) (hno : ∀ y l, ρ.lookup y = some l → l.isOwn = false) (hx : (C.env d).kindOf x = some .local)
    (he : starEach [e, e1] (C.env d) = (false, eval e (C.env d)) :: starEach [e1] (C.env d)) (he' : starEach [e1] (C.env d) = (false, eval e1 (C.env d)) :: starEach [] (C.env d))
    (hs : swapsWith (.List [e, e1] lp) (some (.Name x p)) pos.line (C.env d) = pure false) (Φ : Out → Prop) {rest : List Stmt} (hr : ∀ a b, EX d C ((x, .box a b xs k0) :: ρ) rest Φ) :
    EX d C ρ (.Assign [.Name x p] (.List [e, e1] lp) pos :: rest) Φ := by
  refine ⟨fun O s m Q E S k => ?_⟩
  refine wpAny_execs_cons (wpAny_Assign_Name (wpAny_List (args_cons (h.run O s m _ _ S fun b vs n h1' t1 K1 hd hl hi => args_cons (h1.run O _ m _ _ (S.keep K1) fun v2 h2 t2 K2 r2 => args_nil ?_) he') he)) hs)
  obtain ⟨tk0, rfl⟩ := r2.int_inv
  refine ⟨by rw [sizeLine_eq]; exact (by decide : (2 : Nat) ≤ 16777216), ?_⟩
  have K : Keep s.heap h2 := K1.trans K2
  have hb2 : h2.get? b = some { cls := .type "list", dict := none, data := .seq vs n, slots := #[] } := K2 _ _ hl
  have A1 := S.adopt (s₁ := { s with heap := h2, toks := t2 }) K hd (by show h2.get? b ≠ none; rw [hb2]; exact fun z => nomatch z)
  obtain ⟨a, ha⟩ : ∃ a, a = h2.objs.size := ⟨_, rfl⟩
  have K3 : Keep h2 (h2.push { cls := .type "list", data := .seq [Value.ref b, .int k0 tk0].toArray }) := Keep.push _ _
  have ha3 : (h2.push { cls := .type "list", data := .seq [Value.ref b, .int k0 tk0].toArray }).get? a = some { cls := .type "list", data := .seq [Value.ref b, .int k0 tk0].toArray } := by rw [ha]; exact Heap.get?_push_size _ rfl
  have A2 := A1.1.adopt (s₁ := { s with heap := h2.push { cls := .type "list", data := .seq [Value.ref b, .int k0 tk0].toArray }, toks := t2 }) (a := a) K3 (by rw [ha]; exact get_size h2) (by rw [ha3]; exact fun z => nomatch z)
  have hne : a ≠ b := fun q => by rw [q] at ha; have := Heap.lt_size hb2; rw [ha] at this; exact absurd this (Nat.lt_irrefl _)
  have hrep : LRep C (h2.push { cls := .type "list", data := .seq [Value.ref b, .int k0 tk0].toArray }) ⟨a :: b :: O.o, O.x⟩ (.ref a) (.box a b xs k0) :=
    ⟨tk0, vs.toList, n, rfl, .head _, .tail _ (.head _), hne, ⟨_, ha3, rfl, 0, rfl⟩, K3 _ _ hb2, hi⟩
  rw [← ha]
  refine A2.1.storeBox hrep hno hx fun h4 t4 m4 S4 y4 => ?_
  exact (hr a b).run _ _ _ _ _ S4 fun f o O'' h5 tk5 hΦ ho y5 => k f o O'' h5 tk5 hΦ ho (((A1.2.1.trans A2.2.1).trans y4).trans y5)

/-- a def that hands back a new box -/
noncomputable def FNnb (T : Tp) (name : PySem.Str) (n : Nat) (Vs : List V) (xs : List Int) (k : Int) : Prop :=
  (∃ d ∈ defs, d.name = name) ∧
  ∀ (A : Around) (s : Shared) (D : List Addr) (vs : List Value) (fa : Addr) (Q E : Value → Shared → Prop), Keep T.hg s.heap → (∀ b ∈ D, T.hg.get? b = none ∧ s.heap.get? b ≠ none) →
    A.handled = none → A.depth + n < recursionLimit → A.units + 4 * n + 104 ≤ cLine → T.mg name = some (.ref fa) → Reps T.mg s.heap D vs Vs →
    (∀ a b t ws nn h' tk, Keep s.heap h' → s.heap.get? a = none → s.heap.get? b = none → a ≠ b → h'.IsList a #[.ref b, .int k t] → IsL h' b ws nn → IntsAre ws.toList xs → Q (.ref a) { s with heap := h', toks := tk }) → wpAny (model T.prog T.w) A (call (.ref fa) vs) Q E s

theorem EX.callNewBox {f x : PySem.Str} {fp p cpos pos : Pos} {e : Expr} {es : List Expr} {n : Nat} {Vs : List V} {xs : List Int} {k0 : Int} (h : EVs d C ρ (e :: es) Vs) (hf : FNnb T f n Vs xs k0) (hfx : (C.env d).kindOf f = some .globalImplicit) (hn : n < C.room) (hd : (f == ("__debug__" : PySem.Str)) = false)
    (hno : ∀ y l, ρ.lookup y = some l → l.isOwn = false) (hx : (C.env d).kindOf x = some .local) (he : starEach (e :: es) (C.env d) = (false, eval e (C.env d)) :: starEach es (C.env d))
    (hc : eval (.Call (.Name f fp) (e :: es) [] cpos) (C.env d) = (do callWith cpos (← eval (.Name f fp) (C.env d)) [] (backTo cpos (starEach (e :: es) (C.env d))) (backToKw cpos (keywordEach [] (C.env d)))))
    (hs : swapsWith (.Call (.Name f fp) (e :: es) [] cpos) (some (.Name x p)) pos.line (C.env d) = pure false) (Φ : Out → Prop) {rest : List Stmt} (hr : ∀ a b, EX d C ((x, .box a b xs k0) :: ρ) rest Φ) :
    EX d C ρ (.Assign [.Name x p] (.Call (.Name f fp) (e :: es) [] cpos) pos :: rest) Φ := by
  refine ⟨fun O s m Q E S k => ?_⟩
  obtain ⟨⟨d', hd', rfl⟩, hf⟩ := hf
  obtain ⟨fa, o, pm, code, doc, h1, h2, h3, h4⟩ := T.gd.fn d' hd'
  refine wpAny_execs_cons (wpAny_Assign_Name (Call_ ((EV.glob (v := .fn d'.name) h1 (fun _ _ _ _ => .fn h1) hfx hd).run O s m _ _ S fun v h' tk K r => ?_) hc) hs)
  obtain ⟨fa', rfl, hm⟩ := r.fn_inv
  rw [h1] at hm
  cases hm
  have hr0 := C.rm
  have hu0 := C.un
  have S1 : St d C ρ O { s with heap := h', toks := tk } m := S.keep K
  refine callWith_def h3 (h.run O _ m _ _ _ S1 fun vs h₂ tk₂ K₂ r₂ => ?_) he
  have S2 : St d C ρ O { s with heap := h₂, toks := tk₂ } m := S1.keep K₂
  refine ⟨S2.hg _ _ h2, ?_⟩
  refine hf C.A _ (C.hid O) vs _ _ _ S2.hg S2.hidn C.hh (by omega) (by omega) h1 r₂ fun a b t ws nn h3 tk3 K3 na nb hne hA hB hi => ?_
  have A1 := S2.adopt (s₁ := { s with heap := h3, toks := tk3 }) (a := b) K3 nb (by
    have hB' : Heap.get? _ b = some _ := hB
    show h3.get? b ≠ none; rw [hB']; exact fun z => nomatch z)
  have A2 : St d C ρ ⟨a :: b :: O.o, O.x⟩ { s with heap := h3, toks := tk3 } m ∧ Stay C h₂ O h3 ⟨a :: b :: O.o, O.x⟩ := by
    have A1' := S2.adopt (s₁ := { s with heap := h3, toks := tk3 }) (a := a) K3 na (by
      obtain ⟨o, q, _⟩ := hA; show h3.get? a ≠ none; rw [q]; exact fun z => nomatch z)
    have live : ∀ c o, h₂.get? c = some o → c ≠ a ∧ c ≠ b := fun c o e => ⟨fun q => (by rw [q, na] at e; cases e), fun q => (by rw [q, nb] at e; cases e)⟩
    have mh : ∀ c, c ∈ C.hid ⟨a :: b :: O.o, O.x⟩ → c = a ∨ c = b ∨ c ∈ C.hid O := fun c hc => by
      rcases mem_hid.mp hc with q | q | q | q
      · exact .inr (.inr (mem_hid.mpr (.inl q)))
      · rcases List.mem_cons.mp q with q | q
        · exact .inl q
        · rcases List.mem_cons.mp q with q | q
          · exact .inr (.inl q)
          · exact .inr (.inr (mem_hid.mpr (.inr (.inl q))))
      · exact .inr (.inr (mem_hid.mpr (.inr (.inr (.inl q)))))
      · exact .inr (.inr (mem_hid.mpr (.inr (.inr (.inr q)))))
    have hE : Ext h₂ (C.hid O) h3 (C.hid ⟨a :: b :: O.o, O.x⟩) := fun c o n e => ⟨fun hc => by
      rcases mh c hc with q | q | q
      · exact (live c o e).1 q
      · exact (live c o e).2 q
      · exact n q, K3 c o e⟩
    refine ⟨⟨S2.kind, (S2.keep (s' := { s with heap := h3, toks := tk3 }) K3).fr, fun y l e => ?_, S2.dst, fun c hc => ?_, fun c hc hx => ?_, fun c hc => ?_⟩, ⟨fun c o nc e => ⟨fun hc => ?_, K3 c o e⟩, rfl⟩⟩
    · obtain ⟨u, hu, r⟩ := S2.loc y l e
      exact ⟨u, hu, r.move hE (fun _ h => .tail _ (.tail _ h)) fun c _ o q => K3 c o q⟩
    · rcases hc with hc | hc
      · rcases List.mem_cons.mp hc with rfl | hc
        · exact A1'.1.fresh _ (.inl (.head _))
        · rcases List.mem_cons.mp hc with rfl | hc
          · exact A1.1.fresh _ (.inl (.head _))
          · exact S2.fresh c (.inl hc)
      · exact S2.fresh c (.inr hc)
    · rcases List.mem_cons.mp hc with rfl | hc
      · exact A1'.1.apart _ (.head _) hx
      · rcases List.mem_cons.mp hc with rfl | hc
        · exact A1.1.apart _ (.head _) hx
        · exact S2.apart c hc hx
    · rcases mh c hc with rfl | rfl | q
      · exact A1'.1.dlt _ (mem_hid.mpr (.inr (.inl (.head _))))
      · exact A1.1.dlt _ (mem_hid.mpr (.inr (.inl (.head _))))
      · exact K3.live (S2.dlt c q)
    · rcases List.mem_cons.mp hc with q | q
      · exact nc (q ▸ .head _)
      · rcases List.mem_cons.mp q with q | q
        · exact (live c o e).1 q
        · rcases List.mem_cons.mp q with q | q
          · exact (live c o e).2 q
          · exact nc (.tail _ q)
  refine A2.1.storeBox (x := x) (b := b) (xs := xs) (k0 := k0) ⟨t, ws.toList, nn, rfl, .head _, .tail _ (.head _), hne, hA, hB, hi⟩ hno hx fun h4 t4 m4 S4 y4 => ?_
  exact (hr a b).run _ _ _ _ _ S4 fun f o O'' h5 tk5 hΦ ho y5 => k f o O'' h5 tk5 hΦ ho ((((Stay.keep (K.trans K₂)).trans A2.2).trans y4).trans y5)

noncomputable def RetNew (xs : List Int) (k : Int) (o : Out) : Prop := ∃ a b ρ' x, o = .ret (.adr a) ρ' ∧ ρ'.lookup x = some (.box a b xs k)

theorem FNnb.of {n : Nat} {Vs : List V} {xs : List Int} {k0 : Int} (names : List PySem.Str) (hd : d ∈ defs)
    (hb : ∀ pm code doc (vs : List Value), vs.length = Vs.length → bindArgs (docDef d.name d.params d.body d.scope pm code doc) ⟨vs, []⟩ = pure (names.zip vs))
    (hl : names.length = Vs.length) (hnd : names.Nodup) (hloc : ∀ y ∈ names, d.scope.names.lookup y = some .local) (hcell : ∀ y ∈ d.scope.names, y.2 ≠ .cell)
    (hco : d.scope.isCoroutine = false) (hgen : d.scope.isGenerator = false) (hk : d.scope.kind = .function)
    (hbody : ∀ C : Cx T, C.room = n → C.cl = [] → EX d C (names.zip (Vs.map LV.val)) d.body (RetNew xs k0)) : FNnb T d.name n Vs xs k0 := by
  refine ⟨⟨d, hd, rfl⟩, ?_⟩
  intro A s D vs a Q E hK hD hh hdep hun hm hr k
  obtain ⟨a', o, pm, code, doc, h1, h2, h3, h4⟩ := T.gd.fn d hd
  rw [h1] at hm
  cases hm
  have hlen : vs.length = Vs.length := hr.length
  have hfst : (names.zip vs).map (·.1) = names := by
    rw [List.map_fst_zip]; omega
  refine wpAny_call (codeAny_call_def (fd := docDef d.name d.params d.body d.scope pm code doc) (body := d.body) (binds := names.zip vs) (by omega) (hK _ _ h2) h3 (T.gd.lim.keeps hK) (h4.keeps hK) rfl (BindsTo.of_eq (hb pm code doc vs hlen)) hcell
    (fun y hy => hloc y.1 (by rw [← hfst]; exact List.mem_map_of_mem hy)) (fun h₀ hns hk₀ => ?_) hco hgen hk)
  have hdl : ∀ env : Env, (A.deeper env).depth = A.depth + 1 := fun _ => rfl
  have hul : ∀ env : Env, (A.deeper env).units = A.units + 3 := fun _ => rfl
  let C : Cx T := { A := A.deeper (callEnv (docDef d.name d.params d.body d.scope pm code doc) s.heap.objs.size a), hb := s.heap, L := s.heap.objs.size, D := D, fa := a, cd := code, room := n, hh := hh, hle := hK, hD := fun b hb => (hD b hb).1, rm := by rw [hdl]; omega, un := by rw [hul]; omega }
  have hns' : h₀.Ns s.heap.objs.size (fun y => (names.zip vs).lookup y) := by
    have := hns
    simp only [lookup_reverse_nodup (l := names.zip vs) (by rw [hfst]; exact hnd)] at this
    exact this
  have S : St d C (names.zip (Vs.map LV.val)) ⟨[], []⟩ { s with heap := h₀, toks := s.toks + (names.zip vs).length } (fun y => (names.zip vs).lookup y) := by
    have hE : Ext s.heap D h₀ (C.hid ⟨[], []⟩) := fun b o nb e => by
      refine ⟨fun q => ?_, hk₀ b o e⟩
      rcases mem_hid.mp q with q | q | q | q
      · exact absurd (Heap.lt_size e) (by rw [show b = s.heap.objs.size from q]; exact Nat.lt_irrefl _)
      · cases q
      · cases q
      · exact nb q
    refine ⟨hk, ⟨hns', hk₀, get_size _⟩, fun y lv e => ?_, fun y z lv lv' ne e e' ho => ?_, fun b hb => ?_, fun b hb => ?_, fun b hb => ?_⟩
    · obtain ⟨v, V, q1, rfl, q3⟩ := zip_lookup_reps hr y lv e
      exact ⟨v, q1, Rep.mono hE q3⟩
    · obtain ⟨v, V, q1, rfl, q3⟩ := zip_lookup_reps hr y lv e
      cases ho
    · rcases hb with hb | hb <;> cases hb
    · cases hb
    · show h₀.get? b ≠ none
      rcases mem_hid.mp hb with q | q | q | q
      · obtain ⟨o', es, ep, e, _⟩ := hns'
        rw [show b = s.heap.objs.size from q, e]; exact fun z => nomatch z
      · cases q
      · cases q
      · exact Keep.live hk₀ (hD b q).2
  refine (hbody C rfl rfl).run ⟨[], []⟩ _ _ _ _ S fun f ou O' h' tk hΦ ho y => ?_
  obtain ⟨a1, b1, ρ', x, rfl, hbox⟩ := hΦ
  obtain ⟨v, m', rfl, r, S'⟩ := ho
  obtain ⟨u, hu, t', ws', nn', hu', hoa, hob, hne, hA', hB', hi'⟩ := S'.loc x _ hbox
  cases r
  exact k a1 b1 t' ws'.toArray nn' h' tk S'.fr.keep (S'.fresh a1 (.inl hoa)).1 (S'.fresh b1 (.inl hob)).1 hne hA' hB' (by simpa using hi')
end Mine
namespace Mine
variable {T : Tp} {d : DefRec} {C : Cx T} {ρ : Loc}
theorem ldbE {env : Env} {A : Around} {x : PySem.Str} {pos : Pos} {s : Shared} {v : Value} {Q E : Value → Shared → Prop} (hg : Keep T.hg s.heap) (hb : x ∈ bnames) (hv : bootBuiltins x = some v) (hk : env.scope.kind = .function) (hgl : env.globals = mainGlobals) (hbn : env.builtins = builtinsNs)
    (hx : env.kindOf x = some .globalImplicit) (h : Q v s) : wpAny (model T.prog T.w) A (eval (.Name x pos) env) Q E s := by
  have hn : x ≠ "__name__" := by intro q; subst q; exact absurd hb (by decide)
  have hd : (x == ("__debug__" : PySem.Str)) = false := by
    cases q : (x == ("__debug__" : PySem.Str)) with
    | false => rfl
    | true => have := eq_of_beq q; subst this; exact absurd hb (by decide)
  exact Name_function_global hk hx (loadGlobal_builtin (env := env) (by rw [hgl]; exact T.gd.g.keeps hg) (T.gd.free x hb) (by rw [hbn]; exact T.gd.b.keeps hg) ((T.gd.bi x hn).trans hv) h) hd

theorem paired_abs {F : Value → Value → Prop} (hF : ∀ i t u, F (.int i t) u → ∃ t', u = .int (i.natAbs : Nat) t') {vs ys : List Value} {ns : List Int} (hp : Paired F vs ys) (hi : IntsAre vs ns) : IntsAre ys (ns.map fun i => ((i.natAbs : Nat) : Int)) := by
  induction hi generalizing ys with
  | nil => cases hp; exact .nil
  | cons n t r ih =>
    cases hp with
    | cons a b =>
      obtain ⟨t', rfl⟩ := hF _ _ _ a
      exact .cons _ t' (ih b)

/-- [abs(int(x)) for x in (a new list)] -/
theorem EF.compAbs {x : PySem.Str} {e : Expr} {gp ip px xp i2 cpos pos : Pos} {scope : Scope} {ns : List Int}
    (h : EF d C ρ e ns) (hz : ns.length ≤ 1000)
    (hclos : closureFor scope (C.env d) = pure []) (hcells : ∀ y ∈ scope.names, y.2 ≠ .cell) (hkind : scope.kind = .function)
    (hnames : ∀ y ∈ scope.names, y.2 = .local → scope.names.lookup y.1 = some .local) (hx : scope.names.lookup x = some .local)
    (hkx : ∀ Cc, (compEnvC scope [] Cc (C.env d)).kindOf x = some .local) (hka : ∀ Cc, (compEnvC scope [] Cc (C.env d)).kindOf "abs" = some .globalImplicit) (hki : ∀ Cc, (compEnvC scope [] Cc (C.env d)).kindOf "int" = some .globalImplicit)
    (hdx : (x == ("__debug__" : PySem.Str)) = false) (hs : ∀ x, foldedSetIterable e (C.env d) x = pure x) :
    EF d C ρ (.ListComp (.Call (.Name "abs" gp) [.Call (.Name "int" ip) [.Name x xp] [] i2] [] cpos) [⟨.Name x px, e, [], 0⟩] scope pos) (ns.map fun i => ((i.natAbs : Nat) : Int)) := by
  refine ⟨fun O s m Q E S kk => ?_⟩
  refine wpAny_ListComp_free (fun _ => true) (fun v u => ∃ i t t', v = .int i t ∧ u = .int (i.natAbs : Nat) t') hclos hcells hkind hnames hx (h.run O s m _ _ S fun a vs n h1 t1 K1 hd hL hi => ?_) hs
  have hlen := hi.length
  refine wpAny_pyIter_list (s := { s with heap := h1, toks := t1 }) hL.isList ?_
  have hne' : a ≠ h1.objs.size := fun q => by have hL' : h1.get? a = some _ := hL; rw [q, get_size] at hL'; cases hL'
  have halt : a < h1.objs.size := Heap.lt_size (show h1.get? a = some _ from hL)
  have Kp : Keep h1 (h1.push { cls := .type "list_iterator", data := .fields #[.ref a, .int 0 0] }) := Keep.push _ _
  have S1 : St d C ρ O { s with heap := h1, toks := t1 } m := S.keep K1
  refine ⟨h1.objs.size, _, _, _, _, _, rfl, Walks.list C.hh h1.objs.size a hne' vs, by rw [sizeLine_eq, ← Array.length_toList]; omega,
    ⟨⟨_, Heap.get?_push_size _ rfl, rfl, rfl⟩, hL.isList.push _⟩, fun b hb => ?_, ⟨fun Cc i v s₃ m₃ E' _ _ _ _ _ _ => ?_, fun Cc i v s₃ m₃ E' hC hv _ hns hm hk htk => ?_⟩, fun D h' tk ys us hD hLD hP hul hui hF hk => ?_⟩
  · simp only [List.mem_cons, List.not_mem_nil, or_false] at hb
    show b < (h1.push _).objs.size
    rw [Heap.size_push]
    rcases hb with rfl | rfl
    · exact Nat.lt_succ_self _
    · exact Nat.lt_succ_of_lt halt
  · rw [List.forIn_nil]
    exact wpAny_pure ⟨rfl, s₃.heap, s₃.toks, rfl, fun _ _ e => e⟩
  · have hk' : ∀ b o, b ≠ h1.objs.size → h1.get? b = some o → s₃.heap.get? b = some o := fun b o nb e => hk b o (by simpa using nb) (Kp b o e)
    have K3 : Keep h1 s₃.heap := fun b o e => hk' b o (fun q => by rw [q, get_size] at e; cases e) e
    have hg3 : Keep T.hg s₃.heap := fun b o e => K3 b o (S1.hg b o e)
    have hv' : vs.toList[i]? = some v := by simpa using hv
    have hi' : i < ns.length := by have := (List.getElem?_eq_some_iff.mp hv').1; omega
    obtain ⟨t, ht⟩ := hi.get i ns[i] (by simp [hi'])
    rw [ht] at hv'
    cases hv'
    refine Call_ (ldbE (env := compEnvC scope [] Cc (C.env d)) hg3 (by decide) boot_abs hkind rfl rfl (hka Cc) (callWith_builtin1 (args_cons ?_ rfl) rfl)) rfl
    refine Call_ (ldbE (env := compEnvC scope [] Cc (C.env d)) hg3 (by decide) PyProof.Rows.boot_int hkind rfl rfl (hki Cc) (PyProof.Rows.callWith_type1 (args_cons (wpAny_Name (wpAny_loadName_local (env := compEnvC scope [] Cc (C.env d)) hkind (hkx Cc) hns hm (args_nil (call_int_int (args_nil ?_)))) hdx) rfl) rfl)) rfl
    refine call_abs_int fun u tk => ?_
    refine ⟨⟨ns[i], t, u, rfl, ?_⟩, s₃.heap, tk, rfl, fun _ _ e => e⟩
    congr 1
    split <;> omega
  · have eus : us = vs.toList := by
      apply List.ext_getElem?
      intro j
      cases q : us[j]? with
      | some v => have := hui j v q; rw [← this]; simp
      | none =>
        have h1 : us.length ≤ j := by simpa using q
        symm
        rw [List.getElem?_eq_none_iff, Array.length_toList]
        omega
    rw [eus, List.filter_eq_self.mpr fun _ _ => rfl] at hF
    have hI := paired_abs (fun i t u hFu => by
      obtain ⟨i', t1, t2, e1, e2⟩ := hFu
      cases e1
      exact ⟨t2, e2⟩) hF hi
    have Kf : Keep s.heap h' := fun b o e => hk b o (by
      have : b ≠ h1.objs.size := fun q => by have := K1 b o e; rw [q, get_size] at this; cases this
      simpa using this) (Kp b o (K1 b o e))
    obtain ⟨n', hn'⟩ := hP
    exact kk D ys n' h' tk Kf ((K1.trans Kp).dead hD) hn' hI
end Mine
namespace Mine
variable {T : Tp} {d : DefRec} {C : Cx T} {ρ : Loc}
theorem EF.cut24 {e : Expr} {k1 : Nat} {p1 p2 p3 : Pos} {xs : List Int} (h : ER d C ρ e xs) (hz : xs.length ≤ 1000000) (ht : ∀ o r, letTemporaryGo e o r = pure ()) : EF d C ρ (.Subscript e (.Slice none (some (.Constant (.int 24) k1 p1)) none p2) p3) (xs.take 24) := by
  have := EF.cut (pos := p3) (p := p2) h EP.none (EP.some (EV.int (i := 24) (k' := k1) (pos := p1))) hz ht
  rwa [show ((24 : Int)) = ((24 : Nat) : Int) from rfl, pick_upto] at this
end Mine
namespace Mine
noncomputable def unitV : V := .tup [.row [1], .row [], .row [], .row [1]]
noncomputable def UnitSays (h : Heap) : Prop := ∃ mg v, h.Ns mainGlobals mg ∧ mg "UNIT" = some v ∧ ∀ mg', Rep mg' h [] v unitV
noncomputable def intsAt : List Value → List Int → Bool
  | [], [] => true
  | .int i _ :: r, x :: xs => decide (i = x) && intsAt r xs
  | _, _ => false
theorem intsAt_of (vs : List Value) : ∀ xs : List Int, intsAt vs xs = true → IntsAre vs xs := by
  induction vs with
  | nil =>
    intro xs h
    cases xs with
    | nil => exact .nil
    | cons x r => cases h
  | cons v r ih =>
    intro xs h
    cases xs with
    | nil => cases v <;> cases h
    | cons x xs =>
      cases v with
      | int i t =>
        simp only [intsAt, Bool.and_eq_true, decide_eq_true_eq] at h
        obtain ⟨rfl, h⟩ := h
        exact .cons _ t (ih _ h)
      | _ => cases h
noncomputable def rowAt (h : Heap) (b : Addr) (xs : List Int) : Bool := match h.get? b with
  | some o => decide (o.cls = .type "list") && (match o.data with | .seq vs _ => intsAt vs.toList xs | _ => false)
  | none => false
theorem rowAt_of {h : Heap} {b : Addr} {xs : List Int} (e : rowAt h b xs = true) (mg : GM) : Rep mg h [] (.ref b) (.row xs) := by
  unfold rowAt at e
  split at e
  · rename_i o ho
    rw [Bool.and_eq_true, decide_eq_true_eq] at e
    obtain ⟨e1, e2⟩ := e
    split at e2
    · rename_i vs n hd
      exact .row (vs := vs.toList) (fun q => by cases q) ⟨o, ho, e1, n, by simpa using hd⟩ (intsAt_of _ _ e2)
    · cases e2
  · cases e
noncomputable def unitAt (s : Shared) : Bool := s.heap.isNs mainGlobals && (match s.heap.nsMap mainGlobals "UNIT" with
  | some (.ref a) => (match s.heap.get? a with
    | some o => decide (o.cls = .type "tuple") && (match o.data with
      | .seq vs _ => (match vs.toList with
        | [.ref b1, .ref b2, .ref b3, .ref b4] => rowAt s.heap b1 [1] && (rowAt s.heap b2 [] && (rowAt s.heap b3 [] && rowAt s.heap b4 [1]))
        | _ => false)
      | _ => false)
    | none => false)
  | _ => false)
theorem unit_of {s : Shared} (e : unitAt s = true) : UnitSays s.heap := by
  unfold unitAt at e
  rw [Bool.and_eq_true] at e
  obtain ⟨e0, e⟩ := e
  split at e
  · rename_i a ha
    split at e
    · rename_i o ho
      rw [Bool.and_eq_true, decide_eq_true_eq] at e
      obtain ⟨e1, e⟩ := e
      split at e
      · rename_i vs n hd
        split at e
        · rename_i b1 b2 b3 b4 hvs
          simp only [Bool.and_eq_true] at e
          obtain ⟨r1, r2, r3, r4⟩ := e
          refine ⟨_, _, .of_isNs e0, ha, fun mg' => .tup_of (vs := vs.toList) (fun q => by cases q) ⟨o, ho, e1, n, by simpa using hd⟩ ?_⟩
          rw [hvs]
          exact ⟨rowAt_of r1 mg', rowAt_of r2 mg', rowAt_of r3 mg', rowAt_of r4 mg', trivial⟩
        · cases e
      · cases e
    · cases e
  · cases e
noncomputable def unitHook : Hook := ⟨Bool, unitAt, fun _ => true, fun _ h => UnitSays h, fun _ _ e => unit_of e, fun _ _ _ ⟨mg, v, h1, h2, h3⟩ k => ⟨mg, v, h1.keeps k, h2, fun mg' => (h3 mg').keep k⟩⟩

theorem gd_of {p : Program} {loose : List PySem.Str} {mean : ExcName → Option Value} {mg mb : PySem.Str → Option Value} {h : Heap} (T : Top p loose mean mg mb h) (hU : UnitSays h) (hrec : recsOf p = defs)
    (hfree : ∀ x ∈ bnames, x ∉ startupNames ∧ x ∉ loose ∧ x ∉ (recsOf p).map (·.name) ∧ x ∉ (litsOf p).map (·.1) ∧ x ∉ (clssOf p loose).map (·.name))
    (hown : specOf p "NoInverse" = some ("Exception.__new__", [.type "Exception", .type "BaseException", .type "object"])) : Gd mg mb h where
  g := T.g
  b := T.b
  lim := T.nolimit
  bi := T.builtins
  free := fun x hx => let ⟨a, b, c, d, e⟩ := hfree x hx; T.free x a b c d e
  fn := fun d hd => T.fn d (by rw [hrec]; exact hd)
  unit := by
    obtain ⟨mg', v, h1, h2, h3⟩ := hU
    exact ⟨v, by rw [← Claim2Try.globalOf_of_ns T.g, Claim2Try.globalOf_of_ns h1]; exact h2, h3 mg⟩
  noinv := by
    obtain ⟨Cc, O, _⟩ := T.ownAt hown
    exact ⟨Cc, _, _, _, _, O, PySem.F.excBase_Exception, by decide⟩

/-- the law's frame -/
theorem law_join {prog : Program} {w : World} {s₁ : Shared} {mg mb : PySem.Str → Option Value} (G : Gd mg mb s₁.heap) {L fa a : Addr} {cd : Value} {h₁ : Heap} {tk : Nat} {ns : List Int} {vs : List Value} {m : PySem.Str → Option Value}
    (hbody : ∀ (T : Tp) (C : Cx T), C.room = 70 → C.A.frames = some [C.env (dAt 57)] → EX (dAt 57) C [("script", .val (.row ns))] (dAt 57).body (RetIs (.bool true)))
    (F : Fr s₁.heap L h₁ m) (hm : m "script" = some (.ref a)) (hL : s₁.heap.IsList a vs.toArray) (hi : IntsAre vs ns) (Q : Flow → Shared → Prop) (E : Value → Shared → Prop)
    (hQ : ∀ v f h' tk', (f = .ret v) → v = .bool true → (∀ b o, s₁.heap.get? b = some o → h'.get? b = some o) → Q f { s₁ with heap := h', toks := tk' }) :
    wpAny (model prog w) (callerA.deeper (envOf (dAt 57).name (dAt 57).scope L fa cd)) (execs (dAt 57).body (envOf (dAt 57).name (dAt 57).scope L fa cd)) Q E { s₁ with heap := h₁, toks := tk } := by
  let T : Tp := ⟨prog, w, mg, mb, s₁.heap, G⟩
  have hnew : s₁.heap.get? L = none := by
    cases q : s₁.heap.get? L with
    | none => rfl
    | some o => exact absurd (Heap.lt_size q) (Nat.not_lt.mpr F.above)
  have hdl : ∀ env : Env, (callerA.deeper env).depth = callerA.depth + 1 := fun _ => rfl
  have hul : ∀ env : Env, (callerA.deeper env).units = callerA.units + 3 := fun _ => rfl
  let C : Cx T := { A := callerA.deeper (envOf (dAt 57).name (dAt 57).scope L fa cd), hb := s₁.heap, L := L, D := [], fa := fa, cd := cd, room := 70, hh := rfl, hle := Keep.refl _, hD := fun b hb => (by cases hb), rm := by rw [hdl]; exact (by decide : callerA.depth + 1 + 70 ≤ recursionLimit), un := by rw [hul]; exact (by decide : callerA.units + 3 + 4 * 70 + 100 ≤ cLine) }
  have S : St (dAt 57) C [("script", .val (.row ns))] ⟨[], []⟩ { s₁ with heap := h₁, toks := tk } m := by
    refine ⟨rfl, ⟨F.ns, F.keep, hnew⟩, fun y lv e => ?_, fun y z lv lv' ne e e' ho => ?_, fun b hb => ?_, fun b hb => ?_, fun b hb => ?_⟩
    · rcases lookup_cons_cases e with ⟨rfl, rfl⟩ | ⟨_, e⟩
      · refine ⟨_, hm, .row (fun q => ?_) (let ⟨o, x, z⟩ := hL; ⟨o, F.keep _ _ x, z⟩) hi⟩
        rcases mem_hid.mp q with q | q | q | q
        · obtain ⟨o, x, _⟩ := hL
          rw [show a = L from q, hnew] at x; cases x
        · cases q
        · cases q
        · cases q
      · cases e
    · rcases lookup_cons_cases e with ⟨rfl, rfl⟩ | ⟨_, e⟩
      · cases ho
      · cases e
    · rcases hb with hb | hb <;> cases hb
    · cases hb
    · show h₁.get? b ≠ none
      rcases mem_hid.mp hb with q | q | q | q
      · obtain ⟨o', es, ep, e, _⟩ := F.ns
        rw [show b = L from q, e]; exact fun z => nomatch z
      · cases q
      · cases q
      · cases q
  refine (hbody T C rfl rfl).run ⟨[], []⟩ _ m Q E S fun f ou O' h' tk' hΦ ho y => ?_
  obtain ⟨ρ', hΦ⟩ := hΦ
  rcases hΦ with rfl | ⟨rfl, hb⟩
  · obtain ⟨v, m', rfl, r, S'⟩ := ho
    exact hQ v _ h' tk' rfl r.bool_inv S'.fr.keep
  · cases hb
end Mine
namespace Mine
/-- what the view keeps: all but the assignments at the top -/
noncomputable def keepL : List Nat := [1, 2, 3, 4, 5, 6, 7, 8, 9, 10, 11, 12, 13, 14, 16, 17, 18, 19, 20, 21, 22, 23, 24, 25, 27, 28, 29, 30, 31, 32, 33, 34, 35, 37, 38, 40, 41, 42, 43, 44, 45, 46, 48, 49, 50, 51, 52, 53, 54, 55, 56, 57]
noncomputable def vw : Program := PySem.W.view PySem.Challenge.pw_nn0036_01 keepL
noncomputable def lookAt (s : Shared) : Bool := xlAt vw [] s && recOk (RowW.records (OpenRow.toRowW PySem.Challenge.rw_nn0036_01.row)) s
/-- a def of the text as the machine holds it: bare, and as a function -/
noncomputable def fuN (d : DefRec) : Obj := { cls := .none, data := .func { name := d.name, qualname := d.name, params := d.params, body := .stmts d.body, scope := d.scope, globals := 0, closure := [], defaults := .none, kwdefaults := .none } }
noncomputable def fuF (d : DefRec) (m : String) (k c : Nat) : Obj := { cls := .type "function", data := .func { name := d.name, qualname := d.name, params := d.params, body := .stmts d.body, scope := d.scope, globals := 3, closure := [], defaults := .none, kwdefaults := .none, pyModule := .str (Str.ofString m) k, code := .ref c } }
noncomputable def hq0 (P : Params) (g : Obj) (f : Obj) (t : List Obj) : List Obj :=
  boot_o_0 P ::
  boot_o_1 P ::
  { cls := Value.none, data := Data.dict #[{ hash := PyData.keyHash P (Str.ofString "type.__subclasses__.Exception.0"), key := Value.str (Str.ofString "type.__subclasses__.Exception.0") 205, val := Value.int 24 0 }, { hash := PyData.keyHash P (Str.ofString "type.__subclasses__.Exception.n"), key := Value.str (Str.ofString "type.__subclasses__.Exception.n") 206, val := Value.int 1 0 }] 2 } ::
  g ::
  boot_o_4 P ::
  boot_o_5 P ::
  boot_o_6 P ::
  boot_o_7 P ::
  boot_o_8 P ::
  boot_o_9 P ::
  boot_o_10 P ::
  { cls := Value.type "tuple", data := Data.seq #[] } ::
  f ::
  { cls := Value.type "code", data := Data.fields #[Value.str (Str.ofString "<module>") 182, Value.str (Str.ofString "<module>") 183, Value.str (Str.ofString "/claim/cut.py") 184, Value.int 1 0, Value.int 0 0, Value.int 0 0, Value.int 0 0, Value.int 0 0, Value.ref 11, Value.bool false, Value.int 181 0, Value.ref 12, Value.none, Value.none, Value.none, Value.none, Value.int 185 0, Value.int 1 0, Value.str (Str.ofString "/claim/cut.py") 186] } ::
  { cls := Value.type "frame", slots := #[some (Value.ref 13), some (Value.ref 3), some (Value.ref 3), none, some (Value.str (Str.ofString "__main__") 164), none, some (Value.ref 0)] } ::
  { cls := Value.type "tuple", data := Data.seq #[Value.type "Exception"] } ::
  { cls := Value.type "builtin_function_or_method", data := Data.fields #[Value.builtin "type.__prepare__", Value.type "type"] } ::
  { cls := Value.type "dict", data := Data.dict #[{ hash := PyData.keyHash P (Str.ofString "__module__"), key := Value.str (Str.ofString "__module__") 196, val := Value.str (Str.ofString "gmp.limbs") 187 }, { hash := PyData.keyHash P (Str.ofString "__qualname__"), key := Value.str (Str.ofString "__qualname__") 198, val := Value.str (Str.ofString "GmpError") 197 }, { hash := PyData.keyHash P (Str.ofString "__firstlineno__"), key := Value.str (Str.ofString "__firstlineno__") 200, val := Value.int 2 199 }, { hash := PyData.keyHash P (Str.ofString "__static_attributes__"), key := Value.str (Str.ofString "__static_attributes__") 201, val := Value.ref 22 }] 4 } ::
  { cls := Value.type "tuple", data := Data.seq #[] } ::
  { cls := Value.none, data := Data.fields #[] } :: t
noncomputable def hq20 (P : Params) (c : Obj) (t : List Obj) : List Obj :=
  { cls := Value.type "code", data := Data.fields #[Value.str (Str.ofString "GmpError") 191, Value.str (Str.ofString "GmpError") 192, Value.str (Str.ofString "/claim/cut.py") 193, Value.int 2 0, Value.int 0 0, Value.int 0 0, Value.int 0 0, Value.int 0 0, Value.ref 18, Value.bool false, Value.int 181 0, Value.ref 19, Value.none, Value.none, Value.none, Value.none, Value.int 194 0, Value.int 2 0, Value.str (Str.ofString "/claim/cut.py") 195] } ::
  { cls := Value.type "frame", slots := #[some (Value.ref 20), some (Value.ref 3), some (Value.ref 17), none, some (Value.str (Str.ofString "gmp.limbs") 187), none, some (Value.ref 0)] } ::
  { cls := Value.type "tuple", data := Data.seq #[] } ::
  { cls := Value.type "dict", data := Data.dict #[{ hash := PyData.keyHash P (Str.ofString "__module__"), key := Value.str (Str.ofString "__module__") 196, val := Value.str (Str.ofString "gmp.limbs") 187 }, { hash := PyData.keyHash P (Str.ofString "__firstlineno__"), key := Value.str (Str.ofString "__firstlineno__") 200, val := Value.int 2 199 }, { hash := PyData.keyHash P (Str.ofString "__static_attributes__"), key := Value.str (Str.ofString "__static_attributes__") 201, val := Value.ref 22 }, { hash := PyData.keyHash P (Str.ofString "__weakref__"), key := Value.str (Str.ofString "__weakref__") 203, val := Value.ref 25 }, { hash := PyData.keyHash P (Str.ofString "__doc__"), key := Value.str (Str.ofString "__doc__") 204, val := Value.none }] 3 } ::
  c ::
  { cls := Value.type "getset_descriptor", data := Data.fields #[Value.str (Str.ofString "__weakref__") 202, Value.ref 24, Value.builtin "ExceptionGroup.__weakref__", Value.none] } ::
  { cls := Value.type "super", data := Data.fields #[Value.ref 24, Value.ref 24, Value.ref 24] } ::
  { cls := Value.type "builtin_function_or_method", data := Data.fields #[Value.builtin "object.__init_subclass__", Value.ref 24] } ::
  { cls := Value.type "tuple", data := Data.seq #[Value.ref 24] } ::
  { cls := Value.type "builtin_function_or_method", data := Data.fields #[Value.builtin "type.__prepare__", Value.type "type"] } ::
  { cls := Value.type "dict", data := Data.dict #[{ hash := PyData.keyHash P (Str.ofString "__module__"), key := Value.str (Str.ofString "__module__") 216, val := Value.str (Str.ofString "gmp.limbs") 187 }, { hash := PyData.keyHash P (Str.ofString "__qualname__"), key := Value.str (Str.ofString "__qualname__") 218, val := Value.str (Str.ofString "DivisionByZero") 217 }, { hash := PyData.keyHash P (Str.ofString "__firstlineno__"), key := Value.str (Str.ofString "__firstlineno__") 220, val := Value.int 4 219 }, { hash := PyData.keyHash P (Str.ofString "__static_attributes__"), key := Value.str (Str.ofString "__static_attributes__") 221, val := Value.ref 35 }] 4 } ::
  { cls := Value.type "tuple", data := Data.seq #[] } ::
  { cls := Value.none, data := Data.fields #[] } ::
  { cls := Value.type "code", data := Data.fields #[Value.str (Str.ofString "DivisionByZero") 211, Value.str (Str.ofString "DivisionByZero") 212, Value.str (Str.ofString "/claim/cut.py") 213, Value.int 4 0, Value.int 0 0, Value.int 0 0, Value.int 0 0, Value.int 0 0, Value.ref 31, Value.bool false, Value.int 181 0, Value.ref 32, Value.none, Value.none, Value.none, Value.none, Value.int 214 0, Value.int 4 0, Value.str (Str.ofString "/claim/cut.py") 215] } ::
  { cls := Value.type "frame", slots := #[some (Value.ref 33), some (Value.ref 3), some (Value.ref 30), none, some (Value.str (Str.ofString "gmp.limbs") 187), none, some (Value.ref 0)] } ::
  { cls := Value.type "tuple", data := Data.seq #[] } ::
  { cls := Value.type "dict", data := Data.dict #[{ hash := PyData.keyHash P (Str.ofString "__module__"), key := Value.str (Str.ofString "__module__") 216, val := Value.str (Str.ofString "gmp.limbs") 187 }, { hash := PyData.keyHash P (Str.ofString "__firstlineno__"), key := Value.str (Str.ofString "__firstlineno__") 220, val := Value.int 4 219 }, { hash := PyData.keyHash P (Str.ofString "__static_attributes__"), key := Value.str (Str.ofString "__static_attributes__") 221, val := Value.ref 35 }, { hash := PyData.keyHash P (Str.ofString "__doc__"), key := Value.str (Str.ofString "__doc__") 222, val := Value.none }] 2 } ::
  { cls := Value.type "type", data := Data.cls { name := Str.ofString "DivisionByZero", bases := [Value.ref 24], mro := [Value.ref 37, Value.ref 24, Value.type "Exception", Value.type "BaseException", Value.type "object"], ns := 36, qualname := Str.ofString "DivisionByZero" }, slots := #[some (Value.ref 28), none, some (Value.str (Str.ofString "DivisionByZero") 209), some (Value.str (Str.ofString "DivisionByZero") 217), some (Value.builtin "Exception.__new__"), some (Value.bool true)] } ::
  { cls := Value.type "super", data := Data.fields #[Value.ref 37, Value.ref 37, Value.ref 37] } ::
  { cls := Value.type "builtin_function_or_method", data := Data.fields #[Value.builtin "object.__init_subclass__", Value.ref 37] } :: t
noncomputable def hq40 (P : Params) (t : List Obj) : List Obj :=
  { cls := Value.type "tuple", data := Data.seq #[Value.ref 24] } ::
  { cls := Value.type "builtin_function_or_method", data := Data.fields #[Value.builtin "type.__prepare__", Value.type "type"] } ::
  { cls := Value.type "dict", data := Data.dict #[{ hash := PyData.keyHash P (Str.ofString "__module__"), key := Value.str (Str.ofString "__module__") 232, val := Value.str (Str.ofString "gmp.limbs") 187 }, { hash := PyData.keyHash P (Str.ofString "__qualname__"), key := Value.str (Str.ofString "__qualname__") 234, val := Value.str (Str.ofString "NoInverse") 233 }, { hash := PyData.keyHash P (Str.ofString "__firstlineno__"), key := Value.str (Str.ofString "__firstlineno__") 236, val := Value.int 6 235 }, { hash := PyData.keyHash P (Str.ofString "__static_attributes__"), key := Value.str (Str.ofString "__static_attributes__") 237, val := Value.ref 47 }] 4 } ::
  { cls := Value.type "tuple", data := Data.seq #[] } ::
  { cls := Value.none, data := Data.fields #[] } ::
  { cls := Value.type "code", data := Data.fields #[Value.str (Str.ofString "NoInverse") 227, Value.str (Str.ofString "NoInverse") 228, Value.str (Str.ofString "/claim/cut.py") 229, Value.int 6 0, Value.int 0 0, Value.int 0 0, Value.int 0 0, Value.int 0 0, Value.ref 43, Value.bool false, Value.int 181 0, Value.ref 44, Value.none, Value.none, Value.none, Value.none, Value.int 230 0, Value.int 6 0, Value.str (Str.ofString "/claim/cut.py") 231] } ::
  { cls := Value.type "frame", slots := #[some (Value.ref 45), some (Value.ref 3), some (Value.ref 42), none, some (Value.str (Str.ofString "gmp.limbs") 187), none, some (Value.ref 0)] } ::
  { cls := Value.type "tuple", data := Data.seq #[] } ::
  { cls := Value.type "dict", data := Data.dict #[{ hash := PyData.keyHash P (Str.ofString "__module__"), key := Value.str (Str.ofString "__module__") 232, val := Value.str (Str.ofString "gmp.limbs") 187 }, { hash := PyData.keyHash P (Str.ofString "__firstlineno__"), key := Value.str (Str.ofString "__firstlineno__") 236, val := Value.int 6 235 }, { hash := PyData.keyHash P (Str.ofString "__static_attributes__"), key := Value.str (Str.ofString "__static_attributes__") 237, val := Value.ref 47 }, { hash := PyData.keyHash P (Str.ofString "__doc__"), key := Value.str (Str.ofString "__doc__") 238, val := Value.none }] 2 } ::
  { cls := Value.type "type", data := Data.cls { name := Str.ofString "NoInverse", bases := [Value.ref 24], mro := [Value.ref 49, Value.ref 24, Value.type "Exception", Value.type "BaseException", Value.type "object"], ns := 48, qualname := Str.ofString "NoInverse" }, slots := #[some (Value.ref 40), none, some (Value.str (Str.ofString "NoInverse") 225), some (Value.str (Str.ofString "NoInverse") 233), some (Value.builtin "Exception.__new__"), some (Value.bool true)] } ::
  { cls := Value.type "super", data := Data.fields #[Value.ref 49, Value.ref 49, Value.ref 49] } ::
  { cls := Value.type "builtin_function_or_method", data := Data.fields #[Value.builtin "object.__init_subclass__", Value.ref 49] } :: t
/-- what stands from 0 to 52 -/
noncomputable def hs0 (P : Params) (g f c : Obj) (t : List Obj) : List Obj := hq0 P g f (hq20 P c (hq40 P t))
noncomputable def hq52 (P : Params) (t : List Obj) : List Obj :=
  { cls := Value.type "tuple", data := Data.seq #[Value.ref 24] } ::
  { cls := Value.type "builtin_function_or_method", data := Data.fields #[Value.builtin "type.__prepare__", Value.type "type"] } ::
  { cls := Value.type "dict", data := Data.dict #[{ hash := PyData.keyHash P (Str.ofString "__module__"), key := Value.str (Str.ofString "__module__") 248, val := Value.str (Str.ofString "gmp.limbs") 187 }, { hash := PyData.keyHash P (Str.ofString "__qualname__"), key := Value.str (Str.ofString "__qualname__") 250, val := Value.str (Str.ofString "OutOfRange") 249 }, { hash := PyData.keyHash P (Str.ofString "__firstlineno__"), key := Value.str (Str.ofString "__firstlineno__") 252, val := Value.int 8 251 }, { hash := PyData.keyHash P (Str.ofString "__static_attributes__"), key := Value.str (Str.ofString "__static_attributes__") 253, val := Value.ref 59 }] 4 } ::
  { cls := Value.type "tuple", data := Data.seq #[] } ::
  { cls := Value.none, data := Data.fields #[] } ::
  { cls := Value.type "code", data := Data.fields #[Value.str (Str.ofString "OutOfRange") 243, Value.str (Str.ofString "OutOfRange") 244, Value.str (Str.ofString "/claim/cut.py") 245, Value.int 8 0, Value.int 0 0, Value.int 0 0, Value.int 0 0, Value.int 0 0, Value.ref 55, Value.bool false, Value.int 181 0, Value.ref 56, Value.none, Value.none, Value.none, Value.none, Value.int 246 0, Value.int 8 0, Value.str (Str.ofString "/claim/cut.py") 247] } ::
  { cls := Value.type "frame", slots := #[some (Value.ref 57), some (Value.ref 3), some (Value.ref 54), none, some (Value.str (Str.ofString "gmp.limbs") 187), none, some (Value.ref 0)] } ::
  { cls := Value.type "tuple", data := Data.seq #[] } ::
  { cls := Value.type "dict", data := Data.dict #[{ hash := PyData.keyHash P (Str.ofString "__module__"), key := Value.str (Str.ofString "__module__") 248, val := Value.str (Str.ofString "gmp.limbs") 187 }, { hash := PyData.keyHash P (Str.ofString "__firstlineno__"), key := Value.str (Str.ofString "__firstlineno__") 252, val := Value.int 8 251 }, { hash := PyData.keyHash P (Str.ofString "__static_attributes__"), key := Value.str (Str.ofString "__static_attributes__") 253, val := Value.ref 59 }, { hash := PyData.keyHash P (Str.ofString "__doc__"), key := Value.str (Str.ofString "__doc__") 254, val := Value.none }] 2 } ::
  { cls := Value.type "type", data := Data.cls { name := Str.ofString "OutOfRange", bases := [Value.ref 24], mro := [Value.ref 61, Value.ref 24, Value.type "Exception", Value.type "BaseException", Value.type "object"], ns := 60, qualname := Str.ofString "OutOfRange" }, slots := #[some (Value.ref 52), none, some (Value.str (Str.ofString "OutOfRange") 241), some (Value.str (Str.ofString "OutOfRange") 249), some (Value.builtin "Exception.__new__"), some (Value.bool true)] } ::
  { cls := Value.type "super", data := Data.fields #[Value.ref 61, Value.ref 61, Value.ref 61] } ::
  { cls := Value.type "builtin_function_or_method", data := Data.fields #[Value.builtin "object.__init_subclass__", Value.ref 61] } ::
  { cls := Value.type "tuple", data := Data.seq #[] } ::
  { cls := Value.none, data := Data.fields #[] } ::
  { cls := Value.type "tuple", data := Data.seq #[Value.str (Str.ofString "a") 260, Value.str (Str.ofString "end") 261] } ::
  { cls := Value.type "tuple", data := Data.seq #[] } ::
  fuN (dAt 5) ::
  { cls := Value.type "code", data := Data.fields #[Value.str (Str.ofString "normal") 257, Value.str (Str.ofString "normal") 258, Value.str (Str.ofString "/claim/cut.py") 259, Value.int 10 0, Value.int 1 0, Value.int 0 0, Value.int 0 0, Value.int 3 0, Value.ref 64, Value.bool true, Value.int 181 0, Value.ref 65, Value.none, Value.ref 66, Value.ref 67, Value.ref 68, Value.int 262 0, Value.int 10 0, Value.str (Str.ofString "/claim/cut.py") 263] } ::
  fuF (dAt 5) "gmp.limbs" 187 69 ::
  { cls := Value.type "tuple", data := Data.seq #[] } :: t
noncomputable def hq72 (t : List Obj) : List Obj :=
  { cls := Value.none, data := Data.fields #[] } ::
  { cls := Value.type "tuple", data := Data.seq #[Value.str (Str.ofString "a") 268, Value.str (Str.ofString "b") 269, Value.str (Str.ofString "at") 270] } ::
  { cls := Value.type "tuple", data := Data.seq #[] } ::
  fuN (dAt 6) ::
  { cls := Value.type "code", data := Data.fields #[Value.str (Str.ofString "compare") 265, Value.str (Str.ofString "compare") 266, Value.str (Str.ofString "/claim/cut.py") 267, Value.int 15 0, Value.int 2 0, Value.int 0 0, Value.int 0 0, Value.int 3 0, Value.ref 71, Value.bool true, Value.int 181 0, Value.ref 72, Value.none, Value.ref 73, Value.ref 74, Value.ref 75, Value.int 271 0, Value.int 15 0, Value.str (Str.ofString "/claim/cut.py") 272] } ::
  fuF (dAt 6) "gmp.limbs" 187 76 ::
  { cls := Value.type "tuple", data := Data.seq #[] } ::
  { cls := Value.none, data := Data.fields #[] } ::
  { cls := Value.type "tuple", data := Data.seq #[Value.str (Str.ofString "a") 277, Value.str (Str.ofString "b") 278, Value.str (Str.ofString "w") 279, Value.str (Str.ofString "found") 280, Value.str (Str.ofString "carry") 281, Value.str (Str.ofString "mask") 282, Value.str (Str.ofString "at") 283] } ::
  { cls := Value.type "tuple", data := Data.seq #[] } ::
  fuN (dAt 7) ::
  { cls := Value.type "code", data := Data.fields #[Value.str (Str.ofString "add") 274, Value.str (Str.ofString "add") 275, Value.str (Str.ofString "/claim/cut.py") 276, Value.int 22 0, Value.int 3 0, Value.int 0 0, Value.int 0 0, Value.int 3 0, Value.ref 78, Value.bool true, Value.int 181 0, Value.ref 79, Value.none, Value.ref 80, Value.ref 81, Value.ref 82, Value.int 284 0, Value.int 22 0, Value.str (Str.ofString "/claim/cut.py") 285] } ::
  fuF (dAt 7) "gmp.limbs" 187 83 ::
  { cls := Value.type "tuple", data := Data.seq #[] } ::
  { cls := Value.none, data := Data.fields #[] } ::
  { cls := Value.type "tuple", data := Data.seq #[Value.str (Str.ofString "a") 290, Value.str (Str.ofString "b") 291, Value.str (Str.ofString "w") 292, Value.str (Str.ofString "found") 293, Value.str (Str.ofString "borrow") 294, Value.str (Str.ofString "base") 295, Value.str (Str.ofString "at") 296, Value.str (Str.ofString "limb") 297] } ::
  { cls := Value.type "tuple", data := Data.seq #[] } ::
  fuN (dAt 8) ::
  { cls := Value.type "code", data := Data.fields #[Value.str (Str.ofString "sub") 287, Value.str (Str.ofString "sub") 288, Value.str (Str.ofString "/claim/cut.py") 289, Value.int 37 0, Value.int 3 0, Value.int 0 0, Value.int 0 0, Value.int 3 0, Value.ref 85, Value.bool true, Value.int 181 0, Value.ref 86, Value.none, Value.ref 87, Value.ref 88, Value.ref 89, Value.int 298 0, Value.int 37 0, Value.str (Str.ofString "/claim/cut.py") 299] } ::
  fuF (dAt 8) "gmp.limbs" 187 90 :: t
noncomputable def hq92 (t : List Obj) : List Obj :=
  { cls := Value.type "tuple", data := Data.seq #[] } ::
  { cls := Value.none, data := Data.fields #[] } ::
  { cls := Value.type "tuple", data := Data.seq #[Value.str (Str.ofString "a") 304, Value.str (Str.ofString "limb") 305, Value.str (Str.ofString "w") 306, Value.str (Str.ofString "found") 307, Value.str (Str.ofString "mask") 308, Value.str (Str.ofString "one") 309] } ::
  { cls := Value.type "tuple", data := Data.seq #[] } ::
  fuN (dAt 9) ::
  { cls := Value.type "code", data := Data.fields #[Value.str (Str.ofString "add_limb") 301, Value.str (Str.ofString "add_limb") 302, Value.str (Str.ofString "/claim/cut.py") 303, Value.int 46 0, Value.int 3 0, Value.int 0 0, Value.int 0 0, Value.int 3 0, Value.ref 92, Value.bool true, Value.int 181 0, Value.ref 93, Value.none, Value.ref 94, Value.ref 95, Value.ref 96, Value.int 310 0, Value.int 46 0, Value.str (Str.ofString "/claim/cut.py") 311] } ::
  fuF (dAt 9) "gmp.limbs" 187 97 :: t
/-- what stands from 52 to 99 -/
noncomputable def hs52 (P : Params) (t : List Obj) : List Obj := hq52 P (hq72 (hq92 t))
noncomputable def hq99 (t : List Obj) : List Obj :=
  { cls := Value.type "tuple", data := Data.seq #[] } ::
  { cls := Value.none, data := Data.fields #[] } ::
  { cls := Value.type "tuple", data := Data.seq #[Value.str (Str.ofString "a") 316, Value.str (Str.ofString "limb") 317, Value.str (Str.ofString "w") 318, Value.str (Str.ofString "found") 319, Value.str (Str.ofString "rest") 320, Value.str (Str.ofString "at") 321] } ::
  { cls := Value.type "tuple", data := Data.seq #[] } ::
  fuN (dAt 10) ::
  { cls := Value.type "code", data := Data.fields #[Value.str (Str.ofString "divrem_limb") 313, Value.str (Str.ofString "divrem_limb") 314, Value.str (Str.ofString "/claim/cut.py") 315, Value.int 55 0, Value.int 3 0, Value.int 0 0, Value.int 0 0, Value.int 3 0, Value.ref 99, Value.bool true, Value.int 181 0, Value.ref 100, Value.none, Value.ref 101, Value.ref 102, Value.ref 103, Value.int 322 0, Value.int 55 0, Value.str (Str.ofString "/claim/cut.py") 323] } ::
  fuF (dAt 10) "gmp.limbs" 187 104 ::
  { cls := Value.type "tuple", data := Data.seq #[] } ::
  { cls := Value.none, data := Data.fields #[] } ::
  { cls := Value.type "tuple", data := Data.seq #[Value.str (Str.ofString "a") 328, Value.str (Str.ofString "n") 329, Value.str (Str.ofString "w") 330, Value.str (Str.ofString "spots") 331, Value.str (Str.ofString "few") 332, Value.str (Str.ofString "found") 333, Value.str (Str.ofString "carry") 334, Value.str (Str.ofString "mask") 335, Value.str (Str.ofString "one") 336] } ::
  { cls := Value.type "tuple", data := Data.seq #[] } ::
  fuN (dAt 11) ::
  { cls := Value.type "code", data := Data.fields #[Value.str (Str.ofString "shift_left") 325, Value.str (Str.ofString "shift_left") 326, Value.str (Str.ofString "/claim/cut.py") 327, Value.int 64 0, Value.int 3 0, Value.int 0 0, Value.int 0 0, Value.int 3 0, Value.ref 106, Value.bool true, Value.int 181 0, Value.ref 107, Value.none, Value.ref 108, Value.ref 109, Value.ref 110, Value.int 337 0, Value.int 64 0, Value.str (Str.ofString "/claim/cut.py") 338] } ::
  fuF (dAt 11) "gmp.limbs" 187 111 ::
  { cls := Value.type "tuple", data := Data.seq #[] } ::
  { cls := Value.none, data := Data.fields #[] } ::
  { cls := Value.type "tuple", data := Data.seq #[Value.str (Str.ofString "a") 343, Value.str (Str.ofString "n") 344, Value.str (Str.ofString "w") 345, Value.str (Str.ofString "spots") 346, Value.str (Str.ofString "few") 347, Value.str (Str.ofString "found") 348, Value.str (Str.ofString "mask") 349, Value.str (Str.ofString "at") 350, Value.str (Str.ofString "above") 351] } ::
  { cls := Value.type "tuple", data := Data.seq #[] } ::
  fuN (dAt 12) ::
  { cls := Value.type "code", data := Data.fields #[Value.str (Str.ofString "shift_right") 340, Value.str (Str.ofString "shift_right") 341, Value.str (Str.ofString "/claim/cut.py") 342, Value.int 76 0, Value.int 3 0, Value.int 0 0, Value.int 0 0, Value.int 3 0, Value.ref 113, Value.bool true, Value.int 181 0, Value.ref 114, Value.none, Value.ref 115, Value.ref 116, Value.ref 117, Value.int 352 0, Value.int 76 0, Value.str (Str.ofString "/claim/cut.py") 353] } :: t
noncomputable def hq119 (t : List Obj) : List Obj :=
  fuF (dAt 12) "gmp.limbs" 187 118 ::
  { cls := Value.type "tuple", data := Data.seq #[] } ::
  { cls := Value.none, data := Data.fields #[] } ::
  { cls := Value.type "tuple", data := Data.seq #[Value.str (Str.ofString "a") 358, Value.str (Str.ofString "w") 359] } ::
  { cls := Value.type "tuple", data := Data.seq #[] } ::
  fuN (dAt 13) ::
  { cls := Value.type "code", data := Data.fields #[Value.str (Str.ofString "bits") 355, Value.str (Str.ofString "bits") 356, Value.str (Str.ofString "/claim/cut.py") 357, Value.int 83 0, Value.int 2 0, Value.int 0 0, Value.int 0 0, Value.int 3 0, Value.ref 120, Value.bool true, Value.int 181 0, Value.ref 121, Value.none, Value.ref 122, Value.ref 123, Value.ref 124, Value.int 360 0, Value.int 83 0, Value.str (Str.ofString "/claim/cut.py") 361] } ::
  fuF (dAt 13) "gmp.limbs" 187 125 ::
  { cls := Value.type "tuple", data := Data.seq #[] } ::
  { cls := Value.none, data := Data.fields #[] } ::
  { cls := Value.type "tuple", data := Data.seq #[Value.str (Str.ofString "a") 366, Value.str (Str.ofString "n") 367, Value.str (Str.ofString "w") 368, Value.str (Str.ofString "spots") 369, Value.str (Str.ofString "few") 370] } ::
  { cls := Value.type "tuple", data := Data.seq #[] } ::
  fuN (dAt 14) ::
  { cls := Value.type "code", data := Data.fields #[Value.str (Str.ofString "low") 363, Value.str (Str.ofString "low") 364, Value.str (Str.ofString "/claim/cut.py") 365, Value.int 85 0, Value.int 3 0, Value.int 0 0, Value.int 0 0, Value.int 3 0, Value.ref 127, Value.bool true, Value.int 181 0, Value.ref 128, Value.none, Value.ref 129, Value.ref 130, Value.ref 131, Value.int 371 0, Value.int 85 0, Value.str (Str.ofString "/claim/cut.py") 372] } ::
  fuF (dAt 14) "gmp.limbs" 187 132 ::
  { cls := Value.type "list", data := Data.seq #[Value.int 1 376] } ::
  { cls := Value.type "list", data := Data.seq #[] } ::
  { cls := Value.type "list", data := Data.seq #[] } ::
  { cls := Value.type "list", data := Data.seq #[Value.int 1 377] } ::
  { cls := Value.type "tuple", data := Data.seq #[Value.ref 134, Value.ref 135, Value.ref 136, Value.ref 137] } :: t
noncomputable def hq139 (t : List Obj) : List Obj :=
  { cls := Value.type "tuple", data := Data.seq #[] } ::
  { cls := Value.none, data := Data.fields #[] } ::
  { cls := Value.type "tuple", data := Data.seq #[Value.str (Str.ofString "one") 382, Value.str (Str.ofString "other") 383, Value.str (Str.ofString "w") 384, Value.str (Str.ofString "mul") 385, Value.str (Str.ofString "m") 386, Value.str (Str.ofString "n") 387, Value.str (Str.ofString "p") 388, Value.str (Str.ofString "q") 389, Value.str (Str.ofString "c") 390, Value.str (Str.ofString "d") 391, Value.str (Str.ofString "e") 392, Value.str (Str.ofString "f") 393] } ::
  { cls := Value.type "tuple", data := Data.seq #[] } ::
  fuN (dAt 17) ::
  { cls := Value.type "code", data := Data.fields #[Value.str (Str.ofString "matrix_mul") 379, Value.str (Str.ofString "matrix_mul") 380, Value.str (Str.ofString "/claim/cut.py") 381, Value.int 92 0, Value.int 4 0, Value.int 0 0, Value.int 0 0, Value.int 3 0, Value.ref 139, Value.bool true, Value.int 181 0, Value.ref 140, Value.none, Value.ref 141, Value.ref 142, Value.ref 143, Value.int 394 0, Value.int 92 0, Value.str (Str.ofString "/claim/cut.py") 395] } ::
  fuF (dAt 17) "gmp.halfgcd" 374 144 ::
  { cls := Value.type "tuple", data := Data.seq #[] } ::
  { cls := Value.none, data := Data.fields #[] } ::
  { cls := Value.type "tuple", data := Data.seq #[Value.str (Str.ofString "matrix") 400, Value.str (Str.ofString "a") 401, Value.str (Str.ofString "b") 402, Value.str (Str.ofString "place") 403, Value.str (Str.ofString "high") 404, Value.str (Str.ofString "w") 405, Value.str (Str.ofString "mul") 406, Value.str (Str.ofString "m") 407, Value.str (Str.ofString "n") 408, Value.str (Str.ofString "p") 409, Value.str (Str.ofString "q") 410, Value.str (Str.ofString "c") 411, Value.str (Str.ofString "d") 412] } ::
  { cls := Value.type "tuple", data := Data.seq #[] } ::
  fuN (dAt 18) ::
  { cls := Value.type "code", data := Data.fields #[Value.str (Str.ofString "led_back") 397, Value.str (Str.ofString "led_back") 398, Value.str (Str.ofString "/claim/cut.py") 399, Value.int 96 0, Value.int 7 0, Value.int 0 0, Value.int 0 0, Value.int 3 0, Value.ref 146, Value.bool true, Value.int 181 0, Value.ref 147, Value.none, Value.ref 148, Value.ref 149, Value.ref 150, Value.int 413 0, Value.int 96 0, Value.str (Str.ofString "/claim/cut.py") 414] } ::
  fuF (dAt 18) "gmp.halfgcd" 374 151 ::
  { cls := Value.type "tuple", data := Data.seq #[] } ::
  { cls := Value.none, data := Data.fields #[] } ::
  { cls := Value.type "tuple", data := Data.seq #[Value.str (Str.ofString "a") 419, Value.str (Str.ofString "b") 420, Value.str (Str.ofString "size") 421, Value.str (Str.ofString "w") 422, Value.str (Str.ofString "divrem") 423, Value.str (Str.ofString "quotient") 424, Value.str (Str.ofString "rest") 425] } ::
  { cls := Value.type "tuple", data := Data.seq #[] } ::
  fuN (dAt 19) ::
  { cls := Value.type "code", data := Data.fields #[Value.str (Str.ofString "great_step") 416, Value.str (Str.ofString "great_step") 417, Value.str (Str.ofString "/claim/cut.py") 418, Value.int 100 0, Value.int 5 0, Value.int 0 0, Value.int 0 0, Value.int 3 0, Value.ref 153, Value.bool true, Value.int 181 0, Value.ref 154, Value.none, Value.ref 155, Value.ref 156, Value.ref 157, Value.int 426 0, Value.int 100 0, Value.str (Str.ofString "/claim/cut.py") 427] } :: t
noncomputable def hq159 (t : List Obj) : List Obj :=
  fuF (dAt 19) "gmp.halfgcd" 374 158 ::
  { cls := Value.type "tuple", data := Data.seq #[] } ::
  { cls := Value.none, data := Data.fields #[] } ::
  { cls := Value.type "tuple", data := Data.seq #[Value.str (Str.ofString "state") 432, Value.str (Str.ofString "size") 433, Value.str (Str.ofString "w") 434, Value.str (Str.ofString "mul") 435, Value.str (Str.ofString "divrem") 436, Value.str (Str.ofString "matrix") 437, Value.str (Str.ofString "a") 438, Value.str (Str.ofString "b") 439, Value.str (Str.ofString "quotient") 440] } ::
  { cls := Value.type "tuple", data := Data.seq #[] } ::
  fuN (dAt 20) ::
  { cls := Value.type "code", data := Data.fields #[Value.str (Str.ofString "one_step") 429, Value.str (Str.ofString "one_step") 430, Value.str (Str.ofString "/claim/cut.py") 431, Value.int 105 0, Value.int 5 0, Value.int 0 0, Value.int 0 0, Value.int 3 0, Value.ref 160, Value.bool true, Value.int 181 0, Value.ref 161, Value.none, Value.ref 162, Value.ref 163, Value.ref 164, Value.int 441 0, Value.int 105 0, Value.str (Str.ofString "/claim/cut.py") 442] } ::
  fuF (dAt 20) "gmp.halfgcd" 374 165 ::
  { cls := Value.type "tuple", data := Data.seq #[] } ::
  { cls := Value.none, data := Data.fields #[] } ::
  { cls := Value.type "tuple", data := Data.seq #[Value.str (Str.ofString "a") 447, Value.str (Str.ofString "b") 448, Value.str (Str.ofString "w") 449] } ::
  { cls := Value.type "tuple", data := Data.seq #[] } ::
  fuN (dAt 21) ::
  { cls := Value.type "code", data := Data.fields #[Value.str (Str.ofString "difference_bits") 444, Value.str (Str.ofString "difference_bits") 445, Value.str (Str.ofString "/claim/cut.py") 446, Value.int 112 0, Value.int 3 0, Value.int 0 0, Value.int 0 0, Value.int 3 0, Value.ref 167, Value.bool true, Value.int 181 0, Value.ref 168, Value.none, Value.ref 169, Value.ref 170, Value.ref 171, Value.int 450 0, Value.int 112 0, Value.str (Str.ofString "/claim/cut.py") 451] } ::
  fuF (dAt 21) "gmp.halfgcd" 374 172 :: t
/-- what stands from 99 to 174 -/
noncomputable def hs99 (P : Params) (t : List Obj) : List Obj := hq99 (hq119 (hq139 (hq159 t)))
noncomputable def hq174 (t : List Obj) : List Obj :=
  { cls := Value.type "tuple", data := Data.seq #[] } ::
  { cls := Value.none, data := Data.fields #[] } ::
  { cls := Value.type "tuple", data := Data.seq #[Value.str (Str.ofString "a") 456, Value.str (Str.ofString "b") 457, Value.str (Str.ofString "w") 458] } ::
  { cls := Value.type "tuple", data := Data.seq #[] } ::
  fuN (dAt 22) ::
  { cls := Value.type "code", data := Data.fields #[Value.str (Str.ofString "least_bits") 453, Value.str (Str.ofString "least_bits") 454, Value.str (Str.ofString "/claim/cut.py") 455, Value.int 114 0, Value.int 3 0, Value.int 0 0, Value.int 0 0, Value.int 3 0, Value.ref 174, Value.bool true, Value.int 181 0, Value.ref 175, Value.none, Value.ref 176, Value.ref 177, Value.ref 178, Value.int 459 0, Value.int 114 0, Value.str (Str.ofString "/claim/cut.py") 460] } ::
  fuF (dAt 22) "gmp.halfgcd" 374 179 ::
  { cls := Value.type "tuple", data := Data.seq #[] } ::
  { cls := Value.none, data := Data.fields #[] } ::
  { cls := Value.type "tuple", data := Data.seq #[Value.str (Str.ofString "a") 465, Value.str (Str.ofString "b") 466, Value.str (Str.ofString "w") 467] } ::
  { cls := Value.type "tuple", data := Data.seq #[] } ::
  fuN (dAt 23) ::
  { cls := Value.type "code", data := Data.fields #[Value.str (Str.ofString "most_bits") 462, Value.str (Str.ofString "most_bits") 463, Value.str (Str.ofString "/claim/cut.py") 464, Value.int 116 0, Value.int 3 0, Value.int 0 0, Value.int 0 0, Value.int 3 0, Value.ref 181, Value.bool true, Value.int 181 0, Value.ref 182, Value.none, Value.ref 183, Value.ref 184, Value.ref 185, Value.int 468 0, Value.int 116 0, Value.str (Str.ofString "/claim/cut.py") 469] } ::
  fuF (dAt 23) "gmp.halfgcd" 374 186 ::
  { cls := Value.type "tuple", data := Data.seq #[] } ::
  { cls := Value.none, data := Data.fields #[] } ::
  { cls := Value.type "tuple", data := Data.seq #[Value.str (Str.ofString "state") 474, Value.str (Str.ofString "place") 475, Value.str (Str.ofString "least") 476, Value.str (Str.ofString "w") 477, Value.str (Str.ofString "mul") 478, Value.str (Str.ofString "divrem") 479, Value.str (Str.ofString "matrix") 480, Value.str (Str.ofString "a") 481, Value.str (Str.ofString "b") 482, Value.str (Str.ofString "part") 483, Value.str (Str.ofString "c") 484, Value.str (Str.ofString "d") 485] } ::
  { cls := Value.type "tuple", data := Data.seq #[] } ::
  fuN (dAt 24) ::
  { cls := Value.type "code", data := Data.fields #[Value.str (Str.ofString "by_high") 471, Value.str (Str.ofString "by_high") 472, Value.str (Str.ofString "/claim/cut.py") 473, Value.int 118 0, Value.int 6 0, Value.int 0 0, Value.int 0 0, Value.int 3 0, Value.ref 188, Value.bool true, Value.int 181 0, Value.ref 189, Value.none, Value.ref 190, Value.ref 191, Value.ref 192, Value.int 486 0, Value.int 118 0, Value.str (Str.ofString "/claim/cut.py") 487] } :: t
noncomputable def hq194 (t : List Obj) : List Obj :=
  fuF (dAt 24) "gmp.halfgcd" 374 193 ::
  { cls := Value.type "tuple", data := Data.seq #[] } ::
  { cls := Value.none, data := Data.fields #[] } ::
  { cls := Value.type "tuple", data := Data.seq #[Value.str (Str.ofString "a") 492, Value.str (Str.ofString "b") 493, Value.str (Str.ofString "w") 494, Value.str (Str.ofString "least") 495, Value.str (Str.ofString "mul") 496, Value.str (Str.ofString "divrem") 497, Value.str (Str.ofString "size") 498, Value.str (Str.ofString "half") 499, Value.str (Str.ofString "state") 500, Value.str (Str.ofString "now") 501] } ::
  { cls := Value.type "tuple", data := Data.seq #[] } ::
  fuN (dAt 25) ::
  { cls := Value.type "code", data := Data.fields #[Value.str (Str.ofString "half_gcd") 489, Value.str (Str.ofString "half_gcd") 490, Value.str (Str.ofString "/claim/cut.py") 491, Value.int 123 0, Value.int 6 0, Value.int 0 0, Value.int 0 0, Value.int 3 0, Value.ref 195, Value.bool true, Value.int 181 0, Value.ref 196, Value.none, Value.ref 197, Value.ref 198, Value.ref 199, Value.int 502 0, Value.int 123 0, Value.str (Str.ofString "/claim/cut.py") 503] } ::
  fuF (dAt 25) "gmp.halfgcd" 374 200 ::
  { cls := Value.type "tuple", data := Data.seq #[] } ::
  { cls := Value.none, data := Data.fields #[] } ::
  { cls := Value.type "tuple", data := Data.seq #[Value.str (Str.ofString "is_below") 510, Value.str (Str.ofString "nat") 511] } ::
  { cls := Value.type "tuple", data := Data.seq #[] } ::
  fuN (dAt 27) ::
  { cls := Value.type "code", data := Data.fields #[Value.str (Str.ofString "signed") 507, Value.str (Str.ofString "signed") 508, Value.str (Str.ofString "/claim/cut.py") 509, Value.int 140 0, Value.int 2 0, Value.int 0 0, Value.int 0 0, Value.int 3 0, Value.ref 202, Value.bool true, Value.int 181 0, Value.ref 203, Value.none, Value.ref 204, Value.ref 205, Value.ref 206, Value.int 512 0, Value.int 140 0, Value.str (Str.ofString "/claim/cut.py") 513] } ::
  fuF (dAt 27) "gmp.signed" 505 207 ::
  { cls := Value.type "tuple", data := Data.seq #[] } ::
  { cls := Value.none, data := Data.fields #[] } ::
  { cls := Value.type "tuple", data := Data.seq #[Value.str (Str.ofString "x") 518] } ::
  { cls := Value.type "tuple", data := Data.seq #[] } ::
  fuN (dAt 28) :: t
noncomputable def hq214 (t : List Obj) : List Obj :=
  { cls := Value.type "code", data := Data.fields #[Value.str (Str.ofString "s_neg") 515, Value.str (Str.ofString "s_neg") 516, Value.str (Str.ofString "/claim/cut.py") 517, Value.int 142 0, Value.int 1 0, Value.int 0 0, Value.int 0 0, Value.int 3 0, Value.ref 209, Value.bool true, Value.int 181 0, Value.ref 210, Value.none, Value.ref 211, Value.ref 212, Value.ref 213, Value.int 519 0, Value.int 142 0, Value.str (Str.ofString "/claim/cut.py") 520] } ::
  fuF (dAt 28) "gmp.signed" 505 214 ::
  { cls := Value.type "tuple", data := Data.seq #[] } ::
  { cls := Value.none, data := Data.fields #[] } ::
  { cls := Value.type "tuple", data := Data.seq #[Value.str (Str.ofString "x") 525] } ::
  { cls := Value.type "tuple", data := Data.seq #[] } ::
  fuN (dAt 29) ::
  { cls := Value.type "code", data := Data.fields #[Value.str (Str.ofString "s_abs") 522, Value.str (Str.ofString "s_abs") 523, Value.str (Str.ofString "/claim/cut.py") 524, Value.int 144 0, Value.int 1 0, Value.int 0 0, Value.int 0 0, Value.int 3 0, Value.ref 216, Value.bool true, Value.int 181 0, Value.ref 217, Value.none, Value.ref 218, Value.ref 219, Value.ref 220, Value.int 526 0, Value.int 144 0, Value.str (Str.ofString "/claim/cut.py") 527] } ::
  fuF (dAt 29) "gmp.signed" 505 221 ::
  { cls := Value.type "tuple", data := Data.seq #[] } ::
  { cls := Value.none, data := Data.fields #[] } ::
  { cls := Value.type "tuple", data := Data.seq #[Value.str (Str.ofString "x") 532, Value.str (Str.ofString "y") 533, Value.str (Str.ofString "w") 534] } ::
  { cls := Value.type "tuple", data := Data.seq #[] } ::
  fuN (dAt 30) ::
  { cls := Value.type "code", data := Data.fields #[Value.str (Str.ofString "s_add") 529, Value.str (Str.ofString "s_add") 530, Value.str (Str.ofString "/claim/cut.py") 531, Value.int 146 0, Value.int 3 0, Value.int 0 0, Value.int 0 0, Value.int 3 0, Value.ref 223, Value.bool true, Value.int 181 0, Value.ref 224, Value.none, Value.ref 225, Value.ref 226, Value.ref 227, Value.int 535 0, Value.int 146 0, Value.str (Str.ofString "/claim/cut.py") 536] } ::
  fuF (dAt 30) "gmp.signed" 505 228 ::
  { cls := Value.type "tuple", data := Data.seq #[] } ::
  { cls := Value.none, data := Data.fields #[] } ::
  { cls := Value.type "tuple", data := Data.seq #[Value.str (Str.ofString "x") 541, Value.str (Str.ofString "y") 542, Value.str (Str.ofString "w") 543] } ::
  { cls := Value.type "tuple", data := Data.seq #[] } :: t
noncomputable def hq234 (t : List Obj) : List Obj :=
  fuN (dAt 31) ::
  { cls := Value.type "code", data := Data.fields #[Value.str (Str.ofString "s_sub") 538, Value.str (Str.ofString "s_sub") 539, Value.str (Str.ofString "/claim/cut.py") 540, Value.int 152 0, Value.int 3 0, Value.int 0 0, Value.int 0 0, Value.int 3 0, Value.ref 230, Value.bool true, Value.int 181 0, Value.ref 231, Value.none, Value.ref 232, Value.ref 233, Value.ref 234, Value.int 544 0, Value.int 152 0, Value.str (Str.ofString "/claim/cut.py") 545] } ::
  fuF (dAt 31) "gmp.signed" 505 235 ::
  { cls := Value.type "tuple", data := Data.seq #[] } ::
  { cls := Value.none, data := Data.fields #[] } ::
  { cls := Value.type "tuple", data := Data.seq #[Value.str (Str.ofString "x") 550, Value.str (Str.ofString "y") 551, Value.str (Str.ofString "w") 552, Value.str (Str.ofString "mul") 553] } ::
  { cls := Value.type "tuple", data := Data.seq #[] } ::
  fuN (dAt 32) ::
  { cls := Value.type "code", data := Data.fields #[Value.str (Str.ofString "s_mul") 547, Value.str (Str.ofString "s_mul") 548, Value.str (Str.ofString "/claim/cut.py") 549, Value.int 154 0, Value.int 4 0, Value.int 0 0, Value.int 0 0, Value.int 3 0, Value.ref 237, Value.bool true, Value.int 181 0, Value.ref 238, Value.none, Value.ref 239, Value.ref 240, Value.ref 241, Value.int 554 0, Value.int 154 0, Value.str (Str.ofString "/claim/cut.py") 555] } ::
  fuF (dAt 32) "gmp.signed" 505 242 ::
  { cls := Value.type "tuple", data := Data.seq #[] } ::
  { cls := Value.none, data := Data.fields #[] } ::
  { cls := Value.type "tuple", data := Data.seq #[Value.str (Str.ofString "x") 560, Value.str (Str.ofString "y") 561, Value.str (Str.ofString "w") 562, Value.str (Str.ofString "divrem") 563, Value.str (Str.ofString "quotient") 564, Value.str (Str.ofString "rest") 565] } ::
  { cls := Value.type "tuple", data := Data.seq #[] } ::
  fuN (dAt 33) ::
  { cls := Value.type "code", data := Data.fields #[Value.str (Str.ofString "tdiv") 557, Value.str (Str.ofString "tdiv") 558, Value.str (Str.ofString "/claim/cut.py") 559, Value.int 156 0, Value.int 4 0, Value.int 0 0, Value.int 0 0, Value.int 3 0, Value.ref 244, Value.bool true, Value.int 181 0, Value.ref 245, Value.none, Value.ref 246, Value.ref 247, Value.ref 248, Value.int 566 0, Value.int 156 0, Value.str (Str.ofString "/claim/cut.py") 567] } ::
  fuF (dAt 33) "gmp.signed" 505 249 ::
  { cls := Value.type "tuple", data := Data.seq #[] } ::
  { cls := Value.none, data := Data.fields #[] } ::
  { cls := Value.type "tuple", data := Data.seq #[Value.str (Str.ofString "x") 572, Value.str (Str.ofString "y") 573, Value.str (Str.ofString "w") 574, Value.str (Str.ofString "divrem") 575, Value.str (Str.ofString "quotient") 576, Value.str (Str.ofString "rest") 577] } :: t
noncomputable def hq254 (t : List Obj) : List Obj :=
  { cls := Value.type "tuple", data := Data.seq #[] } ::
  fuN (dAt 34) ::
  { cls := Value.type "code", data := Data.fields #[Value.str (Str.ofString "fdiv") 569, Value.str (Str.ofString "fdiv") 570, Value.str (Str.ofString "/claim/cut.py") 571, Value.int 161 0, Value.int 4 0, Value.int 0 0, Value.int 0 0, Value.int 3 0, Value.ref 251, Value.bool true, Value.int 181 0, Value.ref 252, Value.none, Value.ref 253, Value.ref 254, Value.ref 255, Value.int 578 0, Value.int 161 0, Value.str (Str.ofString "/claim/cut.py") 579] } ::
  fuF (dAt 34) "gmp.signed" 505 256 :: t
/-- what stands from 174 to 258 -/
noncomputable def hs174 (P : Params) (t : List Obj) : List Obj := hq174 (hq194 (hq214 (hq234 (hq254 t))))
noncomputable def hq258 (t : List Obj) : List Obj :=
  { cls := Value.type "tuple", data := Data.seq #[] } ::
  { cls := Value.none, data := Data.fields #[] } ::
  { cls := Value.type "tuple", data := Data.seq #[Value.str (Str.ofString "x") 584, Value.str (Str.ofString "y") 585, Value.str (Str.ofString "w") 586, Value.str (Str.ofString "divrem") 587] } ::
  { cls := Value.type "tuple", data := Data.seq #[] } ::
  fuN (dAt 35) ::
  { cls := Value.type "code", data := Data.fields #[Value.str (Str.ofString "s_mod") 581, Value.str (Str.ofString "s_mod") 582, Value.str (Str.ofString "/claim/cut.py") 583, Value.int 166 0, Value.int 4 0, Value.int 0 0, Value.int 0 0, Value.int 3 0, Value.ref 258, Value.bool true, Value.int 181 0, Value.ref 259, Value.none, Value.ref 260, Value.ref 261, Value.ref 262, Value.int 588 0, Value.int 166 0, Value.str (Str.ofString "/claim/cut.py") 589] } ::
  fuF (dAt 35) "gmp.signed" 505 263 ::
  { cls := Value.type "tuple", data := Data.seq #[] } ::
  { cls := Value.none, data := Data.fields #[] } ::
  { cls := Value.type "tuple", data := Data.seq #[Value.str (Str.ofString "a") 596, Value.str (Str.ofString "b") 597, Value.str (Str.ofString "w") 598, Value.str (Str.ofString "mul") 599, Value.str (Str.ofString "divrem") 600, Value.str (Str.ofString "s") 601, Value.str (Str.ofString "later_s") 602, Value.str (Str.ofString "t") 603, Value.str (Str.ofString "later_t") 604, Value.str (Str.ofString "quotient") 605, Value.str (Str.ofString "rest") 606, Value.str (Str.ofString "told") 607] } ::
  { cls := Value.type "tuple", data := Data.seq #[] } ::
  fuN (dAt 37) ::
  { cls := Value.type "code", data := Data.fields #[Value.str (Str.ofString "gcd_ext") 593, Value.str (Str.ofString "gcd_ext") 594, Value.str (Str.ofString "/claim/cut.py") 595, Value.int 169 0, Value.int 5 0, Value.int 0 0, Value.int 0 0, Value.int 3 0, Value.ref 265, Value.bool true, Value.int 181 0, Value.ref 266, Value.none, Value.ref 267, Value.ref 268, Value.ref 269, Value.int 608 0, Value.int 169 0, Value.str (Str.ofString "/claim/cut.py") 609] } ::
  fuF (dAt 37) "gmp.cofactors" 591 270 ::
  { cls := Value.type "tuple", data := Data.seq #[] } ::
  { cls := Value.none, data := Data.fields #[] } ::
  { cls := Value.type "tuple", data := Data.seq #[Value.str (Str.ofString "a") 614, Value.str (Str.ofString "m") 615, Value.str (Str.ofString "w") 616, Value.str (Str.ofString "mul") 617, Value.str (Str.ofString "divrem") 618, Value.str (Str.ofString "g") 619, Value.str (Str.ofString "s") 620, Value.str (Str.ofString "t") 621] } ::
  { cls := Value.type "tuple", data := Data.seq #[] } ::
  fuN (dAt 38) ::
  { cls := Value.type "code", data := Data.fields #[Value.str (Str.ofString "inverse_mod") 611, Value.str (Str.ofString "inverse_mod") 612, Value.str (Str.ofString "/claim/cut.py") 613, Value.int 183 0, Value.int 5 0, Value.int 0 0, Value.int 0 0, Value.int 3 0, Value.ref 272, Value.bool true, Value.int 181 0, Value.ref 273, Value.none, Value.ref 274, Value.ref 275, Value.ref 276, Value.int 622 0, Value.int 183 0, Value.str (Str.ofString "/claim/cut.py") 623] } :: t
noncomputable def hq278 (t : List Obj) : List Obj :=
  fuF (dAt 38) "gmp.cofactors" 591 277 ::
  { cls := Value.type "tuple", data := Data.seq #[] } ::
  { cls := Value.none, data := Data.fields #[] } ::
  { cls := Value.type "tuple", data := Data.seq #[Value.str (Str.ofString "a") 630, Value.str (Str.ofString "b") 631, Value.str (Str.ofString "w") 632, Value.str (Str.ofString "found") 633, Value.str (Str.ofString "mask") 634, Value.str (Str.ofString "at") 635, Value.str (Str.ofString "limb") 636, Value.str (Str.ofString "carry") 637, Value.str (Str.ofString "spot") 638, Value.str (Str.ofString "other") 639] } ::
  { cls := Value.type "tuple", data := Data.seq #[] } ::
  fuN (dAt 40) ::
  { cls := Value.type "code", data := Data.fields #[Value.str (Str.ofString "mul_school") 627, Value.str (Str.ofString "mul_school") 628, Value.str (Str.ofString "/claim/cut.py") 629, Value.int 191 0, Value.int 3 0, Value.int 0 0, Value.int 0 0, Value.int 3 0, Value.ref 279, Value.bool true, Value.int 181 0, Value.ref 280, Value.none, Value.ref 281, Value.ref 282, Value.ref 283, Value.int 640 0, Value.int 191 0, Value.str (Str.ofString "/claim/cut.py") 641] } ::
  fuF (dAt 40) "gmp.school" 625 284 ::
  { cls := Value.type "tuple", data := Data.seq #[] } ::
  { cls := Value.none, data := Data.fields #[] } ::
  { cls := Value.type "tuple", data := Data.seq #[Value.str (Str.ofString "a") 646, Value.str (Str.ofString "b") 647, Value.str (Str.ofString "w") 648, Value.str (Str.ofString "quotient") 649, Value.str (Str.ofString "rest") 650] } ::
  { cls := Value.type "tuple", data := Data.seq #[] } ::
  fuN (dAt 41) ::
  { cls := Value.type "code", data := Data.fields #[Value.str (Str.ofString "divrem_small") 643, Value.str (Str.ofString "divrem_small") 644, Value.str (Str.ofString "/claim/cut.py") 645, Value.int 201 0, Value.int 3 0, Value.int 0 0, Value.int 0 0, Value.int 3 0, Value.ref 286, Value.bool true, Value.int 181 0, Value.ref 287, Value.none, Value.ref 288, Value.ref 289, Value.ref 290, Value.int 651 0, Value.int 201 0, Value.str (Str.ofString "/claim/cut.py") 652] } ::
  fuF (dAt 41) "gmp.school" 625 291 ::
  { cls := Value.type "tuple", data := Data.seq #[] } ::
  { cls := Value.none, data := Data.fields #[] } ::
  { cls := Value.type "tuple", data := Data.seq #[Value.str (Str.ofString "top") 657, Value.str (Str.ofString "first") 658, Value.str (Str.ofString "second") 659, Value.str (Str.ofString "w") 660, Value.str (Str.ofString "high") 661, Value.str (Str.ofString "base") 662, Value.str (Str.ofString "limb") 663, Value.str (Str.ofString "rest") 664] } ::
  { cls := Value.type "tuple", data := Data.seq #[] } ::
  fuN (dAt 42) :: t
noncomputable def hq298 (t : List Obj) : List Obj :=
  { cls := Value.type "code", data := Data.fields #[Value.str (Str.ofString "guessed_limb") 654, Value.str (Str.ofString "guessed_limb") 655, Value.str (Str.ofString "/claim/cut.py") 656, Value.int 204 0, Value.int 4 0, Value.int 0 0, Value.int 0 0, Value.int 3 0, Value.ref 293, Value.bool true, Value.int 181 0, Value.ref 294, Value.none, Value.ref 295, Value.ref 296, Value.ref 297, Value.int 665 0, Value.int 204 0, Value.str (Str.ofString "/claim/cut.py") 666] } ::
  fuF (dAt 42) "gmp.school" 625 298 ::
  { cls := Value.type "tuple", data := Data.seq #[] } ::
  { cls := Value.none, data := Data.fields #[] } ::
  { cls := Value.type "tuple", data := Data.seq #[Value.str (Str.ofString "rest") 671, Value.str (Str.ofString "b") 672, Value.str (Str.ofString "limb") 673, Value.str (Str.ofString "at") 674, Value.str (Str.ofString "w") 675, Value.str (Str.ofString "carry") 676, Value.str (Str.ofString "base") 677, Value.str (Str.ofString "spot") 678, Value.str (Str.ofString "other") 679, Value.str (Str.ofString "here") 680] } ::
  { cls := Value.type "tuple", data := Data.seq #[] } ::
  fuN (dAt 43) ::
  { cls := Value.type "code", data := Data.fields #[Value.str (Str.ofString "take_away") 668, Value.str (Str.ofString "take_away") 669, Value.str (Str.ofString "/claim/cut.py") 670, Value.int 212 0, Value.int 5 0, Value.int 0 0, Value.int 0 0, Value.int 3 0, Value.ref 300, Value.bool true, Value.int 181 0, Value.ref 301, Value.none, Value.ref 302, Value.ref 303, Value.ref 304, Value.int 681 0, Value.int 212 0, Value.str (Str.ofString "/claim/cut.py") 682] } ::
  fuF (dAt 43) "gmp.school" 625 305 ::
  { cls := Value.type "tuple", data := Data.seq #[] } ::
  { cls := Value.none, data := Data.fields #[] } ::
  { cls := Value.type "tuple", data := Data.seq #[Value.str (Str.ofString "rest") 687, Value.str (Str.ofString "b") 688, Value.str (Str.ofString "at") 689, Value.str (Str.ofString "w") 690, Value.str (Str.ofString "carry") 691, Value.str (Str.ofString "mask") 692, Value.str (Str.ofString "spot") 693, Value.str (Str.ofString "other") 694] } ::
  { cls := Value.type "tuple", data := Data.seq #[] } ::
  fuN (dAt 44) ::
  { cls := Value.type "code", data := Data.fields #[Value.str (Str.ofString "put_back") 684, Value.str (Str.ofString "put_back") 685, Value.str (Str.ofString "/claim/cut.py") 686, Value.int 221 0, Value.int 4 0, Value.int 0 0, Value.int 0 0, Value.int 3 0, Value.ref 307, Value.bool true, Value.int 181 0, Value.ref 308, Value.none, Value.ref 309, Value.ref 310, Value.ref 311, Value.int 695 0, Value.int 221 0, Value.str (Str.ofString "/claim/cut.py") 696] } ::
  fuF (dAt 44) "gmp.school" 625 312 ::
  { cls := Value.type "tuple", data := Data.seq #[] } ::
  { cls := Value.none, data := Data.fields #[] } ::
  { cls := Value.type "tuple", data := Data.seq #[Value.str (Str.ofString "rest") 701, Value.str (Str.ofString "b") 702, Value.str (Str.ofString "w") 703, Value.str (Str.ofString "size") 704, Value.str (Str.ofString "quotient") 705, Value.str (Str.ofString "at") 706, Value.str (Str.ofString "limb") 707] } ::
  { cls := Value.type "tuple", data := Data.seq #[] } :: t
noncomputable def hq318 (t : List Obj) : List Obj :=
  fuN (dAt 45) ::
  { cls := Value.type "code", data := Data.fields #[Value.str (Str.ofString "divide_rows") 698, Value.str (Str.ofString "divide_rows") 699, Value.str (Str.ofString "/claim/cut.py") 700, Value.int 228 0, Value.int 3 0, Value.int 0 0, Value.int 0 0, Value.int 3 0, Value.ref 314, Value.bool true, Value.int 181 0, Value.ref 315, Value.none, Value.ref 316, Value.ref 317, Value.ref 318, Value.int 708 0, Value.int 228 0, Value.str (Str.ofString "/claim/cut.py") 709] } ::
  fuF (dAt 45) "gmp.school" 625 319 ::
  { cls := Value.type "tuple", data := Data.seq #[] } ::
  { cls := Value.none, data := Data.fields #[] } ::
  { cls := Value.type "tuple", data := Data.seq #[Value.str (Str.ofString "a") 714, Value.str (Str.ofString "b") 715, Value.str (Str.ofString "w") 716, Value.str (Str.ofString "shift") 717, Value.str (Str.ofString "divisor") 718, Value.str (Str.ofString "rest") 719, Value.str (Str.ofString "quotient") 720] } ::
  { cls := Value.type "tuple", data := Data.seq #[] } ::
  fuN (dAt 46) ::
  { cls := Value.type "code", data := Data.fields #[Value.str (Str.ofString "divrem_school") 711, Value.str (Str.ofString "divrem_school") 712, Value.str (Str.ofString "/claim/cut.py") 713, Value.int 238 0, Value.int 3 0, Value.int 0 0, Value.int 0 0, Value.int 3 0, Value.ref 321, Value.bool true, Value.int 181 0, Value.ref 322, Value.none, Value.ref 323, Value.ref 324, Value.ref 325, Value.int 721 0, Value.int 238 0, Value.str (Str.ofString "/claim/cut.py") 722] } ::
  fuF (dAt 46) "gmp.school" 625 326 :: t
/-- what stands from 258 to 328 -/
noncomputable def hs258 (P : Params) (t : List Obj) : List Obj := hq258 (hq278 (hq298 (hq318 t)))
noncomputable def hq328 (t : List Obj) : List Obj :=
  { cls := Value.type "tuple", data := Data.seq #[] } ::
  { cls := Value.none, data := Data.fields #[] } ::
  { cls := Value.type "tuple", data := Data.seq #[Value.str (Str.ofString "box") 729, Value.str (Str.ofString "many") 730] } ::
  { cls := Value.type "tuple", data := Data.seq #[] } ::
  fuN (dAt 48) ::
  { cls := Value.type "code", data := Data.fields #[Value.str (Str.ofString "_law_take") 726, Value.str (Str.ofString "_law_take") 727, Value.str (Str.ofString "/claim/cut.py") 728, Value.int 252 0, Value.int 2 0, Value.int 0 0, Value.int 0 0, Value.int 3 0, Value.ref 328, Value.bool true, Value.int 181 0, Value.ref 329, Value.none, Value.ref 330, Value.ref 331, Value.ref 332, Value.int 731 0, Value.int 252 0, Value.str (Str.ofString "/claim/cut.py") 732] } ::
  fuF (dAt 48) "law_nn0036_01" 724 333 ::
  { cls := Value.type "tuple", data := Data.seq #[] } ::
  { cls := Value.none, data := Data.fields #[] } ::
  fuN (dAt 49) ::
  { cls := Value.type "code", data := Data.fields #[Value.str (Str.ofString "_law_box") 734, Value.str (Str.ofString "_law_box") 735, Value.str (Str.ofString "/claim/cut.py") 736, Value.int 257 0, Value.int 1 0, Value.int 0 0, Value.int 0 0, Value.int 3 0, Value.ref 335, Value.bool true, Value.int 181 0, Value.ref 336, Value.none, Value.none, Value.none, Value.ref 337, Value.int 737 0, Value.int 257 0, Value.str (Str.ofString "/claim/cut.py") 738] } ::
  fuF (dAt 49) "law_nn0036_01" 724 338 ::
  { cls := Value.type "tuple", data := Data.seq #[] } ::
  { cls := Value.none, data := Data.fields #[] } ::
  { cls := Value.type "tuple", data := Data.seq #[Value.str (Str.ofString "number") 743, Value.str (Str.ofString "w") 744, Value.str (Str.ofString "found") 745] } ::
  { cls := Value.type "tuple", data := Data.seq #[] } ::
  fuN (dAt 50) ::
  { cls := Value.type "code", data := Data.fields #[Value.str (Str.ofString "_law_row") 740, Value.str (Str.ofString "_law_row") 741, Value.str (Str.ofString "/claim/cut.py") 742, Value.int 262 0, Value.int 2 0, Value.int 0 0, Value.int 0 0, Value.int 3 0, Value.ref 340, Value.bool true, Value.int 181 0, Value.ref 341, Value.none, Value.ref 342, Value.ref 343, Value.ref 344, Value.int 746 0, Value.int 262 0, Value.str (Str.ofString "/claim/cut.py") 747] } ::
  fuF (dAt 50) "law_nn0036_01" 724 345 ::
  { cls := Value.type "tuple", data := Data.seq #[] } :: t
noncomputable def hq348 (t : List Obj) : List Obj :=
  { cls := Value.none, data := Data.fields #[] } ::
  { cls := Value.type "tuple", data := Data.seq #[Value.str (Str.ofString "row") 752, Value.str (Str.ofString "w") 753, Value.str (Str.ofString "found") 754, Value.str (Str.ofString "limb") 755] } ::
  { cls := Value.type "tuple", data := Data.seq #[] } ::
  fuN (dAt 51) ::
  { cls := Value.type "code", data := Data.fields #[Value.str (Str.ofString "_law_plain") 749, Value.str (Str.ofString "_law_plain") 750, Value.str (Str.ofString "/claim/cut.py") 751, Value.int 268 0, Value.int 2 0, Value.int 0 0, Value.int 0 0, Value.int 3 0, Value.ref 347, Value.bool true, Value.int 181 0, Value.ref 348, Value.none, Value.ref 349, Value.ref 350, Value.ref 351, Value.int 756 0, Value.int 268 0, Value.str (Str.ofString "/claim/cut.py") 757] } ::
  fuF (dAt 51) "law_nn0036_01" 724 352 ::
  { cls := Value.type "tuple", data := Data.seq #[] } ::
  { cls := Value.none, data := Data.fields #[] } ::
  { cls := Value.type "tuple", data := Data.seq #[Value.str (Str.ofString "a") 762, Value.str (Str.ofString "b") 763] } ::
  { cls := Value.type "tuple", data := Data.seq #[] } ::
  fuN (dAt 52) ::
  { cls := Value.type "code", data := Data.fields #[Value.str (Str.ofString "_law_gcd") 759, Value.str (Str.ofString "_law_gcd") 760, Value.str (Str.ofString "/claim/cut.py") 761, Value.int 273 0, Value.int 2 0, Value.int 0 0, Value.int 0 0, Value.int 3 0, Value.ref 354, Value.bool true, Value.int 181 0, Value.ref 355, Value.none, Value.ref 356, Value.ref 357, Value.ref 358, Value.int 764 0, Value.int 273 0, Value.str (Str.ofString "/claim/cut.py") 765] } ::
  fuF (dAt 52) "law_nn0036_01" 724 359 ::
  { cls := Value.type "tuple", data := Data.seq #[] } ::
  { cls := Value.none, data := Data.fields #[] } ::
  { cls := Value.type "tuple", data := Data.seq #[Value.str (Str.ofString "x") 770, Value.str (Str.ofString "w") 771] } ::
  { cls := Value.type "tuple", data := Data.seq #[] } ::
  fuN (dAt 53) ::
  { cls := Value.type "code", data := Data.fields #[Value.str (Str.ofString "_law_signed") 767, Value.str (Str.ofString "_law_signed") 768, Value.str (Str.ofString "/claim/cut.py") 769, Value.int 280 0, Value.int 2 0, Value.int 0 0, Value.int 0 0, Value.int 3 0, Value.ref 361, Value.bool true, Value.int 181 0, Value.ref 362, Value.none, Value.ref 363, Value.ref 364, Value.ref 365, Value.int 772 0, Value.int 280 0, Value.str (Str.ofString "/claim/cut.py") 773] } ::
  fuF (dAt 53) "law_nn0036_01" 724 366 :: t
noncomputable def hq368 (t : List Obj) : List Obj :=
  { cls := Value.type "tuple", data := Data.seq #[] } ::
  { cls := Value.none, data := Data.fields #[] } ::
  { cls := Value.type "tuple", data := Data.seq #[Value.str (Str.ofString "one") 778, Value.str (Str.ofString "other") 779, Value.str (Str.ofString "w") 780, Value.str (Str.ofString "g") 781, Value.str (Str.ofString "s") 782, Value.str (Str.ofString "t") 783, Value.str (Str.ofString "due") 784, Value.str (Str.ofString "here") 785, Value.str (Str.ofString "there") 786] } ::
  { cls := Value.type "tuple", data := Data.seq #[] } ::
  fuN (dAt 54) ::
  { cls := Value.type "code", data := Data.fields #[Value.str (Str.ofString "_law_ext_right") 775, Value.str (Str.ofString "_law_ext_right") 776, Value.str (Str.ofString "/claim/cut.py") 777, Value.int 282 0, Value.int 3 0, Value.int 0 0, Value.int 0 0, Value.int 3 0, Value.ref 368, Value.bool true, Value.int 181 0, Value.ref 369, Value.none, Value.ref 370, Value.ref 371, Value.ref 372, Value.int 787 0, Value.int 282 0, Value.str (Str.ofString "/claim/cut.py") 788] } ::
  fuF (dAt 54) "law_nn0036_01" 724 373 ::
  { cls := Value.type "tuple", data := Data.seq #[] } ::
  { cls := Value.none, data := Data.fields #[] } ::
  { cls := Value.type "tuple", data := Data.seq #[Value.str (Str.ofString "number") 793, Value.str (Str.ofString "modulus") 794, Value.str (Str.ofString "w") 795, Value.str (Str.ofString "heard") 796, Value.str (Str.ofString "told") 797] } ::
  { cls := Value.type "tuple", data := Data.seq #[] } ::
  fuN (dAt 55) ::
  { cls := Value.type "code", data := Data.fields #[Value.str (Str.ofString "_law_inverse_right") 790, Value.str (Str.ofString "_law_inverse_right") 791, Value.str (Str.ofString "/claim/cut.py") 792, Value.int 294 0, Value.int 3 0, Value.int 0 0, Value.int 0 0, Value.int 3 0, Value.ref 375, Value.bool true, Value.int 181 0, Value.ref 376, Value.none, Value.ref 377, Value.ref 378, Value.ref 379, Value.int 798 0, Value.int 294 0, Value.str (Str.ofString "/claim/cut.py") 799] } ::
  fuF (dAt 55) "law_nn0036_01" 724 380 ::
  { cls := Value.type "tuple", data := Data.seq #[] } ::
  { cls := Value.none, data := Data.fields #[] } ::
  fuN (dAt 56) ::
  { cls := Value.type "code", data := Data.fields #[Value.str (Str.ofString "_law_half_right") 801, Value.str (Str.ofString "_law_half_right") 802, Value.str (Str.ofString "/claim/cut.py") 803, Value.int 306 0, Value.int 4 0, Value.int 0 0, Value.int 0 0, Value.int 3 0, Value.ref 382, Value.bool true, Value.int 181 0, Value.ref 383, Value.none, Value.none, Value.none, Value.ref 384, Value.int 804 0, Value.int 306 0, Value.str (Str.ofString "/claim/cut.py") 805] } ::
  fuF (dAt 56) "law_nn0036_01" 724 385 ::
  { cls := Value.type "tuple", data := Data.seq #[] } :: t
noncomputable def hq388 (t : List Obj) : List Obj :=
  { cls := Value.none, data := Data.fields #[] } ::
  { cls := Value.type "tuple", data := Data.seq #[Value.str (Str.ofString "script") 810, Value.str (Str.ofString "box") 811, Value.str (Str.ofString "w") 812, Value.str (Str.ofString "shared") 813, Value.str (Str.ofString "one") 814, Value.str (Str.ofString "other") 815, Value.str (Str.ofString "form") 816, Value.str (Str.ofString "great") 817] } ::
  { cls := Value.type "tuple", data := Data.seq #[] } ::
  fuN (dAt 57) ::
  { cls := Value.type "code", data := Data.fields #[Value.str (Str.ofString "law") 807, Value.str (Str.ofString "law") 808, Value.str (Str.ofString "/claim/cut.py") 809, Value.int 315 0, Value.int 1 0, Value.int 0 0, Value.int 0 0, Value.int 3 0, Value.ref 387, Value.bool true, Value.int 181 0, Value.ref 388, Value.none, Value.ref 389, Value.ref 390, Value.ref 391, Value.int 818 0, Value.int 315 0, Value.str (Str.ofString "/claim/cut.py") 819] } ::
  fuF (dAt 57) "law_nn0036_01" 724 392 :: t
/-- what stands from 328 to 394 -/
noncomputable def hs328 (P : Params) (t : List Obj) : List Obj := hq328 (hq348 (hq368 (hq388 t)))
noncomputable def heap15 (P : Params) : Heap := { objs := { toList := [
  boot_o_0 P,
  boot_o_1 P,
  boot_o_2 P,
  boot_o_3 P,
  boot_o_4 P,
  boot_o_5 P,
  boot_o_6 P,
  boot_o_7 P,
  boot_o_8 P,
  boot_o_9 P,
  boot_o_10 P,
  { cls := Value.type "tuple", data := Data.seq #[] },
  { cls := Value.none, data := Data.fields #[] },
  { cls := Value.type "code", data := Data.fields #[Value.str (Str.ofString "<module>") 182, Value.str (Str.ofString "<module>") 183, Value.str (Str.ofString "/claim/cut.py") 184, Value.int 1 0, Value.int 0 0, Value.int 0 0, Value.int 0 0, Value.int 0 0, Value.ref 11, Value.bool false, Value.int 181 0, Value.ref 12, Value.none, Value.none, Value.none, Value.none, Value.int 185 0, Value.int 1 0, Value.str (Str.ofString "/claim/cut.py") 186] },
  { cls := Value.type "frame", slots := #[some (Value.ref 13), some (Value.ref 3), some (Value.ref 3), none, some (Value.str (Str.ofString "__main__") 164), none, some (Value.ref 0)] }] } }
/-- the text's names, 52 objects on -/
noncomputable def gl52 (P : Params) : Obj := { cls := Value.type "dict", data := Data.dict #[{ hash := PyData.keyHash P (Str.ofString "__name__"), key := Value.str (Str.ofString "__name__") 165, val := Value.str (Str.ofString "gmp.limbs") 187 }, { hash := PyData.keyHash P (Str.ofString "__doc__"), key := Value.str (Str.ofString "__doc__") 166, val := Value.none }, { hash := PyData.keyHash P (Str.ofString "__package__"), key := Value.str (Str.ofString "__package__") 167, val := Value.none }, { hash := PyData.keyHash P (Str.ofString "__loader__"), key := Value.str (Str.ofString "__loader__") 168, val := Value.builtin "__main__.__loader__#opaque" }, { hash := PyData.keyHash P (Str.ofString "__spec__"), key := Value.str (Str.ofString "__spec__") 169, val := Value.none }, { hash := PyData.keyHash P (Str.ofString "__annotations__"), key := Value.str (Str.ofString "__annotations__") 170, val := Value.ref 6 }, { hash := PyData.keyHash P (Str.ofString "__builtins__"), key := Value.str (Str.ofString "__builtins__") 171, val := Value.ref 4 }, { hash := PyData.keyHash P (Str.ofString "__file__"), key := Value.str (Str.ofString "__file__") 173, val := Value.str (Str.ofString "/claim/cut.py") 172 }, { hash := PyData.keyHash P (Str.ofString "__cached__"), key := Value.str (Str.ofString "__cached__") 174, val := Value.none }, { hash := PyData.keyHash P (Str.ofString "GmpError"), key := Value.str (Str.ofString "GmpError") 208, val := Value.ref 24 }, { hash := PyData.keyHash P (Str.ofString "DivisionByZero"), key := Value.str (Str.ofString "DivisionByZero") 224, val := Value.ref 37 }, { hash := PyData.keyHash P (Str.ofString "NoInverse"), key := Value.str (Str.ofString "NoInverse") 240, val := Value.ref 49 }] 12 }
noncomputable def heap52 (P : Params) : Heap := { objs := { toList := hs0 P (gl52 P) ({ cls := Value.none, data := Data.fields #[Value.int 2 0, Value.int 0 0, Value.ref 20, Value.int 4 0, Value.int 0 0, Value.ref 33, Value.int 6 0, Value.int 0 0, Value.ref 45] }) ({ cls := Value.type "type", data := Data.cls { name := Str.ofString "GmpError", bases := [Value.type "Exception"], mro := [Value.ref 24, Value.type "Exception", Value.type "BaseException", Value.type "object"], ns := 23, qualname := Str.ofString "GmpError", subclasses := [Value.ref 37, Value.ref 49] }, slots := #[some (Value.ref 15), none, some (Value.str (Str.ofString "GmpError") 189), some (Value.str (Str.ofString "GmpError") 197), some (Value.builtin "Exception.__new__"), some (Value.bool true)] }) [] } }
/-- the text's names, 99 objects on -/
noncomputable def gl99 (P : Params) : Obj := { cls := Value.type "dict", data := Data.dict #[{ hash := PyData.keyHash P (Str.ofString "__name__"), key := Value.str (Str.ofString "__name__") 165, val := Value.str (Str.ofString "gmp.limbs") 187 }, { hash := PyData.keyHash P (Str.ofString "__doc__"), key := Value.str (Str.ofString "__doc__") 166, val := Value.none }, { hash := PyData.keyHash P (Str.ofString "__package__"), key := Value.str (Str.ofString "__package__") 167, val := Value.none }, { hash := PyData.keyHash P (Str.ofString "__loader__"), key := Value.str (Str.ofString "__loader__") 168, val := Value.builtin "__main__.__loader__#opaque" }, { hash := PyData.keyHash P (Str.ofString "__spec__"), key := Value.str (Str.ofString "__spec__") 169, val := Value.none }, { hash := PyData.keyHash P (Str.ofString "__annotations__"), key := Value.str (Str.ofString "__annotations__") 170, val := Value.ref 6 }, { hash := PyData.keyHash P (Str.ofString "__builtins__"), key := Value.str (Str.ofString "__builtins__") 171, val := Value.ref 4 }, { hash := PyData.keyHash P (Str.ofString "__file__"), key := Value.str (Str.ofString "__file__") 173, val := Value.str (Str.ofString "/claim/cut.py") 172 }, { hash := PyData.keyHash P (Str.ofString "__cached__"), key := Value.str (Str.ofString "__cached__") 174, val := Value.none }, { hash := PyData.keyHash P (Str.ofString "GmpError"), key := Value.str (Str.ofString "GmpError") 208, val := Value.ref 24 }, { hash := PyData.keyHash P (Str.ofString "DivisionByZero"), key := Value.str (Str.ofString "DivisionByZero") 224, val := Value.ref 37 }, { hash := PyData.keyHash P (Str.ofString "NoInverse"), key := Value.str (Str.ofString "NoInverse") 240, val := Value.ref 49 }, { hash := PyData.keyHash P (Str.ofString "OutOfRange"), key := Value.str (Str.ofString "OutOfRange") 256, val := Value.ref 61 }, { hash := PyData.keyHash P (Str.ofString "normal"), key := Value.str (Str.ofString "normal") 264, val := Value.ref 70 }, { hash := PyData.keyHash P (Str.ofString "compare"), key := Value.str (Str.ofString "compare") 273, val := Value.ref 77 }, { hash := PyData.keyHash P (Str.ofString "add"), key := Value.str (Str.ofString "add") 286, val := Value.ref 84 }, { hash := PyData.keyHash P (Str.ofString "sub"), key := Value.str (Str.ofString "sub") 300, val := Value.ref 91 }, { hash := PyData.keyHash P (Str.ofString "add_limb"), key := Value.str (Str.ofString "add_limb") 312, val := Value.ref 98 }] 18 }
noncomputable def heap99 (P : Params) : Heap := { objs := { toList := hs0 P (gl99 P) ({ cls := Value.none, data := Data.fields #[Value.int 2 0, Value.int 0 0, Value.ref 20, Value.int 4 0, Value.int 0 0, Value.ref 33, Value.int 6 0, Value.int 0 0, Value.ref 45, Value.int 8 0, Value.int 0 0, Value.ref 57, Value.int 10 0, Value.int 0 0, Value.ref 69, Value.int 15 0, Value.int 0 0, Value.ref 76, Value.int 22 0, Value.int 0 0, Value.ref 83, Value.int 37 0, Value.int 0 0, Value.ref 90, Value.int 46 0, Value.int 0 0, Value.ref 97] }) ({ cls := Value.type "type", data := Data.cls { name := Str.ofString "GmpError", bases := [Value.type "Exception"], mro := [Value.ref 24, Value.type "Exception", Value.type "BaseException", Value.type "object"], ns := 23, qualname := Str.ofString "GmpError", subclasses := [Value.ref 37, Value.ref 49, Value.ref 61] }, slots := #[some (Value.ref 15), none, some (Value.str (Str.ofString "GmpError") 189), some (Value.str (Str.ofString "GmpError") 197), some (Value.builtin "Exception.__new__"), some (Value.bool true)] }) (hs52 P []) } }
/-- the text's names, 174 objects on -/
noncomputable def gl174 (P : Params) : Obj := { cls := Value.type "dict", data := Data.dict #[{ hash := PyData.keyHash P (Str.ofString "__name__"), key := Value.str (Str.ofString "__name__") 165, val := Value.str (Str.ofString "gmp.halfgcd") 374 }, { hash := PyData.keyHash P (Str.ofString "__doc__"), key := Value.str (Str.ofString "__doc__") 166, val := Value.none }, { hash := PyData.keyHash P (Str.ofString "__package__"), key := Value.str (Str.ofString "__package__") 167, val := Value.none }, { hash := PyData.keyHash P (Str.ofString "__loader__"), key := Value.str (Str.ofString "__loader__") 168, val := Value.builtin "__main__.__loader__#opaque" }, { hash := PyData.keyHash P (Str.ofString "__spec__"), key := Value.str (Str.ofString "__spec__") 169, val := Value.none }, { hash := PyData.keyHash P (Str.ofString "__annotations__"), key := Value.str (Str.ofString "__annotations__") 170, val := Value.ref 6 }, { hash := PyData.keyHash P (Str.ofString "__builtins__"), key := Value.str (Str.ofString "__builtins__") 171, val := Value.ref 4 }, { hash := PyData.keyHash P (Str.ofString "__file__"), key := Value.str (Str.ofString "__file__") 173, val := Value.str (Str.ofString "/claim/cut.py") 172 }, { hash := PyData.keyHash P (Str.ofString "__cached__"), key := Value.str (Str.ofString "__cached__") 174, val := Value.none }, { hash := PyData.keyHash P (Str.ofString "GmpError"), key := Value.str (Str.ofString "GmpError") 208, val := Value.ref 24 }, { hash := PyData.keyHash P (Str.ofString "DivisionByZero"), key := Value.str (Str.ofString "DivisionByZero") 224, val := Value.ref 37 }, { hash := PyData.keyHash P (Str.ofString "NoInverse"), key := Value.str (Str.ofString "NoInverse") 240, val := Value.ref 49 }, { hash := PyData.keyHash P (Str.ofString "OutOfRange"), key := Value.str (Str.ofString "OutOfRange") 256, val := Value.ref 61 }, { hash := PyData.keyHash P (Str.ofString "normal"), key := Value.str (Str.ofString "normal") 264, val := Value.ref 70 }, { hash := PyData.keyHash P (Str.ofString "compare"), key := Value.str (Str.ofString "compare") 273, val := Value.ref 77 }, { hash := PyData.keyHash P (Str.ofString "add"), key := Value.str (Str.ofString "add") 286, val := Value.ref 84 }, { hash := PyData.keyHash P (Str.ofString "sub"), key := Value.str (Str.ofString "sub") 300, val := Value.ref 91 }, { hash := PyData.keyHash P (Str.ofString "add_limb"), key := Value.str (Str.ofString "add_limb") 312, val := Value.ref 98 }, { hash := PyData.keyHash P (Str.ofString "divrem_limb"), key := Value.str (Str.ofString "divrem_limb") 324, val := Value.ref 105 }, { hash := PyData.keyHash P (Str.ofString "shift_left"), key := Value.str (Str.ofString "shift_left") 339, val := Value.ref 112 }, { hash := PyData.keyHash P (Str.ofString "shift_right"), key := Value.str (Str.ofString "shift_right") 354, val := Value.ref 119 }, { hash := PyData.keyHash P (Str.ofString "bits"), key := Value.str (Str.ofString "bits") 362, val := Value.ref 126 }, { hash := PyData.keyHash P (Str.ofString "low"), key := Value.str (Str.ofString "low") 373, val := Value.ref 133 }, { hash := PyData.keyHash P (Str.ofString "UNIT"), key := Value.str (Str.ofString "UNIT") 378, val := Value.ref 138 }, { hash := PyData.keyHash P (Str.ofString "matrix_mul"), key := Value.str (Str.ofString "matrix_mul") 396, val := Value.ref 145 }, { hash := PyData.keyHash P (Str.ofString "led_back"), key := Value.str (Str.ofString "led_back") 415, val := Value.ref 152 }, { hash := PyData.keyHash P (Str.ofString "great_step"), key := Value.str (Str.ofString "great_step") 428, val := Value.ref 159 }, { hash := PyData.keyHash P (Str.ofString "one_step"), key := Value.str (Str.ofString "one_step") 443, val := Value.ref 166 }, { hash := PyData.keyHash P (Str.ofString "difference_bits"), key := Value.str (Str.ofString "difference_bits") 452, val := Value.ref 173 }] 29 }
noncomputable def heap174 (P : Params) : Heap := { objs := { toList := hs0 P (gl174 P) ({ cls := Value.none, data := Data.fields #[Value.int 2 0, Value.int 0 0, Value.ref 20, Value.int 4 0, Value.int 0 0, Value.ref 33, Value.int 6 0, Value.int 0 0, Value.ref 45, Value.int 8 0, Value.int 0 0, Value.ref 57, Value.int 10 0, Value.int 0 0, Value.ref 69, Value.int 15 0, Value.int 0 0, Value.ref 76, Value.int 22 0, Value.int 0 0, Value.ref 83, Value.int 37 0, Value.int 0 0, Value.ref 90, Value.int 46 0, Value.int 0 0, Value.ref 97, Value.int 55 0, Value.int 0 0, Value.ref 104, Value.int 64 0, Value.int 0 0, Value.ref 111, Value.int 76 0, Value.int 0 0, Value.ref 118, Value.int 83 0, Value.int 0 0, Value.ref 125, Value.int 85 0, Value.int 0 0, Value.ref 132, Value.int 92 0, Value.int 0 0, Value.ref 144, Value.int 96 0, Value.int 0 0, Value.ref 151, Value.int 100 0, Value.int 0 0, Value.ref 158, Value.int 105 0, Value.int 0 0, Value.ref 165, Value.int 112 0, Value.int 0 0, Value.ref 172] }) ({ cls := Value.type "type", data := Data.cls { name := Str.ofString "GmpError", bases := [Value.type "Exception"], mro := [Value.ref 24, Value.type "Exception", Value.type "BaseException", Value.type "object"], ns := 23, qualname := Str.ofString "GmpError", subclasses := [Value.ref 37, Value.ref 49, Value.ref 61] }, slots := #[some (Value.ref 15), none, some (Value.str (Str.ofString "GmpError") 189), some (Value.str (Str.ofString "GmpError") 197), some (Value.builtin "Exception.__new__"), some (Value.bool true)] }) (hs52 P (hs99 P [])) } }
/-- the text's names, 258 objects on -/
noncomputable def gl258 (P : Params) : Obj := { cls := Value.type "dict", data := Data.dict #[{ hash := PyData.keyHash P (Str.ofString "__name__"), key := Value.str (Str.ofString "__name__") 165, val := Value.str (Str.ofString "gmp.signed") 505 }, { hash := PyData.keyHash P (Str.ofString "__doc__"), key := Value.str (Str.ofString "__doc__") 166, val := Value.none }, { hash := PyData.keyHash P (Str.ofString "__package__"), key := Value.str (Str.ofString "__package__") 167, val := Value.none }, { hash := PyData.keyHash P (Str.ofString "__loader__"), key := Value.str (Str.ofString "__loader__") 168, val := Value.builtin "__main__.__loader__#opaque" }, { hash := PyData.keyHash P (Str.ofString "__spec__"), key := Value.str (Str.ofString "__spec__") 169, val := Value.none }, { hash := PyData.keyHash P (Str.ofString "__annotations__"), key := Value.str (Str.ofString "__annotations__") 170, val := Value.ref 6 }, { hash := PyData.keyHash P (Str.ofString "__builtins__"), key := Value.str (Str.ofString "__builtins__") 171, val := Value.ref 4 }, { hash := PyData.keyHash P (Str.ofString "__file__"), key := Value.str (Str.ofString "__file__") 173, val := Value.str (Str.ofString "/claim/cut.py") 172 }, { hash := PyData.keyHash P (Str.ofString "__cached__"), key := Value.str (Str.ofString "__cached__") 174, val := Value.none }, { hash := PyData.keyHash P (Str.ofString "GmpError"), key := Value.str (Str.ofString "GmpError") 208, val := Value.ref 24 }, { hash := PyData.keyHash P (Str.ofString "DivisionByZero"), key := Value.str (Str.ofString "DivisionByZero") 224, val := Value.ref 37 }, { hash := PyData.keyHash P (Str.ofString "NoInverse"), key := Value.str (Str.ofString "NoInverse") 240, val := Value.ref 49 }, { hash := PyData.keyHash P (Str.ofString "OutOfRange"), key := Value.str (Str.ofString "OutOfRange") 256, val := Value.ref 61 }, { hash := PyData.keyHash P (Str.ofString "normal"), key := Value.str (Str.ofString "normal") 264, val := Value.ref 70 }, { hash := PyData.keyHash P (Str.ofString "compare"), key := Value.str (Str.ofString "compare") 273, val := Value.ref 77 }, { hash := PyData.keyHash P (Str.ofString "add"), key := Value.str (Str.ofString "add") 286, val := Value.ref 84 }, { hash := PyData.keyHash P (Str.ofString "sub"), key := Value.str (Str.ofString "sub") 300, val := Value.ref 91 }, { hash := PyData.keyHash P (Str.ofString "add_limb"), key := Value.str (Str.ofString "add_limb") 312, val := Value.ref 98 }, { hash := PyData.keyHash P (Str.ofString "divrem_limb"), key := Value.str (Str.ofString "divrem_limb") 324, val := Value.ref 105 }, { hash := PyData.keyHash P (Str.ofString "shift_left"), key := Value.str (Str.ofString "shift_left") 339, val := Value.ref 112 }, { hash := PyData.keyHash P (Str.ofString "shift_right"), key := Value.str (Str.ofString "shift_right") 354, val := Value.ref 119 }, { hash := PyData.keyHash P (Str.ofString "bits"), key := Value.str (Str.ofString "bits") 362, val := Value.ref 126 }, { hash := PyData.keyHash P (Str.ofString "low"), key := Value.str (Str.ofString "low") 373, val := Value.ref 133 }, { hash := PyData.keyHash P (Str.ofString "UNIT"), key := Value.str (Str.ofString "UNIT") 378, val := Value.ref 138 }, { hash := PyData.keyHash P (Str.ofString "matrix_mul"), key := Value.str (Str.ofString "matrix_mul") 396, val := Value.ref 145 }, { hash := PyData.keyHash P (Str.ofString "led_back"), key := Value.str (Str.ofString "led_back") 415, val := Value.ref 152 }, { hash := PyData.keyHash P (Str.ofString "great_step"), key := Value.str (Str.ofString "great_step") 428, val := Value.ref 159 }, { hash := PyData.keyHash P (Str.ofString "one_step"), key := Value.str (Str.ofString "one_step") 443, val := Value.ref 166 }, { hash := PyData.keyHash P (Str.ofString "difference_bits"), key := Value.str (Str.ofString "difference_bits") 452, val := Value.ref 173 }, { hash := PyData.keyHash P (Str.ofString "least_bits"), key := Value.str (Str.ofString "least_bits") 461, val := Value.ref 180 }, { hash := PyData.keyHash P (Str.ofString "most_bits"), key := Value.str (Str.ofString "most_bits") 470, val := Value.ref 187 }, { hash := PyData.keyHash P (Str.ofString "by_high"), key := Value.str (Str.ofString "by_high") 488, val := Value.ref 194 }, { hash := PyData.keyHash P (Str.ofString "half_gcd"), key := Value.str (Str.ofString "half_gcd") 504, val := Value.ref 201 }, { hash := PyData.keyHash P (Str.ofString "signed"), key := Value.str (Str.ofString "signed") 514, val := Value.ref 208 }, { hash := PyData.keyHash P (Str.ofString "s_neg"), key := Value.str (Str.ofString "s_neg") 521, val := Value.ref 215 }, { hash := PyData.keyHash P (Str.ofString "s_abs"), key := Value.str (Str.ofString "s_abs") 528, val := Value.ref 222 }, { hash := PyData.keyHash P (Str.ofString "s_add"), key := Value.str (Str.ofString "s_add") 537, val := Value.ref 229 }, { hash := PyData.keyHash P (Str.ofString "s_sub"), key := Value.str (Str.ofString "s_sub") 546, val := Value.ref 236 }, { hash := PyData.keyHash P (Str.ofString "s_mul"), key := Value.str (Str.ofString "s_mul") 556, val := Value.ref 243 }, { hash := PyData.keyHash P (Str.ofString "tdiv"), key := Value.str (Str.ofString "tdiv") 568, val := Value.ref 250 }, { hash := PyData.keyHash P (Str.ofString "fdiv"), key := Value.str (Str.ofString "fdiv") 580, val := Value.ref 257 }] 41 }
noncomputable def heap258 (P : Params) : Heap := { objs := { toList := hs0 P (gl258 P) ({ cls := Value.none, data := Data.fields #[Value.int 2 0, Value.int 0 0, Value.ref 20, Value.int 4 0, Value.int 0 0, Value.ref 33, Value.int 6 0, Value.int 0 0, Value.ref 45, Value.int 8 0, Value.int 0 0, Value.ref 57, Value.int 10 0, Value.int 0 0, Value.ref 69, Value.int 15 0, Value.int 0 0, Value.ref 76, Value.int 22 0, Value.int 0 0, Value.ref 83, Value.int 37 0, Value.int 0 0, Value.ref 90, Value.int 46 0, Value.int 0 0, Value.ref 97, Value.int 55 0, Value.int 0 0, Value.ref 104, Value.int 64 0, Value.int 0 0, Value.ref 111, Value.int 76 0, Value.int 0 0, Value.ref 118, Value.int 83 0, Value.int 0 0, Value.ref 125, Value.int 85 0, Value.int 0 0, Value.ref 132, Value.int 92 0, Value.int 0 0, Value.ref 144, Value.int 96 0, Value.int 0 0, Value.ref 151, Value.int 100 0, Value.int 0 0, Value.ref 158, Value.int 105 0, Value.int 0 0, Value.ref 165, Value.int 112 0, Value.int 0 0, Value.ref 172, Value.int 114 0, Value.int 0 0, Value.ref 179, Value.int 116 0, Value.int 0 0, Value.ref 186, Value.int 118 0, Value.int 0 0, Value.ref 193, Value.int 123 0, Value.int 0 0, Value.ref 200, Value.int 140 0, Value.int 0 0, Value.ref 207, Value.int 142 0, Value.int 0 0, Value.ref 214, Value.int 144 0, Value.int 0 0, Value.ref 221, Value.int 146 0, Value.int 0 0, Value.ref 228, Value.int 152 0, Value.int 0 0, Value.ref 235, Value.int 154 0, Value.int 0 0, Value.ref 242, Value.int 156 0, Value.int 0 0, Value.ref 249, Value.int 161 0, Value.int 0 0, Value.ref 256] }) ({ cls := Value.type "type", data := Data.cls { name := Str.ofString "GmpError", bases := [Value.type "Exception"], mro := [Value.ref 24, Value.type "Exception", Value.type "BaseException", Value.type "object"], ns := 23, qualname := Str.ofString "GmpError", subclasses := [Value.ref 37, Value.ref 49, Value.ref 61] }, slots := #[some (Value.ref 15), none, some (Value.str (Str.ofString "GmpError") 189), some (Value.str (Str.ofString "GmpError") 197), some (Value.builtin "Exception.__new__"), some (Value.bool true)] }) (hs52 P (hs99 P (hs174 P []))) } }
/-- the text's names, 328 objects on -/
noncomputable def gl328 (P : Params) : Obj := { cls := Value.type "dict", data := Data.dict #[{ hash := PyData.keyHash P (Str.ofString "__name__"), key := Value.str (Str.ofString "__name__") 165, val := Value.str (Str.ofString "law_nn0036_01") 724 }, { hash := PyData.keyHash P (Str.ofString "__doc__"), key := Value.str (Str.ofString "__doc__") 166, val := Value.none }, { hash := PyData.keyHash P (Str.ofString "__package__"), key := Value.str (Str.ofString "__package__") 167, val := Value.none }, { hash := PyData.keyHash P (Str.ofString "__loader__"), key := Value.str (Str.ofString "__loader__") 168, val := Value.builtin "__main__.__loader__#opaque" }, { hash := PyData.keyHash P (Str.ofString "__spec__"), key := Value.str (Str.ofString "__spec__") 169, val := Value.none }, { hash := PyData.keyHash P (Str.ofString "__annotations__"), key := Value.str (Str.ofString "__annotations__") 170, val := Value.ref 6 }, { hash := PyData.keyHash P (Str.ofString "__builtins__"), key := Value.str (Str.ofString "__builtins__") 171, val := Value.ref 4 }, { hash := PyData.keyHash P (Str.ofString "__file__"), key := Value.str (Str.ofString "__file__") 173, val := Value.str (Str.ofString "/claim/cut.py") 172 }, { hash := PyData.keyHash P (Str.ofString "__cached__"), key := Value.str (Str.ofString "__cached__") 174, val := Value.none }, { hash := PyData.keyHash P (Str.ofString "GmpError"), key := Value.str (Str.ofString "GmpError") 208, val := Value.ref 24 }, { hash := PyData.keyHash P (Str.ofString "DivisionByZero"), key := Value.str (Str.ofString "DivisionByZero") 224, val := Value.ref 37 }, { hash := PyData.keyHash P (Str.ofString "NoInverse"), key := Value.str (Str.ofString "NoInverse") 240, val := Value.ref 49 }, { hash := PyData.keyHash P (Str.ofString "OutOfRange"), key := Value.str (Str.ofString "OutOfRange") 256, val := Value.ref 61 }, { hash := PyData.keyHash P (Str.ofString "normal"), key := Value.str (Str.ofString "normal") 264, val := Value.ref 70 }, { hash := PyData.keyHash P (Str.ofString "compare"), key := Value.str (Str.ofString "compare") 273, val := Value.ref 77 }, { hash := PyData.keyHash P (Str.ofString "add"), key := Value.str (Str.ofString "add") 286, val := Value.ref 84 }, { hash := PyData.keyHash P (Str.ofString "sub"), key := Value.str (Str.ofString "sub") 300, val := Value.ref 91 }, { hash := PyData.keyHash P (Str.ofString "add_limb"), key := Value.str (Str.ofString "add_limb") 312, val := Value.ref 98 }, { hash := PyData.keyHash P (Str.ofString "divrem_limb"), key := Value.str (Str.ofString "divrem_limb") 324, val := Value.ref 105 }, { hash := PyData.keyHash P (Str.ofString "shift_left"), key := Value.str (Str.ofString "shift_left") 339, val := Value.ref 112 }, { hash := PyData.keyHash P (Str.ofString "shift_right"), key := Value.str (Str.ofString "shift_right") 354, val := Value.ref 119 }, { hash := PyData.keyHash P (Str.ofString "bits"), key := Value.str (Str.ofString "bits") 362, val := Value.ref 126 }, { hash := PyData.keyHash P (Str.ofString "low"), key := Value.str (Str.ofString "low") 373, val := Value.ref 133 }, { hash := PyData.keyHash P (Str.ofString "UNIT"), key := Value.str (Str.ofString "UNIT") 378, val := Value.ref 138 }, { hash := PyData.keyHash P (Str.ofString "matrix_mul"), key := Value.str (Str.ofString "matrix_mul") 396, val := Value.ref 145 }, { hash := PyData.keyHash P (Str.ofString "led_back"), key := Value.str (Str.ofString "led_back") 415, val := Value.ref 152 }, { hash := PyData.keyHash P (Str.ofString "great_step"), key := Value.str (Str.ofString "great_step") 428, val := Value.ref 159 }, { hash := PyData.keyHash P (Str.ofString "one_step"), key := Value.str (Str.ofString "one_step") 443, val := Value.ref 166 }, { hash := PyData.keyHash P (Str.ofString "difference_bits"), key := Value.str (Str.ofString "difference_bits") 452, val := Value.ref 173 }, { hash := PyData.keyHash P (Str.ofString "least_bits"), key := Value.str (Str.ofString "least_bits") 461, val := Value.ref 180 }, { hash := PyData.keyHash P (Str.ofString "most_bits"), key := Value.str (Str.ofString "most_bits") 470, val := Value.ref 187 }, { hash := PyData.keyHash P (Str.ofString "by_high"), key := Value.str (Str.ofString "by_high") 488, val := Value.ref 194 }, { hash := PyData.keyHash P (Str.ofString "half_gcd"), key := Value.str (Str.ofString "half_gcd") 504, val := Value.ref 201 }, { hash := PyData.keyHash P (Str.ofString "signed"), key := Value.str (Str.ofString "signed") 514, val := Value.ref 208 }, { hash := PyData.keyHash P (Str.ofString "s_neg"), key := Value.str (Str.ofString "s_neg") 521, val := Value.ref 215 }, { hash := PyData.keyHash P (Str.ofString "s_abs"), key := Value.str (Str.ofString "s_abs") 528, val := Value.ref 222 }, { hash := PyData.keyHash P (Str.ofString "s_add"), key := Value.str (Str.ofString "s_add") 537, val := Value.ref 229 }, { hash := PyData.keyHash P (Str.ofString "s_sub"), key := Value.str (Str.ofString "s_sub") 546, val := Value.ref 236 }, { hash := PyData.keyHash P (Str.ofString "s_mul"), key := Value.str (Str.ofString "s_mul") 556, val := Value.ref 243 }, { hash := PyData.keyHash P (Str.ofString "tdiv"), key := Value.str (Str.ofString "tdiv") 568, val := Value.ref 250 }, { hash := PyData.keyHash P (Str.ofString "fdiv"), key := Value.str (Str.ofString "fdiv") 580, val := Value.ref 257 }, { hash := PyData.keyHash P (Str.ofString "s_mod"), key := Value.str (Str.ofString "s_mod") 590, val := Value.ref 264 }, { hash := PyData.keyHash P (Str.ofString "gcd_ext"), key := Value.str (Str.ofString "gcd_ext") 610, val := Value.ref 271 }, { hash := PyData.keyHash P (Str.ofString "inverse_mod"), key := Value.str (Str.ofString "inverse_mod") 624, val := Value.ref 278 }, { hash := PyData.keyHash P (Str.ofString "mul_school"), key := Value.str (Str.ofString "mul_school") 642, val := Value.ref 285 }, { hash := PyData.keyHash P (Str.ofString "divrem_small"), key := Value.str (Str.ofString "divrem_small") 653, val := Value.ref 292 }, { hash := PyData.keyHash P (Str.ofString "guessed_limb"), key := Value.str (Str.ofString "guessed_limb") 667, val := Value.ref 299 }, { hash := PyData.keyHash P (Str.ofString "take_away"), key := Value.str (Str.ofString "take_away") 683, val := Value.ref 306 }, { hash := PyData.keyHash P (Str.ofString "put_back"), key := Value.str (Str.ofString "put_back") 697, val := Value.ref 313 }, { hash := PyData.keyHash P (Str.ofString "divide_rows"), key := Value.str (Str.ofString "divide_rows") 710, val := Value.ref 320 }, { hash := PyData.keyHash P (Str.ofString "divrem_school"), key := Value.str (Str.ofString "divrem_school") 723, val := Value.ref 327 }] 51 }
noncomputable def heap328 (P : Params) : Heap := { objs := { toList := hs0 P (gl328 P) ({ cls := Value.none, data := Data.fields #[Value.int 2 0, Value.int 0 0, Value.ref 20, Value.int 4 0, Value.int 0 0, Value.ref 33, Value.int 6 0, Value.int 0 0, Value.ref 45, Value.int 8 0, Value.int 0 0, Value.ref 57, Value.int 10 0, Value.int 0 0, Value.ref 69, Value.int 15 0, Value.int 0 0, Value.ref 76, Value.int 22 0, Value.int 0 0, Value.ref 83, Value.int 37 0, Value.int 0 0, Value.ref 90, Value.int 46 0, Value.int 0 0, Value.ref 97, Value.int 55 0, Value.int 0 0, Value.ref 104, Value.int 64 0, Value.int 0 0, Value.ref 111, Value.int 76 0, Value.int 0 0, Value.ref 118, Value.int 83 0, Value.int 0 0, Value.ref 125, Value.int 85 0, Value.int 0 0, Value.ref 132, Value.int 92 0, Value.int 0 0, Value.ref 144, Value.int 96 0, Value.int 0 0, Value.ref 151, Value.int 100 0, Value.int 0 0, Value.ref 158, Value.int 105 0, Value.int 0 0, Value.ref 165, Value.int 112 0, Value.int 0 0, Value.ref 172, Value.int 114 0, Value.int 0 0, Value.ref 179, Value.int 116 0, Value.int 0 0, Value.ref 186, Value.int 118 0, Value.int 0 0, Value.ref 193, Value.int 123 0, Value.int 0 0, Value.ref 200, Value.int 140 0, Value.int 0 0, Value.ref 207, Value.int 142 0, Value.int 0 0, Value.ref 214, Value.int 144 0, Value.int 0 0, Value.ref 221, Value.int 146 0, Value.int 0 0, Value.ref 228, Value.int 152 0, Value.int 0 0, Value.ref 235, Value.int 154 0, Value.int 0 0, Value.ref 242, Value.int 156 0, Value.int 0 0, Value.ref 249, Value.int 161 0, Value.int 0 0, Value.ref 256, Value.int 166 0, Value.int 0 0, Value.ref 263, Value.int 169 0, Value.int 0 0, Value.ref 270, Value.int 183 0, Value.int 0 0, Value.ref 277, Value.int 191 0, Value.int 0 0, Value.ref 284, Value.int 201 0, Value.int 0 0, Value.ref 291, Value.int 204 0, Value.int 0 0, Value.ref 298, Value.int 212 0, Value.int 0 0, Value.ref 305, Value.int 221 0, Value.int 0 0, Value.ref 312, Value.int 228 0, Value.int 0 0, Value.ref 319, Value.int 238 0, Value.int 0 0, Value.ref 326] }) ({ cls := Value.type "type", data := Data.cls { name := Str.ofString "GmpError", bases := [Value.type "Exception"], mro := [Value.ref 24, Value.type "Exception", Value.type "BaseException", Value.type "object"], ns := 23, qualname := Str.ofString "GmpError", subclasses := [Value.ref 37, Value.ref 49, Value.ref 61] }, slots := #[some (Value.ref 15), none, some (Value.str (Str.ofString "GmpError") 189), some (Value.str (Str.ofString "GmpError") 197), some (Value.builtin "Exception.__new__"), some (Value.bool true)] }) (hs52 P (hs99 P (hs174 P (hs258 P [])))) } }
/-- the text's names, 394 objects on -/
noncomputable def gl394 (P : Params) : Obj := { cls := Value.type "dict", data := Data.dict #[{ hash := PyData.keyHash P (Str.ofString "__name__"), key := Value.str (Str.ofString "__name__") 165, val := Value.str (Str.ofString "law_nn0036_01") 724 }, { hash := PyData.keyHash P (Str.ofString "__doc__"), key := Value.str (Str.ofString "__doc__") 166, val := Value.none }, { hash := PyData.keyHash P (Str.ofString "__package__"), key := Value.str (Str.ofString "__package__") 167, val := Value.none }, { hash := PyData.keyHash P (Str.ofString "__loader__"), key := Value.str (Str.ofString "__loader__") 168, val := Value.builtin "__main__.__loader__#opaque" }, { hash := PyData.keyHash P (Str.ofString "__spec__"), key := Value.str (Str.ofString "__spec__") 169, val := Value.none }, { hash := PyData.keyHash P (Str.ofString "__annotations__"), key := Value.str (Str.ofString "__annotations__") 170, val := Value.ref 6 }, { hash := PyData.keyHash P (Str.ofString "__builtins__"), key := Value.str (Str.ofString "__builtins__") 171, val := Value.ref 4 }, { hash := PyData.keyHash P (Str.ofString "__file__"), key := Value.str (Str.ofString "__file__") 173, val := Value.str (Str.ofString "/claim/cut.py") 172 }, { hash := PyData.keyHash P (Str.ofString "__cached__"), key := Value.str (Str.ofString "__cached__") 174, val := Value.none }, { hash := PyData.keyHash P (Str.ofString "GmpError"), key := Value.str (Str.ofString "GmpError") 208, val := Value.ref 24 }, { hash := PyData.keyHash P (Str.ofString "DivisionByZero"), key := Value.str (Str.ofString "DivisionByZero") 224, val := Value.ref 37 }, { hash := PyData.keyHash P (Str.ofString "NoInverse"), key := Value.str (Str.ofString "NoInverse") 240, val := Value.ref 49 }, { hash := PyData.keyHash P (Str.ofString "OutOfRange"), key := Value.str (Str.ofString "OutOfRange") 256, val := Value.ref 61 }, { hash := PyData.keyHash P (Str.ofString "normal"), key := Value.str (Str.ofString "normal") 264, val := Value.ref 70 }, { hash := PyData.keyHash P (Str.ofString "compare"), key := Value.str (Str.ofString "compare") 273, val := Value.ref 77 }, { hash := PyData.keyHash P (Str.ofString "add"), key := Value.str (Str.ofString "add") 286, val := Value.ref 84 }, { hash := PyData.keyHash P (Str.ofString "sub"), key := Value.str (Str.ofString "sub") 300, val := Value.ref 91 }, { hash := PyData.keyHash P (Str.ofString "add_limb"), key := Value.str (Str.ofString "add_limb") 312, val := Value.ref 98 }, { hash := PyData.keyHash P (Str.ofString "divrem_limb"), key := Value.str (Str.ofString "divrem_limb") 324, val := Value.ref 105 }, { hash := PyData.keyHash P (Str.ofString "shift_left"), key := Value.str (Str.ofString "shift_left") 339, val := Value.ref 112 }, { hash := PyData.keyHash P (Str.ofString "shift_right"), key := Value.str (Str.ofString "shift_right") 354, val := Value.ref 119 }, { hash := PyData.keyHash P (Str.ofString "bits"), key := Value.str (Str.ofString "bits") 362, val := Value.ref 126 }, { hash := PyData.keyHash P (Str.ofString "low"), key := Value.str (Str.ofString "low") 373, val := Value.ref 133 }, { hash := PyData.keyHash P (Str.ofString "UNIT"), key := Value.str (Str.ofString "UNIT") 378, val := Value.ref 138 }, { hash := PyData.keyHash P (Str.ofString "matrix_mul"), key := Value.str (Str.ofString "matrix_mul") 396, val := Value.ref 145 }, { hash := PyData.keyHash P (Str.ofString "led_back"), key := Value.str (Str.ofString "led_back") 415, val := Value.ref 152 }, { hash := PyData.keyHash P (Str.ofString "great_step"), key := Value.str (Str.ofString "great_step") 428, val := Value.ref 159 }, { hash := PyData.keyHash P (Str.ofString "one_step"), key := Value.str (Str.ofString "one_step") 443, val := Value.ref 166 }, { hash := PyData.keyHash P (Str.ofString "difference_bits"), key := Value.str (Str.ofString "difference_bits") 452, val := Value.ref 173 }, { hash := PyData.keyHash P (Str.ofString "least_bits"), key := Value.str (Str.ofString "least_bits") 461, val := Value.ref 180 }, { hash := PyData.keyHash P (Str.ofString "most_bits"), key := Value.str (Str.ofString "most_bits") 470, val := Value.ref 187 }, { hash := PyData.keyHash P (Str.ofString "by_high"), key := Value.str (Str.ofString "by_high") 488, val := Value.ref 194 }, { hash := PyData.keyHash P (Str.ofString "half_gcd"), key := Value.str (Str.ofString "half_gcd") 504, val := Value.ref 201 }, { hash := PyData.keyHash P (Str.ofString "signed"), key := Value.str (Str.ofString "signed") 514, val := Value.ref 208 }, { hash := PyData.keyHash P (Str.ofString "s_neg"), key := Value.str (Str.ofString "s_neg") 521, val := Value.ref 215 }, { hash := PyData.keyHash P (Str.ofString "s_abs"), key := Value.str (Str.ofString "s_abs") 528, val := Value.ref 222 }, { hash := PyData.keyHash P (Str.ofString "s_add"), key := Value.str (Str.ofString "s_add") 537, val := Value.ref 229 }, { hash := PyData.keyHash P (Str.ofString "s_sub"), key := Value.str (Str.ofString "s_sub") 546, val := Value.ref 236 }, { hash := PyData.keyHash P (Str.ofString "s_mul"), key := Value.str (Str.ofString "s_mul") 556, val := Value.ref 243 }, { hash := PyData.keyHash P (Str.ofString "tdiv"), key := Value.str (Str.ofString "tdiv") 568, val := Value.ref 250 }, { hash := PyData.keyHash P (Str.ofString "fdiv"), key := Value.str (Str.ofString "fdiv") 580, val := Value.ref 257 }, { hash := PyData.keyHash P (Str.ofString "s_mod"), key := Value.str (Str.ofString "s_mod") 590, val := Value.ref 264 }, { hash := PyData.keyHash P (Str.ofString "gcd_ext"), key := Value.str (Str.ofString "gcd_ext") 610, val := Value.ref 271 }, { hash := PyData.keyHash P (Str.ofString "inverse_mod"), key := Value.str (Str.ofString "inverse_mod") 624, val := Value.ref 278 }, { hash := PyData.keyHash P (Str.ofString "mul_school"), key := Value.str (Str.ofString "mul_school") 642, val := Value.ref 285 }, { hash := PyData.keyHash P (Str.ofString "divrem_small"), key := Value.str (Str.ofString "divrem_small") 653, val := Value.ref 292 }, { hash := PyData.keyHash P (Str.ofString "guessed_limb"), key := Value.str (Str.ofString "guessed_limb") 667, val := Value.ref 299 }, { hash := PyData.keyHash P (Str.ofString "take_away"), key := Value.str (Str.ofString "take_away") 683, val := Value.ref 306 }, { hash := PyData.keyHash P (Str.ofString "put_back"), key := Value.str (Str.ofString "put_back") 697, val := Value.ref 313 }, { hash := PyData.keyHash P (Str.ofString "divide_rows"), key := Value.str (Str.ofString "divide_rows") 710, val := Value.ref 320 }, { hash := PyData.keyHash P (Str.ofString "divrem_school"), key := Value.str (Str.ofString "divrem_school") 723, val := Value.ref 327 }, { hash := PyData.keyHash P (Str.ofString "_law_take"), key := Value.str (Str.ofString "_law_take") 733, val := Value.ref 334 }, { hash := PyData.keyHash P (Str.ofString "_law_box"), key := Value.str (Str.ofString "_law_box") 739, val := Value.ref 339 }, { hash := PyData.keyHash P (Str.ofString "_law_row"), key := Value.str (Str.ofString "_law_row") 748, val := Value.ref 346 }, { hash := PyData.keyHash P (Str.ofString "_law_plain"), key := Value.str (Str.ofString "_law_plain") 758, val := Value.ref 353 }, { hash := PyData.keyHash P (Str.ofString "_law_gcd"), key := Value.str (Str.ofString "_law_gcd") 766, val := Value.ref 360 }, { hash := PyData.keyHash P (Str.ofString "_law_signed"), key := Value.str (Str.ofString "_law_signed") 774, val := Value.ref 367 }, { hash := PyData.keyHash P (Str.ofString "_law_ext_right"), key := Value.str (Str.ofString "_law_ext_right") 789, val := Value.ref 374 }, { hash := PyData.keyHash P (Str.ofString "_law_inverse_right"), key := Value.str (Str.ofString "_law_inverse_right") 800, val := Value.ref 381 }, { hash := PyData.keyHash P (Str.ofString "_law_half_right"), key := Value.str (Str.ofString "_law_half_right") 806, val := Value.ref 386 }, { hash := PyData.keyHash P (Str.ofString "law"), key := Value.str (Str.ofString "law") 820, val := Value.ref 393 }] 61 }
noncomputable def heap394 (P : Params) : Heap := { objs := { toList := hs0 P (gl394 P) ({ cls := Value.none, data := Data.fields #[Value.int 2 0, Value.int 0 0, Value.ref 20, Value.int 4 0, Value.int 0 0, Value.ref 33, Value.int 6 0, Value.int 0 0, Value.ref 45, Value.int 8 0, Value.int 0 0, Value.ref 57, Value.int 10 0, Value.int 0 0, Value.ref 69, Value.int 15 0, Value.int 0 0, Value.ref 76, Value.int 22 0, Value.int 0 0, Value.ref 83, Value.int 37 0, Value.int 0 0, Value.ref 90, Value.int 46 0, Value.int 0 0, Value.ref 97, Value.int 55 0, Value.int 0 0, Value.ref 104, Value.int 64 0, Value.int 0 0, Value.ref 111, Value.int 76 0, Value.int 0 0, Value.ref 118, Value.int 83 0, Value.int 0 0, Value.ref 125, Value.int 85 0, Value.int 0 0, Value.ref 132, Value.int 92 0, Value.int 0 0, Value.ref 144, Value.int 96 0, Value.int 0 0, Value.ref 151, Value.int 100 0, Value.int 0 0, Value.ref 158, Value.int 105 0, Value.int 0 0, Value.ref 165, Value.int 112 0, Value.int 0 0, Value.ref 172, Value.int 114 0, Value.int 0 0, Value.ref 179, Value.int 116 0, Value.int 0 0, Value.ref 186, Value.int 118 0, Value.int 0 0, Value.ref 193, Value.int 123 0, Value.int 0 0, Value.ref 200, Value.int 140 0, Value.int 0 0, Value.ref 207, Value.int 142 0, Value.int 0 0, Value.ref 214, Value.int 144 0, Value.int 0 0, Value.ref 221, Value.int 146 0, Value.int 0 0, Value.ref 228, Value.int 152 0, Value.int 0 0, Value.ref 235, Value.int 154 0, Value.int 0 0, Value.ref 242, Value.int 156 0, Value.int 0 0, Value.ref 249, Value.int 161 0, Value.int 0 0, Value.ref 256, Value.int 166 0, Value.int 0 0, Value.ref 263, Value.int 169 0, Value.int 0 0, Value.ref 270, Value.int 183 0, Value.int 0 0, Value.ref 277, Value.int 191 0, Value.int 0 0, Value.ref 284, Value.int 201 0, Value.int 0 0, Value.ref 291, Value.int 204 0, Value.int 0 0, Value.ref 298, Value.int 212 0, Value.int 0 0, Value.ref 305, Value.int 221 0, Value.int 0 0, Value.ref 312, Value.int 228 0, Value.int 0 0, Value.ref 319, Value.int 238 0, Value.int 0 0, Value.ref 326, Value.int 252 0, Value.int 0 0, Value.ref 333, Value.int 257 0, Value.int 0 0, Value.ref 338, Value.int 262 0, Value.int 0 0, Value.ref 345, Value.int 268 0, Value.int 0 0, Value.ref 352, Value.int 273 0, Value.int 0 0, Value.ref 359, Value.int 280 0, Value.int 0 0, Value.ref 366, Value.int 282 0, Value.int 0 0, Value.ref 373, Value.int 294 0, Value.int 0 0, Value.ref 380, Value.int 306 0, Value.int 0 0, Value.ref 385, Value.int 315 0, Value.int 0 0, Value.ref 392] }) ({ cls := Value.type "type", data := Data.cls { name := Str.ofString "GmpError", bases := [Value.type "Exception"], mro := [Value.ref 24, Value.type "Exception", Value.type "BaseException", Value.type "object"], ns := 23, qualname := Str.ofString "GmpError", subclasses := [Value.ref 37, Value.ref 49, Value.ref 61] }, slots := #[some (Value.ref 15), none, some (Value.str (Str.ofString "GmpError") 189), some (Value.str (Str.ofString "GmpError") 197), some (Value.builtin "Exception.__new__"), some (Value.bool true)] }) (hs52 P (hs99 P (hs174 P (hs258 P (hs328 P []))))) } }
noncomputable abbrev heapEnd := heap394
noncomputable abbrev P0 : Program := PySem.Challenge.pw_nn0036_01
noncomputable abbrev env0 : Env := { scope := P0.main.scope, locals := mainNs, globals := mainNs, cells := [], code := Value.ref 13, frame := some 14 }
noncomputable abbrev code0 : Code := .body (behindTheImports P0) env0
abbrev pos0 : Pos := { line := 0, col := 0, endLine := 0, endCol := 0 }
abbrev at15 : Pos := pos0
abbrev at52 : Pos := { line := 6, col := 0, endLine := 7, endCol := 8 }
abbrev at99 : Pos := { line := 46, col := 0, endLine := 54, endCol := 16 }
abbrev at174 : Pos := { line := 112, col := 0, endLine := 113, endCol := 71 }
abbrev at258 : Pos := { line := 161, col := 0, endLine := 165, endCol := 27 }
abbrev at328 : Pos := { line := 251, col := 0, endLine := 251, endCol := 8 }
abbrev at394 : Pos := { line := 315, col := 0, endLine := 327, endCol := 120 }
noncomputable abbrev sAt (h : Heap) (k : Nat) (os : OsState) : Shared := ⟨h, #[], {}, k, os⟩
/-- the text's statements from a on, k of them -/
noncomputable def sts (a k : Nat) : List Stmt := ((behindTheImports P0).drop a).take k
theorem sts_all : behindTheImports P0 = sts 0 4 ++ (sts 4 6 ++ (sts 10 12 ++ (sts 22 13 ++ (sts 35 13 ++ (sts 48 10 ++ []))))) := by kernel_rfl
theorem run_pre (w : World) (os : OsState) : topGo treeTable P0 w 11 (some (.ref 6)) 12 ⟨boot_heap w.params, #[], boot_drawn, boot_toks, os⟩ (topStub P0) =
    some (sAt (heap15 w.params) 187 os, ⟨denote treeTable code0, code0, pos0, [topFrame pos0]⟩) := by
  kernel_rfl
theorem run_block (w : World) (os : OsState) : segRun treeTable P0 w 11 (some (.ref 6)) 1 1 (sAt (heap15 w.params) 187 os) (blockOf (behindTheImports P0) env0 code0 pos0 [topFrame pos0]) =
    some (.next, sAt (heap15 w.params) 187 os, code0, pos0) := by kernel_rfl
theorem run52 (w : World) (os : OsState) : segRun treeTable P0 w 11 (some (.ref 6)) 1 640 (sAt (heap15 w.params) 187 os) (piecesOf (sts 0 4) env0 code0 at15 [topFrame pos0]) =
    some (.next, sAt (heap52 w.params) 241 os, code0, at52) := by
  rw [Fast.te14374325043358763698, Fast.te14364793385576792824]
  kernel_rfl
theorem run99 (w : World) (os : OsState) : segRun treeTable P0 w 11 (some (.ref 6)) 1 400 (sAt (heap52 w.params) 241 os) (piecesOf (sts 4 6) env0 code0 at52 [topFrame pos0]) =
    some (.next, sAt (heap99 w.params) 313 os, code0, at99) := by
  rw [Fast.te14374325043358763698, Fast.te14364793385576792824]
  kernel_rfl
theorem run174 (w : World) (os : OsState) : segRun treeTable P0 w 11 (some (.ref 6)) 1 400 (sAt (heap99 w.params) 313 os) (piecesOf (sts 10 12) env0 code0 at99 [topFrame pos0]) =
    some (.next, sAt (heap174 w.params) 453 os, code0, at174) := by
  rw [Fast.te14374325043358763698, Fast.te14364793385576792824]
  kernel_rfl
theorem run258 (w : World) (os : OsState) : segRun treeTable P0 w 11 (some (.ref 6)) 1 420 (sAt (heap174 w.params) 453 os) (piecesOf (sts 22 13) env0 code0 at174 [topFrame pos0]) =
    some (.next, sAt (heap258 w.params) 581 os, code0, at258) := by
  rw [Fast.te14374325043358763698, Fast.te14364793385576792824]
  kernel_rfl
theorem run328 (w : World) (os : OsState) : segRun treeTable P0 w 11 (some (.ref 6)) 1 400 (sAt (heap258 w.params) 581 os) (piecesOf (sts 35 13) env0 code0 at258 [topFrame pos0]) =
    some (.next, sAt (heap328 w.params) 726 os, code0, at328) := by
  rw [Fast.te14374325043358763698, Fast.te14364793385576792824]
  kernel_rfl
theorem run394 (w : World) (os : OsState) : segRun treeTable P0 w 11 (some (.ref 6)) 1 330 (sAt (heap328 w.params) 726 os) (piecesOf (sts 48 10) env0 code0 at328 [topFrame pos0]) =
    some (.next, sAt (heap394 w.params) 821 os, code0, at394) := by
  rw [Fast.te14374325043358763698, Fast.te14364793385576792824]
  kernel_rfl
theorem run_fin (w : World) (os : OsState) : topRun treeTable P0 w 11 (some (.ref 6)) 2 (sAt (heap394 w.params) 821 os) ⟨doneF .next, code0, at394, [topFrame pos0]⟩ = some (sAt (heap394 w.params) 821 os) := by kernel_rfl
theorem runs (w : World) (os : OsState) : topRun treeTable P0 w 11 (some (.ref 6)) (12 + (1 + (640 + (400 + (400 + (420 + (400 + (330 + 2)))))))) ⟨boot_heap w.params, #[], boot_drawn, boot_toks, os⟩ (topStub P0) = some (sAt (heap394 w.params) 821 os) := by
  refine go_top (run_pre w os) (piece_block (run_block w os) ?_)
  rw [sts_all]
  exact piece_app (run52 w os) (piece_app (run99 w os) (piece_app (run174 w os) (piece_app (run258 w os) (piece_app (run328 w os) (piece_app (run394 w os) (piece_nil (run_fin w os)))))))
noncomputable abbrev sEnd (w : World) (os : OsState) : Shared := ⟨heapEnd w.params, #[], {}, 821, os⟩
noncomputable abbrev seenEnd (w : World) (os : OsState) := openSeen vw [PySem.Str.ofString "UNIT"] (importedModules PySem.Challenge.pw_nn0036_01.main.body) lookAt true (sEnd w os)
theorem look0 (w : World) (os : OsState) : (staticsOk (importedModules PySem.Challenge.pw_nn0036_01.main.body) (boot_heap w.params) (heapEnd w.params) && namesBound PySem.Challenge.pw_nn0036_01 (heapEnd w.params) && gensDone (sEnd w os) && laidKept (boot_heap w.params) (heapEnd w.params)) = true := by kernel_rfl
theorem look1 (w : World) (os : OsState) : (seenEnd w os).1 = expectedOf vw := by unfold seenEnd; rw [Fast.te4187177175401517315]; kernel_rfl
theorem look2 (w : World) (os : OsState) : (seenEnd w os).2.1 = bltViewBooted := by unfold seenEnd; rw [Fast.te4187177175401517315]; kernel_rfl
theorem look3 (w : World) (os : OsState) : (seenEnd w os).2.2.1 = true := by unfold seenEnd; rw [Fast.te4187177175401517315]; kernel_rfl
theorem look4 (w : World) (os : OsState) : (seenEnd w os).2.2.2.1 = true := by unfold seenEnd; rw [Fast.te4187177175401517315]; kernel_rfl
theorem look5 (w : World) (os : OsState) : (seenEnd w os).2.2.2.2.1 = pinGoodD (drecsOf vw) := by unfold seenEnd; rw [Fast.te4187177175401517315]; kernel_rfl
theorem look6 (w : World) (os : OsState) : (seenEnd w os).2.2.2.2.2.1 = plainGoodE vw (looseW vw [PySem.Str.ofString "UNIT"]) := by unfold seenEnd; rw [Fast.te4187177175401517315]; kernel_rfl
theorem look7 (w : World) (os : OsState) : (seenEnd w os).2.2.2.2.2.2.1 = plainGoodD vw [PySem.Str.ofString "UNIT"] := by unfold seenEnd; rw [Fast.te4187177175401517315]; kernel_rfl
theorem look8 (w : World) (os : OsState) : (seenEnd w os).2.2.2.2.2.2.2.1 = wideGood vw := by unfold seenEnd; rw [Fast.te4187177175401517315]; kernel_rfl
theorem look9 (w : World) (os : OsState) : (seenEnd w os).2.2.2.2.2.2.2.2 = clsGoodW vw [PySem.Str.ofString "UNIT"] := by unfold seenEnd; rw [Fast.te4187177175401517315]; kernel_rfl
theorem lookY (w : World) (os : OsState) : Hook.obs unitHook (sEnd w os) = Hook.val unitHook w := by kernel_rfl
theorem both {α β : Type} {a : α} {b : β} {x : α × β} (h : x.1 = a) (k : x.2 = b) : x = (a, b) := by cases x; subst h; subst k; rfl
theorem looks (w : World) (os : OsState) : seenEnd w os = openGood vw [PySem.Str.ofString "UNIT"] :=
  both (look1 w os) (both (look2 w os) (both (look3 w os) (both (look4 w os) (both (look5 w os) (both (look6 w os) (both (look7 w os) (both (look8 w os) (look9 w os))))))))
theorem left : LeftO PySem.Challenge.pw_nn0036_01 vw [PySem.Str.ofString "UNIT"] lookAt (Hook.obs unitHook) (Hook.val unitHook) 5106 :=
  LeftO.of_pieces (boot_open (by rfl) (by rfl) (fun s => by rfl)) (fun w => by kernel_rfl) runs (by decide +kernel)
    fun w => funext fun os => Prod.ext (look0 w os) (Prod.ext (looks w os) (lookY w os))
theorem noRoad_cons (lk : Look) (s : Stmt) (r : List Stmt) : noRoadLSs lk (s :: r) = (noRoadLS lk s && noRoadLSs lk r) := by kernel_rfl
theorem noRoad_app (lk : Look) : ∀ a b : List Stmt, noRoadLSs lk (a ++ b) = (noRoadLSs lk a && noRoadLSs lk b)
  | [], b => by kernel_rfl
  | s :: a, b => by rw [List.cons_append, noRoad_cons, noRoad_cons, noRoad_app lk a b, Bool.and_assoc]
noncomputable abbrev body0 : List Stmt := PySem.Challenge.rw_nn0036_01.row.prog.main.body
theorem reads1 : readsOut PySem.Challenge.rw_nn0036_01.row.prog body0 "vars" = false := by rw [Fast.te13343964577679436407]; kernel_rfl
theorem reads2 : readsOut PySem.Challenge.rw_nn0036_01.row.prog body0 "dir" = false := by rw [Fast.te13343964577679436407]; kernel_rfl
theorem reads3 : readsOut PySem.Challenge.rw_nn0036_01.row.prog body0 "locals" = false := by rw [Fast.te13343964577679436407]; kernel_rfl
theorem strict0 : (!(importedModules body0).all cThrough.contains) = false := by kernel_rfl
theorem look_eq : ({ strict := !(importedModules body0).all cThrough.contains, foot := none, bare := (["vars", "dir", "locals"] : List Str).filter (readsOut PySem.Challenge.rw_nn0036_01.row.prog body0) } : Look) = { strict := false, foot := none, bare := [] } := by
  rw [strict0, List.filter_cons_of_neg (by rw [reads1]; decide), List.filter_cons_of_neg (by rw [reads2]; decide), List.filter_cons_of_neg (by rw [reads3]; decide)]; rfl
theorem road1 : noRoadLSs { strict := false, foot := none, bare := [] } (sts 0 22) = true := by rw [Fast.te8326940854005059898]; kernel_rfl
theorem road2 : noRoadLSs { strict := false, foot := none, bare := [] } (sts 22 13) = true := by rw [Fast.te8326940854005059898]; kernel_rfl
theorem road3 : noRoadLSs { strict := false, foot := none, bare := [] } (sts 35 13) = true := by rw [Fast.te8326940854005059898]; kernel_rfl
theorem road4 : noRoadLSs { strict := false, foot := none, bare := [] } (sts 48 10) = true := by rw [Fast.te8326940854005059898]; kernel_rfl
theorem body_cut : body0 = sts 0 22 ++ (sts 22 13 ++ (sts 35 13 ++ sts 48 10)) := by kernel_rfl
theorem road_all : noRoadLSs { strict := false, foot := none, bare := [] } body0 = true := by
  rw [body_cut, noRoad_app, noRoad_app, noRoad_app, road1, road2, road3, road4]; rfl
theorem road : noRoadLSs { strict := !(importedModules body0).all cThrough.contains, foot := none, bare := (["vars", "dir", "locals"] : List Str).filter (readsOut PySem.Challenge.rw_nn0036_01.row.prog body0) } body0 = true := by
  rw [look_eq]; exact road_all
/-- the row says what it may: each look apart -/
theorem ws : OpenLaw.wellSaid PySem.Challenge.rw_nn0036_01 = true := by
  unfold OpenLaw.wellSaid OpenRow.wellSaid OpenRow.partSaid looksOpen
  repeat' with_reducible refine look_both ?_ ?_
  all_goals first | with_reducible exact road | (
    try rw [Fast.te17119622794617984870]
    try rw [Fast.te11788848310118352699]
    try rw [Fast.te8377067652309620493]
    try rw [Fast.te8326940854005059898]
    try rw [Fast.te18344453789297297638]
    try rw [Fast.te16286561074155671207]
    try rw [Fast.te9558739934217749035]
    try rw [Fast.te17868728402115742887]
    try rw [Fast.te6984425678791042302]
    decide +kernel)
end Mine
theorem Mine.head (lb : ∀ {ns : List Int}, ns.length ≤ 1000 → ∀ {T : Mine.Tp} {C : Mine.Cx T}, C.room = 70 → C.A.frames = some [C.env (Mine.dAt 57)] → Mine.EX (Mine.dAt 57) C [("script", .val (.row ns))] (Mine.dAt 57).body (Mine.RetIs (.bool true))) :
    PySem.Challenge.rw_nn0036_01.Holds := by
  w_on
  refine holds_law Mine.ws fun said => ?_
  refine holds_open (q := Mine.vw) (loose := [PySem.Str.ofString "UNIT"]) (Xt := Mine.lookAt) (XP := XL Mine.vw []) (Yf := Hook.obs Mine.unitHook) (Ya := Hook.val Mine.unitHook) (YP := Hook.says Mine.unitHook) (N := 5106)
    Mine.left (Hook.of Mine.unitHook) (Hook.keeps Mine.unitHook) (fun s e => xl_of s (Bool.and_eq_true_iff.mp e).1) XL.keeps (by rfl) (by rfl) (by rfl) (fun s e => recFacts_of (Bool.and_eq_true_iff.mp e).2) (by rfl) said (by decide +kernel) ⟨rfl, rfl, rfl, rfl, rfl, by decide +kernel⟩ ?hw ?hc
  case hw => w_witness2
  intro w s₀ s₁ mg mb G Y fa o pm cd doc dV kV ho hd hcd hD hmg hg args vals as hpre hlay hrd hwl hlo
  have X := (Ground.X G).1
  have V := (Ground.X G).2
  refine Ground.open G ?_
  intro T B D TE TW
  have gd := Mine.gd_of T Y (by rfl) (by decide +kernel) (by decide +kernel)
  try (refine guard_noD D (by decide +kernel) ?_; clear D)
  obtain ⟨_, _, M⟩ := bmod_of_top T
  have TA := at_of_top T
  try (obtain ⟨_, _, he, B0⟩ := based_of_top T rfl hmg ho hd; have he' : cd = _ := he; subst he'; clear he)
  wrow_args hpre hlay hrd hwl hlo
  refine enter_call ?_
  w_top on
  try refine codeAny_mono ?_ (fun _ _ g => GoodW.toG g)
  have K0 := below_caller (Top.heap T)
  w_call any ho hd hcd hD T F
  rename_i hs0 hlay0 hL0 hr0 hl0 x3 x2 x1 x0 hL ra w1 r0 hI hrA hcond hcT h₁ N0
  refine Mine.law_join gd (fun T C h1 h2 => lb (by omega) h1 h2) F rfl hL hI _ _ (fun v f h' tk' ef ev hk => ?_)
  subst ef; subst ev
  refine ⟨.inl ⟨.bool true, .bool true, [], rfl, raisesW_false ?_, .bool true, ?_, fun _ => ⟨.nil, fun b hb => nomatch hb⟩⟩, hk, rfl, hg⟩
  · wrow_none_raised
  · wrow_post
namespace Mine
local macro_rules | `(tactic| walk_at "side") => `(tactic| first | assumption | lia | omega | decide | (simp only [List.length_cons, List.length_nil, List.length_append, List.length_replicate, List.length_set, List.length_map, List.length_take, List.length_drop, rn_length]; first | lia | omega) | (simp; done) | fail "side")
local macro_rules | `(tactic| walk_at "r") => `(tactic| first | exact rfl | (intro _; exact rfl) | (intros; exact rfl) | fail "r")
local macro_rules | `(tactic| walk_at "op") => `(tactic| first
  | with_reducible exact OpI.addC1 | with_reducible exact OpI.addC2 | with_reducible exact OpI.fdivC2 | with_reducible exact OpI.fdivC4
  | ((with_reducible apply OpI.subC2) <;> walk_at "side")
  | ((with_reducible apply OpI.mulC2) <;> walk_at "side") | ((with_reducible apply OpI.mulC3) <;> walk_at "side")
  | with_reducible exact OpI.addN | ((with_reducible apply OpI.subN) <;> (walk_at "side")) | with_reducible exact OpI.orN
  | ((with_reducible apply OpI.mulN) <;> walk_at "side")
  | with_reducible exact OpI.add | with_reducible exact OpI.sub
  | ((with_reducible apply OpI.shl1); walk_at "side")
  | ((with_reducible apply OpI.shlN) <;> walk_at "side")
  | ((with_reducible apply OpI.shl) <;> walk_at "side")
  | with_reducible exact OpI.shrN
  | ((with_reducible apply OpI.fdivN) <;> walk_at "side")
  | ((with_reducible apply OpI.modN) <;> walk_at "side")
  | ((with_reducible apply OpI.mod) <;> walk_at "side")
  | with_reducible exact OpI.maskN
  | ((with_reducible apply OpI.mulS) <;> (constructor <;> omega))
  | ((with_reducible apply OpI.mul) <;> walk_at "side")
  | fail "op")
local macro_rules | `(tactic| walk_at "cm") => `(tactic| first | with_reducible exact CmI.toV CmI.lt | with_reducible exact CmI.toV CmI.le | with_reducible exact CmI.toV CmI.gt | with_reducible exact CmI.toV CmI.ge | with_reducible exact CmI.toV CmI.eq | with_reducible exact CmI.toV CmI.ne | with_reducible exact CmV.bool_eq | with_reducible exact CmV.bool_ne | with_reducible exact CmV.str_str | ((with_reducible apply CmV.ne_self); exact rfl) | ((with_reducible apply CmV.eq_self); exact rfl) | ((with_reducible apply CmV.row_str); decide +kernel) | fail "cm")
local macro_rules | `(tactic| walk_at "er") => `(tactic| first | ((with_reducible apply ER.own) <;> walk_at "r") | ((with_reducible apply ER.arr) <;> walk_at "r") | ((with_reducible apply ER.pin) <;> walk_at "r") | ((with_reducible apply ER.box0) <;> walk_at "r") | ((with_reducible apply ER.val); walk_at "ev") | fail "er")
local macro_rules | `(tactic| walk_at "part") => `(tactic| first | with_reducible exact EP.none | ((with_reducible apply EP.some); walk_at "ev") | fail "part")
local macro_rules | `(tactic| walk_at "eis") => `(tactic| first
  | with_reducible exact EIs.nil
  | ((with_reducible apply EIs.cons); walk_at "ev"; walk_at "eis"; walk_at "r")
  | fail "eis")
local macro_rules | `(tactic| walk_at "ef") => `(tactic| first
  | with_reducible exact EF.nil
  | ((with_reducible apply EF.oneN); walk_at "ev"; walk_at "r")
  | ((with_reducible apply EF.one); walk_at "ev"; walk_at "r")
  | ((with_reducible apply EF.zeros); walk_at "ef"; walk_at "ev"; walk_at "side")
  | ((with_reducible apply EF.catN); walk_at "ev"; walk_at "ev"; walk_at "side")
  | ((with_reducible apply EF.mul); walk_at "ef"; walk_at "ev"; walk_at "side"; walk_at "side")
  | ((with_reducible apply EF.cutAll); walk_at "er"; walk_at "side"; walk_at "r")
  | ((with_reducible apply EF.rev); walk_at "er"; (apply EV.toI; walk_at "ev"; decide); walk_at "side"; walk_at "r")
  | ((with_reducible apply EF.cutRun); walk_at "er"; walk_at "ev"; walk_at "ev"; walk_at "side"; walk_at "side"; walk_at "side"; walk_at "r")
  | ((with_reducible apply EF.cutUpto); walk_at "er"; walk_at "ev"; walk_at "side"; walk_at "r")
  | ((with_reducible apply EF.cut); walk_at "er"; walk_at "part"; walk_at "part"; walk_at "side"; walk_at "r")
  | ((with_reducible apply EF.cat); walk_at "ev"; walk_at "ev"; walk_at "side")
  | fail "ef")
local macro_rules | `(tactic| walk_at "evs") => `(tactic| first
  | with_reducible exact EVs.nil
  | ((with_reducible apply EVs.cons); walk_at "ev"; walk_at "evs"; walk_at "r")
  | fail "evs")
local macro_rules | `(tactic| walk_at "fn") => `(tactic| first | assumption | fail "fn")
local macro_rules | `(tactic| walk_at "call") => `(tactic| first
  | ((with_reducible apply EV.call'); walk_at "evs"; walk_at "fn"; walk_at "r"; walk_at "side"; walk_at "r"; walk_at "r"; walk_at "r")
  | ((with_reducible apply EV.callL'); walk_at "r"; walk_at "evs"; walk_at "fn"; walk_at "r"; walk_at "side"; walk_at "r"; walk_at "r"; walk_at "r")
  | fail "call")
local macro_rules | `(tactic| walk_at "ev") => `(tactic| first
  | with_reducible exact EV.int | with_reducible exact EV.bool | with_reducible exact EV.str
  | ((with_reducible apply EV.name) <;> walk_at "r")
  | ((with_reducible apply EV.unit); walk_at "r")
  | ((with_reducible apply EV.cellw); assumption; walk_at "r"; walk_at "r")
  | ((with_reducible apply EV.mulS); walk_at "r")
  | ((with_reducible apply EV.divS); walk_at "r")
  | ((with_reducible apply EV.bin); walk_at "ev"; walk_at "ev"; walk_at "op")
  | ((with_reducible apply EV.bitlenN); walk_at "ev"; exact rfl)
  | ((with_reducible apply EV.lenN); walk_at "er"; walk_at "r"; walk_at "side"; walk_at "r"; walk_at "r")
  | ((with_reducible apply EV.len); walk_at "er"; walk_at "r"; walk_at "side"; walk_at "r"; walk_at "r")
  | ((with_reducible apply EV.box1); walk_at "r"; walk_at "r"; walk_at "r"; walk_at "r")
  | ((with_reducible apply EV.item0); walk_at "ev"; walk_at "r")
  | ((with_reducible apply EV.item1); walk_at "ev"; walk_at "r")
  | ((with_reducible apply EV.item2); walk_at "ev"; walk_at "r")
  | ((with_reducible apply EV.lastN); walk_at "er"; (with_reducible exact EV.m1); walk_at "side"; walk_at "side"; walk_at "r")
  | ((with_reducible apply EV.minN); walk_at "ev"; walk_at "ev"; walk_at "r"; walk_at "r"; walk_at "r"; walk_at "r")
  | ((with_reducible apply EV.maxN); walk_at "ev"; walk_at "ev"; walk_at "r"; walk_at "r"; walk_at "r"; walk_at "r")
  | ((with_reducible apply EV.min); walk_at "ev"; walk_at "ev"; walk_at "r"; walk_at "r"; walk_at "r"; walk_at "r")
  | ((with_reducible apply EV.max); walk_at "ev"; walk_at "ev"; walk_at "r"; walk_at "r"; walk_at "r"; walk_at "r")
  | ((with_reducible apply EV.abs); walk_at "ev"; walk_at "r"; walk_at "r"; walk_at "r")
  | ((with_reducible apply EV.itemNN); walk_at "er"; walk_at "ev"; walk_at "side"; walk_at "side"; walk_at "r")
  | ((with_reducible apply EV.itemRN); walk_at "er"; walk_at "ev"; walk_at "side"; walk_at "side"; walk_at "side"; walk_at "r")
  | ((with_reducible apply EV.itemR); walk_at "er"; walk_at "ev"; walk_at "side"; walk_at "item"; walk_at "side"; walk_at "r")
  | ((with_reducible apply EV.cmp); walk_at "ev"; walk_at "ev"; walk_at "cm"; walk_at "r")
  | ((with_reducible apply EV.iteT); walk_at "et"; assumption; walk_at "ev")
  | ((with_reducible apply EV.iteF); walk_at "et"; assumption; walk_at "ev")
  | ((with_reducible apply EV.iteI); walk_at "et"; ((intro hc); (try simp only [decide_eq_true_eq] at hc); walk_at "ev"); ((intro hc); (try simp only [decide_eq_false_iff_not] at hc); walk_at "ev"))
  | ((with_reducible apply EV.ite); walk_at "et"; ((intro hc); (try simp only [decide_eq_true_eq] at hc); walk_at "ev"); ((intro hc); (try simp only [decide_eq_false_iff_not] at hc); walk_at "ev"))
  | with_reducible exact EV.m1
  | ((with_reducible apply EV.neg); walk_at "ev")
  | ((with_reducible apply EV.not); walk_at "ev")
  | ((with_reducible apply EV.intb); walk_at "ev"; walk_at "r"; walk_at "r"; walk_at "r")
  | ((with_reducible apply EV.and3); walk_at "ev"; ((intro hc); walk_at "ev"); ((intro hc hc'); walk_at "ev"))
  | ((with_reducible apply EV.and2); walk_at "ev"; ((intro hc); walk_at "ev"))
  | ((with_reducible apply EV.tup); walk_at "evs"; walk_at "side")
  | ((with_reducible apply EV.ef); walk_at "ef")
  | walk_at "call"
  | fail "ev")
local macro_rules | `(tactic| walk_at "item") => `(tactic| first | assumption | exact rfl | fail "item")
local macro_rules | `(tactic| walk_at "et") => `(tactic| first
  | ((with_reducible apply ET.cmp); walk_at "ev"; walk_at "ev"; walk_at "cm"; walk_at "r")
  | ((with_reducible apply ET.not); walk_at "et")
  | ((with_reducible apply ET.op); walk_at "ets")
  | ((with_reducible apply ET.val); walk_at "ev"; walk_at "r")
  | fail "et")
local macro_rules | `(tactic| walk_at "ets") => `(tactic| first
  | with_reducible exact ETs.and_nil | with_reducible exact ETs.or_nil
  | ((with_reducible apply ETs.and_cons); walk_at "et"; (intro hc); (try simp only [decide_eq_true_eq] at hc); walk_at "ets")
  | ((with_reducible apply ETs.or_cons); walk_at "et"; (intro hc); (try simp only [decide_eq_false_iff_not] at hc); walk_at "ets")
  | fail "ets")
local macro_rules | `(tactic| walk_at "st") => `(tactic| (apply EX.step; walk_at "es"))
local macro_rules | `(tactic| walk_at "st arr") => `(tactic| (apply EX.step; first
  | ((with_reducible apply ES.arr1); walk_at "ef"; walk_at "r"; walk_at "r"; walk_at "r")
  | ((with_reducible apply ES.arr3); walk_at "r"; walk_at "r"; walk_at "ef"; walk_at "eis"; walk_at "r"; walk_at "r"; walk_at "r"; walk_at "side"; walk_at "r")
  | fail "st arr"))
local macro_rules | `(tactic| walk_at "rg") => `(tactic| first
  | ((with_reducible apply ERg.one); walk_at "ev"; walk_at "r"; walk_at "r"; walk_at "r")
  | ((with_reducible apply ERg.two); walk_at "ev"; walk_at "ev"; walk_at "r"; walk_at "r"; walk_at "r"; walk_at "r")
  | ((with_reducible apply ERg.three); walk_at "ev"; walk_at "ev"; walk_at "ev"; walk_at "side"; walk_at "side"; walk_at "r"; walk_at "r"; walk_at "r"; walk_at "r"; walk_at "r")
  | fail "rg")
local macro_rules | `(tactic| walk_at "es") => `(tactic| first
  | ((with_reducible apply ES.assignOwn (hlv := .inl rfl)); walk_at "ef"; walk_at "r"; walk_at "r"; walk_at "r")
  | ((with_reducible apply ES.assign); walk_at "ev"; walk_at "r"; walk_at "r")
  | ((with_reducible apply ES.aug); walk_at "r"; walk_at "ev"; walk_at "opj"; walk_at "r")
  | ((with_reducible apply ES.appendN); walk_at "r"; walk_at "ev"; walk_at "side"; walk_at "r"; walk_at "r"; walk_at "r"; walk_at "r"; walk_at "r"; walk_at "r"; walk_at "r"; walk_at "r")
  | ((with_reducible apply ES.append); walk_at "r"; walk_at "ev"; walk_at "side"; walk_at "r"; walk_at "r"; walk_at "r"; walk_at "r"; walk_at "r"; walk_at "r"; walk_at "r"; walk_at "r")
  | ((with_reducible apply ES.setN); walk_at "r"; walk_at "ev"; walk_at "ev"; walk_at "side"; walk_at "side"; walk_at "r"; walk_at "r"; walk_at "r")
  | ((with_reducible apply ES.setPinN); walk_at "r"; walk_at "ev"; walk_at "ev"; walk_at "side"; walk_at "side"; walk_at "r"; walk_at "r"; walk_at "r")
  | ((with_reducible apply ES.setItem); walk_at "r"; walk_at "ev"; walk_at "ev"; walk_at "side"; walk_at "side"; walk_at "side"; walk_at "r"; walk_at "r"; walk_at "r")
  | ((with_reducible apply ES.own3); walk_at "r"; walk_at "r"; walk_at "ef"; walk_at "eis"; walk_at "r"; walk_at "r"; walk_at "r"; walk_at "side"; walk_at "r")
  | ((with_reducible apply ES.swap'); walk_at "r"; walk_at "r"; walk_at "ev"; walk_at "r"; walk_at "r")
  | ((with_reducible apply ES.tup'); walk_at "r"; walk_at "r"; walk_at "ev"; walk_at "r"; walk_at "r"; walk_at "r")
  | fail "es")
local macro_rules | `(tactic| walk_at "em") => `(tactic| first
  | ((with_reducible apply EM.callBox); walk_at "r"; walk_at "evs"; walk_at "fn"; walk_at "r"; walk_at "side"; walk_at "r"; walk_at "r"; walk_at "r"; walk_at "r"; walk_at "r")
  | ((with_reducible apply EM.callPin); walk_at "r"; walk_at "evs"; walk_at "fn"; walk_at "r"; walk_at "side"; walk_at "r"; walk_at "r"; walk_at "r"; walk_at "r"; walk_at "r")
  | ((with_reducible apply EM.ev); walk_at "ev")
  | fail "em")
local macro_rules | `(tactic| walk_at "emt") => `(tactic| first
  | ((with_reducible apply EMT.cmp); walk_at "em"; walk_at "ev"; walk_at "cm"; walk_at "r")
  | ((with_reducible apply EMT.not); walk_at "emt")
  | ((with_reducible apply EMT.val); walk_at "em"; walk_at "r")
  | fail "emt")
local macro_rules | `(tactic| walk_at "esm") => `(tactic| first
  | ((with_reducible apply ES.assignM); walk_at "em"; walk_at "r"; walk_at "r")
  | ((with_reducible apply ES.exprM); walk_at "em"; walk_at "r"; walk_at "r")
  | fail "esm")
local macro_rules | `(tactic| walk_at "evr") => `(tactic| ((with_reducible apply EVr.call); walk_at "evs"; walk_at "fn"; walk_at "r"; walk_at "side"; walk_at "r"; walk_at "r"; walk_at "r"))
local macro_rules | `(tactic| walk_at "stm") => `(tactic| (apply EX.step; walk_at "esm"))
local macro_rules | `(tactic| walk_at "opj") => `(tactic| first
  | with_reducible exact OpJ.addN | with_reducible exact OpJ.orN
  | with_reducible exact OpJ.add | with_reducible exact OpJ.sub
  | with_reducible exact OpJ.shrN
  | ((with_reducible apply OpJ.modN) <;> walk_at "side")
  | with_reducible exact OpJ.or
  | fail "opj")
local macro_rules | `(tactic| walk_at "lv") => `(tactic| first | exact rfl | (with_reducible refine lvI ?_; omega) | (with_reducible refine lvO ?_; assumption) | (with_reducible refine lvA ?_; assumption) | (with_reducible refine lvI ?_; assumption) | skip)
local macro_rules | `(tactic| walk_at "sub") => `(tactic| first | exact Sub.nil | (focus (apply Sub.cons; exact rfl; (walk_at "lv"); rotate_left; walk_at "sub")))
local macro_rules | `(tactic| walk_at "ret") => `(tactic| (apply EX.retv (hΦ := fun ρ' => ⟨ρ', .inl rfl⟩); walk_at "ev"))
section
variable {T : Tp} {C : Cx T} {ρ : Loc}
/-- a number's row -/
noncomputable def R (w n : Nat) : V := .row (rn (dig (2 ^ w) n))
theorem two_le_pow {w : Nat} (hw : 1 ≤ w) : 2 ≤ 2 ^ w := by
  have := Nat.pow_le_pow_right (show 0 < 2 by decide) hw
  simpa using this
noncomputable def Sm (n : Nat) : Prop := n < 2 ^ 200
theorem Sm.len {w n : Nat} (hw : 1 ≤ w) (h : Sm n) : (dig (2 ^ w) n).length ≤ 200 :=
  dig_len_le (two_le_pow hw) (Nat.lt_of_lt_of_le h (Nat.pow_le_pow_left (two_le_pow hw) 200))

theorem normN_take {xs : List Nat} {e : Nat} (he : e ≤ xs.length) (hz : ∀ j, e ≤ j → j < xs.length → xs.getD j 0 = 0) (hl : e = 0 ∨ xs.getD (e-1) 0 ≠ 0) : xs.take e = normN xs := by
  have h1 : Nrm (xs.take e) := by
    intro q
    rcases hl with rfl | hl
    · simp at q
    · rw [List.getLast?_eq_getElem?, List.length_take, Nat.min_eq_left he] at q
      have h0 : e ≠ 0 := fun z => by subst z; simp at q
      rw [List.getElem?_take_of_lt (by lia)] at q
      rw [List.getD_eq_getElem?_getD, q] at hl
      exact hl rfl
  have h2 : pv 2 (xs.drop e) = 0 ∧ xs.drop e = List.replicate (xs.length - e) 0 := by
    have : xs.drop e = List.replicate (xs.length - e) 0 := by
      rw [List.eq_replicate_iff]
      refine ⟨by simp, fun b hb => ?_⟩
      obtain ⟨j, hj, rfl⟩ := List.getElem_of_mem hb
      have := hz (e + j) (by lia) (by simp at hj; lia)
      rw [List.getD_eq_getElem?_getD, List.getElem?_eq_getElem (by simp at hj; lia)] at this
      simpa using this
    exact ⟨by rw [this, pv_replicate], this⟩
  -- a base above all digits
  have hB : ∃ B, 2 ≤ B ∧ Dig B xs := by
    refine ⟨xs.foldl (fun a b => Max.max a b) 0 + 2, by lia, fun x hx => ?_⟩
    have key : ∀ (l : List Nat) (a : Nat), a ≤ l.foldl (fun a b => Max.max a b) a ∧ ∀ y ∈ l, y ≤ l.foldl (fun a b => Max.max a b) a := by
      intro l
      induction l with
      | nil => intro a; exact ⟨Nat.le_refl _, fun y h => by cases h⟩
      | cons z r ih =>
        intro a
        obtain ⟨i1, i2⟩ := ih (Max.max a z)
        simp only [List.foldl_cons]
        refine ⟨by lia, fun y hy => ?_⟩
        rcases List.mem_cons.mp hy with rfl | hy
        · lia
        · exact i2 y hy
    have := (key xs 0).2 x hx
    lia
  obtain ⟨B, hB, hd⟩ := hB
  rw [normN_dig hB hd]
  refine eq_dig hB (hd.take e) h1 ?_
  have := pv_split (B := B) xs e
  rw [h2.2, pv_replicate] at this
  simpa using this.symm

theorem normal_ok' {xs : List Nat} (hz : xs.length ≤ 100000) : FN T "normal" 0 [.row (rn xs)] (.row (rn (normN xs))) := by
  refine FN.of (d := dAt 5) ["a"] (dAt_mem rfl) (fun pm code doc vs hv => ?_) rfl (by decide) (by decide) (by decide) rfl rfl rfl fun C hC => ?_
  · revert vs; refine lens1 ?_ rfl; intros; rfl
  · show EX _ _ [("a", .val (.row (rn xs)))] _ _
    walk_at "st"
    refine EX.while (fun k ρ' => k ≤ xs.length ∧ (∀ j, k ≤ j → j < xs.length → xs.getD j 0 = 0) ∧ ρ' = ([("end", .val (.int k)), ("a", .val (.row (rn xs)))] : Loc)) xs.length ⟨Nat.le_refl _, fun j h1 h2 => by lia, rfl⟩ ?_
    rintro k _ ⟨hk, hj, rfl⟩
    refine ⟨decide ((0 : Int) < k) && (decide (((xs.getD ((k : Int) - 1).toNat 0 : Nat) : Int) = 0) && true), ?_, fun hb => ?_, fun hb => ?_⟩
    · walk_at "et"
    · have e : ((k : Int) - 1).toNat = k - 1 := by omega
      simp only [e, Bool.and_eq_true, decide_eq_true_eq, Int.natCast_eq_zero, Bool.and_true] at hb
      walk_at "st"
      refine EX.turn [("end", .val (.int (k - 1 : Nat))), ("a", .val (.row (rn xs)))] (by walk_at "sub") ⟨k - 1, by omega, by omega, fun j h1 h2 => ?_, rfl⟩
      by_cases q : j = k - 1
      · subst q; exact hb.2
      · exact hj j (by lia) h2
    · have e : ((k : Int) - 1).toNat = k - 1 := by omega
      simp only [e, Bool.and_true, Bool.and_eq_false_iff, decide_eq_false_iff_not, Int.natCast_eq_zero] at hb
      walk_at "ret"
      rw [normN_take hk hj (by rcases hb with hb | hb; left; lia; right; exact hb)]
theorem normal_ok {w : Nat} (hw : 1 ≤ w) {xs : List Nat} (hd : Dig (2 ^ w) xs) (hz : xs.length ≤ 100000) : FN T "normal" 0 [.row (rn xs)] (R w (pv (2 ^ w) xs)) := by
  have := normal_ok' (T := T) hz
  rwa [normN_dig (two_le_pow hw) hd] at this

noncomputable def cmpI (a b : Nat) : Int := if a < b then -1 else if a = b then 0 else 1
theorem compare_ok {w a b : Nat} (hw : 1 ≤ w) (ha : Sm a) (hb : Sm b) : FN T "compare" 0 [R w a, R w b] (.int (cmpI a b)) := by
  refine FN.of (d := dAt 6) ["a", "b"] (dAt_mem rfl) (fun pm code doc vs hv => ?_) rfl (by decide) (by decide) (by decide) rfl rfl rfl fun C hC => ?_
  · revert vs; refine lens2 ?_ rfl; intros; rfl
  · have la := ha.len hw
    have lb := hb.len hw
    have hB := two_le_pow hw
    have pa := pv_dig hB a
    have pb := pv_dig hB b
    have da := dig_Dig (B := 2 ^ w) a
    have db := dig_Dig (B := 2 ^ w) b
    have hlt := @len_lt_of (2 ^ w) a b hB
    have hgt := @len_lt_of (2 ^ w) b a hB
    show EX _ _ [("a", .val (.row (rn (dig (2 ^ w) a)))), ("b", .val (.row (rn (dig (2 ^ w) b))))] _ _
    generalize dig (2 ^ w) a = xs at *
    generalize dig (2 ^ w) b = ys at *
    apply EX.ite
    · walk_at "et"
    · intro hb
      walk_at "ret"
      refine vI ?_
      simp only [Bool.not_eq_true', decide_eq_false_iff_not] at hb
      unfold cmpI
      by_cases q : xs.length < ys.length
      · rw [if_pos (by simpa using q), if_pos (hlt q)]
      · have := hgt (by lia)
        rw [if_neg (by simpa using q), if_neg (by lia), if_neg (by lia)]
    · intro hb
      simp only [Bool.not_eq_false', decide_eq_true_eq] at hb
      have hl : xs.length = ys.length := by lia
      refine EX.thenEnd ?_
      refine EX.forRange (a := (xs.length : Int) - 1) (b := -1) (c := -1) xs.length (fun i ρ' => xs.drop (xs.length - i) = ys.drop (xs.length - i) ∧ ρ' = ([("a", .val (.row (rn xs))), ("b", .val (.row (rn ys)))] : Loc)) ?_ ?_ ?_ rfl (fun _ => rfl) ⟨?_, rfl⟩ ?_ ?_
      · walk_at "rg"
      · rw [size_down]; lia
      · exact small_down (by lia) (by lia) (by lia) (by lia)
      · rw [Nat.sub_zero, List.drop_length, hl, List.drop_length]
      · rintro i _ hi ⟨hd, rfl⟩
        have e : ((xs.length : Int) - 1 + (i : Int) * -1).toNat = xs.length - 1 - i := by lia
        have s1 := pv_split (B := 2 ^ w) xs (xs.length - 1 - i)
        have s2 := pv_split (B := 2 ^ w) ys (xs.length - 1 - i)
        have e3 : xs.length - 1 - i + 1 = xs.length - i := by lia
        rw [pv_drop_step _ (by omega), e3] at s1 s2
        have t1 := pv_lt (da.take (xs.length - 1 - i))
        have t2 := pv_lt (db.take (xs.length - 1 - i))
        rw [List.length_take, Nat.min_eq_left (by lia)] at t1 t2
        rw [← hd] at s2
        apply EX.ite
        · walk_at "et"
        · intro hb
          walk_at "ret"
          refine vI ?_
          simp only [e, Bool.not_eq_true', decide_eq_false_iff_not, Int.natCast_inj] at hb
          simp only [e]
          unfold cmpI
          generalize xs.getD (xs.length - 1 - i) 0 = x at *
          generalize ys.getD (xs.length - 1 - i) 0 = y at *
          generalize (2 ^ w) * pv (2 ^ w) (xs.drop (xs.length - i)) = z at *
          by_cases q : x < y
          · have m := Nat.mul_le_mul_left ((2 ^ w) ^ (xs.length - 1 - i)) (show x + z + 1 ≤ y + z by lia)
            rw [Nat.mul_succ] at m
            rw [if_pos (by simp; lia), if_pos (by lia)]
          · have m := Nat.mul_le_mul_left ((2 ^ w) ^ (xs.length - 1 - i)) (show y + z + 1 ≤ x + z by lia)
            rw [Nat.mul_succ] at m
            rw [if_neg (by simp; lia), if_neg (by lia), if_neg (by lia)]
        · intro hb
          refine EX.thenEnd ?_
          simp only [e, Bool.not_eq_false', decide_eq_true_eq, Int.natCast_inj] at hb
          refine EX.turn [("a", .val (.row (rn xs))), ("b", .val (.row (rn ys)))] (by walk_at "sub") ⟨?_, rfl⟩
          have e4 : xs.length - (i + 1) = xs.length - 1 - i := by lia
          rw [e4, List.drop_eq_getElem_cons (by omega), List.drop_eq_getElem_cons (l := ys) (by omega), e3, hd]
          congr 1
          rw [List.getD_eq_getElem?_getD, List.getD_eq_getElem?_getD, List.getElem?_eq_getElem (by omega), List.getElem?_eq_getElem (by omega)] at hb
          simpa using hb
      · rintro _ ⟨hd, rfl⟩
        rw [Nat.sub_self, List.drop_zero, List.drop_zero] at hd
        walk_at "ret"
        refine vI ?_
        unfold cmpI
        rw [← pa, ← pb, hd]
        simp
end
section
variable {T : Tp} {C : Cx T} {ρ : Loc}

theorem dig_of {B : Nat} {fs : List Nat} {cy v : Nat} (_ : 2 ≤ B) (_ : Dig B fs) (_ : pv B fs + B ^ fs.length * cy = v) (_ : cy < B) : True := trivial

/-- the end of an addition: a carry is put on top -/
theorem carry_end {B : Nat} {fs : List Nat} {cy v : Nat} (hB : 2 ≤ B) (hd : Dig B fs) (hp : pv B fs + B ^ fs.length * cy = v) (hc : cy < B) (hn : cy = 0 → fs = [] ∨ B ^ (fs.length - 1) ≤ v) :
    (if 0 < cy then fs ++ [cy] else fs) = dig B v := by
  by_cases h : 0 < cy
  · rw [if_pos h]
    exact eq_dig hB (hd.append (Dig.one hc)) (Nrm_snoc (by lia)) (by rw [pv_snoc]; exact hp)
  · have h0 : cy = 0 := by lia
    subst h0
    rw [if_neg h]
    have hp' : pv B fs = v := by simpa using hp
    exact eq_dig hB hd (Nrm_of_le hB hd (by rw [hp']; exact hn rfl)) hp'

theorem add_turn {B fs' i c x : Nat} {p s t : Nat} (h : p + B ^ i * c = s) (e : fs' = p + B ^ i * ((c + x) % B)) (t' : t = s + B ^ i * x) : fs' + B ^ (i + 1) * ((c + x) / B) = t := by
  subst e t' h
  have := Nat.mod_add_div (c + x) B
  have e : B ^ i * ((c + x) % B) + B ^ (i + 1) * ((c + x) / B) = B ^ i * (c + x) := by
    rw [Nat.pow_succ, Nat.mul_assoc, ← Nat.mul_add, this]
  rw [Nat.add_assoc, e, Nat.mul_add]
  lia

theorem add_ok {w a b : Nat} (hw : 1 ≤ w) (hw' : w ≤ 64) (ha : Sm a) (hb : Sm b) : FN T "add" 0 [R w a, R w b, .int w] (R w (a + b)) := by
  refine FN.of (d := dAt 7) ["a", "b", "w"] (dAt_mem rfl) (fun pm code doc vs hv => ?_) rfl (by decide) (by decide) (by decide) rfl rfl rfl fun C hC => ?_
  · revert vs; refine lens3 ?_ rfl; intros; rfl
  · have la := ha.len hw
    have lb := hb.len hw
    have hB := two_le_pow hw
    have pa := pv_dig hB a
    have pb := pv_dig hB b
    have da := dig_Dig (B := 2 ^ w) a
    have db := dig_Dig (B := 2 ^ w) b
    have na := dig_Nrm (B := 2 ^ w) a
    have nb := dig_Nrm (B := 2 ^ w) b
    show EX _ _ [("a", .val (.row (rn (dig (2 ^ w) a)))), ("b", .val (.row (rn (dig (2 ^ w) b)))), ("w", .val (.int w))] _ _
    unfold R
    generalize dig (2 ^ w) a = as at *
    generalize dig (2 ^ w) b = bs at *
    obtain ⟨xs, hxs⟩ : ∃ xs, xs = if as.length < bs.length then bs else as := ⟨_, rfl⟩
    obtain ⟨ys, hys⟩ : ∃ ys, ys = if as.length < bs.length then as else bs := ⟨_, rfl⟩
    have hle : ys.length ≤ xs.length := by rw [hxs, hys]; split <;> lia
    have lx : xs.length ≤ 200 := by rw [hxs]; split <;> lia
    have hsum : pv (2 ^ w) xs + pv (2 ^ w) ys = a + b := by rw [hxs, hys]; split <;> lia
    have dx : Dig (2 ^ w) xs := by rw [hxs]; split <;> assumption
    have dy : Dig (2 ^ w) ys := by rw [hys]; split <;> assumption
    have nx : Nrm xs := by rw [hxs]; split <;> assumption
    refine EX.join [("a", .val (.row (rn xs))), ("b", .val (.row (rn ys))), ("w", .val (.int w))] (b := decide ((as.length : Int) < bs.length)) ?_ ?_ ?_ ?_
    · walk_at "et"
    · intro h
      have h : as.length < bs.length := by simpa using h
      rw [if_pos h] at hxs hys
      subst hxs hys
      walk_at "st"
      exact EX.nextIs (by walk_at "sub")
    · intro h
      have h : ¬ as.length < bs.length := by simpa using h
      rw [if_neg h] at hxs hys
      subst hxs hys
      exact EX.nextIs (by walk_at "sub")
    · clear hxs hys la lb da db na nb pa pb
      walk_at "st"
      refine EX.forUp ys.length (fun i ρ' => ∃ fs cy, fs.length = i ∧ Dig (2 ^ w) fs ∧ cy ≤ 1 ∧ pv (2 ^ w) fs + (2 ^ w) ^ i * cy = pv (2 ^ w) (xs.take i) + pv (2 ^ w) (ys.take i) ∧
        ρ' = ([("found", .own (rn fs)), ("carry", .val (.int cy)), ("mask", .val (.int (((2 ^ w : Nat) : Int) - 1))), ("a", .val (.row (rn xs))), ("b", .val (.row (rn ys))), ("w", .val (.int w))] : Loc)) ?_ (by lia) rfl (fun _ => rfl) ⟨[], 0, rfl, Dig.nil, by lia, by simp [pv], rfl⟩ ?_ ?_
      · walk_at "rg"
      · rintro i _ hi ⟨fs, cy, hl, hd, hc, hp, rfl⟩
        have hx := dx.getD (by lia) i
        have hy := dy.getD (by lia) i
        walk_at "st"
        walk_at "st"
        walk_at "st"
        refine EX.turn [("found", .own (rn (fs ++ [(cy + (xs.getD i 0 + ys.getD i 0)) % 2 ^ w]))), ("carry", .val (.int ((cy + (xs.getD i 0 + ys.getD i 0)) / 2 ^ w : Nat))), ("mask", .val (.int (((2 ^ w : Nat) : Int) - 1))), ("a", .val (.row (rn xs))), ("b", .val (.row (rn ys))), ("w", .val (.int w))] (by walk_at "sub")
          ⟨_, _, by simp [hl], hd.append (Dig.one (Nat.mod_lt _ (by lia))), ?_, ?_, rfl⟩
        · have : (cy + (xs.getD i 0 + ys.getD i 0)) / 2 ^ w < 2 := by rw [Nat.div_lt_iff_lt_mul (by lia)]; lia
          lia
        · refine add_turn (i := i) hp (by rw [pv_snoc, hl]) ?_
          rw [pv_take_succ, pv_take_succ, Nat.mul_add]; lia
      · rintro _ ⟨fs, cy, hl, hd, hc, hp, rfl⟩
        rw [List.take_length] at hp
        refine EX.forFrom ys.length xs.length (fun i ρ' => ∃ fs cy, fs.length = i ∧ Dig (2 ^ w) fs ∧ cy ≤ 1 ∧ pv (2 ^ w) fs + (2 ^ w) ^ i * cy = pv (2 ^ w) (xs.take i) + pv (2 ^ w) ys ∧
          ρ' = ([("found", .own (rn fs)), ("carry", .val (.int cy)), ("mask", .val (.int (((2 ^ w : Nat) : Int) - 1))), ("a", .val (.row (rn xs))), ("b", .val (.row (rn ys))), ("w", .val (.int w))] : Loc)) ?_ hle (by lia) rfl (fun _ => rfl) ⟨fs, cy, hl, hd, hc, hp, rfl⟩ ?_ ?_
        · walk_at "rg"
        · rintro i _ _ hi ⟨fs, cy, hl, hd, hc, hp, rfl⟩
          have hx := dx.getD (by lia) i
          walk_at "st"
          walk_at "st"
          walk_at "st"
          refine EX.turn [("found", .own (rn (fs ++ [(cy + xs.getD i 0) % 2 ^ w]))), ("carry", .val (.int ((cy + xs.getD i 0) / 2 ^ w : Nat))), ("mask", .val (.int (((2 ^ w : Nat) : Int) - 1))), ("a", .val (.row (rn xs))), ("b", .val (.row (rn ys))), ("w", .val (.int w))] (by walk_at "sub")
            ⟨_, _, by simp [hl], hd.append (Dig.one (Nat.mod_lt _ (by lia))), ?_, ?_, rfl⟩
          · have : (cy + xs.getD i 0) / 2 ^ w < 2 := by rw [Nat.div_lt_iff_lt_mul (by lia)]; lia
            lia
          · refine add_turn (i := i) hp (by rw [pv_snoc, hl]) ?_
            rw [pv_take_succ]; lia
        · rintro _ ⟨fs, cy, hl, hd, hc, hp, rfl⟩
          rw [List.take_length, hsum] at hp
          have fin := carry_end (v := a + b) hB hd (by rw [hl]; exact hp) (by lia) (fun h0 => by
            by_cases hx0 : xs = []
            · left; subst hx0; exact List.length_eq_zero_iff.mp hl
            · right
              rw [hl]
              have := pow_le_pv hB nx hx0
              lia)
          refine EX.join [("found", .own (rn (if 0 < cy then fs ++ [cy] else fs)))] (b := decide ((0 : Int) < cy)) ?_ ?_ ?_ ?_
          · walk_at "et"
          · intro h
            have h : 0 < cy := by simpa using h
            rw [if_pos h]
            walk_at "st"
            exact EX.nextIs (by walk_at "sub")
          · intro h
            have h : ¬ 0 < cy := by simpa using h
            rw [if_neg h]
            exact EX.nextIs (by walk_at "sub")
          · rw [fin]
            refine EX.freeze (x := "found") rfl (.inl rfl) ?_
            walk_at "ret"
            rfl
end
section
variable {T : Tp} {C : Cx T} {ρ : Loc}
theorem cmpI_lt {a b : Nat} : decide (cmpI a b < 0) = decide (a < b) := by unfold cmpI; split; simp_all; split <;> simp_all
theorem cmpI_gt {a b : Nat} : decide (0 < cmpI a b) = decide (b < a) := by
  unfold cmpI; split
  · have : ¬ b < a := by lia
    simp [this]
  · split
    · have : ¬ b < a := by lia
      simp [this]
    · have : b < a := by lia
      simp [this]
theorem sub_end {B : Nat} {fs : List Nat} {bo a b n : Nat} (hb : b ≤ a) (hbo : bo ≤ 1) (hp : a + B ^ n * bo = b + pv B fs) (hf : pv B fs < B ^ n) : pv B fs = a - b := by
  have : bo = 0 ∨ bo = 1 := by lia
  rcases this with rfl | rfl
  · lia
  · lia

theorem sub_ok {w a b : Nat} (hw : 1 ≤ w) (hw' : w ≤ 64) (ha : Sm a) (hb : b ≤ a) : FN T "sub" 1 [R w a, R w b, .int w] (R w (a - b)) := by
  have sb : Sm b := by unfold Sm at *; lia
  have hcmp := compare_ok (T := T) hw ha sb
  have hdig : ∀ {fs : List Nat}, Dig (2 ^ w) fs → fs.length ≤ 1000 → pv (2 ^ w) fs = a - b → FN T "normal" 0 [.row (rn fs)] (R w (a - b)) := fun hd hl e => e ▸ normal_ok (T := T) hw hd (by lia)
  refine FN.of (d := dAt 8) ["a", "b", "w"] (dAt_mem rfl) (fun pm code doc vs hv => ?_) rfl (by decide) (by decide) (by decide) rfl rfl rfl fun C hC => ?_
  · revert vs; refine lens3 ?_ rfl; intros; rfl
  · have la := ha.len hw
    have lb := sb.len hw
    have hB := two_le_pow hw
    have pa := pv_dig hB a
    have pb := pv_dig hB b
    have da := dig_Dig (B := 2 ^ w) a
    have db := dig_Dig (B := 2 ^ w) b
    have hlt := @len_lt_of (2 ^ w) a b hB
    unfold R at hcmp hdig ⊢
    show EX _ _ [("a", .val (.row (rn (dig (2 ^ w) a)))), ("b", .val (.row (rn (dig (2 ^ w) b)))), ("w", .val (.int w))] _ _
    generalize e1 : dig (2 ^ w) a = xs at *
    generalize e2 : dig (2 ^ w) b = ys at *
    generalize e3 : dig (2 ^ w) (a - b) = zs at *
    have hle : ys.length ≤ xs.length := by lia
    refine EX.ite (b := decide (cmpI a b < 0)) (by walk_at "et") (fun h => ?_) fun h => EX.thenEnd ?_
    · rw [cmpI_lt, decide_eq_true_eq] at h; lia
    clear h
    walk_at "st"
    refine EX.forUp xs.length (fun i ρ' => ∃ fs bo, fs.length = i ∧ Dig (2 ^ w) fs ∧ bo ≤ 1 ∧ pv (2 ^ w) (xs.take i) + (2 ^ w) ^ i * bo = pv (2 ^ w) (ys.take i) + pv (2 ^ w) fs ∧
        ρ' = ([("found", .own (rn fs)), ("borrow", .val (.int (bo : Nat))), ("base", .val (.int ((2 ^ w : Nat) : Int))), ("a", .val (.row (rn xs))), ("b", .val (.row (rn ys))), ("w", .val (.int w))] : Loc)) (by walk_at "rg") (by lia) rfl (fun _ => rfl) ⟨[], 0, rfl, Dig.nil, by lia, by simp [pv], rfl⟩ ?_ ?_
    · rintro i _ hi ⟨fs, bo, hl, hd, hc, hp, rfl⟩
      have hx := da.getD (by lia) i
      have hy := db.getD (by lia) i
      walk_at "st"
      refine EX.sub (ρ' := [("limb", .val (.int ((xs.getD i 0 : Int) - bo - ys.getD i 0))), ("borrow", .val (.int bo)), ("found", .own (rn fs)), ("base", .val (.int ((2 ^ w : Nat) : Int))), ("a", .val (.row (rn xs))), ("b", .val (.row (rn ys))), ("w", .val (.int w))]) (by
        walk_at "sub"
        by_cases q : i < ys.length
        · have q' : (i : Int) < ys.length := by lia
          rw [if_pos (by simpa using q)]
        · rw [if_neg (by simpa using q)]
          have : ys.getD i 0 = 0 := by rw [List.getD_eq_getElem?_getD, List.getElem?_eq_none (by lia)]; rfl
          rw [this]; exact lvI (by lia)) ?_
      have hB0 : 0 < 2 ^ w := by lia
      by_cases q : xs.getD i 0 < bo + ys.getD i 0
      · walk_at "st"
        refine EX.sub (ρ' := [("borrow", .val (.int ((1 : Nat) : Int))), ("limb", .val (.int ((xs.getD i 0 : Int) - bo - ys.getD i 0))), ("found", .own (rn fs)), ("base", .val (.int ((2 ^ w : Nat) : Int))), ("a", .val (.row (rn xs))), ("b", .val (.row (rn ys))), ("w", .val (.int w))]) (by
          walk_at "sub"
          rw [if_pos (decide_eq_true (by lia))]; rfl) ?_
        walk_at "st"
        refine EX.turn [("found", .own (rn (fs ++ [2 ^ w + xs.getD i 0 - bo - ys.getD i 0]))), ("borrow", .val (.int (1 : Nat))), ("base", .val (.int ((2 ^ w : Nat) : Int))), ("a", .val (.row (rn xs))), ("b", .val (.row (rn ys))), ("w", .val (.int w))] (by
            walk_at "sub"
            rw [if_pos (decide_eq_true (by lia)), rn_append]
            refine lvO (congrArg _ ?_)
            simp only [rn, List.map_cons, List.map_nil]
            congr 1
            lia) ⟨_, _, by simp [hl], hd.append (Dig.one (by omega)), by lia, ?_, rfl⟩
        rw [pv_take_succ, pv_take_succ, pv_snoc, hl, Nat.pow_succ]
        have e : (2 ^ w) ^ i * (2 ^ w) + (2 ^ w) ^ i * xs.getD i 0 = (2 ^ w) ^ i * bo + ((2 ^ w) ^ i * ys.getD i 0 + (2 ^ w) ^ i * (2 ^ w + xs.getD i 0 - bo - ys.getD i 0)) := by
          rw [← Nat.mul_add, ← Nat.mul_add, ← Nat.mul_add]; congr 1; lia
        lia
      · walk_at "st"
        refine EX.sub (ρ' := [("borrow", .val (.int ((0 : Nat) : Int))), ("limb", .val (.int ((xs.getD i 0 : Int) - bo - ys.getD i 0))), ("found", .own (rn fs)), ("base", .val (.int ((2 ^ w : Nat) : Int))), ("a", .val (.row (rn xs))), ("b", .val (.row (rn ys))), ("w", .val (.int w))]) (by
          walk_at "sub"
          rw [if_neg (by simp only [decide_eq_true_eq]; lia)]; rfl) ?_
        walk_at "st"
        refine EX.turn [("found", .own (rn (fs ++ [xs.getD i 0 - bo - ys.getD i 0]))), ("borrow", .val (.int (0 : Nat))), ("base", .val (.int ((2 ^ w : Nat) : Int))), ("a", .val (.row (rn xs))), ("b", .val (.row (rn ys))), ("w", .val (.int w))] (by
            walk_at "sub"
            rw [if_neg (by simp only [decide_eq_true_eq]; lia), rn_append]
            refine lvO (congrArg _ ?_)
            simp only [rn, List.map_cons, List.map_nil]
            congr 1
            lia) ⟨_, _, by simp [hl], hd.append (Dig.one (by omega)), by lia, ?_, rfl⟩
        rw [pv_take_succ, pv_take_succ, pv_snoc, hl, Nat.pow_succ]
        have e : (2 ^ w) ^ i * xs.getD i 0 = (2 ^ w) ^ i * bo + ((2 ^ w) ^ i * ys.getD i 0 + (2 ^ w) ^ i * (xs.getD i 0 - bo - ys.getD i 0)) := by
          rw [← Nat.mul_add, ← Nat.mul_add]; congr 1; lia
        lia
    · rintro _ ⟨fs, bo, hl, hd, hc, hp, rfl⟩
      rw [List.take_length, List.take_of_length_le hle, pa, pb] at hp
      have := sub_end hb hc hp (by have := pv_lt hd; rwa [hl] at this)
      have hno := hdig hd (by lia) this
      refine EX.freeze (x := "found") rfl (.inl rfl) ?_
      walk_at "ret"
      rfl
end
section
variable {T : Tp} {C : Cx T} {ρ : Loc}
theorem pow_le_dig {B n : Nat} (hB : 2 ≤ B) : dig B n = [] ∨ B ^ ((dig B n).length - 1) ≤ n := by
  by_cases h : n = 0
  · left; rw [h, dig_zero]
  · right; exact dig_ge_len hB h
theorem add_limb_ok {w a l : Nat} (hw : 1 ≤ w) (hw' : w ≤ 64) (ha : Sm a) (hl : l < 2 ^ w) : FN T "add_limb" 0 [R w a, .int l, .int w] (R w (a + l)) := by
  refine FN.of (d := dAt 9) ["a", "limb", "w"] (dAt_mem rfl) (fun pm code doc vs hv => ?_) rfl (by decide) (by decide) (by decide) rfl rfl rfl fun C hC => ?_
  · revert vs; refine lens3 ?_ rfl; intros; rfl
  · have la := ha.len hw
    have hB := two_le_pow hw
    have pa := pv_dig hB a
    have da := dig_Dig (B := 2 ^ w) a
    have na := pow_le_dig (n := a) hB
    show EX _ _ [("a", .val (.row (rn (dig (2 ^ w) a)))), ("limb", .val (.int l)), ("w", .val (.int w))] _ _
    unfold R
    generalize dig (2 ^ w) a = xs at *
    walk_at "st"
    refine EX.forRowN (fun i ρ' => ∃ fs cy, fs.length = i ∧ Dig (2 ^ w) fs ∧ cy < 2 ^ w ∧ pv (2 ^ w) fs + (2 ^ w) ^ i * cy = pv (2 ^ w) (xs.take i) + l ∧
        ρ' = ([("found", .own (rn fs)), ("mask", .val (.int (((2 ^ w : Nat) : Int) - 1))), ("a", .val (.row (rn xs))), ("limb", .val (.int cy)), ("w", .val (.int w))] : Loc)) (by walk_at "ev") rfl (fun _ => rfl) ⟨[], l, rfl, Dig.nil, hl, by simp [pv], rfl⟩ ?_ ?_
    · rintro i _ hi ⟨fs, cy, hlen, hd, hc, hp, rfl⟩
      have hx := da.getD (by lia) i
      walk_at "st"
      walk_at "st"
      walk_at "st"
      refine EX.turn [("found", .own (rn (fs ++ [(cy + xs.getD i 0) % 2 ^ w]))), ("mask", .val (.int (((2 ^ w : Nat) : Int) - 1))), ("a", .val (.row (rn xs))), ("limb", .val (.int ((cy + xs.getD i 0) / 2 ^ w : Nat))), ("w", .val (.int w))] (by walk_at "sub")
          ⟨_, _, by simp [hlen], hd.append (Dig.one (Nat.mod_lt _ (by lia))), ?_, ?_, rfl⟩
      · have : (cy + xs.getD i 0) / 2 ^ w < 2 := by rw [Nat.div_lt_iff_lt_mul (by lia)]; lia
        lia
      · refine add_turn (i := i) hp (by rw [pv_snoc, hlen]) ?_
        rw [pv_take_succ]; lia
    · rintro _ ⟨fs, cy, hlen, hd, hc, hp, rfl⟩
      rw [List.take_length, pa] at hp
      have fin := carry_end (v := a + l) hB hd (by rw [hlen]; exact hp) hc (fun h0 => by
        rcases na with q | q
        · left; subst q; exact List.length_eq_zero_iff.mp hlen
        · right; rw [hlen]; lia)
      refine EX.join [("found", .own (rn (if 0 < cy then fs ++ [cy] else fs)))] (b := decide ((0 : Int) < cy)) (by walk_at "et") ?_ ?_ ?_
      · intro h
        have h : 0 < cy := by simpa using h
        rw [if_pos h]
        walk_at "st"
        exact EX.nextIs (by walk_at "sub")
      · intro h
        have h : ¬ 0 < cy := by simpa using h
        rw [if_neg h]
        exact EX.nextIs (by walk_at "sub")
      · rw [fin]
        refine EX.freeze (x := "found") rfl (.inl rfl) ?_
        walk_at "ret"
        rfl

theorem or_mul {r w x : Nat} (h : x < 2 ^ w) : (r * 2 ^ w ||| x) = r * 2 ^ w + x := by
  rw [Nat.mul_comm]; exact (Nat.two_pow_add_eq_or_of_lt h r).symm
theorem getD_set_ne {xs : List Nat} {i j v : Nat} (h : i ≠ j) : (xs.set i v).getD j 0 = xs.getD j 0 := by
  simp [List.getD_eq_getElem?_getD, List.getElem?_set_ne h]
theorem divrem_turn {B l r x D F : Nat} (hl : 0 < l) (h : D = F * l + r) : x + B * D = ((r * B + x) / l + B * F) * l + (r * B + x) % l := by
  have := Nat.mod_add_div (r * B + x) l
  subst h
  generalize (r * B + x) / l = q at *
  generalize (r * B + x) % l = s at *
  rw [Nat.add_mul, Nat.mul_comm q l, Nat.mul_add, Nat.mul_comm B r]
  have e : B * F * l = B * (F * l) := Nat.mul_assoc ..
  lia

theorem divrem_limb_ok {w a l : Nat} (hw : 1 ≤ w) (hw' : w ≤ 60) (ha : Sm a) (h0 : 0 < l) (hl : l < 2 ^ w) : FN T "divrem_limb" 1 [R w a, .int l, .int w] (.tup [R w (a / l), .int (a % l : Nat)]) := by
  have hdig : ∀ {fs : List Nat}, Dig (2 ^ w) fs → fs.length ≤ 1000 → pv (2 ^ w) fs = a / l → FN T "normal" 0 [.row (rn fs)] (R w (a / l)) := fun hd hl e => e ▸ normal_ok (T := T) hw hd (by lia)
  refine FN.of (d := dAt 10) ["a", "limb", "w"] (dAt_mem rfl) (fun pm code doc vs hv => ?_) rfl (by decide) (by decide) (by decide) rfl rfl rfl fun C hC => ?_
  · revert vs; refine lens3 ?_ rfl; intros; rfl
  · have la := ha.len hw
    have hB := two_le_pow hw
    have pa := pv_dig hB a
    have da := dig_Dig (B := 2 ^ w) a
    have h60 : 2 ^ w ≤ 2 ^ 60 := Nat.pow_le_pow_right (by decide) hw'
    unfold R at hdig ⊢
    show EX _ _ [("a", .val (.row (rn (dig (2 ^ w) a)))), ("limb", .val (.int l)), ("w", .val (.int w))] _ _
    generalize dig (2 ^ w) a = xs at *
    refine EX.ite (b := decide ((l : Int) = 0)) (by walk_at "et") (fun h => ?_) fun h => EX.thenEnd ?_
    · simp only [decide_eq_true_eq] at h; lia
    walk_at "st arr"
    refine EX.forDown xs.length (fun i ρ' => ∃ fs r, fs.length = xs.length ∧ Dig (2 ^ w) fs ∧ r < l ∧ (∀ j, j < i → fs.getD j 0 = 0) ∧ pv (2 ^ w) (xs.drop i) = pv (2 ^ w) (fs.drop i) * l + r ∧
        ρ' = ([("found", .arr (rn fs)), ("rest", .val (.int (r : Nat))), ("a", .val (.row (rn xs))), ("limb", .val (.int l)), ("w", .val (.int w))] : Loc)) (by walk_at "rg") rfl rfl (by lia) rfl (fun _ => rfl) ⟨List.replicate xs.length 0, 0, by simp, Dig.replicate (by lia), h0, fun j hj => by simp [List.getD_eq_getElem?_getD, List.getElem?_replicate, hj], by simp [pv], rfl⟩ ?_ ?_
    · rintro i _ hi ⟨fs, r, hlen, hd, hr, hz, hp, rfl⟩
      have hx := da.getD (by lia) i
      have hm : (r + 1) * 2 ^ w ≤ l * 2 ^ w := Nat.mul_le_mul_right _ hr
      rw [Nat.add_mul, Nat.one_mul] at hm
      have hq : (r * 2 ^ w + xs.getD i 0) / l < 2 ^ w := by
        rw [Nat.div_lt_iff_lt_mul h0, Nat.mul_comm (2 ^ w)]; lia
      walk_at "st"
      rw [or_mul hx]
      walk_at "st"
      walk_at "st"
      refine EX.turn [("found", .arr (rn (fs.set i ((r * 2 ^ w + xs.getD i 0) / l)))), ("rest", .val (.int ((r * 2 ^ w + xs.getD i 0) % l : Nat))), ("a", .val (.row (rn xs))), ("limb", .val (.int l)), ("w", .val (.int w))] (by walk_at "sub")
          ⟨_, _, by simp [hlen], hd.set i hq, Nat.mod_lt _ h0, fun j hj => by rw [getD_set_ne (by lia)]; exact hz j (by lia), ?_, rfl⟩
      rw [pv_drop_step xs hi, pv_drop_step (fs.set i _) (by rw [List.length_set]; lia)]
      have e1 : (fs.set i ((r * 2 ^ w + xs.getD i 0) / l)).getD i 0 = (r * 2 ^ w + xs.getD i 0) / l := by
        rw [List.getD_eq_getElem?_getD, List.getElem?_set_self (by lia)]; rfl
      have e2 : (fs.set i ((r * 2 ^ w + xs.getD i 0) / l)).drop (i + 1) = fs.drop (i + 1) := List.drop_set_of_lt (by lia)
      rw [e1, e2]
      exact divrem_turn h0 hp
    · rintro _ ⟨fs, r, hlen, hd, hr, hz, hp, rfl⟩
      rw [List.drop_zero, List.drop_zero, pa] at hp
      have e1 : a / l = pv (2 ^ w) fs := by
        rw [hp, Nat.mul_comm, Nat.mul_add_div h0, Nat.div_eq_of_lt hr, Nat.add_zero]
      have e2 : a % l = r := by rw [hp, Nat.mul_comm, Nat.mul_add_mod, Nat.mod_eq_of_lt hr]
      have hno := hdig hd (by lia) e1.symm
      refine EX.freeze (x := "found") rfl (.inr rfl) ?_
      walk_at "ret"
      rw [e2]
end
section
variable {T : Tp} {C : Cx T} {ρ : Loc}
theorem pow_split (w n : Nat) : 2 ^ n = (2 ^ w) ^ (n / w) * 2 ^ (n % w) := by
  rw [← Nat.pow_mul, ← Nat.pow_add, Nat.div_add_mod]

theorem shift_left_ok {w a n : Nat} (hw : 1 ≤ w) (hw' : w ≤ 60) (ha : Sm a) (hn : n ≤ 1000) : FN T "shift_left" 0 [R w a, .int n, .int w] (R w (a * 2 ^ n)) := by
  refine FN.of (d := dAt 11) ["a", "n", "w"] (dAt_mem rfl) (fun pm code doc vs hv => ?_) rfl (by decide) (by decide) (by decide) rfl rfl rfl fun C hC => ?_
  · revert vs; refine lens3 ?_ rfl; intros; rfl
  · have la := ha.len hw
    have hB := two_le_pow hw
    have pa := pv_dig hB a
    have da := dig_Dig (B := 2 ^ w) a
    have na := pow_le_dig (n := a) hB
    have h60 : 2 ^ w ≤ 2 ^ 60 := Nat.pow_le_pow_right (by decide) hw'
    have hz : (dig (2 ^ w) a).length = 0 ↔ a = 0 := dig_nil_iff hB
    have hf : n % w < w := Nat.mod_lt _ hw
    have hs : n / w ≤ n := Nat.div_le_self ..
    have hfw : 2 ^ (n % w) ≤ 2 ^ w := Nat.pow_le_pow_right (by decide) (by lia)
    have hf0 : 0 < 2 ^ (n % w) := Nat.pow_pos (by decide)
    have hsp := pow_split w n
    show EX _ _ [("a", .val (.row (rn (dig (2 ^ w) a)))), ("n", .val (.int n)), ("w", .val (.int w))] _ _
    unfold R
    generalize dig (2 ^ w) a = xs at *
    refine EX.ite (b := decide ((xs.length : Int) = 0)) (by walk_at "et") (fun h => ?_) fun h => EX.thenEnd ?_
    · have h : xs.length = 0 := by simpa using h
      walk_at "ret"
      rw [hz.mp h, Nat.zero_mul, dig_zero]; rfl
    · have h : xs.length ≠ 0 := by simpa using h
      walk_at "st"
      refine EX.sub (ρ' := [("spots", .val (.int (n / w : Nat))), ("few", .val (.int (n % w : Nat))), ("a", .val (.row (rn xs))), ("w", .val (.int w))]) (by walk_at "sub") ?_
      generalize n / w = sp at *
      generalize n % w = few at *
      walk_at "st"
      refine EX.sub (ρ' := [("found", .own (rn (List.replicate sp 0))), ("carry", .val (.int ((0 : Nat) : Int))), ("mask", .val (.int (((2 ^ w : Nat) : Int) - 1))), ("few", .val (.int (few : Nat))), ("a", .val (.row (rn xs))), ("w", .val (.int w))]) (by walk_at "sub") ?_
      refine EX.forRowN (fun i ρ' => ∃ fs cy, fs.length = sp + i ∧ Dig (2 ^ w) fs ∧ cy < 2 ^ few ∧ pv (2 ^ w) fs + (2 ^ w) ^ (sp + i) * cy = (2 ^ w) ^ sp * (pv (2 ^ w) (xs.take i) * 2 ^ few) ∧
        ρ' = ([("found", .own (rn fs)), ("carry", .val (.int (cy : Nat))), ("mask", .val (.int (((2 ^ w : Nat) : Int) - 1))), ("few", .val (.int (few : Nat))), ("a", .val (.row (rn xs))), ("w", .val (.int w))] : Loc)) (by walk_at "ev") rfl (fun _ => rfl)
        ⟨List.replicate sp 0, 0, by simp, Dig.replicate (by lia), hf0, by simp [pv, pv_replicate], rfl⟩ ?_ ?_
      · rintro i _ hi ⟨fs, cy, hlen, hd, hc, hp, rfl⟩
        have hx := da.getD (by lia) i
        have hm : (xs.getD i 0 + 1) * 2 ^ few ≤ 2 ^ w * 2 ^ few := Nat.mul_le_mul_right _ hx
        rw [Nat.add_mul, Nat.one_mul] at hm
        walk_at "st"
        rw [Nat.or_comm, or_mul hc, Nat.add_comm]
        walk_at "st"
        walk_at "st"
        refine EX.turn [("found", .own (rn (fs ++ [(cy + xs.getD i 0 * 2 ^ few) % 2 ^ w]))), ("carry", .val (.int ((cy + xs.getD i 0 * 2 ^ few) / 2 ^ w : Nat))), ("mask", .val (.int (((2 ^ w : Nat) : Int) - 1))), ("few", .val (.int (few : Nat))), ("a", .val (.row (rn xs))), ("w", .val (.int w))] (by walk_at "sub")
          ⟨_, _, by simp [hlen]; lia, hd.append (Dig.one (Nat.mod_lt _ (by lia))), ?_, ?_, rfl⟩
        · rw [Nat.div_lt_iff_lt_mul (by lia), Nat.mul_comm (2 ^ few)]; lia
        · refine add_turn (i := sp + i) hp (by rw [pv_snoc, hlen]) ?_
          rw [pv_take_succ, Nat.add_mul, Nat.mul_add, Nat.pow_add, Nat.mul_assoc, Nat.mul_assoc]
      · rintro _ ⟨fs, cy, hlen, hd, hc, hp, rfl⟩
        rw [List.take_length, pa] at hp
        have e : (2 ^ w) ^ sp * (a * 2 ^ few) = a * 2 ^ n := by rw [hsp, Nat.mul_left_comm]
        rw [e] at hp
        have fin := carry_end (v := a * 2 ^ n) hB hd (by rw [hlen]; exact hp) (by lia) (fun h0 => by
          right
          have na := na.resolve_left (fun q => h (by rw [q]; rfl))
          rw [hlen, show sp + xs.length - 1 = sp + (xs.length - 1) by lia, ← e, Nat.pow_add]
          exact Nat.mul_le_mul_left _ (Nat.le_trans na (Nat.le_mul_of_pos_right _ hf0)))
        refine EX.join [("found", .own (rn (if 0 < cy then fs ++ [cy] else fs)))] (b := decide ((0 : Int) < cy)) (by walk_at "et") ?_ ?_ ?_
        · intro h
          have h : 0 < cy := by simpa using h
          rw [if_pos h]
          walk_at "st"
          exact EX.nextIs (by walk_at "sub")
        · intro h
          have h : ¬ 0 < cy := by simpa using h
          rw [if_neg h]
          exact EX.nextIs (by walk_at "sub")
        · rw [fin]
          refine EX.freeze (x := "found") rfl (.inl rfl) ?_
          walk_at "ret"
          rfl

theorem shr_digit {w few x y z : Nat} (hf : few < w) (hx : x < 2 ^ w) : ((x + 2 ^ w * (y + 2 ^ w * z)) / 2 ^ few) % 2 ^ w = (y * 2 ^ (w - few) + x / 2 ^ few) % 2 ^ w := by
  have e : 2 ^ w = 2 ^ few * 2 ^ (w - few) := by rw [← Nat.pow_add]; congr 1; lia
  have h1 : (x + 2 ^ w * (y + 2 ^ w * z)) / 2 ^ few = x / 2 ^ few + 2 ^ (w - few) * (y + 2 ^ w * z) := by
    conv => lhs; arg 1; arg 2; arg 1; rw [e]
    rw [Nat.mul_assoc, Nat.add_mul_div_left _ _ (Nat.pow_pos (by decide))]
  rw [h1, Nat.mul_add, ← Nat.add_assoc, show 2 ^ (w - few) * (2 ^ w * z) = 2 ^ w * (2 ^ (w - few) * z) from Nat.mul_left_comm .., Nat.add_mul_mod_self_left, Nat.mul_comm, Nat.add_comm]

theorem shr_turn {w n a i : Nat} {xs : List Nat} (hw : 1 ≤ w) (pa : pv (2 ^ w) xs = a) (da : Dig (2 ^ w) xs) (hi : n / w + i < xs.length) :
    (a / 2 ^ n) % (2 ^ w) ^ (i + 1) = (a / 2 ^ n) % (2 ^ w) ^ i + (2 ^ w) ^ i * ((xs.getD (n / w + i + 1) 0 * 2 ^ (w - n % w) + xs.getD (n / w + i) 0 / 2 ^ (n % w)) % 2 ^ w) := by
  rw [Nat.mod_pow_succ]
  congr 2
  have hx := da.getD (Nat.pow_pos (by decide)) (n / w + i)
  have hf : n % w < w := Nat.mod_lt _ hw
  have e1 : a / 2 ^ n / (2 ^ w) ^ i = pv (2 ^ w) (xs.drop (n / w + i)) / 2 ^ (n % w) := by
    have s := pv_split (B := 2 ^ w) xs (n / w + i)
    have t := pv_lt (da.take (n / w + i))
    rw [List.length_take, Nat.min_eq_left (by lia)] at t
    have : a / (2 ^ w) ^ (n / w + i) = pv (2 ^ w) (xs.drop (n / w + i)) := by
      rw [← pa, s, Nat.add_mul_div_left _ _ (Nat.pow_pos (Nat.pow_pos (by decide))), Nat.div_eq_of_lt t, Nat.zero_add]
    rw [← this, pow_split w n, Nat.div_div_eq_div_mul, Nat.div_div_eq_div_mul, Nat.pow_add]
    congr 1
    rw [Nat.mul_assoc, Nat.mul_assoc, Nat.mul_comm ((2 ^ w) ^ i)]
  rw [e1, pv_drop_step xs hi]
  have e2 : pv (2 ^ w) (xs.drop (n / w + i + 1)) = xs.getD (n / w + i + 1) 0 + 2 ^ w * pv (2 ^ w) (xs.drop (n / w + i + 1 + 1)) := by
    by_cases q : n / w + i + 1 < xs.length
    · exact pv_drop_step xs q
    · rw [List.drop_of_length_le (by lia), List.drop_of_length_le (by lia), List.getD_eq_getElem?_getD, List.getElem?_eq_none (by lia)]; simp [pv]
  rw [e2, shr_digit hf hx]

theorem shift_right_ok {w a n : Nat} (hw : 1 ≤ w) (hw' : w ≤ 60) (ha : Sm a) (hn : n ≤ 1000) : FN T "shift_right" 1 [R w a, .int n, .int w] (R w (a / 2 ^ n)) := by
  have hdig : ∀ {fs : List Nat}, Dig (2 ^ w) fs → fs.length ≤ 1000 → pv (2 ^ w) fs = a / 2 ^ n → FN T "normal" 0 [.row (rn fs)] (R w (a / 2 ^ n)) := fun hd hl e => e ▸ normal_ok (T := T) hw hd (by lia)
  refine FN.of (d := dAt 12) ["a", "n", "w"] (dAt_mem rfl) (fun pm code doc vs hv => ?_) rfl (by decide) (by decide) (by decide) rfl rfl rfl fun C hC => ?_
  · revert vs; refine lens3 ?_ rfl; intros; rfl
  · have la := ha.len hw
    have hB := two_le_pow hw
    have pa := pv_dig hB a
    have da := dig_Dig (B := 2 ^ w) a
    have h60 : 2 ^ w ≤ 2 ^ 60 := Nat.pow_le_pow_right (by decide) hw'
    have hf : n % w < w := Nat.mod_lt _ hw
    have hs : n / w ≤ n := Nat.div_le_self ..
    have hsp := pow_split w n
    have hturn := fun (i : Nat) (hi : n / w + i < (dig (2 ^ w) a).length) => shr_turn (n := n) hw pa da hi
    unfold R at hdig ⊢
    show EX _ _ [("a", .val (.row (rn (dig (2 ^ w) a)))), ("n", .val (.int n)), ("w", .val (.int w))] _ _
    generalize dig (2 ^ w) a = xs at *
    walk_at "st"
    refine EX.sub (ρ' := [("spots", .val (.int (n / w : Nat))), ("few", .val (.int (n % w : Nat))), ("a", .val (.row (rn xs))), ("w", .val (.int w))]) (by walk_at "sub") ?_
    have hend : a / 2 ^ n < (2 ^ w) ^ (xs.length - n / w) := by
      have h1 := pv_lt da
      rw [pa] at h1
      rw [hsp, Nat.div_lt_iff_lt_mul (by have := Nat.pow_pos (n := n / w) (show 0 < 2 ^ w by lia); exact Nat.mul_pos this (Nat.pow_pos (by decide))), ← Nat.mul_assoc, ← Nat.pow_add]
      have h2 : (2 ^ w) ^ xs.length ≤ (2 ^ w) ^ (xs.length - n / w + n / w) := Nat.pow_le_pow_right (by lia) (by lia)
      exact Nat.lt_of_lt_of_le (Nat.lt_of_lt_of_le h1 h2) (Nat.le_mul_of_pos_right _ (Nat.pow_pos (by decide)))
    generalize n / w = sp at *
    generalize n % w = few at *
    walk_at "st"
    refine EX.sub (ρ' := [("found", .own (rn [])), ("mask", .val (.int (((2 ^ w : Nat) : Int) - 1))), ("spots", .val (.int (sp : Nat))), ("few", .val (.int (few : Nat))), ("a", .val (.row (rn xs))), ("w", .val (.int w))]) (by walk_at "sub") ?_
    refine EX.forOff sp xs.length (fun i ρ' => ∃ fs, fs.length = i ∧ Dig (2 ^ w) fs ∧ pv (2 ^ w) fs = (a / 2 ^ n) % (2 ^ w) ^ i ∧
        ρ' = ([("found", .own (rn fs)), ("mask", .val (.int (((2 ^ w : Nat) : Int) - 1))), ("spots", .val (.int (sp : Nat))), ("few", .val (.int (few : Nat))), ("a", .val (.row (rn xs))), ("w", .val (.int w))] : Loc)) (by walk_at "rg") (by lia) (by lia) rfl (fun _ => rfl)
        ⟨[], rfl, Dig.nil, by simp [pv, Nat.mod_one], rfl⟩ ?_ ?_
    · rintro i _ hi ⟨fs, hlen, hd, hp, rfl⟩
      have hx := da.getD (by lia) (sp + i)
      have hy := da.getD (by lia) (sp + i + 1)
      have hlt : xs.getD (sp + i) 0 / 2 ^ few < 2 ^ (w - few) := by
        rw [Nat.div_lt_iff_lt_mul (Nat.pow_pos (by decide)), ← Nat.pow_add, show w - few + few = w by lia]; exact hx
      walk_at "st"
      refine EX.sub (ρ' := [("above", .val (.int (xs.getD (sp + i + 1) 0 : Nat))), ("at", .val (.int (sp + i : Nat))), ("found", .own (rn fs)), ("mask", .val (.int (((2 ^ w : Nat) : Int) - 1))), ("spots", .val (.int (sp : Nat))), ("few", .val (.int (few : Nat))), ("a", .val (.row (rn xs))), ("w", .val (.int w))]) (by
        walk_at "sub"
        by_cases q : sp + i + 1 < xs.length
        · rw [if_pos (decide_eq_true (by lia))]
        · rw [if_neg (by simp only [decide_eq_true_eq]; lia), show xs.getD (sp + i + 1) 0 = 0 by rw [List.getD_eq_getElem?_getD, List.getElem?_eq_none (by lia)]; rfl]; rfl) ?_
      walk_at "st"
      rw [Nat.or_comm, or_mul hlt]
      refine EX.turn [("found", .own (rn (fs ++ [(xs.getD (sp + i + 1) 0 * 2 ^ (w - few) + xs.getD (sp + i) 0 / 2 ^ few) % 2 ^ w]))), ("mask", .val (.int (((2 ^ w : Nat) : Int) - 1))), ("spots", .val (.int (sp : Nat))), ("few", .val (.int (few : Nat))), ("a", .val (.row (rn xs))), ("w", .val (.int w))] (by walk_at "sub")
          ⟨_, by simp [hlen], hd.append (Dig.one (Nat.mod_lt _ (by lia))), ?_, rfl⟩
      rw [pv_snoc, hlen, hp, hturn i (by lia)]
    · rintro _ ⟨fs, hlen, hd, hp, rfl⟩
      rw [Nat.mod_eq_of_lt hend] at hp
      have hno := hdig hd (by lia) hp
      refine EX.freeze (x := "found") rfl (.inl rfl) ?_
      walk_at "ret"
      rfl
end
section
variable {T : Tp} {C : Cx T} {ρ : Loc}
theorem bits_math {w a : Nat} {xs : List Nat} (hw : 1 ≤ w) (pa : pv (2 ^ w) xs = a) (da : Dig (2 ^ w) xs) (na : Nrm xs) (h : 0 < xs.length) : bl a = (xs.length - 1) * w + bl (xs.getD (xs.length - 1) 0) := by
  have hB := two_le_pow hw
  have s := pv_split (B := 2 ^ w) xs (xs.length - 1)
  have t := pv_lt (da.take (xs.length - 1))
  rw [List.length_take, Nat.min_eq_left (by lia), ← Nat.pow_mul] at t
  rw [pv_drop_step xs (by lia), List.drop_of_length_le (by lia), pv_nil, Nat.mul_zero, Nat.add_zero, pa, ← Nat.pow_mul] at s
  refine bl_digit ?_ s t
  intro q
  refine na ?_
  rw [List.getLast?_eq_getElem?, List.getElem?_eq_getElem (by lia)]
  rw [List.getD_eq_getElem?_getD, List.getElem?_eq_getElem (by lia)] at q
  simpa using q

theorem bits_ok {w a : Nat} (hw : 1 ≤ w) (hw' : w ≤ 60) (ha : Sm a) : FN T "bits" 0 [R w a, .int w] (.int (bl a : Nat)) := by
  refine FN.of (d := dAt 13) ["a", "w"] (dAt_mem rfl) (fun pm code doc vs hv => ?_) rfl (by decide) (by decide) (by decide) rfl rfl rfl fun C hC => ?_
  · revert vs; refine lens2 ?_ rfl; intros; rfl
  · have la := ha.len hw
    have hB := two_le_pow hw
    have pa := pv_dig hB a
    have da := dig_Dig (B := 2 ^ w) a
    have na := dig_Nrm (B := 2 ^ w) a
    have hz : (dig (2 ^ w) a).length = 0 ↔ a = 0 := dig_nil_iff hB
    have hm := bits_math hw pa da na
    show EX _ _ [("a", .val (.row (rn (dig (2 ^ w) a)))), ("w", .val (.int w))] _ _
    generalize dig (2 ^ w) a = xs at *
    walk_at "ret"
    refine vI ?_
    by_cases q : 0 < xs.length
    · rw [if_pos (by simpa using q), hm q, show ((xs.length : Int) - 1) = ((xs.length - 1 : Nat) : Int) by lia, Int.natCast_add, Int.natCast_mul]
    · rw [if_neg (by simpa using q), hz.mp (by lia)]; rfl

theorem low_math {w n a : Nat} {xs : List Nat} (hw : 1 ≤ w) (pa : pv (2 ^ w) xs = a) (da : Dig (2 ^ w) xs) (h : n / w < xs.length) :
    a % 2 ^ n = pv (2 ^ w) (xs.take (n / w)) + (2 ^ w) ^ (n / w) * (xs.getD (n / w) 0 % 2 ^ (n % w)) := by
  have s := pv_split (B := 2 ^ w) xs (n / w)
  have t := pv_lt (da.take (n / w))
  rw [List.length_take, Nat.min_eq_left (by lia)] at t
  rw [pow_split w n, Nat.mod_mul]
  have e1 : a % (2 ^ w) ^ (n / w) = pv (2 ^ w) (xs.take (n / w)) := by rw [← pa, s, Nat.add_mul_mod_self_left, Nat.mod_eq_of_lt t]
  have e2 : a / (2 ^ w) ^ (n / w) = pv (2 ^ w) (xs.drop (n / w)) := by rw [← pa, s, Nat.add_mul_div_left _ _ (Nat.pow_pos (Nat.pow_pos (by decide))), Nat.div_eq_of_lt t, Nat.zero_add]
  have hf : n % w < w := Nat.mod_lt _ hw
  have e : 2 ^ w = 2 ^ (n % w) * 2 ^ (w - n % w) := by rw [← Nat.pow_add]; congr 1; lia
  have e3 : pv (2 ^ w) (xs.drop (n / w)) % 2 ^ (n % w) = xs.getD (n / w) 0 % 2 ^ (n % w) := by
    rw [pv_drop_step xs h]
    conv => lhs; arg 1; arg 2; arg 1; rw [e]
    rw [Nat.mul_assoc, Nat.add_mul_mod_self_left]
  rw [e1, e2, e3]

theorem low_ok {w a n : Nat} (hw : 1 ≤ w) (hw' : w ≤ 60) (ha : Sm a) (hn : n ≤ 1000) : FN T "low" 1 [R w a, .int n, .int w] (R w (a % 2 ^ n)) := by
  have hdig : ∀ {fs : List Nat}, Dig (2 ^ w) fs → fs.length ≤ 1000 → pv (2 ^ w) fs = a % 2 ^ n → FN T "normal" 0 [.row (rn fs)] (R w (a % 2 ^ n)) := fun hd hl e => e ▸ normal_ok (T := T) hw hd (by lia)
  refine FN.of (d := dAt 14) ["a", "n", "w"] (dAt_mem rfl) (fun pm code doc vs hv => ?_) rfl (by decide) (by decide) (by decide) rfl rfl rfl fun C hC => ?_
  · revert vs; refine lens3 ?_ rfl; intros; rfl
  · have la := ha.len hw
    have hB := two_le_pow hw
    have pa := pv_dig hB a
    have da := dig_Dig (B := 2 ^ w) a
    have h60 : 2 ^ w ≤ 2 ^ 60 := Nat.pow_le_pow_right (by decide) hw'
    have hf : n % w < w := Nat.mod_lt _ hw
    have hs : n / w ≤ n := Nat.div_le_self ..
    have hsp := pow_split w n
    have hmath := fun (h : n / w < (dig (2 ^ w) a).length) => low_math (n := n) hw pa da h
    have hself : (dig (2 ^ w) a).length ≤ n / w → dig (2 ^ w) (a % 2 ^ n) = dig (2 ^ w) a := fun h => by
      rw [Nat.mod_eq_of_lt]
      have := dig_lt_len hB h
      rw [hsp]
      exact Nat.lt_of_lt_of_le this (Nat.le_mul_of_pos_right _ (Nat.pow_pos (by decide)))
    unfold R at hdig ⊢
    show EX _ _ [("a", .val (.row (rn (dig (2 ^ w) a)))), ("n", .val (.int n)), ("w", .val (.int w))] _ _
    generalize dig (2 ^ w) a = xs at *
    walk_at "st"
    refine EX.sub (ρ' := [("spots", .val (.int (n / w : Nat))), ("few", .val (.int (n % w : Nat))), ("a", .val (.row (rn xs))), ("w", .val (.int w))]) (by walk_at "sub") ?_
    generalize n / w = sp at *
    have hfl : 2 ^ (n % w) ≤ 2 ^ w := Nat.pow_le_pow_right (by decide) (by lia)
    have hf0 : 0 < 2 ^ (n % w) := Nat.pow_pos (by decide)
    generalize n % w = few at *
    refine EX.ite (b := decide ((xs.length : Int) ≤ sp)) (by walk_at "et") (fun h => ?_) fun h => EX.thenEnd ?_
    · have h : xs.length ≤ sp := by simpa using h
      walk_at "ret"
      rw [hself h]
    · have h : sp < xs.length := by simpa using h
      have hlt : xs.getD sp 0 % 2 ^ few < 2 ^ w := Nat.lt_of_lt_of_le (Nat.mod_lt _ hf0) hfl
      have hno := hdig (fs := xs.take sp ++ [xs.getD sp 0 % 2 ^ few]) ((da.take sp).append (Dig.one hlt)) (by simp; lia) (by rw [hmath h, pv_snoc, List.length_take, Nat.min_eq_left (by lia)])
      walk_at "ret"
      rfl
end
section
variable {T : Tp} {C : Cx T} {ρ : Loc}
theorem mul_school_ok {w a b : Nat} (hw : 1 ≤ w) (hw' : w ≤ 60) (ha : Sm a) (hb : Sm b) : FN T "mul_school" 1 [R w a, R w b, .int w] (R w (a * b)) := by
  have hdig : ∀ {fs : List Nat}, Dig (2 ^ w) fs → fs.length ≤ 1000 → pv (2 ^ w) fs = a * b → FN T "normal" 0 [.row (rn fs)] (R w (a * b)) := fun hd hl e => e ▸ normal_ok (T := T) hw hd (by lia)
  refine FN.of (d := dAt 40) ["a", "b", "w"] (dAt_mem rfl) (fun pm code doc vs hv => ?_) rfl (by decide) (by decide) (by decide) rfl rfl rfl fun C hC => ?_
  · revert vs; refine lens3 ?_ rfl; intros; rfl
  · have la := ha.len hw
    have lb := hb.len hw
    have hB := two_le_pow hw
    have h60 : 2 ^ w ≤ 2 ^ 60 := Nat.pow_le_pow_right (by decide) hw'
    have pa := pv_dig hB a
    have pb := pv_dig hB b
    have da := dig_Dig (B := 2 ^ w) a
    have db := dig_Dig (B := 2 ^ w) b
    unfold R at hdig ⊢
    show EX _ _ [("a", .val (.row (rn (dig (2 ^ w) a)))), ("b", .val (.row (rn (dig (2 ^ w) b)))), ("w", .val (.int w))] _ _
    generalize dig (2 ^ w) a = xs at *
    generalize dig (2 ^ w) b = ys at *
    have hB0 : 0 < 2 ^ w := by lia
    walk_at "st arr"
    refine EX.sub (ρ' := [("found", .arr (rn (List.replicate (xs.length + ys.length) 0))), ("mask", .val (.int (((2 ^ w : Nat) : Int) - 1))), ("a", .val (.row (rn xs))), ("b", .val (.row (rn ys))), ("w", .val (.int w))]) (by walk_at "sub") ?_
    refine EX.enumRowN (fun i ρ' => ∃ fs, fs.length = xs.length + ys.length ∧ Dig (2 ^ w) fs ∧ (∀ j, i + ys.length ≤ j → fs.getD j 0 = 0) ∧ pv (2 ^ w) fs = pv (2 ^ w) (xs.take i) * b ∧
        ρ' = ([("found", .arr (rn fs)), ("mask", .val (.int (((2 ^ w : Nat) : Int) - 1))), ("a", .val (.row (rn xs))), ("b", .val (.row (rn ys))), ("w", .val (.int w))] : Loc)) (by walk_at "ev") (by lia) rfl rfl rfl rfl rfl (fun _ => rfl)
        ⟨List.replicate (xs.length + ys.length) 0, by simp, Dig.replicate hB0, fun j _ => by simp only [List.getD_eq_getElem?_getD, List.getElem?_replicate]; split <;> rfl, by simp [pv, pv_replicate], rfl⟩ ?_ ?_
    · rintro i _ hi ⟨fs, hlen, hd, hz, hp, rfl⟩
      have hx := da.getD (by lia) i
      walk_at "st"
      refine EX.enumRowN (fun j ρ' => ∃ gs cy, gs.length = xs.length + ys.length ∧ Dig (2 ^ w) gs ∧ cy < 2 ^ w ∧ (∀ j, i + ys.length ≤ j → gs.getD j 0 = 0) ∧ pv (2 ^ w) gs + (2 ^ w) ^ (i + j) * cy = pv (2 ^ w) fs + (2 ^ w) ^ i * (xs.getD i 0 * pv (2 ^ w) (ys.take j)) ∧
        ρ' = ([("carry", .val (.int (cy : Nat))), ("limb", .val (.int (xs.getD i 0 : Nat))), ("at", .val (.int (i : Nat))), ("found", .arr (rn gs)), ("mask", .val (.int (((2 ^ w : Nat) : Int) - 1))), ("a", .val (.row (rn xs))), ("b", .val (.row (rn ys))), ("w", .val (.int w))] : Loc)) (by walk_at "ev") (by lia) rfl rfl rfl rfl rfl (fun _ => rfl)
        ⟨fs, 0, hlen, hd, hB0, hz, by simp [pv], rfl⟩ ?_ ?_
      · rintro j _ hj ⟨gs, cy, hlen', hd', hc, hz', hp', rfl⟩
        have hy := db.getD (by lia) j
        have hf := hd'.getD (by lia) (i + j)
        walk_at "st"
        walk_at "st"
        walk_at "st"
        refine EX.turn [("carry", .val (.int ((cy + (gs.getD (i + j) 0 + xs.getD i 0 * ys.getD j 0)) / 2 ^ w : Nat))), ("limb", .val (.int (xs.getD i 0 : Nat))), ("at", .val (.int (i : Nat))), ("found", .arr (rn (gs.set (i + j) ((cy + (gs.getD (i + j) 0 + xs.getD i 0 * ys.getD j 0)) % 2 ^ w)))), ("mask", .val (.int (((2 ^ w : Nat) : Int) - 1))), ("a", .val (.row (rn xs))), ("b", .val (.row (rn ys))), ("w", .val (.int w))] (by walk_at "sub")
          ⟨_, _, by simp [hlen'], hd'.set _ (Nat.mod_lt _ hB0), mul_carry hc hf hx hy, fun k hk => by rw [getD_set_ne' (by lia)]; exact hz' k hk, ?_, rfl⟩
        have st := pv_set' (B := 2 ^ w) (xs := gs) (i := i + j) (v := (cy + (gs.getD (i + j) 0 + xs.getD i 0 * ys.getD j 0)) % 2 ^ w) (by lia)
        have t := mul_turn hp' st
        rw [show i + (j + 1) = i + j + 1 from rfl, t, pv_take_succ, Nat.mul_add, Nat.mul_add, Nat.pow_add, Nat.mul_left_comm ((xs.getD i 0)), Nat.mul_assoc, Nat.add_assoc]
      · rintro _ ⟨gs, cy, hlen', hd', hc, hz', hp', rfl⟩
        rw [List.take_length, pb] at hp'
        walk_at "st"
        refine EX.turn [("found", .arr (rn (gs.set (i + ys.length) cy))), ("mask", .val (.int (((2 ^ w : Nat) : Int) - 1))), ("a", .val (.row (rn xs))), ("b", .val (.row (rn ys))), ("w", .val (.int w))] (by walk_at "sub")
          ⟨_, by simp [hlen'], hd'.set _ hc, fun k hk => by rw [getD_set_ne' (by lia)]; exact hz' k (by lia), ?_, rfl⟩
        have st := pv_set' (B := 2 ^ w) (xs := gs) (i := i + ys.length) (v := cy) (by lia)
        rw [hz' _ (by lia), Nat.mul_zero, Nat.add_zero, hp', hp] at st
        rw [st, pv_take_succ, Nat.add_mul, Nat.mul_assoc]
    · rintro _ ⟨fs, hlen, hd, hz, hp, rfl⟩
      rw [List.take_length, pa] at hp
      have hno := hdig hd (by lia) hp
      refine EX.freeze (x := "found") rfl (.inr rfl) ?_
      walk_at "ret"
      rfl
end
section
variable {T : Tp} {C : Cx T} {ρ : Loc}
theorem guessed_limb_ok {w f s : Nat} {ts : List Nat} (hw : 1 ≤ w) (hw' : w ≤ 20) (hl : ts.length = 3) (hd : Dig (2 ^ w) ts) (hf0 : 0 < f) (hf : f < 2 ^ w) (hs : s < 2 ^ w) :
    FN T "guessed_limb" 0 [.row (rn ts), .int f, .int s, .int w] (.int (Min.min (pv (2 ^ w) ts / (f * 2 ^ w + s)) (2 ^ w - 1) : Nat)) := by
  refine FN.of (d := dAt 42) ["top", "first", "second", "w"] (dAt_mem rfl) (fun pm code doc vs hv => ?_) rfl (by decide) (by decide) (by decide) rfl rfl rfl fun C hC => ?_
  · revert vs; refine lens4 ?_ rfl; intros; rfl
  · have hB := two_le_pow hw
    have h20 : 2 ^ w ≤ 2 ^ 20 := Nat.pow_le_pow_right (by decide) hw'
    have h0 : ts.getD (0 : Int).toNat 0 < 2 ^ w := hd.getD (by lia) 0
    have h1 : ts.getD (1 : Int).toNat 0 < 2 ^ w := hd.getD (by lia) 1
    have h2 : ts.getD (2 : Int).toNat 0 < 2 ^ w := hd.getD (by lia) 2
    have hU : pv (2 ^ w) ts = (ts.getD (2 : Int).toNat 0 * 2 ^ w + ts.getD (1 : Int).toNat 0) * 2 ^ w + ts.getD (0 : Int).toNat 0 := by
      match ts, hl with
      | [a, b, c], _ =>
        show a + 2 ^ w * (b + 2 ^ w * (c + 2 ^ w * 0)) = (c * 2 ^ w + b) * 2 ^ w + a
        rw [Nat.mul_zero, Nat.add_zero, Nat.mul_comm (2 ^ w) c, Nat.add_comm b, Nat.mul_comm (2 ^ w), Nat.add_comm]
    rw [hU]
    show EX _ _ [("top", .val (.row (rn ts))), ("first", .val (.int f)), ("second", .val (.int s)), ("w", .val (.int w))] _ _
    walk_at "st"
    obtain ⟨hi, hhi⟩ : ∃ hi, hi = ts.getD (2 : Int).toNat 0 * 2 ^ w + ts.getD (1 : Int).toNat 0 := ⟨_, rfl⟩
    have hm : (ts.getD (2 : Int).toNat 0 + 1) * 2 ^ w ≤ 2 ^ w * 2 ^ w := Nat.mul_le_mul_right _ h2
    have hBB : 2 ^ w * 2 ^ w ≤ 2 ^ 20 * 2 ^ 20 := Nat.mul_le_mul h20 h20
    rw [Nat.add_mul, Nat.one_mul] at hm
    refine EX.sub (ρ' := [("high", .val (.int (hi : Nat))), ("base", .val (.int ((2 ^ w : Nat) : Int))), ("top", .val (.row (rn ts))), ("first", .val (.int f)), ("second", .val (.int s)), ("w", .val (.int w))]) (by
      walk_at "sub"
      rw [hhi, ← or_mul h1]) ?_
    rw [← hhi]
    have hhib : hi < 2 ^ w * 2 ^ w := by lia
    clear hU hm
    walk_at "st"
    obtain ⟨k0, hk0⟩ : ∃ k0, k0 = Min.min (hi / f) (2 ^ w - 1) := ⟨_, rfl⟩
    have hkf : k0 * f ≤ hi := by
      rw [← Nat.le_div_iff_mul_le hf0]; omega
    refine EX.sub (ρ' := [("limb", .val (.int (k0 : Nat))), ("high", .val (.int (hi : Nat))), ("base", .val (.int ((2 ^ w : Nat) : Int))), ("top", .val (.row (rn ts))), ("first", .val (.int f)), ("second", .val (.int s)), ("w", .val (.int w))]) (by walk_at "sub") ?_
    walk_at "st"
    generalize hg : Min.min ((hi * 2 ^ w + ts.getD (0 : Int).toNat 0) / (f * 2 ^ w + s)) (2 ^ w - 1) = G
    have hV0 : 0 < f * 2 ^ w + s := by have := Nat.mul_pos hf0 (show 0 < 2 ^ w by lia); lia
    have key : ∀ k r, hi = k * f + r → k ≤ 2 ^ w - 1 → (k ≤ G ↔ (r < 2 ^ w → k * s ≤ r * 2 ^ w + ts.getD (0 : Int).toNat 0)) := by
      intro k r hr hk
      have e : (k ≤ G ↔ k ≤ (hi * 2 ^ w + ts.getD (0 : Int).toNat 0) / (f * 2 ^ w + s)) := by lia
      rw [e, Nat.le_div_iff_mul_le hV0, hr, Nat.mul_add, Nat.add_mul, ← Nat.mul_assoc]
      constructor
      · intro h _; lia
      · intro h
        by_cases q : r < 2 ^ w
        · have := h q; lia
        · have a1 : k * s ≤ 2 ^ w * 2 ^ w := Nat.mul_le_mul (by lia) (by lia)
          have a2 : 2 ^ w * 2 ^ w ≤ r * 2 ^ w := Nat.mul_le_mul_right _ (by lia)
          lia
    have hG0 : G ≤ k0 := by
      have q1 : (hi * 2 ^ w + ts.getD (0 : Int).toNat 0) / (f * 2 ^ w + s) ≤ hi / f := by
        rw [Nat.le_div_iff_mul_le hf0]
        have q2 := Nat.div_mul_le_self (hi * 2 ^ w + ts.getD (0 : Int).toNat 0) (f * 2 ^ w + s)
        generalize (hi * 2 ^ w + ts.getD (0 : Int).toNat 0) / (f * 2 ^ w + s) = c at *
        rw [Nat.mul_add, ← Nat.mul_assoc] at q2
        have q3 : c * f * 2 ^ w < (hi + 1) * 2 ^ w := by rw [Nat.add_mul]; lia
        exact Nat.lt_succ_iff.mp (Nat.lt_of_mul_lt_mul_right q3)
      omega
    refine EX.sub (ρ' := [("limb", .val (.int (k0 : Nat))), ("rest", .val (.int (hi - k0 * f : Nat))), ("base", .val (.int ((2 ^ w : Nat) : Int))), ("top", .val (.row (rn ts))), ("first", .val (.int f)), ("second", .val (.int s)), ("w", .val (.int w))]) (by walk_at "sub") ?_
    refine EX.while (fun k ρ' => ∃ r, G ≤ k ∧ k ≤ 2 ^ w - 1 ∧ hi = k * f + r ∧ ρ' = ([("limb", .val (.int (k : Nat))), ("rest", .val (.int (r : Nat))), ("base", .val (.int ((2 ^ w : Nat) : Int))), ("top", .val (.row (rn ts))), ("first", .val (.int f)), ("second", .val (.int s)), ("w", .val (.int w))] : Loc)) k0 ⟨hi - k0 * f, hG0, by lia, by omega, rfl⟩ ?_
    rintro k _ ⟨r, g1, g2, g3, rfl⟩
    have hks : k * s ≤ 2 ^ w * 2 ^ w := Nat.mul_le_mul (by lia) (by lia)
    refine ⟨decide ((r : Int) < (2 ^ w : Nat)) && (decide (((r * 2 ^ w ||| ts.getD (0 : Int).toNat 0 : Nat) : Int) < (k * s : Nat)) && true), by walk_at "et", fun hb => ?_, fun hb => ?_⟩
    · rw [or_mul h0] at hb
      simp only [Bool.and_eq_true, decide_eq_true_eq, Bool.and_true] at hb
      have nk : ¬ k ≤ G := fun q => by have := (key k r g3 g2).mp q (by omega); omega
      walk_at "st"
      walk_at "st"
      refine EX.turn [("limb", .val (.int (k - 1 : Nat))), ("rest", .val (.int (r + f : Nat))), ("base", .val (.int ((2 ^ w : Nat) : Int))), ("top", .val (.row (rn ts))), ("first", .val (.int f)), ("second", .val (.int s)), ("w", .val (.int w))] (by walk_at "sub") ⟨k - 1, by lia, r + f, by lia, by lia, ?_, rfl⟩
      have : k * f = (k - 1) * f + f := by rw [← Nat.succ_mul]; congr 1; lia
      lia
    · rw [or_mul h0] at hb
      simp only [Bool.and_true, Bool.and_eq_false_iff, decide_eq_false_iff_not] at hb
      have : k ≤ G := (key k r g3 g2).mpr fun q => by omega
      walk_at "ret"
      refine vI ?_
      lia

theorem take_away_ok {w g pl : Nat} {rs ys : List Nat} (hw : 1 ≤ w) (hw' : w ≤ 20) (hd : Dig (2 ^ w) rs) (hy : Dig (2 ^ w) ys) (hg : g < 2 ^ w) (hlen : pl + ys.length < rs.length) (hsz : rs.length ≤ 1000) (htop : pv (2 ^ w) rs < (2 ^ w) ^ (pl + ys.length + 1)) :
    FNm T "take_away" 0 (rn rs) [.row (rn ys), .int g, .int pl, .int w]
      (rn (digL (2 ^ w) (if (2 ^ w) ^ pl * (g * pv (2 ^ w) ys) ≤ pv (2 ^ w) rs then pv (2 ^ w) rs - (2 ^ w) ^ pl * (g * pv (2 ^ w) ys) else pv (2 ^ w) rs + (2 ^ w) ^ (pl + ys.length + 1) - (2 ^ w) ^ pl * (g * pv (2 ^ w) ys)) rs.length))
      (.int (if (2 ^ w) ^ pl * (g * pv (2 ^ w) ys) ≤ pv (2 ^ w) rs then 0 else 1 : Nat)) := by
  refine FNm.of (d := dAt 43) "rest" ["b", "limb", "at", "w"] (dAt_mem rfl) (fun pm code doc vs hv => ?_) rfl (by decide) (by decide) (by decide) rfl rfl rfl fun C a hC => ?_
  · revert vs; refine lens5 ?_ rfl; intros; rfl
  · have hB := two_le_pow hw
    have hB0 : 0 < 2 ^ w := by lia
    have h20 : 2 ^ w ≤ 2 ^ 20 := Nat.pow_le_pow_right (by decide) hw'
    have hz0 := top_pv hB0 htop
    show EX _ _ [("rest", .pin a (rn rs)), ("b", .val (.row (rn ys))), ("limb", .val (.int g)), ("at", .val (.int pl)), ("w", .val (.int w))] _ _
    walk_at "st"
    refine EX.sub (ρ' := [("rest", .pin a (rn rs)), ("carry", .val (.int ((0 : Nat) : Int))), ("base", .val (.int ((2 ^ w : Nat) : Int))), ("b", .val (.row (rn ys))), ("limb", .val (.int g)), ("at", .val (.int pl)), ("w", .val (.int w))]) (by walk_at "sub") ?_
    refine EX.enumRowN (fun j ρ' => ∃ gs cy, gs.length = rs.length ∧ Dig (2 ^ w) gs ∧ cy ≤ g ∧ (∀ i, pl + ys.length + 1 ≤ i → gs.getD i 0 = 0) ∧ pv (2 ^ w) gs + (2 ^ w) ^ pl * (g * pv (2 ^ w) (ys.take j)) = pv (2 ^ w) rs + (2 ^ w) ^ (pl + j) * cy ∧
        ρ' = ([("rest", .pin a (rn gs)), ("carry", .val (.int (cy : Nat))), ("base", .val (.int ((2 ^ w : Nat) : Int))), ("b", .val (.row (rn ys))), ("limb", .val (.int g)), ("at", .val (.int pl)), ("w", .val (.int w))] : Loc)) (by walk_at "ev") (by lia) rfl rfl rfl rfl rfl (fun _ => rfl)
        ⟨rs, 0, rfl, hd, by lia, hz0, by simp [pv], rfl⟩ ?_ ?_
    · rintro j _ hj ⟨gs, cy, hl, hdg, hc, hz, hp, rfl⟩
      have hyj := hy.getD hB0 j
      have hf := hdg.getD hB0 (pl + j)
      have hgy : g * ys.getD j 0 ≤ 2 ^ w * 2 ^ w := Nat.mul_le_mul (by lia) (by lia)
      have hBB : 2 ^ w * 2 ^ w ≤ 2 ^ 20 * 2 ^ 20 := Nat.mul_le_mul h20 h20
      have hmd := (Nat.div_add_mod (g * ys.getD j 0 + cy) (2 ^ w)).symm
      have hmlt := Nat.mod_lt (g * ys.getD j 0 + cy) hB0
      have hcy := take_carry (f := gs.getD (pl + j) 0) hB0 hyj hc hmd
      walk_at "st"
      walk_at "st"
      refine EX.sub (ρ' := [("carry", .val (.int ((g * ys.getD j 0 + cy) / 2 ^ w + (if gs.getD (pl + j) 0 < (g * ys.getD j 0 + cy) % 2 ^ w then 1 else 0) : Nat))), ("here", .val (.int ((gs.getD (pl + j) 0 : Int) - ((g * ys.getD j 0 + cy) % 2 ^ w : Nat)))), ("spot", .val (.int (j : Nat))), ("rest", .pin a (rn gs)), ("base", .val (.int ((2 ^ w : Nat) : Int))), ("b", .val (.row (rn ys))), ("limb", .val (.int g)), ("at", .val (.int pl)), ("w", .val (.int w))]) (by
        walk_at "sub"
        by_cases q : gs.getD (pl + j) 0 < (g * ys.getD j 0 + cy) % 2 ^ w
        · rw [if_pos q, if_pos (decide_eq_true (by lia))]; rfl
        · rw [if_neg q, if_neg (by simp only [decide_eq_true_eq]; lia)]; rfl) ?_
      generalize (g * ys.getD j 0 + cy) / 2 ^ w = qt at *
      generalize (g * ys.getD j 0 + cy) % 2 ^ w = md at *
      obtain ⟨v, hv⟩ : ∃ v, v = if gs.getD (pl + j) 0 < md then gs.getD (pl + j) 0 + 2 ^ w - md else gs.getD (pl + j) 0 - md := ⟨_, rfl⟩
      have hvb : v < 2 ^ w := by rw [hv]; split <;> lia
      refine EX.step (ES.setPinN (xs := gs) (v := v) (k := pl + j) rfl (EV.iteN (c := decide ((gs.getD (pl + j) 0 : Int) - (md : Nat) < 0)) (by walk_at "et") (fun hc => EV.toI (by walk_at "ev") ?_) (fun hc => EV.toI (by walk_at "ev") ?_)) (by walk_at "ev") (by lia) (by lia) rfl rfl rfl) ?_
      · simp only [decide_eq_true_eq] at hc
        rw [hv, if_pos (by lia)]; lia
      · simp only [decide_eq_false_iff_not] at hc
        rw [hv, if_neg (by lia)]; lia
      · refine EX.turn [("rest", .pin a (rn (gs.set (pl + j) v))), ("carry", .val (.int (qt + (if gs.getD (pl + j) 0 < md then 1 else 0) : Nat))), ("base", .val (.int ((2 ^ w : Nat) : Int))), ("b", .val (.row (rn ys))), ("limb", .val (.int g)), ("at", .val (.int pl)), ("w", .val (.int w))] (by walk_at "sub")
          ⟨_, _, by simp [hl], hdg.set _ hvb, hcy, fun i hi => by rw [getD_set_ne' (by lia)]; exact hz i hi, ?_, rfl⟩
        have st := pv_set' (B := 2 ^ w) (xs := gs) (i := pl + j) (v := v) (by lia)
        have t := take_turn (bo := if gs.getD (pl + j) 0 < md then 1 else 0) hp st (by rw [hv]; split <;> lia) hmd
        rw [show pl + (j + 1) = pl + j + 1 from rfl, ← t, pv_take_succ, Nat.mul_add, Nat.mul_add, Nat.pow_add, Nat.mul_left_comm g, Nat.mul_assoc]
    · rintro _ ⟨gs, cy, hl, hdg, hc, hz, hp, rfl⟩
      rw [List.take_length] at hp
      have hf := hdg.getD hB0 (pl + ys.length)
      walk_at "st"
      obtain ⟨v, hv⟩ : ∃ v, v = if gs.getD (pl + ys.length) 0 < cy then gs.getD (pl + ys.length) 0 + 2 ^ w - cy else gs.getD (pl + ys.length) 0 - cy := ⟨_, rfl⟩
      have hvb : v < 2 ^ w := by rw [hv]; split <;> omega
      refine EX.sub (ρ' := [("here", .val (.int ((gs.getD (pl + ys.length) 0 : Int) - (cy : Nat)))), ("rest", .pin a (rn gs)), ("base", .val (.int ((2 ^ w : Nat) : Int))), ("b", .val (.row (rn ys))), ("at", .val (.int pl))]) (by walk_at "sub") ?_
      refine EX.step (ES.setPinN (xs := gs) (v := v) (k := pl + ys.length) rfl (EV.iteN (c := decide ((gs.getD (pl + ys.length) 0 : Int) - (cy : Nat) < 0)) (by walk_at "et") (fun hc => EV.toI (by walk_at "ev") ?_) (fun hc => EV.toI (by walk_at "ev") ?_)) (by walk_at "ev") (by lia) (by lia) rfl rfl rfl) ?_
      · simp only [decide_eq_true_eq] at hc
        rw [hv, if_pos (by lia)]; lia
      · simp only [decide_eq_false_iff_not] at hc
        rw [hv, if_neg (by lia)]; lia
      · have st := pv_set' (B := 2 ^ w) (xs := gs) (i := pl + ys.length) (v := v) (by lia)
        obtain ⟨bo, hbo⟩ : ∃ bo, bo = if gs.getD (pl + ys.length) 0 < cy then 1 else 0 := ⟨_, rfl⟩
        have hb1 : bo ≤ 1 := by rw [hbo]; split <;> lia
        have t := take_turn (gy := 0) (qt := 0) (m := cy) (bo := bo) (B := 2 ^ w) hp st (by rw [hv, hbo]; split <;> lia) (by lia)
        rw [Nat.mul_zero, Nat.add_zero, Nat.zero_add] at t
        have hz' : ∀ i, pl + ys.length + 1 ≤ i → (gs.set (pl + ys.length) v).getD i 0 = 0 := fun i hi => by rw [getD_set_ne' (by lia)]; exact hz i hi
        have e := take_end t hb1 (pv_top (hdg.set _ hvb) hB0 hz')
        have er := eq_digL (hdg.set (pl + ys.length) hvb) e.2
        rw [List.length_set, hl] at er
        rw [← er, ← e.1]
        refine EX.ret (EV.toI (by walk_at "ev") ?_) ⟨_, .inl rfl, rfl⟩
        rw [hbo]
        by_cases q : gs.getD (pl + ys.length) 0 < cy
        · rw [if_pos q, if_pos (decide_eq_true (by lia))]; rfl
        · rw [if_neg q, if_neg (by simp only [decide_eq_true_eq]; lia)]; rfl

theorem put_back_ok {w pl : Nat} {rs ys : List Nat} (hw : 1 ≤ w) (hw' : w ≤ 20) (hd : Dig (2 ^ w) rs) (hy : Dig (2 ^ w) ys) (hlen : pl + ys.length < rs.length) (hsz : rs.length ≤ 1000) (htop : pv (2 ^ w) rs < (2 ^ w) ^ (pl + ys.length + 1)) :
    FNm T "put_back" 0 (rn rs) [.row (rn ys), .int pl, .int w]
      (rn (digL (2 ^ w) ((pv (2 ^ w) rs + (2 ^ w) ^ pl * pv (2 ^ w) ys) % (2 ^ w) ^ (pl + ys.length + 1)) rs.length)) .none := by
  refine FNm.of (d := dAt 44) "rest" ["b", "at", "w"] (dAt_mem rfl) (fun pm code doc vs hv => ?_) rfl (by decide) (by decide) (by decide) rfl rfl rfl fun C a hC => ?_
  · revert vs; refine lens4 ?_ rfl; intros; rfl
  · have hB := two_le_pow hw
    have hB0 : 0 < 2 ^ w := by lia
    have h20 : 2 ^ w ≤ 2 ^ 20 := Nat.pow_le_pow_right (by decide) hw'
    have hz0 := top_pv hB0 htop
    show EX _ _ [("rest", .pin a (rn rs)), ("b", .val (.row (rn ys))), ("at", .val (.int pl)), ("w", .val (.int w))] _ _
    walk_at "st"
    refine EX.sub (ρ' := [("rest", .pin a (rn rs)), ("carry", .val (.int ((0 : Nat) : Int))), ("mask", .val (.int (((2 ^ w : Nat) : Int) - 1))), ("b", .val (.row (rn ys))), ("at", .val (.int pl)), ("w", .val (.int w))]) (by walk_at "sub") ?_
    refine EX.enumRowN (fun j ρ' => ∃ gs cy, gs.length = rs.length ∧ Dig (2 ^ w) gs ∧ cy ≤ 1 ∧ (∀ i, pl + ys.length + 1 ≤ i → gs.getD i 0 = 0) ∧ pv (2 ^ w) gs + (2 ^ w) ^ (pl + j) * cy = pv (2 ^ w) rs + (2 ^ w) ^ pl * pv (2 ^ w) (ys.take j) ∧
        ρ' = ([("rest", .pin a (rn gs)), ("carry", .val (.int (cy : Nat))), ("mask", .val (.int (((2 ^ w : Nat) : Int) - 1))), ("b", .val (.row (rn ys))), ("at", .val (.int pl)), ("w", .val (.int w))] : Loc)) (by walk_at "ev") (by lia) rfl rfl rfl rfl rfl (fun _ => rfl)
        ⟨rs, 0, rfl, hd, by lia, hz0, by simp [pv], rfl⟩ ?_ ?_
    · rintro j _ hj ⟨gs, cy, hl, hdg, hc, hz, hp, rfl⟩
      have hyj := hy.getD hB0 j
      have hf := hdg.getD hB0 (pl + j)
      walk_at "st"
      walk_at "st"
      walk_at "st"
      refine EX.turn [("rest", .pin a (rn (gs.set (pl + j) ((cy + (gs.getD (pl + j) 0 + ys.getD j 0)) % 2 ^ w)))), ("carry", .val (.int ((cy + (gs.getD (pl + j) 0 + ys.getD j 0)) / 2 ^ w : Nat))), ("mask", .val (.int (((2 ^ w : Nat) : Int) - 1))), ("b", .val (.row (rn ys))), ("at", .val (.int pl)), ("w", .val (.int w))] (by walk_at "sub")
          ⟨_, _, by simp [hl], hdg.set _ (Nat.mod_lt _ hB0), ?_, fun i hi => by rw [getD_set_ne' (by lia)]; exact hz i hi, ?_, rfl⟩
      · have : (cy + (gs.getD (pl + j) 0 + ys.getD j 0)) / 2 ^ w < 2 := by rw [Nat.div_lt_iff_lt_mul hB0]; lia
        lia
      · have st := pv_set' (B := 2 ^ w) (xs := gs) (i := pl + j) (v := (cy + (gs.getD (pl + j) 0 + ys.getD j 0)) % 2 ^ w) (by lia)
        have t := mul_turn (x := 1) (y := ys.getD j 0) hp (by rw [Nat.one_mul]; exact st)
        rw [Nat.one_mul] at t
        rw [show pl + (j + 1) = pl + j + 1 from rfl, t, pv_take_succ, Nat.mul_add, Nat.pow_add, Nat.mul_assoc, Nat.add_assoc]
    · rintro _ ⟨gs, cy, hl, hdg, hc, hz, hp, rfl⟩
      rw [List.take_length] at hp
      have hf := hdg.getD hB0 (pl + ys.length)
      walk_at "st"
      have st := pv_set' (B := 2 ^ w) (xs := gs) (i := pl + ys.length) (v := (gs.getD (pl + ys.length) 0 + cy) % 2 ^ w) (by lia)
      have hz' : ∀ i, pl + ys.length + 1 ≤ i → (gs.set (pl + ys.length) ((gs.getD (pl + ys.length) 0 + cy) % 2 ^ w)).getD i 0 = 0 := fun i hi => by rw [getD_set_ne' (by lia)]; exact hz i hi
      have hdn := hdg.set (pl + ys.length) (Nat.mod_lt (gs.getD (pl + ys.length) 0 + cy) hB0)
      have e := put_end hB0 hp st (pv_top hdn hB0 hz')
      have er := eq_digL hdn e
      rw [List.length_set, hl] at er
      rw [← er]
      exact EX.nil ⟨_, .inr ⟨rfl, rfl⟩, rfl⟩
end
section
variable {T : Tp} {C : Cx T} {ρ : Loc}
theorem top3 {G R i Y : Nat} (hl : G = R) (hi : i < R - Y) (hY : 2 ≤ Y) : Min.min (i + Y + 1 - (i + Y - 2)) (G - (i + Y - 2)) = 3 := by
  subst hl
  rw [show i + Y + 1 - (i + Y - 2) = 3 by omega]
  exact Nat.min_eq_left (by omega)
theorem top3' {i Y : Nat} (hY : 2 ≤ Y) : i + Y - 2 + (i + Y + 1 - (i + Y - 2)) = i + Y + 1 := by omega
theorem divide_rows_ok {w : Nat} {rs ys : List Nat} (hw : 1 ≤ w) (hw' : w ≤ 20) (hd : Dig (2 ^ w) rs) (hy : Dig (2 ^ w) ys) (h2 : 2 ≤ ys.length) (hlen : ys.length ≤ rs.length) (hsz : rs.length ≤ 1000) (hf : ys.getD (ys.length - 1) 0 ≠ 0)
    (htop : pv (2 ^ w) rs < (2 ^ w) ^ (rs.length - ys.length) * pv (2 ^ w) ys) :
    FNm T "divide_rows" 1 (rn rs) [.row (rn ys), .int w] (rn (digL (2 ^ w) (pv (2 ^ w) rs % pv (2 ^ w) ys) rs.length)) (.row (rn (digL (2 ^ w) (pv (2 ^ w) rs / pv (2 ^ w) ys) (rs.length - ys.length)))) := by
  refine FNm.of (d := dAt 45) "rest" ["b", "w"] (dAt_mem rfl) (fun pm code doc vs hv => ?_) rfl (by decide) (by decide) (by decide) rfl rfl rfl fun C a hC => ?_
  · revert vs; refine lens3 ?_ rfl; intros; rfl
  · have hB := two_le_pow hw
    have hB0 : 0 < 2 ^ w := by lia
    have h20 : 2 ^ w ≤ 2 ^ 20 := Nat.pow_le_pow_right (by decide) hw'
    have hVn := pv_lt hy
    have e1 : ((ys.length : Int) - 1).toNat = ys.length - 1 := by lia
    have hf1 := hy.getD hB0 (ys.length - 1)
    have hs1 := hy.getD hB0 (ys.length - 2)
    have hyt := pv_lt (hy.take (ys.length - 2))
    rw [List.length_take, Nat.min_eq_left (by lia)] at hyt
    have hV : pv (2 ^ w) ys = (ys.getD ((ys.length : Int) - 1).toNat 0 * 2 ^ w + ys.getD (ys.length - 2) 0) * (2 ^ w) ^ (ys.length - 2) + pv (2 ^ w) (ys.take (ys.length - 2)) := by
      rw [e1, pv_split ys (ys.length - 2), pv_drop_step ys (by lia), show ys.length - 2 + 1 = ys.length - 1 by lia, pv_drop_step ys (by lia), List.drop_of_length_le (by lia), pv_nil, Nat.mul_zero, Nat.add_zero, Nat.add_comm (pv (2 ^ w) _), Nat.mul_comm ((2 ^ w) ^ _), Nat.mul_comm (2 ^ w), Nat.add_comm (ys.getD (ys.length - 2) 0)]
    rw [← e1] at hf hf1
    show EX _ _ [("rest", .pin a (rn rs)), ("b", .val (.row (rn ys))), ("w", .val (.int w))] _ _
    walk_at "st"
    walk_at "st arr"
    refine EX.forDown (rs.length - ys.length) (fun i ρ' => ∃ gs qs, gs.length = rs.length ∧ Dig (2 ^ w) gs ∧ qs.length = rs.length - ys.length ∧ Dig (2 ^ w) qs ∧ pv (2 ^ w) gs < (2 ^ w) ^ i * pv (2 ^ w) ys ∧ pv (2 ^ w) rs = pv (2 ^ w) gs + pv (2 ^ w) ys * ((2 ^ w) ^ i * pv (2 ^ w) (qs.drop i)) ∧
        ρ' = ([("quotient", .arr (rn qs)), ("size", .val (.int (ys.length : Nat))), ("rest", .pin a (rn gs)), ("b", .val (.row (rn ys))), ("w", .val (.int w))] : Loc)) (by walk_at "rg") (by lia) rfl (by lia) rfl (fun _ => rfl) ⟨rs, List.replicate (rs.length - ys.length) 0, rfl, hd, by simp, Dig.replicate hB0, htop, by simp [pv], rfl⟩ ?_ ?_
    · rintro i _ hi ⟨gs, qs, hl, hdg, hql, hdq, hlt, hp, rfl⟩
      obtain ⟨g, hg⟩ : ∃ g, g = Min.min (pv (2 ^ w) gs / (2 ^ w) ^ (i + ys.length - 2) / (ys.getD ((ys.length : Int) - 1).toNat 0 * 2 ^ w + ys.getD (ys.length - 2) 0)) (2 ^ w - 1) := ⟨_, rfl⟩
      obtain ⟨t1, t2, t3, t4, t5⟩ := div_turn hB h2 hV hyt (Nat.pos_of_ne_zero hf) hVn hlt hg
      have hts : ((gs.drop (i + ys.length - 2)).take (i + ys.length + 1 - (i + ys.length - 2))).length = 3 := by rw [List.length_take, List.length_drop]; exact top3 hl hi h2
      have hguess := guessed_limb_ok (T := T) hw hw' hts ((hdg.drop _).take _) (Nat.pos_of_ne_zero hf) hf1 hs1
      rw [pv_take3 hdg hB0 (by rw [top3' (i := i) h2]; exact t1) (by lia), ← hg] at hguess
      have htake := take_away_ok (T := T) (pl := i) hw hw' hdg hy t2 (by lia) (by lia) t1
      obtain ⟨W1, hW1⟩ : ∃ W1, W1 = if (2 ^ w) ^ i * (g * pv (2 ^ w) ys) ≤ pv (2 ^ w) gs then pv (2 ^ w) gs - (2 ^ w) ^ i * (g * pv (2 ^ w) ys) else pv (2 ^ w) gs + (2 ^ w) ^ (i + ys.length + 1) - (2 ^ w) ^ i * (g * pv (2 ^ w) ys) := ⟨_, rfl⟩
      obtain ⟨bo, hbo⟩ : ∃ bo : Nat, bo = if (2 ^ w) ^ i * (g * pv (2 ^ w) ys) ≤ pv (2 ^ w) gs then 0 else 1 := ⟨_, rfl⟩
      rw [← hW1, ← hbo] at htake
      obtain ⟨q, hq⟩ : ∃ q, q = pv (2 ^ w) gs / ((2 ^ w) ^ i * pv (2 ^ w) ys) := ⟨_, rfl⟩
      rw [← hq] at t3 t4 t5
      have hqm := Nat.div_mul_le_self (pv (2 ^ w) gs) ((2 ^ w) ^ i * pv (2 ^ w) ys)
      rw [← hq] at hqm
      have hqs : pv (2 ^ w) gs - q * ((2 ^ w) ^ i * pv (2 ^ w) ys) < (2 ^ w) ^ i * pv (2 ^ w) ys := by
        have := Nat.mod_lt (pv (2 ^ w) gs) (show 0 < (2 ^ w) ^ i * pv (2 ^ w) ys from by
          rcases Nat.eq_zero_or_pos ((2 ^ w) ^ i * pv (2 ^ w) ys) with z | z
          · rw [Nat.pow_succ, Nat.mul_right_comm, z] at hlt; lia
          · exact z)
        rw [Nat.mod_eq_sub_mul_div, ← hq, Nat.mul_comm] at this
        exact this
      have hWg : pv (2 ^ w) gs < (2 ^ w) ^ gs.length := pv_lt hdg
      walk_at "st"
      refine EX.joinM [("limb", .val (.int (q : Nat))), ("at", .val (.int (i : Nat))), ("quotient", .arr (rn qs)), ("size", .val (.int (ys.length : Nat))), ("rest", .pin a (rn (digL (2 ^ w) (pv (2 ^ w) gs - q * ((2 ^ w) ^ i * pv (2 ^ w) ys)) gs.length))), ("b", .val (.row (rn ys))), ("w", .val (.int w))] (b := decide ((bo : Int) = 1)) (by walk_at "emt") ?_ ?_ ?_
      · intro hb
        simp only [decide_eq_true_eq] at hb
        have hP : ¬ (2 ^ w) ^ i * (g * pv (2 ^ w) ys) ≤ pv (2 ^ w) gs := fun h => by rw [if_pos h] at hbo; lia
        obtain ⟨g1, g2⟩ := t5 hP
        rw [if_neg hP] at hW1
        rw [← hW1] at g2
        have hW1lt : W1 < (2 ^ w) ^ (i + ys.length + 1) := by lia
        have hW1len : W1 < (2 ^ w) ^ gs.length := Nat.lt_of_lt_of_le hW1lt (Nat.pow_le_pow_right hB0 (by lia))
        have hput := put_back_ok (T := T) (pl := i) hw hw' (digL_Dig (B := 2 ^ w) hB0 gs.length W1) hy (by rw [digL_length]; lia) (by rw [digL_length]; lia) (by rw [digL_pv hB0 _ _ hW1len]; exact hW1lt)
        rw [digL_pv hB0 _ _ hW1len, digL_length, g2] at hput
        walk_at "st"
        walk_at "stm"
        exact EX.nextIs (by walk_at "sub")
      · intro hb
        simp only [decide_eq_false_iff_not] at hb
        have hP : (2 ^ w) ^ i * (g * pv (2 ^ w) ys) ≤ pv (2 ^ w) gs := Decidable.byContradiction fun h => by rw [if_neg h] at hbo; lia
        have g1 := t4 hP
        rw [if_pos hP, Nat.mul_left_comm, g1] at hW1
        rw [hW1, g1]
        exact EX.nextIs (by walk_at "sub")
      · walk_at "st"
        refine EX.turn [("quotient", .arr (rn (qs.set i q))), ("size", .val (.int (ys.length : Nat))), ("rest", .pin a (rn (digL (2 ^ w) (pv (2 ^ w) gs - q * ((2 ^ w) ^ i * pv (2 ^ w) ys)) gs.length))), ("b", .val (.row (rn ys))), ("w", .val (.int w))] (by walk_at "sub")
          ⟨_, _, by rw [digL_length]; exact hl, digL_Dig hB0 _ _, by simp [hql], hdq.set _ t3, ?_, ?_, rfl⟩
        · rw [digL_pv hB0 _ _ (by omega)]; exact hqs
        · rw [digL_pv hB0 _ _ (by omega), pv_drop_step _ (by simp; lia), getD_set_self (by lia), List.drop_set_of_lt (by lia)]
          exact div_step hp hqm
    · rintro _ ⟨gs, qs, hl, hdg, hql, hdq, hlt, hp, rfl⟩
      rw [List.drop_zero, Nat.pow_zero, Nat.one_mul] at hp
      rw [Nat.pow_zero, Nat.one_mul] at hlt
      have e1 : pv (2 ^ w) qs = pv (2 ^ w) rs / pv (2 ^ w) ys := by
        rw [hp, Nat.add_mul_div_left _ _ (by omega), Nat.div_eq_of_lt hlt, Nat.zero_add]
      have e2 : pv (2 ^ w) gs = pv (2 ^ w) rs % pv (2 ^ w) ys := by
        rw [hp, Nat.add_mul_mod_self_left, Nat.mod_eq_of_lt hlt]
      have q1 := eq_digL hdq e1
      have q2 := eq_digL hdg e2
      rw [hql] at q1
      rw [hl] at q2
      rw [← q1, ← q2]
      refine EX.freeze (x := "quotient") rfl (.inr rfl) ?_
      refine EX.ret (by walk_at "ev") ⟨_, .inl rfl, rfl⟩
end
section
variable {T : Tp} {C : Cx T} {ρ : Loc}
theorem divrem_small_ok {w a b : Nat} (hw : 1 ≤ w) (hw' : w ≤ 20) (ha : Sm a) (h0 : 0 < b) (hb : b < 2 ^ w) : FN T "divrem_small" 2 [R w a, R w b, .int w] (.tup [R w (a / b), R w (a % b)]) := by
  have hd := divrem_limb_ok (T := T) hw (by lia) ha h0 hb
  have hB := two_le_pow hw
  have hr : R w (a % b) = if 0 < a % b then .row (rn [a % b]) else .row (rn []) := by
    unfold R
    by_cases q : 0 < a % b
    · rw [if_pos q, dig_one (by lia) (Nat.lt_trans (Nat.mod_lt _ h0) hb)]
    · rw [if_neg q, show a % b = 0 by lia, dig_zero]
  have hrb : R w b = .row (rn [b]) := by unfold R; rw [dig_one (by lia) hb]
  rw [hrb, hr]
  refine FN.of (d := dAt 41) ["a", "b", "w"] (dAt_mem rfl) (fun pm code doc vs hv => ?_) rfl (by decide) (by decide) (by decide) rfl rfl rfl fun C hC => ?_
  · revert vs; refine lens3 ?_ rfl; intros; rfl
  · show EX _ _ [("a", .val (R w a)), ("b", .val (.row (rn [b]))), ("w", .val (.int w))] _ _
    walk_at "st"
    refine EX.sub (ρ' := [("rest", .val (.int (a % b : Nat))), ("quotient", .val (R w (a / b)))]) (by walk_at "sub") ?_
    walk_at "ret"
    by_cases q : 0 < a % b
    · rw [if_pos q, if_pos (decide_eq_true (by lia))]
    · rw [if_neg q, if_neg (by simp only [decide_eq_true_eq]; lia)]; rfl

theorem divrem_school_ok {w a b : Nat} (hw : 1 ≤ w) (hw' : w ≤ 20) (ha : a < 2 ^ 150) (h0 : 0 < b) (hb : b < 2 ^ 150) : FN T "divrem_school" 3 [R w a, R w b, .int w] (.tup [R w (a / b), R w (a % b)]) := by
  have sa : Sm a := Nat.lt_of_lt_of_le ha (Nat.pow_le_pow_right (by decide) (by decide))
  have sb : Sm b := Nat.lt_of_lt_of_le hb (Nat.pow_le_pow_right (by decide) (by decide))
  have hB := two_le_pow hw
  have hB0 : 0 < 2 ^ w := by lia
  have la := sa.len hw
  have lb := sb.len hw
  have hcmp := compare_ok (T := T) hw sa sb
  have hsmall := fun (h : b < 2 ^ w) => divrem_small_ok (T := T) hw hw' sa h0 h
  have hlb : (dig (2 ^ w) b).length ≠ 0 := fun q => by rw [dig_nil_iff hB] at q; lia
  have hlen1 : (dig (2 ^ w) b).length = 1 → b < 2 ^ w := fun q => by have := dig_lt_len hB (Nat.le_of_eq q); simpa using this
  have db := dig_Dig (B := 2 ^ w) b
  have pb := pv_dig hB b
  have nb := dig_Nrm (B := 2 ^ w) b
  obtain ⟨x, hx⟩ : ∃ x, x = (dig (2 ^ w) b).getD ((dig (2 ^ w) b).length - 1) 0 := ⟨_, rfl⟩
  have hxlt : x < 2 ^ w := hx ▸ db.getD hB0 _
  have hx0 : x ≠ 0 := fun q => by
    refine nb ?_
    rw [List.getLast?_eq_getElem?, List.getElem?_eq_getElem (by lia)]
    rw [q, List.getD_eq_getElem?_getD, List.getElem?_eq_getElem (by lia)] at hx
    simpa using hx.symm
  have hblx : bl x ≤ w := lt_bl.mpr hxlt
  have hbits : FN T "bits" 0 [.row (rn [x]), .int w] (.int (bl x : Nat)) := by
    have := bits_ok (T := T) (a := x) hw (by lia) (Nat.lt_of_lt_of_le hxlt (Nat.pow_le_pow_right (by decide) (by lia)))
    unfold R at this
    rwa [dig_one hx0 hxlt] at this
  -- the shift
  obtain ⟨s, hs⟩ : ∃ s, s = w - bl x := ⟨_, rfl⟩
  have hs20 : s ≤ 20 := by lia
  have h2s : 2 ^ s ≤ 2 ^ 20 := Nat.pow_le_pow_right (by decide) hs20
  have h2s0 : 0 < 2 ^ s := Nat.pow_pos (by decide)
  have hxs : (x + 1) * 2 ^ s ≤ 2 ^ w := by
    have := lt_bl.mp (Nat.le_refl (bl x))
    rw [show w = bl x + s by lia, Nat.pow_add]
    exact Nat.mul_le_mul_right _ this
  have hVlt : b * 2 ^ s < (2 ^ w) ^ (dig (2 ^ w) b).length := by
    have sp := pv_split (B := 2 ^ w) (dig (2 ^ w) b) ((dig (2 ^ w) b).length - 1)
    have t := pv_lt (db.take ((dig (2 ^ w) b).length - 1))
    rw [List.length_take, Nat.min_eq_left (by lia)] at t
    rw [pv_drop_step _ (by lia), ← hx, List.drop_of_length_le (by lia), pv_nil, Nat.mul_zero, Nat.add_zero, pb] at sp
    have h1 : b < (2 ^ w) ^ ((dig (2 ^ w) b).length - 1) * (x + 1) := by rw [Nat.mul_add, Nat.mul_one]; lia
    have h2 : b * 2 ^ s < (2 ^ w) ^ ((dig (2 ^ w) b).length - 1) * (x + 1) * 2 ^ s := Nat.mul_lt_mul_of_pos_right h1 h2s0
    refine Nat.lt_of_lt_of_le h2 ?_
    rw [Nat.mul_assoc]
    refine Nat.le_trans (Nat.mul_le_mul_left _ hxs) ?_
    rw [← Nat.pow_succ]
    exact Nat.pow_le_pow_right hB0 (by lia)
  have hVge : (2 ^ w) ^ ((dig (2 ^ w) b).length - 1) ≤ b * 2 ^ s := Nat.le_trans (dig_ge_len hB (by lia)) (Nat.le_mul_of_pos_right _ h2s0)
  have hVlen : (dig (2 ^ w) (b * 2 ^ s)).length = (dig (2 ^ w) b).length := by
    have h1 := dig_len_le hB hVlt
    have h2 := len_mono hB (Nat.le_mul_of_pos_right b h2s0)
    lia
  have ha2 : a * 2 ^ s < (2 ^ w) ^ ((dig (2 ^ w) a).length + 1) := by
    have := dig_lt_len hB (Nat.le_refl (dig (2 ^ w) a).length)
    rw [Nat.pow_succ]
    exact Nat.mul_lt_mul_of_lt_of_le this (Nat.pow_le_pow_right (by decide) (by lia)) hB0
  have hla2 := dig_len_le hB ha2
  have hsl1 := shift_left_ok (T := T) (n := s) hw (by lia) sb (by lia)
  have hsl2 := shift_left_ok (T := T) (n := s) hw (by lia) sa (by lia)
  have sr : Sm (a % b * 2 ^ s) := by
    have := Nat.mod_lt a h0
    have h1 : a % b * 2 ^ s ≤ 2 ^ 150 * 2 ^ 20 := Nat.mul_le_mul (by lia) h2s
    exact Nat.lt_of_le_of_lt h1 (by decide)
  have hsr := shift_right_ok (T := T) (n := s) hw (by lia) sr (by lia)
  rw [Nat.mul_div_cancel _ h2s0] at hsr
  -- the long division
  have dV := dig_Dig (B := 2 ^ w) (b * 2 ^ s)
  have nV := dig_Nrm (B := 2 ^ w) (b * 2 ^ s)
  have pV := pv_dig hB (b * 2 ^ s)
  have dA := dig_Dig (B := 2 ^ w) (a * 2 ^ s)
  have pA := pv_dig hB (a * 2 ^ s)
  have hrl : (dig (2 ^ w) (a * 2 ^ s) ++ List.replicate ((dig (2 ^ w) a).length + 1 - (dig (2 ^ w) (a * 2 ^ s)).length) 0).length = (dig (2 ^ w) a).length + 1 := by
    rw [List.length_append, List.length_replicate]; omega
  have hrd : Dig (2 ^ w) (dig (2 ^ w) (a * 2 ^ s) ++ List.replicate ((dig (2 ^ w) a).length + 1 - (dig (2 ^ w) (a * 2 ^ s)).length) 0) := dA.append (Dig.replicate hB0)
  have hrp : pv (2 ^ w) (dig (2 ^ w) (a * 2 ^ s) ++ List.replicate ((dig (2 ^ w) a).length + 1 - (dig (2 ^ w) (a * 2 ^ s)).length) 0) = a * 2 ^ s := by
    rw [pv_append, pv_replicate, pA, Nat.mul_zero, Nat.add_zero]
  have hqv : a * 2 ^ s / (b * 2 ^ s) = a / b := Nat.mul_div_mul_right _ _ h2s0
  have hrv : a * 2 ^ s % (b * 2 ^ s) = a % b * 2 ^ s := Nat.mul_mod_mul_right ..
  have hab2 : 2 ≤ (dig (2 ^ w) b).length → a < (2 ^ w) ^ ((dig (2 ^ w) a).length + 1 - (dig (2 ^ w) b).length) * b := fun h2 => by
    have h1 := dig_lt_len hB (Nat.le_refl (dig (2 ^ w) a).length)
    have h3 := dig_ge_len hB (show b ≠ 0 by lia)
    refine Nat.lt_of_lt_of_le h1 (Nat.le_trans ?_ (Nat.mul_le_mul_left _ h3))
    rw [← Nat.pow_add]
    exact Nat.pow_le_pow_right hB0 (by lia)
  have hdiv : 2 ≤ (dig (2 ^ w) b).length → b ≤ a → FNm T "divide_rows" 1 (rn (dig (2 ^ w) (a * 2 ^ s) ++ List.replicate ((dig (2 ^ w) a).length + 1 - (dig (2 ^ w) (a * 2 ^ s)).length) 0)) [R w (b * 2 ^ s), .int w]
      (rn (digL (2 ^ w) (a % b * 2 ^ s) ((dig (2 ^ w) a).length + 1))) (.row (rn (digL (2 ^ w) (a / b) ((dig (2 ^ w) a).length + 1 - (dig (2 ^ w) b).length)))) := fun h2 hab => by
    have hm := len_mono hB hab
    have := divide_rows_ok (T := T) hw hw' hrd dV (by rw [hVlen]; exact h2) (by rw [hVlen, hrl]; lia) (by rw [hrl]; lia) (fun q => by
      refine nV ?_
      rw [List.getLast?_eq_getElem?, List.getElem?_eq_getElem (by lia)]
      rw [List.getD_eq_getElem?_getD, List.getElem?_eq_getElem (by lia)] at q
      simpa using q) (by
      rw [hrp, hrl, pV, hVlen]
      rw [← Nat.mul_assoc]
      exact Nat.mul_lt_mul_of_pos_right (hab2 h2) h2s0)
    rw [hrp, hrl, pV, hVlen, hqv, hrv] at this
    exact this
  have hql : 2 ≤ (dig (2 ^ w) b).length → a / b < (2 ^ w) ^ ((dig (2 ^ w) a).length + 1 - (dig (2 ^ w) b).length) := fun h2 => by
    rw [Nat.div_lt_iff_lt_mul h0]; exact hab2 h2
  have hrl2 : a % b * 2 ^ s < (2 ^ w) ^ ((dig (2 ^ w) a).length + 1) := Nat.lt_of_le_of_lt (Nat.mul_le_mul_right _ (Nat.mod_le a b)) ha2
  have hno1 : 2 ≤ (dig (2 ^ w) b).length → FN T "normal" 0 [.row (rn (digL (2 ^ w) (a / b) ((dig (2 ^ w) a).length + 1 - (dig (2 ^ w) b).length)))] (R w (a / b)) := fun h2 => by
    have z := normal_ok (T := T) hw (digL_Dig (B := 2 ^ w) hB0 ((dig (2 ^ w) a).length + 1 - (dig (2 ^ w) b).length) (a / b)) (by rw [digL_length]; lia)
    rw [digL_pv hB0 _ _ (hql h2)] at z
    exact z
  have hno2 := normal_ok (T := T) hw (digL_Dig (B := 2 ^ w) hB0 ((dig (2 ^ w) a).length + 1) (a % b * 2 ^ s)) (by rw [digL_length]; lia)
  rw [digL_pv hB0 _ _ hrl2] at hno2
  refine FN.of (d := dAt 46) ["a", "b", "w"] (dAt_mem rfl) (fun pm code doc vs hv => ?_) rfl (by decide) (by decide) (by decide) rfl rfl rfl fun C hC => ?_
  · revert vs; refine lens3 ?_ rfl; intros; rfl
  · show EX _ _ [("a", .val (.row (rn (dig (2 ^ w) a)))), ("b", .val (.row (rn (dig (2 ^ w) b)))), ("w", .val (.int w))] _ _
    refine EX.ite (b := decide (((dig (2 ^ w) b).length : Int) = 0)) (by walk_at "et") (fun h => ?_) fun h => EX.thenEnd ?_
    · simp only [decide_eq_true_eq] at h; lia
    unfold R at *
    refine EX.ite (b := decide (cmpI a b < 0)) (by walk_at "et") (fun h => ?_) fun h => EX.thenEnd ?_
    · rw [cmpI_lt, decide_eq_true_eq] at h
      walk_at "ret"
      rw [Nat.div_eq_of_lt h, Nat.mod_eq_of_lt h, dig_zero]; rfl
    · rw [cmpI_lt, decide_eq_false_iff_not] at h
      have hab : b ≤ a := by lia
      clear hcmp
      refine EX.ite (b := decide (((dig (2 ^ w) b).length : Int) = 1)) (by walk_at "et") (fun h => ?_) fun h => EX.thenEnd ?_
      · have hsm := hsmall (hlen1 (by simp only [decide_eq_true_eq] at h; lia))
        walk_at "ret"
        rfl
      · simp only [decide_eq_false_iff_not] at h
        have h2 : 2 ≤ (dig (2 ^ w) b).length := by lia
        have hdiv := hdiv h2 hab
        have hno1 := hno1 h2
        rw [hx] at hbits
        walk_at "st"
        rw [← hx]
        refine EX.sub (ρ' := [("shift", .val (.int (s : Nat))), ("a", .val (.row (rn (dig (2 ^ w) a)))), ("b", .val (.row (rn (dig (2 ^ w) b)))), ("w", .val (.int w))]) (by walk_at "sub") ?_
        walk_at "st"
        walk_at "st"
        walk_at "st arr"
        refine EX.pin (x := "rest") rfl fun ad => ?_
        walk_at "stm"
        refine EX.unpin (x := "rest") rfl ?_
        refine EX.freeze (x := "rest") rfl (.inr rfl) ?_
        walk_at "ret"
        rfl
end
section
variable {T : Tp} {C : Cx T} {ρ : Loc}
theorem R_zero {w : Nat} : R w 0 = .row [] := by unfold R; rw [dig_zero]; rfl
theorem R_one {w : Nat} (hw : 1 ≤ w) : R w 1 = .row [1] := by
  unfold R
  have := two_le_pow hw
  rw [dig_one (by decide) (by lia)]; rfl
theorem lo_sm {x : Nat} (h : x ≤ 2 ^ 30) : Sm x := Nat.lt_of_le_of_lt h (by decide)
theorem lo_mul {x y : Nat} (h : x ≤ 2 ^ 30) (k : y ≤ 2 ^ 30) : Sm (x * y) := Nat.lt_of_le_of_lt (Nat.mul_le_mul h k) (by decide)
theorem lo_mul' {x y : Nat} (h : x ≤ 2 ^ 30) (k : y ≤ 2 ^ 30) : x * y ≤ 2 ^ 60 := Nat.le_trans (Nat.mul_le_mul h k) (by decide)
theorem lo_150 {x : Nat} (h : x ≤ 2 ^ 30) : x < 2 ^ 150 := Nat.lt_of_le_of_lt h (by decide)
theorem sm_61 {x : Nat} (h : x ≤ 2 ^ 63) : Sm x := Nat.lt_of_le_of_lt h (by decide)

noncomputable abbrev MV (w m n p q : Nat) : V := .tup [R w m, R w n, R w p, R w q]
theorem matrix_mul_ok {w m n p q c d e f : Nat} (hw : 1 ≤ w) (hw' : w ≤ 20) (hm : m ≤ 2 ^ 30) (hn : n ≤ 2 ^ 30) (hp : p ≤ 2 ^ 30) (hq : q ≤ 2 ^ 30) (hc : c ≤ 2 ^ 30) (hd : d ≤ 2 ^ 30) (he : e ≤ 2 ^ 30) (hf : f ≤ 2 ^ 30) :
    FN T "matrix_mul" 2 [MV w m n p q, MV w c d e f, .int w, .fn "mul_school"] (MV w (m * c + n * e) (m * d + n * f) (p * c + q * e) (p * d + q * f)) := by
  have mu : ∀ {x y : Nat}, x ≤ 2 ^ 30 → y ≤ 2 ^ 30 → FN T "mul_school" 1 [R w x, R w y, .int w] (R w (x * y)) := fun h k => mul_school_ok hw (by lia) (lo_sm h) (lo_sm k)
  have ad : ∀ {x y z v : Nat}, x ≤ 2 ^ 30 → y ≤ 2 ^ 30 → z ≤ 2 ^ 30 → v ≤ 2 ^ 30 → FN T "add" 0 [R w (x * y), R w (z * v), .int w] (R w (x * y + z * v)) := fun h k l j => add_ok hw (by lia) (lo_mul h k) (lo_mul l j)
  have m1 := mu hm hc
  have m2 := mu hn he
  have m3 := mu hm hd
  have m4 := mu hn hf
  have m5 := mu hp hc
  have m6 := mu hq he
  have m7 := mu hp hd
  have m8 := mu hq hf
  have a1 := ad hm hc hn he
  have a2 := ad hm hd hn hf
  have a3 := ad hp hc hq he
  have a4 := ad hp hd hq hf
  clear mu ad
  refine FN.of (d := dAt 17) ["one", "other", "w", "mul"] (dAt_mem rfl) (fun pm code doc vs hv => ?_) rfl (by decide) (by decide) (by decide) rfl rfl rfl fun C hC => ?_
  · revert vs; refine lens4 ?_ rfl; intros; rfl
  · unfold MV
    show EX _ _ [("one", .val (.tup [R w m, R w n, R w p, R w q])), ("other", .val (.tup [R w c, R w d, R w e, R w f])), ("w", .val (.int w)), ("mul", .val (.fn "mul_school"))] _ _
    walk_at "st"
    walk_at "st"
    walk_at "ret"
    rfl

theorem led_back_ok {w m n p q a b c d pl : Nat} (hw : 1 ≤ w) (hw' : w ≤ 20) (hm : m ≤ 2 ^ 30) (hn : n ≤ 2 ^ 30) (hp : p ≤ 2 ^ 30) (hq : q ≤ 2 ^ 30) (ha : a ≤ 2 ^ 30) (hb : b ≤ 2 ^ 30) (hc : c ≤ 2 ^ 30) (hd : d ≤ 2 ^ 30) (hpl : pl ≤ 30)
    (h1 : n * b ≤ c * 2 ^ pl + q * a) (h2 : p * a ≤ d * 2 ^ pl + m * b) :
    FN T "led_back" 2 [MV w m n p q, R w a, R w b, .int pl, .tup [R w c, R w d], .int w, .fn "mul_school"] (.tup [R w (c * 2 ^ pl + q * a - n * b), R w (d * 2 ^ pl + m * b - p * a)]) := by
  have mu : ∀ {x y : Nat}, x ≤ 2 ^ 30 → y ≤ 2 ^ 30 → FN T "mul_school" 1 [R w x, R w y, .int w] (R w (x * y)) := fun h k => mul_school_ok hw (by lia) (lo_sm h) (lo_sm k)
  have hpw : 2 ^ pl ≤ 2 ^ 30 := Nat.pow_le_pow_right (by decide) hpl
  have m1 := mu hq ha
  have m2 := mu hn hb
  have m3 := mu hm hb
  have m4 := mu hp ha
  have s1 := shift_left_ok (T := T) (n := pl) hw (by lia) (lo_sm hc) (by lia)
  have s2 := shift_left_ok (T := T) (n := pl) hw (by lia) (lo_sm hd) (by lia)
  have a1 := add_ok (T := T) hw (by lia) (lo_mul hc hpw) (lo_mul hq ha)
  have a2 := add_ok (T := T) hw (by lia) (lo_mul hd hpw) (lo_mul hm hb)
  have t1 := sub_ok (T := T) (w := w) hw (by lia) (sm_61 (by have := lo_mul' hc hpw; have := lo_mul' hq ha; lia)) h1
  have t2 := sub_ok (T := T) (w := w) hw (by lia) (sm_61 (by have := lo_mul' hd hpw; have := lo_mul' hm hb; lia)) h2
  refine FN.of (d := dAt 18) ["matrix", "a", "b", "place", "high", "w", "mul"] (dAt_mem rfl) (fun pm code doc vs hv => ?_) rfl (by decide) (by decide) (by decide) rfl rfl rfl fun C hC => ?_
  · revert vs; refine lens7 ?_ rfl; intros; rfl
  · unfold MV
    show EX _ _ [("matrix", .val (.tup [R w m, R w n, R w p, R w q])), ("a", .val (R w a)), ("b", .val (R w b)), ("place", .val (.int pl)), ("high", .val (.tup [R w c, R w d])), ("w", .val (.int w)), ("mul", .val (.fn "mul_school"))] _ _
    walk_at "st"
    walk_at "st"
    walk_at "ret"
    rfl

/-- a step's quotient and rest -/
noncomputable def gq (a b size : Nat) : Nat := if bl (a % b) ≤ size then a / b - 1 else a / b
noncomputable def gr (a b size : Nat) : Nat := if bl (a % b) ≤ size then a % b + b else a % b
theorem great_step_ok {w a b size : Nat} (hw : 1 ≤ w) (hw' : w ≤ 20) (ha : a ≤ 2 ^ 30) (hb : b ≤ 2 ^ 30) (h0 : 0 < b) (hq : bl (a % b) ≤ size → b ≤ a) :
    FN T "great_step" 4 [R w a, R w b, .int size, .int w, .fn "divrem_school"] (.tup [R w (gq a b size), R w (gr a b size)]) := by
  have dv := divrem_school_ok (T := T) hw hw' (lo_150 ha) h0 (lo_150 hb)
  have hr : a % b ≤ 2 ^ 30 := Nat.le_trans (Nat.le_of_lt (Nat.mod_lt _ h0)) hb
  have hqq : a / b ≤ 2 ^ 30 := Nat.le_trans (Nat.div_le_self ..) ha
  have bt := bits_ok (T := T) hw (by lia) (lo_sm hr)
  have sb := fun h => sub_ok (T := T) (b := 1) hw (by lia) (lo_sm hqq) h
  have ad := add_ok (T := T) hw (by lia) (lo_sm hr) (lo_sm hb)
  refine FN.of (d := dAt 19) ["a", "b", "size", "w", "divrem"] (dAt_mem rfl) (fun pm code doc vs hv => ?_) rfl (by decide) (by decide) (by decide) rfl rfl rfl fun C hC => ?_
  · revert vs; refine lens5 ?_ rfl; intros; rfl
  · show EX _ _ [("a", .val (R w a)), ("b", .val (R w b)), ("size", .val (.int size)), ("w", .val (.int w)), ("divrem", .val (.fn "divrem_school"))] _ _
    walk_at "st"
    refine EX.join [("quotient", .val (R w (gq a b size))), ("rest", .val (R w (gr a b size)))] (b := decide ((bl (a % b) : Int) ≤ size)) (by walk_at "et") ?_ ?_ ?_
    · intro h
      have h : bl (a % b) ≤ size := by simpa using h
      have sb := sb (by rw [Nat.le_div_iff_mul_le h0, Nat.one_mul]; exact hq h)
      rw [R_one hw] at sb
      walk_at "st"
      rw [gq, gr, if_pos h, if_pos h]
      exact EX.nextIs (by walk_at "sub")
    · intro h
      have h : ¬ bl (a % b) ≤ size := by simpa using h
      rw [gq, gr, if_neg h, if_neg h]
      exact EX.nextIs (by walk_at "sub")
    · walk_at "ret"
      rfl

noncomputable abbrev SV (w m n p q a b : Nat) : V := .tup [.tup [R w m, R w n, R w p, R w q], R w a, R w b]
theorem one_step_gt {w m n p q a b size : Nat} (hw : 1 ≤ w) (hw' : w ≤ 20) (hm : m ≤ 2 ^ 30) (hn : n ≤ 2 ^ 30) (hp : p ≤ 2 ^ 30) (hq : q ≤ 2 ^ 30) (ha : a ≤ 2 ^ 30) (hb : 0 < b) (hab : b < a) :
    FN T "one_step" 5 [SV w m n p q a b, .int size, .int w, .fn "mul_school", .fn "divrem_school"] (SV w m (m * gq a b size + n) p (p * gq a b size + q) (gr a b size) b) := by
  have cm := compare_ok (T := T) hw (lo_sm ha) (lo_sm (show b ≤ 2 ^ 30 by lia))
  have gs := great_step_ok (T := T) (size := size) hw hw' ha (show b ≤ 2 ^ 30 by lia) hb (fun _ => by lia)
  have gb : gq a b size ≤ 2 ^ 30 := by
    have := Nat.div_le_self a b
    unfold gq; split <;> lia
  have mm := matrix_mul_ok (T := T) (c := 1) (e := 0) (f := 1) hw hw' hm hn hp hq (by decide) gb (by decide) (by decide)
  simp only [Nat.mul_one, Nat.mul_zero, Nat.add_zero] at mm
  unfold MV at mm
  rw [R_one hw, R_zero] at mm
  refine FN.of (d := dAt 20) ["state", "size", "w", "mul", "divrem"] (dAt_mem rfl) (fun pm code doc vs hv => ?_) rfl (by decide) (by decide) (by decide) rfl rfl rfl fun C hC => ?_
  · revert vs; refine lens5 ?_ rfl; intros; rfl
  · unfold SV
    show EX _ _ [("state", .val (.tup [.tup [R w m, R w n, R w p, R w q], R w a, R w b])), ("size", .val (.int size)), ("w", .val (.int w)), ("mul", .val (.fn "mul_school")), ("divrem", .val (.fn "divrem_school"))] _ _
    walk_at "st"
    refine EX.iteT (b := decide (0 < cmpI a b)) (by walk_at "et") (by rw [cmpI_gt]; simpa using hab) ?_
    walk_at "st"
    walk_at "ret"
    rfl
theorem one_step_le {w m n p q a b size : Nat} (hw : 1 ≤ w) (hw' : w ≤ 20) (hm : m ≤ 2 ^ 30) (hn : n ≤ 2 ^ 30) (hp : p ≤ 2 ^ 30) (hq : q ≤ 2 ^ 30) (hb : b ≤ 2 ^ 30) (ha : 0 < a) (hab : a ≤ b) :
    FN T "one_step" 5 [SV w m n p q a b, .int size, .int w, .fn "mul_school", .fn "divrem_school"] (SV w (m + n * gq b a size) n (p + q * gq b a size) q a (gr b a size)) := by
  have cm := compare_ok (T := T) hw (lo_sm (show a ≤ 2 ^ 30 by lia)) (lo_sm hb)
  have gs := great_step_ok (T := T) (size := size) hw hw' hb (show a ≤ 2 ^ 30 by lia) ha (fun _ => by lia)
  have gb : gq b a size ≤ 2 ^ 30 := by
    have := Nat.div_le_self b a
    unfold gq; split <;> lia
  have mm := matrix_mul_ok (T := T) (c := 1) (d := 0) (f := 1) hw hw' hm hn hp hq (by decide) (by decide) gb (by decide)
  simp only [Nat.mul_one, Nat.mul_zero, Nat.zero_add] at mm
  unfold MV at mm
  rw [R_one hw, R_zero] at mm
  refine FN.of (d := dAt 20) ["state", "size", "w", "mul", "divrem"] (dAt_mem rfl) (fun pm code doc vs hv => ?_) rfl (by decide) (by decide) (by decide) rfl rfl rfl fun C hC => ?_
  · revert vs; refine lens5 ?_ rfl; intros; rfl
  · unfold SV
    show EX _ _ [("state", .val (.tup [.tup [R w m, R w n, R w p, R w q], R w a, R w b])), ("size", .val (.int size)), ("w", .val (.int w)), ("mul", .val (.fn "mul_school")), ("divrem", .val (.fn "divrem_school"))] _ _
    walk_at "st"
    refine EX.iteF (b := decide (0 < cmpI a b)) (by walk_at "et") (by rw [cmpI_gt]; simp; lia) (EX.thenEnd ?_)
    walk_at "st"
    walk_at "ret"
    rfl

/-- how far apart -/
noncomputable def far (a b : Nat) : Nat := if b < a then a - b else b - a
theorem difference_bits_ok {w a b : Nat} (hw : 1 ≤ w) (hw' : w ≤ 20) (ha : a ≤ 2 ^ 30) (hb : b ≤ 2 ^ 30) : FN T "difference_bits" 2 [R w a, R w b, .int w] (.int (bl (far a b) : Nat)) := by
  have cm := compare_ok (T := T) hw (lo_sm ha) (lo_sm hb)
  have bt := bits_ok (T := T) (a := far a b) hw (by lia) (lo_sm (by unfold far; split <;> lia))
  unfold far at bt ⊢
  refine FN.of (d := dAt 21) ["a", "b", "w"] (dAt_mem rfl) (fun pm code doc vs hv => ?_) rfl (by decide) (by decide) (by decide) rfl rfl rfl fun C hC => ?_
  · revert vs; refine lens3 ?_ rfl; intros; rfl
  · show EX _ _ [("a", .val (R w a)), ("b", .val (R w b)), ("w", .val (.int w))] _ _
    by_cases h : b < a
    · have hc : decide (0 < cmpI a b) = true := by rw [cmpI_gt]; simpa using h
      have sb := sub_ok (T := T) (w := w) hw (by lia) (lo_sm ha) (show b ≤ a by lia)
      rw [if_pos h] at bt ⊢
      walk_at "ret"
      rfl
    · have hc : decide (0 < cmpI a b) = false := by rw [cmpI_gt]; simpa using h
      have sb := sub_ok (T := T) (w := w) hw (by lia) (lo_sm hb) (show a ≤ b by lia)
      rw [if_neg h] at bt ⊢
      walk_at "ret"
      rfl
theorem least_bits_ok {w a b : Nat} (hw : 1 ≤ w) (hw' : w ≤ 20) (ha : a ≤ 2 ^ 30) (hb : b ≤ 2 ^ 30) : FN T "least_bits" 1 [R w a, R w b, .int w] (.int (Min.min (bl a) (bl b) : Nat)) := by
  have b1 := bits_ok (T := T) hw (by lia) (lo_sm ha)
  have b2 := bits_ok (T := T) hw (by lia) (lo_sm hb)
  refine FN.of (d := dAt 22) ["a", "b", "w"] (dAt_mem rfl) (fun pm code doc vs hv => ?_) rfl (by decide) (by decide) (by decide) rfl rfl rfl fun C hC => ?_
  · revert vs; refine lens3 ?_ rfl; intros; rfl
  · show EX _ _ [("a", .val (R w a)), ("b", .val (R w b)), ("w", .val (.int w))] _ _
    walk_at "ret"
    exact vI (by lia)
theorem most_bits_ok {w a b : Nat} (hw : 1 ≤ w) (hw' : w ≤ 20) (ha : a ≤ 2 ^ 30) (hb : b ≤ 2 ^ 30) : FN T "most_bits" 1 [R w a, R w b, .int w] (.int (Max.max (bl a) (bl b) : Nat)) := by
  have b1 := bits_ok (T := T) hw (by lia) (lo_sm ha)
  have b2 := bits_ok (T := T) hw (by lia) (lo_sm hb)
  refine FN.of (d := dAt 23) ["a", "b", "w"] (dAt_mem rfl) (fun pm code doc vs hv => ?_) rfl (by decide) (by decide) (by decide) rfl rfl rfl fun C hC => ?_
  · revert vs; refine lens3 ?_ rfl; intros; rfl
  · show EX _ _ [("a", .val (R w a)), ("b", .val (R w b)), ("w", .val (.int w))] _ _
    walk_at "ret"
    exact vI (by lia)
end
section
variable {T : Tp} {C : Cx T} {ρ : Loc}
theorem bl_shift {a k : Nat} : bl (a / 2 ^ k) = bl a - k := by
  have key : ∀ j, bl (a / 2 ^ k) ≤ j ↔ bl a ≤ j + k := fun j => by
    rw [lt_bl, lt_bl, Nat.div_lt_iff_lt_mul (Nat.pow_pos (by decide)), Nat.pow_add]
  have h1 := (key (bl (a / 2 ^ k))).mp (Nat.le_refl _)
  have h2 := (key (bl a - k)).mpr (by lia)
  lia
noncomputable def HalfOk (w A B h : Nat) (x : V) : Prop := ∃ m n p q a b, x = SV w m n p q a b ∧ HG A B m n p q a b ∧ 2 ^ h ≤ a ∧ 2 ^ h ≤ b
noncomputable def hlf (A B : Nat) : Nat := Max.max (bl A) (bl B) / 2 + 1
noncomputable def Res (w A B : Nat) (x : V) : Prop := ∃ m n p q a b, x = SV w m n p q a b ∧ HG A B m n p q a b ∧
  ((Min.min (bl A) (bl B) ≤ hlf A B ∧ m = 1 ∧ n = 0 ∧ p = 0 ∧ q = 1 ∧ a = A ∧ b = B) ∨ (hlf A B < Min.min (bl A) (bl B) ∧ 2 ^ hlf A B ≤ a ∧ 2 ^ hlf A B ≤ b ∧ bl (far a b) ≤ hlf A B))

theorem by_high_ok {w A B m n p q a b h pl r least : Nat} (hw : 1 ≤ w) (hw' : w ≤ 20) (g : HG A B m n p q a b) (hA : A ≤ 2 ^ 30) (hB : B ≤ 2 ^ 30) (ha : 2 ^ h ≤ a) (hb : 2 ^ h ≤ b) (hpl : pl ≤ 30)
    (hpp : h ≤ pl + Max.max (bl (a / 2 ^ pl)) (bl (b / 2 ^ pl)) / 2) (hr : 2 ≤ r)
    (IH : FNr T "half_gcd" r [R w (a / 2 ^ pl), R w (b / 2 ^ pl), .int w, .int least, .fn "mul_school", .fn "divrem_school"] (Res w (a / 2 ^ pl) (b / 2 ^ pl))) :
    FNr T "by_high" (r + 1) [SV w m n p q a b, .int pl, .int least, .int w, .fn "mul_school", .fn "divrem_school"] (HalfOk w A B h) := by
  have h2h : 0 < 2 ^ h := Nat.pow_pos (by decide)
  obtain ⟨hm, hn, hp, hq, haA, hbB⟩ := g.le (by lia) (by lia)
  have a30 : a ≤ 2 ^ 30 := by lia
  have b30 : b ≤ 2 ^ 30 := by lia
  have s1 := shift_right_ok (T := T) (n := pl) hw (by lia) (lo_sm a30) (by lia)
  have s2 := shift_right_ok (T := T) (n := pl) hw (by lia) (lo_sm b30) (by lia)
  have l1 := low_ok (T := T) (n := pl) hw (by lia) (lo_sm a30) (by lia)
  have l2 := low_ok (T := T) (n := pl) hw (by lia) (lo_sm b30) (by lia)
  have hP : 0 < 2 ^ pl := Nat.pow_pos (by decide)
  have ad := Nat.div_le_self a (2 ^ pl)
  have bd := Nat.div_le_self b (2 ^ pl)
  have am := Nat.mod_le a (2 ^ pl)
  have bm := Nat.mod_le b (2 ^ pl)
  have key : ∀ x, Res w (a / 2 ^ pl) (b / 2 ^ pl) x → ∃ m2 n2 p2 q2 c d, x = SV w m2 n2 p2 q2 c d ∧ m2 ≤ 2 ^ 30 ∧ n2 ≤ 2 ^ 30 ∧ p2 ≤ 2 ^ 30 ∧ q2 ≤ 2 ^ 30 ∧ c ≤ 2 ^ 30 ∧ d ≤ 2 ^ 30 ∧
      n2 * (b % 2 ^ pl) ≤ c * 2 ^ pl + q2 * (a % 2 ^ pl) ∧ p2 * (a % 2 ^ pl) ≤ d * 2 ^ pl + m2 * (b % 2 ^ pl) ∧
      HG a b m2 n2 p2 q2 (c * 2 ^ pl + q2 * (a % 2 ^ pl) - n2 * (b % 2 ^ pl)) (d * 2 ^ pl + m2 * (b % 2 ^ pl) - p2 * (a % 2 ^ pl)) ∧ 2 ^ h ≤ c * 2 ^ pl + q2 * (a % 2 ^ pl) - n2 * (b % 2 ^ pl) ∧ 2 ^ h ≤ d * 2 ^ pl + m2 * (b % 2 ^ pl) - p2 * (a % 2 ^ pl) := by
    rintro x ⟨m2, n2, p2, q2, c, d, rfl, g2, hc⟩
    rcases hc with ⟨_, rfl, rfl, rfl, rfl, rfl, rfl⟩ | ⟨hmin, hc, hd, _⟩
    · have ea : a / 2 ^ pl * 2 ^ pl + 1 * (a % 2 ^ pl) - 0 * (b % 2 ^ pl) = a := by
        have := Nat.div_add_mod a (2 ^ pl); rw [Nat.mul_comm] at this; lia
      have eb : b / 2 ^ pl * 2 ^ pl + 1 * (b % 2 ^ pl) - 0 * (a % 2 ^ pl) = b := by
        have := Nat.div_add_mod b (2 ^ pl); rw [Nat.mul_comm] at this; lia
      refine ⟨1, 0, 0, 1, _, _, rfl, by decide, by decide, by decide, by decide, by lia, by lia, by lia, by lia, ?_, ?_, ?_⟩
      · rw [ea, eb]; exact HG.id a b
      · rw [ea]; exact ha
      · rw [eb]; exact hb
    · have h2 : 0 < 2 ^ hlf (a / 2 ^ pl) (b / 2 ^ pl) := Nat.pow_pos (by decide)
      obtain ⟨i1, i2, i3, i4, i5, i6⟩ := g2.le (by lia) (by lia)
      have H := high_math (h := h) (hh := hlf (a / 2 ^ pl) (b / 2 ^ pl)) (N := Max.max (bl (a / 2 ^ pl)) (bl (b / 2 ^ pl))) g2 (lt_bl.mp (by lia)) (lt_bl.mp (by lia)) (by unfold hlf; lia) (by unfold hlf; lia) hc hd (by unfold hlf; lia)
      exact ⟨m2, n2, p2, q2, c, d, rfl, by lia, by lia, by lia, by lia, by lia, by lia, H⟩
  refine FNr.of (d := dAt 24) ["state", "place", "least", "w", "mul", "divrem"] (dAt_mem rfl) (fun pm code doc vs hv => ?_) rfl (by decide) (by decide) (by decide) rfl rfl rfl fun C hC => ?_
  · revert vs; refine lens6 ?_ rfl; intros; rfl
  · show EX _ _ [("state", .val (.tup [.tup [R w m, R w n, R w p, R w q], R w a, R w b])), ("place", .val (.int pl)), ("least", .val (.int least)), ("w", .val (.int w)), ("mul", .val (.fn "mul_school")), ("divrem", .val (.fn "divrem_school"))] _ _
    walk_at "st"
    refine EX.tupR rfl rfl (by walk_at "evr") rfl rfl fun x hx => ?_
    obtain ⟨m2, n2, p2, q2, c, d, rfl, i1, i2, i3, i4, i5, i6, j1, j2, g3, k1, k2⟩ := key x hx
    refine ⟨_, rfl, rfl, ?_⟩
    have lb := led_back_ok (T := T) hw hw' i1 i2 i3 i4 (show a % 2 ^ pl ≤ 2 ^ 30 by lia) (show b % 2 ^ pl ≤ 2 ^ 30 by lia) i5 i6 hpl j1 j2
    have mm := matrix_mul_ok (T := T) hw hw' (show m ≤ 2 ^ 30 by lia) (show n ≤ 2 ^ 30 by lia) (show p ≤ 2 ^ 30 by lia) (show q ≤ 2 ^ 30 by lia) i1 i2 i3 i4
    refine EX.sub (ρ' := [("part", .val (.tup [R w m2, R w n2, R w p2, R w q2])), ("c", .val (R w c)), ("d", .val (R w d)), ("matrix", .val (.tup [R w m, R w n, R w p, R w q])), ("a", .val (R w a)), ("b", .val (R w b)), ("place", .val (.int pl)), ("w", .val (.int w)), ("mul", .val (.fn "mul_school"))]) (by walk_at "sub") ?_
    walk_at "st"
    refine EX.retr (v := SV w (m * m2 + n * p2) (m * n2 + n * q2) (p * m2 + q * p2) (p * n2 + q * q2) (c * 2 ^ pl + q2 * (a % 2 ^ pl) - n2 * (b % 2 ^ pl)) (d * 2 ^ pl + m2 * (b % 2 ^ pl) - p2 * (a % 2 ^ pl))) ?_ ?_
    · walk_at "ev"
    · exact ⟨_, _, _, _, _, _, rfl, g.mul g3, k1, k2⟩
end
section
variable {T : Tp} {C : Cx T} {ρ : Loc}
theorem gstep {a b h : Nat} (hb : 2 ^ h ≤ b) (hab : 2 ^ h ≤ a - b) : a = gq a b h * b + gr a b h ∧ 2 ^ h ≤ gr a b h ∧ gr a b h < a := by
  have h0 : 0 < 2 ^ h := Nat.pow_pos (by decide)
  have dm := Nat.div_add_mod a b
  have ml := Nat.mod_lt a (show b > 0 by lia)
  have hq : 1 ≤ a / b := by rw [Nat.le_div_iff_mul_le (by lia)]; omega
  unfold gq gr
  by_cases c : bl (a % b) ≤ h
  · rw [if_pos c, if_pos c]
    have c' := lt_bl.mp c
    have h2 : 2 ≤ a / b := by
      rcases Nat.lt_or_ge (a / b) 2 with q | q
      · have : a / b = 1 := by lia
        rw [this, Nat.mul_one] at dm; omega
      · exact q
    obtain ⟨k, hk⟩ : ∃ k, a / b = k + 2 := ⟨a / b - 2, by lia⟩
    rw [hk] at dm ⊢
    have e : b * (k + 2) = (k + 2 - 1) * b + b := by rw [show k + 2 - 1 = k + 1 by lia, Nat.mul_comm, ← Nat.succ_mul]
    have e2 : b ≤ (k + 2 - 1) * b := Nat.le_mul_of_pos_left _ (by lia)
    lia
  · rw [if_neg c, if_neg c]
    have c' : 2 ^ h ≤ a % b := le_bl.mp (by lia)
    rw [Nat.mul_comm] at dm
    exact ⟨by lia, c', by omega⟩

theorem step_ok {w A B m n p q a b h : Nat} (hw : 1 ≤ w) (hw' : w ≤ 20) (g : HG A B m n p q a b) (hA : A ≤ 2 ^ 30) (hB : B ≤ 2 ^ 30) (ha : 2 ^ h ≤ a) (hb : 2 ^ h ≤ b) (hf : h < bl (far a b)) :
    ∃ m' n' p' q' a' b', HG A B m' n' p' q' a' b' ∧ 2 ^ h ≤ a' ∧ 2 ^ h ≤ b' ∧ a' + b' < a + b ∧
      FN T "one_step" 5 [SV w m n p q a b, .int h, .int w, .fn "mul_school", .fn "divrem_school"] (SV w m' n' p' q' a' b') := by
  have h2h : 0 < 2 ^ h := Nat.pow_pos (by decide)
  obtain ⟨hm, hn, hp, hq, haA, hbB⟩ := g.le (by lia) (by lia)
  have hf' := le_bl.mp hf
  unfold far at hf'
  by_cases c : b < a
  · rw [if_pos c] at hf'
    obtain ⟨e1, e2, e3⟩ := gstep hb hf'
    exact ⟨_, _, _, _, _, _, g.gt e1, e2, hb, by lia, one_step_gt hw hw' (by lia) (by lia) (by lia) (by lia) (by lia) (by lia) c⟩
  · rw [if_neg c] at hf'
    obtain ⟨e1, e2, e3⟩ := gstep ha hf'
    exact ⟨_, _, _, _, _, _, g.lt e1, ha, e2, by lia, one_step_le hw hw' (by lia) (by lia) (by lia) (by lia) (by lia) (by lia) (by lia)⟩

theorem pl1 {N h x y : Nat} (hN : Max.max x y = N) (hh : h = N / 2 + 1) (hb : h < Min.min x y) : N - N / 2 < N ∧ h ≤ N / 2 + (N - N / 2) / 2 := by omega
theorem pl2 {N n h x y x' y' : Nat} (hN : Max.max x y = N) (hn : n = Max.max x' y') (ma : x' ≤ x) (mb : y' ≤ y) (hh : h = N / 2 + 1) (hm : h + 2 < Min.min x' y') (bA : x ≤ 31) (bB : y ≤ 31) :
    n - (2 * h - n + 1) < N ∧ 2 * h - n + 1 ≤ 30 ∧ h ≤ (2 * h - n + 1) + (n - (2 * h - n + 1)) / 2 := by
  have h1 : n ≤ N := by rw [hn, ← hN]; exact Nat.max_le.mpr ⟨Nat.le_trans ma (Nat.le_max_left ..), Nat.le_trans mb (Nat.le_max_right ..)⟩
  have h2 : h + 2 < n := by rw [hn]; exact Nat.lt_of_lt_of_le hm (Nat.le_trans (Nat.min_le_left ..) (Nat.le_max_left ..))
  have h3 : N ≤ 31 := by rw [← hN]; exact Nat.max_le.mpr ⟨bA, bB⟩
  clear hN hn ma mb hm bA bB
  exact ⟨by lia, by lia, by lia⟩

theorem half_gcd_ok {w least : Nat} (hw : 1 ≤ w) (hw' : w ≤ 20) : ∀ N A B, Max.max (bl A) (bl B) = N → A ≤ 2 ^ 30 → B ≤ 2 ^ 30 →
    FNr T "half_gcd" (2 * N + 10) [R w A, R w B, .int w, .int least, .fn "mul_school", .fn "divrem_school"] (Res w A B) := by
  intro N
  induction N using Nat.strongRecOn with
  | ind N ih =>
  intro A B hN hA hB
  have mb := most_bits_ok (T := T) hw hw' hA hB
  have lb := least_bits_ok (T := T) hw hw' hA hB
  have blA : bl A ≤ 31 := lt_bl.mpr (Nat.lt_of_le_of_lt hA (by decide))
  have blB : bl B ≤ 31 := lt_bl.mpr (Nat.lt_of_le_of_lt hB (by decide))
  have hh : hlf A B = N / 2 + 1 := by unfold hlf; rw [hN]
  rw [hN] at mb
  refine FNr.of (d := dAt 25) ["a", "b", "w", "least", "mul", "divrem"] (dAt_mem rfl) (fun pm code doc vs hv => ?_) rfl (by decide) (by decide) (by decide) rfl rfl rfl fun C hC => ?_
  · revert vs; refine lens6 ?_ rfl; intros; rfl
  · show EX _ _ [("a", .val (R w A)), ("b", .val (R w B)), ("w", .val (.int w)), ("least", .val (.int least)), ("mul", .val (.fn "mul_school")), ("divrem", .val (.fn "divrem_school"))] _ _
    walk_at "st"
    walk_at "st"
    rw [← hh]
    walk_at "st"
    refine EX.sub (ρ' := [("state", .val (SV w 1 0 0 1 A B)), ("half", .val (.int (hlf A B : Nat))), ("size", .val (.int (N : Nat))), ("a", .val (R w A)), ("b", .val (R w B)), ("w", .val (.int w)), ("least", .val (.int least)), ("mul", .val (.fn "mul_school")), ("divrem", .val (.fn "divrem_school"))]) (by
      unfold SV
      rw [R_one hw, R_zero]
      walk_at "sub") ?_
    refine EX.ite (b := decide (((Min.min (bl A) (bl B) : Nat) : Int) ≤ (hlf A B : Nat))) (by walk_at "et") (fun hb => ?_) fun hb => EX.thenEnd ?_
    · have hb : Min.min (bl A) (bl B) ≤ hlf A B := by simp only [decide_eq_true_eq] at hb; lia
      refine EX.ret (v := SV w 1 0 0 1 A B) (by walk_at "ev") ⟨_, ⟨1, 0, 0, 1, A, B, rfl, HG.id A B, .inl ⟨hb, rfl, rfl, rfl, rfl, rfl, rfl⟩⟩, _, .inl rfl⟩
    have hb : hlf A B < Min.min (bl A) (bl B) := by simp only [decide_eq_false_iff_not] at hb; lia
    have h2h : 0 < 2 ^ hlf A B := Nat.pow_pos (by decide)
    have hA2 : 2 ^ hlf A B ≤ A := le_bl.mp (by lia)
    have hB2 : 2 ^ hlf A B ≤ B := le_bl.mp (by lia)
    -- the state's form
    obtain ⟨Sρ, hSρ⟩ : ∃ Sρ : Nat → Nat → Nat → Nat → Nat → Nat → Loc, Sρ = fun m n p q a b => ([("state", .val (SV w m n p q a b)), ("half", .val (.int (hlf A B : Nat))), ("size", .val (.int (N : Nat))), ("w", .val (.int w)), ("least", .val (.int least)), ("mul", .val (.fn "mul_school")), ("divrem", .val (.fn "divrem_school"))] : Loc) := ⟨_, rfl⟩
    obtain ⟨P, hP⟩ : ∃ P : Loc → Prop, P = fun ρ' => ∃ m n p q a b, HG A B m n p q a b ∧ 2 ^ hlf A B ≤ a ∧ 2 ^ hlf A B ≤ b ∧ ρ' = Sρ m n p q a b := ⟨_, rfl⟩
    refine EX.joinP P (b := decide ((least : Int) ≤ (N : Nat)) && (decide (((3 * N / 4 + 2 : Nat) : Int) < (Min.min (bl A) (bl B) : Nat)) && true)) (by walk_at "et") (fun hb' => ?_) (fun hb' => ?_) ?_
    · obtain ⟨q1, q3⟩ := pl1 hN hh hb
      have N2 : N / 2 < N := by lia
      have e1 : Max.max (bl (A / 2 ^ (N / 2))) (bl (B / 2 ^ (N / 2))) = N - N / 2 := by rw [bl_shift, bl_shift, Nat.sub_max_sub_right, hN]
      have IH := ih (N - N / 2) q1 (A / 2 ^ (N / 2)) (B / 2 ^ (N / 2)) e1 (Nat.le_trans (Nat.div_le_self ..) hA) (Nat.le_trans (Nat.div_le_self ..) hB)
      have bh := by_high_ok (h := hlf A B) hw hw' (HG.id A B) hA hB hA2 hB2 (show N / 2 ≤ 30 by lia) (by rw [e1]; exact q3) (by lia) IH
      refine EX.assignR (by walk_at "evr") rfl rfl fun x hx => ?_
      obtain ⟨m, n, p, q, a, b, rfl, g, i1, i2⟩ := hx
      refine EX.nextP (Sρ m n p q a b) ?_ (by rw [hP]; exact ⟨m, n, p, q, a, b, g, i1, i2, rfl⟩)
      rw [hSρ]
      walk_at "sub"
    · refine EX.nextP (Sρ 1 0 0 1 A B) ?_ (by rw [hP]; exact ⟨_, _, _, _, _, _, HG.id A B, hA2, hB2, rfl⟩)
      rw [hSρ]
      walk_at "sub"
    · rw [hP]
      rintro _ ⟨m, n, p, q, a, b, g, i1, i2, rfl⟩
      refine EX.while (fun k ρ' => ∃ m n p q a b, HG A B m n p q a b ∧ 2 ^ hlf A B ≤ a ∧ 2 ^ hlf A B ≤ b ∧ a + b ≤ k ∧ ρ' = Sρ m n p q a b) (a + b) ⟨_, _, _, _, _, _, g, i1, i2, Nat.le_refl _, rfl⟩ ?_
      clear g i1 i2 m n p q a b
      rintro k _ ⟨m, n, p, q, a, b, g, i1, i2, hk, rfl⟩
      obtain ⟨hm, hn, hp, hq, haA, hbB⟩ := g.le (by lia) (by lia)
      have mb1 := most_bits_ok (T := T) hw hw' (show a ≤ 2 ^ 30 by lia) (show b ≤ 2 ^ 30 by lia)
      have db1 := difference_bits_ok (T := T) hw hw' (show a ≤ 2 ^ 30 by lia) (show b ≤ 2 ^ 30 by lia)
      have lb1 := least_bits_ok (T := T) hw hw' (show a ≤ 2 ^ 30 by lia) (show b ≤ 2 ^ 30 by lia)
      rw [hSρ]
      refine ⟨decide (((3 * N / 4 + 1 : Nat) : Int) < (Max.max (bl a) (bl b) : Nat)) && (decide (((hlf A B : Nat) : Int) < (bl (far a b) : Nat)) && true), by walk_at "et", fun hb' => ?_, fun hb' => ?_⟩
      · simp only [Bool.and_eq_true, decide_eq_true_eq, Bool.and_true] at hb'
        obtain ⟨m', n', p', q', a', b', g', j1, j2, j3, os⟩ := step_ok (T := T) hw hw' g hA hB i1 i2 (by lia)
        walk_at "st"
        refine EX.turn (Sρ m' n' p' q' a' b') ?_ ⟨k - 1, by lia, m', n', p', q', a', b', g', j1, j2, by lia, by rw [hSρ]⟩
        rw [hSρ]
        walk_at "sub"
      · clear hk k hb'
        refine EX.joinP P (b := decide ((least : Int) ≤ (N : Nat)) && (decide (((hlf A B + 2 : Nat) : Int) < (Min.min (bl a) (bl b) : Nat)) && true)) (by walk_at "et") (fun hb' => ?_) (fun hb' => ?_) ?_
        · simp only [Bool.and_eq_true, decide_eq_true_eq, Bool.and_true] at hb'
          have hmin : hlf A B + 2 < Min.min (bl a) (bl b) := by lia
          obtain ⟨now, hnow⟩ : ∃ now, now = Max.max (bl a) (bl b) := ⟨_, rfl⟩
          rw [← hnow] at mb1
          have ma := bl_mono haA
          have mB := bl_mono hbB
          walk_at "st"
          have e1 : Max.max (bl (a / 2 ^ (2 * hlf A B - now + 1))) (bl (b / 2 ^ (2 * hlf A B - now + 1))) = now - (2 * hlf A B - now + 1) := by rw [bl_shift, bl_shift, Nat.sub_max_sub_right, ← hnow]
          obtain ⟨q1, q2, q3⟩ := pl2 hN hnow ma mB hh hmin blA blB
          have IH := ih (now - (2 * hlf A B - now + 1)) q1 (a / 2 ^ (2 * hlf A B - now + 1)) (b / 2 ^ (2 * hlf A B - now + 1)) e1 (Nat.le_trans (Nat.div_le_self ..) (by lia)) (Nat.le_trans (Nat.div_le_self ..) (by lia))
          have bh := by_high_ok (h := hlf A B) hw hw' g hA hB i1 i2 q2 (by rw [e1]; exact q3) (by lia) IH
          refine EX.assignR (by walk_at "evr") rfl rfl fun x hx => ?_
          obtain ⟨m, n, p, q, a, b, rfl, g, i1, i2⟩ := hx
          refine EX.nextP (Sρ m n p q a b) ?_ (by rw [hP]; exact ⟨m, n, p, q, a, b, g, i1, i2, rfl⟩)
          rw [hSρ]
          walk_at "sub"
        · refine EX.nextP (Sρ m n p q a b) ?_ (by rw [hP]; exact ⟨_, _, _, _, _, _, g, i1, i2, rfl⟩)
          rw [hSρ]
          walk_at "sub"
        · clear mb1 db1 lb1 hm hn hp hq haA hbB g i1 i2 m n p q a b
          rw [hP]
          rintro _ ⟨m, n, p, q, a, b, g, i1, i2, rfl⟩
          refine EX.while (fun k ρ' => ∃ m n p q a b, HG A B m n p q a b ∧ 2 ^ hlf A B ≤ a ∧ 2 ^ hlf A B ≤ b ∧ a + b ≤ k ∧ ρ' = Sρ m n p q a b) (a + b) ⟨_, _, _, _, _, _, g, i1, i2, Nat.le_refl _, rfl⟩ ?_
          clear g i1 i2 m n p q a b
          rintro k _ ⟨m, n, p, q, a, b, g, i1, i2, hk, rfl⟩
          obtain ⟨hm, hn, hp, hq, haA, hbB⟩ := g.le (by lia) (by lia)
          have db1 := difference_bits_ok (T := T) hw hw' (show a ≤ 2 ^ 30 by lia) (show b ≤ 2 ^ 30 by lia)
          rw [hSρ]
          refine ⟨decide (((hlf A B : Nat) : Int) < (bl (far a b) : Nat)), by walk_at "et", fun hb' => ?_, fun hb' => ?_⟩
          · simp only [decide_eq_true_eq] at hb'
            obtain ⟨m', n', p', q', a', b', g', j1, j2, j3, os⟩ := step_ok (T := T) hw hw' g hA hB i1 i2 (by lia)
            walk_at "st"
            refine EX.turn (Sρ m' n' p' q' a' b') ?_ ⟨k - 1, by lia, m', n', p', q', a', b', g', j1, j2, by lia, by rw [hSρ]⟩
            rw [hSρ]
            walk_at "sub"
          · simp only [decide_eq_false_iff_not] at hb'
            refine EX.ret (v := SV w m n p q a b) (by walk_at "ev") ⟨_, ⟨m, n, p, q, a, b, rfl, g, .inr ⟨hb, i1, i2, by lia⟩⟩, _, .inl rfl⟩
end
section
variable {T : Tp} {C : Cx T} {ρ : Loc}
noncomputable abbrev Z (w : Nat) (z : Int) : V := .tup [.bool (decide (z < 0)), R w z.natAbs]
theorem Z_eq {w : Nat} {b : Bool} {n : Nat} {z : Int} (h : (b = true ∧ z = -(n : Int)) ∨ (b = false ∧ z = n)) : V.tup [.bool (b && decide (0 < n)), R w n] = Z w z := by
  unfold Z
  rcases h with ⟨rfl, rfl⟩ | ⟨rfl, rfl⟩
  · rw [Int.natAbs_neg, Int.natAbs_natCast, Bool.true_and]
    congr 3
    exact decide_eq_decide.mpr ⟨fun h => by lia, fun h => by lia⟩
  · rw [Int.natAbs_natCast, Bool.false_and, decide_eq_false (by lia)]
theorem signed_ok {w n : Nat} {b : Bool} {z : Int} (hw : 1 ≤ w) (hn : Sm n) (h : (b = true ∧ z = -(n : Int)) ∨ (b = false ∧ z = n)) : FN T "signed" 0 [.bool b, R w n] (Z w z) := by
  rw [← Z_eq h]
  have hB := two_le_pow hw
  have ln := hn.len hw
  have hz : (dig (2 ^ w) n).length = 0 ↔ n = 0 := dig_nil_iff hB
  have e : decide (0 < n) = decide ((0 : Int) < (dig (2 ^ w) n).length) := decide_eq_decide.mpr ⟨fun h => by lia, fun h => by lia⟩
  rw [e]
  refine FN.of (d := dAt 27) ["is_below", "nat"] (dAt_mem rfl) (fun pm code doc vs hv => ?_) rfl (by decide) (by decide) (by decide) rfl rfl rfl fun C hC => ?_
  · revert vs; refine lens2 ?_ rfl; intros; rfl
  · show EX _ _ [("is_below", .val (.bool b)), ("nat", .val (.row (rn (dig (2 ^ w) n))))] _ _
    walk_at "ret"
    rfl
theorem s_neg_ok {w : Nat} {x : Int} (hw : 1 ≤ w) (hx : Sm x.natAbs) : FN T "s_neg" 1 [Z w x] (Z w (-x)) := by
  have sg := signed_ok (T := T) (b := !decide (x < 0)) (z := -x) hw hx (by
    by_cases h : x < 0
    · right; exact ⟨by simp [h], by omega⟩
    · left; exact ⟨by simp [h], by lia⟩)
  refine FN.of (d := dAt 28) ["x"] (dAt_mem rfl) (fun pm code doc vs hv => ?_) rfl (by decide) (by decide) (by decide) rfl rfl rfl fun C hC => ?_
  · revert vs; refine lens1 ?_ rfl; intros; rfl
  · show EX _ _ [("x", .val (Z w x))] _ _
    walk_at "ret"
    rfl
theorem s_abs_ok {w : Nat} {x : Int} : FN T "s_abs" 0 [Z w x] (Z w x.natAbs) := by
  refine FN.of (d := dAt 29) ["x"] (dAt_mem rfl) (fun pm code doc vs hv => ?_) rfl (by decide) (by decide) (by decide) rfl rfl rfl fun C hC => ?_
  · revert vs; refine lens1 ?_ rfl; intros; rfl
  · show EX _ _ [("x", .val (Z w x))] _ _
    walk_at "ret"
    unfold Z
    rw [Int.natAbs_natCast, decide_eq_false (by lia)]
theorem s_add_ok {w : Nat} {x y : Int} (hw : 1 ≤ w) (hw' : w ≤ 20) (hx : x.natAbs ≤ 2 ^ 70) (hy : y.natAbs ≤ 2 ^ 70) : FN T "s_add" 2 [Z w x, Z w y, .int w] (Z w (x + y)) := by
  have sx : Sm x.natAbs := Nat.lt_of_le_of_lt hx (by decide)
  have sy : Sm y.natAbs := Nat.lt_of_le_of_lt hy (by decide)
  have cm := compare_ok (T := T) hw sx sy
  have ad := add_ok (T := T) hw (by lia) sx sy
  refine FN.of (d := dAt 30) ["x", "y", "w"] (dAt_mem rfl) (fun pm code doc vs hv => ?_) rfl (by decide) (by decide) (by decide) rfl rfl rfl fun C hC => ?_
  · revert vs; refine lens3 ?_ rfl; intros; rfl
  · show EX _ _ [("x", .val (Z w x)), ("y", .val (Z w y)), ("w", .val (.int w))] _ _
    refine EX.ite (b := decide (x < 0) == decide (y < 0)) (by walk_at "et") (fun h => ?_) fun h => EX.thenEnd ?_
    · have h : x < 0 ↔ y < 0 := by simpa using h
      have sg := signed_ok (T := T) (w := w) (n := x.natAbs + y.natAbs) (b := decide (x < 0)) (z := x + y) hw (Nat.lt_of_le_of_lt (show x.natAbs + y.natAbs ≤ 2 ^ 71 by lia) (by decide)) (by
        by_cases q : x < 0
        · left; exact ⟨by simp [q], by omega⟩
        · right; exact ⟨by simp [q], by lia⟩)
      walk_at "ret"
      rfl
    · have h : ¬ (x < 0 ↔ y < 0) := by simpa using h
      refine EX.ite (b := decide (cmpI x.natAbs y.natAbs < 0)) (by walk_at "et") (fun h' => ?_) fun h' => EX.thenEnd ?_
      · rw [cmpI_lt, decide_eq_true_eq] at h'
        have sb := sub_ok (T := T) (w := w) hw (by lia) sy (Nat.le_of_lt h')
        have sg := signed_ok (T := T) (w := w) (n := y.natAbs - x.natAbs) (b := decide (y < 0)) (z := x + y) hw (Nat.lt_of_le_of_lt (show y.natAbs - x.natAbs ≤ 2 ^ 71 by lia) (by decide)) (by
          by_cases q : y < 0
          · left; exact ⟨by simp [q], by lia⟩
          · right; exact ⟨by simp [q], by lia⟩)
        walk_at "ret"
        rfl
      · rw [cmpI_lt, decide_eq_false_iff_not] at h'
        have sb := sub_ok (T := T) (w := w) hw (by lia) sx (show y.natAbs ≤ x.natAbs by lia)
        have sg := signed_ok (T := T) (w := w) (n := x.natAbs - y.natAbs) (b := decide (x < 0)) (z := x + y) hw (Nat.lt_of_le_of_lt (show x.natAbs - y.natAbs ≤ 2 ^ 71 by lia) (by decide)) (by
          by_cases q : x < 0
          · left; exact ⟨by simp [q], by lia⟩
          · right; exact ⟨by simp [q], by lia⟩)
        walk_at "ret"
        rfl
theorem s_sub_ok {w : Nat} {x y : Int} (hw : 1 ≤ w) (hw' : w ≤ 20) (hx : x.natAbs ≤ 2 ^ 70) (hy : y.natAbs ≤ 2 ^ 70) : FN T "s_sub" 3 [Z w x, Z w y, .int w] (Z w (x - y)) := by
  have sn := s_neg_ok (T := T) (x := y) hw (Nat.lt_of_le_of_lt hy (by decide))
  have sa := s_add_ok (T := T) (x := x) (y := -y) hw hw' hx (by rw [Int.natAbs_neg]; exact hy)
  refine FN.of (d := dAt 31) ["x", "y", "w"] (dAt_mem rfl) (fun pm code doc vs hv => ?_) rfl (by decide) (by decide) (by decide) rfl rfl rfl fun C hC => ?_
  · revert vs; refine lens3 ?_ rfl; intros; rfl
  · show EX _ _ [("x", .val (Z w x)), ("y", .val (Z w y)), ("w", .val (.int w))] _ _
    walk_at "ret"
    rw [Int.sub_eq_add_neg]
theorem s_mul_ok {w : Nat} {x y : Int} (hw : 1 ≤ w) (hw' : w ≤ 20) (hx : x.natAbs ≤ 2 ^ 30) (hy : y.natAbs ≤ 2 ^ 30) : FN T "s_mul" 2 [Z w x, Z w y, .int w, .fn "mul_school"] (Z w (x * y)) := by
  have mu := mul_school_ok (T := T) hw (by lia) (lo_sm hx) (lo_sm hy)
  have sg := signed_ok (T := T) (w := w) (n := x.natAbs * y.natAbs) (b := decide (x < 0) != decide (y < 0)) (z := x * y) hw (lo_mul hx hy) (by
    have e := Int.natAbs_mul x y
    rw [← e]
    by_cases q : x < 0
    · by_cases r : y < 0
      · right; exact ⟨by simp [q, r], by have := Int.mul_pos_of_neg_of_neg q r; lia⟩
      · left; exact ⟨by simp [q, r], by have := Int.mul_nonpos_of_nonpos_of_nonneg (Int.le_of_lt q) (Int.not_lt.mp r); omega⟩
    · by_cases r : y < 0
      · left; exact ⟨by simp [q, r], by have := Int.mul_nonpos_of_nonneg_of_nonpos (Int.not_lt.mp q) (Int.le_of_lt r); omega⟩
      · right; exact ⟨by simp [q, r], by have := Int.mul_nonneg (Int.not_lt.mp q) (Int.not_lt.mp r); lia⟩)
  refine FN.of (d := dAt 32) ["x", "y", "w", "mul"] (dAt_mem rfl) (fun pm code doc vs hv => ?_) rfl (by decide) (by decide) (by decide) rfl rfl rfl fun C hC => ?_
  · revert vs; refine lens4 ?_ rfl; intros; rfl
  · show EX _ _ [("x", .val (Z w x)), ("y", .val (Z w y)), ("w", .val (.int w)), ("mul", .val (.fn "mul_school"))] _ _
    walk_at "ret"
    rfl
end
section
variable {T : Tp} {C : Cx T} {ρ : Loc}
noncomputable def sg (x : Int) (n : Nat) : Int := if x < 0 then -(n : Int) else n
theorem sg_abs {x : Int} {n : Nat} : (sg x n).natAbs = n := by unfold sg; split <;> lia
theorem tdiv_ok {w : Nat} {x y : Int} (hw : 1 ≤ w) (hw' : w ≤ 20) (hx : x.natAbs ≤ 2 ^ 30) (hy : y.natAbs ≤ 2 ^ 30) (h0 : 0 < y) :
    FN T "tdiv" 4 [Z w x, Z w y, .int w, .fn "divrem_school"] (.tup [Z w (sg x (x.natAbs / y.natAbs)), Z w (sg x (x.natAbs % y.natAbs))]) := by
  have dv := divrem_school_ok (T := T) hw hw' (lo_150 hx) (show 0 < y.natAbs by omega) (lo_150 hy)
  have hq : x.natAbs / y.natAbs ≤ 2 ^ 30 := Nat.le_trans (Nat.div_le_self ..) hx
  have hr : x.natAbs % y.natAbs ≤ 2 ^ 30 := Nat.le_trans (Nat.mod_le ..) hx
  have s1 := signed_ok (T := T) (w := w) (n := x.natAbs / y.natAbs) (b := decide (x < 0) != decide (y < 0)) (z := sg x (x.natAbs / y.natAbs)) hw (lo_sm hq) (by
    rw [decide_eq_false (show ¬ y < 0 by lia)]
    unfold sg
    by_cases q : x < 0
    · left; exact ⟨by simp [q], by rw [if_pos q]⟩
    · right; exact ⟨by simp [q], by rw [if_neg q]⟩)
  have s2 := signed_ok (T := T) (w := w) (n := x.natAbs % y.natAbs) (b := decide (x < 0)) (z := sg x (x.natAbs % y.natAbs)) hw (lo_sm hr) (by
    unfold sg
    by_cases q : x < 0
    · left; exact ⟨by simp [q], by rw [if_pos q]⟩
    · right; exact ⟨by simp [q], by rw [if_neg q]⟩)
  have hB := two_le_pow hw
  have ly := (lo_sm hy).len hw
  have hz : (dig (2 ^ w) y.natAbs).length = 0 ↔ y.natAbs = 0 := dig_nil_iff hB
  unfold Z at *
  refine FN.of (d := dAt 33) ["x", "y", "w", "divrem"] (dAt_mem rfl) (fun pm code doc vs hv => ?_) rfl (by decide) (by decide) (by decide) rfl rfl rfl fun C hC => ?_
  · revert vs; refine lens4 ?_ rfl; intros; rfl
  · unfold R at *
    show EX _ _ [("x", .val (.tup [.bool (decide (x < 0)), .row (rn (dig (2 ^ w) x.natAbs))])), ("y", .val (.tup [.bool (decide (y < 0)), .row (rn (dig (2 ^ w) y.natAbs))])), ("w", .val (.int w)), ("divrem", .val (.fn "divrem_school"))] _ _
    refine EX.iteF (b := decide (((dig (2 ^ w) y.natAbs).length : Int) = 0)) (by walk_at "et") (decide_eq_false (by lia)) (EX.thenEnd ?_)
    walk_at "st"
    walk_at "ret"
    rfl
theorem fdiv_ok {w : Nat} {x y : Int} (hw : 1 ≤ w) (hw' : w ≤ 20) (hx : x.natAbs ≤ 2 ^ 30) (hy : y.natAbs ≤ 2 ^ 30) (h0 : 0 < y) :
    FN T "fdiv" 5 [Z w x, Z w y, .int w, .fn "divrem_school"] (.tup [Z w (x / y), Z w (x % y)]) := by
  have td := tdiv_ok (T := T) hw hw' hx hy h0
  have hB := two_le_pow hw
  have hq : x.natAbs / y.natAbs ≤ 2 ^ 30 := Nat.le_trans (Nat.div_le_self ..) hx
  have hr : x.natAbs % y.natAbs ≤ 2 ^ 30 := Nat.le_trans (Nat.mod_le ..) hx
  have dm := Nat.div_add_mod x.natAbs y.natAbs
  have ml := Nat.mod_lt x.natAbs (show 0 < y.natAbs by omega)
  have al := add_limb_ok (T := T) (w := w) (a := x.natAbs / y.natAbs) (l := 1) hw (by lia) (lo_sm hq) (by lia)
  obtain ⟨q, hqq⟩ : ∃ q, q = x.natAbs / y.natAbs := ⟨_, rfl⟩
  obtain ⟨r, hrr⟩ : ∃ r, r = x.natAbs % y.natAbs := ⟨_, rfl⟩
  have e1 : ((y.natAbs * q : Nat) : Int) = y * q := by rw [Int.natCast_mul]; congr 1; lia
  have key : ((x < 0 ∧ 0 < r) → x / y = -((q : Int) + 1) ∧ x % y = y - r) ∧ (¬ (x < 0 ∧ 0 < r) → x / y = sg x q ∧ x % y = sg x r) := by
    rw [← hqq, ← hrr] at dm
    rw [← hrr] at ml
    constructor
    · rintro ⟨h1, h2⟩
      have e2 : y * -((q : Int) + 1) = -(y * q) - y := by rw [Int.mul_neg, Int.mul_add, Int.mul_one]; lia
      exact (Int.ediv_emod_unique h0).mpr ⟨by rw [e2]; lia, by lia, by lia⟩
    · intro h
      refine (Int.ediv_emod_unique h0).mpr ?_
      unfold sg
      by_cases h1 : x < 0
      · have : r = 0 := by lia
        rw [if_pos h1, if_pos h1, Int.mul_neg, this]; exact ⟨by lia, by lia, by lia⟩
      · rw [if_neg h1, if_neg h1]; exact ⟨by lia, by lia, by lia⟩
  have sa := s_add_ok (T := T) (w := w) (x := sg x r) (y := y) hw hw' (by rw [sg_abs, hrr]; lia) (by lia)
  have lr := (lo_sm hr).len hw
  rw [← hrr] at lr
  rw [← hqq] at td al
  rw [← hrr] at td
  have hz : (dig (2 ^ w) r).length = 0 ↔ r = 0 := dig_nil_iff hB
  have ed : decide ((0 : Int) < (dig (2 ^ w) r).length) = decide (0 < r) := decide_eq_decide.mpr ⟨fun h => by lia, fun h => by lia⟩
  have al' : FN T "add_limb" 0 [R w (sg x q).natAbs, .int 1, .int w] (R w (q + 1)) := by rw [sg_abs]; exact al
  clear al
  refine FN.of (d := dAt 34) ["x", "y", "w", "divrem"] (dAt_mem rfl) (fun pm code doc vs hv => ?_) rfl (by decide) (by decide) (by decide) rfl rfl rfl fun C hC => ?_
  · revert vs; refine lens4 ?_ rfl; intros; rfl
  · show EX _ _ [("x", .val (Z w x)), ("y", .val (Z w y)), ("w", .val (.int w)), ("divrem", .val (.fn "divrem_school"))] _ _
    walk_at "st"
    refine EX.sub (ρ' := [("rest", .val (.tup [.bool (decide (sg x r < 0)), .row (rn (dig (2 ^ w) r))])), ("quotient", .val (Z w (sg x q))), ("x", .val (Z w x)), ("y", .val (Z w y)), ("w", .val (.int w))]) (by
      walk_at "sub"
      unfold Z R; rw [sg_abs]) ?_
    refine EX.ite (b := decide ((0 : Int) < (dig (2 ^ w) r).length) && ((decide (x < 0) != decide (y < 0)) && true)) (by walk_at "et") (fun h => ?_) fun h => EX.thenEnd ?_
    · rw [ed, decide_eq_false (show ¬ y < 0 by lia)] at h
      simp only [Bool.and_eq_true, decide_eq_true_eq, Bool.and_true, Bool.bne_false] at h
      obtain ⟨k1, k2⟩ := key.1 ⟨h.2, h.1⟩
      have sa' : FN T "s_add" 2 [.tup [.bool (decide (sg x r < 0)), .row (rn (dig (2 ^ w) r))], Z w y, .int w] (Z w (sg x r + y)) := by
        have := sa
        unfold Z at this
        rw [sg_abs] at this
        exact this
      walk_at "ret"
      have e3 : sg x r + y = x % y := by rw [k2]; unfold sg; rw [if_pos h.2]; lia
      rw [e3]
      unfold Z
      rw [decide_eq_true (show x / y < 0 by omega), show (x / y).natAbs = q + 1 by omega]
    · rw [ed, decide_eq_false (show ¬ y < 0 by lia)] at h
      have h : ¬ (x < 0 ∧ 0 < r) := by
        simp only [Bool.and_eq_false_iff, decide_eq_false_iff_not, Bool.and_true, Bool.bne_false] at h
        omega
      obtain ⟨k1, k2⟩ := key.2 h
      walk_at "ret"
      rw [k1, k2]
      unfold Z
      rw [sg_abs, sg_abs]; rfl
theorem s_mod_ok {w : Nat} {x y : Int} (hw : 1 ≤ w) (hw' : w ≤ 20) (hx : x.natAbs ≤ 2 ^ 30) (hy : y.natAbs ≤ 2 ^ 30) (h0 : 0 < y) :
    FN T "s_mod" 6 [Z w x, Z w y, .int w, .fn "divrem_school"] (R w (x % y).natAbs) := by
  have sa := s_abs_ok (T := T) (w := w) (x := y)
  rw [show (y.natAbs : Int) = y by lia] at sa
  have fd := fdiv_ok (T := T) hw hw' hx hy h0
  refine FN.of (d := dAt 35) ["x", "y", "w", "divrem"] (dAt_mem rfl) (fun pm code doc vs hv => ?_) rfl (by decide) (by decide) (by decide) rfl rfl rfl fun C hC => ?_
  · revert vs; refine lens4 ?_ rfl; intros; rfl
  · show EX _ _ [("x", .val (Z w x)), ("y", .val (Z w y)), ("w", .val (.int w)), ("divrem", .val (.fn "divrem_school"))] _ _
    walk_at "ret"
    rfl
end
section
variable {T : Tp} {C : Cx T} {ρ : Loc}
theorem GX.bound {one other : Nat} {s t : Int} (g : GX one other s t) : s.natAbs ≤ other + 1 ∧ t.natAbs ≤ one + 1 := by
  rcases Nat.eq_zero_or_pos one with h | h
  · obtain ⟨h1, h2⟩ := g.z1 h
    rw [h1, h2]; split <;> lia
  · rcases Nat.eq_zero_or_pos other with h' | h'
    · obtain ⟨h1, h2⟩ := g.z2 h h'
      rw [h1, h2]; lia
    · by_cases e : one = other
      · obtain ⟨h1, h2⟩ := g.eq h e
        rw [h1, h2]; lia
      · obtain ⟨h1, h2⟩ := g.le h h' e
        have gp : 0 < Nat.gcd one other := Nat.gcd_pos_of_pos_left _ h
        have m1 := Nat.le_mul_of_pos_left s.natAbs (show 0 < 2 * Nat.gcd one other by lia)
        have m2 := Nat.le_mul_of_pos_left t.natAbs (show 0 < 2 * Nat.gcd one other by lia)
        lia
theorem gcd_ext_ok {w one other : Nat} (hw : 1 ≤ w) (hw' : w ≤ 20) (h1 : one ≤ 2 ^ 28) (h2 : other ≤ 2 ^ 28) :
    FNr T "gcd_ext" 7 [R w one, R w other, .int w, .fn "mul_school", .fn "divrem_school"] (fun x => ∃ s t, x = .tup [R w (Nat.gcd one other), Z w s, Z w t] ∧ GX one other s t) := by
  have hB := two_le_pow hw
  have s1 := signed_ok (T := T) (w := w) (n := 1) (b := false) (z := 1) hw (lo_sm (by decide)) (.inr ⟨rfl, rfl⟩)
  have s0 := signed_ok (T := T) (w := w) (n := 0) (b := false) (z := 0) hw (lo_sm (by decide)) (.inr ⟨rfl, rfl⟩)
  rw [R_one hw] at s1
  rw [R_zero] at s0
  have lo := (lo_sm (show one ≤ 2 ^ 30 by lia)).len hw
  have lt := (lo_sm (show other ≤ 2 ^ 30 by lia)).len hw
  have z1 : (dig (2 ^ w) one).length = 0 ↔ one = 0 := dig_nil_iff hB
  have z2 : (dig (2 ^ w) other).length = 0 ↔ other = 0 := dig_nil_iff hB
  refine FNr.of (d := dAt 37) ["a", "b", "w", "mul", "divrem"] (dAt_mem rfl) (fun pm code doc vs hv => ?_) rfl (by decide) (by decide) (by decide) rfl rfl rfl fun C hC => ?_
  · revert vs; refine lens5 ?_ rfl; intros; rfl
  · show EX _ _ [("a", .val (.row (rn (dig (2 ^ w) one)))), ("b", .val (.row (rn (dig (2 ^ w) other)))), ("w", .val (.int w)), ("mul", .val (.fn "mul_school")), ("divrem", .val (.fn "divrem_school"))] _ _
    walk_at "st"
    walk_at "st"
    refine EX.ite (b := decide (((dig (2 ^ w) one).length : Int) = 0)) (by walk_at "et") (fun h => ?_) fun h => EX.thenEnd ?_
    · have h : one = 0 := by simp only [decide_eq_true_eq] at h; lia
      subst h
      walk_at "st"
      by_cases q : 0 < other
      · have c : decide ((0 : Int) < (dig (2 ^ w) other).length) = true := decide_eq_true (by lia)
        walk_at "st"
        refine EX.sub (ρ' := [("b", .val (R w (Nat.gcd 0 other))), ("s", .val (Z w 0)), ("t", .val (Z w 1))]) (by rw [Nat.gcd_zero_left]; walk_at "sub") ?_
        refine EX.ret (v := .tup [R w (Nat.gcd 0 other), Z w 0, Z w 1]) (by walk_at "ev") ⟨_, ⟨0, 1, rfl, ?_⟩, _, .inl rfl⟩
        · have := GX.zero (other := other); rwa [if_pos q] at this
      · have c : decide ((0 : Int) < (dig (2 ^ w) other).length) = false := decide_eq_false (by lia)
        walk_at "st"
        refine EX.sub (ρ' := [("b", .val (R w (Nat.gcd 0 other))), ("s", .val (Z w 0)), ("t", .val (Z w 0))]) (by rw [Nat.gcd_zero_left]; walk_at "sub") ?_
        refine EX.ret (v := .tup [R w (Nat.gcd 0 other), Z w 0, Z w 0]) (by walk_at "ev") ⟨_, ⟨0, 0, rfl, ?_⟩, _, .inl rfl⟩
        · have := GX.zero (other := other); rwa [if_neg q] at this
    · have h : 0 < one := by simp only [decide_eq_false_iff_not] at h; lia
      refine EX.sub (ρ' := [("s", .val (Z w 1)), ("later_s", .val (Z w 0)), ("t", .val (Z w 0)), ("later_t", .val (Z w 1)), ("a", .val (R w one)), ("b", .val (.row (rn (dig (2 ^ w) other)))), ("w", .val (.int w)), ("mul", .val (.fn "mul_school")), ("divrem", .val (.fn "divrem_school"))]) (by walk_at "sub") ?_
      refine EX.while (fun k ρ' => ∃ a s ls t lt, GE one other a k s ls t lt ∧ a ≤ 2 ^ 28 ∧ k ≤ 2 ^ 28 ∧ ρ' = ([("s", .val (Z w s)), ("later_s", .val (Z w ls)), ("t", .val (Z w t)), ("later_t", .val (Z w lt)), ("a", .val (R w a)), ("b", .val (.row (rn (dig (2 ^ w) k)))), ("w", .val (.int w)), ("mul", .val (.fn "mul_school")), ("divrem", .val (.fn "divrem_school"))] : Loc)) other ⟨_, _, _, _, _, GE.start h, h1, h2, rfl⟩ ?_
      clear lt
      rintro k _ ⟨a, s, ls, t, lt, g, ha, hk, rfl⟩
      have lk := (lo_sm (show k ≤ 2 ^ 30 by lia)).len hw
      have zk : (dig (2 ^ w) k).length = 0 ↔ k = 0 := dig_nil_iff hB
      refine ⟨decide ((0 : Int) < (dig (2 ^ w) k).length), by walk_at "et", fun hb => ?_, fun hb => ?_⟩
      · have hk0 : 0 < k := by simp only [decide_eq_true_eq] at hb; lia
        obtain ⟨u1, u2, u3, u4⟩ := g.bound hk0
        have hq : a / k ≤ 2 ^ 28 := Nat.le_trans (Nat.div_le_self ..) ha
        have dv := divrem_school_ok (T := T) hw hw' (lo_150 (show a ≤ 2 ^ 30 by lia)) hk0 (lo_150 (show k ≤ 2 ^ 30 by lia))
        have sg := signed_ok (T := T) (w := w) (n := a / k) (b := false) (z := ((a / k : Nat) : Int)) hw (lo_sm (show a / k ≤ 2 ^ 30 by lia)) (.inr ⟨rfl, rfl⟩)
        have qa : ((a / k : Nat) : Int).natAbs ≤ 2 ^ 30 := by rw [Int.natAbs_natCast]; exact Nat.le_trans hq (by decide)
        have m1 := s_mul_ok (T := T) (x := ((a / k : Nat) : Int)) (y := ls) hw hw' qa (by lia)
        have m2 := s_mul_ok (T := T) (x := ((a / k : Nat) : Int)) (y := lt) hw hw' qa (by lia)
        have n1 : (((a / k : Nat) : Int) * ls).natAbs ≤ 2 ^ 70 := by rw [Int.natAbs_mul]; exact Nat.le_trans (Nat.mul_le_mul qa (show _ ≤ 2 ^ 30 by lia)) (by decide)
        have n2 : (((a / k : Nat) : Int) * lt).natAbs ≤ 2 ^ 70 := by rw [Int.natAbs_mul]; exact Nat.le_trans (Nat.mul_le_mul qa (show _ ≤ 2 ^ 30 by lia)) (by decide)
        have b1 := s_sub_ok (T := T) (x := s) hw hw' (by lia) n1
        have b2 := s_sub_ok (T := T) (x := t) hw hw' (by lia) n2
        clear n1 n2 u1 u2 u3 u4 qa
        walk_at "st"
        walk_at "st"
        walk_at "st"
        walk_at "st"
        walk_at "st"
        refine EX.turn [("s", .val (Z w ls)), ("later_s", .val (Z w (s - (a / k : Nat) * ls))), ("t", .val (Z w lt)), ("later_t", .val (Z w (t - (a / k : Nat) * lt))), ("a", .val (R w k)), ("b", .val (.row (rn (dig (2 ^ w) (a % k))))), ("w", .val (.int w)), ("mul", .val (.fn "mul_school")), ("divrem", .val (.fn "divrem_school"))] (by walk_at "sub")
          ⟨a % k, Nat.mod_lt _ hk0, k, ls, _, lt, _, g.step hk0, hk, Nat.le_trans (Nat.mod_le ..) ha, rfl⟩
      · have hk0 : k = 0 := by simp only [decide_eq_false_iff_not] at hb; lia
        subst hk0
        obtain ⟨e, gx⟩ := g.done h
        refine EX.retr (v := .tup [R w a, Z w s, Z w t]) (by walk_at "ev") ⟨s, t, by rw [← e], gx⟩
end
section
variable {T : Tp} {C : Cx T} {ρ : Loc}
theorem law_row_ok {w n : Nat} (hw : 1 ≤ w) (hw' : w ≤ 20) (hn : Sm n) : FN T "_law_row" 0 [.int n, .int w] (R w n) := by
  refine FN.of (d := dAt 50) ["number", "w"] (dAt_mem rfl) (fun pm code doc vs hv => ?_) rfl (by decide) (by decide) (by decide) rfl rfl rfl fun C hC => ?_
  · revert vs; refine lens2 ?_ rfl; intros; rfl
  · have hB := two_le_pow hw
    have ln := hn.len hw
    have h20 : 2 ^ w ≤ 2 ^ 20 := Nat.pow_le_pow_right (by decide) hw'
    show EX _ _ [("number", .val (.int n)), ("w", .val (.int w))] _ _
    walk_at "st"
    refine EX.sub (ρ' := [("number", .val (.int n)), ("found", .own (rn [])), ("w", .val (.int w))]) (by walk_at "sub") ?_
    refine EX.while (fun k ρ' => ∃ fs, fs ++ dig (2 ^ w) k = dig (2 ^ w) n ∧ ρ' = ([("number", .val (.int k)), ("found", .own (rn fs)), ("w", .val (.int w))] : Loc)) n ⟨[], rfl, rfl⟩ ?_
    rintro k _ ⟨fs, hfs, rfl⟩
    have hl := congrArg List.length hfs
    rw [List.length_append] at hl
    refine ⟨decide ((0 : Int) < k), by walk_at "et", fun hb => ?_, fun hb => ?_⟩
    · have hk : 0 < k := by simpa using hb
      walk_at "st"
      walk_at "st"
      refine EX.turn [("number", .val (.int (k / 2 ^ w : Nat))), ("found", .own (rn (fs ++ [k % 2 ^ w]))), ("w", .val (.int w))] (by walk_at "sub") ⟨k / 2 ^ w, Nat.div_lt_self hk hB, fs ++ [k % 2 ^ w], ?_, rfl⟩
      rw [List.append_assoc, ← hfs, dig_step hB (by lia) (n := k)]; rfl
    · have hk : k = 0 := by simp only [decide_eq_false_iff_not] at hb; lia
      subst hk
      rw [dig_zero, List.append_nil] at hfs
      refine EX.freeze (x := "found") rfl (.inl rfl) ?_
      walk_at "ret"
      rw [hfs]; rfl
theorem law_plain_ok {w n : Nat} (hw : 1 ≤ w) (hw' : w ≤ 20) (hn : n ≤ 2 ^ 60) : FN T "_law_plain" 0 [R w n, .int w] (.int n) := by
  refine FN.of (d := dAt 51) ["row", "w"] (dAt_mem rfl) (fun pm code doc vs hv => ?_) rfl (by decide) (by decide) (by decide) rfl rfl rfl fun C hC => ?_
  · revert vs; refine lens2 ?_ rfl; intros; rfl
  · have hB := two_le_pow hw
    have ln := (sm_61 (show n ≤ 2 ^ 63 by lia)).len hw
    have h20 : 2 ^ w ≤ 2 ^ 20 := Nat.pow_le_pow_right (by decide) hw'
    have pn := pv_dig hB n
    show EX _ _ [("row", .val (.row (rn (dig (2 ^ w) n)))), ("w", .val (.int w))] _ _
    generalize dig (2 ^ w) n = xs at *
    walk_at "st"
    refine EX.sub (ρ' := [("found", .val (.int ((0 : Nat) : Int))), ("row", .val (.row (rn xs))), ("w", .val (.int w))]) (by walk_at "sub") ?_
    refine EX.forRowN (fun i ρ' => ∃ v : Nat, v = pv (2 ^ w) (xs.drop (xs.length - i)) ∧ ρ' = ([("found", .val (.int v)), ("row", .val (.row (rn xs))), ("w", .val (.int w))] : Loc)) (by walk_at "ev") rfl (fun _ => rfl) ⟨0, by simp [pv], rfl⟩ ?_ ?_
    · rintro i _ hi ⟨v, hv, rfl⟩
      rw [List.length_reverse] at hi
      have sp := pv_split (B := 2 ^ w) xs (xs.length - i)
      have hge := Nat.le_mul_of_pos_left (pv (2 ^ w) (xs.drop (xs.length - i))) (Nat.pow_pos (n := xs.length - i) (show 0 < 2 ^ w by lia))
      have hv60 : v ≤ 2 ^ 60 := by lia
      have hx : xs.reverse.getD i 0 = xs.getD (xs.length - 1 - i) 0 := by
        rw [List.getD_eq_getElem?_getD, List.getD_eq_getElem?_getD, List.getElem?_reverse hi]
      walk_at "st"
      refine EX.turn [("found", .val (.int (v * 2 ^ w + xs.reverse.getD i 0 : Nat))), ("row", .val (.row (rn xs))), ("w", .val (.int w))] (by walk_at "sub") ⟨_, ?_, rfl⟩
      rw [show xs.length - (i + 1) = xs.length - 1 - i by lia, pv_drop_step xs (by omega), show xs.length - 1 - i + 1 = xs.length - i by lia, ← hv, hx, Nat.mul_comm, Nat.add_comm]
    · rintro _ ⟨v, hv, rfl⟩
      rw [List.length_reverse, Nat.sub_self, List.drop_zero, pn] at hv
      subst hv
      walk_at "ret"
      rfl
theorem law_gcd_ok {a b : Nat} : FN T "_law_gcd" 0 [.int a, .int b] (.int (Nat.gcd a b : Nat)) := by
  refine FN.of (d := dAt 52) ["a", "b"] (dAt_mem rfl) (fun pm code doc vs hv => ?_) rfl (by decide) (by decide) (by decide) rfl rfl rfl fun C hC => ?_
  · revert vs; refine lens2 ?_ rfl; intros; rfl
  · show EX _ _ [("a", .val (.int a)), ("b", .val (.int b))] _ _
    refine EX.while (fun k ρ' => ∃ x y, Nat.gcd x y = Nat.gcd a b ∧ x + y = k ∧ ρ' = ([("a", .val (.int (x : Nat))), ("b", .val (.int (y : Nat)))] : Loc)) (a + b) ⟨a, b, rfl, rfl, rfl⟩ ?_
    rintro k _ ⟨x, y, hg, hk, rfl⟩
    refine ⟨decide ((0 : Int) < x) && (decide ((0 : Int) < y) && true), by walk_at "et", fun hb => ?_, fun hb => ?_⟩
    · simp only [Bool.and_eq_true, decide_eq_true_eq, Bool.and_true] at hb
      refine EX.ite (b := decide ((y : Int) < x)) (by walk_at "et") (fun h => ?_) fun h => ?_
      · have h : y < x := by simpa using h
        have ml := Nat.mod_lt x (show y > 0 by lia)
        walk_at "st"
        refine EX.nil ?_
        refine EX.turn [("a", .val (.int (x % y : Nat))), ("b", .val (.int y))] (by walk_at "sub") ⟨x % y + y, by lia, x % y, y, ?_, rfl, rfl⟩
        rw [← hg, Nat.gcd_comm x y, Nat.gcd_rec y x]
      · have h : x ≤ y := by simpa using h
        have ml := Nat.mod_lt y (show x > 0 by lia)
        walk_at "st"
        refine EX.nil ?_
        refine EX.turn [("a", .val (.int x)), ("b", .val (.int (y % x : Nat)))] (by walk_at "sub") ⟨x + y % x, by lia, x, y % x, ?_, rfl, rfl⟩
        rw [← hg, Nat.gcd_rec x y, Nat.gcd_comm]
    · have hz : x = 0 ∨ y = 0 := by
        simp only [Bool.and_true, Bool.and_eq_false_iff, decide_eq_false_iff_not] at hb; lia
      walk_at "ret"
      refine vI ?_
      rcases hz with rfl | rfl
      · rw [Nat.gcd_zero_left] at hg; lia
      · rw [Nat.gcd_zero_right] at hg; lia
theorem law_signed_ok {w : Nat} {z : Int} (hw : 1 ≤ w) (hw' : w ≤ 20) (hz : z.natAbs ≤ 2 ^ 60) : FN T "_law_signed" 1 [Z w z, .int w] (.int z) := by
  have lp := law_plain_ok (T := T) hw hw' hz
  refine FN.of (d := dAt 53) ["x", "w"] (dAt_mem rfl) (fun pm code doc vs hv => ?_) rfl (by decide) (by decide) (by decide) rfl rfl rfl fun C hC => ?_
  · revert vs; refine lens2 ?_ rfl; intros; rfl
  · show EX _ _ [("x", .val (Z w z)), ("w", .val (.int w))] _ _
    walk_at "ret"
    refine vI ?_
    by_cases q : z < 0
    · rw [if_pos (decide_eq_true q)]; lia
    · rw [if_neg (by simpa using q)]; lia
end
section
variable {T : Tp} {C : Cx T} {ρ : Loc}
theorem law_ext_right_ok {w one other : Nat} (hw : 1 ≤ w) (hw' : w ≤ 20) (h1 : one ≤ 2 ^ 20) (h2 : other ≤ 2 ^ 20) : FN T "_law_ext_right" 9 [.int one, .int other, .int w] (.bool true) := by
  have r1 := law_row_ok (T := T) hw hw' (lo_sm (show one ≤ 2 ^ 30 by lia))
  have r2 := law_row_ok (T := T) hw hw' (lo_sm (show other ≤ 2 ^ 30 by lia))
  have ge := gcd_ext_ok (T := T) hw hw' (show one ≤ 2 ^ 28 by lia) (show other ≤ 2 ^ 28 by lia)
  have lg := law_gcd_ok (T := T) (a := one) (b := other)
  have gle : Nat.gcd one other ≤ 2 ^ 20 := by
    rcases Nat.eq_zero_or_pos one with h | h
    · rw [h, Nat.gcd_zero_left]; exact h2
    · exact Nat.le_trans (Nat.gcd_le_left _ h) h1
  refine FN.of (d := dAt 54) ["one", "other", "w"] (dAt_mem rfl) (fun pm code doc vs hv => ?_) rfl (by decide) (by decide) (by decide) rfl rfl rfl fun C hC => ?_
  · revert vs; refine lens3 ?_ rfl; intros; rfl
  · show EX _ _ [("one", .val (.int one)), ("other", .val (.int other)), ("w", .val (.int w))] _ _
    refine EX.tupR rfl rfl (by walk_at "evr") rfl rfl fun x hx => ?_
    obtain ⟨s, t, rfl, gx⟩ := hx
    refine ⟨_, rfl, rfl, ?_⟩
    obtain ⟨bs, bt⟩ := gx.bound
    have ls := law_signed_ok (T := T) (z := s) hw hw' (by lia)
    have lt := law_signed_ok (T := T) (z := t) hw hw' (by lia)
    have rg := law_row_ok (T := T) hw hw' (lo_sm (show Nat.gcd one other ≤ 2 ^ 30 by lia))
    have rs := law_row_ok (T := T) hw hw' (lo_sm (show s.natAbs ≤ 2 ^ 30 by lia))
    have rt := law_row_ok (T := T) hw hw' (lo_sm (show t.natAbs ≤ 2 ^ 30 by lia))
    have bz := gx.bz
    obtain ⟨g, hg⟩ : ∃ g, g = Nat.gcd one other := ⟨_, rfl⟩
    rw [← hg] at lg gle rg bz ⊢
    refine EX.sub (ρ' := [("g", .val (R w g)), ("s", .val (Z w s)), ("t", .val (Z w t)), ("one", .val (.int one)), ("other", .val (.int other)), ("w", .val (.int w))]) (by walk_at "sub") ?_
    walk_at "st"
    refine EX.sub (ρ' := [("due", .val (.int g)), ("here", .val (.int s)), ("there", .val (.int t)), ("g", .val (R w g)), ("s", .val (Z w s)), ("t", .val (Z w t)), ("one", .val (.int one)), ("other", .val (.int other)), ("w", .val (.int w))]) (by walk_at "sub") ?_
    refine EX.iteF (b := false || (false || (false || false))) (by walk_at "et") rfl (EX.thenEnd ?_)
    refine EX.iteF (b := !decide ((one : Int) * s + other * t = g)) (by walk_at "et") (by rw [decide_eq_true bz]; rfl) (EX.thenEnd ?_)
    refine EX.ite (b := decide ((one : Int) = other) || (decide ((one : Int) = 0) || (decide ((other : Int) = 0) || false))) (by walk_at "et") (fun h => ?_) fun h => EX.thenEnd ?_
    · refine EX.retv (EV.cmp (by walk_at "ev") (by walk_at "ev") (CmV.eq_of ?_ rfl) rfl) rfl (fun ρ' => ⟨ρ', .inl rfl⟩)
      have key : s = (if decide ((other : Int) = 0) && decide ((0 : Int) < one) then 1 else 0) ∧ t = (if decide ((0 : Int) < other) then 1 else 0) := by
        rcases Nat.eq_zero_or_pos one with q | q
        · obtain ⟨e1, e2⟩ := gx.z1 q
          rw [e1, e2, decide_eq_false (show ¬ (0 : Int) < one by lia), Bool.and_false]
          refine ⟨rfl, ?_⟩
          by_cases c : 0 < other
          · rw [if_pos c, if_pos (decide_eq_true (by lia))]
          · rw [if_neg c, if_neg (by simpa using c)]
        · rcases Nat.eq_zero_or_pos other with r | r
          · obtain ⟨e1, e2⟩ := gx.z2 q r
            rw [e1, e2, if_pos (by rw [decide_eq_true (show (other : Int) = 0 by lia), decide_eq_true (show (0 : Int) < one by lia)]; rfl), if_neg (by simp only [decide_eq_true_eq]; lia)]
            exact ⟨rfl, rfl⟩
          · have e : one = other := by
              simp only [Bool.or_false, Bool.or_eq_true, decide_eq_true_eq] at h; lia
            obtain ⟨e1, e2⟩ := gx.eq q e
            rw [e1, e2, if_neg (by rw [decide_eq_false (show ¬ (other : Int) = 0 by lia)]; simp), if_pos (decide_eq_true (by lia))]
            exact ⟨rfl, rfl⟩
      rw [← key.1, ← key.2]
    · simp only [Bool.or_false, Bool.or_eq_false_iff, decide_eq_false_iff_not] at h
      have ne : one ≠ other := by lia
      have p1 : 0 < one := by lia
      have p2 : 0 < other := by lia
      obtain ⟨t1, t2⟩ := gx.two p1 p2 ne
      obtain ⟨l1, l2⟩ := gx.le p1 p2 ne
      rw [← hg] at t1 t2 l1 l2
      refine EX.iteF (b := (decide ((other : Int) = (2 * g : Nat)) && (!decide (s = 1) && true)) || ((decide ((one : Int) = (2 * g : Nat)) && (!decide (t = 1) && true)) || false)) (by walk_at "et") ?_ (EX.thenEnd ?_)
      · rw [Bool.or_false, Bool.or_eq_false_iff]
        constructor
        · by_cases q : other = 2 * g
          · rw [decide_eq_true (t1 q)]; simp
          · rw [decide_eq_false (show ¬ (other : Int) = (2 * g : Nat) by lia)]; rfl
        · by_cases q : one = 2 * g
          · rw [decide_eq_true (t2 q)]; simp
          · rw [decide_eq_false (show ¬ (one : Int) = (2 * g : Nat) by lia)]; rfl
      · have g64 : 2 * g ≤ 2 ^ 64 := by lia
        walk_at "ret"
        refine vB ?_
        rw [Bool.and_eq_true, decide_eq_true_eq, decide_eq_true_eq]
        omega
end
section
variable {T : Tp} {C : Cx T} {ρ : Loc}
theorem bl_max (a b : Nat) : bl (Max.max a b) = Max.max (bl a) (bl b) := by
  rcases Nat.le_total a b with h | h
  · have := bl_mono h; rw [Nat.max_eq_right h]; lia
  · have := bl_mono h; rw [Nat.max_eq_left h]; lia
theorem bl_min (a b : Nat) : bl (Min.min a b) = Min.min (bl a) (bl b) := by
  rcases Nat.le_total a b with h | h
  · have := bl_mono h; rw [Nat.min_eq_left h]; lia
  · have := bl_mono h; rw [Nat.min_eq_right h]; lia
noncomputable def rowVal (w : Nat) (r : List Int) : Int := (pv (2 ^ w) (r.map Int.toNat) : Nat)
theorem rowVal_dig {w n : Nat} (hw : 1 ≤ w) : rowVal w (rn (dig (2 ^ w) n)) = n := by
  unfold rowVal
  have : (rn (dig (2 ^ w) n)).map Int.toNat = dig (2 ^ w) n := by
    unfold rn
    rw [List.map_map]
    conv => rhs; rw [← List.map_id (dig (2 ^ w) n)]
    exact List.map_congr_left fun x _ => Int.toNat_natCast x
  rw [this, pv_dig (two_le_pow hw)]
theorem law_half_right_ok {w one other least : Nat} (hw : 1 ≤ w) (hw' : w ≤ 20) (h1 : one ≤ 2 ^ 20) (h2 : other ≤ 2 ^ 20) : FN T "_law_half_right" 60 [.int one, .int other, .int least, .int w] (.bool true) := by
  have r1 := law_row_ok (T := T) hw hw' (lo_sm (show one ≤ 2 ^ 30 by lia))
  have r2 := law_row_ok (T := T) hw hw' (lo_sm (show other ≤ 2 ^ 30 by lia))
  have b1 : bl one ≤ 21 := lt_bl.mpr (by lia)
  have b2 : bl other ≤ 21 := lt_bl.mpr (by lia)
  have hg := (half_gcd_ok (T := T) (least := least) hw hw' _ one other rfl (show one ≤ 2 ^ 30 by lia) (show other ≤ 2 ^ 30 by lia)).room (show 2 * Max.max (bl one) (bl other) + 10 ≤ 55 by lia)
  refine FN.half fun C hC hcl hcell => ?_
  have hcw : CellIs C "w" w := by
    obtain ⟨t, ht⟩ := hcell
    exact ⟨_, t, by rw [hcl]; rfl, ht⟩
  refine EX.tupR rfl rfl (by walk_at "evr") rfl rfl fun x hx => ?_
  obtain ⟨m, n, p, q, a, b, rfl, g, hres⟩ := hx
  refine ⟨_, rfl, rfl, ?_⟩
  have bnd : m ≤ 2 ^ 20 ∧ n ≤ 2 ^ 20 ∧ p ≤ 2 ^ 20 ∧ q ≤ 2 ^ 20 ∧ a ≤ 2 ^ 20 ∧ b ≤ 2 ^ 20 := by
    rcases hres with ⟨_, rfl, rfl, rfl, rfl, rfl, rfl⟩ | ⟨_, ha, hb, _⟩
    · lia
    · have := Nat.pow_pos (n := hlf one other) (show 0 < 2 by decide)
      obtain ⟨i1, i2, i3, i4, i5, i6⟩ := g.le (by lia) (by lia)
      lia
  obtain ⟨bm, bn, bp, bq, ba, bb⟩ := bnd
  have lp : ∀ {x}, x ≤ 2 ^ 20 → FN T "_law_plain" 0 [R w x, .int w] (.int x) := fun h => law_plain_ok hw hw' (by lia)
  have l1 := lp ba
  have l2 := lp bb
  obtain ⟨t, ht⟩ := hcell
  have henv : (C.env (dAt 56)) = { envOf (dAt 56).name (dAt 56).scope C.L C.fa C.cd with cells := [(("w" : PySem.Str), C.L + 1)] } := by
    show ({ envOf (dAt 56).name (dAt 56).scope C.L C.fa C.cd with cells := C.cl } : Env) = _
    rw [hcl]
  refine EX.sub (ρ' := [("matrix", .val (.tup ([rn (dig (2 ^ w) m), rn (dig (2 ^ w) n), rn (dig (2 ^ w) p), rn (dig (2 ^ w) q)].map V.row))), ("c", .val (R w a)), ("d", .val (R w b)), ("one", .val (.int one)), ("other", .val (.int other))]) (by walk_at "sub") ?_
  refine EX.step (ES.tupF rfl rfl (EF.comp (rows := [rn (dig (2 ^ w) m), rn (dig (2 ^ w) n), rn (dig (2 ^ w) p), rn (dig (2 ^ w) q)]) (f := rowVal w) (n := 0) (cl := [(("w" : PySem.Str), C.L + 1)]) rfl (by simp) (fun r hr => ?_) (by lia) ht (by rw [henv]; rfl) (by decide) rfl (by decide) rfl (fun _ => rfl) (fun _ => rfl) (fun _ => rfl) rfl (by decide) rfl (by decide) (by decide) (by decide) (fun _ => rfl)) rfl rfl rfl) ?_
  · simp only [List.mem_cons, List.not_mem_nil, or_false] at hr
    rcases hr with rfl | rfl | rfl | rfl
    · rw [rowVal_dig hw]; exact lp bm
    · rw [rowVal_dig hw]; exact lp bn
    · rw [rowVal_dig hw]; exact lp bp
    · rw [rowVal_dig hw]; exact lp bq
  clear lp
  refine EX.sub (ρ' := [("m", .val (.int m)), ("n", .val (.int n)), ("p", .val (.int p)), ("q", .val (.int q)), ("c", .val (R w a)), ("d", .val (R w b)), ("one", .val (.int one)), ("other", .val (.int other))]) (by
    rw [← rowVal_dig (n := m) hw, ← rowVal_dig (n := n) hw, ← rowVal_dig (n := p) hw, ← rowVal_dig (n := q) hw]
    walk_at "sub") ?_
  walk_at "st"
  refine EX.sub (ρ' := [("here", .val (.int a)), ("there", .val (.int b)), ("half", .val (.int (hlf one other : Nat))), ("m", .val (.int m)), ("n", .val (.int n)), ("p", .val (.int p)), ("q", .val (.int q)), ("one", .val (.int one)), ("other", .val (.int other))]) (by
    unfold hlf
    rw [← bl_max]
    walk_at "sub") ?_
  have e1 := g.det
  have e2 := g.one
  have e3 := g.two
  refine EX.iteF (b := (!decide (((m * q - n * p : Nat) : Int) = 1)) || ((!decide (((m * a + n * b : Nat) : Int) = one)) || ((!decide (((p * a + q * b : Nat) : Int) = other)) || false))) (by walk_at "et") ?_ (EX.thenEnd ?_)
  · rw [decide_eq_true (show ((m * q - n * p : Nat) : Int) = 1 by lia), decide_eq_true (show ((m * a + n * b : Nat) : Int) = one by lia), decide_eq_true (show ((p * a + q * b : Nat) : Int) = other by lia)]
    rfl
  refine EX.ite (b := decide ((bl (Min.min one other) : Int) ≤ (hlf one other : Nat))) (by walk_at "et") (fun h => ?_) fun h => EX.thenEnd ?_
  · have h : bl (Min.min one other) ≤ hlf one other := by simpa using h
    rw [bl_min] at h
    rcases hres with ⟨_, rfl, rfl, rfl, rfl, rfl, rfl⟩ | ⟨hlt, _⟩
    · refine EX.retv (EV.cmp (by walk_at "ev") (by walk_at "ev") (CmV.eq_self rfl) rfl) rfl (fun ρ' => ⟨ρ', .inl rfl⟩)
    · lia
  · have h : ¬ bl (Min.min one other) ≤ hlf one other := by simpa using h
    rw [bl_min] at h
    rcases hres with ⟨hle, _⟩ | ⟨_, ha, hb, hf⟩
    · lia
    · walk_at "ret"
      refine vB ?_
      have k1 : hlf one other < bl (Min.min a b) := by
        rw [bl_min]; have := le_bl.mpr ha; have := le_bl.mpr hb; lia
      have k2 : ((a : Int) - (b : Int)).natAbs = far a b := by unfold far; split <;> lia
      rw [k2, decide_eq_true (show ((hlf one other : Nat) : Int) < (bl (Min.min a b) : Nat) by lia), decide_eq_true (show (bl (far a b) : Int) ≤ (hlf one other : Nat) by lia)]
      rfl
end
section
variable {T : Tp} {C : Cx T} {ρ : Loc}
noncomputable def takeV (xs : List Nat) (k many : Nat) : Nat := match xs with
  | x :: _ => x % many
  | [] => (k * 4099 + 12301) % 1000003 / 16 % many
noncomputable def takeK (xs : List Nat) (k : Nat) : Nat := match xs with
  | _ :: _ => k
  | [] => (k * 4099 + 12301) % 1000003
theorem takeV_lt {xs : List Nat} {k many : Nat} (h : 0 < many) : takeV xs k many < many := by
  cases xs <;> exact Nat.mod_lt _ h
theorem takeK_lt {xs : List Nat} {k : Nat} (h : k < 1000003) : takeK xs k < 1000003 := by
  cases xs
  · exact Nat.mod_lt _ (by decide)
  · exact h
theorem law_take_ok {xs : List Nat} {k many : Nat} (hk : k < 1000003) (hm : 0 < many) (hz : xs.length ≤ 1000) : FNbox T "_law_take" 0 (rn xs) k [.int many] (rn xs.tail) (takeK xs k) (.int (takeV xs k many)) := by
  refine FNbox.of (d := dAt 48) "box" ["many"] (dAt_mem rfl) (fun pm code doc vs hv => ?_) rfl (by decide) (by decide) (by decide) rfl rfl rfl fun C a b hC => ?_
  · revert vs; refine lens2 ?_ rfl; intros; rfl
  · show EX _ _ [("box", .box a b (rn xs) k), ("many", .val (.int many))] _ _
    cases xs with
    | nil =>
      refine EX.iteF (b := decide ((0 : Int) < ([] : List Nat).length)) (by walk_at "et") (by decide) (EX.thenEnd ?_)
      have e1 : (((k : Int) * 4099 + 12301).fmod 1000003) = ((k * 4099 + 12301) % 1000003 : Nat) := by
        rw [Int.fmod_eq_emod_of_nonneg _ (by decide)]; lia
      refine EX.step (ES.setBox (v := ((k * 4099 + 12301) % 1000003 : Nat)) rfl (EV.toI (EV.bin (EV.bin (EV.bin (by walk_at "ev") EV.int (OpI.mulS (by lia) (by decide))) EV.int OpI.add) EV.int (OpI.mod (by decide))) e1) rfl (by decide) rfl) ?_
      obtain ⟨k2, hk2⟩ : ∃ k2, k2 = (k * 4099 + 12301) % 1000003 := ⟨_, rfl⟩
      have ev : takeV [] k many = k2 / 16 % many := by rw [takeV, ← hk2]
      have ek : takeK [] k = k2 := by rw [takeK, ← hk2]
      rw [← hk2, ev, ek]
      exact EX.ret (v := .int ((k2 / 16 % many : Nat) : Int)) (EV.bin (EV.bin (by walk_at "ev") EV.int (show OpI .FloorDiv (k2 : Int) 16 ((k2 / 16 : Nat) : Int) from OpI.fdivN (b := 16) (by decide) (by decide))) (by walk_at "ev") (OpI.modN (by lia))) ⟨_, rfl, rfl⟩
    | cons x r =>
      refine EX.iteT (b := decide ((0 : Int) < (x :: r).length)) (by walk_at "et") (by simp) ?_
      refine EX.retM (v := .int ((x % many : Nat) : Int)) (EM.bin (EM.pop (k := (k : Nat)) (x0 := (x : Nat)) (xs := rn r) rfl rfl (by decide) (by rw [rn_length]; simp at hz; lia) (fun _ _ => rfl) rfl) (EM.ev (by walk_at "ev")) (OpI.modN (by lia))) ⟨_, rfl, rfl⟩
end
section
variable {T : Tp} {C : Cx T} {ρ : Loc}
theorem inv_math {a m : Nat} {s t : Int} (h0 : 0 < m) (bz : ((a % m : Nat) : Int) * s + m * t = 1) : (m : Int) ∣ a * ((s % m).natAbs : Nat) - 1 := by
  have h1 : ((s % (m : Int)).natAbs : Int) = s % m := Int.natAbs_of_nonneg (Int.emod_nonneg _ (by lia))
  have h2 : s % (m : Int) = s - m * (s / m) := by have := Int.mul_ediv_add_emod s m; lia
  have h3 : (a : Int) = m * (a / m : Nat) + (a % m : Nat) := by have := Nat.div_add_mod a m; rw [← Int.natCast_mul, ← Int.natCast_add, this]
  rw [h1, h2]
  generalize s / (m : Int) = k
  generalize hq : ((a / m : Nat) : Int) = q at *
  generalize hr : ((a % m : Nat) : Int) = r at *
  rw [h3]
  exact ⟨q * s - q * m * k - r * k - t, by grind⟩
theorem inverse_facts {w a m : Nat} (hw : 1 ≤ w) (hw' : w ≤ 20) (ha : a ≤ 2 ^ 20) (hm : m ≤ 2 ^ 20) (h0 : 0 < m) :
    (dig (2 ^ w) m).length ≤ 200 ∧ (dig (2 ^ w) m).length ≠ 0 := by
  have hB := two_le_pow hw
  have h1 := (lo_sm (show m ≤ 2 ^ 30 by lia)).len hw
  have z1 : (dig (2 ^ w) m).length = 0 ↔ m = 0 := dig_nil_iff hB
  exact ⟨h1, by lia⟩
theorem inverse_mod_ok {w a m : Nat} (hw : 1 ≤ w) (hw' : w ≤ 20) (ha : a ≤ 2 ^ 20) (hm : m ≤ 2 ^ 20) (h0 : 0 < m) (hg : Nat.gcd a m = 1) :
    FNr T "inverse_mod" 8 [R w a, R w m, .int w, .fn "mul_school", .fn "divrem_school"] (fun x => ∃ told, x = R w told ∧ told < m ∧ (m : Int) ∣ a * (told : Nat) - 1) := by
  obtain ⟨lm, lm0⟩ := inverse_facts hw hw' ha hm h0
  have hgm : Nat.gcd (a % m) m = 1 := by rw [← Nat.gcd_rec, Nat.gcd_comm]; exact hg
  have mlt := Nat.mod_lt a h0
  have dv := divrem_school_ok (T := T) hw hw' (lo_150 (show a ≤ 2 ^ 30 by lia)) h0 (lo_150 (show m ≤ 2 ^ 30 by lia))
  have ge := gcd_ext_ok (T := T) (one := a % m) (other := m) hw hw' (by lia) (by lia)
  have sg := signed_ok (T := T) (w := w) (n := m) (b := false) (z := (m : Int)) hw (lo_sm (show m ≤ 2 ^ 30 by lia)) (.inr ⟨rfl, rfl⟩)
  have cm := compare_ok (T := T) (w := w) (a := 1) (b := 1) hw (lo_sm (by decide)) (lo_sm (by decide))
  rw [hgm] at ge
  refine FNr.of (d := dAt 38) ["a", "m", "w", "mul", "divrem"] (dAt_mem rfl) (fun pm code doc vs hv => ?_) rfl (by decide) (by decide) (by decide) rfl rfl rfl fun C hC => ?_
  · revert vs; refine lens5 ?_ rfl; intros; rfl
  · show EX _ _ [("a", .val (R w a)), ("m", .val (.row (rn (dig (2 ^ w) m)))), ("w", .val (.int w)), ("mul", .val (.fn "mul_school")), ("divrem", .val (.fn "divrem_school"))] _ _
    refine EX.iteF (b := decide (((dig (2 ^ w) m).length : Int) = 0)) (by walk_at "et") (decide_eq_false (by lia)) (EX.thenEnd ?_)
    refine EX.tupR rfl rfl (by walk_at "evr") rfl rfl fun x hx => ?_
    obtain ⟨s, t, rfl, gx⟩ := hx
    refine ⟨_, rfl, rfl, ?_⟩
    obtain ⟨bs, bt⟩ := gx.bound
    have bz := gx.bz
    rw [hgm] at bz
    have sm := s_mod_ok (T := T) (x := s) (y := (m : Int)) hw hw' (by lia) (by lia) (by lia)
    have cm' : FN T "compare" 0 [R w 1, .row [1], ] (.int (cmpI 1 1)) := by have := cm; rw [R_one hw] at this ⊢; exact this
    refine EX.sub (ρ' := [("g", .val (R w 1)), ("s", .val (Z w s)), ("m", .val (R w m)), ("w", .val (.int w)), ("divrem", .val (.fn "divrem_school"))]) (by walk_at "sub") ?_
    refine EX.iteF (b := !decide (cmpI 1 1 = 0)) (by walk_at "et") (by decide) (EX.thenEnd ?_)
    refine EX.retr (v := R w (s % (m : Int)).natAbs) (by walk_at "ev") ⟨_, rfl, ?_, inv_math h0 bz⟩
    have := Int.emod_lt_of_pos s (show (0 : Int) < m by lia)
    have := Int.emod_nonneg s (show (m : Int) ≠ 0 by lia)
    lia
theorem inverse_mod_raises {w a m : Nat} (hw : 1 ≤ w) (hw' : w ≤ 20) (ha : a ≤ 2 ^ 20) (hm : m ≤ 2 ^ 20) (h0 : 0 < m) (hg : Nat.gcd a m ≠ 1) {Cc : Addr} {bm : List Value} {newId initId B : String}
    (ho : OwnClsQ "NoInverse" Cc bm newId T.mg T.hg) (hf : ExcBaseFacts B newId initId bm) :
    FNe T "inverse_mod" 8 [R w a, R w m, .int w, .fn "mul_school", .fn "divrem_school"] Cc := by
  obtain ⟨lm, lm0⟩ := inverse_facts hw hw' ha hm h0
  have hgm : Nat.gcd (a % m) m = Nat.gcd a m := by rw [← Nat.gcd_rec, Nat.gcd_comm]
  have mlt := Nat.mod_lt a h0
  have gle : Nat.gcd a m ≤ m := Nat.gcd_le_right _ h0
  have dv := divrem_school_ok (T := T) hw hw' (lo_150 (show a ≤ 2 ^ 30 by lia)) h0 (lo_150 (show m ≤ 2 ^ 30 by lia))
  have ge := gcd_ext_ok (T := T) (one := a % m) (other := m) hw hw' (by lia) (by lia)
  have cm := compare_ok (T := T) (w := w) (a := Nat.gcd a m) (b := 1) hw (lo_sm (by lia)) (lo_sm (by decide))
  rw [hgm] at ge
  have hc : cmpI (Nat.gcd a m) 1 ≠ 0 := by unfold cmpI; rw [if_neg hg]; split <;> decide
  refine FNe.of (d := dAt 38) ["a", "m", "w", "mul", "divrem"] (dAt_mem rfl) (fun pm code doc vs hv => ?_) rfl (by decide) (by decide) (by decide) rfl rfl rfl fun C hC hcl => ?_
  · revert vs; refine lens5 ?_ rfl; intros; rfl
  · show EXe _ _ [("a", .val (R w a)), ("m", .val (.row (rn (dig (2 ^ w) m)))), ("w", .val (.int w)), ("mul", .val (.fn "mul_school")), ("divrem", .val (.fn "divrem_school"))] _ _
    refine EXe.iteF (b := decide (((dig (2 ^ w) m).length : Int) = 0)) (by walk_at "et") (decide_eq_false (by lia)) ?_
    refine EXe.tupR rfl rfl (by walk_at "evr") rfl rfl fun x hx => ?_
    obtain ⟨s, t, rfl, gx⟩ := hx
    refine ⟨_, rfl, rfl, ?_⟩
    have cm' : FN T "compare" 0 [R w (Nat.gcd a m), .row [1]] (.int (cmpI (Nat.gcd a m) 1)) := by have := cm; rw [R_one hw] at this; exact this
    clear cm
    exact EXe.raise (b := !decide (cmpI (Nat.gcd a m) 1 = 0)) (by walk_at "et") (by rw [decide_eq_false hc]; rfl) (by walk_at "ev") ho hf hcl rfl rfl
end
section
variable {T : Tp} {C : Cx T} {ρ : Loc}
theorem law_inverse_right_ok {w a m : Nat} (hw : 1 ≤ w) (hw' : w ≤ 20) (ha : a ≤ 2 ^ 20) (hm : m ≤ 2 ^ 20) (h0 : 0 < m) (hg : Nat.gcd a m = 1) : FN T "_law_inverse_right" 9 [.int a, .int m, .int w] (.bool true) := by
  have r1 := law_row_ok (T := T) hw hw' (lo_sm (show a ≤ 2 ^ 30 by lia))
  have r2 := law_row_ok (T := T) hw hw' (lo_sm (show m ≤ 2 ^ 30 by lia))
  have iv := inverse_mod_ok (T := T) hw hw' ha hm h0 hg
  have lg := law_gcd_ok (T := T) (a := a) (b := m)
  rw [hg] at lg
  refine FN.of (d := dAt 55) ["number", "modulus", "w"] (dAt_mem rfl) (fun pm code doc vs hv => ?_) rfl (by decide) (by decide) (by decide) rfl rfl rfl fun C hC => ?_
  · revert vs; refine lens3 ?_ rfl; intros; rfl
  · show EX _ _ [("number", .val (.int a)), ("modulus", .val (.int m)), ("w", .val (.int w))] _ _
    walk_at "st"
    refine EX.tryAssignR (by walk_at "evr") rfl rfl fun x hx => ?_
    obtain ⟨told, rfl, tlt, hdv⟩ := hx
    have lp := law_plain_ok (T := T) (n := told) hw hw' (by lia)
    have lr := law_row_ok (T := T) hw hw' (lo_sm (show told ≤ 2 ^ 30 by lia))
    refine EX.sub (ρ' := [("heard", .val (.row (rn (dig (2 ^ w) told)))), ("number", .val (.int a)), ("modulus", .val (.int m)), ("w", .val (.int w))]) (by walk_at "sub") ?_
    refine EX.iteF (b := !decide (((1 : Nat) : Int) = 1)) (by walk_at "et") (by decide) (EX.thenEnd ?_)
    refine EX.iteF (b := false) (by walk_at "et") rfl (EX.thenEnd ?_)
    refine EX.sub (ρ' := [("heard", .val (R w told)), ("number", .val (.int a)), ("modulus", .val (.int m)), ("w", .val (.int w))]) (by walk_at "sub") ?_
    walk_at "st"
    walk_at "ret"
    refine vB ?_
    have e : ((a * told : Nat) : Int) - 1 = a * (told : Nat) - 1 := by rw [Int.natCast_mul]
    rw [decide_eq_true (show (told : Int) < m by lia), Bool.true_and, Bool.true_and]
    refine decide_eq_true ?_
    rw [Int.fmod_eq_emod_of_nonneg _ (by lia), e]
    exact Int.emod_eq_zero_of_dvd hdv
end
section
variable {T : Tp} {C : Cx T} {ρ : Loc}
theorem ns_nf {h : Heap} {L : Addr} {m : PySem.Str → Option Value} (hn : h.Ns L m) : ∃ o, h.get? L = some o ∧ ∀ vs, o.data ≠ .fields vs := by
  obtain ⟨o, es, ep, ho, hd, r⟩ := hn
  exact ⟨o, ho, fun vs q => by rw [hd] at q; cases q⟩
theorem ns_at {h h' : Heap} {L : Addr} {m : PySem.Str → Option Value} (hn : h.Ns L m) (k : ∀ o, h.get? L = some o → h'.get? L = some o) : h'.Ns L m := by
  obtain ⟨o, es, ep, ho, r⟩ := hn
  exact ⟨o, es, ep, k o ho, r⟩
theorem law_inverse_right_raise {w a m : Nat} (hw : 1 ≤ w) (hw' : w ≤ 20) (ha : a ≤ 2 ^ 20) (hm : m ≤ 2 ^ 20) (h0 : 0 < m) (hg : Nat.gcd a m ≠ 1) : FNx T "_law_inverse_right" 9 [.int a, .int m, .int w] (.bool true) := by
  obtain ⟨Cc, bm, newId, initId, B, ho, hf, hbase⟩ := T.gd.noinv
  have r1 := law_row_ok (T := T) hw hw' (lo_sm (show a ≤ 2 ^ 30 by lia))
  have r2 := law_row_ok (T := T) hw hw' (lo_sm (show m ≤ 2 ^ 30 by lia))
  obtain ⟨⟨di, hdi, hni⟩, hfe⟩ := inverse_mod_raises (T := T) hw hw' ha hm h0 hg ho hf
  have lg := law_gcd_ok (T := T) (a := a) (b := m)
  have hd : dAt 55 ∈ defs := dAt_mem rfl
  refine ⟨⟨dAt 55, hd, rfl⟩, ?_⟩
  intro A s vs fa L0 env0 m0 Q E hK hfr hmod hf0 hns0 hL0 hh hdep hun hmg hr k
  obtain ⟨a', o, pm, code, doc, h1, h2, h3, h4⟩ := T.gd.fn (dAt 55) hd
  have e0 : T.mg "_law_inverse_right" = some (.ref a') := h1
  rw [e0] at hmg
  cases hmg
  match vs, hr with
  | [v1, v2, v3], ⟨q1, q2, q3, _⟩ =>
  obtain ⟨t1, rfl⟩ := q1.int_inv
  obtain ⟨t2, rfl⟩ := q2.int_inv
  obtain ⟨t3, rfl⟩ := q3.int_inv
  refine wpAny_call (codeAny_call_def (fd := docDef (dAt 55).name (dAt 55).params (dAt 55).body (dAt 55).scope pm code doc) (body := (dAt 55).body) (binds := [("number", .int a t1), ("modulus", .int m t2), ("w", .int w t3)]) (by lia) (hK _ _ h2) h3 (T.gd.lim.keeps hK) (h4.keeps hK) rfl (BindsTo.of_eq rfl) (show ∀ y ∈ (dAt 55).scope.names, y.2 ≠ .cell by decide)
    (fun y hy => ?_) (fun h₀ hns hk₀ => ?_) rfl rfl rfl)
  · simp only [List.mem_cons, List.not_mem_nil, or_false] at hy
    rcases hy with rfl | rfl | rfl <;> rfl
  have hdl : ∀ env : Env, (A.deeper env).depth = A.depth + 1 := fun _ => rfl
  have hul : ∀ env : Env, (A.deeper env).units = A.units + 3 := fun _ => rfl
  replace hk₀ : Keep s.heap h₀ := hk₀
  let hb0 : Heap := s.heap.update L0 fun o => { o with data := .freed }
  have gb : ∀ c, hb0.get? c = if c = L0 then none else s.heap.get? c := get?_hide s.heap L0
  have up0 : ∀ c o, c ≠ L0 → s.heap.get? c = some o → hb0.get? c = some o := fun c o n e => by rw [gb, if_neg n]; exact e
  have gb' : ∀ c o, hb0.get? c = some o → c ≠ L0 ∧ s.heap.get? c = some o := fun c o e => by
    rw [gb] at e
    split at e
    · cases e
    · exact ⟨by assumption, e⟩
  have L0lt : L0 < s.heap.objs.size := by obtain ⟨o, q, _⟩ := ns_nf hns0; exact Heap.lt_size q
  have hLne : s.heap.objs.size ≠ L0 := Nat.ne_of_gt L0lt
  obtain ⟨L, hL⟩ : ∃ L, L = s.heap.objs.size := ⟨_, rfl⟩
  let C : Cx T := { A := A.deeper (callEnv (docDef (dAt 55).name (dAt 55).params (dAt 55).body (dAt 55).scope pm code doc) s.heap.objs.size fa), hb := hb0, L := s.heap.objs.size, D := [L0], fa := fa, cd := code, room := 9, hh := hh, hle := fun c o e => up0 c o (fun q => by rw [q, hL0] at e; cases e) (hK c o e), hD := fun c hc => (by rw [List.mem_singleton.mp hc]; exact hL0), rm := by rw [hdl]; lia, un := by rw [hul]; lia }
  have S : St (dAt 55) C [("number", .val (.int a)), ("modulus", .val (.int m)), ("w", .val (.int w))] ⟨[], []⟩ { s with heap := h₀, toks := s.toks + 3 } (fun y => ([("number", Value.int a t1), ("modulus", .int m t2), ("w", .int w t3)] : List (PySem.Str × Value)).reverse.lookup y) := by
    refine ⟨rfl, ⟨hns, fun b o e => hk₀ b o (gb' b o e).2, by show hb0.get? s.heap.objs.size = none; rw [gb]; split; rfl; exact get_size _⟩, fun y lv e => ?_, fun y z lv lv' ne e e' ho => ?_, fun b hb => ?_, fun b hb => ?_, fun b hb => ?_⟩
    · rcases lookup_cons_cases e with ⟨rfl, rfl⟩ | ⟨_, e⟩
      · exact ⟨.int a t1, rfl, .int _ _⟩
      · rcases lookup_cons_cases e with ⟨rfl, rfl⟩ | ⟨_, e⟩
        · exact ⟨.int m t2, rfl, .int _ _⟩
        · rcases lookup_cons_cases e with ⟨rfl, rfl⟩ | ⟨_, e⟩
          · exact ⟨.int w t3, rfl, .int _ _⟩
          · cases e
    · rcases lookup_cons_cases e with ⟨rfl, rfl⟩ | ⟨_, e⟩
      · cases ho
      · rcases lookup_cons_cases e with ⟨rfl, rfl⟩ | ⟨_, e⟩
        · cases ho
        · rcases lookup_cons_cases e with ⟨rfl, rfl⟩ | ⟨_, e⟩
          · cases ho
          · cases e
    · rcases hb with hb | hb <;> cases hb
    · cases hb
    · show h₀.get? b ≠ none
      rcases mem_hid.mp hb with q | q | q | q
      · obtain ⟨o', q', _⟩ := ns_nf hns
        rw [show b = s.heap.objs.size from q, q']; exact fun z => nomatch z
      · cases q
      · cases q
      · rw [List.mem_singleton.mp q]
        obtain ⟨o, q, _⟩ := ns_nf hns0
        rw [hk₀ _ _ q]; exact fun z => nomatch z
  have hC : C.room = 9 := rfl
  have hCu : C.A.units = A.units + 3 := rfl
  have hCd : C.A.depth = A.depth + 1 := rfl
  have hCfr : C.A.frames = some [C.env (dAt 55), env0] := Around.frames_deeper hfr
  have n0 : h₀.Ns L0 m0 := hns0.keeps hk₀
  -- the string
  refine wpAny_execs_cons (wpAny_Assign_Name (wpAny_Constant_str (S.keep (s' := { s with heap := h₀, toks := s.toks + 3 + 1 }) (Keep.refl _) |>.store (.str "none" _) rfl fun h1 k1 sb1 S1 y1 => ?_)) rfl)
  have n1 : h1.Ns L0 m0 := n0.sameBut sb1 (Ne.symm hLne)
  -- the call
  refine wpAny_execs_cons (wpAny_Try_except (wpAny_execs_cons (wpAny_Assign_Name (Call_ ((EV.gdef (d := dAt 55) (C := C) ⟨di, hdi, hni⟩ rfl (by decide)).run _ _ _ _ _ S1 fun v h2 k2 K2 rv => ?_) rfl) rfl)))
  obtain ⟨fi, rfl, hmi⟩ := rv.fn_inv
  obtain ⟨fi', oi, pmi, cdi, dci, i1, i2, i3, i4⟩ := T.gd.fn di hdi
  rw [hni, hmi] at i1
  cases i1
  have S2 := S1.keep (s' := { s with heap := h2, toks := k2 }) K2
  refine callWith_def i3 (EVs.run (xs := [R w a, R w m, .int w, .fn "mul_school", .fn "divrem_school"]) (by walk_at "evs") _ _ _ _ _ _ S2 fun ws h3 k3 K3 rw3 => ?_) rfl
  have S3 := S2.keep (s' := { s with heap := h3, toks := k3 }) K3
  refine ⟨S3.hg _ _ i2, ?_⟩
  have n3 : h3.Ns L0 m0 := (n1.keeps K2).keeps K3
  have nL3 := S3.fr.ns
  let base : Heap := (h3.update L0 fun o => { o with data := .freed }).update C.L fun o => { o with data := .freed }
  have bb : ∀ c, base.get? c = if c = C.L then none else if c = L0 then none else h3.get? c := fun c => by
    show ((h3.update L0 fun o => { o with data := .freed }).update C.L fun o => { o with data := .freed }).get? c = _
    rw [get?_hide, get?_hide]
  have bup : ∀ c o, c ≠ C.L → c ≠ L0 → h3.get? c = some o → base.get? c = some o := fun c o x y e => by rw [bb, if_neg x, if_neg y]; exact e
  have KB : Below C.A base [C.env (dAt 55), env0] h3 := by
    refine ⟨hCfr, fun c o e => ?_, ?_⟩
    · rw [bb] at e
      split at e
      · cases e
      · split at e
        · cases e
        · exact e
    · obtain ⟨oL, eL, fL⟩ := ns_nf nL3
      obtain ⟨o0, e0', f0⟩ := ns_nf n3
      exact ⟨(show (dAt 55).scope.kind ≠ .module by decide), ⟨C.L, oL, rfl, by rw [bb, if_pos rfl], eL, fL⟩, hmod, ⟨L0, o0, hf0, by rw [bb, if_neg (Ne.symm hLne), if_pos rfl], e0', f0⟩, trivial⟩
  refine hfe C.A _ ws fi base _ _ _ S3.hg KB C.hh (by rw [hCd]; lia) (by rw [hCu]; lia) hmi (reps_nil rw3) fun e t h4 k4 hfl hup => ?_
  refine wpAny_looks_onW hCfr rfl hfl fun h5 hheld hup5 => ?_
  refine wpAny_landsW hheld fun h6 hfl6 hup6 => ?_
  have kb6 : Keep T.hg h6 := fun c o e => hfl6.1 c o (bup c o (fun q => by rw [q, (S3.hidn C.L St.Lhid).1] at e; cases e) (fun q => by rw [q, hL0] at e; cases e) (S3.hg c o e))
  refine handleBy_own hbase (Name_function_global (env := C.env (dAt 55)) rfl rfl (loadGlobal_global (env := C.env (dAt 55)) (T.gd.g.keeps kb6) ho.bound ⟨rfl, ho.keeps kb6, hfl6.there, ?_⟩) (by decide))
  refine lands_againW hfl6 fun h7 hfl7 hup7 => ?_
  have U37 : h3.UpToSlots h7 := ((hup.trans hup5).trans hup6).trans hup7
  have S7 : St (dAt 55) C [("heard", .val (.str "none")), ("number", .val (.int a)), ("modulus", .val (.int m)), ("w", .val (.int w))] ⟨[], []⟩ { s with heap := h7, toks := k4 } _ := S3.land (h' := h7) (tk := k4) (fun c o nc e => hfl7.1 c o (bup c o (fun q => nc (q ▸ St.Lhid)) (fun q => nc (q ▸ mem_hid.mpr (.inr (.inr (.inr (.head _)))))) e)) U37 (fun c hc => by
    rw [List.mem_singleton.mp hc]
    refine ⟨by show hb0.get? L0 = none; rw [gb, if_pos rfl], ?_⟩
    obtain ⟨o, q, _⟩ := ns_nf (U37.ns n3)
    rw [q]; exact fun z => nomatch z)
  have n7 : h7.Ns L0 m0 := U37.ns n3
  refine wpAny_execs_cons (wpAny_Assign_Name (wpAny_Constant_str (S7.keep (s' := { s with heap := h7, toks := k4 + 1 }) (Keep.refl _) |>.store (.str "none" _) rfl fun h8 k8 sb8 S8 y8 => wpAny_execs_nil ?_)) rfl)
  have n8 : h8.Ns L0 m0 := n7.sameBut sb8 (Ne.symm hLne)
  have hrest : EX (dAt 55) C [("heard", .val (.str "none")), ("number", .val (.int a)), ("modulus", .val (.int m)), ("w", .val (.int w))] ((dAt 55).body.drop 2) (RetIs (.bool true)) := by
    refine EX.iteT (b := !decide (((Nat.gcd a m : Nat) : Int) = 1)) (by walk_at "et") (by rw [decide_eq_false (by lia)]; rfl) ?_
    refine EX.retv (EV.cmp (by walk_at "ev") (by walk_at "ev") (CmV.str_str) rfl) rfl (fun ρ' => ⟨ρ', .inl rfl⟩)
  refine (EX.sub (by walk_at "sub") hrest).run ⟨[], []⟩ _ _ _ _ S8 fun f ou O' h9 k9 hΦ ho9 y9 => ?_
  have n9 : h9.Ns L0 m0 := ns_at n8 fun o e => (y9.1 L0 o (fun q => by
    rcases List.mem_cons.mp q with q | q
    · exact hLne q.symm
    · cases q) e).2
  obtain ⟨ρ', hΦ⟩ := hΦ
  rcases hΦ with rfl | ⟨_, hb⟩
  · obtain ⟨v, m', rfl, r, S'⟩ := ho9
    obtain rfl := r.bool_inv
    exact k _ h9 k9 (fun c o nc e => S'.fr.keep c o (up0 c o nc e)) n9 (.bool _)
  · cases hb
end
section
variable {T : Tp} {C : Cx T} {ρ : Loc}
noncomputable def bk (l : List Int) : Nat := l.foldl (fun k n => (k * 37 + n.natAbs) % 1000003) 19
theorem bk_lt (l : List Int) : bk l < 1000003 := by
  have key : ∀ (l : List Int) (k : Nat), k < 1000003 → l.foldl (fun k n => (k * 37 + n.natAbs) % 1000003) k < 1000003 := by
    intro l
    induction l with
    | nil => intro k h; exact h
    | cons x r ih => intro k h; exact ih _ (Nat.mod_lt _ (by decide))
  exact key l 19 (by decide)
theorem bk_snoc (l : List Int) (n : Int) : bk (l ++ [n]) = (bk l * 37 + n.natAbs) % 1000003 := by
  unfold bk; rw [List.foldl_append]; rfl
noncomputable def bx (ns : List Int) : List Nat := (ns.take 24).map Int.natAbs
theorem law_box_ok {ns : List Int} (hz : ns.length ≤ 1000) : FNnb T "_law_box" 0 [.row ns] (rn (bx ns)) (bk (ns.take 24)) := by
  refine FNnb.of (d := dAt 49) ["script"] (dAt_mem rfl) (fun pm code doc vs hv => ?_) rfl (by decide) (by decide) (by decide) rfl rfl rfl fun C hC hcl => ?_
  · revert vs; refine lens1 ?_ rfl; intros; rfl
  · show EX _ _ [("script", .val (.row ns))] _ _
    have henv : (C.env (dAt 49)) = envOf (dAt 49).name (dAt 49).scope C.L C.fa C.cd := by
      show ({ envOf (dAt 49).name (dAt 49).scope C.L C.fa C.cd with cells := C.cl } : Env) = _
      rw [hcl]; rfl
    have hrn : (ns.take 24).map (fun i => ((i.natAbs : Nat) : Int)) = rn (bx ns) := by unfold bx rn; rw [List.map_map]; rfl
    have hlen : (ns.take 24).length ≤ 1000 := by rw [List.length_take]; lia
    refine ES.newBox (xs := rn (bx ns)) (k0 := 19) (by
        rw [← hrn]
        exact EF.compAbs (EF.cut24 (ER.val (by walk_at "ev")) (by lia) (fun _ _ => rfl)) hlen (by rw [henv]; rfl) (by decide) rfl (by decide) rfl (fun _ => rfl) (fun _ => rfl) (fun _ => rfl) (by decide) (fun _ => rfl)) EV.int (fun y l e => ?_) rfl rfl rfl rfl _ fun a b => ?_
    · rcases lookup_cons_cases e with ⟨rfl, rfl⟩ | ⟨_, e⟩
      · rfl
      · cases e
    refine EX.forRow (fun i ρ' => ∃ k : Nat, k = bk ((ns.take 24).take i) ∧ ρ' = ([("box", .box a b (rn (bx ns)) k), ("script", .val (.row ns))] : Loc)) (EV.ef (EF.cut24 (ER.val (by walk_at "ev")) (by lia) (fun _ _ => rfl))) rfl (fun _ => rfl) ⟨19, rfl, rfl⟩ ?_ ?_
    · rintro i _ hi ⟨k, hk, rfl⟩
      have kl := bk_lt ((ns.take 24).take i)
      rw [← hk] at kl
      obtain ⟨n, hn⟩ : ∃ n, n = (ns.take 24).getD i 0 := ⟨_, rfl⟩
      rw [← hn]
      have e1 : ((k : Int) * 37 + (n.natAbs : Nat)).fmod 1000003 = ((k * 37 + n.natAbs) % 1000003 : Nat) := by
        rw [Int.fmod_eq_emod_of_nonneg _ (by decide)]; lia
      refine EX.step (ES.setBox (v := ((k * 37 + n.natAbs) % 1000003 : Nat)) rfl (EV.toI (EV.bin (EV.bin (EV.bin (by walk_at "ev") EV.int (OpI.mulS (by lia) (by decide))) (EV.abs (EV.intI (by walk_at "ev") rfl rfl rfl) rfl rfl rfl) OpI.add) EV.int (OpI.mod (by decide))) e1) rfl (by decide) rfl) ?_
      refine EX.turn [("box", .box a b (rn (bx ns)) ((k * 37 + n.natAbs) % 1000003 : Nat)), ("script", .val (.row ns))] (by walk_at "sub") ⟨_, ?_, rfl⟩
      rw [List.take_add_one, List.getElem?_eq_getElem hi]
      simp only [Option.toList_some]
      rw [bk_snoc, ← hk, hn, List.getD_eq_getElem?_getD, List.getElem?_eq_getElem hi]; rfl
    · rintro _ ⟨k, hk, rfl⟩
      rw [List.take_length] at hk
      subst hk
      exact EX.ret (EV.boxName rfl rfl (by decide)) ⟨a, b, _, "box", rfl, rfl⟩
end
section
variable {T : Tp} {C : Cx T} {ρ : Loc}
theorem law_inverse_x {w a m : Nat} (hw : 1 ≤ w) (hw' : w ≤ 20) (ha : a ≤ 2 ^ 20) (hm : m ≤ 2 ^ 20) (h0 : 0 < m) : FNx T "_law_inverse_right" 9 [.int a, .int m, .int w] (.bool true) := by
  by_cases hg : Nat.gcd a m = 1
  · exact (law_inverse_right_ok hw hw' ha hm h0 hg).toX
  · exact law_inverse_right_raise hw hw' ha hm h0 hg

theorem law_body {ns : List Int} (hz : ns.length ≤ 1000) {C : Cx T} (hC : C.room = 70) (hfr : C.A.frames = some [C.env (dAt 57)]) : EX (dAt 57) C [("script", .val (.row ns))] (dAt 57).body (RetIs (.bool true)) := by
  have lb := law_box_ok (T := T) hz
  refine EX.callNewBox (by walk_at "evs") lb rfl (by lia) (by decide) (fun y l e => ?_) rfl rfl rfl rfl _ fun a b => ?_
  · rcases lookup_cons_cases e with ⟨rfl, rfl⟩ | ⟨_, e⟩
    · rfl
    · cases e
  clear lb
  -- the draws
  obtain ⟨xs, hxs⟩ : ∃ xs, xs = bx ns := ⟨_, rfl⟩
  obtain ⟨k, hk⟩ : ∃ k, k = bk (ns.take 24) := ⟨_, rfl⟩
  have kl : k < 1000003 := hk ▸ bk_lt _
  have xl : xs.length ≤ 1000 := by rw [hxs]; unfold bx; simp; lia
  rw [← hxs, ← hk]
  clear hxs hk
  have tl : ∀ l : List Nat, l.length ≤ 1000 → l.tail.length ≤ 1000 := fun l h => by simp; lia
  -- w
  have t1 := law_take_ok (T := T) (many := 8) kl (by decide) xl
  have v1 := takeV_lt (xs := xs) (k := k) (show 0 < 8 by decide)
  generalize takeV xs k 8 = d1 at *
  have k1 := takeK_lt (xs := xs) kl
  have x1 := tl xs xl
  generalize takeK xs k = kb at *
  generalize xs.tail = xb at *
  refine EX.step (ES.assignM (EM.to (EM.bin (EM.ev EV.int) (by walk_at "em") OpI.add) (vI (show (2 : Int) + (d1 : Nat) = ((2 + d1 : Nat) : Int) by lia))) rfl rfl) ?_
  obtain ⟨w, hw⟩ : ∃ w, w = 2 + d1 := ⟨_, rfl⟩
  rw [← hw]
  refine EX.sub (ρ' := [("box", .box a b (rn xb) kb), ("w", .val (.int w))]) (by walk_at "sub") ?_
  have w1 : 1 ≤ w := by lia
  have w2 : w ≤ 20 := by lia
  clear t1 hw v1 d1 kl xl k xs
  -- shared, one, other
  have t1 := law_take_ok (T := T) (many := 30) k1 (by decide) x1
  have v1 := takeV_lt (xs := xb) (k := kb) (show 0 < 30 by decide)
  generalize takeV xb kb 30 = d1 at *
  have k2 := takeK_lt (xs := xb) k1
  have x2 := tl xb x1
  generalize takeK xb kb = kc at *
  generalize xb.tail = xc at *
  have t2 := law_take_ok (T := T) (many := 600) k2 (by decide) x2
  have v2 := takeV_lt (xs := xc) (k := kc) (show 0 < 600 by decide)
  generalize takeV xc kc 600 = d2 at *
  have k3 := takeK_lt (xs := xc) k2
  have x3 := tl xc x2
  generalize takeK xc kc = kd at *
  generalize xc.tail = xd at *
  have t3 := law_take_ok (T := T) (many := 600) k3 (by decide) x3
  have v3 := takeV_lt (xs := xd) (k := kd) (show 0 < 600 by decide)
  generalize takeV xd kd 600 = d3 at *
  have k4 := takeK_lt (xs := xd) k3
  have x4 := tl xd x3
  generalize takeK xd kd = ke at *
  generalize xd.tail = xe at *
  refine EX.step (ES.swapM rfl rfl (EM.tup (EMs.cons (EM.to (EM.bin (EM.ev EV.int) (by walk_at "em") OpI.add) (vI (show (1 : Int) + (d1 : Nat) = ((1 + d1 : Nat) : Int) by lia))) (EMs.cons (by walk_at "em") (EMs.cons (by walk_at "em") EMs.nil rfl) rfl) rfl) (by simp)) rfl rfl) ?_
  obtain ⟨sh, hsh⟩ : ∃ sh, sh = 1 + d1 := ⟨_, rfl⟩
  rw [← hsh]
  refine EX.sub (ρ' := [("box", .box a b (rn xe) ke), ("w", .val (.int w)), ("shared", .val (.int sh)), ("one", .val (.int d2)), ("other", .val (.int d3))]) (by walk_at "sub") ?_
  clear t1 t2 t3 k1 k2 k3 x1 x2 x3 xb xc xd kb kc kd
  -- form
  have t1 := law_take_ok (T := T) (many := 8) k4 (by decide) x4
  generalize takeV xe ke 8 = fm at *
  have k5 := takeK_lt (xs := xe) k4
  have x5 := tl xe x4
  generalize takeK xe ke = kb at *
  generalize xe.tail = xb at *
  walk_at "stm"
  clear t1 k4 x4
  obtain ⟨o2, ho2⟩ : ∃ o2, o2 = if fm = 0 then 0 else if fm = 1 then d2 else if fm = 2 then 2 else d3 := ⟨_, rfl⟩
  refine EX.join [("box", .box a b (rn xb) kb), ("w", .val (.int w)), ("shared", .val (.int sh)), ("one", .val (.int d2)), ("other", .val (.int o2))] (b := decide ((fm : Int) < 3)) (by walk_at "et") (fun h => ?_) (fun h => ?_) ?_
  · have h : fm < 3 := by simp only [decide_eq_true_eq] at h; lia
    have hv : ([0, (d2 : Int), 2] : List Int)[((fm : Nat) : Int).toNat]? = some (o2 : Int) := by
      have : fm = 0 ∨ fm = 1 ∨ fm = 2 := by lia
      rcases this with rfl | rfl | rfl <;> subst ho2 <;> rfl
    refine EX.step (ES.assign (EV.itemR (v := (o2 : Int)) (ER.ef (EF.list (xs := [0, (d2 : Int), 2]) (EVs.cons EV.int (EVs.cons (by walk_at "ev") (EVs.cons EV.int EVs.nil rfl) rfl) rfl) (by simp))) (by walk_at "ev") (by lia) hv (by lia) (fun _ _ => rfl)) rfl rfl) ?_
    exact EX.nextIs (by walk_at "sub")
  · have h : ¬ fm < 3 := by simp only [decide_eq_false_iff_not] at h; lia
    rw [if_neg (by lia), if_neg (by lia), if_neg (by lia)] at ho2
    subst ho2
    exact EX.nextIs (by walk_at "sub")
  · have b1 : d2 * sh ≤ 2 ^ 20 := Nat.le_trans (Nat.mul_le_mul (show d2 ≤ 600 by lia) (show sh ≤ 30 by lia)) (by decide)
    have o600 : o2 ≤ 600 := by rw [ho2]; split; lia; split; lia; split <;> lia
    have b2 : o2 * sh ≤ 2 ^ 20 := Nat.le_trans (Nat.mul_le_mul o600 (show sh ≤ 30 by lia)) (by decide)
    have e1 := law_ext_right_ok (T := T) w1 w2 b1 b2
    have e2 := law_ext_right_ok (T := T) w1 w2 b2 b1
    refine EX.iteF (b := (!true) || ((!true) || false)) (by walk_at "et") rfl (EX.thenEnd ?_)
    refine EX.sub (ρ' := [("box", .box a b (rn xb) kb), ("w", .val (.int w))]) (by walk_at "sub") ?_
    clear e1 e2 b1 b2 o600 ho2 o2 fm hsh sh v1 v2 v3 d1 d2 d3 xe ke
    -- the inverse
    have t1 := law_take_ok (T := T) (many := 5000) k5 (by decide) x5
    have v1 := takeV_lt (xs := xb) (k := kb) (show 0 < 5000 by decide)
    generalize takeV xb kb 5000 = d1 at *
    have k2 := takeK_lt (xs := xb) k5
    have x2 := tl xb x5
    generalize takeK xb kb = kc at *
    generalize xb.tail = xc at *
    have t2 := law_take_ok (T := T) (many := 1000) k2 (by decide) x2
    have v2 := takeV_lt (xs := xc) (k := kc) (show 0 < 1000 by decide)
    generalize takeV xc kc 1000 = d2 at *
    have k3 := takeK_lt (xs := xc) k2
    have x3 := tl xc x2
    generalize takeK xc kc = kd at *
    generalize xc.tail = xd at *
    have iv := law_inverse_x (T := T) (a := d1) (m := 1 + d2) w1 w2 (by lia) (by lia) (by lia)
    refine EX.iteM (b := !true) (EMT.not (EMT.val (EM.callX hfr (EMs.cons (by walk_at "em") (EMs.cons (EM.to (EM.bin (EM.ev EV.int) (by walk_at "em") OpI.add) (vI (show (1 : Int) + (d2 : Nat) = ((1 + d2 : Nat) : Int) by lia))) (EMs.cons (by walk_at "em") EMs.nil rfl) rfl) rfl) iv rfl (by lia) (by decide) rfl rfl) (fun _ => rfl))) (fun h => by cases h) (fun _ => EX.thenEnd ?_)
    refine EX.sub (ρ' := [("box", .box a b (rn xd) kd), ("w", .val (.int w))]) (by walk_at "sub") ?_
    clear iv t1 t2 v1 v2 d1 d2 k5 k2 x5 x2 xb xc kb kc
    -- the half
    have t1 := law_take_ok (T := T) (many := 17) k3 (by decide) x3
    have v1 := takeV_lt (xs := xd) (k := kd) (show 0 < 17 by decide)
    generalize takeV xd kd 17 = d1 at *
    have k4 := takeK_lt (xs := xd) k3
    have x4 := tl xd x3
    generalize takeK xd kd = kb at *
    generalize xd.tail = xb at *
    refine EX.step (ES.assignM (EM.bin (EM.ev EV.int) (EM.to (EM.bin (EM.ev EV.int) (by walk_at "em") OpI.add) (vI (show (2 : Int) + (d1 : Nat) = ((2 + d1 : Nat) : Int) by lia))) (OpI.shl1 (by lia))) rfl rfl) ?_
    obtain ⟨g, hg⟩ : ∃ g, g = 2 ^ (2 + d1) := ⟨_, rfl⟩
    have g1 : 0 < g := hg ▸ Nat.pow_pos (by decide)
    have g2 : g ≤ 2 ^ 18 := hg ▸ Nat.pow_le_pow_right (by decide) (by lia)
    rw [← hg]
    refine EX.sub (ρ' := [("great", .val (.int g)), ("box", .box a b (rn xb) kb), ("w", .val (.int w))]) (by walk_at "sub") ?_
    clear t1 v1 k3 x3 hg d1 xd kd
    have t1 := law_take_ok (T := T) (many := g) k4 g1 x4
    have v1 := takeV_lt (xs := xb) (k := kb) g1
    generalize takeV xb kb g = d1 at *
    have k2 := takeK_lt (xs := xb) k4
    have x2 := tl xb x4
    generalize takeK xb kb = kc at *
    generalize xb.tail = xc at *
    have t2 := law_take_ok (T := T) (many := g) k2 g1 x2
    have v2 := takeV_lt (xs := xc) (k := kc) g1
    generalize takeV xc kc g = d2 at *
    have k3 := takeK_lt (xs := xc) k2
    have x3 := tl xc x2
    generalize takeK xc kc = kd at *
    generalize xc.tail = xd at *
    have t3 := law_take_ok (T := T) (many := 12) k3 (by decide) x3
    generalize takeV xd kd 12 = d3 at *
    generalize takeK xd kd = ke at *
    generalize xd.tail = xe at *
    have hr := law_half_right_ok (T := T) (one := g + d1) (other := g / 2 + d2) (least := 4 + d3) w1 w2 (by lia) (by lia)
    refine EX.retM (EM.call (EMs.cons (EM.bin (EM.ev (by walk_at "ev")) (by walk_at "em") OpI.addN) (EMs.cons (EM.bin (EM.ev (by walk_at "ev")) (by walk_at "em") OpI.addN) (EMs.cons (EM.to (EM.bin (EM.ev EV.int) (by walk_at "em") OpI.add) (vI (show (4 : Int) + (d3 : Nat) = ((4 + d3 : Nat) : Int) by lia))) (EMs.cons (by walk_at "em") EMs.nil rfl) rfl) rfl) rfl) hr rfl (by lia) (by decide) rfl rfl) ⟨_, .inl rfl⟩
end
end Mine
theorem PySem.Challenge.cw_nn0036_01_holds : PySem.Challenge.rw_nn0036_01.Holds := by
  exact Mine.head fun h _ _ h1 h2 => Mine.law_body h h1 h2
