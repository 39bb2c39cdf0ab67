import PyProof.Rows.All
import Wide.All
import Open.Line
import Open.Boot
import Open.Seg
import OpenK.KCall
import KE.BitLaws
import KE.IntBitsLaws
import PySem.Challenge.RW_nn0019_01

set_option Elab.async false
set_option maxRecDepth 100000
set_option maxHeartbeats 4000000
set_option linter.unusedVariables false
namespace NN

/-! DG -/
/-! digits -/
noncomputable def nrm : List Int → List Int
  | [] => []
  | x :: r => match nrm r with
    | [] => if x = 0 then [] else [x]
    | q => x :: q

theorem nrm_zeros : ∀ {xs : List Int}, (∀ y ∈ xs, y = 0) → nrm xs = []
  | [], _ => rfl
  | x :: r, h => by
    have ih := nrm_zeros (xs := r) fun y hy => h y (.tail _ hy)
    have hx := h x (.head _)
    simp [nrm, ih, hx]
theorem nrm_last : ∀ {xs : List Int}, xs ≠ [] → xs.getLast? ≠ some 0 → nrm xs = xs
  | [], h, _ => absurd rfl h
  | [x], _, h => by
    simp only [List.getLast?_singleton, ne_eq, Option.some.injEq] at h
    simp [nrm, h]
  | x :: y :: r, _, h => by
    have ih := nrm_last (xs := y :: r) (by simp) (by simpa using h)
    simp only [nrm] at ih ⊢
    rw [ih]
theorem nrm_append_zeros : ∀ (xs zs : List Int), (∀ y ∈ zs, y = 0) → nrm (xs ++ zs) = nrm xs
  | [], zs, h => by rw [List.nil_append, nrm_zeros h]; rfl
  | x :: r, zs, h => by
    rw [List.cons_append]
    simp only [nrm]
    rw [nrm_append_zeros r zs h]
theorem nrm_take {xs : List Int} {e : Nat} (hz : ∀ y ∈ xs.drop e, y = 0) (hl : e = 0 ∨ xs.getD (e - 1) 0 ≠ 0) (hle : e ≤ xs.length) : nrm xs = xs.take e := by
  have h1 : nrm xs = nrm (xs.take e) := by
    have := nrm_append_zeros (xs.take e) (xs.drop e) hz
    rwa [List.take_append_drop] at this
  rw [h1]
  rcases hl with rfl | hl
  · simp [nrm]
  · by_cases he : e = 0
    · subst he; simp [nrm]
    · have hlen : (xs.take e).length = e := by rw [List.length_take]; (first | lia | omega)
      refine nrm_last (fun h => by rw [h] at hlen; simp at hlen; (first | lia | omega)) ?_
      rw [List.getLast?_eq_getElem?, hlen, List.getElem?_take, if_pos (by (first | lia | omega))]
      intro h
      exact hl (by rw [List.getD_eq_getElem?_getD, h]; rfl)

noncomputable def val (B : Nat) : List Int → Int
  | [] => 0
  | x :: r => x + B * val B r
noncomputable def Dig (B : Nat) (xs : List Int) : Prop := ∀ x ∈ xs, 0 ≤ x ∧ x < (B : Int)

noncomputable def dg (B N : Nat) : List Int := if _h : 2 ≤ B ∧ 0 < N then ((N % B : Nat) : Int) :: dg B (N / B) else []
termination_by N
decreasing_by exact Nat.div_lt_self _h.2 _h.1

theorem Dig.nil {B : Nat} : Dig B [] := fun _ h => nomatch h
theorem Dig.cons {B : Nat} {x : Int} {xs : List Int} (h0 : 0 ≤ x) (h1 : x < B) (h : Dig B xs) : Dig B (x :: xs) := fun y hy => by
  rcases List.mem_cons.mp hy with rfl | hy
  · exact ⟨h0, h1⟩
  · exact h y hy
theorem Dig.tail {B : Nat} {x : Int} {xs : List Int} (h : Dig B (x :: xs)) : Dig B xs := fun y hy => h y (.tail _ hy)
theorem Dig.head {B : Nat} {x : Int} {xs : List Int} (h : Dig B (x :: xs)) : 0 ≤ x ∧ x < (B : Int) := h x (.head _)
theorem Dig.append {B : Nat} {xs ys : List Int} (h : Dig B xs) (h' : Dig B ys) : Dig B (xs ++ ys) := fun y hy => by
  rcases List.mem_append.mp hy with hy | hy
  · exact h y hy
  · exact h' y hy
theorem Dig.take {B : Nat} {xs : List Int} (h : Dig B xs) (n : Nat) : Dig B (xs.take n) := fun y hy => h y (List.mem_of_mem_take hy)
theorem Dig.drop {B : Nat} {xs : List Int} (h : Dig B xs) (n : Nat) : Dig B (xs.drop n) := fun y hy => h y (List.mem_of_mem_drop hy)
theorem Dig.snoc {B : Nat} {x : Int} {xs : List Int} (h : Dig B xs) (h0 : 0 ≤ x) (h1 : x < B) : Dig B (xs ++ [x]) := h.append (.cons h0 h1 .nil)
theorem Dig.zeros {B : Nat} (hB : 2 ≤ B) (n : Nat) : Dig B (List.replicate n 0) := fun y hy => by
  rw [(List.mem_replicate.mp hy).2]
  (first | lia | omega)
theorem Dig.set {B : Nat} {xs : List Int} (h : Dig B xs) (k : Nat) {y : Int} (h0 : 0 ≤ y) (h1 : y < B) : Dig B (xs.set k y) := fun z hz => by
  rcases List.mem_or_eq_of_mem_set hz with hz | rfl
  · exact h z hz
  · exact ⟨h0, h1⟩
theorem Dig.getD {B : Nat} (hB : 2 ≤ B) {xs : List Int} (h : Dig B xs) (k : Nat) : 0 ≤ xs.getD k 0 ∧ xs.getD k 0 < (B : Int) := by
  rw [List.getD_eq_getElem?_getD]
  cases e : xs[k]? with
  | none => simp; (first | lia | omega)
  | some x => exact h x (List.mem_of_getElem? e)

theorem val_nonneg {B : Nat} : ∀ {xs : List Int}, Dig B xs → 0 ≤ val B xs
  | [], _ => Int.le_refl _
  | x :: r, h => by
    have h1 := val_nonneg h.tail
    have h2 := h.head.1
    have h3 : 0 ≤ (B : Int) * val B r := Int.mul_nonneg (Int.natCast_nonneg _) h1
    simp only [val]; (first | lia | omega)
theorem val_append (B : Nat) : ∀ (xs ys : List Int), val B (xs ++ ys) = val B xs + (B : Int) ^ xs.length * val B ys
  | [], ys => by simp [val]
  | x :: r, ys => by
    simp only [List.cons_append, val, List.length_cons, val_append B r ys, Int.pow_succ]
    rw [Int.mul_add, Int.add_assoc, ← Int.mul_assoc, Int.mul_comm (B : Int) ((B : Int) ^ r.length)]
theorem val_snoc (B : Nat) (xs : List Int) (x : Int) : val B (xs ++ [x]) = val B xs + (B : Int) ^ xs.length * x := by
  rw [val_append]; simp [val]
theorem val_zeros (B : Nat) : ∀ n : Nat, val B (List.replicate n 0) = 0
  | 0 => rfl
  | n + 1 => by rw [List.replicate_succ]; simp [val, val_zeros B n]
theorem val_all0 {B : Nat} : ∀ {xs : List Int}, (∀ y ∈ xs, y = 0) → val B xs = 0
  | [], _ => rfl
  | x :: r, h => by simp [val, val_all0 (xs := r) fun y hy => h y (.tail _ hy), h x (.head _)]
theorem pow_cast (B n : Nat) : ((B ^ n : Nat) : Int) = (B : Int) ^ n := by simp
theorem pow_posI {B : Nat} (hB : 2 ≤ B) (n : Nat) : (0 : Int) < (B : Int) ^ n := Int.pow_pos (by (first | lia | omega))
theorem val_lt {B : Nat} (hB : 2 ≤ B) : ∀ {xs : List Int}, Dig B xs → val B xs < (B : Int) ^ xs.length
  | [], _ => by simp [val]
  | x :: r, h => by
    have h1 := val_lt hB h.tail
    have h2 := h.head.2
    simp only [val, List.length_cons, Int.pow_succ]
    have h3 : (B : Int) * val B r ≤ (B : Int) * ((B : Int) ^ r.length - 1) := Int.mul_le_mul_of_nonneg_left (by (first | lia | omega)) (by (first | lia | omega))
    rw [Int.mul_sub, Int.mul_one, Int.mul_comm (B : Int) ((B : Int) ^ r.length)] at h3
    (first | lia | omega)

theorem dg_zero (B : Nat) : dg B 0 = [] := by rw [dg]; simp
theorem dg_pos {B N : Nat} (hB : 2 ≤ B) (h : 0 < N) : dg B N = ((N % B : Nat) : Int) :: dg B (N / B) := by rw [dg, dif_pos ⟨hB, h⟩]
theorem val_dg {B : Nat} (hB : 2 ≤ B) (N : Nat) : val B (dg B N) = N := by
  induction N using Nat.strongRecOn with
  | ind N ih =>
    by_cases h : 0 < N
    · rw [dg_pos hB h]
      simp only [val]
      rw [ih _ (Nat.div_lt_self h hB), ← Int.natCast_mul, ← Int.natCast_add, Nat.mod_add_div]
    · have : N = 0 := by (first | lia | omega)
      subst this
      rw [dg_zero]; rfl
theorem dig_dg {B : Nat} (hB : 2 ≤ B) (N : Nat) : Dig B (dg B N) := by
  induction N using Nat.strongRecOn with
  | ind N ih =>
    by_cases h : 0 < N
    · rw [dg_pos hB h]
      exact .cons (Int.natCast_nonneg _) (by have := Nat.mod_lt N (show 0 < B by (first | lia | omega)); (first | lia | omega)) (ih _ (Nat.div_lt_self h hB))
    · have : N = 0 := by (first | lia | omega)
      subst this
      rw [dg_zero]; exact .nil
theorem dg_inj {B : Nat} (hB : 2 ≤ B) {M N : Nat} (h : dg B M = dg B N) : M = N := by
  have := congrArg (val B) h
  rw [val_dg hB, val_dg hB] at this
  (first | lia | omega)
theorem dg_nil {B : Nat} (hB : 2 ≤ B) {N : Nat} : dg B N = [] ↔ N = 0 := ⟨fun h => dg_inj hB (h.trans (dg_zero B).symm), fun h => h ▸ dg_zero B⟩
theorem dg_cons {B : Nat} (hB : 2 ≤ B) {x N : Nat} (hx : x < B) (h : 0 < x ∨ 0 < N) : dg B (x + B * N) = (x : Int) :: dg B N := by
  have hp : 0 < x + B * N := by
    rcases h with h | h
    · (first | lia | omega)
    · have := Nat.mul_pos (show 0 < B by (first | lia | omega)) h
      (first | lia | omega)
  rw [dg_pos hB hp, Nat.add_mul_mod_self_left, Nat.mod_eq_of_lt hx, Nat.add_mul_div_left _ _ (by (first | lia | omega)), Nat.div_eq_of_lt hx, Nat.zero_add]
theorem nrm_dg {B : Nat} (hB : 2 ≤ B) : ∀ {xs : List Int}, Dig B xs → nrm xs = dg B (val B xs).toNat
  | [], _ => by simp [nrm, val, dg_zero]
  | x :: r, h => by
    have ih := nrm_dg hB h.tail
    obtain ⟨n, hn⟩ := Int.eq_ofNat_of_zero_le (val_nonneg h.tail)
    obtain ⟨y, rfl⟩ := Int.eq_ofNat_of_zero_le h.head.1
    have hy := h.head.2
    simp only [nrm, val]
    rw [ih, hn, Int.toNat_natCast]
    have e : ((y : Int) + B * (n : Int)).toNat = y + B * n := by rw [← Int.natCast_mul, ← Int.natCast_add, Int.toNat_natCast]
    rw [e]
    by_cases h0 : n = 0
    · subst h0
      rw [dg_zero]
      simp only [Nat.mul_zero, Nat.add_zero]
      by_cases hy0 : y = 0
      · subst hy0; simp [dg_zero]
      · rw [if_neg (by (first | lia | omega))]
        have := dg_cons hB (x := y) (N := 0) (by (first | lia | omega)) (by (first | lia | omega))
        rw [Nat.mul_zero, Nat.add_zero, dg_zero] at this
        exact this.symm
    · rw [dg_cons hB (by (first | lia | omega)) (by (first | lia | omega))]
      split
      · rename_i e2
        exact absurd ((dg_nil hB).mp e2) h0
      · rfl
theorem nrm_val {B : Nat} (hB : 2 ≤ B) {xs : List Int} (h : Dig B xs) {N : Nat} (e : val B xs = N) : nrm xs = dg B N := by
  rw [nrm_dg hB h, e, Int.toNat_natCast]
theorem nrm_of_dg {B : Nat} (hB : 2 ≤ B) (N : Nat) : nrm (dg B N) = dg B N := nrm_val hB (dig_dg hB N) (val_dg hB N)

theorem lt_length_dg {B : Nat} (hB : 2 ≤ B) : ∀ (i N : Nat), i < (dg B N).length ↔ B ^ i ≤ N := by
  intro i
  induction i with
  | zero =>
    intro N
    by_cases h : 0 < N
    · rw [dg_pos hB h]; simp; (first | lia | omega)
    · have : N = 0 := by (first | lia | omega)
      subst this
      rw [dg_zero]; simp
  | succ i ih =>
    intro N
    by_cases h : 0 < N
    · rw [dg_pos hB h, List.length_cons, Nat.add_lt_add_iff_right, ih, Nat.pow_succ, Nat.le_div_iff_mul_le (by (first | lia | omega))]
    · have : N = 0 := by (first | lia | omega)
      subst this
      rw [dg_zero]
      have := Nat.pow_pos (n := i + 1) (show 0 < B by (first | lia | omega))
      simp; (first | lia | omega)
theorem length_dg_le {B : Nat} (hB : 2 ≤ B) {n N : Nat} : (dg B N).length ≤ n ↔ N < B ^ n := by
  have := lt_length_dg hB n N
  (first | lia | omega)
theorem lt_pow_length {B : Nat} (hB : 2 ≤ B) (N : Nat) : N < B ^ (dg B N).length := (length_dg_le hB).mp (Nat.le_refl _)
theorem drop_dg {B : Nat} (hB : 2 ≤ B) : ∀ (i N : Nat), (dg B N).drop i = dg B (N / B ^ i) := by
  intro i
  induction i with
  | zero => intro N; simp
  | succ i ih =>
    intro N
    by_cases h : 0 < N
    · rw [dg_pos hB h, List.drop_succ_cons, ih, Nat.pow_succ, Nat.mul_comm, Nat.div_div_eq_div_mul]
    · have : N = 0 := by (first | lia | omega)
      subst this
      rw [Nat.zero_div, dg_zero]; simp
theorem getD_dg {B : Nat} (hB : 2 ≤ B) (i N : Nat) : (dg B N).getD i 0 = ((N / B ^ i % B : Nat) : Int) := by
  have e : (dg B N).getD i 0 = ((dg B N).drop i).getD 0 0 := by simp [List.getD_eq_getElem?_getD]
  rw [e, drop_dg hB]
  by_cases h : 0 < N / B ^ i
  · rw [dg_pos hB h]; rfl
  · have : N / B ^ i = 0 := Nat.eq_zero_of_not_pos h
    rw [this, dg_zero]; simp
theorem val_take_dg {B : Nat} (hB : 2 ≤ B) (i N : Nat) : val B ((dg B N).take i) = ((N % B ^ i : Nat) : Int) := by
  have h := val_append B ((dg B N).take i) ((dg B N).drop i)
  rw [List.take_append_drop, val_dg hB, drop_dg hB, val_dg hB, List.length_take] at h
  by_cases hi : i ≤ (dg B N).length
  · rw [Nat.min_eq_left hi, ← pow_cast, ← Int.natCast_mul] at h
    have := Nat.mod_add_div N (B ^ i)
    (first | lia | omega)
  · have hlt : N < B ^ i := (length_dg_le hB).mp (by (first | lia | omega))
    rw [Nat.div_eq_of_lt hlt] at h
    rw [Nat.mod_eq_of_lt hlt]
    simp at h
    (first | lia | omega)
theorem nrm_take_dg {B : Nat} (hB : 2 ≤ B) (i N : Nat) : nrm ((dg B N).take i) = dg B (N % B ^ i) := nrm_val hB ((dig_dg hB N).take i) (val_take_dg hB i N)
theorem take_dg_all {B : Nat} (hB : 2 ≤ B) {i N : Nat} (h : N < B ^ i) : (dg B N).take i = dg B N := List.take_of_length_le ((length_dg_le hB).mpr h)

/-- no nought at the end: the very digits -/
theorem dg_of {B : Nat} (hB : 2 ≤ B) {xs : List Int} (h : Dig B xs) {N : Nat} (e : val B xs = N) (hl : ∀ l, xs.length = l + 1 → B ^ l ≤ N) : xs = dg B N := by
  have hn := nrm_val hB h e
  by_cases hx : xs = []
  · subst hx
    simp only [val] at e
    have : N = 0 := by (first | lia | omega)
    rw [this, dg_zero]
  · refine (nrm_last hx fun hz => ?_).symm.trans hn
    obtain ⟨ys, y, rfl⟩ : ∃ ys y, xs = ys ++ [y] := ⟨xs.dropLast, xs.getLast hx, (List.dropLast_concat_getLast hx).symm⟩
    rw [List.getLast?_append] at hz
    simp at hz
    subst hz
    have h1 := hl ys.length (by simp)
    have h2 := val_lt hB (fun y hy => h y (List.mem_append_left _ hy) : Dig B ys)
    rw [val_snoc] at e
    rw [← pow_cast] at h2
    simp at e
    (first | lia | omega)
theorem val_set (B : Nat) : ∀ (xs : List Int) (k : Nat) (y : Int), k < xs.length → val B (xs.set k y) = val B xs + (y - xs.getD k 0) * (B : Int) ^ k
  | [], _, _, h => absurd h (Nat.not_lt_zero _)
  | x :: r, 0, y, _ => by simp [val]; (first | lia | omega)
  | x :: r, k + 1, y, h => by
    have ih := val_set B r k y (by simpa using h)
    simp only [List.set_cons_succ, val, ih, List.getD_cons_succ, Int.pow_succ]
    rw [Int.mul_add, Int.add_assoc]
    congr 2
    rw [Int.mul_comm, Int.mul_assoc]
theorem val_take_succ (B : Nat) (xs : List Int) (k : Nat) : val B (xs.take (k + 1)) = val B (xs.take k) + (B : Int) ^ k * xs.getD k 0 := by
  by_cases h : k < xs.length
  · rw [List.take_add_one, List.getElem?_eq_getElem h]
    show val B (_ ++ [xs[k]]) = _
    rw [val_snoc, List.length_take, Nat.min_eq_left (by (first | lia | omega)), List.getD_eq_getElem?_getD, List.getElem?_eq_getElem h]
    rfl
  · rw [List.take_of_length_le (by (first | lia | omega)), List.take_of_length_le (by (first | lia | omega)), List.getD_eq_getElem?_getD, List.getElem?_eq_none (by (first | lia | omega))]
    simp
theorem length_pos_dg {B : Nat} (hB : 2 ≤ B) {N : Nat} : 0 < (dg B N).length ↔ 0 < N := by
  rw [lt_length_dg hB 0 N, Nat.pow_zero]; (first | lia | omega)
theorem length_mono {B : Nat} (hB : 2 ≤ B) {M N : Nat} (h : M ≤ N) : (dg B M).length ≤ (dg B N).length :=
  (length_dg_le hB).mpr (Nat.lt_of_le_of_lt h (lt_pow_length hB N))
theorem length_add {B : Nat} (hB : 2 ≤ B) {M N l : Nat} (hM : (dg B M).length ≤ l) (hN : (dg B N).length ≤ l) : (dg B (M + N)).length ≤ l + 1 := by
  have h1 := (length_dg_le hB).mp hM
  have h2 := (length_dg_le hB).mp hN
  refine (length_dg_le hB).mpr ?_
  rw [Nat.pow_succ]
  have : B ^ l * 2 ≤ B ^ l * B := Nat.mul_le_mul_left _ hB
  (first | lia | omega)
theorem length_mul {B : Nat} (hB : 2 ≤ B) (M N : Nat) : (dg B (M * N)).length ≤ (dg B M).length + (dg B N).length := by
  refine (length_dg_le hB).mpr ?_
  rw [Nat.pow_add]
  exact Nat.mul_lt_mul'' (lt_pow_length hB M) (lt_pow_length hB N)

/-! PM -/
theorem val_rep (D x : Nat) : ∀ n : Nat, val D (List.replicate n (x : Int)) * ((D : Int) - 1) = (x : Int) * ((D : Int) ^ n - 1)
  | 0 => by simp [val]
  | n + 1 => by
    have ih := val_rep D x n
    rw [List.replicate_succ, Int.pow_succ]
    simp only [val]
    grind
theorem dg_ones {D : Nat} (hD : 2 ≤ D) (n : Nat) : List.replicate n ((D : Int) - 1) = dg D (D ^ n - 1) := by
  have hp := Nat.pow_pos (n := n) (show 0 < D by (first | lia | omega))
  refine dg_of hD (fun x hx => ?_) ?_ ?_
  · rw [(List.mem_replicate.mp hx).2]; (first | lia | omega)
  · have h := val_rep D (D - 1) n
    rw [show ((D - 1 : Nat) : Int) = (D : Int) - 1 by (first | lia | omega), Int.mul_comm] at h
    have h2 := Int.eq_of_mul_eq_mul_left (by (first | lia | omega)) h
    rw [h2, ← pow_cast]
    (first | lia | omega)
  · intro l e
    rw [List.length_replicate] at e
    subst e
    have : D ^ l * 1 < D ^ (l + 1) := by rw [Nat.pow_succ]; exact Nat.mul_lt_mul_of_pos_left (by (first | lia | omega)) (Nat.pow_pos (by (first | lia | omega)))
    (first | lia | omega)

theorem fold_step {H p : Nat} (hH : 2 ≤ H) (h : H ≤ p) : p % H + p / H < p ∧ (p % H + p / H) % (H - 1) = p % (H - 1) := by
  have e := Nat.mod_add_div p H
  have hq : 1 ≤ p / H := (Nat.le_div_iff_mul_le (by (first | lia | omega))).mpr (by (first | lia | omega))
  have h1 : 2 * (p / H) ≤ H * (p / H) := Nat.mul_le_mul_right _ hH
  refine ⟨by (first | lia | omega), ?_⟩
  have e2 : p = p % H + p / H + (H - 1) * (p / H) := by
    have : H * (p / H) = p / H + (H - 1) * (p / H) := by
      rw [Nat.sub_mul, Nat.one_mul]; (first | lia | omega)
    (first | lia | omega)
  conv => rhs; rw [e2]
  rw [Nat.add_mul_mod_self_left]
theorem fold_end {H p : Nat} (hH : 2 ≤ H) (h : p < H) : (if p = H - 1 then 0 else p) = p % (H - 1) := by
  by_cases e : p = H - 1
  · rw [if_pos e, e, Nat.mod_self]
  · rw [if_neg e, Nat.mod_eq_of_lt (by (first | lia | omega))]

/-- the state of fold_plus behind some blocks -/
structure FP (D n N k v : Nat) : Prop where
  lt : v < D ^ n + 1
  pw : ((D : Int) ^ n + 1) ∣ (D : Int) ^ (n * k) - (if k % 2 = 1 then -1 else 1)
  vl : ((D : Int) ^ n + 1) ∣ (v : Int) - ((N % D ^ (n * k) : Nat) : Int)
theorem FP.zero (D n N : Nat) : FP D n N 0 0 := ⟨by (first | lia | omega), by simp, by simp [Nat.mod_one]⟩
theorem FP.pw_succ {D n N k v : Nat} (h : FP D n N k v) : ((D : Int) ^ n + 1) ∣ (D : Int) ^ (n * (k + 1)) - (if (k + 1) % 2 = 1 then -1 else 1) := by
  obtain ⟨s, hs⟩ := h.pw
  have e : (D : Int) ^ (n * (k + 1)) = (D : Int) ^ (n * k) * (D : Int) ^ n := by rw [Nat.mul_add, Nat.mul_one, Int.pow_add]
  rw [e]
  by_cases hk : k % 2 = 1
  · rw [if_pos hk] at hs
    rw [if_neg (by (first | lia | omega))]
    exact ⟨s * (D : Int) ^ n - 1, by grind⟩
  · rw [if_neg hk] at hs
    rw [if_pos (by (first | lia | omega))]
    exact ⟨s * (D : Int) ^ n + 1, by grind⟩
noncomputable def fpPart (D n N k : Nat) : Nat := N / D ^ (n * k) % D ^ n
theorem fp_cut (D n N k : Nat) : N % D ^ (n * k + n) / D ^ (n * k) = fpPart D n N k := by
  unfold fpPart
  rw [Nat.pow_add, Nat.mod_mul_right_div_self]
theorem fp_mod (D n N k : Nat) : ((N % D ^ (n * (k + 1)) : Nat) : Int) = (N % D ^ (n * k) : Nat) + (D : Int) ^ (n * k) * (fpPart D n N k : Nat) := by
  have h := Nat.mod_mul (x := N) (a := D ^ (n * k)) (b := D ^ n)
  rw [← Nat.pow_add, show n * k + n = n * (k + 1) by rw [Nat.mul_add, Nat.mul_one]] at h
  rw [h, Int.natCast_add, Int.natCast_mul, pow_cast]
  rfl
theorem fpPart_lt {D n N k : Nat} (hD : 2 ≤ D) : fpPart D n N k < D ^ n := Nat.mod_lt _ (Nat.pow_pos (by (first | lia | omega)))
theorem FP.step {D n N k v v' : Nat} (hD : 2 ≤ D) (h : FP D n N k v) (hv' : v' = if k % 2 = 1 then (if fpPart D n N k ≤ v then v - fpPart D n N k else v + (D ^ n + 1) - fpPart D n N k) else (if v + fpPart D n N k < D ^ n + 1 then v + fpPart D n N k else v + fpPart D n N k - (D ^ n + 1))) : FP D n N (k + 1) v' := by
  have hp := fpPart_lt (n := n) (N := N) (k := k) hD
  have hl := h.lt
  have hm := fp_mod D n N k
  have hpc := pow_cast D n
  refine ⟨?_, h.pw_succ, ?_⟩
  · rw [hv']
    split <;> split <;> (first | lia | omega)
  · obtain ⟨s, hs⟩ := h.pw
    obtain ⟨u, hu⟩ := h.vl
    rw [hm]
    generalize fpPart D n N k = p at *
    by_cases hk : k % 2 = 1
    · rw [if_pos hk] at hs hv'
      by_cases hle : p ≤ v
      · rw [if_pos hle] at hv'
        have : (v' : Int) = v - p := by (first | lia | omega)
        exact ⟨u - s * p, by grind⟩
      · rw [if_neg hle] at hv'
        have : (v' : Int) = v + ((D : Int) ^ n + 1) - p := by (first | lia | omega)
        exact ⟨u - s * p + 1, by grind⟩
    · rw [if_neg hk] at hs hv'
      by_cases hle : v + p < D ^ n + 1
      · rw [if_pos hle] at hv'
        have : (v' : Int) = v + p := by (first | lia | omega)
        exact ⟨u - s * p, by grind⟩
      · rw [if_neg hle] at hv'
        have : (v' : Int) = v + p - ((D : Int) ^ n + 1) := by (first | lia | omega)
        exact ⟨u - s * p - 1, by grind⟩
theorem FP.fin {D n N k v : Nat} (h : FP D n N k v) (hN : N < D ^ (n * k)) : v = N % (D ^ n + 1) := by
  obtain ⟨u, hu⟩ := h.vl
  rw [Nat.mod_eq_of_lt hN] at hu
  have hl := h.lt
  have hpc := pow_cast D n
  have h1 : (N : Int) = v + ((D ^ n + 1 : Nat) : Int) * (-u) := by rw [Int.natCast_add, hpc]; grind
  have h2 : (N : Int) % ((D ^ n + 1 : Nat) : Int) = v := by
    rw [h1, Int.add_mul_emod_self_left]
    exact Int.emod_eq_of_lt (by (first | lia | omega)) (by (first | lia | omega))
  have h3 : ((N % (D ^ n + 1) : Nat) : Int) = v := by rw [Int.natCast_emod]; exact h2
  (first | lia | omega)

/-- what joined_rests halves -/
noncomputable def jnWay (H X Yr : Nat) : Nat := if Yr ≤ X then X - Yr else X + (H - 1) - Yr
noncomputable def jnHalf (H X Yr : Nat) : Nat := (if jnWay H X Yr % 2 = 0 then jnWay H X Yr else jnWay H X Yr + (H - 1)) / 2
theorem jnWay_lt {H X Yr : Nat} (hX : X < H - 1) (hY : Yr < H - 1) : jnWay H X Yr < H - 1 := by unfold jnWay; split <;> (first | lia | omega)
theorem jnHalf_lt {H X Yr : Nat} (hX : X < H - 1) (hY : Yr < H - 1) : jnHalf H X Yr < H - 1 := by
  have := jnWay_lt hX hY
  unfold jnHalf; split <;> (first | lia | omega)
theorem joined_math {H : Nat} (hH : 2 ≤ H) (h2 : H % 2 = 0) (Z : Nat) : (Z % (H + 1) + jnHalf H (Z % (H - 1)) (Z % (H + 1) % (H - 1)) + jnHalf H (Z % (H - 1)) (Z % (H + 1) % (H - 1)) * H) % (H * H - 1) = Z % (H * H - 1) := by
  by_cases hH2 : H = 2
  · subst hH2
    have e1 : ∀ y : Nat, jnHalf 2 (y % (2 - 1)) (Z % (2 + 1) % (2 - 1)) = 0 := fun y => by
      unfold jnHalf jnWay
      simp [Nat.mod_one]
    rw [e1]
    (first | lia | omega)
  have hX : Z % (H - 1) < H - 1 := Nat.mod_lt _ (by (first | lia | omega))
  have hYr : Z % (H + 1) % (H - 1) < H - 1 := Nat.mod_lt _ (by (first | lia | omega))
  have eX := Nat.mod_add_div Z (H - 1)
  have eY := Nat.mod_add_div Z (H + 1)
  have eR := Nat.mod_add_div (Z % (H + 1)) (H - 1)
  generalize Z % (H - 1) = X at *
  generalize Z % (H + 1) = Y at *
  generalize Y % (H - 1) = Yr at *
  generalize Z / (H - 1) = z1 at *
  generalize Z / (H + 1) = q at *
  generalize Y / (H - 1) = y1 at *
  have hw : ∃ e : Int, 2 * (jnHalf H X Yr : Int) = (X : Int) - Yr + e * ((H - 1 : Nat) : Int) := by
    unfold jnHalf
    have h1 : ∃ e : Int, (jnWay H X Yr : Int) = (X : Int) - Yr + e * ((H - 1 : Nat) : Int) := by
      unfold jnWay
      split
      · exact ⟨0, by (first | lia | omega)⟩
      · exact ⟨1, by (first | lia | omega)⟩
    obtain ⟨e, he⟩ := h1
    split
    · exact ⟨e, by (first | lia | omega)⟩
    · exact ⟨e + 1, by rw [Int.add_mul]; (first | lia | omega)⟩
  obtain ⟨e, he⟩ := hw
  generalize jnHalf H X Yr = hf at *
  obtain ⟨t, ht⟩ : ∃ t, H - 1 = 2 * t + 1 := ⟨(H - 1) / 2, by (first | lia | omega)⟩
  have hc : ((H - 1 : Nat) : Int) = (H : Int) - 1 := by (first | lia | omega)
  have key : ((Y + hf + hf * H : Nat) : Int) = (Z : Int) + ((H * H - 1 : Nat) : Int) * (hf - q - t * (q + y1 - z1 + e)) := by
    have c1 : ((H * H - 1 : Nat) : Int) = (H : Int) * H - 1 := by
      have : 1 ≤ H * H := Nat.mul_pos (by (first | lia | omega)) (by (first | lia | omega))
      rw [Int.natCast_sub this, Int.natCast_mul]; rfl
    have i1 : (Z : Int) = X + ((H : Int) - 1) * z1 := by rw [← hc]; exact_mod_cast eX.symm
    have i2 : (Z : Int) = Y + ((H : Int) + 1) * q := by exact_mod_cast eY.symm
    have i3 : (Y : Int) = Yr + ((H : Int) - 1) * y1 := by rw [← hc]; exact_mod_cast eR.symm
    have i4 : (H : Int) - 1 = 2 * t + 1 := by (first | lia | omega)
    rw [hc] at he
    rw [c1, Int.natCast_add, Int.natCast_add, Int.natCast_mul]
    grind
  have := congrArg (· % ((H * H - 1 : Nat) : Int)) key
  simp only [Int.add_mul_emod_self_left] at this
  exact_mod_cast this

/-! PM2 -/
theorem mul_mod_pow {D n s x : Nat} (h : s ≤ n) : x * D ^ s = (x % D ^ (n - s)) * D ^ s + D ^ n * (x / D ^ (n - s)) := by
  have e := Nat.mod_add_div x (D ^ (n - s))
  have e2 : D ^ n = D ^ (n - s) * D ^ s := by rw [← Nat.pow_add]; exact congrArg _ (by (first | lia | omega))
  rw [e2]
  conv => lhs; rw [← e]
  grind

theorem low_math {D n s A B : Nat} (hs : s ≤ n) (h2 : n ≤ 2 * s) :
    ((A % D ^ s * (B % D ^ s)) % D ^ n + ((A / D ^ s * B) % D ^ (n - s) + (A * (B / D ^ s)) % D ^ (n - s)) * D ^ s) % D ^ n = A * B % D ^ n := by
  have e1 := mul_mod_pow (D := D) (x := A / D ^ s * B) hs
  have e2 := mul_mod_pow (D := D) (x := A * (B / D ^ s)) hs
  have e3 := Nat.mod_add_div (A % D ^ s * (B % D ^ s)) (D ^ n)
  have eA := Nat.mod_add_div A (D ^ s)
  have eB := Nat.mod_add_div B (D ^ s)
  have e4 : D ^ s * D ^ s = D ^ n * D ^ (2 * s - n) := by rw [← Nat.pow_add, ← Nat.pow_add]; exact congrArg _ (by (first | lia | omega))
  generalize (A % D ^ s * (B % D ^ s)) % D ^ n = F at *
  generalize (A % D ^ s * (B % D ^ s)) / D ^ n = p at *
  generalize (A / D ^ s * B) % D ^ (n - s) = x1 at *
  generalize (A / D ^ s * B) / D ^ (n - s) = q1 at *
  generalize (A * (B / D ^ s)) % D ^ (n - s) = x2 at *
  generalize (A * (B / D ^ s)) / D ^ (n - s) = q2 at *
  generalize A % D ^ s = A0 at *
  generalize A / D ^ s = A1 at *
  generalize B % D ^ s = B0 at *
  generalize B / D ^ s = B1 at *
  generalize D ^ s = S at *
  generalize D ^ n = H at *
  generalize D ^ (2 * s - n) = T at *
  have key : F + (x1 + x2) * S + H * (p + q1 + q2) = A * B + H * (T * A1 * B1) := by
    subst eA eB
    have s1 : F + (x1 + x2) * S + H * (p + q1 + q2) = (F + H * p) + (x1 * S + H * q1) + (x2 * S + H * q2) := by grind
    have s2 : H * (T * A1 * B1) = S * S * (A1 * B1) := by rw [e4]; grind
    rw [s1, e3, ← e1, ← e2, s2]
    grind
  have k2 := congrArg (· % H) key
  simpa [Nat.add_mul_mod_self_left] using k2

/-! high parts by rows -/
noncomputable def hsS (D M N n : Nat) : Nat → Nat
  | 0 => 0
  | k + 1 => hsS D M N n k + (N / D ^ (n - 1 - k)) * (M / D ^ k % D) * D ^ (k - (n - 1))
noncomputable def hs (D M N n : Nat) : Nat := hsS D M N n (dg D M).length

theorem hsS_bd {D : Nat} (hD : 2 ≤ D) (M N n : Nat) : ∀ k, hsS D M N n k * D ^ (n - 1) ≤ (M % D ^ k) * N ∧ (M % D ^ k) * N ≤ hsS D M N n k * D ^ (n - 1) + min k (n - 1) * ((D - 1) * D ^ (n - 1)) := by
  intro k
  induction k with
  | zero => simp [hsS, Nat.mod_one]
  | succ k ih =>
    obtain ⟨h1, h2⟩ := ih
    have e : (M % D ^ (k + 1)) * N = (M % D ^ k) * N + (M / D ^ k % D) * (D ^ k * N) := by
      rw [Nat.mod_pow_succ, Nat.add_mul]
      congr 1
      rw [Nat.mul_comm (D ^ k), Nat.mul_assoc]
    have hx := Nat.mod_lt (M / D ^ k) (show 0 < D by (first | lia | omega))
    simp only [hsS]
    rw [e, Nat.add_mul]
    generalize hX : M / D ^ k % D = x at *
    by_cases hk : k < n - 1
    · have e1 : k - (n - 1) = 0 := by (first | lia | omega)
      have e2 : D ^ (n - 1) = D ^ (n - 1 - k) * D ^ k := by rw [← Nat.pow_add]; exact congrArg _ (by (first | lia | omega))
      have e3 := Nat.mod_add_div N (D ^ (n - 1 - k))
      have hm := Nat.mod_lt N (show 0 < D ^ (n - 1 - k) from Nat.pow_pos (by (first | lia | omega)))
      rw [show min (k + 1) (n - 1) = min k (n - 1) + 1 by (first | lia | omega), Nat.add_mul, Nat.one_mul, e1, Nat.pow_zero, Nat.mul_one]
      have e5 : x * (D ^ k * N) = N / D ^ (n - 1 - k) * x * D ^ (n - 1) + x * (N % D ^ (n - 1 - k)) * D ^ k := by
        rw [e2]
        conv => lhs; rw [← e3]
        grind
      have e6 : x * (N % D ^ (n - 1 - k)) * D ^ k ≤ (D - 1) * D ^ (n - 1) := by
        rw [e2, ← Nat.mul_assoc]
        exact Nat.mul_le_mul_right _ (Nat.mul_le_mul (by (first | lia | omega)) (by (first | lia | omega)))
      rw [e5]
      (first | lia | omega)
    · have e1 : n - 1 - k = 0 := by (first | lia | omega)
      have e2 : D ^ k = D ^ (k - (n - 1)) * D ^ (n - 1) := by rw [← Nat.pow_add]; exact congrArg _ (by (first | lia | omega))
      have e5 : x * (D ^ k * N) = N / D ^ (n - 1 - k) * x * D ^ (k - (n - 1)) * D ^ (n - 1) := by
        rw [e1, Nat.pow_zero, Nat.div_one, e2]
        grind
      rw [show min (k + 1) (n - 1) = min k (n - 1) by (first | lia | omega), e5]
      (first | lia | omega)
theorem hsS_le {D : Nat} (hD : 2 ≤ D) (M N n k : Nat) : hsS D M N n k ≤ M * N := by
  have h1 := (hsS_bd hD M N n k).1
  have h2 : hsS D M N n k * 1 ≤ hsS D M N n k * D ^ (n - 1) := Nat.mul_le_mul_left _ (Nat.pow_pos (by (first | lia | omega)))
  have h3 : (M % D ^ k) * N ≤ M * N := Nat.mul_le_mul_right _ (Nat.mod_le _ _)
  (first | lia | omega)
theorem hs_bd {D : Nat} (hD : 2 ≤ D) (M N n : Nat) : hs D M N n * D ^ (n - 1) ≤ M * N ∧ M * N ≤ hs D M N n * D ^ (n - 1) + (n - 1) * ((D - 1) * D ^ (n - 1)) := by
  obtain ⟨h1, h2⟩ := hsS_bd hD M N n (dg D M).length
  rw [Nat.mod_eq_of_lt (lt_pow_length hD M)] at h1 h2
  refine ⟨h1, Nat.le_trans h2 (Nat.add_le_add_left (Nat.mul_le_mul_right _ (Nat.min_le_right _ _)) _)⟩

/-- high_sum's step -/
structure HB (D n M N V : Nat) : Prop where
  lo : V * D ^ (n - 1) ≤ M * N
  hi : M * N ≤ V * D ^ (n - 1) + (n - 1) * (D * D ^ (n - 1))
theorem HB.school {D : Nat} (hD : 2 ≤ D) (M N n : Nat) : HB D n M N (hs D M N n) := by
  obtain ⟨h1, h2⟩ := hs_bd hD M N n
  refine ⟨h1, Nat.le_trans h2 (Nat.add_le_add_left (Nat.mul_le_mul_left _ (Nat.mul_le_mul_right _ (by (first | lia | omega)))) _)⟩
theorem HB.step {D n s r M N V1 V2 : Nat} (hD : 2 ≤ D) (hn : n = r + s) (hr : 1 ≤ r) (hs : n + 1 ≤ 2 * s)
    (h1 : HB D r (M % D ^ r) (N / D ^ s) V1) (h2 : HB D r (M / D ^ s) (N % D ^ r) V2) :
    HB D n M N ((M / D ^ r * (N / D ^ r)) / D ^ (2 * s - n - 1) + V1 + V2) := by
  obtain ⟨l1, u1⟩ := h1
  obtain ⟨l2, u2⟩ := h2
  have p1 : D ^ (n - 1) = D ^ (2 * s - n - 1) * (D ^ r * D ^ r) := by rw [← Nat.pow_add, ← Nat.pow_add]; exact congrArg _ (by (first | lia | omega))
  have p2 : D ^ (n - 1) = D ^ (r - 1) * D ^ s := by rw [← Nat.pow_add]; exact congrArg _ (by (first | lia | omega))
  have p3 : D ^ r * D ^ s = D * D ^ (n - 1) := by rw [← Nat.pow_add, Nat.mul_comm D, ← Nat.pow_succ]; exact congrArg _ (by (first | lia | omega))
  have p4 : D ^ r = D * D ^ (r - 1) := by rw [Nat.mul_comm, ← Nat.pow_succ]; exact congrArg _ (by (first | lia | omega))
  have eM := Nat.mod_add_div M (D ^ r)
  have eN := Nat.mod_add_div N (D ^ r)
  have eM' := Nat.mod_add_div M (D ^ s)
  have eN' := Nat.mod_add_div N (D ^ s)
  have eF := Nat.mod_add_div (M / D ^ r * (N / D ^ r)) (D ^ (2 * s - n - 1))
  have mMr := Nat.mod_lt M (show 0 < D ^ r from Nat.pow_pos (by (first | lia | omega)))
  have mNr := Nat.mod_lt N (show 0 < D ^ r from Nat.pow_pos (by (first | lia | omega)))
  have mMs := Nat.mod_lt M (show 0 < D ^ s from Nat.pow_pos (by (first | lia | omega)))
  have mNs := Nat.mod_lt N (show 0 < D ^ s from Nat.pow_pos (by (first | lia | omega)))
  have mF := Nat.mod_lt (M / D ^ r * (N / D ^ r)) (show 0 < D ^ (2 * s - n - 1) from Nat.pow_pos (by (first | lia | omega)))
  -- what the high halves keep
  have hMs : M / D ^ s * D ^ s ≤ M / D ^ r * D ^ r := by
    have : D ^ s = D ^ (s - r) * D ^ r := by rw [← Nat.pow_add]; exact congrArg _ (by (first | lia | omega))
    rw [this, ← Nat.mul_assoc]
    refine Nat.mul_le_mul_right _ ?_
    rw [Nat.mul_comm (D ^ (s - r)) (D ^ r), ← Nat.div_div_eq_div_mul]
    exact Nat.div_mul_le_self _ _
  have hF0 : n = 2 * s - 1 ∨ 2 * r + 2 ≤ n := by (first | lia | omega)
  have hFz : n = 2 * s - 1 → D ^ (2 * s - n - 1) = 1 := fun h => by rw [show 2 * s - n - 1 = 0 by (first | lia | omega), Nat.pow_zero]
  generalize (M / D ^ r * (N / D ^ r)) / D ^ (2 * s - n - 1) = F at *
  generalize (M / D ^ r * (N / D ^ r)) % D ^ (2 * s - n - 1) = f at *
  generalize D ^ (2 * s - n - 1) = G at *
  generalize hQ : D ^ (n - 1) = Q at *
  generalize D ^ (r - 1) = q at *
  generalize M / D ^ r = Mh at *
  generalize M % D ^ r = Ml at *
  generalize N / D ^ r = Nh at *
  generalize N % D ^ r = Nl at *
  generalize M / D ^ s = M' at *
  generalize M % D ^ s = Ms at *
  generalize N / D ^ s = N' at *
  generalize N % D ^ s = Ns at *
  generalize D ^ r = R at *
  generalize D ^ s = S at *
  have eMN : M * N = Mh * Nh * (R * R) + Ml * N + Mh * R * Nl := by subst eM eN; grind
  have eFF : F * Q + f * (R * R) = Mh * Nh * (R * R) := by rw [← eF, p1]; grind
  have a1 : V1 * Q ≤ Ml * N' * S := by
    have := Nat.mul_le_mul_right S l1
    rw [p2]; grind
  have a2 : V2 * Q ≤ M' * Nl * S := by
    have := Nat.mul_le_mul_right S l2
    rw [p2]; grind
  have b1 : Ml * N' * S ≤ V1 * Q + (r - 1) * (D * Q) := by
    have := Nat.mul_le_mul_right S u1
    have e : (V1 * q + (r - 1) * (D * q)) * S = V1 * (q * S) + (r - 1) * (D * (q * S)) := by grind
    rw [e, ← p2] at this
    exact this
  have b2 : M' * Nl * S ≤ V2 * Q + (r - 1) * (D * Q) := by
    have := Nat.mul_le_mul_right S u2
    have e : (V2 * q + (r - 1) * (D * q)) * S = V2 * (q * S) + (r - 1) * (D * (q * S)) := by grind
    rw [e, ← p2] at this
    exact this
  have c1 : Ml * N = Ml * N' * S + Ml * Ns := by rw [← eN']; grind
  have c2 : Ml * Ns ≤ D * Q := by rw [← p3]; exact Nat.mul_le_mul (by (first | lia | omega)) (by (first | lia | omega))
  have c3 : Mh * R * Nl ≤ M' * Nl * S + D * Q := by
    have h : Mh * R ≤ S * M' + S := by
      have : R * Mh = Mh * R := Nat.mul_comm _ _
      (first | lia | omega)
    have h2 := Nat.mul_le_mul_right Nl h
    have h3 : S * Nl ≤ D * Q := by rw [← p3, Nat.mul_comm R]; exact Nat.mul_le_mul_left _ (by (first | lia | omega))
    have h4 : (S * M' + S) * Nl = M' * Nl * S + S * Nl := by grind
    (first | lia | omega)
  have c4 : M' * Nl * S ≤ Mh * R * Nl := by
    have := Nat.mul_le_mul_right Nl hMs
    have e : M' * S * Nl = M' * Nl * S := by grind
    (first | lia | omega)
  have hrr : (r - 1) * (D * Q) + D * Q = r * (D * Q) := by
    obtain ⟨k, rfl⟩ : ∃ k, r = k + 1 := ⟨r - 1, by (first | lia | omega)⟩
    rw [Nat.add_sub_cancel, Nat.add_mul, Nat.one_mul]
  have hDQ : Q ≤ D * Q := Nat.le_mul_of_pos_left _ (by (first | lia | omega))
  have hf0 : n = 2 * s - 1 → f * (R * R) = 0 := fun h => by
    have hG := hFz h
    rw [show f = 0 by (first | lia | omega), Nat.zero_mul]
  have hfl : f * (R * R) ≤ Q := by
    rw [p1]
    exact Nat.mul_le_mul_right _ (by (first | lia | omega))
  have hnA : n = 2 * s - 1 → (n - 1) * (D * Q) = r * (D * Q) + r * (D * Q) := fun h => by rw [← Nat.add_mul]; congr 1; (first | lia | omega)
  have hnB : 2 * r + 2 ≤ n → r * (D * Q) + r * (D * Q) + D * Q ≤ (n - 1) * (D * Q) := fun h => by
    have : r * (D * Q) + r * (D * Q) + D * Q = (r + r + 1) * (D * Q) := by grind
    rw [this]
    exact Nat.mul_le_mul_right _ (by (first | lia | omega))
  have goal : F * Q + V1 * Q + V2 * Q ≤ M * N ∧ M * N ≤ F * Q + V1 * Q + V2 * Q + (n - 1) * (D * Q) := by
    clear u1 u2 l1 l2 eF eM eN eM' eN' hMs p1 p2 p3 p4
    generalize (n - 1) * (D * Q) = y1 at *
    generalize (r - 1) * (D * Q) = y2 at *
    generalize r * (D * Q) = y3 at *
    generalize D * Q = y4 at *
    generalize F * Q = y5 at *
    generalize V1 * Q = y6 at *
    generalize V2 * Q = y7 at *
    generalize f * (R * R) = y8 at *
    generalize Mh * Nh * (R * R) = y9 at *
    generalize Ml * N' * S = y10 at *
    generalize M' * Nl * S = y11 at *
    generalize Ml * Ns = y12 at *
    generalize Mh * R * Nl = y13 at *
    generalize Ml * N = y14 at *
    generalize M * N = y15 at *
    rcases hF0 with h | h
    · have := hf0 h
      have := hnA h
      (first | lia | omega)
    · have := hnB h
      (first | lia | omega)
  exact ⟨by rw [hQ, Nat.add_mul, Nat.add_mul]; exact goal.1, by rw [hQ, Nat.add_mul, Nat.add_mul]; exact goal.2⟩
theorem HB.told {D n M N V : Nat} (hD : 2 ≤ D) (hn : 1 ≤ n) (h : HB D n M N V) : V / D ≤ M * N / D ^ n ∧ M * N / D ^ n ≤ V / D + (n - 1) := by
  obtain ⟨l, u⟩ := h
  have e : D ^ n = D ^ (n - 1) * D := by rw [← Nat.pow_succ]; exact congrArg _ (by (first | lia | omega))
  have hp : 0 < D ^ (n - 1) := Nat.pow_pos (by (first | lia | omega))
  rw [e, ← Nat.div_div_eq_div_mul]
  have h1 : V ≤ M * N / D ^ (n - 1) := (Nat.le_div_iff_mul_le hp).mpr l
  have h2 : M * N / D ^ (n - 1) ≤ V + (n - 1) * D := by
    have : M * N ≤ (V + (n - 1) * D) * D ^ (n - 1) := by rw [Nat.add_mul, Nat.mul_assoc]; exact u
    exact Nat.div_le_of_le_mul (by rw [Nat.mul_comm (D ^ (n - 1))]; exact this)
  refine ⟨Nat.div_le_div_right h1, ?_⟩
  have h3 := Nat.div_le_div_right (c := D) h2
  rwa [Nat.add_mul_div_right _ _ (by (first | lia | omega))] at h3

/-- high_sure's guard -/
theorem sure_math {D n M N : Nat} (hD : 2 ≤ D) (hn : 2 ≤ n) (hg : hs D M N (n - 1) / D % D + n < D) : hs D M N (n - 1) / D ^ 2 = M * N / D ^ n := by
  obtain ⟨l, u⟩ := hs_bd hD M N (n - 1)
  generalize hs D M N (n - 1) = S at *
  have e : D ^ n = D ^ (n - 2) * D ^ 2 := by rw [← Nat.pow_add]; exact congrArg _ (by (first | lia | omega))
  have hp : 0 < D ^ (n - 2) := Nat.pow_pos (by (first | lia | omega))
  rw [show n - 1 - 1 = n - 2 by (first | lia | omega)] at l u
  rw [e, ← Nat.div_div_eq_div_mul]
  have h1 : S ≤ M * N / D ^ (n - 2) := (Nat.le_div_iff_mul_le hp).mpr l
  have h2 : M * N / D ^ (n - 2) ≤ S + (n - 2) * D := by
    have h3 : (n - 2) * ((D - 1) * D ^ (n - 2)) ≤ (n - 2) * D * D ^ (n - 2) := by rw [Nat.mul_assoc]; exact Nat.mul_le_mul_left _ (Nat.mul_le_mul_right _ (by (first | lia | omega)))
    have : M * N ≤ (S + (n - 2) * D) * D ^ (n - 2) := by rw [Nat.add_mul]; (first | lia | omega)
    exact Nat.div_le_of_le_mul (by rw [Nat.mul_comm (D ^ (n - 2))]; exact this)
  generalize M * N / D ^ (n - 2) = T at *
  have h3 := Nat.div_le_div_right (c := D) h1
  have h4 := Nat.div_le_div_right (c := D) h2
  rw [Nat.add_mul_div_right _ _ (by (first | lia | omega))] at h4
  rw [Nat.pow_two, ← Nat.div_div_eq_div_mul, ← Nat.div_div_eq_div_mul]
  generalize S / D = x at *
  generalize T / D = y at *
  have ex := Nat.mod_add_div x D
  have h5 : x / D * D ≤ y := by rw [Nat.mul_comm]; (first | lia | omega)
  have h6 : y < (x / D + 1) * D := by rw [Nat.add_mul, Nat.one_mul, Nat.mul_comm]; (first | lia | omega)
  have h7 := (Nat.le_div_iff_mul_le (show 0 < D by (first | lia | omega))).mpr h5
  have h8 := (Nat.div_lt_iff_lt_mul (show 0 < D by (first | lia | omega))).mpr h6
  (first | lia | omega)

/-! PM3 -/
noncomputable def sm : Nat → (Nat → Nat) → Nat
  | 0, _ => 0
  | n + 1, f => sm n f + f n
theorem sm_congr {f g : Nat → Nat} : ∀ {n : Nat}, (∀ i, i < n → f i = g i) → sm n f = sm n g
  | 0, _ => rfl
  | n + 1, h => by simp only [sm]; rw [sm_congr fun i hi => h i (by (first | lia | omega)), h n (by (first | lia | omega))]
theorem sm_zero : ∀ n, sm n (fun _ => 0) = 0
  | 0 => rfl
  | n + 1 => by simp only [sm]; rw [sm_zero n]
theorem sm_add (f g : Nat → Nat) : ∀ n, sm n (fun i => f i + g i) = sm n f + sm n g
  | 0 => rfl
  | n + 1 => by simp only [sm]; rw [sm_add f g n]; (first | lia | omega)
theorem sm_mul (f : Nat → Nat) (c : Nat) : ∀ n, sm n (fun i => f i * c) = sm n f * c
  | 0 => by simp [sm]
  | n + 1 => by simp only [sm]; rw [sm_mul f c n, Nat.add_mul]
theorem sm_swap (f : Nat → Nat → Nat) (q : Nat) : ∀ p, sm p (fun i => sm q (f i)) = sm q (fun j => sm p (fun i => f i j))
  | 0 => by simp only [sm]; exact (sm_zero q).symm
  | p + 1 => by simp only [sm]; rw [sm_swap f q p, ← sm_add]

/-- a part of the digits, place by place -/
theorem sm_digits {D : Nat} (hD : 2 ≤ D) (N c u : Nat) : ∀ k, sm k (fun j => if c ≤ j ∧ j < u then N / D ^ j % D * D ^ (j - c) else 0) = N % D ^ (min k u) / D ^ c
  | 0 => by simp [sm, Nat.mod_one]
  | k + 1 => by
    simp only [sm]
    rw [sm_digits hD N c u k]
    by_cases hu : k < u
    · rw [show min (k + 1) u = k + 1 by (first | lia | omega), show min k u = k by (first | lia | omega)]
      by_cases hc : c ≤ k
      · rw [if_pos ⟨hc, hu⟩, Nat.mod_pow_succ]
        have e : D ^ k = D ^ c * D ^ (k - c) := by rw [← Nat.pow_add]; exact congrArg _ (by (first | lia | omega))
        generalize N / D ^ k % D = y
        have e2 : N % D ^ k + D ^ k * y = N % D ^ k + D ^ c * (D ^ (k - c) * y) := by rw [← Nat.mul_assoc, ← e]
        rw [e2, Nat.add_mul_div_left _ _ (Nat.pow_pos (by (first | lia | omega))), Nat.mul_comm y]
      · rw [if_neg (fun h => hc h.1)]
        have h1 : N % D ^ (k + 1) < D ^ c := Nat.lt_of_lt_of_le (Nat.mod_lt _ (Nat.pow_pos (by (first | lia | omega)))) (Nat.pow_le_pow_right (by (first | lia | omega)) (by (first | lia | omega)))
        have h2 : N % D ^ k < D ^ c := Nat.lt_of_lt_of_le (Nat.mod_lt _ (Nat.pow_pos (by (first | lia | omega)))) (Nat.pow_le_pow_right (by (first | lia | omega)) (by (first | lia | omega)))
        rw [Nat.div_eq_of_lt h1, Nat.div_eq_of_lt h2]
    · rw [if_neg (fun h => hu h.2), show min (k + 1) u = min k u by (first | lia | omega), Nat.add_zero]

noncomputable def lsF (D M N least most i j : Nat) : Nat := if least ≤ i + j ∧ i + j ≤ most then (M / D ^ i % D) * (N / D ^ j % D) * D ^ (i + j - least) else 0
theorem lsF_comm (D M N least most i j : Nat) : lsF D M N least most i j = lsF D N M least most j i := by
  unfold lsF
  rw [Nat.add_comm i j, Nat.mul_comm (M / D ^ i % D)]
theorem ls_row {D : Nat} (hD : 2 ≤ D) (M N least most i k : Nat) : sm k (lsF D M N least most i) = (M / D ^ i % D) * (N % D ^ (min k (most + 1 - i)) / D ^ (least - i)) * D ^ (i - least) := by
  rw [← sm_digits hD N (least - i) (most + 1 - i) k, Nat.mul_assoc, Nat.mul_comm (M / D ^ i % D), ← sm_mul, ← sm_mul]
  refine sm_congr fun j _ => ?_
  unfold lsF
  by_cases h : least ≤ i + j ∧ i + j ≤ most
  · rw [if_pos h, if_pos (by (first | lia | omega))]
    have e : i + j - least = (j - (least - i)) + (i - least) := by (first | lia | omega)
    rw [e, Nat.pow_add]
    grind
  · rw [if_neg h, if_neg (by (first | lia | omega)), Nat.zero_mul, Nat.zero_mul]
noncomputable def lawSum (D M N la lb least most : Nat) : Nat := sm la (fun i => sm lb (lsF D M N least most i))

theorem hsS_sum {D : Nat} (M N n : Nat) : ∀ k, hsS D M N n k = sm k (fun i => (N / D ^ (n - 1 - i)) * (M / D ^ i % D) * D ^ (i - (n - 1)))
  | 0 => rfl
  | k + 1 => by simp only [hsS, sm]; rw [hsS_sum M N n k]
theorem lawSum_high {D : Nat} (hD : 2 ≤ D) {M N n : Nat} (hM : (dg D M).length ≤ n) (hN : (dg D N).length ≤ n) : lawSum D M N (dg D M).length (dg D N).length (n - 1) (2 * n) = hs D M N n := by
  unfold lawSum hs
  rw [hsS_sum]
  refine sm_congr fun i hi => ?_
  rw [ls_row hD, show min (dg D N).length (2 * n + 1 - i) = (dg D N).length by (first | lia | omega), Nat.mod_eq_of_lt (lt_pow_length hD N), Nat.mul_comm (M / D ^ i % D)]

noncomputable def mpS (D M N la n : Nat) : Nat → Nat
  | 0 => 0
  | k + 1 => mpS D M N la n k + (M % D ^ (la - k) / D ^ (n - 1 - k)) * (N / D ^ k % D)
theorem mpS_sum {D : Nat} (M N la n : Nat) : ∀ k, mpS D M N la n k = sm k (fun j => (M % D ^ (la - j) / D ^ (n - 1 - j)) * (N / D ^ j % D))
  | 0 => rfl
  | k + 1 => by simp only [mpS, sm]; rw [mpS_sum M N la n k]
theorem lawSum_middle {D : Nat} (hD : 2 ≤ D) {M N la lb : Nat} (h1 : 1 ≤ lb) (h2 : lb ≤ la) : lawSum D M N la lb (lb - 1) (la - 1) = mpS D M N la lb lb := by
  unfold lawSum
  rw [mpS_sum, sm_swap]
  refine sm_congr fun j hj => ?_
  have e : (fun i => lsF D M N (lb - 1) (la - 1) i j) = lsF D N M (lb - 1) (la - 1) j := funext fun i => lsF_comm ..
  rw [e, ls_row hD, show min la (la - 1 + 1 - j) = la - j by (first | lia | omega), show j - (lb - 1) = 0 by (first | lia | omega), Nat.pow_zero, Nat.mul_one, Nat.mul_comm]
theorem mpS_bd {D : Nat} (hD : 2 ≤ D) (M N la n : Nat) : ∀ k, mpS D M N la n k ≤ k * (M * D)
  | 0 => by simp [mpS]
  | k + 1 => by
    have ih := mpS_bd hD M N la n k
    have h : (M % D ^ (la - k) / D ^ (n - 1 - k)) * (N / D ^ k % D) ≤ M * D :=
      Nat.mul_le_mul (Nat.le_trans (Nat.div_le_self _ _) (Nat.mod_le _ _)) (Nat.le_of_lt (Nat.mod_lt _ (by (first | lia | omega))))
    simp only [mpS]
    rw [Nat.add_mul, Nat.one_mul]
    (first | lia | omega)
theorem mpS_len {D : Nat} (hD : 2 ≤ D) {M N la n k : Nat} (hM : (dg D M).length ≤ la) (hk : k ≤ 1000) : (dg D (mpS D M N la n k)).length ≤ la + 11 := by
  refine (length_dg_le hD).mpr (Nat.lt_of_le_of_lt (mpS_bd hD M N la n k) ?_)
  have h1 := (length_dg_le hD).mp hM
  have h2 : k < D ^ 10 := Nat.lt_of_lt_of_le (show k < 2 ^ 10 by (first | lia | omega)) (Nat.pow_le_pow_left hD 10)
  have e : D ^ (la + 11) = D ^ 10 * (D ^ la * D) := by rw [← Nat.pow_succ, ← Nat.pow_add]; exact congrArg _ (by (first | lia | omega))
  rw [e]
  exact Nat.mul_lt_mul_of_lt_of_le h2 (Nat.mul_le_mul_right _ (Nat.le_of_lt h1)) (Nat.mul_pos (Nat.pow_pos (by (first | lia | omega))) (by (first | lia | omega)))
theorem lawSum_bits {D : Nat} (hD : 2 ≤ D) {M N la lb least most : Nat} : lawSum D M N la lb least most ≤ la * (lb * (D * D * D ^ (la + lb))) := by
  unfold lawSum
  have row : ∀ i, i ≤ la → ∀ k, k ≤ lb → sm k (lsF D M N least most i) ≤ k * (D * D * D ^ (la + lb)) := fun i hi k => by
    induction k with
    | zero => simp [sm]
    | succ k ih =>
      intro hk
      have ih := ih (by (first | lia | omega))
      have h : lsF D M N least most i k ≤ D * D * D ^ (la + lb) := by
        unfold lsF
        split
        · exact Nat.mul_le_mul (Nat.mul_le_mul (Nat.le_of_lt (Nat.mod_lt _ (by (first | lia | omega)))) (Nat.le_of_lt (Nat.mod_lt _ (by (first | lia | omega))))) (Nat.pow_le_pow_right (by (first | lia | omega)) (by (first | lia | omega)))
        · exact Nat.zero_le _
      simp only [sm]
      rw [Nat.add_mul, Nat.one_mul]
      (first | lia | omega)
  have all : ∀ k, k ≤ la → sm k (fun i => sm lb (lsF D M N least most i)) ≤ k * (lb * (D * D * D ^ (la + lb))) := fun k => by
    induction k with
    | zero => simp [sm]
    | succ k ih =>
      intro hk
      have ih := ih (by (first | lia | omega))
      have h := row k (by (first | lia | omega)) lb (Nat.le_refl _)
      simp only [sm]
      rw [Nat.add_mul, Nat.one_mul]
      (first | lia | omega)
  exact all la (Nat.le_refl _)

end NN

open PySem PySem.Calls PySem.W PyProof.Rows
namespace NN

/-! JL1 -/
inductive LV where
  | none
  | bool (b : Bool)
  | int (i : Int)
  | list (xs : List Int)
  | fn (x : Str)
  | pair (a b : LV)
  | raw (v : Value)

abbrev LIM : Nat := 1000000

noncomputable def PL (h : Heap) (a : Addr) (xs : List Int) : Prop :=
  ∃ vs n, h.get? a = some { cls := .type "list", dict := none, data := .seq vs n, slots := #[] } ∧ IntsAre vs.toList xs ∧ xs.length ≤ LIM

noncomputable def Rep (mg : Str → Option Value) (h : Heap) : Value → LV → Prop
  | v, .none => v = .none
  | v, .bool b => v = .bool b
  | v, .int i => ∃ t, v = .int i t
  | v, .list xs => ∃ a, v = .ref a ∧ PL h a xs
  | v, .fn x => ∃ a, v = .ref a ∧ mg x = some (.ref a)
  | v, .raw v' => v = v'
  | v, .pair x y => ∃ t vx vy, v = .ref t ∧ IsTup h t #[vx, vy] ∧ Rep mg h vx x ∧ Rep mg h vy y

theorem PL.mono {h h' : Heap} {a : Addr} {xs : List Int} (p : PL h a xs) (k : ∀ o, h.get? a = some o → h'.get? a = some o) : PL h' a xs := by
  obtain ⟨vs, n, e, i, l⟩ := p
  exact ⟨vs, n, k _ e, i, l⟩

theorem Rep.mono {mg : Str → Option Value} {h h' : Heap} (k : ∀ b o, h.get? b = some o → h'.get? b = some o) : ∀ {lv : LV} {v : Value}, Rep mg h v lv → Rep mg h' v lv
  | .none, _, r => r
  | .bool _, _, r => r
  | .int _, _, r => r
  | .list _, _, ⟨a, e, p⟩ => ⟨a, e, p.mono (k a)⟩
  | .fn _, _, r => r
  | .raw _, _, r => r
  | .pair _ _, _, ⟨t, vx, vy, e, ht, rx, ry⟩ => ⟨t, vx, vy, e, by obtain ⟨n, x, y⟩ := ht; exact ⟨n, k _ _ x, y⟩, Rep.mono k rx, Rep.mono k ry⟩

structure Base where
  prog : Program
  w : World
  p : Program
  loose : List Str
  mean : ExcName → Option Value
  mg : Str → Option Value
  mb : Str → Option Value
  h0 : Heap
  T : Top p loose mean mg mb h0

structure Cx extends Base where
  cn : Str
  cs : Scope
  hk : cs.kind = .function
  nd : (cs.names.map (·.1)).Nodup

structure Gr (s s' : Shared) : Prop where
  gens : s'.gens = s.gens
  drawn : s'.drawn = s.drawn
  os : s'.os = s.os
  keep : ∀ b o, s.heap.get? b = some o → s'.heap.get? b = some o
theorem Gr.refl (s : Shared) : Gr s s := ⟨rfl, rfl, rfl, fun _ _ h => h⟩
theorem Gr.trans {a b c : Shared} (x : Gr a b) (y : Gr b c) : Gr a c := ⟨y.gens.trans x.gens, y.drawn.trans x.drawn, y.os.trans x.os, fun i o h => y.keep i o (x.keep i o h)⟩
theorem Gr.of {s : Shared} {h' : Heap} {tk : Nat} (k : ∀ b o, s.heap.get? b = some o → h'.get? b = some o) : Gr s { s with heap := h', toks := tk } := ⟨rfl, rfl, rfl, k⟩
theorem Gr.tk {s : Shared} {tk : Nat} : Gr s { s with toks := tk } := ⟨rfl, rfl, rfl, fun _ _ h => h⟩
theorem Gr.push {s : Shared} {tk : Nat} (o : Obj) : Gr s { s with heap := s.heap.push o, toks := tk } := ⟨rfl, rfl, rfl, fun _ _ h => Heap.get?_push_of_some _ h⟩

structure Room (A : Around) (d : Nat) : Prop where
  h : A.handled = none
  dep : A.depth + d < recursionLimit
  un : A.units + 10 * d + 100 < cLine

structure St where
  σ : List (Option LV)
  own : Option (Nat × List Int) := none

noncomputable def IsSeq (o : Obj) : Prop := ∃ xs n, o.data = .seq xs n
/-- stays what it is in every heap that keeps what is not bad -/
noncomputable def Off (mg : Str → Option Value) (h : Heap) (L : Addr) (oa : Option Addr) (v : Value) (lv : LV) : Prop :=
  ∀ h' : Heap, (∀ b o, b ≠ L → oa ≠ some b → IsSeq o → h.get? b = some o → h'.get? b = some o) → Rep mg h' v lv

structure Vars (C : Cx) (h : Heap) (L : Addr) (oa : Option Addr) (m : Str → Option Value) (st : St) : Prop where
  var : ∀ (i : Nat) (lv : LV), st.σ[i]? = some (some lv) → ∃ (xk : Str × NameKind) (v : Value), C.cs.names[i]? = some xk ∧ m xk.1 = some v ∧ Off C.mg h L oa v lv
  own : ∀ (i : Nat) (xs : List Int), st.own = some (i, xs) → ∃ (a : Addr) (xk : Str × NameKind), oa = some a ∧ C.cs.names[i]? = some xk ∧ m xk.1 = some (.ref a) ∧ PL h a xs
  none : st.own = none → oa = none

structure Inv (C : Cx) (L : Addr) (oa : Option Addr) (st : St) (s : Shared) : Prop where
  ex : ∃ m, Fr C.h0 L s.heap m ∧ Vars C s.heap L oa m st
  ab : ∀ a, oa = some a → C.h0.objs.size ≤ a

theorem Inv.base {C : Cx} {L : Addr} {oa : Option Addr} {st : St} {s : Shared} (I : Inv C L oa st s) : ∀ b o, C.h0.get? b = some o → s.heap.get? b = some o := by
  obtain ⟨m, F, _⟩ := I.ex
  exact F.keep

theorem Off.keep {mg : Str → Option Value} {h h' : Heap} {L : Addr} {oa : Option Addr} {v : Value} {lv : LV} (x : Off mg h L oa v lv) (k : ∀ b o, b ≠ L → oa ≠ some b → IsSeq o → h.get? b = some o → h'.get? b = some o) : Off mg h' L oa v lv :=
  fun h2 k2 => x h2 fun b o e1 e2 q e => k2 b o e1 e2 q (k b o e1 e2 q e)
theorem Off.rep {mg : Str → Option Value} {h : Heap} {L : Addr} {oa : Option Addr} {v : Value} {lv : LV} (x : Off mg h L oa v lv) : Rep mg h v lv := x h fun _ _ _ _ _ e => e
theorem Inv.size {C : Cx} {L : Addr} {oa : Option Addr} {st : St} {s : Shared} (I : Inv C L oa st s) : C.h0.objs.size ≤ s.heap.objs.size := by
  obtain ⟨m, F, _⟩ := I.ex
  obtain ⟨o, _, _, e, _⟩ := F.ns
  exact Nat.le_trans F.above (Nat.le_of_lt (Heap.lt_size e))

theorem Vars.mono {C : Cx} {h h' : Heap} {L : Addr} {oa : Option Addr} {m : Str → Option Value} {st : St} (V : Vars C h L oa m st) (k : ∀ b o, h.get? b = some o → h'.get? b = some o) : Vars C h' L oa m st where
  var := fun i lv e => by
    obtain ⟨xk, v, a, b, c⟩ := V.var i lv e
    exact ⟨xk, v, a, b, c.keep fun b o _ _ _ e => k b o e⟩
  own := fun i xs e => by
    obtain ⟨a, xk, e1, b, c, d⟩ := V.own i xs e
    exact ⟨a, xk, e1, b, c, d.mono (k a)⟩
  none := V.none

theorem Inv.mono {C : Cx} {L : Addr} {oa : Option Addr} {st : St} {s s' : Shared} (I : Inv C L oa st s) (g : Gr s s') : Inv C L oa st s' := by
  obtain ⟨m, F, V⟩ := I.ex
  exact ⟨⟨m, ⟨F.ns.keeps g.keep, fun b o e => g.keep b o (F.keep b o e), F.above⟩, V.mono g.keep⟩, I.ab⟩

/-- an expression's value -/
structure Ev (C : Cx) (d : Nat) (st : St) (e : Expr) (lv : LV) : Prop where
  run :
  ∀ (A : Around) (E : Value → Shared → Prop) (L a : Addr) (cd : Value) (oa : Option Addr) (s : Shared) (Q : Value → Shared → Prop), Room A d → Inv C L oa st s →
    (∀ v s', Gr s s' → Rep C.mg s'.heap v lv → Q v s') → wpAny (model C.prog C.w) A (eval e (envOf C.cn C.cs L a cd)) Q E s

/-- a test's truth -/
structure Tr (C : Cx) (d : Nat) (st : St) (e : Expr) (b : Bool) : Prop where
  run :
  ∀ (A : Around) (E : Value → Shared → Prop) (L a : Addr) (cd : Value) (oa : Option Addr) (s : Shared) (Q : Bool → Shared → Prop), Room A d → Inv C L oa st s →
    (∀ s', Gr s s' → Q b s') → wpAny (model C.prog C.w) A (isTrue e (envOf C.cn C.cs L a cd) (eval e (envOf C.cn C.cs L a cd))) Q E s

noncomputable def Reps (mg : Str → Option Value) (h : Heap) : List Value → List LV → Prop
  | [], [] => True
  | v :: vs, l :: ls => Rep mg h v l ∧ Reps mg h vs ls
  | _, _ => False
theorem Reps.mono {mg : Str → Option Value} {h h' : Heap} (k : ∀ b o, h.get? b = some o → h'.get? b = some o) : ∀ {vs : List Value} {ls : List LV}, Reps mg h vs ls → Reps mg h' vs ls
  | [], [], _ => trivial
  | _ :: _, _ :: _, ⟨a, b⟩ => ⟨a.mono k, Reps.mono k b⟩
  | [], _ :: _, h => h.elim
  | _ :: _, [], h => h.elim

theorem reps1 {mg : Str → Option Value} {h : Heap} {vs : List Value} {l : LV} (r : Reps mg h vs [l]) : ∃ v, vs = [v] ∧ Rep mg h v l := by
  cases vs with
  | nil => exact r.elim
  | cons v t =>
    cases t with
    | nil => exact ⟨v, rfl, r.1⟩
    | cons _ _ => exact r.2.elim
theorem reps2 {mg : Str → Option Value} {h : Heap} {vs : List Value} {l l' : LV} (r : Reps mg h vs [l, l']) : ∃ v v', vs = [v, v'] ∧ Rep mg h v l ∧ Rep mg h v' l' := by
  cases vs with
  | nil => exact r.elim
  | cons v t =>
    obtain ⟨v', rfl, r'⟩ := reps1 r.2
    exact ⟨v, v', rfl, r.1, r'⟩
theorem reps3 {mg : Str → Option Value} {h : Heap} {vs : List Value} {l l' l'' : LV} (r : Reps mg h vs [l, l', l'']) : ∃ v v' v'', vs = [v, v', v''] ∧ Rep mg h v l ∧ Rep mg h v' l' ∧ Rep mg h v'' l'' := by
  cases vs with
  | nil => exact r.elim
  | cons v t =>
    obtain ⟨v', v'', rfl, r'⟩ := reps2 r.2
    exact ⟨v, v', v'', rfl, r.1, r'⟩

/-- the values of some expressions, one behind the other -/
structure Evs (C : Cx) (d : Nat) (st : St) (es : List Expr) (ls : List LV) : Prop where
  run :
  ∀ (A : Around) (E : Value → Shared → Prop) (L a : Addr) (cd : Value) (oa : Option Addr) (pos : Pos) (s : Shared) (Q : List Value → Shared → Prop), Room A d → Inv C L oa st s →
    (∀ vs s', Gr s s' → Reps C.mg s'.heap vs ls → Q vs s') → wpAny (model C.prog C.w) A (spliced (backTo pos (starEach es (envOf C.cn C.cs L a cd)))) Q E s

/-- what a call of a def of the text gives -/
structure CallTo (B : Base) (d : Nat) (f : Str) (args : List LV) (lv : LV) : Prop where
  run :
  ∀ (A : Around) (E : Value → Shared → Prop) (s : Shared) (fa : Addr) (vs : List Value) (Q : Value → Shared → Prop), Room A d → (∀ b o, B.h0.get? b = some o → s.heap.get? b = some o) →
    B.h0.objs.size ≤ s.heap.objs.size → B.mg f = some (.ref fa) → Reps B.mg s.heap vs args → (∀ v s', Gr s s' → Rep B.mg s'.heap v lv → Q v s') → wpAny (model B.prog B.w) A (call (.ref fa) vs []) Q E s

structure Kp (L : Addr) (oa : Option Addr) (s s' : Shared) : Prop where
  gens : s'.gens = s.gens
  drawn : s'.drawn = s.drawn
  os : s'.os = s.os
  keep : ∀ b o, b ≠ L → oa ≠ some b → s.heap.get? b = some o → s'.heap.get? b = some o
theorem Kp.refl (L : Addr) (oa : Option Addr) (s : Shared) : Kp L oa s s := ⟨rfl, rfl, rfl, fun _ _ _ _ h => h⟩
theorem Kp.trans {L : Addr} {oa : Option Addr} {a b c : Shared} (x : Kp L oa a b) (y : Kp L oa b c) : Kp L oa a c :=
  ⟨y.gens.trans x.gens, y.drawn.trans x.drawn, y.os.trans x.os, fun i o h1 h2 h => y.keep i o h1 h2 (x.keep i o h1 h2 h)⟩
theorem Gr.kp {L : Addr} {oa : Option Addr} {s s' : Shared} (g : Gr s s') : Kp L oa s s' := ⟨g.gens, g.drawn, g.os, fun b o _ _ h => g.keep b o h⟩

/-- statements: where they end -/
structure Ex (C : Cx) (d : Nat) (st : St) (ss : List Stmt) (N : St → Prop) (R : LV → Prop) : Prop where
  run :
  ∀ (A : Around) (E : Value → Shared → Prop) (L a : Addr) (cd : Value) (oa : Option Addr) (s : Shared) (Q : Flow → Shared → Prop), Room A d → Inv C L oa st s →
    (∀ st' s', N st' → Inv C L oa st' s' → Kp L oa s s' → Q .next s') →
    (∀ v lv s', R lv → Rep C.mg s'.heap v lv → Kp L oa s s' → Q (.ret v) s') →
    wpAny (model C.prog C.w) A (execs ss (envOf C.cn C.cs L a cd)) Q E s

section
variable {C : Cx} {d : Nat} {st : St}

theorem Ev.conv {e : Expr} {l l' : LV} (h : Ev C d st e l) (x : l = l') : Ev C d st e l' := x ▸ h
theorem Tr.conv {e : Expr} {b b' : Bool} (h : Tr C d st e b) (x : b = b') : Tr C d st e b' := x ▸ h

theorem Ev.int {i : Int} {k : Nat} {pos : Pos} : Ev C d st (.Constant (.int i) k pos) (.int i) :=
  ⟨fun _ _ _ _ _ _ _ _ _ _ q => wpAny_Constant_int (q _ _ Gr.tk ⟨_, rfl⟩)⟩
theorem Ev.bool {b : Bool} {k : Nat} {pos : Pos} : Ev C d st (.Constant (.bool b) k pos) (.bool b) :=
  ⟨fun _ _ _ _ _ _ _ _ _ _ q => wpAny_Constant_bool (q _ _ (Gr.refl _) rfl)⟩
theorem Ev.none {k : Nat} {pos : Pos} : Ev C d st (.Constant .none k pos) .none :=
  ⟨fun _ _ _ _ _ _ _ _ _ _ q => wpAny_Constant_none (q _ _ (Gr.refl _) rfl)⟩

/-- x is the i-th name, a local one -/
structure Loc (C : Cx) (x : Str) (i : Nat) : Prop where
  at' : ∃ k, C.cs.names[i]? = some (x, k)
  look : C.cs.names.lookup x = some .local
  nodebug : (x == ("__debug__" : Str)) = false

theorem Ev.var {x : Str} {pos : Pos} {i : Nat} {lv : LV} (l : Loc C x i) (h : st.σ[i]? = some (some lv)) : Ev C d st (.Name x pos) lv := by
  refine ⟨?_⟩
  intro A E L a cd oa s Q R I q
  obtain ⟨m, F, V⟩ := I.ex
  obtain ⟨xk, v, hx, hm, r⟩ := V.var i lv h
  obtain ⟨k, hx'⟩ := l.at'
  rw [hx'] at hx
  cases hx
  exact ld F hm (q _ _ (Gr.refl _) r.rep) C.hk l.look l.nodebug

structure Glb (C : Cx) (x : Str) : Prop where
  look : C.cs.names.lookup x = some .globalImplicit
  nodebug : (x == ("__debug__" : Str)) = false

theorem Ev.fn {x : Str} {pos : Pos} {fa : Addr} (l : Glb C x) (h : C.mg x = some (.ref fa)) : Ev C d st (.Name x pos) (.fn x) := by
  refine ⟨?_⟩
  intro A E L a cd oa s Q R I q
  obtain ⟨m, F, V⟩ := I.ex
  exact ld_global_at F C.T.g h (q _ _ (Gr.refl _) ⟨_, rfl, h⟩) C.hk l.look l.nodebug

structure BinTo (op : Operator) (x y z : LV) : Prop where
  run :
  ∀ (B : Base) (A : Around) (E : Value → Shared → Prop) (s : Shared) (vx vy : Value) (Q : Value → Shared → Prop), A.handled = .none → (∀ b o, B.h0.get? b = some o → s.heap.get? b = some o) →
    Rep B.mg s.heap vx x → Rep B.mg s.heap vy y → (∀ v s', Gr s s' → Rep B.mg s'.heap v z → Q v s') → wpAny (model B.prog B.w) A (binaryOp op vx vy) Q E s

theorem Ev.bin {l r : Expr} {op : Operator} {pos : Pos} {x y z : LV} (hl : Ev C d st l x) (hr : Ev C d st r y) (hb : BinTo op x y z) : Ev C d st (.BinOp l op r pos) z := by
  refine ⟨?_⟩
  intro A E L a cd oa s Q R I q
  refine wpAny_BinOp (hl.run A E L a cd oa s _ R I fun vx s1 g1 r1 => hr.run A E L a cd oa s1 _ R (I.mono g1) fun vy s2 g2 r2 => ?_)
  exact hb.run C.toBase A E s2 vx vy Q R.h ((I.mono g1).mono g2).base (r1.mono g2.keep) r2 fun v s' g3 r3 => q v s' ((g1.trans g2).trans g3) r3

theorem BinTo.add {x y : Int} : BinTo .Add (.int x) (.int y) (.int (x + y)) := by
  refine ⟨?_⟩
  rintro B A E s vx vy Q hA hb ⟨t, rfl⟩ ⟨u, rfl⟩ q
  exact add_int (q _ _ Gr.tk ⟨_, rfl⟩)
theorem BinTo.sub {x y : Int} : BinTo .Sub (.int x) (.int y) (.int (x - y)) := by
  refine ⟨?_⟩
  rintro B A E s vx vy Q hA hb ⟨t, rfl⟩ ⟨u, rfl⟩ q
  exact sub_int (q _ _ Gr.tk ⟨_, rfl⟩)
theorem BinTo.mul {x y : Int} (h : IntMulOk x y) : BinTo .Mult (.int x) (.int y) (.int (x * y)) := by
  refine ⟨?_⟩
  rintro B A E s vx vy Q hA hb ⟨t, rfl⟩ ⟨u, rfl⟩ q
  exact mul_int (q _ _ Gr.tk ⟨_, rfl⟩) h
theorem BinTo.div {x y : Int} (h : 0 < y) (hp : Builtin.divisionGoesByPylong x y = false) : BinTo .FloorDiv (.int x) (.int y) (.int (x / y)) := by
  refine ⟨?_⟩
  rintro B A E s vx vy Q hA hb ⟨t, rfl⟩ ⟨u, rfl⟩ q
  exact floordiv_int (by (first | lia | omega)) (q _ _ Gr.tk ⟨s.toks, by rw [Int.fdiv_eq_ediv_of_nonneg _ (by (first | lia | omega))]⟩) (.inl hp)
theorem BinTo.mod {x y : Int} (h : 0 < y) : BinTo .Mod (.int x) (.int y) (.int (x % y)) := by
  refine ⟨?_⟩
  rintro B A E s vx vy Q hA hb ⟨t, rfl⟩ ⟨u, rfl⟩ q
  exact mod_int' (by (first | lia | omega)) (q _ _ Gr.tk ⟨s.toks, by rw [Int.fmod_eq_emod_of_nonneg _ (by (first | lia | omega))]⟩)
theorem BinTo.shl {x : Int} {n : Nat} (h : (Builtin.Int.intBits x : Int) + n ≤ 2 ^ 27) : BinTo .LShift (.int x) (.int n) (.int (x * 2 ^ n)) := by
  refine ⟨?_⟩
  rintro B A E s vx vy Q hA hb ⟨t, rfl⟩ ⟨u, rfl⟩ q
  exact lshift_int (Int.natCast_nonneg _) h (q _ _ Gr.tk ⟨s.toks, by rw [Int.toNat_natCast]⟩)
theorem BinTo.shr {x : Int} {n : Nat} : BinTo .RShift (.int x) (.int n) (.int (x / 2 ^ n)) := by
  refine ⟨?_⟩
  rintro B A E s vx vy Q hA hb ⟨t, rfl⟩ ⟨u, rfl⟩ q
  exact rshift_int (Int.natCast_nonneg _) (q _ _ Gr.tk ⟨s.toks, by rw [Int.toNat_natCast, Int.fdiv_eq_ediv_of_nonneg _ (Int.le_of_lt (Int.pow_pos (by decide)))]⟩)
theorem BinTo.band {x y : Int} : BinTo .BitAnd (.int x) (.int y) (.int (Builtin.bitAnd x y)) := by
  refine ⟨?_⟩
  rintro B A E s vx vy Q hA hb ⟨t, rfl⟩ ⟨u, rfl⟩ q
  exact and_int (q _ _ Gr.tk ⟨_, rfl⟩)
theorem BinTo.bor {x y : Int} : BinTo .BitOr (.int x) (.int y) (.int (Builtin.bitOr x y)) := by
  refine ⟨?_⟩
  rintro B A E s vx vy Q hA hb ⟨t, rfl⟩ ⟨u, rfl⟩ q
  exact or_int (q _ _ Gr.tk ⟨_, rfl⟩)

theorem PL.new {h : Heap} {vs : Array Value} {xs : List Int} (i : IntsAre vs.toList xs) (l : xs.length ≤ LIM) : PL (h.push { cls := .type "list", data := .seq vs }) h.objs.size xs :=
  ⟨vs, 0, Heap.get?_push_size _ rfl, i, l⟩

theorem BinTo.cat {x y : List Int} (h : x.length + y.length ≤ LIM) : BinTo .Add (.list x) (.list y) (.list (x ++ y)) := by
  refine ⟨?_⟩
  rintro B A E s vx vy Q hA hb ⟨a, rfl, p⟩ ⟨b, rfl, p'⟩ q
  obtain ⟨vs, n, e, i, l⟩ := p
  obtain ⟨us, n', e', i', l'⟩ := p'
  have h1 := i.length
  have h2 := i'.length
  simp only [Array.length_toList] at h1 h2
  refine P.add_list e e' (q _ _ (Gr.push _) ⟨_, rfl, PL.new ?_ (by simpa using h)⟩) (by rw [sizeLine_eq, h1, h2]; unfold LIM at h; (first | lia | omega))
  rw [Array.toList_append]
  exact i.append i'

theorem IntsAre.rep {vs : List Value} {xs : List Int} (i : IntsAre vs xs) (k : Nat) : IntsAre (List.replicate k vs).flatten (List.replicate k xs).flatten := by
  induction k with
  | zero => exact .nil
  | succ k ih => simpa [List.replicate_succ] using i.append ih
/-- a list some times over: the int's slot declines, the list's own makes the new one -/
theorem times_low {prog : Program} {w : World} {A : Around} {E : Value → Shared → Prop} {s : Shared} {l : Addr} {vs : Array Value} {n : Nat} {x : Int} {u : Tok} {Q : Value → Shared → Prop} (e : IsL s.heap l vs n) (h0 : 0 ≤ x) (h1 : x ≤ 1000000) (hz : vs.size * x.toNat ≤ 1000000)
    (q : Q (.ref s.heap.objs.size) { s with heap := s.heap.push { cls := .type "list", data := .seq (List.replicate x.toNat vs.toList).flatten.toArray } }) : wpAny (model prog w) A (binaryOp .Mult (.ref l) (.int x u)) Q E s := by
  have ty : s.TypeIs (.ref l) "list" := ⟨_, e, rfl⟩
  have fits : ¬(!Builtin.List.listFitsIndex x) = true := by unfold Builtin.List.listFitsIndex; simp; (first | lia | omega)
  have few : ¬vs.size * x.toNat > (2 ^ 63 - 1) / 8 := by (first | lia | omega)
  have low : ¬Builtin.List.listTooLong (vs.size * x.toNat) = true := by unfold Builtin.List.listTooLong; rw [sizeLine_eq]; simp; (first | lia | omega)
  have own := lm_list_mul_any l vs n none #[] x u fits few low
  rw [listMul_foldl_if] at own
  have made : wpAny (model prog w) A (call (.builtin "list.__mul__") [.ref l, .int x u]) Q E s := call_meets F.slot_list_mul ty F.entry_list_mul (F.args_list_mul_2 _ _) own ⟨e, q⟩
  have declined := call_meets (prog := prog) (w := w) (A := A) (E := E) (Q := fun v s' => v = .notImplemented ∧ s'.TypeIs (.ref l) "list" ∧ wpAny (model prog w) A (call (.builtin "list.__mul__") [.ref l, .int x u]) Q E s')
    F.slot_int_rmul (typeIs_int s x u) F.entry_int_rmul (F.args_int_rmul_2 _ _) (lm_int_rmul_list_any x u l vs n none #[]) ⟨e, rfl, ty, made⟩
  exact wpAny_binaryOp_repeat_ref (by decide) ty (fun s' => typeIs_int s' x u) noFill_list_mul F.fills_int_mul F.slot_int_rmul repeat_list F.slot_int_index.lookup declined

theorem BinTo.repeat {x : List Int} {k : Nat} (h : x.length * k ≤ LIM) (hk : k ≤ LIM) : BinTo .Mult (.list x) (.int k) (.list (List.replicate k x).flatten) := by
  refine ⟨?_⟩
  rintro B A E s vx vy Q hA hb ⟨a, rfl, p⟩ ⟨u, rfl⟩ q
  obtain ⟨vs, n, e, i, l⟩ := p
  have h1 := i.length
  simp only [Array.length_toList] at h1
  unfold LIM at hk
  refine times_low e (by (first | lia | omega)) (by (first | lia | omega)) (by rw [Int.toNat_natCast, h1]; exact h) (q _ _ (Gr.push _) ⟨_, rfl, ?_⟩)
  rw [Int.toNat_natCast]
  refine PL.new (IntsAre.rep i k) ?_
  simp only [List.length_flatten, List.map_replicate, List.sum_replicate_nat]
  rw [Nat.mul_comm]; exact h
end

/-! JL2 -/
theorem sub_ops (slice : Expr) (o i : Value) : ∃ ops, subscripted slice false o i = operate ops (getItem o i) := by
  unfold subscripted
  split
  · exact ⟨_, rfl⟩
  · rename_i h; cases h
  · exact ⟨_, rfl⟩

theorem IntsAre.getD {vs : List Value} {xs : List Int} (h : IntsAre vs xs) (k : Nat) (hk : k < xs.length) : ∃ t, vs[k]? = some (.int (xs.getD k 0) t) := by
  obtain ⟨t, e⟩ := h.get k (xs.getD k 0) (by rw [List.getD_eq_getElem?_getD]; simp [hk])
  exact ⟨t, e⟩

section
variable {C : Cx} {d : Nat} {st : St}

theorem item_low {prog : Program} {w : World} {A : Around} {E : Value → Shared → Prop} {s : Shared} {value slice : Expr} {a : Addr} {xs : List Int} {k : Int} {t : Tok} {Q : Value → Shared → Prop}
    (p : PL s.heap a xs) (h0 : 0 ≤ k) (h1 : k < xs.length) (q : ∀ u, Q (.int (xs.getD k.toNat 0) u) s) : wpAny (model prog w) A (subscriptTail value slice (.ref a) (.int k t)) Q E s := by
  obtain ⟨vs, n, e, i, l⟩ := p
  obtain ⟨u, hu⟩ := IntsAre.getD i k.toNat (by (first | lia | omega))
  obtain ⟨ops, ho⟩ := sub_ops slice (.ref a) (.int k t)
  have hl : s.heap.IsList a vs := ⟨_, e, rfl, n, rfl⟩
  exact tail_any hl.typeIs slot_list_getitem.lookup (wpAny_getItem_list hl h0 (by unfold LIM at l; (first | lia | omega)) (by simpa using hu) (q u)) ho

theorem Ev.idx {value slice : Expr} {pos : Pos} {xs : List Int} {k : Int} (hv : Ev C d st value (.list xs)) (hs : Ev C d st slice (.int k)) (h0 : 0 ≤ k) (h1 : k < xs.length) :
    Ev C d st (.Subscript value slice pos) (.int (xs.getD k.toNat 0)) := by
  refine ⟨?_⟩
  intro A E L a cd oa s Q R I q
  refine Subscript_ (hv.run A E L a cd oa s _ R I fun v s1 g1 r1 => hs.run A E L a cd oa s1 _ R (I.mono g1) fun i s2 g2 r2 => ?_)
  obtain ⟨b, rfl, p⟩ := r1
  obtain ⟨t, rfl⟩ := r2
  exact item_low (p.mono (g2.keep b)) h0 h1 fun u => q _ _ (g1.trans g2) ⟨u, rfl⟩

/-- the owned list's item -/
theorem Ev.idxOwn {x : Str} {px pos : Pos} {slice : Expr} {j : Nat} {xs : List Int} {k : Int} (l : Loc C x j) (ho : st.own = some (j, xs)) (hs : Ev C d st slice (.int k)) (h0 : 0 ≤ k) (h1 : k < xs.length) :
    Ev C d st (.Subscript (.Name x px) slice pos) (.int (xs.getD k.toNat 0)) := by
  refine ⟨?_⟩
  intro A E L a cd oa s Q R I q
  obtain ⟨m, F, V⟩ := I.ex
  obtain ⟨b, xk, _, hx, hm, p⟩ := V.own j xs ho
  obtain ⟨kk, hx'⟩ := l.at'
  rw [hx'] at hx
  cases hx
  refine Subscript_ (ld F hm ?_ C.hk l.look l.nodebug)
  refine hs.run A E L a cd oa s _ R I fun i s2 g2 r2 => ?_
  obtain ⟨t, rfl⟩ := r2
  exact item_low (p.mono (g2.keep b)) h0 h1 fun u => q _ _ g2 ⟨u, rfl⟩

noncomputable def Pt (C : Cx) (d : Nat) (st : St) : Option Expr → Option Int → Prop
  | .none, .none => True
  | some e, some i => Ev C d st e (.int i)
  | _, _ => False

theorem Pt.run {e : Option Expr} {o : Option Int} (h : Pt C d st e o) {A : Around} {E : Value → Shared → Prop} {L a : Addr} {cd : Value} {oa : Option Addr} {s : Shared} {Q : Value → Shared → Prop} (R : Room A d) (I : Inv C L oa st s)
    (q : ∀ v s', Gr s s' → IsPart v o → Q v s') : wpAny (model C.prog C.w) A (evalPart e (envOf C.cn C.cs L a cd)) Q E s := by
  cases e with
  | none => cases o with
    | none => exact wpAny_evalPart_none (q _ _ (Gr.refl _) .none)
    | some i => exact h.elim
  | some e => cases o with
    | none => exact h.elim
    | some i => exact wpAny_evalPart_some (Ev.run h A E L a cd oa s _ R I fun v s' g r => by obtain ⟨t, rfl⟩ := r; exact q _ _ g (.int _ _))

theorem Ev.slice {value : Expr} {lo hi sp : Option Expr} {p pos : Pos} {xs : List Int} {l h k : Option Int} (hv : Ev C d st value (.list xs)) (hl : Pt C d st lo l) (hh : Pt C d st hi h) (hk : Pt C d st sp k) (h0 : k ≠ some 0) :
    Ev C d st (.Subscript value (.Slice lo hi sp p) pos) (.list (pickNums xs l h k)) := by
  refine ⟨?_⟩
  intro A E L a cd oa s Q R I q
  refine Subscript_ (hv.run A E L a cd oa s _ R I fun v s1 g1 r1 => wpAny_Slice (hl.run R (I.mono g1) fun vl s2 g2 p2 => hh.run R ((I.mono g1).mono g2) fun vh s3 g3 p3 => hk.run R (((I.mono g1).mono g2).mono g3) fun vk s4 g4 p4 => ?_))
  obtain ⟨b, rfl, pl⟩ := r1
  have pl := pl.mono (h' := (s4.heap.push { cls := .type "slice", data := .fields #[vl, vh, vk] })) (fun o e => Heap.get?_push_of_some _ (g4.keep b o (g3.keep b o (g2.keep b o e))))
  obtain ⟨vs, n, e, i, len⟩ := pl
  obtain ⟨ops, ho⟩ := sub_ops (.Slice lo hi sp p) (.ref b) (.ref s4.heap.objs.size)
  have hL : (s4.heap.push { cls := .type "slice", data := .fields #[vl, vh, vk] }).IsList b vs := ⟨_, e, rfl, n, rfl⟩
  have hz := i.length
  simp only [Array.length_toList] at hz
  have hp := IntsAre.pick i l h k
  refine tail_any (s := { s4 with heap := s4.heap.push { cls := .type "slice", data := .fields #[vl, vh, vk] } }) hL.typeIs slot_list_getitem.lookup (wpAny_getItem_list_slice hL (Heap.IsSliceOf.new ..) p2 p3 p4 h0 ?_ (by rw [hz, sizeLine_eq]; unfold LIM at len; (first | lia | omega))) ho
  refine q _ _ ((((g1.trans g2).trans g3).trans g4).trans ((Gr.push (tk := s4.toks) { cls := .type "slice", data := .fields #[vl, vh, vk] }).trans (Gr.push _))) ⟨_, rfl, PL.new ?_ (Nat.le_trans (length_pickNums_le i l h k) len)⟩
  simpa using hp

theorem Evs.nil : Evs C d st [] [] := ⟨fun _ _ _ _ _ _ _ _ _ _ _ q => wpAny_items_nil (q _ _ (Gr.refl _) trivial)⟩
theorem Evs.cons {e : Expr} {es : List Expr} {l : LV} {ls : List LV} (h : Ev C d st e l) (hs : Evs C d st es ls) (he : ∀ env, starEach (e :: es) env = (false, eval e env) :: starEach es env := by intro _; rfl) : Evs C d st (e :: es) (l :: ls) := by
  refine ⟨?_⟩
  intro A E L a cd oa pos s Q R I q
  refine wpAny_items_cons (h.run A E L a cd oa s _ R I fun v s1 g1 r1 => hs.run A E L a cd oa pos s1 _ R (I.mono g1) fun vs s2 g2 r2 => q _ _ (g1.trans g2) ⟨r1.mono g2.keep, r2⟩) (he _)

theorem Reps.ints {mg : Str → Option Value} {h : Heap} : ∀ {vs : List Value} {xs : List Int}, Reps mg h vs (xs.map LV.int) → IntsAre vs xs
  | [], [], _ => .nil
  | v :: vs, x :: xs, r => by
    obtain ⟨⟨t, rfl⟩, r⟩ := r
    exact .cons _ _ (Reps.ints r)
  | [], _ :: _, h => h.elim
  | _ :: _, [], h => h.elim

theorem Ev.disp {es : List Expr} {pos : Pos} {xs : List Int} (h : Evs C d st es (xs.map LV.int)) (hl : xs.length ≤ LIM := by decide) : Ev C d st (.List es pos) (.list xs) := by
  refine ⟨?_⟩
  intro A E L a cd oa s Q R I q
  refine wpAny_List (h.run A E L a cd oa pos s _ R I fun vs s1 g1 r1 => ?_)
  have i := Reps.ints r1
  have hz := i.length
  refine ⟨by rw [hz, sizeLine_eq]; unfold LIM at hl; (first | lia | omega), q _ _ (g1.trans (Gr.push _)) ⟨_, rfl, PL.new (by simpa using i) hl⟩⟩

theorem Ev.pair {e e' : Expr} {k : Nat} {pos : Pos} {l l' : LV} (h : Ev C d st e l) (h' : Ev C d st e' l') (he : ∀ env, starEach [e, e'] env = [(false, eval e env), (false, eval e' env)] := by intro _; rfl) : Ev C d st (.Tuple [e, e'] k pos) (.pair l l') := by
  refine ⟨?_⟩
  intro A E L a cd oa s Q R I q
  refine wpAny_Tuple ?_
  rw [he]
  refine Calls.spliced_cons (h.run A E L a cd oa s _ R I fun v s1 g1 r1 => Calls.spliced_cons (h'.run A E L a cd oa s1 _ R (I.mono g1) fun v' s2 g2 r2 => Calls.spliced_nil ?_))
  refine ⟨by rw [sizeLine_eq]; simp, q _ _ ((g1.trans g2).trans (Gr.push _)) ⟨_, v, v', rfl, ⟨_, Heap.get?_push_size _ rfl, rfl, 0, rfl⟩, ?_, ?_⟩⟩
  · exact (r1.mono g2.keep).mono fun b o x => Heap.get?_push_of_some _ x
  · exact r2.mono fun b o x => Heap.get?_push_of_some _ x

theorem Ev.ife {t b o : Expr} {pos : Pos} {c : Bool} {lv : LV} (ht : Tr C d st t c) (h1 : c = true → Ev C d st b lv) (h2 : c = false → Ev C d st o lv) : Ev C d st (.IfExp t b o pos) lv := by
  refine ⟨?_⟩
  intro A E L a cd oa s Q R I q
  refine wpAny_IfExp (ht.run A E L a cd oa s _ R I fun s1 g1 => ?_)
  cases c with
  | true => exact (h1 rfl).run A E L a cd oa s1 _ R (I.mono g1) fun v s2 g2 r2 => q _ _ (g1.trans g2) r2
  | false => exact (h2 rfl).run A E L a cd oa s1 _ R (I.mono g1) fun v s2 g2 r2 => q _ _ (g1.trans g2) r2

structure CmpTo (op : CmpOp) (x y : LV) (b : Bool) : Prop where
  run :
  ∀ (B : Base) (A : Around) (E : Value → Shared → Prop) (s : Shared) (vx vy : Value) (Q : Value → Shared → Prop), A.units + 64 < cLine → Rep B.mg s.heap vx x → Rep B.mg s.heap vy y → (∀ s', Gr s s' → Q (.bool b) s') → wpAny (model B.prog B.w) A (compareOp op vx vy) Q E s

theorem CmpTo.lt {x y : Int} : CmpTo .Lt (.int x) (.int y) (decide (x < y)) := by
  refine ⟨?_⟩
  rintro B A E s vx vy Q hu ⟨t, rfl⟩ ⟨u, rfl⟩ q; exact PyProof.Rows.lt_int (q _ (Gr.refl _))
theorem CmpTo.gt {x y : Int} : CmpTo .Gt (.int x) (.int y) (decide (y < x)) := by
  refine ⟨?_⟩
  rintro B A E s vx vy Q hu ⟨t, rfl⟩ ⟨u, rfl⟩ q; exact PyProof.Rows.gt_int (q _ (Gr.refl _))
theorem CmpTo.le {x y : Int} : CmpTo .LtE (.int x) (.int y) (decide (x ≤ y)) := by
  refine ⟨?_⟩
  rintro B A E s vx vy Q hu ⟨t, rfl⟩ ⟨u, rfl⟩ q; exact P.le_int (q _ (Gr.refl _))
theorem CmpTo.ge {x y : Int} : CmpTo .GtE (.int x) (.int y) (decide (y ≤ x)) := by
  refine ⟨?_⟩
  rintro B A E s vx vy Q hu ⟨t, rfl⟩ ⟨u, rfl⟩ q; exact P.ge_int (q _ (Gr.refl _))
theorem CmpTo.eq {x y : Int} : CmpTo .Eq (.int x) (.int y) (decide (x = y)) := by
  refine ⟨?_⟩
  rintro B A E s vx vy Q hu ⟨t, rfl⟩ ⟨u, rfl⟩ q; exact PyProof.Rows.eq_int (by rw [show (x == y) = decide (x = y) from rfl]; exact q _ (Gr.refl _))
theorem CmpTo.ne {x y : Int} : CmpTo .NotEq (.int x) (.int y) (!decide (x = y)) := by
  refine ⟨?_⟩
  rintro B A E s vx vy Q hu ⟨t, rfl⟩ ⟨u, rfl⟩ q; exact PyProof.Rows.ne_int (by rw [show (x != y) = !decide (x = y) from rfl]; exact q _ (Gr.refl _))
theorem all_getD : ∀ {xs ys : List Int}, xs.length = ys.length → ((List.range xs.length).all fun j => xs.getD j 0 == ys.getD j 0) = decide (xs = ys) := by
  intro xs ys h
  rw [Bool.eq_iff_iff, List.all_eq_true, decide_eq_true_iff]
  refine ⟨fun q => List.ext_getElem h fun j j1 j2 => ?_, fun q j _ => by rw [q]; exact beq_self_eq_true _⟩
  have := q j (List.mem_range.mpr j1)
  rw [beq_iff_eq, List.getD_eq_getElem?_getD, List.getD_eq_getElem?_getD, List.getElem?_eq_getElem j1, List.getElem?_eq_getElem j2] at this
  exact this
theorem items_eq {A : Around} {s : Shared} {vs us : Array Value} {xs ys : List Int} (i : IntsAre vs.toList xs) (i' : IntsAre us.toList ys) (j : Nat) (j1 : j < vs.size) (j2 : j < us.size) : PySem.SeqAt.EqAt A s vs[j] us[j] (xs.getD j 0 == ys.getD j 0) := by
  have h1 := i.length
  have h2 := i'.length
  simp only [Array.length_toList] at h1 h2
  obtain ⟨t, e⟩ := IntsAre.getD i j (by (first | lia | omega))
  obtain ⟨u, e'⟩ := IntsAre.getD i' j (by (first | lia | omega))
  have e1 : vs[j] = .int (xs.getD j 0) t := by simpa [j1] using e
  have e2 : us[j] = .int (ys.getD j 0) u := by simpa [j2] using e'
  rw [e1, e2]
  exact PySem.SeqAt.EqAt.int_int _ _ _ _
theorem CmpTo.eqL {x y : List Int} : CmpTo .Eq (.list x) (.list y) (decide (x = y)) := by
  refine ⟨?_⟩
  rintro B A E s vx vy Q hu ⟨a, rfl, vs, n, e, i, l⟩ ⟨b, rfl, us, n', e', i', l'⟩ q
  have h1 := i.length
  have h2 := i'.length
  simp only [Array.length_toList] at h1 h2
  by_cases h : x.length = y.length
  · refine PySem.SeqAt.eq_listAt ⟨_, e, rfl, n, rfl⟩ ⟨_, e', rfl, n', rfl⟩ (by (first | lia | omega)) (by (first | lia | omega)) (items_eq i i') ?_
    rw [h1, all_getD h]
    exact q _ (Gr.refl _)
  · refine PySem.SeqAt.eq_list_lengthsAt ⟨_, e, rfl, n, rfl⟩ ⟨_, e', rfl, n', rfl⟩ (by simp; (first | lia | omega)) (by (first | lia | omega)) ?_
    rw [show decide (x = y) = false from decide_eq_false fun z => h (by rw [z])] at q
    exact q _ (Gr.refl _)
theorem CmpTo.neL {x y : List Int} : CmpTo .NotEq (.list x) (.list y) (!decide (x = y)) := by
  refine ⟨?_⟩
  rintro B A E s vx vy Q hu ⟨a, rfl, vs, n, e, i, l⟩ ⟨b, rfl, us, n', e', i', l'⟩ q
  have h1 := i.length
  have h2 := i'.length
  simp only [Array.length_toList] at h1 h2
  by_cases h : x.length = y.length
  · refine PySem.SeqAt.RcNeAt.lists ⟨_, e, rfl, n, rfl⟩ ⟨_, e', rfl, n', rfl⟩ (by (first | lia | omega)) (by (first | lia | omega)) (items_eq i i') _ _ _ _ ?_
    rw [h1, all_getD h]
    exact q _ (Gr.refl _)
  · refine PySem.SeqAt.RcNeAt.lists_lengths ⟨_, e, rfl, n, rfl⟩ ⟨_, e', rfl, n', rfl⟩ (by simp; (first | lia | omega)) (by (first | lia | omega)) _ _ _ _ ?_
    rw [show decide (x = y) = false from decide_eq_false fun z => h (by rw [z])] at q
    exact q _ (Gr.refl _)
theorem CmpTo.isNone {x : Int} : CmpTo .Is (.int x) .none false := by
  refine ⟨?_⟩
  rintro B A E s vx vy Q hu ⟨t, rfl⟩ rfl q; exact wpAny_is_other rfl (by intro h; cases h) (q _ (Gr.refl _))

theorem Room.cmp {A : Around} {d : Nat} (R : Room A d) : A.units + 64 < cLine := by have := R.un; (first | lia | omega)

theorem Tr.cmp {l r : Expr} {op : CmpOp} {pos : Pos} {x y : LV} {b : Bool} (hl : Ev C d st l x) (hr : Ev C d st r y) (hc : CmpTo op x y b) (hm : behindInMarks op r = false := by with_unfolding_all rfl) : Tr C d st (.Compare l [op] [r] pos) b := by
  refine ⟨?_⟩
  intro A E L a cd oa s Q R I q
  refine wpAny_isTrue_Compare1 (hl.run A E L a cd oa s _ R I fun v s1 g1 r1 => hr.run A E L a cd oa s1 _ R (I.mono g1) fun v' s2 g2 r2 => ?_) hm
  exact hc.run C.toBase A E s2 v v' _ R.cmp (r1.mono g2.keep) r2 fun s3 g3 => wpAny_truthy_bool (q _ ((g1.trans g2).trans g3))
theorem Ev.cmp {l r : Expr} {op : CmpOp} {pos : Pos} {x y : LV} {b : Bool} (hl : Ev C d st l x) (hr : Ev C d st r y) (hc : CmpTo op x y b) (hm : behindInMarks op r = false := by with_unfolding_all rfl) : Ev C d st (.Compare l [op] [r] pos) (.bool b) := by
  refine ⟨?_⟩
  intro A E L a cd oa s Q R I q
  refine wpAny_Compare1 (hl.run A E L a cd oa s _ R I fun v s1 g1 r1 => hr.run A E L a cd oa s1 _ R (I.mono g1) fun v' s2 g2 r2 => ?_) hm
  exact hc.run C.toBase A E s2 v v' _ R.cmp (r1.mono g2.keep) r2 fun s3 g3 => q _ _ ((g1.trans g2).trans g3) rfl

theorem Tr.chain {l r r' : Expr} {op op' : CmpOp} {pos : Pos} {x y z : LV} {b b' : Bool} (hl : Ev C d st l x) (hr : Ev C d st r y) (hr' : Ev C d st r' z) (hc : CmpTo op x y b) (hc' : CmpTo op' y z b')
    (hm : lastMarks [op, op'] [r, r'] = false := by with_unfolding_all rfl) : Tr C d st (.Compare l [op, op'] [r, r'] pos) (b && b') := by
  refine ⟨?_⟩
  intro A E L a cd oa s Q R I q
  refine isTrue_chain (hl.run A E L a cd oa s _ R I fun v s1 g1 r1 => ?_) hm
  refine test_link (hr.run A E L a cd oa s1 _ R (I.mono g1) fun v' s2 g2 r2 => hc.run C.toBase A E s2 v v' _ R.cmp (r1.mono g2.keep) r2 fun s3 g3 => wpAny_truthy_bool ?_)
  cases b with
  | false => exact q _ ((g1.trans g2).trans g3)
  | true =>
    refine test_last (hr'.run A E L a cd oa s3 _ R (((I.mono g1).mono g2).mono g3) fun v'' s4 g4 r4 => hc'.run C.toBase A E s4 v' v'' _ R.cmp ((r2.mono g3.keep).mono g4.keep) r4 fun s5 g5 => wpAny_truthy_bool ?_)
    exact q _ ((((g1.trans g2).trans g3).trans g4).trans g5)

theorem Tr.not {x : Expr} {pos : Pos} {b : Bool} (h : Tr C d st x b) : Tr C d st (.UnaryOp .Not x pos) (!b) :=
  ⟨fun A E L a cd oa s _ R I q => wpAny_isTrue_Not (h.run A E L a cd oa s _ R I q)⟩
theorem Tr.and {x y : Expr} {pos : Pos} {b c : Bool} (h : Tr C d st x b) (h' : b = true → Tr C d st y c) : Tr C d st (.BoolOp .And [x, y] pos) (b && c) := by
  refine ⟨?_⟩
  intro A E L a cd oa s Q R I q
  refine wpAny_isTrue_BoolOp (wpAny_allTrue_And_cons (h.run A E L a cd oa s _ R I fun s1 g1 => ?_))
  cases b with
  | false => exact q _ g1
  | true =>
    refine wpAny_allTrue_And_cons ((h' rfl).run A E L a cd oa s1 _ R (I.mono g1) fun s2 g2 => ?_)
    cases c with
    | false => exact q _ (g1.trans g2)
    | true => exact wpAny_allTrue_And_nil (q _ (g1.trans g2))
theorem Tr.or {x y : Expr} {pos : Pos} {b c : Bool} (h : Tr C d st x b) (h' : b = false → Tr C d st y c) : Tr C d st (.BoolOp .Or [x, y] pos) (b || c) := by
  refine ⟨?_⟩
  intro A E L a cd oa s Q R I q
  refine wpAny_isTrue_BoolOp (wpAny_allTrue_Or_cons (h.run A E L a cd oa s _ R I fun s1 g1 => ?_))
  cases b with
  | true => exact q _ g1
  | false =>
    refine wpAny_allTrue_Or_cons ((h' rfl).run A E L a cd oa s1 _ R (I.mono g1) fun s2 g2 => ?_)
    cases c with
    | true => exact q _ (g1.trans g2)
    | false => exact wpAny_allTrue_Or_nil (q _ (g1.trans g2))
theorem Tr.val {e : Expr} {b : Bool} (h : Ev C d st e (.bool b)) (ht : ∀ env whole, isTrue e env whole = (do let v ← whole; standAt e.pos; holding [v] (truthy v)) := by intro _ _; rfl) : Tr C d st e b := by
  refine ⟨?_⟩
  intro A E L a cd oa s Q R I q
  exact wpAny_isTrue_value (h.run A E L a cd oa s _ R I fun v s1 g1 r1 => by cases r1; exact wpAny_truthy_bool (q _ g1)) (ht _ _)
theorem Ev.or {x y : Expr} {pos : Pos} {b c : Bool} (h : Ev C d st x (.bool b)) (h' : b = false → Ev C d st y (.bool c)) : Ev C d st (.BoolOp .Or [x, y] pos) (.bool (b || c)) := by
  refine ⟨?_⟩
  intro A E L a cd oa s Q R I q
  refine wpAny_Or2 (h.run A E L a cd oa s _ R I fun v s1 g1 r1 => ?_)
  cases r1
  refine wpAny_truthy_bool ?_
  cases b with
  | true => exact q _ _ g1 rfl
  | false => exact (h' rfl).run A E L a cd oa s1 _ R (I.mono g1) fun v s2 g2 r2 => q _ _ (g1.trans g2) r2

/-- a def of the text -/
noncomputable def Fun (B : Base) (f : Str) : Prop := ∃ dr ∈ recsOf B.p, dr.name = f

theorem Ev.callF {x g : Str} {p pos : Pos} {e : Expr} {es : List Expr} {ls : List LV} {lv : LV} (hf : Ev C d st (.Name x p) (.fn g)) (hfun : Fun C.toBase g) (ha : Evs C d st (e :: es) ls) (hc : CallTo C.toBase d g ls lv)
    (he : ∀ env, starEach (e :: es) env = (false, eval e env) :: starEach es env := by intro _; rfl) : Ev C d st (.Call (.Name x p) (e :: es) [] pos) lv := by
  refine ⟨?_⟩
  intro A E L a cd oa s Q R I q
  refine Call_Name rfl (hf.run A E L a cd oa s _ R I fun v s1 g1 r1 => ?_)
  obtain ⟨fa, rfl, hm⟩ := r1
  obtain ⟨dr, hdr, rfl⟩ := hfun
  obtain ⟨fa', o, pm, code, doc, h1, h2, h3, h4⟩ := C.T.fn dr hdr
  rw [h1] at hm
  cases hm
  have key : wpAny (model C.prog C.w) A (spliced (backTo pos (starEach (e :: es) (envOf C.cn C.cs L a cd)))) (fun vs s2 => (s2.heap.get? fa = some o ∧ o.data = _) ∧ wpAny (model C.prog C.w) A (call (.ref fa) ([] ++ vs) []) Q E s2) E s1 :=
    ha.run A E L a cd oa pos s1 _ R (I.mono g1) fun vs s2 g2 r2 => ⟨⟨((I.mono g1).mono g2).base _ _ h2, h3⟩, hc.run A E s2 fa vs Q R ((I.mono g1).mono g2).base ((I.mono g1).mono g2).size h1 r2 fun v s3 g3 r3 => q _ _ ((g1.trans g2).trans g3) r3⟩
  rw [he] at key ⊢
  exact callWith_function (Calls.evalArgs_plain key)

structure BltTo (id : String) (ls : List LV) (lv : LV) : Prop where
  run :
  ∀ (B : Base) (A : Around) (E : Value → Shared → Prop) (s : Shared) (vs : List Value) (Q : Value → Shared → Prop), A.handled = .none → Reps B.mg s.heap vs ls → (∀ v s', Gr s s' → Rep B.mg s'.heap v lv → Q v s') → wpAny (model B.prog B.w) A (call (.builtin id) vs []) Q E s

structure Blt (C : Cx) (x : Str) (v : Value) : Prop where
  glb : Glb C x
  mg : C.mg x = .none
  mb : C.mb x = some v

theorem Ev.callB {x : Str} {id : String} {p pos : Pos} {e : Expr} {es : List Expr} {ls : List LV} {lv : LV} (hf : Blt C x (.builtin id)) (ha : Evs C d st (e :: es) ls) (hc : BltTo id ls lv)
    (he : ∀ env, starEach (e :: es) env = (false, eval e env) :: starEach es env := by intro _; rfl)
    (hp : ∀ env, (backTo pos (starEach (e :: es) env)).any (fun x => x.fst) = false := by intro _; rfl) : Ev C d st (.Call (.Name x p) (e :: es) [] pos) lv := by
  refine ⟨?_⟩
  intro A E L a cd oa s Q R I q
  obtain ⟨m, F, V⟩ := I.ex
  refine Call_Name rfl (ld_builtin_at F C.T.g hf.mg C.T.b hf.mb ?_ C.hk hf.glb.look hf.glb.nodebug)
  have key : wpAny (model C.prog C.w) A (spliced (backTo pos (starEach (e :: es) (envOf C.cn C.cs L a cd)))) (fun vs s2 => wpAny (model C.prog C.w) A (call (.builtin id) ([] ++ vs) []) Q E s2) E s :=
    ha.run A E L a cd oa pos s _ R I fun vs s2 g2 r2 => hc.run C.toBase A E s2 vs Q R.h r2 fun v s3 g3 r3 => q _ _ (g2.trans g3) r3
  refine Calls.callWith_builtin (hp _) ?_
  rw [he] at key ⊢
  exact Calls.evalArgs_plain key

theorem BltTo.len {xs : List Int} : BltTo "len" [.list xs] (.int xs.length) := by
  refine ⟨?_⟩
  intro B A E s vs Q hA r q
  obtain ⟨v, rfl, a, rfl, vs, n, h, i, l⟩ := reps1 r
  · have hz := i.length
    simp only [Array.length_toList] at hz
    refine call_len_list ⟨_, h, rfl, n, rfl⟩ (by rw [hz]; unfold LIM at l; (first | lia | omega)) (q _ _ Gr.tk ⟨s.toks + 1, by rw [hz]⟩)
theorem BltTo.min {x y : Int} : BltTo "min" [.int x, .int y] (.int (min x y)) := by
  refine ⟨?_⟩
  intro B A E s vs Q hA r q
  obtain ⟨_, _, rfl, ⟨t, rfl⟩, ⟨u, rfl⟩⟩ := reps2 r
  · refine min_two_ints hA fun h' tk k => q _ _ (Gr.of k) ?_
    split
    · exact ⟨u, by rw [Int.min_def, if_neg (by (first | lia | omega))]⟩
    · exact ⟨t, by rw [Int.min_def, if_pos (by (first | lia | omega))]⟩
theorem BltTo.max {x y : Int} : BltTo "max" [.int x, .int y] (.int (max x y)) := by
  refine ⟨?_⟩
  intro B A E s vs Q hA r q
  obtain ⟨_, _, rfl, ⟨t, rfl⟩, ⟨u, rfl⟩⟩ := reps2 r
  · refine max_two_ints hA fun h' tk k => q _ _ (Gr.of k) ?_
    split
    · exact ⟨u, by rw [Int.max_def, if_pos (by (first | lia | omega))]⟩
    · exact ⟨t, by rw [Int.max_def]; split <;> simp <;> (first | lia | omega)⟩
end

/-! JL3 -/
theorem PL.keepS {h h' : Heap} {a : Addr} {xs : List Int} (p : PL h a xs) (k : ∀ o, IsSeq o → h.get? a = some o → h'.get? a = some o) : PL h' a xs := by
  obtain ⟨vs, n, e, i, l⟩ := p
  exact ⟨vs, n, k _ ⟨vs, n, rfl⟩ e, i, l⟩
theorem Rep.keepS {mg : Str → Option Value} {h h' : Heap} (k : ∀ b o, IsSeq o → h.get? b = some o → h'.get? b = some o) : ∀ {lv : LV} {v : Value}, Rep mg h v lv → Rep mg h' v lv
  | .none, _, r => r
  | .bool _, _, r => r
  | .int _, _, r => r
  | .list _, _, ⟨a, e, p⟩ => ⟨a, e, p.keepS (k a)⟩
  | .fn _, _, r => r
  | .raw _, _, r => r
  | .pair _ _, _, ⟨t, vx, vy, e, ht, rx, ry⟩ => ⟨t, vx, vy, e, by obtain ⟨o, x, y, n, z⟩ := ht; exact ⟨o, k _ _ ⟨_, n, z⟩ x, y, n, z⟩, Rep.keepS k rx, Rep.keepS k ry⟩

noncomputable def LV.scalar : LV → Bool
  | .none => true
  | .bool _ => true
  | .int _ => true
  | .fn _ => true
  | .raw _ => true
  | _ => false

theorem not_seq_ns {h : Heap} {L : Addr} {m : Str → Option Value} (n : h.Ns L m) {o : Obj} (e : h.get? L = some o) (q : IsSeq o) : False := by
  obtain ⟨o', es, ep, e', d, _⟩ := n
  rw [e] at e'
  cases e'
  obtain ⟨xs, k, d'⟩ := q
  rw [d] at d'
  cases d'

theorem Off.of {mg : Str → Option Value} {h : Heap} {L : Addr} {oa : Option Addr} {v : Value} {lv : LV} {m : Str → Option Value} (n : h.Ns L m) (r : Rep mg h v lv) (ok : oa = .none ∨ lv.scalar = true) : Off mg h L oa v lv := by
  intro h' k
  rcases ok with rfl | sc
  · exact r.keepS fun b o q e => k b o (fun x => by subst x; exact not_seq_ns n e q) (by simp) q e
  · cases lv with
    | none => exact r
    | bool b => exact r
    | int i => exact r
    | fn x => exact r
    | raw x => exact r
    | list xs => cases sc
    | pair a b => cases sc

noncomputable def stoOk (st : St) (i : Nat) (lv : LV) : Bool := match st.own with
  | .none => true
  | some (j, _) => j != i && lv.scalar

noncomputable def St.put (st : St) (i : Nat) (lv : LV) : St := { st with σ := st.σ.set i (some lv) }

section
variable {C : Cx} {d : Nat} {st : St} {rest : List Stmt} {N : St → Prop} {R : LV → Prop}

theorem Loc.inj {x : Str} {i j : Nat} {k : NameKind} (l : Loc C x i) (h : C.cs.names[j]? = some (x, k)) : j = i := by
  obtain ⟨k', h'⟩ := l.at'
  have nd := C.nd
  have hj : j < (C.cs.names.map (·.1)).length := by rw [List.length_map]; exact (List.getElem?_eq_some_iff.mp h).1
  have e1 : (C.cs.names.map (·.1))[j]? = some x := by rw [List.getElem?_map, h]; rfl
  have e2 : (C.cs.names.map (·.1))[i]? = some x := by rw [List.getElem?_map, h']; rfl
  exact (List.getElem?_inj hj nd).mp (e1.trans e2.symm)

theorem store_low {M : Model} {A : Around} {E : Value → Shared → Prop} {L a : Addr} {cd : Value} {oa : Option Addr} {s : Shared} {Q : Unit → Shared → Prop} {x : Str} {i : Nat} {v : Value} {lv : LV}
    (I : Inv C L oa st s) (l : Loc C x i) (r : Rep C.mg s.heap v lv) (ok : stoOk st i lv = true) (q : ∀ s', Inv C L oa (st.put i lv) s' → Kp L oa s s' → Q () s') :
    wpAny M A (storeName (envOf C.cn C.cs L a cd) x v) Q E s := by
  obtain ⟨m, F, V⟩ := I.ex
  refine wpAny_storeName_local (show (envOf C.cn C.cs L a cd).kindOf x = some .local from l.look) F.ns (fun h' hn hs => ?_) ?_
  · have kk : ∀ b o, b ≠ L → s.heap.get? b = some o → h'.get? b = some o := fun b o e1 e => (hs.2 b e1).trans e
    refine q _ ⟨⟨_, F.set hn hs, ?_⟩, I.ab⟩ ⟨rfl, rfl, rfl, fun b o e1 _ e => kk b o e1 e⟩
    have okS : oa = .none ∨ lv.scalar = true := by
      cases ho : st.own with
      | none => exact .inl (V.none ho)
      | some p =>
        obtain ⟨j, xs⟩ := p
        unfold stoOk at ok
        rw [ho] at ok
        simp only [Bool.and_eq_true] at ok
        exact .inr ok.2
    constructor
    · intro j lv' e
      by_cases hj : j = i
      · subst hj
        obtain ⟨k, hx⟩ := l.at'
        have e' : lv' = lv := by
          simp only [St.put, List.getElem?_set] at e
          by_cases hz : j < st.σ.length
          · simp only [if_true, hz] at e
            simpa using e.symm
          · simp [hz] at e
        subst e'
        refine ⟨(x, k), v, hx, by simp, (Off.of F.ns r okS).keep fun b o e1 _ _ e => kk b o e1 e⟩
      · have e' : st.σ[j]? = some (some lv') := by
          simp only [St.put] at e
          rw [List.getElem?_set_ne (Ne.symm hj)] at e
          exact e
        obtain ⟨xk, v', hx, hm, off⟩ := V.var j lv' e'
        refine ⟨xk, v', hx, ?_, off.keep fun b o e1 _ _ e => kk b o e1 e⟩
        have hne : xk.1 ≠ x := fun hh => by
          obtain ⟨xn, k⟩ := xk
          simp only at hh
          subst hh
          exact hj (l.inj hx)
        rw [if_neg hne]
        exact hm
    · intro j xs e
      obtain ⟨b, xk, e1, hx, hm, p⟩ := V.own j xs e
      have hji : j ≠ i := by
        have e' : st.own = some (j, xs) := e
        unfold stoOk at ok
        rw [e'] at ok
        simp only [Bool.and_eq_true, bne_iff_ne, ne_eq] at ok
        exact ok.1
      have hne : xk.1 ≠ x := fun hh => by
        obtain ⟨xn, k⟩ := xk
        simp only at hh
        subst hh
        exact hji (l.inj hx)
      exact ⟨b, xk, e1, hx, by rw [if_neg hne]; exact hm, p.keepS fun o qs e => kk b o (fun x => by subst x; exact not_seq_ns F.ns e qs) e⟩
    · exact fun e => V.none e
  · show (C.cs.kind == .class || (C.cs.kind == .module && L != mainGlobals)) = false
    rw [C.hk]; rfl

theorem Ev.own {x : Str} {px : Pos} {j : Nat} {xs : List Int} (l : Loc C x j) (ho : st.own = some (j, xs)) : Ev C d st (.Name x px) (.list xs) := by
  refine ⟨?_⟩
  intro A E L a cd oa s Q Rm I q
  obtain ⟨m, F, V⟩ := I.ex
  obtain ⟨b, xk, _, hx, hm, p⟩ := V.own j xs ho
  obtain ⟨kk, hx'⟩ := l.at'
  rw [hx'] at hx
  cases hx
  exact ld F hm (q _ _ (Gr.refl _) ⟨b, rfl, p⟩) C.hk l.look l.nodebug

/-- t says no more than s -/
noncomputable def Le (t s : St) : Prop := t.own = s.own ∧ ∀ (i : Nat) (lv : LV), t.σ[i]? = some (some lv) → s.σ[i]? = some (some lv)
theorem Le.refl (s : St) : Le s s := ⟨rfl, fun _ _ h => h⟩
theorem Le.inv {t s : St} {L : Addr} {oa : Option Addr} {sh : Shared} (h : Le t s) (I : Inv C L oa s sh) : Inv C L oa t sh := by
  obtain ⟨m, F, V⟩ := I.ex
  exact ⟨⟨m, F, ⟨fun i lv e => V.var i lv (h.2 i lv e), fun i xs e => V.own i xs (h.1 ▸ e), fun e => V.none (h.1 ▸ e)⟩⟩, I.ab⟩

/-- a table of facts is a part of another: item by item -/
noncomputable def LeL : List (Option LV) → List (Option LV) → Prop
  | [], _ => True
  | .none :: r, _ :: r' => LeL r r'
  | .none :: r, [] => LeL r []
  | some a :: r, some b :: r' => a = b ∧ LeL r r'
  | some _ :: _, .none :: _ => False
  | some _ :: _, [] => False
theorem LeL.get : ∀ {t s : List (Option LV)}, LeL t s → ∀ (i : Nat) (lv : LV), t[i]? = some (some lv) → s[i]? = some (some lv)
  | [], _, _, i, lv, e => by simp at e
  | .none :: r, [], h, 0, lv, e => by simp at e
  | .none :: r, [], h, i + 1, lv, e => by
    have := LeL.get (t := r) (s := []) h i lv (by simpa using e)
    simp at this
  | .none :: r, _ :: r', h, 0, lv, e => by simp at e
  | .none :: r, _ :: r', h, i + 1, lv, e => by simpa using LeL.get (t := r) (s := r') h i lv (by simpa using e)
  | some a :: r, some b :: r', h, 0, lv, e => by
    obtain ⟨rfl, _⟩ := h
    simpa using e
  | some a :: r, some b :: r', h, i + 1, lv, e => by simpa using LeL.get (t := r) (s := r') h.2 i lv (by simpa using e)
  | some _ :: _, .none :: _, h, _, _, _ => h.elim
  | some _ :: _, [], h, _, _, _ => h.elim
theorem Le.of {t s : St} (h : t.own = s.own) (h' : LeL t.σ s.σ) : Le t s := ⟨h, h'.get⟩

theorem Ex.weaken {t : St} {ss : List Stmt} (h : Le t st) (x : Ex C d t ss N R) : Ex C d st ss N R :=
  ⟨fun A E L a cd oa s Q Rm I qn qr => x.run A E L a cd oa s Q Rm (h.inv I) qn qr⟩

theorem Ex.nil (h : N st) : Ex C d st [] N R := ⟨fun _ _ _ _ _ _ _ _ _ I qn _ => wpAny_execs_nil (qn _ _ h I (Kp.refl ..))⟩

theorem Ex.mono {ss : List Stmt} {N' : St → Prop} {R' : LV → Prop} (x : Ex C d st ss N R) (hn : ∀ s, N s → N' s) (hr : ∀ v, R v → R' v) : Ex C d st ss N' R' :=
  ⟨fun A E L a cd oa s Q Rm I qn qr => x.run A E L a cd oa s Q Rm I (fun st' s' h => qn st' s' (hn _ h)) (fun v lv s' h => qr v lv s' (hr _ h))⟩

theorem Ex.ret {e : Expr} {pos : Pos} {lv : LV} (h : Ev C d st e lv) (hr : R lv) : Ex C d st (.Return (some e) pos :: rest) N R := by
  refine ⟨?_⟩
  intro A E L a cd oa s Q Rm I qn qr
  exact wpAny_execs_cons (wpAny_Return_some (h.run A E L a cd oa s _ Rm I fun v s' g r => qr v lv s' hr r g.kp))

theorem Ex.go {A : Around} {E : Value → Shared → Prop} {L a : Addr} {cd : Value} {oa : Option Addr} {s s1 : Shared} {Q : Flow → Shared → Prop} {st' : St} (x : Ex C d st' rest N R) (Rm : Room A d) (I : Inv C L oa st' s1) (k : Kp L oa s s1)
    (qn : ∀ st' s', N st' → Inv C L oa st' s' → Kp L oa s s' → Q .next s') (qr : ∀ v lv s', R lv → Rep C.mg s'.heap v lv → Kp L oa s s' → Q (.ret v) s') : wpAny (model C.prog C.w) A (execs rest (envOf C.cn C.cs L a cd)) Q E s1 :=
  x.run A E L a cd oa s1 Q Rm I (fun st' s' h I' k' => qn st' s' h I' (k.trans k')) (fun v lv s' h r k' => qr v lv s' h r (k.trans k'))

theorem Ex.assign {x : Str} {px pos : Pos} {e : Expr} {i : Nat} {lv : LV} (l : Loc C x i) (h : Ev C d st e lv) (hrest : Ex C d (st.put i lv) rest N R) (ok : stoOk st i lv = true := by rfl)
    (hs : ∀ env, swapsWith e (some (.Name x px)) pos.line env = pure false := by intro _; rfl) : Ex C d st (.Assign [.Name x px] e pos :: rest) N R := by
  refine ⟨?_⟩
  intro A E L a cd oa s Q Rm I qn qr
  refine wpAny_execs_cons (wpAny_Assign_Name (h.run A E L a cd oa s _ Rm I fun v s1 g r => store_low (I.mono g) l r ok fun s2 I2 k2 => ?_) (hs _))
  exact hrest.go Rm I2 (g.kp.trans k2) qn qr

structure InTo (op : Operator) (x y z : LV) : Prop where
  run :
  ∀ (B : Base) (A : Around) (E : Value → Shared → Prop) (s : Shared) (vx vy : Value) (Q : Value → Shared → Prop), Rep B.mg s.heap vx x → Rep B.mg s.heap vy y → (∀ v s', Gr s s' → Rep B.mg s'.heap v z → Q v s') → wpAny (model B.prog B.w) A (inplaceOp op vx vy) Q E s
theorem InTo.add {x y : Int} : InTo .Add (.int x) (.int y) (.int (x + y)) := by
  refine ⟨?_⟩
  rintro B A E s vx vy Q ⟨t, rfl⟩ ⟨u, rfl⟩ q; exact iadd_int (q _ _ Gr.tk ⟨_, rfl⟩)
theorem InTo.sub {x y : Int} : InTo .Sub (.int x) (.int y) (.int (x - y)) := by
  refine ⟨?_⟩
  rintro B A E s vx vy Q ⟨t, rfl⟩ ⟨u, rfl⟩ q; exact PyProof.Rows.isub_int (q _ _ Gr.tk ⟨_, rfl⟩)
theorem InTo.shr {x : Int} {n : Nat} : InTo .RShift (.int x) (.int n) (.int (x / 2 ^ n)) := by
  refine ⟨?_⟩
  rintro B A E s vx vy Q ⟨t, rfl⟩ ⟨u, rfl⟩ q
  exact irshift_int (Int.natCast_nonneg _) (q _ _ Gr.tk ⟨s.toks, by rw [Int.toNat_natCast, Int.fdiv_eq_ediv_of_nonneg _ (Int.le_of_lt (Int.pow_pos (by decide)))]⟩)

theorem Ex.aug {x : Str} {px pos : Pos} {op : Operator} {e : Expr} {i : Nat} {l0 l1 lv : LV} (l : Loc C x i) (hx : st.σ[i]? = some (some l0)) (h : Ev C d st e l1) (ho : InTo op l0 l1 lv) (hrest : Ex C d (st.put i lv) rest N R) (ok : stoOk st i lv = true := by rfl) :
    Ex C d st (.AugAssign (.Name x px) op e pos :: rest) N R := by
  refine ⟨?_⟩
  intro A E L a cd oa s Q Rm I qn qr
  obtain ⟨m, F, V⟩ := I.ex
  obtain ⟨xk, v0, hx', hm, off⟩ := V.var i l0 hx
  obtain ⟨k, hxx⟩ := l.at'
  rw [hxx] at hx'
  cases hx'
  refine wpAny_execs_cons (wpAny_AugAssign_Name (ldn F hm ?_ C.hk l.look))
  refine h.run A E L a cd oa s _ Rm I fun v s1 g r => ho.run C.toBase A E s1 v0 v _ (off.rep.mono g.keep) r fun v' s2 g2 r2 => store_low ((I.mono g).mono g2) l r2 ok fun s3 I3 k3 => ?_
  exact hrest.go Rm I3 ((g.trans g2).kp.trans k3) qn qr

theorem Ex.ite {t : Expr} {b o : List Stmt} {pos : Pos} {c : Bool} (ht : Tr C d st t c) (h1 : c = true → Ex C d st b (fun st' => Ex C d st' rest N R) R) (h2 : c = false → Ex C d st o (fun st' => Ex C d st' rest N R) R) : Ex C d st (.If t b o pos :: rest) N R := by
  refine ⟨?_⟩
  intro A E L a cd oa s Q Rm I qn qr
  refine wpAny_execs_cons (wpAny_If (ht.run A E L a cd oa s _ Rm I fun s1 g1 => ?_))
  cases c with
  | true => exact (h1 rfl).run A E L a cd oa s1 _ Rm (I.mono g1) (fun st' s' h I' k' => Ex.go h Rm I' (g1.kp.trans k') qn qr) (fun v lv s' h r k' => qr v lv s' h r (g1.kp.trans k'))
  | false => exact (h2 rfl).run A E L a cd oa s1 _ Rm (I.mono g1) (fun st' s' h I' k' => Ex.go h Rm I' (g1.kp.trans k') qn qr) (fun v lv s' h r k' => qr v lv s' h r (g1.kp.trans k'))

theorem Ex.whileG {P : Type} {t : Expr} {b : List Stmt} {pos : Pos} (S : P → St) (J : P → Prop) (μ : P → Nat) (c : P → Bool) (p0 : P) (h0 : J p0) (hs0 : Le (S p0) st) (ht : ∀ p, J p → Tr C d (S p) t (c p))
    (step : ∀ p, J p → c p = true → Ex C d (S p) b (fun st' => ∃ p', (J p' ∧ μ p' < μ p) ∧ Le (S p') st') R) (hrest : ∀ p, J p → c p = false → Ex C d (S p) rest N R) : Ex C d st (.While t b [] pos :: rest) N R := by
  refine ⟨?_⟩
  intro A E L a cd oa s Q Rm I qn qr
  refine wpAny_execs_cons (wpAny_While (codeAny_whileLoop (fun n s' => ∃ p, n = μ p ∧ J p ∧ Inv C L oa (S p) s' ∧ Kp L oa s s') ?_ (μ p0) ⟨p0, rfl, h0, hs0.inv I, Kp.refl ..⟩))
  rintro n s1 ⟨p, rfl, hJ, I1, k1⟩
  refine (ht p hJ).run A _ L a cd oa s1 _ Rm I1 fun s2 g2 => ?_
  cases hc : c p with
  | true =>
    refine (step p hJ hc).run A _ L a cd oa s2 _ Rm (I1.mono g2) ?_ ?_
    · rintro st' s3 ⟨p', ⟨hJ', hm⟩, le⟩ I3 k3
      exact ⟨μ p', hm, p', rfl, hJ', le.inv I3, (k1.trans g2.kp).trans k3⟩
    · intro v lv s3 h r k3
      exact qr v lv s3 h r ((k1.trans g2.kp).trans k3)
  | false =>
    refine wpAny_execs_nil ?_
    exact (hrest p hJ hc).go Rm (I1.mono g2) (k1.trans g2.kp) qn qr

/-- an iterator that hands out these -/
structure IterOk (C : Cx) (L : Addr) (oa : Option Addr) (it : Addr) (items : List LV) (It : Nat → Heap → Prop) : Prop where
  next : ∀ (k : Nat) (hk : k < items.length) (A : Around) (E : Value → Shared → Prop) (s : Shared) (Q : Option Value → Shared → Prop), A.handled = .none → It k s.heap →
    (∀ v s', s'.gens = s.gens → s'.drawn = s.drawn → s'.os = s.os → (∀ b o, b ≠ it → s.heap.get? b = some o → s'.heap.get? b = some o) → It (k + 1) s'.heap → Rep C.mg s'.heap v items[k] → Q (some v) s') → wpAny (model C.prog C.w) A (pyNext (.ref it)) Q E s
  fin : ∀ (A : Around) (E : Value → Shared → Prop) (s : Shared) (Q : Option Value → Shared → Prop), A.handled = .none → It items.length s.heap →
    (∀ s', s'.gens = s.gens → s'.drawn = s.drawn → s'.os = s.os → (∀ b o, b ≠ it → s.heap.get? b = some o → s'.heap.get? b = some o) → Q .none s') → wpAny (model C.prog C.w) A (pyNext (.ref it)) Q E s
  flds : ∀ k h, It k h → ∃ o vs, h.get? it = some o ∧ o.data = .fields vs
  stable : ∀ k h h', It k h → (∀ b o, b ≠ L → oa ≠ some b → h.get? b = some o → h'.get? b = some o) → It k h'

structure IterTo (C : Cx) (d : Nat) (st : St) (iter : Expr) (items : List LV) : Prop where
  run :
  ∀ (A : Around) (E : Value → Shared → Prop) (L a : Addr) (cd : Value) (oa : Option Addr) (s : Shared) (Q : Value → Shared → Prop), Room A d → Inv C L oa st s →
    (∀ it It s', Gr s s' → s.heap.get? it = .none → IterOk C L oa it items It → It 0 s'.heap → Q (.ref it) s') →
    wpAny (model C.prog C.w) A (eval iter (envOf C.cn C.cs L a cd)) (fun x s₁ => wpAny (model C.prog C.w) A (pyIter x) Q E s₁) E s

/-- where one object that is no list changes -/
theorem Inv.but {L it : Addr} {oa : Option Addr} {s s' : Shared} (I : Inv C L oa st s) (k : ∀ b o, b ≠ it → s.heap.get? b = some o → s'.heap.get? b = some o) (hf : ∃ o vs, s.heap.get? it = some o ∧ o.data = .fields vs) (h0 : C.h0.get? it = .none) : Inv C L oa st s' := by
  obtain ⟨m, F, V⟩ := I.ex
  obtain ⟨of, vs, ef, df⟩ := hf
  have ks : ∀ b o, IsSeq o → s.heap.get? b = some o → s'.heap.get? b = some o := fun b o q e => k b o (fun x => by
    subst x
    rw [ef] at e
    cases e
    obtain ⟨xs, n, dd⟩ := q
    rw [df] at dd
    cases dd) e
  refine ⟨⟨m, ⟨?_, fun b o e => k b o (fun x => by subst x; rw [h0] at e; cases e) (F.keep b o e), F.above⟩, ⟨fun i lv e => ?_, fun i xs e => ?_, V.none⟩⟩, I.ab⟩
  · obtain ⟨o, es, ep, e, dd, r⟩ := F.ns
    exact ⟨o, es, ep, k _ _ (fun x => by subst x; rw [ef] at e; cases e; rw [df] at dd; cases dd) e, dd, r⟩
  · obtain ⟨xk, v, hx, hm, off⟩ := V.var i lv e
    exact ⟨xk, v, hx, hm, off.keep fun b o _ _ q e => ks b o q e⟩
  · obtain ⟨b, xk, e1, hx, hm, p⟩ := V.own i xs e
    exact ⟨b, xk, e1, hx, hm, p.keepS (ks b)⟩

theorem Ex.forG {P : Type} {x : Str} {px pos : Pos} {iter : Expr} {b : List Stmt} {i : Nat} (S : P → St) (J : Nat → P → Prop) (p0 : P) (items : List LV) (l : Loc C x i) (hit : IterTo C d st iter items) (h0 : J 0 p0) (hs0 : Le (S p0) st)
    (hok : ∀ k p (hk : k < items.length), stoOk (S p) i items[k] = true)
    (step : ∀ k p (hk : k < items.length), J k p → Ex C d ((S p).put i items[k]) b (fun st' => ∃ p', J (k + 1) p' ∧ Le (S p') st') R)
    (hrest : ∀ p, J items.length p → Ex C d (S p) rest N R) (hf : ∀ env x, foldedSetIterable iter env x = pure x := by intro _ _; rfl) : Ex C d st (.For (.Name x px) iter b [] pos :: rest) N R := by
  refine ⟨?_⟩
  intro A E L a cd oa s Q Rm I qn qr
  refine wpAny_execs_cons (wpAny_For (hit.run A E L a cd oa s _ Rm I fun it It s1 g1 fr ok hi0 => ?_) (hf _))
  have hb0 : C.h0.get? it = .none := by
    cases e : C.h0.get? it with
    | none => rfl
    | some o => have := I.base _ _ e; rw [fr] at this; cases this
  refine codeAny_forLoop_any (fun n s' => ∃ k p, k ≤ items.length ∧ n = items.length - k ∧ J k p ∧ Inv C L oa (S p) s' ∧ It k s'.heap ∧ Kp L oa s s') ?_ (items.length) ⟨0, p0, Nat.zero_le _, rfl, h0, hs0.inv (I.mono g1), hi0, g1.kp⟩
  rintro n s2 ⟨k, p, hk, rfl, hJ, I2, hI, k2⟩
  have kpit : ∀ s3 : Shared, s3.gens = s2.gens → s3.drawn = s2.drawn → s3.os = s2.os → (∀ b o, b ≠ it → s2.heap.get? b = some o → s3.heap.get? b = some o) → Kp L oa s s3 := fun s3 e1 e2 e3 kk =>
    ⟨e1.trans k2.gens, e2.trans k2.drawn, e3.trans k2.os, fun b o n1 n2 e => kk b o (fun x => by subst x; rw [fr] at e; cases e) (k2.keep b o n1 n2 e)⟩
  by_cases hlt : k < items.length
  · refine ok.next k hlt A _ s2 _ Rm.h hI fun v s3 e1 e2 e3 kk hI3 r3 => ?_
    have I3 := I2.but kk (ok.flds k _ hI) hb0
    have kp3 := kpit s3 e1 e2 e3 kk
    show wpAny _ _ (pure ()) _ _ _
    refine wpAny_pure (wpAny_assign_Name (store_low I3 l r3 (hok k p hlt) fun s4 I4 k4 => ?_))
    refine (step k p hlt hJ).run A _ L a cd oa s4 _ Rm I4 ?_ ?_
    · rintro st' s5 ⟨p', hJ', le⟩ I5 k5
      exact ⟨items.length - (k + 1), by (first | lia | omega), k + 1, p', hlt, rfl, hJ', le.inv I5, ok.stable _ _ _ (ok.stable _ _ _ hI3 k4.keep) k5.keep, (kp3.trans k4).trans k5⟩
    · intro v lv s5 h r k5
      exact qr v lv s5 h r ((kp3.trans k4).trans k5)
  · have hke : k = items.length := by (first | lia | omega)
    subst hke
    refine ok.fin A _ s2 _ Rm.h hI fun s3 e1 e2 e3 kk => ?_
    refine wpAny_execs_nil ?_
    exact (hrest p hJ).go Rm (I2.but kk (ok.flds _ _ hI) hb0) (kpit s3 e1 e2 e3 kk) qn qr
end

/-! JL4 -/
section
variable {prog : Program} {w : World} {A : Around} {E : Value → Shared → Prop} {s : Shared}
/-- the look at an item that is there -/
theorem item_there {l : Addr} {items : Array Value} {n j : Nat} {k : Option (Nat × Value) → Sem Fin} {Q : Fin → Shared → Prop} (h : IsL s.heap l items n) (hj : j < items.size) (q : wpAny (model prog w) A (k (some (j, items[j]))) Q E s) :
    wpAny (model prog w) A ((seqItemAt l j >>= fun o => pure (o.map (j, ·))) >>= k) Q E s := by
  have look : wpAny (model prog w) A (seqItemAt l j >>= fun o => pure (o.map (j, ·))) (fun r s' => wpAny (model prog w) A (k r) Q E s') E s :=
    wpAny_bind (wpAny_seqItemAt h rfl (wpAny_pure (by rw [Array.getElem?_eq_getElem hj]; exact q)))
  exact wpAny_bind look
/-- the built-in's store at an int's place in bounds -/
theorem store_meets {l : Addr} {items : Array Value} {n : Nat} {x : Int} {t : Tok} {v : Value} (h0 : 0 ≤ x) (hj : x < items.size) (hf : Builtin.List.listFitsIndex x = true) :
    Meets (Builtin.«list.__setitem__» ⟨[.ref l, .int x t, v], []⟩) (fun _ R s => IsL s.heap l items n ∧ R (.ok (.ret .none)) { s with heap := s.heap.update l (Obj.mapSeq fun z => z.setIfInBounds x.toNat v) }) := by
  intro prog w A R s h
  have head : ∀ (k : Option Int → Sem Fin) Q E, wpAny (model prog w) A.in1 (k (some x)) Q E s → wpAny (model prog w) A.in1 (Builtin.List.listSubscript? (.int x t) >>= k) Q E s :=
    fun k Q E q => wpAny_bind (wpAny_listSubscript_int hf q)
  refine head _ _ _ ?_
  clear head hf
  match x, h0 with
  | .ofNat j, _ =>
    refine item_there (j := j) h.1 (by simpa using hj) ?_
    exact wpAny_bind (wpAny_setSeqItemAt h.1 rfl (wpAny_pure h.2))

theorem setItem_low {l : Addr} {items : Array Value} {n : Nat} {k : Int} {t : Tok} {v : Value} {Q : Unit → Shared → Prop} (hl : IsL s.heap l items n) (h0 : 0 ≤ k) (hn : k < items.size) (hfit : k < 2 ^ 63)
    (q : Q () { s with heap := s.heap.update l (Obj.mapSeq fun x => x.setIfInBounds k.toNat v) }) : wpAny (model prog w) A (setItem (.ref l) (.int k t) v) Q E s := by
  have st : wpAny (model prog w) A (call (.builtin "list.__setitem__") [.ref l, .int k t, v]) (fun _ s' => Q () s') E s :=
    call_meets slot_list_setitem hl.isList.typeIs entry_list_setitem (args_list_setitem _ _ _) (store_meets h0 hn (fitsIndex_of h0 hfit)) ⟨hl, q⟩
  unfold setItem
  exact wpAny_holding (wpAny_bind (wpAny_sequenceKey hl.isList.typeIs (by decide) (wpAny_bind (wpAny_callSpecial?_slot hl.isList.typeIs slot_list_setitem (wpAny_mono st (fun _ _ z => wpAny_pure z) fun _ _ z => z)))))
end

section
variable {C : Cx} {d : Nat} {st : St} {rest : List Stmt} {N : St → Prop} {R : LV → Prop}

/-- the owned list turns -/
theorem own_low {L a : Addr} {oa : Option Addr} {s : Shared} {j : Nat} {xs xs' : List Int} {f : Array Value → Array Value} {vs : Array Value} {n : Nat} (I : Inv C L oa st s) (ho : st.own = some (j, xs)) (ha : oa = some a) (hl : IsL s.heap a vs n)
    (hi : IntsAre (f vs).toList xs') (hz : xs'.length ≤ LIM) : Inv C L oa { st with own := some (j, xs') } { s with heap := s.heap.update a (Obj.mapSeq f) } ∧ Kp L oa s { s with heap := s.heap.update a (Obj.mapSeq f) } := by
  obtain ⟨m, F, V⟩ := I.ex
  subst ha
  have kk : ∀ b o, b ≠ a → s.heap.get? b = some o → (s.heap.update a (Obj.mapSeq f)).get? b = some o := fun b o e1 e => (Heap.get?_update_other _ _ (Ne.symm e1)).trans e
  have haL : L ≠ a := fun x => by subst x; exact not_seq_ns F.ns hl ⟨vs, n, rfl⟩
  refine ⟨⟨⟨m, ⟨?_, fun b o e => kk b o (fun x => ?_) (F.keep b o e), F.above⟩, ⟨fun i lv e => ?_, fun i ys e => ?_, fun e => by cases e⟩⟩, I.ab⟩, ⟨rfl, rfl, rfl, fun b o _ e2 e => kk b o (fun x => e2 (by rw [x])) e⟩⟩
  · obtain ⟨o, es, ep, e, dd, r⟩ := F.ns
    exact ⟨o, es, ep, kk _ _ haL e, dd, r⟩
  · subst x
    exact absurd (Heap.lt_size e) (Nat.not_lt.mpr (I.ab _ rfl))
  · obtain ⟨xk, v, hx, hm, off⟩ := V.var i lv e
    exact ⟨xk, v, hx, hm, off.keep fun b o _ e2 _ e => kk b o (fun x => e2 (by rw [x])) e⟩
  · obtain ⟨b, xk, e1, hx, hm, _⟩ := V.own j xs ho
    cases e1
    cases e
    exact ⟨a, xk, rfl, hx, hm, _, _, IsL.update hl f, hi, hz⟩

theorem Inv.ownAt {L : Addr} {oa : Option Addr} {s : Shared} {j : Nat} {xs : List Int} (I : Inv C L oa st s) (ho : st.own = some (j, xs)) : ∃ a vs n m xk, oa = some a ∧ Fr C.h0 L s.heap m ∧ C.cs.names[j]? = some xk ∧ m xk.1 = some (.ref a) ∧ IsL s.heap a vs n ∧ IntsAre vs.toList xs ∧ xs.length ≤ LIM := by
  obtain ⟨m, F, V⟩ := I.ex
  obtain ⟨a, xk, e1, hx, hm, vs, n, e, i, l⟩ := V.own j xs ho
  exact ⟨a, vs, n, m, xk, e1, F, hx, hm, e, i, l⟩

theorem Inv.ld {M : Model} {A : Around} {E : Value → Shared → Prop} {L fa : Addr} {cd : Value} {s : Shared} {x : Str} {px : Pos} {j : Nat} {a : Addr} {m : Str → Option Value} {xk : Str × NameKind} {Q : Value → Shared → Prop} (l : Loc C x j) (F : Fr C.h0 L s.heap m) (hx : C.cs.names[j]? = some xk) (hm : m xk.1 = some (.ref a)) (q : Q (.ref a) s) :
    wpAny M A (eval (.Name x px) (envOf C.cn C.cs L fa cd)) Q E s := by
  obtain ⟨kk, hx'⟩ := l.at'
  rw [hx'] at hx
  cases hx
  exact PyProof.Rows.ld F hm q C.hk l.look l.nodebug

theorem Ex.append {x : Str} {px apos pos pos' : Pos} {e : Expr} {j : Nat} {xs : List Int} {y : Int} (l : Loc C x j) (ho : st.own = some (j, xs)) (h : Ev C d st e (.int y)) (hz : xs.length < LIM) (hrest : Ex C d { st with own := some (j, xs ++ [y]) } rest N R)
    (hline : (apos.endLine == pos.line) = true := by rfl) (htrees : ∀ env, backTo pos (starEach [e] env) = [(false, eval e env)] := by intro _; rfl)
    (hb : ∀ env, attributeBase (.Name x px) ("append" : Str) env (eval (.Name x px) env) = eval (.Name x px) env := by intro _; rfl)
    (hi : ∀ L a cd, interactive (envOf C.cn C.cs L a cd) = false := by intro _ _ _; rfl) (hsw : ∀ env, swapsWith (.Call (.Attribute (.Name x px) ("append" : Str) apos) [e] [] pos) .none pos'.line env = pure false := by intro _; rfl) :
    Ex C d st (.Expr (.Call (.Attribute (.Name x px) ("append" : Str) apos) [e] [] pos) pos' :: rest) N R := by
  refine ⟨?_⟩
  intro A E L a cd oa s Q Rm I qn qr
  obtain ⟨b, vs, n, m, xk, hb', F, hx, hm, hl, ii, len⟩ := I.ownAt ho
  refine wpAny_execs_cons (wpAny_Expr_any (wpAny_Call_method1_late (hb _) hline (htrees _) (Inv.ld l F hx hm ?_)) (hi _ _ _) (hsw _))
  refine ⟨"list", "list.append", PySem.F.plainAttrs_list, PySem.F.slot_list_append, PySem.F.type_list_append, hl.isList.typeIs, (fun a' e' => by cases e'; exact ⟨_, hl, rfl⟩), ?_⟩
  refine P.append_list (h.run A E L a cd oa s _ Rm I fun v s1 g1 r1 => ?_)
  obtain ⟨t, rfl⟩ := r1
  have hl1 : IsL s1.heap b vs n := g1.keep _ _ hl
  have hsz := ii.length
  simp only [Array.length_toList] at hsz
  have key := own_low (xs' := xs ++ [y]) (f := fun z => z.push (.int y t)) (I.mono g1) ho hb' hl1 (by rw [Array.toList_push]; exact ii.append (.cons _ _ .nil)) (by simp; (first | lia | omega))
  exact ⟨vs, n, by rw [hsz, sizeLine_eq]; unfold LIM at len; (first | lia | omega), hl1, hrest.go Rm key.1 (g1.kp.trans key.2) qn qr⟩

theorem IntsAre.dropLast {vs : List Value} {xs : List Int} (i : IntsAre vs xs) : IntsAre vs.dropLast xs.dropLast := by
  rw [List.dropLast_eq_take, List.dropLast_eq_take, i.length]
  exact i.take _

theorem Ex.pop {x : Str} {px apos pos pos' : Pos} {j : Nat} {xs : List Int} (l : Loc C x j) (ho : st.own = some (j, xs)) (hne : xs ≠ []) (hrest : Ex C d { st with own := some (j, xs.dropLast) } rest N R)
    (hline : (apos.endLine == pos.line) = true := by rfl)
    (hb : ∀ env, attributeBase (.Name x px) ("pop" : Str) env (eval (.Name x px) env) = eval (.Name x px) env := by intro _; rfl)
    (hi : ∀ L a cd, interactive (envOf C.cn C.cs L a cd) = false := by intro _ _ _; rfl) (hsw : ∀ env, swapsWith (.Call (.Attribute (.Name x px) ("pop" : Str) apos) [] [] pos) .none pos'.line env = pure false := by intro _; rfl) :
    Ex C d st (.Expr (.Call (.Attribute (.Name x px) ("pop" : Str) apos) [] [] pos) pos' :: rest) N R := by
  refine ⟨?_⟩
  intro A E L a cd oa s Q Rm I qn qr
  obtain ⟨b, vs, n, m, xk, hb', F, hx, hm, hl, ii, len⟩ := I.ownAt ho
  refine wpAny_execs_cons (wpAny_Expr_any (wpAny_Call_method0_late (hb _) hline (Inv.ld l F hx hm ?_)) (hi _ _ _) (hsw _))
  refine ⟨"list", "list.pop", PySem.F.plainAttrs_list, PySem.F.slot_list_pop, PySem.F.type_list_pop, hl.isList.typeIs, (fun a' e' => by cases e'; exact ⟨_, hl, rfl⟩), ?_⟩
  have hsz := ii.length
  simp only [Array.length_toList] at hsz
  have hpos : 0 < xs.length := List.length_pos_iff.mpr hne
  have hlt : vs.size - 1 < vs.size := by (first | lia | omega)
  refine P.pop_list hl (y := vs[vs.size - 1]) (Array.getElem?_eq_getElem hlt) ?_ (by rw [hsz, sizeLine_eq]; unfold LIM at len; (first | lia | omega))
  have e1 : (vs.eraseIdxIfInBounds (vs.size - 1)).toList = vs.toList.dropLast := by
    unfold Array.eraseIdxIfInBounds
    rw [dif_pos hlt, Array.toList_eraseIdx, List.dropLast_eq_take, List.eraseIdx_eq_take_drop_succ]
    simp [Array.length_toList, Nat.sub_add_cancel (Nat.lt_of_le_of_lt (Nat.zero_le _) hlt)]
  have key := own_low (xs' := xs.dropLast) (f := fun z => z.eraseIdxIfInBounds (vs.size - 1)) I ho hb' hl (by rw [e1]; exact IntsAre.dropLast ii) (by simp; (first | lia | omega))
  exact hrest.go Rm key.1 key.2 qn qr

theorem IntsAre.set : ∀ {vs : List Value} {xs : List Int}, IntsAre vs xs → ∀ (k : Nat) (y : Int) (t : Tok), IntsAre (vs.set k (.int y t)) (xs.set k y)
  | _, _, .nil, _, _, _ => .nil
  | _, _, .cons _ _ h, 0, _, _ => .cons _ _ h
  | _, _, .cons _ _ h, k + 1, y, t => .cons _ _ (IntsAre.set h k y t)

theorem Ex.setItem {x : Str} {px pos pos' : Pos} {idx e : Expr} {j : Nat} {xs : List Int} {k y : Int} (l : Loc C x j) (ho : st.own = some (j, xs)) (h : Ev C d st e (.int y)) (hk : Ev C d st idx (.int k)) (h0 : 0 ≤ k) (h1 : k < xs.length)
    (hrest : Ex C d { st with own := some (j, xs.set k.toNat y) } rest N R) (hs : ∀ env, swapsWith e (some (.Subscript (.Name x px) idx pos')) pos.line env = pure false := by intro _; rfl) :
    Ex C d st (.Assign [.Subscript (.Name x px) idx pos'] e pos :: rest) N R := by
  refine ⟨?_⟩
  intro A E L a cd oa s Q Rm I qn qr
  refine wpAny_execs_cons (wpAny_Assign_Subscript (h.run A E L a cd oa s _ Rm I fun v s1 g1 r1 => ?_) (hs _))
  obtain ⟨t, rfl⟩ := r1
  have I1 := I.mono g1
  obtain ⟨b, vs, n, m, xk, hb', F, hx, hm, hl, ii, len⟩ := I1.ownAt ho
  refine Inv.ld l F hx hm (hk.run A E L a cd oa s1 _ Rm I1 fun i s2 g2 r2 => ?_)
  obtain ⟨u, rfl⟩ := r2
  have hl2 : IsL s2.heap b vs n := g2.keep _ _ hl
  have hsz := ii.length
  simp only [Array.length_toList] at hsz
  have key := own_low (xs' := xs.set k.toNat y) (f := fun z => z.setIfInBounds k.toNat (.int y t)) (I1.mono g2) ho hb' hl2 (by rw [Array.toList_setIfInBounds]; exact IntsAre.set ii _ _ _) (by simpa using len)
  exact setItem_low hl2 h0 (by (first | lia | omega)) (by unfold LIM at len; (first | lia | omega)) (hrest.go Rm key.1 ((g1.trans g2).kp.trans key.2) qn qr)

/-- a new list -/
structure EvNew (C : Cx) (d : Nat) (st : St) (e : Expr) (xs : List Int) : Prop where
  run :
  ∀ (A : Around) (E : Value → Shared → Prop) (L a : Addr) (cd : Value) (oa : Option Addr) (s : Shared) (Q : Value → Shared → Prop), Room A d → Inv C L oa st s →
    (∀ b s', Gr s s' → s.heap.get? b = .none → s.heap.objs.size ≤ b → PL s'.heap b xs → Q (.ref b) s') → wpAny (model C.prog C.w) A (eval e (envOf C.cn C.cs L a cd)) Q E s

theorem get?_size (h : Heap) : h.get? h.objs.size = .none := by
  cases e : h.get? h.objs.size with
  | none => rfl
  | some o => exact absurd (Heap.lt_size e) (Nat.lt_irrefl _)

theorem EvNew.nil {pos : Pos} : EvNew C d st (.List [] pos) [] := by
  refine ⟨?_⟩
  intro A E L a cd oa s Q R I q
  refine wpAny_List (wpAny_items_nil ⟨by rw [sizeLine_eq]; decide, q _ _ (Gr.push _) (get?_size _) (Nat.le_refl _) (PL.new .nil (by decide))⟩)

theorem EvNew.zeros {c0 : Nat} {p0 p1 p2 : Pos} {e : Expr} {k : Nat} (h : Ev C d st e (.int k)) (hk : k ≤ LIM) : EvNew C d st (.BinOp (.List [.Constant (.int 0) c0 p0] p1) .Mult e p2) (List.replicate k 0) := by
  refine ⟨?_⟩
  intro A E L a cd oa s Q R I q
  refine wpAny_BinOp (wpAny_List ?_)
  refine wpAny_items_cons (wpAny_Constant_int (wpAny_items_nil ⟨by rw [sizeLine_eq]; simp, ?_⟩))
  have g1 : Gr s { s with heap := s.heap.push { cls := .type "list", data := .seq #[.int 0 s.toks] }, toks := s.toks + 1 } := Gr.push _
  refine h.run A E L a cd oa _ _ R (I.mono g1) fun v s2 g2 r2 => ?_
  obtain ⟨u, rfl⟩ := r2
  have hl : s2.heap.get? s.heap.objs.size = some { cls := .type "list", dict := none, data := .seq #[.int 0 s.toks] 0, slots := #[] } := g2.keep _ _ (Heap.get?_push_size _ rfl)
  unfold LIM at hk
  have hlt := Heap.lt_size hl
  have hsz : s.heap.objs.size ≤ s2.heap.objs.size := Nat.le_of_lt hlt
  refine times_low hl (by (first | lia | omega)) (by (first | lia | omega)) (by simp; (first | lia | omega)) (q _ _ ((g1.trans g2).trans (Gr.push (tk := s2.toks) _)) ?_ hsz ?_)
  · cases e : s.heap.get? s2.heap.objs.size with
    | none => rfl
    | some o => exact absurd (Heap.lt_size e) (Nat.not_lt.mpr hsz)
  · rw [Int.toNat_natCast]
    have := IntsAre.rep (vs := [.int 0 s.toks]) (xs := [0]) (.cons _ _ .nil) k
    simp only [List.flatten_replicate_singleton] at this
    exact PL.new (by simpa using this) (by simp; (first | lia | omega))
end

/-! JL5 -/
section
variable {C : Cx} {d : Nat} {st : St} {rest : List Stmt} {N : St → Prop} {R : LV → Prop}

/-- the values of some names alone, however the owned list stands -/
noncomputable def VO (C : Cx) (h : Heap) (L : Addr) (oa : Option Addr) (m : Str → Option Value) (σ : List (Option LV)) : Prop :=
  ∀ (i : Nat) (lv : LV), σ[i]? = some (some lv) → ∃ (xk : Str × NameKind) (v : Value), C.cs.names[i]? = some xk ∧ m xk.1 = some v ∧ Off C.mg h L oa v lv

theorem VO.keep {h h' : Heap} {L : Addr} {oa : Option Addr} {m : Str → Option Value} {σ : List (Option LV)} (V : VO C h L oa m σ) (k : ∀ b o, h.get? b = some o → h'.get? b = some o) : VO C h' L oa m σ := fun i lv e => by
  obtain ⟨xk, v, hx, hm, off⟩ := V i lv e
  exact ⟨xk, v, hx, hm, off.keep fun b o _ _ _ e => k b o e⟩

theorem VO.store {h h' : Heap} {L : Addr} {oa : Option Addr} {m : Str → Option Value} {σ : List (Option LV)} {x : Str} {i : Nat} {v : Value} {lv : LV} (V : VO C h L oa m σ) (l : Loc C x i) (hs : Heap.SameBut L h h') (o : Off C.mg h L oa v lv) :
    VO C h' L oa (fun y => if y = x then some v else m y) (σ.set i (some lv)) := by
  intro j lv' e
  by_cases hj : j = i
  · subst hj
    obtain ⟨k, hx⟩ := l.at'
    have e' : lv' = lv := by
      simp only [List.getElem?_set] at e
      by_cases hz : j < σ.length
      · simp only [if_true, hz] at e
        simpa using e.symm
      · simp [hz] at e
    subst e'
    exact ⟨(x, k), v, hx, by simp, o.keep fun b o e1 _ _ e => (hs.2 b e1).trans e⟩
  · rw [List.getElem?_set_ne (Ne.symm hj)] at e
    obtain ⟨xk, v', hx, hm, off⟩ := V j lv' e
    have hne : xk.1 ≠ x := fun hh => by
      obtain ⟨xn, k⟩ := xk
      simp only at hh
      subst hh
      exact hj (l.inj hx)
    exact ⟨xk, v', hx, by simp only [if_neg hne]; exact hm, off.keep fun b o e1 _ _ e => (hs.2 b e1).trans e⟩

theorem VO.gone {h h' : Heap} {L : Addr} {oa : Option Addr} {m : Str → Option Value} {σ : List (Option LV)} {x : Str} {i : Nat} {v : Value} (V : VO C h L oa m σ) (l : Loc C x i) (hs : Heap.SameBut L h h') :
    VO C h' L oa (fun y => if y = x then some v else m y) (σ.set i .none) := by
  intro j lv' e
  by_cases hj : j = i
  · subst hj
    simp only [List.getElem?_set] at e
    by_cases hz : j < σ.length <;> simp [hz] at e
  · rw [List.getElem?_set_ne (Ne.symm hj)] at e
    obtain ⟨xk, v', hx, hm, off⟩ := V j lv' e
    have hne : xk.1 ≠ x := fun hh => by
      obtain ⟨xn, k⟩ := xk
      simp only at hh
      subst hh
      exact hj (l.inj hx)
    exact ⟨xk, v', hx, by simp only [if_neg hne]; exact hm, off.keep fun b o e1 _ _ e => (hs.2 b e1).trans e⟩

theorem LV.scalar_off {mg : Str → Option Value} {h : Heap} {L : Addr} {oa : Option Addr} {v : Value} {lv : LV} (r : Rep mg h v lv) (sc : lv.scalar = true) : Off mg h L oa v lv := by
  intro h' _
  cases lv with
  | none => exact r
  | bool b => exact r
  | int i => exact r
  | fn x => exact r
  | raw x => exact r
  | list xs => cases sc
  | pair a b => cases sc

/-- before the owned list has its name: the frame, the other names, the list -/
structure Pre (C : Cx) (L b : Addr) (σ : List (Option LV)) (xs : List Int) (s : Shared) : Prop where
  ex : ∃ m, Fr C.h0 L s.heap m ∧ VO C s.heap L (some b) m σ
  pl : PL s.heap b xs
  ab : C.h0.objs.size ≤ b

theorem Pre.mono {L b : Addr} {σ : List (Option LV)} {xs : List Int} {s s' : Shared} (p : Pre C L b σ xs s) (g : Gr s s') : Pre C L b σ xs s' := by
  obtain ⟨⟨m, F, V⟩, pl, ab⟩ := p
  exact ⟨⟨m, ⟨F.ns.keeps g.keep, fun b o e => g.keep b o (F.keep b o e), F.above⟩, V.keep g.keep⟩, pl.mono (g.keep b), ab⟩

theorem Pre.of {L b : Addr} {xs : List Int} {s s' : Shared} (I : Inv C L .none st s) (g : Gr s s') (hn : s.heap.get? b = .none) (hab : s.heap.objs.size ≤ b) (p : PL s'.heap b xs) : Pre C L b st.σ xs s' := by
  obtain ⟨m, F, V⟩ := I.ex
  refine ⟨⟨m, ⟨F.ns.keeps g.keep, fun b o e => g.keep b o (F.keep b o e), F.above⟩, fun i lv e => ?_⟩, p, ?_⟩
  · obtain ⟨xk, v, hx, hm, off⟩ := V.var i lv e
    refine ⟨xk, v, hx, hm, fun h2 k2 => off h2 fun c o e1 _ qs e => k2 c o e1 (fun x => ?_) qs (g.keep c o e)⟩
    cases x
    rw [hn] at e
    cases e
  · obtain ⟨oL, _, _, hL, _⟩ := F.ns
    exact Nat.le_trans F.above (Nat.le_trans (Nat.le_of_lt (Heap.lt_size hL)) hab)

theorem Pre.store {M : Model} {A : Around} {E : Value → Shared → Prop} {L a b : Addr} {cd : Value} {σ : List (Option LV)} {xs : List Int} {s : Shared} {x : Str} {i : Nat} {v : Value} {lv : LV} {Q : Unit → Shared → Prop}
    (p : Pre C L b σ xs s) (l : Loc C x i) (r : Rep C.mg s.heap v lv) (sc : lv.scalar = true) (q : ∀ s', Pre C L b (σ.set i (some lv)) xs s' → Kp L .none s s' → Q () s') : wpAny M A (storeName (envOf C.cn C.cs L a cd) x v) Q E s := by
  obtain ⟨⟨m, F, V⟩, pl, ab⟩ := p
  refine wpAny_storeName_local (show (envOf C.cn C.cs L a cd).kindOf x = some .local from l.look) F.ns (fun h' hn hs => ?_) ?_
  · refine q _ ⟨⟨_, F.set hn hs, V.store l hs (LV.scalar_off r sc)⟩, pl.keepS fun o qs e => (hs.2 b (fun x => by subst x; exact not_seq_ns F.ns e qs)).trans e, ab⟩ ⟨rfl, rfl, rfl, fun b o e1 _ e => (hs.2 b e1).trans e⟩
  · show (C.cs.kind == .class || (C.cs.kind == .module && L != mainGlobals)) = false
    rw [C.hk]; rfl

theorem Pre.name {M : Model} {A : Around} {E : Value → Shared → Prop} {L a b : Addr} {cd : Value} {σ : List (Option LV)} {xs : List Int} {s : Shared} {x : Str} {i : Nat} {Q : Unit → Shared → Prop}
    (p : Pre C L b σ xs s) (l : Loc C x i) (q : ∀ s', Inv C L (some b) { σ := σ.set i .none, own := some (i, xs) } s' → Kp L .none s s' → Q () s') : wpAny M A (storeName (envOf C.cn C.cs L a cd) x (.ref b)) Q E s := by
  obtain ⟨⟨m, F, V⟩, pl, ab⟩ := p
  refine wpAny_storeName_local (show (envOf C.cn C.cs L a cd).kindOf x = some .local from l.look) F.ns (fun h' hn hs => ?_) ?_
  · obtain ⟨k, hx⟩ := l.at'
    refine q _ ⟨⟨_, F.set hn hs, ⟨V.gone l hs, fun j ys e => ?_, fun e => by cases e⟩⟩, fun a' e => by cases e; exact ab⟩ ⟨rfl, rfl, rfl, fun b o e1 _ e => (hs.2 b e1).trans e⟩
    cases e
    exact ⟨b, (x, k), rfl, hx, by simp, pl.keepS fun o qs e => (hs.2 b (fun x => by subst x; exact not_seq_ns F.ns e qs)).trans e⟩
  · show (C.cs.kind == .class || (C.cs.kind == .module && L != mainGlobals)) = false
    rw [C.hk]; rfl

noncomputable def NoNext : St → Prop := fun _ => False

/-- behind the naming: the rest ends by a return -/
theorem Ex.goOwn {A : Around} {E : Value → Shared → Prop} {L a b : Addr} {cd : Value} {s s0 s1 : Shared} {Q : Flow → Shared → Prop} {st' : St} (x : Ex C d st' rest NoNext R) (Rm : Room A d) (I : Inv C L (some b) st' s1) (k : Kp L .none s s1)
    (hb : s.heap.get? b = .none) (qr : ∀ v lv s', R lv → Rep C.mg s'.heap v lv → Kp L .none s s' → Q (.ret v) s') : wpAny (model C.prog C.w) A (execs rest (envOf C.cn C.cs L a cd)) Q E s1 :=
  x.run A E L a cd (some b) s1 Q Rm I (fun _ _ h => h.elim) (fun v lv s' h r k' => qr v lv s' h r ⟨k'.gens.trans k.gens, k'.drawn.trans k.drawn, k'.os.trans k.os, fun c o n1 n2 e => k'.keep c o n1 (fun x => by cases x; rw [hb] at e; cases e) (k.keep c o n1 n2 e)⟩)

theorem Ex.assignOwn {x : Str} {px pos : Pos} {e : Expr} {i : Nat} {xs : List Int} (l : Loc C x i) (ho : st.own = .none) (h : EvNew C d st e xs) (hrest : Ex C d { σ := st.σ.set i .none, own := some (i, xs) } rest NoNext R)
    (hs : ∀ env, swapsWith e (some (.Name x px)) pos.line env = pure false := by intro _; rfl) : Ex C d st (.Assign [.Name x px] e pos :: rest) N R := by
  refine ⟨?_⟩
  intro A E L a cd oa s Q Rm I qn qr
  have : oa = .none := by obtain ⟨m, F, V⟩ := I.ex; exact V.none ho
  subst this
  refine wpAny_execs_cons (wpAny_Assign_Name (h.run A E L a cd .none s _ Rm I fun b s1 g fr hab p => (Pre.of I g fr hab p).name l fun s2 I2 k2 => ?_) (hs _))
  exact hrest.goOwn (s0 := s) Rm I2 (g.kp.trans k2) fr qr

theorem Ex.tupOwn2 {x1 x2 : Str} {p1 p2 pt pv pos : Pos} {k k' : Nat} {e1 e2 : Expr} {i1 i2 : Nat} {xs : List Int} {l2 : LV} (L1 : Loc C x1 i1) (L2 : Loc C x2 i2) (ho : st.own = .none) (h1 : EvNew C d st e1 xs) (h2 : Ev C d st e2 l2) (sc : l2.scalar = true)
    (hrest : Ex C d { σ := (st.σ.set i2 (some l2)).set i1 .none, own := some (i1, xs) } rest NoNext R)
    (hs : ∀ env, swapsWithSole [.Tuple [.Name x1 p1, .Name x2 p2] k pt] (.Tuple [e1, e2] k' pv) pos.line env = pure false := by intro _; rfl)
    (hw : ∀ L a cd, swappedStores [.Tuple [.Name x1 p1, .Name x2 p2] k pt] (.Tuple [e1, e2] k' pv) (envOf C.cn C.cs L a cd) = pure (some [x1, x2]) := by intro _ _ _; rfl)
    (he : ∀ env, starEach [e1, e2] env = [(false, eval e1 env), (false, eval e2 env)] := by intro _; rfl) :
    Ex C d st (.Assign [.Tuple [.Name x1 p1, .Name x2 p2] k pt] (.Tuple [e1, e2] k' pv) pos :: rest) N R := by
  refine ⟨?_⟩
  intro A E L a cd oa s Q Rm I qn qr
  have : oa = .none := by obtain ⟨m, F, V⟩ := I.ex; exact V.none ho
  subst this
  refine wpAny_execs_cons (Assign_Tuple_swapped (wpAny_Tuple ?_) (hs _) (hw _ _ _))
  rw [he]
  refine Calls.spliced_cons (h1.run A E L a cd .none s _ Rm I fun b s1 g1 fr hab p => Calls.spliced_cons (h2.run A E L a cd .none s1 _ Rm (I.mono g1) fun v2 s2 g2 r2 => Calls.spliced_nil ?_))
  refine ⟨by rw [sizeLine_eq]; simp, ?_⟩
  have g3 : Gr s2 { s2 with heap := s2.heap.push { cls := .type "tuple", data := .seq #[.ref b, v2] } } := Gr.push _
  refine wpAny_unpackItems_tuple (items := #[.ref b, v2]) Rm.h ⟨_, Heap.get?_push_size _ rfl, rfl, 0, rfl⟩ fun h' eh => ?_
  have g4 : Gr { s2 with heap := s2.heap.push { cls := .type "tuple", data := .seq #[.ref b, v2] } } { s2 with heap := h' } := ⟨rfl, rfl, rfl, fun c o e => eh c o (fun x => by subst x; exact absurd (Heap.lt_size e) (Nat.lt_irrefl _)) e⟩
  have P4 := (((Pre.of I g1 fr hab p).mono g2).mono g3).mono g4
  refine wpAny_assignInOrder_more (wpAny_bindName (P4.store L2 ((r2.mono g3.keep).mono g4.keep) sc fun s5 P5 k5 => ?_))
  refine wpAny_assignInOrder_more (wpAny_bindName (P5.name L1 fun s6 I6 k6 => wpAny_assignInOrder_none ?_))
  exact hrest.goOwn (s0 := s) Rm I6 ((((((g1.trans g2).trans g3).trans g4).kp).trans k5).trans k6) fr qr

theorem Ex.tupOwn3 {x1 x2 x3 : Str} {p1 p2 p3 pt pv pos : Pos} {k k' : Nat} {e1 e2 e3 : Expr} {i1 i2 i3 : Nat} {xs : List Int} {l2 l3 : LV} (L1 : Loc C x1 i1) (L2 : Loc C x2 i2) (L3 : Loc C x3 i3) (ho : st.own = .none) (h1 : EvNew C d st e1 xs) (h2 : Ev C d st e2 l2) (h3 : Ev C d st e3 l3) (sc : l2.scalar = true) (sc3 : l3.scalar = true)
    (hrest : Ex C d { σ := ((st.σ.set i3 (some l3)).set i2 (some l2)).set i1 .none, own := some (i1, xs) } rest NoNext R)
    (hs : ∀ env, swapsWithSole [.Tuple [.Name x1 p1, .Name x2 p2, .Name x3 p3] k pt] (.Tuple [e1, e2, e3] k' pv) pos.line env = pure false := by intro _; rfl)
    (hw : ∀ L a cd, swappedStores [.Tuple [.Name x1 p1, .Name x2 p2, .Name x3 p3] k pt] (.Tuple [e1, e2, e3] k' pv) (envOf C.cn C.cs L a cd) = pure (some [x1, x2, x3]) := by intro _ _ _; rfl)
    (he : ∀ env, starEach [e1, e2, e3] env = [(false, eval e1 env), (false, eval e2 env), (false, eval e3 env)] := by intro _; rfl) :
    Ex C d st (.Assign [.Tuple [.Name x1 p1, .Name x2 p2, .Name x3 p3] k pt] (.Tuple [e1, e2, e3] k' pv) pos :: rest) N R := by
  refine ⟨?_⟩
  intro A E L a cd oa s Q Rm I qn qr
  have : oa = .none := by obtain ⟨m, F, V⟩ := I.ex; exact V.none ho
  subst this
  refine wpAny_execs_cons (Assign_Tuple_swapped (wpAny_Tuple ?_) (hs _) (hw _ _ _))
  rw [he]
  refine Calls.spliced_cons (h1.run A E L a cd .none s _ Rm I fun b s1 g1 fr hab p => Calls.spliced_cons (h2.run A E L a cd .none s1 _ Rm (I.mono g1) fun v2 s2 g2 r2 => Calls.spliced_cons (h3.run A E L a cd .none s2 _ Rm ((I.mono g1).mono g2) fun v3 s3 g3' r3 => Calls.spliced_nil ?_)))
  refine ⟨by rw [sizeLine_eq]; simp, ?_⟩
  have g3 : Gr s3 { s3 with heap := s3.heap.push { cls := .type "tuple", data := .seq #[.ref b, v2, v3] } } := Gr.push _
  refine wpAny_unpackItems_tuple (items := #[.ref b, v2, v3]) Rm.h ⟨_, Heap.get?_push_size _ rfl, rfl, 0, rfl⟩ fun h' eh => ?_
  have g4 : Gr { s3 with heap := s3.heap.push { cls := .type "tuple", data := .seq #[.ref b, v2, v3] } } { s3 with heap := h' } := ⟨rfl, rfl, rfl, fun c o e => eh c o (fun x => by subst x; exact absurd (Heap.lt_size e) (Nat.lt_irrefl _)) e⟩
  have P4 := ((((Pre.of I g1 fr hab p).mono g2).mono g3').mono g3).mono g4
  refine wpAny_assignInOrder_more (wpAny_bindName (P4.store L3 ((r3.mono g3.keep).mono g4.keep) sc3 fun s5 P5 k5 => ?_))
  have r2' : Rep C.mg s5.heap v2 l2 := LV.scalar_off (L := L) (oa := .none) ((((r2.mono g3'.keep).mono g3.keep).mono g4.keep)) sc s5.heap fun c o e1 e2 _ e => k5.keep c o e1 e2 e
  refine wpAny_assignInOrder_more (wpAny_bindName (P5.store L2 r2' sc fun s6 P6 k6 => ?_))
  refine wpAny_assignInOrder_more (wpAny_bindName (P6.name L1 fun s7 I7 k7 => wpAny_assignInOrder_none ?_))
  exact hrest.goOwn (s0 := s) Rm I7 ((((((((g1.trans g2).trans g3').trans g3).trans g4).kp).trans k5).trans k6).trans k7) fr qr

/-- a value across a store of another name -/
theorem Rep.across {L : Addr} {oa : Option Addr} {s s' : Shared} {v : Value} {lv : LV} (I : Inv C L oa st s) (r : Rep C.mg s.heap v lv) (ho : st.own = .none) (k : Kp L oa s s') : Rep C.mg s'.heap v lv := by
  obtain ⟨m, F, V⟩ := I.ex
  exact Off.of (oa := oa) F.ns r (.inl (V.none ho)) s'.heap fun c o e1 e2 _ e => k.keep c o e1 e2 e

theorem Ex.tup2 {x1 x2 : Str} {p1 p2 pt pv pos : Pos} {k k' : Nat} {e1 e2 : Expr} {i1 i2 : Nat} {l1 l2 : LV} (L1 : Loc C x1 i1) (L2 : Loc C x2 i2) (ho : st.own = .none) (h1 : Ev C d st e1 l1) (h2 : Ev C d st e2 l2)
    (hrest : Ex C d ((st.put i2 l2).put i1 l1) rest N R)
    (hs : ∀ env, swapsWithSole [.Tuple [.Name x1 p1, .Name x2 p2] k pt] (.Tuple [e1, e2] k' pv) pos.line env = pure false := by intro _; rfl)
    (hw : ∀ L a cd, swappedStores [.Tuple [.Name x1 p1, .Name x2 p2] k pt] (.Tuple [e1, e2] k' pv) (envOf C.cn C.cs L a cd) = pure (some [x1, x2]) := by intro _ _ _; rfl)
    (he : ∀ env, starEach [e1, e2] env = [(false, eval e1 env), (false, eval e2 env)] := by intro _; rfl) :
    Ex C d st (.Assign [.Tuple [.Name x1 p1, .Name x2 p2] k pt] (.Tuple [e1, e2] k' pv) pos :: rest) N R := by
  refine ⟨?_⟩
  intro A E L a cd oa s Q Rm I qn qr
  refine wpAny_execs_cons (Assign_Tuple_swapped (wpAny_Tuple ?_) (hs _) (hw _ _ _))
  rw [he]
  refine Calls.spliced_cons (h1.run A E L a cd oa s _ Rm I fun v1 s1 g1 r1 => Calls.spliced_cons (h2.run A E L a cd oa s1 _ Rm (I.mono g1) fun v2 s2 g2 r2 => Calls.spliced_nil ?_))
  refine ⟨by rw [sizeLine_eq]; simp, ?_⟩
  have g3 : Gr s2 { s2 with heap := s2.heap.push { cls := .type "tuple", data := .seq #[v1, v2] } } := Gr.push _
  refine wpAny_unpackItems_tuple (items := #[v1, v2]) Rm.h ⟨_, Heap.get?_push_size _ rfl, rfl, 0, rfl⟩ fun h' eh => ?_
  have g4 : Gr { s2 with heap := s2.heap.push { cls := .type "tuple", data := .seq #[v1, v2] } } { s2 with heap := h' } := ⟨rfl, rfl, rfl, fun c o e => eh c o (fun x => by subst x; exact absurd (Heap.lt_size e) (Nat.lt_irrefl _)) e⟩
  have I4 := (((I.mono g1).mono g2).mono g3).mono g4
  have ok : ∀ i lv, stoOk st i lv = true := fun i lv => by unfold stoOk; rw [ho]
  refine wpAny_assignInOrder_more (wpAny_bindName (store_low I4 L2 ((r2.mono g3.keep).mono g4.keep) (ok _ _) fun s5 I5 k5 => ?_))
  refine wpAny_assignInOrder_more (wpAny_bindName (store_low I5 L1 (Rep.across I4 (((r1.mono g2.keep).mono g3.keep).mono g4.keep) ho k5) (ok _ _) fun s6 I6 k6 => wpAny_assignInOrder_none ?_))
  exact hrest.go Rm I6 (((((g1.trans g2).trans g3).trans g4).kp.trans k5).trans k6) qn qr

theorem Ex.tup3 {x1 x2 x3 : Str} {p1 p2 p3 pt pv pos : Pos} {k k' : Nat} {e1 e2 e3 : Expr} {i1 i2 i3 : Nat} {l1 l2 l3 : LV} (L1 : Loc C x1 i1) (L2 : Loc C x2 i2) (L3 : Loc C x3 i3) (ho : st.own = .none) (h1 : Ev C d st e1 l1) (h2 : Ev C d st e2 l2) (h3 : Ev C d st e3 l3)
    (hrest : Ex C d (((st.put i3 l3).put i2 l2).put i1 l1) rest N R)
    (hs : ∀ env, swapsWithSole [.Tuple [.Name x1 p1, .Name x2 p2, .Name x3 p3] k pt] (.Tuple [e1, e2, e3] k' pv) pos.line env = pure false := by intro _; rfl)
    (hw : ∀ L a cd, swappedStores [.Tuple [.Name x1 p1, .Name x2 p2, .Name x3 p3] k pt] (.Tuple [e1, e2, e3] k' pv) (envOf C.cn C.cs L a cd) = pure (some [x1, x2, x3]) := by intro _ _ _; rfl)
    (he : ∀ env, starEach [e1, e2, e3] env = [(false, eval e1 env), (false, eval e2 env), (false, eval e3 env)] := by intro _; rfl) :
    Ex C d st (.Assign [.Tuple [.Name x1 p1, .Name x2 p2, .Name x3 p3] k pt] (.Tuple [e1, e2, e3] k' pv) pos :: rest) N R := by
  refine ⟨?_⟩
  intro A E L a cd oa s Q Rm I qn qr
  refine wpAny_execs_cons (Assign_Tuple_swapped (wpAny_Tuple ?_) (hs _) (hw _ _ _))
  rw [he]
  refine Calls.spliced_cons (h1.run A E L a cd oa s _ Rm I fun v1 s1 g1 r1 => Calls.spliced_cons (h2.run A E L a cd oa s1 _ Rm (I.mono g1) fun v2 s2 g2 r2 => Calls.spliced_cons (h3.run A E L a cd oa s2 _ Rm ((I.mono g1).mono g2) fun v3 s3 g3' r3 => Calls.spliced_nil ?_)))
  refine ⟨by rw [sizeLine_eq]; simp, ?_⟩
  have g3 : Gr s3 { s3 with heap := s3.heap.push { cls := .type "tuple", data := .seq #[v1, v2, v3] } } := Gr.push _
  refine wpAny_unpackItems_tuple (items := #[v1, v2, v3]) Rm.h ⟨_, Heap.get?_push_size _ rfl, rfl, 0, rfl⟩ fun h' eh => ?_
  have g4 : Gr { s3 with heap := s3.heap.push { cls := .type "tuple", data := .seq #[v1, v2, v3] } } { s3 with heap := h' } := ⟨rfl, rfl, rfl, fun c o e => eh c o (fun x => by subst x; exact absurd (Heap.lt_size e) (Nat.lt_irrefl _)) e⟩
  have I4 := ((((I.mono g1).mono g2).mono g3').mono g3).mono g4
  have ok : ∀ i lv, stoOk st i lv = true := fun i lv => by unfold stoOk; rw [ho]
  have r2' := (((r2.mono g3'.keep).mono g3.keep).mono g4.keep)
  have r1' := ((((r1.mono g2.keep).mono g3'.keep).mono g3.keep).mono g4.keep)
  refine wpAny_assignInOrder_more (wpAny_bindName (store_low I4 L3 ((r3.mono g3.keep).mono g4.keep) (ok _ _) fun s5 I5 k5 => ?_))
  refine wpAny_assignInOrder_more (wpAny_bindName (store_low I5 L2 (Rep.across I4 r2' ho k5) (ok _ _) fun s6 I6 k6 => ?_))
  refine wpAny_assignInOrder_more (wpAny_bindName (store_low I6 L1 (Rep.across I4 r1' ho (k5.trans k6)) (ok _ _) fun s7 I7 k7 => wpAny_assignInOrder_none ?_))
  exact hrest.go Rm I7 ((((((g1.trans g2).trans g3').trans g3).trans g4).kp.trans k5).trans k6 |>.trans k7) qn qr

/-- names for a pair that comes back -/
theorem Ex.unpack2 {x1 x2 : Str} {p1 p2 pt pos : Pos} {k : Nat} {e : Expr} {i1 i2 : Nat} {l1 l2 : LV} (L1 : Loc C x1 i1) (L2 : Loc C x2 i2) (ho : st.own = .none) (h : Ev C d st e (.pair l1 l2))
    (hrest : Ex C d ((st.put i1 l1).put i2 l2) rest N R)
    (hs : ∀ env, swapsWithSole [.Tuple [.Name x1 p1, .Name x2 p2] k pt] e pos.line env = pure false := by intro _; rfl)
    (hw : ∀ env, swappedStores [.Tuple [.Name x1 p1, .Name x2 p2] k pt] e env = pure .none := by intro _; rfl) :
    Ex C d st (.Assign [.Tuple [.Name x1 p1, .Name x2 p2] k pt] e pos :: rest) N R := by
  refine ⟨?_⟩
  intro A E L a cd oa s Q Rm I qn qr
  refine wpAny_execs_cons (Assign_Tuple (h.run A E L a cd oa s _ Rm I fun v s1 g1 r1 => ?_) (hs _) (hw _))
  obtain ⟨t, v1, v2, rfl, ht, r1, r2⟩ := r1
  refine wpAny_assign_Tuple Rm.h ht rfl rfl fun h' eh => ?_
  have g4 : Gr s1 { s1 with heap := h' } := ⟨rfl, rfl, rfl, fun c o e => eh c o (fun x => by subst x; exact absurd (Heap.lt_size e) (Nat.lt_irrefl _)) e⟩
  have I4 := (I.mono g1).mono g4
  have ok : ∀ i lv, stoOk st i lv = true := fun i lv => by unfold stoOk; rw [ho]
  refine wpAny_assignInOrder_more (wpAny_assign_Name (store_low I4 L1 (r1.mono g4.keep) (ok _ _) fun s5 I5 k5 => ?_))
  refine wpAny_assignInOrder_more (wpAny_assign_Name (store_low I5 L2 (Rep.across I4 (r2.mono g4.keep) ho k5) (ok _ _) fun s6 I6 k6 => wpAny_assignInOrder_none ?_))
  exact hrest.go Rm I6 (((g1.trans g4).kp.trans k5).trans k6) qn qr
end

/-! JL6 -/
section
variable {C : Cx} {d : Nat} {st : St} {rest : List Stmt} {N : St → Prop} {R : LV → Prop}

theorem typeCall {x : Str} {T : String} {p pos : Pos} {e : Expr} {es : List Expr} {ls : List LV} {A : Around} {E : Value → Shared → Prop} {L a : Addr} {cd : Value} {oa : Option Addr} {s : Shared} {Q : Value → Shared → Prop} (hf : Blt C x (.type T)) (ha : Evs C d st (e :: es) ls) (Rm : Room A d) (I : Inv C L oa st s)
    (q : ∀ vs s', Gr s s' → Reps C.mg s'.heap vs ls → wpAny (model C.prog C.w) A (PySem.call (.type T) vs []) Q E s')
    (he : ∀ env, starEach (e :: es) env = (false, eval e env) :: starEach es env)
    (hp : ∀ env, (backTo pos (starEach (e :: es) env)).any (fun x => x.fst) = false) : wpAny (model C.prog C.w) A (eval (.Call (.Name x p) (e :: es) [] pos) (envOf C.cn C.cs L a cd)) Q E s := by
  obtain ⟨m, F, V⟩ := I.ex
  refine Call_Name rfl (ld_builtin_at F C.T.g hf.mg C.T.b hf.mb ?_ C.hk hf.glb.look hf.glb.nodebug)
  have key : wpAny (model C.prog C.w) A (spliced (backTo pos (starEach (e :: es) (envOf C.cn C.cs L a cd)))) (fun vs s2 => wpAny (model C.prog C.w) A (PySem.call (.type T) ([] ++ vs) []) Q E s2) E s :=
    ha.run A E L a cd oa pos s _ Rm I fun vs s2 g2 r2 => q vs s2 g2 r2
  refine PyProof.Rows.callWith_type (hp _) ?_
  rw [he] at key ⊢
  exact Calls.evalArgs_plain key

/-- a range that stands: its iterator -/
theorem range_iter {A : Around} {E : Value → Shared → Prop} {L : Addr} {oa : Option Addr} {s s1 : Shared} {Q : Value → Shared → Prop} {r : Addr} {a b c : Int} {t u v : Tok} {m : Str → Option Value} (F : Fr C.h0 L s.heap m) (hoa : ∀ x, oa = some x → ∃ o, s.heap.get? x = some o) (g : Gr s s1) (hr : IsRange s1.heap r a b c t u v) (hs : Builtin.Range.small a b c = true)
    (hsz : 0 ≤ Builtin.Range.rangeSize a b c)
    (q : ∀ it It s', Gr s s' → s.heap.get? it = .none → IterOk C L oa it ((List.range (Builtin.Range.rangeSize a b c).toNat).map fun (k : Nat) => LV.int (a + (k : Int) * c)) It → It 0 s'.heap → Q (.ref it) s') : wpAny (model C.prog C.w) A (pyIter (.ref r)) Q E s1 := by
  have g2 : Gr s1 { s1 with heap := s1.heap.push { cls := .type "range_iterator", data := .fields #[rawInt a, rawInt (Builtin.Range.rangeSize a b c), rawInt c] } } := Gr.push _
  have hge : ∀ x o, s.heap.get? x = some o → x ≠ s1.heap.objs.size := fun x o e => Nat.ne_of_lt (Heap.lt_size (g.keep x o e))
  have hn : s.heap.get? s1.heap.objs.size = .none := by
    cases e : s.heap.get? s1.heap.objs.size with
    | none => rfl
    | some o => exact absurd rfl (hge _ _ e)
  refine wpAny_pyIter_range hr hs (q _ (fun k h => IsRangeIter h s1.heap.objs.size (a + k * c) (Builtin.Range.rangeSize a b c - k) c) _ (g.trans g2) hn ⟨?_, ?_, ?_, ?_⟩ (by
    show IsRangeIter _ _ (a + ((0 : Nat) : Int) * c) (Builtin.Range.rangeSize a b c - ((0 : Nat) : Int)) c
    simp only [Int.natCast_zero, Int.zero_mul, Int.add_zero, Int.sub_zero]
    exact Heap.get?_push_size _ rfl))
  · intro k hk A E s Q hA hI qq
    rw [List.length_map, List.length_range] at hk
    refine wpAny_pyNext_range_item hI (by (first | lia | omega)) fun h' hI' hs' => qq _ _ rfl rfl rfl (fun b o e1 e => (hs'.2 b e1).trans e) ?_ ?_
    · show IsRangeIter h' _ (a + ((k + 1 : Nat) : Int) * c) (Builtin.Range.rangeSize a b c - ((k + 1 : Nat) : Int)) c
      have e1 : a + ((k + 1 : Nat) : Int) * c = a + (k : Int) * c + c := by rw [Int.natCast_add, Int.add_mul]; simp; (first | lia | omega)
      have e2 : Builtin.Range.rangeSize a b c - ((k + 1 : Nat) : Int) = Builtin.Range.rangeSize a b c - (k : Int) - 1 := by (first | lia | omega)
      rw [e1, e2]
      exact hI'
    · rw [List.getElem_map, List.getElem_range]
      exact ⟨s.toks, rfl⟩
  · intro A E s Q hA hI qq
    rw [List.length_map, List.length_range] at hI
    exact wpAny_pyNext_range_end hA hI (by (first | lia | omega)) fun h' he => qq _ rfl rfl rfl fun b o e1 e => he b o e1 e
  · exact fun k h hI => ⟨_, _, hI, rfl⟩
  · intro k h h' hI kk
    have hL : ∃ o, s.heap.get? L = some o := by obtain ⟨o, _, _, e, _⟩ := F.ns; exact ⟨o, e⟩
    obtain ⟨o, eL⟩ := hL
    exact kk _ _ (Ne.symm (hge _ _ eL)) (fun e => by obtain ⟨o', e'⟩ := hoa _ e; exact hge _ _ e' rfl) hI

theorem Inv.oaSome {L : Addr} {oa : Option Addr} {s : Shared} (I : Inv C L oa st s) : ∀ x, oa = some x → ∃ o, s.heap.get? x = some o := by
  obtain ⟨m, F, V⟩ := I.ex
  intro x e
  cases ho : st.own with
  | none => have := V.none ho; rw [this] at e; cases e
  | some p =>
    obtain ⟨j, xs⟩ := p
    obtain ⟨a, xk, e1, _, _, vs, n, hl, _⟩ := V.own j xs ho
    rw [e] at e1
    cases e1
    exact ⟨_, hl⟩

theorem IterTo.range1 {x : Str} {p pos : Pos} {e : Expr} {n : Nat} (hf : Blt C x (.type "range")) (h : Ev C d st e (.int n)) (hn : n ≤ LIM) (he : ∀ env, starEach [e] env = [(false, eval e env)] := by intro _; rfl) :
    IterTo C d st (.Call (.Name x p) [e] [] pos) ((List.range n).map fun (k : Nat) => LV.int k) := by
  refine ⟨?_⟩
  intro A E L a cd oa s Q Rm I q
  obtain ⟨m, F, V⟩ := id I.ex
  refine typeCall hf (Evs.cons h Evs.nil he) Rm I (fun vs s1 g r => ?_) he (fun env => by rw [he]; rfl)
  obtain ⟨_, rfl, t, rfl⟩ := reps1 r
  · have hsz : Builtin.Range.rangeSize 0 n 1 = n := by rw [rangeSize_one]; split <;> (first | lia | omega)
    unfold LIM at hn
    refine call_range_1 (range_iter F I.oaSome (g.trans (Gr.push _)) (IsRange.new ..) (small_one (by decide) (by decide) (by (first | lia | omega)) (by (first | lia | omega))) (by (first | lia | omega)) fun it It s' g' fr ok => ?_)
    have e2 : ((List.range (Builtin.Range.rangeSize 0 n 1).toNat).map fun (k : Nat) => LV.int (0 + (k : Int) * 1)) = (List.range n).map fun (k : Nat) => LV.int k := by
      rw [hsz, Int.toNat_natCast]; simp
    rw [e2] at ok
    exact q it It s' g' fr ok

theorem IterTo.range2 {x : Str} {p pos : Pos} {e e' : Expr} {a b : Int} (hf : Blt C x (.type "range")) (h : Ev C d st e (.int a)) (h' : Ev C d st e' (.int b)) (ha : 0 ≤ a) (ha' : a ≤ LIM) (hb : b ≤ LIM) (hb' : -(LIM : Int) ≤ b) (he : ∀ env, starEach [e, e'] env = [(false, eval e env), (false, eval e' env)] := by intro _; rfl)
    (he' : ∀ env, starEach [e'] env = [(false, eval e' env)] := by intro _; rfl) :
    IterTo C d st (.Call (.Name x p) [e, e'] [] pos) ((List.range (b - a).toNat).map fun (k : Nat) => LV.int (a + (k : Int))) := by
  refine ⟨?_⟩
  intro A E L fa cd oa s Q Rm I q
  obtain ⟨m, F, V⟩ := id I.ex
  refine typeCall hf (Evs.cons h (Evs.cons h' Evs.nil he') (fun env => by rw [he, he'])) Rm I (fun vs s1 g r => ?_) (fun env => by rw [he, he']) (fun env => by rw [he]; rfl)
  obtain ⟨_, _, rfl, ⟨t, rfl⟩, ⟨u, rfl⟩⟩ := reps2 r
  · have hsz : Builtin.Range.rangeSize a b 1 = ((b - a).toNat : Int) := by rw [rangeSize_one]; split <;> (first | lia | omega)
    unfold LIM at *
    refine call_range_2 (range_iter F I.oaSome (g.trans (Gr.push _)) (IsRange.new ..) (small_one (by (first | lia | omega)) (by (first | lia | omega)) (by (first | lia | omega)) (by (first | lia | omega))) (by (first | lia | omega)) fun it It s' g' fr ok => ?_)
    have e2 : ((List.range (Builtin.Range.rangeSize a b 1).toNat).map fun (k : Nat) => LV.int (a + (k : Int) * 1)) = (List.range (b - a).toNat).map fun (k : Nat) => LV.int (a + (k : Int)) := by
      rw [hsz, Int.toNat_natCast]; simp
    rw [e2] at ok
    exact q it It s' g' fr ok

theorem IterTo.range3 {x : Str} {p pos : Pos} {e e' e'' : Expr} {a b c : Int} {n : Nat} (hf : Blt C x (.type "range")) (h : Ev C d st e (.int a)) (h' : Ev C d st e' (.int b)) (h'' : Ev C d st e'' (.int c)) (hc : c ≠ 0) (hc' : c.natAbs < 1073741824) (hs : Builtin.Range.small a b c = true) (hn : Builtin.Range.rangeSize a b c = (n : Int))
    (he : ∀ env, starEach [e, e', e''] env = [(false, eval e env), (false, eval e' env), (false, eval e'' env)] := by intro _; rfl)
    (he' : ∀ env, starEach [e', e''] env = [(false, eval e' env), (false, eval e'' env)] := by intro _; rfl)
    (he'' : ∀ env, starEach [e''] env = [(false, eval e'' env)] := by intro _; rfl) :
    IterTo C d st (.Call (.Name x p) [e, e', e''] [] pos) ((List.range n).map fun (k : Nat) => LV.int (a + (k : Int) * c)) := by
  refine ⟨?_⟩
  intro A E L fa cd oa s Q Rm I q
  obtain ⟨m, F, V⟩ := id I.ex
  refine typeCall hf (Evs.cons h (Evs.cons h' (Evs.cons h'' Evs.nil he'') (fun env => by rw [he', he''])) (fun env => by rw [he, he'])) Rm I (fun vs s1 g r => ?_) (fun env => by rw [he, he']) (fun env => by rw [he]; rfl)
  obtain ⟨_, _, _, rfl, ⟨t, rfl⟩, ⟨u, rfl⟩, ⟨v, rfl⟩⟩ := reps3 r
  · refine call_range_3 hc (range_iter F I.oaSome (g.trans (Gr.push _)) (IsRange.new ..) hs (by (first | lia | omega)) fun it It s' g' fr ok => ?_) (.inl (PyProof.noPylong_small hc'))
    rw [hn, Int.toNat_natCast] at ok
    exact q it It s' g' fr ok

theorem PL.inj {h : Heap} {a : Addr} {xs : List Int} {vs : Array Value} (p : PL h a xs) (hl : h.IsList a vs) : IntsAre vs.toList xs := by
  obtain ⟨us, n, e, i, _⟩ := p
  obtain ⟨o, e', _, k, dd⟩ := hl
  rw [e] at e'
  cases e'
  cases dd
  exact i

/-- a list that stands, of the frame's or a new one: its iterator -/
theorem list_iter {A : Around} {E : Value → Shared → Prop} {L : Addr} {oa : Option Addr} {s s1 : Shared} {Q : Value → Shared → Prop} {l : Addr} {xs : List Int} {m : Str → Option Value} (F : Fr C.h0 L s.heap m) (hoa : ∀ x, oa = some x → ∃ o, s.heap.get? x = some o) (g : Gr s s1) (ho : Off C.mg s1.heap L oa (.ref l) (.list xs))
    (q : ∀ it It s', Gr s s' → s.heap.get? it = .none → IterOk C L oa it (xs.map LV.int) It → It 0 s'.heap → Q (.ref it) s') : wpAny (model C.prog C.w) A (pyIter (.ref l)) Q E s1 := by
  have g2 : Gr s1 { s1 with heap := s1.heap.push { cls := .type "list_iterator", data := .fields #[.ref l, .int 0 0] } } := Gr.push _
  have hge : ∀ x o, s.heap.get? x = some o → x ≠ s1.heap.objs.size := fun x o e => Nat.ne_of_lt (Heap.lt_size (g.keep x o e))
  have hn : s.heap.get? s1.heap.objs.size = .none := by
    cases e : s.heap.get? s1.heap.objs.size with
    | none => rfl
    | some o => exact absurd rfl (hge _ _ e)
  obtain ⟨l', e', p⟩ := ho.rep
  cases e'
  obtain ⟨vs, n, el, ii, len⟩ := id p
  refine wpAny_pyIter_list ⟨_, el, rfl, n, rfl⟩ (q _ (fun k h => h.IsListIter s1.heap.objs.size l k ∧ Off C.mg h L oa (.ref l) (.list xs)) _ (g.trans g2) hn ⟨?_, ?_, ?_, ?_⟩ ⟨⟨_, Heap.get?_push_size _ rfl, rfl, rfl⟩, ho.keep fun b o _ _ _ e => Heap.get?_push_of_some _ e⟩)
  · rintro k hk A E s Q hA ⟨hI, hoff⟩ qq
    rw [List.length_map] at hk
    obtain ⟨l', e', vs, n, el, ii, len⟩ := hoff.rep
    cases e'
    obtain ⟨t, ht⟩ := IntsAre.getD ii k hk
    refine wpAny_pyNext_list_item hI ⟨_, el, rfl, n, rfl⟩ (by simpa using ht) fun h' hI' hs' => qq _ _ rfl rfl rfl (fun b o e1 e => (hs'.2 b e1).trans e) ⟨hI', hoff.keep fun b o _ _ qs e => ?_⟩ ?_
    · refine (hs'.2 b fun x => ?_).trans e
      subst x
      obtain ⟨o', e', _, d'⟩ := hI
      rw [e'] at e
      cases e
      obtain ⟨ys, n', dd⟩ := qs
      rw [d'] at dd
      cases dd
    · rw [List.getElem_map]
      refine ⟨t, ?_⟩
      simp [hk]
  · rintro A E s Q hA ⟨hI, hoff⟩ qq
    rw [List.length_map] at hI
    obtain ⟨l', e', vs, n, el, ii, len⟩ := hoff.rep
    cases e'
    have hz := ii.length
    simp only [Array.length_toList] at hz
    exact wpAny_pyNext_list_end hA hI ⟨_, el, rfl, n, rfl⟩ (by simp [hz]) fun h' he => qq _ rfl rfl rfl fun b o e1 e => he b o e1 e
  · rintro k h ⟨⟨o, e, _, dd⟩, _⟩
    exact ⟨o, _, e, dd⟩
  · rintro k h h' ⟨hI, hoff⟩ kk
    have hL : ∃ o, s.heap.get? L = some o := by obtain ⟨o, _, _, e, _⟩ := F.ns; exact ⟨o, e⟩
    obtain ⟨o, eL⟩ := hL
    refine ⟨?_, hoff.keep fun b o e1 e2 _ e => kk b o e1 e2 e⟩
    obtain ⟨o', e', r⟩ := hI
    exact ⟨o', kk _ _ (Ne.symm (hge _ _ eL)) (fun e => by obtain ⟨o', e'⟩ := hoa _ e; exact hge _ _ e' rfl) e', r⟩

theorem IterTo.var {x : Str} {pos : Pos} {i : Nat} {xs : List Int} (l : Loc C x i) (h : st.σ[i]? = some (some (.list xs))) : IterTo C d st (.Name x pos) (xs.map LV.int) := by
  refine ⟨?_⟩
  intro A E L a cd oa s Q Rm I q
  obtain ⟨m, F, V⟩ := id I.ex
  obtain ⟨xk, v, hx, hm, off⟩ := V.var i _ h
  obtain ⟨k, hx'⟩ := l.at'
  rw [hx'] at hx
  cases hx
  obtain ⟨b, e, _⟩ := off.rep
  subst e
  exact ld F hm (list_iter F I.oaSome (Gr.refl _) off q) C.hk l.look l.nodebug

theorem IterTo.ev {e : Expr} {xs : List Int} (ho : st.own = .none) (h : Ev C d st e (.list xs)) : IterTo C d st e (xs.map LV.int) := by
  refine ⟨?_⟩
  intro A E L a cd oa s Q Rm I q
  obtain ⟨m, F, V⟩ := id I.ex
  refine h.run A E L a cd oa s _ Rm I fun v s1 g r => ?_
  obtain ⟨b, e, p⟩ := r
  subst e
  exact list_iter F I.oaSome g (Off.of (F.ns.keeps g.keep) ⟨b, rfl, p⟩ (.inl (V.none ho))) q

theorem IterTo.tup {es : List Expr} {k : Nat} {pos : Pos} {xs : List Int} (h : Evs C d st es (xs.map LV.int)) (hz : xs.length ≤ LIM := by decide) : IterTo C d st (.Tuple es k pos) (xs.map LV.int) := by
  refine ⟨?_⟩
  intro A E L a cd oa s Q Rm I q
  obtain ⟨m, F, V⟩ := id I.ex
  refine wpAny_Tuple (h.run A E L a cd oa pos s _ Rm I fun vs s1 g r => ?_)
  have ii := Reps.ints r
  have hz' := ii.length
  refine ⟨by rw [hz', sizeLine_eq]; unfold LIM at hz; (first | lia | omega), ?_⟩
  have g2 : Gr s1 { s1 with heap := s1.heap.push { cls := .type "tuple", data := .seq vs.toArray } } := Gr.push _
  have ht : (s1.heap.push { cls := .type "tuple", data := .seq vs.toArray }).IsTuple s1.heap.objs.size vs.toArray := ⟨_, Heap.get?_push_size _ rfl, rfl, 0, rfl⟩
  have g3 : Gr { s1 with heap := s1.heap.push { cls := .type "tuple", data := .seq vs.toArray } } { s1 with heap := (s1.heap.push { cls := .type "tuple", data := .seq vs.toArray }).push { cls := .type "tuple_iterator", data := .fields #[.ref s1.heap.objs.size, .int 0 0] } } := Gr.push (s := { s1 with heap := s1.heap.push { cls := .type "tuple", data := .seq vs.toArray } }) _
  have hge : ∀ x o, s.heap.get? x = some o → x ≠ s1.heap.objs.size := fun x o e => Nat.ne_of_lt (Heap.lt_size (g.keep x o e))
  have hge2 : ∀ x o, s.heap.get? x = some o → x ≠ (s1.heap.push { cls := .type "tuple", data := .seq vs.toArray }).objs.size := fun x o e => Nat.ne_of_lt (Heap.lt_size (g2.keep _ _ (g.keep x o e)))
  have hn : s.heap.get? (s1.heap.push { cls := .type "tuple", data := .seq vs.toArray }).objs.size = .none := by
    cases e : s.heap.get? (s1.heap.push { cls := .type "tuple", data := .seq vs.toArray }).objs.size with
    | none => rfl
    | some o => exact absurd rfl (hge2 _ _ e)
  obtain ⟨oL, _, _, eL, _⟩ := F.ns
  have hne : s1.heap.objs.size ≠ (s1.heap.push { cls := .type "tuple", data := .seq vs.toArray }).objs.size := by rw [Heap.size_push]; exact Nat.ne_of_lt (Nat.lt_succ_self _)
  refine wpAny_pyIter_tuple (s := { s1 with heap := s1.heap.push { cls := .type "tuple", data := .seq vs.toArray } }) ht (q _ (fun k h => h.IsTupleIter (s1.heap.push { cls := .type "tuple", data := .seq vs.toArray }).objs.size s1.heap.objs.size k ∧ h.IsTuple s1.heap.objs.size vs.toArray) _ ((g.trans g2).trans g3) hn ⟨?_, ?_, ?_, ?_⟩ ⟨⟨_, Heap.get?_push_size _ rfl, rfl, rfl⟩, by obtain ⟨o, e, r⟩ := ht; exact ⟨o, Heap.get?_push_of_some _ e, r⟩⟩)
  · rintro k hk A E s Q hA ⟨hI, hT⟩ qq
    rw [List.length_map] at hk
    obtain ⟨t, ht⟩ := IntsAre.getD ii k hk
    refine wpAny_pyNext_tuple_item hI hT (by simpa using ht) fun h' hI' hs' => qq _ _ rfl rfl rfl (fun b o e1 e => (hs'.2 b e1).trans e) ⟨hI', by obtain ⟨o, e, r⟩ := hT; exact ⟨o, (hs'.2 _ hne).trans e, r⟩⟩ ?_
    rw [List.getElem_map]
    refine ⟨t, ?_⟩
    simp [hk]
  · rintro A E s Q hA ⟨hI, hT⟩ qq
    rw [List.length_map] at hI
    exact wpAny_pyNext_tuple_end hA hI hT (by simp [hz']) fun h' he => qq _ rfl rfl rfl fun b o e1 e => he b o e1 e
  · rintro k h ⟨⟨o, e, _, dd⟩, _⟩
    exact ⟨o, _, e, dd⟩
  · rintro k h h' ⟨⟨o, e, r⟩, ⟨o2, e2, r2⟩⟩ kk
    exact ⟨⟨o, kk _ _ (Ne.symm (hge2 _ _ eL)) (fun e => by obtain ⟨o', e'⟩ := I.oaSome _ e; exact hge2 _ _ e' rfl) e, r⟩, ⟨o2, kk _ _ (Ne.symm (hge _ _ eL)) (fun e => by obtain ⟨o', e'⟩ := I.oaSome _ e; exact hge _ _ e' rfl) e2, r2⟩⟩

theorem Reps.length {mg : Str → Option Value} {h : Heap} : ∀ {vs : List Value} {ls : List LV}, Reps mg h vs ls → vs.length = ls.length
  | [], [], _ => rfl
  | _ :: _, _ :: _, ⟨_, b⟩ => by rw [List.length_cons, List.length_cons, Reps.length b]
  | [], _ :: _, h => h.elim
  | _ :: _, [], h => h.elim
theorem Reps.get {mg : Str → Option Value} {h : Heap} : ∀ {vs : List Value} {ls : List LV}, Reps mg h vs ls → ∀ (i : Nat) (l : LV), ls[i]? = some l → ∃ v, vs[i]? = some v ∧ Rep mg h v l
  | v :: _, l :: _, ⟨a, _⟩, 0, l', e => ⟨v, rfl, by cases e; exact a⟩
  | _ :: _, _ :: _, ⟨_, b⟩, i + 1, l', e => by
    obtain ⟨v, x, y⟩ := Reps.get b i l' (by simpa using e)
    exact ⟨v, by simpa using x, y⟩
  | [], [], _, _, _, e => by simp at e
  | [], _ :: _, h, _, _, _ => h.elim
  | _ :: _, [], h, _, _, _ => h.elim

theorem lookup_zip : ∀ {ns : List Str} {vs : List Value}, ns.Nodup → ∀ (i : Nat) (x : Str) (v : Value), ns[i]? = some x → vs[i]? = some v → (ns.zip vs).lookup x = some v
  | n :: ns, w :: vs, nd, 0, x, v, e1, e2 => by
    cases e1
    cases e2
    simp
  | n :: ns, w :: vs, nd, i + 1, x, v, e1, e2 => by
    have hne : (x == n) = false := by
      rw [beq_eq_false_iff_ne]
      intro h
      subst h
      have hm : x ∈ ns := List.mem_of_getElem? (by simpa using e1)
      exact (List.nodup_cons.mp nd).1 hm
    rw [List.zip_cons_cons, List.lookup_cons, hne]
    exact lookup_zip (List.nodup_cons.mp nd).2 i x v (by simpa using e1) (by simpa using e2)
  | [], _, _, _, _, _, e1, _ => by simp at e1
  | _ :: _, [], _, _, _, _, _, e2 => by simp at e2
theorem lookup_rev : ∀ {l : List (Str × Value)}, (l.map (·.1)).Nodup → ∀ x v, l.lookup x = some v → l.reverse.lookup x = some v
  | [], _, _, _, h => by simp at h
  | (y, w) :: r, nd, x, v, h => by
    rw [List.map_cons, List.nodup_cons] at nd
    rw [List.reverse_cons, List.lookup_append]
    by_cases hx : (x == y) = true
    · rw [List.lookup_cons, hx] at h
      cases h
      have hn : r.reverse.lookup x = .none := by
        rw [List.lookup_eq_none_iff]
        intro p hp
        rw [bne_iff_ne]
        intro e
        rw [beq_iff_eq] at hx
        have hm := List.mem_map_of_mem (f := fun x : Str × Value => x.1) (List.mem_reverse.mp hp)
        rw [← e, hx] at hm
        exact nd.1 hm
      rw [hn, List.lookup_cons, hx]
      rfl
    · rw [List.lookup_cons] at h
      simp only [hx] at h
      rw [lookup_rev nd.2 x v h]
      rfl

/-- a record of the text whose arguments are plain -/
structure Rec (B : Base) (dr : DefRec) (ns : List Str) : Prop where
  mem : dr ∈ recsOf B.p
  bind : ∀ (pm cd doc : Value) (vs : List Value), vs.length = ns.length → bindArgs (docDef dr.name dr.params dr.body dr.scope pm cd doc) { pos := vs } = pure (ns.zip vs)
  loc : ∀ x ∈ ns, dr.scope.names.lookup x = some .local
  at' : ∀ i, i < ns.length → (dr.scope.names.map (·.1))[i]? = ns[i]?
  nd : (dr.scope.names.map (·.1)).Nodup
  kind : dr.scope.kind = .function
  co : dr.scope.isCoroutine = false
  gen : dr.scope.isGenerator = false
  cell : ∀ x ∈ dr.scope.names, x.2 ≠ .cell
end

theorem getElem?_of_prefix {α : Type} {l ns : List α} (h : ∀ i, i < ns.length → l[i]? = ns[i]?) : ns = l.take ns.length := by
  apply List.ext_getElem?
  intro i
  by_cases hi : i < ns.length
  · rw [List.getElem?_take, if_pos hi, h i hi]
  · rw [List.getElem?_take, if_neg hi, List.getElem?_eq_none (by (first | lia | omega))]

noncomputable def Rec.cx {B : Base} {dr : DefRec} {ns : List Str} (r : Rec B dr ns) : Cx := { B with cn := dr.name, cs := dr.scope, hk := r.kind, nd := r.nd }

theorem CallTo.body {B : Base} {dr : DefRec} {ns : List Str} {d : Nat} {args : List LV} {lv : LV} (r : Rec B dr ns) (hl : args.length = ns.length) (h : Ex r.cx d { σ := args.map some ++ List.replicate (dr.scope.names.length - ns.length) .none } dr.body NoNext (fun l => l = lv)) : CallTo B (d + 1) dr.name args lv := by
  refine ⟨?_⟩
  intro A E s fa vs Q Rm hb hsz hm hr q
  obtain ⟨fa', o, pm, code, doc, h1, h2, h3, h4⟩ := B.T.fn dr r.mem
  rw [h1] at hm
  cases hm
  have hlen := hr.length
  have hns : ns.Nodup := by
    rw [getElem?_of_prefix r.at']
    exact r.nd.sublist (List.take_sublist _ _)
  refine wpAny_call (call_plain (by have := Rm.dep; (first | lia | omega)) (hb _ _ h2) h3 (B.T.nolimit.keeps hb) (h4.keeps hb) (r.bind _ _ _ _ (by rw [hlen, hl])) ?_ (fun h₁ F => ?_) r.co r.gen r.kind r.cell)
  · rintro ⟨x, v⟩ hx
    exact r.loc x (List.of_mem_zip hx).1
  · have hF : Fr B.h0 s.heap.objs.size h₁ (fun x => (ns.zip vs).reverse.lookup x) := ⟨F.ns, fun b o e => F.keep b o (hb b o e), hsz⟩
    refine h.run (A.deeper _) _ s.heap.objs.size fa code .none _ _ ⟨Rm.h, ?_, ?_⟩ ⟨⟨_, hF, ⟨fun i l e => ?_, (fun i xs e => by cases e), (fun _ => rfl)⟩⟩, (fun a e => by cases e)⟩ (fun _ _ x => x.elim) fun v l s' hl r' k => ?_
    · show A.depth + 1 + d < recursionLimit
      have := Rm.dep; (first | lia | omega)
    · show A.units + 3 + 10 * d + 100 < cLine
      have := Rm.un; (first | lia | omega)
    · have hi : i < args.length := by
        refine Nat.lt_of_not_le fun hge => ?_
        simp only at e
        rw [List.getElem?_append_right (by simpa using hge)] at e
        have := List.mem_of_getElem? e
        simp at this
      have e' : args[i]? = some l := by
        simp only at e
        rw [List.getElem?_append_left (by simpa using hi), List.getElem?_map] at e
        simpa using e
      obtain ⟨v, hv, rv⟩ := hr.get i l e'
      have hn : ∃ x, ns[i]? = some x := ⟨_, List.getElem?_eq_getElem (hl ▸ hi)⟩
      obtain ⟨x, hx⟩ := hn
      have hx' := r.at' i (hl ▸ hi)
      rw [hx, List.getElem?_map] at hx'
      obtain ⟨xk, e1, e2⟩ := Option.map_eq_some_iff.mp hx'
      refine ⟨xk, v, e1, ?_, Off.of F.ns (rv.mono F.keep) (.inl rfl)⟩
      rw [e2]
      refine lookup_rev ?_ x v (lookup_zip hns i x v hx hv)
      rw [List.map_fst_zip (by (first | lia | omega))]
      exact hns
    · subst hl
      refine q v s' ⟨k.gens, k.drawn, k.os, fun b o e => k.keep b o (Nat.ne_of_lt (Heap.lt_size e)) (by simp) (F.keep b o e)⟩ r'

/-! JL7 -/
/-! slices -/
theorem filterMap_range {α : Type} (xs : List α) : ∀ (n a : Nat), (List.range n).filterMap (fun k => xs[a + k]?) = (xs.drop a).take n := by
  intro n
  induction n with
  | zero => intro a; simp
  | succ n ih =>
    intro a
    rw [List.range_succ, List.filterMap_append, ih, List.take_add_one, List.getElem?_drop]
    congr 1

theorem pick_step1 (xs : List Int) (lo hi : Option Int) (a b : Nat) (ha : (sliceBounds lo hi .none xs.length).1 = (a : Int)) (hb : (sliceBounds lo hi .none xs.length).2.1 = (b : Int)) : pickNums xs lo hi .none = (xs.take b).drop a := by
  unfold pickNums
  rw [ha, hb]
  have h1 : (sliceBounds lo hi .none xs.length).2.2 = 1 := rfl
  rw [h1]
  unfold sliceRange
  simp only [show (1 : Int) > 0 by decide, if_true, Int.ediv_one, Int.one_mul]
  rw [List.filterMap_map]
  have e : ((fun x => xs[x]?) ∘ fun (k : Nat) => ((a : Int) + (k : Int)).toNat) = fun k => xs[a + k]? := by
    funext k
    show xs[((a : Int) + (k : Int)).toNat]? = _
    rw [show ((a : Int) + (k : Int)).toNat = a + k by (first | lia | omega)]
  rw [e, filterMap_range, List.take_drop]
  by_cases h : (a : Int) < (b : Int)
  · rw [if_pos h, show a + ((b : Int) - a + 1 - 1).toNat = b by (first | lia | omega)]
  · rw [if_neg h]
    simp only [Int.toNat_zero, Nat.add_zero]
    rw [List.drop_eq_nil_of_le (by rw [List.length_take]; (first | lia | omega)), List.drop_eq_nil_of_le (by rw [List.length_take]; (first | lia | omega))]

theorem pick_take (xs : List Int) (e : Nat) : pickNums xs .none (some (e : Int)) .none = xs.take e := by
  rw [pick_step1 xs .none (some (e : Int)) 0 (min e xs.length) rfl (by unfold sliceBounds; simp; (first | lia | omega))]
  simp [List.take_eq_take_iff]
theorem pick_drop (xs : List Int) (a : Nat) : pickNums xs (some (a : Int)) .none .none = xs.drop a := by
  rw [pick_step1 xs (some (a : Int)) .none (min a xs.length) xs.length (by unfold sliceBounds; simp; (first | lia | omega)) (by unfold sliceBounds; simp)]
  rw [List.take_length]
  by_cases h : a ≤ xs.length
  · rw [Nat.min_eq_left h]
  · rw [Nat.min_eq_right (by (first | lia | omega)), List.drop_length, List.drop_eq_nil_of_le (by (first | lia | omega))]
theorem pick_cut (xs : List Int) (a b : Nat) : pickNums xs (some (a : Int)) (some (b : Int)) .none = (xs.take b).drop a := by
  rw [pick_step1 xs (some (a : Int)) (some (b : Int)) (min a xs.length) (min b xs.length) (by unfold sliceBounds; simp; (first | lia | omega)) (by unfold sliceBounds; simp; (first | lia | omega))]
  have e : xs.take (min b xs.length) = xs.take b := by simp [List.take_eq_take_iff]
  rw [e]
  by_cases h : a ≤ xs.length
  · rw [Nat.min_eq_left h]
  · rw [Nat.min_eq_right (by (first | lia | omega)), List.drop_eq_nil_of_le (by rw [List.length_take]; (first | lia | omega)), List.drop_eq_nil_of_le (by rw [List.length_take]; (first | lia | omega))]
theorem pick_all (xs : List Int) : pickNums xs .none .none .none = xs := by
  rw [pick_step1 xs .none .none 0 xs.length rfl (by unfold sliceBounds; simp)]
  simp
theorem filterMap_rev {α : Type} (xs : List α) : ∀ n : Nat, n ≤ xs.length → (List.range n).filterMap (fun k => xs[n - 1 - k]?) = (xs.take n).reverse := by
  intro n
  induction n with
  | zero => intro _; simp
  | succ n ih =>
    intro h
    rw [List.range_succ_eq_map, List.filterMap_cons, List.filterMap_map]
    have e : ((fun k => xs[n + 1 - 1 - k]?) ∘ Nat.succ) = fun k => xs[n - 1 - k]? := by
      funext k
      show xs[n + 1 - 1 - (k + 1)]? = _
      rw [show n + 1 - 1 - (k + 1) = n - 1 - k by (first | lia | omega)]
    have hx : xs.take (n + 1) = xs.take n ++ [xs[n]] := by rw [List.take_add_one, List.getElem?_eq_getElem (show n < xs.length by (first | lia | omega))]; rfl
    rw [e, ih (by (first | lia | omega)), hx, List.reverse_append]
    show (match xs[n]? with | none => _ | some b => _) = _
    rw [List.getElem?_eq_getElem (show n < xs.length by (first | lia | omega))]
    rfl
theorem pick_rev (xs : List Int) : pickNums xs .none .none (some (-1)) = xs.reverse := by
  unfold pickNums
  have h1 : (sliceBounds .none .none (some (-1)) xs.length) = ((xs.length : Int) - 1, -1, -1) := rfl
  rw [h1]
  unfold sliceRange
  simp only [show ¬ ((-1 : Int) > 0) by decide, if_false]
  rw [List.filterMap_map]
  have hn : (if (xs.length : Int) - 1 > -1 then ((xs.length : Int) - 1 - -1 - -1 - 1) / -(-1) else 0).toNat = xs.length := by
    rw [show -(-1 : Int) = 1 by decide, Int.ediv_one]
    split <;> (first | lia | omega)
  rw [hn]
  have e := filterMap_rev xs xs.length (Nat.le_refl _)
  rw [List.take_length] at e
  rw [← e]
  have : ∀ (l : List Nat), (∀ k ∈ l, k < xs.length) → l.filterMap ((fun x => xs[x]?) ∘ fun (k : Nat) => ((xs.length : Int) - 1 + -1 * (k : Int)).toNat) = l.filterMap (fun k => xs[xs.length - 1 - k]?) := by
    intro l
    induction l with
    | nil => intro _; rfl
    | cons k r ih =>
      intro h
      have hk := h k (.head _)
      rw [List.filterMap_cons, List.filterMap_cons, ih fun k hk => h k (.tail _ hk)]
      have e2 : ((fun x => xs[x]?) ∘ fun (k : Nat) => ((xs.length : Int) - 1 + -1 * (k : Int)).toNat) k = xs[xs.length - 1 - k]? := by
        show xs[((xs.length : Int) - 1 + -1 * (k : Int)).toNat]? = _
        rw [show ((xs.length : Int) - 1 + -1 * (k : Int)).toNat = xs.length - 1 - k by (first | lia | omega)]
      rw [e2]
  exact this _ fun k hk => List.mem_range.mp hk

/-! the text's defs -/
abbrev PW : Program := PySem.Challenge.pw_nn0019_01
noncomputable def rcOf : Stmt → Option DefRec
  | .FunctionDef name args body _ _ _ scope _ _ pos => some ⟨name, args, body, scope, pos⟩
  | _ => none
noncomputable def recsL : List DefRec := PW.main.body.filterMap rcOf
theorem recs_eq : recsOf PW = recsL := by rfl
noncomputable def rc0 : DefRec := ⟨"", ⟨[], [], none, [], [], none, []⟩, [], ⟨.function, [], false, false, []⟩, ⟨0, 0, 0, 0⟩⟩
noncomputable def rc (k : Nat) : DefRec := recsL.getD k rc0
theorem recs_len : recsL.length = 31 := by decide +kernel

structure Amb (B : Base) : Prop where
  hr : recsOf B.p = recsOf PW
  len : B.mg "len" = .none
  range : B.mg "range" = .none
  min : B.mg "min" = .none
  max : B.mg "max" = .none
  abs : B.mg "abs" = .none
  enum : B.mg "enumerate" = .none

theorem Amb.mem {B : Base} (a : Amb B) (k : Nat) (h : k < 31) : rc k ∈ recsOf B.p := by
  rw [a.hr, recs_eq]
  unfold rc
  rw [List.getD_eq_getElem?_getD, List.getElem?_eq_getElem (by rw [recs_len]; exact h)]
  exact List.getElem_mem _
theorem Amb.fn {B : Base} (a : Amb B) (k : Nat) (h : k < 31) {f : Str} (e : (rc k).name = f) : Fun B f := ⟨_, a.mem k h, e⟩
theorem Amb.mg {B : Base} (a : Amb B) (k : Nat) (h : k < 31) {f : Str} (e : (rc k).name = f) : ∃ fa, B.mg f = some (.ref fa) := by
  obtain ⟨fa, o, pm, code, doc, h1, _⟩ := B.T.fn _ (a.mem k h)
  exact ⟨fa, e ▸ h1⟩

theorem ar1 {P : List Value → Prop} (h : ∀ a, P [a]) (vs : List Value) (e : vs.length = 1) : P vs := by
  cases vs with
  | nil => cases e
  | cons a r =>
    cases r with
    | nil => exact h a
    | cons _ _ => cases e
theorem ar2 {P : List Value → Prop} (h : ∀ a0 a1, P [a0, a1]) (vs : List Value) (e : vs.length = 2) : P vs := by
  cases vs with
  | nil => cases e
  | cons a r => exact ar1 (P := fun l => P (a :: l)) (fun a0 => h a a0) r (Nat.succ.inj e)
theorem ar3 {P : List Value → Prop} (h : ∀ a0 a1 a2, P [a0, a1, a2]) (vs : List Value) (e : vs.length = 3) : P vs := by
  cases vs with
  | nil => cases e
  | cons a r => exact ar2 (P := fun l => P (a :: l)) (fun a0 a1 => h a a0 a1) r (Nat.succ.inj e)
theorem ar4 {P : List Value → Prop} (h : ∀ a0 a1 a2 a3, P [a0, a1, a2, a3]) (vs : List Value) (e : vs.length = 4) : P vs := by
  cases vs with
  | nil => cases e
  | cons a r => exact ar3 (P := fun l => P (a :: l)) (fun a0 a1 a2 => h a a0 a1 a2) r (Nat.succ.inj e)
theorem ar5 {P : List Value → Prop} (h : ∀ a0 a1 a2 a3 a4, P [a0, a1, a2, a3, a4]) (vs : List Value) (e : vs.length = 5) : P vs := by
  cases vs with
  | nil => cases e
  | cons a r => exact ar4 (P := fun l => P (a :: l)) (fun a0 a1 a2 a3 => h a a0 a1 a2 a3) r (Nat.succ.inj e)
theorem ar6 {P : List Value → Prop} (h : ∀ a0 a1 a2 a3 a4 a5, P [a0, a1, a2, a3, a4, a5]) (vs : List Value) (e : vs.length = 6) : P vs := by
  cases vs with
  | nil => cases e
  | cons a r => exact ar5 (P := fun l => P (a :: l)) (fun a0 a1 a2 a3 a4 => h a a0 a1 a2 a3 a4) r (Nat.succ.inj e)
noncomputable def locB (sc : Scope) (x : Str) (i : Nat) : Bool := decide (sc.names[i]? = some (x, .local)) && decide (sc.names.lookup x = some .local) && !(x == ("__debug__" : Str))
noncomputable def glbB (sc : Scope) (x : Str) : Bool := decide (sc.names.lookup x = some .globalImplicit) && !(x == ("__debug__" : Str))
section
variable {B : Base} {dr : DefRec} {ns : List Str}
theorem Rec.lc (r : Rec B dr ns) {x : Str} {i : Nat} (h : locB dr.scope x i = true) : Loc r.cx x i := by
  unfold locB at h
  simp only [Bool.and_eq_true, decide_eq_true_eq, Bool.not_eq_true'] at h
  exact ⟨⟨_, h.1.1⟩, h.1.2, h.2⟩
theorem Rec.gl (r : Rec B dr ns) {x : Str} (h : glbB dr.scope x = true) : Glb r.cx x := by
  unfold glbB at h
  simp only [Bool.and_eq_true, decide_eq_true_eq, Bool.not_eq_true'] at h
  exact ⟨h.1, h.2⟩
theorem Rec.bl (r : Rec B dr ns) {x : Str} {v : Value} (h : glbB dr.scope x = true) (hm : B.mg x = .none) (hn : x ≠ "__name__") (hv : bootBuiltins x = some v) : Blt r.cx x v := ⟨r.gl h, hm, (B.T.builtins x hn).trans hv⟩
noncomputable def recB (dr : DefRec) (ns : List Str) : Bool :=
  ns.all (fun x => decide (dr.scope.names.lookup x = some .local)) && decide ((dr.scope.names.map (·.1)).take ns.length = ns) && decide ((dr.scope.names.map (·.1)).Nodup) && decide (dr.scope.kind = .function) && !dr.scope.isCoroutine && !dr.scope.isGenerator
    && dr.scope.names.all (fun x => decide (x.2 ≠ .cell))
theorem Rec.of (hm : dr ∈ recsOf B.p) (h : recB dr ns = true) (hb : ∀ (pm cd doc : Value) (vs : List Value), vs.length = ns.length → bindArgs (docDef dr.name dr.params dr.body dr.scope pm cd doc) { pos := vs } = pure (ns.zip vs)) : Rec B dr ns := by
  unfold recB at h
  simp only [Bool.and_eq_true, decide_eq_true_eq, Bool.not_eq_true', List.all_eq_true] at h
  obtain ⟨⟨⟨⟨⟨⟨h1, h2⟩, h3⟩, h4⟩, h5⟩, h6⟩, h7⟩ := h
  refine ⟨hm, hb, h1, fun i hi => ?_, h3, h4, h5, h6, h7⟩
  conv => rhs; rw [← h2]
  rw [List.getElem?_take, if_pos hi]
end

section
variable {C : Cx} {d : Nat} {st : St}
theorem pt_none : Pt C d st .none .none := trivial
theorem pt_some {e : Expr} {i : Int} (h : Ev C d st e (.int i)) : Pt C d st (some e) (some i) := h
theorem Ev.disp0 {p : Pos} : Ev C d st (.List [] p) (.list []) := Ev.disp (xs := []) Evs.nil
theorem Ev.disp1 {e : Expr} {p : Pos} {x : Int} (h : Ev C d st e (.int x)) (he : ∀ env, starEach [e] env = [(false, eval e env)]) : Ev C d st (.List [e] p) (.list [x]) := Ev.disp (xs := [x]) (Evs.cons h Evs.nil he) (by simp [LIM])
theorem Ex.start {s : Stmt} {ss rest : List Stmt} {N : St → Prop} {R : LV → Prop} (e : ss = s :: rest) (h : Ex C d st (s :: rest) N R) : Ex C d st ss N R := e ▸ h
end

/-! JL8 -/
section
variable {C : Cx} {d : Nat} {st : St}

theorem Ev.take {v hi : Expr} {p pos : Pos} {xs : List Int} {x : Int} (hv : Ev C d st v (.list xs)) (hh : Ev C d st hi (.int x)) (h0 : 0 ≤ x) : Ev C d st (.Subscript v (.Slice .none (some hi) .none p) pos) (.list (xs.take x.toNat)) := by
  obtain ⟨n, rfl⟩ := Int.eq_ofNat_of_zero_le h0
  exact (Ev.slice hv pt_none (pt_some hh) pt_none (by decide)).conv (by rw [pick_take, Int.toNat_natCast])
theorem Ev.dropDg {B : Nat} (hB : 2 ≤ B) {v lo : Expr} {p pos : Pos} {N : Nat} {x : Int} (hv : Ev C d st v (.list (dg B N))) (hl : Ev C d st lo (.int x)) (h0 : 0 ≤ x) : Ev C d st (.Subscript v (.Slice (some lo) .none .none p) pos) (.list (dg B (N / B ^ x.toNat))) := by
  obtain ⟨n, rfl⟩ := Int.eq_ofNat_of_zero_le h0
  exact (Ev.slice hv (pt_some hl) pt_none pt_none (by decide)).conv (by rw [pick_drop, Int.toNat_natCast, drop_dg hB])
theorem Ev.cut {v lo hi : Expr} {p pos : Pos} {xs : List Int} {x y : Int} (hv : Ev C d st v (.list xs)) (hl : Ev C d st lo (.int x)) (hh : Ev C d st hi (.int y)) (h0 : 0 ≤ x) (h1 : 0 ≤ y) : Ev C d st (.Subscript v (.Slice (some lo) (some hi) .none p) pos) (.list ((xs.take y.toNat).drop x.toNat)) := by
  obtain ⟨n, rfl⟩ := Int.eq_ofNat_of_zero_le h0
  obtain ⟨m, rfl⟩ := Int.eq_ofNat_of_zero_le h1
  exact (Ev.slice hv (pt_some hl) (pt_some hh) pt_none (by decide)).conv (by rw [pick_cut, Int.toNat_natCast, Int.toNat_natCast])
theorem Ev.copy {v : Expr} {p pos : Pos} {xs : List Int} (hv : Ev C d st v (.list xs)) : Ev C d st (.Subscript v (.Slice .none .none .none p) pos) (.list xs) :=
  (Ev.slice hv pt_none pt_none pt_none (by decide)).conv (by rw [pick_all])
theorem Ev.rev {v k : Expr} {p pos : Pos} {xs : List Int} (hv : Ev C d st v (.list xs)) (hk : Ev C d st k (.int (-1))) : Ev C d st (.Subscript v (.Slice .none .none (some k) p) pos) (.list xs.reverse) :=
  (Ev.slice hv pt_none pt_none (pt_some hk) (by decide)).conv (by rw [pick_rev])

theorem BinTo.shlW {x : Int} {n : Int} (h0 : 0 ≤ n) (h : (Builtin.Int.intBits x : Int) + n ≤ 2 ^ 27) : BinTo .LShift (.int x) (.int n) (.int (x * 2 ^ n.toNat)) := by
  obtain ⟨m, rfl⟩ := Int.eq_ofNat_of_zero_le h0
  have := BinTo.shl (x := x) (n := m) h
  rwa [Int.toNat_natCast]
theorem BinTo.one {n : Nat} (h : n ≤ 1000) : BinTo .LShift (.int 1) (.int n) (.int (2 ^ n)) := by
  have h1 : Builtin.Int.intBits 1 = 1 := by decide +kernel
  have := BinTo.shl (x := 1) (n := n) (by rw [h1]; (first | lia | omega))
  rwa [Int.one_mul] at this
theorem and_mask (x : Int) (n : Nat) : Builtin.bitAnd x (2 ^ n - 1) = x % 2 ^ n := by
  have hp : (0 : Int) < 2 ^ n := Int.pow_pos (by decide)
  have hc : ((2 ^ n : Nat) : Int) = 2 ^ n := by simp
  have ht : ((2 : Int) ^ n - 1).toNat = 2 ^ n - 1 := by (first | lia | omega)
  by_cases hx : 0 ≤ x
  · obtain ⟨m, rfl⟩ := Int.eq_ofNat_of_zero_le hx
    rw [bitAnd_pp hx (by (first | lia | omega)), ht, Int.toNat_natCast, Nat.and_two_pow_sub_one_eq_mod, Int.natCast_emod, hc]
  · obtain ⟨m, hm⟩ := Int.eq_ofNat_of_zero_le (show (0 : Int) ≤ -x - 1 by (first | lia | omega))
    have hb : (Builtin.bitNot x).toNat = m := by unfold Builtin.bitNot; (first | lia | omega)
    have e := Nat.mod_add_div m (2 ^ n)
    have hl := Nat.mod_lt m (show 0 < 2 ^ n from Nat.pow_pos (by decide))
    have ex : x = ((2 ^ n - 1 - m % 2 ^ n : Nat) : Int) + (2 ^ n : Int) * (-((m / 2 ^ n : Nat) : Int) - 1) := by
      have e2 : (m : Int) = ((m % 2 ^ n : Nat) : Int) + 2 ^ n * ((m / 2 ^ n : Nat) : Int) := by rw [← hc, ← Int.natCast_mul, ← Int.natCast_add, e]
      rw [Int.mul_sub, Int.mul_neg, Int.mul_one]
      (first | lia | omega)
    rw [bitAnd_np hx (by (first | lia | omega)), ht, hb, Nat.and_comm, Nat.and_two_pow_sub_one_eq_mod]
    conv => rhs; rw [ex, Int.add_mul_emod_self_left]
    rw [Int.emod_eq_of_lt (by (first | lia | omega)) (by (first | lia | omega))]
    (first | lia | omega)
theorem BinTo.mask {x : Int} {n : Nat} : BinTo .BitAnd (.int x) (.int (2 ^ n - 1)) (.int (x % 2 ^ n)) := by
  have := BinTo.band (x := x) (y := 2 ^ n - 1)
  rwa [and_mask] at this
theorem IntMulOk.small {x y : Int} (h : x.natAbs < 2 ^ 64) : IntMulOk x y := IntMulOk.of_left ((PySem.intBits_le_iff).mpr h)
theorem IntMulOk.bits {x y : Int} (h : x.natAbs < 2 ^ 1000) (h' : y.natAbs < 2 ^ 1000) : IntMulOk x y := IntMulOk.of_le (PySem.intBits_le_iff.mpr h) (PySem.intBits_le_iff.mpr h') (by decide)

theorem CallTo.mono {B : Base} {d d' : Nat} {f : Str} {args : List LV} {lv : LV} (h : CallTo B d f args lv) (hd : d ≤ d') : CallTo B d' f args lv :=
  ⟨fun A E s fa vs Q R => h.run A E s fa vs Q ⟨R.h, by have := R.dep; (first | lia | omega), by have := R.un; (first | lia | omega)⟩⟩
theorem CallTo.conv {B : Base} {d : Nat} {f : Str} {args : List LV} {lv lv' : LV} (h : CallTo B d f args lv) (e : lv = lv') : CallTo B d f args lv' := e ▸ h

variable {rest : List Stmt} {N : St → Prop} {R : LV → Prop}

/-- for x in range(e) -/
theorem Ex.forR1 {P : Type} {x rg : Str} {px pr pc pos : Pos} {e : Expr} {b : List Stmt} {i n : Nat} (S : P → St) (J : Nat → P → Prop) (p0 : P) (l : Loc C x i) (hf : Blt C rg (.type "range")) (h : Ev C d st e (.int n)) (hn : n ≤ LIM) (h0 : J 0 p0) (hs0 : Le (S p0) st)
    (hok : ∀ (k : Nat) p, stoOk (S p) i (.int k) = true)
    (step : ∀ (k : Nat) p, k < n → J k p → Ex C d ((S p).put i (.int k)) b (fun st' => ∃ p', J (k + 1) p' ∧ Le (S p') st') R)
    (hrest : ∀ p, J n p → Ex C d (S p) rest N R)
    (he : ∀ env, starEach [e] env = [(false, eval e env)] := by intro _; rfl) : Ex C d st (.For (.Name x px) (.Call (.Name rg pr) [e] [] pc) b [] pos :: rest) N R := by
  refine Ex.forG S J p0 ((List.range n).map fun (k : Nat) => LV.int k) l (IterTo.range1 hf h hn he) h0 hs0 (fun k p hk => ?_) (fun k p hk hJ => ?_) (fun p hJ => ?_)
  · rw [List.getElem_map, List.getElem_range]; exact hok k p
  · rw [List.getElem_map, List.getElem_range]
    exact step k p (by simpa using hk) hJ
  · exact hrest p (by simpa using hJ)
/-- for x in range(e, e') -/
theorem Ex.forR2 {P : Type} {x rg : Str} {px pr pc pos : Pos} {e e' : Expr} {b : List Stmt} {i : Nat} {lo hi : Nat} (S : P → St) (J : Nat → P → Prop) (p0 : P) (l : Loc C x i) (hf : Blt C rg (.type "range")) (h : Ev C d st e (.int lo)) (h' : Ev C d st e' (.int hi)) (hlo : lo ≤ LIM) (hhi : hi ≤ LIM) (h0 : J 0 p0) (hs0 : Le (S p0) st)
    (hok : ∀ (k : Nat) p, stoOk (S p) i (.int k) = true)
    (step : ∀ (k : Nat) p, lo + k < hi → J k p → Ex C d ((S p).put i (.int ((lo + k : Nat) : Int))) b (fun st' => ∃ p', J (k + 1) p' ∧ Le (S p') st') R)
    (hrest : ∀ p, J (hi - lo) p → Ex C d (S p) rest N R)
    (he : ∀ env, starEach [e, e'] env = [(false, eval e env), (false, eval e' env)] := by intro _; rfl)
    (he' : ∀ env, starEach [e'] env = [(false, eval e' env)] := by intro _; rfl) : Ex C d st (.For (.Name x px) (.Call (.Name rg pr) [e, e'] [] pc) b [] pos :: rest) N R := by
  have hn : (((hi : Int) - (lo : Int)).toNat) = hi - lo := by (first | lia | omega)
  refine Ex.forG S J p0 ((List.range (hi - lo)).map fun (k : Nat) => LV.int ((lo : Int) + (k : Int))) l ?_ h0 hs0 (fun k p hk => ?_) (fun k p hk hJ => ?_) (fun p hJ => ?_)
  · rw [← hn]
    exact IterTo.range2 hf h h' (by (first | lia | omega)) (by (first | lia | omega)) (by (first | lia | omega)) (by (first | lia | omega)) he he'
  · rw [List.getElem_map, List.getElem_range]; exact hok (lo + k) p
  · rw [List.getElem_map, List.getElem_range]
    exact step k p (by simp at hk; (first | lia | omega)) hJ
  · exact hrest p (by simpa using hJ)
/-- for x in y, y a list of the frame's -/
theorem Ex.forVar {P : Type} {x y : Str} {px py pos : Pos} {b : List Stmt} {i j : Nat} {xs : List Int} (S : P → St) (J : Nat → P → Prop) (p0 : P) (l : Loc C x i) (ly : Loc C y j) (hy : st.σ[j]? = some (some (.list xs))) (h0 : J 0 p0) (hs0 : Le (S p0) st)
    (hok : ∀ (z : Int) p, stoOk (S p) i (.int z) = true)
    (step : ∀ (k : Nat) p, k < xs.length → J k p → Ex C d ((S p).put i (.int (xs.getD k 0))) b (fun st' => ∃ p', J (k + 1) p' ∧ Le (S p') st') R)
    (hrest : ∀ p, J xs.length p → Ex C d (S p) rest N R) : Ex C d st (.For (.Name x px) (.Name y py) b [] pos :: rest) N R := by
  refine Ex.forG S J p0 (xs.map LV.int) l (IterTo.var ly hy) h0 hs0 (fun k p hk => ?_) (fun k p hk hJ => ?_) (fun p hJ => ?_)
  · rw [List.getElem_map]; exact hok _ p
  · rw [List.length_map] at hk
    have := step k p hk hJ
    rw [List.getElem_map]
    rwa [List.getD_eq_getElem?_getD, List.getElem?_eq_getElem hk] at this
  · exact hrest p (by simpa using hJ)
/-- for x in (written ints | a list's expression) -/
theorem Ex.forIt {P : Type} {x : Str} {px pos : Pos} {it : Expr} {b : List Stmt} {i : Nat} {xs : List Int} (S : P → St) (J : Nat → P → Prop) (p0 : P) (l : Loc C x i) (hit : IterTo C d st it (xs.map LV.int)) (h0 : J 0 p0) (hs0 : Le (S p0) st)
    (hok : ∀ (z : Int) p, stoOk (S p) i (.int z) = true)
    (step : ∀ (k : Nat) p, k < xs.length → J k p → Ex C d ((S p).put i (.int (xs.getD k 0))) b (fun st' => ∃ p', J (k + 1) p' ∧ Le (S p') st') R)
    (hrest : ∀ p, J xs.length p → Ex C d (S p) rest N R) (hfs : ∀ env x, foldedSetIterable it env x = pure x := by intro _ _; rfl) : Ex C d st (.For (.Name x px) it b [] pos :: rest) N R := by
  refine Ex.forG S J p0 (xs.map LV.int) l hit h0 hs0 (fun k p hk => ?_) (fun k p hk hJ => ?_) (fun p hJ => ?_) hfs
  · rw [List.getElem_map]; exact hok _ p
  · rw [List.length_map] at hk
    have := step k p hk hJ
    rw [List.getElem_map]
    rwa [List.getD_eq_getElem?_getD, List.getElem?_eq_getElem hk] at this
  · exact hrest p (by simpa using hJ)
theorem Le.up {t s u : St} (h : Le t s) (h' : Le s u) : Le t u := ⟨h.1.trans h'.1, fun i lv e => h'.2 i lv (h.2 i lv e)⟩
theorem Ev.neg {e : Expr} {pos : Pos} {x : Int} (h : Ev C d st e (.int x)) : Ev C d st (.UnaryOp .USub e pos) (.int (-x)) := by
  refine ⟨?_⟩
  intro A E L a cd oa s Q Rm I q
  refine wpAny_UnaryOp (h.run A E L a cd oa s _ Rm I fun v s1 g r => ?_)
  obtain ⟨t, rfl⟩ := r
  exact PyProof.Rows.neg_int (q _ _ (g.trans Gr.tk) ⟨_, rfl⟩)
theorem Ev.notB {e : Expr} {pos : Pos} {b : Bool} (h : Ev C d st e (.bool b)) : Ev C d st (.UnaryOp .Not e pos) (.bool (!b)) := by
  refine ⟨?_⟩
  intro A E L a cd oa s Q Rm I q
  refine wpAny_UnaryOp (h.run A E L a cd oa s _ Rm I fun v s1 g r => ?_)
  cases r
  exact not_of (wpAny_truthy_bool (q _ _ g rfl))
theorem Ex.iteK {t : Expr} {b o : List Stmt} {pos : Pos} {c : Bool} (K : St → Prop) (ht : Tr C d st t c) (h1 : c = true → Ex C d st b K R) (h2 : c = false → Ex C d st o K R) (hK : ∀ st', K st' → Ex C d st' rest N R) : Ex C d st (.If t b o pos :: rest) N R :=
  Ex.ite ht (fun h => (h1 h).mono hK fun _ x => x) (fun h => (h2 h).mono hK fun _ x => x)
theorem Ev.ifeI {t b o : Expr} {pos : Pos} {c : Bool} {x y : Int} (ht : Tr C d st t c) (h1 : c = true → Ev C d st b (.int x)) (h2 : c = false → Ev C d st o (.int y)) : Ev C d st (.IfExp t b o pos) (.int (if c = true then x else y)) :=
  Ev.ife ht (fun h => by rw [if_pos h]; exact h1 h) (fun h => by rw [if_neg (by rw [h]; decide)]; exact h2 h)
end

/-! JL9 -/
section
variable {C : Cx} {d : Nat} {st : St} {rest : List Stmt} {N : St → Prop} {R : LV → Prop}
theorem Rep.scal {mg : Str → Option Value} {h h' : Heap} {v : Value} {lv : LV} (r : Rep mg h v lv) (sc : lv.scalar = true) : Rep mg h' v lv := by
  cases lv with
  | none => exact r
  | bool b => exact r
  | int i => exact r
  | fn x => exact r
  | raw x => exact r
  | list xs => cases sc
  | pair a b => cases sc

theorem Ex.tup2S {x1 x2 : Str} {p1 p2 pt pv pos : Pos} {k k' : Nat} {e1 e2 : Expr} {i1 i2 : Nat} {l1 l2 : LV} (L1 : Loc C x1 i1) (L2 : Loc C x2 i2) (h1 : Ev C d st e1 l1) (h2 : Ev C d st e2 l2) (sc : l1.scalar = true) (ok2 : stoOk st i2 l2 = true) (ok1 : stoOk (st.put i2 l2) i1 l1 = true)
    (hrest : Ex C d ((st.put i2 l2).put i1 l1) rest N R)
    (hs : ∀ env, swapsWithSole [.Tuple [.Name x1 p1, .Name x2 p2] k pt] (.Tuple [e1, e2] k' pv) pos.line env = pure false := by intro _; rfl)
    (hw : ∀ L a cd, swappedStores [.Tuple [.Name x1 p1, .Name x2 p2] k pt] (.Tuple [e1, e2] k' pv) (envOf C.cn C.cs L a cd) = pure (some [x1, x2]) := by intro _ _ _; rfl)
    (he : ∀ env, starEach [e1, e2] env = [(false, eval e1 env), (false, eval e2 env)] := by intro _; rfl) :
    Ex C d st (.Assign [.Tuple [.Name x1 p1, .Name x2 p2] k pt] (.Tuple [e1, e2] k' pv) pos :: rest) N R := by
  refine ⟨?_⟩
  intro A E L a cd oa s Q Rm I qn qr
  refine wpAny_execs_cons (Assign_Tuple_swapped (wpAny_Tuple ?_) (hs _) (hw _ _ _))
  rw [he]
  refine Calls.spliced_cons (h1.run A E L a cd oa s _ Rm I fun v1 s1 g1 r1 => Calls.spliced_cons (h2.run A E L a cd oa s1 _ Rm (I.mono g1) fun v2 s2 g2 r2 => Calls.spliced_nil ?_))
  refine ⟨by rw [sizeLine_eq]; simp, ?_⟩
  have g3 : Gr s2 { s2 with heap := s2.heap.push { cls := .type "tuple", data := .seq #[v1, v2] } } := Gr.push _
  refine wpAny_unpackItems_tuple (items := #[v1, v2]) Rm.h ⟨_, Heap.get?_push_size _ rfl, rfl, 0, rfl⟩ fun h' eh => ?_
  have g4 : Gr { s2 with heap := s2.heap.push { cls := .type "tuple", data := .seq #[v1, v2] } } { s2 with heap := h' } := ⟨rfl, rfl, rfl, fun c o e => eh c o (fun x => by subst x; exact absurd (Heap.lt_size e) (Nat.lt_irrefl _)) e⟩
  have I4 := (((I.mono g1).mono g2).mono g3).mono g4
  refine wpAny_assignInOrder_more (wpAny_bindName (store_low I4 L2 ((r2.mono g3.keep).mono g4.keep) ok2 fun s5 I5 k5 => ?_))
  refine wpAny_assignInOrder_more (wpAny_bindName (store_low I5 L1 (r1.scal sc) ok1 fun s6 I6 k6 => wpAny_assignInOrder_none ?_))
  exact hrest.go Rm I6 (((((g1.trans g2).trans g3).trans g4).kp.trans k5).trans k6) qn qr
end

/-! JL10 -/
section
variable {C : Cx} {d : Nat} {st : St} {rest : List Stmt} {N : St → Prop} {R : LV → Prop}

theorem Inv.but2 {L e it : Addr} {oa : Option Addr} {s s' : Shared} (I : Inv C L oa st s) (k : ∀ b o, b ≠ e → b ≠ it → s.heap.get? b = some o → s'.heap.get? b = some o) (hf : ∃ o vs, s.heap.get? it = some o ∧ o.data = .fields vs) (hf2 : ∃ o vs, s.heap.get? e = some o ∧ o.data = .fields vs) (h0 : C.h0.get? it = .none) (h02 : C.h0.get? e = .none) : Inv C L oa st s' := by
  obtain ⟨m, F, V⟩ := I.ex
  obtain ⟨of, vs, ef, df⟩ := hf
  obtain ⟨of2, vs2, ef2, df2⟩ := hf2
  have ks : ∀ b o, IsSeq o → s.heap.get? b = some o → s'.heap.get? b = some o := fun b o q x => k b o
    (fun y => by
      subst y
      rw [ef2] at x
      cases x
      obtain ⟨xs, n, dd⟩ := q
      rw [df2] at dd
      cases dd)
    (fun y => by
      subst y
      rw [ef] at x
      cases x
      obtain ⟨xs, n, dd⟩ := q
      rw [df] at dd
      cases dd) x
  refine ⟨⟨m, ⟨?_, fun b o x => k b o (fun y => by subst y; rw [h02] at x; cases x) (fun y => by subst y; rw [h0] at x; cases x) (F.keep b o x), F.above⟩, ⟨fun i lv x => ?_, fun i xs x => ?_, V.none⟩⟩, I.ab⟩
  · obtain ⟨o, es, ep, x, dd, r⟩ := F.ns
    exact ⟨o, es, ep, k _ _ (fun y => by subst y; rw [ef2] at x; cases x; rw [df2] at dd; cases dd) (fun y => by subst y; rw [ef] at x; cases x; rw [df] at dd; cases dd) x, dd, r⟩
  · obtain ⟨xk, v, hx, hm, off⟩ := V.var i lv x
    exact ⟨xk, v, hx, hm, off.keep fun b o _ _ q x => ks b o q x⟩
  · obtain ⟨b, xk, e1, hx, hm, p⟩ := V.own i xs x
    exact ⟨b, xk, e1, hx, hm, p.keepS (ks b)⟩

theorem Ex.forEnum {P : Type} {x1 x2 y en : Str} {p1 p2 pt pe py pc pos : Pos} {kk : Nat} {b : List Stmt} {i1 i2 j : Nat} {xs : List Int} (S : P → St) (J : Nat → P → Prop) (p0 : P) (L1 : Loc C x1 i1) (L2 : Loc C x2 i2) (ly : Loc C y j) (hf : Blt C en (.type "enumerate"))
    (hy : st.σ[j]? = some (some (.list xs))) (ho : st.own = .none) (hoS : ∀ p, (S p).own = .none) (h0 : J 0 p0) (hs0 : Le (S p0) st)
    (step : ∀ (k : Nat) p, k < xs.length → J k p → Ex C d (((S p).put i1 (.int k)).put i2 (.int (xs.getD k 0))) b (fun st' => ∃ p', J (k + 1) p' ∧ Le (S p') st') R)
    (hrest : ∀ p, J xs.length p → Ex C d (S p) rest N R)
    (he : ∀ env, starEach [.Name y py] env = [(false, eval (.Name y py) env)] := by intro _; rfl)
    (hfs : ∀ env x, foldedSetIterable (.Call (.Name en pe) [.Name y py] [] pc) env x = pure x := by intro _ _; rfl) :
    Ex C d st (.For (.Tuple [.Name x1 p1, .Name x2 p2] kk pt) (.Call (.Name en pe) [.Name y py] [] pc) b [] pos :: rest) N R := by
  refine ⟨?_⟩
  intro A E L a cd oa s Q Rm I qn qr
  obtain ⟨m, F, V⟩ := id I.ex
  have hoa : oa = .none := V.none ho
  subst hoa
  refine wpAny_execs_cons (wpAny_For (typeCall hf (Evs.cons (Ev.var ly hy) Evs.nil he) Rm I (fun vs s1 g r => ?_) he (fun env => by rw [he]; rfl)) (hfs _))
  obtain ⟨_, rfl, l, rfl, p⟩ := reps1 r
  · have off0 : Off C.mg s1.heap L .none (.ref l) (.list xs) := Off.of (F.ns.keeps g.keep) ⟨l, rfl, p⟩ (.inl rfl)
    obtain ⟨vs, n, el, ii, len⟩ := id p
    have hll : l < s1.heap.objs.size := Heap.lt_size el
    refine call_enumerate_list (items := vs) ⟨_, el, rfl, n, rfl⟩ fun h' hE hI hsz hk => ?_
    have g1 : Gr s1 { s1 with heap := h' } := Gr.of hk
    generalize hee : s1.heap.objs.size + 1 = en' at *
    generalize hit : s1.heap.objs.size = it at *
    have hei : en' ≠ it := by rw [← hee]; exact Nat.succ_ne_self _
    have hle1 : s1.heap.objs.size ≤ en' := by rw [hit, ← hee]; exact Nat.le_succ _
    have hle2 : s1.heap.objs.size ≤ it := by rw [hit]; exact Nat.le_refl _
    have hI1 := (I.mono g).mono g1
    have fre : s.heap.get? en' = .none := by
      cases x : s.heap.get? en' with
      | none => rfl
      | some o => exact absurd (Heap.lt_size (g.keep _ _ x)) (Nat.not_lt.mpr hle1)
    have fri : s.heap.get? it = .none := by
      cases x : s.heap.get? it with
      | none => rfl
      | some o => exact absurd (Heap.lt_size (g.keep _ _ x)) (Nat.not_lt.mpr hle2)
    have h0e : C.h0.get? en' = .none := by
      cases x : C.h0.get? en' with
      | none => rfl
      | some o => have := I.base _ _ x; rw [fre] at this; cases this
    have h0i : C.h0.get? it = .none := by
      cases x : C.h0.get? it with
      | none => rfl
      | some o => have := I.base _ _ x; rw [fri] at this; cases this
    obtain ⟨oL, _, _, eL, _⟩ := F.ns
    have neL : en' ≠ L := fun x => by subst x; rw [fre] at eL; cases eL
    have niL : it ≠ L := fun x => by subst x; rw [fri] at eL; cases eL
    refine wpAny_pyIter_enum hE ?_
    refine codeAny_forLoop_any (fun n s' => ∃ k p old, k ≤ xs.length ∧ n = xs.length - k ∧ J k p ∧ Inv C L .none (S p) s' ∧ IsEnum s'.heap en' it ((k : Nat) : Int) old ∧ s'.heap.IsListIter it l k ∧ Off C.mg s'.heap L .none (.ref l) (.list xs) ∧ Kp L .none s s') ?_ (xs.length)
      ⟨0, p0, .none, Nat.zero_le _, rfl, h0, hs0.inv hI1, hE, hI, off0.keep fun b o _ _ _ x => hk b o x, (g.trans g1).kp⟩
    rintro n s2 ⟨k, p, old, hkl, rfl, hJ, I2, hE2, hI2, off2, k2⟩
    obtain ⟨l', e', vs2, n2, el2, ii2, len2⟩ := off2.rep
    cases e'
    have hlen2 := ii2.length
    simp only [Array.length_toList] at hlen2
    have fE : ∃ o vs, s2.heap.get? en' = some o ∧ o.data = .fields vs := ⟨_, _, hE2, rfl⟩
    have fI : ∃ o vs, s2.heap.get? it = some o ∧ o.data = .fields vs := by obtain ⟨o, x, _, dd⟩ := hI2; exact ⟨o, _, x, dd⟩
    have kp2 : ∀ s3 : Shared, s3.gens = s2.gens → s3.drawn = s2.drawn → s3.os = s2.os → (∀ b o, b ≠ en' → b ≠ it → s2.heap.get? b = some o → s3.heap.get? b = some o) → Kp L .none s s3 := fun s3 e1 e2 e3 kx =>
      ⟨e1.trans k2.gens, e2.trans k2.drawn, e3.trans k2.os, fun b o n1 n2 x => kx b o (fun y => by subst y; rw [fre] at x; cases x) (fun y => by subst y; rw [fri] at x; cases x) (k2.keep b o n1 n2 x)⟩
    have offk : ∀ h3 : Heap, (∀ b o, b ≠ en' → b ≠ it → s2.heap.get? b = some o → h3.get? b = some o) → Off C.mg h3 L .none (.ref l) (.list xs) := fun h3 kx => off2.keep fun b o _ _ q x => kx b o
      (fun y => by
        subst y
        rw [hE2] at x
        cases x
        obtain ⟨_, _, dd⟩ := q
        cases dd)
      (fun y => by
        subst y
        obtain ⟨o', x', dd'⟩ := fI
        obtain ⟨x', dd'⟩ := dd'
        rw [x'] at x
        cases x
        obtain ⟨_, _, dd⟩ := q
        rw [dd'] at dd
        cases dd) x
    by_cases hlt : k < xs.length
    · obtain ⟨t, ht⟩ := IntsAre.getD ii2 k hlt
      have heH : en' < s2.heap.objs.size := Heap.lt_size hE2
      refine wpAny_pyNext_enum_item hE2 hI2 ⟨_, el2, rfl, n2, rfl⟩ (by simpa using ht) hei fun h3 hO3 hI3 hT3 hz3 kx => ?_
      refine wpAny_letOwnedTupleGo_enum hO3 fun h4 hE4 hs4 => ?_
      have hs4' : Heap.SameBut en' h3 h4 := hs4
      have kx4 : ∀ b o, b ≠ en' → b ≠ it → s2.heap.get? b = some o → h4.get? b = some o := fun b o y1 y2 x => (hs4'.2 b y1).trans (kx b o y1 y2 x)
      have hT4 : h4.IsTuple s2.heap.objs.size #[.int (k : Nat) s2.toks, .int (xs.getD k 0) t] := ⟨_, (hs4'.2 _ (Nat.ne_of_gt heH)).trans hT3, rfl, _, rfl⟩
      refine wpAny_assign_Tuple Rm.h hT4 rfl rfl fun h5 hx5 => ?_
      have kx5 : ∀ b o, h4.get? b = some o → h5.get? b = some o := fun b o x => hx5 b o (fun y => by subst y; exact absurd (Heap.lt_size x) (Nat.lt_irrefl _)) x
      have I5 : Inv C L .none (S p) { s2 with heap := h5, toks := s2.toks + 1 } := I2.but2 (fun b o y1 y2 x => kx5 b o (kx4 b o y1 y2 x)) fI fE h0i h0e
      have kp5 := kp2 { s2 with heap := h5, toks := s2.toks + 1 } rfl rfl rfl (fun b o y1 y2 x => kx5 b o (kx4 b o y1 y2 x))
      have ok : ∀ (st' : St) i lv, st'.own = .none → stoOk st' i lv = true := fun st' i lv h => by unfold stoOk; rw [h]
      refine wpAny_assignInOrder_more (wpAny_assign_Name (store_low I5 L1 (lv := .int (k : Nat)) ⟨_, rfl⟩ (ok _ _ _ (hoS p)) fun s6 I6 k6 => ?_))
      refine wpAny_assignInOrder_more (wpAny_assign_Name (store_low I6 L2 (lv := .int (xs.getD k 0)) ⟨_, rfl⟩ (ok _ _ _ (hoS p)) fun s7 I7 k7 => wpAny_assignInOrder_none ?_))
      refine (step k p hlt hJ).run A _ L a cd .none s7 _ Rm I7 ?_ ?_
      · rintro st' s8 ⟨p', hJ', le⟩ I8 k8
        have up : ∀ b o, b ≠ L → h5.get? b = some o → s8.heap.get? b = some o := fun b o y x => k8.keep b o y (by simp) (k7.keep b o y (by simp) (k6.keep b o y (by simp) x))
        refine ⟨xs.length - (k + 1), by (first | lia | omega), k + 1, p', .int (xs.getD k 0) t, hlt, rfl, hJ', le.inv I8, ?_, ?_, ?_, ((kp5.trans k6).trans k7).trans k8⟩
        · have e3 : ((k + 1 : Nat) : Int) = (k : Int) + 1 := by (first | lia | omega)
          rw [e3]
          exact up _ _ neL (kx5 _ _ hE4)
        · obtain ⟨o3, x3, r3⟩ := hI3
          exact ⟨o3, up _ _ niL (kx5 _ _ ((hs4'.2 it (Ne.symm hei)).trans x3)), r3⟩
        · exact (offk h5 fun b o y1 y2 x => kx5 b o (kx4 b o y1 y2 x)).keep fun b o y _ _ x => up b o y x
      · intro v lv s8 h r k8
        exact qr v lv s8 h r (((kp5.trans k6).trans k7).trans k8)
    · have hke : k = xs.length := by (first | lia | omega)
      subst hke
      refine wpAny_pyNext_enum_end Rm.h hE2 hI2 ⟨_, el2, rfl, n2, rfl⟩ (by simp [hlen2]) fun h3 kx => ?_
      refine wpAny_execs_nil ?_
      exact (hrest p hJ).go Rm (I2.but2 (fun b o _ y2 x => kx b o y2 x) fI fE h0i h0e) (kp2 { s2 with heap := h3 } rfl rfl rfl fun b o _ y2 x => kx b o y2 x) qn qr
end

/-! JL11 -/
theorem execs_append (env : Env) (post : List Stmt) : ∀ pre : List Stmt, execs (pre ++ post) env = (do match ← execs pre env with | .next => execs post env | f => pure f)
  | [] => by
    show _ = (pure Flow.next >>= _)
    rw [pure_bind]; rfl
  | s :: r => by
    have ih := execs_append env post r
    rw [List.cons_append, execs_cons, execs_cons, bind_assoc]
    refine congrArg _ (funext fun f => ?_)
    cases f <;> first | exact ih | (rw [pure_bind])
theorem wpAny_execs_append {M : Model} {A : Around} {E : Value → Shared → Prop} {env : Env} {s : Shared} {pre post : List Stmt} {Q : Flow → Shared → Prop}
    (h : wpAny M A (execs pre env) (fun f s1 => match f with | .next => wpAny M A (execs post env) Q E s1 | f => Q f s1) E s) : wpAny M A (execs (pre ++ post) env) Q E s := by
  rw [execs_append]
  refine wpAny_bind (wpAny_mono h (fun f s1 h1 => ?_) fun _ _ x => x)
  cases f <;> first | exact h1 | exact wpAny_pure h1

/-- the frames that an exception flies through -/
noncomputable def frs (l : List Env) : List Addr := l.filterMap (·.frame)
noncomputable def FrOk (h0 h : Heap) (l : List Env) : Prop := ∀ env ∈ l, env.scope.kind ≠ .module ∧ ∃ L o, env.frame = some L ∧ h0.get? L = none ∧ h.get? L = some o ∧ ∀ vs, o.data ≠ .fields vs
theorem funFrames_of {h base : Heap} : ∀ {l : List Env}, (∀ env ∈ l, env.scope.kind ≠ .module ∧ ∃ L o, env.frame = some L ∧ base.get? L = none ∧ h.get? L = some o ∧ ∀ vs, o.data ≠ .fields vs) → h.FunFrames base l
  | [], _ => trivial
  | env :: r, hh => ⟨(hh env (.head _)).1, (hh env (.head _)).2, funFrames_of fun e he => hh e (.tail _ he)⟩
theorem FrOk.hide {h0 h : Heap} {l : List Env} (x : FrOk h0 h l) : h.FunFrames (hideAll h (frs l)) l := funFrames_of fun env he => by
  obtain ⟨k, L, o, hf, _, ho, hd⟩ := x env he
  exact ⟨k, L, o, hf, hideAll_none _ (List.mem_filterMap.mpr ⟨env, he, hf⟩), ho, hd⟩
theorem FrOk.stays {h0 h : Heap} {l : List Env} (x : FrOk h0 h l) (k : ∀ b o, h0.get? b = some o → h.get? b = some o) : h0.StaysIn (hideAll h (frs l)) := fun b o e => hideAll_get _ (k b o e) fun hm => by
  obtain ⟨env, he, hf⟩ := List.mem_filterMap.mp hm
  obtain ⟨_, L, _, hf', hn, _⟩ := x env he
  rw [hf] at hf'
  cases hf'
  rw [hn] at e
  cases e
theorem FrOk.mono {h0 h h' : Heap} {l : List Env} (x : FrOk h0 h l) (k : ∀ b o, h.get? b = some o → h'.get? b = some o) : FrOk h0 h' l := fun env he => by
  obtain ⟨kk, L, o, hf, hn, ho, hd⟩ := x env he
  exact ⟨kk, L, o, hf, hn, k _ _ ho, hd⟩
theorem FrOk.cons {h0 h : Heap} {l : List Env} {C : Cx} {L a : Addr} {cd : Value} {m : Str → Option Value} (x : FrOk h0 h l) (F : Fr h0 L h m) : FrOk h0 h (envOf C.cn C.cs L a cd :: l) := fun env he => by
  rcases List.mem_cons.mp he with rfl | he
  · obtain ⟨o, es, ep, ho, hd, _⟩ := F.ns
    refine ⟨?_, L, o, rfl, ?_, ho, fun vs q => by rw [hd] at q; cases q⟩
    · show C.cs.kind ≠ _
      rw [C.hk]; decide
    · cases q : h0.get? L with
      | none => rfl
      | some o => exact absurd (Nat.lt_of_lt_of_le (Heap.lt_size q) F.above) (Nat.lt_irrefl _)
  · exact x env he

/-- an exception of the text's class x in flight, behind a call that began at g -/
structure Fly (B : Base) (x : Str) (bm : List Value) (nid : String) (l : List Env) (g : Heap) (e : Addr) (h : Heap) : Prop where
  ex : ∃ base C t, Heap.FlyingW base l e (.ref C) (.ref t) h ∧ OwnClsQ x C bm nid B.mg B.h0 ∧ B.h0.StaysIn base ∧ (∀ b o, g.get? b = some o → b ∉ frs l → base.get? b = some o)
  up : g.UpToSlots h

structure Spec1 (B : Base) (x : Str) (bm : List Value) (nid : String) : Prop where
  sp : specOf B.p x = some (nid, bm)
  fb : ∃ K iid, ExcBaseFacts K nid iid bm

section
variable {C : Cx} {d : Nat} {st : St}

theorem raise_low {bm : List Value} {nid : String} {x y : Str} {np cpos pos cp : Pos} {k : Nat} {A : Around} {E : Value → Shared → Prop} {L a : Addr} {cd : Value} {oa : Option Addr} {s g : Shared} {Q : Flow → Shared → Prop} {outer : List Env}
    (S : Spec1 C.toBase x bm nid) (l : Glb C x) (I : Inv C L oa st s) (Rm : A.handled = none) (hfr : A.frames = some (envOf C.cn C.cs L a cd :: outer)) (hO : FrOk C.h0 s.heap outer) (hg : ∀ b o, g.heap.get? b = some o → s.heap.get? b = some o) (hgL : g.heap.get? L = none)
    (q : ∀ e h' tk, Fly C.toBase x bm nid outer g.heap e h' → E (.ref e) { s with heap := h', toks := tk })
    (he : ∀ env, starEach [.Constant (.str y) k cp] env = [(false, eval (.Constant (.str y) k cp) env)] := by intro _; rfl)
    (hplain : ∀ env, (backTo cpos (starEach [] env)).any (·.1) = false := by intro _; rfl) :
    wpAny (model C.prog C.w) A (exec (.Raise (some (.Call (.Name x np) [.Constant (.str y) k cp] [] cpos)) none pos) (envOf C.cn C.cs L a cd)) Q (fun e s' => wpAny (model C.prog C.w) A (leaving (envOf C.cn C.cs L a cd) e) (fun _ s'' => E e s'') (fun e' s'' => E e' s'') s') s := by
  obtain ⟨m, F, V⟩ := I.ex
  obtain ⟨K, iid, FB⟩ := S.fb
  obtain ⟨Cl, O, _⟩ := C.T.ownAt S.sp
  refine Raise_own F C.T.g O.own FB Rm ?_ (he _) (hplain _) C.hk l.look l.nodebug
  refine wpAny_items_cons (wpAny_Constant_str (wpAny_items_nil ?_)) (he _)
  refine ⟨by rw [sizeLine_eq]; simp, F.keep, fun h' e hx => ?_⟩
  have hall : FrOk C.h0 s.heap (envOf C.cn C.cs L a cd :: outer) := hO.cons F
  have hb : ∀ b o, s.heap.get? b = some o → b ∉ frs (envOf C.cn C.cs L a cd :: outer) → (hideAll s.heap (frs (envOf C.cn C.cs L a cd :: outer))).get? b = some o := fun b o e n => hideAll_get _ e n
  refine wpAny_leaves_madeW (base := hideAll s.heap (frs (envOf C.cn C.cs L a cd :: outer))) hfr rfl (fun b o e => of_hideAll _ e) hall.hide hx fun h2 t f1 f2 f3 f4 => ?_
  refine q e h2 _ ⟨⟨_, Cl, t, f1, O, hall.stays F.keep, fun b o e1 n => hb b o (hg b o e1) fun hm => ?_⟩, ?_⟩
  · rcases List.mem_filterMap.mp hm with ⟨env, hm, hf⟩
    rcases List.mem_cons.mp hm with rfl | hm
    · have : b = L := (Option.some.inj hf).symm
      subst this
      rw [hgL] at e1
      cases e1
    · exact n (List.mem_filterMap.mpr ⟨env, hm, hf⟩)
  · exact ((Heap.UpToSlots.of_keeps hg).trans (Heap.UpToSlots.of_keeps hx.keeps)).trans f4

/-- a call by name, whatever comes back -/
theorem callAny {x g : Str} {p pos : Pos} {e : Expr} {es : List Expr} {ls : List LV} {A : Around} {E : Value → Shared → Prop} {L a : Addr} {cd : Value} {oa : Option Addr} {s : Shared} {Q : Value → Shared → Prop} (hf : Ev C d st (.Name x p) (.fn g)) (hfun : Fun C.toBase g) (ha : Evs C d st (e :: es) ls)
    (Rm : Room A d) (I : Inv C L oa st s)
    (q : ∀ fa vs s2, Gr s s2 → C.mg g = some (.ref fa) → Reps C.mg s2.heap vs ls → wpAny (model C.prog C.w) A (call (.ref fa) vs []) Q E s2)
    (he : ∀ env, starEach (e :: es) env = (false, eval e env) :: starEach es env := by intro _; rfl) : wpAny (model C.prog C.w) A (eval (.Call (.Name x p) (e :: es) [] pos) (envOf C.cn C.cs L a cd)) Q E s := by
  refine Call_Name rfl (hf.run A E L a cd oa s _ Rm I fun v s1 g1 r1 => ?_)
  obtain ⟨fa, rfl, hm⟩ := r1
  obtain ⟨dr, hdr, rfl⟩ := hfun
  obtain ⟨fa', o, pm, code, doc, h1, h2, h3, h4⟩ := C.T.fn dr hdr
  rw [h1] at hm
  cases hm
  have key : wpAny (model C.prog C.w) A (spliced (backTo pos (starEach (e :: es) (envOf C.cn C.cs L a cd)))) (fun vs s2 => (s2.heap.get? fa = some o ∧ o.data = _) ∧ wpAny (model C.prog C.w) A (call (.ref fa) ([] ++ vs) []) Q E s2) E s1 :=
    ha.run A E L a cd oa pos s1 _ Rm (I.mono g1) fun vs s2 g2 r2 => ⟨⟨((I.mono g1).mono g2).base _ _ h2, h3⟩, q fa vs s2 (g1.trans g2) h1 r2⟩
  rw [he] at key ⊢
  exact callWith_function (Calls.evalArgs_plain key)
end

/-- a call whose body is walked by hand -/
theorem callBody {B : Base} {dr : DefRec} {ns : List Str} {d : Nat} {args : List LV} (r : Rec B dr ns) (hl : args.length = ns.length) {A : Around} {E : Value → Shared → Prop} {s : Shared} {fa : Addr} {vs : List Value} {Q : Value → Shared → Prop} (Rm : Room A (d + 1))
    (hb : ∀ b o, B.h0.get? b = some o → s.heap.get? b = some o) (hsz : B.h0.objs.size ≤ s.heap.objs.size) (hm : B.mg dr.name = some (.ref fa)) (hr : Reps B.mg s.heap vs args)
    (h : ∀ code h₁ tk, Room (A.deeper (envOf dr.name dr.scope s.heap.objs.size fa code)) d → Gr s { s with heap := h₁, toks := tk } → Inv r.cx s.heap.objs.size .none { σ := args.map some ++ List.replicate (dr.scope.names.length - ns.length) .none } { s with heap := h₁, toks := tk } →
      wpAny (model B.prog B.w) (A.deeper (envOf dr.name dr.scope s.heap.objs.size fa code)) (execs dr.body (envOf dr.name dr.scope s.heap.objs.size fa code)) (fun f s' => Q (match f with | .ret v => v | _ => .none) s')
        (fun e s' => wpAny (model B.prog B.w) (A.deeper (envOf dr.name dr.scope s.heap.objs.size fa code)) (leaving (envOf dr.name dr.scope s.heap.objs.size fa code) e) (fun _ s'' => E e s'') (fun e' s'' => E e' s'') s') { s with heap := h₁, toks := tk }) :
    wpAny (model B.prog B.w) A (call (.ref fa) vs []) Q E s := by
  obtain ⟨fa', o, pm, code, doc, h1, h2, h3, h4⟩ := B.T.fn dr r.mem
  rw [h1] at hm
  cases hm
  have hlen := hr.length
  have hns : ns.Nodup := by
    rw [getElem?_of_prefix r.at']
    exact r.nd.sublist (List.take_sublist _ _)
  refine wpAny_call (call_plain (by have := Rm.dep; (first | lia | omega)) (hb _ _ h2) h3 (B.T.nolimit.keeps hb) (h4.keeps hb) (r.bind _ _ _ _ (by rw [hlen, hl])) ?_ (fun h₁ F => ?_) r.co r.gen r.kind r.cell)
  · rintro ⟨x, v⟩ hx
    exact r.loc x (List.of_mem_zip hx).1
  · have hF : Fr B.h0 s.heap.objs.size h₁ (fun x => (ns.zip vs).reverse.lookup x) := ⟨F.ns, fun b o e => F.keep b o (hb b o e), hsz⟩
    refine h code h₁ _ ⟨Rm.h, ?_, ?_⟩ (Gr.of F.keep) ⟨⟨_, hF, ⟨fun i l e => ?_, (fun i xs e => by cases e), (fun _ => rfl)⟩⟩, (fun a e => by cases e)⟩
    · show A.depth + 1 + d < recursionLimit
      have := Rm.dep; (first | lia | omega)
    · show A.units + 3 + 10 * d + 100 < cLine
      have := Rm.un; (first | lia | omega)
    · have hi : i < args.length := by
        refine Nat.lt_of_not_le fun hge => ?_
        simp only at e
        rw [List.getElem?_append_right (by simpa using hge)] at e
        have := List.mem_of_getElem? e
        simp at this
      have e' : args[i]? = some l := by
        simp only at e
        rw [List.getElem?_append_left (by simpa using hi), List.getElem?_map] at e
        simpa using e
      obtain ⟨v, hv, rv⟩ := hr.get i l e'
      have hn : ∃ x, ns[i]? = some x := ⟨_, List.getElem?_eq_getElem (hl ▸ hi)⟩
      obtain ⟨x, hx⟩ := hn
      have hx' := r.at' i (hl ▸ hi)
      rw [hx, List.getElem?_map] at hx'
      obtain ⟨xk, e1, e2⟩ := Option.map_eq_some_iff.mp hx'
      refine ⟨xk, v, e1, ?_, Off.of F.ns (rv.mono F.keep) (.inl rfl)⟩
      rw [e2]
      refine lookup_rev ?_ x v (lookup_zip hns i x v hx hv)
      rw [List.map_fst_zip (by (first | lia | omega))]
      exact hns

section
variable {C : Cx} {d : Nat} {st : St}
/-- an exception that the frame's own try catches; the suite gives a truth back -/
theorem caught_low {bm : List Value} {nid : String} {x : Str} {np pos rp cp : Pos} {k : Nat} {b : Bool} {A : Around} {E : Value → Shared → Prop} {L a e : Addr} {cd : Value} {oa : Option Addr} {s g : Shared} {Q : Flow → Shared → Prop} {outer : List Env} {rest : List ExceptHandler}
    (S : Spec1 C.toBase x bm nid) (l : Glb C x) (I : Inv C L oa st g) (hfr : A.frames = some (envOf C.cn C.cs L a cd :: outer)) (hf : Fly C.toBase x bm nid (envOf C.cn C.cs L a cd :: outer) g.heap e s.heap)
    (q : ∀ h', g.heap.UpToSlots h' → (∀ b o, g.heap.get? b = some o → b ∉ frs (envOf C.cn C.cs L a cd :: outer) → h'.get? b = some o) → Q (.ret (.bool b)) { s with heap := h' }) :
    wpAny (model C.prog C.w) A (noteFrame (.ref e) (envOf C.cn C.cs L a cd)) (fun _ s₂ => wpAny (model C.prog C.w) A (setFlight (.ref e) none) (fun _ s₃ =>
      wpAny (model C.prog C.w) A (handleBy (.ref e) (envOf C.cn C.cs L a cd) (.ExceptHandler (some (.Name x np)) none [.Return (some (.Constant (.bool b) k cp)) rp] pos :: rest)) Q E s₃) E s₂) E s := by
  obtain ⟨m, F, V⟩ := I.ex
  obtain ⟨base, Cl, t, hfl, O, st0, hk⟩ := hf.ex
  obtain ⟨K, iid, FB⟩ := S.fb
  refine wpAny_looks_onW hfr rfl hfl fun h₄ hh₄ u4 => ?_
  refine wpAny_landsW hh₄ fun h₅ hfl₅ u5 => ?_
  have F₅ : Fr C.h0 L h₅ m := F.of_stays (fun b o e => hfl₅.1 b o (st0 b o e)) ((hf.up.trans u4).trans u5)
  obtain ⟨ob, hob, hobc⟩ := hfl₅.there
  refine wpAny_handleBy_cons (codeAny_handlers_test (ld_global_at F₅ C.T.g O.bound ?_ C.hk l.look l.nodebug)) (by intro q; cases q)
  obtain ⟨tl, N, nm, qn, bs, hdct, sn, sub, ab, col, dd, k0, k1, k2, k3, k5, mN, hC, hN, hni, TL⟩ := (O.own.keeps F₅.keep).obj
  refine wpAny_excMatches_sub_self hC hob hobc (TL.hasType FB.hasBase) (codeAny_handlers_suite ?_)
  refine lands_againW hfl₅ fun h₆ hfl₆ u6 => ?_
  refine wpAny_execs_cons (wpAny_Return_some (wpAny_Constant_bool ?_))
  exact q h₆ (((hf.up.trans u4).trans u5).trans u6) fun b o e n => hfl₆.1 b o (hk b o e n)
end

/-! JL12 -/
noncomputable def absF (v y : Value) : Prop := ∃ i t u, v = .int i t ∧ y = .int (i.natAbs : Int) u
theorem paired_abs {vs ys : List Value} (p : Paired absF vs ys) : ∀ {xs : List Int}, IntsAre vs xs → IntsAre ys (xs.map fun i => (i.natAbs : Int)) := by
  induction p with
  | nil => intro xs i; cases i; exact .nil
  | cons h t ih =>
    intro xs i
    obtain ⟨j, t', u, e1, e2⟩ := h
    subst e1 e2
    cases i with
    | cons n tk r => exact .cons _ _ (ih r)

section
variable {C : Cx} {d : Nat} {st : St}
theorem Ev.compAbs {x ab : Str} {pa p1 px pc pos : Pos} {iter : Expr} {scope : Scope} {xs : List Int} (hit : Ev C d st iter (.list xs)) (hmg : C.mg ab = .none) (hmb : C.mb ab = some (.builtin "abs"))
    (hfree : ∀ y ∈ scope.names, y.2 ≠ .free) (hcell : ∀ y ∈ scope.names, y.2 ≠ .cell) (hkind : scope.kind = .function) (hnames : ∀ y ∈ scope.names, y.2 = .local → scope.names.lookup y.1 = some .local) (hx : scope.names.lookup x = some .local)
    (hka : ∀ cl Ca env, (compEnvC scope cl Ca env).kindOf ab = some .globalImplicit) (hkx : ∀ cl Ca env, (compEnvC scope cl Ca env).kindOf x = some .local)
    (hda : (ab == ("__debug__" : Str)) = false) (hdx : (x == ("__debug__" : Str)) = false)
    (he : ∀ env, backTo pc (starEach [.Name x p1] env) = [(false, eval (.Name x p1) env)] := by intro _; rfl)
    (hs : ∀ env y, foldedSetIterable iter env y = pure y := by intro _ _; rfl) :
    Ev C d st (.ListComp (.Call (.Name ab pa) [.Name x p1] [] pc) [⟨.Name x px, iter, [], 0⟩] scope pos) (.list (xs.map fun i => (i.natAbs : Int))) := by
  refine ⟨?_⟩
  intro A E L a cd oa s Q R I q
  refine wpAny_ListComp_free (fun _ => true) absF (closureFor_none hfree) hcell hkind hnames hx (hit.run A E L a cd oa s _ R I fun xv s1 g1 r1 => ?_) (hs _)
  obtain ⟨b, rfl, vs, n, el, ii, len⟩ := r1
  have hlen := ii.length
  simp only [Array.length_toList] at hlen
  refine wpAny_pyIter_list ⟨_, el, rfl, n, rfl⟩ ?_
  have hbI : b ≠ s1.heap.objs.size := Nat.ne_of_lt (Heap.lt_size el)
  have hnI : ∀ b o, s1.heap.get? b = some o → b ∉ [s1.heap.objs.size] := fun b o e hm => by
    have := Heap.lt_size e
    rw [List.mem_singleton.mp hm] at this
    exact Nat.lt_irrefl _ this
  refine ⟨s1.heap.objs.size, [s1.heap.objs.size, b], [s1.heap.objs.size], vs.size, _, _, rfl, Walks.list R.h _ b hbI vs, by rw [hlen, sizeLine_eq]; unfold LIM at len; (first | lia | omega), ⟨⟨_, Heap.get?_push_size _ rfl, rfl, rfl⟩, ⟨_, Heap.get?_push_of_some _ el, rfl, n, rfl⟩⟩, ?_, ⟨?_, ?_⟩, ?_⟩
  · intro c hc
    show c < (s1.heap.push _).objs.size
    rw [Heap.size_push]
    rcases List.mem_cons.mp hc with rfl | hc
    · exact Nat.lt_succ_self _
    · rw [List.mem_singleton.mp hc]
      exact Nat.lt_succ_of_lt (Heap.lt_size el)
  · intro Ca i v s₃ m₃ E' _ _ _ _ _ _
    exact wpAny_tests_nil ⟨rfl, s₃.heap, s₃.toks, rfl, fun _ _ e => e⟩
  · intro Ca i v s₃ m₃ E' _ hP _ hn hm hk _
    have kk : ∀ b o, C.h0.get? b = some o → s₃.heap.get? b = some o := fun b o e =>
      have e1 := g1.keep b o (I.base b o e)
      hk b o (hnI b o e1) (Heap.get?_push_of_some _ e1)
    have hi : i < xs.length := by
      rw [← hlen]
      exact (Array.getElem?_eq_some_iff.mp hP).1
    obtain ⟨t, ht⟩ := IntsAre.getD ii i hi
    have hv : v = .int (xs.getD i 0) t := by
      have h2 : vs[i]? = some (.int (xs.getD i 0) t) := by simpa using ht
      rw [h2] at hP
      exact (Option.some.inj hP).symm
    refine Call_Name (he _) (Calls.Name_function_global (by exact hkind) (hka _ _ _) (Calls.loadGlobal_builtin (env := compEnvC scope [] Ca (envOf C.cn C.cs L a cd)) (C.T.g.keeps kk) hmg (C.T.b.keeps kk) hmb ?_) hda)
    refine callWith_builtin1 (ldVarK hn hm ?_ (by exact hkind) (hkx _ _ _) hdx)
    subst hv
    refine call_abs_int fun u tk => ⟨⟨_, t, u, rfl, ?_⟩, s₃.heap, tk, rfl, fun _ _ e => e⟩
    congr 1
    split <;> (first | lia | omega)
  · intro D h' tk ys vs' hD hl hpl hlen' hP hF hk
    have hvs : vs' = vs.toList := by
      apply List.ext_getElem?
      intro j
      by_cases hj : j < vs'.length
      · have := hP j _ (List.getElem?_eq_getElem hj)
        rw [List.getElem?_eq_getElem hj, ← this]
        simp
      · rw [List.getElem?_eq_none (by (first | lia | omega)), List.getElem?_eq_none (by simp; (first | lia | omega))]
    have hfil : vs'.filter (fun _ => true) = vs' := by simp
    rw [hfil, hvs] at hF
    have hk' : ∀ b o, s1.heap.get? b = some o → h'.get? b = some o := fun b o e => hk b o (hnI b o e) (Heap.get?_push_of_some _ e)
    refine q _ _ ⟨g1.gens, g1.drawn, g1.os, fun b o e => hk' b o (g1.keep b o e)⟩ ⟨D, rfl, ?_⟩
    obtain ⟨n', e'⟩ := hpl
    exact ⟨ys, n', e', paired_abs hF ii, by simpa using len⟩
end

/-! JL13 -/
section
variable {C : Cx} {d : Nat} {st : St}
/-- a list that stands at the base, whatever else its object bears: the first ones of its items -/
theorem Ev.rawTake {value hi : Expr} {p pos : Pos} {a : Addr} {items : Array Value} {xs : List Int} {k : Int} (hv : Ev C d st value (.raw (.ref a))) (hL : C.h0.IsList a items) (ii : IntsAre items.toList xs) (hz : xs.length ≤ LIM) (hh : Ev C d st hi (.int k)) (h0 : 0 ≤ k) :
    Ev C d st (.Subscript value (.Slice .none (some hi) .none p) pos) (.list (xs.take k.toNat)) := by
  obtain ⟨kn, rfl⟩ := Int.eq_ofNat_of_zero_le h0
  refine ⟨?_⟩
  intro A E L fa cd oa s Q R I q
  refine Subscript_ (hv.run A E L fa cd oa s _ R I fun v s1 g1 r1 => wpAny_Slice (wpAny_evalPart_none (wpAny_evalPart_some (hh.run A E L fa cd oa s1 _ R (I.mono g1) fun vh s3 g3 r3 => wpAny_evalPart_none ?_))))
  cases r1
  obtain ⟨t, rfl⟩ := r3
  have hb : ∀ b o, C.h0.get? b = some o → s3.heap.get? b = some o := ((I.mono g1).mono g3).base
  have hb' : ∀ b o, C.h0.get? b = some o → (s3.heap.push { cls := .type "slice", data := .fields #[.none, .int kn t, .none] }).get? b = some o := fun b o e => Heap.get?_push_of_some _ (hb b o e)
  have hL' := hL.at fun o e => hb' _ o e
  obtain ⟨ops, ho⟩ := sub_ops (.Slice .none (some hi) .none p) (.ref a) (.ref s3.heap.objs.size)
  have hz' := ii.length
  simp only [Array.length_toList] at hz'
  have hp := IntsAre.pick ii .none (some (kn : Int)) .none
  refine tail_any (s := { s3 with heap := s3.heap.push { cls := .type "slice", data := .fields #[.none, .int kn t, .none] } }) hL'.typeIs slot_list_getitem.lookup (wpAny_getItem_list_slice hL' (Heap.IsSliceOf.new ..) .none (.int _ _) .none (by decide) ?_ (by rw [hz', sizeLine_eq]; unfold LIM at hz; (first | lia | omega))) ho
  refine q _ _ ((g1.trans g3).trans ((Gr.push (tk := s3.toks) { cls := .type "slice", data := .fields #[.none, .int kn t, .none] }).trans (Gr.push _))) ⟨_, rfl, PL.new ?_ ?_⟩
  · rw [pick_take] at hp
    simpa using hp
  · rw [Int.toNat_natCast, List.length_take]; (first | lia | omega)
theorem Ev.rawLen {x : Str} {p pos : Pos} {e : Expr} {a : Addr} {items : Array Value} {xs : List Int} (hf : Blt C x (.builtin "len")) (hv : Ev C d st e (.raw (.ref a))) (hL : C.h0.IsList a items) (ii : IntsAre items.toList xs) (hz : xs.length ≤ LIM)
    (he : ∀ env, starEach [e] env = [(false, eval e env)] := by intro _; rfl)
    (hp : ∀ env, (backTo pos (starEach [e] env)).any (fun x => x.fst) = false := by intro _; rfl) : Ev C d st (.Call (.Name x p) [e] [] pos) (.int xs.length) := by
  refine ⟨?_⟩
  intro A E L fa cd oa s Q R I q
  obtain ⟨m, F, V⟩ := id I.ex
  refine Call_Name rfl (ld_builtin_at F C.T.g hf.mg C.T.b hf.mb ?_ C.hk hf.glb.look hf.glb.nodebug)
  have key : wpAny (model C.prog C.w) A (spliced (backTo pos (starEach [e] (envOf C.cn C.cs L fa cd)))) (fun vs s2 => wpAny (model C.prog C.w) A (call (.builtin "len") ([] ++ vs) []) Q E s2) E s := by
    refine (Evs.cons hv Evs.nil he).run A E L fa cd oa pos s _ R I fun vs s2 g2 r2 => ?_
    obtain ⟨_, rfl, rfl⟩ := reps1 r2
    · have hz' := ii.length
      simp only [Array.length_toList] at hz'
      refine call_len_list (hL.at fun o e => (I.mono g2).base _ o e) (by rw [hz']; unfold LIM at hz; (first | lia | omega)) (q _ _ (g2.trans Gr.tk) ⟨s2.toks + 1, by rw [hz']⟩)
  refine Calls.callWith_builtin (hp _) ?_
  rw [he] at key ⊢
  exact Calls.evalArgs_plain key
end

local macro_rules | `(tactic| w_left) => `(tactic| first
  | ((with_reducible show Ev _ _ _ _ _); first
    | with_reducible exact Ev.var (by assumption) (by with_unfolding_all rfl)
    | with_reducible exact Ev.int
    | with_reducible refine' Ev.bin ?_ ?_ ?_
    | with_reducible refine' Ev.callB (by assumption) ?_ ?_ ?_ ?_
    | with_reducible refine' Ev.callF (g := _) ?_ ?_ ?_ ?_ ?_
    | with_reducible refine' Ev.take ?_ ?_ ?_
    | with_reducible refine' Ev.dropDg (by assumption) ?_ ?_ ?_
    | with_reducible refine' Ev.cut ?_ ?_ ?_ ?_ ?_
    | with_reducible refine' Ev.copy ?_
    | with_reducible refine' Ev.idx ?_ ?_ ?_ ?_
    | with_reducible exact Ev.own (by assumption) (by with_unfolding_all rfl)
    | (with_reducible refine' Ev.fn ?x ?y; (case x => with_reducible assumption); (case y => with_reducible assumption))
    | with_reducible exact Ev.bool
    | with_reducible exact Ev.none
    | with_reducible refine' Ev.disp1 ?_ ?_
    | with_reducible exact Ev.disp0
    | with_reducible refine' Ev.cmp ?_ ?_ ?_ ?_
    | with_reducible refine' Ev.or ?_ (fun _ => ?_)
    | with_reducible refine' Ev.pair ?_ ?_ ?_
    | with_reducible refine' Ev.ifeI ?_ (fun _ => ?_) (fun _ => ?_)
    | with_reducible refine' Ev.neg ?_
    | with_reducible refine' Ev.notB ?_)
  | ((with_reducible show Evs _ _ _ _ _); first
    | with_reducible refine' Evs.cons ?_ ?_ ?_
    | with_reducible exact Evs.nil)
  | ((with_reducible show BinTo _ _ _ _); first
    | with_reducible exact BinTo.add
    | with_reducible exact BinTo.sub
    | with_reducible exact BinTo.one (by (first | lia | omega))
    | with_reducible exact BinTo.mask
    | with_reducible exact BinTo.shr
    | with_reducible exact BinTo.mod (by (first | lia | omega))
    | with_reducible exact BinTo.div (by (first | lia | omega)) (PyProof.noPylong_small (by (first | lia | omega)))
    | with_reducible refine' BinTo.mul ?_
    | with_reducible refine' BinTo.cat ?_
    | with_reducible refine' BinTo.repeat ?_ ?_
    | with_reducible exact BinTo.band
    | with_reducible exact BinTo.bor
    | with_reducible refine' BinTo.shlW ?_ ?_
    | with_reducible refine' BinTo.mod ?_
    | with_reducible refine' BinTo.div ?_ ?_)
  | ((with_reducible show BltTo _ _ _); first
    | with_reducible exact BltTo.len
    | with_reducible exact BltTo.min
    | with_reducible exact BltTo.max)
  | ((with_reducible show Tr _ _ _ _ _); first
    | with_reducible refine' Tr.cmp ?_ ?_ ?_ ?_
    | with_reducible refine' Tr.chain ?_ ?_ ?_ ?_ ?_ ?_
    | with_reducible refine' Tr.and ?_ (fun _ => ?_)
    | with_reducible refine' Tr.or ?_ (fun _ => ?_)
    | with_reducible refine' Tr.not ?_
    | with_reducible refine' Tr.val ?_ ?_)
  | ((with_reducible show CmpTo _ _ _ _); first
    | with_reducible exact CmpTo.lt
    | with_reducible exact CmpTo.gt
    | with_reducible exact CmpTo.le
    | with_reducible exact CmpTo.ge
    | with_reducible exact CmpTo.eq
    | with_reducible exact CmpTo.ne
    | with_reducible exact CmpTo.eqL
    | with_reducible exact CmpTo.neL
    | with_reducible exact CmpTo.isNone)
  | ((with_reducible show InTo _ _ _ _); first
    | with_reducible exact InTo.sub
    | with_reducible exact InTo.add
    | with_reducible exact InTo.shr)
  | ((with_reducible show Ex _ _ _ _ _ _); first
    | with_reducible refine' Ex.assign (by assumption) ?_ ?_ ?_ ?_
    | with_reducible refine' Ex.aug (by assumption) ?_ ?_ ?_ ?_ ?_
    | with_reducible refine' Ex.append (by assumption) ?_ ?_ ?_ ?_ ?_ ?_ ?_ ?_ ?_
    | with_reducible refine' Ex.setItem (by assumption) ?_ ?_ ?_ ?_ ?_ ?_ ?_
    | with_reducible refine' Ex.ret ?_ ?_)
  | ((with_reducible show EvNew _ _ _ _ _); first
    | with_reducible exact EvNew.nil
    | with_reducible refine' EvNew.zeros ?_ ?_)
  | ((with_reducible show Fun _ _); assumption)
  | ((with_reducible show CallTo _ _ _ _ _); with_reducible apply_assumption)
  | ((with_reducible show stoOk _ _ _ = true); rfl)
  | ((with_reducible show St.own _ = _); rfl)
  | ((with_reducible show _ = some (some _)); rfl)
  | ((with_reducible show behindInMarks _ _ = false); with_unfolding_all rfl)
  | ((with_reducible show lastMarks _ _ = false); with_unfolding_all rfl)
  | ((with_reducible show _ ≠ some (0 : Int)); decide)
  | ((with_reducible show ∀ _ : Env, _ = _); intro _; rfl)
  | ((with_reducible show ∀ (_ : Env) (_ : Sem Value), _ = _); intro _ _; rfl)
  | ((with_reducible show ∀ (_ _ : Addr) (_ : Value), _ = _); intro _ _ _; rfl)
  | ((with_reducible show (_ == _) = true); rfl)
  | ((with_reducible show LV.scalar _ = true); rfl)
  | ((with_reducible show (0 : Int) ≤ _); (first | lia | omega))
  | ((with_reducible show _ < LIM); (unfold LIM; (try simp only); (first | lia | omega)))
  | ((with_reducible show _ ≤ LIM); (unfold LIM; (try simp only); (first | lia | omega)))
  )

/-! W0 -/
theorem rec_normal {B : Base} (a : Amb B) : Rec B (rc 0) ["a"] := .of (a.mem 0 (by decide)) (by decide +kernel) fun _ _ _ => ar1 fun _ => rfl

theorem normal_to {B : Base} (a : Amb B) (d : Nat) (xs : List Int) : CallTo B (d + 1) "normal" [.list xs] (.list (nrm xs)) := by
  show CallTo B (d + 1) (rc 0).name _ _
  have r := rec_normal a
  refine CallTo.body r rfl ?_
  have l0 : Loc r.cx "a" 0 := r.lc (by decide +kernel)
  have l1 : Loc r.cx "end" 1 := r.lc (by decide +kernel)
  have b0 : Blt r.cx "len" (.builtin "len") := r.bl (by decide +kernel) a.len (by decide +kernel) (by rfl)
  show Ex _ _ { σ := [some (.list xs), .none, .none] } _ _ _
  refine Ex.start rfl ?_
  repeat' w_left
  refine Ex.whileG (P := Nat) (fun e => { σ := [some (.list xs), some (.int e), .none] }) (fun e => e ≤ xs.length ∧ ∀ y ∈ xs.drop e, y = 0) (fun e => e) (fun e => decide (0 < e) && decide (xs.getD (e - 1) 0 = 0)) xs.length ⟨Nat.le_refl _, by simp⟩ (Le.of rfl ⟨rfl, rfl, trivial⟩) ?_ ?_ ?_
  · rintro e ⟨he, hz⟩
    refine Tr.conv (b := decide ((0 : Int) < e) && decide (xs.getD (((e : Int) - 1).toNat) 0 = 0)) ?_ ?_
    · repeat' w_left
      all_goals simp only [decide_eq_true_eq] at *; (first | lia | omega)
    · rw [show ((e : Int) - 1).toNat = e - 1 by (first | lia | omega), show decide ((0 : Int) < e) = decide (0 < e) from decide_eq_decide.mpr (by (first | lia | omega))]
  · rintro e ⟨he, hz⟩ hc
    simp only [Bool.and_eq_true, decide_eq_true_eq] at hc
    repeat' w_left
    refine Ex.nil ⟨e - 1, ⟨⟨by (first | lia | omega), fun y hy => ?_⟩, by (first | lia | omega)⟩, Le.of rfl ⟨rfl, ?_, trivial⟩⟩
    · rw [List.drop_eq_getElem_cons (by (first | lia | omega))] at hy
      rcases List.mem_cons.mp hy with rfl | hy
      · have := hc.2
        rw [List.getD_eq_getElem?_getD, List.getElem?_eq_getElem (by (first | lia | omega))] at this
        exact this
      · rw [show e - 1 + 1 = e by (first | lia | omega)] at hy
        exact hz y hy
    · rw [show ((e - 1 : Nat) : Int) = (e : Int) - 1 by (first | lia | omega)]
  · rintro e ⟨he, hz⟩ hc
    repeat' w_left
    rw [Int.toNat_natCast, nrm_take hz ?_ he]
    simp only [Bool.and_eq_false_iff, decide_eq_false_iff_not] at hc
    (first | lia | omega)

/-- normal, as the walks meet it -/
theorem normal_take {B : Base} (a : Amb B) (d : Nat) {D : Nat} (hD : 2 ≤ D) (N n : Nat) : CallTo B (d + 1) "normal" [.list ((dg D N).take n)] (.list (dg D (N % D ^ n))) := (normal_to a d _).conv (by rw [nrm_take_dg hD])
theorem normal_cut {B : Base} (a : Amb B) (d : Nat) {D : Nat} (hD : 2 ≤ D) (N n k : Nat) : CallTo B (d + 1) "normal" [.list (((dg D N).take n).drop k)] (.list (dg D (N % D ^ n / D ^ k))) := (normal_to a d _).conv (by
  refine congrArg _ (nrm_val hD (((dig_dg hD N).take n).drop k) ?_)
  have h := val_append D (((dg D N).take n).take k) (((dg D N).take n).drop k)
  rw [List.take_append_drop, val_take_dg hD, List.take_take, val_take_dg hD, List.length_take] at h
  by_cases hk : k ≤ min n (dg D N).length
  · rw [show min (min k n) (dg D N).length = k by (first | lia | omega), show min k n = k by (first | lia | omega), ← pow_cast] at h
    have h2 := Nat.mod_add_div (N % D ^ n) (D ^ k)
    rw [Nat.mod_mod_of_dvd _ (Nat.pow_dvd_pow D (show k ≤ n by (first | lia | omega)))] at h2
    have h3 : ((D ^ k : Nat) : Int) * val D (((dg D N).take n).drop k) = ((D ^ k * (N % D ^ n / D ^ k) : Nat) : Int) := by (first | lia | omega)
    rw [Int.natCast_mul] at h3
    exact Int.eq_of_mul_eq_mul_left (by have := Nat.pow_pos (n := k) (show 0 < D by (first | lia | omega)); (first | lia | omega)) h3
  · rw [List.drop_eq_nil_of_le (by rw [List.length_take]; (first | lia | omega))]
    have hlt : N % D ^ n < D ^ k := by
      by_cases hn : n ≤ k
      · exact Nat.lt_of_lt_of_le (Nat.mod_lt _ (Nat.pow_pos (by (first | lia | omega)))) (Nat.pow_le_pow_right (by (first | lia | omega)) hn)
      · exact Nat.lt_of_le_of_lt (Nat.mod_le _ _) ((length_dg_le hD).mp (by (first | lia | omega)))
    rw [Nat.div_eq_of_lt hlt]; rfl)
theorem normal_dg {B : Base} (a : Amb B) (d : Nat) {D : Nat} (hD : 2 ≤ D) (N : Nat) : CallTo B (d + 1) "normal" [.list (dg D N)] (.list (dg D N)) := (normal_to a d _).conv (by rw [nrm_of_dg hD])

/-! W1 -/
theorem rec_is_even {B : Base} (a : Amb B) : Rec B (rc 1) ["a"] := .of (a.mem 1 (by decide)) (by decide +kernel) fun _ _ _ => ar1 fun _ => rfl

theorem is_even_to {B : Base} (a : Amb B) (d : Nat) {D : Nat} (hD : 2 ≤ D) (h2 : D % 2 = 0) (N : Nat) : CallTo B (d + 1) "is_even" [.list (dg D N)] (.bool (decide (N % 2 = 0))) := by
  show CallTo B (d + 1) (rc 1).name _ _
  have r := rec_is_even a
  refine CallTo.body r rfl ?_
  have l_a : Loc r.cx "a" 0 := r.lc (by decide +kernel)
  have b_len : Blt r.cx "len" (.builtin "len") := r.bl (by decide +kernel) a.len (by decide +kernel) (by rfl)
  show Ex _ _ { σ := [some (.list (dg D N)), .none] } _ _ _
  refine Ex.start rfl ?_
  repeat' w_left
  · rename_i h
    simp only [decide_eq_false_iff_not] at h
    (first | lia | omega)
  · refine congrArg LV.bool ?_
    rw [bitAnd_m1, show (0 : Int).toNat = 0 from rfl, getD_dg hD]
    by_cases h : 0 < N
    · rw [dg_pos hD h]
      simp only [List.length_cons, Nat.pow_zero, Nat.div_one]
      have e1 : N % D % 2 = N % 2 := Nat.mod_mod_of_dvd _ (Nat.dvd_of_mod_eq_zero h2)
      rw [show decide ((((dg D (N / D)).length + 1 : Nat) : Int) = 0) = false by rw [decide_eq_false_iff_not]; (first | lia | omega), Bool.false_or]
      refine decide_eq_decide.mpr ?_
      (first | lia | omega)
    · have : N = 0 := by (first | lia | omega)
      subst this
      simp [dg_zero]

theorem compare_short {D : Nat} (hD : 2 ≤ D) {M N : Nat} (h : (dg D M).length < (dg D N).length) : M < N := by
  have h1 := lt_pow_length hD M
  have h2 := (lt_length_dg hD (dg D M).length N).mp h
  (first | lia | omega)

theorem rec_compare {B : Base} (a : Amb B) : Rec B (rc 2) ["a", "b"] := .of (a.mem 2 (by decide)) (by decide +kernel) fun _ _ _ => ar2 fun _ _ => rfl

theorem compare_to {B : Base} (a : Amb B) (d : Nat) {D : Nat} (hD : 2 ≤ D) (M N : Nat) (hM : (dg D M).length ≤ LIM) : CallTo B (d + 1) "compare" [.list (dg D M), .list (dg D N)] (.int (if M < N then -1 else if N < M then 1 else 0)) := by
  show CallTo B (d + 1) (rc 2).name _ _
  have r := rec_compare a
  refine CallTo.body r rfl ?_
  have l_a : Loc r.cx "a" 0 := r.lc (by decide +kernel)
  have l_b : Loc r.cx "b" 1 := r.lc (by decide +kernel)
  have l_at : Loc r.cx "at" 2 := r.lc (by decide +kernel)
  have b_len : Blt r.cx "len" (.builtin "len") := r.bl (by decide +kernel) a.len (by decide +kernel) (by rfl)
  have b_range : Blt r.cx "range" (.type "range") := r.bl (by decide +kernel) a.range (by decide +kernel) (by rfl)
  show Ex _ _ { σ := [some (.list (dg D M)), some (.list (dg D N)), .none, .none, .none] } _ _ _
  refine Ex.start rfl ?_
  refine Ex.ite (c := !decide (((dg D M).length : Int) = (dg D N).length)) (by repeat' w_left) (fun h => ?_) (fun h => ?_)
  · refine Ex.ret (lv := .int (if M < N then -1 else if N < M then 1 else 0)) ?_ rfl
    simp only [Bool.not_eq_true', decide_eq_false_iff_not] at h
    refine Ev.ife (c := decide (((dg D M).length : Int) < (dg D N).length)) (by repeat' w_left) (fun h' => ?_) (fun h' => ?_)
    · simp only [decide_eq_true_eq] at h'
      have := compare_short hD (M := M) (N := N) (by (first | lia | omega))
      rw [if_pos this]
      repeat' w_left
    · simp only [decide_eq_false_iff_not] at h'
      have := compare_short hD (M := N) (N := M) (by (first | lia | omega))
      rw [if_neg (by (first | lia | omega)), if_pos this]
      repeat' w_left
  · simp only [Bool.not_eq_false', decide_eq_true_eq] at h
    refine Ex.nil ?_
    have hlen : (dg D M).length = (dg D N).length := by (first | lia | omega)
    generalize hl : (dg D M).length = len at *
    unfold LIM at hM
    have hsz : Builtin.Range.rangeSize ((len : Int) - 1) (-1) (-1) = (len : Int) := by
      unfold Builtin.Range.rangeSize
      rw [if_neg (by decide), show -(-1 : Int) = 1 by decide, Int.ediv_one]
      split <;> (first | lia | omega)
    refine Ex.forG (P := Unit) (fun _ => { σ := [some (.list (dg D M)), some (.list (dg D N)), .none, .none, .none] }) (fun k _ => M / D ^ (len - k) = N / D ^ (len - k)) () ((List.range len).map fun (k : Nat) => LV.int ((len : Int) - 1 + (k : Int) * (-1))) l_at
      (IterTo.range3 b_range (a := (len : Int) - 1) (b := -1) (c := -1) (by rw [← hl]; repeat' w_left) (by repeat' w_left) (by repeat' w_left) (by decide) (by decide) ?_ hsz) ?_ (Le.of rfl ⟨rfl, rfl, trivial⟩) (fun _ _ _ => rfl) ?_ ?_
    · unfold Builtin.Range.small
      rw [hsz]
      simp only [Builtin.Range.rangeFitsLong, Bool.and_eq_true, Bool.or_eq_true, decide_eq_true_eq, beq_iff_eq]
      rw [if_neg (by decide)]
      simp only [Bool.and_eq_true, decide_eq_true_eq]
      (first | lia | omega)
    · rw [Nat.sub_zero]
      have h1 := lt_pow_length hD M
      have h2 := lt_pow_length hD N
      rw [hl] at h1
      rw [← hlen] at h2
      rw [Nat.div_eq_of_lt h1, Nat.div_eq_of_lt h2]
    · rintro k ⟨⟩ hk hJ
      simp only [List.length_map, List.length_range] at hk
      rw [List.getElem_map, List.getElem_range]
      have hidx : ((len : Int) - 1 + (k : Int) * (-1)).toNat = len - 1 - k := by (first | lia | omega)
      have hM' : (dg D M).getD (len - 1 - k) 0 = ((M / D ^ (len - 1 - k) % D : Nat) : Int) := getD_dg hD _ _
      have hN' : (dg D N).getD (len - 1 - k) 0 = ((N / D ^ (len - 1 - k) % D : Nat) : Int) := getD_dg hD _ _
      have pw : D ^ (len - k) = D ^ (len - 1 - k) * D := by
        rw [← Nat.pow_succ]
        exact congrArg _ (by (first | lia | omega))
      have e1 : M / D ^ (len - k) = M / D ^ (len - 1 - k) / D := by rw [Nat.div_div_eq_div_mul, pw]
      have e2 : N / D ^ (len - k) = N / D ^ (len - 1 - k) / D := by rw [Nat.div_div_eq_div_mul, pw]
      rw [e1, e2] at hJ
      have q1 := Nat.mod_add_div (M / D ^ (len - 1 - k)) D
      have q2 := Nat.mod_add_div (N / D ^ (len - 1 - k)) D
      rw [hJ] at q1
      have mono : ∀ {x y : Nat}, x / D ^ (len - 1 - k) < y / D ^ (len - 1 - k) → x < y := fun {x y} h => by
        refine Nat.lt_of_not_le fun hle => ?_
        exact absurd (Nat.div_le_div_right (c := D ^ (len - 1 - k)) hle) (by (first | lia | omega))
      refine Ex.ite (c := !decide ((dg D M).getD (len - 1 - k) 0 = (dg D N).getD (len - 1 - k) 0)) (Tr.conv (by (repeat' w_left) <;> (first | lia | omega)) (by rw [hidx])) (fun h => ?_) (fun h => ?_)
      · rw [hM', hN'] at h
        simp only [Bool.not_eq_true', decide_eq_false_iff_not] at h
        refine Ex.ret (lv := .int (if M < N then -1 else if N < M then 1 else 0)) ?_ rfl
        refine Ev.ife (c := decide ((dg D M).getD (len - 1 - k) 0 < (dg D N).getD (len - 1 - k) 0)) (Tr.conv (by (repeat' w_left) <;> (first | lia | omega)) (by rw [hidx])) (fun h' => ?_) (fun h' => ?_)
        · rw [hM', hN'] at h'
          simp only [decide_eq_true_eq] at h'
          have := mono (x := M) (y := N) (by (first | lia | omega))
          rw [if_pos this]
          repeat' w_left
        · rw [hM', hN'] at h'
          simp only [decide_eq_false_iff_not] at h'
          have := mono (x := N) (y := M) (by (first | lia | omega))
          rw [if_neg (by (first | lia | omega)), if_pos this]
          repeat' w_left
      · rw [hM', hN'] at h
        simp only [Bool.not_eq_false', decide_eq_true_eq] at h
        refine Ex.nil (Ex.nil ⟨(), ?_, Le.of rfl ⟨rfl, rfl, trivial⟩⟩)
        rw [show len - (k + 1) = len - 1 - k by (first | lia | omega)]
        (first | lia | omega)
    · rintro ⟨⟩ hJ
      simp only [List.length_map, List.length_range, Nat.sub_self, Nat.pow_zero, Nat.div_one] at hJ
      subst hJ
      repeat' w_left
      simp

/-! W2 -/
theorem powW (w n : Nat) : (((2 ^ w : Nat) : Int)) ^ n = ((2 : Int) ^ w) ^ n := by simp
theorem castW (w : Nat) : ((2 ^ w : Nat) : Int) = (2 : Int) ^ w := by simp
theorem two_leW {w : Nat} (h : 1 ≤ w) : 2 ≤ 2 ^ w := by
  have := Nat.pow_le_pow_right (show 0 < 2 by decide) h
  (first | lia | omega)
theorem leW {w : Nat} (h : w ≤ 9) : 2 ^ w ≤ 512 := Nat.pow_le_pow_right (show 0 < 2 by decide) h
theorem evenW {w : Nat} (h : 1 ≤ w) : 2 ^ w % 2 = 0 := by
  obtain ⟨k, rfl⟩ : ∃ k, w = k + 1 := ⟨w - 1, by (first | lia | omega)⟩
  rw [Nat.pow_succ]; (first | lia | omega)

/-- one place more, its carry handed on -/
theorem place_step {D : Nat} (hD : 2 ≤ D) {f : List Int} {k : Nat} {c c' T : Int} (hf : Dig D f) (hl : f.length = k) (h : val D f + c * (D : Int) ^ k = T) :
    Dig D (f ++ [c' % D]) ∧ val D (f ++ [c' % D]) + c' / D * (D : Int) ^ (k + 1) = T + (c' - c) * (D : Int) ^ k := by
  refine ⟨hf.snoc (Int.emod_nonneg _ (by (first | lia | omega))) (Int.emod_lt_of_pos _ (by (first | lia | omega))), ?_⟩
  rw [val_snoc, hl, Int.pow_succ, ← h]
  have e := Int.emod_add_mul_ediv c' D
  have e2 : c' / (D : Int) * ((D : Int) ^ k * D) = (D : Int) ^ k * (D * (c' / D)) := by rw [Int.mul_comm, Int.mul_assoc]
  rw [e2, Int.add_assoc, ← Int.mul_add, e, Int.sub_mul, Int.mul_comm ((D : Int) ^ k) c']
  (first | lia | omega)
theorem mod_stepI (D N k : Nat) : ((N % D ^ (k + 1) : Nat) : Int) = (N % D ^ k : Nat) + ((N / D ^ k % D : Nat) : Int) * (D : Int) ^ k := by
  rw [Nat.mod_pow_succ, Int.natCast_add, Int.natCast_mul, pow_cast, Int.mul_comm]

theorem rec_add {B : Base} (a : Amb B) : Rec B (rc 3) ["a", "b", "w"] := .of (a.mem 3 (by decide)) (by decide +kernel) fun _ _ _ => ar3 fun _ _ _ => rfl

theorem add_to {B : Base} (a : Amb B) (d : Nat) {w : Nat} (hw : 1 ≤ w) (hw' : w ≤ 9) (M N : Nat) (hM : (dg (2 ^ w) M).length < LIM) (hN : (dg (2 ^ w) N).length < LIM) : CallTo B (d + 1) "add" [.list (dg (2 ^ w) M), .list (dg (2 ^ w) N), .int w] (.list (dg (2 ^ w) (M + N))) := by
  have hD := two_leW hw
  have hcW := castW w
  show CallTo B (d + 1) (rc 3).name _ _
  have r := rec_add a
  refine CallTo.body r rfl ?_
  have l_a : Loc r.cx "a" 0 := r.lc (by decide +kernel)
  have l_b : Loc r.cx "b" 1 := r.lc (by decide +kernel)
  have l_w : Loc r.cx "w" 2 := r.lc (by decide +kernel)
  have l_found : Loc r.cx "found" 3 := r.lc (by decide +kernel)
  have l_carry : Loc r.cx "carry" 4 := r.lc (by decide +kernel)
  have l_mask : Loc r.cx "mask" 5 := r.lc (by decide +kernel)
  have l_at : Loc r.cx "at" 6 := r.lc (by decide +kernel)
  have b_len : Blt r.cx "len" (.builtin "len") := r.bl (by decide +kernel) a.len (by decide +kernel) (by rfl)
  have b_range : Blt r.cx "range" (.type "range") := r.bl (by decide +kernel) a.range (by decide +kernel) (by rfl)
  show Ex _ _ { σ := [some (.list (dg (2 ^ w) M)), some (.list (dg (2 ^ w) N)), some (.int w), .none, .none, .none, .none, .none, .none] } _ _ _
  refine Ex.start rfl ?_
  refine Ex.iteK (c := decide (((dg (2 ^ w) M).length : Int) < (dg (2 ^ w) N).length))
    (fun st' => ∃ M' N' : Nat, (M' + N' = M + N ∧ (dg (2 ^ w) M').length < LIM ∧ (dg (2 ^ w) N').length ≤ (dg (2 ^ w) M').length) ∧ Le { σ := [some (.list (dg (2 ^ w) M')), some (.list (dg (2 ^ w) N')), some (.int w), .none, .none, .none, .none, .none, .none] } st')
    (by repeat' w_left) (fun h => ?_) (fun h => ?_) ?_
  · simp only [decide_eq_true_eq] at h
    refine Ex.tup2 l_a l_b rfl (by repeat' w_left) (by repeat' w_left) (Ex.nil ?_)
    exact ⟨N, M, ⟨by (first | lia | omega), hN, by (first | lia | omega)⟩, Le.of rfl ⟨rfl, rfl, rfl, trivial⟩⟩
  · simp only [decide_eq_false_iff_not] at h
    exact Ex.nil ⟨M, N, ⟨rfl, hM, by (first | lia | omega)⟩, Le.of rfl ⟨rfl, rfl, rfl, trivial⟩⟩
  · rintro st' ⟨M', N', ⟨hs, hM', hle⟩, le⟩
    refine Ex.weaken le ?_
    generalize hla : (dg (2 ^ w) M').length = la at *
    generalize hlb : (dg (2 ^ w) N').length = lb at *
    have hMlt : M' < (2 ^ w) ^ la := by rw [← hla]; exact lt_pow_length hD M'
    have hNlt : N' < (2 ^ w) ^ lb := by rw [← hlb]; exact lt_pow_length hD N'
    unfold LIM at *
    refine Ex.tupOwn3 (xs := []) (l2 := .int 0) (l3 := .int (2 ^ w - 1)) l_found l_carry l_mask rfl EvNew.nil Ev.int (by repeat' w_left) rfl rfl ?_
    refine Ex.forR1 (n := lb) (P := List Int × Int) (fun p => { σ := [some (.list (dg (2 ^ w) M')), some (.list (dg (2 ^ w) N')), some (.int w), .none, some (.int p.2), some (.int (2 ^ w - 1)), .none, .none, .none], own := some (3, p.1) })
      (fun k p => p.1.length = k ∧ Dig (2 ^ w) p.1 ∧ 0 ≤ p.2 ∧ p.2 ≤ 1 ∧ val (2 ^ w) p.1 + p.2 * ((2 ^ w : Nat) : Int) ^ k = (M' % (2 ^ w) ^ k : Nat) + (N' % (2 ^ w) ^ k : Nat)) ([], 0) l_at b_range (by rw [← hlb]; repeat' w_left) (by unfold LIM; (first | lia | omega))
      ⟨rfl, .nil, by decide, by decide, by simp [val, Nat.mod_one]⟩ (Le.of rfl ⟨rfl, rfl, rfl, rfl, rfl, trivial⟩) (fun _ _ => rfl) ?_ ?_
    · rintro k ⟨f, c⟩ hk ⟨hl, hf, hc0, hc1, hv⟩
      simp only at hl hf hc0 hc1 hv
      repeat' w_left
      all_goals try first | (first | lia | omega) | (unfold LIM; simp only; (first | lia | omega))
      have ha : (dg (2 ^ w) M').getD k 0 = ((M' / (2 ^ w) ^ k % 2 ^ w : Nat) : Int) := getD_dg hD _ _
      have hb : (dg (2 ^ w) N').getD k 0 = ((N' / (2 ^ w) ^ k % 2 ^ w : Nat) : Int) := getD_dg hD _ _
      have h1 := Nat.mod_lt (M' / (2 ^ w) ^ k) (show 0 < 2 ^ w by (first | lia | omega))
      have h2 := Nat.mod_lt (N' / (2 ^ w) ^ k) (show 0 < 2 ^ w by (first | lia | omega))
      obtain ⟨q1, q2⟩ := place_step hD (c' := c + ((dg (2 ^ w) M').getD k 0 + (dg (2 ^ w) N').getD k 0)) hf hl hv
      refine Ex.nil ⟨(f ++ [(c + ((dg (2 ^ w) M').getD k 0 + (dg (2 ^ w) N').getD k 0)) % ((2 ^ w : Nat) : Int)], (c + ((dg (2 ^ w) M').getD k 0 + (dg (2 ^ w) N').getD k 0)) / ((2 ^ w : Nat) : Int)), ⟨by simp [hl], q1, ?_, ?_, ?_⟩, Le.of ?_ ⟨rfl, rfl, rfl, ?_, rfl, trivial⟩⟩
      · exact Int.ediv_nonneg (by rw [ha, hb]; (first | lia | omega)) (by (first | lia | omega))
      · refine Int.le_of_lt_add_one (Int.ediv_lt_of_lt_mul (by (first | lia | omega)) ?_)
        rw [ha, hb]; (first | lia | omega)
      · rw [q2, mod_stepI, mod_stepI, ha, hb, Int.add_comm c, Int.add_sub_cancel, Int.add_mul]
        (first | lia | omega)
      · simp only [hcW, Int.toNat_natCast]; rfl
      · simp only [hcW, Int.toNat_natCast]
    · rintro ⟨f, c⟩ ⟨hl, hf, hc0, hc1, hv⟩
      simp only at hl hf hc0 hc1 hv
      rw [Nat.mod_eq_of_lt hNlt] at hv
      refine Ex.forR2 (lo := lb) (hi := la) (P := List Int × Int) (fun p => { σ := [some (.list (dg (2 ^ w) M')), some (.list (dg (2 ^ w) N')), some (.int w), .none, some (.int p.2), some (.int (2 ^ w - 1)), .none, .none, .none], own := some (3, p.1) })
        (fun k p => p.1.length = lb + k ∧ Dig (2 ^ w) p.1 ∧ 0 ≤ p.2 ∧ p.2 ≤ 1 ∧ val (2 ^ w) p.1 + p.2 * ((2 ^ w : Nat) : Int) ^ (lb + k) = (M' % (2 ^ w) ^ (lb + k) : Nat) + (N' : Int)) (f, c) l_at b_range (by rw [← hlb]; repeat' w_left) (by rw [← hla]; repeat' w_left) (by unfold LIM; (first | lia | omega)) (by unfold LIM; (first | lia | omega))
        ⟨hl, hf, hc0, hc1, hv⟩ (Le.of rfl ⟨rfl, rfl, rfl, rfl, rfl, trivial⟩) (fun _ _ => rfl) ?_ ?_
      · rintro k ⟨f, c⟩ hk ⟨hl, hf, hc0, hc1, hv⟩
        simp only at hl hf hc0 hc1 hv
        repeat' w_left
        all_goals try first | (first | lia | omega) | (unfold LIM; simp only; (first | lia | omega))
        have ha : (dg (2 ^ w) M').getD (lb + k) 0 = ((M' / (2 ^ w) ^ (lb + k) % 2 ^ w : Nat) : Int) := getD_dg hD _ _
        have h1 := Nat.mod_lt (M' / (2 ^ w) ^ (lb + k)) (show 0 < 2 ^ w by (first | lia | omega))
        obtain ⟨q1, q2⟩ := place_step hD (c' := c + (dg (2 ^ w) M').getD (lb + k) 0) hf hl hv
        refine Ex.nil ⟨(f ++ [(c + (dg (2 ^ w) M').getD (lb + k) 0) % ((2 ^ w : Nat) : Int)], (c + (dg (2 ^ w) M').getD (lb + k) 0) / ((2 ^ w : Nat) : Int)), ⟨by simp [hl]; (first | lia | omega), q1, ?_, ?_, ?_⟩, Le.of ?_ ⟨rfl, rfl, rfl, ?_, rfl, trivial⟩⟩
        · exact Int.ediv_nonneg (by rw [ha]; (first | lia | omega)) (by (first | lia | omega))
        · refine Int.le_of_lt_add_one (Int.ediv_lt_of_lt_mul (by (first | lia | omega)) ?_)
          rw [ha]; (first | lia | omega)
        · rw [show lb + (k + 1) = lb + k + 1 by (first | lia | omega), q2, mod_stepI, ha, Int.add_comm c, Int.add_sub_cancel]
          (first | lia | omega)
        · simp only [hcW, Int.toNat_natCast]; rfl
        · simp only [hcW, Int.toNat_natCast]
      · rintro ⟨f, c⟩ ⟨hl, hf, hc0, hc1, hv⟩
        simp only at hl hf hc0 hc1 hv
        rw [show lb + (la - lb) = la by (first | lia | omega)] at hl hv
        rw [Nat.mod_eq_of_lt hMlt] at hv
        have hge : ∀ l, la = l + 1 → (2 ^ w) ^ l ≤ M' := fun l e => (lt_length_dg hD l M').mp (by (first | lia | omega))
        refine Ex.ite (c := decide (0 < c)) (by repeat' w_left) (fun h => ?_) (fun h => ?_)
        · simp only [decide_eq_true_eq] at h
          have hc : c = 1 := by (first | lia | omega)
          subst hc
          repeat' w_left
          all_goals try first | (first | lia | omega) | (unfold LIM; simp only; (first | lia | omega))
          refine Ex.nil ?_
          refine Ex.ret (lv := .list (f ++ [1])) (by repeat' w_left) ?_
          refine congrArg LV.list (dg_of hD (hf.snoc (by decide) (by (first | lia | omega))) ?_ ?_)
          · rw [val_snoc, hl]
            rw [Int.mul_one]
            (first | lia | omega)
          · intro l e
            have e' : l = la := by simp at e; (first | lia | omega)
            subst e'
            have := val_nonneg hf
            rw [← pow_cast] at hv
            (first | lia | omega)
        · simp only [decide_eq_false_iff_not] at h
          have hc : c = 0 := by (first | lia | omega)
          subst hc
          refine Ex.nil ?_
          refine Ex.ret (lv := .list f) (by repeat' w_left) ?_
          refine congrArg LV.list (dg_of hD hf ?_ ?_)
          · (first | lia | omega)
          · intro l e
            have := hge l (by (first | lia | omega))
            (first | lia | omega)

/-! W3 -/
theorem getD_far {D : Nat} {N k : Nat} (h : (dg D N).length ≤ k) : (dg D N).getD k 0 = 0 := by
  rw [List.getD_eq_getElem?_getD, List.getElem?_eq_none h]; rfl

theorem rec_sub {B : Base} (a : Amb B) : Rec B (rc 4) ["a", "b", "w"] := .of (a.mem 4 (by decide)) (by decide +kernel) fun _ _ _ => ar3 fun _ _ _ => rfl

theorem sub_to {B : Base} (a : Amb B) (d : Nat) {w : Nat} (hw : 1 ≤ w) (hw' : w ≤ 9) (M N : Nat) (hle : N ≤ M) (hM : (dg (2 ^ w) M).length ≤ LIM) : CallTo B (d + 2) "sub" [.list (dg (2 ^ w) M), .list (dg (2 ^ w) N), .int w] (.list (dg (2 ^ w) (M - N))) := by
  have hD := two_leW hw
  have hcW := castW w
  show CallTo B (d + 1 + 1) (rc 4).name _ _
  have r := rec_sub a
  refine CallTo.body r rfl ?_
  have l_a : Loc r.cx "a" 0 := r.lc (by decide +kernel)
  have l_b : Loc r.cx "b" 1 := r.lc (by decide +kernel)
  have l_w : Loc r.cx "w" 2 := r.lc (by decide +kernel)
  have l_found : Loc r.cx "found" 3 := r.lc (by decide +kernel)
  have l_borrow : Loc r.cx "borrow" 4 := r.lc (by decide +kernel)
  have l_base : Loc r.cx "base" 5 := r.lc (by decide +kernel)
  have l_at : Loc r.cx "at" 6 := r.lc (by decide +kernel)
  have l_limb : Loc r.cx "limb" 7 := r.lc (by decide +kernel)
  have g_compare : Glb r.cx "compare" := r.gl (by decide +kernel)
  have f_compare : Fun r.cx.toBase "compare" := a.fn 2 (by decide) (by rfl)
  obtain ⟨a_compare, m_compare⟩ : ∃ fa, r.cx.mg "compare" = some (.ref fa) := a.mg 2 (by decide) (by rfl)
  have b_range : Blt r.cx "range" (.type "range") := r.bl (by decide +kernel) a.range (by decide +kernel) (by rfl)
  have b_len : Blt r.cx "len" (.builtin "len") := r.bl (by decide +kernel) a.len (by decide +kernel) (by rfl)
  have g_normal : Glb r.cx "normal" := r.gl (by decide +kernel)
  have f_normal : Fun r.cx.toBase "normal" := a.fn 0 (by decide) (by rfl)
  obtain ⟨a_normal, m_normal⟩ : ∃ fa, r.cx.mg "normal" = some (.ref fa) := a.mg 0 (by decide) (by rfl)
  have c_cmp : CallTo r.cx.toBase (d + 1) "compare" [.list (dg (2 ^ w) M), .list (dg (2 ^ w) N)] (.int (if M < N then -1 else if N < M then 1 else 0)) := compare_to a d hD M N hM
  have c_nrm : ∀ xs, CallTo r.cx.toBase (d + 1) "normal" [.list xs] (.list (nrm xs)) := normal_to a d
  show Ex _ _ { σ := [some (.list (dg (2 ^ w) M)), some (.list (dg (2 ^ w) N)), some (.int w), .none, .none, .none, .none, .none, .none, .none, .none, .none, .none] } _ _ _
  refine Ex.start rfl ?_
  refine Ex.ite (c := decide ((if M < N then (-1 : Int) else if N < M then 1 else 0) < 0)) (by repeat' w_left) (fun h => ?_) (fun _ => Ex.nil ?_)
  · exfalso
    rw [if_neg (by (first | lia | omega))] at h
    simp only [decide_eq_true_eq] at h
    split at h <;> (first | lia | omega)
  generalize hla : (dg (2 ^ w) M).length = la at *
  have hMlt : M < (2 ^ w) ^ la := by rw [← hla]; exact lt_pow_length hD M
  unfold LIM at *
  refine Ex.tupOwn3 (xs := []) (l2 := .int 0) (l3 := .int (2 ^ w)) l_found l_borrow l_base rfl EvNew.nil Ev.int (by repeat' w_left) rfl rfl ?_
  refine Ex.forR1 (n := la) (P := List Int × Int) (fun p => { σ := [some (.list (dg (2 ^ w) M)), some (.list (dg (2 ^ w) N)), some (.int w), .none, some (.int p.2), some (.int (2 ^ w)), .none, .none, .none, .none, .none, .none, .none], own := some (3, p.1) })
    (fun k p => p.1.length = k ∧ Dig (2 ^ w) p.1 ∧ 0 ≤ p.2 ∧ p.2 ≤ 1 ∧ val (2 ^ w) p.1 - p.2 * ((2 ^ w : Nat) : Int) ^ k = (M % (2 ^ w) ^ k : Nat) - (N % (2 ^ w) ^ k : Nat)) ([], 0) l_at b_range (by rw [← hla]; repeat' w_left) hM
    ⟨rfl, .nil, by decide, by decide, by simp [val, Nat.mod_one]⟩ (Le.of rfl ⟨rfl, rfl, rfl, rfl, rfl, trivial⟩) (fun _ _ => rfl) ?_ ?_
  · rintro k ⟨f, c⟩ hk ⟨hl, hf, hc0, hc1, hv⟩
    simp only at hl hf hc0 hc1 hv
    have ha : (dg (2 ^ w) M).getD k 0 = ((M / (2 ^ w) ^ k % 2 ^ w : Nat) : Int) := getD_dg hD _ _
    have hb : (dg (2 ^ w) N).getD k 0 = ((N / (2 ^ w) ^ k % 2 ^ w : Nat) : Int) := getD_dg hD _ _
    have h1 := Nat.mod_lt (M / (2 ^ w) ^ k) (show 0 < 2 ^ w by (first | lia | omega))
    have h2 := Nat.mod_lt (N / (2 ^ w) ^ k) (show 0 < 2 ^ w by (first | lia | omega))
    refine Ex.assign (lv := .int ((dg (2 ^ w) M).getD (k : Int).toNat 0 - c - (dg (2 ^ w) N).getD k 0)) l_limb (Ev.bin (x := .int ((dg (2 ^ w) M).getD (k : Int).toNat 0 - c)) (y := .int ((dg (2 ^ w) N).getD k 0)) ?_ ?_ BinTo.sub) ?_
    · repeat' w_left
      (first | lia | omega)
    · refine Ev.ife (c := decide ((k : Int) < ((dg (2 ^ w) N).length : Int))) (by repeat' w_left) (fun h => ?_) (fun h => ?_)
      · simp only [decide_eq_true_eq] at h
        refine Ev.conv (l := .int ((dg (2 ^ w) N).getD (k : Int).toNat 0)) ?_ (by rw [Int.toNat_natCast])
        repeat' w_left
        exact h
      · simp only [decide_eq_false_iff_not] at h
        rw [getD_far (by (first | lia | omega))]
        repeat' w_left
    · generalize hx : (dg (2 ^ w) M).getD (k : Int).toNat 0 - c - (dg (2 ^ w) N).getD k 0 = x
      rw [Int.toNat_natCast, ha, hb] at hx
      repeat' w_left
      all_goals try first | (first | lia | omega) | (unfold LIM; simp only; (first | lia | omega))
      refine Ex.nil ⟨(f ++ [if x < 0 then x + 2 ^ w else x], if x < 0 then 1 else 0), ⟨by simp [hl], hf.snoc ?_ ?_, ?_, ?_, ?_⟩, Le.of ?_ ⟨rfl, rfl, rfl, ?_, rfl, trivial⟩⟩
      · rw [← hcW]; split <;> (first | lia | omega)
      · rw [← hcW]; split <;> (first | lia | omega)
      · show (0 : Int) ≤ if x < 0 then 1 else 0
        split <;> decide
      · show (if x < 0 then (1 : Int) else 0) ≤ 1
        split <;> decide
      · rw [val_snoc, hl, mod_stepI, mod_stepI, Int.pow_succ, ← hcW]
        have e : ∀ u v p : Int, val (2 ^ w) f + p * u - v * (p * ((2 ^ w : Nat) : Int)) = val (2 ^ w) f + (u - v * ((2 ^ w : Nat) : Int)) * p := fun u v p => by
          rw [Int.sub_mul, Int.mul_comm p u, ← Int.mul_assoc v p, Int.mul_comm v p, Int.mul_assoc p v, Int.mul_comm p]; (first | lia | omega)
        rw [e]
        have e2 : ((if x < 0 then x + ((2 ^ w : Nat) : Int) else x) - (if x < 0 then 1 else 0) * ((2 ^ w : Nat) : Int)) = x := by split <;> (first | lia | omega)
        rw [e2, ← hx, Int.sub_mul, Int.sub_mul]
        (first | lia | omega)
      · simp only [decide_eq_true_eq]; try rfl
      · simp only [decide_eq_true_eq]; try rfl
  · rintro ⟨f, c⟩ ⟨hl, hf, hc0, hc1, hv⟩
    simp only at hl hf hc0 hc1 hv
    rw [Nat.mod_eq_of_lt hMlt, Nat.mod_eq_of_lt (by (first | lia | omega))] at hv
    have hlt := val_lt hD hf
    rw [hl] at hlt
    have hc : c = 0 := by
      refine Int.le_antisymm (Int.not_lt.mp fun h => ?_) hc0
      have : c = 1 := by (first | lia | omega)
      subst this
      (first | lia | omega)
    subst hc
    refine Ex.ret (lv := .list (nrm f)) (by repeat' w_left) (congrArg LV.list ?_)
    exact nrm_val hD hf (by (first | lia | omega))

/-! W4 -/
theorem zeros_dg {D : Nat} (hD : 2 ≤ D) {N : Nat} (h : 0 < N) (s : Nat) : List.replicate s 0 ++ dg D N = dg D (N * D ^ s) := by
  refine dg_of hD ((Dig.zeros hD s).append (dig_dg hD N)) ?_ ?_
  · rw [val_append, val_zeros, val_dg hD, List.length_replicate, Int.natCast_mul, pow_cast, Int.zero_add, Int.mul_comm]
  · intro l e
    rw [List.length_append, List.length_replicate] at e
    have hpos : 0 < (dg D N).length := (length_pos_dg hD).mpr h
    have h1 := (lt_length_dg hD (l - s) N).mp (by (first | lia | omega))
    have : D ^ l = D ^ (l - s) * D ^ s := by rw [← Nat.pow_add]; exact congrArg _ (by (first | lia | omega))
    rw [this]
    exact Nat.mul_le_mul_right _ h1
theorem take_cat_dg {D : Nat} (hD : 2 ≤ D) {M K : Nat} {s : Nat} (hs : s ≤ (dg D M).length) (h : 0 < K) : (dg D M).take s ++ dg D K = dg D (M % D ^ s + K * D ^ s) := by
  refine dg_of hD (((dig_dg hD M).take s).append (dig_dg hD K)) ?_ ?_
  · rw [val_append, val_take_dg hD, val_dg hD, List.length_take, Nat.min_eq_left hs, Int.natCast_add, Int.natCast_mul, pow_cast, Int.mul_comm ((D : Int) ^ s)]
  · intro l e
    rw [List.length_append, List.length_take, Nat.min_eq_left hs] at e
    have hpos : 0 < (dg D K).length := (length_pos_dg hD).mpr h
    have h1 := (lt_length_dg hD (l - s) K).mp (by (first | lia | omega))
    have : D ^ l = D ^ (l - s) * D ^ s := by rw [← Nat.pow_add]; exact congrArg _ (by (first | lia | omega))
    rw [this]
    exact Nat.le_trans (Nat.mul_le_mul_right _ h1) (Nat.le_add_left _ _)

theorem rec_lifted {B : Base} (a : Amb B) : Rec B (rc 5) ["a", "spot"] := .of (a.mem 5 (by decide)) (by decide +kernel) fun _ _ _ => ar2 fun _ _ => rfl

theorem lifted_to {B : Base} (a : Amb B) (d : Nat) {D : Nat} (hD : 2 ≤ D) (N : Nat) (s : Int) (h0 : 0 ≤ s) (hs : s + (dg D N).length ≤ LIM) : CallTo B (d + 1) "lifted" [.list (dg D N), .int s] (.list (dg D (N * D ^ s.toNat))) := by
  obtain ⟨k, rfl⟩ := Int.eq_ofNat_of_zero_le h0
  unfold LIM at hs
  show CallTo B (d + 1) (rc 5).name _ _
  have r := rec_lifted a
  refine CallTo.body r rfl ?_
  have l_a : Loc r.cx "a" 0 := r.lc (by decide +kernel)
  have l_spot : Loc r.cx "spot" 1 := r.lc (by decide +kernel)
  have b_len : Blt r.cx "len" (.builtin "len") := r.bl (by decide +kernel) a.len (by decide +kernel) (by rfl)
  show Ex _ _ { σ := [some (.list (dg D N)), some (.int (k : Nat)), .none] } _ _ _
  refine Ex.start rfl ?_
  refine Ex.ret (lv := .list (dg D (N * D ^ k))) (Ev.ife (c := decide ((0 : Int) < (dg D N).length)) (by repeat' w_left) (fun h => ?_) (fun h => ?_)) (by rw [Int.toNat_natCast])
  · simp only [decide_eq_true_eq] at h
    have hN : 0 < N := Nat.pos_of_ne_zero fun e => by subst e; rw [dg_zero] at h; simp at h
    refine Ev.conv (l := .list ((List.replicate k [(0 : Int)]).flatten ++ dg D N)) ?_ (by rw [List.flatten_replicate_singleton, zeros_dg hD hN])
    repeat' w_left
    all_goals (unfold LIM; first | (first | lia | omega) | (simp; (first | lia | omega)))
  · simp only [decide_eq_false_iff_not] at h
    have hN : N = 0 := Nat.eq_zero_of_not_pos fun e => h (by have := (length_pos_dg hD).mpr e; (first | lia | omega))
    subst hN
    rw [Nat.zero_mul, dg_zero]
    repeat' w_left

theorem rec_add_at {B : Base} (a : Amb B) : Rec B (rc 6) ["a", "b", "spot", "w"] := .of (a.mem 6 (by decide)) (by decide +kernel) fun _ _ _ => ar4 fun _ _ _ _ => rfl

theorem add_at_to {B : Base} (a : Amb B) (d : Nat) {w : Nat} (hw : 1 ≤ w) (hw' : w ≤ 9) (M N : Nat) (s : Int) (h0 : 0 ≤ s) (hM : (dg (2 ^ w) M).length + (dg (2 ^ w) N).length + s ≤ 100000) : CallTo B (d + 2) "add_at" [.list (dg (2 ^ w) M), .list (dg (2 ^ w) N), .int s, .int w] (.list (dg (2 ^ w) (M + N * (2 ^ w) ^ s.toNat))) := by
  have hD := two_leW hw
  obtain ⟨k, rfl⟩ := Int.eq_ofNat_of_zero_le h0
  show CallTo B (d + 1 + 1) (rc 6).name _ _
  have r := rec_add_at a
  refine CallTo.body r rfl ?_
  have l_a : Loc r.cx "a" 0 := r.lc (by decide +kernel)
  have l_b : Loc r.cx "b" 1 := r.lc (by decide +kernel)
  have l_spot : Loc r.cx "spot" 2 := r.lc (by decide +kernel)
  have l_w : Loc r.cx "w" 3 := r.lc (by decide +kernel)
  have b_len : Blt r.cx "len" (.builtin "len") := r.bl (by decide +kernel) a.len (by decide +kernel) (by rfl)
  have g_add : Glb r.cx "add" := r.gl (by decide +kernel)
  have f_add : Fun r.cx.toBase "add" := a.fn 3 (by decide) (by rfl)
  obtain ⟨a_add, m_add⟩ : ∃ fa, r.cx.mg "add" = some (.ref fa) := a.mg 3 (by decide) (by rfl)
  have hdl : (dg (2 ^ w) (M / (2 ^ w) ^ k)).length ≤ (dg (2 ^ w) M).length := by rw [← drop_dg hD, List.length_drop]; (first | lia | omega)
  have c_add : ∀ x, x = (k : Int).toNat → CallTo r.cx.toBase (d + 1) "add" [.list (dg (2 ^ w) (M / (2 ^ w) ^ x)), .list (dg (2 ^ w) N), .int w] (.list (dg (2 ^ w) (M / (2 ^ w) ^ k + N))) := by
    intro x e
    rw [Int.toNat_natCast] at e
    subst e
    exact add_to a d hw hw' _ _ (by unfold LIM; (first | lia | omega)) (by unfold LIM; (first | lia | omega))
  show Ex _ _ { σ := [some (.list (dg (2 ^ w) M)), some (.list (dg (2 ^ w) N)), some (.int (k : Nat)), some (.int w), .none, .none] } _ _ _
  rw [Int.toNat_natCast]
  refine Ex.start rfl ?_
  refine Ex.ite (c := decide (((dg (2 ^ w) N).length : Int) = 0)) (by repeat' w_left) (fun h => ?_) (fun h => Ex.nil ?_)
  · simp only [decide_eq_true_eq] at h
    have hN : N = 0 := (dg_nil hD).mp (List.length_eq_zero_iff.mp (by (first | lia | omega)))
    subst hN
    repeat' w_left
    rw [Nat.zero_mul, Nat.add_zero]
  simp only [decide_eq_false_iff_not] at h
  have hN : 0 < N := Nat.pos_of_ne_zero fun e => by subst e; rw [dg_zero] at h; simp at h
  refine Ex.ite (c := decide (((dg (2 ^ w) M).length : Int) ≤ k)) (by repeat' w_left) (fun h => ?_) (fun h => Ex.nil ?_)
  · simp only [decide_eq_true_eq] at h
    refine Ex.ret (lv := .list (dg (2 ^ w) M ++ List.replicate (k - (dg (2 ^ w) M).length) 0 ++ dg (2 ^ w) N)) ?_ (congrArg LV.list ?_)
    · refine Ev.bin (x := .list (dg (2 ^ w) M ++ List.replicate (k - (dg (2 ^ w) M).length) 0)) (Ev.bin (x := .list (dg (2 ^ w) M)) (y := .list (List.replicate (k - (dg (2 ^ w) M).length) 0)) (by repeat' w_left) ?_ (BinTo.cat ?_)) (by repeat' w_left) (BinTo.cat ?_)
      · refine Ev.bin (x := .list [0]) (y := .int ((k - (dg (2 ^ w) M).length : Nat) : Int)) (by repeat' w_left) ?_ ?_
        · refine Ev.conv (l := .int ((k : Int) - (dg (2 ^ w) M).length)) (by repeat' w_left) (congrArg LV.int (by (first | lia | omega)))
        · have := BinTo.repeat (x := [0]) (k := k - (dg (2 ^ w) M).length) (by simp [LIM]; (first | lia | omega)) (by unfold LIM; (first | lia | omega))
          rwa [List.flatten_replicate_singleton] at this
      · simp [LIM]; (first | lia | omega)
      · simp [LIM]; (first | lia | omega)
    · have hk : (dg (2 ^ w) M).length ≤ k := by (first | lia | omega)
      have e1 : dg (2 ^ w) M ++ List.replicate (k - (dg (2 ^ w) M).length) 0 ++ dg (2 ^ w) N = (dg (2 ^ w) M).take (dg (2 ^ w) M).length ++ dg (2 ^ w) (N * (2 ^ w) ^ (k - (dg (2 ^ w) M).length)) := by
        rw [List.take_length, ← zeros_dg hD hN, List.append_assoc]
      rw [e1, take_cat_dg hD (Nat.le_refl _) (Nat.mul_pos hN (Nat.pow_pos (by (first | lia | omega)))), Nat.mod_eq_of_lt (lt_pow_length hD M), Nat.mul_assoc, ← Nat.pow_add]
      refine congrArg _ (congrArg _ (congrArg _ (congrArg _ ?_)))
      (first | lia | omega)
  · simp only [decide_eq_false_iff_not] at h
    refine Ex.ret (lv := .list ((dg (2 ^ w) M).take (k : Int).toNat ++ dg (2 ^ w) (M / (2 ^ w) ^ k + N))) ?_ (congrArg LV.list ?_)
    · refine' Ev.bin (x := .list ((dg (2 ^ w) M).take (k : Int).toNat)) (y := .list (dg (2 ^ w) (M / (2 ^ w) ^ k + N))) (by repeat' w_left) ?_ (BinTo.cat ?_)
      · repeat' w_left
        rfl
      · have hb : (dg (2 ^ w) (M / (2 ^ w) ^ k + N)).length ≤ (dg (2 ^ w) M).length + (dg (2 ^ w) N).length + 1 := by
          refine Nat.le_trans (length_add hD (l := (dg (2 ^ w) M).length + (dg (2 ^ w) N).length) (by (first | lia | omega)) (by (first | lia | omega))) (by (first | lia | omega))
        rw [List.length_take]
        unfold LIM; (first | lia | omega)
    · rw [Int.toNat_natCast, take_cat_dg hD (by (first | lia | omega)) (Nat.add_pos_right _ hN), Nat.add_mul]
      have := Nat.mod_add_div M ((2 ^ w) ^ k)
      rw [Nat.mul_comm] at this
      refine congrArg _ ?_
      (first | lia | omega)

/-! W5 -/
theorem bitOr_low {k : Nat} {x y : Nat} (h : x < 2 ^ k) : Builtin.bitOr (x : Int) ((y : Int) * 2 ^ k) = (x : Int) + (y : Int) * 2 ^ k := by
  have hc : ((y : Int) * 2 ^ k) = ((2 ^ k * y : Nat) : Int) := by rw [Int.natCast_mul, Int.mul_comm]; simp
  rw [hc, bitOr_and, bitAnd_pp (Int.natCast_nonneg _) (Int.natCast_nonneg _), Int.toNat_natCast, Int.toNat_natCast]
  have h1 := nat_or_add_and x (2 ^ k * y)
  have h2 := Nat.two_pow_add_eq_or_of_lt h y
  rw [Nat.or_comm] at h2
  (first | lia | omega)
theorem intBits_small {x : Int} {k : Nat} (h0 : 0 ≤ x) (h : x < 2 ^ k) : Builtin.Int.intBits x ≤ k := by
  refine PySem.intBits_le_iff.mpr ?_
  have : ((2 ^ k : Nat) : Int) = 2 ^ k := by simp
  (first | lia | omega)
theorem half_digit {H D : Nat} (hD : D = 2 * H) (hH : 1 ≤ H) (Q : Nat) : (Q % D / 2 + Q / D % D * H) % D = Q / 2 % D := by
  have e1 := Nat.mod_add_div Q D
  have e2 := Nat.mod_add_div (Q / D) D
  have e3 : Q / 2 = Q % D / 2 + H * (Q / D) := by
    have : Q = Q % D + 2 * (H * (Q / D)) := by rw [← Nat.mul_assoc, ← hD]; (first | lia | omega)
    generalize H * (Q / D) = z at this ⊢
    (first | lia | omega)
  rw [e3]
  have e4 : H * (Q / D) = Q / D % D * H + D * (H * (Q / D / D)) := by
    conv => lhs; rw [← e2]
    rw [Nat.mul_add, Nat.mul_comm H, Nat.mul_left_comm]
  rw [e4, ← Nat.add_assoc, Nat.add_mul_mod_self_left]

theorem mul_bound {D A x : Nat} (hA : A < D) (hx : x < D) : A * x + 2 * D ≤ D * D + 1 := by
  obtain ⟨E, rfl⟩ : ∃ E, D = E + 1 := ⟨D - 1, by (first | lia | omega)⟩
  have h := Nat.mul_le_mul (show A ≤ E by (first | lia | omega)) (show x ≤ E by (first | lia | omega))
  have e : (E + 1) * (E + 1) = E * E + E + E + 1 := by rw [Nat.mul_add, Nat.add_mul]; (first | lia | omega)
  rw [e]
  (first | lia | omega)

theorem rec_shift_right {B : Base} (a : Amb B) : Rec B (rc 7) ["a", "n", "w"] := .of (a.mem 7 (by decide)) (by decide +kernel) fun _ _ _ => ar3 fun _ _ _ => rfl

theorem shift_right_to {B : Base} (a : Amb B) (d : Nat) {w : Nat} (hw : 2 ≤ w) (hw' : w ≤ 9) (N : Nat) (hN : (dg (2 ^ w) N).length ≤ LIM) : CallTo B (d + 2) "shift_right" [.list (dg (2 ^ w) N), .int 1, .int w] (.list (dg (2 ^ w) (N / 2))) := by
  have hD := two_leW (w := w) (by (first | lia | omega))
  have hcW := castW w
  have hD' := leW hw'
  show CallTo B (d + 1 + 1) (rc 7).name _ _
  have r := rec_shift_right a
  refine CallTo.body r rfl ?_
  have l_a : Loc r.cx "a" 0 := r.lc (by decide +kernel)
  have l_n : Loc r.cx "n" 1 := r.lc (by decide +kernel)
  have l_w : Loc r.cx "w" 2 := r.lc (by decide +kernel)
  have l_spots : Loc r.cx "spots" 3 := r.lc (by decide +kernel)
  have l_few : Loc r.cx "few" 4 := r.lc (by decide +kernel)
  have l_found : Loc r.cx "found" 5 := r.lc (by decide +kernel)
  have l_mask : Loc r.cx "mask" 6 := r.lc (by decide +kernel)
  have l_at : Loc r.cx "at" 7 := r.lc (by decide +kernel)
  have l_above : Loc r.cx "above" 8 := r.lc (by decide +kernel)
  have b_range : Blt r.cx "range" (.type "range") := r.bl (by decide +kernel) a.range (by decide +kernel) (by rfl)
  have b_len : Blt r.cx "len" (.builtin "len") := r.bl (by decide +kernel) a.len (by decide +kernel) (by rfl)
  have g_normal : Glb r.cx "normal" := r.gl (by decide +kernel)
  have f_normal : Fun r.cx.toBase "normal" := a.fn 0 (by decide) (by rfl)
  obtain ⟨a_normal, m_normal⟩ : ∃ fa, r.cx.mg "normal" = some (.ref fa) := a.mg 0 (by decide) (by rfl)
  have c_nrm : ∀ xs, CallTo r.cx.toBase (d + 1) "normal" [.list xs] (.list (nrm xs)) := normal_to a d
  show Ex _ _ { σ := [some (.list (dg (2 ^ w) N)), some (.int 1), some (.int w), .none, .none, .none, .none, .none, .none, .none, .none, .none] } _ _ _
  refine Ex.start rfl ?_
  generalize hla : (dg (2 ^ w) N).length = la at *
  have hNlt : N < (2 ^ w) ^ la := by rw [← hla]; exact lt_pow_length hD N
  unfold LIM at *
  refine Ex.tup2 (l1 := .int 0) (l2 := .int ((1 : Nat) : Int)) l_spots l_few rfl (Ev.conv (l := .int (1 / w)) (by repeat' w_left) (congrArg LV.int ?_)) (Ev.conv (l := .int (1 % w)) (by repeat' w_left) (congrArg LV.int ?_)) ?_
  · exact Int.ediv_eq_zero_of_lt (by decide) (by (first | lia | omega))
  · exact Int.emod_eq_of_lt (by decide) (by (first | lia | omega))
  refine Ex.tupOwn2 (xs := []) (l2 := .int (2 ^ w - 1)) l_found l_mask rfl EvNew.nil (by repeat' w_left) rfl ?_
  refine Ex.forR2 (lo := 0) (hi := la) (P := List Int) (fun p => { σ := [some (.list (dg (2 ^ w) N)), some (.int 1), some (.int w), some (.int 0), some (.int ((1 : Nat) : Int)), .none, some (.int (2 ^ w - 1)), .none, .none, .none, .none, .none], own := some (5, p) })
    (fun k p => p.length = k ∧ Dig (2 ^ w) p ∧ val (2 ^ w) p = (N / 2 % (2 ^ w) ^ k : Nat)) [] l_at b_range (by repeat' w_left) (by rw [← hla]; repeat' w_left) (by unfold LIM; (first | lia | omega)) (by unfold LIM; (first | lia | omega))
    ⟨rfl, .nil, by simp [val, Nat.mod_one]⟩ (Le.of rfl ⟨rfl, rfl, rfl, rfl, rfl, rfl, trivial⟩) (fun _ _ => rfl) ?_ ?_
  · rintro k f hk ⟨hl, hf, hv⟩
    simp only [Nat.zero_add] at hk ⊢
    have ha : (dg (2 ^ w) N).getD k 0 = ((N / (2 ^ w) ^ k % 2 ^ w : Nat) : Int) := getD_dg hD _ _
    have hb : (dg (2 ^ w) N).getD (k + 1) 0 = ((N / (2 ^ w) ^ k / 2 ^ w % 2 ^ w : Nat) : Int) := by rw [getD_dg hD, Nat.pow_succ, Nat.div_div_eq_div_mul]
    have h1 := Nat.mod_lt (N / (2 ^ w) ^ k) (show 0 < 2 ^ w by (first | lia | omega))
    have h2 := Nat.mod_lt (N / (2 ^ w) ^ k / 2 ^ w) (show 0 < 2 ^ w by (first | lia | omega))
    obtain ⟨w', rfl⟩ : ∃ w', w = w' + 1 := ⟨w - 1, by (first | lia | omega)⟩
    have hW2 : 2 ^ (w' + 1) = 2 * 2 ^ w' := by rw [Nat.pow_succ, Nat.mul_comm]
    refine Ex.assign (lv := .int ((dg (2 ^ (w' + 1)) N).getD (k + 1) 0)) l_above ?_ ?_
    · refine Ev.ife (c := decide ((k : Int) + 1 < (la : Int))) (by rw [← hla]; repeat' w_left) (fun h => ?_) (fun h => ?_)
      · simp only [decide_eq_true_eq] at h
        refine Ev.conv (l := .int ((dg (2 ^ (w' + 1)) N).getD ((k : Int) + 1).toNat 0)) ?_ (by rw [show ((k : Int) + 1).toNat = k + 1 by (first | lia | omega)])
        repeat' w_left
        (first | lia | omega)
      · simp only [decide_eq_false_iff_not] at h
        rw [getD_far (by (first | lia | omega))]
        repeat' w_left
    · repeat' w_left
      all_goals try first | (first | lia | omega) | (unfold LIM; simp only; (first | lia | omega))
      · have := intBits_small (k := 9) (x := (dg (2 ^ (w' + 1)) N).getD (k + 1) 0) (by rw [hb]; (first | lia | omega)) (by rw [hb]; (first | lia | omega))
        (first | lia | omega)
      · have e0 : (((w' + 1 : Nat) : Int) - ((1 : Nat) : Int)).toNat = w' := by (first | lia | omega)
        rw [e0, Int.toNat_natCast, ha, hb]
        have e1 : ((N / (2 ^ (w' + 1)) ^ k % 2 ^ (w' + 1) : Nat) : Int) / 2 ^ 1 = ((N / (2 ^ (w' + 1)) ^ k % 2 ^ (w' + 1) / 2 : Nat) : Int) := by (first | lia | omega)
        have hlt : N / (2 ^ (w' + 1)) ^ k % 2 ^ (w' + 1) / 2 < 2 ^ w' := by (first | lia | omega)
        have e2 := half_digit hW2 (Nat.pow_pos (by decide)) (N / (2 ^ (w' + 1)) ^ k)
        rw [e1, bitOr_low hlt]
        have e3 : (((N / (2 ^ (w' + 1)) ^ k % 2 ^ (w' + 1) / 2 : Nat) : Int) + ((N / (2 ^ (w' + 1)) ^ k / 2 ^ (w' + 1) % 2 ^ (w' + 1) : Nat) : Int) * 2 ^ w') % 2 ^ (w' + 1) = ((N / 2 / (2 ^ (w' + 1)) ^ k % 2 ^ (w' + 1) : Nat) : Int) := by
          rw [← castW, ← castW, ← Int.natCast_mul, ← Int.natCast_add, ← Int.natCast_emod, e2, Nat.div_div_eq_div_mul, Nat.div_div_eq_div_mul, Nat.mul_comm]
        rw [e3]
        refine Ex.nil ⟨_, ⟨?_, hf.snoc (x := ((N / 2 / (2 ^ (w' + 1)) ^ k % 2 ^ (w' + 1) : Nat) : Int)) (by (first | lia | omega)) ?_, ?_⟩, Le.of rfl ⟨rfl, rfl, rfl, rfl, rfl, rfl, trivial⟩⟩
        · simp [hl]
        · have := Nat.mod_lt (N / 2 / (2 ^ (w' + 1)) ^ k) (show 0 < 2 ^ (w' + 1) by (first | lia | omega))
          (first | lia | omega)
        · rw [val_snoc, hl, mod_stepI (2 ^ (w' + 1)) (N / 2) k, hv, Int.mul_comm]
  · rintro f ⟨hl, hf, hv⟩
    rw [Nat.sub_zero, Nat.mod_eq_of_lt (by (first | lia | omega))] at hv
    refine Ex.ret (lv := .list (nrm f)) (by repeat' w_left) (congrArg LV.list ?_)
    exact nrm_val hD hf hv

theorem rec_cut_for {B : Base} (a : Amb B) : Rec B (rc 9) ["n"] := .of (a.mem 9 (by decide)) (by decide +kernel) fun _ _ _ => ar1 fun _ => rfl
theorem cut_for_to {B : Base} (a : Amb B) (d : Nat) (n : Int) : CallTo B (d + 1) "cut_for" [.int n] (.int (min ((7 * n + 9) / 10) (n - 1))) := by
  show CallTo B (d + 1) (rc 9).name _ _
  have r := rec_cut_for a
  refine CallTo.body r rfl ?_
  have l_n : Loc r.cx "n" 0 := r.lc (by decide +kernel)
  have b_min : Blt r.cx "min" (.builtin "min") := r.bl (by decide +kernel) a.min (by decide +kernel) (by rfl)
  show Ex _ _ { σ := [some (.int n), .none] } _ _ _
  refine Ex.start rfl ?_
  repeat' w_left
  · exact IntMulOk.small (by decide)
  · rfl

theorem rec_high_spread {B : Base} (a : Amb B) : Rec B (rc 15) ["n", "w"] := .of (a.mem 15 (by decide)) (by decide +kernel) fun _ _ _ => ar2 fun _ _ => rfl
theorem high_spread_to {B : Base} (a : Amb B) (d : Nat) (n : Int) (w : Nat) : CallTo B (d + 1) "high_spread" [.int n, .int w] (.int (n + n / 2 ^ w + 1)) := by
  show CallTo B (d + 1) (rc 15).name _ _
  have r := rec_high_spread a
  refine CallTo.body r rfl ?_
  have l_n : Loc r.cx "n" 0 := r.lc (by decide +kernel)
  have l_w : Loc r.cx "w" 1 := r.lc (by decide +kernel)
  show Ex _ _ { σ := [some (.int n), some (.int w)] } _ _ _
  refine Ex.start rfl ?_
  repeat' w_left
  rfl

theorem rec_times_limb {B : Base} (a : Amb B) : Rec B (rc 12) ["a", "limb", "w"] := .of (a.mem 12 (by decide)) (by decide +kernel) fun _ _ _ => ar3 fun _ _ _ => rfl

theorem times_limb_to {B : Base} (a : Amb B) (d : Nat) {w : Nat} (hw : 1 ≤ w) (hw' : w ≤ 9) (N x : Nat) (hx : x < 2 ^ w) (hN : (dg (2 ^ w) N).length < LIM) : CallTo B (d + 2) "times_limb" [.list (dg (2 ^ w) N), .int x, .int w] (.list (dg (2 ^ w) (N * x))) := by
  have hD := two_leW hw
  have hcW := castW w
  have hD' := leW hw'
  show CallTo B (d + 1 + 1) (rc 12).name _ _
  have r := rec_times_limb a
  refine CallTo.body r rfl ?_
  have l_a : Loc r.cx "a" 0 := r.lc (by decide +kernel)
  have l_limb : Loc r.cx "limb" 1 := r.lc (by decide +kernel)
  have l_w : Loc r.cx "w" 2 := r.lc (by decide +kernel)
  have l_found : Loc r.cx "found" 3 := r.lc (by decide +kernel)
  have l_carry : Loc r.cx "carry" 4 := r.lc (by decide +kernel)
  have l_mask : Loc r.cx "mask" 5 := r.lc (by decide +kernel)
  have l_one : Loc r.cx "one" 6 := r.lc (by decide +kernel)
  have g_normal : Glb r.cx "normal" := r.gl (by decide +kernel)
  have f_normal : Fun r.cx.toBase "normal" := a.fn 0 (by decide) (by rfl)
  obtain ⟨a_normal, m_normal⟩ : ∃ fa, r.cx.mg "normal" = some (.ref fa) := a.mg 0 (by decide) (by rfl)
  have c_nrm : ∀ xs, CallTo r.cx.toBase (d + 1) "normal" [.list xs] (.list (nrm xs)) := normal_to a d
  show Ex _ _ { σ := [some (.list (dg (2 ^ w) N)), some (.int x), some (.int w), .none, .none, .none, .none, .none] } _ _ _
  refine Ex.start rfl ?_
  generalize hla : (dg (2 ^ w) N).length = la at *
  have hNlt : N < (2 ^ w) ^ la := by rw [← hla]; exact lt_pow_length hD N
  unfold LIM at *
  refine Ex.tupOwn3 (xs := []) (l2 := .int 0) (l3 := .int (2 ^ w - 1)) l_found l_carry l_mask rfl EvNew.nil Ev.int (by repeat' w_left) rfl rfl ?_
  refine Ex.forVar (P := List Int × Int) (fun p => { σ := [some (.list (dg (2 ^ w) N)), some (.int x), some (.int w), .none, some (.int p.2), some (.int (2 ^ w - 1)), .none, .none], own := some (3, p.1) })
    (fun k p => p.1.length = k ∧ Dig (2 ^ w) p.1 ∧ 0 ≤ p.2 ∧ p.2 < ((2 ^ w : Nat) : Int) ∧ val (2 ^ w) p.1 + p.2 * ((2 ^ w : Nat) : Int) ^ k = (N % (2 ^ w) ^ k : Nat) * (x : Int)) ([], 0) l_one l_a rfl
    ⟨rfl, .nil, by decide, by simp only; (first | lia | omega), by simp [val, Nat.mod_one]⟩ (Le.of rfl ⟨rfl, rfl, rfl, rfl, rfl, trivial⟩) (fun _ _ => rfl) ?_ ?_
  · rintro k ⟨f, c⟩ hk ⟨hl, hf, hc0, hc1, hv⟩
    simp only at hl hf hc0 hc1 hv
    have ha : (dg (2 ^ w) N).getD k 0 = ((N / (2 ^ w) ^ k % 2 ^ w : Nat) : Int) := getD_dg hD _ _
    have h1 := Nat.mod_lt (N / (2 ^ w) ^ k) (show 0 < 2 ^ w by (first | lia | omega))
    rw [ha]
    generalize hA : N / (2 ^ w) ^ k % 2 ^ w = A at *
    repeat' w_left
    all_goals try first | (first | lia | omega) | (unfold LIM; simp only; (first | lia | omega))
    · exact IntMulOk.small (by (first | lia | omega))
    obtain ⟨q1, q2⟩ := place_step hD (c' := c + (A : Int) * x) hf hl hv
    have hp := mul_bound h1 hx
    have hAx : (A : Int) * x = ((A * x : Nat) : Int) := (Int.natCast_mul _ _).symm
    refine Ex.nil ⟨(f ++ [(c + (A : Int) * x) % ((2 ^ w : Nat) : Int)], (c + (A : Int) * x) / ((2 ^ w : Nat) : Int)), ⟨by simp [hl], q1, ?_, ?_, ?_⟩, Le.of ?_ ⟨rfl, rfl, rfl, ?_, rfl, trivial⟩⟩
    · exact Int.ediv_nonneg (by rw [hAx]; (first | lia | omega)) (by (first | lia | omega))
    · refine Int.ediv_lt_of_lt_mul (by (first | lia | omega)) ?_
      rw [hAx, ← Int.natCast_mul]
      generalize A * x = z at *
      generalize 2 ^ w * 2 ^ w = y at *
      (first | lia | omega)
    · rw [q2, mod_stepI, hA, Int.add_comm c, Int.add_sub_cancel, Int.add_mul, Int.mul_assoc, Int.mul_assoc, Int.mul_comm (x : Int)]
    · simp only [hcW]; rfl
    · simp only [hcW]
  · rintro ⟨f, c⟩ ⟨hl, hf, hc0, hc1, hv⟩
    simp only at hl hf hc0 hc1 hv
    rw [hla] at hl hv
    rw [Nat.mod_eq_of_lt hNlt] at hv
    refine Ex.ret (lv := .list (nrm (f ++ [c]))) ?_ (congrArg LV.list ?_)
    · repeat' w_left
      simp [LIM]; (first | lia | omega)
    · refine nrm_val hD (hf.snoc hc0 hc1) ?_
      rw [val_snoc, hl, Int.natCast_mul, ← hv, Int.mul_comm c]

/-! W6 -/
/-- one place of a row: what is stored and carried on -/
theorem mac_step {D : Nat} (hD : 2 ≤ D) {f : List Int} {p A X : Nat} {c t V : Int} (hf : Dig D f) (hp : p < f.length) (hA : A < D) (hX : X < D) (hc0 : 0 ≤ c) (hc1 : c < D) (ht : t = c + (f.getD p 0 + (A : Int) * X)) (hv : val D f + c * (D : Int) ^ p = V) :
    Dig D (f.set p (t % D)) ∧ 0 ≤ t / D ∧ t / (D : Int) < D ∧ val D (f.set p (t % D)) + t / D * (D : Int) ^ (p + 1) = V + (A : Int) * X * (D : Int) ^ p := by
  have hx := hf.getD hD p
  have hb := mul_bound hA hX
  have hAX : (A : Int) * X = ((A * X : Nat) : Int) := (Int.natCast_mul _ _).symm
  refine ⟨hf.set p (Int.emod_nonneg _ (by (first | lia | omega))) (Int.emod_lt_of_pos _ (by (first | lia | omega))), ?_, ?_, ?_⟩
  · exact Int.ediv_nonneg (by rw [ht, hAX]; (first | lia | omega)) (by (first | lia | omega))
  · refine Int.ediv_lt_of_lt_mul (by (first | lia | omega)) ?_
    rw [ht, hAX, ← Int.natCast_mul]
    generalize A * X = z at *
    generalize D * D = y at *
    (first | lia | omega)
  · rw [val_set D f p _ hp, Int.pow_succ, ← hv]
    have e := Int.emod_add_mul_ediv t D
    have e2 : t / (D : Int) * ((D : Int) ^ p * D) = (D * (t / D)) * (D : Int) ^ p := by rw [Int.mul_comm ((D : Int) ^ p), ← Int.mul_assoc, Int.mul_comm (t / (D : Int))]
    rw [e2, Int.add_assoc, ← Int.add_mul, show t % (D : Int) - f.getD p 0 + D * (t / D) = c + (A : Int) * X by (first | lia | omega), Int.add_mul, Int.add_assoc]

theorem low_close {D n i M N A V q : Nat} (hA : A = M / D ^ i % D) (hV : V < D ^ n) (h : V + q * D ^ n = (M % D ^ i) * N % D ^ n + A * N * D ^ i) : V = (M % D ^ (i + 1)) * N % D ^ n := by
  have e : (M % D ^ (i + 1)) * N = (M % D ^ i) * N + A * N * D ^ i := by
    rw [Nat.mod_pow_succ, Nat.add_mul, hA]
    congr 1
    rw [Nat.mul_comm (D ^ i), Nat.mul_right_comm]
  have h2 := congrArg (· % D ^ n) h
  simp only [Nat.add_mul_mod_self_right, Nat.mod_add_mod] at h2
  rw [e, ← h2, Nat.mod_eq_of_lt hV]

theorem getD_set_ne {f : List Int} {p j : Nat} {y : Int} (h : j ≠ p) : (f.set p y).getD j 0 = f.getD j 0 := by
  rw [List.getD_eq_getElem?_getD, List.getD_eq_getElem?_getD, List.getElem?_set_ne (Ne.symm h)]

theorem rec_low_school {B : Base} (a : Amb B) : Rec B (rc 8) ["a", "b", "n", "w"] := .of (a.mem 8 (by decide)) (by decide +kernel) fun _ _ _ => ar4 fun _ _ _ _ => rfl

theorem low_school_to {B : Base} (a : Amb B) (d : Nat) {w : Nat} (hw : 1 ≤ w) (hw' : w ≤ 9) (M N n : Nat) (hM : (dg (2 ^ w) M).length ≤ 100000) (hN : (dg (2 ^ w) N).length ≤ 100000) (hn : n ≤ 100000) : CallTo B (d + 2) "low_school" [.list (dg (2 ^ w) M), .list (dg (2 ^ w) N), .int n, .int w] (.list (dg (2 ^ w) (M * N % (2 ^ w) ^ n))) := by
  have hD := two_leW hw
  have hcW := castW w
  have hD' := leW hw'
  show CallTo B (d + 1 + 1) (rc 8).name _ _
  have r := rec_low_school a
  refine CallTo.body r rfl ?_
  have l_a : Loc r.cx "a" 0 := r.lc (by decide +kernel)
  have l_b : Loc r.cx "b" 1 := r.lc (by decide +kernel)
  have l_n : Loc r.cx "n" 2 := r.lc (by decide +kernel)
  have l_w : Loc r.cx "w" 3 := r.lc (by decide +kernel)
  have l_found : Loc r.cx "found" 4 := r.lc (by decide +kernel)
  have l_mask : Loc r.cx "mask" 5 := r.lc (by decide +kernel)
  have l_at : Loc r.cx "at" 6 := r.lc (by decide +kernel)
  have l_carry : Loc r.cx "carry" 7 := r.lc (by decide +kernel)
  have l_end : Loc r.cx "end" 8 := r.lc (by decide +kernel)
  have l_spot : Loc r.cx "spot" 9 := r.lc (by decide +kernel)
  have b_range : Blt r.cx "range" (.type "range") := r.bl (by decide +kernel) a.range (by decide +kernel) (by rfl)
  have b_min : Blt r.cx "min" (.builtin "min") := r.bl (by decide +kernel) a.min (by decide +kernel) (by rfl)
  have b_len : Blt r.cx "len" (.builtin "len") := r.bl (by decide +kernel) a.len (by decide +kernel) (by rfl)
  have g_normal : Glb r.cx "normal" := r.gl (by decide +kernel)
  have f_normal : Fun r.cx.toBase "normal" := a.fn 0 (by decide) (by rfl)
  obtain ⟨a_normal, m_normal⟩ : ∃ fa, r.cx.mg "normal" = some (.ref fa) := a.mg 0 (by decide) (by rfl)
  have c_nrm : ∀ xs, CallTo r.cx.toBase (d + 1) "normal" [.list xs] (.list (nrm xs)) := normal_to a d
  show Ex _ _ { σ := [some (.list (dg (2 ^ w) M)), some (.list (dg (2 ^ w) N)), some (.int n), some (.int w), .none, .none, .none, .none, .none, .none, .none, .none, .none, .none] } _ _ _
  refine Ex.start rfl ?_
  generalize hla : (dg (2 ^ w) M).length = la at *
  generalize hlb : (dg (2 ^ w) N).length = lb at *
  have hMlt : M < (2 ^ w) ^ la := by rw [← hla]; exact lt_pow_length hD M
  have hNlt : N < (2 ^ w) ^ lb := by rw [← hlb]; exact lt_pow_length hD N
  refine Ex.tupOwn2 (xs := List.replicate n 0) (l2 := .int (2 ^ w - 1)) l_found l_mask rfl (by repeat' w_left) (by repeat' w_left) rfl ?_
  refine Ex.forR1 (n := min la n) (P := List Int) (fun p => { σ := [some (.list (dg (2 ^ w) M)), some (.list (dg (2 ^ w) N)), some (.int n), some (.int w), .none, some (.int (2 ^ w - 1)), .none, .none, .none, .none, .none, .none, .none, .none], own := some (4, p) })
    (fun k p => p.length = n ∧ Dig (2 ^ w) p ∧ val (2 ^ w) p = ((M % (2 ^ w) ^ k) * N % (2 ^ w) ^ n : Nat) ∧ ∀ j, k + lb ≤ j → p.getD j 0 = 0) (List.replicate n 0) l_at b_range (Ev.conv (l := .int (min (la : Int) n)) (by rw [← hla]; repeat' w_left) (congrArg LV.int (by (first | lia | omega)))) (by unfold LIM; (first | lia | omega))
    ⟨by simp, Dig.zeros hD n, by simp [val_zeros, Nat.mod_one], fun j _ => by by_cases hj : j < n <;> simp [List.getD_eq_getElem?_getD, hj]⟩ (Le.of rfl ⟨rfl, rfl, rfl, rfl, rfl, trivial⟩) (fun _ _ => rfl) ?_ ?_
  · rintro i f hi ⟨hl, hf, hv, hz⟩
    have hA : (dg (2 ^ w) M).getD i 0 = ((M / (2 ^ w) ^ i % 2 ^ w : Nat) : Int) := getD_dg hD _ _
    have hA1 := Nat.mod_lt (M / (2 ^ w) ^ i) (show 0 < 2 ^ w by (first | lia | omega))
    generalize hAA : M / (2 ^ w) ^ i % 2 ^ w = A at *
    refine Ex.tup2S (l1 := .int 0) (l2 := .int (min lb (n - i) : Nat)) l_carry l_end Ev.int (Ev.conv (l := .int (min (lb : Int) ((n : Int) - i))) (by rw [← hlb]; repeat' w_left) (congrArg LV.int (by (first | lia | omega)))) rfl rfl rfl ?_
    generalize he : min lb (n - i) = e
    refine Ex.forR1 (n := e) (P := List Int × Int) (fun p => { σ := [some (.list (dg (2 ^ w) M)), some (.list (dg (2 ^ w) N)), some (.int n), some (.int w), .none, some (.int (2 ^ w - 1)), some (.int i), some (.int p.2), some (.int e), .none, .none, .none, .none, .none], own := some (4, p.1) })
      (fun k p => p.1.length = n ∧ Dig (2 ^ w) p.1 ∧ 0 ≤ p.2 ∧ p.2 < ((2 ^ w : Nat) : Int) ∧ val (2 ^ w) p.1 + p.2 * ((2 ^ w : Nat) : Int) ^ (i + k) = ((M % (2 ^ w) ^ i) * N % (2 ^ w) ^ n : Nat) + (A : Int) * (N % (2 ^ w) ^ k : Nat) * ((2 ^ w : Nat) : Int) ^ i ∧ ∀ j, i + lb ≤ j → p.1.getD j 0 = 0) (f, 0)
      l_spot b_range (by repeat' w_left) (by unfold LIM; (first | lia | omega)) ⟨hl, hf, Int.le_refl _, by simp only; (first | lia | omega), by simp [Nat.mod_one, hv], hz⟩ (Le.of rfl ⟨rfl, rfl, rfl, rfl, rfl, rfl, rfl, rfl, trivial⟩) (fun _ _ => rfl) ?_ ?_
    · rintro k ⟨f, c⟩ hk ⟨hl, hf, hc0, hc1, hv, hz⟩
      simp only at hl hf hc0 hc1 hv hz
      have hX : (dg (2 ^ w) N).getD k 0 = ((N / (2 ^ w) ^ k % 2 ^ w : Nat) : Int) := getD_dg hD _ _
      have hX1 := Nat.mod_lt (N / (2 ^ w) ^ k) (show 0 < 2 ^ w by (first | lia | omega))
      generalize hXX : N / (2 ^ w) ^ k % 2 ^ w = X at *
      obtain ⟨q1, q2, q3, q4⟩ := mac_step hD hf (p := i + k) (by (first | lia | omega)) hA1 hX1 hc0 hc1 rfl hv
      repeat' w_left
      all_goals try first | (first | lia | omega) | (simp only; (first | lia | omega)) | (unfold LIM; simp only; (first | lia | omega))
      · rw [Int.toNat_natCast, hA]; exact IntMulOk.small (by (first | lia | omega))
      · have e1 : ((i : Int) + (k : Int)).toNat = i + k := by (first | lia | omega)
        rw [e1, Int.toNat_natCast, Int.toNat_natCast, hA, hX]
        refine Ex.nil ⟨(_, _), ⟨?_, q1, q2, q3, ?_, fun j hj => ?_⟩, Le.of ?_ ⟨rfl, rfl, rfl, rfl, rfl, rfl, ?_, rfl, trivial⟩⟩
        · simp [hl]
        · rw [show i + (k + 1) = i + k + 1 by (first | lia | omega), q4, mod_stepI, hXX, Int.mul_add, Int.add_mul, Int.add_assoc, Int.pow_add]
          congr 2
          rw [Int.mul_assoc, Int.mul_assoc, Int.mul_assoc, Int.mul_comm (((2 ^ w : Nat) : Int) ^ k)]
        · rw [getD_set_ne (by (first | lia | omega))]; exact hz j hj
        · simp only [hcW]; rfl
        · simp only [hcW]
    · rintro ⟨f, c⟩ ⟨hl, hf, hc0, hc1, hv, hz⟩
      simp only at hl hf hc0 hc1 hv hz
      refine Ex.ite (c := decide ((i : Int) + e < n)) (by repeat' w_left) (fun h => ?_) (fun h => ?_)
      · simp only [decide_eq_true_eq] at h
        have hee : e = lb := by (first | lia | omega)
        subst hee
        rw [Nat.mod_eq_of_lt hNlt] at hv
        repeat' w_left
        all_goals try first | (first | lia | omega) | (simp only; (first | lia | omega)) | (unfold LIM; simp only; (first | lia | omega))
        have e1 : ((i : Int) + (e : Int)).toNat = i + e := by (first | lia | omega)
        rw [e1]
        have hf' := hf.set (i + e) hc0 hc1
        have hv' := val_set (2 ^ w) f (i + e) c (by (first | lia | omega))
        rw [hz _ (Nat.le_refl _), Int.sub_zero, hv] at hv'
        refine Ex.nil (Ex.nil ⟨_, ⟨by simp [hl], hf', ?_, fun j hj => ?_⟩, Le.of rfl ⟨rfl, rfl, rfl, rfl, rfl, trivial⟩⟩)
        · obtain ⟨V, hV⟩ := Int.eq_ofNat_of_zero_le (val_nonneg hf')
          have hlt := val_lt hD hf'
          rw [hV, List.length_set, hl, ← pow_cast] at hlt
          rw [hV]
          rw [hV, ← pow_cast, ← Int.natCast_mul, ← Int.natCast_mul, ← Int.natCast_add] at hv'
          refine congrArg _ (low_close (q := 0) hAA.symm (by (first | lia | omega)) ?_)
          rw [Nat.zero_mul, Nat.add_zero]
          exact Int.ofNat.inj hv'
        · rw [getD_set_ne (by (first | lia | omega))]; exact hz j (by (first | lia | omega))
      · simp only [decide_eq_false_iff_not] at h
        refine Ex.nil (Ex.nil ⟨_, ⟨hl, hf, ?_, fun j hj => hz j (by (first | lia | omega))⟩, Le.of rfl ⟨rfl, rfl, rfl, rfl, rfl, trivial⟩⟩)
        have hee : i + e = n := by (first | lia | omega)
        obtain ⟨V, hV⟩ := Int.eq_ofNat_of_zero_le (val_nonneg hf)
        obtain ⟨cn, rfl⟩ := Int.eq_ofNat_of_zero_le hc0
        have hlt := val_lt hD hf
        rw [hV, hl, ← pow_cast] at hlt
        rw [hV]
        rw [hV, hee, ← pow_cast, ← pow_cast, ← Int.natCast_mul, ← Int.natCast_mul, ← Int.natCast_mul, ← Int.natCast_add, ← Int.natCast_add] at hv
        have hv2 : V + cn * (2 ^ w) ^ n = M % (2 ^ w) ^ i * N % (2 ^ w) ^ n + A * (N % (2 ^ w) ^ e) * (2 ^ w) ^ i := Int.ofNat.inj hv
        refine congrArg _ (low_close (q := cn + A * (N / (2 ^ w) ^ e)) hAA.symm (by (first | lia | omega)) ?_)
        have hsplit : A * N * (2 ^ w) ^ i = A * (N % (2 ^ w) ^ e) * (2 ^ w) ^ i + A * (N / (2 ^ w) ^ e) * (2 ^ w) ^ n := by
          conv => lhs; rw [← Nat.mod_add_div N ((2 ^ w) ^ e)]
          rw [Nat.mul_add, Nat.add_mul, ← hee, Nat.pow_add]
          congr 1
          simp only [Nat.mul_assoc, Nat.mul_comm, Nat.mul_left_comm]
        rw [hsplit, Nat.add_mul]
        (first | lia | omega)
  · rintro f ⟨hl, hf, hv, hz⟩
    refine Ex.ret (lv := .list (nrm f)) (by repeat' w_left) (congrArg LV.list ?_)
    refine nrm_val hD hf (hv.trans (congrArg _ ?_))
    by_cases h : la ≤ n
    · rw [Nat.min_eq_left h, Nat.mod_eq_of_lt hMlt]
    · rw [Nat.min_eq_right (by (first | lia | omega)), Nat.mod_mul_mod]

/-! W7 -/
theorem rec_law_mul {B : Base} (a : Amb B) : Rec B (rc 25) ["a", "b", "w"] := .of (a.mem 25 (by decide)) (by decide +kernel) fun _ _ _ => ar3 fun _ _ _ => rfl

theorem law_mul_to {B : Base} (a : Amb B) (d : Nat) {w : Nat} (hw : 1 ≤ w) (hw' : w ≤ 9) (M N : Nat) (hM : (dg (2 ^ w) M).length ≤ 100000) (hN : (dg (2 ^ w) N).length ≤ 100000) : CallTo B (d + 1) "_law_mul" [.list (dg (2 ^ w) M), .list (dg (2 ^ w) N), .int w] (.list (dg (2 ^ w) (M * N))) := by
  have hD := two_leW hw
  have hcW := castW w
  have hD' := leW hw'
  show CallTo B (d + 1) (rc 25).name _ _
  have r := rec_law_mul a
  refine CallTo.body r rfl ?_
  have l_a : Loc r.cx "a" 0 := r.lc (by decide +kernel)
  have l_b : Loc r.cx "b" 1 := r.lc (by decide +kernel)
  have l_w : Loc r.cx "w" 2 := r.lc (by decide +kernel)
  have l_found : Loc r.cx "found" 3 := r.lc (by decide +kernel)
  have l_at : Loc r.cx "at" 4 := r.lc (by decide +kernel)
  have l_carry : Loc r.cx "carry" 5 := r.lc (by decide +kernel)
  have l_spot : Loc r.cx "spot" 6 := r.lc (by decide +kernel)
  have b_len : Blt r.cx "len" (.builtin "len") := r.bl (by decide +kernel) a.len (by decide +kernel) (by rfl)
  have b_range : Blt r.cx "range" (.type "range") := r.bl (by decide +kernel) a.range (by decide +kernel) (by rfl)
  show Ex _ _ { σ := [some (.list (dg (2 ^ w) M)), some (.list (dg (2 ^ w) N)), some (.int w), .none, .none, .none, .none, .none, .none] } _ _ _
  refine Ex.start rfl ?_
  generalize hla : (dg (2 ^ w) M).length = la at *
  generalize hlb : (dg (2 ^ w) N).length = lb at *
  have hMlt : M < (2 ^ w) ^ la := by rw [← hla]; exact lt_pow_length hD M
  have hNlt : N < (2 ^ w) ^ lb := by rw [← hlb]; exact lt_pow_length hD N
  refine Ex.assignOwn (xs := List.replicate (la + lb) 0) l_found rfl (EvNew.zeros (Ev.conv (l := .int ((la : Int) + (lb : Int))) (by rw [← hla, ← hlb]; repeat' w_left) (congrArg LV.int (by (first | lia | omega)))) (by unfold LIM; (first | lia | omega))) ?_
  refine Ex.forR1 (n := la) (P := List Int) (fun p => { σ := [some (.list (dg (2 ^ w) M)), some (.list (dg (2 ^ w) N)), some (.int w), .none, .none, .none, .none, .none, .none], own := some (3, p) })
    (fun k p => p.length = la + lb ∧ Dig (2 ^ w) p ∧ val (2 ^ w) p = ((M % (2 ^ w) ^ k) * N : Nat) ∧ ∀ j, k + lb ≤ j → p.getD j 0 = 0) (List.replicate (la + lb) 0) l_at b_range (by rw [← hla]; repeat' w_left) (by unfold LIM; (first | lia | omega))
    ⟨by simp, Dig.zeros hD _, by simp [val_zeros, Nat.mod_one], fun j _ => by by_cases hj : j < la + lb <;> simp [List.getD_eq_getElem?_getD, hj]⟩ (Le.of rfl ⟨rfl, rfl, rfl, trivial⟩) (fun _ _ => rfl) ?_ ?_
  · rintro i f hi ⟨hl, hf, hv, hz⟩
    have hA : (dg (2 ^ w) M).getD i 0 = ((M / (2 ^ w) ^ i % 2 ^ w : Nat) : Int) := getD_dg hD _ _
    have hA1 := Nat.mod_lt (M / (2 ^ w) ^ i) (show 0 < 2 ^ w by (first | lia | omega))
    generalize hAA : M / (2 ^ w) ^ i % 2 ^ w = A at *
    refine Ex.assign (lv := .int 0) l_carry (by repeat' w_left) ?_
    refine Ex.forR1 (n := lb) (P := List Int × Int) (fun p => { σ := [some (.list (dg (2 ^ w) M)), some (.list (dg (2 ^ w) N)), some (.int w), .none, some (.int i), some (.int p.2), .none, .none, .none], own := some (3, p.1) })
      (fun k p => p.1.length = la + lb ∧ Dig (2 ^ w) p.1 ∧ 0 ≤ p.2 ∧ p.2 < ((2 ^ w : Nat) : Int) ∧ val (2 ^ w) p.1 + p.2 * ((2 ^ w : Nat) : Int) ^ (i + k) = ((M % (2 ^ w) ^ i) * N : Nat) + (A : Int) * (N % (2 ^ w) ^ k : Nat) * ((2 ^ w : Nat) : Int) ^ i ∧ ∀ j, i + lb ≤ j → p.1.getD j 0 = 0) (f, 0)
      l_spot b_range (by rw [← hlb]; repeat' w_left) (by unfold LIM; (first | lia | omega)) ⟨hl, hf, Int.le_refl _, by simp only; (first | lia | omega), by simp [Nat.mod_one, hv], hz⟩ (Le.of rfl ⟨rfl, rfl, rfl, rfl, rfl, trivial⟩) (fun _ _ => rfl) ?_ ?_
    · rintro k ⟨f, c⟩ hk ⟨hl, hf, hc0, hc1, hv, hz⟩
      simp only at hl hf hc0 hc1 hv hz
      have hX : (dg (2 ^ w) N).getD k 0 = ((N / (2 ^ w) ^ k % 2 ^ w : Nat) : Int) := getD_dg hD _ _
      have hX1 := Nat.mod_lt (N / (2 ^ w) ^ k) (show 0 < 2 ^ w by (first | lia | omega))
      generalize hXX : N / (2 ^ w) ^ k % 2 ^ w = X at *
      obtain ⟨q1, q2, q3, q4⟩ := mac_step hD hf (p := i + k) (by (first | lia | omega)) hA1 hX1 hc0 hc1 rfl hv
      repeat' w_left
      all_goals try first | (first | lia | omega) | (simp only; (first | lia | omega))
      · rw [Int.toNat_natCast, hA]; exact IntMulOk.small (by (first | lia | omega))
      · have e1 : ((i : Int) + (k : Int)).toNat = i + k := by (first | lia | omega)
        rw [e1, Int.toNat_natCast, Int.toNat_natCast, hA, hX]
        refine Ex.nil ⟨(_, _), ⟨?_, q1, q2, q3, ?_, fun j hj => ?_⟩, Le.of ?_ ⟨rfl, rfl, rfl, rfl, ?_, trivial⟩⟩
        · simp [hl]
        · rw [show i + (k + 1) = i + k + 1 by (first | lia | omega), q4, mod_stepI, hXX, Int.mul_add, Int.add_mul, Int.add_assoc, Int.pow_add]
          congr 2
          rw [Int.mul_assoc, Int.mul_assoc, Int.mul_assoc, Int.mul_comm (((2 ^ w : Nat) : Int) ^ k)]
        · rw [getD_set_ne (by (first | lia | omega))]; exact hz j hj
        · simp only [hcW, Int.add_assoc]; rfl
        · simp only [hcW, Int.add_assoc]
    · rintro ⟨f, c⟩ ⟨hl, hf, hc0, hc1, hv, hz⟩
      simp only at hl hf hc0 hc1 hv hz
      rw [Nat.mod_eq_of_lt hNlt] at hv
      repeat' w_left
      all_goals try first | (first | lia | omega) | (simp only; (first | lia | omega))
      have e1 : ((i : Int) + ((dg (2 ^ w) N).length : Int)).toNat = i + lb := by (first | lia | omega)
      rw [e1]
      have hf' := hf.set (i + lb) hc0 hc1
      have hv' := val_set (2 ^ w) f (i + lb) c (by (first | lia | omega))
      rw [hz _ (Nat.le_refl _), Int.sub_zero, hv] at hv'
      refine Ex.nil ⟨_, ⟨by simp [hl], hf', ?_, fun j hj => ?_⟩, Le.of rfl ⟨rfl, rfl, rfl, trivial⟩⟩
      · rw [hv', Nat.mod_pow_succ, hAA, Nat.add_mul, Int.natCast_add]
        congr 1
        rw [← pow_cast (2 ^ w) i, Int.natCast_mul, Int.natCast_mul, Int.mul_comm (((2 ^ w) ^ i : Nat) : Int), Int.mul_right_comm]
      · rw [getD_set_ne (by (first | lia | omega))]; exact hz j (by (first | lia | omega))
  · rintro f ⟨hl, hf, hv, hz⟩
    rw [Nat.mod_eq_of_lt hMlt] at hv
    refine Ex.whileG (P := List Int) (fun p => { σ := [some (.list (dg (2 ^ w) M)), some (.list (dg (2 ^ w) N)), some (.int w), .none, .none, .none, .none, .none, .none], own := some (3, p) }) (fun p => p.length ≤ la + lb ∧ nrm p = dg (2 ^ w) (M * N)) (fun p => p.length)
      (fun p => !decide (p = []) && decide (p.getD (p.length - 1) 0 = 0)) f ⟨by (first | lia | omega), nrm_val hD hf hv⟩ (Le.refl _) ?_ ?_ ?_
    · rintro p ⟨hp, hn⟩
      refine Tr.and (b := !decide (p = [])) (by repeat' w_left) (fun h => ?_)
      simp only [Bool.not_eq_true', decide_eq_false_iff_not] at h
      have hlp := List.length_pos_iff.mpr h
      refine Tr.conv (b := decide (p.getD (((p.length : Int) - 1).toNat) 0 = 0)) ?_ (by rw [show ((p.length : Int) - 1).toNat = p.length - 1 by (first | lia | omega)])
      repeat' w_left
      all_goals try first | (first | lia | omega) | (simp only; (first | lia | omega))
    · rintro p ⟨hp, hn⟩ hc
      simp only [Bool.and_eq_true, Bool.not_eq_true', decide_eq_false_iff_not, decide_eq_true_eq] at hc
      obtain ⟨hne, h0⟩ := hc
      have hlp := List.length_pos_iff.mpr hne
      refine Ex.pop l_found rfl hne (Ex.nil ⟨p.dropLast, ⟨⟨by simp; (first | lia | omega), ?_⟩, by simp; (first | lia | omega)⟩, Le.refl _⟩)
      rw [← hn]
      have e := List.dropLast_concat_getLast hne
      have hlast : p.getLast hne = 0 := by
        rw [List.getLast_eq_getElem]
        rw [List.getD_eq_getElem?_getD, List.getElem?_eq_getElem (by (first | lia | omega))] at h0
        exact h0
      conv => rhs; rw [← e]
      rw [nrm_append_zeros _ _ (by simp [hlast])]
    · rintro p ⟨hp, hn⟩ hc
      refine Ex.ret (lv := .list p) (by repeat' w_left) (congrArg LV.list ?_)
      rw [← hn]
      by_cases hne : p = []
      · subst hne; rfl
      · refine (nrm_last hne fun hlast => ?_).symm
        simp only [Bool.and_eq_false_iff, Bool.not_eq_false', decide_eq_true_eq, decide_eq_false_iff_not, hne, false_or] at hc
        rw [List.getLast?_eq_getElem?] at hlast
        rw [List.getD_eq_getElem?_getD, hlast] at hc
        exact hc rfl

theorem rec_law_nat {B : Base} (a : Amb B) : Rec B (rc 23) ["number", "w"] := .of (a.mem 23 (by decide)) (by decide +kernel) fun _ _ _ => ar2 fun _ _ => rfl

theorem law_nat_to {B : Base} (a : Amb B) (d : Nat) {w : Nat} (hw : 1 ≤ w) (hw' : w ≤ 9) (N : Nat) (hN : (dg (2 ^ w) N).length ≤ 100000) : CallTo B (d + 1) "_law_nat" [.int N, .int w] (.list (dg (2 ^ w) N)) := by
  have hD := two_leW hw
  have hcW := castW w
  have hD' := leW hw'
  show CallTo B (d + 1) (rc 23).name _ _
  have r := rec_law_nat a
  refine CallTo.body r rfl ?_
  have l_number : Loc r.cx "number" 0 := r.lc (by decide +kernel)
  have l_w : Loc r.cx "w" 1 := r.lc (by decide +kernel)
  have l_found : Loc r.cx "found" 2 := r.lc (by decide +kernel)
  show Ex _ _ { σ := [some (.int N), some (.int w), .none] } _ _ _
  refine Ex.start rfl ?_
  refine Ex.assignOwn (xs := []) l_found rfl EvNew.nil ?_
  refine Ex.whileG (P := List Int × Nat) (fun p => { σ := [some (.int p.2), some (.int w), .none], own := some (2, p.1) }) (fun p => p.1 ++ dg (2 ^ w) p.2 = dg (2 ^ w) N) (fun p => p.2) (fun p => decide (0 < p.2)) ([], N) rfl (Le.refl _) ?_ ?_ ?_
  · rintro ⟨f, m⟩ hJ
    refine Tr.conv (b := decide ((0 : Int) < m)) ?_ (decide_eq_decide.mpr (by simp only; (first | lia | omega)))
    repeat' w_left
  · rintro ⟨f, m⟩ hJ hc
    simp only [decide_eq_true_eq] at hc hJ
    have hlen := congrArg List.length hJ
    rw [List.length_append] at hlen
    repeat' w_left
    rw [dg_pos hD hc] at hJ
    refine Ex.nil ⟨(f ++ [((m % 2 ^ w : Nat) : Int)], m / 2 ^ w), ⟨?_, Nat.div_lt_self hc hD⟩, Le.of ?_ ⟨?_, rfl, trivial⟩⟩
    · rw [← hJ]; simp
    · show some (2, f ++ [((m % 2 ^ w : Nat) : Int)]) = some (2, f ++ [(m : Int) % 2 ^ w])
      rw [Int.natCast_emod, hcW]
    · show LV.int ((m / 2 ^ w : Nat) : Int) = LV.int ((m : Int) / 2 ^ w)
      rw [Int.natCast_ediv, hcW]
  · rintro ⟨f, m⟩ hJ hc
    simp only [decide_eq_false_iff_not] at hc hJ
    have hm : m = 0 := by (first | lia | omega)
    subst hm
    rw [dg_zero, List.append_nil] at hJ
    subst hJ
    repeat' w_left
    rfl

/-! W8 -/
theorem top_digit {D : Nat} (hD : 2 ≤ D) {N : Nat} (h : 0 < N) : (dg D N).getD ((dg D N).length - 1) 0 ≠ 0 := by
  have hpos := (length_pos_dg hD).mpr h
  have h1 := (lt_length_dg hD ((dg D N).length - 1) N).mp (by (first | lia | omega))
  have h2 := lt_pow_length hD N
  rw [getD_dg hD]
  have e : D ^ (dg D N).length = D ^ ((dg D N).length - 1) * D := by rw [← Nat.pow_succ]; exact congrArg _ (by (first | lia | omega))
  rw [e] at h2
  have h2 := Nat.div_lt_of_lt_mul h2
  have h3 : 1 ≤ N / D ^ ((dg D N).length - 1) := (Nat.le_div_iff_mul_le (Nat.pow_pos (by (first | lia | omega)))).mpr (by (first | lia | omega))
  rw [Nat.mod_eq_of_lt h2]
  (first | lia | omega)

noncomputable def BIG : Nat := 1000
theorem rec_law_value {B : Base} (a : Amb B) : Rec B (rc 24) ["limbs", "w"] := .of (a.mem 24 (by decide)) (by decide +kernel) fun _ _ _ => ar2 fun _ _ => rfl

theorem law_value_to {B : Base} (a : Amb B) (d : Nat) {w : Nat} (hw : 1 ≤ w) (hw' : w ≤ 9) (N : Nat) (hN : N < 2 ^ BIG) : CallTo B (d + 1) "_law_value" [.list (dg (2 ^ w) N), .int w] (.int N) := by
  have hD := two_leW hw
  have hcW := castW w
  have hD' := leW hw'
  have hBIG : BIG = 1000 := rfl
  have hlen : (dg (2 ^ w) N).length ≤ BIG := (length_dg_le hD).mpr (Nat.lt_of_lt_of_le hN (Nat.pow_le_pow_left hD _))
  show CallTo B (d + 1) (rc 24).name _ _
  have r := rec_law_value a
  refine CallTo.body r rfl ?_
  have l_limbs : Loc r.cx "limbs" 0 := r.lc (by decide +kernel)
  have l_w : Loc r.cx "w" 1 := r.lc (by decide +kernel)
  have l_found : Loc r.cx "found" 2 := r.lc (by decide +kernel)
  have l_limb : Loc r.cx "limb" 3 := r.lc (by decide +kernel)
  have b_len : Blt r.cx "len" (.builtin "len") := r.bl (by decide +kernel) a.len (by decide +kernel) (by rfl)
  show Ex _ _ { σ := [some (.list (dg (2 ^ w) N)), some (.int w), .none, .none, .none] } _ _ _
  refine Ex.start rfl ?_
  generalize hla : (dg (2 ^ w) N).length = la at *
  have hNlt : N < (2 ^ w) ^ la := by rw [← hla]; exact lt_pow_length hD N
  refine Ex.assign (lv := .int 0) l_found (by repeat' w_left) ?_
  refine Ex.forIt (xs := (dg (2 ^ w) N).reverse) (P := Nat) (fun p => { σ := [some (.list (dg (2 ^ w) N)), some (.int w), some (.int p), .none, .none] }) (fun k p => p = N / (2 ^ w) ^ (la - k)) 0 l_limb (IterTo.ev rfl (Ev.rev (by repeat' w_left) (Ev.conv (l := .int (0 - 1)) (by repeat' w_left) rfl)))
    (by rw [Nat.sub_zero, Nat.div_eq_of_lt hNlt]) (Le.of rfl ⟨rfl, rfl, rfl, trivial⟩) (fun _ _ => rfl) ?_ ?_
  · rintro k p hk rfl
    rw [List.length_reverse, hla] at hk
    have hx : (dg (2 ^ w) N).reverse.getD k 0 = ((N / (2 ^ w) ^ (la - 1 - k) % 2 ^ w : Nat) : Int) := by
      rw [← getD_dg hD, List.getD_eq_getElem?_getD, List.getD_eq_getElem?_getD, List.getElem?_reverse (by (first | lia | omega)), hla]
    rw [hx]
    have hX1 := Nat.mod_lt (N / (2 ^ w) ^ (la - 1 - k)) (show 0 < 2 ^ w by (first | lia | omega))
    have hdiv : N / (2 ^ w) ^ (la - k) = N / (2 ^ w) ^ (la - 1 - k) / 2 ^ w := by
      rw [Nat.div_div_eq_div_mul, ← Nat.pow_succ]
      exact congrArg (fun z => N / (2 ^ w) ^ z) (by (first | lia | omega))
    have hle : N / (2 ^ w) ^ (la - k) ≤ N := Nat.div_le_self _ _
    have hnext : N / (2 ^ w) ^ (la - (k + 1)) = N / (2 ^ w) ^ (la - k) * 2 ^ w + N / (2 ^ w) ^ (la - 1 - k) % 2 ^ w := by
      rw [show la - (k + 1) = la - 1 - k by (first | lia | omega), hdiv]
      have := Nat.div_add_mod (N / (2 ^ w) ^ (la - 1 - k)) (2 ^ w)
      rw [Nat.mul_comm] at this
      (first | lia | omega)
    generalize hXX : N / (2 ^ w) ^ (la - 1 - k) % 2 ^ w = X at *
    generalize hPP : N / (2 ^ w) ^ (la - k) = P at *
    refine Ex.ite (c := !(decide ((0 : Int) ≤ X) && decide ((X : Int) < 2 ^ w))) (by repeat' w_left) (fun h => ?_) (fun _ => Ex.nil ?_)
    · exfalso
      simp only [Bool.not_eq_true', Bool.and_eq_false_iff, decide_eq_false_iff_not] at h
      (first | lia | omega)
    · have hb : Builtin.Int.intBits (P : Int) ≤ BIG := PySem.intBits_le_iff.mpr (by rw [Int.natAbs_natCast]; exact Nat.lt_of_le_of_lt hle hN)
      refine Ex.assign (lv := .int ((P : Int) * 2 ^ w + X)) l_found (Ev.bin (Ev.bin (x := .int P) (y := .int w) (by repeat' w_left) (by repeat' w_left) (BinTo.shl (by (first | lia | omega)))) (by repeat' w_left) BinTo.add) (Ex.nil ⟨_, rfl, Le.of rfl ⟨rfl, rfl, ?_, trivial⟩⟩)
      rw [hnext]
      refine congrArg LV.int ?_
      rw [Int.natCast_add, Int.natCast_mul, hcW]
  · rintro p rfl
    rw [List.length_reverse, hla, Nat.sub_self, Nat.pow_zero, Nat.div_one]
    refine Ex.ret (lv := .int N) (Ev.ife (c := false) (Tr.conv (b := !decide (dg (2 ^ w) N = []) && decide ((dg (2 ^ w) N).getD (la - 1) 0 = 0)) ?_ ?_) (fun h => by cases h) (fun _ => by repeat' w_left)) rfl
    · refine Tr.and (b := !decide (dg (2 ^ w) N = [])) (by repeat' w_left) (fun h => ?_)
      simp only [Bool.not_eq_true', decide_eq_false_iff_not] at h
      have hlp := List.length_pos_iff.mpr h
      refine Tr.conv (b := decide ((dg (2 ^ w) N).getD (((la : Int) - 1).toNat) 0 = 0)) ?_ (by rw [show ((la : Int) - 1).toNat = la - 1 by (first | lia | omega)])
      rw [← hla]
      repeat' w_left
      all_goals try first | (first | lia | omega) | (simp only; (first | lia | omega))
    · by_cases h0 : 0 < N
      · have := top_digit hD h0
        rw [hla] at this
        simp only [decide_eq_false this, Bool.and_false]
      · have : N = 0 := by (first | lia | omega)
        subst this
        simp [dg_zero]

/-! the drawn number -/
noncomputable def lnDig (xs : List Int) (w : Nat) (k : Nat) : Int :=
  let num := xs.getD (((k : Int) % (xs.length : Int)).toNat) 0 / (1 + (k : Int) % 2) + 29 * (k : Int)
  [num, 2 ^ w - 1, 0, num / 7, 2 ^ w - 1].getD ((num % 5).toNat) 0 % 2 ^ w
noncomputable def lnNum (xs : List Int) (w b : Nat) : Nat → Int
  | 0 => 0
  | k + 1 => lnNum xs w b k * 2 ^ w + lnDig xs w (b + k)
theorem lnDig_bd (xs : List Int) (w k : Nat) : 0 ≤ lnDig xs w k ∧ lnDig xs w k < 2 ^ w :=
  have h : (0 : Int) < 2 ^ w := Int.pow_pos (by decide)
  ⟨Int.emod_nonneg _ (Int.ne_of_gt h), Int.emod_lt_of_pos _ h⟩
theorem lnNum_bd (xs : List Int) (w b : Nat) : ∀ k, 0 ≤ lnNum xs w b k ∧ lnNum xs w b k < (2 ^ w) ^ k
  | 0 => ⟨Int.le_refl _, by simp [lnNum]⟩
  | k + 1 => by
    obtain ⟨h1, h2⟩ := lnNum_bd xs w b k
    obtain ⟨h3, h4⟩ := lnDig_bd xs w (b + k)
    have hp : (0 : Int) < 2 ^ w := Int.pow_pos (by decide)
    refine ⟨Int.add_nonneg (Int.mul_nonneg h1 (Int.le_of_lt hp)) h3, ?_⟩
    show lnNum xs w b k * 2 ^ w + lnDig xs w (b + k) < _
    have h5 : lnNum xs w b k * 2 ^ w ≤ ((2 ^ w) ^ k - 1) * 2 ^ w := Int.mul_le_mul_of_nonneg_right (by (first | lia | omega)) (Int.le_of_lt hp)
    rw [Int.sub_mul, Int.one_mul] at h5
    rw [Int.pow_succ]
    (first | lia | omega)
noncomputable def lnCnt (xs : List Int) (b : Nat) : Nat := (xs.getD (((b : Int) % (xs.length : Int)).toNat) 0 / 16 % 10).toNat
theorem lnCnt_le (xs : List Int) (b : Nat) : lnCnt xs b ≤ 9 := by unfold lnCnt; (first | lia | omega)

theorem rec_law_number {B : Base} (a : Amb B) : Rec B (rc 26) ["some", "begin_at", "w"] := .of (a.mem 26 (by decide)) (by decide +kernel) fun _ _ _ => ar3 fun _ _ _ => rfl

theorem law_number_to {B : Base} (a : Amb B) (d : Nat) {w : Nat} (hw : 1 ≤ w) (hw' : w ≤ 9) (xs : List Int) (b : Nat) (hb : b ≤ 1000) (h0 : 0 < xs.length) : CallTo B (d + 1) "_law_number" [.list xs, .int b, .int w] (.int (lnNum xs w b (lnCnt xs b))) := by
  have hcW := castW w
  have hD' := leW hw'
  show CallTo B (d + 1) (rc 26).name _ _
  have r := rec_law_number a
  refine CallTo.body r rfl ?_
  have l_some : Loc r.cx "some" 0 := r.lc (by decide +kernel)
  have l_begin_at : Loc r.cx "begin_at" 1 := r.lc (by decide +kernel)
  have l_w : Loc r.cx "w" 2 := r.lc (by decide +kernel)
  have l_found : Loc r.cx "found" 3 := r.lc (by decide +kernel)
  have l_at : Loc r.cx "at" 4 := r.lc (by decide +kernel)
  have l_number : Loc r.cx "number" 5 := r.lc (by decide +kernel)
  have b_range : Blt r.cx "range" (.type "range") := r.bl (by decide +kernel) a.range (by decide +kernel) (by rfl)
  have b_len : Blt r.cx "len" (.builtin "len") := r.bl (by decide +kernel) a.len (by decide +kernel) (by rfl)
  show Ex _ _ { σ := [some (.list xs), some (.int b), some (.int w), .none, .none, .none, .none, .none] } _ _ _
  refine Ex.start rfl ?_
  have hW0 : (0 : Int) < 2 ^ w := Int.pow_pos (by decide)
  have hm0 : ∀ z : Int, 0 ≤ z % (xs.length : Int) := fun z => Int.emod_nonneg _ (by (first | lia | omega))
  have hm1 : ∀ z : Int, z % (xs.length : Int) < xs.length := fun z => Int.emod_lt_of_pos _ (by (first | lia | omega))
  have hcnt := lnCnt_le xs b
  refine Ex.assign (lv := .int 0) l_found (by repeat' w_left) ?_
  refine Ex.forR2 (lo := b) (hi := b + lnCnt xs b) (P := Int) (fun p => { σ := [some (.list xs), some (.int b), some (.int w), some (.int p), .none, .none, .none, .none] }) (fun k p => p = lnNum xs w b k) 0 l_at b_range (by repeat' w_left)
    (Ev.conv (l := .int ((b : Int) + xs.getD (((b : Int) % (xs.length : Int)).toNat) 0 / 16 % 10)) (by (repeat' w_left) <;> first | exact hm0 _ | exact hm1 _) (congrArg LV.int ?_)) (by unfold LIM; (first | lia | omega)) (by unfold LIM; (first | lia | omega)) rfl (Le.of rfl ⟨rfl, rfl, rfl, rfl, trivial⟩) (fun _ _ => rfl) ?_ ?_
  · unfold lnCnt; (first | lia | omega)
  · rintro k p hk rfl
    obtain ⟨n1, n2⟩ := lnNum_bd xs w b k
    have hbits : Builtin.Int.intBits (lnNum xs w b k) ≤ 81 := by
      refine PySem.intBits_le_iff.mpr ?_
      have hle : (2 ^ w) ^ k ≤ 2 ^ 81 := by rw [← Nat.pow_mul]; exact Nat.pow_le_pow_right (by decide) (Nat.le_trans (Nat.mul_le_mul hw' (show k ≤ 9 by (first | lia | omega))) (by decide))
      have hc : (((2 ^ w) ^ k : Nat) : Int) = (2 ^ w) ^ k := by simp
      (first | lia | omega)
    have hq : ∀ z : Int, z % 5 < 5 := fun z => by (first | lia | omega)
    refine Ex.assign (lv := .int (xs.getD ((((b + k : Nat) : Int) % (xs.length : Int)).toNat) 0 / (1 + ((b + k : Nat) : Int) % 2) + 29 * ((b + k : Nat) : Int))) l_number ?_ ?_
    · repeat' w_left
      all_goals first | exact hm0 _ | exact hm1 _ | exact IntMulOk.small (by decide) | (first | lia | omega)
    · have hnum : lnDig xs w (b + k) = [xs.getD ((((b + k : Nat) : Int) % (xs.length : Int)).toNat) 0 / (1 + ((b + k : Nat) : Int) % 2) + 29 * ((b + k : Nat) : Int), 2 ^ w - 1, 0, (xs.getD ((((b + k : Nat) : Int) % (xs.length : Int)).toNat) 0 / (1 + ((b + k : Nat) : Int) % 2) + 29 * ((b + k : Nat) : Int)) / 7, 2 ^ w - 1].getD (((xs.getD ((((b + k : Nat) : Int) % (xs.length : Int)).toNat) 0 / (1 + ((b + k : Nat) : Int) % 2) + 29 * ((b + k : Nat) : Int)) % 5).toNat) 0 % 2 ^ w := rfl
      generalize xs.getD ((((b + k : Nat) : Int) % (xs.length : Int)).toNat) 0 / (1 + ((b + k : Nat) : Int) % 2) + 29 * ((b + k : Nat) : Int) = num at hnum ⊢
      refine Ex.assign (lv := .int (lnNum xs w b (k + 1))) l_found (Ev.conv (l := .int (lnNum xs w b k * 2 ^ w + [num, 2 ^ w - 1, 0, num / 7, 2 ^ w - 1].getD ((num % 5).toNat) 0 % 2 ^ w)) (Ev.bin (Ev.bin (x := .int (lnNum xs w b k)) (y := .int w) (by repeat' w_left) (by repeat' w_left) (BinTo.shl (by (first | lia | omega)))) (Ev.bin (x := .int ([num, 2 ^ w - 1, 0, num / 7, 2 ^ w - 1].getD ((num % 5).toNat) 0)) (y := .int (2 ^ w)) (Ev.idx (k := num % 5) (Ev.disp (xs := [num, 2 ^ w - 1, 0, num / 7, 2 ^ w - 1]) ?_ (by simp [LIM])) (by repeat' w_left) (by (first | lia | omega)) (hq _)) (by repeat' w_left) (BinTo.mod hW0)) BinTo.add) (congrArg LV.int (by rw [← hnum]; rfl))) (Ex.nil ⟨_, rfl, Le.of rfl ⟨rfl, rfl, rfl, rfl, trivial⟩⟩)
      show Evs _ _ _ _ [.int num, .int (2 ^ w - 1), .int 0, .int (num / 7), .int (2 ^ w - 1)]
      repeat' w_left
  · rintro p rfl
    rw [Nat.add_sub_cancel_left]
    repeat' w_left
    rfl

/-! W9 -/
theorem two_leP {D n : Nat} (hD : 2 ≤ D) (hn : 1 ≤ n) : 2 ≤ D ^ n := by
  obtain ⟨k, rfl⟩ : ∃ k, n = k + 1 := ⟨n - 1, by (first | lia | omega)⟩
  have := Nat.pow_pos (n := k) (show 0 < D by (first | lia | omega))
  rw [Nat.pow_succ]
  exact Nat.le_trans hD (Nat.le_mul_of_pos_left _ this)
theorem flat1 (n : Nat) (x : Int) : (List.replicate n [x]).flatten = List.replicate n x := List.flatten_replicate_singleton

theorem rec_fold_minus {B : Base} (a : Amb B) : Rec B (rc 18) ["a", "n", "w"] := .of (a.mem 18 (by decide)) (by decide +kernel) fun _ _ _ => ar3 fun _ _ _ => rfl

theorem fold_minus_to {B : Base} (a : Amb B) (d : Nat) {w : Nat} (hw : 1 ≤ w) (hw' : w ≤ 9) (N n : Nat) (hn : 1 ≤ n) (hn' : n ≤ 10000) (hN : (dg (2 ^ w) N).length ≤ 10000) : CallTo B (d + 2) "fold_minus" [.list (dg (2 ^ w) N), .int n, .int w] (.list (dg (2 ^ w) (N % ((2 ^ w) ^ n - 1)))) := by
  have hD := two_leW hw
  have hcW := castW w
  have hD' := leW hw'
  have hH := two_leP hD hn
  show CallTo B (d + 1 + 1) (rc 18).name _ _
  have r := rec_fold_minus a
  refine CallTo.body r rfl ?_
  have l_a : Loc r.cx "a" 0 := r.lc (by decide +kernel)
  have l_n : Loc r.cx "n" 1 := r.lc (by decide +kernel)
  have l_w : Loc r.cx "w" 2 := r.lc (by decide +kernel)
  have l_ones : Loc r.cx "ones" 3 := r.lc (by decide +kernel)
  have b_len : Blt r.cx "len" (.builtin "len") := r.bl (by decide +kernel) a.len (by decide +kernel) (by rfl)
  have g_add : Glb r.cx "add" := r.gl (by decide +kernel)
  have f_add : Fun r.cx.toBase "add" := a.fn 3 (by decide) (by rfl)
  obtain ⟨a_add, m_add⟩ : ∃ fa, r.cx.mg "add" = some (.ref fa) := a.mg 3 (by decide) (by rfl)
  have g_normal : Glb r.cx "normal" := r.gl (by decide +kernel)
  have f_normal : Fun r.cx.toBase "normal" := a.fn 0 (by decide) (by rfl)
  obtain ⟨a_normal, m_normal⟩ : ∃ fa, r.cx.mg "normal" = some (.ref fa) := a.mg 0 (by decide) (by rfl)
  have c_nrm : ∀ M k, CallTo r.cx.toBase (d + 1) "normal" [.list ((dg (2 ^ w) M).take k)] (.list (dg (2 ^ w) (M % (2 ^ w) ^ k))) := fun M k => normal_take a d hD M k
  have c_add : ∀ M N : Nat, (dg (2 ^ w) M).length < LIM → (dg (2 ^ w) N).length < LIM → CallTo r.cx.toBase (d + 1) "add" [.list (dg (2 ^ w) M), .list (dg (2 ^ w) N), .int w] (.list (dg (2 ^ w) (M + N))) := fun M N => add_to a d hw hw' M N
  show Ex _ _ { σ := [some (.list (dg (2 ^ w) N)), some (.int n), some (.int w), .none, .none, .none, .none] } _ _ _
  refine Ex.start rfl ?_
  refine Ex.assign (lv := .list (dg (2 ^ w) ((2 ^ w) ^ n - 1))) l_ones (Ev.conv (l := .list (List.replicate n [(2 : Int) ^ w - 1]).flatten) ?_ ?_) ?_
  · repeat' w_left
    · simp [LIM]; (first | lia | omega)
  · rw [flat1, ← hcW, dg_ones hD]
  refine Ex.whileG (P := Nat) (fun p => { σ := [some (.list (dg (2 ^ w) p)), some (.int n), some (.int w), some (.list (dg (2 ^ w) ((2 ^ w) ^ n - 1))), .none, .none, .none] }) (fun p => p ≤ N ∧ p % ((2 ^ w) ^ n - 1) = N % ((2 ^ w) ^ n - 1)) (fun p => p) (fun p => decide (n < (dg (2 ^ w) p).length)) N ⟨Nat.le_refl _, rfl⟩ (Le.of rfl ⟨rfl, rfl, rfl, rfl, trivial⟩) ?_ ?_ ?_
  · rintro p ⟨hp, hm⟩
    refine Tr.conv (b := decide ((n : Int) < (dg (2 ^ w) p).length)) (by repeat' w_left) (decide_eq_decide.mpr (by (first | lia | omega)))
  · rintro p ⟨hp, hm⟩ hc
    simp only [decide_eq_true_eq] at hc
    have hge := (lt_length_dg hD n p).mp hc
    obtain ⟨s1, s2⟩ := fold_step hH hge
    have hlen := length_mono hD hp
    have hl1 : ∀ x, x ≤ p → (dg (2 ^ w) x).length ≤ 10000 := fun x hx => Nat.le_trans (length_mono hD (Nat.le_trans hx hp)) hN
    have q1 := hl1 (p % (2 ^ w) ^ n) (Nat.mod_le _ _)
    have q2 := hl1 (p / (2 ^ w) ^ n) (Nat.div_le_self _ _)
    refine Ex.assign (lv := .list (dg (2 ^ w) (p % (2 ^ w) ^ n + p / (2 ^ w) ^ n))) l_a ?_ (Ex.nil ⟨_, ⟨⟨by (first | lia | omega), s2.trans hm⟩, s1⟩, Le.refl _⟩)
    have e : (n : Int).toNat = n := Int.toNat_natCast n
    conv => arg 5; rw [← e]
    clear hH
    repeat' w_left
    all_goals (rw [e]; unfold LIM; (first | lia | omega))
  · rintro p ⟨hp, hm⟩ hc
    simp only [decide_eq_false_iff_not] at hc
    have hlt : p < (2 ^ w) ^ n := (length_dg_le hD).mp (by (first | lia | omega))
    have hend := fold_end hH hlt
    refine Ex.ret (lv := .list (dg (2 ^ w) (N % ((2 ^ w) ^ n - 1)))) (Ev.ife (c := decide (dg (2 ^ w) p = dg (2 ^ w) ((2 ^ w) ^ n - 1))) (by repeat' w_left) (fun h => ?_) (fun h => ?_)) rfl
    · simp only [decide_eq_true_eq] at h
      rw [← hm, ← hend, if_pos (dg_inj hD h), dg_zero]
      repeat' w_left
    · simp only [decide_eq_false_iff_not] at h
      rw [← hm, ← hend, if_neg (fun e => h (congrArg _ e))]
      repeat' w_left

theorem cmp_ge (M N : Nat) : decide ((0 : Int) ≤ (if M < N then -1 else if N < M then 1 else 0)) = decide (N ≤ M) := by
  refine decide_eq_decide.mpr ?_
  split
  · (first | lia | omega)
  · split <;> (first | lia | omega)
theorem cmp_lt (M N : Nat) : decide ((if M < N then (-1 : Int) else if N < M then 1 else 0) < 0) = decide (M < N) := by
  refine decide_eq_decide.mpr ?_
  split
  · (first | lia | omega)
  · split <;> (first | lia | omega)

theorem rec_fold_plus {B : Base} (a : Amb B) : Rec B (rc 19) ["a", "n", "w"] := .of (a.mem 19 (by decide)) (by decide +kernel) fun _ _ _ => ar3 fun _ _ _ => rfl

theorem fold_plus_to {B : Base} (a : Amb B) (d : Nat) {w : Nat} (hw : 1 ≤ w) (hw' : w ≤ 9) (N n : Nat) (hn : 1 ≤ n) (hn' : n ≤ 10000) (hN : (dg (2 ^ w) N).length ≤ 10000) : CallTo B (d + 3) "fold_plus" [.list (dg (2 ^ w) N), .int n, .int w] (.list (dg (2 ^ w) (N % ((2 ^ w) ^ n + 1)))) := by
  have hD := two_leW hw
  have hcW := castW w
  have hD' := leW hw'
  have hH := two_leP hD hn
  show CallTo B (d + 2 + 1) (rc 19).name _ _
  have r := rec_fold_plus a
  refine CallTo.body r rfl ?_
  have l_a : Loc r.cx "a" 0 := r.lc (by decide +kernel)
  have l_n : Loc r.cx "n" 1 := r.lc (by decide +kernel)
  have l_w : Loc r.cx "w" 2 := r.lc (by decide +kernel)
  have l_modulus : Loc r.cx "modulus" 3 := r.lc (by decide +kernel)
  have l_found : Loc r.cx "found" 4 := r.lc (by decide +kernel)
  have l_is_below : Loc r.cx "is_below" 5 := r.lc (by decide +kernel)
  have l_at : Loc r.cx "at" 6 := r.lc (by decide +kernel)
  have l_part : Loc r.cx "part" 7 := r.lc (by decide +kernel)
  have g_add : Glb r.cx "add" := r.gl (by decide +kernel)
  have f_add : Fun r.cx.toBase "add" := a.fn 3 (by decide) (by rfl)
  obtain ⟨a_add, m_add⟩ : ∃ fa, r.cx.mg "add" = some (.ref fa) := a.mg 3 (by decide) (by rfl)
  have g_lifted : Glb r.cx "lifted" := r.gl (by decide +kernel)
  have f_lifted : Fun r.cx.toBase "lifted" := a.fn 5 (by decide) (by rfl)
  obtain ⟨a_lifted, m_lifted⟩ : ∃ fa, r.cx.mg "lifted" = some (.ref fa) := a.mg 5 (by decide) (by rfl)
  have b_range : Blt r.cx "range" (.type "range") := r.bl (by decide +kernel) a.range (by decide +kernel) (by rfl)
  have b_len : Blt r.cx "len" (.builtin "len") := r.bl (by decide +kernel) a.len (by decide +kernel) (by rfl)
  have g_normal : Glb r.cx "normal" := r.gl (by decide +kernel)
  have f_normal : Fun r.cx.toBase "normal" := a.fn 0 (by decide) (by rfl)
  obtain ⟨a_normal, m_normal⟩ : ∃ fa, r.cx.mg "normal" = some (.ref fa) := a.mg 0 (by decide) (by rfl)
  have g_compare : Glb r.cx "compare" := r.gl (by decide +kernel)
  have f_compare : Fun r.cx.toBase "compare" := a.fn 2 (by decide) (by rfl)
  obtain ⟨a_compare, m_compare⟩ : ∃ fa, r.cx.mg "compare" = some (.ref fa) := a.mg 2 (by decide) (by rfl)
  have g_sub : Glb r.cx "sub" := r.gl (by decide +kernel)
  have f_sub : Fun r.cx.toBase "sub" := a.fn 4 (by decide) (by rfl)
  obtain ⟨a_sub, m_sub⟩ : ∃ fa, r.cx.mg "sub" = some (.ref fa) := a.mg 4 (by decide) (by rfl)
  -- what is below (D ^ n + 1) * 2 is short
  obtain ⟨K, hK⟩ : ∃ K, K = 10002 := ⟨_, rfl⟩
  have hsh : ∀ x, x ≤ 2 * (2 ^ w) ^ n + 1 → (dg (2 ^ w) x).length ≤ K := fun x hx => (length_dg_le hD).mpr (by
    have h1 : (2 ^ w) ^ n * 4 ≤ (2 ^ w) ^ (n + 2) := by
      rw [Nat.pow_add, Nat.pow_two]
      exact Nat.mul_le_mul_left _ (Nat.mul_le_mul hD hD)
    have h2 : (2 ^ w) ^ (n + 2) ≤ (2 ^ w) ^ K := Nat.pow_le_pow_right (by (first | lia | omega)) (by (first | lia | omega))
    (first | lia | omega))
  have c_nrm : ∀ M i j, CallTo r.cx.toBase (d + 2) "normal" [.list (((dg (2 ^ w) M).take j).drop i)] (.list (dg (2 ^ w) (M % (2 ^ w) ^ j / (2 ^ w) ^ i))) := fun M i j => normal_cut a (d + 1) hD M j i
  have c_add : ∀ M N : Nat, M ≤ (2 ^ w) ^ n + 1 → N ≤ (2 ^ w) ^ n + 1 → CallTo r.cx.toBase (d + 2) "add" [.list (dg (2 ^ w) M), .list (dg (2 ^ w) N), .int w] (.list (dg (2 ^ w) (M + N))) := fun M N h1 h2 => add_to a (d + 1) hw hw' M N (by have := hsh M (by (first | lia | omega)); unfold LIM; (first | lia | omega)) (by have := hsh N (by (first | lia | omega)); unfold LIM; (first | lia | omega))
  have c_sub : ∀ M N : Nat, N ≤ M → M ≤ 2 * (2 ^ w) ^ n + 1 → CallTo r.cx.toBase (d + 2) "sub" [.list (dg (2 ^ w) M), .list (dg (2 ^ w) N), .int w] (.list (dg (2 ^ w) (M - N))) := fun M N h1 h2 => sub_to a d hw hw' M N h1 (by have := hsh M h2; unfold LIM; (first | lia | omega))
  have c_cmp : ∀ M N : Nat, M ≤ 2 * (2 ^ w) ^ n + 1 → CallTo r.cx.toBase (d + 2) "compare" [.list (dg (2 ^ w) M), .list (dg (2 ^ w) N)] (.int (if M < N then -1 else if N < M then 1 else 0)) := fun M N h => compare_to a (d + 1) hD M N (by have := hsh M h; unfold LIM; (first | lia | omega))
  have e1 : dg (2 ^ w) 1 = [1] := by rw [dg_pos hD (by decide), Nat.mod_eq_of_lt (by (first | lia | omega)), Nat.div_eq_of_lt (by (first | lia | omega)), dg_zero]; rfl
  have c_lift : CallTo r.cx.toBase (d + 2) "lifted" [.list [1], .int n] (.list (dg (2 ^ w) ((2 ^ w) ^ n))) := by
    have h := lifted_to a (d + 1) hD 1 n (by (first | lia | omega)) (by rw [e1]; unfold LIM; simp; (first | lia | omega))
    rwa [Int.toNat_natCast, Nat.one_mul, e1] at h
  have c_add1 : CallTo r.cx.toBase (d + 2) "add" [.list (dg (2 ^ w) ((2 ^ w) ^ n)), .list [1], .int w] (.list (dg (2 ^ w) ((2 ^ w) ^ n + 1))) := by
    have h := c_add ((2 ^ w) ^ n) 1 (by (first | lia | omega)) (by (first | lia | omega))
    rwa [e1] at h
  show Ex _ _ { σ := [some (.list (dg (2 ^ w) N)), some (.int n), some (.int w), .none, .none, .none, .none, .none, .none, .none, .none, .none, .none, .none, .none] } _ _ _
  refine Ex.start rfl ?_
  refine Ex.assign (lv := .list (dg (2 ^ w) ((2 ^ w) ^ n + 1))) l_modulus (by repeat' w_left) ?_
  refine Ex.tup2 (l1 := .list (dg (2 ^ w) 0)) (l2 := .bool false) l_found l_is_below rfl (Ev.conv (l := .list []) (by repeat' w_left) (by rw [dg_zero])) (by repeat' w_left) ?_
  generalize hla : (dg (2 ^ w) N).length = la at *
  have hNlt : N < (2 ^ w) ^ la := by rw [← hla]; exact lt_pow_length hD N
  generalize hcnt : (if la = 0 then 0 else (la - 1) / n + 1) = cnt
  have hcov : la ≤ n * cnt := by
    rw [← hcnt]
    split
    · (first | lia | omega)
    · have := Nat.lt_mul_div_succ (la - 1) (show 0 < n by (first | lia | omega))
      (first | lia | omega)
  have hcle : cnt ≤ la := by
    rw [← hcnt]
    split
    · (first | lia | omega)
    · have := Nat.div_le_self (la - 1) n
      (first | lia | omega)
  have hsz : Builtin.Range.rangeSize 0 (la : Int) n = (cnt : Int) := by
    unfold Builtin.Range.rangeSize
    rw [if_pos (by (first | lia | omega)), ← hcnt]
    by_cases h : la = 0
    · subst h; simp
    · rw [if_pos (by (first | lia | omega)), if_neg h, Int.natCast_add, Int.natCast_ediv, show ((la - 1 : Nat) : Int) = (la : Int) - 0 - 1 by (first | lia | omega)]
      rfl
  refine Ex.forG (P := Nat × Bool) (fun p => { σ := [some (.list (dg (2 ^ w) N)), some (.int n), some (.int w), some (.list (dg (2 ^ w) ((2 ^ w) ^ n + 1))), some (.list (dg (2 ^ w) p.1)), some (.bool p.2), .none, .none, .none, .none, .none, .none, .none, .none, .none] })
    (fun k p => FP (2 ^ w) n N k p.1 ∧ p.2 = decide (k % 2 = 1)) (0, false) ((List.range cnt).map fun (k : Nat) => LV.int (0 + (k : Int) * (n : Int))) l_at
    (IterTo.range3 b_range (a := 0) (b := la) (c := n) (by repeat' w_left) (by rw [← hla]; repeat' w_left) (by repeat' w_left) (by (first | lia | omega)) (by (first | lia | omega)) ?_ hsz) ⟨FP.zero _ _ _, rfl⟩ (Le.of rfl ⟨rfl, rfl, rfl, rfl, rfl, rfl, trivial⟩) (fun _ _ _ => rfl) ?_ ?_
  · unfold Builtin.Range.small
    rw [hsz]
    simp only [Builtin.Range.rangeFitsLong, Bool.and_eq_true, Bool.or_eq_true, decide_eq_true_eq, beq_iff_eq]
    rw [if_pos (by (first | lia | omega))]
    simp only [Bool.and_eq_true, decide_eq_true_eq]
    (first | lia | omega)
  · rintro k ⟨v, bl⟩ hk ⟨hF, hbl⟩
    simp only at hF hbl
    subst hbl
    simp only [List.length_map, List.length_range] at hk
    rw [List.getElem_map, List.getElem_range]
    have hpl := fpPart_lt (n := n) (N := N) (k := k) hD
    have hvl := hF.lt
    refine Ex.assign (lv := .list (dg (2 ^ w) (fpPart (2 ^ w) n N k))) l_part (Ev.conv (l := .list (dg (2 ^ w) (N % (2 ^ w) ^ ((0 + (k : Int) * (n : Int) + (n : Int)).toNat) / (2 ^ w) ^ ((0 + (k : Int) * (n : Int)).toNat)))) ?_ ?_) ?_
    · have h0 : (0 : Int) ≤ (k : Int) * n := Int.mul_nonneg (by (first | lia | omega)) (by (first | lia | omega))
      repeat' w_left
    · have h1 : (0 + (k : Int) * (n : Int)) = ((n * k : Nat) : Int) := by rw [Int.zero_add, Int.natCast_mul, Int.mul_comm]
      rw [h1, Int.toNat_natCast, show ((n * k : Nat) : Int) + (n : Int) = ((n * k + n : Nat) : Int) by (first | lia | omega), Int.toNat_natCast, fp_cut]
    generalize hq : fpPart (2 ^ w) n N k = q at *
    refine Ex.iteK (c := decide (k % 2 = 1)) (fun st' => Le { σ := [some (.list (dg (2 ^ w) N)), some (.int n), some (.int w), some (.list (dg (2 ^ w) ((2 ^ w) ^ n + 1))), some (.list (dg (2 ^ w) (if k % 2 = 1 then (if q ≤ v then v - q else v + ((2 ^ w) ^ n + 1) - q) else (if v + q < (2 ^ w) ^ n + 1 then v + q else v + q - ((2 ^ w) ^ n + 1))))), some (.bool (decide (k % 2 = 1))), .none, .none, .none, .none, .none, .none, .none, .none, .none] } st') (Tr.val (by repeat' w_left)) (fun h => ?_) (fun h => ?_) (fun st' le => ?_)
    · simp only [decide_eq_true_eq] at h
      rw [if_pos h]
      refine Ex.assign (lv := .list (dg (2 ^ w) (if q ≤ v then v - q else v + ((2 ^ w) ^ n + 1) - q))) l_found (Ev.ife (c := decide (q ≤ v)) (Tr.conv (b := decide ((0 : Int) ≤ (if v < q then -1 else if q < v then 1 else 0))) ?_ (cmp_ge v q)) (fun h' => ?_) (fun h' => ?_)) (Ex.nil (Le.of rfl ⟨rfl, rfl, rfl, rfl, rfl, rfl, trivial⟩))
      · repeat' w_left
        (first | lia | omega)
      · simp only [decide_eq_true_eq] at h'
        rw [if_pos h']
        (repeat' w_left) <;> (first | lia | omega)
      · simp only [decide_eq_false_iff_not] at h'
        rw [if_neg h']
        (repeat' w_left) <;> (first | lia | omega)
    · simp only [decide_eq_false_iff_not] at h
      rw [if_neg h]
      refine Ex.assign (lv := .list (dg (2 ^ w) (v + q))) l_found (by (repeat' w_left) <;> (first | lia | omega)) ?_
      refine Ex.assign (lv := .list (dg (2 ^ w) (if v + q < (2 ^ w) ^ n + 1 then v + q else v + q - ((2 ^ w) ^ n + 1)))) l_found (Ev.ife (c := decide (v + q < (2 ^ w) ^ n + 1)) (Tr.conv (b := decide ((if v + q < (2 ^ w) ^ n + 1 then (-1 : Int) else if (2 ^ w) ^ n + 1 < v + q then 1 else 0) < 0)) ?_ (cmp_lt _ _)) (fun h' => ?_) (fun h' => ?_)) (Ex.nil (Le.of rfl ⟨rfl, rfl, rfl, rfl, rfl, rfl, trivial⟩))
      · repeat' w_left
        (first | lia | omega)
      · simp only [decide_eq_true_eq] at h'
        rw [if_pos h']
        repeat' w_left
      · simp only [decide_eq_false_iff_not] at h'
        rw [if_neg h']
        (repeat' w_left) <;> (first | lia | omega)
    · refine Ex.weaken le ?_
      repeat' w_left
      refine Ex.nil ⟨(_, !decide (k % 2 = 1)), ⟨hF.step hD (hq ▸ rfl), ?_⟩, Le.of rfl ⟨rfl, rfl, rfl, rfl, rfl, rfl, trivial⟩⟩
      by_cases h : k % 2 = 1
      · rw [decide_eq_true h, decide_eq_false (by (first | lia | omega))]; rfl
      · rw [decide_eq_false h, decide_eq_true (by (first | lia | omega))]; rfl
  · rintro ⟨v, bl⟩ ⟨hF, hbl⟩
    simp only [List.length_map, List.length_range] at hF hbl
    have hfin := hF.fin (Nat.lt_of_lt_of_le hNlt (Nat.pow_le_pow_right (by (first | lia | omega)) hcov))
    subst hfin
    repeat' w_left
    rfl

/-! W10 -/
theorem rec_joined_rests {B : Base} (a : Amb B) : Rec B (rc 20) ["minus", "plus", "n", "w"] := .of (a.mem 20 (by decide)) (by decide +kernel) fun _ _ _ => ar4 fun _ _ _ _ => rfl

theorem joined_to {B : Base} (a : Amb B) (d : Nat) {w : Nat} (hw : 2 ≤ w) (hw' : w ≤ 9) (Z n : Nat) (hn : 1 ≤ n) (hn' : n ≤ 1000) : CallTo B (d + 3) "joined_rests" [.list (dg (2 ^ w) (Z % ((2 ^ w) ^ n - 1))), .list (dg (2 ^ w) (Z % ((2 ^ w) ^ n + 1))), .int n, .int w] (.list (dg (2 ^ w) (Z % ((2 ^ w) ^ (2 * n) - 1)))) := by
  have hD := two_leW (w := w) (by (first | lia | omega))
  have hev := evenW (w := w) (by (first | lia | omega))
  have hcW := castW w
  have hH := two_leP hD hn
  have hHe : (2 ^ w) ^ n % 2 = 0 := by rw [← Nat.pow_mul]; exact evenW (Nat.mul_pos (by (first | lia | omega)) hn)
  have hH2 : (2 ^ w) ^ (2 * n) = (2 ^ w) ^ n * (2 ^ w) ^ n := by rw [← Nat.pow_add]; exact congrArg _ (by (first | lia | omega))
  have hjm := joined_math hH hHe Z
  rw [← hH2] at hjm
  show CallTo B (d + 2 + 1) (rc 20).name _ _
  have r := rec_joined_rests a
  refine CallTo.body r rfl ?_
  have l_minus : Loc r.cx "minus" 0 := r.lc (by decide +kernel)
  have l_plus : Loc r.cx "plus" 1 := r.lc (by decide +kernel)
  have l_n : Loc r.cx "n" 2 := r.lc (by decide +kernel)
  have l_w : Loc r.cx "w" 3 := r.lc (by decide +kernel)
  have l_modulus : Loc r.cx "modulus" 4 := r.lc (by decide +kernel)
  have l_plus_rest : Loc r.cx "plus_rest" 5 := r.lc (by decide +kernel)
  have l_way : Loc r.cx "way" 6 := r.lc (by decide +kernel)
  have l_half : Loc r.cx "half" 7 := r.lc (by decide +kernel)
  have g_fold_minus : Glb r.cx "fold_minus" := r.gl (by decide +kernel)
  have f_fold_minus : Fun r.cx.toBase "fold_minus" := a.fn 18 (by decide) (by rfl)
  obtain ⟨a_fold_minus, m_fold_minus⟩ : ∃ fa, r.cx.mg "fold_minus" = some (.ref fa) := a.mg 18 (by decide) (by rfl)
  have g_compare : Glb r.cx "compare" := r.gl (by decide +kernel)
  have f_compare : Fun r.cx.toBase "compare" := a.fn 2 (by decide) (by rfl)
  obtain ⟨a_compare, m_compare⟩ : ∃ fa, r.cx.mg "compare" = some (.ref fa) := a.mg 2 (by decide) (by rfl)
  have g_sub : Glb r.cx "sub" := r.gl (by decide +kernel)
  have f_sub : Fun r.cx.toBase "sub" := a.fn 4 (by decide) (by rfl)
  obtain ⟨a_sub, m_sub⟩ : ∃ fa, r.cx.mg "sub" = some (.ref fa) := a.mg 4 (by decide) (by rfl)
  have g_add : Glb r.cx "add" := r.gl (by decide +kernel)
  have f_add : Fun r.cx.toBase "add" := a.fn 3 (by decide) (by rfl)
  obtain ⟨a_add, m_add⟩ : ∃ fa, r.cx.mg "add" = some (.ref fa) := a.mg 3 (by decide) (by rfl)
  have g_shift_right : Glb r.cx "shift_right" := r.gl (by decide +kernel)
  have f_shift_right : Fun r.cx.toBase "shift_right" := a.fn 7 (by decide) (by rfl)
  obtain ⟨a_shift_right, m_shift_right⟩ : ∃ fa, r.cx.mg "shift_right" = some (.ref fa) := a.mg 7 (by decide) (by rfl)
  have g_is_even : Glb r.cx "is_even" := r.gl (by decide +kernel)
  have f_is_even : Fun r.cx.toBase "is_even" := a.fn 1 (by decide) (by rfl)
  obtain ⟨a_is_even, m_is_even⟩ : ∃ fa, r.cx.mg "is_even" = some (.ref fa) := a.mg 1 (by decide) (by rfl)
  have g_lifted : Glb r.cx "lifted" := r.gl (by decide +kernel)
  have f_lifted : Fun r.cx.toBase "lifted" := a.fn 5 (by decide) (by rfl)
  obtain ⟨a_lifted, m_lifted⟩ : ∃ fa, r.cx.mg "lifted" = some (.ref fa) := a.mg 5 (by decide) (by rfl)
  have hlen : ∀ x, x ≤ 2 * (2 ^ w) ^ n → (dg (2 ^ w) x).length ≤ 1003 := fun x hx => by
    have h1 : (2 ^ w) ^ n * 4 ≤ (2 ^ w) ^ (n + 2) := by
      rw [Nat.pow_add, Nat.pow_two]
      exact Nat.mul_le_mul_left _ (Nat.mul_le_mul hD hD)
    have h2 := (length_dg_le hD (n := n + 2) (N := x)).mpr (by (first | lia | omega))
    (first | lia | omega)
  have hlen2 : ∀ x, x ≤ 4 * (2 ^ w) ^ (2 * n) → (dg (2 ^ w) x).length ≤ 2004 := fun x hx => by
    have h1 : (2 ^ w) ^ (2 * n) * 8 ≤ (2 ^ w) ^ (2 * n + 3) := by
      rw [Nat.pow_add, Nat.pow_succ, Nat.pow_two]
      exact Nat.mul_le_mul_left _ (Nat.mul_le_mul (Nat.mul_le_mul hD hD) hD)
    have h3 : 0 < (2 ^ w) ^ (2 * n) := Nat.pow_pos (by (first | lia | omega))
    rw [hH2] at h3
    have h2 := (length_dg_le hD (n := 2 * n + 3) (N := x)).mpr (by (first | lia | omega))
    (first | lia | omega)
  have hX : Z % ((2 ^ w) ^ n - 1) ≤ (2 ^ w) ^ n - 2 := by
    by_cases h : (2 ^ w) ^ n - 1 = 1
    · rw [h]; (first | lia | omega)
    · have := Nat.mod_lt Z (show 0 < (2 ^ w) ^ n - 1 by (first | lia | omega)); (first | lia | omega)
  have hY : Z % ((2 ^ w) ^ n + 1) ≤ (2 ^ w) ^ n := by have := Nat.mod_lt Z (show 0 < (2 ^ w) ^ n + 1 by (first | lia | omega)); (first | lia | omega)
  have hXl : Z % ((2 ^ w) ^ n - 1) < (2 ^ w) ^ n - 1 := by (first | lia | omega)
  generalize hXe : Z % ((2 ^ w) ^ n - 1) = X at *
  generalize hYe : Z % ((2 ^ w) ^ n + 1) = Y at *
  have hYr : Y % ((2 ^ w) ^ n - 1) < (2 ^ w) ^ n - 1 := Nat.mod_lt _ (by (first | lia | omega))
  generalize hYre : Y % ((2 ^ w) ^ n - 1) = Yr at *
  have hway := jnWay_lt hXl hYr
  have hhalf := jnHalf_lt hXl hYr
  generalize hHH : (2 ^ w) ^ n = H at *
  have c_fold : CallTo r.cx.toBase (d + 2) "fold_minus" [.list (dg (2 ^ w) Y), .int n, .int w] (.list (dg (2 ^ w) Yr)) := by
    have h := fold_minus_to a d (w := w) (by (first | lia | omega)) hw' Y n hn (by (first | lia | omega)) (by have := hlen Y (by (first | lia | omega)); (first | lia | omega))
    rwa [hHH, hYre] at h
  have c_fold2 : ∀ x, (dg (2 ^ w) x).length ≤ 10000 → CallTo r.cx.toBase (d + 2) "fold_minus" [.list (dg (2 ^ w) x), .int (2 * (n : Int)), .int w] (.list (dg (2 ^ w) (x % ((2 ^ w) ^ (2 * n) - 1)))) := fun x hx => by
    have h := fold_minus_to a d (w := w) (by (first | lia | omega)) hw' x (2 * n) (by (first | lia | omega)) (by (first | lia | omega)) hx
    rwa [Int.natCast_mul] at h
  have c_add : ∀ M N : Nat, (dg (2 ^ w) M).length < LIM → (dg (2 ^ w) N).length < LIM → CallTo r.cx.toBase (d + 2) "add" [.list (dg (2 ^ w) M), .list (dg (2 ^ w) N), .int w] (.list (dg (2 ^ w) (M + N))) := fun M N => add_to a (d + 1) (by (first | lia | omega)) hw' M N
  have c_sub : ∀ M N : Nat, N ≤ M → (dg (2 ^ w) M).length ≤ LIM → CallTo r.cx.toBase (d + 2) "sub" [.list (dg (2 ^ w) M), .list (dg (2 ^ w) N), .int w] (.list (dg (2 ^ w) (M - N))) := fun M N => sub_to a d (by (first | lia | omega)) hw' M N
  have c_cmp : ∀ M N : Nat, (dg (2 ^ w) M).length ≤ LIM → CallTo r.cx.toBase (d + 2) "compare" [.list (dg (2 ^ w) M), .list (dg (2 ^ w) N)] (.int (if M < N then -1 else if N < M then 1 else 0)) := fun M N => compare_to a (d + 1) hD M N
  have c_shr : ∀ M : Nat, (dg (2 ^ w) M).length ≤ LIM → CallTo r.cx.toBase (d + 2) "shift_right" [.list (dg (2 ^ w) M), .int 1, .int w] (.list (dg (2 ^ w) (M / 2))) := fun M => shift_right_to a d hw hw' M
  have c_even : ∀ M : Nat, CallTo r.cx.toBase (d + 2) "is_even" [.list (dg (2 ^ w) M)] (.bool (decide (M % 2 = 0))) := fun M => is_even_to a (d + 1) hD hev M
  have c_lift : ∀ M : Nat, (n : Int) + (dg (2 ^ w) M).length ≤ LIM → CallTo r.cx.toBase (d + 2) "lifted" [.list (dg (2 ^ w) M), .int n] (.list (dg (2 ^ w) (M * H))) := fun M hM => by
    have h := lifted_to a (d + 1) hD M n (by (first | lia | omega)) hM
    rwa [Int.toNat_natCast, hHH] at h
  have k_sh : ∀ x, x ≤ 2 * H → (dg (2 ^ w) x).length < LIM := fun x hx => by have := hlen x hx; unfold LIM; (first | lia | omega)
  show Ex _ _ { σ := [some (.list (dg (2 ^ w) X)), some (.list (dg (2 ^ w) Y)), some (.int n), some (.int w), .none, .none, .none, .none, .none, .none, .none, .none, .none, .none, .none] } _ _ _
  refine Ex.start rfl ?_
  refine Ex.assign (lv := .list (dg (2 ^ w) (H - 1))) l_modulus (Ev.conv (l := .list (List.replicate n [(2 : Int) ^ w - 1]).flatten) ?_ ?_) ?_
  · repeat' w_left
    · simp [LIM]; (first | lia | omega)
  · rw [flat1, ← hcW, dg_ones hD, hHH]
  refine Ex.assign (lv := .list (dg (2 ^ w) Yr)) l_plus_rest (by repeat' w_left) ?_
  refine Ex.assign (lv := .list (dg (2 ^ w) (jnWay H X Yr))) l_way (Ev.ife (c := decide (Yr ≤ X)) (Tr.conv (b := decide ((0 : Int) ≤ (if X < Yr then -1 else if Yr < X then 1 else 0))) ?_ (cmp_ge X Yr)) (fun h => ?_) (fun h => ?_)) ?_
  · repeat' w_left
    exact Nat.le_of_lt (k_sh _ (by (first | lia | omega)))
  · simp only [decide_eq_true_eq] at h
    unfold jnWay
    rw [if_pos h]
    repeat' w_left
    · exact h
    · exact Nat.le_of_lt (k_sh _ (by (first | lia | omega)))
  · simp only [decide_eq_false_iff_not] at h
    unfold jnWay
    rw [if_neg h]
    repeat' w_left
    · exact k_sh _ (by (first | lia | omega))
    · exact k_sh _ (by (first | lia | omega))
    · (first | lia | omega)
    · exact Nat.le_of_lt (k_sh _ (by (first | lia | omega)))
  generalize hwe : jnWay H X Yr = wy at *
  have hhe : jnHalf H X Yr = (if wy % 2 = 0 then wy else wy + (H - 1)) / 2 := by unfold jnHalf; rw [hwe]
  refine Ex.assign (lv := .list (dg (2 ^ w) (jnHalf H X Yr))) l_half (Ev.callF (g := "shift_right") (ls := [.list (dg (2 ^ w) (if wy % 2 = 0 then wy else wy + (H - 1))), .int 1, .int w]) (by repeat' w_left) f_shift_right (Evs.cons (Ev.ife (c := decide (wy % 2 = 0)) (Tr.val (by repeat' w_left)) (fun h => ?_) (fun h => ?_)) (by repeat' w_left)) (hhe ▸ c_shr _ (Nat.le_of_lt (k_sh _ (by split <;> (first | lia | omega)))))) ?_
  · simp only [decide_eq_true_eq] at h
    rw [if_pos h]
    repeat' w_left
  · simp only [decide_eq_false_iff_not] at h
    rw [if_neg h]
    repeat' w_left
    · exact k_sh _ (by (first | lia | omega))
    · exact k_sh _ (by (first | lia | omega))
  generalize jnHalf H X Yr = hf at *
  have hHHle : 2 * H ≤ H * H := Nat.mul_le_mul_right _ hH
  have hfH : hf * H ≤ H * H := Nat.mul_le_mul_right _ (by (first | lia | omega))
  refine Ex.ret (lv := .list (dg (2 ^ w) ((Y + hf + hf * H) % ((2 ^ w) ^ (2 * n) - 1)))) ?_ (by rw [hjm])
  repeat' w_left
  · exact k_sh _ (by (first | lia | omega))
  · exact k_sh _ (by (first | lia | omega))
  · have := k_sh hf (by (first | lia | omega)); have h2 := hlen hf (by (first | lia | omega)); unfold LIM at *; (first | lia | omega)
  · have := hlen2 (Y + hf) (by rw [hH2]; (first | lia | omega)); unfold LIM; (first | lia | omega)
  · have := hlen2 (hf * H) (by rw [hH2]; (first | lia | omega)); unfold LIM; (first | lia | omega)
  · exact IntMulOk.small (by decide)
  · have := hlen2 (Y + hf + hf * H) (by rw [hH2]; (first | lia | omega)); (first | lia | omega)

theorem rec_wrapped_product {B : Base} (a : Amb B) : Rec B (rc 21) ["a", "b", "n", "w", "least", "mul"] := .of (a.mem 21 (by decide)) (by decide +kernel) fun _ _ _ => ar6 fun _ _ _ _ _ _ => rfl

theorem wrapped_to {B : Base} (a : Amb B) {w : Nat} (hw : 2 ≤ w) (hw' : w ≤ 9) (least : Int) : ∀ (n d M N : Nat), 1 ≤ n → n ≤ 1000 → (dg (2 ^ w) M).length ≤ 1000 → (dg (2 ^ w) N).length ≤ 1000 →
    CallTo B (d + n + 4) "wrapped_product" [.list (dg (2 ^ w) M), .list (dg (2 ^ w) N), .int n, .int w, .int least, .fn "_law_mul"] (.list (dg (2 ^ w) (M * N % ((2 ^ w) ^ n - 1)))) := by
  intro n
  induction n using Nat.strongRecOn with
  | ind n ih =>
  intro d M N hn hn' hM hN
  have hD := two_leW (w := w) (by (first | lia | omega))
  have hcW := castW w
  show CallTo B (d + n + 3 + 1) (rc 21).name _ _
  have r := rec_wrapped_product a
  refine CallTo.body r rfl ?_
  have l_a : Loc r.cx "a" 0 := r.lc (by decide +kernel)
  have l_b : Loc r.cx "b" 1 := r.lc (by decide +kernel)
  have l_n : Loc r.cx "n" 2 := r.lc (by decide +kernel)
  have l_w : Loc r.cx "w" 3 := r.lc (by decide +kernel)
  have l_least : Loc r.cx "least" 4 := r.lc (by decide +kernel)
  have l_mul : Loc r.cx "mul" 5 := r.lc (by decide +kernel)
  have l_half : Loc r.cx "half" 6 := r.lc (by decide +kernel)
  have l_minus : Loc r.cx "minus" 7 := r.lc (by decide +kernel)
  have l_plus : Loc r.cx "plus" 8 := r.lc (by decide +kernel)
  have b_max : Blt r.cx "max" (.builtin "max") := r.bl (by decide +kernel) a.max (by decide +kernel) (by rfl)
  have g_fold_minus : Glb r.cx "fold_minus" := r.gl (by decide +kernel)
  have f_fold_minus : Fun r.cx.toBase "fold_minus" := a.fn 18 (by decide) (by rfl)
  obtain ⟨a_fold_minus, m_fold_minus⟩ : ∃ fa, r.cx.mg "fold_minus" = some (.ref fa) := a.mg 18 (by decide) (by rfl)
  have g_wrapped_product : Glb r.cx "wrapped_product" := r.gl (by decide +kernel)
  have f_wrapped_product : Fun r.cx.toBase "wrapped_product" := a.fn 21 (by decide) (by rfl)
  obtain ⟨a_wrapped_product, m_wrapped_product⟩ : ∃ fa, r.cx.mg "wrapped_product" = some (.ref fa) := a.mg 21 (by decide) (by rfl)
  have g_fold_plus : Glb r.cx "fold_plus" := r.gl (by decide +kernel)
  have f_fold_plus : Fun r.cx.toBase "fold_plus" := a.fn 19 (by decide) (by rfl)
  obtain ⟨a_fold_plus, m_fold_plus⟩ : ∃ fa, r.cx.mg "fold_plus" = some (.ref fa) := a.mg 19 (by decide) (by rfl)
  have g_joined_rests : Glb r.cx "joined_rests" := r.gl (by decide +kernel)
  have f_joined_rests : Fun r.cx.toBase "joined_rests" := a.fn 20 (by decide) (by rfl)
  obtain ⟨a_joined_rests, m_joined_rests⟩ : ∃ fa, r.cx.mg "joined_rests" = some (.ref fa) := a.mg 20 (by decide) (by rfl)
  have f_mul : Fun r.cx.toBase "_law_mul" := a.fn 25 (by decide) (by rfl)
  have hlM : ∀ m, (dg (2 ^ w) (M % m)).length ≤ 1000 := fun m => Nat.le_trans (length_mono hD (Nat.mod_le _ _)) hM
  have hlN : ∀ m, (dg (2 ^ w) (N % m)).length ≤ 1000 := fun m => Nat.le_trans (length_mono hD (Nat.mod_le _ _)) hN
  have hlMN : ∀ m, (dg (2 ^ w) (M % m * (N % m))).length ≤ 2000 := fun m => Nat.le_trans (length_mul hD _ _) (by have := hlM m; have := hlN m; (first | lia | omega))
  have c_mul : ∀ m, CallTo r.cx.toBase (d + n + 3) "_law_mul" [.list (dg (2 ^ w) (M % m)), .list (dg (2 ^ w) (N % m)), .int w] (.list (dg (2 ^ w) (M % m * (N % m)))) := fun m => law_mul_to a (d + n + 2) (by (first | lia | omega)) hw' _ _ (by have := hlM m; (first | lia | omega)) (by have := hlN m; (first | lia | omega))
  have c_fold : ∀ x k : Nat, 1 ≤ k → k ≤ 1000 → (dg (2 ^ w) x).length ≤ 10000 → CallTo r.cx.toBase (d + n + 3) "fold_minus" [.list (dg (2 ^ w) x), .int k, .int w] (.list (dg (2 ^ w) (x % ((2 ^ w) ^ k - 1)))) := fun x k h1 h2 h3 => fold_minus_to a (d + n + 1) (by (first | lia | omega)) hw' x k h1 (by (first | lia | omega)) h3
  have c_foldp : ∀ x k : Nat, 1 ≤ k → k ≤ 1000 → (dg (2 ^ w) x).length ≤ 10000 → CallTo r.cx.toBase (d + n + 3) "fold_plus" [.list (dg (2 ^ w) x), .int k, .int w] (.list (dg (2 ^ w) (x % ((2 ^ w) ^ k + 1)))) := fun x k h1 h2 h3 => fold_plus_to a (d + n) (by (first | lia | omega)) hw' x k h1 (by (first | lia | omega)) h3
  show Ex _ _ { σ := [some (.list (dg (2 ^ w) M)), some (.list (dg (2 ^ w) N)), some (.int n), some (.int w), some (.int least), some (.fn "_law_mul"), .none, .none, .none, .none, .none, .none, .none, .none] } _ _ _
  refine Ex.start rfl ?_
  refine Ex.ite (c := decide ((n : Int) % 2 = 1) || decide ((n : Int) < max least 2)) (by repeat' w_left) (fun h => ?_) (fun h => Ex.nil ?_)
  · refine Ex.ret (lv := .list (dg (2 ^ w) (M % ((2 ^ w) ^ n - 1) * (N % ((2 ^ w) ^ n - 1)) % ((2 ^ w) ^ n - 1)))) ?_ (by rw [← Nat.mul_mod])
    repeat' w_left
    all_goals first | (first | lia | omega) | (have := hlMN ((2 ^ w) ^ n - 1); (first | lia | omega))
  · simp only [Bool.or_eq_false_iff, decide_eq_false_iff_not] at h
    obtain ⟨h1, h2⟩ := h
    have hn2 : 2 ≤ n := by
      have : (2 : Int) ≤ max least 2 := Int.le_max_right _ _
      (first | lia | omega)
    obtain ⟨k, rfl⟩ : ∃ k, n = 2 * k := ⟨n / 2, by (first | lia | omega)⟩
    have hk : 1 ≤ k := by (first | lia | omega)
    have c_rec : ∀ x y : Nat, (dg (2 ^ w) x).length ≤ 1000 → (dg (2 ^ w) y).length ≤ 1000 → CallTo r.cx.toBase (d + 2 * k + 3) "wrapped_product" [.list (dg (2 ^ w) x), .list (dg (2 ^ w) y), .int k, .int w, .int least, .fn "_law_mul"] (.list (dg (2 ^ w) (x * y % ((2 ^ w) ^ k - 1)))) := fun x y hx hy => (ih k (by (first | lia | omega)) d x y hk (by (first | lia | omega)) hx hy).mono (by (first | lia | omega))
    have c_join : ∀ Z, CallTo r.cx.toBase (d + 2 * k + 3) "joined_rests" [.list (dg (2 ^ w) (Z % ((2 ^ w) ^ k - 1))), .list (dg (2 ^ w) (Z % ((2 ^ w) ^ k + 1))), .int k, .int w] (.list (dg (2 ^ w) (Z % ((2 ^ w) ^ (2 * k) - 1)))) := fun Z => joined_to a (d + 2 * k) hw hw' Z k hk (by (first | lia | omega))
    refine Ex.assign (lv := .int k) l_half (Ev.conv (l := .int (((2 * k : Nat) : Int) / 2)) (by repeat' w_left) (congrArg LV.int (by (first | lia | omega)))) ?_
    refine Ex.assign (lv := .list (dg (2 ^ w) (M * N % ((2 ^ w) ^ k - 1)))) l_minus (Ev.conv (l := .list (dg (2 ^ w) (M % ((2 ^ w) ^ k - 1) * (N % ((2 ^ w) ^ k - 1)) % ((2 ^ w) ^ k - 1)))) ?_ (by rw [← Nat.mul_mod])) ?_
    · repeat' w_left
      all_goals first | (first | lia | omega) | exact hlM _ | exact hlN _
    refine Ex.assign (lv := .list (dg (2 ^ w) (M * N % ((2 ^ w) ^ k + 1)))) l_plus (Ev.conv (l := .list (dg (2 ^ w) (M % ((2 ^ w) ^ k + 1) * (N % ((2 ^ w) ^ k + 1)) % ((2 ^ w) ^ k + 1)))) ?_ (by rw [← Nat.mul_mod])) ?_
    · repeat' w_left
      all_goals first | (first | lia | omega) | (have := hlMN ((2 ^ w) ^ k + 1); (first | lia | omega))
    repeat' w_left
    rfl

theorem rec_product_by_wrap {B : Base} (a : Amb B) : Rec B (rc 22) ["a", "b", "w", "least", "mul"] := .of (a.mem 22 (by decide)) (by decide +kernel) fun _ _ _ => ar5 fun _ _ _ _ _ => rfl
theorem by_wrap_to {B : Base} (a : Amb B) {w : Nat} (hw : 2 ≤ w) (hw' : w ≤ 9) (least : Int) (M N : Nat) (hMN : (dg (2 ^ w) M).length + (dg (2 ^ w) N).length ≤ 90) : CallTo B 100 "product_by_wrap" [.list (dg (2 ^ w) M), .list (dg (2 ^ w) N), .int w, .int least, .fn "_law_mul"] (.list (dg (2 ^ w) (M * N))) := by
  have hD := two_leW (w := w) (by (first | lia | omega))
  show CallTo B (99 + 1) (rc 22).name _ _
  have r := rec_product_by_wrap a
  refine CallTo.body r rfl ?_
  have l_a : Loc r.cx "a" 0 := r.lc (by decide +kernel)
  have l_b : Loc r.cx "b" 1 := r.lc (by decide +kernel)
  have l_w : Loc r.cx "w" 2 := r.lc (by decide +kernel)
  have l_least : Loc r.cx "least" 3 := r.lc (by decide +kernel)
  have l_mul : Loc r.cx "mul" 4 := r.lc (by decide +kernel)
  have l_n : Loc r.cx "n" 5 := r.lc (by decide +kernel)
  have b_len : Blt r.cx "len" (.builtin "len") := r.bl (by decide +kernel) a.len (by decide +kernel) (by rfl)
  have g_wrapped_product : Glb r.cx "wrapped_product" := r.gl (by decide +kernel)
  have f_wrapped_product : Fun r.cx.toBase "wrapped_product" := a.fn 21 (by decide) (by rfl)
  obtain ⟨a_wrapped_product, m_wrapped_product⟩ : ∃ fa, r.cx.mg "wrapped_product" = some (.ref fa) := a.mg 21 (by decide) (by rfl)
  obtain ⟨n, hn⟩ : ∃ n, n = (dg (2 ^ w) M).length + (dg (2 ^ w) N).length + 1 := ⟨_, rfl⟩
  have c_wrap : CallTo r.cx.toBase 99 "wrapped_product" [.list (dg (2 ^ w) M), .list (dg (2 ^ w) N), .int ((n + n % 2 : Nat) : Int), .int w, .int least, .fn "_law_mul"] (.list (dg (2 ^ w) (M * N % ((2 ^ w) ^ (n + n % 2) - 1)))) := (wrapped_to a hw hw' least (n + n % 2) 0 M N (by (first | lia | omega)) (by (first | lia | omega)) (by (first | lia | omega)) (by (first | lia | omega))).mono (by (first | lia | omega))
  have hlt : M * N < (2 ^ w) ^ (n + n % 2) - 1 := by
    have h1 := (length_dg_le hD).mp (length_mul hD M N)
    have h2 : (2 ^ w) ^ ((dg (2 ^ w) M).length + (dg (2 ^ w) N).length + 1) ≤ (2 ^ w) ^ (n + n % 2) := Nat.pow_le_pow_right (by (first | lia | omega)) (by (first | lia | omega))
    rw [Nat.pow_succ] at h2
    have h3 : (2 ^ w) ^ ((dg (2 ^ w) M).length + (dg (2 ^ w) N).length) * 2 ≤ (2 ^ w) ^ ((dg (2 ^ w) M).length + (dg (2 ^ w) N).length) * 2 ^ w := Nat.mul_le_mul_left _ hD
    (first | lia | omega)
  rw [Nat.mod_eq_of_lt hlt, Int.natCast_add, Int.natCast_emod] at c_wrap
  show Ex _ _ { σ := [some (.list (dg (2 ^ w) M)), some (.list (dg (2 ^ w) N)), some (.int w), some (.int least), some (.fn "_law_mul"), .none, .none, .none] } _ _ _
  refine Ex.start rfl ?_
  refine Ex.assign (lv := .int n) l_n (Ev.conv (l := .int (((dg (2 ^ w) M).length : Int) + ((dg (2 ^ w) N).length : Int) + 1)) (by repeat' w_left) (congrArg LV.int (by (first | lia | omega)))) ?_
  refine Ex.ret (lv := .list (dg (2 ^ w) (M * N))) ?_ rfl
  repeat' w_left

/-! W11 -/
theorem rec_low_product {B : Base} (a : Amb B) : Rec B (rc 10) ["a", "b", "n", "w", "least", "mul"] := .of (a.mem 10 (by decide)) (by decide +kernel) fun _ _ _ => ar6 fun _ _ _ _ _ _ => rfl

theorem low_product_to {B : Base} (a : Amb B) {w : Nat} (hw : 1 ≤ w) (hw' : w ≤ 9) (least : Int) : ∀ (n d M N : Nat), n ≤ 1000 → (dg (2 ^ w) M).length ≤ 1000 → (dg (2 ^ w) N).length ≤ 1000 →
    CallTo B (d + n + 4) "low_product" [.list (dg (2 ^ w) M), .list (dg (2 ^ w) N), .int n, .int w, .int least, .fn "_law_mul"] (.list (dg (2 ^ w) (M * N % (2 ^ w) ^ n))) := by
  intro n
  induction n using Nat.strongRecOn with
  | ind n ih =>
  intro d M N hn' hM hN
  have hD := two_leW (w := w) (by (first | lia | omega))
  have hcW := castW w
  show CallTo B (d + n + 3 + 1) (rc 10).name _ _
  have r := rec_low_product a
  refine CallTo.body r rfl ?_
  have l_a : Loc r.cx "a" 0 := r.lc (by decide +kernel)
  have l_b : Loc r.cx "b" 1 := r.lc (by decide +kernel)
  have l_n : Loc r.cx "n" 2 := r.lc (by decide +kernel)
  have l_w : Loc r.cx "w" 3 := r.lc (by decide +kernel)
  have l_least : Loc r.cx "least" 4 := r.lc (by decide +kernel)
  have l_mul : Loc r.cx "mul" 5 := r.lc (by decide +kernel)
  have l_size : Loc r.cx "size" 6 := r.lc (by decide +kernel)
  have l_found : Loc r.cx "found" 7 := r.lc (by decide +kernel)
  have l_across : Loc r.cx "across" 8 := r.lc (by decide +kernel)
  have g_normal : Glb r.cx "normal" := r.gl (by decide +kernel)
  have f_normal : Fun r.cx.toBase "normal" := a.fn 0 (by decide) (by rfl)
  obtain ⟨a_normal, m_normal⟩ : ∃ fa, r.cx.mg "normal" = some (.ref fa) := a.mg 0 (by decide) (by rfl)
  have b_max : Blt r.cx "max" (.builtin "max") := r.bl (by decide +kernel) a.max (by decide +kernel) (by rfl)
  have g_low_school : Glb r.cx "low_school" := r.gl (by decide +kernel)
  have f_low_school : Fun r.cx.toBase "low_school" := a.fn 8 (by decide) (by rfl)
  obtain ⟨a_low_school, m_low_school⟩ : ∃ fa, r.cx.mg "low_school" = some (.ref fa) := a.mg 8 (by decide) (by rfl)
  have g_cut_for : Glb r.cx "cut_for" := r.gl (by decide +kernel)
  have f_cut_for : Fun r.cx.toBase "cut_for" := a.fn 9 (by decide) (by rfl)
  obtain ⟨a_cut_for, m_cut_for⟩ : ∃ fa, r.cx.mg "cut_for" = some (.ref fa) := a.mg 9 (by decide) (by rfl)
  have g_low_product : Glb r.cx "low_product" := r.gl (by decide +kernel)
  have f_low_product : Fun r.cx.toBase "low_product" := a.fn 10 (by decide) (by rfl)
  obtain ⟨a_low_product, m_low_product⟩ : ∃ fa, r.cx.mg "low_product" = some (.ref fa) := a.mg 10 (by decide) (by rfl)
  have g_add : Glb r.cx "add" := r.gl (by decide +kernel)
  have f_add : Fun r.cx.toBase "add" := a.fn 3 (by decide) (by rfl)
  obtain ⟨a_add, m_add⟩ : ∃ fa, r.cx.mg "add" = some (.ref fa) := a.mg 3 (by decide) (by rfl)
  have g_add_at : Glb r.cx "add_at" := r.gl (by decide +kernel)
  have f_add_at : Fun r.cx.toBase "add_at" := a.fn 6 (by decide) (by rfl)
  obtain ⟨a_add_at, m_add_at⟩ : ∃ fa, r.cx.mg "add_at" = some (.ref fa) := a.mg 6 (by decide) (by rfl)
  have f_mul : Fun r.cx.toBase "_law_mul" := a.fn 25 (by decide) (by rfl)
  have c_nrm : ∀ M k, CallTo r.cx.toBase (d + n + 3) "normal" [.list ((dg (2 ^ w) M).take k)] (.list (dg (2 ^ w) (M % (2 ^ w) ^ k))) := fun M k => normal_take a (d + n + 2) hD M k
  have hMN : M * N % (2 ^ w) ^ n = (M % (2 ^ w) ^ n) * (N % (2 ^ w) ^ n) % (2 ^ w) ^ n := Nat.mul_mod _ _ _
  have hlA : (dg (2 ^ w) (M % (2 ^ w) ^ n)).length ≤ 1000 := Nat.le_trans (length_mono hD (Nat.mod_le _ _)) hM
  have hlB : (dg (2 ^ w) (N % (2 ^ w) ^ n)).length ≤ 1000 := Nat.le_trans (length_mono hD (Nat.mod_le _ _)) hN
  show Ex _ _ { σ := [some (.list (dg (2 ^ w) M)), some (.list (dg (2 ^ w) N)), some (.int n), some (.int w), some (.int least), some (.fn "_law_mul"), .none, .none, .none, .none, .none, .none, .none, .none, .none, .none] } _ _ _
  refine Ex.start rfl ?_
  refine Ex.tup2 (l1 := .list (dg (2 ^ w) (M % (2 ^ w) ^ n))) (l2 := .list (dg (2 ^ w) (N % (2 ^ w) ^ n))) l_a l_b rfl (Ev.conv (l := .list (dg (2 ^ w) (M % (2 ^ w) ^ (n : Int).toNat))) (by repeat' w_left) (by rw [Int.toNat_natCast])) (Ev.conv (l := .list (dg (2 ^ w) (N % (2 ^ w) ^ (n : Int).toNat))) (by repeat' w_left) (by rw [Int.toNat_natCast])) ?_
  rw [hMN]
  generalize M % (2 ^ w) ^ n = A at *
  generalize N % (2 ^ w) ^ n = K at *
  have c_school : CallTo r.cx.toBase (d + n + 3) "low_school" [.list (dg (2 ^ w) A), .list (dg (2 ^ w) K), .int n, .int w] (.list (dg (2 ^ w) (A * K % (2 ^ w) ^ n))) := low_school_to a (d + n + 1) hw hw' A K n (by (first | lia | omega)) (by (first | lia | omega)) (by (first | lia | omega))
  refine Ex.ite (c := decide ((n : Int) < max least 2)) (by repeat' w_left) (fun h => ?_) (fun h => Ex.nil ?_)
  · repeat' w_left
    rfl
  simp only [decide_eq_false_iff_not] at h
  have hn2 : 1 < n := by
    have : (2 : Int) ≤ max least 2 := Int.le_max_right _ _
    (first | lia | omega)
  obtain ⟨s, hs⟩ : ∃ s : Nat, (s : Int) = min ((7 * (n : Int) + 9) / 10) ((n : Int) - 1) := ⟨(min ((7 * (n : Int) + 9) / 10) ((n : Int) - 1)).toNat, by (first | lia | omega)⟩
  have hs1 : 1 ≤ s := by (first | lia | omega)
  have hs2 : s < n := by (first | lia | omega)
  have hs3 : n ≤ 2 * s := by (first | lia | omega)
  have c_cut : CallTo r.cx.toBase (d + n + 3) "cut_for" [.int n] (.int s) := hs ▸ cut_for_to a (d + n + 2) n
  have hmod : ∀ x y, x ≤ y → (dg (2 ^ w) y).length ≤ 1000 → (dg (2 ^ w) x).length ≤ 1000 := fun x y h1 h2 => Nat.le_trans (length_mono hD h1) h2
  have c_mul : CallTo r.cx.toBase (d + n + 3) "_law_mul" [.list (dg (2 ^ w) (A % (2 ^ w) ^ s)), .list (dg (2 ^ w) (K % (2 ^ w) ^ s)), .int w] (.list (dg (2 ^ w) (A % (2 ^ w) ^ s * (K % (2 ^ w) ^ s)))) := law_mul_to a (d + n + 2) hw hw' _ _ (by have := hmod _ _ (Nat.mod_le A ((2 ^ w) ^ s)) hlA; (first | lia | omega)) (by have := hmod _ _ (Nat.mod_le K ((2 ^ w) ^ s)) hlB; (first | lia | omega))
  have c_rec : ∀ x y : Nat, (dg (2 ^ w) x).length ≤ 1000 → (dg (2 ^ w) y).length ≤ 1000 → CallTo r.cx.toBase (d + n + 3) "low_product" [.list (dg (2 ^ w) x), .list (dg (2 ^ w) y), .int ((n : Int) - (s : Int)), .int w, .int least, .fn "_law_mul"] (.list (dg (2 ^ w) (x * y % (2 ^ w) ^ (n - s)))) := fun x y hx hy => by
    have h := (ih (n - s) (by (first | lia | omega)) d x y (by (first | lia | omega)) hx hy).mono (d' := d + n + 3) (by (first | lia | omega))
    rwa [Int.ofNat_sub (by (first | lia | omega))] at h
  have hlx : ∀ x, (dg (2 ^ w) (x % (2 ^ w) ^ (n - s))).length ≤ 1000 := fun x => (length_dg_le hD).mpr (Nat.lt_of_lt_of_le (Nat.mod_lt _ (Nat.pow_pos (by (first | lia | omega)))) (Nat.pow_le_pow_right (by (first | lia | omega)) (by (first | lia | omega))))
  have c_add : ∀ x y, (dg (2 ^ w) x).length < LIM → (dg (2 ^ w) y).length < LIM → CallTo r.cx.toBase (d + n + 3) "add" [.list (dg (2 ^ w) x), .list (dg (2 ^ w) y), .int w] (.list (dg (2 ^ w) (x + y))) := fun x y => add_to a (d + n + 2) hw hw' x y
  have c_at : ∀ x y, (dg (2 ^ w) x).length ≤ 2000 → (dg (2 ^ w) y).length ≤ 2000 → CallTo r.cx.toBase (d + n + 3) "add_at" [.list (dg (2 ^ w) x), .list (dg (2 ^ w) y), .int s, .int w] (.list (dg (2 ^ w) (x + y * (2 ^ w) ^ s))) := fun x y hx hy => by
    have h := add_at_to a (d + n + 1) hw hw' x y s (by (first | lia | omega)) (by (first | lia | omega))
    rwa [Int.toNat_natCast] at h
  refine Ex.assign (lv := .int s) l_size (by repeat' w_left) ?_
  have es : (s : Int).toNat = s := Int.toNat_natCast s
  have en : (n : Int).toNat = n := Int.toNat_natCast n
  refine Ex.assign (lv := .list (dg (2 ^ w) (A % (2 ^ w) ^ s * (K % (2 ^ w) ^ s) % (2 ^ w) ^ n))) l_found ?_ ?_
  · refine Ev.conv (l := .list (dg (2 ^ w) (A % (2 ^ w) ^ s * (K % (2 ^ w) ^ s) % (2 ^ w) ^ (n : Int).toNat))) ?_ (by rw [en])
    have c_mul' := c_mul
    clear c_mul
    have c_mul : CallTo r.cx.toBase (d + n + 3) "_law_mul" [.list (dg (2 ^ w) (A % (2 ^ w) ^ (s : Int).toNat)), .list (dg (2 ^ w) (K % (2 ^ w) ^ (s : Int).toNat)), .int w] (.list (dg (2 ^ w) (A % (2 ^ w) ^ s * (K % (2 ^ w) ^ s)))) := by rw [es]; exact c_mul'
    repeat' w_left
  have hda : (dg (2 ^ w) (A / (2 ^ w) ^ s)).length ≤ 1000 := hmod _ _ (Nat.div_le_self _ _) hlA
  have hdk : (dg (2 ^ w) (K / (2 ^ w) ^ s)).length ≤ 1000 := hmod _ _ (Nat.div_le_self _ _) hlB
  refine Ex.assign (lv := .list (dg (2 ^ w) (A / (2 ^ w) ^ s * K % (2 ^ w) ^ (n - s)))) l_across ?_ ?_
  · refine Ev.conv (l := .list (dg (2 ^ w) (A / (2 ^ w) ^ (s : Int).toNat * K % (2 ^ w) ^ (n - s)))) ?_ (by rw [es])
    repeat' w_left
    · rw [es]; exact hda
    · exact hlB
  refine Ex.assign (lv := .list (dg (2 ^ w) (A / (2 ^ w) ^ s * K % (2 ^ w) ^ (n - s) + A * (K / (2 ^ w) ^ s) % (2 ^ w) ^ (n - s)))) l_across ?_ ?_
  · refine Ev.conv (l := .list (dg (2 ^ w) (A / (2 ^ w) ^ s * K % (2 ^ w) ^ (n - s) + A * (K / (2 ^ w) ^ (s : Int).toNat) % (2 ^ w) ^ (n - s)))) ?_ (by rw [es])
    repeat' w_left
    · exact hlA
    · rw [es]; exact hdk
    · have := hlx (A / (2 ^ w) ^ s * K); unfold LIM; (first | lia | omega)
    · have := hlx (A * (K / (2 ^ w) ^ (s : Int).toNat)); unfold LIM; (first | lia | omega)
  refine Ex.ret (lv := .list (dg (2 ^ w) (A * K % (2 ^ w) ^ n))) ?_ rfl
  rw [← low_math (A := A) (B := K) (Nat.le_of_lt hs2) hs3]
  have hl2 := length_add hD (hlx (A / (2 ^ w) ^ s * K)) (hlx (A * (K / (2 ^ w) ^ s)))
  have hl1 : (dg (2 ^ w) (A % (2 ^ w) ^ s * (K % (2 ^ w) ^ s) % (2 ^ w) ^ n)).length ≤ 1000 := (length_dg_le hD).mpr (Nat.lt_of_lt_of_le (Nat.mod_lt _ (Nat.pow_pos (by (first | lia | omega)))) (Nat.pow_le_pow_right (by (first | lia | omega)) (by (first | lia | omega))))
  generalize A % (2 ^ w) ^ s * (K % (2 ^ w) ^ s) % (2 ^ w) ^ n = x1 at *
  generalize A / (2 ^ w) ^ s * K % (2 ^ w) ^ (n - s) + A * (K / (2 ^ w) ^ s) % (2 ^ w) ^ (n - s) = x2 at *
  refine Ev.conv (l := .list (dg (2 ^ w) ((x1 + x2 * (2 ^ w) ^ s) % (2 ^ w) ^ (n : Int).toNat))) ?_ (by rw [en])
  repeat' w_left
  all_goals (first | lia | omega)

theorem rec_high_school {B : Base} (a : Amb B) : Rec B (rc 11) ["a", "b", "n", "w"] := .of (a.mem 11 (by decide)) (by decide +kernel) fun _ _ _ => ar4 fun _ _ _ _ => rfl
theorem high_school_to {B : Base} (a : Amb B) (d : Nat) {w : Nat} (hw : 1 ≤ w) (hw' : w ≤ 9) (M N n : Nat) (hn : 1 ≤ n) (hn' : n ≤ 1000) (hM : (dg (2 ^ w) M).length ≤ 1000) (hN : (dg (2 ^ w) N).length ≤ 1000) :
    CallTo B (d + 3) "high_school" [.list (dg (2 ^ w) M), .list (dg (2 ^ w) N), .int n, .int w] (.list (dg (2 ^ w) (hs (2 ^ w) M N n))) := by
  have hD := two_leW (w := w) (by (first | lia | omega))
  have hcW := castW w
  show CallTo B (d + 2 + 1) (rc 11).name _ _
  have r := rec_high_school a
  refine CallTo.body r rfl ?_
  have l_a : Loc r.cx "a" 0 := r.lc (by decide +kernel)
  have l_b : Loc r.cx "b" 1 := r.lc (by decide +kernel)
  have l_n : Loc r.cx "n" 2 := r.lc (by decide +kernel)
  have l_w : Loc r.cx "w" 3 := r.lc (by decide +kernel)
  have l_found : Loc r.cx "found" 4 := r.lc (by decide +kernel)
  have l_at : Loc r.cx "at" 5 := r.lc (by decide +kernel)
  have l_begin : Loc r.cx "begin" 6 := r.lc (by decide +kernel)
  have l_row : Loc r.cx "row" 7 := r.lc (by decide +kernel)
  have b_range : Blt r.cx "range" (.type "range") := r.bl (by decide +kernel) a.range (by decide +kernel) (by rfl)
  have b_len : Blt r.cx "len" (.builtin "len") := r.bl (by decide +kernel) a.len (by decide +kernel) (by rfl)
  have b_max : Blt r.cx "max" (.builtin "max") := r.bl (by decide +kernel) a.max (by decide +kernel) (by rfl)
  have g_times_limb : Glb r.cx "times_limb" := r.gl (by decide +kernel)
  have f_times_limb : Fun r.cx.toBase "times_limb" := a.fn 12 (by decide) (by rfl)
  obtain ⟨a_times_limb, m_times_limb⟩ : ∃ fa, r.cx.mg "times_limb" = some (.ref fa) := a.mg 12 (by decide) (by rfl)
  have g_normal : Glb r.cx "normal" := r.gl (by decide +kernel)
  have f_normal : Fun r.cx.toBase "normal" := a.fn 0 (by decide) (by rfl)
  obtain ⟨a_normal, m_normal⟩ : ∃ fa, r.cx.mg "normal" = some (.ref fa) := a.mg 0 (by decide) (by rfl)
  have g_add_at : Glb r.cx "add_at" := r.gl (by decide +kernel)
  have f_add_at : Fun r.cx.toBase "add_at" := a.fn 6 (by decide) (by rfl)
  obtain ⟨a_add_at, m_add_at⟩ : ∃ fa, r.cx.mg "add_at" = some (.ref fa) := a.mg 6 (by decide) (by rfl)
  have c_nrm : ∀ M, CallTo r.cx.toBase (d + 2) "normal" [.list (dg (2 ^ w) M)] (.list (dg (2 ^ w) M)) := fun M => normal_dg a (d + 1) hD M
  have hlh : ∀ k, (dg (2 ^ w) (hsS (2 ^ w) M N n k)).length ≤ 2000 := fun k => Nat.le_trans (length_mono hD (hsS_le hD M N n k)) (Nat.le_trans (length_mul hD M N) (by (first | lia | omega)))
  show Ex _ _ { σ := [some (.list (dg (2 ^ w) M)), some (.list (dg (2 ^ w) N)), some (.int n), some (.int w), .none, .none, .none, .none, .none, .none, .none, .none, .none, .none] } _ _ _
  refine Ex.start rfl ?_
  refine Ex.assign (lv := .list (dg (2 ^ w) 0)) l_found (Ev.conv (l := .list []) (by repeat' w_left) (by rw [dg_zero])) ?_
  generalize hla : (dg (2 ^ w) M).length = la at *
  refine Ex.forR1 (n := la) (P := Nat) (fun p => { σ := [some (.list (dg (2 ^ w) M)), some (.list (dg (2 ^ w) N)), some (.int n), some (.int w), some (.list (dg (2 ^ w) p)), .none, .none, .none, .none, .none, .none, .none, .none, .none] })
    (fun k p => p = hsS (2 ^ w) M N n k) 0 l_at b_range (by rw [← hla]; repeat' w_left) (by unfold LIM; (first | lia | omega)) rfl (Le.of rfl ⟨rfl, rfl, rfl, rfl, rfl, trivial⟩) (fun _ _ => rfl) ?_ ?_
  · rintro k p hk rfl
    have ha : (dg (2 ^ w) M).getD k 0 = ((M / (2 ^ w) ^ k % 2 ^ w : Nat) : Int) := getD_dg hD _ _
    have hx := Nat.mod_lt (M / (2 ^ w) ^ k) (show 0 < 2 ^ w by (first | lia | omega))
    have hlk := hlh k
    have hval : hsS (2 ^ w) M N n (k + 1) = hsS (2 ^ w) M N n k + (N / (2 ^ w) ^ (n - 1 - k)) * (M / (2 ^ w) ^ k % 2 ^ w) * (2 ^ w) ^ (k - (n - 1)) := rfl
    generalize M / (2 ^ w) ^ k % 2 ^ w = x at *
    have hbl : ∀ e, (dg (2 ^ w) (N / (2 ^ w) ^ e)).length ≤ 1000 := fun e => Nat.le_trans (length_mono hD (Nat.div_le_self _ _)) hN
    have hxl : (dg (2 ^ w) x).length ≤ 1 := (length_dg_le hD).mpr (by rw [Nat.pow_one]; exact hx)
    have hrl : ∀ e, (dg (2 ^ w) (N / (2 ^ w) ^ e * x)).length ≤ 1001 := fun e => Nat.le_trans (length_mul hD _ _) (by have := hbl e; (first | lia | omega))
    have c_times : ∀ e, CallTo r.cx.toBase (d + 2) "times_limb" [.list (dg (2 ^ w) (N / (2 ^ w) ^ e)), .int ((dg (2 ^ w) M).getD (k : Int).toNat 0), .int w] (.list (dg (2 ^ w) (N / (2 ^ w) ^ e * x))) := fun e => by
      rw [Int.toNat_natCast, ha]
      exact times_limb_to a d hw hw' _ x hx (by have := hbl e; unfold LIM; (first | lia | omega))
    refine Ex.assign (lv := .int ((n - 1 - k : Nat) : Int)) l_begin (Ev.conv (l := .int (max ((n : Int) - 1 - (k : Int)) 0)) (by repeat' w_left) (congrArg LV.int (by (first | lia | omega)))) ?_
    refine Ex.assign (lv := .list (dg (2 ^ w) (N / (2 ^ w) ^ (n - 1 - k) * x))) l_row ?_ ?_
    · refine Ev.conv (l := .list (dg (2 ^ w) (N / (2 ^ w) ^ ((n - 1 - k : Nat) : Int).toNat * x))) ?_ (by rw [Int.toNat_natCast])
      repeat' w_left
      (first | lia | omega)
    have c_at : CallTo r.cx.toBase (d + 2) "add_at" [.list (dg (2 ^ w) (hsS (2 ^ w) M N n k)), .list (dg (2 ^ w) (N / (2 ^ w) ^ (n - 1 - k) * x)), .int ((k : Int) + ((n - 1 - k : Nat) : Int) - ((n : Int) - 1)), .int w] (.list (dg (2 ^ w) (hsS (2 ^ w) M N n (k + 1)))) := by
      have h := add_at_to a d hw hw' (hsS (2 ^ w) M N n k) (N / (2 ^ w) ^ (n - 1 - k) * x) ((k : Int) + ((n - 1 - k : Nat) : Int) - ((n : Int) - 1)) (by (first | lia | omega)) (by have := hrl (n - 1 - k); (first | lia | omega))
      rwa [show ((k : Int) + ((n - 1 - k : Nat) : Int) - ((n : Int) - 1)).toNat = k - (n - 1) by (first | lia | omega), ← hval] at h
    refine Ex.assign (lv := .list (dg (2 ^ w) (hsS (2 ^ w) M N n (k + 1)))) l_found (by repeat' w_left) (Ex.nil ⟨_, rfl, Le.of rfl ⟨rfl, rfl, rfl, rfl, rfl, trivial⟩⟩)
  · rintro p rfl
    refine Ex.ret (lv := .list (dg (2 ^ w) (hs (2 ^ w) M N n))) ?_ rfl
    unfold hs
    rw [hla]
    repeat' w_left

/-! W12 -/
theorem HB.le {D n M N V : Nat} (hD : 2 ≤ D) (h : HB D n M N V) : V ≤ M * N := by
  have h2 : V * 1 ≤ V * D ^ (n - 1) := Nat.mul_le_mul_left _ (Nat.pow_pos (by (first | lia | omega)))
  have := h.lo
  (first | lia | omega)

theorem rec_high_sum {B : Base} (a : Amb B) : Rec B (rc 13) ["a", "b", "n", "w", "least", "mul"] := .of (a.mem 13 (by decide)) (by decide +kernel) fun _ _ _ => ar6 fun _ _ _ _ _ _ => rfl
theorem high_sum_to {B : Base} (a : Amb B) {w : Nat} (hw : 1 ≤ w) (hw' : w ≤ 9) (least : Int) : ∀ (n d M N : Nat), 1 ≤ n → n ≤ 1000 → M < (2 ^ w) ^ n → N < (2 ^ w) ^ n →
    ∃ V, HB (2 ^ w) n M N V ∧ CallTo B (d + n + 5) "high_sum" [.list (dg (2 ^ w) M), .list (dg (2 ^ w) N), .int n, .int w, .int least, .fn "_law_mul"] (.list (dg (2 ^ w) V)) := by
  intro n
  induction n using Nat.strongRecOn with
  | ind n ih =>
  intro d M N hn1 hn' hMn hNn
  have hD := two_leW (w := w) (by (first | lia | omega))
  have hcW := castW w
  have hM : (dg (2 ^ w) M).length ≤ 1000 := Nat.le_trans ((length_dg_le hD).mpr hMn) hn'
  have hN : (dg (2 ^ w) N).length ≤ 1000 := Nat.le_trans ((length_dg_le hD).mpr hNn) hn'
  by_cases hlt : (n : Int) < max least 3
  · refine ⟨hs (2 ^ w) M N n, HB.school hD M N n, ?_⟩
    show CallTo B (d + n + 4 + 1) (rc 13).name _ _
    have r := rec_high_sum a
    refine CallTo.body r rfl ?_
    have l_a : Loc r.cx "a" 0 := r.lc (by decide +kernel)
    have l_b : Loc r.cx "b" 1 := r.lc (by decide +kernel)
    have l_n : Loc r.cx "n" 2 := r.lc (by decide +kernel)
    have l_w : Loc r.cx "w" 3 := r.lc (by decide +kernel)
    have l_least : Loc r.cx "least" 4 := r.lc (by decide +kernel)
    have l_mul : Loc r.cx "mul" 5 := r.lc (by decide +kernel)
    have l_size : Loc r.cx "size" 6 := r.lc (by decide +kernel)
    have l_rest : Loc r.cx "rest" 7 := r.lc (by decide +kernel)
    have l_found : Loc r.cx "found" 8 := r.lc (by decide +kernel)
    have b_max : Blt r.cx "max" (.builtin "max") := r.bl (by decide +kernel) a.max (by decide +kernel) (by rfl)
    have g_high_school : Glb r.cx "high_school" := r.gl (by decide +kernel)
    have f_high_school : Fun r.cx.toBase "high_school" := a.fn 11 (by decide) (by rfl)
    obtain ⟨a_high_school, m_high_school⟩ : ∃ fa, r.cx.mg "high_school" = some (.ref fa) := a.mg 11 (by decide) (by rfl)
    have g_cut_for : Glb r.cx "cut_for" := r.gl (by decide +kernel)
    have f_cut_for : Fun r.cx.toBase "cut_for" := a.fn 9 (by decide) (by rfl)
    obtain ⟨a_cut_for, m_cut_for⟩ : ∃ fa, r.cx.mg "cut_for" = some (.ref fa) := a.mg 9 (by decide) (by rfl)
    have g_add : Glb r.cx "add" := r.gl (by decide +kernel)
    have f_add : Fun r.cx.toBase "add" := a.fn 3 (by decide) (by rfl)
    obtain ⟨a_add, m_add⟩ : ∃ fa, r.cx.mg "add" = some (.ref fa) := a.mg 3 (by decide) (by rfl)
    have g_high_sum : Glb r.cx "high_sum" := r.gl (by decide +kernel)
    have f_high_sum : Fun r.cx.toBase "high_sum" := a.fn 13 (by decide) (by rfl)
    obtain ⟨a_high_sum, m_high_sum⟩ : ∃ fa, r.cx.mg "high_sum" = some (.ref fa) := a.mg 13 (by decide) (by rfl)
    have g_normal : Glb r.cx "normal" := r.gl (by decide +kernel)
    have f_normal : Fun r.cx.toBase "normal" := a.fn 0 (by decide) (by rfl)
    obtain ⟨a_normal, m_normal⟩ : ∃ fa, r.cx.mg "normal" = some (.ref fa) := a.mg 0 (by decide) (by rfl)
    have c_school : CallTo r.cx.toBase (d + n + 4) "high_school" [.list (dg (2 ^ w) M), .list (dg (2 ^ w) N), .int n, .int w] (.list (dg (2 ^ w) (hs (2 ^ w) M N n))) := high_school_to a (d + n + 1) hw hw' M N n hn1 hn' hM hN
    show Ex _ _ { σ := [some (.list (dg (2 ^ w) M)), some (.list (dg (2 ^ w) N)), some (.int n), some (.int w), some (.int least), some (.fn "_law_mul"), .none, .none, .none, .none, .none, .none, .none, .none, .none] } _ _ _
    refine Ex.start rfl ?_
    refine Ex.ite (c := decide ((n : Int) < max least 3)) (by repeat' w_left) (fun h => ?_) (fun h => ?_)
    · repeat' w_left
      rfl
    · simp only [decide_eq_false_iff_not] at h
      exact absurd hlt h
  have hn3 : 3 ≤ n := by
    have : (3 : Int) ≤ max least 3 := Int.le_max_right _ _
    (first | lia | omega)
  obtain ⟨s, hsz⟩ : ∃ s : Nat, (s : Int) = max (min ((7 * (n : Int) + 9) / 10) ((n : Int) - 1)) (((n : Int) + 2) / 2) := ⟨(max (min ((7 * (n : Int) + 9) / 10) ((n : Int) - 1)) (((n : Int) + 2) / 2)).toNat, by (first | lia | omega)⟩
  have hs2 : s < n := by (first | lia | omega)
  have hs3 : n + 1 ≤ 2 * s := by (first | lia | omega)
  obtain ⟨q, hq⟩ : ∃ q : Nat, q = n - s := ⟨_, rfl⟩
  have hnq : n = q + s := by (first | lia | omega)
  have hpw : (2 ^ w) ^ n = (2 ^ w) ^ q * (2 ^ w) ^ s := by rw [← Nat.pow_add, hnq]
  obtain ⟨V1, H1, C1⟩ := ih q (by (first | lia | omega)) d (M % (2 ^ w) ^ q) (N / (2 ^ w) ^ s) (by (first | lia | omega)) (by (first | lia | omega)) (Nat.mod_lt _ (Nat.pow_pos (by (first | lia | omega)))) (Nat.div_lt_of_lt_mul (by rw [Nat.mul_comm, ← hpw]; exact hNn))
  obtain ⟨V2, H2, C2⟩ := ih q (by (first | lia | omega)) d (M / (2 ^ w) ^ s) (N % (2 ^ w) ^ q) (by (first | lia | omega)) (by (first | lia | omega)) (Nat.div_lt_of_lt_mul (by rw [Nat.mul_comm, ← hpw]; exact hMn)) (Nat.mod_lt _ (Nat.pow_pos (by (first | lia | omega))))
  refine ⟨_, HB.step hD hnq (by (first | lia | omega)) hs3 H1 H2, ?_⟩
  have hV1 : (dg (2 ^ w) V1).length ≤ 2000 := Nat.le_trans (length_mono hD (H1.le hD)) (Nat.le_trans (length_mul hD _ _) (by
    have := length_mono hD (Nat.mod_le M ((2 ^ w) ^ q)); have := length_mono hD (Nat.div_le_self N ((2 ^ w) ^ s)); (first | lia | omega)))
  have hV2 : (dg (2 ^ w) V2).length ≤ 2000 := Nat.le_trans (length_mono hD (H2.le hD)) (Nat.le_trans (length_mul hD _ _) (by
    have := length_mono hD (Nat.mod_le N ((2 ^ w) ^ q)); have := length_mono hD (Nat.div_le_self M ((2 ^ w) ^ s)); (first | lia | omega)))
  have hF : (dg (2 ^ w) (M / (2 ^ w) ^ q * (N / (2 ^ w) ^ q) / (2 ^ w) ^ (2 * s - n - 1))).length ≤ 2000 := Nat.le_trans (length_mono hD (Nat.div_le_self _ _)) (Nat.le_trans (length_mul hD _ _) (by
    have := length_mono hD (Nat.div_le_self N ((2 ^ w) ^ q)); have := length_mono hD (Nat.div_le_self M ((2 ^ w) ^ q)); (first | lia | omega)))
  show CallTo B (d + n + 4 + 1) (rc 13).name _ _
  have r := rec_high_sum a
  refine CallTo.body r rfl ?_
  have l_a : Loc r.cx "a" 0 := r.lc (by decide +kernel)
  have l_b : Loc r.cx "b" 1 := r.lc (by decide +kernel)
  have l_n : Loc r.cx "n" 2 := r.lc (by decide +kernel)
  have l_w : Loc r.cx "w" 3 := r.lc (by decide +kernel)
  have l_least : Loc r.cx "least" 4 := r.lc (by decide +kernel)
  have l_mul : Loc r.cx "mul" 5 := r.lc (by decide +kernel)
  have l_size : Loc r.cx "size" 6 := r.lc (by decide +kernel)
  have l_rest : Loc r.cx "rest" 7 := r.lc (by decide +kernel)
  have l_found : Loc r.cx "found" 8 := r.lc (by decide +kernel)
  have b_max : Blt r.cx "max" (.builtin "max") := r.bl (by decide +kernel) a.max (by decide +kernel) (by rfl)
  have g_high_school : Glb r.cx "high_school" := r.gl (by decide +kernel)
  have f_high_school : Fun r.cx.toBase "high_school" := a.fn 11 (by decide) (by rfl)
  obtain ⟨a_high_school, m_high_school⟩ : ∃ fa, r.cx.mg "high_school" = some (.ref fa) := a.mg 11 (by decide) (by rfl)
  have g_cut_for : Glb r.cx "cut_for" := r.gl (by decide +kernel)
  have f_cut_for : Fun r.cx.toBase "cut_for" := a.fn 9 (by decide) (by rfl)
  obtain ⟨a_cut_for, m_cut_for⟩ : ∃ fa, r.cx.mg "cut_for" = some (.ref fa) := a.mg 9 (by decide) (by rfl)
  have g_add : Glb r.cx "add" := r.gl (by decide +kernel)
  have f_add : Fun r.cx.toBase "add" := a.fn 3 (by decide) (by rfl)
  obtain ⟨a_add, m_add⟩ : ∃ fa, r.cx.mg "add" = some (.ref fa) := a.mg 3 (by decide) (by rfl)
  have g_high_sum : Glb r.cx "high_sum" := r.gl (by decide +kernel)
  have f_high_sum : Fun r.cx.toBase "high_sum" := a.fn 13 (by decide) (by rfl)
  obtain ⟨a_high_sum, m_high_sum⟩ : ∃ fa, r.cx.mg "high_sum" = some (.ref fa) := a.mg 13 (by decide) (by rfl)
  have g_normal : Glb r.cx "normal" := r.gl (by decide +kernel)
  have f_normal : Fun r.cx.toBase "normal" := a.fn 0 (by decide) (by rfl)
  obtain ⟨a_normal, m_normal⟩ : ∃ fa, r.cx.mg "normal" = some (.ref fa) := a.mg 0 (by decide) (by rfl)
  have f_mul : Fun r.cx.toBase "_law_mul" := a.fn 25 (by decide) (by rfl)
  have c_nrm : ∀ M k, CallTo r.cx.toBase (d + n + 4) "normal" [.list ((dg (2 ^ w) M).take k)] (.list (dg (2 ^ w) (M % (2 ^ w) ^ k))) := fun M k => normal_take a (d + n + 3) hD M k
  have c_cut : CallTo r.cx.toBase (d + n + 4) "cut_for" [.int n] (.int (min ((7 * (n : Int) + 9) / 10) ((n : Int) - 1))) := cut_for_to a (d + n + 3) n
  have c_mul : ∀ e e', CallTo r.cx.toBase (d + n + 4) "_law_mul" [.list (dg (2 ^ w) (M / (2 ^ w) ^ e)), .list (dg (2 ^ w) (N / (2 ^ w) ^ e')), .int w] (.list (dg (2 ^ w) (M / (2 ^ w) ^ e * (N / (2 ^ w) ^ e')))) := fun e e' => law_mul_to a (d + n + 3) hw hw' _ _ (by have := length_mono hD (Nat.div_le_self M ((2 ^ w) ^ e)); (first | lia | omega)) (by have := length_mono hD (Nat.div_le_self N ((2 ^ w) ^ e')); (first | lia | omega))
  have c_add : ∀ x y, (dg (2 ^ w) x).length < LIM → (dg (2 ^ w) y).length < LIM → CallTo r.cx.toBase (d + n + 4) "add" [.list (dg (2 ^ w) x), .list (dg (2 ^ w) y), .int w] (.list (dg (2 ^ w) (x + y))) := fun x y => add_to a (d + n + 3) hw hw' x y
  have c_r1 : ∀ e e', e = q → e' = s → CallTo r.cx.toBase (d + n + 4) "high_sum" [.list (dg (2 ^ w) (M % (2 ^ w) ^ e)), .list (dg (2 ^ w) (N / (2 ^ w) ^ e')), .int q, .int w, .int least, .fn "_law_mul"] (.list (dg (2 ^ w) V1)) := fun e e' h1 h2 => by
    subst h1 h2
    exact C1.mono (by (first | lia | omega))
  have c_r2 : ∀ e e', e = q → e' = s → CallTo r.cx.toBase (d + n + 4) "high_sum" [.list (dg (2 ^ w) (M / (2 ^ w) ^ e')), .list (dg (2 ^ w) (N % (2 ^ w) ^ e)), .int q, .int w, .int least, .fn "_law_mul"] (.list (dg (2 ^ w) V2)) := fun e e' h1 h2 => by
    subst h1 h2
    exact C2.mono (by (first | lia | omega))
  show Ex _ _ { σ := [some (.list (dg (2 ^ w) M)), some (.list (dg (2 ^ w) N)), some (.int n), some (.int w), some (.int least), some (.fn "_law_mul"), .none, .none, .none, .none, .none, .none, .none, .none, .none] } _ _ _
  refine Ex.start rfl ?_
  refine Ex.ite (c := decide ((n : Int) < max least 3)) (by repeat' w_left) (fun h => ?_) (fun h => Ex.nil ?_)
  · simp only [decide_eq_true_eq] at h
    exact absurd h hlt
  refine Ex.assign (lv := .int s) l_size (Ev.conv (l := .int (max (min ((7 * (n : Int) + 9) / 10) ((n : Int) - 1)) (((n : Int) + 2) / 2))) (by repeat' w_left) (congrArg LV.int hsz.symm)) ?_
  refine Ex.assign (lv := .int q) l_rest (Ev.conv (l := .int ((n : Int) - (s : Int))) (by repeat' w_left) (congrArg LV.int (by (first | lia | omega)))) ?_
  generalize hFe : M / (2 ^ w) ^ q * (N / (2 ^ w) ^ q) / (2 ^ w) ^ (2 * s - n - 1) = F at *
  refine Ex.assign (lv := .list (dg (2 ^ w) F)) l_found (Ev.conv (l := .list (dg (2 ^ w) (M / (2 ^ w) ^ (q : Int).toNat * (N / (2 ^ w) ^ (q : Int).toNat) / (2 ^ w) ^ (2 * (s : Int) - (n : Int) - 1).toNat))) ?_ ?_) ?_
  · clear hs3
    repeat' w_left
    all_goals first | exact IntMulOk.small (by decide) | (first | lia | omega)
  · rw [Int.toNat_natCast, show (2 * (s : Int) - (n : Int) - 1).toNat = 2 * s - n - 1 by (first | lia | omega), hFe]
  have hF1 : (dg (2 ^ w) (F + V1)).length ≤ 2001 := length_add hD hF hV1
  clear hs3 hn3
  refine Ex.assign (lv := .list (dg (2 ^ w) (F + V1))) l_found (by (repeat' w_left) <;> first | (first | lia | omega) | (unfold LIM; (first | lia | omega))) ?_
  refine Ex.ret (lv := .list (dg (2 ^ w) (F + V1 + V2))) (by (repeat' w_left) <;> first | (first | lia | omega) | (unfold LIM; (first | lia | omega))) rfl

theorem rec_high_product {B : Base} (a : Amb B) : Rec B (rc 14) ["a", "b", "n", "w", "least", "mul"] := .of (a.mem 14 (by decide)) (by decide +kernel) fun _ _ _ => ar6 fun _ _ _ _ _ _ => rfl
theorem high_product_to {B : Base} (a : Amb B) {w : Nat} (hw : 1 ≤ w) (hw' : w ≤ 9) (least : Int) (n d M N : Nat) (hn' : n ≤ 1000) (hMn : M < (2 ^ w) ^ n) (hNn : N < (2 ^ w) ^ n) :
    ∃ V, (V ≤ M * N / (2 ^ w) ^ n ∧ M * N / (2 ^ w) ^ n ≤ V + n) ∧ CallTo B (d + n + 6) "high_product" [.list (dg (2 ^ w) M), .list (dg (2 ^ w) N), .int n, .int w, .int least, .fn "_law_mul"] (.list (dg (2 ^ w) V)) := by
  have hD := two_leW (w := w) (by (first | lia | omega))
  have hM := (length_dg_le hD).mpr hMn
  have hN := (length_dg_le hD).mpr hNn
  by_cases hn0 : n = 0
  · subst hn0
    rw [Nat.pow_zero] at hMn hNn
    have hM0 : M = 0 := by (first | lia | omega)
    have hN0 : N = 0 := by (first | lia | omega)
    subst hM0 hN0
    refine ⟨0, ⟨Nat.zero_le _, by rw [Nat.zero_mul, Nat.zero_div]; exact Nat.zero_le _⟩, ?_⟩
    show CallTo B (d + 0 + 5 + 1) (rc 14).name _ _
    have r := rec_high_product a
    refine CallTo.body r rfl ?_
    have l_a : Loc r.cx "a" 0 := r.lc (by decide +kernel)
    have l_b : Loc r.cx "b" 1 := r.lc (by decide +kernel)
    have l_n : Loc r.cx "n" 2 := r.lc (by decide +kernel)
    have l_w : Loc r.cx "w" 3 := r.lc (by decide +kernel)
    have l_least : Loc r.cx "least" 4 := r.lc (by decide +kernel)
    have l_mul : Loc r.cx "mul" 5 := r.lc (by decide +kernel)
    have b_max : Blt r.cx "max" (.builtin "max") := r.bl (by decide +kernel) a.max (by decide +kernel) (by rfl)
    have b_len : Blt r.cx "len" (.builtin "len") := r.bl (by decide +kernel) a.len (by decide +kernel) (by rfl)
    have g_high_sum : Glb r.cx "high_sum" := r.gl (by decide +kernel)
    have f_high_sum : Fun r.cx.toBase "high_sum" := a.fn 13 (by decide) (by rfl)
    obtain ⟨a_high_sum, m_high_sum⟩ : ∃ fa, r.cx.mg "high_sum" = some (.ref fa) := a.mg 13 (by decide) (by rfl)
    show Ex _ _ { σ := [some (.list (dg (2 ^ w) 0)), some (.list (dg (2 ^ w) 0)), some (.int (0 : Nat)), some (.int w), some (.int least), some (.fn "_law_mul"), .none, .none, .none, .none] } _ _ _
    refine Ex.start rfl ?_
    refine Ex.ite (c := decide (((0 : Nat) : Int) < max ((dg (2 ^ w) 0).length : Int) ((dg (2 ^ w) 0).length : Int))) (by repeat' w_left) (fun h => ?_) (fun h => Ex.nil ?_)
    · exfalso
      simp [dg_zero] at h
    · refine Ex.ret (lv := .list (dg (2 ^ w) 0)) (Ev.ife (c := decide (((0 : Nat) : Int) = 0)) (by repeat' w_left) (fun _ => ?_) (fun h => by simp at h)) rfl
      rw [dg_zero]
      repeat' w_left
  obtain ⟨V, HV, CV⟩ := high_sum_to a hw hw' least n d M N (by (first | lia | omega)) hn' hMn hNn
  obtain ⟨t1, t2⟩ := HV.told hD (by (first | lia | omega))
  refine ⟨V / 2 ^ w, ⟨t1, by (first | lia | omega)⟩, ?_⟩
  show CallTo B (d + n + 5 + 1) (rc 14).name _ _
  have r := rec_high_product a
  refine CallTo.body r rfl ?_
  have l_a : Loc r.cx "a" 0 := r.lc (by decide +kernel)
  have l_b : Loc r.cx "b" 1 := r.lc (by decide +kernel)
  have l_n : Loc r.cx "n" 2 := r.lc (by decide +kernel)
  have l_w : Loc r.cx "w" 3 := r.lc (by decide +kernel)
  have l_least : Loc r.cx "least" 4 := r.lc (by decide +kernel)
  have l_mul : Loc r.cx "mul" 5 := r.lc (by decide +kernel)
  have b_max : Blt r.cx "max" (.builtin "max") := r.bl (by decide +kernel) a.max (by decide +kernel) (by rfl)
  have b_len : Blt r.cx "len" (.builtin "len") := r.bl (by decide +kernel) a.len (by decide +kernel) (by rfl)
  have g_high_sum : Glb r.cx "high_sum" := r.gl (by decide +kernel)
  have f_high_sum : Fun r.cx.toBase "high_sum" := a.fn 13 (by decide) (by rfl)
  obtain ⟨a_high_sum, m_high_sum⟩ : ∃ fa, r.cx.mg "high_sum" = some (.ref fa) := a.mg 13 (by decide) (by rfl)
  have c_sum : CallTo r.cx.toBase (d + n + 5) "high_sum" [.list (dg (2 ^ w) M), .list (dg (2 ^ w) N), .int n, .int w, .int least, .fn "_law_mul"] (.list (dg (2 ^ w) V)) := CV
  show Ex _ _ { σ := [some (.list (dg (2 ^ w) M)), some (.list (dg (2 ^ w) N)), some (.int n), some (.int w), some (.int least), some (.fn "_law_mul"), .none, .none, .none, .none] } _ _ _
  refine Ex.start rfl ?_
  refine Ex.ite (c := decide ((n : Int) < max ((dg (2 ^ w) M).length : Int) ((dg (2 ^ w) N).length : Int))) (by repeat' w_left) (fun h => ?_) (fun h => Ex.nil ?_)
  · exfalso
    simp only [decide_eq_true_eq] at h
    (first | lia | omega)
  · refine Ex.ret (lv := .list (dg (2 ^ w) (V / 2 ^ w))) (Ev.ife (c := decide ((n : Int) = 0)) (by repeat' w_left) (fun h => by simp only [decide_eq_true_eq] at h; (first | lia | omega)) (fun _ => ?_)) rfl
    refine Ev.conv (l := .list (dg (2 ^ w) (V / (2 ^ w) ^ (1 : Int).toNat))) (by repeat' w_left) (by rw [show (1 : Int).toNat = 1 from rfl, Nat.pow_one])

theorem rec_high_sure {B : Base} (a : Amb B) : Rec B (rc 16) ["a", "b", "n", "w", "mul"] := .of (a.mem 16 (by decide)) (by decide +kernel) fun _ _ _ => ar5 fun _ _ _ _ _ => rfl
theorem high_sure_to {B : Base} (a : Amb B) {w : Nat} (hw : 1 ≤ w) (hw' : w ≤ 9) (n d M N : Nat) (hn' : n ≤ 1000) (hMn : M < (2 ^ w) ^ n) (hNn : N < (2 ^ w) ^ n) :
    ∃ bl, (n < 2 → bl = true) ∧ CallTo B (d + 4) "high_sure" [.list (dg (2 ^ w) M), .list (dg (2 ^ w) N), .int n, .int w, .fn "_law_mul"] (.pair (.list (dg (2 ^ w) (M * N / (2 ^ w) ^ n))) (.bool bl)) := by
  have hD := two_leW (w := w) (by (first | lia | omega))
  have hcW := castW w
  have hM := (length_dg_le hD).mpr hMn
  have hN := (length_dg_le hD).mpr hNn
  refine ⟨if n < 2 then true else if hs (2 ^ w) M N (n - 1) / 2 ^ w % 2 ^ w + n < 2 ^ w then false else true, fun h => by rw [if_pos h], ?_⟩
  show CallTo B (d + 3 + 1) (rc 16).name _ _
  have r := rec_high_sure a
  refine CallTo.body r rfl ?_
  have l_a : Loc r.cx "a" 0 := r.lc (by decide +kernel)
  have l_b : Loc r.cx "b" 1 := r.lc (by decide +kernel)
  have l_n : Loc r.cx "n" 2 := r.lc (by decide +kernel)
  have l_w : Loc r.cx "w" 3 := r.lc (by decide +kernel)
  have l_mul : Loc r.cx "mul" 4 := r.lc (by decide +kernel)
  have l_found : Loc r.cx "found" 5 := r.lc (by decide +kernel)
  have l_guard : Loc r.cx "guard" 6 := r.lc (by decide +kernel)
  have b_max : Blt r.cx "max" (.builtin "max") := r.bl (by decide +kernel) a.max (by decide +kernel) (by rfl)
  have b_len : Blt r.cx "len" (.builtin "len") := r.bl (by decide +kernel) a.len (by decide +kernel) (by rfl)
  have g_high_school : Glb r.cx "high_school" := r.gl (by decide +kernel)
  have f_high_school : Fun r.cx.toBase "high_school" := a.fn 11 (by decide) (by rfl)
  obtain ⟨a_high_school, m_high_school⟩ : ∃ fa, r.cx.mg "high_school" = some (.ref fa) := a.mg 11 (by decide) (by rfl)
  have f_mul : Fun r.cx.toBase "_law_mul" := a.fn 25 (by decide) (by rfl)
  have c_mul : CallTo r.cx.toBase (d + 3) "_law_mul" [.list (dg (2 ^ w) M), .list (dg (2 ^ w) N), .int w] (.list (dg (2 ^ w) (M * N))) := law_mul_to a (d + 2) hw hw' M N (by (first | lia | omega)) (by (first | lia | omega))
  show Ex _ _ { σ := [some (.list (dg (2 ^ w) M)), some (.list (dg (2 ^ w) N)), some (.int n), some (.int w), some (.fn "_law_mul"), .none, .none, .none, .none, .none, .none] } _ _ _
  refine Ex.start rfl ?_
  have en : (n : Int).toNat = n := Int.toNat_natCast n
  refine Ex.ite (c := decide ((n : Int) < max ((dg (2 ^ w) M).length : Int) ((dg (2 ^ w) N).length : Int))) (by repeat' w_left) (fun h => ?_) (fun h => Ex.nil ?_)
  · exfalso
    simp only [decide_eq_true_eq] at h
    (first | lia | omega)
  refine Ex.ite (c := decide ((n : Int) < 2)) (by repeat' w_left) (fun h => ?_) (fun h => Ex.nil ?_)
  · simp only [decide_eq_true_eq] at h
    rw [if_pos (by (first | lia | omega))]
    refine Ex.ret (lv := .pair (.list (dg (2 ^ w) (M * N / (2 ^ w) ^ (n : Int).toNat))) (.bool true)) (by repeat' w_left) (by rw [en])
  simp only [decide_eq_false_iff_not] at h
  rw [if_neg (show ¬ n < 2 by (first | lia | omega))]
  have c_school : CallTo r.cx.toBase (d + 3) "high_school" [.list (dg (2 ^ w) M), .list (dg (2 ^ w) N), .int ((n : Int) - 1), .int w] (.list (dg (2 ^ w) (hs (2 ^ w) M N (n - 1)))) := by
    have h := high_school_to a d hw hw' M N (n - 1) (by (first | lia | omega)) (by (first | lia | omega)) (by (first | lia | omega)) (by (first | lia | omega))
    rwa [show ((n - 1 : Nat) : Int) = (n : Int) - 1 by (first | lia | omega)] at h
  have hsm := sure_math (M := M) (N := N) hD (show 2 ≤ n by (first | lia | omega))
  generalize hs (2 ^ w) M N (n - 1) = S at *
  have hg : (dg (2 ^ w) S).getD 1 0 = ((S / 2 ^ w % 2 ^ w : Nat) : Int) := by rw [getD_dg hD, Nat.pow_one]
  refine Ex.assign (lv := .list (dg (2 ^ w) S)) l_found (by repeat' w_left) ?_
  refine Ex.assign (lv := .int ((S / 2 ^ w % 2 ^ w : Nat) : Int)) l_guard (Ev.ife (c := decide ((1 : Int) < ((dg (2 ^ w) S).length : Int))) (by repeat' w_left) (fun h' => ?_) (fun h' => ?_)) ?_
  · simp only [decide_eq_true_eq] at h'
    refine Ev.conv (l := .int ((dg (2 ^ w) S).getD (1 : Int).toNat 0)) ?_ (congrArg LV.int hg)
    repeat' w_left
    (first | lia | omega)
  · simp only [decide_eq_false_iff_not] at h'
    rw [← hg, getD_far (by (first | lia | omega))]
    repeat' w_left
  refine Ex.ite (c := decide (((S / 2 ^ w % 2 ^ w : Nat) : Int) + (n : Int) < 2 ^ w)) (by repeat' w_left) (fun h' => ?_) (fun h' => Ex.nil ?_)
  · simp only [decide_eq_true_eq] at h'
    have h3 : S / 2 ^ w % 2 ^ w + n < 2 ^ w := by (first | lia | omega)
    rw [if_pos h3]
    refine Ex.ret (lv := .pair (.list (dg (2 ^ w) (S / (2 ^ w) ^ (2 : Int).toNat))) (.bool false)) (by repeat' w_left) (by rw [show (2 : Int).toNat = 2 from rfl, hsm h3])
  · simp only [decide_eq_false_iff_not] at h'
    rw [if_neg (by (first | lia | omega))]
    refine Ex.ret (lv := .pair (.list (dg (2 ^ w) (M * N / (2 ^ w) ^ (n : Int).toNat))) (.bool true)) (by repeat' w_left) (by rw [en])

/-! W13 -/
theorem rec_middle_product {B : Base} (a : Amb B) : Rec B (rc 17) ["a", "b", "w"] := .of (a.mem 17 (by decide)) (by decide +kernel) fun _ _ _ => ar3 fun _ _ _ => rfl
theorem middle_to {B : Base} (a : Amb B) (d : Nat) {w : Nat} (hw : 1 ≤ w) (hw' : w ≤ 9) (M N : Nat) (hle : (dg (2 ^ w) N).length ≤ (dg (2 ^ w) M).length) (hM : (dg (2 ^ w) M).length ≤ 1000) :
    CallTo B (d + 3) "middle_product" [.list (dg (2 ^ w) M), .list (dg (2 ^ w) N), .int w] (.list (dg (2 ^ w) (mpS (2 ^ w) M N (dg (2 ^ w) M).length (dg (2 ^ w) N).length (dg (2 ^ w) N).length))) := by
  have hD := two_leW (w := w) (by (first | lia | omega))
  have hcW := castW w
  show CallTo B (d + 2 + 1) (rc 17).name _ _
  have r := rec_middle_product a
  refine CallTo.body r rfl ?_
  have l_a : Loc r.cx "a" 0 := r.lc (by decide +kernel)
  have l_b : Loc r.cx "b" 1 := r.lc (by decide +kernel)
  have l_w : Loc r.cx "w" 2 := r.lc (by decide +kernel)
  have l_found : Loc r.cx "found" 3 := r.lc (by decide +kernel)
  have l_n : Loc r.cx "n" 4 := r.lc (by decide +kernel)
  have l_at : Loc r.cx "at" 5 := r.lc (by decide +kernel)
  have l_row : Loc r.cx "row" 6 := r.lc (by decide +kernel)
  have b_len : Blt r.cx "len" (.builtin "len") := r.bl (by decide +kernel) a.len (by decide +kernel) (by rfl)
  have b_range : Blt r.cx "range" (.type "range") := r.bl (by decide +kernel) a.range (by decide +kernel) (by rfl)
  have g_times_limb : Glb r.cx "times_limb" := r.gl (by decide +kernel)
  have f_times_limb : Fun r.cx.toBase "times_limb" := a.fn 12 (by decide) (by rfl)
  obtain ⟨a_times_limb, m_times_limb⟩ : ∃ fa, r.cx.mg "times_limb" = some (.ref fa) := a.mg 12 (by decide) (by rfl)
  have g_normal : Glb r.cx "normal" := r.gl (by decide +kernel)
  have f_normal : Fun r.cx.toBase "normal" := a.fn 0 (by decide) (by rfl)
  obtain ⟨a_normal, m_normal⟩ : ∃ fa, r.cx.mg "normal" = some (.ref fa) := a.mg 0 (by decide) (by rfl)
  have g_add : Glb r.cx "add" := r.gl (by decide +kernel)
  have f_add : Fun r.cx.toBase "add" := a.fn 3 (by decide) (by rfl)
  obtain ⟨a_add, m_add⟩ : ∃ fa, r.cx.mg "add" = some (.ref fa) := a.mg 3 (by decide) (by rfl)
  have c_nrm : ∀ i j, CallTo r.cx.toBase (d + 2) "normal" [.list (((dg (2 ^ w) M).take j).drop i)] (.list (dg (2 ^ w) (M % (2 ^ w) ^ j / (2 ^ w) ^ i))) := fun i j => normal_cut a (d + 1) hD M j i
  have c_add : ∀ x y, (dg (2 ^ w) x).length < LIM → (dg (2 ^ w) y).length < LIM → CallTo r.cx.toBase (d + 2) "add" [.list (dg (2 ^ w) x), .list (dg (2 ^ w) y), .int w] (.list (dg (2 ^ w) (x + y))) := fun x y => add_to a (d + 1) hw hw' x y
  show Ex _ _ { σ := [some (.list (dg (2 ^ w) M)), some (.list (dg (2 ^ w) N)), some (.int w), .none, .none, .none, .none, .none, .none, .none, .none, .none] } _ _ _
  refine Ex.start rfl ?_
  have hlen : ∀ k, k ≤ 1000 → (dg (2 ^ w) (mpS (2 ^ w) M N (dg (2 ^ w) M).length (dg (2 ^ w) N).length k)).length ≤ (dg (2 ^ w) M).length + 11 := fun k hk => mpS_len hD (Nat.le_refl _) hk
  generalize hla : (dg (2 ^ w) M).length = la at *
  generalize hlb : (dg (2 ^ w) N).length = lb at *
  refine Ex.tup2 (l1 := .list (dg (2 ^ w) 0)) (l2 := .int lb) l_found l_n rfl (Ev.conv (l := .list []) (by repeat' w_left) (by rw [dg_zero])) (by rw [← hlb]; repeat' w_left) ?_
  refine Ex.forR1 (n := lb) (P := Nat) (fun p => { σ := [some (.list (dg (2 ^ w) M)), some (.list (dg (2 ^ w) N)), some (.int w), some (.list (dg (2 ^ w) p)), some (.int lb), .none, .none, .none, .none, .none, .none, .none] })
    (fun k p => p = mpS (2 ^ w) M N la lb k) 0 l_at b_range (by repeat' w_left) (by unfold LIM; (first | lia | omega)) rfl (Le.of rfl ⟨rfl, rfl, rfl, rfl, rfl, trivial⟩) (fun _ _ => rfl) ?_ ?_
  · rintro k p hk rfl
    have ha : (dg (2 ^ w) N).getD k 0 = ((N / (2 ^ w) ^ k % 2 ^ w : Nat) : Int) := getD_dg hD _ _
    have hx := Nat.mod_lt (N / (2 ^ w) ^ k) (show 0 < 2 ^ w by (first | lia | omega))
    have hlk := hlen k (by (first | lia | omega))
    have hval : mpS (2 ^ w) M N la lb (k + 1) = mpS (2 ^ w) M N la lb k + (M % (2 ^ w) ^ (la - k) / (2 ^ w) ^ (lb - 1 - k)) * (N / (2 ^ w) ^ k % 2 ^ w) := rfl
    generalize N / (2 ^ w) ^ k % 2 ^ w = x at *
    have hbl : ∀ e e', (dg (2 ^ w) (M % (2 ^ w) ^ e / (2 ^ w) ^ e')).length ≤ la := fun e e' => by rw [← hla]; exact length_mono hD (Nat.le_trans (Nat.div_le_self _ _) (Nat.mod_le _ _))
    have hxl : (dg (2 ^ w) x).length ≤ 1 := (length_dg_le hD).mpr (by rw [Nat.pow_one]; exact hx)
    have hrl : ∀ e e', (dg (2 ^ w) (M % (2 ^ w) ^ e / (2 ^ w) ^ e' * x)).length ≤ la + 1 := fun e e' => Nat.le_trans (length_mul hD _ _) (by have := hbl e e'; (first | lia | omega))
    have c_times : ∀ e e', CallTo r.cx.toBase (d + 2) "times_limb" [.list (dg (2 ^ w) (M % (2 ^ w) ^ e / (2 ^ w) ^ e')), .int ((dg (2 ^ w) N).getD (k : Int).toNat 0), .int w] (.list (dg (2 ^ w) (M % (2 ^ w) ^ e / (2 ^ w) ^ e' * x))) := fun e e' => by
      rw [Int.toNat_natCast, ha]
      exact times_limb_to a d hw hw' _ x hx (by have := hbl e e'; unfold LIM; (first | lia | omega))
    refine Ex.assign (lv := .list (dg (2 ^ w) (M % (2 ^ w) ^ (la - k) / (2 ^ w) ^ (lb - 1 - k) * x))) l_row ?_ ?_
    · refine Ev.conv (l := .list (dg (2 ^ w) (M % (2 ^ w) ^ ((la : Int) - (k : Int)).toNat / (2 ^ w) ^ ((lb : Int) - 1 - (k : Int)).toNat * x))) ?_ (by rw [show ((la : Int) - (k : Int)).toNat = la - k by (first | lia | omega), show ((lb : Int) - 1 - (k : Int)).toNat = lb - 1 - k by (first | lia | omega)])
      rw [← hla]
      repeat' w_left
      all_goals (first | lia | omega)
    have hr := hrl (la - k) (lb - 1 - k)
    rw [hval]
    generalize mpS (2 ^ w) M N la lb k = y at *
    generalize M % (2 ^ w) ^ (la - k) / (2 ^ w) ^ (lb - 1 - k) * x = z at *
    refine Ex.assign (lv := .list (dg (2 ^ w) (y + z))) l_found (by (repeat' w_left) <;> (unfold LIM; (first | lia | omega))) (Ex.nil ⟨_, rfl, Le.of rfl ⟨rfl, rfl, rfl, rfl, rfl, trivial⟩⟩)
  · rintro p rfl
    repeat' w_left
    rfl

theorem rec_law_sum {B : Base} (a : Amb B) : Rec B (rc 27) ["a", "b", "w", "least", "most"] := .of (a.mem 27 (by decide)) (by decide +kernel) fun _ _ _ => ar5 fun _ _ _ _ _ => rfl
theorem law_sum_to {B : Base} (a : Amb B) (d : Nat) {w : Nat} (hw : 1 ≤ w) (hw' : w ≤ 9) (M N least most : Nat) (hM : (dg (2 ^ w) M).length ≤ 1000) (hN : (dg (2 ^ w) N).length ≤ 1000) :
    CallTo B (d + 1) "_law_sum" [.list (dg (2 ^ w) M), .list (dg (2 ^ w) N), .int w, .int least, .int most] (.int (lawSum (2 ^ w) M N (dg (2 ^ w) M).length (dg (2 ^ w) N).length least most)) := by
  have hD := two_leW (w := w) (by (first | lia | omega))
  have hD' := leW hw'
  have hcW := castW w
  show CallTo B (d + 1) (rc 27).name _ _
  have r := rec_law_sum a
  refine CallTo.body r rfl ?_
  have l_a : Loc r.cx "a" 0 := r.lc (by decide +kernel)
  have l_b : Loc r.cx "b" 1 := r.lc (by decide +kernel)
  have l_w : Loc r.cx "w" 2 := r.lc (by decide +kernel)
  have l_least : Loc r.cx "least" 3 := r.lc (by decide +kernel)
  have l_most : Loc r.cx "most" 4 := r.lc (by decide +kernel)
  have l_found : Loc r.cx "found" 5 := r.lc (by decide +kernel)
  have l_at : Loc r.cx "at" 6 := r.lc (by decide +kernel)
  have l_one : Loc r.cx "one" 7 := r.lc (by decide +kernel)
  have l_spot : Loc r.cx "spot" 8 := r.lc (by decide +kernel)
  have l_other : Loc r.cx "other" 9 := r.lc (by decide +kernel)
  have b_enumerate : Blt r.cx "enumerate" (.type "enumerate") := r.bl (by decide +kernel) a.enum (by decide +kernel) (by rfl)
  show Ex _ _ { σ := [some (.list (dg (2 ^ w) M)), some (.list (dg (2 ^ w) N)), some (.int w), some (.int least), some (.int most), .none, .none, .none, .none, .none, .none] } _ _ _
  refine Ex.start rfl ?_
  generalize hla : (dg (2 ^ w) M).length = la at *
  generalize hlb : (dg (2 ^ w) N).length = lb at *
  refine Ex.assign (lv := .int 0) l_found (by repeat' w_left) ?_
  refine Ex.forEnum (xs := dg (2 ^ w) M) (P := Nat) (fun p => { σ := [some (.list (dg (2 ^ w) M)), some (.list (dg (2 ^ w) N)), some (.int w), some (.int least), some (.int most), some (.int (p : Nat)), .none, .none, .none, .none, .none] })
    (fun k p => p = lawSum (2 ^ w) M N k lb least most) 0 l_at l_one l_a b_enumerate rfl rfl (fun _ => rfl) rfl (Le.of rfl ⟨rfl, rfl, rfl, rfl, rfl, rfl, trivial⟩) ?_ ?_
  · rintro i p hi rfl
    rw [hla] at hi
    have hA : (dg (2 ^ w) M).getD i 0 = ((M / (2 ^ w) ^ i % 2 ^ w : Nat) : Int) := getD_dg hD _ _
    have hA1 := Nat.mod_lt (M / (2 ^ w) ^ i) (show 0 < 2 ^ w by (first | lia | omega))
    rw [hA]
    refine Ex.forEnum (xs := dg (2 ^ w) N) (P := Nat) (fun p => { σ := [some (.list (dg (2 ^ w) M)), some (.list (dg (2 ^ w) N)), some (.int w), some (.int least), some (.int most), some (.int (p : Nat)), some (.int i), some (.int ((M / (2 ^ w) ^ i % 2 ^ w : Nat) : Int)), .none, .none, .none] })
      (fun k p => p = lawSum (2 ^ w) M N i lb least most + sm k (lsF (2 ^ w) M N least most i)) (lawSum (2 ^ w) M N i lb least most) l_spot l_other l_b b_enumerate rfl rfl (fun _ => rfl) rfl (Le.of rfl ⟨rfl, rfl, rfl, rfl, rfl, rfl, rfl, rfl, trivial⟩) ?_ ?_
    · rintro k p hk rfl
      rw [hlb] at hk
      have hX : (dg (2 ^ w) N).getD k 0 = ((N / (2 ^ w) ^ k % 2 ^ w : Nat) : Int) := getD_dg hD _ _
      have hX1 := Nat.mod_lt (N / (2 ^ w) ^ k) (show 0 < 2 ^ w by (first | lia | omega))
      rw [hX]
      have hval : lawSum (2 ^ w) M N i lb least most + sm (k + 1) (lsF (2 ^ w) M N least most i) = lawSum (2 ^ w) M N i lb least most + sm k (lsF (2 ^ w) M N least most i) + (if least ≤ i + k ∧ i + k ≤ most then (M / (2 ^ w) ^ i % 2 ^ w) * (N / (2 ^ w) ^ k % 2 ^ w) * (2 ^ w) ^ (i + k - least) else 0) := by simp only [sm, lsF, Nat.add_assoc]
      generalize lawSum (2 ^ w) M N i lb least most + sm k (lsF (2 ^ w) M N least most i) = v at *
      generalize M / (2 ^ w) ^ i % 2 ^ w = x at *
      generalize N / (2 ^ w) ^ k % 2 ^ w = y at *
      refine Ex.ite (c := decide ((least : Int) ≤ (i : Int) + (k : Int)) && decide ((i : Int) + (k : Int) ≤ (most : Int))) (by repeat' w_left) (fun h => ?_) (fun h => ?_)
      · simp only [Bool.and_eq_true, decide_eq_true_eq] at h
        rw [if_pos (by (first | lia | omega))] at hval
        have hxy : x * y < 2 ^ 18 := by
          have h1 : x * y ≤ 511 * 511 := Nat.mul_le_mul (by (first | lia | omega)) (by (first | lia | omega))
          (first | lia | omega)
        have hwk : w * (i + k - least) ≤ 9 * 2000 := Nat.mul_le_mul hw' (by (first | lia | omega))
        have e1 : (i : Int) + (k : Int) - (least : Int) = ((i + k - least : Nat) : Int) := by (first | lia | omega)
        refine Ex.assign (lv := .int ((v : Int) + (x : Int) * y * 2 ^ (w * (i + k - least)))) l_found ?_ (Ex.nil (Ex.nil ⟨_, rfl, Le.of rfl ⟨rfl, rfl, rfl, rfl, rfl, ?_, rfl, rfl, trivial⟩⟩))
        · refine Ev.bin (x := .int v) (y := .int ((x : Int) * y * 2 ^ (w * (i + k - least)))) (by repeat' w_left) (Ev.bin (x := .int ((x : Int) * y)) (y := .int ((w * (i + k - least) : Nat) : Int)) ?_ (Ev.conv (l := .int ((w : Int) * ((i : Int) + (k : Int) - (least : Int)))) ?_ (by rw [e1, ← Int.natCast_mul])) (BinTo.shl ?_)) BinTo.add
          · repeat' w_left
            exact IntMulOk.small (by (first | lia | omega))
          · repeat' w_left
            exact IntMulOk.small (by (first | lia | omega))
          · have := intBits_small (k := 18) (x := (x : Int) * y) (by rw [← Int.natCast_mul]; (first | lia | omega)) (by rw [← Int.natCast_mul]; (first | lia | omega))
            (first | lia | omega)
        · rw [hval, Int.natCast_add, Int.natCast_mul, Int.natCast_mul, ← Nat.pow_mul]
          refine congrArg LV.int ?_
          rw [castW]
      · rw [if_neg (by
          simp only [Bool.and_eq_false_iff, decide_eq_false_iff_not] at h
          (first | lia | omega))] at hval
        exact Ex.nil (Ex.nil ⟨_, rfl, Le.of rfl ⟨rfl, rfl, rfl, rfl, rfl, by rw [hval, Nat.add_zero], rfl, rfl, trivial⟩⟩)
    · rintro p rfl
      rw [hlb]
      exact Ex.nil ⟨_, rfl, Le.of rfl ⟨rfl, rfl, rfl, rfl, rfl, rfl, trivial⟩⟩
  · rintro p rfl
    rw [hla]
    repeat' w_left
    rfl

/-! W14 -/
theorem lt_big {w k x : Nat} (hw' : w ≤ 9) (hk : k ≤ 100) (h : x < (2 ^ w) ^ k) : x < 2 ^ BIG := by
  refine Nat.lt_of_lt_of_le h ?_
  rw [← Nat.pow_mul]
  have h1 : w * k ≤ 9 * 100 := Nat.mul_le_mul hw' hk
  exact Nat.pow_le_pow_right (by decide) (by unfold BIG; (first | lia | omega))

theorem rec_law_wrapped_right {B : Base} (a : Amb B) : Rec B (rc 29) ["a", "b", "n", "w", "whole"] := .of (a.mem 29 (by decide)) (by decide +kernel) fun _ _ _ => ar5 fun _ _ _ _ _ => rfl
theorem wrapped_right_to {B : Base} (a : Amb B) {w : Nat} (hw : 2 ≤ w) (hw' : w ≤ 9) (M N n : Nat) (hn : 1 ≤ n) (hn' : n ≤ 6) (hM : M < (2 ^ w) ^ 9) (hN : N < (2 ^ w) ^ 9) :
    CallTo B 121 "_law_wrapped_right" [.list (dg (2 ^ w) M), .list (dg (2 ^ w) N), .int n, .int w, .int ((M * N : Nat) : Int)] (.bool true) := by
  have hD := two_leW (w := w) (by (first | lia | omega))
  have hD' := leW hw'
  have hcW := castW w
  have hH := two_leP hD hn
  have hlM := (length_dg_le hD).mpr hM
  have hlN := (length_dg_le hD).mpr hN
  have hH4 : 4 ≤ (2 ^ w) ^ n := by
    rw [← Nat.pow_mul]
    exact Nat.le_trans (show 4 ≤ 2 ^ 2 by decide) (Nat.pow_le_pow_right (by decide) (Nat.le_trans hw (Nat.le_mul_of_pos_right _ (by (first | lia | omega)))))
  have hH2 : (2 ^ w) ^ (2 * n) = (2 ^ w) ^ n * (2 ^ w) ^ n := by rw [← Nat.pow_add]; exact congrArg _ (by (first | lia | omega))
  have hHH : 4 * (2 ^ w) ^ n ≤ (2 ^ w) ^ n * (2 ^ w) ^ n := Nat.mul_le_mul_right _ hH4
  show CallTo B (120 + 1) (rc 29).name _ _
  have r := rec_law_wrapped_right a
  refine CallTo.body r rfl ?_
  have l_a : Loc r.cx "a" 0 := r.lc (by decide +kernel)
  have l_b : Loc r.cx "b" 1 := r.lc (by decide +kernel)
  have l_n : Loc r.cx "n" 2 := r.lc (by decide +kernel)
  have l_w : Loc r.cx "w" 3 := r.lc (by decide +kernel)
  have l_whole : Loc r.cx "whole" 4 := r.lc (by decide +kernel)
  have l_less : Loc r.cx "less" 5 := r.lc (by decide +kernel)
  have l_more : Loc r.cx "more" 6 := r.lc (by decide +kernel)
  have l_twice : Loc r.cx "twice" 7 := r.lc (by decide +kernel)
  have l_least : Loc r.cx "least" 8 := r.lc (by decide +kernel)
  have l_drawn : Loc r.cx "drawn" 9 := r.lc (by decide +kernel)
  have l_minus : Loc r.cx "minus" 10 := r.lc (by decide +kernel)
  have l_plus : Loc r.cx "plus" 11 := r.lc (by decide +kernel)
  have g_law_value : Glb r.cx "_law_value" := r.gl (by decide +kernel)
  have f_law_value : Fun r.cx.toBase "_law_value" := a.fn 24 (by decide) (by rfl)
  obtain ⟨a_law_value, m_law_value⟩ : ∃ fa, r.cx.mg "_law_value" = some (.ref fa) := a.mg 24 (by decide) (by rfl)
  have g_wrapped_product : Glb r.cx "wrapped_product" := r.gl (by decide +kernel)
  have f_wrapped_product : Fun r.cx.toBase "wrapped_product" := a.fn 21 (by decide) (by rfl)
  obtain ⟨a_wrapped_product, m_wrapped_product⟩ : ∃ fa, r.cx.mg "wrapped_product" = some (.ref fa) := a.mg 21 (by decide) (by rfl)
  have g_law_mul : Glb r.cx "_law_mul" := r.gl (by decide +kernel)
  have f_law_mul : Fun r.cx.toBase "_law_mul" := a.fn 25 (by decide) (by rfl)
  obtain ⟨a_law_mul, m_law_mul⟩ : ∃ fa, r.cx.mg "_law_mul" = some (.ref fa) := a.mg 25 (by decide) (by rfl)
  have g_fold_minus : Glb r.cx "fold_minus" := r.gl (by decide +kernel)
  have f_fold_minus : Fun r.cx.toBase "fold_minus" := a.fn 18 (by decide) (by rfl)
  obtain ⟨a_fold_minus, m_fold_minus⟩ : ∃ fa, r.cx.mg "fold_minus" = some (.ref fa) := a.mg 18 (by decide) (by rfl)
  have g_fold_plus : Glb r.cx "fold_plus" := r.gl (by decide +kernel)
  have f_fold_plus : Fun r.cx.toBase "fold_plus" := a.fn 19 (by decide) (by rfl)
  obtain ⟨a_fold_plus, m_fold_plus⟩ : ∃ fa, r.cx.mg "fold_plus" = some (.ref fa) := a.mg 19 (by decide) (by rfl)
  have g_law_nat : Glb r.cx "_law_nat" := r.gl (by decide +kernel)
  have f_law_nat : Fun r.cx.toBase "_law_nat" := a.fn 23 (by decide) (by rfl)
  obtain ⟨a_law_nat, m_law_nat⟩ : ∃ fa, r.cx.mg "_law_nat" = some (.ref fa) := a.mg 23 (by decide) (by rfl)
  have g_joined_rests : Glb r.cx "joined_rests" := r.gl (by decide +kernel)
  have f_joined_rests : Fun r.cx.toBase "joined_rests" := a.fn 20 (by decide) (by rfl)
  obtain ⟨a_joined_rests, m_joined_rests⟩ : ∃ fa, r.cx.mg "joined_rests" = some (.ref fa) := a.mg 20 (by decide) (by rfl)
  have kbig : ∀ x, x < (2 ^ w) ^ (2 * n) → x < 2 ^ BIG := fun x h => lt_big hw' (by (first | lia | omega)) h
  have k1 : ∀ x, x % ((2 ^ w) ^ n - 1) < (2 ^ w) ^ (2 * n) := fun x => by have := Nat.mod_lt x (show 0 < (2 ^ w) ^ n - 1 by (first | lia | omega)); rw [hH2]; (first | lia | omega)
  have k2 : ∀ x, x % ((2 ^ w) ^ n + 1) < (2 ^ w) ^ (2 * n) := fun x => by have := Nat.mod_lt x (show 0 < (2 ^ w) ^ n + 1 by (first | lia | omega)); rw [hH2]; (first | lia | omega)
  have k3 : ∀ x, x % ((2 ^ w) ^ (2 * n) - 1) < (2 ^ w) ^ (2 * n) := fun x => by have := Nat.mod_lt x (show 0 < (2 ^ w) ^ (2 * n) - 1 by rw [hH2]; (first | lia | omega)); (first | lia | omega)
  have kl : ∀ x, x < (2 ^ w) ^ (2 * n) → (dg (2 ^ w) x).length ≤ 12 := fun x h => Nat.le_trans ((length_dg_le hD).mpr h) (by (first | lia | omega))
  have c_wrap : ∀ least : Int, CallTo r.cx.toBase 120 "wrapped_product" [.list (dg (2 ^ w) M), .list (dg (2 ^ w) N), .int n, .int w, .int least, .fn "_law_mul"] (.list (dg (2 ^ w) (M * N % ((2 ^ w) ^ n - 1)))) := fun least => (wrapped_to a hw hw' least n 0 M N hn (by (first | lia | omega)) (by (first | lia | omega)) (by (first | lia | omega))).mono (by (first | lia | omega))
  have c_fold : CallTo r.cx.toBase 120 "fold_minus" [.list (dg (2 ^ w) M), .int n, .int w] (.list (dg (2 ^ w) (M % ((2 ^ w) ^ n - 1)))) := fold_minus_to a 118 (by (first | lia | omega)) hw' M n hn (by (first | lia | omega)) (by (first | lia | omega))
  have c_foldp : CallTo r.cx.toBase 120 "fold_plus" [.list (dg (2 ^ w) M), .int n, .int w] (.list (dg (2 ^ w) (M % ((2 ^ w) ^ n + 1)))) := fold_plus_to a 117 (by (first | lia | omega)) hw' M n hn (by (first | lia | omega)) (by (first | lia | omega))
  have c_val : ∀ x, x < 2 ^ BIG → CallTo r.cx.toBase 120 "_law_value" [.list (dg (2 ^ w) x), .int w] (.int x) := fun x hx => law_value_to a 119 (by (first | lia | omega)) hw' x hx
  show Ex _ _ { σ := [some (.list (dg (2 ^ w) M)), some (.list (dg (2 ^ w) N)), some (.int n), some (.int w), some (.int ((M * N : Nat) : Int)), .none, .none, .none, .none, .none, .none, .none, .none, .none, .none, .none, .none, .none, .none] } _ _ _
  refine Ex.start rfl ?_
  have hwn : w * n ≤ 9 * 6 := Nat.mul_le_mul hw' hn'
  have hp : (2 : Int) ^ (w * n) = (((2 ^ w) ^ n : Nat) : Int) := by rw [← Nat.pow_mul, castW]
  have hp2 : (2 : Int) ^ (2 * w * n) = (((2 ^ w) ^ (2 * n) : Nat) : Int) := by
    rw [← Nat.pow_mul, castW]
    exact congrArg _ (by rw [Nat.mul_comm 2 w, Nat.mul_assoc])
  have hlt2 : 2 * w * n ≤ 1000 := by rw [Nat.mul_assoc]; (first | lia | omega)
  refine Ex.tup3 (l1 := .int (((2 ^ w) ^ n - 1 : Nat) : Int)) (l2 := .int (((2 ^ w) ^ n + 1 : Nat) : Int)) (l3 := .int (((2 ^ w) ^ (2 * n) - 1 : Nat) : Int)) l_less l_more l_twice rfl
    (Ev.conv (l := .int (2 ^ (w * n) - 1)) (Ev.bin (Ev.bin (x := .int 1) (y := .int ((w * n : Nat) : Int)) Ev.int (Ev.conv (l := .int ((w : Int) * (n : Int))) ?_ (by rw [← Int.natCast_mul])) (BinTo.one (by (first | lia | omega)))) (by repeat' w_left) BinTo.sub) (congrArg LV.int (by rw [hp]; (first | lia | omega))))
    (Ev.conv (l := .int (2 ^ (w * n) + 1)) (Ev.bin (Ev.bin (x := .int 1) (y := .int ((w * n : Nat) : Int)) Ev.int (Ev.conv (l := .int ((w : Int) * (n : Int))) ?_ (by rw [← Int.natCast_mul])) (BinTo.one (by (first | lia | omega)))) (by repeat' w_left) BinTo.add) (congrArg LV.int (by rw [hp]; (first | lia | omega))))
    (Ev.conv (l := .int (2 ^ (2 * w * n) - 1)) (Ev.bin (Ev.bin (x := .int 1) (y := .int ((2 * w * n : Nat) : Int)) Ev.int (Ev.conv (l := .int (2 * (w : Int) * (n : Int))) ?_ (by rw [Int.natCast_mul, Int.natCast_mul]; rfl)) (BinTo.one hlt2)) (by repeat' w_left) BinTo.sub) (congrArg LV.int (by rw [hp2, hH2]; (first | lia | omega)))) ?_
  · repeat' w_left
    exact IntMulOk.small (by (first | lia | omega))
  · repeat' w_left
    exact IntMulOk.small (by (first | lia | omega))
  · repeat' w_left
    · exact IntMulOk.small (by (first | lia | omega))
    · exact IntMulOk.small (by (first | lia | omega))
  refine Ex.forIt (xs := [0, 2, 5]) (P := Unit) (fun _ => { σ := [some (.list (dg (2 ^ w) M)), some (.list (dg (2 ^ w) N)), some (.int n), some (.int w), some (.int ((M * N : Nat) : Int)), some (.int (((2 ^ w) ^ n - 1 : Nat) : Int)), some (.int (((2 ^ w) ^ n + 1 : Nat) : Int)), some (.int (((2 ^ w) ^ (2 * n) - 1 : Nat) : Int)), .none, .none, .none, .none, .none, .none, .none, .none, .none, .none, .none] })
    (fun _ _ => True) () l_least (IterTo.tup ?_) trivial (Le.of rfl ⟨rfl, rfl, rfl, rfl, rfl, rfl, rfl, rfl, trivial⟩) (fun _ _ => rfl) ?_ ?_
  · show Evs _ _ _ _ [.int 0, .int 2, .int 5]
    repeat' w_left
  · rintro k ⟨⟩ hk _
    generalize ([0, 2, 5] : List Int).getD k 0 = least
    refine Ex.ite (c := !decide (((M * N % ((2 ^ w) ^ n - 1) : Nat) : Int) = ((M * N : Nat) : Int) % (((2 ^ w) ^ n - 1 : Nat) : Int))) ?_ (fun h => ?_) (fun _ => Ex.nil (Ex.nil ⟨(), trivial, Le.of rfl ⟨rfl, rfl, rfl, rfl, rfl, rfl, rfl, rfl, trivial⟩⟩))
    · repeat' w_left
      exact kbig _ (k1 _)
    · exfalso
      rw [Int.natCast_emod] at h
      simp at h
  · rintro ⟨⟩ _
    refine Ex.ite (c := !decide (((M % ((2 ^ w) ^ n - 1) : Nat) : Int) = (M : Int) % (((2 ^ w) ^ n - 1 : Nat) : Int)) || !decide (((M % ((2 ^ w) ^ n + 1) : Nat) : Int) = (M : Int) % (((2 ^ w) ^ n + 1 : Nat) : Int))) ?_ (fun h => ?_) (fun _ => Ex.nil ?_)
    · repeat' w_left
      · exact kbig _ (k1 _)
      · exact lt_big hw' (by (first | lia | omega)) hM
      · exact kbig _ (k2 _)
      · exact lt_big hw' (by (first | lia | omega)) hM
    · exfalso
      rw [Int.natCast_emod, Int.natCast_emod] at h
      simp at h
    have hZ := k3 (M * N * 3 + 5)
    have hZ2 : (M * N * 3 + 5) % ((2 ^ w) ^ (2 * n) - 1) < (2 ^ w) ^ (2 * n) - 1 := Nat.mod_lt _ (by rw [hH2]; (first | lia | omega))
    have eZ : ((((M * N : Nat) : Int) * 3 + 5) % (((2 ^ w) ^ (2 * n) - 1 : Nat) : Int)) = (((M * N * 3 + 5) % ((2 ^ w) ^ (2 * n) - 1) : Nat) : Int) := by rw [Int.natCast_emod, Int.natCast_add, Int.natCast_mul (M * N) 3]; rfl
    have hpos2 : (0 : Int) < (((2 ^ w) ^ (2 * n) - 1 : Nat) : Int) := by rw [hH2]; (first | lia | omega)
    generalize (M * N * 3 + 5) % ((2 ^ w) ^ (2 * n) - 1) = Z at *
    have hMN : ((M * N : Nat) : Int).natAbs < 2 ^ 1000 := by
      rw [Int.natAbs_natCast]
      have h1 : M * N < (2 ^ w) ^ 9 * (2 ^ w) ^ 9 := Nat.mul_lt_mul'' hM hN
      rw [← Nat.pow_add] at h1
      exact lt_big hw' (by (first | lia | omega)) h1
    refine Ex.assign (lv := .int Z) l_drawn (Ev.conv (l := .int ((((M * N : Nat) : Int) * 3 + 5) % (((2 ^ w) ^ (2 * n) - 1 : Nat) : Int))) ?_ (congrArg LV.int eZ)) ?_
    · repeat' w_left
      exact IntMulOk.bits hMN (by decide)
    have c_n1 : CallTo r.cx.toBase 120 "_law_nat" [.int ((Z : Int) % (((2 ^ w) ^ n - 1 : Nat) : Int)), .int w] (.list (dg (2 ^ w) (Z % ((2 ^ w) ^ n - 1)))) := by
      rw [← Int.natCast_emod]
      exact law_nat_to a 119 (by (first | lia | omega)) hw' _ (by have := kl _ (k1 Z); (first | lia | omega))
    have c_n2 : CallTo r.cx.toBase 120 "_law_nat" [.int ((Z : Int) % (((2 ^ w) ^ n + 1 : Nat) : Int)), .int w] (.list (dg (2 ^ w) (Z % ((2 ^ w) ^ n + 1)))) := by
      rw [← Int.natCast_emod]
      exact law_nat_to a 119 (by (first | lia | omega)) hw' _ (by have := kl _ (k2 Z); (first | lia | omega))
    have c_join : CallTo r.cx.toBase 120 "joined_rests" [.list (dg (2 ^ w) (Z % ((2 ^ w) ^ n - 1))), .list (dg (2 ^ w) (Z % ((2 ^ w) ^ n + 1))), .int n, .int w] (.list (dg (2 ^ w) Z)) := by
      have h := joined_to a 117 hw hw' Z n hn (by (first | lia | omega))
      rwa [Nat.mod_eq_of_lt hZ2] at h
    refine Ex.tup2 (l1 := .list (dg (2 ^ w) (Z % ((2 ^ w) ^ n - 1)))) (l2 := .list (dg (2 ^ w) (Z % ((2 ^ w) ^ n + 1)))) l_minus l_plus rfl (by repeat' w_left) (by repeat' w_left) ?_
    refine Ex.ret (lv := .bool (decide ((Z : Int) = Z))) ?_ (by simp)
    repeat' w_left
    exact kbig _ hZ

/-! W15 -/
theorem Inv.turn {C : Cx} {L : Addr} {oa : Option Addr} {st : St} {s s' : Shared} (I : Inv C L oa st s) (u : s.heap.UpToSlots s'.heap) (k : ∀ b o, s.heap.get? b = some o → b ≠ L → s'.heap.get? b = some o) : Inv C L oa st s' := by
  obtain ⟨m, F, V⟩ := I.ex
  have h0 : C.h0.get? L = .none := by
    cases q : C.h0.get? L with
    | none => rfl
    | some o => exact absurd (Nat.lt_of_lt_of_le (Heap.lt_size q) F.above) (Nat.lt_irrefl _)
  refine ⟨⟨m, ⟨u.ns F.ns, fun b o e => k b o (F.keep b o e) (fun x => by subst x; rw [h0] at e; cases e), F.above⟩, ⟨fun i lv e => ?_, fun i xs e => ?_, V.none⟩⟩, I.ab⟩
  · obtain ⟨xk, v, hx, hm, off⟩ := V.var i lv e
    exact ⟨xk, v, hx, hm, off.keep fun b o e1 _ _ e => k b o e e1⟩
  · obtain ⟨b, xk, e1, hx, hm, p⟩ := V.own i xs e
    exact ⟨b, xk, e1, hx, hm, p.keepS fun o qs e => k b o e (fun x => by subst x; exact not_seq_ns F.ns e qs)⟩

theorem hp_raises {B : Base} (a : Amb B) {bm : List Value} {nid : String} (S : Spec1 B "OutOfRange" bm nid) {d : Nat} {A : Around} {E : Value → Shared → Prop} {s : Shared} {fa : Addr} {vs : List Value} {Q : Value → Shared → Prop} {outer : List Env} {xs ys : List Int} {n w least : Int}
    (Rm : Room A (d + 1)) (hfr : A.frames = some outer) (hO : FrOk B.h0 s.heap outer) (hb : ∀ b o, B.h0.get? b = some o → s.heap.get? b = some o) (hsz : B.h0.objs.size ≤ s.heap.objs.size) (hm : B.mg "high_product" = some (.ref fa))
    (hr : Reps B.mg s.heap vs [.list xs, .list ys, .int n, .int w, .int least, .fn "_law_mul"]) (hlt : n < max (xs.length : Int) (ys.length : Int))
    (q : ∀ e s', s'.gens = s.gens → s'.drawn = s.drawn → s'.os = s.os → Fly B "OutOfRange" bm nid outer s.heap e s'.heap → E (.ref e) s') : wpAny (model B.prog B.w) A (call (.ref fa) vs []) Q E s := by
  have r := rec_high_product a
  refine callBody r rfl Rm hb hsz hm hr fun code h₁ tk Rm1 g1 I1 => ?_
  have l_a : Loc r.cx "a" 0 := r.lc (by decide +kernel)
  have l_b : Loc r.cx "b" 1 := r.lc (by decide +kernel)
  have l_n : Loc r.cx "n" 2 := r.lc (by decide +kernel)
  have b_max : Blt r.cx "max" (.builtin "max") := r.bl (by decide +kernel) a.max (by decide +kernel) (by rfl)
  have b_len : Blt r.cx "len" (.builtin "len") := r.bl (by decide +kernel) a.len (by decide +kernel) (by rfl)
  have g_oor : Glb r.cx "OutOfRange" := r.gl (by decide +kernel)
  have I2 : Inv r.cx s.heap.objs.size .none { σ := [some (.list xs), some (.list ys), some (.int n), some (.int w), some (.int least), some (.fn "_law_mul"), .none, .none, .none, .none] } { s with heap := h₁, toks := tk } := I1
  show wpAny _ _ (execs [Stmt.If _ _ _ _, _] _) _ _ _
  refine wpAny_execs_cons (wpAny_If (Tr.run (C := r.cx) (d := d) (st := { σ := [some (.list xs), some (.list ys), some (.int n), some (.int w), some (.int least), some (.fn "_law_mul"), .none, .none, .none, .none] }) (b := decide (n < max (xs.length : Int) (ys.length : Int))) ?ht _ _ _ _ _ _ _ _ Rm1 I2 fun s2 g2 => ?_))
  case ht => repeat' w_left
  rw [decide_eq_true hlt]
  refine wpAny_execs_cons ?_
  refine raise_low (C := r.cx) (g := s) S g_oor (I2.mono g2) Rm1.h (by rw [Around.frames_deeper hfr]; rfl) ((hO.mono g1.keep).mono g2.keep) (fun b o e => g2.keep b o (g1.keep b o e)) (get?_size _) fun e h' tk' hf => ?_
  exact q e _ (g2.gens.trans g1.gens) (g2.drawn.trans g1.drawn) (g2.os.trans g1.os) hf

theorem rec_law_high_right {B : Base} (a : Amb B) : Rec B (rc 28) ["a", "b", "n", "w", "whole"] := .of (a.mem 28 (by decide)) (by decide +kernel) fun _ _ _ => ar5 fun _ _ _ _ _ => rfl

theorem high_right_raw {B : Base} (a : Amb B) {bm : List Value} {nid : String} (S : Spec1 B "OutOfRange" bm nid) {w : Nat} (hw : 2 ≤ w) (hw' : w ≤ 9) (M N n : Nat) (hn' : n ≤ 20) (hM : M < (2 ^ w) ^ n) (hN : N < (2 ^ w) ^ n)
    {A : Around} {E : Value → Shared → Prop} {s : Shared} {fa : Addr} {vs : List Value} {Q : Value → Shared → Prop} {outer : List Env}
    (Rm : Room A 131) (hfr : A.frames = some outer) (hO : FrOk B.h0 s.heap outer) (hb : ∀ b o, B.h0.get? b = some o → s.heap.get? b = some o) (hsz : B.h0.objs.size ≤ s.heap.objs.size) (hm : B.mg "_law_high_right" = some (.ref fa))
    (hr : Reps B.mg s.heap vs [.list (dg (2 ^ w) M), .list (dg (2 ^ w) N), .int n, .int w, .int ((M * N : Nat) : Int)])
    (q : ∀ s', s'.gens = s.gens → s'.drawn = s.drawn → s'.os = s.os → s.heap.UpToSlots s'.heap → (∀ b o, s.heap.get? b = some o → b ∉ frs outer → s'.heap.get? b = some o) → Q (.bool true) s') : wpAny (model B.prog B.w) A (call (.ref fa) vs []) Q E s := by
  have hD := two_leW (w := w) (by (first | lia | omega))
  have hD' := leW hw'
  have hcW := castW w
  have hlM := (length_dg_le hD).mpr hM
  have hlN := (length_dg_le hD).mpr hN
  have hMN : M * N < (2 ^ w) ^ (2 * n) := by
    rw [show 2 * n = n + n by (first | lia | omega), Nat.pow_add]
    exact Nat.mul_lt_mul'' hM hN
  have hdue : M * N / (2 ^ w) ^ n ≤ M * N := Nat.div_le_self _ _
  have r := rec_law_high_right a
  refine callBody r rfl Rm hb hsz hm hr fun code h₁ tk Rm1 g1 I1 => ?_
  have l_a : Loc r.cx "a" 0 := r.lc (by decide +kernel)
  have l_b : Loc r.cx "b" 1 := r.lc (by decide +kernel)
  have l_n : Loc r.cx "n" 2 := r.lc (by decide +kernel)
  have l_w : Loc r.cx "w" 3 := r.lc (by decide +kernel)
  have l_whole : Loc r.cx "whole" 4 := r.lc (by decide +kernel)
  have l_due : Loc r.cx "due" 5 := r.lc (by decide +kernel)
  have l_least : Loc r.cx "least" 6 := r.lc (by decide +kernel)
  have l_told : Loc r.cx "told" 7 := r.lc (by decide +kernel)
  have l_found : Loc r.cx "found" 8 := r.lc (by decide +kernel)
  have l_was_asked : Loc r.cx "was_asked" 9 := r.lc (by decide +kernel)
  have g_law_value : Glb r.cx "_law_value" := r.gl (by decide +kernel)
  have f_law_value : Fun r.cx.toBase "_law_value" := a.fn 24 (by decide) (by rfl)
  obtain ⟨a_law_value, m_law_value⟩ : ∃ fa, r.cx.mg "_law_value" = some (.ref fa) := a.mg 24 (by decide) (by rfl)
  have g_high_product : Glb r.cx "high_product" := r.gl (by decide +kernel)
  have f_high_product : Fun r.cx.toBase "high_product" := a.fn 14 (by decide) (by rfl)
  obtain ⟨a_high_product, m_high_product⟩ : ∃ fa, r.cx.mg "high_product" = some (.ref fa) := a.mg 14 (by decide) (by rfl)
  have g_law_mul : Glb r.cx "_law_mul" := r.gl (by decide +kernel)
  have f_law_mul : Fun r.cx.toBase "_law_mul" := a.fn 25 (by decide) (by rfl)
  obtain ⟨a_law_mul, m_law_mul⟩ : ∃ fa, r.cx.mg "_law_mul" = some (.ref fa) := a.mg 25 (by decide) (by rfl)
  have g_high_spread : Glb r.cx "high_spread" := r.gl (by decide +kernel)
  have f_high_spread : Fun r.cx.toBase "high_spread" := a.fn 15 (by decide) (by rfl)
  obtain ⟨a_high_spread, m_high_spread⟩ : ∃ fa, r.cx.mg "high_spread" = some (.ref fa) := a.mg 15 (by decide) (by rfl)
  have g_high_sure : Glb r.cx "high_sure" := r.gl (by decide +kernel)
  have f_high_sure : Fun r.cx.toBase "high_sure" := a.fn 16 (by decide) (by rfl)
  obtain ⟨a_high_sure, m_high_sure⟩ : ∃ fa, r.cx.mg "high_sure" = some (.ref fa) := a.mg 16 (by decide) (by rfl)
  have g_high_school : Glb r.cx "high_school" := r.gl (by decide +kernel)
  have f_high_school : Fun r.cx.toBase "high_school" := a.fn 11 (by decide) (by rfl)
  obtain ⟨a_high_school, m_high_school⟩ : ∃ fa, r.cx.mg "high_school" = some (.ref fa) := a.mg 11 (by decide) (by rfl)
  have g_law_sum : Glb r.cx "_law_sum" := r.gl (by decide +kernel)
  have f_law_sum : Fun r.cx.toBase "_law_sum" := a.fn 27 (by decide) (by rfl)
  obtain ⟨a_law_sum, m_law_sum⟩ : ∃ fa, r.cx.mg "_law_sum" = some (.ref fa) := a.mg 27 (by decide) (by rfl)
  have g_oor : Glb r.cx "OutOfRange" := r.gl (by decide +kernel)
  have f_mul : Fun r.cx.toBase "_law_mul" := a.fn 25 (by decide) (by rfl)
  have c_val : ∀ x, x < 2 ^ BIG → CallTo r.cx.toBase 130 "_law_value" [.list (dg (2 ^ w) x), .int w] (.int x) := fun x hx => law_value_to a 129 (by (first | lia | omega)) hw' x hx
  have c_spread : CallTo r.cx.toBase 130 "high_spread" [.int n, .int w] (.int ((n : Int) + (n : Int) / 2 ^ w + 1)) := high_spread_to a 129 n w
  obtain ⟨bl, hbl, c_sure⟩ := high_sure_to a (by (first | lia | omega)) hw' n 126 M N (by (first | lia | omega)) hM hN
  have c_sure : CallTo r.cx.toBase 130 "high_sure" [.list (dg (2 ^ w) M), .list (dg (2 ^ w) N), .int n, .int w, .fn "_law_mul"] (.pair (.list (dg (2 ^ w) (M * N / (2 ^ w) ^ n))) (.bool bl)) := c_sure
  have kbig : ∀ x, x ≤ M * N → x < 2 ^ BIG := fun x hx => lt_big hw' (k := 2 * n) (by (first | lia | omega)) (by (first | lia | omega))
  have hwn : w * n ≤ 9 * 20 := Nat.mul_le_mul hw' hn'
  have hp : (2 : Int) ^ (w * n) = (((2 ^ w) ^ n : Nat) : Int) := by rw [← Nat.pow_mul, castW]
  have I2 : Inv r.cx s.heap.objs.size .none { σ := [some (.list (dg (2 ^ w) M)), some (.list (dg (2 ^ w) N)), some (.int n), some (.int w), some (.int ((M * N : Nat) : Int)), .none, .none, .none, .none, .none, .none, .none, .none, .none, .none, .none, .none, .none] } { s with heap := h₁, toks := tk } := I1
  have hsplit : (rc 28).body = (rc 28).body.take 6 ++ (rc 28).body.drop 6 := (List.take_append_drop 6 _).symm
  rw [hsplit]
  refine wpAny_execs_append ?_
  have hpre : Ex r.cx 130 { σ := [some (.list (dg (2 ^ w) M)), some (.list (dg (2 ^ w) N)), some (.int n), some (.int w), some (.int ((M * N : Nat) : Int)), .none, .none, .none, .none, .none, .none, .none, .none, .none, .none, .none, .none, .none] } ((rc 28).body.take 6)
      (fun st' => 0 < n ∧ Le { σ := [some (.list (dg (2 ^ w) M)), some (.list (dg (2 ^ w) N)), some (.int n), some (.int w), some (.int ((M * N : Nat) : Int)), .none, .none, .none, .none, .none, .none, .none, .none, .none, .none, .none, .none, .none] } st') (fun l => l = .bool true) := by
    show Ex _ _ _ [_, _, _, _, _, _] _ _
    refine Ex.assign (lv := .int ((M * N / (2 ^ w) ^ n : Nat) : Int)) l_due (Ev.conv (l := .int (((M * N : Nat) : Int) / 2 ^ (w * n))) (Ev.bin (x := .int ((M * N : Nat) : Int)) (y := .int ((w * n : Nat) : Int)) (by repeat' w_left) (Ev.conv (l := .int ((w : Int) * (n : Int))) ?_ (by rw [← Int.natCast_mul])) BinTo.shr) (congrArg LV.int (by rw [hp, Int.natCast_ediv]))) ?_
    · repeat' w_left
      exact IntMulOk.small (by (first | lia | omega))
    refine Ex.forIt (xs := [0, 3, 20]) (P := Unit) (fun _ => { σ := [some (.list (dg (2 ^ w) M)), some (.list (dg (2 ^ w) N)), some (.int n), some (.int w), some (.int ((M * N : Nat) : Int)), some (.int ((M * N / (2 ^ w) ^ n : Nat) : Int)), .none, .none, .none, .none, .none, .none, .none, .none, .none, .none, .none, .none] })
      (fun _ _ => True) () l_least (IterTo.tup ?_) trivial (Le.of rfl ⟨rfl, rfl, rfl, rfl, rfl, rfl, trivial⟩) (fun _ _ => rfl) ?_ ?_
    · show Evs _ _ _ _ [.int 0, .int 3, .int 20]
      repeat' w_left
    · rintro k ⟨⟩ hk _
      generalize ([0, 3, 20] : List Int).getD k 0 = least
      obtain ⟨V, ⟨t1, t2⟩, c_hp⟩ := high_product_to a (by (first | lia | omega)) hw' least n 0 M N (by (first | lia | omega)) hM hN
      have c_hp : CallTo r.cx.toBase 130 "high_product" [.list (dg (2 ^ w) M), .list (dg (2 ^ w) N), .int n, .int w, .int least, .fn "_law_mul"] (.list (dg (2 ^ w) V)) := c_hp.mono (by (first | lia | omega))
      refine Ex.assign (lv := .int V) l_told (by (repeat' w_left); exact kbig _ (Nat.le_trans t1 hdue)) ?_
      refine Ex.ite (c := false || !(decide ((V : Int) ≤ ((M * N / (2 ^ w) ^ n : Nat) : Int)) && decide (((M * N / (2 ^ w) ^ n : Nat) : Int) ≤ (V : Int) + ((n : Int) + (n : Int) / 2 ^ w + 1)))) (by repeat' w_left) (fun h => ?_) (fun _ => Ex.nil (Ex.nil ⟨(), trivial, Le.of rfl ⟨rfl, rfl, rfl, rfl, rfl, rfl, trivial⟩⟩))
      exfalso
      simp only [Bool.false_or, Bool.not_eq_true', Bool.and_eq_false_iff, decide_eq_false_iff_not] at h
      have h0 : (0 : Int) ≤ (n : Int) / 2 ^ w := Int.ediv_nonneg (by (first | lia | omega)) (by (first | lia | omega))
      (first | lia | omega)
    · rintro ⟨⟩ _
      refine Ex.unpack2 (l1 := .list (dg (2 ^ w) (M * N / (2 ^ w) ^ n))) (l2 := .bool bl) l_found l_was_asked rfl (by repeat' w_left) ?_
      refine Ex.ite (c := !decide (((M * N / (2 ^ w) ^ n : Nat) : Int) = ((M * N / (2 ^ w) ^ n : Nat) : Int)) || (decide ((n : Int) < 2) && !bl)) ?_ (fun h => ?_) (fun _ => Ex.nil ?_)
      · refine Tr.or ?_ (fun _ => Tr.and ?_ (fun _ => Tr.not (Tr.val ?_)))
        · repeat' w_left
          exact kbig _ hdue
        · repeat' w_left
        · repeat' w_left
      · exfalso
        by_cases h2 : n < 2
        · rw [hbl h2] at h
          simp at h
        · have h3 : decide ((n : Int) < 2) = false := decide_eq_false (by (first | lia | omega))
          rw [h3] at h
          simp at h
      refine Ex.ite (c := decide ((0 : Int) < n) && !decide (((hs (2 ^ w) M N n : Nat) : Int) = ((hs (2 ^ w) M N n : Nat) : Int))) (Tr.and (b := decide ((0 : Int) < n)) (by repeat' w_left) (fun h => ?_)) (fun h => ?_) (fun _ => Ex.nil ?_)
      · simp only [decide_eq_true_eq] at h
        have hn1 : 1 ≤ n := by (first | lia | omega)
        have c_school : CallTo r.cx.toBase 130 "high_school" [.list (dg (2 ^ w) M), .list (dg (2 ^ w) N), .int n, .int w] (.list (dg (2 ^ w) (hs (2 ^ w) M N n))) := high_school_to a 127 (by (first | lia | omega)) hw' M N n hn1 (by (first | lia | omega)) (by (first | lia | omega)) (by (first | lia | omega))
        have c_sum : CallTo r.cx.toBase 130 "_law_sum" [.list (dg (2 ^ w) M), .list (dg (2 ^ w) N), .int w, .int ((n : Int) - 1), .int (2 * (n : Int))] (.int (hs (2 ^ w) M N n)) := by
          have h := law_sum_to a 129 (w := w) (by (first | lia | omega)) hw' M N (n - 1) (2 * n) (by (first | lia | omega)) (by (first | lia | omega))
          rwa [lawSum_high hD hlM hlN, show ((n - 1 : Nat) : Int) = (n : Int) - 1 by (first | lia | omega), Int.natCast_mul] at h
        have hhs := hsS_le hD M N n (dg (2 ^ w) M).length
        repeat' w_left
        · exact kbig _ hhs
        · exact IntMulOk.small (by decide)
      · exfalso
        simp at h
      refine Ex.ite (c := decide ((n : Int) = 0)) (by repeat' w_left) (fun h => ?_) (fun h => Ex.nil ?_)
      · repeat' w_left
        rfl
      · simp only [decide_eq_false_iff_not] at h
        exact Ex.nil ⟨by (first | lia | omega), Le.of rfl ⟨rfl, rfl, rfl, rfl, rfl, trivial⟩⟩
  have hall : ∀ s2 : Shared, Kp s.heap.objs.size .none { s with heap := h₁, toks := tk } s2 → ∀ b o, s.heap.get? b = some o → s2.heap.get? b = some o := fun s2 k b o e => k.keep b o (Nat.ne_of_lt (Heap.lt_size e)) (by simp) (g1.keep b o e)
  refine hpre.run _ _ _ _ _ _ _ _ Rm1 I2 ?_ ?_
  · rintro st' s2 ⟨hn0, le⟩ I3 k3
    have I3 := le.inv I3
    have hfr1 : (A.deeper (envOf (rc 28).name (rc 28).scope s.heap.objs.size fa code)).frames = some (envOf r.cx.cn r.cx.cs s.heap.objs.size fa code :: outer) := by rw [Around.frames_deeper hfr]; rfl
    have hO2 : FrOk B.h0 s2.heap outer := hO.mono (hall s2 k3)
    show wpAny _ _ (execs [Stmt.Try _ [_] _ _ _] _) _ _ _
    refine wpAny_execs_cons (wpAny_Try_except (wpAny_execs_cons (wpAny_Expr_any (callAny (C := r.cx) (d := 130) (g := "high_product") (ls := [.list (List.replicate (n + 1) 1), .list (dg (2 ^ w) N), .int n, .int w, .int 0, .fn "_law_mul"]) ?_ f_high_product ?_ Rm1 I3 fun fa' vs' s3 g3 hm' hr' => ?_))))
    · repeat' w_left
    · refine Evs.cons (Ev.conv (l := .list (List.replicate (n + 1) [(1 : Int)]).flatten) (Ev.bin (x := .list [1]) (y := .int ((n + 1 : Nat) : Int)) (by repeat' w_left) (Ev.conv (l := .int ((n : Int) + 1)) (by repeat' w_left) (congrArg LV.int (by (first | lia | omega)))) (BinTo.repeat (by simp [LIM]; (first | lia | omega)) (by unfold LIM; (first | lia | omega)))) (by rw [flat1])) (by repeat' w_left)
    · have hO3 : FrOk B.h0 s3.heap (envOf r.cx.cn r.cx.cs s.heap.objs.size fa code :: outer) := by
        obtain ⟨m, F, V⟩ := (I3.mono g3).ex
        exact (hO2.mono g3.keep).cons F
      refine hp_raises a S (d := 129) (A := A.deeper (envOf (rc 28).name (rc 28).scope s.heap.objs.size fa code)) Rm1 hfr1 hO3 (I3.mono g3).base (I3.mono g3).size hm' hr' (by simp; (first | lia | omega)) fun e s4 q1 q2 q3 hf => ?_
      refine caught_low (C := r.cx) (g := s3) S g_oor (I3.mono g3) hfr1 hf fun h' u k => ?_
      refine q _ (q1.trans (g3.gens.trans k3.gens)) (q2.trans (g3.drawn.trans k3.drawn)) (q3.trans (g3.os.trans k3.os)) ((Heap.UpToSlots.of_keeps fun b o e => g3.keep b o (hall s2 k3 b o e)).trans u) fun b o e nb => k b o (g3.keep b o (hall s2 k3 b o e)) fun hm => ?_
      obtain ⟨env, hm, hfe⟩ := List.mem_filterMap.mp hm
      rcases List.mem_cons.mp hm with rfl | hm
      · have hbL : b = s.heap.objs.size := (Option.some.inj hfe).symm
        subst hbL
        exact absurd (Heap.lt_size e) (Nat.lt_irrefl _)
      · exact nb (List.mem_filterMap.mpr ⟨env, hm, hfe⟩)
  · rintro v lv s2 rfl rep k3
    cases rep
    exact q _ k3.gens k3.drawn k3.os (Heap.UpToSlots.of_keeps (hall s2 k3)) fun b o e _ => hall s2 k3 b o e

/-! W16 -/
noncomputable def lawSome (xs : List Int) : List Int := (xs.take 20).map (fun i => (i.natAbs : Int)) ++ [(xs.length : Int) + 83]
theorem lawSome_pos (xs : List Int) : 0 < (lawSome xs).length := by simp [lawSome]
theorem lawSome_len (xs : List Int) : (lawSome xs).length ≤ 21 := by simp [lawSome]; (first | lia | omega)
theorem lawSome0 (xs : List Int) : ∃ v : Nat, (lawSome xs).getD 0 0 = (v : Int) := by
  cases xs with
  | nil => exact ⟨83, rfl⟩
  | cons x r => exact ⟨x.natAbs, by simp [lawSome]⟩

theorem rec_law {B : Base} (a : Amb B) : Rec B (rc 30) ["script"] := .of (a.mem 30 (by decide)) (by decide +kernel) fun _ _ _ => ar1 fun _ => rfl

theorem law_raw {B : Base} (a : Amb B) {bm : List Value} {nid : String} (S : Spec1 B "OutOfRange" bm nid) {L fa sa : Addr} {cd : Value} {items : Array Value} {xs : List Int} {A : Around} {E : Value → Shared → Prop} {Q : Flow → Shared → Prop} {s : Shared}
    (Rm : Room A 140) (hfr : A.frames = some [envOf (rc 30).name (rc 30).scope L fa cd]) (hL : B.h0.IsList sa items) (ii : IntsAre items.toList xs) (hz : xs.length ≤ 63)
    (I : Inv (rec_law a).cx L .none { σ := [some (.raw (.ref sa)), .none, .none, .none, .none, .none, .none, .none, .none, .none, .none, .none, .none, .none, .none, .none, .none, .none, .none, .none, .none, .none, .none] } s)
    (q : ∀ s', s'.gens = s.gens → s'.drawn = s.drawn → s'.os = s.os → (∀ b o, B.h0.get? b = some o → s'.heap.get? b = some o) → Q (.ret (.bool true)) s') :
    wpAny (model B.prog B.w) A (execs (rc 30).body (envOf (rc 30).name (rc 30).scope L fa cd)) Q E s := by
  have r := rec_law a
  have l_script : Loc r.cx "script" 0 := r.lc (by decide +kernel)
  have l_some : Loc r.cx "some" 1 := r.lc (by decide +kernel)
  have l_w : Loc r.cx "w" 2 := r.lc (by decide +kernel)
  have l_one : Loc r.cx "one" 3 := r.lc (by decide +kernel)
  have l_other : Loc r.cx "other" 4 := r.lc (by decide +kernel)
  have l_a : Loc r.cx "a" 5 := r.lc (by decide +kernel)
  have l_b : Loc r.cx "b" 6 := r.lc (by decide +kernel)
  have l_whole : Loc r.cx "whole" 7 := r.lc (by decide +kernel)
  have l_n : Loc r.cx "n" 8 := r.lc (by decide +kernel)
  have l_least : Loc r.cx "least" 9 := r.lc (by decide +kernel)
  have b_len : Blt r.cx "len" (.builtin "len") := r.bl (by decide +kernel) a.len (by decide +kernel) (by rfl)
  have g_law_number : Glb r.cx "_law_number" := r.gl (by decide +kernel)
  have f_law_number : Fun r.cx.toBase "_law_number" := a.fn 26 (by decide) (by rfl)
  obtain ⟨a_law_number, m_law_number⟩ : ∃ fa, r.cx.mg "_law_number" = some (.ref fa) := a.mg 26 (by decide) (by rfl)
  have g_law_nat : Glb r.cx "_law_nat" := r.gl (by decide +kernel)
  have f_law_nat : Fun r.cx.toBase "_law_nat" := a.fn 23 (by decide) (by rfl)
  obtain ⟨a_law_nat, m_law_nat⟩ : ∃ fa, r.cx.mg "_law_nat" = some (.ref fa) := a.mg 23 (by decide) (by rfl)
  have g_law_value : Glb r.cx "_law_value" := r.gl (by decide +kernel)
  have f_law_value : Fun r.cx.toBase "_law_value" := a.fn 24 (by decide) (by rfl)
  obtain ⟨a_law_value, m_law_value⟩ : ∃ fa, r.cx.mg "_law_value" = some (.ref fa) := a.mg 24 (by decide) (by rfl)
  have g_low_product : Glb r.cx "low_product" := r.gl (by decide +kernel)
  have f_low_product : Fun r.cx.toBase "low_product" := a.fn 10 (by decide) (by rfl)
  obtain ⟨a_low_product, m_low_product⟩ : ∃ fa, r.cx.mg "low_product" = some (.ref fa) := a.mg 10 (by decide) (by rfl)
  have g_law_mul : Glb r.cx "_law_mul" := r.gl (by decide +kernel)
  have f_law_mul : Fun r.cx.toBase "_law_mul" := a.fn 25 (by decide) (by rfl)
  obtain ⟨a_law_mul, m_law_mul⟩ : ∃ fa, r.cx.mg "_law_mul" = some (.ref fa) := a.mg 25 (by decide) (by rfl)
  have g_low_school : Glb r.cx "low_school" := r.gl (by decide +kernel)
  have f_low_school : Fun r.cx.toBase "low_school" := a.fn 8 (by decide) (by rfl)
  obtain ⟨a_low_school, m_low_school⟩ : ∃ fa, r.cx.mg "low_school" = some (.ref fa) := a.mg 8 (by decide) (by rfl)
  have g_law_high_right : Glb r.cx "_law_high_right" := r.gl (by decide +kernel)
  have f_law_high_right : Fun r.cx.toBase "_law_high_right" := a.fn 28 (by decide) (by rfl)
  obtain ⟨a_law_high_right, m_law_high_right⟩ : ∃ fa, r.cx.mg "_law_high_right" = some (.ref fa) := a.mg 28 (by decide) (by rfl)
  have b_max : Blt r.cx "max" (.builtin "max") := r.bl (by decide +kernel) a.max (by decide +kernel) (by rfl)
  have g_law_wrapped_right : Glb r.cx "_law_wrapped_right" := r.gl (by decide +kernel)
  have f_law_wrapped_right : Fun r.cx.toBase "_law_wrapped_right" := a.fn 29 (by decide) (by rfl)
  obtain ⟨a_law_wrapped_right, m_law_wrapped_right⟩ : ∃ fa, r.cx.mg "_law_wrapped_right" = some (.ref fa) := a.mg 29 (by decide) (by rfl)
  have g_middle_product : Glb r.cx "middle_product" := r.gl (by decide +kernel)
  have f_middle_product : Fun r.cx.toBase "middle_product" := a.fn 17 (by decide) (by rfl)
  obtain ⟨a_middle_product, m_middle_product⟩ : ∃ fa, r.cx.mg "middle_product" = some (.ref fa) := a.mg 17 (by decide) (by rfl)
  have g_law_sum : Glb r.cx "_law_sum" := r.gl (by decide +kernel)
  have f_law_sum : Fun r.cx.toBase "_law_sum" := a.fn 27 (by decide) (by rfl)
  obtain ⟨a_law_sum, m_law_sum⟩ : ∃ fa, r.cx.mg "_law_sum" = some (.ref fa) := a.mg 27 (by decide) (by rfl)
  have g_product_by_wrap : Glb r.cx "product_by_wrap" := r.gl (by decide +kernel)
  have f_product_by_wrap : Fun r.cx.toBase "product_by_wrap" := a.fn 22 (by decide) (by rfl)
  obtain ⟨a_product_by_wrap, m_product_by_wrap⟩ : ∃ fa, r.cx.mg "product_by_wrap" = some (.ref fa) := a.mg 22 (by decide) (by rfl)
  have f_mul : Fun r.cx.toBase "_law_mul" := a.fn 25 (by decide) (by rfl)
  obtain ⟨v0, hv0⟩ := lawSome0 xs
  have hsp := lawSome_pos xs
  have hsl := lawSome_len xs
  generalize hw : 2 + v0 % 8 = w
  have hw2 : 2 ≤ w := by (first | lia | omega)
  have hw9 : w ≤ 9 := by (first | lia | omega)
  have hD := two_leW (w := w) (by (first | lia | omega))
  have hD' := leW hw9
  have hcW := castW w
  generalize hn : v0 / 8 % 12 = n
  have hn11 : n ≤ 11 := by (first | lia | omega)
  -- the two numbers
  have hdraw : ∀ b : Nat, ∃ M : Nat, lnNum (lawSome xs) w b (lnCnt (lawSome xs) b) = (M : Int) ∧ M < (2 ^ w) ^ 9 := fun b => by
    obtain ⟨h1, h2⟩ := lnNum_bd (lawSome xs) w b (lnCnt (lawSome xs) b)
    refine ⟨(lnNum (lawSome xs) w b (lnCnt (lawSome xs) b)).toNat, by (first | lia | omega), ?_⟩
    have hc : ((2 : Int) ^ w) ^ lnCnt (lawSome xs) b = (((2 ^ w) ^ lnCnt (lawSome xs) b : Nat) : Int) := by simp
    have h3 : (2 ^ w) ^ lnCnt (lawSome xs) b ≤ (2 ^ w) ^ 9 := Nat.pow_le_pow_right (by (first | lia | omega)) (lnCnt_le _ _)
    (first | lia | omega)
  obtain ⟨M, hM, hM9⟩ := hdraw 1
  obtain ⟨N, hN, hN9⟩ := hdraw 6
  have hlM : (dg (2 ^ w) M).length ≤ 9 := (length_dg_le hD).mpr hM9
  have hlN : (dg (2 ^ w) N).length ≤ 9 := (length_dg_le hD).mpr hN9
  have hMN : M * N < (2 ^ w) ^ 18 := by
    rw [show (18 : Nat) = 9 + 9 by rfl, Nat.pow_add]
    exact Nat.mul_lt_mul'' hM9 hN9
  have kbig : ∀ x, x < (2 ^ w) ^ 18 → x < 2 ^ BIG := fun x h => lt_big hw9 (by (first | lia | omega)) h
  have hmodlt : ∀ x, x ≤ M * N → x < 2 ^ BIG := fun x hx => kbig x (by (first | lia | omega))
  have hwn : w * n ≤ 9 * 11 := Nat.mul_le_mul hw9 hn11
  have hp : (2 : Int) ^ (w * n) = (((2 ^ w) ^ n : Nat) : Int) := by rw [← Nat.pow_mul, castW]
  have hpos : (0 : Int) < (((2 ^ w) ^ n : Nat) : Int) := by have := Nat.pow_pos (n := n) (show 0 < 2 ^ w by (first | lia | omega)); (first | lia | omega)
  have c_val : ∀ x, x < 2 ^ BIG → CallTo r.cx.toBase 140 "_law_value" [.list (dg (2 ^ w) x), .int w] (.int x) := fun x hx => law_value_to a 139 (by (first | lia | omega)) hw9 x hx
  have c_num1 : CallTo r.cx.toBase 140 "_law_number" [.list (lawSome xs), .int 1, .int w] (.int M) := hM ▸ law_number_to a 139 (by (first | lia | omega)) hw9 (lawSome xs) 1 (by (first | lia | omega)) hsp
  have c_num6 : CallTo r.cx.toBase 140 "_law_number" [.list (lawSome xs), .int 6, .int w] (.int N) := hN ▸ law_number_to a 139 (by (first | lia | omega)) hw9 (lawSome xs) 6 (by (first | lia | omega)) hsp
  have c_nat1 : CallTo r.cx.toBase 140 "_law_nat" [.int M, .int w] (.list (dg (2 ^ w) M)) := law_nat_to a 139 (by (first | lia | omega)) hw9 M (by (first | lia | omega))
  have c_nat2 : CallTo r.cx.toBase 140 "_law_nat" [.int N, .int w] (.list (dg (2 ^ w) N)) := law_nat_to a 139 (by (first | lia | omega)) hw9 N (by (first | lia | omega))
  have c_low : ∀ least : Int, CallTo r.cx.toBase 140 "low_product" [.list (dg (2 ^ w) M), .list (dg (2 ^ w) N), .int n, .int w, .int least, .fn "_law_mul"] (.list (dg (2 ^ w) (M * N % (2 ^ w) ^ n))) := fun least => (low_product_to a (by (first | lia | omega)) hw9 least n 0 M N (by (first | lia | omega)) (by (first | lia | omega)) (by (first | lia | omega))).mono (by (first | lia | omega))
  have c_school : CallTo r.cx.toBase 140 "low_school" [.list (dg (2 ^ w) M), .list (dg (2 ^ w) N), .int n, .int w] (.list (dg (2 ^ w) (M * N % (2 ^ w) ^ n))) := low_school_to a 138 (by (first | lia | omega)) hw9 M N n (by (first | lia | omega)) (by (first | lia | omega)) (by (first | lia | omega))
  have c_by : CallTo r.cx.toBase 140 "product_by_wrap" [.list (dg (2 ^ w) M), .list (dg (2 ^ w) N), .int w, .int 2, .fn "_law_mul"] (.list (dg (2 ^ w) (M * N))) := (by_wrap_to a hw2 hw9 2 M N (by (first | lia | omega))).mono (by (first | lia | omega))
  have c_wr : CallTo r.cx.toBase 140 "_law_wrapped_right" [.list (dg (2 ^ w) M), .list (dg (2 ^ w) N), .int (1 + (n : Int) % 6), .int w, .int ((M * N : Nat) : Int)] (.bool true) := by
    have h := (wrapped_right_to a hw2 hw9 M N (1 + n % 6) (by (first | lia | omega)) (by (first | lia | omega)) hM9 hN9).mono (d' := 140) (by (first | lia | omega))
    rwa [show ((1 + n % 6 : Nat) : Int) = 1 + (n : Int) % 6 by (first | lia | omega)] at h
  -- the remainder that the low parts are held against
  have ev_cut : ∀ {st : St} {px p1 p2 p3 p4 p5 p6 : Pos} {c1 : Nat}, st.σ[2]? = some (some (.int w)) → st.σ[7]? = some (some (.int ((M * N : Nat) : Int))) → st.σ[8]? = some (some (.int n)) →
      Ev r.cx 140 st (.BinOp (.Name "whole" px) .Mod (.BinOp (.Constant (.int 1) c1 p1) .LShift (.BinOp (.Name "w" p2) .Mult (.Name "n" p3) p4) p5) p6) (.int ((M * N % (2 ^ w) ^ n : Nat) : Int)) := fun h2 h7 h8 => by
    refine Ev.conv (l := .int (((M * N : Nat) : Int) % (((2 ^ w) ^ n : Nat) : Int))) (Ev.bin (Ev.var l_whole h7) (Ev.conv (l := .int (2 ^ (w * n))) (Ev.bin (x := .int 1) (y := .int ((w * n : Nat) : Int)) Ev.int (Ev.conv (l := .int ((w : Int) * (n : Int))) (Ev.bin (Ev.var l_w h2) (Ev.var l_n h8) (BinTo.mul (IntMulOk.small (by (first | lia | omega))))) (by rw [← Int.natCast_mul])) (BinTo.one (by (first | lia | omega)))) (by rw [hp])) (BinTo.mod hpos)) (by rw [Int.natCast_emod])
  have hsplit : (rc 30).body = (rc 30).body.take 7 ++ (rc 30).body.drop 7 := (List.take_append_drop 7 _).symm
  rw [hsplit]
  refine wpAny_execs_append ?_
  have hpre : Ex r.cx 140 { σ := [some (.raw (.ref sa)), .none, .none, .none, .none, .none, .none, .none, .none, .none, .none, .none, .none, .none, .none, .none, .none, .none, .none, .none, .none, .none, .none] } ((rc 30).body.take 7)
      (fun st' => Le { σ := [.none, .none, some (.int w), .none, .none, some (.list (dg (2 ^ w) M)), some (.list (dg (2 ^ w) N)), some (.int ((M * N : Nat) : Int)), some (.int n), .none, .none, .none, .none, .none, .none, .none, .none, .none, .none, .none, .none, .none, .none] } st') (fun _ => False) := by
    show Ex _ _ _ [_, _, _, _, _, _, _] _ _
    refine Ex.assign (lv := .list (lawSome xs)) l_some (Ev.bin (x := .list ((xs.take 20).map fun i => (i.natAbs : Int))) (y := .list [(xs.length : Int) + 83]) (Ev.compAbs (xs := xs.take 20) ?_ a.abs ((B.T.builtins "abs" (by decide +kernel)).trans (by rfl)) (by decide +kernel) (by decide +kernel) (by rfl) (by decide +kernel) (by decide +kernel) (fun _ _ _ => by rfl) (fun _ _ _ => by rfl) (by decide +kernel) (by decide +kernel)) (Ev.disp1 (Ev.bin (Ev.rawLen b_len (by repeat' w_left) hL ii (by unfold LIM; (first | lia | omega))) (by repeat' w_left) BinTo.add) (fun _ => rfl)) (BinTo.cat (by simp [LIM]; (first | lia | omega)))) ?_
    · exact Ev.rawTake (k := 20) (by repeat' w_left) hL ii (by unfold LIM; (first | lia | omega)) (by repeat' w_left) (by (first | lia | omega))
    refine Ex.assign (lv := .int w) l_w (Ev.conv (l := .int (2 + (lawSome xs).getD (0 : Int).toNat 0 % 8)) ?_ (congrArg LV.int (by rw [show (0 : Int).toNat = 0 from rfl, hv0]; (first | lia | omega)))) ?_
    · repeat' w_left
      (first | lia | omega)
    refine Ex.tup2 (l1 := .int M) (l2 := .int N) l_one l_other rfl (by repeat' w_left) (by repeat' w_left) ?_
    refine Ex.tup3 (l1 := .list (dg (2 ^ w) M)) (l2 := .list (dg (2 ^ w) N)) (l3 := .int ((M * N : Nat) : Int)) l_a l_b l_whole rfl (by repeat' w_left) (by repeat' w_left) (Ev.conv (l := .int ((M : Int) * (N : Int))) ?_ (by rw [Int.natCast_mul])) ?_
    · repeat' w_left
      refine IntMulOk.bits ?_ ?_
      · rw [Int.natAbs_natCast]; exact lt_big hw9 (by (first | lia | omega)) hM9
      · rw [Int.natAbs_natCast]; exact lt_big hw9 (by (first | lia | omega)) hN9
    refine Ex.assign (lv := .int n) l_n (Ev.conv (l := .int ((lawSome xs).getD (0 : Int).toNat 0 / 8 % 12)) ?_ (congrArg LV.int (by rw [show (0 : Int).toNat = 0 from rfl, hv0]; (first | lia | omega)))) ?_
    · repeat' w_left
      (first | lia | omega)
    refine Ex.forIt (xs := [0, 2, 4, 30]) (P := Unit) (fun _ => { σ := [.none, .none, some (.int w), .none, .none, some (.list (dg (2 ^ w) M)), some (.list (dg (2 ^ w) N)), some (.int ((M * N : Nat) : Int)), some (.int n), .none, .none, .none, .none, .none, .none, .none, .none, .none, .none, .none, .none, .none, .none] })
      (fun _ _ => True) () l_least (IterTo.tup ?_) trivial (Le.of rfl ⟨rfl, rfl, rfl, rfl, rfl, trivial⟩) (fun _ _ => rfl) ?_ ?_
    · show Evs _ _ _ _ [.int 0, .int 2, .int 4, .int 30]
      repeat' w_left
    · rintro k ⟨⟩ hk _
      generalize ([0, 2, 4, 30] : List Int).getD k 0 = least
      refine Ex.ite (c := !decide (((M * N % (2 ^ w) ^ n : Nat) : Int) = ((M * N % (2 ^ w) ^ n : Nat) : Int))) (Tr.cmp ?_ (ev_cut rfl rfl rfl) CmpTo.ne) (fun h => ?_) (fun _ => Ex.nil (Ex.nil ⟨(), trivial, Le.of rfl ⟨rfl, rfl, rfl, rfl, rfl, trivial⟩⟩))
      · repeat' w_left
        exact hmodlt _ (Nat.mod_le _ _)
      · exfalso; simp at h
    · rintro ⟨⟩ _
      refine Ex.ite (c := !decide (((M * N % (2 ^ w) ^ n : Nat) : Int) = ((M * N % (2 ^ w) ^ n : Nat) : Int))) (Tr.cmp ?_ (ev_cut rfl rfl rfl) CmpTo.ne) (fun h => ?_) (fun _ => Ex.nil (Ex.nil (Le.of rfl ⟨rfl, rfl, rfl, rfl, rfl, trivial⟩)))
      · repeat' w_left
        exact hmodlt _ (Nat.mod_le _ _)
      · exfalso; simp at h
  have hpost : Ex r.cx 140 { σ := [.none, .none, some (.int w), .none, .none, some (.list (dg (2 ^ w) M)), some (.list (dg (2 ^ w) N)), some (.int ((M * N : Nat) : Int)), some (.int n), .none, .none, .none, .none, .none, .none, .none, .none, .none, .none, .none, .none, .none, .none] } ((rc 30).body.drop 8) NoNext (fun l => l = .bool true) := by
    show Ex _ _ _ [_, _] _ _
    generalize hmp : mpS (2 ^ w) M N (dg (2 ^ w) M).length (dg (2 ^ w) N).length (dg (2 ^ w) N).length = mp
    refine Ex.ite (c := decide (((dg (2 ^ w) N).length : Int) ≤ (dg (2 ^ w) M).length) && !decide ((mp : Int) = mp)) (Tr.and (b := decide (((dg (2 ^ w) N).length : Int) ≤ (dg (2 ^ w) M).length)) (by repeat' w_left) (fun h => ?_)) (fun h => ?_) (fun _ => Ex.nil ?_)
    · simp only [decide_eq_true_eq] at h
      have hle : (dg (2 ^ w) N).length ≤ (dg (2 ^ w) M).length := by (first | lia | omega)
      have hmpl : mp < 2 ^ BIG := by
        have h1 := mpS_len hD (M := M) (N := N) (n := (dg (2 ^ w) N).length) (k := (dg (2 ^ w) N).length) (Nat.le_refl (dg (2 ^ w) M).length) (by (first | lia | omega))
        rw [hmp] at h1
        exact lt_big hw9 (by (first | lia | omega)) ((length_dg_le hD).mp h1)
      have c_mid : CallTo r.cx.toBase 140 "middle_product" [.list (dg (2 ^ w) M), .list (dg (2 ^ w) N), .int w] (.list (dg (2 ^ w) mp)) := hmp ▸ middle_to a 137 (by (first | lia | omega)) hw9 M N hle (by (first | lia | omega))
      refine Tr.cmp (x := .int mp) (y := .int mp) ?_ (Ev.ife (c := !decide (dg (2 ^ w) N = [])) (by repeat' w_left) (fun h' => ?_) (fun h' => ?_)) CmpTo.ne
      · repeat' w_left
        exact hmpl
      · simp only [Bool.not_eq_true', decide_eq_false_iff_not] at h'
        have hl1 := List.length_pos_iff.mpr h'
        have c_sum : CallTo r.cx.toBase 140 "_law_sum" [.list (dg (2 ^ w) M), .list (dg (2 ^ w) N), .int w, .int (((dg (2 ^ w) N).length : Int) - 1), .int (((dg (2 ^ w) M).length : Int) - 1)] (.int mp) := by
          have h := law_sum_to a 139 (w := w) (by (first | lia | omega)) hw9 M N ((dg (2 ^ w) N).length - 1) ((dg (2 ^ w) M).length - 1) (by (first | lia | omega)) (by (first | lia | omega))
          rwa [lawSum_middle hD hl1 hle, hmp, show (((dg (2 ^ w) N).length - 1 : Nat) : Int) = ((dg (2 ^ w) N).length : Int) - 1 by (first | lia | omega), show (((dg (2 ^ w) M).length - 1 : Nat) : Int) = ((dg (2 ^ w) M).length : Int) - 1 by (first | lia | omega)] at h
        repeat' w_left
      · simp only [Bool.not_eq_false', decide_eq_true_eq] at h'
        have hmp0 : mp = 0 := by rw [← hmp, h']; rfl
        rw [hmp0]
        exact Ev.conv (l := .int 0) (by repeat' w_left) rfl
    · exfalso; simp at h
    · refine Ex.ret (lv := .bool (decide (((M * N : Nat) : Int) = ((M * N : Nat) : Int)))) ?_ (by simp)
      repeat' w_left
      exact kbig _ hMN
  refine hpre.run _ _ _ _ _ _ _ _ Rm I ?_ (fun _ _ _ h => h.elim)
  intro st' s1 le I1 k1
  have I1 := le.inv I1
  show wpAny _ _ (execs [Stmt.If (.BoolOp .Or [.UnaryOp .Not _ _, .UnaryOp .Not _ _] _) _ [] _, _, _] _) _ _ _
  generalize hnr : max (dg (2 ^ w) M).length (dg (2 ^ w) N).length + n % 2 = nr
  have hpowM : (2 ^ w) ^ (dg (2 ^ w) M).length ≤ (2 ^ w) ^ nr := Nat.pow_le_pow_right (by (first | lia | omega)) (by (first | lia | omega))
  have hpowN : (2 ^ w) ^ (dg (2 ^ w) N).length ≤ (2 ^ w) ^ nr := Nat.pow_le_pow_right (by (first | lia | omega)) (by (first | lia | omega))
  have hMr := Nat.lt_of_lt_of_le (lt_pow_length hD M) hpowM
  have hNr := Nat.lt_of_lt_of_le (lt_pow_length hD N) hpowN
  refine wpAny_execs_cons (wpAny_If (wpAny_isTrue_BoolOp (wpAny_allTrue_Or_cons (wpAny_isTrue_Not (wpAny_isTrue_value (callAny (C := r.cx) (d := 140) (g := "_law_high_right") (ls := [.list (dg (2 ^ w) M), .list (dg (2 ^ w) N), .int nr, .int w, .int ((M * N : Nat) : Int)]) ?_ f_law_high_right ?_ Rm I1 fun fa' vs' s3 g3 hm' hr' => ?_))))))
  · repeat' w_left
  · refine Evs.cons (by repeat' w_left) (Evs.cons (by repeat' w_left) (Evs.cons (Ev.conv (l := .int (max ((dg (2 ^ w) M).length : Int) ((dg (2 ^ w) N).length : Int) + (n : Int) % 2)) (by repeat' w_left) (congrArg LV.int (by (first | lia | omega)))) (by repeat' w_left)))
  · have I3 := I1.mono g3
    obtain ⟨m, F, V⟩ := id I3.ex
    have hO : FrOk B.h0 s3.heap [envOf r.cx.cn r.cx.cs L fa cd] := FrOk.cons (C := r.cx) (l := []) (fun _ h => nomatch h) F
    refine high_right_raw a S hw2 hw9 M N nr (by (first | lia | omega)) hMr hNr (Rm := ⟨Rm.h, by have := Rm.dep; (first | lia | omega), by have := Rm.un; (first | lia | omega)⟩) hfr hO I3.base I3.size hm' hr' fun s4 e1 e2 e3 u k => ?_
    refine wpAny_truthy_bool ?_
    have I4 : Inv r.cx L .none _ s4 := I3.turn u fun b o e n => k b o e fun hm => by
      obtain ⟨env, hm, hf⟩ := List.mem_filterMap.mp hm
      rw [List.mem_singleton.mp hm] at hf
      exact n (Option.some.inj hf).symm
    refine wpAny_allTrue_Or_cons ((Tr.not (b := true) (Tr.val (C := r.cx) (d := 140) ?_)).run _ _ _ _ _ _ _ _ Rm I4 fun s5 g5 => ?_)
    · repeat' w_left
    refine wpAny_allTrue_Or_nil ?_
    refine wpAny_execs_nil ?_
    have I5 := I4.mono g5
    refine hpost.run _ _ _ _ _ _ _ _ Rm I5 (fun _ _ h => h.elim) fun v lv s6 hlv rep k6 => ?_
    subst hlv
    cases rep
    have hb6 : ∀ b o, B.h0.get? b = some o → s6.heap.get? b = some o := fun b o e => k6.keep b o (fun x => by
      subst x
      exact absurd (Nat.lt_of_lt_of_le (Heap.lt_size e) F.above) (Nat.lt_irrefl _)) (by simp) (I5.base b o e)
    exact q s6 (k6.gens.trans (g5.gens.trans (e1.trans (g3.gens.trans k1.gens)))) (k6.drawn.trans (g5.drawn.trans (e2.trans (g3.drawn.trans k1.drawn)))) (k6.os.trans (g5.os.trans (e3.trans (g3.os.trans k1.os)))) hb6

/-! W17 -/
theorem law_end {prog p : Program} {w : World} {loose : List Str} {mean : ExcName → Option Value} {mg mb : Str → Option Value} {s₁ : Shared} (T : Top p loose mean mg mb s₁.heap) (hr : recsOf p = recsOf PW)
    (f1 : mg "len" = .none) (f2 : mg "range" = .none) (f3 : mg "min" = .none) (f4 : mg "max" = .none) (f5 : mg "abs" = .none) (f6 : mg "enumerate" = .none)
    (hsp : specOf p "OutOfRange" = some ("Exception.__new__", [.type "Exception", .type "BaseException", .type "object"]))
    {sa fa : Addr} {cd : Value} {vs : List Value} {xs : List Int} (hL : s₁.heap.IsList sa vs.toArray) (hI : IntsAre vs xs) (hc : ¬ (63 : Int) < xs.length) {h₁ : Heap} {tk : Nat} {E : Value → Shared → Prop} {Q : Flow → Shared → Prop}
    (F : Fr s₁.heap s₁.heap.objs.size h₁ (fun x => List.lookup x [(Str.ofString "script", Value.ref sa)].reverse))
    (q : ∀ s', s'.gens = s₁.gens → s'.os = s₁.os → (∀ b o, s₁.heap.get? b = some o → s'.heap.get? b = some o) → Q (.ret (.bool true)) s') :
    wpAny (model prog w) (callerA.deeper (envOf (rc 30).name (rc 30).scope s₁.heap.objs.size fa cd)) (execs (rc 30).body (envOf (rc 30).name (rc 30).scope s₁.heap.objs.size fa cd)) Q E
      { heap := h₁, gens := s₁.gens, drawn := s₁.drawn, toks := tk, os := s₁.os } := by
  let B : Base := { prog := prog, w := w, p := p, loose := loose, mean := mean, mg := mg, mb := mb, h0 := s₁.heap, T := T }
  have a : Amb B := ⟨hr, f1, f2, f3, f4, f5, f6⟩
  have S : Spec1 B "OutOfRange" [.type "Exception", .type "BaseException", .type "object"] "Exception.__new__" := ⟨hsp, "Exception", "Exception.__init__", PySem.F.excBase_Exception⟩
  refine law_raw (B := B) a S (xs := xs) (items := vs.toArray) (sa := sa) ⟨rfl, (show 1 + claimMargin + 1 + 140 < recursionLimit by decide +kernel), (show 4 + 3 + 10 * 140 + 100 < cLine by decide +kernel)⟩ rfl hL hI (by (first | lia | omega)) ?_ fun s' e1 _ e3 hb => q s' e1 e3 hb
  refine ⟨⟨_, F, ⟨fun i lv e => ?_, (fun i ys e => by cases e), (fun _ => rfl)⟩⟩, (fun b e => by cases e)⟩
  match i, e with
  | 0, e =>
    cases e
    exact ⟨(Str.ofString "script", .local), .ref sa, (show (rc 30).scope.names[0]? = _ by decide +kernel), by simp, fun h' _ => rfl⟩
  | i + 1, e =>
    exfalso
    have : ∀ l ∈ (List.replicate 22 (Option.none : Option LV)), l = .none := fun l hl => (List.mem_replicate.mp hl).2
    have h2 := List.mem_of_getElem? (l := List.replicate 22 (Option.none : Option LV)) (i := i) (a := some lv) e
    cases this _ h2

theorem post_true (args : List WData) : PySem.Challenge.rw_nn0019_01.row.claim.post args (.bool true) args = true := by
  have h : PySem.W.same (.bool true) (.bool true) = true := by first | rfl | decide | (unfold PySem.W.same; rfl)
  simp [RowW.claim, OpenLaw.row, WShape.has, WShape.arms, WTm.holds, WTm.value, h]

/-! HD -/
/-! the head by hand: the top's states at some statements' ends (written by headgen.lean) -/
noncomputable def rcP (k : Nat) : Arguments := (rc k).params
noncomputable def rcB (k : Nat) : List Stmt := (rc k).body
noncomputable def rcS (k : Nat) : Scope := (rc k).scope
noncomputable def o11v0 (P : Params) : Obj :=
  { cls := Value.type "tuple", data := Data.seq #[] }
noncomputable def o12v0 (P : Params) : Obj :=
  { cls := Value.none, data := Data.fields #[] }
noncomputable def o13v0 (P : Params) : Obj :=
  { cls := Value.type "code",
    data :=
      Data.fields
        #[Value.str (Str.ofString "<module>") 182, Value.str (Str.ofString "<module>") 183, Value.str (Str.ofString "/claim/cut.py") 184, Value.int 1 0, Value.int 0 0, Value.int 0 0, Value.int 0 0,
          Value.int 0 0, Value.ref 11, Value.bool false, Value.int 181 0, Value.ref 12, Value.none, Value.none, Value.none, Value.none, Value.int 185 0, Value.int 1 0,
          Value.str (Str.ofString "/claim/cut.py") 186] }
noncomputable def o14v0 (P : Params) : Obj :=
  { cls := Value.type "frame", slots := #[some (Value.ref 13), some (Value.ref 3), some (Value.ref 3), none, some (Value.str (Str.ofString "__main__") 164), none, some (Value.ref 0)] }
noncomputable def hp0 (P : Params) : Heap := ⟨⟨[boot_o_0 P, boot_o_1 P, boot_o_2 P, boot_o_3 P, boot_o_4 P, boot_o_5 P, boot_o_6 P, boot_o_7 P, boot_o_8 P, boot_o_9 P, boot_o_10 P, o11v0 P, o12v0 P, o13v0 P, o14v0 P]⟩, { }⟩
noncomputable def o2v1 (P : Params) : Obj :=
  { cls := Value.none,
    data :=
      Data.dict
        #[{ hash := PyData.keyHash P (Str.ofString "type.__subclasses__.Exception.0"), key := Value.str (Str.ofString "type.__subclasses__.Exception.0") 205, val := Value.int 24 0 },
          { hash := PyData.keyHash P (Str.ofString "type.__subclasses__.Exception.n"), key := Value.str (Str.ofString "type.__subclasses__.Exception.n") 206, val := Value.int 1 0 }]
        2 }
noncomputable def o3v1 (P : Params) : Obj :=
  { cls := Value.type "dict",
    data :=
      Data.dict
        #[{ hash := PyData.keyHash P (Str.ofString "__name__"), key := Value.str (Str.ofString "__name__") 165, val := Value.str (Str.ofString "gmp.limbs") 187 },
          { hash := PyData.keyHash P (Str.ofString "__doc__"), key := Value.str (Str.ofString "__doc__") 166, val := Value.none },
          { hash := PyData.keyHash P (Str.ofString "__package__"), key := Value.str (Str.ofString "__package__") 167, val := Value.none },
          { hash := PyData.keyHash P (Str.ofString "__loader__"), key := Value.str (Str.ofString "__loader__") 168, val := Value.builtin "__main__.__loader__#opaque" },
          { hash := PyData.keyHash P (Str.ofString "__spec__"), key := Value.str (Str.ofString "__spec__") 169, val := Value.none },
          { hash := PyData.keyHash P (Str.ofString "__annotations__"), key := Value.str (Str.ofString "__annotations__") 170, val := Value.ref 6 },
          { hash := PyData.keyHash P (Str.ofString "__builtins__"), key := Value.str (Str.ofString "__builtins__") 171, val := Value.ref 4 },
          { hash := PyData.keyHash P (Str.ofString "__file__"), key := Value.str (Str.ofString "__file__") 173, val := Value.str (Str.ofString "/claim/cut.py") 172 },
          { hash := PyData.keyHash P (Str.ofString "__cached__"), key := Value.str (Str.ofString "__cached__") 174, val := Value.none },
          { hash := PyData.keyHash P (Str.ofString "GmpError"), key := Value.str (Str.ofString "GmpError") 208, val := Value.ref 24 }]
        10 }
noncomputable def o12v1 (P : Params) : Obj :=
  { cls := Value.none, data := Data.fields #[Value.int 2 0, Value.int 0 0, Value.ref 20] }
noncomputable def o15v0 (P : Params) : Obj :=
  { cls := Value.type "tuple", data := Data.seq #[Value.type "Exception"] }
noncomputable def o16v0 (P : Params) : Obj :=
  { cls := Value.type "builtin_function_or_method", data := Data.fields #[Value.builtin "type.__prepare__", Value.type "type"] }
noncomputable def o17v0 (P : Params) : Obj :=
  { cls := Value.type "dict",
    data :=
      Data.dict
        #[{ hash := PyData.keyHash P (Str.ofString "__module__"), key := Value.str (Str.ofString "__module__") 196, val := Value.str (Str.ofString "gmp.limbs") 187 },
          { hash := PyData.keyHash P (Str.ofString "__qualname__"), key := Value.str (Str.ofString "__qualname__") 198, val := Value.str (Str.ofString "GmpError") 197 },
          { hash := PyData.keyHash P (Str.ofString "__firstlineno__"), key := Value.str (Str.ofString "__firstlineno__") 200, val := Value.int 2 199 },
          { hash := PyData.keyHash P (Str.ofString "__static_attributes__"), key := Value.str (Str.ofString "__static_attributes__") 201, val := Value.ref 22 }]
        4 }
noncomputable def o18v0 (P : Params) : Obj :=
  { cls := Value.type "tuple", data := Data.seq #[] }
noncomputable def o19v0 (P : Params) : Obj :=
  { cls := Value.none, data := Data.fields #[] }
noncomputable def o20v0 (P : Params) : Obj :=
  { cls := Value.type "code",
    data :=
      Data.fields
        #[Value.str (Str.ofString "GmpError") 191, Value.str (Str.ofString "GmpError") 192, Value.str (Str.ofString "/claim/cut.py") 193, Value.int 2 0, Value.int 0 0, Value.int 0 0, Value.int 0 0,
          Value.int 0 0, Value.ref 18, Value.bool false, Value.int 181 0, Value.ref 19, Value.none, Value.none, Value.none, Value.none, Value.int 194 0, Value.int 2 0,
          Value.str (Str.ofString "/claim/cut.py") 195] }
noncomputable def o21v0 (P : Params) : Obj :=
  { cls := Value.type "frame", slots := #[some (Value.ref 20), some (Value.ref 3), some (Value.ref 17), none, some (Value.str (Str.ofString "gmp.limbs") 187), none, some (Value.ref 0)] }
noncomputable def o22v0 (P : Params) : Obj :=
  { cls := Value.type "tuple", data := Data.seq #[] }
noncomputable def o23v0 (P : Params) : Obj :=
  { cls := Value.type "dict",
    data :=
      Data.dict
        #[{ hash := PyData.keyHash P (Str.ofString "__module__"), key := Value.str (Str.ofString "__module__") 196, val := Value.str (Str.ofString "gmp.limbs") 187 },
          { hash := PyData.keyHash P (Str.ofString "__firstlineno__"), key := Value.str (Str.ofString "__firstlineno__") 200, val := Value.int 2 199 },
          { hash := PyData.keyHash P (Str.ofString "__static_attributes__"), key := Value.str (Str.ofString "__static_attributes__") 201, val := Value.ref 22 },
          { hash := PyData.keyHash P (Str.ofString "__weakref__"), key := Value.str (Str.ofString "__weakref__") 203, val := Value.ref 25 },
          { hash := PyData.keyHash P (Str.ofString "__doc__"), key := Value.str (Str.ofString "__doc__") 204, val := Value.none }]
        3 }
noncomputable def o24v0 (P : Params) : Obj :=
  { cls := Value.type "type",
    data :=
      Data.cls
        { name := Str.ofString "GmpError", bases := [Value.type "Exception"], mro := [Value.ref 24, Value.type "Exception", Value.type "BaseException", Value.type "object"], ns := 23,
          qualname := Str.ofString "GmpError" },
    slots :=
      #[some (Value.ref 15), none, some (Value.str (Str.ofString "GmpError") 189), some (Value.str (Str.ofString "GmpError") 197), some (Value.builtin "Exception.__new__"), some (Value.bool true)] }
noncomputable def o25v0 (P : Params) : Obj :=
  { cls := Value.type "getset_descriptor", data := Data.fields #[Value.str (Str.ofString "__weakref__") 202, Value.ref 24, Value.builtin "ExceptionGroup.__weakref__", Value.none] }
noncomputable def o26v0 (P : Params) : Obj :=
  { cls := Value.type "super", data := Data.fields #[Value.ref 24, Value.ref 24, Value.ref 24] }
noncomputable def o27v0 (P : Params) : Obj :=
  { cls := Value.type "builtin_function_or_method", data := Data.fields #[Value.builtin "object.__init_subclass__", Value.ref 24] }
noncomputable def hp1 (P : Params) : Heap := ⟨⟨[boot_o_0 P, boot_o_1 P, o2v1 P, o3v1 P, boot_o_4 P, boot_o_5 P, boot_o_6 P, boot_o_7 P, boot_o_8 P, boot_o_9 P, boot_o_10 P, o11v0 P, o12v1 P, o13v0 P, o14v0 P, o15v0 P, o16v0 P, o17v0 P, o18v0 P, o19v0 P, o20v0 P, o21v0 P, o22v0 P, o23v0 P, o24v0 P, o25v0 P, o26v0 P, o27v0 P]⟩, { }⟩
noncomputable def o3v2 (P : Params) : Obj :=
  { cls := Value.type "dict",
    data :=
      Data.dict
        #[{ hash := PyData.keyHash P (Str.ofString "__name__"), key := Value.str (Str.ofString "__name__") 165, val := Value.str (Str.ofString "gmp.limbs") 187 },
          { hash := PyData.keyHash P (Str.ofString "__doc__"), key := Value.str (Str.ofString "__doc__") 166, val := Value.none },
          { hash := PyData.keyHash P (Str.ofString "__package__"), key := Value.str (Str.ofString "__package__") 167, val := Value.none },
          { hash := PyData.keyHash P (Str.ofString "__loader__"), key := Value.str (Str.ofString "__loader__") 168, val := Value.builtin "__main__.__loader__#opaque" },
          { hash := PyData.keyHash P (Str.ofString "__spec__"), key := Value.str (Str.ofString "__spec__") 169, val := Value.none },
          { hash := PyData.keyHash P (Str.ofString "__annotations__"), key := Value.str (Str.ofString "__annotations__") 170, val := Value.ref 6 },
          { hash := PyData.keyHash P (Str.ofString "__builtins__"), key := Value.str (Str.ofString "__builtins__") 171, val := Value.ref 4 },
          { hash := PyData.keyHash P (Str.ofString "__file__"), key := Value.str (Str.ofString "__file__") 173, val := Value.str (Str.ofString "/claim/cut.py") 172 },
          { hash := PyData.keyHash P (Str.ofString "__cached__"), key := Value.str (Str.ofString "__cached__") 174, val := Value.none },
          { hash := PyData.keyHash P (Str.ofString "GmpError"), key := Value.str (Str.ofString "GmpError") 208, val := Value.ref 24 },
          { hash := PyData.keyHash P (Str.ofString "OutOfRange"), key := Value.str (Str.ofString "OutOfRange") 224, val := Value.ref 37 }]
        11 }
noncomputable def o12v2 (P : Params) : Obj :=
  { cls := Value.none, data := Data.fields #[Value.int 2 0, Value.int 0 0, Value.ref 20, Value.int 4 0, Value.int 0 0, Value.ref 33] }
noncomputable def o24v1 (P : Params) : Obj :=
  { cls := Value.type "type",
    data :=
      Data.cls
        { name := Str.ofString "GmpError", bases := [Value.type "Exception"], mro := [Value.ref 24, Value.type "Exception", Value.type "BaseException", Value.type "object"], ns := 23,
          qualname := Str.ofString "GmpError", subclasses := [Value.ref 37] },
    slots :=
      #[some (Value.ref 15), none, some (Value.str (Str.ofString "GmpError") 189), some (Value.str (Str.ofString "GmpError") 197), some (Value.builtin "Exception.__new__"), some (Value.bool true)] }
noncomputable def o28v0 (P : Params) : Obj :=
  { cls := Value.type "tuple", data := Data.seq #[Value.ref 24] }
noncomputable def o29v0 (P : Params) : Obj :=
  { cls := Value.type "builtin_function_or_method", data := Data.fields #[Value.builtin "type.__prepare__", Value.type "type"] }
noncomputable def o30v0 (P : Params) : Obj :=
  { cls := Value.type "dict",
    data :=
      Data.dict
        #[{ hash := PyData.keyHash P (Str.ofString "__module__"), key := Value.str (Str.ofString "__module__") 216, val := Value.str (Str.ofString "gmp.limbs") 187 },
          { hash := PyData.keyHash P (Str.ofString "__qualname__"), key := Value.str (Str.ofString "__qualname__") 218, val := Value.str (Str.ofString "OutOfRange") 217 },
          { hash := PyData.keyHash P (Str.ofString "__firstlineno__"), key := Value.str (Str.ofString "__firstlineno__") 220, val := Value.int 4 219 },
          { hash := PyData.keyHash P (Str.ofString "__static_attributes__"), key := Value.str (Str.ofString "__static_attributes__") 221, val := Value.ref 35 }]
        4 }
noncomputable def o31v0 (P : Params) : Obj :=
  { cls := Value.type "tuple", data := Data.seq #[] }
noncomputable def o32v0 (P : Params) : Obj :=
  { cls := Value.none, data := Data.fields #[] }
noncomputable def o33v0 (P : Params) : Obj :=
  { cls := Value.type "code",
    data :=
      Data.fields
        #[Value.str (Str.ofString "OutOfRange") 211, Value.str (Str.ofString "OutOfRange") 212, Value.str (Str.ofString "/claim/cut.py") 213, Value.int 4 0, Value.int 0 0, Value.int 0 0, Value.int 0 0,
          Value.int 0 0, Value.ref 31, Value.bool false, Value.int 181 0, Value.ref 32, Value.none, Value.none, Value.none, Value.none, Value.int 214 0, Value.int 4 0,
          Value.str (Str.ofString "/claim/cut.py") 215] }
noncomputable def o34v0 (P : Params) : Obj :=
  { cls := Value.type "frame", slots := #[some (Value.ref 33), some (Value.ref 3), some (Value.ref 30), none, some (Value.str (Str.ofString "gmp.limbs") 187), none, some (Value.ref 0)] }
noncomputable def o35v0 (P : Params) : Obj :=
  { cls := Value.type "tuple", data := Data.seq #[] }
noncomputable def o36v0 (P : Params) : Obj :=
  { cls := Value.type "dict",
    data :=
      Data.dict
        #[{ hash := PyData.keyHash P (Str.ofString "__module__"), key := Value.str (Str.ofString "__module__") 216, val := Value.str (Str.ofString "gmp.limbs") 187 },
          { hash := PyData.keyHash P (Str.ofString "__firstlineno__"), key := Value.str (Str.ofString "__firstlineno__") 220, val := Value.int 4 219 },
          { hash := PyData.keyHash P (Str.ofString "__static_attributes__"), key := Value.str (Str.ofString "__static_attributes__") 221, val := Value.ref 35 },
          { hash := PyData.keyHash P (Str.ofString "__doc__"), key := Value.str (Str.ofString "__doc__") 222, val := Value.none }]
        2 }
noncomputable def o37v0 (P : Params) : Obj :=
  { cls := Value.type "type",
    data :=
      Data.cls
        { name := Str.ofString "OutOfRange", bases := [Value.ref 24], mro := [Value.ref 37, Value.ref 24, Value.type "Exception", Value.type "BaseException", Value.type "object"], ns := 36,
          qualname := Str.ofString "OutOfRange" },
    slots :=
      #[some (Value.ref 28), none, some (Value.str (Str.ofString "OutOfRange") 209), some (Value.str (Str.ofString "OutOfRange") 217), some (Value.builtin "Exception.__new__"), some (Value.bool true)] }
noncomputable def o38v0 (P : Params) : Obj :=
  { cls := Value.type "super", data := Data.fields #[Value.ref 37, Value.ref 37, Value.ref 37] }
noncomputable def o39v0 (P : Params) : Obj :=
  { cls := Value.type "builtin_function_or_method", data := Data.fields #[Value.builtin "object.__init_subclass__", Value.ref 37] }
noncomputable def hp2 (P : Params) : Heap := ⟨⟨[boot_o_0 P, boot_o_1 P, o2v1 P, o3v2 P, boot_o_4 P, boot_o_5 P, boot_o_6 P, boot_o_7 P, boot_o_8 P, boot_o_9 P, boot_o_10 P, o11v0 P, o12v2 P, o13v0 P, o14v0 P, o15v0 P, o16v0 P, o17v0 P, o18v0 P, o19v0 P, o20v0 P, o21v0 P, o22v0 P, o23v0 P, o24v1 P, o25v0 P, o26v0 P, o27v0 P, o28v0 P, o29v0 P, o30v0 P, o31v0 P, o32v0 P, o33v0 P, o34v0 P, o35v0 P, o36v0 P, o37v0 P, o38v0 P, o39v0 P]⟩, { }⟩
noncomputable def o3v3 (P : Params) : Obj :=
  { cls := Value.type "dict",
    data :=
      Data.dict
        #[{ hash := PyData.keyHash P (Str.ofString "__name__"), key := Value.str (Str.ofString "__name__") 165, val := Value.str (Str.ofString "gmp.limbs") 187 },
          { hash := PyData.keyHash P (Str.ofString "__doc__"), key := Value.str (Str.ofString "__doc__") 166, val := Value.none },
          { hash := PyData.keyHash P (Str.ofString "__package__"), key := Value.str (Str.ofString "__package__") 167, val := Value.none },
          { hash := PyData.keyHash P (Str.ofString "__loader__"), key := Value.str (Str.ofString "__loader__") 168, val := Value.builtin "__main__.__loader__#opaque" },
          { hash := PyData.keyHash P (Str.ofString "__spec__"), key := Value.str (Str.ofString "__spec__") 169, val := Value.none },
          { hash := PyData.keyHash P (Str.ofString "__annotations__"), key := Value.str (Str.ofString "__annotations__") 170, val := Value.ref 6 },
          { hash := PyData.keyHash P (Str.ofString "__builtins__"), key := Value.str (Str.ofString "__builtins__") 171, val := Value.ref 4 },
          { hash := PyData.keyHash P (Str.ofString "__file__"), key := Value.str (Str.ofString "__file__") 173, val := Value.str (Str.ofString "/claim/cut.py") 172 },
          { hash := PyData.keyHash P (Str.ofString "__cached__"), key := Value.str (Str.ofString "__cached__") 174, val := Value.none },
          { hash := PyData.keyHash P (Str.ofString "GmpError"), key := Value.str (Str.ofString "GmpError") 208, val := Value.ref 24 },
          { hash := PyData.keyHash P (Str.ofString "OutOfRange"), key := Value.str (Str.ofString "OutOfRange") 224, val := Value.ref 37 },
          { hash := PyData.keyHash P (Str.ofString "normal"), key := Value.str (Str.ofString "normal") 232, val := Value.ref 46 },
          { hash := PyData.keyHash P (Str.ofString "is_even"), key := Value.str (Str.ofString "is_even") 239, val := Value.ref 53 },
          { hash := PyData.keyHash P (Str.ofString "compare"), key := Value.str (Str.ofString "compare") 248, val := Value.ref 60 },
          { hash := PyData.keyHash P (Str.ofString "add"), key := Value.str (Str.ofString "add") 261, val := Value.ref 67 },
          { hash := PyData.keyHash P (Str.ofString "sub"), key := Value.str (Str.ofString "sub") 275, val := Value.ref 74 },
          { hash := PyData.keyHash P (Str.ofString "lifted"), key := Value.str (Str.ofString "lifted") 283, val := Value.ref 81 },
          { hash := PyData.keyHash P (Str.ofString "add_at"), key := Value.str (Str.ofString "add_at") 293, val := Value.ref 88 },
          { hash := PyData.keyHash P (Str.ofString "shift_right"), key := Value.str (Str.ofString "shift_right") 308, val := Value.ref 95 }]
        19 }
noncomputable def o12v3 (P : Params) : Obj :=
  { cls := Value.none,
    data :=
      Data.fields
        #[Value.int 2 0, Value.int 0 0, Value.ref 20, Value.int 4 0, Value.int 0 0, Value.ref 33, Value.int 6 0, Value.int 0 0, Value.ref 45, Value.int 11 0, Value.int 0 0, Value.ref 52, Value.int 13 0,
          Value.int 0 0, Value.ref 59, Value.int 20 0, Value.int 0 0, Value.ref 66, Value.int 35 0, Value.int 0 0, Value.ref 73, Value.int 44 0, Value.int 0 0, Value.ref 80, Value.int 46 0,
          Value.int 0 0, Value.ref 87, Value.int 52 0, Value.int 0 0, Value.ref 94] }
noncomputable def o40v0 (P : Params) : Obj :=
  { cls := Value.type "tuple", data := Data.seq #[] }
noncomputable def o41v0 (P : Params) : Obj :=
  { cls := Value.none, data := Data.fields #[] }
noncomputable def o42v0 (P : Params) : Obj :=
  { cls := Value.type "tuple", data := Data.seq #[Value.str (Str.ofString "a") 228, Value.str (Str.ofString "end") 229] }
noncomputable def o43v0 (P : Params) : Obj :=
  { cls := Value.type "tuple", data := Data.seq #[] }
noncomputable def o44v0 (P : Params) : Obj :=
  { cls := Value.none,
    data :=
      Data.func
        { name := Str.ofString "normal", qualname := Str.ofString "normal", params := rcP 0, body := FuncBody.stmts (rcB 0), scope := rcS 0, globals := 0, closure := [], defaults := Value.none,
          kwdefaults := Value.none } }
noncomputable def o45v0 (P : Params) : Obj :=
  { cls := Value.type "code",
    data :=
      Data.fields
        #[Value.str (Str.ofString "normal") 225, Value.str (Str.ofString "normal") 226, Value.str (Str.ofString "/claim/cut.py") 227, Value.int 6 0, Value.int 1 0, Value.int 0 0, Value.int 0 0,
          Value.int 3 0, Value.ref 40, Value.bool true, Value.int 181 0, Value.ref 41, Value.none, Value.ref 42, Value.ref 43, Value.ref 44, Value.int 230 0, Value.int 6 0,
          Value.str (Str.ofString "/claim/cut.py") 231] }
noncomputable def o46v0 (P : Params) : Obj :=
  { cls := Value.type "function",
    data :=
      Data.func
        { name := Str.ofString "normal", qualname := Str.ofString "normal", params := rcP 0, body := FuncBody.stmts (rcB 0), scope := rcS 0, globals := 3, closure := [], defaults := Value.none,
          kwdefaults := Value.none, pyModule := Value.str (Str.ofString "gmp.limbs") 187, code := Value.ref 45 } }
noncomputable def o47v0 (P : Params) : Obj :=
  { cls := Value.type "tuple", data := Data.seq #[] }
noncomputable def o48v0 (P : Params) : Obj :=
  { cls := Value.none, data := Data.fields #[] }
noncomputable def o49v0 (P : Params) : Obj :=
  { cls := Value.type "tuple", data := Data.seq #[Value.str (Str.ofString "a") 236] }
noncomputable def o50v0 (P : Params) : Obj :=
  { cls := Value.type "tuple", data := Data.seq #[] }
noncomputable def o51v0 (P : Params) : Obj :=
  { cls := Value.none,
    data :=
      Data.func
        { name := Str.ofString "is_even", qualname := Str.ofString "is_even", params := rcP 1, body := FuncBody.stmts (rcB 1), scope := rcS 1, globals := 0, closure := [], defaults := Value.none,
          kwdefaults := Value.none } }
noncomputable def o52v0 (P : Params) : Obj :=
  { cls := Value.type "code",
    data :=
      Data.fields
        #[Value.str (Str.ofString "is_even") 233, Value.str (Str.ofString "is_even") 234, Value.str (Str.ofString "/claim/cut.py") 235, Value.int 11 0, Value.int 1 0, Value.int 0 0, Value.int 0 0,
          Value.int 3 0, Value.ref 47, Value.bool true, Value.int 181 0, Value.ref 48, Value.none, Value.ref 49, Value.ref 50, Value.ref 51, Value.int 237 0, Value.int 11 0,
          Value.str (Str.ofString "/claim/cut.py") 238] }
noncomputable def o53v0 (P : Params) : Obj :=
  { cls := Value.type "function",
    data :=
      Data.func
        { name := Str.ofString "is_even", qualname := Str.ofString "is_even", params := rcP 1, body := FuncBody.stmts (rcB 1), scope := rcS 1, globals := 3, closure := [], defaults := Value.none,
          kwdefaults := Value.none, pyModule := Value.str (Str.ofString "gmp.limbs") 187, code := Value.ref 52 } }
noncomputable def o54v0 (P : Params) : Obj :=
  { cls := Value.type "tuple", data := Data.seq #[] }
noncomputable def o55v0 (P : Params) : Obj :=
  { cls := Value.none, data := Data.fields #[] }
noncomputable def o56v0 (P : Params) : Obj :=
  { cls := Value.type "tuple", data := Data.seq #[Value.str (Str.ofString "a") 243, Value.str (Str.ofString "b") 244, Value.str (Str.ofString "at") 245] }
noncomputable def o57v0 (P : Params) : Obj :=
  { cls := Value.type "tuple", data := Data.seq #[] }
noncomputable def o58v0 (P : Params) : Obj :=
  { cls := Value.none,
    data :=
      Data.func
        { name := Str.ofString "compare", qualname := Str.ofString "compare", params := rcP 2, body := FuncBody.stmts (rcB 2), scope := rcS 2, globals := 0, closure := [], defaults := Value.none,
          kwdefaults := Value.none } }
noncomputable def o59v0 (P : Params) : Obj :=
  { cls := Value.type "code",
    data :=
      Data.fields
        #[Value.str (Str.ofString "compare") 240, Value.str (Str.ofString "compare") 241, Value.str (Str.ofString "/claim/cut.py") 242, Value.int 13 0, Value.int 2 0, Value.int 0 0, Value.int 0 0,
          Value.int 3 0, Value.ref 54, Value.bool true, Value.int 181 0, Value.ref 55, Value.none, Value.ref 56, Value.ref 57, Value.ref 58, Value.int 246 0, Value.int 13 0,
          Value.str (Str.ofString "/claim/cut.py") 247] }
noncomputable def o60v0 (P : Params) : Obj :=
  { cls := Value.type "function",
    data :=
      Data.func
        { name := Str.ofString "compare", qualname := Str.ofString "compare", params := rcP 2, body := FuncBody.stmts (rcB 2), scope := rcS 2, globals := 3, closure := [], defaults := Value.none,
          kwdefaults := Value.none, pyModule := Value.str (Str.ofString "gmp.limbs") 187, code := Value.ref 59 } }
noncomputable def o61v0 (P : Params) : Obj :=
  { cls := Value.type "tuple", data := Data.seq #[] }
noncomputable def o62v0 (P : Params) : Obj :=
  { cls := Value.none, data := Data.fields #[] }
noncomputable def o63v0 (P : Params) : Obj :=
  { cls := Value.type "tuple",
    data :=
      Data.seq
        #[Value.str (Str.ofString "a") 252, Value.str (Str.ofString "b") 253, Value.str (Str.ofString "w") 254, Value.str (Str.ofString "found") 255, Value.str (Str.ofString "carry") 256,
          Value.str (Str.ofString "mask") 257, Value.str (Str.ofString "at") 258] }
noncomputable def o64v0 (P : Params) : Obj :=
  { cls := Value.type "tuple", data := Data.seq #[] }
noncomputable def o65v0 (P : Params) : Obj :=
  { cls := Value.none,
    data :=
      Data.func
        { name := Str.ofString "add", qualname := Str.ofString "add", params := rcP 3, body := FuncBody.stmts (rcB 3), scope := rcS 3, globals := 0, closure := [], defaults := Value.none,
          kwdefaults := Value.none } }
noncomputable def o66v0 (P : Params) : Obj :=
  { cls := Value.type "code",
    data :=
      Data.fields
        #[Value.str (Str.ofString "add") 249, Value.str (Str.ofString "add") 250, Value.str (Str.ofString "/claim/cut.py") 251, Value.int 20 0, Value.int 3 0, Value.int 0 0, Value.int 0 0,
          Value.int 3 0, Value.ref 61, Value.bool true, Value.int 181 0, Value.ref 62, Value.none, Value.ref 63, Value.ref 64, Value.ref 65, Value.int 259 0, Value.int 20 0,
          Value.str (Str.ofString "/claim/cut.py") 260] }
noncomputable def o67v0 (P : Params) : Obj :=
  { cls := Value.type "function",
    data :=
      Data.func
        { name := Str.ofString "add", qualname := Str.ofString "add", params := rcP 3, body := FuncBody.stmts (rcB 3), scope := rcS 3, globals := 3, closure := [], defaults := Value.none,
          kwdefaults := Value.none, pyModule := Value.str (Str.ofString "gmp.limbs") 187, code := Value.ref 66 } }
noncomputable def o68v0 (P : Params) : Obj :=
  { cls := Value.type "tuple", data := Data.seq #[] }
noncomputable def o69v0 (P : Params) : Obj :=
  { cls := Value.none, data := Data.fields #[] }
noncomputable def o70v0 (P : Params) : Obj :=
  { cls := Value.type "tuple",
    data :=
      Data.seq
        #[Value.str (Str.ofString "a") 265, Value.str (Str.ofString "b") 266, Value.str (Str.ofString "w") 267, Value.str (Str.ofString "found") 268, Value.str (Str.ofString "borrow") 269,
          Value.str (Str.ofString "base") 270, Value.str (Str.ofString "at") 271, Value.str (Str.ofString "limb") 272] }
noncomputable def o71v0 (P : Params) : Obj :=
  { cls := Value.type "tuple", data := Data.seq #[] }
noncomputable def o72v0 (P : Params) : Obj :=
  { cls := Value.none,
    data :=
      Data.func
        { name := Str.ofString "sub", qualname := Str.ofString "sub", params := rcP 4, body := FuncBody.stmts (rcB 4), scope := rcS 4, globals := 0, closure := [], defaults := Value.none,
          kwdefaults := Value.none } }
noncomputable def o73v0 (P : Params) : Obj :=
  { cls := Value.type "code",
    data :=
      Data.fields
        #[Value.str (Str.ofString "sub") 262, Value.str (Str.ofString "sub") 263, Value.str (Str.ofString "/claim/cut.py") 264, Value.int 35 0, Value.int 3 0, Value.int 0 0, Value.int 0 0,
          Value.int 3 0, Value.ref 68, Value.bool true, Value.int 181 0, Value.ref 69, Value.none, Value.ref 70, Value.ref 71, Value.ref 72, Value.int 273 0, Value.int 35 0,
          Value.str (Str.ofString "/claim/cut.py") 274] }
noncomputable def o74v0 (P : Params) : Obj :=
  { cls := Value.type "function",
    data :=
      Data.func
        { name := Str.ofString "sub", qualname := Str.ofString "sub", params := rcP 4, body := FuncBody.stmts (rcB 4), scope := rcS 4, globals := 3, closure := [], defaults := Value.none,
          kwdefaults := Value.none, pyModule := Value.str (Str.ofString "gmp.limbs") 187, code := Value.ref 73 } }
noncomputable def o75v0 (P : Params) : Obj :=
  { cls := Value.type "tuple", data := Data.seq #[] }
noncomputable def o76v0 (P : Params) : Obj :=
  { cls := Value.none, data := Data.fields #[] }
noncomputable def o77v0 (P : Params) : Obj :=
  { cls := Value.type "tuple", data := Data.seq #[Value.str (Str.ofString "a") 279, Value.str (Str.ofString "spot") 280] }
noncomputable def o78v0 (P : Params) : Obj :=
  { cls := Value.type "tuple", data := Data.seq #[] }
noncomputable def o79v0 (P : Params) : Obj :=
  { cls := Value.none,
    data :=
      Data.func
        { name := Str.ofString "lifted", qualname := Str.ofString "lifted", params := rcP 5, body := FuncBody.stmts (rcB 5), scope := rcS 5, globals := 0, closure := [], defaults := Value.none,
          kwdefaults := Value.none } }
noncomputable def o80v0 (P : Params) : Obj :=
  { cls := Value.type "code",
    data :=
      Data.fields
        #[Value.str (Str.ofString "lifted") 276, Value.str (Str.ofString "lifted") 277, Value.str (Str.ofString "/claim/cut.py") 278, Value.int 44 0, Value.int 2 0, Value.int 0 0, Value.int 0 0,
          Value.int 3 0, Value.ref 75, Value.bool true, Value.int 181 0, Value.ref 76, Value.none, Value.ref 77, Value.ref 78, Value.ref 79, Value.int 281 0, Value.int 44 0,
          Value.str (Str.ofString "/claim/cut.py") 282] }
noncomputable def o81v0 (P : Params) : Obj :=
  { cls := Value.type "function",
    data :=
      Data.func
        { name := Str.ofString "lifted", qualname := Str.ofString "lifted", params := rcP 5, body := FuncBody.stmts (rcB 5), scope := rcS 5, globals := 3, closure := [], defaults := Value.none,
          kwdefaults := Value.none, pyModule := Value.str (Str.ofString "gmp.limbs") 187, code := Value.ref 80 } }
noncomputable def o82v0 (P : Params) : Obj :=
  { cls := Value.type "tuple", data := Data.seq #[] }
noncomputable def o83v0 (P : Params) : Obj :=
  { cls := Value.none, data := Data.fields #[] }
noncomputable def o84v0 (P : Params) : Obj :=
  { cls := Value.type "tuple", data := Data.seq #[Value.str (Str.ofString "a") 287, Value.str (Str.ofString "b") 288, Value.str (Str.ofString "spot") 289, Value.str (Str.ofString "w") 290] }
noncomputable def o85v0 (P : Params) : Obj :=
  { cls := Value.type "tuple", data := Data.seq #[] }
noncomputable def o86v0 (P : Params) : Obj :=
  { cls := Value.none,
    data :=
      Data.func
        { name := Str.ofString "add_at", qualname := Str.ofString "add_at", params := rcP 6, body := FuncBody.stmts (rcB 6), scope := rcS 6, globals := 0, closure := [], defaults := Value.none,
          kwdefaults := Value.none } }
noncomputable def o87v0 (P : Params) : Obj :=
  { cls := Value.type "code",
    data :=
      Data.fields
        #[Value.str (Str.ofString "add_at") 284, Value.str (Str.ofString "add_at") 285, Value.str (Str.ofString "/claim/cut.py") 286, Value.int 46 0, Value.int 4 0, Value.int 0 0, Value.int 0 0,
          Value.int 3 0, Value.ref 82, Value.bool true, Value.int 181 0, Value.ref 83, Value.none, Value.ref 84, Value.ref 85, Value.ref 86, Value.int 291 0, Value.int 46 0,
          Value.str (Str.ofString "/claim/cut.py") 292] }
noncomputable def o88v0 (P : Params) : Obj :=
  { cls := Value.type "function",
    data :=
      Data.func
        { name := Str.ofString "add_at", qualname := Str.ofString "add_at", params := rcP 6, body := FuncBody.stmts (rcB 6), scope := rcS 6, globals := 3, closure := [], defaults := Value.none,
          kwdefaults := Value.none, pyModule := Value.str (Str.ofString "gmp.limbs") 187, code := Value.ref 87 } }
noncomputable def o89v0 (P : Params) : Obj :=
  { cls := Value.type "tuple", data := Data.seq #[] }
noncomputable def o90v0 (P : Params) : Obj :=
  { cls := Value.none, data := Data.fields #[] }
noncomputable def o91v0 (P : Params) : Obj :=
  { cls := Value.type "tuple",
    data :=
      Data.seq
        #[Value.str (Str.ofString "a") 297, Value.str (Str.ofString "n") 298, Value.str (Str.ofString "w") 299, Value.str (Str.ofString "spots") 300, Value.str (Str.ofString "few") 301,
          Value.str (Str.ofString "found") 302, Value.str (Str.ofString "mask") 303, Value.str (Str.ofString "at") 304, Value.str (Str.ofString "above") 305] }
noncomputable def o92v0 (P : Params) : Obj :=
  { cls := Value.type "tuple", data := Data.seq #[] }
noncomputable def o93v0 (P : Params) : Obj :=
  { cls := Value.none,
    data :=
      Data.func
        { name := Str.ofString "shift_right", qualname := Str.ofString "shift_right", params := rcP 7, body := FuncBody.stmts (rcB 7), scope := rcS 7, globals := 0, closure := [],
          defaults := Value.none, kwdefaults := Value.none } }
noncomputable def o94v0 (P : Params) : Obj :=
  { cls := Value.type "code",
    data :=
      Data.fields
        #[Value.str (Str.ofString "shift_right") 294, Value.str (Str.ofString "shift_right") 295, Value.str (Str.ofString "/claim/cut.py") 296, Value.int 52 0, Value.int 3 0, Value.int 0 0,
          Value.int 0 0, Value.int 3 0, Value.ref 89, Value.bool true, Value.int 181 0, Value.ref 90, Value.none, Value.ref 91, Value.ref 92, Value.ref 93, Value.int 306 0, Value.int 52 0,
          Value.str (Str.ofString "/claim/cut.py") 307] }
noncomputable def o95v0 (P : Params) : Obj :=
  { cls := Value.type "function",
    data :=
      Data.func
        { name := Str.ofString "shift_right", qualname := Str.ofString "shift_right", params := rcP 7, body := FuncBody.stmts (rcB 7), scope := rcS 7, globals := 3, closure := [],
          defaults := Value.none, kwdefaults := Value.none, pyModule := Value.str (Str.ofString "gmp.limbs") 187, code := Value.ref 94 } }
noncomputable def hp3 (P : Params) : Heap := ⟨⟨[boot_o_0 P, boot_o_1 P, o2v1 P, o3v3 P, boot_o_4 P, boot_o_5 P, boot_o_6 P, boot_o_7 P, boot_o_8 P, boot_o_9 P, boot_o_10 P, o11v0 P, o12v3 P, o13v0 P, o14v0 P, o15v0 P, o16v0 P, o17v0 P, o18v0 P, o19v0 P, o20v0 P, o21v0 P, o22v0 P, o23v0 P, o24v1 P, o25v0 P, o26v0 P, o27v0 P, o28v0 P, o29v0 P, o30v0 P, o31v0 P, o32v0 P, o33v0 P, o34v0 P, o35v0 P, o36v0 P, o37v0 P, o38v0 P, o39v0 P, o40v0 P, o41v0 P, o42v0 P, o43v0 P, o44v0 P, o45v0 P, o46v0 P, o47v0 P, o48v0 P, o49v0 P, o50v0 P, o51v0 P, o52v0 P, o53v0 P, o54v0 P, o55v0 P, o56v0 P, o57v0 P, o58v0 P, o59v0 P, o60v0 P, o61v0 P, o62v0 P, o63v0 P, o64v0 P, o65v0 P, o66v0 P, o67v0 P, o68v0 P, o69v0 P, o70v0 P, o71v0 P, o72v0 P, o73v0 P, o74v0 P, o75v0 P, o76v0 P, o77v0 P, o78v0 P, o79v0 P, o80v0 P, o81v0 P, o82v0 P, o83v0 P, o84v0 P, o85v0 P, o86v0 P, o87v0 P, o88v0 P, o89v0 P, o90v0 P, o91v0 P, o92v0 P, o93v0 P, o94v0 P, o95v0 P]⟩, { }⟩
noncomputable def o3v4 (P : Params) : Obj :=
  { cls := Value.type "dict",
    data :=
      Data.dict
        #[{ hash := PyData.keyHash P (Str.ofString "__name__"), key := Value.str (Str.ofString "__name__") 165, val := Value.str (Str.ofString "gmp.lowproducts") 309 },
          { hash := PyData.keyHash P (Str.ofString "__doc__"), key := Value.str (Str.ofString "__doc__") 166, val := Value.none },
          { hash := PyData.keyHash P (Str.ofString "__package__"), key := Value.str (Str.ofString "__package__") 167, val := Value.none },
          { hash := PyData.keyHash P (Str.ofString "__loader__"), key := Value.str (Str.ofString "__loader__") 168, val := Value.builtin "__main__.__loader__#opaque" },
          { hash := PyData.keyHash P (Str.ofString "__spec__"), key := Value.str (Str.ofString "__spec__") 169, val := Value.none },
          { hash := PyData.keyHash P (Str.ofString "__annotations__"), key := Value.str (Str.ofString "__annotations__") 170, val := Value.ref 6 },
          { hash := PyData.keyHash P (Str.ofString "__builtins__"), key := Value.str (Str.ofString "__builtins__") 171, val := Value.ref 4 },
          { hash := PyData.keyHash P (Str.ofString "__file__"), key := Value.str (Str.ofString "__file__") 173, val := Value.str (Str.ofString "/claim/cut.py") 172 },
          { hash := PyData.keyHash P (Str.ofString "__cached__"), key := Value.str (Str.ofString "__cached__") 174, val := Value.none },
          { hash := PyData.keyHash P (Str.ofString "GmpError"), key := Value.str (Str.ofString "GmpError") 208, val := Value.ref 24 },
          { hash := PyData.keyHash P (Str.ofString "OutOfRange"), key := Value.str (Str.ofString "OutOfRange") 224, val := Value.ref 37 },
          { hash := PyData.keyHash P (Str.ofString "normal"), key := Value.str (Str.ofString "normal") 232, val := Value.ref 46 },
          { hash := PyData.keyHash P (Str.ofString "is_even"), key := Value.str (Str.ofString "is_even") 239, val := Value.ref 53 },
          { hash := PyData.keyHash P (Str.ofString "compare"), key := Value.str (Str.ofString "compare") 248, val := Value.ref 60 },
          { hash := PyData.keyHash P (Str.ofString "add"), key := Value.str (Str.ofString "add") 261, val := Value.ref 67 },
          { hash := PyData.keyHash P (Str.ofString "sub"), key := Value.str (Str.ofString "sub") 275, val := Value.ref 74 },
          { hash := PyData.keyHash P (Str.ofString "lifted"), key := Value.str (Str.ofString "lifted") 283, val := Value.ref 81 },
          { hash := PyData.keyHash P (Str.ofString "add_at"), key := Value.str (Str.ofString "add_at") 293, val := Value.ref 88 },
          { hash := PyData.keyHash P (Str.ofString "shift_right"), key := Value.str (Str.ofString "shift_right") 308, val := Value.ref 95 },
          { hash := PyData.keyHash P (Str.ofString "low_school"), key := Value.str (Str.ofString "low_school") 326, val := Value.ref 102 },
          { hash := PyData.keyHash P (Str.ofString "cut_for"), key := Value.str (Str.ofString "cut_for") 333, val := Value.ref 109 },
          { hash := PyData.keyHash P (Str.ofString "low_product"), key := Value.str (Str.ofString "low_product") 348, val := Value.ref 116 },
          { hash := PyData.keyHash P (Str.ofString "high_school"), key := Value.str (Str.ofString "high_school") 362, val := Value.ref 123 },
          { hash := PyData.keyHash P (Str.ofString "times_limb"), key := Value.str (Str.ofString "times_limb") 375, val := Value.ref 130 },
          { hash := PyData.keyHash P (Str.ofString "high_sum"), key := Value.str (Str.ofString "high_sum") 390, val := Value.ref 137 },
          { hash := PyData.keyHash P (Str.ofString "high_product"), key := Value.str (Str.ofString "high_product") 402, val := Value.ref 144 }]
        26 }
noncomputable def o12v4 (P : Params) : Obj :=
  { cls := Value.none,
    data :=
      Data.fields
        #[Value.int 2 0, Value.int 0 0, Value.ref 20, Value.int 4 0, Value.int 0 0, Value.ref 33, Value.int 6 0, Value.int 0 0, Value.ref 45, Value.int 11 0, Value.int 0 0, Value.ref 52, Value.int 13 0,
          Value.int 0 0, Value.ref 59, Value.int 20 0, Value.int 0 0, Value.ref 66, Value.int 35 0, Value.int 0 0, Value.ref 73, Value.int 44 0, Value.int 0 0, Value.ref 80, Value.int 46 0,
          Value.int 0 0, Value.ref 87, Value.int 52 0, Value.int 0 0, Value.ref 94, Value.int 60 0, Value.int 0 0, Value.ref 101, Value.int 71 0, Value.int 0 0, Value.ref 108, Value.int 73 0,
          Value.int 0 0, Value.ref 115, Value.int 82 0, Value.int 0 0, Value.ref 122, Value.int 89 0, Value.int 0 0, Value.ref 129, Value.int 96 0, Value.int 0 0, Value.ref 136, Value.int 104 0,
          Value.int 0 0, Value.ref 143] }
noncomputable def o96v0 (P : Params) : Obj :=
  { cls := Value.type "tuple", data := Data.seq #[] }
noncomputable def o97v0 (P : Params) : Obj :=
  { cls := Value.none, data := Data.fields #[] }
noncomputable def o98v0 (P : Params) : Obj :=
  { cls := Value.type "tuple",
    data :=
      Data.seq
        #[Value.str (Str.ofString "a") 314, Value.str (Str.ofString "b") 315, Value.str (Str.ofString "n") 316, Value.str (Str.ofString "w") 317, Value.str (Str.ofString "found") 318,
          Value.str (Str.ofString "mask") 319, Value.str (Str.ofString "at") 320, Value.str (Str.ofString "carry") 321, Value.str (Str.ofString "end") 322, Value.str (Str.ofString "spot") 323] }
noncomputable def o99v0 (P : Params) : Obj :=
  { cls := Value.type "tuple", data := Data.seq #[] }
noncomputable def o100v0 (P : Params) : Obj :=
  { cls := Value.none,
    data :=
      Data.func
        { name := Str.ofString "low_school", qualname := Str.ofString "low_school", params := rcP 8, body := FuncBody.stmts (rcB 8), scope := rcS 8, globals := 0, closure := [], defaults := Value.none,
          kwdefaults := Value.none } }
noncomputable def o101v0 (P : Params) : Obj :=
  { cls := Value.type "code",
    data :=
      Data.fields
        #[Value.str (Str.ofString "low_school") 311, Value.str (Str.ofString "low_school") 312, Value.str (Str.ofString "/claim/cut.py") 313, Value.int 60 0, Value.int 4 0, Value.int 0 0, Value.int 0 0,
          Value.int 3 0, Value.ref 96, Value.bool true, Value.int 181 0, Value.ref 97, Value.none, Value.ref 98, Value.ref 99, Value.ref 100, Value.int 324 0, Value.int 60 0,
          Value.str (Str.ofString "/claim/cut.py") 325] }
noncomputable def o102v0 (P : Params) : Obj :=
  { cls := Value.type "function",
    data :=
      Data.func
        { name := Str.ofString "low_school", qualname := Str.ofString "low_school", params := rcP 8, body := FuncBody.stmts (rcB 8), scope := rcS 8, globals := 3, closure := [], defaults := Value.none,
          kwdefaults := Value.none, pyModule := Value.str (Str.ofString "gmp.lowproducts") 309, code := Value.ref 101 } }
noncomputable def o103v0 (P : Params) : Obj :=
  { cls := Value.type "tuple", data := Data.seq #[] }
noncomputable def o104v0 (P : Params) : Obj :=
  { cls := Value.none, data := Data.fields #[] }
noncomputable def o105v0 (P : Params) : Obj :=
  { cls := Value.type "tuple", data := Data.seq #[Value.str (Str.ofString "n") 330] }
noncomputable def o106v0 (P : Params) : Obj :=
  { cls := Value.type "tuple", data := Data.seq #[] }
noncomputable def o107v0 (P : Params) : Obj :=
  { cls := Value.none,
    data :=
      Data.func
        { name := Str.ofString "cut_for", qualname := Str.ofString "cut_for", params := rcP 9, body := FuncBody.stmts (rcB 9), scope := rcS 9, globals := 0, closure := [], defaults := Value.none,
          kwdefaults := Value.none } }
noncomputable def o108v0 (P : Params) : Obj :=
  { cls := Value.type "code",
    data :=
      Data.fields
        #[Value.str (Str.ofString "cut_for") 327, Value.str (Str.ofString "cut_for") 328, Value.str (Str.ofString "/claim/cut.py") 329, Value.int 71 0, Value.int 1 0, Value.int 0 0, Value.int 0 0,
          Value.int 3 0, Value.ref 103, Value.bool true, Value.int 181 0, Value.ref 104, Value.none, Value.ref 105, Value.ref 106, Value.ref 107, Value.int 331 0, Value.int 71 0,
          Value.str (Str.ofString "/claim/cut.py") 332] }
noncomputable def o109v0 (P : Params) : Obj :=
  { cls := Value.type "function",
    data :=
      Data.func
        { name := Str.ofString "cut_for", qualname := Str.ofString "cut_for", params := rcP 9, body := FuncBody.stmts (rcB 9), scope := rcS 9, globals := 3, closure := [], defaults := Value.none,
          kwdefaults := Value.none, pyModule := Value.str (Str.ofString "gmp.lowproducts") 309, code := Value.ref 108 } }
noncomputable def o110v0 (P : Params) : Obj :=
  { cls := Value.type "tuple", data := Data.seq #[] }
noncomputable def o111v0 (P : Params) : Obj :=
  { cls := Value.none, data := Data.fields #[] }
noncomputable def o112v0 (P : Params) : Obj :=
  { cls := Value.type "tuple",
    data :=
      Data.seq
        #[Value.str (Str.ofString "a") 337, Value.str (Str.ofString "b") 338, Value.str (Str.ofString "n") 339, Value.str (Str.ofString "w") 340, Value.str (Str.ofString "least") 341,
          Value.str (Str.ofString "mul") 342, Value.str (Str.ofString "size") 343, Value.str (Str.ofString "found") 344, Value.str (Str.ofString "across") 345] }
noncomputable def o113v0 (P : Params) : Obj :=
  { cls := Value.type "tuple", data := Data.seq #[] }
noncomputable def o114v0 (P : Params) : Obj :=
  { cls := Value.none,
    data :=
      Data.func
        { name := Str.ofString "low_product", qualname := Str.ofString "low_product", params := rcP 10, body := FuncBody.stmts (rcB 10), scope := rcS 10, globals := 0, closure := [],
          defaults := Value.none, kwdefaults := Value.none } }
noncomputable def o115v0 (P : Params) : Obj :=
  { cls := Value.type "code",
    data :=
      Data.fields
        #[Value.str (Str.ofString "low_product") 334, Value.str (Str.ofString "low_product") 335, Value.str (Str.ofString "/claim/cut.py") 336, Value.int 73 0, Value.int 6 0, Value.int 0 0,
          Value.int 0 0, Value.int 3 0, Value.ref 110, Value.bool true, Value.int 181 0, Value.ref 111, Value.none, Value.ref 112, Value.ref 113, Value.ref 114, Value.int 346 0, Value.int 73 0,
          Value.str (Str.ofString "/claim/cut.py") 347] }
noncomputable def o116v0 (P : Params) : Obj :=
  { cls := Value.type "function",
    data :=
      Data.func
        { name := Str.ofString "low_product", qualname := Str.ofString "low_product", params := rcP 10, body := FuncBody.stmts (rcB 10), scope := rcS 10, globals := 3, closure := [],
          defaults := Value.none, kwdefaults := Value.none, pyModule := Value.str (Str.ofString "gmp.lowproducts") 309, code := Value.ref 115 } }
noncomputable def o117v0 (P : Params) : Obj :=
  { cls := Value.type "tuple", data := Data.seq #[] }
noncomputable def o118v0 (P : Params) : Obj :=
  { cls := Value.none, data := Data.fields #[] }
noncomputable def o119v0 (P : Params) : Obj :=
  { cls := Value.type "tuple",
    data :=
      Data.seq
        #[Value.str (Str.ofString "a") 352, Value.str (Str.ofString "b") 353, Value.str (Str.ofString "n") 354, Value.str (Str.ofString "w") 355, Value.str (Str.ofString "found") 356,
          Value.str (Str.ofString "at") 357, Value.str (Str.ofString "begin") 358, Value.str (Str.ofString "row") 359] }
noncomputable def o120v0 (P : Params) : Obj :=
  { cls := Value.type "tuple", data := Data.seq #[] }
noncomputable def o121v0 (P : Params) : Obj :=
  { cls := Value.none,
    data :=
      Data.func
        { name := Str.ofString "high_school", qualname := Str.ofString "high_school", params := rcP 11, body := FuncBody.stmts (rcB 11), scope := rcS 11, globals := 0, closure := [],
          defaults := Value.none, kwdefaults := Value.none } }
noncomputable def o122v0 (P : Params) : Obj :=
  { cls := Value.type "code",
    data :=
      Data.fields
        #[Value.str (Str.ofString "high_school") 349, Value.str (Str.ofString "high_school") 350, Value.str (Str.ofString "/claim/cut.py") 351, Value.int 82 0, Value.int 4 0, Value.int 0 0,
          Value.int 0 0, Value.int 3 0, Value.ref 117, Value.bool true, Value.int 181 0, Value.ref 118, Value.none, Value.ref 119, Value.ref 120, Value.ref 121, Value.int 360 0, Value.int 82 0,
          Value.str (Str.ofString "/claim/cut.py") 361] }
noncomputable def o123v0 (P : Params) : Obj :=
  { cls := Value.type "function",
    data :=
      Data.func
        { name := Str.ofString "high_school", qualname := Str.ofString "high_school", params := rcP 11, body := FuncBody.stmts (rcB 11), scope := rcS 11, globals := 3, closure := [],
          defaults := Value.none, kwdefaults := Value.none, pyModule := Value.str (Str.ofString "gmp.lowproducts") 309, code := Value.ref 122 } }
noncomputable def o124v0 (P : Params) : Obj :=
  { cls := Value.type "tuple", data := Data.seq #[] }
noncomputable def o125v0 (P : Params) : Obj :=
  { cls := Value.none, data := Data.fields #[] }
noncomputable def o126v0 (P : Params) : Obj :=
  { cls := Value.type "tuple",
    data :=
      Data.seq
        #[Value.str (Str.ofString "a") 366, Value.str (Str.ofString "limb") 367, Value.str (Str.ofString "w") 368, Value.str (Str.ofString "found") 369, Value.str (Str.ofString "carry") 370,
          Value.str (Str.ofString "mask") 371, Value.str (Str.ofString "one") 372] }
noncomputable def o127v0 (P : Params) : Obj :=
  { cls := Value.type "tuple", data := Data.seq #[] }
noncomputable def o128v0 (P : Params) : Obj :=
  { cls := Value.none,
    data :=
      Data.func
        { name := Str.ofString "times_limb", qualname := Str.ofString "times_limb", params := rcP 12, body := FuncBody.stmts (rcB 12), scope := rcS 12, globals := 0, closure := [],
          defaults := Value.none, kwdefaults := Value.none } }
noncomputable def o129v0 (P : Params) : Obj :=
  { cls := Value.type "code",
    data :=
      Data.fields
        #[Value.str (Str.ofString "times_limb") 363, Value.str (Str.ofString "times_limb") 364, Value.str (Str.ofString "/claim/cut.py") 365, Value.int 89 0, Value.int 3 0, Value.int 0 0, Value.int 0 0,
          Value.int 3 0, Value.ref 124, Value.bool true, Value.int 181 0, Value.ref 125, Value.none, Value.ref 126, Value.ref 127, Value.ref 128, Value.int 373 0, Value.int 89 0,
          Value.str (Str.ofString "/claim/cut.py") 374] }
noncomputable def o130v0 (P : Params) : Obj :=
  { cls := Value.type "function",
    data :=
      Data.func
        { name := Str.ofString "times_limb", qualname := Str.ofString "times_limb", params := rcP 12, body := FuncBody.stmts (rcB 12), scope := rcS 12, globals := 3, closure := [],
          defaults := Value.none, kwdefaults := Value.none, pyModule := Value.str (Str.ofString "gmp.lowproducts") 309, code := Value.ref 129 } }
noncomputable def o131v0 (P : Params) : Obj :=
  { cls := Value.type "tuple", data := Data.seq #[] }
noncomputable def o132v0 (P : Params) : Obj :=
  { cls := Value.none, data := Data.fields #[] }
noncomputable def o133v0 (P : Params) : Obj :=
  { cls := Value.type "tuple",
    data :=
      Data.seq
        #[Value.str (Str.ofString "a") 379, Value.str (Str.ofString "b") 380, Value.str (Str.ofString "n") 381, Value.str (Str.ofString "w") 382, Value.str (Str.ofString "least") 383,
          Value.str (Str.ofString "mul") 384, Value.str (Str.ofString "size") 385, Value.str (Str.ofString "rest") 386, Value.str (Str.ofString "found") 387] }
noncomputable def o134v0 (P : Params) : Obj :=
  { cls := Value.type "tuple", data := Data.seq #[] }
noncomputable def o135v0 (P : Params) : Obj :=
  { cls := Value.none,
    data :=
      Data.func
        { name := Str.ofString "high_sum", qualname := Str.ofString "high_sum", params := rcP 13, body := FuncBody.stmts (rcB 13), scope := rcS 13, globals := 0, closure := [], defaults := Value.none,
          kwdefaults := Value.none } }
noncomputable def o136v0 (P : Params) : Obj :=
  { cls := Value.type "code",
    data :=
      Data.fields
        #[Value.str (Str.ofString "high_sum") 376, Value.str (Str.ofString "high_sum") 377, Value.str (Str.ofString "/claim/cut.py") 378, Value.int 96 0, Value.int 6 0, Value.int 0 0, Value.int 0 0,
          Value.int 3 0, Value.ref 131, Value.bool true, Value.int 181 0, Value.ref 132, Value.none, Value.ref 133, Value.ref 134, Value.ref 135, Value.int 388 0, Value.int 96 0,
          Value.str (Str.ofString "/claim/cut.py") 389] }
noncomputable def o137v0 (P : Params) : Obj :=
  { cls := Value.type "function",
    data :=
      Data.func
        { name := Str.ofString "high_sum", qualname := Str.ofString "high_sum", params := rcP 13, body := FuncBody.stmts (rcB 13), scope := rcS 13, globals := 3, closure := [], defaults := Value.none,
          kwdefaults := Value.none, pyModule := Value.str (Str.ofString "gmp.lowproducts") 309, code := Value.ref 136 } }
noncomputable def o138v0 (P : Params) : Obj :=
  { cls := Value.type "tuple", data := Data.seq #[] }
noncomputable def o139v0 (P : Params) : Obj :=
  { cls := Value.none, data := Data.fields #[] }
noncomputable def o140v0 (P : Params) : Obj :=
  { cls := Value.type "tuple",
    data :=
      Data.seq
        #[Value.str (Str.ofString "a") 394, Value.str (Str.ofString "b") 395, Value.str (Str.ofString "n") 396, Value.str (Str.ofString "w") 397, Value.str (Str.ofString "least") 398,
          Value.str (Str.ofString "mul") 399] }
noncomputable def o141v0 (P : Params) : Obj :=
  { cls := Value.type "tuple", data := Data.seq #[] }
noncomputable def o142v0 (P : Params) : Obj :=
  { cls := Value.none,
    data :=
      Data.func
        { name := Str.ofString "high_product", qualname := Str.ofString "high_product", params := rcP 14, body := FuncBody.stmts (rcB 14), scope := rcS 14, globals := 0, closure := [],
          defaults := Value.none, kwdefaults := Value.none } }
noncomputable def o143v0 (P : Params) : Obj :=
  { cls := Value.type "code",
    data :=
      Data.fields
        #[Value.str (Str.ofString "high_product") 391, Value.str (Str.ofString "high_product") 392, Value.str (Str.ofString "/claim/cut.py") 393, Value.int 104 0, Value.int 6 0, Value.int 0 0,
          Value.int 0 0, Value.int 3 0, Value.ref 138, Value.bool true, Value.int 181 0, Value.ref 139, Value.none, Value.ref 140, Value.ref 141, Value.ref 142, Value.int 400 0, Value.int 104 0,
          Value.str (Str.ofString "/claim/cut.py") 401] }
noncomputable def o144v0 (P : Params) : Obj :=
  { cls := Value.type "function",
    data :=
      Data.func
        { name := Str.ofString "high_product", qualname := Str.ofString "high_product", params := rcP 14, body := FuncBody.stmts (rcB 14), scope := rcS 14, globals := 3, closure := [],
          defaults := Value.none, kwdefaults := Value.none, pyModule := Value.str (Str.ofString "gmp.lowproducts") 309, code := Value.ref 143 } }
noncomputable def hp4 (P : Params) : Heap := ⟨⟨[boot_o_0 P, boot_o_1 P, o2v1 P, o3v4 P, boot_o_4 P, boot_o_5 P, boot_o_6 P, boot_o_7 P, boot_o_8 P, boot_o_9 P, boot_o_10 P, o11v0 P, o12v4 P, o13v0 P, o14v0 P, o15v0 P, o16v0 P, o17v0 P, o18v0 P, o19v0 P, o20v0 P, o21v0 P, o22v0 P, o23v0 P, o24v1 P, o25v0 P, o26v0 P, o27v0 P, o28v0 P, o29v0 P, o30v0 P, o31v0 P, o32v0 P, o33v0 P, o34v0 P, o35v0 P, o36v0 P, o37v0 P, o38v0 P, o39v0 P, o40v0 P, o41v0 P, o42v0 P, o43v0 P, o44v0 P, o45v0 P, o46v0 P, o47v0 P, o48v0 P, o49v0 P, o50v0 P, o51v0 P, o52v0 P, o53v0 P, o54v0 P, o55v0 P, o56v0 P, o57v0 P, o58v0 P, o59v0 P, o60v0 P, o61v0 P, o62v0 P, o63v0 P, o64v0 P, o65v0 P, o66v0 P, o67v0 P, o68v0 P, o69v0 P, o70v0 P, o71v0 P, o72v0 P, o73v0 P, o74v0 P, o75v0 P, o76v0 P, o77v0 P, o78v0 P, o79v0 P, o80v0 P, o81v0 P, o82v0 P, o83v0 P, o84v0 P, o85v0 P, o86v0 P, o87v0 P, o88v0 P, o89v0 P, o90v0 P, o91v0 P, o92v0 P, o93v0 P, o94v0 P, o95v0 P, o96v0 P, o97v0 P, o98v0 P, o99v0 P, o100v0 P, o101v0 P, o102v0 P, o103v0 P, o104v0 P, o105v0 P, o106v0 P, o107v0 P, o108v0 P, o109v0 P, o110v0 P, o111v0 P, o112v0 P, o113v0 P, o114v0 P, o115v0 P, o116v0 P, o117v0 P, o118v0 P, o119v0 P, o120v0 P, o121v0 P, o122v0 P, o123v0 P, o124v0 P, o125v0 P, o126v0 P, o127v0 P, o128v0 P, o129v0 P, o130v0 P, o131v0 P, o132v0 P, o133v0 P, o134v0 P, o135v0 P, o136v0 P, o137v0 P, o138v0 P, o139v0 P, o140v0 P, o141v0 P, o142v0 P, o143v0 P, o144v0 P]⟩, { }⟩
noncomputable def o3v5 (P : Params) : Obj :=
  { cls := Value.type "dict",
    data :=
      Data.dict
        #[{ hash := PyData.keyHash P (Str.ofString "__name__"), key := Value.str (Str.ofString "__name__") 165, val := Value.str (Str.ofString "gmp.lowproducts") 309 },
          { hash := PyData.keyHash P (Str.ofString "__doc__"), key := Value.str (Str.ofString "__doc__") 166, val := Value.none },
          { hash := PyData.keyHash P (Str.ofString "__package__"), key := Value.str (Str.ofString "__package__") 167, val := Value.none },
          { hash := PyData.keyHash P (Str.ofString "__loader__"), key := Value.str (Str.ofString "__loader__") 168, val := Value.builtin "__main__.__loader__#opaque" },
          { hash := PyData.keyHash P (Str.ofString "__spec__"), key := Value.str (Str.ofString "__spec__") 169, val := Value.none },
          { hash := PyData.keyHash P (Str.ofString "__annotations__"), key := Value.str (Str.ofString "__annotations__") 170, val := Value.ref 6 },
          { hash := PyData.keyHash P (Str.ofString "__builtins__"), key := Value.str (Str.ofString "__builtins__") 171, val := Value.ref 4 },
          { hash := PyData.keyHash P (Str.ofString "__file__"), key := Value.str (Str.ofString "__file__") 173, val := Value.str (Str.ofString "/claim/cut.py") 172 },
          { hash := PyData.keyHash P (Str.ofString "__cached__"), key := Value.str (Str.ofString "__cached__") 174, val := Value.none },
          { hash := PyData.keyHash P (Str.ofString "GmpError"), key := Value.str (Str.ofString "GmpError") 208, val := Value.ref 24 },
          { hash := PyData.keyHash P (Str.ofString "OutOfRange"), key := Value.str (Str.ofString "OutOfRange") 224, val := Value.ref 37 },
          { hash := PyData.keyHash P (Str.ofString "normal"), key := Value.str (Str.ofString "normal") 232, val := Value.ref 46 },
          { hash := PyData.keyHash P (Str.ofString "is_even"), key := Value.str (Str.ofString "is_even") 239, val := Value.ref 53 },
          { hash := PyData.keyHash P (Str.ofString "compare"), key := Value.str (Str.ofString "compare") 248, val := Value.ref 60 },
          { hash := PyData.keyHash P (Str.ofString "add"), key := Value.str (Str.ofString "add") 261, val := Value.ref 67 },
          { hash := PyData.keyHash P (Str.ofString "sub"), key := Value.str (Str.ofString "sub") 275, val := Value.ref 74 },
          { hash := PyData.keyHash P (Str.ofString "lifted"), key := Value.str (Str.ofString "lifted") 283, val := Value.ref 81 },
          { hash := PyData.keyHash P (Str.ofString "add_at"), key := Value.str (Str.ofString "add_at") 293, val := Value.ref 88 },
          { hash := PyData.keyHash P (Str.ofString "shift_right"), key := Value.str (Str.ofString "shift_right") 308, val := Value.ref 95 },
          { hash := PyData.keyHash P (Str.ofString "low_school"), key := Value.str (Str.ofString "low_school") 326, val := Value.ref 102 },
          { hash := PyData.keyHash P (Str.ofString "cut_for"), key := Value.str (Str.ofString "cut_for") 333, val := Value.ref 109 },
          { hash := PyData.keyHash P (Str.ofString "low_product"), key := Value.str (Str.ofString "low_product") 348, val := Value.ref 116 },
          { hash := PyData.keyHash P (Str.ofString "high_school"), key := Value.str (Str.ofString "high_school") 362, val := Value.ref 123 },
          { hash := PyData.keyHash P (Str.ofString "times_limb"), key := Value.str (Str.ofString "times_limb") 375, val := Value.ref 130 },
          { hash := PyData.keyHash P (Str.ofString "high_sum"), key := Value.str (Str.ofString "high_sum") 390, val := Value.ref 137 },
          { hash := PyData.keyHash P (Str.ofString "high_product"), key := Value.str (Str.ofString "high_product") 402, val := Value.ref 144 },
          { hash := PyData.keyHash P (Str.ofString "high_spread"), key := Value.str (Str.ofString "high_spread") 410, val := Value.ref 151 },
          { hash := PyData.keyHash P (Str.ofString "high_sure"), key := Value.str (Str.ofString "high_sure") 423, val := Value.ref 158 },
          { hash := PyData.keyHash P (Str.ofString "middle_product"), key := Value.str (Str.ofString "middle_product") 436, val := Value.ref 165 },
          { hash := PyData.keyHash P (Str.ofString "fold_minus"), key := Value.str (Str.ofString "fold_minus") 446, val := Value.ref 172 },
          { hash := PyData.keyHash P (Str.ofString "fold_plus"), key := Value.str (Str.ofString "fold_plus") 460, val := Value.ref 179 },
          { hash := PyData.keyHash P (Str.ofString "joined_rests"), key := Value.str (Str.ofString "joined_rests") 474, val := Value.ref 186 },
          { hash := PyData.keyHash P (Str.ofString "wrapped_product"), key := Value.str (Str.ofString "wrapped_product") 489, val := Value.ref 193 },
          { hash := PyData.keyHash P (Str.ofString "product_by_wrap"), key := Value.str (Str.ofString "product_by_wrap") 501, val := Value.ref 200 }]
        34 }
noncomputable def o12v5 (P : Params) : Obj :=
  { cls := Value.none,
    data :=
      Data.fields
        #[Value.int 2 0, Value.int 0 0, Value.ref 20, Value.int 4 0, Value.int 0 0, Value.ref 33, Value.int 6 0, Value.int 0 0, Value.ref 45, Value.int 11 0, Value.int 0 0, Value.ref 52, Value.int 13 0,
          Value.int 0 0, Value.ref 59, Value.int 20 0, Value.int 0 0, Value.ref 66, Value.int 35 0, Value.int 0 0, Value.ref 73, Value.int 44 0, Value.int 0 0, Value.ref 80, Value.int 46 0,
          Value.int 0 0, Value.ref 87, Value.int 52 0, Value.int 0 0, Value.ref 94, Value.int 60 0, Value.int 0 0, Value.ref 101, Value.int 71 0, Value.int 0 0, Value.ref 108, Value.int 73 0,
          Value.int 0 0, Value.ref 115, Value.int 82 0, Value.int 0 0, Value.ref 122, Value.int 89 0, Value.int 0 0, Value.ref 129, Value.int 96 0, Value.int 0 0, Value.ref 136, Value.int 104 0,
          Value.int 0 0, Value.ref 143, Value.int 108 0, Value.int 0 0, Value.ref 150, Value.int 110 0, Value.int 0 0, Value.ref 157, Value.int 120 0, Value.int 0 0, Value.ref 164, Value.int 126 0,
          Value.int 0 0, Value.ref 171, Value.int 131 0, Value.int 0 0, Value.ref 178, Value.int 143 0, Value.int 0 0, Value.ref 185, Value.int 149 0, Value.int 0 0, Value.ref 192, Value.int 156 0,
          Value.int 0 0, Value.ref 199] }
noncomputable def o145v0 (P : Params) : Obj :=
  { cls := Value.type "tuple", data := Data.seq #[] }
noncomputable def o146v0 (P : Params) : Obj :=
  { cls := Value.none, data := Data.fields #[] }
noncomputable def o147v0 (P : Params) : Obj :=
  { cls := Value.type "tuple", data := Data.seq #[Value.str (Str.ofString "n") 406, Value.str (Str.ofString "w") 407] }
noncomputable def o148v0 (P : Params) : Obj :=
  { cls := Value.type "tuple", data := Data.seq #[] }
noncomputable def o149v0 (P : Params) : Obj :=
  { cls := Value.none,
    data :=
      Data.func
        { name := Str.ofString "high_spread", qualname := Str.ofString "high_spread", params := rcP 15, body := FuncBody.stmts (rcB 15), scope := rcS 15, globals := 0, closure := [],
          defaults := Value.none, kwdefaults := Value.none } }
noncomputable def o150v0 (P : Params) : Obj :=
  { cls := Value.type "code",
    data :=
      Data.fields
        #[Value.str (Str.ofString "high_spread") 403, Value.str (Str.ofString "high_spread") 404, Value.str (Str.ofString "/claim/cut.py") 405, Value.int 108 0, Value.int 2 0, Value.int 0 0,
          Value.int 0 0, Value.int 3 0, Value.ref 145, Value.bool true, Value.int 181 0, Value.ref 146, Value.none, Value.ref 147, Value.ref 148, Value.ref 149, Value.int 408 0, Value.int 108 0,
          Value.str (Str.ofString "/claim/cut.py") 409] }
noncomputable def o151v0 (P : Params) : Obj :=
  { cls := Value.type "function",
    data :=
      Data.func
        { name := Str.ofString "high_spread", qualname := Str.ofString "high_spread", params := rcP 15, body := FuncBody.stmts (rcB 15), scope := rcS 15, globals := 3, closure := [],
          defaults := Value.none, kwdefaults := Value.none, pyModule := Value.str (Str.ofString "gmp.lowproducts") 309, code := Value.ref 150 } }
noncomputable def o152v0 (P : Params) : Obj :=
  { cls := Value.type "tuple", data := Data.seq #[] }
noncomputable def o153v0 (P : Params) : Obj :=
  { cls := Value.none, data := Data.fields #[] }
noncomputable def o154v0 (P : Params) : Obj :=
  { cls := Value.type "tuple",
    data :=
      Data.seq
        #[Value.str (Str.ofString "a") 414, Value.str (Str.ofString "b") 415, Value.str (Str.ofString "n") 416, Value.str (Str.ofString "w") 417, Value.str (Str.ofString "mul") 418,
          Value.str (Str.ofString "found") 419, Value.str (Str.ofString "guard") 420] }
noncomputable def o155v0 (P : Params) : Obj :=
  { cls := Value.type "tuple", data := Data.seq #[] }
noncomputable def o156v0 (P : Params) : Obj :=
  { cls := Value.none,
    data :=
      Data.func
        { name := Str.ofString "high_sure", qualname := Str.ofString "high_sure", params := rcP 16, body := FuncBody.stmts (rcB 16), scope := rcS 16, globals := 0, closure := [], defaults := Value.none,
          kwdefaults := Value.none } }
noncomputable def o157v0 (P : Params) : Obj :=
  { cls := Value.type "code",
    data :=
      Data.fields
        #[Value.str (Str.ofString "high_sure") 411, Value.str (Str.ofString "high_sure") 412, Value.str (Str.ofString "/claim/cut.py") 413, Value.int 110 0, Value.int 5 0, Value.int 0 0, Value.int 0 0,
          Value.int 3 0, Value.ref 152, Value.bool true, Value.int 181 0, Value.ref 153, Value.none, Value.ref 154, Value.ref 155, Value.ref 156, Value.int 421 0, Value.int 110 0,
          Value.str (Str.ofString "/claim/cut.py") 422] }
noncomputable def o158v0 (P : Params) : Obj :=
  { cls := Value.type "function",
    data :=
      Data.func
        { name := Str.ofString "high_sure", qualname := Str.ofString "high_sure", params := rcP 16, body := FuncBody.stmts (rcB 16), scope := rcS 16, globals := 3, closure := [], defaults := Value.none,
          kwdefaults := Value.none, pyModule := Value.str (Str.ofString "gmp.lowproducts") 309, code := Value.ref 157 } }
noncomputable def o159v0 (P : Params) : Obj :=
  { cls := Value.type "tuple", data := Data.seq #[] }
noncomputable def o160v0 (P : Params) : Obj :=
  { cls := Value.none, data := Data.fields #[] }
noncomputable def o161v0 (P : Params) : Obj :=
  { cls := Value.type "tuple",
    data :=
      Data.seq
        #[Value.str (Str.ofString "a") 427, Value.str (Str.ofString "b") 428, Value.str (Str.ofString "w") 429, Value.str (Str.ofString "found") 430, Value.str (Str.ofString "n") 431,
          Value.str (Str.ofString "at") 432, Value.str (Str.ofString "row") 433] }
noncomputable def o162v0 (P : Params) : Obj :=
  { cls := Value.type "tuple", data := Data.seq #[] }
noncomputable def o163v0 (P : Params) : Obj :=
  { cls := Value.none,
    data :=
      Data.func
        { name := Str.ofString "middle_product", qualname := Str.ofString "middle_product", params := rcP 17, body := FuncBody.stmts (rcB 17), scope := rcS 17, globals := 0, closure := [],
          defaults := Value.none, kwdefaults := Value.none } }
noncomputable def o164v0 (P : Params) : Obj :=
  { cls := Value.type "code",
    data :=
      Data.fields
        #[Value.str (Str.ofString "middle_product") 424, Value.str (Str.ofString "middle_product") 425, Value.str (Str.ofString "/claim/cut.py") 426, Value.int 120 0, Value.int 3 0, Value.int 0 0,
          Value.int 0 0, Value.int 3 0, Value.ref 159, Value.bool true, Value.int 181 0, Value.ref 160, Value.none, Value.ref 161, Value.ref 162, Value.ref 163, Value.int 434 0, Value.int 120 0,
          Value.str (Str.ofString "/claim/cut.py") 435] }
noncomputable def o165v0 (P : Params) : Obj :=
  { cls := Value.type "function",
    data :=
      Data.func
        { name := Str.ofString "middle_product", qualname := Str.ofString "middle_product", params := rcP 17, body := FuncBody.stmts (rcB 17), scope := rcS 17, globals := 3, closure := [],
          defaults := Value.none, kwdefaults := Value.none, pyModule := Value.str (Str.ofString "gmp.lowproducts") 309, code := Value.ref 164 } }
noncomputable def o166v0 (P : Params) : Obj :=
  { cls := Value.type "tuple", data := Data.seq #[] }
noncomputable def o167v0 (P : Params) : Obj :=
  { cls := Value.none, data := Data.fields #[] }
noncomputable def o168v0 (P : Params) : Obj :=
  { cls := Value.type "tuple", data := Data.seq #[Value.str (Str.ofString "a") 440, Value.str (Str.ofString "n") 441, Value.str (Str.ofString "w") 442, Value.str (Str.ofString "ones") 443] }
noncomputable def o169v0 (P : Params) : Obj :=
  { cls := Value.type "tuple", data := Data.seq #[] }
noncomputable def o170v0 (P : Params) : Obj :=
  { cls := Value.none,
    data :=
      Data.func
        { name := Str.ofString "fold_minus", qualname := Str.ofString "fold_minus", params := rcP 18, body := FuncBody.stmts (rcB 18), scope := rcS 18, globals := 0, closure := [],
          defaults := Value.none, kwdefaults := Value.none } }
noncomputable def o171v0 (P : Params) : Obj :=
  { cls := Value.type "code",
    data :=
      Data.fields
        #[Value.str (Str.ofString "fold_minus") 437, Value.str (Str.ofString "fold_minus") 438, Value.str (Str.ofString "/claim/cut.py") 439, Value.int 126 0, Value.int 3 0, Value.int 0 0,
          Value.int 0 0, Value.int 3 0, Value.ref 166, Value.bool true, Value.int 181 0, Value.ref 167, Value.none, Value.ref 168, Value.ref 169, Value.ref 170, Value.int 444 0, Value.int 126 0,
          Value.str (Str.ofString "/claim/cut.py") 445] }
noncomputable def o172v0 (P : Params) : Obj :=
  { cls := Value.type "function",
    data :=
      Data.func
        { name := Str.ofString "fold_minus", qualname := Str.ofString "fold_minus", params := rcP 18, body := FuncBody.stmts (rcB 18), scope := rcS 18, globals := 3, closure := [],
          defaults := Value.none, kwdefaults := Value.none, pyModule := Value.str (Str.ofString "gmp.lowproducts") 309, code := Value.ref 171 } }
noncomputable def o173v0 (P : Params) : Obj :=
  { cls := Value.type "tuple", data := Data.seq #[] }
noncomputable def o174v0 (P : Params) : Obj :=
  { cls := Value.none, data := Data.fields #[] }
noncomputable def o175v0 (P : Params) : Obj :=
  { cls := Value.type "tuple",
    data :=
      Data.seq
        #[Value.str (Str.ofString "a") 450, Value.str (Str.ofString "n") 451, Value.str (Str.ofString "w") 452, Value.str (Str.ofString "modulus") 453, Value.str (Str.ofString "found") 454,
          Value.str (Str.ofString "is_below") 455, Value.str (Str.ofString "at") 456, Value.str (Str.ofString "part") 457] }
noncomputable def o176v0 (P : Params) : Obj :=
  { cls := Value.type "tuple", data := Data.seq #[] }
noncomputable def o177v0 (P : Params) : Obj :=
  { cls := Value.none,
    data :=
      Data.func
        { name := Str.ofString "fold_plus", qualname := Str.ofString "fold_plus", params := rcP 19, body := FuncBody.stmts (rcB 19), scope := rcS 19, globals := 0, closure := [], defaults := Value.none,
          kwdefaults := Value.none } }
noncomputable def o178v0 (P : Params) : Obj :=
  { cls := Value.type "code",
    data :=
      Data.fields
        #[Value.str (Str.ofString "fold_plus") 447, Value.str (Str.ofString "fold_plus") 448, Value.str (Str.ofString "/claim/cut.py") 449, Value.int 131 0, Value.int 3 0, Value.int 0 0, Value.int 0 0,
          Value.int 3 0, Value.ref 173, Value.bool true, Value.int 181 0, Value.ref 174, Value.none, Value.ref 175, Value.ref 176, Value.ref 177, Value.int 458 0, Value.int 131 0,
          Value.str (Str.ofString "/claim/cut.py") 459] }
noncomputable def o179v0 (P : Params) : Obj :=
  { cls := Value.type "function",
    data :=
      Data.func
        { name := Str.ofString "fold_plus", qualname := Str.ofString "fold_plus", params := rcP 19, body := FuncBody.stmts (rcB 19), scope := rcS 19, globals := 3, closure := [], defaults := Value.none,
          kwdefaults := Value.none, pyModule := Value.str (Str.ofString "gmp.lowproducts") 309, code := Value.ref 178 } }
noncomputable def o180v0 (P : Params) : Obj :=
  { cls := Value.type "tuple", data := Data.seq #[] }
noncomputable def o181v0 (P : Params) : Obj :=
  { cls := Value.none, data := Data.fields #[] }
noncomputable def o182v0 (P : Params) : Obj :=
  { cls := Value.type "tuple",
    data :=
      Data.seq
        #[Value.str (Str.ofString "minus") 464, Value.str (Str.ofString "plus") 465, Value.str (Str.ofString "n") 466, Value.str (Str.ofString "w") 467, Value.str (Str.ofString "modulus") 468,
          Value.str (Str.ofString "plus_rest") 469, Value.str (Str.ofString "way") 470, Value.str (Str.ofString "half") 471] }
noncomputable def o183v0 (P : Params) : Obj :=
  { cls := Value.type "tuple", data := Data.seq #[] }
noncomputable def o184v0 (P : Params) : Obj :=
  { cls := Value.none,
    data :=
      Data.func
        { name := Str.ofString "joined_rests", qualname := Str.ofString "joined_rests", params := rcP 20, body := FuncBody.stmts (rcB 20), scope := rcS 20, globals := 0, closure := [],
          defaults := Value.none, kwdefaults := Value.none } }
noncomputable def o185v0 (P : Params) : Obj :=
  { cls := Value.type "code",
    data :=
      Data.fields
        #[Value.str (Str.ofString "joined_rests") 461, Value.str (Str.ofString "joined_rests") 462, Value.str (Str.ofString "/claim/cut.py") 463, Value.int 143 0, Value.int 4 0, Value.int 0 0,
          Value.int 0 0, Value.int 3 0, Value.ref 180, Value.bool true, Value.int 181 0, Value.ref 181, Value.none, Value.ref 182, Value.ref 183, Value.ref 184, Value.int 472 0, Value.int 143 0,
          Value.str (Str.ofString "/claim/cut.py") 473] }
noncomputable def o186v0 (P : Params) : Obj :=
  { cls := Value.type "function",
    data :=
      Data.func
        { name := Str.ofString "joined_rests", qualname := Str.ofString "joined_rests", params := rcP 20, body := FuncBody.stmts (rcB 20), scope := rcS 20, globals := 3, closure := [],
          defaults := Value.none, kwdefaults := Value.none, pyModule := Value.str (Str.ofString "gmp.lowproducts") 309, code := Value.ref 185 } }
noncomputable def o187v0 (P : Params) : Obj :=
  { cls := Value.type "tuple", data := Data.seq #[] }
noncomputable def o188v0 (P : Params) : Obj :=
  { cls := Value.none, data := Data.fields #[] }
noncomputable def o189v0 (P : Params) : Obj :=
  { cls := Value.type "tuple",
    data :=
      Data.seq
        #[Value.str (Str.ofString "a") 478, Value.str (Str.ofString "b") 479, Value.str (Str.ofString "n") 480, Value.str (Str.ofString "w") 481, Value.str (Str.ofString "least") 482,
          Value.str (Str.ofString "mul") 483, Value.str (Str.ofString "half") 484, Value.str (Str.ofString "minus") 485, Value.str (Str.ofString "plus") 486] }
noncomputable def o190v0 (P : Params) : Obj :=
  { cls := Value.type "tuple", data := Data.seq #[] }
noncomputable def o191v0 (P : Params) : Obj :=
  { cls := Value.none,
    data :=
      Data.func
        { name := Str.ofString "wrapped_product", qualname := Str.ofString "wrapped_product", params := rcP 21, body := FuncBody.stmts (rcB 21), scope := rcS 21, globals := 0, closure := [],
          defaults := Value.none, kwdefaults := Value.none } }
noncomputable def o192v0 (P : Params) : Obj :=
  { cls := Value.type "code",
    data :=
      Data.fields
        #[Value.str (Str.ofString "wrapped_product") 475, Value.str (Str.ofString "wrapped_product") 476, Value.str (Str.ofString "/claim/cut.py") 477, Value.int 149 0, Value.int 6 0, Value.int 0 0,
          Value.int 0 0, Value.int 3 0, Value.ref 187, Value.bool true, Value.int 181 0, Value.ref 188, Value.none, Value.ref 189, Value.ref 190, Value.ref 191, Value.int 487 0, Value.int 149 0,
          Value.str (Str.ofString "/claim/cut.py") 488] }
noncomputable def o193v0 (P : Params) : Obj :=
  { cls := Value.type "function",
    data :=
      Data.func
        { name := Str.ofString "wrapped_product", qualname := Str.ofString "wrapped_product", params := rcP 21, body := FuncBody.stmts (rcB 21), scope := rcS 21, globals := 3, closure := [],
          defaults := Value.none, kwdefaults := Value.none, pyModule := Value.str (Str.ofString "gmp.lowproducts") 309, code := Value.ref 192 } }
noncomputable def o194v0 (P : Params) : Obj :=
  { cls := Value.type "tuple", data := Data.seq #[] }
noncomputable def o195v0 (P : Params) : Obj :=
  { cls := Value.none, data := Data.fields #[] }
noncomputable def o196v0 (P : Params) : Obj :=
  { cls := Value.type "tuple",
    data :=
      Data.seq
        #[Value.str (Str.ofString "a") 493, Value.str (Str.ofString "b") 494, Value.str (Str.ofString "w") 495, Value.str (Str.ofString "least") 496, Value.str (Str.ofString "mul") 497,
          Value.str (Str.ofString "n") 498] }
noncomputable def o197v0 (P : Params) : Obj :=
  { cls := Value.type "tuple", data := Data.seq #[] }
noncomputable def o198v0 (P : Params) : Obj :=
  { cls := Value.none,
    data :=
      Data.func
        { name := Str.ofString "product_by_wrap", qualname := Str.ofString "product_by_wrap", params := rcP 22, body := FuncBody.stmts (rcB 22), scope := rcS 22, globals := 0, closure := [],
          defaults := Value.none, kwdefaults := Value.none } }
noncomputable def o199v0 (P : Params) : Obj :=
  { cls := Value.type "code",
    data :=
      Data.fields
        #[Value.str (Str.ofString "product_by_wrap") 490, Value.str (Str.ofString "product_by_wrap") 491, Value.str (Str.ofString "/claim/cut.py") 492, Value.int 156 0, Value.int 5 0, Value.int 0 0,
          Value.int 0 0, Value.int 3 0, Value.ref 194, Value.bool true, Value.int 181 0, Value.ref 195, Value.none, Value.ref 196, Value.ref 197, Value.ref 198, Value.int 499 0, Value.int 156 0,
          Value.str (Str.ofString "/claim/cut.py") 500] }
noncomputable def o200v0 (P : Params) : Obj :=
  { cls := Value.type "function",
    data :=
      Data.func
        { name := Str.ofString "product_by_wrap", qualname := Str.ofString "product_by_wrap", params := rcP 22, body := FuncBody.stmts (rcB 22), scope := rcS 22, globals := 3, closure := [],
          defaults := Value.none, kwdefaults := Value.none, pyModule := Value.str (Str.ofString "gmp.lowproducts") 309, code := Value.ref 199 } }
noncomputable def hp5 (P : Params) : Heap := ⟨⟨[boot_o_0 P, boot_o_1 P, o2v1 P, o3v5 P, boot_o_4 P, boot_o_5 P, boot_o_6 P, boot_o_7 P, boot_o_8 P, boot_o_9 P, boot_o_10 P, o11v0 P, o12v5 P, o13v0 P, o14v0 P, o15v0 P, o16v0 P, o17v0 P, o18v0 P, o19v0 P, o20v0 P, o21v0 P, o22v0 P, o23v0 P, o24v1 P, o25v0 P, o26v0 P, o27v0 P, o28v0 P, o29v0 P, o30v0 P, o31v0 P, o32v0 P, o33v0 P, o34v0 P, o35v0 P, o36v0 P, o37v0 P, o38v0 P, o39v0 P, o40v0 P, o41v0 P, o42v0 P, o43v0 P, o44v0 P, o45v0 P, o46v0 P, o47v0 P, o48v0 P, o49v0 P, o50v0 P, o51v0 P, o52v0 P, o53v0 P, o54v0 P, o55v0 P, o56v0 P, o57v0 P, o58v0 P, o59v0 P, o60v0 P, o61v0 P, o62v0 P, o63v0 P, o64v0 P, o65v0 P, o66v0 P, o67v0 P, o68v0 P, o69v0 P, o70v0 P, o71v0 P, o72v0 P, o73v0 P, o74v0 P, o75v0 P, o76v0 P, o77v0 P, o78v0 P, o79v0 P, o80v0 P, o81v0 P, o82v0 P, o83v0 P, o84v0 P, o85v0 P, o86v0 P, o87v0 P, o88v0 P, o89v0 P, o90v0 P, o91v0 P, o92v0 P, o93v0 P, o94v0 P, o95v0 P, o96v0 P, o97v0 P, o98v0 P, o99v0 P, o100v0 P, o101v0 P, o102v0 P, o103v0 P, o104v0 P, o105v0 P, o106v0 P, o107v0 P, o108v0 P, o109v0 P, o110v0 P, o111v0 P, o112v0 P, o113v0 P, o114v0 P, o115v0 P, o116v0 P, o117v0 P, o118v0 P, o119v0 P, o120v0 P, o121v0 P, o122v0 P, o123v0 P, o124v0 P, o125v0 P, o126v0 P, o127v0 P, o128v0 P, o129v0 P, o130v0 P, o131v0 P, o132v0 P, o133v0 P, o134v0 P, o135v0 P, o136v0 P, o137v0 P, o138v0 P, o139v0 P, o140v0 P, o141v0 P, o142v0 P, o143v0 P, o144v0 P, o145v0 P, o146v0 P, o147v0 P, o148v0 P, o149v0 P, o150v0 P, o151v0 P, o152v0 P, o153v0 P, o154v0 P, o155v0 P, o156v0 P, o157v0 P, o158v0 P, o159v0 P, o160v0 P, o161v0 P, o162v0 P, o163v0 P, o164v0 P, o165v0 P, o166v0 P, o167v0 P, o168v0 P, o169v0 P, o170v0 P, o171v0 P, o172v0 P, o173v0 P, o174v0 P, o175v0 P, o176v0 P, o177v0 P, o178v0 P, o179v0 P, o180v0 P, o181v0 P, o182v0 P, o183v0 P, o184v0 P, o185v0 P, o186v0 P, o187v0 P, o188v0 P, o189v0 P, o190v0 P, o191v0 P, o192v0 P, o193v0 P, o194v0 P, o195v0 P, o196v0 P, o197v0 P, o198v0 P, o199v0 P, o200v0 P]⟩, { }⟩
noncomputable def o3v6 (P : Params) : Obj :=
  { cls := Value.type "dict",
    data :=
      Data.dict
        #[{ hash := PyData.keyHash P (Str.ofString "__name__"), key := Value.str (Str.ofString "__name__") 165, val := Value.str (Str.ofString "law_nn0019_01") 502 },
          { hash := PyData.keyHash P (Str.ofString "__doc__"), key := Value.str (Str.ofString "__doc__") 166, val := Value.none },
          { hash := PyData.keyHash P (Str.ofString "__package__"), key := Value.str (Str.ofString "__package__") 167, val := Value.none },
          { hash := PyData.keyHash P (Str.ofString "__loader__"), key := Value.str (Str.ofString "__loader__") 168, val := Value.builtin "__main__.__loader__#opaque" },
          { hash := PyData.keyHash P (Str.ofString "__spec__"), key := Value.str (Str.ofString "__spec__") 169, val := Value.none },
          { hash := PyData.keyHash P (Str.ofString "__annotations__"), key := Value.str (Str.ofString "__annotations__") 170, val := Value.ref 6 },
          { hash := PyData.keyHash P (Str.ofString "__builtins__"), key := Value.str (Str.ofString "__builtins__") 171, val := Value.ref 4 },
          { hash := PyData.keyHash P (Str.ofString "__file__"), key := Value.str (Str.ofString "__file__") 173, val := Value.str (Str.ofString "/claim/cut.py") 172 },
          { hash := PyData.keyHash P (Str.ofString "__cached__"), key := Value.str (Str.ofString "__cached__") 174, val := Value.none },
          { hash := PyData.keyHash P (Str.ofString "GmpError"), key := Value.str (Str.ofString "GmpError") 208, val := Value.ref 24 },
          { hash := PyData.keyHash P (Str.ofString "OutOfRange"), key := Value.str (Str.ofString "OutOfRange") 224, val := Value.ref 37 },
          { hash := PyData.keyHash P (Str.ofString "normal"), key := Value.str (Str.ofString "normal") 232, val := Value.ref 46 },
          { hash := PyData.keyHash P (Str.ofString "is_even"), key := Value.str (Str.ofString "is_even") 239, val := Value.ref 53 },
          { hash := PyData.keyHash P (Str.ofString "compare"), key := Value.str (Str.ofString "compare") 248, val := Value.ref 60 },
          { hash := PyData.keyHash P (Str.ofString "add"), key := Value.str (Str.ofString "add") 261, val := Value.ref 67 },
          { hash := PyData.keyHash P (Str.ofString "sub"), key := Value.str (Str.ofString "sub") 275, val := Value.ref 74 },
          { hash := PyData.keyHash P (Str.ofString "lifted"), key := Value.str (Str.ofString "lifted") 283, val := Value.ref 81 },
          { hash := PyData.keyHash P (Str.ofString "add_at"), key := Value.str (Str.ofString "add_at") 293, val := Value.ref 88 },
          { hash := PyData.keyHash P (Str.ofString "shift_right"), key := Value.str (Str.ofString "shift_right") 308, val := Value.ref 95 },
          { hash := PyData.keyHash P (Str.ofString "low_school"), key := Value.str (Str.ofString "low_school") 326, val := Value.ref 102 },
          { hash := PyData.keyHash P (Str.ofString "cut_for"), key := Value.str (Str.ofString "cut_for") 333, val := Value.ref 109 },
          { hash := PyData.keyHash P (Str.ofString "low_product"), key := Value.str (Str.ofString "low_product") 348, val := Value.ref 116 },
          { hash := PyData.keyHash P (Str.ofString "high_school"), key := Value.str (Str.ofString "high_school") 362, val := Value.ref 123 },
          { hash := PyData.keyHash P (Str.ofString "times_limb"), key := Value.str (Str.ofString "times_limb") 375, val := Value.ref 130 },
          { hash := PyData.keyHash P (Str.ofString "high_sum"), key := Value.str (Str.ofString "high_sum") 390, val := Value.ref 137 },
          { hash := PyData.keyHash P (Str.ofString "high_product"), key := Value.str (Str.ofString "high_product") 402, val := Value.ref 144 },
          { hash := PyData.keyHash P (Str.ofString "high_spread"), key := Value.str (Str.ofString "high_spread") 410, val := Value.ref 151 },
          { hash := PyData.keyHash P (Str.ofString "high_sure"), key := Value.str (Str.ofString "high_sure") 423, val := Value.ref 158 },
          { hash := PyData.keyHash P (Str.ofString "middle_product"), key := Value.str (Str.ofString "middle_product") 436, val := Value.ref 165 },
          { hash := PyData.keyHash P (Str.ofString "fold_minus"), key := Value.str (Str.ofString "fold_minus") 446, val := Value.ref 172 },
          { hash := PyData.keyHash P (Str.ofString "fold_plus"), key := Value.str (Str.ofString "fold_plus") 460, val := Value.ref 179 },
          { hash := PyData.keyHash P (Str.ofString "joined_rests"), key := Value.str (Str.ofString "joined_rests") 474, val := Value.ref 186 },
          { hash := PyData.keyHash P (Str.ofString "wrapped_product"), key := Value.str (Str.ofString "wrapped_product") 489, val := Value.ref 193 },
          { hash := PyData.keyHash P (Str.ofString "product_by_wrap"), key := Value.str (Str.ofString "product_by_wrap") 501, val := Value.ref 200 },
          { hash := PyData.keyHash P (Str.ofString "_law_nat"), key := Value.str (Str.ofString "_law_nat") 512, val := Value.ref 207 },
          { hash := PyData.keyHash P (Str.ofString "_law_value"), key := Value.str (Str.ofString "_law_value") 522, val := Value.ref 214 },
          { hash := PyData.keyHash P (Str.ofString "_law_mul"), key := Value.str (Str.ofString "_law_mul") 535, val := Value.ref 221 },
          { hash := PyData.keyHash P (Str.ofString "_law_number"), key := Value.str (Str.ofString "_law_number") 547, val := Value.ref 228 },
          { hash := PyData.keyHash P (Str.ofString "_law_sum"), key := Value.str (Str.ofString "_law_sum") 563, val := Value.ref 235 },
          { hash := PyData.keyHash P (Str.ofString "_law_high_right"), key := Value.str (Str.ofString "_law_high_right") 579, val := Value.ref 242 },
          { hash := PyData.keyHash P (Str.ofString "_law_wrapped_right"), key := Value.str (Str.ofString "_law_wrapped_right") 597, val := Value.ref 249 },
          { hash := PyData.keyHash P (Str.ofString "law"), key := Value.str (Str.ofString "law") 603, val := Value.ref 254 }]
        42 }
noncomputable def o12v6 (P : Params) : Obj :=
  { cls := Value.none,
    data :=
      Data.fields
        #[Value.int 2 0, Value.int 0 0, Value.ref 20, Value.int 4 0, Value.int 0 0, Value.ref 33, Value.int 6 0, Value.int 0 0, Value.ref 45, Value.int 11 0, Value.int 0 0, Value.ref 52, Value.int 13 0,
          Value.int 0 0, Value.ref 59, Value.int 20 0, Value.int 0 0, Value.ref 66, Value.int 35 0, Value.int 0 0, Value.ref 73, Value.int 44 0, Value.int 0 0, Value.ref 80, Value.int 46 0,
          Value.int 0 0, Value.ref 87, Value.int 52 0, Value.int 0 0, Value.ref 94, Value.int 60 0, Value.int 0 0, Value.ref 101, Value.int 71 0, Value.int 0 0, Value.ref 108, Value.int 73 0,
          Value.int 0 0, Value.ref 115, Value.int 82 0, Value.int 0 0, Value.ref 122, Value.int 89 0, Value.int 0 0, Value.ref 129, Value.int 96 0, Value.int 0 0, Value.ref 136, Value.int 104 0,
          Value.int 0 0, Value.ref 143, Value.int 108 0, Value.int 0 0, Value.ref 150, Value.int 110 0, Value.int 0 0, Value.ref 157, Value.int 120 0, Value.int 0 0, Value.ref 164, Value.int 126 0,
          Value.int 0 0, Value.ref 171, Value.int 131 0, Value.int 0 0, Value.ref 178, Value.int 143 0, Value.int 0 0, Value.ref 185, Value.int 149 0, Value.int 0 0, Value.ref 192, Value.int 156 0,
          Value.int 0 0, Value.ref 199, Value.int 160 0, Value.int 0 0, Value.ref 206, Value.int 166 0, Value.int 0 0, Value.ref 213, Value.int 173 0, Value.int 0 0, Value.ref 220, Value.int 185 0,
          Value.int 0 0, Value.ref 227, Value.int 191 0, Value.int 0 0, Value.ref 234, Value.int 198 0, Value.int 0 0, Value.ref 241, Value.int 216 0, Value.int 0 0, Value.ref 248, Value.int 226 0,
          Value.int 0 0, Value.ref 253] }
noncomputable def o201v0 (P : Params) : Obj :=
  { cls := Value.type "tuple", data := Data.seq #[] }
noncomputable def o202v0 (P : Params) : Obj :=
  { cls := Value.none, data := Data.fields #[] }
noncomputable def o203v0 (P : Params) : Obj :=
  { cls := Value.type "tuple", data := Data.seq #[Value.str (Str.ofString "number") 507, Value.str (Str.ofString "w") 508, Value.str (Str.ofString "found") 509] }
noncomputable def o204v0 (P : Params) : Obj :=
  { cls := Value.type "tuple", data := Data.seq #[] }
noncomputable def o205v0 (P : Params) : Obj :=
  { cls := Value.none,
    data :=
      Data.func
        { name := Str.ofString "_law_nat", qualname := Str.ofString "_law_nat", params := rcP 23, body := FuncBody.stmts (rcB 23), scope := rcS 23, globals := 0, closure := [], defaults := Value.none,
          kwdefaults := Value.none } }
noncomputable def o206v0 (P : Params) : Obj :=
  { cls := Value.type "code",
    data :=
      Data.fields
        #[Value.str (Str.ofString "_law_nat") 504, Value.str (Str.ofString "_law_nat") 505, Value.str (Str.ofString "/claim/cut.py") 506, Value.int 160 0, Value.int 2 0, Value.int 0 0, Value.int 0 0,
          Value.int 3 0, Value.ref 201, Value.bool true, Value.int 181 0, Value.ref 202, Value.none, Value.ref 203, Value.ref 204, Value.ref 205, Value.int 510 0, Value.int 160 0,
          Value.str (Str.ofString "/claim/cut.py") 511] }
noncomputable def o207v0 (P : Params) : Obj :=
  { cls := Value.type "function",
    data :=
      Data.func
        { name := Str.ofString "_law_nat", qualname := Str.ofString "_law_nat", params := rcP 23, body := FuncBody.stmts (rcB 23), scope := rcS 23, globals := 3, closure := [], defaults := Value.none,
          kwdefaults := Value.none, pyModule := Value.str (Str.ofString "law_nn0019_01") 502, code := Value.ref 206 } }
noncomputable def o208v0 (P : Params) : Obj :=
  { cls := Value.type "tuple", data := Data.seq #[] }
noncomputable def o209v0 (P : Params) : Obj :=
  { cls := Value.none, data := Data.fields #[] }
noncomputable def o210v0 (P : Params) : Obj :=
  { cls := Value.type "tuple", data := Data.seq #[Value.str (Str.ofString "limbs") 516, Value.str (Str.ofString "w") 517, Value.str (Str.ofString "found") 518, Value.str (Str.ofString "limb") 519] }
noncomputable def o211v0 (P : Params) : Obj :=
  { cls := Value.type "tuple", data := Data.seq #[] }
noncomputable def o212v0 (P : Params) : Obj :=
  { cls := Value.none,
    data :=
      Data.func
        { name := Str.ofString "_law_value", qualname := Str.ofString "_law_value", params := rcP 24, body := FuncBody.stmts (rcB 24), scope := rcS 24, globals := 0, closure := [],
          defaults := Value.none, kwdefaults := Value.none } }
noncomputable def o213v0 (P : Params) : Obj :=
  { cls := Value.type "code",
    data :=
      Data.fields
        #[Value.str (Str.ofString "_law_value") 513, Value.str (Str.ofString "_law_value") 514, Value.str (Str.ofString "/claim/cut.py") 515, Value.int 166 0, Value.int 2 0, Value.int 0 0,
          Value.int 0 0, Value.int 3 0, Value.ref 208, Value.bool true, Value.int 181 0, Value.ref 209, Value.none, Value.ref 210, Value.ref 211, Value.ref 212, Value.int 520 0, Value.int 166 0,
          Value.str (Str.ofString "/claim/cut.py") 521] }
noncomputable def o214v0 (P : Params) : Obj :=
  { cls := Value.type "function",
    data :=
      Data.func
        { name := Str.ofString "_law_value", qualname := Str.ofString "_law_value", params := rcP 24, body := FuncBody.stmts (rcB 24), scope := rcS 24, globals := 3, closure := [],
          defaults := Value.none, kwdefaults := Value.none, pyModule := Value.str (Str.ofString "law_nn0019_01") 502, code := Value.ref 213 } }
noncomputable def o215v0 (P : Params) : Obj :=
  { cls := Value.type "tuple", data := Data.seq #[] }
noncomputable def o216v0 (P : Params) : Obj :=
  { cls := Value.none, data := Data.fields #[] }
noncomputable def o217v0 (P : Params) : Obj :=
  { cls := Value.type "tuple",
    data :=
      Data.seq
        #[Value.str (Str.ofString "a") 526, Value.str (Str.ofString "b") 527, Value.str (Str.ofString "w") 528, Value.str (Str.ofString "found") 529, Value.str (Str.ofString "at") 530,
          Value.str (Str.ofString "carry") 531, Value.str (Str.ofString "spot") 532] }
noncomputable def o218v0 (P : Params) : Obj :=
  { cls := Value.type "tuple", data := Data.seq #[] }
noncomputable def o219v0 (P : Params) : Obj :=
  { cls := Value.none,
    data :=
      Data.func
        { name := Str.ofString "_law_mul", qualname := Str.ofString "_law_mul", params := rcP 25, body := FuncBody.stmts (rcB 25), scope := rcS 25, globals := 0, closure := [], defaults := Value.none,
          kwdefaults := Value.none } }
noncomputable def o220v0 (P : Params) : Obj :=
  { cls := Value.type "code",
    data :=
      Data.fields
        #[Value.str (Str.ofString "_law_mul") 523, Value.str (Str.ofString "_law_mul") 524, Value.str (Str.ofString "/claim/cut.py") 525, Value.int 173 0, Value.int 3 0, Value.int 0 0, Value.int 0 0,
          Value.int 3 0, Value.ref 215, Value.bool true, Value.int 181 0, Value.ref 216, Value.none, Value.ref 217, Value.ref 218, Value.ref 219, Value.int 533 0, Value.int 173 0,
          Value.str (Str.ofString "/claim/cut.py") 534] }
noncomputable def o221v0 (P : Params) : Obj :=
  { cls := Value.type "function",
    data :=
      Data.func
        { name := Str.ofString "_law_mul", qualname := Str.ofString "_law_mul", params := rcP 25, body := FuncBody.stmts (rcB 25), scope := rcS 25, globals := 3, closure := [], defaults := Value.none,
          kwdefaults := Value.none, pyModule := Value.str (Str.ofString "law_nn0019_01") 502, code := Value.ref 220 } }
noncomputable def o222v0 (P : Params) : Obj :=
  { cls := Value.type "tuple", data := Data.seq #[] }
noncomputable def o223v0 (P : Params) : Obj :=
  { cls := Value.none, data := Data.fields #[] }
noncomputable def o224v0 (P : Params) : Obj :=
  { cls := Value.type "tuple",
    data :=
      Data.seq
        #[Value.str (Str.ofString "some") 539, Value.str (Str.ofString "begin_at") 540, Value.str (Str.ofString "w") 541, Value.str (Str.ofString "found") 542, Value.str (Str.ofString "at") 543,
          Value.str (Str.ofString "number") 544] }
noncomputable def o225v0 (P : Params) : Obj :=
  { cls := Value.type "tuple", data := Data.seq #[] }
noncomputable def o226v0 (P : Params) : Obj :=
  { cls := Value.none,
    data :=
      Data.func
        { name := Str.ofString "_law_number", qualname := Str.ofString "_law_number", params := rcP 26, body := FuncBody.stmts (rcB 26), scope := rcS 26, globals := 0, closure := [],
          defaults := Value.none, kwdefaults := Value.none } }
noncomputable def o227v0 (P : Params) : Obj :=
  { cls := Value.type "code",
    data :=
      Data.fields
        #[Value.str (Str.ofString "_law_number") 536, Value.str (Str.ofString "_law_number") 537, Value.str (Str.ofString "/claim/cut.py") 538, Value.int 185 0, Value.int 3 0, Value.int 0 0,
          Value.int 0 0, Value.int 3 0, Value.ref 222, Value.bool true, Value.int 181 0, Value.ref 223, Value.none, Value.ref 224, Value.ref 225, Value.ref 226, Value.int 545 0, Value.int 185 0,
          Value.str (Str.ofString "/claim/cut.py") 546] }
noncomputable def o228v0 (P : Params) : Obj :=
  { cls := Value.type "function",
    data :=
      Data.func
        { name := Str.ofString "_law_number", qualname := Str.ofString "_law_number", params := rcP 26, body := FuncBody.stmts (rcB 26), scope := rcS 26, globals := 3, closure := [],
          defaults := Value.none, kwdefaults := Value.none, pyModule := Value.str (Str.ofString "law_nn0019_01") 502, code := Value.ref 227 } }
noncomputable def o229v0 (P : Params) : Obj :=
  { cls := Value.type "tuple", data := Data.seq #[] }
noncomputable def o230v0 (P : Params) : Obj :=
  { cls := Value.none, data := Data.fields #[] }
noncomputable def o231v0 (P : Params) : Obj :=
  { cls := Value.type "tuple",
    data :=
      Data.seq
        #[Value.str (Str.ofString "a") 551, Value.str (Str.ofString "b") 552, Value.str (Str.ofString "w") 553, Value.str (Str.ofString "least") 554, Value.str (Str.ofString "most") 555,
          Value.str (Str.ofString "found") 556, Value.str (Str.ofString "at") 557, Value.str (Str.ofString "one") 558, Value.str (Str.ofString "spot") 559, Value.str (Str.ofString "other") 560] }
noncomputable def o232v0 (P : Params) : Obj :=
  { cls := Value.type "tuple", data := Data.seq #[] }
noncomputable def o233v0 (P : Params) : Obj :=
  { cls := Value.none,
    data :=
      Data.func
        { name := Str.ofString "_law_sum", qualname := Str.ofString "_law_sum", params := rcP 27, body := FuncBody.stmts (rcB 27), scope := rcS 27, globals := 0, closure := [], defaults := Value.none,
          kwdefaults := Value.none } }
noncomputable def o234v0 (P : Params) : Obj :=
  { cls := Value.type "code",
    data :=
      Data.fields
        #[Value.str (Str.ofString "_law_sum") 548, Value.str (Str.ofString "_law_sum") 549, Value.str (Str.ofString "/claim/cut.py") 550, Value.int 191 0, Value.int 5 0, Value.int 0 0, Value.int 0 0,
          Value.int 3 0, Value.ref 229, Value.bool true, Value.int 181 0, Value.ref 230, Value.none, Value.ref 231, Value.ref 232, Value.ref 233, Value.int 561 0, Value.int 191 0,
          Value.str (Str.ofString "/claim/cut.py") 562] }
noncomputable def o235v0 (P : Params) : Obj :=
  { cls := Value.type "function",
    data :=
      Data.func
        { name := Str.ofString "_law_sum", qualname := Str.ofString "_law_sum", params := rcP 27, body := FuncBody.stmts (rcB 27), scope := rcS 27, globals := 3, closure := [], defaults := Value.none,
          kwdefaults := Value.none, pyModule := Value.str (Str.ofString "law_nn0019_01") 502, code := Value.ref 234 } }
noncomputable def o236v0 (P : Params) : Obj :=
  { cls := Value.type "tuple", data := Data.seq #[] }
noncomputable def o237v0 (P : Params) : Obj :=
  { cls := Value.none, data := Data.fields #[] }
noncomputable def o238v0 (P : Params) : Obj :=
  { cls := Value.type "tuple",
    data :=
      Data.seq
        #[Value.str (Str.ofString "a") 567, Value.str (Str.ofString "b") 568, Value.str (Str.ofString "n") 569, Value.str (Str.ofString "w") 570, Value.str (Str.ofString "whole") 571,
          Value.str (Str.ofString "due") 572, Value.str (Str.ofString "least") 573, Value.str (Str.ofString "told") 574, Value.str (Str.ofString "found") 575, Value.str (Str.ofString "was_asked") 576] }
noncomputable def o239v0 (P : Params) : Obj :=
  { cls := Value.type "tuple", data := Data.seq #[] }
noncomputable def o240v0 (P : Params) : Obj :=
  { cls := Value.none,
    data :=
      Data.func
        { name := Str.ofString "_law_high_right", qualname := Str.ofString "_law_high_right", params := rcP 28, body := FuncBody.stmts (rcB 28), scope := rcS 28, globals := 0, closure := [],
          defaults := Value.none, kwdefaults := Value.none } }
noncomputable def o241v0 (P : Params) : Obj :=
  { cls := Value.type "code",
    data :=
      Data.fields
        #[Value.str (Str.ofString "_law_high_right") 564, Value.str (Str.ofString "_law_high_right") 565, Value.str (Str.ofString "/claim/cut.py") 566, Value.int 198 0, Value.int 5 0, Value.int 0 0,
          Value.int 0 0, Value.int 3 0, Value.ref 236, Value.bool true, Value.int 181 0, Value.ref 237, Value.none, Value.ref 238, Value.ref 239, Value.ref 240, Value.int 577 0, Value.int 198 0,
          Value.str (Str.ofString "/claim/cut.py") 578] }
noncomputable def o242v0 (P : Params) : Obj :=
  { cls := Value.type "function",
    data :=
      Data.func
        { name := Str.ofString "_law_high_right", qualname := Str.ofString "_law_high_right", params := rcP 28, body := FuncBody.stmts (rcB 28), scope := rcS 28, globals := 3, closure := [],
          defaults := Value.none, kwdefaults := Value.none, pyModule := Value.str (Str.ofString "law_nn0019_01") 502, code := Value.ref 241 } }
noncomputable def o243v0 (P : Params) : Obj :=
  { cls := Value.type "tuple", data := Data.seq #[] }
noncomputable def o244v0 (P : Params) : Obj :=
  { cls := Value.none, data := Data.fields #[] }
noncomputable def o245v0 (P : Params) : Obj :=
  { cls := Value.type "tuple",
    data :=
      Data.seq
        #[Value.str (Str.ofString "a") 583, Value.str (Str.ofString "b") 584, Value.str (Str.ofString "n") 585, Value.str (Str.ofString "w") 586, Value.str (Str.ofString "whole") 587,
          Value.str (Str.ofString "less") 588, Value.str (Str.ofString "more") 589, Value.str (Str.ofString "twice") 590, Value.str (Str.ofString "least") 591, Value.str (Str.ofString "drawn") 592,
          Value.str (Str.ofString "minus") 593, Value.str (Str.ofString "plus") 594] }
noncomputable def o246v0 (P : Params) : Obj :=
  { cls := Value.type "tuple", data := Data.seq #[] }
noncomputable def o247v0 (P : Params) : Obj :=
  { cls := Value.none,
    data :=
      Data.func
        { name := Str.ofString "_law_wrapped_right", qualname := Str.ofString "_law_wrapped_right", params := rcP 29, body := FuncBody.stmts (rcB 29), scope := rcS 29, globals := 0, closure := [],
          defaults := Value.none, kwdefaults := Value.none } }
noncomputable def o248v0 (P : Params) : Obj :=
  { cls := Value.type "code",
    data :=
      Data.fields
        #[Value.str (Str.ofString "_law_wrapped_right") 580, Value.str (Str.ofString "_law_wrapped_right") 581, Value.str (Str.ofString "/claim/cut.py") 582, Value.int 216 0, Value.int 5 0,
          Value.int 0 0, Value.int 0 0, Value.int 3 0, Value.ref 243, Value.bool true, Value.int 181 0, Value.ref 244, Value.none, Value.ref 245, Value.ref 246, Value.ref 247, Value.int 595 0,
          Value.int 216 0, Value.str (Str.ofString "/claim/cut.py") 596] }
noncomputable def o249v0 (P : Params) : Obj :=
  { cls := Value.type "function",
    data :=
      Data.func
        { name := Str.ofString "_law_wrapped_right", qualname := Str.ofString "_law_wrapped_right", params := rcP 29, body := FuncBody.stmts (rcB 29), scope := rcS 29, globals := 3, closure := [],
          defaults := Value.none, kwdefaults := Value.none, pyModule := Value.str (Str.ofString "law_nn0019_01") 502, code := Value.ref 248 } }
noncomputable def o250v0 (P : Params) : Obj :=
  { cls := Value.type "tuple", data := Data.seq #[] }
noncomputable def o251v0 (P : Params) : Obj :=
  { cls := Value.none, data := Data.fields #[] }
noncomputable def o252v0 (P : Params) : Obj :=
  { cls := Value.none,
    data :=
      Data.func
        { name := Str.ofString "law", qualname := Str.ofString "law", params := rcP 30, body := FuncBody.stmts (rcB 30), scope := rcS 30, globals := 0, closure := [], defaults := Value.none,
          kwdefaults := Value.none } }
noncomputable def o253v0 (P : Params) : Obj :=
  { cls := Value.type "code",
    data :=
      Data.fields
        #[Value.str (Str.ofString "law") 598, Value.str (Str.ofString "law") 599, Value.str (Str.ofString "/claim/cut.py") 600, Value.int 226 0, Value.int 1 0, Value.int 0 0, Value.int 0 0,
          Value.int 3 0, Value.ref 250, Value.bool true, Value.int 181 0, Value.ref 251, Value.none, Value.none, Value.none, Value.ref 252, Value.int 601 0, Value.int 226 0,
          Value.str (Str.ofString "/claim/cut.py") 602] }
noncomputable def o254v0 (P : Params) : Obj :=
  { cls := Value.type "function",
    data :=
      Data.func
        { name := Str.ofString "law", qualname := Str.ofString "law", params := rcP 30, body := FuncBody.stmts (rcB 30), scope := rcS 30, globals := 3, closure := [], defaults := Value.none,
          kwdefaults := Value.none, pyModule := Value.str (Str.ofString "law_nn0019_01") 502, code := Value.ref 253 } }
noncomputable def hp6 (P : Params) : Heap := ⟨⟨[boot_o_0 P, boot_o_1 P, o2v1 P, o3v6 P, boot_o_4 P, boot_o_5 P, boot_o_6 P, boot_o_7 P, boot_o_8 P, boot_o_9 P, boot_o_10 P, o11v0 P, o12v6 P, o13v0 P, o14v0 P, o15v0 P, o16v0 P, o17v0 P, o18v0 P, o19v0 P, o20v0 P, o21v0 P, o22v0 P, o23v0 P, o24v1 P, o25v0 P, o26v0 P, o27v0 P, o28v0 P, o29v0 P, o30v0 P, o31v0 P, o32v0 P, o33v0 P, o34v0 P, o35v0 P, o36v0 P, o37v0 P, o38v0 P, o39v0 P, o40v0 P, o41v0 P, o42v0 P, o43v0 P, o44v0 P, o45v0 P, o46v0 P, o47v0 P, o48v0 P, o49v0 P, o50v0 P, o51v0 P, o52v0 P, o53v0 P, o54v0 P, o55v0 P, o56v0 P, o57v0 P, o58v0 P, o59v0 P, o60v0 P, o61v0 P, o62v0 P, o63v0 P, o64v0 P, o65v0 P, o66v0 P, o67v0 P, o68v0 P, o69v0 P, o70v0 P, o71v0 P, o72v0 P, o73v0 P, o74v0 P, o75v0 P, o76v0 P, o77v0 P, o78v0 P, o79v0 P, o80v0 P, o81v0 P, o82v0 P, o83v0 P, o84v0 P, o85v0 P, o86v0 P, o87v0 P, o88v0 P, o89v0 P, o90v0 P, o91v0 P, o92v0 P, o93v0 P, o94v0 P, o95v0 P, o96v0 P, o97v0 P, o98v0 P, o99v0 P, o100v0 P, o101v0 P, o102v0 P, o103v0 P, o104v0 P, o105v0 P, o106v0 P, o107v0 P, o108v0 P, o109v0 P, o110v0 P, o111v0 P, o112v0 P, o113v0 P, o114v0 P, o115v0 P, o116v0 P, o117v0 P, o118v0 P, o119v0 P, o120v0 P, o121v0 P, o122v0 P, o123v0 P, o124v0 P, o125v0 P, o126v0 P, o127v0 P, o128v0 P, o129v0 P, o130v0 P, o131v0 P, o132v0 P, o133v0 P, o134v0 P, o135v0 P, o136v0 P, o137v0 P, o138v0 P, o139v0 P, o140v0 P, o141v0 P, o142v0 P, o143v0 P, o144v0 P, o145v0 P, o146v0 P, o147v0 P, o148v0 P, o149v0 P, o150v0 P, o151v0 P, o152v0 P, o153v0 P, o154v0 P, o155v0 P, o156v0 P, o157v0 P, o158v0 P, o159v0 P, o160v0 P, o161v0 P, o162v0 P, o163v0 P, o164v0 P, o165v0 P, o166v0 P, o167v0 P, o168v0 P, o169v0 P, o170v0 P, o171v0 P, o172v0 P, o173v0 P, o174v0 P, o175v0 P, o176v0 P, o177v0 P, o178v0 P, o179v0 P, o180v0 P, o181v0 P, o182v0 P, o183v0 P, o184v0 P, o185v0 P, o186v0 P, o187v0 P, o188v0 P, o189v0 P, o190v0 P, o191v0 P, o192v0 P, o193v0 P, o194v0 P, o195v0 P, o196v0 P, o197v0 P, o198v0 P, o199v0 P, o200v0 P, o201v0 P, o202v0 P, o203v0 P, o204v0 P, o205v0 P, o206v0 P, o207v0 P, o208v0 P, o209v0 P, o210v0 P, o211v0 P, o212v0 P, o213v0 P, o214v0 P, o215v0 P, o216v0 P, o217v0 P, o218v0 P, o219v0 P, o220v0 P, o221v0 P, o222v0 P, o223v0 P, o224v0 P, o225v0 P, o226v0 P, o227v0 P, o228v0 P, o229v0 P, o230v0 P, o231v0 P, o232v0 P, o233v0 P, o234v0 P, o235v0 P, o236v0 P, o237v0 P, o238v0 P, o239v0 P, o240v0 P, o241v0 P, o242v0 P, o243v0 P, o244v0 P, o245v0 P, o246v0 P, o247v0 P, o248v0 P, o249v0 P, o250v0 P, o251v0 P, o252v0 P, o253v0 P, o254v0 P]⟩, { }⟩
noncomputable def hp7 (P : Params) : Heap := ⟨⟨[boot_o_0 P, boot_o_1 P, o2v1 P, o3v6 P, boot_o_4 P, boot_o_5 P, boot_o_6 P, boot_o_7 P, boot_o_8 P, boot_o_9 P, boot_o_10 P, o11v0 P, o12v6 P, o13v0 P, o14v0 P, o15v0 P, o16v0 P, o17v0 P, o18v0 P, o19v0 P, o20v0 P, o21v0 P, o22v0 P, o23v0 P, o24v1 P, o25v0 P, o26v0 P, o27v0 P, o28v0 P, o29v0 P, o30v0 P, o31v0 P, o32v0 P, o33v0 P, o34v0 P, o35v0 P, o36v0 P, o37v0 P, o38v0 P, o39v0 P, o40v0 P, o41v0 P, o42v0 P, o43v0 P, o44v0 P, o45v0 P, o46v0 P, o47v0 P, o48v0 P, o49v0 P, o50v0 P, o51v0 P, o52v0 P, o53v0 P, o54v0 P, o55v0 P, o56v0 P, o57v0 P, o58v0 P, o59v0 P, o60v0 P, o61v0 P, o62v0 P, o63v0 P, o64v0 P, o65v0 P, o66v0 P, o67v0 P, o68v0 P, o69v0 P, o70v0 P, o71v0 P, o72v0 P, o73v0 P, o74v0 P, o75v0 P, o76v0 P, o77v0 P, o78v0 P, o79v0 P, o80v0 P, o81v0 P, o82v0 P, o83v0 P, o84v0 P, o85v0 P, o86v0 P, o87v0 P, o88v0 P, o89v0 P, o90v0 P, o91v0 P, o92v0 P, o93v0 P, o94v0 P, o95v0 P, o96v0 P, o97v0 P, o98v0 P, o99v0 P, o100v0 P, o101v0 P, o102v0 P, o103v0 P, o104v0 P, o105v0 P, o106v0 P, o107v0 P, o108v0 P, o109v0 P, o110v0 P, o111v0 P, o112v0 P, o113v0 P, o114v0 P, o115v0 P, o116v0 P, o117v0 P, o118v0 P, o119v0 P, o120v0 P, o121v0 P, o122v0 P, o123v0 P, o124v0 P, o125v0 P, o126v0 P, o127v0 P, o128v0 P, o129v0 P, o130v0 P, o131v0 P, o132v0 P, o133v0 P, o134v0 P, o135v0 P, o136v0 P, o137v0 P, o138v0 P, o139v0 P, o140v0 P, o141v0 P, o142v0 P, o143v0 P, o144v0 P, o145v0 P, o146v0 P, o147v0 P, o148v0 P, o149v0 P, o150v0 P, o151v0 P, o152v0 P, o153v0 P, o154v0 P, o155v0 P, o156v0 P, o157v0 P, o158v0 P, o159v0 P, o160v0 P, o161v0 P, o162v0 P, o163v0 P, o164v0 P, o165v0 P, o166v0 P, o167v0 P, o168v0 P, o169v0 P, o170v0 P, o171v0 P, o172v0 P, o173v0 P, o174v0 P, o175v0 P, o176v0 P, o177v0 P, o178v0 P, o179v0 P, o180v0 P, o181v0 P, o182v0 P, o183v0 P, o184v0 P, o185v0 P, o186v0 P, o187v0 P, o188v0 P, o189v0 P, o190v0 P, o191v0 P, o192v0 P, o193v0 P, o194v0 P, o195v0 P, o196v0 P, o197v0 P, o198v0 P, o199v0 P, o200v0 P, o201v0 P, o202v0 P, o203v0 P, o204v0 P, o205v0 P, o206v0 P, o207v0 P, o208v0 P, o209v0 P, o210v0 P, o211v0 P, o212v0 P, o213v0 P, o214v0 P, o215v0 P, o216v0 P, o217v0 P, o218v0 P, o219v0 P, o220v0 P, o221v0 P, o222v0 P, o223v0 P, o224v0 P, o225v0 P, o226v0 P, o227v0 P, o228v0 P, o229v0 P, o230v0 P, o231v0 P, o232v0 P, o233v0 P, o234v0 P, o235v0 P, o236v0 P, o237v0 P, o238v0 P, o239v0 P, o240v0 P, o241v0 P, o242v0 P, o243v0 P, o244v0 P, o245v0 P, o246v0 P, o247v0 P, o248v0 P, o249v0 P, o250v0 P, o251v0 P, o252v0 P, o253v0 P, o254v0 P]⟩, { }⟩

abbrev hQ : Pos := ⟨0, 0, 0, 0⟩
noncomputable def hEnv : Env := { scope := PW.main.scope, locals := mainNs, globals := mainNs, cells := [], code := .ref 13, frame := some 14 }
noncomputable def hB (a n : Nat) : List Stmt := (PW.main.body.drop a).take n
noncomputable def hBody : List Stmt := hB 0 2 ++ (hB 2 1 ++ (hB 3 8 ++ (hB 11 8 ++ (hB 19 8 ++ (hB 27 9 ++ [])))))
noncomputable abbrev hC : Code := .body hBody hEnv
noncomputable abbrev hS (h : Params → Heap) (k : Nat) (w : World) (os : OsState) : Shared := ⟨h w.params, #[], {}, k, os⟩
abbrev hAn : Option Value := some (.ref 6)

theorem h_pre : ∀ (w : World) (os : OsState), topGo treeTable PW w 11 hAn 12 ⟨boot_heap w.params, #[], boot_drawn, boot_toks, os⟩ (topStub PW) = some (hS hp0 187 w os, ⟨denote treeTable hC, hC, hQ, [topFrame hQ]⟩) := by
  intro w os; kernel_rfl
theorem h_block : ∀ (w : World) (os : OsState), segRun treeTable PW w 11 hAn 1 1 (hS hp0 187 w os) (blockOf hBody hEnv hC hQ [topFrame hQ]) = some (.next, hS hp0 187 w os, hC, hQ) := by
  intro w os; kernel_rfl
theorem h_1 : ∀ (w : World) (os : OsState), segRun treeTable PW w 11 hAn 1 300 (hS hp0 187 w os) (piecesOf (hB 0 2) hEnv hC hQ [topFrame hQ]) = some (.next, hS hp1 209 w os, hC, ⟨2, 0, 3, 8⟩) := by
  intro w os; kernel_rfl
theorem h_2 : ∀ (w : World) (os : OsState), segRun treeTable PW w 11 hAn 1 300 (hS hp1 209 w os) (piecesOf (hB 2 1) hEnv hC ⟨2, 0, 3, 8⟩ [topFrame hQ]) = some (.next, hS hp2 225 w os, hC, ⟨4, 0, 5, 8⟩) := by
  intro w os; kernel_rfl
theorem h_3 : ∀ (w : World) (os : OsState), segRun treeTable PW w 11 hAn 1 300 (hS hp2 225 w os) (piecesOf (hB 3 8) hEnv hC ⟨4, 0, 5, 8⟩ [topFrame hQ]) = some (.next, hS hp3 309 w os, hC, ⟨52, 0, 58, 24⟩) := by
  intro w os; kernel_rfl
theorem h_4 : ∀ (w : World) (os : OsState), segRun treeTable PW w 11 hAn 1 300 (hS hp3 309 w os) (piecesOf (hB 11 8) hEnv hC ⟨52, 0, 58, 24⟩ [topFrame hQ]) = some (.next, hS hp4 403 w os, hC, ⟨104, 0, 107, 65⟩) := by
  intro w os; kernel_rfl
theorem h_5 : ∀ (w : World) (os : OsState), segRun treeTable PW w 11 hAn 1 300 (hS hp4 403 w os) (piecesOf (hB 19 8) hEnv hC ⟨104, 0, 107, 65⟩ [topFrame hQ]) = some (.next, hS hp5 502 w os, hC, ⟨156, 0, 158, 58⟩) := by
  intro w os; kernel_rfl
theorem h_6 : ∀ (w : World) (os : OsState), segRun treeTable PW w 11 hAn 1 300 (hS hp5 502 w os) (piecesOf (hB 27 9) hEnv hC ⟨156, 0, 158, 58⟩ [topFrame hQ]) = some (.next, hS hp6 604 w os, hC, ⟨226, 0, 241, 72⟩) := by
  intro w os; kernel_rfl
theorem h_fin : ∀ (w : World) (os : OsState), topRun treeTable PW w 11 hAn 2 (hS hp6 604 w os) ⟨doneF .next, hC, ⟨226, 0, 241, 72⟩, [topFrame hQ]⟩ = some (hS hp7 604 w os) := by
  intro w os; kernel_rfl

/-! HE -/
noncomputable def hM : Nat := 12 + (1 + (300 + (300 + (300 + (300 + (300 + (300 + 2)))))))
theorem h_run (w : World) (os : OsState) : topRun treeTable PW w 11 hAn hM ⟨boot_heap w.params, Array.mk [], boot_drawn, boot_toks, os⟩ (topStub PW) = some (hS hp7 604 w os) :=
  go_top (h_pre w os) (piece_block (h_block w os) (piece_app (h_1 w os) (piece_app (h_2 w os) (piece_app (h_3 w os) (piece_app (h_4 w os) (piece_app (h_5 w os) (piece_app (h_6 w os) (piece_nil (h_fin w os)))))))))
theorem h_size : ∀ w : World, ((boot_heap w.params).isNs mainGlobals && (Array.mk [] : Array GenState).size == 0, (boot_heap w.params).objs.size, (boot_heap w.params).nsMap mainGlobals "__annotations__") = (true, 11, hAn) := by
  intro w; kernel_rfl
theorem h_opening : opening PW = plainProg PW.main.scope.names := by kernel_rfl
theorem h_open : ∀ w : World, (fencedOpening treeTable PW w 3000).map (fun s => (s.heap, s.gens, s.drawn, s.toks)) = some (boot_heap w.params, Array.mk [], boot_drawn, boot_toks) :=
  boot_open h_opening (by decide +kernel) (by intro s; kernel_rfl)
/-- the view: the text's classes and defs -/
noncomputable def vw : Program := { PW with main := { PW.main with body := hB 1 10 ++ (hB 12 15 ++ hB 28 8) } }
abbrev hR : WRecords := (OpenRow.toRowW (OpenLaw.row PySem.Challenge.rw_nn0019_01)).records
noncomputable abbrev hX (s : Shared) : Bool := xlAt vw [] s && recOk hR s
theorem h_left : LeftO PW vw [] hX (Hook.obs Hook.none) (Hook.val Hook.none) 3000 :=
  LeftO.of_pieces (H₀ := boot_heap) (H₁ := hp7) (m₀ := 11) (ann := hAn) (M := hM) (gs₁ := #[]) (d₁ := {}) (k₁ := 604) h_open h_size h_run (by decide +kernel) (by intro w; kernel_rfl)

end NN

set_option maxRecDepth 100000 in
set_option maxHeartbeats 8000000 in
theorem PySem.Challenge.cw_nn0019_01_holds : PySem.Challenge.rw_nn0019_01.Holds := by
  w_on
  o_law
  refine holds_open (q := NN.vw) (loose := []) (Xt := NN.hX) (XP := XL NN.vw []) (Yf := Hook.obs Hook.none) (Ya := Hook.val Hook.none) (YP := Hook.says Hook.none) (N := 3000) NN.h_left (Hook.of Hook.none) (Hook.keeps Hook.none)
    (fun s e => xl_of s (Bool.and_eq_true_iff.mp e).1) XL.keeps (by rfl) (by rfl) (by rfl) (fun s e => recFacts_of (Bool.and_eq_true_iff.mp e).2) (by rfl) (by first | assumption | decide +kernel) (by decide +kernel) ⟨rfl, rfl, rfl, rfl, rfl, by decide +kernel⟩ ?hw ?hc
  case hw => w_witness2
  intro w s₀ s₁ mg mb G Y fa o pm cd doc dV kV ho hd hcd hD hmg hg args vals as hpre hlay hrd hwl hlo
  refine Ground.open G ?_
  intro T B D TE TW
  obtain ⟨_, _, he, B0⟩ := based_of_top T rfl hmg ho hd
  have he' : cd = _ := he
  subst he'
  clear he
  clear hmg
  wrow_args hpre hlay hrd hwl hlo
  refine enter_call ?_
  w_top on
  refine codeAny_mono ?_ (fun _ _ g => GoodW.toG g)
  w_call any ho hd hcd hD T F
  rename_i w7 w6 xs hs hl0 hL1 hr1 hl2 w4 w3 sa vs w0 hL ra w1 r0 hI hr hc1 hc2 h₁ N0
  refine NN.law_end T ?h1 ?h2 ?h3 ?h4 ?h5 ?h6 ?h7 ?h8 hL hI hc1 F ?h9
  case h1 => rfl
  case h2 => exact T.free _ (by decide +kernel) (by decide +kernel) (by decide +kernel) (by decide +kernel) (by decide +kernel)
  case h3 => exact T.free _ (by decide +kernel) (by decide +kernel) (by decide +kernel) (by decide +kernel) (by decide +kernel)
  case h4 => exact T.free _ (by decide +kernel) (by decide +kernel) (by decide +kernel) (by decide +kernel) (by decide +kernel)
  case h5 => exact T.free _ (by decide +kernel) (by decide +kernel) (by decide +kernel) (by decide +kernel) (by decide +kernel)
  case h6 => exact T.free _ (by decide +kernel) (by decide +kernel) (by decide +kernel) (by decide +kernel) (by decide +kernel)
  case h7 => exact T.free _ (by decide +kernel) (by decide +kernel) (by decide +kernel) (by decide +kernel) (by decide +kernel)
  case h8 => rfl
  case h9 =>
    intro s' e1 e3 hb
    exact ⟨.inl ⟨.bool true, .bool true, [], rfl, fun _ => rfl, .bool true, NN.post_true _, unshared_nil⟩, hb, e3, e1.trans hg⟩
