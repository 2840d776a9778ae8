import PyProof.Rows.All
import Wide.All
import OpenK.AllK
import Wide.FinOn
import KE.KStateDown
import HandS.ForMost
import HandS.ForExc
import HandS.Defaults
import HandS.Wide
import HandS.IsInst
import HandS.Style
import HandS.More
import HandS.Deep
import HandS.Codes
import HandS.Conv
import HandS.ExcIs
import HandS.Head0
import HandS.Head1
import HandS.Head2
import HandS.HeadEnd
import HandS.HeadHook1
import HandS.HeadHook2
import HandS.HeadHook3
import HandS.HeadHook4
import PySem.Challenge.RW_countout_k01_rings_laid_out
set_option Elab.async false
set_option linter.all false
set_option maxRecDepth 100000
set_option maxHeartbeats 4000000
namespace Jo
/-! ### rings as lists -/
def rotL {α : Type} (xs : List α) (k : Nat) : List α := xs.drop k ++ xs.take k
theorem rotL_length {α : Type} (xs : List α) (k : Nat) : (rotL xs k).length = xs.length := by
  unfold rotL
  rw [List.length_append, List.length_drop, List.length_take]
  omega
theorem rotL_map {α β : Type} (f : α → β) (xs : List α) (k : Nat) : rotL (xs.map f) k = (rotL xs k).map f := by
  unfold rotL
  rw [List.map_append, List.map_drop, List.map_take]
theorem rotL_perm {α : Type} (xs : List α) (k : Nat) : (rotL xs k).Perm xs := by
  unfold rotL
  have h : (xs.drop k ++ xs.take k).Perm (xs.take k ++ xs.drop k) := List.perm_append_comm
  rw [List.take_append_drop] at h
  exact h
theorem rotL_get {α : Type} (xs : List α) (k i : Nat) (hk : k ≤ xs.length) (hi : i < xs.length) : (rotL xs k)[i]? = xs[(i + k) % xs.length]? := by
  unfold rotL
  by_cases h : i < xs.length - k
  · rw [List.getElem?_append_left (by rw [List.length_drop]; exact h), List.getElem?_drop, Nat.mod_eq_of_lt (by omega)]
    congr 1
    omega
  · rw [List.getElem?_append_right (by rw [List.length_drop]; omega), List.length_drop, List.getElem?_take]
    have e : (i + k) % xs.length = i - (xs.length - k) := by
      rw [Nat.mod_eq_sub_mod (by omega), Nat.mod_eq_of_lt (by omega)]
      omega
    rw [e, if_pos (by omega)]
/-- counted out by the step t + 1: n turns -/
def outN {α : Type} (t : Nat) : Nat → List α → List α
  | 0, _ => []
  | n + 1, xs => match rotL xs (t % xs.length) with
    | [] => []
    | h :: r => h :: outN t n r
def out {α : Type} (t : Nat) (xs : List α) : List α := outN t xs.length xs
theorem out_nil {α : Type} (t : Nat) : out t ([] : List α) = [] := rfl
theorem out_step {α : Type} {t : Nat} {xs : List α} {h : α} {r : List α} (e : rotL xs (t % xs.length) = h :: r) : out t xs = h :: out t r := by
  have l : r.length + 1 = xs.length := by
    rw [← rotL_length xs (t % xs.length), e]
    rfl
  unfold out
  rw [← l]
  rw [outN, e]
theorem rot_cons {α : Type} (t : Nat) {xs : List α} (h : xs ≠ []) : ∃ x r, rotL xs (t % xs.length) = x :: r ∧ r.length + 1 = xs.length := by
  cases e : rotL xs (t % xs.length) with
  | nil =>
    have l := rotL_length xs (t % xs.length)
    rw [e] at l
    exact absurd (List.eq_nil_of_length_eq_zero l.symm) h
  | cons x r =>
    have l := rotL_length xs (t % xs.length)
    rw [e] at l
    exact ⟨x, r, rfl, l⟩
/-- induction along the counting out -/
theorem out_ind {α : Type} (t : Nat) {M : List α → Prop} (h0 : M []) (h1 : ∀ xs x r, xs ≠ [] → rotL xs (t % xs.length) = x :: r → r.length + 1 = xs.length → M r → M xs) (xs : List α) : M xs := by
  generalize hn : xs.length = n
  induction n generalizing xs with
  | zero => rw [List.eq_nil_of_length_eq_zero hn]; exact h0
  | succ n ih =>
    have hne : xs ≠ [] := fun q => by rw [q] at hn; cases hn
    obtain ⟨x, r, e, l⟩ := rot_cons t hne
    exact h1 xs x r hne e l (ih r (by omega))
theorem out_map {α β : Type} (t : Nat) (f : α → β) (xs : List α) : out t (xs.map f) = (out t xs).map f := by
  induction xs using out_ind t with
  | h0 => rfl
  | h1 xs x r hne e l ih =>
    rw [out_step e]
    have e2 : rotL (xs.map f) (t % (xs.map f).length) = f x :: r.map f := by
      rw [List.length_map, rotL_map, e, List.map_cons]
    rw [out_step e2, ih, List.map_cons]
theorem out_perm {α : Type} (t : Nat) (xs : List α) : (out t xs).Perm xs := by
  induction xs using out_ind t with
  | h0 => exact List.Perm.refl _
  | h1 xs x r hne e l ih =>
    rw [out_step e]
    have h : (x :: r).Perm xs := by
      rw [← e]
      exact rotL_perm xs _
    exact (List.Perm.cons x ih).trans h
theorem out_length {α : Type} (t : Nat) (xs : List α) : (out t xs).length = xs.length := (out_perm t xs).length_eq
theorem out_mod {α : Type} {t u : Nat} {n : Nat} {xs : List α} (hn : xs.length = n) (h : ∀ m, 0 < m → m ≤ n → t % m = u % m) : out t xs = out u xs := by
  induction xs using out_ind t generalizing n with
  | h0 => rfl
  | h1 xs x r hne e l ih =>
    rw [out_step e]
    have e2 : rotL xs (u % xs.length) = x :: r := by
      rw [← h xs.length (by omega) (by omega)]
      exact e
    rw [out_step e2, ih (n := r.length) rfl fun m h1 h2 => h m h1 (by omega)]
/-! ### places by numbers -/
/-- the place, begun at 0 in a ring of n, of the one who is told the number N, counted on and on (s the step) -/
def pos (s : Nat) : Nat → Nat → Nat
  | 0, _ => 0
  | n + 1, N => if N ≤ s then (N - 1) % (n + 1) else (pos s n (N - s) + s) % (n + 1)
theorem pos_lt (s n N : Nat) (h : 0 < n) : pos s n N < n := by
  cases n with
  | zero => cases h
  | succ n =>
    unfold pos
    split
    · exact Nat.mod_lt _ (Nat.succ_pos n)
    · exact Nat.mod_lt _ (Nat.succ_pos n)
theorem pos_low {s n N : Nat} (h : N ≤ s) : pos s (n + 1) N = (N - 1) % (n + 1) := if_pos h
theorem pos_high {s n N : Nat} (h : s < N) : pos s (n + 1) N = (pos s n (N - s) + s) % (n + 1) := if_neg (by omega)
/-- told at the first round -/
theorem pos_first {s : Nat} (hs : 1 ≤ s) : ∀ {n N : Nat}, 1 ≤ N → N ≤ n → pos s n N = N - 1
  | 0, N, h1, h2 => by omega
  | n + 1, N, h1, h2 => by
    by_cases h : N ≤ s
    · rw [pos_low h, Nat.mod_eq_of_lt (by omega)]
    · rw [pos_high (by omega), pos_first hs (n := n) (N := N - s) (by omega) (by omega), Nat.mod_eq_of_lt (by omega)]
      omega
theorem div_zero {a b : Nat} (h : a < b) : a / b = 0 := Nat.div_eq_of_lt h
/-- the number that one was told ahead of N -/
def prev (s n N : Nat) : Nat := N - n + (N - n - 1) / (s - 1)
theorem pos_prev {s : Nat} (hs : 2 ≤ s) : ∀ {n N : Nat}, n < N → N ≤ n * s → pos s n (prev s n N) = pos s n N
  | 0, N, h1, h2 => by
    rw [Nat.zero_mul] at h2
    omega
  | n + 1, N, h1, h2 => by
    by_cases h : N ≤ s
    · have z : (N - (n + 1) - 1) / (s - 1) = 0 := div_zero (by omega)
      have e : prev s (n + 1) N = N - (n + 1) := by
        unfold prev
        rw [z]
        omega
      rw [e, pos_low (by omega), pos_low h]
      have e2 : N - 1 = N - (n + 1) - 1 + (n + 1) := by omega
      rw [e2, Nat.add_mod_right]
    · have hN : N - s ≤ n * s := by
        rw [Nat.succ_mul] at h2
        omega
      rw [pos_high (show s < N by omega)]
      by_cases h3 : N - s ≤ n
      · rw [pos_first (by omega) (by omega) h3]
        have z : (N - (n + 1) - 1) / (s - 1) = 0 := div_zero (by omega)
        have e : prev s (n + 1) N = N - (n + 1) := by
          unfold prev
          rw [z]
          omega
        rw [e, pos_low (by omega)]
        have e2 : N - s - 1 + s = N - (n + 1) - 1 + (n + 1) := by omega
        rw [e2, Nat.add_mod_right]
      · have ih := pos_prev hs (n := n) (N := N - s) (by omega) hN
        have e : prev s (n + 1) N = prev s n (N - s) + s := by
          unfold prev
          have d : N - (n + 1) - 1 = N - s - n - 1 + (s - 1) := by omega
          rw [d, Nat.add_div_right _ (show 0 < s - 1 by omega)]
          omega
        have p : 1 ≤ prev s n (N - s) := by
          unfold prev
          generalize (N - s - n - 1) / (s - 1) = k
          omega
        rw [e, pos_high (by omega), Nat.add_sub_cancel, ih]
theorem prev_lt {s n N : Nat} (hs : 2 ≤ s) (h1 : n < N) (h2 : N ≤ n * s) : prev s n N < N := by
  unfold prev
  have h3 : (N - n - 1) / (s - 1) < n := by
    rw [Nat.div_lt_iff_lt_mul (by omega)]
    have e : n * s = n * (s - 1) + n := by
      have e2 : s = s - 1 + 1 := by omega
      rw [e2, Nat.mul_succ, Nat.add_sub_cancel]
    omega
  omega
theorem prev_pos {s n N : Nat} (h1 : n < N) : 1 ≤ prev s n N := by
  unfold prev
  generalize (N - n - 1) / (s - 1) = k
  omega
/-- the number that one is told next -/
theorem next_prev {s n N : Nat} (hs : 2 ≤ s) (h0 : 0 < N % s) (h2 : N ≤ n * s) : n < n + N - N / s ∧ n + N - N / s ≤ n * s ∧ N < n + N - N / s ∧ prev s n (n + N - N / s) = N := by
  have d := Nat.div_add_mod N s
  have m := Nat.mod_lt N (show 0 < s by omega)
  have q : N / s < n := by
    rw [Nat.div_lt_iff_lt_mul (by omega)]
    by_cases e : N = n * s
    · rw [e, Nat.mul_mod_left] at h0
      omega
    · omega
  have e1 : s * (N / s) = (s - 1) * (N / s) + N / s := by
    have e2 : s = s - 1 + 1 := by omega
    generalize N / s = k
    rw [e2, Nat.succ_mul, Nat.add_sub_cancel]
  have e3 : (s - 1) * (N / s + 1) ≤ (s - 1) * n := Nat.mul_le_mul_left _ q
  have e4 : n * s = (s - 1) * n + n := by
    have e2 : s = s - 1 + 1 := by omega
    generalize s - 1 = k at e2
    rw [e2, Nat.mul_succ, Nat.mul_comm]
  rw [Nat.mul_succ] at e3
  refine ⟨by omega, by omega, by omega, ?_⟩
  unfold prev
  have e5 : (n + N - N / s - n - 1) / (s - 1) = N / s := by
    have e6 : n + N - N / s - n - 1 = (N % s - 1) + (s - 1) * (N / s) := by omega
    rw [e6, Nat.add_mul_div_left _ _ (by omega), div_zero (by omega), Nat.zero_add]
  rw [e5]
  omega
/-! ### the ring of the places -/
theorem rot_range {n k : Nat} (hk : k < n + 1) : rotL (List.range (n + 1)) k = k :: (List.range n).map fun p => (p + 1 + k) % (n + 1) := by
  apply List.ext_getElem?
  intro i
  by_cases hi : i < n + 1
  · rw [rotL_get _ _ _ (by rw [List.length_range]; omega) (by rw [List.length_range]; exact hi), List.length_range, List.getElem?_range (Nat.mod_lt _ (Nat.succ_pos n))]
    cases i with
    | zero =>
      rw [Nat.zero_add, Nat.mod_eq_of_lt hk]
      rfl
    | succ i =>
      rw [List.getElem?_cons_succ, List.getElem?_map, List.getElem?_range (by omega)]
      rfl
  · rw [List.getElem?_eq_none (by rw [rotL_length, List.length_range]; omega), List.getElem?_eq_none (by rw [List.length_cons, List.length_map, List.length_range]; omega)]
theorem mod_add_mod2 (a b n : Nat) : (a + b % n) % n = (a + b) % n := Nat.add_mod_mod a b n
theorem out_range {s : Nat} (hs : 1 ≤ s) : ∀ {n c : Nat}, c < n → (out (s - 1) (List.range n))[c]? = some (pos s n ((c + 1) * s))
  | 0, c, h => by omega
  | n + 1, c, h => by
    have e := rot_range (n := n) (k := (s - 1) % (n + 1)) (Nat.mod_lt _ (Nat.succ_pos n))
    have e2 : rotL (List.range (n + 1)) ((s - 1) % (List.range (n + 1)).length) = (s - 1) % (n + 1) :: (List.range n).map fun p => (p + 1 + (s - 1) % (n + 1)) % (n + 1) := by
      rw [List.length_range]
      exact e
    rw [out_step e2, out_map]
    cases c with
    | zero =>
      rw [Nat.zero_add, Nat.one_mul, pos_low (Nat.le_refl s)]
      rfl
    | succ c =>
      rw [List.getElem?_cons_succ, List.getElem?_map, out_range hs (n := n) (c := c) (by omega)]
      have e3 : (c + 1 + 1) * s = (c + 1) * s + s := Nat.succ_mul _ _
      have e4 : 0 < (c + 1) * s := Nat.mul_pos (by omega) (by omega)
      rw [e3, pos_high (by omega), Nat.add_sub_cancel]
      show some ((pos s n ((c + 1) * s) + 1 + (s - 1) % (n + 1)) % (n + 1)) = _
      rw [mod_add_mod2]
      congr 2
      omega
theorem out_range_nodup (t n : Nat) : (out t (List.range n)).Nodup := (out_perm t (List.range n)).nodup_iff.mpr List.nodup_range
/-- different counts, different places -/
theorem pos_inj {s n c d : Nat} (hs : 1 ≤ s) (hc : c < n) (hd : d < n) (h : pos s n ((c + 1) * s) = pos s n ((d + 1) * s)) : c = d := by
  have e1 := out_range hs hc
  have e2 := out_range hs hd
  rw [h] at e1
  have hN := out_range_nodup (s - 1) n
  obtain ⟨l1, g1⟩ := List.getElem?_eq_some_iff.mp e1
  obtain ⟨l2, g2⟩ := List.getElem?_eq_some_iff.mp e2
  exact (List.getElem_inj hN).mp (g1.trans g2.symm)
end Jo
namespace Jo
/-! ### hand by hand -/
theorem rotL_zero {α : Type} (xs : List α) : rotL xs 0 = xs := by
  unfold rotL
  rw [List.drop_zero, List.take_zero, List.append_nil]
theorem rotL_ext {α : Type} {xs : List α} {k j : Nat} (hk : k ≤ xs.length) (ys : List α) (hl : ys.length = xs.length) (h : ∀ i, i < xs.length → ys[i]? = xs[(i + k) % xs.length]?) : ys = rotL xs k := by
  apply List.ext_getElem?
  intro i
  by_cases hi : i < xs.length
  · rw [rotL_get xs k i hk hi, h i hi]
  · rw [List.getElem?_eq_none (by omega), List.getElem?_eq_none (by rw [rotL_length]; omega)]
/-- one hand more -/
theorem rotL_more {α : Type} (x : α) (r : List α) (k : Nat) : rotL (r ++ [x]) (k % (x :: r).length) = rotL (x :: r) ((k + 1) % (x :: r).length) := by
  have hn : 0 < (x :: r).length := Nat.succ_pos _
  have l : (r ++ [x]).length = (x :: r).length := by rw [List.length_append]; rfl
  have m1 := Nat.mod_lt k hn
  have m2 := Nat.mod_lt (k + 1) hn
  refine rotL_ext (j := 0) (Nat.le_of_lt m2) _ (by rw [rotL_length, l]) fun i hi => ?_
  rw [rotL_get _ _ _ (by rw [l]; omega) (by rw [l]; exact hi), l]
  have e : ∀ j, j < (x :: r).length → (r ++ [x])[j]? = (x :: r)[(j + 1) % (x :: r).length]? := fun j hj => by
    have hj' : j < r.length + 1 := hj
    by_cases h : j < r.length
    · rw [List.getElem?_append_left h, Nat.mod_eq_of_lt (by show j + 1 < r.length + 1; omega), List.getElem?_cons_succ]
    · have ej : j = r.length := by omega
      subst ej
      rw [List.getElem?_append_right (Nat.le_refl _), Nat.sub_self]
      have z : (r.length + 1) % (x :: r).length = 0 := Nat.mod_self _
      rw [z]
      rfl
  rw [e _ (Nat.mod_lt _ hn)]
  congr 1
  rw [Nat.mod_add_mod, Nat.add_mod_mod]
  have a1 : i + k % (x :: r).length + 1 = (i + 1) + k % (x :: r).length := by omega
  rw [a1, Nat.add_mod_mod]
  congr 1
  omega
theorem told_mod {s n : Nat} (hs : 1 ≤ s) (hn : 0 < n) : (s % n + 2 * n - 1) % n = (s - 1) % n := by
  have h := Nat.div_add_mod s n
  by_cases e : s % n = 0
  · have e1 : s % n + 2 * n - 1 = n - 1 + n := by omega
    have hq : 0 < s / n := by
      rcases Nat.eq_zero_or_pos (s / n) with z | z
      · rw [z, Nat.mul_zero] at h
        omega
      · exact z
    have e2 : s - 1 = n - 1 + n * (s / n - 1) := by
      have e3 : n * (s / n) = n * (s / n - 1) + n := by
        have e4 : s / n = s / n - 1 + 1 := by omega
        generalize s / n - 1 = k at e4
        rw [e4, Nat.mul_succ]
      omega
    rw [e1, Nat.add_mod_right, e2, Nat.add_mul_mod_self_left]
  · have e1 : s % n + 2 * n - 1 = (s % n - 1) + n * 2 := by omega
    have e2 : s - 1 = (s % n - 1) + n * (s / n) := by omega
    rw [e1, Nat.add_mul_mod_self_left, e2, Nat.add_mul_mod_self_left]
end Jo
namespace Jo
theorem rot_range_map {n b : Nat} (hb : b < n) : rotL (List.range n) b = (List.range n).map fun p => (p + b) % n := by
  apply List.ext_getElem?
  intro i
  by_cases hi : i < n
  · rw [rotL_get _ _ _ (by rw [List.length_range]; omega) (by rw [List.length_range]; exact hi), List.length_range,
      List.getElem?_range (Nat.mod_lt _ (by omega)), List.getElem?_map, List.getElem?_range hi]
    rfl
  · rw [List.getElem?_eq_none (by rw [rotL_length, List.length_range]; omega), List.getElem?_eq_none (by rw [List.length_map, List.length_range]; omega)]
/-- a place told from the beginning b, and back -/
theorem turn_back {n b x : Nat} (hb : b < n) (hx : x < n) : ((b + x) % n + n - b) % n = x := by
  by_cases h : b + x < n
  · rw [Nat.mod_eq_of_lt h]
    have e : b + x + n - b = x + n := by omega
    rw [e, Nat.add_mod_right, Nat.mod_eq_of_lt hx]
  · have e : (b + x) % n = b + x - n := by rw [Nat.mod_eq_sub_mod (by omega), Nat.mod_eq_of_lt (by omega)]
    rw [e]
    have e2 : b + x - n + n - b = x := by omega
    rw [e2, Nat.mod_eq_of_lt hx]
theorem cnt_unique {n s b i c : Nat} (hs : 1 ≤ s) (hb : b < n) (hi : i < n) (c1 : 1 ≤ c) (c2 : c ≤ n)
    (h : pos s n (c * s) = ((b + pos s n ((i + 1) * s)) % n + n - b) % n) : c = i + 1 := by
  rw [turn_back hb (pos_lt _ _ _ (by omega))] at h
  have e : c = c - 1 + 1 := by omega
  rw [e] at h
  have := pos_inj hs (by omega) hi h
  omega
end Jo
namespace Jo
/-- many hands more at once, where no round ends -/
theorem pos_leap {s m N : Nat} (hs : 1 ≤ s) (hN : 1 ≤ N) : ∀ L : Nat, pos s m N + (s - 1) * L < m → pos s (m + L) (N + L * s) = pos s m N + s * L
  | 0, _ => by rw [Nat.zero_mul, Nat.mul_zero, Nat.add_zero, Nat.add_zero, Nat.add_zero]
  | L + 1, h => by
    have h1 : (s - 1) * (L + 1) = (s - 1) * L + (s - 1) := Nat.mul_succ _ _
    have h2 : s * (L + 1) = (s - 1) * (L + 1) + (L + 1) := by
      have e : s = s - 1 + 1 := by omega
      generalize s - 1 = k at e
      rw [e, Nat.succ_mul]
    have h3 : s * (L + 1) = s * L + s := Nat.mul_succ _ _
    have ih := pos_leap hs hN (m := m) L (by omega)
    have e1 : N + (L + 1) * s = N + L * s + s := by
      rw [Nat.succ_mul, Nat.add_assoc]
    have e2 : m + (L + 1) = m + L + 1 := rfl
    rw [e1, e2, pos_high (by omega), Nat.add_sub_cancel, ih, Nat.mod_eq_of_lt (by omega)]
    omega
/-- one hand more, or many where no round ends -/
theorem pos_leap1 {s m N L : Nat} (hs : 1 ≤ s) (hN : 1 ≤ N) (h : L = 1 ∨ pos s m N + (s - 1) * L < m) : pos s (m + L) (N + L * s) = (pos s m N + s * L) % (m + L) := by
  rcases h with rfl | h
  · rw [Nat.one_mul, Nat.mul_one, pos_high (by omega), Nat.add_sub_cancel]
  · rw [pos_leap hs hN L h, Nat.mod_eq_of_lt]
    have h2 : s * L = (s - 1) * L + L := by
      have e : s = s - 1 + 1 := by omega
      generalize s - 1 = k at e
      rw [e, Nat.succ_mul]
    omega
/-- a place turned by the beginning -/
theorem turn_fwd {n b p : Nat} (hb : b < n) (hp : p < n) : (b + (p + n - b) % n) % n = p := by
  rw [Nat.add_mod_mod]
  have e : b + (p + n - b) = p + n := by omega
  rw [e, Nat.add_mod_right, Nat.mod_eq_of_lt hp]
end Jo
namespace Jo
theorem turn_inv {n L b p : Nat} (hL : L < n) (hb : b < n) (hp : p < n) : (b + L) % n = p ↔ b = (p + n - L) % n := by
  constructor
  · intro h
    have e := turn_back hL hb
    rw [Nat.add_comm L b, h] at e
    exact e.symm
  · intro h
    have e := turn_fwd hL hp
    rw [← h, Nat.add_comm] at e
    exact e
end Jo
namespace Jo
/-- each place goes at some count -/
theorem pos_surj {s n x : Nat} (hs : 1 ≤ s) (hx : x < n) : ∃ c, 1 ≤ c ∧ c ≤ n ∧ pos s n (c * s) = x := by
  have hm : x ∈ out (s - 1) (List.range n) := (out_perm _ _).mem_iff.mpr (List.mem_range.mpr hx)
  obtain ⟨i, hi, e⟩ := List.mem_iff_getElem.mp hm
  have hl : i < n := by
    rw [out_length, List.length_range] at hi
    exact hi
  have e2 := out_range hs hl
  rw [List.getElem?_eq_getElem hi, e] at e2
  exact ⟨i + 1, by omega, by omega, (Option.some.inj e2).symm⟩
theorem pos_one {s n c d : Nat} (hs : 1 ≤ s) (c1 : 1 ≤ c) (c2 : c ≤ n) (d1 : 1 ≤ d) (d2 : d ≤ n) (h : pos s n (c * s) = pos s n (d * s)) : c = d := by
  have e1 : c = c - 1 + 1 := by omega
  have e2 : d = d - 1 + 1 := by omega
  rw [e1, e2] at h
  have := pos_inj hs (by omega) (by omega) h
  omega
end Jo
namespace Lz
open PySem PySem.Spec PyProof.Rows L2
/-! ### a def by its name: where it stands, how it binds, its promise -/
abbrev FnP (K : PySem.W.Frag) (x qual : Str) (st : Stmt) (dvs : List V) (f : Addr) (fd : FuncData) : Prop :=
  FunD K x qual (defArgs st) (defBody st) (defScope st) dvs [] f fd
abbrev CXr (P : Program) (w : World) : CXT := L2.CX P w
def FnAt (P : Program) (w : World) (K : PySem.W.Frag) (mg : Str → Option Value) (base : Heap) (C : CXT) (k : Nat)
    (x : Str) (ps : List Str) (dvs : List V) (sp : Sp) : Prop :=
  ∃ (f : Addr) (fd : FuncData) (ds : List Value), mg x = some (.ref f) ∧ PySem.W.keepIn K (.ref f) = true ∧
    Binds K fd ps ds ∧ Vals dvs ds ∧ FnOk P w K mg base C k f fd ps sp
/-- a method of the class at D -/
def FnMt (P : Program) (w : World) (K : PySem.W.Frag) (mg : Str → Option Value) (base : Heap) (C : CXT) (k : Nat)
    (D : Addr) (m : Str) (ps : List Str) (dvs : List V) (sp : Sp) : Prop :=
  ∃ (f : Addr) (fd : FuncData) (ds : List Value), Meth K D m f ∧ Binds K fd ps ds ∧ Vals dvs ds ∧
    FnOk P w K mg base C k f fd ps sp
/-- the maker of the class at D, by the module's name x -/
def FnMk (P : Program) (w : World) (K : PySem.W.Frag) (mg : Str → Option Value) (base : Heap) (C : CXT) (k : Nat)
    (x : Str) (D : Addr) (ps : List Str) (dvs : List V) (sp : Sp) : Prop :=
  ∃ (f : Addr) (fd : FuncData) (ds : List Value), Mk K D f ∧ mg x = some (.ref D) ∧ Binds K fd ps ds ∧ Vals dvs ds ∧
    FnOk P w K mg base C k f fd ps sp
section
variable {X : Cx} {C : CXT} {k : Nat} {x : Str} {ps : List Str} {dvs : List V} {sp : Sp} {E : XK} {p pos : Pos} {e o : Expr} {es : List Expr} {t : TA}
theorem pe_fn (G : FnAt X.prog X.w X.K X.mg X.base C k x ps dvs sp) (hr : Room k X.A) (hx : Passes C X E) (ha : PA X (e :: es) t)
    (hg : Gl X x := by rfl) (hdb : (x == ("__debug__" : Str)) = false := by decide)
    (he : starEach (e :: es) X.env = (false, eval e X.env) :: starEach es X.env := by rfl)
    (hpl : (backTo pos (starEach es X.env)).any (·.1) = false := by rfl) :
    PE X (.Call (.Name x p) (e :: es) [] pos) (tCall sp dvs E t) := by
  obtain ⟨f, fd, ds, h1, h2, h3, h4, h5⟩ := G
  exact pe_call h5 hr hg h1 h2 h3 h4 hx ha hdb he hpl
/-- a whole number of the module -/
theorem pe_gint {i : Int} (h : ∃ t, X.mg x = some (.int i t)) (hg : Gl X x := by rfl) (hdb : (x == ("__debug__" : Str)) = false := by decide) :
    PE X (.Name x pos) (tC (.int i)) := by
  obtain ⟨t, h⟩ := h
  exact pe_glob hg h ⟨t, rfl⟩ hdb
end
/-! ### heaps: all but some places is kept -/
def Kp (ws : List Addr) (H H' : Hp) : Prop := ∀ a o, H a = some o → a ∉ ws → H' a = some o
section
variable {ws vs : List Addr} {H H1 H2 : Hp} {a p : Addr} {o u : HO}
theorem Kp.refl (H : Hp) : Kp ws H H := fun _ _ h _ => h
theorem Kp.trans (x : Kp ws H H1) (y : Kp ws H1 H2) : Kp ws H H2 := fun a o h n => y a o (x a o h n) n
theorem Kp.mono (x : Kp ws H H1) (h : ∀ a, a ∈ ws → a ∈ vs) : Kp vs H H1 := fun a o e n => x a o e fun q => n (h a q)
theorem Kp.new (h : H p = none) : Kp ws H (upd H p o) := fun a u e _ => by
  rw [upd_ne (ne_of_none e h)]
  exact e
theorem Kp.put (h : p ∈ ws) : Kp ws H (upd H p o) := fun a u e n => by
  have q : a ≠ p := fun q => n (by rw [q]; exact h)
  rw [upd_ne q]
  exact e
/-- new since H -/
theorem Kp.late (x : Kp ws H H1) (h : H p = none) : Kp ws H (upd H1 p o) := fun a u e n => by
  rw [upd_ne (ne_of_none e h)]
  exact x a u e n
theorem Kp.same (x : Kp [] H H1) : Same H H1 := fun a o h => x a o h (List.not_mem_nil)
theorem Kp.of (x : Same H H1) : Kp ws H H1 := fun a o h _ => x a o h
theorem Kp.one (x : Kp [p] H H1) (h : H a = some o) (n : a ≠ p) : H1 a = some o := x a o h fun q => n (List.mem_singleton.mp q)
theorem Kp.lst {K : PySem.W.Frag} {xs : List V} (x : Kp ws H H1) (h : SqL K H a xs) (n : a ∉ ws) : SqL K H1 a xs := by
  rcases h with (h | ⟨o, h⟩) | h
  · exact .inl (.inl (x _ _ h n))
  · exact .inl (.inr ⟨o, x _ _ h n⟩)
  · exact .inr h
/-- where H knows and nothing was written, what is free behind was free before -/
theorem Kp.free (x : Kp ws H H1) (h : H1 p = none) (n : p ∉ ws) : H p = none := by
  cases q : H p with
  | none => rfl
  | some o =>
    have e := x p o q n
    rw [h] at e
    cases e
end
theorem sz (n : Nat) (h : n ≤ 1000000) : n ≤ sizeLine := Nat.le_trans h (by decide)
theorem szl (n : Nat) (h : n ≤ 1000000) : n < sizeLine := Nat.lt_of_le_of_lt h (by decide)
/-! ### exceptions of the program -/
structure ExcT (K : PySem.W.Frag) (C : Addr) : Prop where
  q : PySem.W.excIn K C He.veBase "ValueError.__new__" = true
  k : PySem.W.keepIn K (.ref C) = true
  s : PySem.W.subIn K (.ref C) (.type "BaseException") = some true
  t : PySem.W.typeIn K (.ref C) = some (.type "type")
theorem pmk_t {X : Cx} {C : Addr} {x m : Str} {j : Nat} {p p2 pos : Pos} (T : ExcT X.K C) (g : X.mg x = some (.ref C)) (hg : Gl X x := by rfl)
    (hdb : (x == ("__debug__" : Str)) = false := by decide) :
    PMk X (.Call (.Name x p) [.Constant (.str m) j p2] [] pos) (fun _ H Q => Q (.ref C) none H) :=
  pmk_own PySem.F.excBase_ValueError T.q g T.k (raises_own T.s T.t) hg hdb
/-! ### kinds of values -/
/-- not a whole number (True and False are none) -/
def NotNum (K : PySem.W.Frag) (H : Hp) (x : V) : Prop :=
  ∃ t : String, TyX K H x (.type t) ∧ t ∈ ["NoneType", "bool", "str", "list", "tuple", "dict"]
theorem NotNum.non {K : PySem.W.Frag} {H : Hp} : NotNum K H .non := ⟨_, .base .non, by simp⟩
theorem NotNum.bl {K : PySem.W.Frag} {H : Hp} {b : Bool} : NotNum K H (.bl b) := ⟨_, .base (.bl b), by simp⟩
theorem NotNum.str {K : PySem.W.Frag} {H : Hp} {z : Str} : NotNum K H (.str z) := ⟨_, .base (.str z), by simp⟩
theorem NotNum.lst {K : PySem.W.Frag} {H : Hp} {a : Addr} {xs : List V} (h : H a = some (.lst xs)) : NotNum K H (.ref a) := ⟨_, .base (.lst h), by simp⟩
theorem NotNum.tup {K : PySem.W.Frag} {H : Hp} {a : Addr} {xs : List V} (h : H a = some (.tup xs)) : NotNum K H (.ref a) := ⟨_, .base (.tup h), by simp⟩
/-- no whole number from lo to hi -/
def OutN (K : PySem.W.Frag) (H : Hp) (lo hi : Int) (x : V) : Prop := NotNum K H x ∨ ∃ i : Int, x = .int i ∧ ¬ (lo ≤ i ∧ i ≤ hi)
/-! ### lists of whole numbers and texts, compared -/
def PD : V → PyData
  | .int i => .int i
  | .str z => .str z
  | .bl b => .bool b
  | _ => .none
def isS : V → Bool
  | .int _ => true
  | .str z => PyData.strOk z
  | _ => false
theorem PD_dp {K : PySem.W.Frag} {H : Hp} {v : V} (h : isS v = true) : Dp K H v (PD v) := by
  cases v with
  | int i => exact .int i
  | str z => exact .str z
  | _ => cases h
theorem PD_all {K : PySem.W.Frag} {H : Hp} : ∀ {xs : List V}, xs.all isS = true → DpAll K H xs (xs.map PD)
  | [], _ => .nil
  | x :: xs, h => by
    rw [List.all_cons, Bool.and_eq_true] at h
    exact .cons (PD_dp h.1) (PD_all h.2)
theorem PD_lay : ∀ {xs : List V}, xs.all isS = true → PyData.canLayAll0 (xs.map PD) = true ∧ PyData.depthAll (xs.map PD) = 0
  | [], _ => ⟨by simp [PyData.canLayAll0], by simp [PyData.depthAll]⟩
  | x :: xs, h => by
    rw [List.all_cons, Bool.and_eq_true] at h
    obtain ⟨h1, h2⟩ := PD_lay h.2
    have h3 : PyData.canLay0 (PD x) = true ∧ PyData.depth (PD x) = 0 := by
      cases x with
      | int i => simp [PD, PyData.canLay0, PyData.depth]
      | str z =>
        have hz : PyData.strOk z = true := h.1
        simp [PD, PyData.canLay0, PyData.depth, hz]
      | _ => cases h.1
    exact ⟨by rw [List.map_cons, PyData.canLayAll0, h3.1, h1]; rfl, by rw [List.map_cons, PyData.depthAll, h3.2, h2]; rfl⟩
theorem PD_shaped {xs : List V} (h : xs.all isS = true) : SeqAt.shaped (.list (xs.map PD)) = true := by
  obtain ⟨h1, h2⟩ := PD_lay h
  unfold SeqAt.shaped
  rw [Bool.and_eq_true]
  exact ⟨by rw [PyData.canLay0]; exact h1, by rw [PyData.depth, h2]; rfl⟩
theorem PD_eqv1 {x y : V} (hx : isS x = true) (hy : isS y = true) : PyData.eqv (PD x) (PD y) = decide (x = y) := by
  cases x with
  | int i =>
    cases y with
    | int j =>
      show PyData.eqv (.int i) (.int j) = _
      rw [PyData.eqv]
      by_cases e : i = j
      · subst e
        simp
      · have e2 : ¬ (V.int i = V.int j) := fun q => e (V.int.inj q)
        rw [decide_eq_false e2]
        exact beq_eq_false_iff_ne.mpr e
    | str z =>
      show PyData.eqv (.int i) (.str z) = _
      rw [PyData.eqv]
      exact (decide_eq_false (fun q => nomatch q)).symm
    | _ => cases hy
  | str z =>
    cases y with
    | int j =>
      show PyData.eqv (.str z) (.int j) = _
      rw [PyData.eqv]
      exact (decide_eq_false (fun q => nomatch q)).symm
    | str u =>
      show PyData.eqv (.str z) (.str u) = _
      rw [PyData.eqv]
      by_cases e : z = u
      · subst e
        simp
      · have e2 : ¬ (V.str z = V.str u) := fun q => e (V.str.inj q)
        rw [decide_eq_false e2]
        exact beq_eq_false_iff_ne.mpr e
    | _ => cases hy
  | _ => cases hx
theorem PD_eqv : ∀ {xs ys : List V}, xs.all isS = true → ys.all isS = true → PyData.eqvAll (xs.map PD) (ys.map PD) = decide (xs = ys)
  | [], [], _, _ => by simp [PyData.eqvAll]
  | [], y :: ys, _, _ => by simp [PyData.eqvAll]
  | x :: xs, [], _, _ => by simp [PyData.eqvAll]
  | x :: xs, y :: ys, hx, hy => by
    rw [List.all_cons, Bool.and_eq_true] at hx hy
    rw [List.map_cons, List.map_cons, PyData.eqvAll, PD_eqv1 hx.1 hy.1, PD_eqv hx.2 hy.2, ← Bool.decide_and]
    exact decide_eq_decide.mpr (by rw [List.cons.injEq])
section
variable {K : PySem.W.Frag} {H : Hp} {p q : Addr} {xs ys : List V} {Q : VK}
theorem eqD_l (hp : SqL K H p xs) (hq : SqL K H q ys) (fx : xs.all isS = true) (fy : ys.all isS = true) (k : Q (.bl (decide (xs = ys))) H) : rEqD K (.ref p) (.ref q) H Q :=
  ⟨_, _, .lst hp (PD_all fx), .lst hq (PD_all fy), PD_shaped fx, PD_shaped fy, by
    have e : PyData.eqv (.list (xs.map PD)) (.list (ys.map PD)) = decide (xs = ys) := by rw [PyData.eqv, PD_eqv fx fy]
    rw [e]
    exact k⟩
theorem neD_l (hp : SqL K H p xs) (hq : SqL K H q ys) (fx : xs.all isS = true) (fy : ys.all isS = true) (k : Q (.bl (!decide (xs = ys))) H) : rNeD K (.ref p) (.ref q) H Q :=
  ⟨_, _, .lst hp (PD_all fx), .lst hq (PD_all fy), PD_shaped fx, PD_shaped fy, by
    have e : PyData.eqv (.list (xs.map PD)) (.list (ys.map PD)) = decide (xs = ys) := by rw [PyData.eqv, PD_eqv fx fy]
    rw [e]
    exact k⟩
end
theorem isS_ints {α : Type} (f : α → Int) (xs : List α) : (xs.map fun x => V.int (f x)).all isS = true := by
  rw [List.all_map, List.all_eq_true]
  intro x _
  rfl
/-! ### slices from and to a place -/
theorem cut_from (xs : List V) (k : Nat) : cutV xs (some (k : Int)) none = xs.drop k := by
  unfold cutV
  rw [HT.sIx_nat, HT.sIx_none]
  by_cases h : k ≤ xs.length
  · rw [Nat.min_eq_left h, List.take_of_length_le (by rw [List.length_drop]; exact Nat.le_refl _)]
  · rw [Nat.min_eq_right (by omega), List.drop_of_length_le (Nat.le_refl _), List.drop_of_length_le (by omega), List.take_nil]
theorem cut_to (xs : List V) (k : Nat) : cutV xs none (some (k : Int)) = xs.take k := by
  unfold cutV
  rw [HT.sIx_nat, HT.sIx_none, List.drop_zero, Nat.sub_zero]
  by_cases h : k ≤ xs.length
  · rw [Nat.min_eq_left h]
  · rw [Nat.min_eq_right (by omega), List.take_of_length_le (Nat.le_refl _), List.take_of_length_le (by omega)]
/-! ### for i, x in enumerate(xs) -/
theorem for_enum {K : PySem.W.Frag} {a : Addr} {xs : List V} {g : TG} {tb : TS} {D : Ends} {σ : L2.St} {H : Hp} (M : Nat → L2.St → Hp → Prop) (h0 : M 0 σ H)
    (hl : ∀ i σ H, i ≤ xs.length → M i σ H → SqL K H a xs)
    (hs : ∀ i x σ H T, xs[i]? = some x → M i σ H → H T = none → g (.ref T) σ (upd H T (.tup [.int (i : Nat), x])) fun σ2 H2 => tb { D with nx := M (i + 1), ct := M (i + 1), bk := D.nx } σ2 H2)
    (hd : ∀ σ H, M xs.length σ H → D.nx σ H) :
    ∃ W : Nat → Nat → L2.St → Hp → Prop, (∃ m, W 0 m σ H) ∧ ∀ i m σ H, W i m σ H →
      ((Ite K a).stop i H ∧ D.nx σ H) ∨ ((Ite K a).go i H ∧ ∃ N : L2.St → Hp → Prop, (∀ σ' H', N σ' H' → ∃ m', m' < m ∧ W (i + 1) m' σ' H') ∧
        ∀ x H', (Ite K a).yld i H x H' → g x σ H' fun σ2 H2 => tb { D with nx := N, ct := N, bk := D.nx } σ2 H2) := by
  refine ⟨fun i m σ H => m = xs.length - i ∧ i ≤ xs.length ∧ M i σ H, ⟨xs.length, by simp, Nat.zero_le _, h0⟩, ?_⟩
  rintro i m σ H ⟨rfl, hi, p⟩
  have q := hl i σ H hi p
  by_cases hlt : i < xs.length
  · refine .inr ⟨⟨xs, xs[i], q, by simp [hlt]⟩, M (i + 1), fun σ' H' p' => ⟨xs.length - (i + 1), by omega, rfl, hlt, p'⟩, fun v H' y => ?_⟩
    obtain ⟨T, x, rfl, hT, rfl, e⟩ := y
    exact hs i x σ H T (e xs q) p hT
  · have e : i = xs.length := by omega
    subst e
    exact .inl ⟨⟨xs, q, Nat.le_refl _⟩, hd σ H p⟩
/-! ### the law's draws: a list of one number -/
def StOk (s : Int) : Prop := 0 ≤ s ∧ s < 4294967296
def StAt (H : Hp) (st : Addr) : Prop := ∃ s, StOk s ∧ H st = some (.lst [.int s])
/-- some draws were made: the state's number changed, what is new may stand beside -/
def Drew (st : Addr) (H H' : Hp) : Prop := Kp [st] H H' ∧ StAt H' st
section
variable {st a p : Addr} {H H1 H2 : Hp} {o : HO}
theorem Drew.trans (x : Drew st H H1) (y : Drew st H1 H2) : Drew st H H2 := ⟨x.1.trans y.1, y.2⟩
theorem Drew.at (x : Drew st H H1) (h : H a = some o) (n : a ≠ st) : H1 a = some o := x.1.one h n
theorem Drew.lst {K : PySem.W.Frag} {xs : List V} (x : Drew st H H1) (h : SqL K H a xs) (n : a ≠ st) : SqL K H1 a xs := x.1.lst h fun q => n (List.mem_singleton.mp q)
theorem Drew.free (x : Drew st H H1) (h : H1 p = none) : H p = none := x.1.free h fun q => by
  obtain ⟨s, _, e⟩ := x.2
  rw [List.mem_singleton.mp q, e] at h
  cases h
theorem Drew.new (x : Drew st H H1) (h : H1 p = none) : Drew st H (upd H1 p o) := by
  obtain ⟨s, h1, e⟩ := id x.2
  exact ⟨x.1.trans (Kp.new h), s, h1, by rw [upd_ne (ne_of_none e h)]; exact e⟩
theorem StAt.new (x : StAt H st) (h : H p = none) : StAt (upd H p o) st := by
  obtain ⟨s, h1, e⟩ := x
  exact ⟨s, h1, by rw [upd_ne (ne_of_none e h)]; exact e⟩
theorem Drew.refl (x : StAt H st) : Drew st H H := ⟨Kp.refl H, x⟩
theorem StAt.ne {xs : List V} (x : StAt H st) (h : H a = some (.lst xs)) (n : 2 ≤ xs.length) : a ≠ st := fun q => by
  obtain ⟨s, _, e⟩ := x
  rw [q, e] at h
  injection h with h
  injection h with h
  rw [← h] at n
  exact absurd n (by simp)
end
/-! ### small facts -/
theorem emod_nat {s : Int} (n : Nat) (h : 0 ≤ s) : s % (n : Int) = ((s.toNat % n : Nat) : Int) := by
  obtain ⟨k, rfl⟩ := Int.eq_ofNat_of_zero_le h
  rfl
theorem seq0 {α : Type} (x : α) (c : List α) : seqIndex? 0 (x :: c).length = some 0 := by
  have h : (0 : Int) < ((c.length + 1 : Nat) : Int) := by omega
  simp [seqIndex?, h]
theorem StAt.fresh {H : Hp} {st p : Addr} (x : StAt H st) (h : H p = none) : p ≠ st := fun q => by
  obtain ⟨s, _, e⟩ := x
  rw [q, e] at h
  cases h
theorem StAt.keep {H H1 : Hp} {st : Addr} {ws : List Addr} (k : Kp ws H H1) (x : StAt H st) (n : st ∉ ws) : StAt H1 st := by
  obtain ⟨s, h1, e⟩ := x
  exact ⟨s, h1, k _ _ e n⟩
theorem StAt.same {H H1 : Hp} {st : Addr} (x : StAt H st) (k : Kp [] H H1) : StAt H1 st := x.keep k List.not_mem_nil
theorem Drew.kp {H H1 : Hp} {st : Addr} (k : Kp [] H H1) (x : StAt H st) : Drew st H H1 := ⟨k.mono fun _ h => absurd h List.not_mem_nil, x.same k⟩
theorem rotL_all {α : Type} {f : α → Bool} {xs : List α} (k : Nat) (h : xs.all f = true) : (Jo.rotL xs k).all f = true := by
  rw [List.all_eq_true] at h ⊢
  intro x hx
  exact h x ((Jo.rotL_perm xs k).mem_iff.mp hx)
theorem out_all {α : Type} {f : α → Bool} {xs : List α} (t : Nat) (h : xs.all f = true) : (Jo.out t xs).all f = true := by
  rw [List.all_eq_true] at h ⊢
  intro x hx
  exact h x ((Jo.out_perm t xs).mem_iff.mp hx)
theorem rgV_all (n : Nat) : (rgV 0 n).all isS = true := by
  unfold rgV
  rw [List.all_map, List.all_eq_true]
  intro x _
  rfl
theorem rgV_len (n : Nat) : (rgV 0 n).length = n := by
  rw [rgV_length]
  omega
/-- the places in the order in which they go -/
abbrev ordV (s n b : Nat) : List V := Jo.out (s - 1) (Jo.rotL (rgV 0 n) b)
theorem ordV_len (s n b : Nat) : (ordV s n b).length = n := by rw [Jo.out_length, Jo.rotL_length, rgV_len]
theorem ordV_all (s n b : Nat) : (ordV s n b).all isS = true := out_all _ (rotL_all _ (rgV_all n))
theorem ordV_get {s n b i : Nat} (hs : 1 ≤ s) (hb : b < n) (hi : i < n) : (ordV s n b)[i]? = some (.int (((b + Jo.pos s n ((i + 1) * s)) % n : Nat) : Int)) := by
  have e : rgV 0 n = (List.range n).map fun i => V.int ((i : Nat) : Int) := by
    unfold rgV
    have e1 : ((n : Int) - 0).toNat = n := by omega
    rw [e1]
    refine List.map_congr_left fun x _ => ?_
    rw [Int.zero_add]
  unfold ordV
  rw [e, Jo.rotL_map, Jo.rot_range_map hb, List.map_map, Jo.out_map, List.getElem?_map, Jo.out_range hs hi]
  show some (V.int (((Jo.pos s n ((i + 1) * s) + b) % n : Nat) : Int)) = _
  rw [Nat.add_comm]
theorem rotL_id {α : Type} (xs : List α) : Jo.rotL xs 0 = xs := Jo.rotL_zero xs
theorem at_last {α : Type} {xs : List α} {n : Nat} {v : α} (hl : xs.length = n) (hn : 0 < n) (h : xs[n - 1]? = some v) : atI xs (-1) = some v := by
  have e : ixN xs.length (-1) = some (n - 1) := by
    unfold ixN
    rw [hl, if_neg (by decide), if_pos (by omega)]
    congr 1
    omega
  unfold atI
  rw [e]
  exact h
section
variable {K : PySem.W.Frag} {H : Hp} {p q : Addr} {xs : List V} {x : V} {Q : VK}
theorem ne_same (h : scal x x = true) (k : Q (.bl false) H) : rNe x x H Q := ⟨h, by rw [decide_eq_true rfl]; exact k⟩
theorem eq_same (h : scal x x = true) (k : Q (.bl true) H) : rEq x x H Q := ⟨h, by rw [decide_eq_true rfl]; exact k⟩
theorem neD_same (hp : SqL K H p xs) (hq : SqL K H q xs) (fx : xs.all isS = true) (k : Q (.bl false) H) : rNeD K (.ref p) (.ref q) H Q :=
  neD_l hp hq fx fx (by rw [decide_eq_true rfl]; exact k)
theorem eqD_same (hp : SqL K H p xs) (hq : SqL K H q xs) (fx : xs.all isS = true) (k : Q (.bl true) H) : rEqD K (.ref p) (.ref q) H Q :=
  eqD_l hp hq fx fx (by rw [decide_eq_true rfl]; exact k)
end
theorem exct {K : PySem.W.Frag} {x : Str} (h : (He.Fa.exc x).ok K = true) : ExcT K (He.ga K x) := by
  obtain ⟨h1, h2, h3, h4⟩ := He.exc_ok h
  exact ⟨h1, h2, h3, h4⟩
/-- a def with defaults, called with all its arguments -/
theorem bindsFull {K : PySem.W.Frag} {x qual : Str} {params : Arguments} {body : List Stmt} {scope : Scope} {dvs : List V} {f : Addr} {fd : FuncData} {ps : List Str}
    (F : FunD K x qual params body scope dvs [] f fd) (hd : dvs ≠ [])
    (h : ∀ (T : Addr) (kV doc pm : Value) (an : Option Addr) (cdv ct : Value) (us : List Value), us.length = ps.length →
      bindArgs (PySem.W.fnOf x qual params body scope (.ref T) kV doc pm an cdv ct) ⟨us, []⟩ = pure (ps.zip us)) : Binds K fd ps [] := by
  obtain ⟨oc, od, dV, kV, doc, pm, an, cdv, ct, osl, rfl, lk, hcd, hD, hK⟩ := F.ex
  rcases hD with ⟨e, _⟩ | ⟨_, T, o, its, m, rfl, lT, oT, rT⟩
  · exact absurd e hd
  · exact .all (h T kV doc pm an cdv ct)
/-- what is written was not known at the start -/
theorem Kp.lst0 {K : PySem.W.Frag} {ws : List Addr} {H H1 : Hp} {a : Addr} {xs : List V} (x : Kp ws H H1) (h : SqL K H a xs) (n : ∀ w ∈ ws, H w = none) : SqL K H1 a xs := by
  rcases h with (h | ⟨o, h⟩) | h
  · exact .inl (.inl (x _ _ h fun q => by rw [n _ q] at h; cases h))
  · exact .inl (.inr ⟨o, x _ _ h fun q => by rw [n _ q] at h; cases h⟩)
  · exact .inr h
theorem Drew.lst0 {K : PySem.W.Frag} {H H1 : Hp} {a st : Addr} {xs : List V} (d : Drew st H H1) (h : SqL K H a xs) (n : H st = none) : SqL K H1 a xs :=
  d.1.lst0 h fun w q => by rw [List.mem_singleton.mp q]; exact n
theorem pow60 : (10 : Int) ^ (60 : Int).toNat = 10 ^ 60 := rfl
theorem sub_mod {n p L : Nat} (hL : L < n) (hp : p < n) : ((p : Int) - (L : Int)) % (n : Int) = (((p + n - L) % n : Nat) : Int) := by
  have e1 : ((p : Int) - (L : Int)) % (n : Int) = ((p : Int) - (L : Int) + (n : Int)) % (n : Int) := by rw [Int.add_emod_right]
  have e2 : (p : Int) - (L : Int) + (n : Int) = ((p + n - L : Nat) : Int) := by omega
  rw [e1, e2]
  rfl
/-! ### rules that name the written part K (within a comprehension's block) -/
section
variable {X : Cx} {K : PySem.W.Frag}
theorem ix_lK (e : X.K = K := by rfl) : IxR X (rIxL K) := by
  subst e
  exact ix_list
theorem lenK (e : X.K = K := by rfl) : CallR X (.builtin "len") (fun xs H Q => ∃ p ys, xs = [.ref p] ∧ (SqL K H p ys ∨ SqT K H p ys) ∧ Q (.int ys.length) H) := by
  subst e
  exact call_len_seq
theorem isiK (e : X.K = K := by rfl) : CallR X (.builtin "isinstance") (rIsi K) := by
  subst e
  exact call_isi
end
/-- the value that is stored, in another form -/
theorem set_eq {i : Nat} {x y : V} {σ : L2.St} {H : Hp} {Q : L2.St → Hp → Prop} (e : x = y) (h : gName i y σ H Q) : gName i x σ H Q := by
  rw [e]
  exact h
theorem tyes {σ : L2.St} {H : Hp} {Q : Bool → Hp → Prop} (h : Q true H) : tYes σ H Q := h
section
variable {H : Hp} {x y : V} {Q : VK}
theorem ne_no (e : x = y) (h : scal x x = true) (k : Q (.bl false) H) : rNe x y H Q := by
  subst e
  exact ne_same h k
theorem ne_yes (e : ¬ x = y) (h : scal x y = true) (k : Q (.bl true) H) : rNe x y H Q := ⟨h, by rw [decide_eq_false e]; exact k⟩
theorem eq_yes (e : x = y) (h : scal x x = true) (k : Q (.bl true) H) : rEq x y H Q := by
  subst e
  exact eq_same h k
theorem eq_no (e : ¬ x = y) (h : scal x y = true) (k : Q (.bl false) H) : rEq x y H Q := ⟨h, by rw [decide_eq_false e]; exact k⟩
end
theorem vint {a b : Int} (e : a = b) : V.int a = V.int b := congrArg V.int e
theorem vint_ne {a b : Int} (e : ¬ a = b) : ¬ V.int a = V.int b := fun q => e (V.int.inj q)
theorem vnat {a b : Nat} (e : a = b) : V.int (a : Int) = V.int (b : Int) := congrArg (fun q : Nat => V.int (q : Int)) e
theorem vnat_ne {a b : Nat} (e : ¬ a = b) : ¬ V.int (a : Int) = V.int (b : Int) := fun q => e (by have := V.int.inj q; omega)
end Lz
namespace Lz
open PySem PySem.Spec PyProof.Rows L2
/-! ### an exception that is kept behind its clause -/
/-- at a: an exception of the class cls, without a dict of its own -/
def ExA (cls : Value) (a : Addr) : HO := .ext fun h => ∃ (o : Obj) (vs : Array Value), h.get? a = some o ∧ Zc cls none o ∧ o.data = .fields vs
theorem exA_ok {P : Program} {w : World} {H : Hp} {h : Heap} {a : Addr} {cls : Value} {o : Obj} {vs : Array Value} (e : h.get? a = some o) (z : Zc cls none o) (d : o.data = .fields vs) :
    ObjOk P w H h a (ExA cls a) := ⟨⟨o, vs, e, z, d⟩, ⟨o, e⟩, fun _ _ ⟨u, v, q, r⟩ k => ⟨u, v, k u q, r⟩⟩
/-- an object that stands, made since the entry and not tracked, is tracked from now on -/
theorem track {X : Cx} {pins : List (Addr × Obj)} {σ : L2.St} {H : Hp} {s : Shared} {a : Addr} {o : Obj} {vs : Array Value} {u : HO} (I : Inv X pins σ H s) (ha : s.heap.get? a = some o) (hd : o.data = .fields vs)
    (na : H a = none) (n0 : X.s_0.heap.get? a = none) (nL : a ≠ X.env.locals) (np : ∀ p ∈ X.pn ++ pins, p.1 ≠ a) (new : ObjOk X.prog X.w (upd H a u) s.heap a u) : Inv X pins σ (upd H a u) s := by
  have ne0 : ∀ b q, X.s_0.heap.get? b = some q → b ≠ a := fun b q e z => by
    rw [z, n0] at e
    cases e
  have neH : ∀ b q, H b = some q → b ≠ a := fun b q e z => by
    rw [z, na] at e
    cases e
  have B := I.base
  refine ⟨I.ok, I.os, I.bare, ⟨B.keep, B.slot, fun b q e n x => ?_, B.there, fun b xs e => ?_, fun b q v e => ?_, fun b ps e => ?_⟩, I.loc, I.cell, ?_, fun x c e => ?_, fun p hp => ?_, fun b q e => ?_, I.len⟩
  · rw [upd_ne (ne0 b q e)]
    exact B.free b q e n x
  · have z := B.tups b xs e
    rw [upd_ne (neH _ _ z)]
    exact z
  · have z := B.frzs b q v e
    rw [upd_ne (neH _ _ z)]
    exact z
  · obtain ⟨m, z⟩ := B.tbls b ps e
    exact ⟨m, by rw [upd_ne (neH _ _ z)]; exact z⟩
  · rw [upd_ne fun z => nL z.symm]
    exact I.free
  · have z : c ≠ a := fun z => by
      obtain ⟨v, oc, hc, hv⟩ := I.cell x c e
      rw [z, ha] at hc
      cases hc
      rw [hd] at hv
      cases hv
    rw [upd_ne z]
    exact I.freeC x c e
  · obtain ⟨q1, q2, q3⟩ := I.pin p hp
    exact ⟨q1, by rw [upd_ne (np p hp)]; exact q2, q3⟩
  · by_cases hb : b = a
    · rw [hb, upd_same] at e
      cases e
      rw [hb]
      exact new
    · rw [upd_ne hb] at e
      refine (I.hok b q e).stay (fun _ _ _ r => r) (fun c r => ?_) fun c xs r => ?_
      · rw [upd_ne (neH _ _ r)]
        exact r
      · rw [upd_ne (neH _ _ r)]
        exact r
/-- what a clause 'except x as n: .. n kept by another name ..' wishes of an exception of the body: all of them are x's; slot i is n's -/
def wKeep (K : PySem.W.Frag) (c : Value) (i : Nat) (ts : Addr → Value → TS) (D : Ends) : WX := fun cls d σ H =>
  PySem.W.exmOne K cls c = some true ∧ d = none ∧ ∀ a, H a = none →
    ts a cls { nx := fun σ' H' => H' a = none → D.nx (σ'.set i none) (upd H' a (ExA cls a)), rt := fun _ _ => False, bk := fun _ _ => False, ct := fun _ _ => False } (σ.set i (some (.ref a))) H
section
variable {X : Cx} {x n : Str} {c : Value} {i : Nat} {body suite : List Stmt} {b0 : Stmt} {np pos pos' : Pos} {tb : WX → TS} {ts : Addr → Value → TS}
theorem ps_try_keep (hs : X.stack = X.env :: X.outer) (hf : X.env.frame = some X.env.locals) (hex : X.ex = []) (hN : X.N.Nodup) (hi : X.N[i]? = some n) (hln : X.env.kindOf n = some .local) (hc : Names X x c)
    (hb : ∀ (W : WX) (pn : List (Addr × Obj)) (xe : Value → Shared → Prop), Takes (X.tr pn xe) W → PSs (X.tr pn xe) body (tb W))
    (hsu : ∀ (a : Addr) (oe : Obj) (cls : Value) (d : Option Addr) (pn : List (Addr × Obj)), PSs (X.suite a ((a, oe) :: pn)) (b0 :: suite) (ts a cls)) :
    PS X (.Try body [.ExceptHandler (some (.Name x np)) (some n) (b0 :: suite) pos'] [] [] pos) (fun D σ H => tb (wKeep X.K c i ts D) D σ H) := by
  refine ⟨fun pins s σ H D I0 h => ?_⟩
  have OK := I0.ok
  have frames : X.A.frames = some (X.env :: X.outer) := OK.frames.trans (congrArg some hs)
  refine wpAny_Try_except (wpAny_mono ((hb (wKeep X.K c i ts D) (X.pn ++ pins) (fun e z1 => wpAny (model X.prog X.w) X.A (noteFrame e X.env) (fun _ z2 => wpAny (model X.prog X.w) X.A (setFlight e none)
    (fun _ z3 => wpAny (model X.prog X.w) X.A (handleBy e X.env [.ExceptHandler (some (.Name x np)) (some n) (b0 :: suite) pos']) (SP X pins D) X.xe z3) X.xe z2) X.xe z1) (fun u s' air => ?_)).run [] s σ H D (I0.toTry _) h)
    (fun fl s1 done => ?_) (fun e s1 he => he))
  · obtain ⟨a, B, sI, _, τ, G, cls, d, rfl, J0, ground, ups, sky0, na, eos, gens, hm, rfl, keep⟩ := air
    have J : Inv X pins τ G sI := J0.ofTry OK
    rw [show (X.tr (X.pn ++ pins) _).stack = X.env :: X.outer from hs] at sky0
    show wpAny (model X.prog X.w) X.A (noteFrame (.ref a) X.env) _ _ _
    refine Sky.land Zc.steady frames hf sky0 fun h3 F3 U3 => ?_
    have J3 := J.landed (s' := { s' with heap := h3 }) ground F3.1 (ups.trans U3) eos gens
    obtain ⟨o3, v3, g3, z3, d3⟩ := F3.there
    have noFrame : a ∉ frs (X.env :: X.outer) := fun q => by
      obtain ⟨_, oq, eq, hq⟩ := F3.2.2.1.mem q
      rw [g3] at eq
      cases eq
      exact hq _ d3
    have aL : a ≠ X.env.locals := fun z => noFrame (List.mem_filterMap.mpr ⟨X.env, List.mem_cons_self, hf.trans (congrArg some z.symm)⟩)
    have aF : a ∉ X.fs := fun q => by
      obtain ⟨en, hen, qen⟩ := List.mem_filterMap.mp q
      exact noFrame (List.mem_filterMap.mpr ⟨en, List.mem_cons_of_mem _ hen, qen⟩)
    have notIn : ∀ b q, sI.heap.get? b = some q → b ∉ frs X.stack → b ≠ a := fun b q e1 e2 e3 => by
      have e4 := ground b q e1 e2
      rw [e3, F3.2.1] at e4
      cases e4
    have a0 : X.s_0.heap.get? a = none := by
      cases q : X.s_0.heap.get? a with
      | none => rfl
      | some oq =>
        obtain ⟨o', e'⟩ := J.base.there a oq q (by rw [hex]; exact List.not_mem_nil)
        exact absurd rfl (notIn a o' e' (by rw [hs]; exact noFrame))
    have aP : ∀ p ∈ X.pn ++ pins, p.1 ≠ a := fun p hp => by
      obtain ⟨q1, q2, q3, q4, _⟩ := J.pin p hp
      refine notIn p.1 p.2 q1 fun q => ?_
      rcases List.mem_cons.mp (J.stkSub p.1 q) with z | z
      · exact q3 z
      · exact q4 z
    have SU := J3.suite g3 d3 na aL aF
    refine wpAny_handleBy_cons (codeAny_handlers_test ?_) (by intro q; cases q)
    have LT : PySem.W.Looks (model X.prog X.w) h3 (typeOf (.ref a)) cls := fun A Q E z k q => wpAny_typeOf_ref (k _ _ g3) (by rw [z3.1]; exact q)
    have LM := PySem.W.exm_one (M := model X.prog X.w) J3.kIn LT hm
    have asks : ∀ {Q : Value → Shared → Prop} {E : Value → Shared → Prop}, Q c { s' with heap := h3 } → wpAny (model X.prog X.w) (X.A.mark (some (.ref a))) (eval (.Name x np) X.env) Q E { s' with heap := h3 } := fun {Q E} q => by
      obtain ⟨w1, w2, w3 | ⟨w3, w4, w5⟩⟩ := hc
      · exact ld_glob (X := X.suite a ((a, o3) :: (X.pn ++ pins))) SU w1 w3 q w2
      · exact ld_blt (X := X.suite a ((a, o3) :: (X.pn ++ pins))) SU w1 w3 w4 q w5 w2
    refine asks (LM.here (codeAny_handlers_suite_as (HandSPX.lands_againZ F3 fun h4 F4 U4 => ?_)))
    have J4 := J.landed (s' := { s' with heap := h4 }) ground F4.1 ((ups.trans U3).trans U4) eos gens
    obtain ⟨o4, v4, g4, z4, d4⟩ := F4.there
    have SV := J4.suite g4 d4 na aL aF
    refine store_ok (X := X.suite a ((a, o4) :: (X.pn ++ pins))) (v := .ref a) SV hN hi (.inl hln) rfl (fun s5 S5 => ?_) (.inr hln)
    refine wpAny_mono ((hsu a o4 cls none (X.pn ++ pins)).run [] s5 _ G _ S5 (keep a na)) (fun fl s6 done => ?_) (fun _ _ z => False.elim z)
    cases fl with
    | next =>
      obtain ⟨τ6, G6, S6, q6⟩ := done
      obtain ⟨p1, p2, _⟩ := S6.pin (a, o4) (List.mem_append_left _ List.mem_cons_self)
      exact gone_ok (track (S6.unsuite OK) p1 d4 p2 a0 aL aP (exA_ok p1 z4 d4)) hN hi hln fun s7 J7 => ⟨_, _, J7, q6 p2⟩
    | brk =>
      obtain ⟨_, _, _, q6⟩ := done
      exact q6.elim
    | cont =>
      obtain ⟨_, _, _, q6⟩ := done
      exact q6.elim
    | ret u =>
      obtain ⟨_, _, _, _, _, q6⟩ := done
      exact q6.elim
  · cases fl with
    | next =>
      obtain ⟨τ, G, J, q⟩ := done
      exact wpAny_execs_nil ⟨τ, G, J.ofTry OK, q⟩
    | brk =>
      obtain ⟨τ, G, J, q⟩ := done
      exact ⟨τ, G, J.ofTry OK, q⟩
    | cont =>
      obtain ⟨τ, G, J, q⟩ := done
      exact ⟨τ, G, J.ofTry OK, q⟩
    | ret u =>
      obtain ⟨v, τ, G, J, r, q⟩ := done
      exact ⟨v, τ, G, J.ofTry OK, r, q⟩
end
/-- in such a body: what a callee lets out, whatever stands in the slots -/
abbrev EL (N : List Str) (W : WX) : XK := fun cls d H => ∀ σ : L2.St, σ.length = N.length → W cls d σ H
theorem passT {X : Cx} {W : WX} {N : List Str} (tk : Takes X W) (hN : X.N = N := by rfl) : Passes (L2.CX X.prog X.w) X (EL N W) := fun _ σ _ _ e s' I t => by
  subst hN
  exact tk e s' (XE.of_call I (fun _ _ _ h => h σ I.len) t)
/-- isinstance of an exception that was kept -/
def rIsX (K : PySem.W.Frag) : List V → Hp → VK → Prop := fun xs H Q => ∃ (a D : Addr) (v : V) (u : Value) (b : Bool), xs = [.ref a, v] ∧ H a = some (ExA (.ref D) a) ∧ ExcC K D ∧ (∀ t, RelV v t → t = u) ∧ PySem.W.kitOne K (.ref D) u = some b ∧ Q (.bl b) H
theorem call_isX {X : Cx} : CallR X (.builtin "isinstance") (rIsX X.K) := by
  intro pins s σ H xs us Q I r h
  obtain ⟨a, D, v, u, b, rfl, ha, C, hv, hk, q⟩ := h
  obtain ⟨u1, u2, rfl, r1, r2⟩ : ∃ u1 u2, us = [u1, u2] ∧ RelV (.ref a) u1 ∧ RelV v u2 := by
    cases r with
    | cons p1 t =>
      cases t with
      | cons p2 t2 =>
        cases t2
        exact ⟨_, _, rfl, p1, p2⟩
  cases (show u1 = Value.ref a from r1)
  have e2 := hv _ r2
  subst e2
  obtain ⟨⟨o, vs, g, z, d⟩, _⟩ := (show ObjOk X.prog X.w H s.heap a (ExA (.ref D) a) from I.hok a _ ha)
  have J : PySem.W.InstAt s.heap a o D none := by
    obtain ⟨o1, o2, o3, o4⟩ := o
    obtain ⟨z1, z2⟩ := z
    dsimp only at z1 z2 d
    subst z1 z2 d
    exact ⟨g, rfl, rfl, trivial⟩
  exact PySem.W.kia_one (PySem.W.handS_kitx_exc C.hg C.hk C.hs C.hd C.ha C.hn C.ht C.hm) I.kIn J hk (fun z => nomatch z) fun tk => ⟨.bl b, H, I.kept (t' := tk) fun _ _ z => z, rfl, q⟩
/-! ### the words of the refusals -/
structure ErrT (K : PySem.W.Frag) (xs : List Str) : Prop where
  c : ∀ x ∈ xs, ExcC K (He.ga K x)
  v : ∀ x ∈ xs, PySem.W.kitOne K (.ref (He.ga K x)) (.type "ValueError") = some true
  m : ∀ x ∈ xs, PySem.W.exmOne K (.ref (He.ga K x)) (.ref (He.ga K "CountError")) = some true
  k : ∀ x ∈ xs, ∀ y ∈ xs, PySem.W.kitOne K (.ref (He.ga K x)) (.ref (He.ga K y)) = some (decide (x = y))
def excB (K : PySem.W.Frag) (D : Addr) : Bool :=
  decide (PySem.W.findIn K (.ref D) "__getattribute__" = some (some (.builtin "BaseException.__getattribute__"))) &&
  (decide (PySem.W.findIn K (.ref D) "__getattr__" = some none) && (decide (PySem.W.subIn K (.ref D) (.type "BaseException") = some true) &&
  (PySem.W.hasDictIn K D && (decide (PySem.W.findIn K (.ref D) "__class__" = some (some (.builtin "object.__class__"))) &&
  (decide (PySem.W.specialIn K (.builtin "object.__class__") "__get__" = some (some (.builtin "getset_descriptor.__get__"))) &&
  (decide (PySem.W.takesIn K (.builtin "object.__class__") = some true) && decide (PySem.W.mroIn K D (.type "object") = some true)))))))
theorem excB_ok {K : PySem.W.Frag} {D : Addr} (h : excB K D = true) : ExcC K D := by
  obtain ⟨h1, h⟩ := He.ba h
  obtain ⟨h2, h⟩ := He.ba h
  obtain ⟨h3, h⟩ := He.ba h
  obtain ⟨h4, h⟩ := He.ba h
  obtain ⟨h5, h⟩ := He.ba h
  obtain ⟨h6, h⟩ := He.ba h
  obtain ⟨h7, h8⟩ := He.ba h
  exact ⟨of_decide_eq_true h1, of_decide_eq_true h2, of_decide_eq_true h3, h4, of_decide_eq_true h5, of_decide_eq_true h6, of_decide_eq_true h7, of_decide_eq_true h8⟩
def errB (K : PySem.W.Frag) (xs : List Str) : Bool := xs.all fun x => excB K (He.ga K x) && (decide (PySem.W.kitOne K (.ref (He.ga K x)) (.type "ValueError") = some true) &&
  (decide (PySem.W.exmOne K (.ref (He.ga K x)) (.ref (He.ga K "CountError")) = some true) && xs.all fun y => decide (PySem.W.kitOne K (.ref (He.ga K x)) (.ref (He.ga K y)) = some (decide (x = y)))))
theorem errB_ok {K : PySem.W.Frag} {xs : List Str} (h : errB K xs = true) : ErrT K xs := by
  have g := fun x hx => He.ba (List.all_eq_true.mp h x hx)
  refine ⟨fun x hx => excB_ok (g x hx).1, fun x hx => ?_, fun x hx => ?_, fun x hx y hy => ?_⟩
  · exact of_decide_eq_true (He.ba (g x hx).2).1
  · exact of_decide_eq_true (He.ba (He.ba (g x hx).2).2).1
  · exact of_decide_eq_true (List.all_eq_true.mp (He.ba (He.ba (g x hx).2).2).2 y hy)
/-- a class (a def) of the module as a value -/
theorem pe_gref {X : Cx} {x : Str} {a : Addr} {pos : Pos} (h : X.mg x = some (.ref a)) (hg : Gl X x := by rfl) (hdb : (x == ("__debug__" : Str)) = false := by decide) :
    PE X (.Name x pos) (tC (.ref a)) := pe_glob hg h rfl hdb
/-- a constant has been read -/
theorem c_ {v : V} {σ : L2.St} {H : Hp} {Q : VK} (h : Q v H) : tC v σ H Q := h
/-! ### a weaker wish of what is raised -/
def spW (sp : Sp) : Sp := fun vs H Q E' => ∃ E : XK, sp vs H Q E ∧ ∀ cls d G, E cls d G → E' cls d G
section
variable {P : Program} {w : World} {K : PySem.W.Frag} {mg : Str → Option Value} {base : Heap} {k : Nat} {f : Addr} {fd : FuncData} {x : Str} {ps : List Str} {dvs : List V} {sp : Sp} {D : Addr}
theorem weak (F : FnOk P w K mg base (CXr P w) k f fd ps sp) : FnOk P w K mg base (CXr P w) k f fd ps (spW sp) := by
  refine ⟨fun vs H Q E ⟨E0, h, _⟩ => F.len vs H Q E0 h, fun A outer s H args us vs Q E hr e0 hb hv ⟨E0, h, hE⟩ => ?_⟩
  refine codeAny_mono (F.run A outer s H args us vs Q E0 hr e0 hb hv h) fun r s' hq => ?_
  cases r with
  | error e =>
    obtain ⟨a, B, G, cls, d, q1, q2, q3, q4, q5, q6, q7, q8⟩ := hq
    exact ⟨a, B, G, cls, d, q1, q2, q3, q4, q5, q6, q7, hE _ _ _ q8⟩
  | ok fl =>
    cases fl with
    | ret u => exact hq
    | next => exact hq
    | brk => exact hq
    | cont => exact hq
theorem weakF (G : FnAt P w K mg base (CXr P w) k x ps dvs sp) : FnAt P w K mg base (CXr P w) k x ps dvs (spW sp) := by
  obtain ⟨f, fd, ds, h1, h2, h3, h4, h5⟩ := G
  exact ⟨f, fd, ds, h1, h2, h3, h4, weak h5⟩
theorem weakM (G : FnMt P w K mg base (CXr P w) k D x ps dvs sp) : FnMt P w K mg base (CXr P w) k D x ps dvs (spW sp) := by
  obtain ⟨f, fd, ds, h1, h3, h4, h5⟩ := G
  exact ⟨f, fd, ds, h1, h3, h4, weak h5⟩
theorem weakK (G : FnMk P w K mg base (CXr P w) k x D ps dvs sp) : FnMk P w K mg base (CXr P w) k x D ps dvs (spW sp) := by
  obtain ⟨f, fd, ds, h1, h2, h3, h4, h5⟩ := G
  exact ⟨f, fd, ds, h1, h2, h3, h4, weak h5⟩
end
/-! ### values that are no number of a range -/
def BadV (st : Addr) (H : Hp) (lo hi : Int) (x : V) : Prop :=
  x = .non ∨ (∃ b, x = .bl b) ∨ (∃ z, x = .str z) ∨ (∃ a xs, x = .ref a ∧ a ≠ st ∧ (H a = some (.lst xs) ∨ H a = some (.tup xs))) ∨ ∃ i, x = .int i ∧ ¬ (lo ≤ i ∧ i ≤ hi)
theorem BadV.keep {st : Addr} {H H1 : Hp} {lo hi : Int} {x : V} (h : BadV st H lo hi x) (d : Kp [st] H H1) : BadV st H1 lo hi x := by
  rcases h with h | h | h | ⟨a, xs, rfl, n, h⟩ | h
  · exact .inl h
  · exact .inr (.inl h)
  · exact .inr (.inr (.inl h))
  · refine .inr (.inr (.inr (.inl ⟨a, xs, rfl, n, ?_⟩)))
    rcases h with h | h
    · exact .inl (d.one h n)
    · exact .inr (d.one h n)
  · exact .inr (.inr (.inr (.inr h)))
theorem BadV.out {K : PySem.W.Frag} {st : Addr} {H : Hp} {lo hi : Int} {x : V} (h : BadV st H lo hi x) : OutN K H lo hi x := by
  rcases h with rfl | ⟨b, rfl⟩ | ⟨z, rfl⟩ | ⟨a, xs, rfl, n, h⟩ | ⟨i, rfl, h⟩
  · exact .inl .non
  · exact .inl .bl
  · exact .inl .str
  · rcases h with h | h
    · exact .inl (.lst h)
    · exact .inl (.tup h)
  · exact .inr ⟨i, rfl, h⟩
theorem badN {st : Addr} {H : Hp} {lo hi : Int} : BadV st H lo hi .non := .inl rfl
theorem badB {st : Addr} {H : Hp} {lo hi : Int} {b : Bool} : BadV st H lo hi (.bl b) := .inr (.inl ⟨b, rfl⟩)
theorem badS {st : Addr} {H : Hp} {lo hi : Int} {z : Str} : BadV st H lo hi (.str z) := .inr (.inr (.inl ⟨z, rfl⟩))
theorem badI {st : Addr} {H : Hp} {lo hi i : Int} (h : ¬ (lo ≤ i ∧ i ≤ hi)) : BadV st H lo hi (.int i) := .inr (.inr (.inr (.inr ⟨i, rfl, h⟩)))
theorem badL {st a : Addr} {H : Hp} {lo hi : Int} {xs : List V} (n : a ≠ st) (h : H a = some (.lst xs)) : BadV st H lo hi (.ref a) := .inr (.inr (.inr (.inl ⟨a, xs, rfl, n, .inl h⟩)))
theorem badT {st a : Addr} {H : Hp} {lo hi : Int} {xs : List V} (n : a ≠ st) (h : H a = some (.tup xs)) : BadV st H lo hi (.ref a) := .inr (.inr (.inr (.inl ⟨a, xs, rfl, n, .inr h⟩)))
end Lz
namespace Lz
open PySem PySem.Spec PyProof.Rows L2
/-! ### a call of what an expression gives -/
/-- the function that the module's name x holds -/
def tGlo (mg : Str → Option Value) (x : Str) : TE := fun _ H Q => ∀ f : Addr, mg x = some (.ref f) → Q (.ref f) H
def tCallF (tf : TE) (A : Addr → Sp → Prop) (E : XK) (t : TA) : TE := fun σ H Q => tf σ H fun v H1 => ∃ (f : Addr) (sp : Sp), v = .ref f ∧ A f sp ∧ t σ H1 fun vs H2 => sp vs H2 Q E
section
variable {X : Cx} {C : CXT} {k : Nat} {x : Str} {ps : List Str} {dvs : List V} {sp : Sp} {E : XK} {pos : Pos} {e func : Expr} {es : List Expr} {t : TA} {tf : TE} {A : Addr → Sp → Prop}
theorem pe_fnv {mg : Str → Option Value} (G : FnAt X.prog X.w X.K X.mg X.base C k x ps dvs sp) (hm : X.mg = mg := by rfl) (hg : Gl X x := by rfl) (hdb : (x == ("__debug__" : Str)) = false := by decide) :
    PE X (.Name x pos) (tGlo mg x) := by
  subst hm
  obtain ⟨f, _, _, h1, _⟩ := G
  exact ⟨fun pins s σ H Q I h => (pe_gref h1 hg hdb).run pins s σ H Q I (h f h1)⟩
theorem pe_callF (hA : ∀ f sp, A f sp → ∃ fd ps, FnOk X.prog X.w X.K X.mg X.base C k f fd ps sp ∧ PySem.W.keepIn X.K (.ref f) = true ∧ Binds X.K fd ps []) (hr : Room k X.A) (hx : Passes C X E)
    (hf : PE X func tf) (ha : PA X (e :: es) t)
    (hc : eval (.Call func (e :: es) [] pos) X.env = (do callWith pos (← eval func X.env) [] (backTo pos (starEach (e :: es) X.env)) (backToKw pos (keywordEach [] X.env))) := by rfl)
    (he : starEach (e :: es) X.env = (false, eval e X.env) :: starEach es X.env := by rfl) (hpl : (backTo pos (starEach es X.env)).any (·.1) = false := by rfl) :
    PE X (.Call func (e :: es) [] pos) (tCallF tf A E t) := by
  refine ⟨fun pins s σ H Q I h => ?_⟩
  refine Call_ (thn (hf.run pins s σ H _ I h) fun u s1 ⟨v, H1, I1, r1, f, sp, ev, hs, q1⟩ => ?_) hc
  subst ev
  cases r1
  obtain ⟨fd, ps, F, hk, hb⟩ := hA f sp hs
  refine PySem.W.callWith_K (h₀ := X.base) I.ok.mod.kin hk (thn (ha.run pos pins s1 σ H1 _ I1 q1) fun us s2 ⟨vs, H2, I2, r2, q2⟩ => ⟨I2.kIn, ?_⟩) he hpl
  exact run_fn F hr hb .nil hx I2 r2 (by rw [List.append_nil]; exact q2)
end
theorem FnAt.by {P : Program} {w : World} {K : PySem.W.Frag} {mg : Str → Option Value} {base : Heap} {C : CXT} {j k : Nat} {x : Str} {ps : List Str} {sp : Sp} {f : Addr} (G : FnAt P w K mg base C j x ps [] sp) (h : mg x = some (.ref f)) (hj : j ≤ k) :
    ∃ fd ps, FnOk P w K mg base C k f fd ps sp ∧ PySem.W.keepIn K (.ref f) = true ∧ Binds K fd ps [] := by
  obtain ⟨g, fd, ds, h1, h2, h3, h4, h5⟩ := G
  rw [h1] at h
  cases h
  cases h4
  exact ⟨fd, ps, h5.mono hj, h2, h3⟩
theorem indexK {X : Cx} {K : PySem.W.Frag} (e : X.K = K := by rfl) : MtR X "list.index" (rIndex K) := by
  subst e
  exact mt_index
theorem pe_bmK {X : Cx} {K : PySem.W.Frag} {ex : Expr} {T : String} {r : V → List V → Hp → VK → Prop} {u : TE} {t : TA} (e : X.K = K) (h : PE X ex (tBM X.K T r u t)) : PE X ex (tBM K T r u t) := by
  subst e
  exact h
/-! ### two lists of lists, alike -/
theorem neD_two {K : PySem.W.Frag} {H : Hp} {p q a b c d : Addr} {xs ys : List V} {Q : VK} (hp : SqL K H p [.ref a, .ref b]) (hq : SqL K H q [.ref c, .ref d]) (ha : SqL K H a xs) (hb : SqL K H b ys) (hc : SqL K H c xs) (hd : SqL K H d ys)
    (fx : xs.all isS = true) (fy : ys.all isS = true) (k : Q (.bl false) H) : rNeD K (.ref p) (.ref q) H Q := by
  have lay : PyData.canLay0 (.list [.list (xs.map PD), .list (ys.map PD)]) = true := by
    simp [PyData.canLay0, PyData.canLayAll0, (PD_lay fx).1, (PD_lay fy).1]
  have sh : SeqAt.shaped (.list [.list (xs.map PD), .list (ys.map PD)]) = true := by
    unfold SeqAt.shaped
    rw [Bool.and_eq_true]
    refine ⟨lay, ?_⟩
    simp [PyData.depth, PyData.depthAll, (PD_lay fx).2, (PD_lay fy).2]
  have e : PyData.eqv (.list [.list (xs.map PD), .list (ys.map PD)]) (.list [.list (xs.map PD), .list (ys.map PD)]) = true := SeqAt.eqv_refl _ lay
  refine ⟨_, _, .lst hp (.cons (.lst ha (PD_all fx)) (.cons (.lst hb (PD_all fy)) .nil)), .lst hq (.cons (.lst hc (PD_all fx)) (.cons (.lst hd (PD_all fy)) .nil)), sh, sh, ?_⟩
  rw [e]
  exact k
end Lz
namespace Lz
open PySem PySem.Spec PyProof.Rows L2
theorem ixN_nat {n p : Nat} (h : p < n) : ixN n (p : Int) = some p := by
  unfold ixN
  rw [if_pos (by omega), if_pos (by omega)]
  rfl
theorem isS_int {xs : List V} (h : ∀ v ∈ xs, ∃ i : Int, v = .int i) : xs.all isS = true := by
  rw [List.all_eq_true]
  intro v hv
  obtain ⟨i, rfl⟩ := h v hv
  rfl
theorem ordV_int {s n b : Nat} : ∀ v ∈ ordV s n b, ∃ i : Int, v = .int i := by
  intro v hv
  have h1 := (Jo.out_perm (s - 1) (Jo.rotL (rgV 0 n) b)).mem_iff.mp hv
  have h2 := (Jo.rotL_perm (rgV 0 n) b).mem_iff.mp h1
  unfold rgV at h2
  obtain ⟨i, _, e⟩ := List.mem_map.mp h2
  exact ⟨_, e.symm⟩
theorem rg_turn {n b : Nat} (hb : b < n) : ((b : Int) % ((rgV 0 n).length : Int)).toNat = b := by
  rw [rgV_len, emod_nat n (by omega), Nat.mod_eq_of_lt (show (b : Int).toNat < n by omega)]
  omega
theorem rg_ne {n : Nat} (h : 1 ≤ n) : rgV 0 n ≠ [] := by
  intro e
  have := rgV_len n
  rw [e] at this
  simp at this
  omega
theorem ordV_zero (s n : Nat) : Jo.out (s - 1) (rgV 0 n) = ordV s n 0 := by
  show _ = Jo.out (s - 1) (Jo.rotL (rgV 0 n) 0)
  rw [Jo.rotL_zero]
/-- a number from lo to the second, or the class's refusal -/
def spNeed (K : PySem.W.Frag) (C : Addr) (lo : Int) : Sp := fun vs H Q E => ∃ x m, vs = [x, .int m] ∧
  ((∃ i, x = .int i ∧ lo ≤ i ∧ i ≤ m ∧ Q .non H) ∨ (OutN K H lo m x ∧ E (.ref C) none H))
end Lz
namespace Lz
open PySem PySem.Spec PyProof.Rows L2
/-! ### set(xs) of a list of texts: how many of them differ -/
def difs (xs : List Str) : Nat → Nat
  | 0 => 0
  | i + 1 => if (xs.take i).any (· == xs.getD i Str.empty) then difs xs i else difs xs i + 1
theorem difs_le (xs : List Str) : ∀ i, difs xs i ≤ i
  | 0 => Nat.le_refl 0
  | i + 1 => by
    have ih := difs_le xs i
    unfold difs
    split <;> omega
theorem difs_all {xs : List Str} : ∀ i, i ≤ xs.length → (difs xs i = i ↔ (xs.take i).Nodup)
  | 0, _ => by simp [difs]
  | i + 1, h => by
    have ih := difs_all i (Nat.le_of_lt h)
    have le := difs_le xs i
    have ex : xs[i]? = some xs[i] := List.getElem?_eq_getElem h
    have eg : xs.getD i Str.empty = xs[i] := by simp [List.getD, ex]
    have et : xs.take (i + 1) = xs.take i ++ [xs[i]] := by rw [List.take_add_one, ex]; rfl
    rw [et, List.nodup_append]
    unfold difs
    rw [eg]
    by_cases hm : xs[i] ∈ xs.take i
    · have ha : (xs.take i).any (· == xs[i]) = true := List.any_eq_true.mpr ⟨_, hm, beq_self_eq_true _⟩
      rw [if_pos ha]
      constructor
      · intro q
        omega
      · intro ⟨_, _, q⟩
        exact absurd rfl (q _ hm _ (List.mem_singleton.mpr rfl))
    · have ha : ¬ (xs.take i).any (· == xs[i]) = true := fun q => by
        obtain ⟨y, hy, e⟩ := List.any_eq_true.mp q
        rw [eq_of_beq e] at hy
        exact hm hy
      rw [if_neg ha]
      constructor
      · intro q
        refine ⟨ih.mp (by omega), List.pairwise_singleton _ _, fun a ha b hb e => ?_⟩
        rw [List.mem_singleton.mp hb] at e
        rw [e] at ha
        exact hm ha
      · intro ⟨q, _, _⟩
        have := ih.mpr q
        omega
theorem text_at {us : List Value} {xs : List Str} (r : StrsAre us xs) : ∀ (i : Nat) (v : Value), us[i]? = some v → ∃ t, v = .str (xs.getD i Str.empty) t := by
  induction r with
  | nil => exact fun i v h => nomatch h
  | cons y t r ih =>
    intro i v h
    cases i with
    | zero => exact ⟨t, (Option.some.inj h).symm⟩
    | succ i =>
      rw [List.getElem?_cons_succ] at h
      obtain ⟨t2, e⟩ := ih i v h
      exact ⟨t2, e⟩
abbrev freshS (led : Bool) : Obj := { cls := .type "set", dict := none, data := .set #[] 0 (.fresh 0 0 led) }
abbrev HasS (P : Program) (w : World) (h : Heap) (S : Addr) (xs : List Str) (i : Nat) : Prop := h.SetOf (PySem.strKind P w) S (fun z => (xs.take i).any (· == z)) (difs xs i)
theorem hasS_at {P : Program} {w : World} {h g : Heap} {S : Addr} {xs : List Str} {i : Nat} (x : HasS P w h S xs i) (k : ∀ o, h.get? S = some o → g.get? S = some o) : HasS P w g S xs i := by
  obtain ⟨o, es, ep, t, ho, r⟩ := x
  exact ⟨o, es, ep, t, k o ho, r⟩
section
variable {P : Program} {w : World} {A : Around} {E : Value → Shared → Prop}
theorem set_texts {I : Addr} {fp wr : List Addr} {G : Array GenState → Array GenState → Prop} {n : Nat} {Pv : Nat → Value → Prop} {St : Nat → Shared → Prop} {R : Result → Shared → Prop}
    (W : WalksS P w A.in1 I fp wr G n Pv St) {S : Addr} (nS : S ∉ fp) {xs : List Str} (en : xs.length = n) (room : n + 1 < scanBound)
    (vals : ∀ i v, Pv i v → ∃ t, v = .str (xs.getD i Str.empty) t) : ∀ (m i : Nat) (s : Shared), n - i = m → i ≤ n → St i s → HasS P w s.heap S xs i →
      (∀ u, Moved (S :: wr) G s u → HasS P w u.heap S xs n → R (.ok (.ret .none)) u) → codeAny (model P w) A (.builtin "set.update.loop" ⟨[.ref S, .ref I], []⟩) R s := by
  have nw : S ∉ wr := fun q => nS (W.sub _ q)
  have more : ∀ b ∈ wr, b ∈ S :: wr := fun b q => .tail _ q
  intro m
  induction m with
  | zero =>
    intro i s hm hi st has hR
    obtain rfl : i = n := by omega
    refine codeAny_builtin PyProof.Rows.F.entry_set_update_loop ?_
    rw [Around.under_plainId PyProof.Rows.F.plain_set_update_loop _]
    refine wpAny_bind (m := pyNext (.ref I)) (W.done s _ _ st fun u mv => ?_)
    show wpAny _ A.in1 (ret Value.none) _ _ u
    exact wpAny_pure (hR u (mv.mono more) (hasS_at has fun o q => mv.heap S o nw q))
  | succ m ih =>
    intro i s hm hi st has hR
    have hlt : i < n := by omega
    refine codeAny_builtin PyProof.Rows.F.entry_set_update_loop ?_
    rw [Around.under_plainId PyProof.Rows.F.plain_set_update_loop _]
    refine wpAny_bind (m := pyNext (.ref I)) (W.item i s _ _ hlt st fun v u hv st2 mv => ?_)
    obtain ⟨t, rfl⟩ := vals i v hv
    generalize hz : xs.getD i Str.empty = z
    have ez : xs[i]? = some z := by
      rw [← hz, List.getD_eq_getElem?_getD, List.getElem?_eq_getElem (by omega)]
      rfl
    have has2 : HasS P w u.heap S xs i := hasS_at has fun o q => mv.heap S o nw q
    refine wpAny_bind (m := holding [Value.str z t] (setAdd S (.str z t))) (wpAny_holding ?_)
    unfold setAdd
    refine wpAny_holding (wpAny_bind ((PySem.strKind P w).pyHash (k := z) (PySem.strKind_is P w z t) ?_))
    refine wpAny_setAddHashed_of (knd := PySem.strKind P w) (s := { u with toks := u.toks + 1 }) (PySem.strKind_is P w z t) rfl has2 (by have := difs_le xs i; omega) fun g sb has3 => ?_
    have has4 : HasS P w g S xs (i + 1) := by
      refine SetOf_congr has3 (fun y => ?_) ?_
      · rw [List.take_add_one, ez, List.any_append]
        congr 1
        show decide (y = z) = (z == y || false)
        rw [Bool.or_false]
        by_cases q : y = z
        · subst q
          simp
        · have q2 : (z == y) = false := beq_eq_false_iff_ne.mpr fun e => q e.symm
          rw [q2]
          exact decide_eq_false q
      · show _ = if (xs.take i).any (· == xs.getD i Str.empty) then difs xs i else difs xs i + 1
        rw [hz]
    have back : ∀ b, b ∉ S :: wr → ∀ o, u.heap.get? b = some o → g.get? b = some o := fun b nb o q => by
      rw [sb.2 b fun e => nb (by rw [e]; exact .head _)]
      exact q
    refine wpAny_pure ⟨plainId_quiet PyProof.Rows.F.plain_set_update_loop _, ih (i + 1) _ (by omega) hlt (W.frame _ u _ _ st2 (Nat.le_succ _) fun b hb o q => ?_) has4 fun u2 mv2 has5 => hR u2 ?_ has5⟩
    · rw [sb.2 b fun e => nS (by rw [← e]; exact hb)]
      exact q
    · exact Moved.trans W.gtrans ((mv.mono more).then_heap (Nat.le_succ _) fun b o nb q => back b nb o q) mv2
set_option maxHeartbeats 3200000 in
theorem call_setT {s : Shared} {l : Addr} {vs : Array Value} {xs : List Str} {Q : Value → Shared → Prop} (hh : A.handled = none) (hl : s.heap.IsList l vs) (hi : PyProof.Rows.StrsAre vs.toList xs) (room : xs.length + 1 < scanBound)
    (h : ∀ (g : Heap) (tk : Nat), HasS P w g s.heap.objs.size xs xs.length → (∀ b o, b < s.heap.objs.size → s.heap.get? b = some o → g.get? b = some o) → Q (.ref s.heap.objs.size) { s with heap := g, toks := tk }) :
    wpAny (model P w) A (call (.type "set") [.ref l]) Q E s := by
  obtain ⟨c, tl, hmro⟩ := PySem.F.called_set.mro
  have y1 := PySem.F.called_set.made
  have y2 := PySem.F.called_set.sub
  have y3 := PySem.F.called_set.notType
  have y4 := PySem.F.called_set.canCreate
  have y5 := PySem.F.typeCall_set_1 (.ref l)
  have len : xs.length = vs.size := by rw [← StrsAre.len_eq hi, Array.length_toList]
  refine wpAny_call (codeAny_of_tree (show wpAny _ _ (callAny (.type "set") _) _ _ _ from ?_))
  refine wpAny_pure ⟨Code.quiet_builtin _ (by decide +kernel), codeAny_builtin PySem.F.entry_type_call ?_⟩
  rw [Around.under_plain (weight_type_call_type "set" [.ref l] []) rfl]
  repeat (any_goals (first | assumption | wp_step))
  generalize hS0 : s.heap.objs.size = S at h ⊢
  refine codeAny_mono (code_set_new_1 (.ref l) (E := E) (Q₁ := fun x u => ∃ led, x = .ref S ∧ u = { s with heap := s.heap.push (freshS led) }) fun led => ⟨led, by rw [hS0], rfl⟩) fun r u hr => ?_
  match r, hr with
  | .error e, hr => exact hr
  | .ok (.ret x), hr =>
    obtain ⟨led, rfl, rfl⟩ := hr
    have gS : (s.heap.push (freshS led)).get? S = some (freshS led) := by
      rw [← hS0]
      exact Heap.get?_push_size _ rfl
    have tS : Shared.TypeIs { s with heap := s.heap.push (freshS led) } (.ref S) "set" := ⟨_, gS, rfl⟩
    have z1 := PySem.F.called_set.init.lookup
    have z2 := PySem.F.called_set.init.bind (.ref S)
    repeat (any_goals (first | assumption | wp_step))
    refine codeAny_mono (codeAny_call_builtin (R := wants (fun x u => x = .none ∧ ∃ g tk, u = { s with heap := g, toks := tk } ∧ HasS P w g S xs xs.length ∧ ∀ b o, b < S → s.heap.get? b = some o → g.get? b = some o) E)
      PySem.F.called_set.init.plain PySem.F.entry_set_init (check_set_init_1 tS ?_)) fun r2 u2 hr2 => ?_
    · obtain ⟨ol, hol, hcl, nl, hdl⟩ := hl
      obtain ⟨oc, od, odt, osl⟩ := ol
      dsimp only at hcl hdl
      subst hcl
      subst hdl
      have go : (s.heap.push (freshS led)).get? l = some { cls := .type "list", dict := od, data := .seq vs nl, slots := osl } := Heap.get?_push_of_some _ hol
      have gl : (s.heap.push (freshS led)).IsList l vs := ⟨_, go, rfl, nl, rfl⟩
      have q1 := PySem.F.sub_list_set
      have q2 := PySem.F.sub_list_frozenset
      have q3 : (Value.type "list" == Value.type "dict") = false := by decide
      unfold Builtin.«set.__init__» noKeywords Builtin.Frozenset.updateFrom
      generalize hPI : pyIter = PI
      wp_walk
      subst hPI
      refine wpAny_pyIter_list gl (wpAny_bind (wpAny_runValue ?_))
      have lS : l < S := by
        rw [← hS0]
        exact Heap.lt_size hol
      have eI : (s.heap.push (freshS led)).objs.size = S + 1 := by rw [Heap.size_push, hS0]
      have hA : A.in1.in1.in1.handled = none := by simp [hh]
      have nI : l ≠ (s.heap.push (freshS led)).objs.size := by
        rw [eI]
        exact Nat.ne_of_lt (Nat.lt_succ_of_lt lS)
      have nS : S ∉ [(s.heap.push (freshS led)).objs.size, l] := by
        rw [eI]
        simp only [List.mem_cons, List.not_mem_nil, or_false, not_or]
        exact ⟨Nat.ne_of_lt (Nat.lt_succ_self _), Nat.ne_of_gt lS⟩
      refine set_texts ((Walks.list hA _ l nI vs).toS) nS len (by omega) (fun i v hv => text_at hi i v (by rw [Array.getElem?_toList]; exact hv)) vs.size 0 _ rfl (Nat.zero_le _)
        ⟨⟨_, Heap.get?_push_size _ rfl, rfl, rfl⟩, gl.push _⟩ ?start ?back
      case start => exact SetOf_congr ((PyProof.Rows.setObjOf_fresh (knd := PySem.strKind P w) led).setOf (Heap.get?_push_of_some _ gS) (by unfold scanBound; omega)) (fun _ => rfl) rfl
      case back =>
        intro u mv has
        obtain ⟨g, ge, dr, tk, os⟩ := u
        obtain rfl : ge = s.gens := mv.gens
        obtain rfl : dr = s.drawn := mv.drawn
        obtain rfl : os = s.os := mv.os
        refine wpAny_pure (show wpAny _ _ (ret Value.none) _ _ _ from wpAny_pure ⟨rfl, g, tk, rfl, ?_, fun b o hb q => ?_⟩)
        · rw [len]
          exact has
        · refine mv.heap b o ?_ (Heap.get?_push_of_some _ (Heap.get?_push_of_some _ q))
          rw [eI]
          simp only [List.mem_cons, List.not_mem_nil, or_false, not_or]
          exact ⟨Nat.ne_of_lt hb, Nat.ne_of_lt (Nat.lt_succ_of_lt hb)⟩
    · match r2, hr2 with
      | .error e, hr2 => exact hr2
      | .ok (.ret y), hr2 =>
        obtain ⟨rfl, g, tk, rfl, has, kp⟩ := hr2
        repeat (any_goals (first | assumption | wp_step))
        exact h g tk has kp
      | .ok .next, hr2 => exact hr2.elim
      | .ok .brk, hr2 => exact hr2.elim
      | .ok .cont, hr2 => exact hr2.elim
  | .ok .next, hr => exact hr.elim
  | .ok .brk, hr => exact hr.elim
  | .ok .cont, hr => exact hr.elim
end
/-- a set of texts, of which only the number is known -/
def SetT (P : Program) (w : World) (a : Addr) (zs : List Str) : HO := .ext fun h => HasS P w h a zs zs.length
def rSetT (P : Program) (w : World) (K : PySem.W.Frag) : List V → Hp → VK → Prop := fun xs H Q => ∃ (p : Addr) (zs : List Str), xs = [.ref p] ∧ SqL K H p (zs.map V.str) ∧ zs.length ≤ 1000 ∧
  ∀ q, H q = none → Q (.ref q) (upd H q (SetT P w q zs))
def rLenT (P : Program) (w : World) : List V → Hp → VK → Prop := fun xs H Q => ∃ (a : Addr) (zs : List Str), xs = [.ref a] ∧ H a = some (SetT P w a zs) ∧ zs.length ≤ 1000 ∧ Q (.int (difs zs zs.length)) H
theorem cr_setT {X : Cx} {P : Program} {w : World} {K : PySem.W.Frag} (hc : X.calm = true) (e1 : X.prog = P := by rfl) (e2 : X.w = w := by rfl) (e3 : X.K = K := by rfl) : CallR X (.type "set") (rSetT P w K) := by
  subst e1 e2 e3
  intro pins s σ H xs us Q I r h
  obtain ⟨p, zs, rfl, hS, hl, q⟩ := h
  obtain ⟨its, rv, pl, hz⟩ := I.list hS
  rw [Vals.ref1 r]
  refine call_setT (I.ok.hd hc) pl.isList (by rw [List.toList_toArray]; exact rv.strs) (by unfold scanBound; omega) fun g tk has kp => ?_
  refine ⟨.ref _, upd H s.heap.objs.size (SetT X.prog X.w s.heap.objs.size zs), I.laid (t' := tk) (fun b u e => kp b u (Heap.lt_size e) e) (Nat.le_refl _) ⟨has, ?_, fun h1 h2 x k => hasS_at x k⟩, rfl, q _ (I.hok.fresh (Nat.le_refl _))⟩
  obtain ⟨o, _, _, _, ho, _⟩ := has
  exact ⟨o, ho⟩
theorem call_lenT {X : Cx} {P : Program} {w : World} (e1 : X.prog = P := by rfl) (e2 : X.w = w := by rfl) : CallR X (.builtin "len") (rLenT P w) := by
  subst e1 e2
  intro pins s σ H xs us Q I r h
  obtain ⟨a, zs, rfl, ha, hl, q⟩ := h
  rw [Vals.ref1 r]
  obtain ⟨o, es, ep, t, ho, hex, hd, _, _, _, hf, hn⟩ := (show HasS X.prog X.w s.heap a zs zs.length from (I.hok a _ ha).1)
  have le := difs_le zs zs.length
  refine PySem.call_len_set ho hex hd hf ?_ ⟨.int _, H, I.tok _, ⟨_, by rw [hn]⟩, q⟩
  have : ((es.size : Nat) : Int) < 4096 := by omega
  exact Int.lt_of_lt_of_le this (by decide)
end Lz
namespace Lz
open PySem PySem.Spec PyProof.Rows L2
/-! ### methods and makers by their names -/
section
variable {X : Cx} {C : CXT} {k : Nat} {x m : Str} {D : Addr} {ps : List Str} {dvs : List V} {sp : Sp} {E : XK} {p pos apos : Pos} {e o : Expr} {es : List Expr} {t : TA} {ta : TE}
theorem pe_mth {pl : Sem Bool} (G : FnMt X.prog X.w X.K X.mg X.base C k D m ps dvs sp) (c : Cls X.K D) (hr : Room k X.A) (hx : Passes C X E) (he : PE X o ta) (ha : PA X (e :: es) t)
    (hst : starEach (e :: es) X.env = (false, eval e X.env) :: starEach es X.env := by rfl) (hpl : (backTo pos (starEach es X.env)).any (·.1) = false := by rfl)
    (ht : eval (.Call (.Attribute o m apos) (e :: es) [] pos) X.env = (do let v ← eval o X.env; standAt apos.atName; let (f, first) ← holding [v] (getMethod v m pl); callWith pos f first (backTo pos (starEach (e :: es) X.env)) (backToKw pos (keywordEach [] X.env))) := by rfl) :
    PE X (.Call (.Attribute o m apos) (e :: es) [] pos) (tMeth D m sp dvs E ta t) := by
  obtain ⟨f, fd, ds, h1, h2, h3, h4⟩ := G
  exact pe_meth (pl := pl) he c h1 h4 hr h2 h3 hx ha hst hpl ht
theorem pe_mth0 {pl : Sem Bool} (G : FnMt X.prog X.w X.K X.mg X.base C k D m ps dvs sp) (c : Cls X.K D) (hr : Room k X.A) (hx : Passes C X E) (he : PE X o ta)
    (ht : eval (.Call (.Attribute o m apos) [] [] pos) X.env = (do let v ← eval o X.env; standAt apos.atName; let (f, first) ← holding [v] (getMethod v m pl); callWith pos f first (backTo pos (starEach [] X.env)) (backToKw pos (keywordEach [] X.env))) := by rfl) :
    PE X (.Call (.Attribute o m apos) [] [] pos) (tMeth D m sp dvs E ta tNil) := by
  obtain ⟨f, fd, ds, h1, h2, h3, h4⟩ := G
  exact pe_meth0 (pl := pl) he c h1 h4 hr h2 h3 hx ht
theorem pe_mkr (G : FnMk X.prog X.w X.K X.mg X.base C k x D ps dvs sp) (hr : Room (k + 1) X.A) (hx : Passes C X E) (ha : PA X (e :: es) t)
    (hg : Gl X x := by rfl) (hdb : (x == ("__debug__" : Str)) = false := by decide) (he : starEach (e :: es) X.env = (false, eval e X.env) :: starEach es X.env := by rfl)
    (hpl : (backTo pos (starEach es X.env)).any (·.1) = false := by rfl) : PE X (.Call (.Name x p) (e :: es) [] pos) (tMake D sp dvs E t) := by
  obtain ⟨f, fd, ds, h1, h2, h3, h4, h5⟩ := G
  exact pe_make h1 h5 hr hg h2 h3 h4 hx ha hdb he hpl
end
/-- o.f as a target within others -/
def gFld (K : PySem.W.Frag) (ta : TE) (f : Str) : TG := fun v σ H Q => ta σ H fun x H2 => ∃ a C dx fs, x = .ref a ∧ H2 a = some (.ins C dx fs) ∧ Cls K C ∧ NoAttr K C f ∧ fs.length < 1000 ∧ Q σ (upd H2 a (.ins C dx (putF f v fs)))
theorem pg_fld {X : Cx} {o : Expr} {f : Str} {pos : Pos} {ta : TE} (ha : PE X o ta)
    (hw : ∀ v, assign (.Attribute o f pos) X.env v = (do let z ← holding [v] (eval o X.env); standAt pos.atName; holding [v, z] (setAttr z f v); release [v, z] []) := by intro _; rfl) :
    PG X (.Attribute o f pos) (gFld X.K ta f) := by
  refine ⟨fun pins s σ H v u Q I r h => ?_⟩
  rw [hw]
  refine wpAny_bind (wpAny_holding (thn (ha.run pins s σ H _ I h) fun ov s1 ⟨x, H2, I2, rx, a, C, dx, fs, ex, ea, c, n, l, q⟩ => ?_))
  subst ex
  obtain rfl : ov = Value.ref a := rx
  refine wpAny_bind (wpAny_standAt (wpAny_bind (wpAny_holding (setattr_ok I2 ea c n l r fun s3 I3 => ?_))))
  exact wpAny_release ⟨σ, _, I3, q⟩
/-! ### what is a text -/
def isT : V → Bool
  | .str _ => true
  | _ => false
/-- no text, and so it stays -/
def NotTxt (K : PySem.W.Frag) (H : Hp) (v : V) : Prop := ∃ t : String, (∀ H', Kp [] H H' → TyX K H' v (.type t)) ∧ t ∈ ["NoneType", "bool", "int", "list", "tuple", "dict"]
theorem NotTxt.keep {K : PySem.W.Frag} {H H1 : Hp} {v : V} (h : NotTxt K H v) (k : Kp [] H H1) : NotTxt K H1 v := by
  obtain ⟨t, h1, h2⟩ := h
  exact ⟨t, fun H' k' => h1 H' (k.trans k'), h2⟩
theorem NotTxt.non {K : PySem.W.Frag} {H : Hp} : NotTxt K H .non := ⟨_, fun _ _ => .base .non, by simp⟩
theorem NotTxt.bl {K : PySem.W.Frag} {H : Hp} {b : Bool} : NotTxt K H (.bl b) := ⟨_, fun _ _ => .base (.bl b), by simp⟩
theorem NotTxt.int {K : PySem.W.Frag} {H : Hp} {i : Int} : NotTxt K H (.int i) := ⟨_, fun _ _ => .base (.int i), by simp⟩
theorem NotTxt.lst {K : PySem.W.Frag} {H : Hp} {a : Addr} {xs : List V} (h : H a = some (.lst xs)) : NotTxt K H (.ref a) := ⟨_, fun _ k => .base (.lst (k _ _ h List.not_mem_nil)), by simp⟩
theorem NotTxt.tup {K : PySem.W.Frag} {H : Hp} {a : Addr} {xs : List V} (h : H a = some (.tup xs)) : NotTxt K H (.ref a) := ⟨_, fun _ k => .base (.tup (k _ _ h List.not_mem_nil)), by simp⟩
/-- what a ring may be made of -/
def RowV (H : Hp) (x : V) (zs : List Str) : Prop := ∃ p, x = .ref p ∧ H p = some (.lst (zs.map V.str)) ∧ 1 ≤ zs.length ∧ zs.length ≤ 200
/-- of what none may be made -/
def OddV (K : PySem.W.Frag) (H : Hp) (x : V) : Prop := (∃ t : String, (∀ H', Kp [] H H' → TyX K H' x (.type t)) ∧ t ∈ ["NoneType", "bool", "int", "str", "tuple", "dict"]) ∨
  (∃ (p : Addr) (xs : List V), x = .ref p ∧ H p = some (.lst xs) ∧ (xs.length = 0 ∨ 200 < xs.length ∨ (xs.all isT = false ∧ ∀ v ∈ xs, isT v = true ∨ NotTxt K H v))) ∨
  ∃ zs, RowV H x zs ∧ ¬ zs.Nodup
theorem RowV.keep {H H1 : Hp} {x : V} {zs : List Str} {ws : List Addr} (h : RowV H x zs) (k : Kp ws H H1) (n : ∀ p, x = .ref p → p ∉ ws) : RowV H1 x zs := by
  obtain ⟨p, rfl, e, l1, l2⟩ := h
  exact ⟨p, rfl, k _ _ e (n p rfl), l1, l2⟩
theorem RowV.keep0 {H H1 : Hp} {x : V} {zs : List Str} (h : RowV H x zs) (k : Kp [] H H1) : RowV H1 x zs := h.keep k fun _ _ => List.not_mem_nil
theorem OddV.keep {K : PySem.W.Frag} {H H1 : Hp} {x : V} (h : OddV K H x) (k : Kp [] H H1) : OddV K H1 x := by
  rcases h with ⟨t, h1, h2⟩ | ⟨p, xs, rfl, e, h⟩ | ⟨zs, h, n⟩
  · exact .inl ⟨t, fun H' k' => h1 H' (k.trans k'), h2⟩
  · refine .inr (.inl ⟨p, xs, rfl, k _ _ e List.not_mem_nil, ?_⟩)
    rcases h with h | h | ⟨h1, h2⟩
    · exact .inl h
    · exact .inr (.inl h)
    · refine .inr (.inr ⟨h1, fun v hv => ?_⟩)
      rcases h2 v hv with q | q
      · exact .inl q
      · exact .inr (q.keep k)
  · exact .inr (.inr ⟨zs, h.keep0 k, n⟩)
/-- no number of the range, now and later -/
def OutK (K : PySem.W.Frag) (H : Hp) (lo hi : Int) (x : V) : Prop := ∀ H', Kp [] H H' → OutN K H' lo hi x
theorem OutK.keep {K : PySem.W.Frag} {H H1 : Hp} {lo hi : Int} {x : V} (h : OutK K H lo hi x) (k : Kp [] H H1) : OutK K H1 lo hi x := fun H' k' => h H' (k.trans k')
theorem BadV.outK {K : PySem.W.Frag} {st : Addr} {H : Hp} {lo hi : Int} {x : V} (h : BadV st H lo hi x) : OutK K H lo hi x := fun _ k => (h.keep (k.mono (by simp))).out
theorem isT_map (zs : List Str) : (zs.map V.str).all isT = true := by
  rw [List.all_map, List.all_eq_true]
  intro x _
  rfl
theorem kp_nil {H H' : Hp} {ws : List Addr} (k : Kp ws H H') (h : ∀ w ∈ ws, H w = none) : Kp [] H H' := fun a o e _ => k a o e fun q => by
  rw [h a q] at e
  cases e
end Lz
namespace Jo
/-- who are left, from the next one on, after m turns -/
def after {α : Type} (t : Nat) : Nat → List α → List α
  | 0, xs => xs
  | m + 1, xs => match rotL xs (t % xs.length) with
    | [] => []
    | _ :: r => after t m r
theorem after_step {α : Type} {t m : Nat} {xs : List α} {h : α} {r : List α} (e : rotL xs (t % xs.length) = h :: r) : after t (m + 1) xs = after t m r := by
  show (match rotL xs (t % xs.length) with | [] => [] | _ :: r => after t m r) = _
  rw [e]
theorem out_after {α : Type} (t : Nat) : ∀ (m : Nat) (xs : List α), m ≤ xs.length → (out t xs).take m ++ out t (after t m xs) = out t xs ∧ (after t m xs).length = xs.length - m
  | 0, xs, _ => ⟨rfl, rfl⟩
  | m + 1, xs, h => by
    have hne : xs ≠ [] := fun q => by rw [q] at h; cases h
    obtain ⟨x, r, e, l⟩ := rot_cons t hne
    obtain ⟨h1, h2⟩ := out_after t m r (by omega)
    rw [after_step e, out_step e]
    refine ⟨?_, by omega⟩
    rw [List.take_succ_cons, List.cons_append, h1]
theorem after_more {α : Type} (t : Nat) : ∀ (m : Nat) (xs : List α), m < xs.length → ∃ h, rotL (after t m xs) (t % (after t m xs).length) = h :: after t (m + 1) xs ∧ (out t xs)[m]? = some h
  | 0, xs, h => by
    have hne : xs ≠ [] := fun q => by rw [q] at h; cases h
    obtain ⟨x, r, e, l⟩ := rot_cons t hne
    refine ⟨x, ?_, by rw [out_step e]; rfl⟩
    rw [after_step e]
    exact e
  | m + 1, xs, h => by
    have hne : xs ≠ [] := fun q => by rw [q] at h; cases h
    obtain ⟨x, r, e, l⟩ := rot_cons t hne
    obtain ⟨y, h1, h2⟩ := after_more t m r (by omega)
    refine ⟨y, ?_, by rw [out_step e]; exact h2⟩
    rw [after_step e, after_step e]
    exact h1
theorem after_all {α : Type} (t : Nat) (xs : List α) : after t xs.length xs = [] := by
  have h := (out_after t xs.length xs (Nat.le_refl _)).2
  rw [Nat.sub_self] at h
  exact List.eq_nil_of_length_eq_zero h
theorem after_mem {α : Type} (t : Nat) : ∀ (m : Nat) (xs : List α), ∀ x ∈ after t m xs, x ∈ xs
  | 0, xs, x, h => h
  | m + 1, xs, x, h => by
    by_cases hne : xs = []
    · subst hne
      rw [show after t (m + 1) ([] : List α) = [] by simp [after, rotL]] at h
      exact h
    · obtain ⟨y, r, e, l⟩ := rot_cons t hne
      rw [after_step e] at h
      have h1 := after_mem t m r x h
      exact (rotL_perm xs (t % xs.length)).mem_iff.mp (by rw [e]; exact .tail _ h1)
end Jo
namespace Lz
open PySem PySem.Spec PyProof.Rows L2
/-! ### a ring: x the instance, r the list of those left, o the list of those out -/
structure RingAt (K : PySem.W.Frag) (H : Hp) (x r o : Addr) (s : Nat) (rest out : List Str) : Prop where
  ins : ∃ dx, H x = some (.ins (He.ga K "Ring") dx [("step", .int s), ("rest", .ref r), ("out", .ref o)])
  lr : H r = some (.lst (rest.map V.str))
  lo : H o = some (.lst (out.map V.str))
  ne : r ≠ o
  s1 : 1 ≤ s
  s2 : (s : Int) ≤ 10 ^ 60
  room : rest.length + out.length ≤ 400
section
variable {K : PySem.W.Frag} {H H1 : Hp} {x r o a : Addr} {s : Nat} {rest out : List Str}
theorem RingAt.keep {ws : List Addr} (R : RingAt K H x r o s rest out) (k : Kp ws H H1) (n : x ∉ ws) (nr : r ∉ ws) (no : o ∉ ws) : RingAt K H1 x r o s rest out := by
  obtain ⟨dx, e⟩ := R.ins
  exact ⟨⟨dx, k _ _ e n⟩, k _ _ R.lr nr, k _ _ R.lo no, R.ne, R.s1, R.s2, R.room⟩
theorem RingAt.keep0 (R : RingAt K H x r o s rest out) (k : Kp [] H H1) : RingAt K H1 x r o s rest out := R.keep k List.not_mem_nil List.not_mem_nil List.not_mem_nil
theorem RingAt.xr (R : RingAt K H x r o s rest out) : x ≠ r := fun q => by
  obtain ⟨dx, e⟩ := R.ins
  rw [q, R.lr] at e
  cases e
theorem RingAt.xo (R : RingAt K H x r o s rest out) : x ≠ o := fun q => by
  obtain ⟨dx, e⟩ := R.ins
  rw [q, R.lo] at e
  cases e
theorem RingAt.nx (R : RingAt K H x r o s rest out) {ys : List V} (h : H a = some (.lst ys)) : a ≠ x := fun q => by
  obtain ⟨dx, e⟩ := R.ins
  rw [← q, h] at e
  cases e
end
end Lz
namespace Lz
open PySem PySem.Spec PyProof.Rows L2
/-! ### texts of numbers -/
theorem tl_app (x y : Str) : TL.tl (x ++ y) = TL.tl x ++ TL.tl y := TL.tl_append x y
abbrev numS (n : Nat) : Str := Str.ofString (toString ((n : Nat) : Int))
theorem ok_tl {z : Str} (h : ∀ c ∈ TL.tl z, c < 1114112) : PyData.strOk z = true := by
  show z.cps.all (· < 0x110000) = true
  rw [← Array.all_toList, List.all_eq_true]
  exact fun c hc => decide_eq_true (h c hc)
theorem tl_ok {z : Str} (h : PyData.strOk z = true) : ∀ c ∈ TL.tl z, c < 1114112 := by
  intro c hc
  have h : z.cps.all (· < 0x110000) = true := h
  rw [← Array.all_toList, List.all_eq_true] at h
  exact of_decide_eq_true (h c hc)
theorem ok_app {x y : Str} (hx : PyData.strOk x = true) (hy : PyData.strOk y = true) : PyData.strOk (x ++ y) = true := ok_tl fun c hc => by
  rw [tl_app] at hc
  rcases List.mem_append.mp hc with h | h
  · exact tl_ok hx c h
  · exact tl_ok hy c h
theorem num_ok (n : Nat) : PyData.strOk (numS n) = true := ok_tl fun c hc => by
  rw [TL.tl_num] at hc
  have := TL.numL_digits n c hc
  omega
theorem num_inj {m n : Nat} (h : numS m = numS n) : m = n := by
  have e := congrArg TL.tl h
  rw [TL.tl_num, TL.tl_num] at e
  exact TL.numL_inj e
theorem num_len {n : Nat} (h : n < 100000) : (numS n).length ≤ 5 := by
  have e : (numS n).length = (TL.tl (numS n)).length := TL.len_tl _
  rw [e, TL.tl_num]
  exact TL.numL_len (k := 5) (by decide) (by omega)
theorem app_inj {a x y : Str} (h : a ++ x = a ++ y) : x = y := by
  have e := congrArg TL.tl h
  rw [tl_app, tl_app] at e
  exact TL.ext_tl (List.append_cancel_left e)
theorem app_injR {a x y : Str} (h : x ++ a = y ++ a) : x = y := by
  have e := congrArg TL.tl h
  rw [tl_app, tl_app] at e
  exact TL.ext_tl (List.append_cancel_right e)
theorem nodup_of {α : Type} (f : Nat → α) (n : Nat) (h : ∀ i j, i < n → j < n → f i = f j → i = j) : ((List.range n).map f).Nodup := by
  refine List.pairwise_map.mpr (List.Pairwise.imp_of_mem (fun {i j} hi hj hn e => hn ?_) List.nodup_range)
  exact h i j (List.mem_range.mp hi) (List.mem_range.mp hj) e
theorem isS_texts {zs : List Str} (h : ∀ z ∈ zs, PyData.strOk z = true) : (zs.map V.str).all isS = true := by
  rw [List.all_map, List.all_eq_true]
  exact fun z hz => h z hz
theorem out_get {α : Type} {s n b i : Nat} (f : Nat → α) (hs : 1 ≤ s) (hb : b < n) (hi : i < n) : (Jo.out (s - 1) (Jo.rotL ((List.range n).map f) b))[i]? = some (f ((b + Jo.pos s n ((i + 1) * s)) % n)) := by
  rw [Jo.rotL_map, Jo.rot_range_map hb, List.map_map, Jo.out_map, List.getElem?_map, Jo.out_range hs hi]
  show some (f ((Jo.pos s n ((i + 1) * s) + b) % n)) = _
  rw [Nat.add_comm]
theorem log_num {n : Nat} (h : n < 100000) : ((n : Nat) : Int).natAbs.log2 < 1920 := by
  show n.log2 < 1920
  have e : n.log2 ≤ n := by
    by_cases z : n = 0
    · rw [z]
      decide
    · have := Nat.log2_self_le z
      have q := Nat.lt_two_pow_self (n := n.log2)
      omega
  by_cases z : n = 0
  · rw [z]
    decide
  · have h2 := Nat.log2_self_le z
    have h3 : 2 ^ n.log2 < 2 ^ 17 := by omega
    have := (Nat.pow_lt_pow_iff_right (by decide : 1 < 2)).mp h3
    omega
end Lz
namespace Lz
open PySem PySem.Spec PyProof.Rows L2
/-! ### a text, many times -/
def rMulS : R2 := fun x y H Q => ∃ (z : Str) (n : Nat), x = .str z ∧ y = .int (n : Int) ∧ n ≤ 1000 ∧ z.length = 1 ∧ Q (.str (Txt.mul z (n : Int))) H
theorem op_mulS {X : Cx} : OpR X (binaryOp .Mult) rMulS := by
  intro pins s σ H x y v u Q I rx ry h
  obtain ⟨z, n, rfl, rfl, hn, hz, q⟩ := h
  obtain ⟨t, rfl⟩ := rx
  obtain ⟨t', rfl⟩ := ry
  refine PySem.SB.mul ⟨?_, fun h1 _ => ?_, fun _ _ => ?_⟩ fun t2 k => ⟨.str _, H, I.tok _, ⟨_, rfl⟩, q⟩
  · rw [decide_eq_false (show ¬ ((n : Int) < -(2 ^ 63)) by omega), decide_eq_false (show ¬ ((n : Int) ≥ 2 ^ 63) by omega)]
    rfl
  · rw [hz]
    have h2 : (1000 : Int) ≤ (2 ^ 63 - 1) / (n : Int) := (Int.le_ediv_iff_mul_le (by omega)).mpr (by omega)
    omega
  · show decide (z.length * (n : Int).toNat > sizeLine) = false
    rw [hz]
    refine decide_eq_false ?_
    rw [sizeLine_eq]
    omega
theorem tl_mul (c n : Nat) : TL.tl (Txt.mul ⟨#[c]⟩ (n : Int)) = List.replicate n c := mul_one_list c (n : Int)
/-! ### xs[::k], k 1 or -1 -/
def tStep (K : PySem.W.Frag) (te ts : TE) : TE := fun σ H Q => te σ H fun x H1 => ∃ a, x = .ref a ∧ tPart ts σ H1 fun o H2 => ∃ (xs : List V) (c : Int), o = some c ∧ (c = 1 ∨ c = -1) ∧ SqL K H2 a xs ∧
  ∀ p, H2 p = none → Q (.ref p) (upd H2 p (.lst (if c = 1 then xs else xs.reverse)))
theorem pick_one (its : Array Value) : slicePick its none none (some 1) = its := slicePick_all its
theorem pe_stepL {X : Cx} {e st : Expr} {te ts : TE} {p3 pos : Pos} (he : PE X e te) (hs : PE X st ts)
    (hcut : ∀ a b, subscripted (.Slice none none (some st) p3) false a b = operate [a, b] (getItem a b) := by intro _ _; with_unfolding_all rfl) :
    PE X (.Subscript e (.Slice none none (some st) p3) pos) (tStep X.K te ts) := by
  refine ⟨fun pins s σ H Q I h => ?_⟩
  refine Subscript_ (thn (he.run pins s σ H _ I h) fun v s1 ⟨x, H1, I1, r1, a, ex, q1⟩ => ?_)
  subst ex
  cases r1
  refine wpAny_Slice (thn (po_none.run pins s1 σ H1 (fun o G => o = none ∧ G = H1) I1 ⟨rfl, rfl⟩) fun vl s2 ⟨l, H2, I2, pl, el, e2⟩ => ?_)
  subst el e2
  refine thn (po_none.run pins s2 σ H2 (fun o G => o = none ∧ G = H2) I2 ⟨rfl, rfl⟩) fun vu s3 ⟨u, H3, I3, pu, eu, e3⟩ => ?_
  subst eu e3
  refine thn ((po_some hs).run pins s3 σ H3 _ I3 q1) fun vs s4 ⟨o, H4, I4, ps, xs, c, eo, hc, hx, q⟩ => ?_
  subst eo
  have I5 : Inv X pins σ H4 { s4 with heap := s4.heap.push { cls := .type "slice", data := .fields #[vl, vu, vs] } } := I4.kept (t' := s4.toks) fun b u z => Heap.get?_push_of_some _ z
  obtain ⟨its, r, ht, hz⟩ := I5.list hx
  have hlen := r.length
  refine tail_any (ops := [.ref a, .ref s4.heap.objs.size]) ht.isList.typeIs (PySem.slot_list_getitem.lookup) ?_ (hcut _ _)
  refine wpAny_getItem_list_slice ht.isList (Heap.IsSliceOf.new _ vl vu vs) pl pu ps (by rcases hc with rfl | rfl <;> decide) ?_ (by rw [List.size_toArray]; omega)
  rcases hc with rfl | rfl
  · rw [pick_one]
    exact ⟨.ref _, _, I5.laid (t' := s4.toks) (o := .lst xs) (fun b u z => Heap.get?_push_of_some _ z) (Nat.le_refl _) ⟨hz, _, 0, r, Heap.get?_push_size _ rfl⟩, rfl, q _ (I5.hok.fresh (Nat.le_refl _))⟩
  · rw [PySem.W.krv_pick]
    exact ⟨.ref _, _, I5.laid (t' := s4.toks) (o := .lst xs.reverse) (fun b u z => Heap.get?_push_of_some _ z) (Nat.le_refl _) ⟨by rw [List.length_reverse]; exact hz, _, 0, r.reverse, Heap.get?_push_size _ rfl⟩, rfl, q _ (I5.hok.fresh (Nat.le_refl _))⟩
/-! ### is True, is False: the same one -/
def rSameB (r : Bool) : R2 := fun x y H Q => ∃ c : Bool, x = .bl c ∧ y = .bl c ∧ Q (.bl r) H
theorem op_isB {X : Cx} : OpR X (compareOp .Is) (rSameB true) := fun pins s σ H x y v u Q I rx ry ⟨c, ex, ey, q⟩ => by
  subst ex ey
  have e1 : v = Value.bool c := rx
  have e2 : u = Value.bool c := ry
  rw [e1, e2]
  exact wpAny_is_self rfl ⟨.bl true, H, I, rfl, q⟩
theorem op_notB {X : Cx} : OpR X (compareOp .IsNot) (rSameB false) := fun pins s σ H x y v u Q I rx ry ⟨c, ex, ey, q⟩ => by
  subst ex ey
  have e1 : v = Value.bool c := rx
  have e2 : u = Value.bool c := ry
  rw [e1, e2]
  exact wpAny_isNot_self rfl ⟨.bl false, H, I, rfl, q⟩
end Lz
namespace Lz
open PySem PySem.Spec PyProof.Rows L2

def top (i : Nat) : Stmt := PySem.Challenge.pw_countout_k01_rings_laid_out.main.body.getD i (.Pass ⟨0, 0, 0, 0⟩)
abbrev cCountError (K : PySem.W.Frag) : Addr := He.ga K "CountError"
abbrev cNoRing (K : PySem.W.Frag) : Addr := He.ga K "NoRing"
abbrev cNoMany (K : PySem.W.Frag) : Addr := He.ga K "NoMany"
abbrev cNoStep (K : PySem.W.Frag) : Addr := He.ga K "NoStep"
abbrev cNoPlace (K : PySem.W.Frag) : Addr := He.ga K "NoPlace"
abbrev cNoCount (K : PySem.W.Frag) : Addr := He.ga K "NoCount"
abbrev cNoHand (K : PySem.W.Frag) : Addr := He.ga K "NoHand"
abbrev cTwiceTold (K : PySem.W.Frag) : Addr := He.ga K "TwiceTold"
abbrev cTooMany (K : PySem.W.Frag) : Addr := He.ga K "TooMany"
def errNames : List (Str × Str) := [("NoRing", "ring"), ("NoMany", "many"), ("NoStep", "step"), ("NoPlace", "place"), ("NoCount", "count"), ("NoHand", "hand"), ("TwiceTold", "twice"), ("TooMany", "much")]
/-- an own refusal, told by its word -/
def EE (K : PySem.W.Frag) (Q : VK) : XK := fun cls d H => d = none ∧ ∃ x wd : Str, (x, wd) ∈ errNames ∧ cls = .ref (He.ga K x) ∧ ∀ H', Kp [] H H' → Q (.str wd) H'
structure Txt (K : PySem.W.Frag) (mg : Str → Option Value) : Prop where
  b_len : mg "len" = none
  b_range : mg "range" = none
  b_list : mg "list" = none
  b_min : mg "min" = none
  b_max : mg "max" = none
  b_isinstance : mg "isinstance" = none
  b_int : mg "int" = none
  b_bool : mg "bool" = none
  b_str : mg "str" = none
  b_enumerate : mg "enumerate" = none
  b_all : mg "all" = none
  b_set : mg "set" = none
  b_ValueError : mg "ValueError" = none
  c_GREATEST : ∃ t, mg "GREATEST" = some (.int (1000000000000000000000000000000000000000000000000000000000000) t)
  c_MOST_HANDS : ∃ t, mg "MOST_HANDS" = some (.int (200) t)
  g_CountError : mg "CountError" = some (.ref (cCountError K))
  g_NoRing : mg "NoRing" = some (.ref (cNoRing K))
  g_NoMany : mg "NoMany" = some (.ref (cNoMany K))
  g_NoStep : mg "NoStep" = some (.ref (cNoStep K))
  g_NoPlace : mg "NoPlace" = some (.ref (cNoPlace K))
  g_NoCount : mg "NoCount" = some (.ref (cNoCount K))
  g_NoHand : mg "NoHand" = some (.ref (cNoHand K))
  g_TwiceTold : mg "TwiceTold" = some (.ref (cTwiceTold K))
  g_TooMany : mg "TooMany" = some (.ref (cTooMany K))
  x_CountError : PySem.W.keepIn K (.ref (cCountError K)) = true
  x_NoRing : ExcT K (cNoRing K)
  x_NoMany : ExcT K (cNoMany K)
  x_NoStep : ExcT K (cNoStep K)
  x_NoPlace : ExcT K (cNoPlace K)
  x_NoCount : ExcT K (cNoCount K)
  x_NoHand : ExcT K (cNoHand K)
  x_TwiceTold : ExcT K (cTwiceTold K)
  x_TooMany : ExcT K (cTooMany K)
  err : ErrT K (errNames.map (·.1))
end Lz
namespace Lz
open PySem PySem.Spec PyProof.Rows L2
abbrev s__law_cell_at : Stmt := top 23
def spCell (K : PySem.W.Frag) : Sp := fun vs H Q _ => ∃ (a : Addr) (ns : List Int) (k : Int), vs = [.ref a, .int k] ∧
  SqL K H a (ns.map V.int) ∧ 0 ≤ k ∧ ∀ v : Int, Q (.int v) H
section
variable {P : Program} {w : World} {K : PySem.W.Frag} {mg : Str → Option Value} {base : Heap}
theorem sc__law_cell_at : FnScope ["_law_script", "_law_k"] ["_law_script", "_law_k"] (defScope s__law_cell_at) := ⟨rfl, rfl, rfl, by decide +kernel, rfl, by decide +kernel, by decide +kernel⟩
theorem ok__law_cell_at {f : Addr} {fd : FuncData} (F : FnP K "_law_cell_at" "_law_cell_at" s__law_cell_at [] f fd) (T : Txt K mg)  :
    FnOk P w K mg base CX0 1 f fd ["_law_script", "_law_k"] (spCell K) := by
  have S := sc__law_cell_at
  refine F.ok S (fun vs H Q E h => ?_) (fun cdv A outer s H vs Q E hr h => ?_)
  · obtain ⟨a, ns, k, rfl, _⟩ := h
    rfl
  · obtain ⟨a, ns, k, rfl, hS, h0, hQ⟩ := h
    refine ⟨_, PSs.nox (pss_cons (ps_if (pt_cmpR op_lt (pv 1) (pe_callB call_len_seq (by rfl) T.b_len PySem.boot_len (pa_cons (pv 0) pa_nil)) (nomark _)) (pss_one (ps_ret (pe_ix ix_list (pv 0) (pv 1) (fun _ _ => rfl)))) pss_nil) (pss_one (ps_ret pe_int))), ?_⟩
    refine ⟨_, rfl, _, rfl, a, _, rfl, .inl hS, _, _, rfl, rfl, _, rfl, ite2 (fun c => ?_) (fun c => hQ 0)⟩
    have c1 : k < ((ns.map V.int).length : Int) := of_decide_eq_true c
    rw [List.length_map] at c1
    have c2 : k.toNat < ns.length := by omega
    have e : (ns.map V.int)[k.toNat]? = some (.int ns[k.toNat]) := by
      rw [List.getElem?_map, List.getElem?_eq_getElem c2]
      rfl
    exact ⟨_, rfl, _, rfl, a, _, _, _, rfl, rfl, hS, at_of (j := k.toNat) (by omega) e, hQ _⟩
end
end Lz
namespace Lz
open PySem PySem.Spec PyProof.Rows L2
abbrev s__law_state : Stmt := top 25
def spState (K : PySem.W.Frag) : Sp := fun vs H Q _ => ∃ (a : Addr) (ns : List Int) (k : Int), vs = [.ref a, .int k] ∧
  SqL K H a (ns.map V.int) ∧ 0 ≤ k ∧ ∀ (p : Addr) (H' : Hp), H p = none → Kp [] H H' → StAt H' p → Q (.ref p) H'
section
variable {P : Program} {w : World} {K : PySem.W.Frag} {mg : Str → Option Value} {base : Heap}
theorem sc__law_state : FnScope ["_law_script", "_law_first"] ["_law_script", "_law_first"] (defScope s__law_state) := ⟨rfl, rfl, rfl, by decide +kernel, rfl, by decide +kernel, by decide +kernel⟩
theorem ok__law_state {f : Addr} {fd : FuncData} (F : FnP K "_law_state" "_law_state" s__law_state [] f fd) (T : Txt K mg) (G__law_cell_at : FnAt P w K mg base CX0 1 "_law_cell_at" ["_law_script", "_law_k"] [] (spCell K)) :
    FnOk P w K mg base CX0 2 f fd ["_law_script", "_law_first"] (spState K) := by
  have S := sc__law_state
  refine F.ok S (fun vs H Q E h => ?_) (fun cdv A outer s H vs Q E hr h => ?_)
  · obtain ⟨a, ns, k, rfl, _⟩ := h
    rfl
  · obtain ⟨a, ns, k, rfl, hS, h0, hQ⟩ := h
    refine ⟨_, PSs.nox (pss_one (ps_ret (pe_lst (pa_cons (pe_op op_add (pe_op op_add pe_int (pe_op op_mod (pe_fn G__law_cell_at (hr.mono (by decide)) pass0 (pa_cons (pv 0) (pa_cons (pv 1) pa_nil))) pe_int)) (pe_op op_mod (pe_fn G__law_cell_at (hr.mono (by decide)) pass0 (pa_cons (pv 0) (pa_cons (pe_op op_add (pv 1) pe_int) pa_nil))) pe_int)) pa_nil)))), ?_⟩
    refine ⟨_, rfl, _, rfl, a, ns, k, rfl, hS, h0, fun v => ?_⟩
    refine ⟨_, _, rfl, rfl, (by show (0 : Int) < _; decide), _, _, rfl, rfl, ?_⟩
    refine ⟨_, rfl, _, rfl, _, _, rfl, rfl, a, ns, k + 1, rfl, hS, by omega, fun u => ?_⟩
    refine ⟨_, _, rfl, rfl, (by show (0 : Int) < _; decide), _, _, rfl, rfl, sz 1 (by decide), fun p hp => ?_⟩
    refine hQ p _ hp (Kp.new hp) ⟨_, ⟨?_, ?_⟩, upd_same⟩
    · omega
    · omega
end
end Lz
namespace Lz
open PySem PySem.Spec PyProof.Rows L2
abbrev s__law_next : Stmt := top 24
def spNext : Sp := fun vs H Q _ => ∃ st : Addr, vs = [.ref st] ∧ StAt H st ∧
  ∀ (H' : Hp) (r : Int), Drew st H H' → 0 ≤ r → r < 2147483648 → Q (.int r) H'
section
variable {P : Program} {w : World} {K : PySem.W.Frag} {mg : Str → Option Value} {base : Heap}
theorem sc__law_next : FnScope ["_law_state_here"] ["_law_state_here"] (defScope s__law_next) := ⟨rfl, rfl, rfl, by decide +kernel, rfl, by decide +kernel, by decide +kernel⟩
theorem ok__law_next {f : Addr} {fd : FuncData} (F : FnP K "_law_next" "_law_next" s__law_next [] f fd) (T : Txt K mg)  :
    FnOk P w K mg base CX0 1 f fd ["_law_state_here"] spNext := by
  have S := sc__law_next
  refine F.ok S (fun vs H Q E h => ?_) (fun cdv A outer s H vs Q E hr h => ?_)
  · obtain ⟨st, rfl, _⟩ := h
    rfl
  · obtain ⟨st, rfl, ⟨s, hs, h⟩, k⟩ := h
    refine ⟨_, PSs.nox (pss_cons (ps_asg (pe_op op_mod (pe_op op_add (pe_op op_mul (pe_ix ix_list (pv 0) pe_int (fun _ _ => rfl)) pe_int) pe_int) pe_int) (pg_sub (pv 0) pe_int set_list)) (pss_one (ps_ret (pe_op op_fdiv (pe_op op_mod (pe_op op_mul (pe_ix ix_list (pv 0) pe_int (fun _ _ => rfl)) (pe_ix ix_list (pv 0) pe_int (fun _ _ => rfl))) pe_int) pe_int)))), ?_⟩
    refine ⟨_, rfl, _, _, _, _, rfl, rfl, SqL.of h, rfl, _, _, rfl, rfl, .inr ⟨by decide, by decide⟩, _, _, rfl, rfl, _, _, rfl, rfl, (by show (0 : Int) < _; decide),
      _, rfl, _, _, _, 0, rfl, rfl, h, rfl, ?_⟩
    refine ⟨_, rfl, _, _, _, _, rfl, rfl, SqL.of upd_same, rfl, _, rfl, _, _, _, _, rfl, rfl, SqL.of upd_same, rfl, _, _, rfl, rfl, ?_, _, _, rfl, rfl, (by show (0 : Int) < _; decide),
      _, _, rfl, rfl, ⟨by decide, by decide⟩, ?_⟩
    · refine .inl ⟨?_, ?_⟩
      · show -(2 ^ 64) < (s * 48271 + 11) % 2147483647
        omega
      · show (s * 48271 + 11) % 2147483647 < 2 ^ 64
        omega
    · generalize (s * 48271 + 11) % 2147483647 * ((s * 48271 + 11) % 2147483647) = z
      refine k _ _ ⟨Kp.put (List.mem_singleton.mpr rfl), (s * 48271 + 11) % 2147483647, ⟨by omega, by omega⟩, upd_same⟩ ?_ ?_
      · show 0 ≤ z % 2147483629 / 7
        omega
      · show z % 2147483629 / 7 < 2147483648
        omega
end
end Lz
namespace Lz
open PySem PySem.Spec PyProof.Rows L2
abbrev s__law_of : Stmt := top 26
/-- one of the items of a list, one of the signs of a text -/
def spOf (K : PySem.W.Frag) : Sp := fun vs H Q _ => ∃ (st : Addr) (x : V), vs = [.ref st, x] ∧ StAt H st ∧
  ((∃ (p : Addr) (xs : List V), x = .ref p ∧ SqL K H p xs ∧ xs ≠ [] ∧ p ≠ st ∧ ∀ (H' : Hp) (v : V), v ∈ xs → Drew st H H' → Q v H') ∨
   (∃ z : Str, x = .str z ∧ 0 < z.length ∧ z.length ≤ 1000 ∧ ∀ (H' : Hp) (c : Nat), c ∈ z.cps.toList → Drew st H H' → Q (.str ⟨#[c]⟩) H'))
section
variable {P : Program} {w : World} {K : PySem.W.Frag} {mg : Str → Option Value} {base : Heap}
theorem sc__law_of : FnScope ["_law_state_here", "_law_some"] ["_law_state_here", "_law_some"] (defScope s__law_of) := ⟨rfl, rfl, rfl, by decide +kernel, rfl, by decide +kernel, by decide +kernel⟩
theorem ok__law_of {f : Addr} {fd : FuncData} (F : FnP K "_law_of" "_law_of" s__law_of [] f fd) (T : Txt K mg) (G__law_next : FnAt P w K mg base CX0 1 "_law_next" ["_law_state_here"] [] spNext) :
    FnOk P w K mg base CX0 2 f fd ["_law_state_here", "_law_some"] (spOf K) := by
  have S := sc__law_of
  refine F.ok S (fun vs H Q E h => ?_) (fun cdv A outer s H vs Q E hr h => ?_)
  · obtain ⟨st, x, rfl, _⟩ := h
    rfl
  · obtain ⟨st, x, rfl, hst, h⟩ := h
    refine ⟨_, PSs.nox (pss_one (ps_ret (pe_ix ix_seq (pv 1) (pe_op op_mod (pe_fn G__law_next (hr.mono (by decide)) pass0 (pa_cons (pv 0) pa_nil)) (pe_callB call_len (by rfl) T.b_len PySem.boot_len (pa_cons (pv 1) pa_nil))) (fun _ _ => rfl)))), ?_⟩
    refine ⟨_, rfl, _, rfl, st, rfl, hst, fun H1 r d r0 r1 => ?_⟩
    rcases h with ⟨p, xs, rfl, hS, hne, n, k⟩ | ⟨z, rfl, z0, z1, k⟩
    · have hl : 0 < xs.length := List.length_pos_iff.mpr hne
      refine ⟨_, rfl, _, xs.length, rfl, .inl ⟨_, d.lst hS n, rfl⟩, _, _, rfl, rfl, by omega, ?_⟩
      have m0 := Int.emod_nonneg r (show (xs.length : Int) ≠ 0 by omega)
      have m1 := Int.emod_lt_of_pos r (show 0 < (xs.length : Int) by omega)
      have hi : (r % (xs.length : Int)).toNat < xs.length := by omega
      exact .inl ⟨p, xs, _, _, rfl, rfl, d.lst hS n, at_of (j := (r % (xs.length : Int)).toNat) (by omega) (List.getElem?_eq_getElem hi), k _ _ (List.getElem_mem hi) d⟩
    · refine ⟨_, rfl, _, z.length, rfl, ⟨sz _ (by omega), rfl⟩, _, _, rfl, rfl, by omega, ?_⟩
      have m0 := Int.emod_nonneg r (show (z.length : Int) ≠ 0 by omega)
      have m1 := Int.emod_lt_of_pos r (show 0 < (z.length : Int) by omega)
      have hi : (r % (z.length : Int)).toNat < z.cps.toList.length := by
        show (r % (z.length : Int)).toNat < z.length
        omega
      have e : atI z.cps.toList (r % (z.length : Int)) = some z.cps.toList[(r % (z.length : Int)).toNat] := by
        have e1 : r % (z.length : Int) = (((r % (z.length : Int)).toNat : Nat) : Int) := by omega
        have e2 := atI_nat (List.getElem?_eq_getElem hi)
        rw [← e1] at e2
        exact e2
      exact .inr (.inr ⟨z, _, _, rfl, rfl, sz _ (by omega), e, k _ _ (List.getElem_mem hi) d⟩)
end
end Lz
namespace Lz
open PySem PySem.Spec PyProof.Rows L2
abbrev s__law_hands : Stmt := top 28
/-- signs of the hands' texts -/
def Good (z : Str) : Prop := ∀ c ∈ TL.tl z, c < 128 ∧ c ≠ 101
theorem Good.ok {z : Str} (h : Good z) : PyData.strOk z = true := ok_tl fun c hc => by have := (h c hc).1; omega
theorem Good.app {x y : Str} (hx : Good x) (hy : Good y) : Good (x ++ y) := fun c hc => by
  rw [tl_app] at hc
  rcases List.mem_append.mp hc with h | h
  · exact hx c h
  · exact hy c h
theorem num_good (n : Nat) : Good (numS n) := fun c hc => by
  rw [TL.tl_num] at hc
  have := TL.numL_digits n c hc
  omega
theorem join_tl : ∀ ys : List Str, TL.tl (Txt.join Str.empty ys) = (ys.map TL.tl).flatten
  | [] => by rw [TL.join_eq]; rfl
  | [y] => by rw [TL.join_eq, TL.tl_join]; simp [TL.joinL]
  | y :: z :: r => by
    have ih := join_tl (z :: r)
    rw [TL.join_eq, TL.tl_join] at ih ⊢
    show TL.tl y ++ (TL.tl Str.empty ++ TL.joinL (TL.tl Str.empty) ((z :: r).map TL.tl)) = _
    rw [ih]
    rfl
def nm (way : Nat) (base : Str) (k : Nat) : Str := if way = 0 then base ++ numS k else if way = 1 then numS k ++ base else Txt.mul "a" (k : Int) ++ base
theorem mul_a (k : Nat) : TL.tl (Txt.mul "a" (k : Int)) = List.replicate k 97 := tl_mul 97 k
theorem nm_inj {way : Nat} {base : Str} {i j : Nat} (h : nm way base i = nm way base j) : i = j := by
  unfold nm at h
  by_cases h0 : way = 0
  · rw [if_pos h0, if_pos h0] at h
    exact num_inj (app_inj h)
  · rw [if_neg h0, if_neg h0] at h
    by_cases h1 : way = 1
    · rw [if_pos h1, if_pos h1] at h
      exact num_inj (app_injR h)
    · rw [if_neg h1, if_neg h1] at h
      have e := congrArg TL.tl (app_injR h)
      rw [mul_a, mul_a] at e
      have := congrArg List.length e
      rw [List.length_replicate, List.length_replicate] at this
      exact this
theorem nm_good {way : Nat} {base : Str} (hb : Good base) (k : Nat) : Good (nm way base k) := by
  unfold nm
  split
  · exact hb.app (num_good k)
  · split
    · exact (num_good k).app hb
    · refine Good.app (fun c hc => ?_) hb
      rw [mul_a] at hc
      have := (List.mem_replicate.mp hc).2
      omega
def spHands (K : PySem.W.Frag) : Sp := fun vs H Q _ => ∃ (st : Addr) (n : Nat), vs = [.ref st, .int n] ∧ StAt H st ∧ 1 ≤ n ∧ n ≤ 200 ∧
  ∀ (p : Addr) (zs : List Str) (H' : Hp), zs.length = n → zs.Nodup → (∀ z ∈ zs, Good z) → Drew st H H' → H p = none → H' p = some (.lst (zs.map V.str)) → Q (.ref p) H'
section
variable {P : Program} {w : World} {K : PySem.W.Frag} {mg : Str → Option Value} {base : Heap}
theorem sc__law_hands : FnScope ["_law_state_here", "_law_many", "_law_way", "_law_base", "_law_k", "_law_found"] ["_law_state_here", "_law_many"] (defScope s__law_hands) := ⟨rfl, rfl, rfl, by decide +kernel, rfl, by decide +kernel, by decide +kernel⟩
theorem ok__law_hands {f : Addr} {fd : FuncData} (F : FnP K "_law_hands" "_law_hands" s__law_hands [] f fd) (T : Txt K mg) (G__law_next : FnAt P w K mg base CX0 1 "_law_next" ["_law_state_here"] [] spNext) (G__law_of : FnAt P w K mg base CX0 2 "_law_of" ["_law_state_here", "_law_some"] [] (spOf K)) :
    FnOk P w K mg base CX0 3 f fd ["_law_state_here", "_law_many"] (spHands K) := by
  have S := sc__law_hands
  refine F.ok S (fun vs H Q E h => ?_) (fun cdv A outer s H vs Q E hr h => ?_)
  · obtain ⟨st, n, rfl, _⟩ := h
    rfl
  · obtain ⟨st, n, rfl, hst, n1, n2, k⟩ := h
    refine ⟨_, PSs.nox (pss_cons (ps_set (i := 2) S.nd rfl (Or.inl rfl) (pe_op op_mod (pe_fn G__law_next (hr.mono (by decide)) pass0 (pa_cons (pv 0) pa_nil)) pe_int)) (pss_cons (ps_set (i := 3) S.nd rfl (Or.inl rfl) (pe_join pe_str (pe_lc (own := [("_law_k", 4)]) (g := gName 4) (by rfl) S.nd (pi_range1 (by rfl) T.b_range (pa_cons (pe_op op_mod (pe_fn G__law_next (hr.mono (by decide)) pass0 (pa_cons (pv 0) pa_nil)) pe_int) pa_nil)) (blkOk_by (own := [("_law_k", 4)]) (N := ["_law_state_here", "_law_many", "_law_way", "_law_base", "_law_k", "_law_found"]) (sc := defScope s__law_hands) (by decide +kernel)) (fun _ _ _ _ _ => pg_name (i := 4) S.nd rfl (Or.inl rfl)) (fun _ _ _ _ _ => pts_nil) (fun _ _ _ _ _ => (pe_fn G__law_of (hr.mono (by decide)) pass0 (pa_cons (pv 0) (pa_cons pe_str pa_nil))))))) (pss_cons (ps_set (i := 5) S.nd rfl (Or.inl rfl) (pe_lst pa_nil)) (pss_cons (ps_for PassesOwn.never rfl (pi_range1 (by rfl) T.b_range (pa_cons (pv 1) pa_nil)) (pg_name (i := 4) S.nd rfl (Or.inl rfl)) (pss_one (ps_expr (pe_bm PySem.F.plainAttrs_list PySem.F.slot_list_append PySem.F.type_list_append mt_append (pv 5) (pa_cons (pe_ix ix_list (pe_lst (pa_cons (pe_op op_add_str (pv 3) (pe_callTy call_str_int (by rfl) T.b_str (by decide +kernel) (pa_cons (pv 4) pa_nil))) (pa_cons (pe_op op_add_str (pe_callTy call_str_int (by rfl) T.b_str (by decide +kernel) (pa_cons (pv 4) pa_nil)) (pv 3)) (pa_cons (pe_op op_add_str (pe_op op_mulS pe_str (pv 4)) (pv 3)) pa_nil)))) (pv 2) (fun _ _ => rfl)) pa_nil))))) (pss_one (ps_ret (pe_stepL (pv 5) (pe_ix ix_list (pe_lst (pa_cons pe_int (pa_cons (pe_un un_neg pe_int) pa_nil))) (pe_op op_mod (pe_fn G__law_next (hr.mono (by decide)) pass0 (pa_cons (pv 0) pa_nil)) pe_int) (fun _ _ => rfl))))))))), ?_⟩
    refine ⟨_, rfl, st, rfl, hst, fun H1 r1 d1 _ _ => ?_⟩
    obtain ⟨w, ew⟩ := Int.eq_ofNat_of_zero_le (show 0 ≤ r1 % 3 by omega)
    have hw : w = 0 ∨ w = 1 ∨ w = 2 := by omega
    refine ⟨_, _, rfl, rfl, by show (0 : Int) < _; decide, set_eq (y := .int w) (congrArg V.int ew) ?_⟩
    -- base
    refine ⟨⟨_, rfl⟩, _, rfl, st, rfl, d1.2, fun H2 r2 d2 _ _ => ?_⟩
    refine ⟨_, _, rfl, rfl, by show (0 : Int) < _; decide, ?_⟩
    obtain ⟨m, em⟩ := Int.eq_ofNat_of_zero_le (show 0 ≤ r2 % 6 by omega)
    refine ⟨(m : Int), congrArg (fun z => [V.int z]) em, by omega, by omega, fun D hD => lc_range (lo := 0) (n := m)
      (fun i H' => Drew st H2 H' ∧ ∃ ys : List Str, H' D = some (.lst (ys.map V.str)) ∧ ys.length = i ∧ ∀ y ∈ ys, Good y ∧ y.length = 1) ⟨(Drew.refl d2.2).new hD, [], upd_same, rfl, fun y hy => absurd hy List.not_mem_nil⟩ ?_ ?_⟩
    · rintro i H' hi ⟨d3, ys, e3, l3, g3⟩
      refine ⟨rfl, tyes (iteT ?_)⟩
      refine ⟨_, rfl, st, _, rfl, d3.2, .inr ⟨"abcxyz 019", rfl, by decide, by decide, fun H4 c hc d4 => ?_⟩⟩
      have nD : D ≠ st := d2.2.fresh hD
      have e4 := d4.at e3 nD
      have gc : Good ⟨#[c]⟩ := fun x hx => by
        have ec : x = c := List.mem_singleton.mp hx
        have all : (("abcxyz 019" : Str).cps.toList).all (fun c => decide (c < 128) && decide (c ≠ 101)) = true := by decide +kernel
        have h := List.all_eq_true.mp all c hc
        rw [Bool.and_eq_true, decide_eq_true_eq, decide_eq_true_eq] at h
        rw [ec]
        exact h
      refine ⟨_, e4, szl _ (by rw [List.length_map]; omega), ?_, ys ++ [⟨#[c]⟩], by rw [List.map_append]; exact upd_same, by rw [List.length_append, l3]; rfl, fun y hy => ?_⟩
      · refine ⟨(d3.trans d4).1.late hD, (d4.2).keep (Kp.put (ws := [D]) (List.mem_singleton.mpr rfl)) fun q => nD (List.mem_singleton.mp q).symm⟩
      · rcases List.mem_append.mp hy with h | h
        · exact g3 y h
        · rw [List.mem_singleton.mp h]
          exact ⟨gc, rfl⟩
    rintro H3 ⟨d3, ys, e3, l3, g3⟩
    have sum : (ys.map (·.length)).sum ≤ ys.length := by
      have : ∀ zs : List Str, (∀ y ∈ zs, y.length = 1) → (zs.map (·.length)).sum = zs.length := by
        intro zs
        induction zs with
        | nil => intro _; rfl
        | cons z zs ih =>
          intro h
          rw [List.map_cons, List.sum_cons, h z (.head _), ih fun y hy => h y (.tail _ hy), List.length_cons]
          omega
      rw [this ys fun y hy => (g3 y hy).2]
      exact Nat.le_refl _
    refine ⟨Str.empty, D, ys, rfl, rfl, .inl (SqL.of e3), ?_, ?_⟩
    · show _ + ys.length * 0 ≤ _
      omega
    have gb : Good (Txt.join Str.empty ys) := fun c hc => by
      rw [join_tl] at hc
      obtain ⟨l, hl, hcl⟩ := List.mem_flatten.mp hc
      obtain ⟨y, hy, rfl⟩ := List.mem_map.mp hl
      exact (g3 y hy).1 c hcl
    have lb : (Txt.join Str.empty ys).length ≤ 5 := by
      rw [TL.len_tl, join_tl, List.length_flatten, List.map_map]
      have e : (ys.map (List.length ∘ TL.tl)) = ys.map (·.length) := List.map_congr_left fun y _ => (TL.len_tl y).symm
      rw [e]
      omega
    generalize Txt.join Str.empty ys = base at gb lb
    -- found
    refine ⟨Nat.zero_le _, fun f hf => ?_⟩
    have D1 := ((d1.trans d2).trans d3).new (o := .lst []) hf
    have nf : f ≠ st := d3.2.fresh hf
    refine ⟨_, rfl, (n : Int), rfl, by omega, by omega, for_range (lo := 0) (n := n)
      (fun i σ H' => ∃ v, σ = [some (.ref st), some (.int n), some (.int w), some (.str base), v, some (.ref f)] ∧ Drew st H3 H' ∧ H' f = some (.lst (((List.range i).map (nm w base)).map V.str)))
      ⟨_, rfl, (Drew.refl d3.2).new hf, upd_same⟩ ?_ ?_⟩
    · rintro i σ H' hi ⟨v, rfl, d4, e4⟩
      have ei : (0 : Int) + (i : Int) = ((i : Nat) : Int) := Int.zero_add _
      rw [ei]
      have ln := num_len (n := i) (by omega)
      have two : ∀ y : Str, y.length ≤ 1000 → ∀ z : Str, z.length ≤ 1000 → y.length + z.length ≤ sizeLine := fun y hy z hz => sz _ (by omega)
      have lm : (Txt.mul "a" (i : Int)).length ≤ 1000 := by
        rw [TL.len_tl, mul_a, List.length_replicate]
        omega
      refine ⟨_, rfl, .inl ⟨rfl, _, SqL.of e4⟩, ?_⟩
      refine ⟨_, rfl, _, rfl, _, rfl, log_num (by omega), _, _, rfl, rfl, two base (by omega) (numS i) (by omega), ?_⟩
      refine ⟨_, rfl, _, rfl, log_num (by omega), _, rfl, _, _, rfl, rfl, two (numS i) (by omega) base (by omega), ?_⟩
      refine ⟨_, rfl, "a", i, rfl, rfl, by omega, rfl, _, rfl, _, _, rfl, rfl, two _ lm _ (by omega), sz 3 (by decide), fun l hl => ?_⟩
      refine ⟨_, rfl, l, _, _, .str (nm w base i), rfl, rfl, SqL.of upd_same, at_of (j := w) rfl ?_, ?_⟩
      · rcases hw with rfl | rfl | rfl <;> rfl
      have nfl := ne_of_none e4 hl
      refine ⟨f, _, _, rfl, rfl, by rw [upd_ne nfl]; exact e4, szl _ (by rw [List.length_map, List.length_map, List.length_range]; omega), ?_⟩
      have d5 := d4.new (o := .lst [.str (base ++ numS i), .str (numS i ++ base), .str (Txt.mul "a" (i : Int) ++ base)]) hl
      refine ⟨_, rfl, ⟨d5.1.late hf, d5.2.keep (Kp.put (ws := [f]) (List.mem_singleton.mpr rfl)) fun q => nf (List.mem_singleton.mp q).symm⟩, ?_⟩
      rw [List.range_succ, List.map_append, List.map_append]
      exact upd_same
    · rintro σ H' ⟨v, rfl, d4, e4⟩
      refine ⟨_, rfl, f, rfl, _, rfl, sz 2 (by decide), fun l hl => ?_⟩
      have d5 := d4.new (o := .lst [.int 1, .int (-1)]) hl
      refine ⟨_, rfl, st, rfl, d5.2, fun H5 r5 d6 _ _ => ?_⟩
      have nl : l ≠ st := d4.2.fresh hl
      have el := d6.at (upd_same (H := H') (a := l) (o := .lst [.int 1, .int (-1)])) nl
      have ef := d6.at (show upd H' l (.lst [.int 1, .int (-1)]) f = some _ by rw [upd_ne (ne_of_none e4 hl)]; exact e4) nf
      have DD := ((d1.trans d2).trans d3).trans (d5.trans d6)
      obtain ⟨c, hc, ec⟩ : ∃ c : Int, (c = 1 ∨ c = -1) ∧ [V.int 1, V.int (-1)][(r5 % 2).toNat]? = some (.int c) := by
        rcases (show r5 % 2 = 0 ∨ r5 % 2 = 1 by omega) with q | q
        · exact ⟨1, .inl rfl, by rw [q]; rfl⟩
        · exact ⟨-1, .inr rfl, by rw [q]; rfl⟩
      refine ⟨_, _, rfl, rfl, by show (0 : Int) < _; decide, l, _, _, .int c, rfl, rfl, SqL.of el, at_of (j := (r5 % 2).toNat) (by omega) ec, c, rfl, _, c, rfl, hc, SqL.of ef, fun p hp => ?_⟩
      have hp0 : H p = none := DD.free hp
      have good : ∀ z ∈ (List.range n).map (nm w base), Good z := fun z hz => by
        obtain ⟨k, _, rfl⟩ := List.mem_map.mp hz
        exact nm_good gb k
      have nd : ((List.range n).map (nm w base)).Nodup := nodup_of _ n fun _ _ _ _ e => nm_inj e
      have len : ((List.range n).map (nm w base)).length = n := by rw [List.length_map, List.length_range]
      rcases hc with rfl | rfl
      · exact k p _ _ len nd good (DD.new hp) hp0 upd_same
      · refine k p ((List.range n).map (nm w base)).reverse _ (by rw [List.length_reverse]; exact len) ((List.reverse_perm _).nodup_iff.mpr nd) (fun z hz => good z (List.mem_reverse.mp hz)) (DD.new hp) hp0 ?_
        rw [List.map_reverse]
        exact upd_same
end
end Lz
namespace Lz
open PySem PySem.Spec PyProof.Rows L2
abbrev s__law_step : Stmt := top 31
def spStep (K : PySem.W.Frag) : Sp := fun vs H Q _ => ∃ (st : Addr) (m : Int), vs = [.ref st, .int m] ∧ StAt H st ∧ 12 ≤ m ∧
  ∀ (H' : Hp) (r : Int), Drew st H H' → 1 ≤ r → r ≤ m → Q (.int r) H'
section
variable {P : Program} {w : World} {K : PySem.W.Frag} {mg : Str → Option Value} {base : Heap}
theorem sc__law_step : FnScope ["_law_state_here", "_law_most"] ["_law_state_here", "_law_most"] (defScope s__law_step) := ⟨rfl, rfl, rfl, by decide +kernel, rfl, by decide +kernel, by decide +kernel⟩
theorem ok__law_step {f : Addr} {fd : FuncData} (F : FnP K "_law_step" "_law_step" s__law_step [] f fd) (T : Txt K mg) (G__law_of : FnAt P w K mg base CX0 2 "_law_of" ["_law_state_here", "_law_some"] [] (spOf K)) (G__law_next : FnAt P w K mg base CX0 1 "_law_next" ["_law_state_here"] [] spNext) :
    FnOk P w K mg base CX0 3 f fd ["_law_state_here", "_law_most"] (spStep K) := by
  have S := sc__law_step
  refine F.ok S (fun vs H Q E h => ?_) (fun cdv A outer s H vs Q E hr h => ?_)
  · obtain ⟨st, m, rfl, _⟩ := h
    rfl
  · obtain ⟨st, m, rfl, hst, hm, k⟩ := h
    refine ⟨_, PSs.nox (pss_one (ps_ret (pe_fn G__law_of (hr.mono (by decide)) pass0 (pa_cons (pv 0) (pa_cons (pe_lst (pa_cons pe_int (pa_cons pe_int (pa_cons pe_int (pa_cons (pe_op op_add pe_int (pe_op op_mod (pe_fn G__law_next (hr.mono (by decide)) pass0 (pa_cons (pv 0) pa_nil)) pe_int)) (pa_cons (pe_op op_add pe_int (pe_op op_mod (pe_fn G__law_next (hr.mono (by decide)) pass0 (pa_cons (pv 0) pa_nil)) (pv 1))) (pa_cons (pv 1) pa_nil))))))) pa_nil))))), ?_⟩
    refine ⟨_, rfl, _, rfl, st, rfl, hst, fun H1 r1 d1 a1 b1 => ?_⟩
    refine ⟨_, _, rfl, rfl, (by show (0 : Int) < _; decide), _, _, rfl, rfl, ?_⟩
    refine ⟨_, rfl, st, rfl, d1.2, fun H2 r2 d2 a2 b2 => ?_⟩
    refine ⟨_, rfl, _, _, rfl, rfl, by omega, _, _, rfl, rfl, _, rfl, sz 6 (by decide), fun p hp => ?_⟩
    obtain ⟨s2, ok2, e2⟩ := d2.2
    have ne : p ≠ st := fun q => by
      rw [q, e2] at hp
      cases hp
    refine ⟨st, _, rfl, StAt.new d2.2 hp, .inl ⟨p, _, rfl, SqL.of upd_same, by simp, ne, fun H' v hv d => ?_⟩⟩
    have D : Drew st H H' := ((d1.trans d2).new hp).trans d
    have q1 := Int.emod_nonneg r2 (show m ≠ 0 by omega)
    have q2 := Int.emod_lt_of_pos r2 (show 0 < m by omega)
    simp only [List.mem_cons, List.not_mem_nil, or_false] at hv
    rcases hv with rfl | rfl | rfl | rfl | rfl | rfl
    · exact k _ _ D (by omega) (by omega)
    · exact k _ _ D (by omega) (by omega)
    · exact k _ _ D (by omega) (by omega)
    · exact k _ _ D (by omega) (by omega)
    · exact k _ _ D (by omega) (by omega)
    · exact k _ _ D (by omega) (by omega)
end
end Lz
namespace Lz
open PySem PySem.Spec PyProof.Rows L2
abbrev s__law_far : Stmt := top 27
def spFar : Sp := fun vs H Q _ => ∃ (st : Addr) (m : Int), vs = [.ref st, .int m] ∧ StAt H st ∧ 0 < m ∧
  ∀ (H' : Hp) (r : Int), Drew st H H' → 0 ≤ r → r < m → Q (.int r) H'
section
variable {P : Program} {w : World} {K : PySem.W.Frag} {mg : Str → Option Value} {base : Heap}
theorem sc__law_far : FnScope ["_law_state_here", "_law_many", "_law_found", "_law_k"] ["_law_state_here", "_law_many"] (defScope s__law_far) := ⟨rfl, rfl, rfl, by decide +kernel, rfl, by decide +kernel, by decide +kernel⟩
theorem ok__law_far {f : Addr} {fd : FuncData} (F : FnP K "_law_far" "_law_far" s__law_far [] f fd) (T : Txt K mg) (G__law_next : FnAt P w K mg base CX0 1 "_law_next" ["_law_state_here"] [] spNext) :
    FnOk P w K mg base CX0 2 f fd ["_law_state_here", "_law_many"] spFar := by
  have S := sc__law_far
  refine F.ok S (fun vs H Q E h => ?_) (fun cdv A outer s H vs Q E hr h => ?_)
  · obtain ⟨st, m, rfl, _⟩ := h
    rfl
  · obtain ⟨st, m, rfl, hst, hm, k⟩ := h
    refine ⟨_, PSs.nox (pss_cons (ps_set (i := 2) S.nd rfl (Or.inl rfl) pe_int) (pss_cons (ps_for PassesOwn.never rfl (pi_range1 (by rfl) T.b_range (pa_cons pe_int pa_nil)) (pg_name (i := 3) S.nd rfl (Or.inl rfl)) (pss_one (ps_set (i := 2) S.nd rfl (Or.inl rfl) (pe_op op_add (pe_op op_mul (pv 2) (pe_op op_pow pe_int pe_int)) (pe_op op_mod (pe_fn G__law_next (hr.mono (by decide)) pass0 (pa_cons (pv 0) pa_nil)) (pe_op op_pow pe_int pe_int)))))) (pss_one (ps_ret (pe_op op_mod (pv 2) (pv 1)))))), ?_⟩
    refine ⟨7, rfl, by decide, by decide, for_range (lo := 0) (n := 7) (fun i σ H' => ∃ (v : Option V) (z : Int), σ = [some (.ref st), some (.int m), some (.int z), v] ∧ 0 ≤ z ∧ Drew st H H')
      ⟨none, 0, rfl, Int.le_refl 0, Drew.refl hst⟩ ?_ ?_⟩
    · rintro i σ H1 _ ⟨v, z, rfl, hz, d⟩
      have e9 : (10 : Int) ^ (9 : Int).toNat = 1000000000 := by decide
      refine ⟨_, rfl, _, _, rfl, rfl, ⟨by decide, by decide, by decide⟩, _, _, rfl, rfl, .inr ⟨by decide, by decide⟩, _, rfl, st, rfl, d.2, fun H2 r d2 r0 r1 => ?_⟩
      refine ⟨_, _, rfl, rfl, ⟨by decide, by decide, by decide⟩, _, _, rfl, rfl, by show (0 : Int) < 10 ^ (9 : Int).toNat; decide, _, _, rfl, rfl, ?_⟩
      refine ⟨_, _, rfl, ?_, d.trans d2⟩
      show 0 ≤ z * 10 ^ (9 : Int).toNat + r % 10 ^ (9 : Int).toNat
      rw [e9]
      omega
    · rintro σ H1 ⟨v, z, rfl, hz, d⟩
      refine ⟨_, rfl, _, rfl, _, _, rfl, rfl, hm, ?_⟩
      exact k _ _ d (Int.emod_nonneg z (by omega)) (Int.emod_lt_of_pos z hm)
end
end Lz
namespace Lz
open PySem PySem.Spec PyProof.Rows L2
abbrev s__law_out : Stmt := top 30
def spOut (K : PySem.W.Frag) : Sp := fun vs H Q _ => ∃ (p : Addr) (s : Int) (xs : List V), vs = [.ref p, .int s] ∧ SqL K H p xs ∧ 1 ≤ s ∧
  xs.all isS = true ∧ xs.length ≤ 1000 ∧
  ∀ (q : Addr) (H' : Hp), Kp [] H H' → H q = none → H' q = some (.lst (Jo.out (s.toNat - 1) xs)) → Q (.ref q) H'
/-- behind some rounds: who went stands at f, who is left at l -/
structure OutW (s : Int) (p f l : Addr) (xs : List V) (H : Hp) (m : Nat) (σ : L2.St) (H' : Hp) (v : Option V) (a r : List V) : Prop where
  sl : σ = [some (.ref p), some (.int s), some (.ref f), some (.ref l), v]
  kp : Kp [] H H'
  hf : H' f = some (.lst a)
  hl : H' l = some (.lst r)
  e : a ++ Jo.out (s.toNat - 1) r = Jo.out (s.toNat - 1) xs
  m : m = r.length
  fl : r.all isS = true
theorem outW_len {s : Int} {p f l : Addr} {xs : List V} {H H' : Hp} {m : Nat} {σ : L2.St} {v : Option V} {a r : List V} (h : OutW s p f l xs H m σ H' v a r) : a.length + r.length = xs.length := by
  have e := congrArg List.length h.e
  rw [List.length_append, Jo.out_length, Jo.out_length] at e
  exact e
section
variable {P : Program} {w : World} {K : PySem.W.Frag} {mg : Str → Option Value} {base : Heap}
theorem sc__law_out : FnScope ["_law_row", "_law_step_here", "_law_found", "_law_left", "_law_told_here"] ["_law_row", "_law_step_here"] (defScope s__law_out) := ⟨rfl, rfl, rfl, by decide +kernel, rfl, by decide +kernel, by decide +kernel⟩
theorem ok__law_out {f : Addr} {fd : FuncData} (F : FnP K "_law_out" "_law_out" s__law_out [] f fd) (T : Txt K mg)  :
    FnOk P w K mg base CX0 1 f fd ["_law_row", "_law_step_here"] (spOut K) := by
  have S := sc__law_out
  refine F.ok S (fun vs H Q E h => ?_) (fun cdv A outer s H vs Q E hr h => ?_)
  · obtain ⟨p, s, xs, rfl, _⟩ := h
    rfl
  · obtain ⟨p, s, xs, rfl, hS, hs, hfl, hlen, k⟩ := h
    refine ⟨_, PSs.nox (pss_cons (ps_set (i := 2) S.nd rfl (Or.inl rfl) (pe_lst pa_nil)) (pss_cons (ps_set (i := 3) S.nd rfl (Or.inl rfl) (pe_callTy call_list_of (by rfl) T.b_list (by decide +kernel) (pa_cons (pv 0) pa_nil))) (pss_cons (ps_while PassesOwn.never (pt_cmpR (op_neD hr.units) (pv 3) (pe_lst pa_nil) (nomark _)) (pss_cons (ps_set (i := 4) S.nd rfl (Or.inl rfl) (pv 1)) (C8.pss_cut (ps_if (pt_cmpR op_gt (pv 1) (pe_op op_mul pe_int (pe_callB call_len_seq (by rfl) T.b_len PySem.boot_len (pa_cons (pv 3) pa_nil))) (nomark _)) (pss_one (ps_set (i := 4) S.nd rfl (Or.inl rfl) (pe_op op_add (pe_op op_mod (pv 1) (pe_callB call_len_seq (by rfl) T.b_len PySem.boot_len (pa_cons (pv 3) pa_nil))) (pe_op op_mul pe_int (pe_callB call_len_seq (by rfl) T.b_len PySem.boot_len (pa_cons (pv 3) pa_nil)))))) pss_nil) (pss_cons (ps_while PassesOwn.never (pt_cmpR op_gt (pv 4) pe_int (nomark _)) (pss_cons (ps_expr (pe_bm PySem.F.plainAttrs_list PySem.F.slot_list_append PySem.F.type_list_append mt_append (pv 3) (pa_cons (pe_bm PySem.F.plainAttrs_list PySem.F.slot_list_pop PySem.F.type_list_pop mt_popAt (pv 3) (pa_cons pe_int pa_nil)) pa_nil))) (pss_one (ps_set (i := 4) S.nd rfl (Or.inl rfl) (pe_op op_sub (pv 4) pe_int))))) (pss_one (ps_expr (pe_bm PySem.F.plainAttrs_list PySem.F.slot_list_append PySem.F.type_list_append mt_append (pv 2) (pa_cons (pe_bm PySem.F.plainAttrs_list PySem.F.slot_list_pop PySem.F.type_list_pop mt_popAt (pv 3) (pa_cons pe_int pa_nil)) pa_nil)))))))) (pss_one (ps_ret (pv 2)))))), ?_⟩
    refine ⟨Nat.zero_le _, fun f hf => ?_⟩
    refine ⟨_, rfl, p, xs, rfl, .inl ((Kp.new (ws := []) hf).lst hS (by simp)), fun l hl => ?_⟩
    have nfl : f ≠ l := ne_of_none upd_same hl
    have hl0 : H l = none := (Kp.new (ws := []) (o := .lst []) hf).free hl (by simp)
    refine ⟨fun m σ H' => ∃ v a r, OutW s p f l xs H m σ H' v a r, ⟨_, none, [], xs, rfl, (Kp.new hf).trans (Kp.new hl), ?_, upd_same, rfl, rfl, hfl⟩, ?_⟩
    · rw [upd_ne nfl]
      exact upd_same
    rintro m σ H1 ⟨v, a, r, W⟩
    have wl := outW_len W
    obtain ⟨rfl, kp, h1, h2, e, rfl, fl⟩ := W
    refine ⟨_, rfl, Nat.zero_le _, fun z hz => ?_⟩
    have kz := kp.trans (Kp.new (o := .lst []) hz)
    have h1z : upd H1 z (.lst []) f = some (.lst a) := by rw [upd_ne (ne_of_none h1 hz)]; exact h1
    have h2z : upd H1 z (.lst []) l = some (.lst r) := by rw [upd_ne (ne_of_none h2 hz)]; exact h2
    refine neD_l (SqL.of h2z) (SqL.of upd_same) fl rfl ⟨_, rfl, ?_⟩
    generalize upd H1 z (.lst []) = H2 at kz h1z h2z ⊢
    by_cases hr0 : r = []
    · rw [decide_eq_true hr0]
      refine iteF ⟨_, rfl, ?_⟩
      refine k f H2 kz hf ?_
      rw [h1z, ← e, hr0, Jo.out_nil, List.append_nil]
    rw [decide_eq_false hr0]
    have hrl : 0 < r.length := List.length_pos_iff.mpr hr0
    refine iteT ⟨_, fun _ _ h => h, ?_⟩
    refine ⟨_, rfl, ?_⟩
    refine ⟨fun σ' H' => ∃ told : Int, σ' = [some (.ref p), some (.int s), some (.ref f), some (.ref l), some (.int told)] ∧ H' = H2 ∧ 1 ≤ told ∧
      (told.toNat - 1) % r.length = (s.toNat - 1) % r.length, ?_, ?_⟩
    · refine ⟨_, rfl, _, rfl, l, _, rfl, .inl (SqL.of h2z), _, _, rfl, rfl, .inl ⟨by decide, by decide⟩, _, _, rfl, rfl, _, rfl, ite2 (fun c => ?_) (fun c => ?_)⟩
      · refine ⟨_, rfl, _, rfl, l, _, rfl, .inl (SqL.of h2z), _, _, rfl, rfl, by show (0 : Int) < (r.length : Int); omega,
          _, rfl, l, _, rfl, .inl (SqL.of h2z), _, _, rfl, rfl, .inl ⟨by decide, by decide⟩, _, _, rfl, rfl, ?_⟩
        refine ⟨_, rfl, rfl, ?_, ?_⟩
        · have m0 := Int.emod_nonneg s (show (r.length : Int) ≠ 0 by omega)
          show 1 ≤ s % (r.length : Int) + 2 * (r.length : Int)
          omega
        · have e1 : (s % (r.length : Int) + 2 * (r.length : Int)).toNat = s.toNat % r.length + 2 * r.length := by
            rw [emod_nat r.length (by omega)]
            omega
          show ((s % (r.length : Int) + 2 * (r.length : Int)).toNat - 1) % r.length = _
          rw [e1, Jo.told_mod (by omega) hrl]
      · exact ⟨s, rfl, rfl, hs, rfl⟩
    rintro σ' H' ⟨told, rfl, rfl, ht1, ht2⟩
    refine ⟨fun m σ' H' => ∃ (told : Int) (c : List V), σ' = [some (.ref p), some (.int s), some (.ref f), some (.ref l), some (.int told)] ∧ m = told.toNat ∧ 1 ≤ told ∧
      c.length = r.length ∧ Jo.rotL c ((told.toNat - 1) % r.length) = Jo.rotL r ((s.toNat - 1) % r.length) ∧ Kp [] H H' ∧ H' f = some (.lst a) ∧ H' l = some (.lst c),
      ⟨_, told, r, rfl, rfl, ht1, rfl, by rw [ht2], kz, h1z, h2z⟩, ?_⟩
    rintro m σ' H3 ⟨told, c, rfl, rfl, ht1, hcl, hrot, k3, g1, g2⟩
    refine ⟨_, rfl, _, _, rfl, rfl, _, rfl, ite2 (fun ht => ?_) (fun ht => ?_)⟩
    · -- a hand more
      have ht : 1 < told := of_decide_eq_true ht
      obtain ⟨x, c', rfl⟩ : ∃ x c', c = x :: c' := by
        cases c with
        | nil =>
          rw [← hcl] at hrl
          exact absurd hrl (Nat.lt_irrefl 0)
        | cons x c' => exact ⟨x, c', rfl⟩
      have n1 : c'.length + 1 = r.length := hcl
      have n2 : ((x :: c').eraseIdx 0).length < sizeLine := szl c'.length (by omega)
      refine ⟨_, fun _ _ h => h, ?_⟩
      refine ⟨_, rfl, .inl ⟨rfl, _, SqL.of g2⟩, _, rfl, .inl ⟨rfl, _, SqL.of g2⟩, l, _, 0, 0, x, rfl, rfl, g2, by decide, by decide, seq0 x c', rfl, l, _, x, rfl, rfl, upd_same, n2, ?_⟩
      refine ⟨_, rfl, _, _, rfl, rfl, ?_⟩
      refine ⟨_, ?_, told - 1, c' ++ [x], rfl, rfl, by omega, ?_, ?_, ?_, ?_, ?_⟩
      · omega
      · rw [List.length_append]
        exact hcl
      · rw [← hrot, ← hcl]
        have e1 := Jo.rotL_more x c' ((told - 1).toNat - 1)
        have e2 : (told - 1).toNat - 1 + 1 = told.toNat - 1 := by omega
        rw [e2] at e1
        exact e1
      · exact (k3.late hl0).late hl0
      · rw [upd_ne nfl, upd_ne nfl]
        exact g1
      · exact upd_same
    · -- it is the told one
      have ht : ¬ 1 < told := of_decide_eq_false (by simpa using ht)
      have et : told = 1 := by omega
      subst et
      have e0 : ((1 : Int).toNat - 1) % r.length = 0 := Nat.zero_mod _
      rw [e0, Jo.rotL_zero] at hrot
      obtain ⟨x, c', rfl⟩ : ∃ x c', c = x :: c' := by
        cases c with
        | nil =>
          rw [← hcl] at hrl
          exact absurd hrl (Nat.lt_irrefl 0)
        | cons x c' => exact ⟨x, c', rfl⟩
      have n1 : c'.length + 1 = r.length := hcl
      refine ⟨_, rfl, .inl ⟨rfl, _, SqL.of g1⟩, _, rfl, .inl ⟨rfl, _, SqL.of g2⟩, l, _, 0, 0, x, rfl, rfl, g2, by decide, by decide, seq0 x c', rfl, f, a, x, rfl, rfl,
        by rw [upd_ne nfl]; exact g1, szl _ (by omega), ?_⟩
      have e3 := Jo.out_step (t := s.toNat - 1) hrot.symm
      refine ⟨c'.length, by omega, _, a ++ [x], c', rfl, (k3.late hl0).late hf, upd_same, ?_, ?_, rfl, ?_⟩
      · rw [upd_ne nfl.symm]
        exact upd_same
      · rw [List.append_assoc, ← e, e3]
        rfl
      · have q : (x :: c').all isS = true := by
          rw [List.all_eq_true] at fl ⊢
          intro y hy
          rw [hrot] at hy
          exact fl y ((Jo.rotL_perm r _).mem_iff.mp hy)
        rw [List.all_cons, Bool.and_eq_true] at q
        exact q.2
end
end Lz
namespace Lz
open PySem PySem.Spec PyProof.Rows L2
abbrev s__law_turned : Stmt := top 29
def spTurned (K : PySem.W.Frag) : Sp := fun vs H Q _ => ∃ (p : Addr) (m : Int) (xs : List V), vs = [.ref p, .int m] ∧ SqL K H p xs ∧ xs ≠ [] ∧ xs.length ≤ 1000 ∧
  ∀ (q : Addr) (H' : Hp), Kp [] H H' → H q = none → H' q = some (.lst (Jo.rotL xs (m % (xs.length : Int)).toNat)) → Q (.ref q) H'
section
variable {P : Program} {w : World} {K : PySem.W.Frag} {mg : Str → Option Value} {base : Heap}
theorem sc__law_turned : FnScope ["_law_row", "_law_many"] ["_law_row", "_law_many"] (defScope s__law_turned) := ⟨rfl, rfl, rfl, by decide +kernel, rfl, by decide +kernel, by decide +kernel⟩
theorem ok__law_turned {f : Addr} {fd : FuncData} (F : FnP K "_law_turned" "_law_turned" s__law_turned [] f fd) (T : Txt K mg)  :
    FnOk P w K mg base CX0 1 f fd ["_law_row", "_law_many"] (spTurned K) := by
  have S := sc__law_turned
  refine F.ok S (fun vs H Q E h => ?_) (fun cdv A outer s H vs Q E hr h => ?_)
  · obtain ⟨p, m, xs, rfl, _⟩ := h
    rfl
  · obtain ⟨p, m, xs, rfl, hS, hne, hlen, k⟩ := h
    have hl : 0 < xs.length := List.length_pos_iff.mpr hne
    refine ⟨_, PSs.nox (pss_cons (ps_set (i := 1) S.nd rfl (Or.inl rfl) (pe_op op_mod (pv 1) (pe_callB call_len_seq (by rfl) T.b_len PySem.boot_len (pa_cons (pv 0) pa_nil)))) (pss_one (ps_ret (pe_op op_cat (pe_slice sl_list (pv 0) (po_some (pv 1)) po_none) (pe_slice sl_list (pv 0) po_none (po_some (pv 1))))))), ?_⟩
    refine ⟨_, rfl, _, rfl, p, xs, rfl, .inl hS, _, _, rfl, rfl, by omega, ?_⟩
    have m0 := Int.emod_nonneg m (show (xs.length : Int) ≠ 0 by omega)
    have m1 := Int.emod_lt_of_pos m (show 0 < (xs.length : Int) by omega)
    have e : m % (xs.length : Int) = (((m % (xs.length : Int)).toNat : Nat) : Int) := by omega
    refine ⟨_, rfl, _, rfl, ((m % (xs.length : Int)).toNat : Int), congrArg V.int e, p, xs, rfl, hS, fun a ha => ?_⟩
    refine ⟨_, rfl, _, rfl, ((m % (xs.length : Int)).toNat : Int), congrArg V.int e, p, xs, rfl, (Kp.new (ws := []) ha).lst hS (by simp), fun b hb => ?_⟩
    generalize (m % (xs.length : Int)).toNat = j at k ha hb ⊢
    have hab : a ≠ b := ne_of_none upd_same hb
    refine ⟨a, b, _, _, rfl, rfl, by rw [upd_ne hab]; exact upd_same, upd_same, ?_, fun c hc => ?_⟩
    · rw [cut_from, cut_to, List.length_drop, List.length_take]
      exact sz _ (by omega)
    · have hc1 := (Kp.new (ws := []) (o := .lst (cutV xs none (some (j : Int)))) hb).free hc (by simp)
      have hc0 := (Kp.new (ws := []) (o := .lst (cutV xs (some (j : Int)) none)) ha).free hc1 (by simp)
      refine k c _ (((Kp.new ha).trans (Kp.new hb)).trans (Kp.new hc)) hc0 ?_
      rw [upd_same, cut_from, cut_to]
      rfl
end
end Lz
namespace Lz
open PySem PySem.Spec PyProof.Rows L2
abbrev s_is_ring : Stmt := top 17
def spIsRing (K : PySem.W.Frag) : Sp := fun vs H Q _ => ∃ x, vs = [x] ∧ ((∃ zs, RowV H x zs ∧ zs.Nodup ∧ ∀ H', Kp [] H H' → Q (.bl true) H') ∨ (OddV K H x ∧ ∀ H', Kp [] H H' → Q (.bl false) H'))
section
variable {P : Program} {w : World} {K : PySem.W.Frag} {mg : Str → Option Value} {base : Heap}
theorem sc_is_ring : FnScope ["thing", "hand"] ["thing"] (defScope s_is_ring) := ⟨rfl, rfl, rfl, by decide +kernel, rfl, by decide +kernel, by decide +kernel⟩
theorem ok_is_ring {f : Addr} {fd : FuncData} (F : FnP K "is_ring" "is_ring" s_is_ring [] f fd) (T : Txt K mg)  :
    FnOk P w K mg base CX0 1 f fd ["thing"] (spIsRing K) := by
  have S := sc_is_ring
  refine F.ok S (fun vs H Q E h => ?_) (fun cdv A outer s H vs Q E hr h => ?_)
  · obtain ⟨x, rfl, _⟩ := h
    rfl
  · obtain ⟨x, rfl, h⟩ := h
    refine ⟨_, PSs.nox (pss_cons (ps_if (PW.pt (pw_or (pt_not (pt_val (pe_callB call_isi (by rfl) T.b_isinstance (by decide +kernel) (pa_cons (pv 0) (pa_cons (pe_bltn (v := .ty "list") (by rfl) T.b_list (by decide +kernel) rfl) pa_nil))))) (pw_or1 (pt_not (pt_chain op_le op_le pe_int (pe_callB call_len_seq (by rfl) T.b_len PySem.boot_len (pa_cons (pv 0) pa_nil)) (pe_gint T.c_MOST_HANDS)))))) (pss_one (ps_ret pe_bl)) pss_nil) (pss_cons (ps_if (pt_not (pt_val (pe_callB (cr_all rfl) (by rfl) T.b_all (by decide +kernel) (pa_cons (pe_lc (own := [("hand", 1)]) (g := gName 1) (by rfl) S.nd (pi_list (pv 0)) (blkOk_by (own := [("hand", 1)]) (N := ["thing", "hand"]) (sc := defScope s_is_ring) (by decide +kernel)) (fun _ _ _ _ _ => pg_name (i := 1) S.nd rfl (Or.inl rfl)) (fun _ _ _ _ _ => pts_nil) (fun _ _ _ _ _ => (pe_callB (isiK (K := K)) (by rfl) T.b_isinstance (by decide +kernel) (pa_cons (pv 1) (pa_cons (pe_bltn (v := .ty "str") (by rfl) T.b_str (by decide +kernel) rfl) pa_nil))))) pa_nil)))) (pss_one (ps_ret pe_bl)) pss_nil) (pss_one (ps_ret (pe_cmpR op_eq (pe_callB (call_lenT (P := P) (w := w)) (by rfl) T.b_len PySem.boot_len (pa_cons (pe_callTy (cr_setT (P := P) (w := w) (K := K) rfl) (by rfl) T.b_set (by decide +kernel) (pa_cons (pv 0) pa_nil)) pa_nil)) (pe_callB call_len_seq (by rfl) T.b_len PySem.boot_len (pa_cons (pv 0) pa_nil)) (nomark _)))))), ?_⟩
    have hv0 : ∀ zs : List Str, ∀ v ∈ zs.map V.str, isT v = true ∨ NotTxt K H v := fun zs v hv => .inl (List.all_eq_true.mp (isT_map zs) v hv)
    have h3 : (∃ (p : Addr) (xs : List V), x = .ref p ∧ H p = some (.lst xs) ∧ 1 ≤ xs.length ∧ xs.length ≤ 200 ∧ (∀ v ∈ xs, isT v = true ∨ NotTxt K H v) ∧
          ((xs.all isT = false ∧ ∀ H', Kp [] H H' → Q (.bl false) H') ∨ ∃ zs : List Str, xs = zs.map V.str ∧ ((zs.Nodup ∧ ∀ H', Kp [] H H' → Q (.bl true) H') ∨ (¬ zs.Nodup ∧ ∀ H', Kp [] H H' → Q (.bl false) H')))) ∨
        ((∃ t : String, (∀ H', Kp [] H H' → TyX K H' x (.type t)) ∧ t ∈ ["NoneType", "bool", "int", "str", "tuple", "dict"]) ∧ ∀ H', Kp [] H H' → Q (.bl false) H') ∨
        (∃ (p : Addr) (xs : List V), x = .ref p ∧ H p = some (.lst xs) ∧ ¬ (1 ≤ xs.length ∧ xs.length ≤ 200) ∧ ∀ H', Kp [] H H' → Q (.bl false) H') := by
      rcases h with ⟨zs, ⟨p, hx, e, l1, l2⟩, hn, k⟩ | ⟨h | ⟨p, xs, hx, e, h⟩ | ⟨zs, ⟨p, hx, e, l1, l2⟩, hn⟩, k⟩
      · exact .inl ⟨p, _, hx, e, by rw [List.length_map]; exact l1, by rw [List.length_map]; exact l2, hv0 zs, .inr ⟨zs, rfl, .inl ⟨hn, k⟩⟩⟩
      · exact .inr (.inl ⟨h, k⟩)
      · by_cases l : 1 ≤ xs.length ∧ xs.length ≤ 200
        · rcases h with h | h | ⟨h1, h2⟩
          · omega
          · omega
          · exact .inl ⟨p, xs, hx, e, l.1, l.2, h2, .inl ⟨h1, k⟩⟩
        · exact .inr (.inr ⟨p, xs, hx, e, l, k⟩)
      · exact .inl ⟨p, _, hx, e, by rw [List.length_map]; exact l1, by rw [List.length_map]; exact l2, hv0 zs, .inr ⟨zs, rfl, .inr ⟨hn, k⟩⟩⟩
    rcases h3 with ⟨p, xs, hx, e, l1, l2, hv, hk⟩ | ⟨⟨t, ty, hm⟩, k⟩ | ⟨p, xs, hx, e, l, k⟩
    · subst hx
      refine ⟨_, rfl, _, _, _, _, true, rfl, .ty _, .base (.lst e), kit_ty (by decide +kernel), _, rfl, iteF ?_⟩
      refine ⟨_, rfl, p, xs, rfl, .inl (SqL.of e), _, _, rfl, rfl, _, rfl, ?_⟩
      rw [decide_eq_true (show (1 : Int) ≤ (xs.length : Int) by omega)]
      refine iteT ⟨_, _, rfl, rfl, _, rfl, ?_⟩
      rw [decide_eq_true (show (xs.length : Int) ≤ 200 by omega)]
      refine iteF ?_
      refine ⟨_, rfl, p, rfl, ⟨_, SqL.of e⟩, fun D hD => lc_list (K := K) (a := p) (xs := xs) (fun i H' => Kp [] H H' ∧ H' D = some (.lst (((xs.take i).map isT).map V.bl)))
        ⟨Kp.new hD, upd_same⟩ (fun _ _ _ ⟨k, _⟩ => SqL.of (k _ _ e List.not_mem_nil)) ?_ ?_⟩
      · rintro i v H' hi ⟨k, eD⟩
        refine ⟨rfl, tyes (iteT ?_)⟩
        have hlt : i < xs.length := (List.getElem?_eq_some_iff.mp hi).1
        have et : xs.take (i + 1) = xs.take i ++ [v] := by rw [List.take_add_one, hi]; rfl
        have lt : (((xs.take i).map isT).map V.bl).length < sizeLine := szl _ (by rw [List.length_map, List.length_map, List.length_take]; omega)
        have put : ∀ b, isT v = b → upd H' D (.lst ((((xs.take i).map isT).map V.bl) ++ [.bl b])) D = some (.lst (((xs.take (i + 1)).map isT).map V.bl)) := fun b q => by
          rw [et, List.map_append, List.map_append, List.map_singleton, List.map_singleton, q]
          exact upd_same
        cases ht : isT v with
        | true =>
          cases v with
          | str z => exact ⟨_, rfl, _, _, _, _, true, rfl, .ty _, .base (.str z), kit_ty (by decide +kernel), _, eD, lt, k.late hD, put true ht⟩
          | _ => cases ht
        | false =>
          rcases hv v (List.mem_of_getElem? hi) with q | ⟨t, q, hm⟩
          · rw [q] at ht
            cases ht
          · have ty := q H' k
            simp only [List.mem_cons, List.not_mem_nil, or_false] at hm
            rcases hm with rfl | rfl | rfl | rfl | rfl | rfl
            · exact ⟨_, rfl, _, _, _, _, false, rfl, .ty _, ty, kit_ty (by decide +kernel), _, eD, lt, k.late hD, put false ht⟩
            · exact ⟨_, rfl, _, _, _, _, false, rfl, .ty _, ty, kit_ty (by decide +kernel), _, eD, lt, k.late hD, put false ht⟩
            · exact ⟨_, rfl, _, _, _, _, false, rfl, .ty _, ty, kit_ty (by decide +kernel), _, eD, lt, k.late hD, put false ht⟩
            · exact ⟨_, rfl, _, _, _, _, false, rfl, .ty _, ty, kit_ty (by decide +kernel), _, eD, lt, k.late hD, put false ht⟩
            · exact ⟨_, rfl, _, _, _, _, false, rfl, .ty _, ty, kit_ty (by decide +kernel), _, eD, lt, k.late hD, put false ht⟩
            · exact ⟨_, rfl, _, _, _, _, false, rfl, .ty _, ty, kit_ty (by decide +kernel), _, eD, lt, k.late hD, put false ht⟩
      · rintro H' ⟨k, eD⟩
        rw [List.take_of_length_le (Nat.le_refl _)] at eD
        refine ⟨D, _, rfl, SqL.of eD, _, rfl, ?_⟩
        rcases hk with ⟨ha, hQ⟩ | ⟨zs, rfl, hk⟩
        · have ea : (xs.map isT).all id = false := by rw [List.all_map]; exact ha
          rw [ea]
          exact iteT (hQ _ k)
        · have ea : ((zs.map V.str).map isT).all id = true := by rw [List.all_map]; exact isT_map zs
          rw [ea]
          rw [List.length_map] at l1 l2
          refine iteF ⟨_, rfl, p, zs, rfl, SqL.of (k _ _ e List.not_mem_nil), by omega, fun q hq => ?_⟩
          have e2 : upd H' q (SetT P w q zs) p = some (.lst (zs.map V.str)) := by
            have e1 := k _ _ e List.not_mem_nil
            rw [upd_ne (ne_of_none e1 hq)]
            exact e1
          refine ⟨q, zs, rfl, upd_same, by omega, _, rfl, p, _, rfl, .inl (SqL.of e2), ?_⟩
          have de := difs_all (xs := zs) zs.length (Nat.le_refl _)
          rw [List.take_of_length_le (Nat.le_refl _)] at de
          rw [List.length_map]
          rcases hk with ⟨hn, hQ⟩ | ⟨hn, hQ⟩
          · exact eq_yes (vnat (de.mpr hn)) rfl (hQ _ (k.trans (Kp.new hq)))
          · exact eq_no (vnat_ne fun q => hn (de.mp q)) rfl (hQ _ (k.trans (Kp.new hq)))
    · have ty := ty H (Kp.refl H)
      simp only [List.mem_cons, List.not_mem_nil, or_false] at hm
      rcases hm with rfl | rfl | rfl | rfl | rfl | rfl
      · exact ⟨_, rfl, _, _, _, _, false, rfl, .ty _, ty, kit_ty (by decide +kernel), _, rfl, iteT (iteT (k H (Kp.refl H)))⟩
      · exact ⟨_, rfl, _, _, _, _, false, rfl, .ty _, ty, kit_ty (by decide +kernel), _, rfl, iteT (iteT (k H (Kp.refl H)))⟩
      · exact ⟨_, rfl, _, _, _, _, false, rfl, .ty _, ty, kit_ty (by decide +kernel), _, rfl, iteT (iteT (k H (Kp.refl H)))⟩
      · exact ⟨_, rfl, _, _, _, _, false, rfl, .ty _, ty, kit_ty (by decide +kernel), _, rfl, iteT (iteT (k H (Kp.refl H)))⟩
      · exact ⟨_, rfl, _, _, _, _, false, rfl, .ty _, ty, kit_ty (by decide +kernel), _, rfl, iteT (iteT (k H (Kp.refl H)))⟩
      · exact ⟨_, rfl, _, _, _, _, false, rfl, .ty _, ty, kit_ty (by decide +kernel), _, rfl, iteT (iteT (k H (Kp.refl H)))⟩
    · subst hx
      refine ⟨_, rfl, _, _, _, _, true, rfl, .ty _, .base (.lst e), kit_ty (by decide +kernel), _, rfl, iteF ?_⟩
      refine ⟨_, rfl, p, xs, rfl, .inl (SqL.of e), _, _, rfl, rfl, _, rfl, ?_⟩
      by_cases l1 : 1 ≤ xs.length
      · rw [decide_eq_true (show (1 : Int) ≤ (xs.length : Int) by omega)]
        refine iteT ⟨_, _, rfl, rfl, _, rfl, ?_⟩
        rw [decide_eq_false (show ¬ (xs.length : Int) ≤ 200 by omega)]
        exact iteT (k H (Kp.refl H))
      · rw [decide_eq_false (show ¬ (1 : Int) ≤ (xs.length : Int) by omega)]
        exact iteF ⟨_, rfl, iteT (k H (Kp.refl H))⟩
end
end Lz
namespace Lz
open PySem PySem.Spec PyProof.Rows L2
abbrev s_need_ring : Stmt := top 18
/-- a row of hands, a step and a beginning, looked at from the left -/
def Made (K : PySem.W.Frag) (H : Hp) (E : XK) (x y z : V) (k : List Str → Nat → Nat → Prop) : Prop :=
  (OddV K H x ∧ ∀ H', Kp [] H H' → E (.ref (cNoRing K)) none H') ∨ ∃ zs, RowV H x zs ∧ zs.Nodup ∧
  ((OutK K H 1 (10 ^ 60) y ∧ ∀ H', Kp [] H H' → E (.ref (cNoStep K)) none H') ∨ ∃ s : Nat, y = .int s ∧ 1 ≤ s ∧ (s : Int) ≤ 10 ^ 60 ∧
  ((OutK K H 0 ((zs.length : Int) - 1) z ∧ ∀ H', Kp [] H H' → E (.ref (cNoPlace K)) none H') ∨ ∃ b : Nat, z = .int b ∧ b < zs.length ∧ k zs s b))
def spNeedRing (K : PySem.W.Frag) : Sp := fun vs H Q E => ∃ x, vs = [x] ∧ ((∃ zs, RowV H x zs ∧ zs.Nodup ∧ ∀ H', Kp [] H H' → Q .non H') ∨ (OddV K H x ∧ ∀ H', Kp [] H H' → E (.ref (cNoRing K)) none H'))
section
variable {P : Program} {w : World} {K : PySem.W.Frag} {mg : Str → Option Value} {base : Heap}
theorem sc_need_ring : FnScope ["thing"] ["thing"] (defScope s_need_ring) := ⟨rfl, rfl, rfl, by decide +kernel, rfl, by decide +kernel, by decide +kernel⟩
theorem ok_need_ring {f : Addr} {fd : FuncData} (F : FnP K "need_ring" "need_ring" s_need_ring [] f fd) (T : Txt K mg) (G_is_ring : FnAt P w K mg base CX0 1 "is_ring" ["thing"] [] (spIsRing K)) :
    FnOk P w K mg base (CXr P w) 2 f fd ["thing"] (spNeedRing K) := by
  have S := sc_need_ring
  refine F.ok S (fun vs H Q E h => ?_) (fun cdv A outer s H vs Q E hr h => ?_)
  · obtain ⟨x, rfl, _⟩ := h
    rfl
  · obtain ⟨x, rfl, h⟩ := h
    refine ⟨_, (pss_one (ps_if (pt_not (pt_val (pe_fn G_is_ring (hr.mono (by decide)) pass0 (pa_cons (pv 0) pa_nil)))) (pss_one (ps_raise rfl (takes_of rfl rfl rfl rfl) (pmk_t T.x_NoRing T.g_NoRing))) pss_nil)), ?_⟩
    rcases h with ⟨zs, hr2, hn, k⟩ | ⟨h, k⟩
    · exact ⟨_, rfl, _, rfl, .inl ⟨zs, hr2, hn, fun H' k' => ⟨_, rfl, iteF (k H' k')⟩⟩⟩
    · exact ⟨_, rfl, _, rfl, .inr ⟨h, fun H' k' => ⟨_, rfl, iteT (k H' k')⟩⟩⟩
end
end Lz
namespace Lz
open PySem PySem.Spec PyProof.Rows L2
abbrev s_is_number : Stmt := top 12
def spIsNum (K : PySem.W.Frag) : Sp := fun vs H Q _ => ∃ x, vs = [x] ∧ ((∃ i, x = .int i ∧ Q (.bl true) H) ∨ (NotNum K H x ∧ Q (.bl false) H))
section
variable {P : Program} {w : World} {K : PySem.W.Frag} {mg : Str → Option Value} {base : Heap}
theorem sc_is_number : FnScope ["thing"] ["thing"] (defScope s_is_number) := ⟨rfl, rfl, rfl, by decide +kernel, rfl, by decide +kernel, by decide +kernel⟩
theorem ok_is_number {f : Addr} {fd : FuncData} (F : FnP K "is_number" "is_number" s_is_number [] f fd) (T : Txt K mg)  :
    FnOk P w K mg base CX0 1 f fd ["thing"] (spIsNum K) := by
  have S := sc_is_number
  refine F.ok S (fun vs H Q E h => ?_) (fun cdv A outer s H vs Q E hr h => ?_)
  · obtain ⟨x, rfl, _⟩ := h
    rfl
  · obtain ⟨x, rfl, h⟩ := h
    refine ⟨_, PSs.nox (pss_one (ps_ret (pe_and (pe_callB call_isi (by rfl) T.b_isinstance (by decide +kernel) (pa_cons (pv 0) (pa_cons (pe_bltn (v := .ty "int") (by rfl) T.b_int (by decide +kernel) rfl) pa_nil))) (pe_one (pe_not (pe_callB call_isi (by rfl) T.b_isinstance (by decide +kernel) (pa_cons (pv 0) (pa_cons (pe_bltn (v := .ty "bool") (by rfl) T.b_bool (by decide +kernel) rfl) pa_nil)))))))), ?_⟩
    rcases h with ⟨i, rfl, k⟩ | ⟨⟨t, ht, hm⟩, k⟩
    · refine ⟨_, rfl, _, _, _, _, true, rfl, .ty _, .base (.int i), kit_ty (by decide +kernel), _, rfl, ?_⟩
      exact iteT ⟨_, rfl, _, _, _, _, false, rfl, .ty _, .base (.int i), kit_ty (by decide +kernel), _, rfl, k⟩
    · simp only [List.mem_cons, List.not_mem_nil, or_false] at hm
      rcases hm with rfl | rfl | rfl | rfl | rfl | rfl
      · exact ⟨_, rfl, _, _, _, _, false, rfl, .ty _, ht, kit_ty (by decide +kernel), _, rfl, iteF k⟩
      · refine ⟨_, rfl, _, _, _, _, true, rfl, .ty _, ht, kit_ty (by decide +kernel), _, rfl, iteT ?_⟩
        exact ⟨_, rfl, _, _, _, _, true, rfl, .ty _, ht, kit_ty (by decide +kernel), _, rfl, k⟩
      · exact ⟨_, rfl, _, _, _, _, false, rfl, .ty _, ht, kit_ty (by decide +kernel), _, rfl, iteF k⟩
      · exact ⟨_, rfl, _, _, _, _, false, rfl, .ty _, ht, kit_ty (by decide +kernel), _, rfl, iteF k⟩
      · exact ⟨_, rfl, _, _, _, _, false, rfl, .ty _, ht, kit_ty (by decide +kernel), _, rfl, iteF k⟩
      · exact ⟨_, rfl, _, _, _, _, false, rfl, .ty _, ht, kit_ty (by decide +kernel), _, rfl, iteF k⟩
end
end Lz
namespace Lz
open PySem PySem.Spec PyProof.Rows L2
abbrev s_need_step : Stmt := top 13
section
variable {P : Program} {w : World} {K : PySem.W.Frag} {mg : Str → Option Value} {base : Heap}
theorem sc_need_step : FnScope ["step", "most"] ["step", "most"] (defScope s_need_step) := ⟨rfl, rfl, rfl, by decide +kernel, rfl, by decide +kernel, by decide +kernel⟩
theorem ok_need_step {f : Addr} {fd : FuncData} (F : FnP K "need_step" "need_step" s_need_step [] f fd) (T : Txt K mg) (G_is_number : FnAt P w K mg base CX0 1 "is_number" ["thing"] [] (spIsNum K)) :
    FnOk P w K mg base (CXr P w) 2 f fd ["step", "most"] (spNeed K (cNoStep K) 1) := by
  have S := sc_need_step
  refine F.ok S (fun vs H Q E h => ?_) (fun cdv A outer s H vs Q E hr h => ?_)
  · obtain ⟨x, m, rfl, _⟩ := h
    rfl
  · obtain ⟨x, m, rfl, h⟩ := h
    refine ⟨_, (pss_one (ps_if (PW.pt (pw_or (pt_not (pt_val (pe_fn G_is_number (hr.mono (by decide)) pass0 (pa_cons (pv 0) pa_nil)))) (pw_or1 (pt_not (pt_chain op_le op_le pe_int (pv 0) (pv 1)))))) (pss_one (ps_raise rfl (takes_of rfl rfl rfl rfl) (pmk_t T.x_NoStep T.g_NoStep))) pss_nil)), ?_⟩
    rcases h with ⟨i, rfl, h1, h2, k⟩ | ⟨⟨hn⟩ | ⟨i, rfl, hn⟩, k⟩
    · refine ⟨_, rfl, _, rfl, .inl ⟨i, rfl, _, rfl, iteF ?_⟩⟩
      refine ⟨_, rfl, _, _, rfl, rfl, _, rfl, ?_⟩
      rw [decide_eq_true h1]
      refine iteT ⟨_, rfl, _, _, rfl, rfl, _, rfl, ?_⟩
      rw [decide_eq_true h2]
      exact iteF k
    · exact ⟨_, rfl, _, rfl, .inr ⟨‹_›, _, rfl, iteT (iteT k)⟩⟩
    · refine ⟨_, rfl, _, rfl, .inl ⟨i, rfl, _, rfl, iteF ?_⟩⟩
      refine ⟨_, rfl, _, _, rfl, rfl, _, rfl, ?_⟩
      by_cases h1 : 1 ≤ i
      · rw [decide_eq_true h1]
        refine iteT ⟨_, rfl, _, _, rfl, rfl, _, rfl, ?_⟩
        rw [decide_eq_false (by omega)]
        exact iteT k
      · rw [decide_eq_false h1]
        exact iteF ⟨_, rfl, iteT k⟩
end
end Lz
namespace Lz
open PySem PySem.Spec PyProof.Rows L2
abbrev s_need_place : Stmt := top 14
def spPlace (K : PySem.W.Frag) : Sp := fun vs H Q E => ∃ x m, vs = [.int m, x] ∧
  ((∃ i, x = .int i ∧ 0 ≤ i ∧ i < m ∧ Q .non H) ∨ (OutN K H 0 (m - 1) x ∧ E (.ref (cNoPlace K)) none H))
section
variable {P : Program} {w : World} {K : PySem.W.Frag} {mg : Str → Option Value} {base : Heap}
theorem sc_need_place : FnScope ["many", "place"] ["many", "place"] (defScope s_need_place) := ⟨rfl, rfl, rfl, by decide +kernel, rfl, by decide +kernel, by decide +kernel⟩
theorem ok_need_place {f : Addr} {fd : FuncData} (F : FnP K "need_place" "need_place" s_need_place [] f fd) (T : Txt K mg) (G_is_number : FnAt P w K mg base CX0 1 "is_number" ["thing"] [] (spIsNum K)) :
    FnOk P w K mg base (CXr P w) 2 f fd ["many", "place"] (spPlace K) := by
  have S := sc_need_place
  refine F.ok S (fun vs H Q E h => ?_) (fun cdv A outer s H vs Q E hr h => ?_)
  · obtain ⟨x, m, rfl, _⟩ := h
    rfl
  · obtain ⟨x, m, rfl, h⟩ := h
    refine ⟨_, (pss_one (ps_if (PW.pt (pw_or (pt_not (pt_val (pe_fn G_is_number (hr.mono (by decide)) pass0 (pa_cons (pv 1) pa_nil)))) (pw_or1 (pt_not (pt_chain op_le op_lt pe_int (pv 1) (pv 0)))))) (pss_one (ps_raise rfl (takes_of rfl rfl rfl rfl) (pmk_t T.x_NoPlace T.g_NoPlace))) pss_nil)), ?_⟩
    rcases h with ⟨i, rfl, h1, h2, k⟩ | ⟨⟨hn⟩ | ⟨i, rfl, hn⟩, k⟩
    · refine ⟨_, rfl, _, rfl, .inl ⟨i, rfl, _, rfl, iteF ?_⟩⟩
      refine ⟨_, rfl, _, _, rfl, rfl, _, rfl, ?_⟩
      rw [decide_eq_true h1]
      refine iteT ⟨_, rfl, _, _, rfl, rfl, _, rfl, ?_⟩
      rw [decide_eq_true h2]
      exact iteF k
    · exact ⟨_, rfl, _, rfl, .inr ⟨‹_›, _, rfl, iteT (iteT k)⟩⟩
    · refine ⟨_, rfl, _, rfl, .inl ⟨i, rfl, _, rfl, iteF ?_⟩⟩
      refine ⟨_, rfl, _, _, rfl, rfl, _, rfl, ?_⟩
      by_cases h1 : 0 ≤ i
      · rw [decide_eq_true h1]
        refine iteT ⟨_, rfl, _, _, rfl, rfl, _, rfl, ?_⟩
        rw [decide_eq_false (by omega)]
        exact iteT k
      · rw [decide_eq_false h1]
        exact iteF ⟨_, rfl, iteT k⟩
end
end Lz
namespace Lz
open PySem PySem.Spec PyProof.Rows L2
abbrev s_from_place : Stmt := top 19
def spFrom (K : PySem.W.Frag) : Sp := fun vs H Q _ => ∃ (p : Addr) (k : Nat) (xs : List V), vs = [.ref p, .int k] ∧ SqL K H p xs ∧ xs.length ≤ 1000 ∧
  ∀ (q : Addr) (H' : Hp), Kp [] H H' → H q = none → H' q = some (.lst (Jo.rotL xs k)) → Q (.ref q) H'
section
variable {P : Program} {w : World} {K : PySem.W.Frag} {mg : Str → Option Value} {base : Heap}
theorem sc_from_place : FnScope ["hands", "place"] ["hands", "place"] (defScope s_from_place) := ⟨rfl, rfl, rfl, by decide +kernel, rfl, by decide +kernel, by decide +kernel⟩
theorem ok_from_place {f : Addr} {fd : FuncData} (F : FnP K "from_place" "from_place" s_from_place [] f fd) (T : Txt K mg)  :
    FnOk P w K mg base CX0 1 f fd ["hands", "place"] (spFrom K) := by
  have S := sc_from_place
  refine F.ok S (fun vs H Q E h => ?_) (fun cdv A outer s H vs Q E hr h => ?_)
  · obtain ⟨p, k, xs, rfl, _⟩ := h
    rfl
  · obtain ⟨p, j, xs, rfl, hS, hlen, k⟩ := h
    refine ⟨_, PSs.nox (pss_one (ps_ret (pe_op op_cat (pe_slice sl_list (pv 0) (po_some (pv 1)) po_none) (pe_slice sl_list (pv 0) po_none (po_some (pv 1)))))), ?_⟩
    refine ⟨_, rfl, _, rfl, (j : Int), rfl, p, xs, rfl, hS, fun a ha => ?_⟩
    refine ⟨_, rfl, _, rfl, (j : Int), rfl, p, xs, rfl, (Kp.new (ws := []) ha).lst hS (by simp), fun b hb => ?_⟩
    have hab : a ≠ b := ne_of_none upd_same hb
    refine ⟨a, b, _, _, rfl, rfl, by rw [upd_ne hab]; exact upd_same, upd_same, ?_, fun c hc => ?_⟩
    · rw [cut_from, cut_to, List.length_drop, List.length_take]
      exact sz _ (by omega)
    · have hc1 := (Kp.new (ws := []) (o := .lst (cutV xs none (some (j : Int)))) hb).free hc (by simp)
      have hc0 := (Kp.new (ws := []) (o := .lst (cutV xs (some (j : Int)) none)) ha).free hc1 (by simp)
      refine k c _ (((Kp.new ha).trans (Kp.new hb)).trans (Kp.new hc)) hc0 ?_
      rw [upd_same, cut_from, cut_to]
      rfl
end
end Lz
namespace Lz
open PySem PySem.Spec PyProof.Rows L2
abbrev s_behind_count : Stmt := top 20
/-- the one who goes, those that are left from the next one on -/
def spBehind (K : PySem.W.Frag) : Sp := fun vs H Q _ => ∃ (p : Addr) (s : Nat) (xs : List V), vs = [.ref p, .int s] ∧ SqL K H p xs ∧ xs ≠ [] ∧ xs.length ≤ 1000 ∧ 1 ≤ s ∧
  ∀ (x : V) (r : List V) (t q : Addr) (H' : Hp), Jo.rotL xs ((s - 1) % xs.length) = x :: r → Kp [] H H' → H t = none → H' t = some (.tup [x, .ref q]) → H q = none → H' q = some (.lst r) → Q (.ref t) H'
section
variable {P : Program} {w : World} {K : PySem.W.Frag} {mg : Str → Option Value} {base : Heap}
theorem sc_behind_count : FnScope ["hands", "step", "turned"] ["hands", "step"] (defScope s_behind_count) := ⟨rfl, rfl, rfl, by decide +kernel, rfl, by decide +kernel, by decide +kernel⟩
theorem ok_behind_count {f : Addr} {fd : FuncData} (F : FnP K "behind_count" "behind_count" s_behind_count [] f fd) (T : Txt K mg) (G_from_place : FnAt P w K mg base CX0 1 "from_place" ["hands", "place"] [] (spFrom K)) :
    FnOk P w K mg base CX0 2 f fd ["hands", "step"] (spBehind K) := by
  have S := sc_behind_count
  refine F.ok S (fun vs H Q E h => ?_) (fun cdv A outer s H vs Q E hr h => ?_)
  · obtain ⟨p, s, xs, rfl, _⟩ := h
    rfl
  · obtain ⟨p, z, xs, rfl, hS, hne, hlen, hz, k⟩ := h
    have hl : 0 < xs.length := List.length_pos_iff.mpr hne
    refine ⟨_, PSs.nox (pss_cons (ps_set (i := 2) S.nd rfl (Or.inl rfl) (pe_fn G_from_place (hr.mono (by decide)) pass0 (pa_cons (pv 0) (pa_cons (pe_op op_mod (pe_op op_sub (pv 1) pe_int) (pe_callB call_len_seq (by rfl) T.b_len PySem.boot_len (pa_cons (pv 0) pa_nil))) pa_nil)))) (pss_one (ps_ret (pe_tup (pa_cons (pe_ix ix_list (pv 2) pe_int (fun _ _ => rfl)) (pa_cons (pe_slice sl_list (pv 2) (po_some pe_int) po_none) pa_nil)))))), ?_⟩
    have e : ((z : Int) - 1) % (xs.length : Int) = (((z - 1) % xs.length : Nat) : Int) := by
      have e1 : (z : Int) - 1 = ((z - 1 : Nat) : Int) := by omega
      rw [e1]
      rfl
    refine ⟨_, rfl, _, rfl, _, _, rfl, rfl, _, rfl, p, xs, rfl, .inl hS, _, _, rfl, rfl, by show (0 : Int) < (xs.length : Int); omega, ?_⟩
    refine ⟨p, (z - 1) % xs.length, xs, congrArg (fun q => [V.ref p, V.int q]) e, hS, hlen, fun q H1 k1 hq e1 => ?_⟩
    obtain ⟨x, r, er, lr⟩ := Jo.rot_cons (z - 1) hne
    rw [er] at e1
    refine ⟨_, rfl, q, _, _, x, rfl, rfl, SqL.of e1, at_of (j := 0) rfl rfl, _, rfl, 1, rfl, q, _, rfl, SqL.of e1, fun w hw => ?_⟩
    refine ⟨sz 2 (by decide), fun t ht => ?_⟩
    have c1 : cutV (x :: r) (some 1) none = r := cut_from (x :: r) 1
    have hw0 : H w = none := k1.free hw (by simp)
    have ht0 : H t = none := (k1.trans (Kp.new hw)).free ht (by simp)
    refine k x r t w _ er ((k1.trans (Kp.new hw)).trans (Kp.new ht)) ht0 upd_same hw0 ?_
    rw [upd_ne (ne_of_none upd_same ht), upd_same, c1]
end
end Lz
namespace Lz
open PySem PySem.Spec PyProof.Rows L2
abbrev s_row_out : Stmt := top 21
def spRowOut (K : PySem.W.Frag) : Sp := fun vs H Q E => ∃ x y z, vs = [x, y, z] ∧ Made K H E x y z fun zs s b =>
  ∀ (q : Addr) (H' : Hp), Kp [] H H' → H q = none → H' q = some (.lst ((Jo.out (s - 1) (Jo.rotL zs b)).map V.str)) → Q (.ref q) H'
section
variable {P : Program} {w : World} {K : PySem.W.Frag} {mg : Str → Option Value} {base : Heap}
theorem sc_row_out : FnScope ["hands", "step", "begin", "left", "found", "hand"] ["hands", "step", "begin"] (defScope s_row_out) := ⟨rfl, rfl, rfl, by decide +kernel, rfl, by decide +kernel, by decide +kernel⟩
theorem ok_row_out {f : Addr} {fd : FuncData} (F : FnP K "row_out" "row_out" s_row_out [V.int (0)] f fd) (T : Txt K mg) (G_need_ring : FnAt P w K mg base (CXr P w) 2 "need_ring" ["thing"] [] (spNeedRing K)) (G_need_step : FnAt P w K mg base (CXr P w) 2 "need_step" ["step", "most"] [] (spNeed K (cNoStep K) 1)) (G_need_place : FnAt P w K mg base (CXr P w) 2 "need_place" ["many", "place"] [] (spPlace K)) (G_from_place : FnAt P w K mg base CX0 1 "from_place" ["hands", "place"] [] (spFrom K)) (G_behind_count : FnAt P w K mg base CX0 2 "behind_count" ["hands", "step"] [] (spBehind K)) :
    FnOk P w K mg base (CXr P w) 3 f fd ["hands", "step", "begin"] (spRowOut K) := by
  have S := sc_row_out
  refine F.ok S (fun vs H Q E h => ?_) (fun cdv A outer s H vs Q E hr h => ?_)
  · obtain ⟨x, y, z, rfl, _⟩ := h
    rfl
  · obtain ⟨x, y, z, rfl, h⟩ := h
    refine ⟨_, (pss_cons (ps_expr (pe_fn G_need_ring (hr.mono (by decide)) (passes_call (takes_of rfl rfl rfl rfl) (fun _ _ _ _ h => h)) (pa_cons (pv 0) pa_nil))) (pss_cons (ps_expr (pe_fn G_need_step (hr.mono (by decide)) (passes_call (takes_of rfl rfl rfl rfl) (fun _ _ _ _ h => h)) (pa_cons (pv 1) (pa_cons (pe_gint T.c_GREATEST) pa_nil)))) (pss_cons (ps_expr (pe_fn G_need_place (hr.mono (by decide)) (passes_call (takes_of rfl rfl rfl rfl) (fun _ _ _ _ h => h)) (pa_cons (pe_callB call_len_seq (by rfl) T.b_len PySem.boot_len (pa_cons (pv 0) pa_nil)) (pa_cons (pv 2) pa_nil)))) (PSs.nox (pss_cons (ps_set (i := 3) S.nd rfl (Or.inl rfl) (pe_fn G_from_place (hr.mono (by decide)) pass0 (pa_cons (pv 0) (pa_cons (pv 2) pa_nil)))) (pss_cons (ps_set (i := 4) S.nd rfl (Or.inl rfl) (pe_lst pa_nil)) (pss_cons (ps_while PassesOwn.never (pt_truth (pv 3) (by intro _; rfl)) (pss_cons (ps_asg (pe_fn G_behind_count (hr.mono (by decide)) pass0 (pa_cons (pv 3) (pa_cons (pv 1) pa_nil))) (pg_tup rfl (pgs_cons (pg_name (i := 5) S.nd rfl (Or.inl rfl)) (pgs_cons (pg_name (i := 3) S.nd rfl (Or.inl rfl)) pgs_nil)))) (pss_one (ps_expr (pe_bm PySem.F.plainAttrs_list PySem.F.slot_list_append PySem.F.type_list_append mt_append (pv 4) (pa_cons (pv 5) pa_nil)))))) (pss_one (ps_ret (pv 4)))))))))), ?_⟩
    rcases h with ⟨o, k⟩ | ⟨zs, hw, hn, h⟩
    · exact ⟨_, rfl, _, rfl, .inr ⟨o, k⟩⟩
    refine ⟨_, rfl, _, rfl, .inl ⟨zs, hw, hn, fun H0 k0 => ?_⟩⟩
    have hw0 := hw.keep0 k0
    obtain ⟨p, rfl, e0, l1, l2⟩ := hw0
    rcases h with ⟨o, k⟩ | ⟨s', rfl, s1, s2, h⟩
    · exact ⟨_, rfl, _, _, rfl, .inr ⟨o _ k0, k _ k0⟩⟩
    refine ⟨_, rfl, _, _, rfl, .inl ⟨s', rfl, by omega, s2, ?_⟩⟩
    refine ⟨_, rfl, p, _, rfl, .inl (SqL.of e0), ?_⟩
    rw [List.length_map]
    rcases h with ⟨o, k⟩ | ⟨b, rfl, b1, k⟩
    · exact ⟨_, rfl, _, _, rfl, .inr ⟨o _ k0, k _ k0⟩⟩
    refine ⟨_, rfl, _, _, rfl, .inl ⟨b, rfl, by omega, by omega, ?_⟩⟩
    refine ⟨_, rfl, _, rfl, p, b, _, rfl, SqL.of e0, by rw [List.length_map]; omega, fun l H1 k1 hl e1 => ?_⟩
    rw [Jo.rotL_map] at e1
    have hl0 : H l = none := k0.free hl List.not_mem_nil
    refine ⟨Nat.zero_le _, fun f hf => ?_⟩
    have hf0 : H f = none := (k0.trans k1).free hf List.not_mem_nil
    have nlf : l ≠ f := ne_of_none e1 hf
    refine ⟨fun m σ H' => ∃ (v : Option V) (l : Addr) (a r : List Str), σ = [some (.ref p), some (.int s'), some (.int b), some (.ref l), some (.ref f), v] ∧ Kp [] H H' ∧ l ≠ f ∧ H' l = some (.lst (r.map V.str)) ∧ H' f = some (.lst (a.map V.str)) ∧
        a ++ Jo.out (s' - 1) r = Jo.out (s' - 1) (Jo.rotL zs b) ∧ m = r.length,
      ⟨_, none, l, [], _, rfl, (k0.trans k1).trans (Kp.new hf), nlf, by rw [upd_ne nlf]; exact e1, upd_same, rfl, rfl⟩, ?_⟩
    rintro m σ H2 ⟨v, l, a, r, rfl, k2, nlf, hl2, hf2, e2, rfl⟩
    have len2 : a.length + r.length = zs.length := by
      have e3 := congrArg List.length e2
      rw [List.length_append, Jo.out_length, Jo.out_length, Jo.rotL_length] at e3
      exact e3
    refine ⟨_, rfl, !(r.map V.str).isEmpty, .inl ⟨r.map V.str, SqL.of hl2, rfl⟩, ?_⟩
    by_cases hr0 : r = []
    · subst hr0
      refine iteF ⟨_, rfl, k f H2 k2 hf0 ?_⟩
      rw [hf2, ← e2, Jo.out_nil, List.append_nil]
    have hre : (!(r.map V.str).isEmpty) = true := by
      cases r with
      | nil => exact absurd rfl hr0
      | cons _ _ => rfl
    rw [hre]
    refine iteT ⟨_, fun _ _ h => h, ?_⟩
    refine ⟨_, rfl, _, rfl, l, s', r.map V.str, rfl, SqL.of hl2, by intro q; exact hr0 (List.map_eq_nil_iff.mp q), by rw [List.length_map]; omega, s1, fun x r' t q' H3 er k3 ht e3t hq' e3q => ?_⟩
    obtain ⟨y, r2, ey, ly⟩ := Jo.rot_cons (s' - 1) hr0
    rw [Jo.rotL_map, List.length_map, ey, List.map_cons] at er
    obtain ⟨rfl, rfl⟩ := List.cons.inj er
    refine ⟨t, _, rfl, SqT.of e3t, rfl, _, _, rfl, _, _, rfl, rfl, ?_⟩
    have hf3 := k3 _ _ hf2 List.not_mem_nil
    refine ⟨_, rfl, .inl ⟨rfl, _, SqL.of hf3⟩, _, rfl, f, _, _, rfl, rfl, hf3, szl _ (by rw [List.length_map]; omega), ?_⟩
    have nq : q' ≠ f := (ne_of_none hf2 hq').symm
    refine ⟨r2.length, by omega, _, q', a ++ [y], r2, rfl, (k2.trans k3).late hf0, nq, by rw [upd_ne nq]; exact e3q, ?_, ?_, rfl⟩
    · rw [List.map_append]
      exact upd_same
    · rw [List.append_assoc, ← e2, Jo.out_step ey]
      rfl
end
end Lz
namespace Lz
open PySem PySem.Spec PyProof.Rows L2
abbrev s__law_odd : Stmt := top 33
/-- what was new then is kept -/
def NewKept (H H' H2 : Hp) : Prop := ∀ a o, H a = none → H' a = some o → H2 a = some o
def spOdd (K : PySem.W.Frag) : Sp := fun vs H Q _ => ∃ c : Int, vs = [.int c] ∧ ∀ (v : V) (H' : Hp), Kp [] H H' → (∀ H2, NewKept H H' H2 → OddV K H2 v) → Q v H'
theorem odd_list {K : PySem.W.Frag} {H : Hp} {p : Addr} {xs : List V} (e : H p = some (.lst xs)) (h : xs.length = 0 ∨ 200 < xs.length ∨ (xs.all isT = false ∧ ∀ v ∈ xs, isT v = true ∨ NotTxt K H v)) : OddV K H (.ref p) := .inr (.inl ⟨p, xs, rfl, e, h⟩)
theorem odd_twice {K : PySem.W.Frag} {H : Hp} {p : Addr} {xs : List V} (zs : List Str) (e : H p = some (.lst xs)) (hx : xs = zs.map V.str) (l1 : 1 ≤ zs.length) (l2 : zs.length ≤ 200) (h : ¬ zs.Nodup) : OddV K H (.ref p) := by
  subst hx
  exact .inr (.inr ⟨zs, ⟨p, rfl, e, l1, l2⟩, h⟩)
section
variable {P : Program} {w : World} {K : PySem.W.Frag} {mg : Str → Option Value} {base : Heap}
theorem sc__law_odd : FnScope ["_law_cell", "_law_some", "_law_many", "_law_k"] ["_law_cell"] (defScope s__law_odd) := ⟨rfl, rfl, rfl, by decide +kernel, rfl, by decide +kernel, by decide +kernel⟩
theorem ok__law_odd {f : Addr} {fd : FuncData} (F : FnP K "_law_odd" "_law_odd" s__law_odd [] f fd) (T : Txt K mg)  :
    FnOk P w K mg base CX0 1 f fd ["_law_cell"] (spOdd K) := by
  have S := sc__law_odd
  refine F.ok S (fun vs H Q E h => ?_) (fun cdv A outer s H vs Q E hr h => ?_)
  · obtain ⟨c, rfl, _⟩ := h
    rfl
  · obtain ⟨c, rfl, k⟩ := h
    refine ⟨_, PSs.nox (pss_cons (ps_set (i := 1) S.nd rfl (Or.inl rfl) (pe_lst (pa_cons pe_non (pa_cons pe_int (pa_cons pe_str (pa_cons (pe_tup (pa_cons pe_str (pa_cons pe_str pa_nil))) (pa_cons (pe_lst pa_nil) (pa_cons (pe_lst (pa_cons pe_str (pa_cons pe_str pa_nil))) (pa_cons (pe_lst (pa_cons pe_str (pa_cons pe_int pa_nil))) (pa_cons (pe_lst (pa_cons pe_non pa_nil)) (pa_cons (pe_lst (pa_cons pe_str (pa_cons pe_str (pa_cons pe_str pa_nil)))) (pa_cons pe_dnewK (pa_cons (pe_disp (pps_cons pe_str pe_int pps_nil) (by rfl) (by rfl) (fun z => by cases z) (by decide)) (pa_cons pe_bl (pa_cons (pe_lst (pa_cons (pe_lst (pa_cons pe_str pa_nil)) pa_nil)) pa_nil))))))))))))))) (pss_cons (ps_setLc (i := 2) (own := [("_law_k", 3)]) (g := gName 3) (by rfl) S.nd rfl rfl (sw_true rfl rfl rfl (by decide +kernel)) (pi_range1 (by rfl) T.b_range (pa_cons pe_int pa_nil)) (blkOk_by (own := [("_law_k", 3)]) (N := ["_law_cell", "_law_some", "_law_many", "_law_k"]) (sc := defScope s__law_odd) (by decide +kernel)) (fun _ _ _ _ _ => pg_name (i := 3) S.nd rfl (Or.inl rfl)) (fun _ _ _ _ _ => pts_nil) (fun _ _ _ _ _ => (pe_callTy call_str_int (by rfl) T.b_str (by decide +kernel) (pa_cons (pv 3) pa_nil)))) (pss_one (ps_ret (pe_ix ix_list (pe_op op_cat (pv 1) (pe_lst (pa_cons (pv 2) (pa_cons (pe_lst (pa_cons pe_bl (pa_cons pe_str pa_nil))) (pa_cons (pe_lst (pa_cons pe_str (pa_cons pe_str pa_nil))) (pa_cons (pe_lst (pa_cons (pe_tup (pa_cons pe_str pa_nil)) pa_nil)) (pa_cons (pe_op op_cat (pe_slice sl_list (pv 2) po_none (po_some pe_int)) (pe_lst (pa_cons pe_str pa_nil))) pa_nil))))))) (pe_op op_mod (pv 0) pe_int) (fun _ _ => rfl)))))), ?_⟩
    refine ⟨sz 2 (by decide), fun t1 ht1 => ?_⟩
    have ft1 : H t1 = none := (Kp.refl H).free ht1 List.not_mem_nil
    have et1 : upd H t1 (.tup [.str "a", .str "b"]) t1 = some (.tup [.str "a", .str "b"]) := upd_same
    have q1 : Kp [] H (upd H t1 (.tup [.str "a", .str "b"])) := Kp.new ht1
    have k1 : Kp [] H (upd H t1 (.tup [.str "a", .str "b"])) := (Kp.refl H).trans q1
    generalize upd H t1 (.tup [.str "a", .str "b"]) = G1 at et1 q1 k1 ⊢
    refine ⟨sz 0 (by decide), fun l1 hl1 => ?_⟩
    have fl1 : H l1 = none := k1.free hl1 List.not_mem_nil
    have el1 : upd G1 l1 (.lst []) l1 = some (.lst []) := upd_same
    have q2 : Kp [] G1 (upd G1 l1 (.lst [])) := Kp.new hl1
    have k2 : Kp [] H (upd G1 l1 (.lst [])) := k1.trans q2
    generalize upd G1 l1 (.lst []) = G2 at el1 q2 k2 ⊢
    have et1 := q2 _ _ et1 List.not_mem_nil
    refine ⟨sz 2 (by decide), fun l2 hl2 => ?_⟩
    have fl2 : H l2 = none := k2.free hl2 List.not_mem_nil
    have el2 : upd G2 l2 (.lst [.str "a", .str "a"]) l2 = some (.lst [.str "a", .str "a"]) := upd_same
    have q3 : Kp [] G2 (upd G2 l2 (.lst [.str "a", .str "a"])) := Kp.new hl2
    have k3 : Kp [] H (upd G2 l2 (.lst [.str "a", .str "a"])) := k2.trans q3
    generalize upd G2 l2 (.lst [.str "a", .str "a"]) = G3 at el2 q3 k3 ⊢
    have et1 := q3 _ _ et1 List.not_mem_nil
    have el1 := q3 _ _ el1 List.not_mem_nil
    refine ⟨sz 2 (by decide), fun l3 hl3 => ?_⟩
    have fl3 : H l3 = none := k3.free hl3 List.not_mem_nil
    have el3 : upd G3 l3 (.lst [.str "a", .int 1]) l3 = some (.lst [.str "a", .int 1]) := upd_same
    have q4 : Kp [] G3 (upd G3 l3 (.lst [.str "a", .int 1])) := Kp.new hl3
    have k4 : Kp [] H (upd G3 l3 (.lst [.str "a", .int 1])) := k3.trans q4
    generalize upd G3 l3 (.lst [.str "a", .int 1]) = G4 at el3 q4 k4 ⊢
    have et1 := q4 _ _ et1 List.not_mem_nil
    have el1 := q4 _ _ el1 List.not_mem_nil
    have el2 := q4 _ _ el2 List.not_mem_nil
    refine ⟨sz 1 (by decide), fun l4 hl4 => ?_⟩
    have fl4 : H l4 = none := k4.free hl4 List.not_mem_nil
    have el4 : upd G4 l4 (.lst [.non]) l4 = some (.lst [.non]) := upd_same
    have q5 : Kp [] G4 (upd G4 l4 (.lst [.non])) := Kp.new hl4
    have k5 : Kp [] H (upd G4 l4 (.lst [.non])) := k4.trans q5
    generalize upd G4 l4 (.lst [.non]) = G5 at el4 q5 k5 ⊢
    have et1 := q5 _ _ et1 List.not_mem_nil
    have el1 := q5 _ _ el1 List.not_mem_nil
    have el2 := q5 _ _ el2 List.not_mem_nil
    have el3 := q5 _ _ el3 List.not_mem_nil
    refine ⟨sz 3 (by decide), fun l5 hl5 => ?_⟩
    have fl5 : H l5 = none := k5.free hl5 List.not_mem_nil
    have el5 : upd G5 l5 (.lst [.str "a", .str "b", .str "a"]) l5 = some (.lst [.str "a", .str "b", .str "a"]) := upd_same
    have q6 : Kp [] G5 (upd G5 l5 (.lst [.str "a", .str "b", .str "a"])) := Kp.new hl5
    have k6 : Kp [] H (upd G5 l5 (.lst [.str "a", .str "b", .str "a"])) := k5.trans q6
    generalize upd G5 l5 (.lst [.str "a", .str "b", .str "a"]) = G6 at el5 q6 k6 ⊢
    have et1 := q6 _ _ et1 List.not_mem_nil
    have el1 := q6 _ _ el1 List.not_mem_nil
    have el2 := q6 _ _ el2 List.not_mem_nil
    have el3 := q6 _ _ el3 List.not_mem_nil
    have el4 := q6 _ _ el4 List.not_mem_nil
    refine fun d1 hd1 => ?_
    have fd1 : H d1 = none := k6.free hd1 List.not_mem_nil
    have ed1 : upd G6 d1 (.dK []) d1 = some (.dK []) := upd_same
    have q7 : Kp [] G6 (upd G6 d1 (.dK [])) := Kp.new hd1
    have k7 : Kp [] H (upd G6 d1 (.dK [])) := k6.trans q7
    generalize upd G6 d1 (.dK []) = G7 at ed1 q7 k7 ⊢
    have et1 := q7 _ _ et1 List.not_mem_nil
    have el1 := q7 _ _ el1 List.not_mem_nil
    have el2 := q7 _ _ el2 List.not_mem_nil
    have el3 := q7 _ _ el3 List.not_mem_nil
    have el4 := q7 _ _ el4 List.not_mem_nil
    have el5 := q7 _ _ el5 List.not_mem_nil
    refine fun d2 hd2 => ⟨upd_same, [(.inr "a", .int 1)], rfl, by decide, ?_⟩
    have fd2 : H d2 = none := k7.free hd2 List.not_mem_nil
    have ed2 : upd (upd G7 d2 (.dK [])) d2 (.dK (mergeK [] [(.inr "a", .int 1)])) d2 = some (.dK (mergeK [] [(.inr "a", .int 1)])) := upd_same
    have q8 : Kp [] G7 (upd (upd G7 d2 (.dK [])) d2 (.dK (mergeK [] [(.inr "a", .int 1)]))) := (Kp.new (o := .dK []) hd2).late hd2
    have k8 : Kp [] H (upd (upd G7 d2 (.dK [])) d2 (.dK (mergeK [] [(.inr "a", .int 1)]))) := k7.trans q8
    generalize upd (upd G7 d2 (.dK [])) d2 (.dK (mergeK [] [(.inr "a", .int 1)])) = G8 at ed2 q8 k8 ⊢
    have et1 := q8 _ _ et1 List.not_mem_nil
    have el1 := q8 _ _ el1 List.not_mem_nil
    have el2 := q8 _ _ el2 List.not_mem_nil
    have el3 := q8 _ _ el3 List.not_mem_nil
    have el4 := q8 _ _ el4 List.not_mem_nil
    have el5 := q8 _ _ el5 List.not_mem_nil
    have ed1 := q8 _ _ ed1 List.not_mem_nil
    refine ⟨sz 1 (by decide), fun l6 hl6 => ?_⟩
    have fl6 : H l6 = none := k8.free hl6 List.not_mem_nil
    have el6 : upd G8 l6 (.lst [.str "a"]) l6 = some (.lst [.str "a"]) := upd_same
    have q9 : Kp [] G8 (upd G8 l6 (.lst [.str "a"])) := Kp.new hl6
    have k9 : Kp [] H (upd G8 l6 (.lst [.str "a"])) := k8.trans q9
    generalize upd G8 l6 (.lst [.str "a"]) = G9 at el6 q9 k9 ⊢
    have et1 := q9 _ _ et1 List.not_mem_nil
    have el1 := q9 _ _ el1 List.not_mem_nil
    have el2 := q9 _ _ el2 List.not_mem_nil
    have el3 := q9 _ _ el3 List.not_mem_nil
    have el4 := q9 _ _ el4 List.not_mem_nil
    have el5 := q9 _ _ el5 List.not_mem_nil
    have ed1 := q9 _ _ ed1 List.not_mem_nil
    have ed2 := q9 _ _ ed2 List.not_mem_nil
    refine ⟨sz 1 (by decide), fun l7 hl7 => ?_⟩
    have fl7 : H l7 = none := k9.free hl7 List.not_mem_nil
    have el7 : upd G9 l7 (.lst [.ref l6]) l7 = some (.lst [.ref l6]) := upd_same
    have q10 : Kp [] G9 (upd G9 l7 (.lst [.ref l6])) := Kp.new hl7
    have k10 : Kp [] H (upd G9 l7 (.lst [.ref l6])) := k9.trans q10
    generalize upd G9 l7 (.lst [.ref l6]) = G10 at el7 q10 k10 ⊢
    have et1 := q10 _ _ et1 List.not_mem_nil
    have el1 := q10 _ _ el1 List.not_mem_nil
    have el2 := q10 _ _ el2 List.not_mem_nil
    have el3 := q10 _ _ el3 List.not_mem_nil
    have el4 := q10 _ _ el4 List.not_mem_nil
    have el5 := q10 _ _ el5 List.not_mem_nil
    have ed1 := q10 _ _ ed1 List.not_mem_nil
    have ed2 := q10 _ _ ed2 List.not_mem_nil
    have el6 := q10 _ _ el6 List.not_mem_nil
    refine ⟨sz 13 (by decide), fun ls hls => ?_⟩
    have fls : H ls = none := k10.free hls List.not_mem_nil
    have els : upd G10 ls (.lst [.non, .int 7, .str "ab", .ref t1, .ref l1, .ref l2, .ref l3, .ref l4, .ref l5, .ref d1, .ref d2, .bl true, .ref l7]) ls = some (.lst [.non, .int 7, .str "ab", .ref t1, .ref l1, .ref l2, .ref l3, .ref l4, .ref l5, .ref d1, .ref d2, .bl true, .ref l7]) := upd_same
    have q11 : Kp [] G10 (upd G10 ls (.lst [.non, .int 7, .str "ab", .ref t1, .ref l1, .ref l2, .ref l3, .ref l4, .ref l5, .ref d1, .ref d2, .bl true, .ref l7])) := Kp.new hls
    have k11 : Kp [] H (upd G10 ls (.lst [.non, .int 7, .str "ab", .ref t1, .ref l1, .ref l2, .ref l3, .ref l4, .ref l5, .ref d1, .ref d2, .bl true, .ref l7])) := k10.trans q11
    generalize upd G10 ls (.lst [.non, .int 7, .str "ab", .ref t1, .ref l1, .ref l2, .ref l3, .ref l4, .ref l5, .ref d1, .ref d2, .bl true, .ref l7]) = G11 at els q11 k11 ⊢
    have et1 := q11 _ _ et1 List.not_mem_nil
    have el1 := q11 _ _ el1 List.not_mem_nil
    have el2 := q11 _ _ el2 List.not_mem_nil
    have el3 := q11 _ _ el3 List.not_mem_nil
    have el4 := q11 _ _ el4 List.not_mem_nil
    have el5 := q11 _ _ el5 List.not_mem_nil
    have ed1 := q11 _ _ ed1 List.not_mem_nil
    have ed2 := q11 _ _ ed2 List.not_mem_nil
    have el6 := q11 _ _ el6 List.not_mem_nil
    have el7 := q11 _ _ el7 List.not_mem_nil
    refine ⟨201, rfl, by decide, by decide, fun D hD => lc_range (lo := 0) (n := 201) (fun i H' => Kp [] G11 H' ∧ H' D = some (.lst (((List.range i).map numS).map V.str))) ⟨Kp.new hD, upd_same⟩ ?_ ?_⟩
    · rintro i H' hi ⟨kk, eD⟩
      refine ⟨rfl, tyes (iteT ?_)⟩
      have ei : (0 : Int) + (i : Int) = ((i : Nat) : Int) := Int.zero_add _
      rw [ei]
      refine ⟨_, rfl, _, rfl, log_num (by omega), _, eD, szl _ (by rw [List.length_map, List.length_map, List.length_range]; omega), kk.late hD, ?_⟩
      rw [List.range_succ, List.map_append, List.map_append]
      exact upd_same
    rintro G12 ⟨q12, eD⟩
    have k12 := k11.trans q12
    have fD : H D = none := k11.free hD List.not_mem_nil
    have et1 := q12 _ _ et1 List.not_mem_nil
    have el1 := q12 _ _ el1 List.not_mem_nil
    have el2 := q12 _ _ el2 List.not_mem_nil
    have el3 := q12 _ _ el3 List.not_mem_nil
    have el4 := q12 _ _ el4 List.not_mem_nil
    have el5 := q12 _ _ el5 List.not_mem_nil
    have ed1 := q12 _ _ ed1 List.not_mem_nil
    have ed2 := q12 _ _ ed2 List.not_mem_nil
    have el6 := q12 _ _ el6 List.not_mem_nil
    have el7 := q12 _ _ el7 List.not_mem_nil
    have els := q12 _ _ els List.not_mem_nil
    generalize hM : ((List.range 201).map numS) = M at eD
    have lM : M.length = 201 := by rw [← hM, List.length_map, List.length_range]
    have nM : M.Nodup := by rw [← hM]; exact nodup_of _ _ fun _ _ _ _ e => num_inj e
    refine ⟨_, rfl, _, rfl, ?_⟩
    refine ⟨sz 2 (by decide), fun m1 hm1 => ?_⟩
    have fm1 : H m1 = none := k12.free hm1 List.not_mem_nil
    have em1 : upd G12 m1 (.lst [.bl true, .str "a"]) m1 = some (.lst [.bl true, .str "a"]) := upd_same
    have q13 : Kp [] G12 (upd G12 m1 (.lst [.bl true, .str "a"])) := Kp.new hm1
    have k13 : Kp [] H (upd G12 m1 (.lst [.bl true, .str "a"])) := k12.trans q13
    generalize upd G12 m1 (.lst [.bl true, .str "a"]) = G13 at em1 q13 k13 ⊢
    have et1 := q13 _ _ et1 List.not_mem_nil
    have el1 := q13 _ _ el1 List.not_mem_nil
    have el2 := q13 _ _ el2 List.not_mem_nil
    have el3 := q13 _ _ el3 List.not_mem_nil
    have el4 := q13 _ _ el4 List.not_mem_nil
    have el5 := q13 _ _ el5 List.not_mem_nil
    have ed1 := q13 _ _ ed1 List.not_mem_nil
    have ed2 := q13 _ _ ed2 List.not_mem_nil
    have el6 := q13 _ _ el6 List.not_mem_nil
    have el7 := q13 _ _ el7 List.not_mem_nil
    have els := q13 _ _ els List.not_mem_nil
    have eD := q13 _ _ eD List.not_mem_nil
    refine ⟨sz 2 (by decide), fun m2 hm2 => ?_⟩
    have fm2 : H m2 = none := k13.free hm2 List.not_mem_nil
    have em2 : upd G13 m2 (.lst [.str "", .str ""]) m2 = some (.lst [.str "", .str ""]) := upd_same
    have q14 : Kp [] G13 (upd G13 m2 (.lst [.str "", .str ""])) := Kp.new hm2
    have k14 : Kp [] H (upd G13 m2 (.lst [.str "", .str ""])) := k13.trans q14
    generalize upd G13 m2 (.lst [.str "", .str ""]) = G14 at em2 q14 k14 ⊢
    have et1 := q14 _ _ et1 List.not_mem_nil
    have el1 := q14 _ _ el1 List.not_mem_nil
    have el2 := q14 _ _ el2 List.not_mem_nil
    have el3 := q14 _ _ el3 List.not_mem_nil
    have el4 := q14 _ _ el4 List.not_mem_nil
    have el5 := q14 _ _ el5 List.not_mem_nil
    have ed1 := q14 _ _ ed1 List.not_mem_nil
    have ed2 := q14 _ _ ed2 List.not_mem_nil
    have el6 := q14 _ _ el6 List.not_mem_nil
    have el7 := q14 _ _ el7 List.not_mem_nil
    have els := q14 _ _ els List.not_mem_nil
    have eD := q14 _ _ eD List.not_mem_nil
    have em1 := q14 _ _ em1 List.not_mem_nil
    refine ⟨sz 1 (by decide), fun t2 ht2 => ?_⟩
    have ft2 : H t2 = none := k14.free ht2 List.not_mem_nil
    have et2 : upd G14 t2 (.tup [.str "a"]) t2 = some (.tup [.str "a"]) := upd_same
    have q15 : Kp [] G14 (upd G14 t2 (.tup [.str "a"])) := Kp.new ht2
    have k15 : Kp [] H (upd G14 t2 (.tup [.str "a"])) := k14.trans q15
    generalize upd G14 t2 (.tup [.str "a"]) = G15 at et2 q15 k15 ⊢
    have et1 := q15 _ _ et1 List.not_mem_nil
    have el1 := q15 _ _ el1 List.not_mem_nil
    have el2 := q15 _ _ el2 List.not_mem_nil
    have el3 := q15 _ _ el3 List.not_mem_nil
    have el4 := q15 _ _ el4 List.not_mem_nil
    have el5 := q15 _ _ el5 List.not_mem_nil
    have ed1 := q15 _ _ ed1 List.not_mem_nil
    have ed2 := q15 _ _ ed2 List.not_mem_nil
    have el6 := q15 _ _ el6 List.not_mem_nil
    have el7 := q15 _ _ el7 List.not_mem_nil
    have els := q15 _ _ els List.not_mem_nil
    have eD := q15 _ _ eD List.not_mem_nil
    have em1 := q15 _ _ em1 List.not_mem_nil
    have em2 := q15 _ _ em2 List.not_mem_nil
    refine ⟨sz 1 (by decide), fun m3 hm3 => ?_⟩
    have fm3 : H m3 = none := k15.free hm3 List.not_mem_nil
    have em3 : upd G15 m3 (.lst [.ref t2]) m3 = some (.lst [.ref t2]) := upd_same
    have q16 : Kp [] G15 (upd G15 m3 (.lst [.ref t2])) := Kp.new hm3
    have k16 : Kp [] H (upd G15 m3 (.lst [.ref t2])) := k15.trans q16
    generalize upd G15 m3 (.lst [.ref t2]) = G16 at em3 q16 k16 ⊢
    have et1 := q16 _ _ et1 List.not_mem_nil
    have el1 := q16 _ _ el1 List.not_mem_nil
    have el2 := q16 _ _ el2 List.not_mem_nil
    have el3 := q16 _ _ el3 List.not_mem_nil
    have el4 := q16 _ _ el4 List.not_mem_nil
    have el5 := q16 _ _ el5 List.not_mem_nil
    have ed1 := q16 _ _ ed1 List.not_mem_nil
    have ed2 := q16 _ _ ed2 List.not_mem_nil
    have el6 := q16 _ _ el6 List.not_mem_nil
    have el7 := q16 _ _ el7 List.not_mem_nil
    have els := q16 _ _ els List.not_mem_nil
    have eD := q16 _ _ eD List.not_mem_nil
    have em1 := q16 _ _ em1 List.not_mem_nil
    have em2 := q16 _ _ em2 List.not_mem_nil
    have et2 := q16 _ _ et2 List.not_mem_nil
    refine ⟨_, rfl, 200, rfl, D, _, rfl, SqL.of eD, ?_⟩
    refine fun m4 hm4 => ?_
    have fm4 : H m4 = none := k16.free hm4 List.not_mem_nil
    have em4 : upd G16 m4 (.lst (cutV (M.map V.str) none (some 200))) m4 = some (.lst (cutV (M.map V.str) none (some 200))) := upd_same
    have q17 : Kp [] G16 (upd G16 m4 (.lst (cutV (M.map V.str) none (some 200)))) := Kp.new hm4
    have k17 : Kp [] H (upd G16 m4 (.lst (cutV (M.map V.str) none (some 200)))) := k16.trans q17
    generalize upd G16 m4 (.lst (cutV (M.map V.str) none (some 200))) = G17 at em4 q17 k17 ⊢
    have et1 := q17 _ _ et1 List.not_mem_nil
    have el1 := q17 _ _ el1 List.not_mem_nil
    have el2 := q17 _ _ el2 List.not_mem_nil
    have el3 := q17 _ _ el3 List.not_mem_nil
    have el4 := q17 _ _ el4 List.not_mem_nil
    have el5 := q17 _ _ el5 List.not_mem_nil
    have ed1 := q17 _ _ ed1 List.not_mem_nil
    have ed2 := q17 _ _ ed2 List.not_mem_nil
    have el6 := q17 _ _ el6 List.not_mem_nil
    have el7 := q17 _ _ el7 List.not_mem_nil
    have els := q17 _ _ els List.not_mem_nil
    have eD := q17 _ _ eD List.not_mem_nil
    have em1 := q17 _ _ em1 List.not_mem_nil
    have em2 := q17 _ _ em2 List.not_mem_nil
    have et2 := q17 _ _ et2 List.not_mem_nil
    have em3 := q17 _ _ em3 List.not_mem_nil
    refine ⟨sz 1 (by decide), fun m5 hm5 => ?_⟩
    have fm5 : H m5 = none := k17.free hm5 List.not_mem_nil
    have em5 : upd G17 m5 (.lst [.str "7"]) m5 = some (.lst [.str "7"]) := upd_same
    have q18 : Kp [] G17 (upd G17 m5 (.lst [.str "7"])) := Kp.new hm5
    have k18 : Kp [] H (upd G17 m5 (.lst [.str "7"])) := k17.trans q18
    generalize upd G17 m5 (.lst [.str "7"]) = G18 at em5 q18 k18 ⊢
    have et1 := q18 _ _ et1 List.not_mem_nil
    have el1 := q18 _ _ el1 List.not_mem_nil
    have el2 := q18 _ _ el2 List.not_mem_nil
    have el3 := q18 _ _ el3 List.not_mem_nil
    have el4 := q18 _ _ el4 List.not_mem_nil
    have el5 := q18 _ _ el5 List.not_mem_nil
    have ed1 := q18 _ _ ed1 List.not_mem_nil
    have ed2 := q18 _ _ ed2 List.not_mem_nil
    have el6 := q18 _ _ el6 List.not_mem_nil
    have el7 := q18 _ _ el7 List.not_mem_nil
    have els := q18 _ _ els List.not_mem_nil
    have eD := q18 _ _ eD List.not_mem_nil
    have em1 := q18 _ _ em1 List.not_mem_nil
    have em2 := q18 _ _ em2 List.not_mem_nil
    have et2 := q18 _ _ et2 List.not_mem_nil
    have em3 := q18 _ _ em3 List.not_mem_nil
    have em4 := q18 _ _ em4 List.not_mem_nil
    have c200 : cutV (M.map V.str) none (some 200) = (M.map V.str).take 200 := cut_to (M.map V.str) 200
    refine ⟨m4, m5, _, _, rfl, rfl, em4, em5, sz _ (by rw [c200, List.length_take, List.length_map, lM]; decide), fun m6 hm6 => ?_⟩
    have fm6 : H m6 = none := k18.free hm6 List.not_mem_nil
    have em6 : upd G18 m6 (.lst (cutV (M.map V.str) none (some 200) ++ [.str "7"])) m6 = some (.lst (cutV (M.map V.str) none (some 200) ++ [.str "7"])) := upd_same
    have q19 : Kp [] G18 (upd G18 m6 (.lst (cutV (M.map V.str) none (some 200) ++ [.str "7"]))) := Kp.new hm6
    have k19 : Kp [] H (upd G18 m6 (.lst (cutV (M.map V.str) none (some 200) ++ [.str "7"]))) := k18.trans q19
    generalize upd G18 m6 (.lst (cutV (M.map V.str) none (some 200) ++ [.str "7"])) = G19 at em6 q19 k19 ⊢
    have et1 := q19 _ _ et1 List.not_mem_nil
    have el1 := q19 _ _ el1 List.not_mem_nil
    have el2 := q19 _ _ el2 List.not_mem_nil
    have el3 := q19 _ _ el3 List.not_mem_nil
    have el4 := q19 _ _ el4 List.not_mem_nil
    have el5 := q19 _ _ el5 List.not_mem_nil
    have ed1 := q19 _ _ ed1 List.not_mem_nil
    have ed2 := q19 _ _ ed2 List.not_mem_nil
    have el6 := q19 _ _ el6 List.not_mem_nil
    have el7 := q19 _ _ el7 List.not_mem_nil
    have els := q19 _ _ els List.not_mem_nil
    have eD := q19 _ _ eD List.not_mem_nil
    have em1 := q19 _ _ em1 List.not_mem_nil
    have em2 := q19 _ _ em2 List.not_mem_nil
    have et2 := q19 _ _ et2 List.not_mem_nil
    have em3 := q19 _ _ em3 List.not_mem_nil
    have em4 := q19 _ _ em4 List.not_mem_nil
    have em5 := q19 _ _ em5 List.not_mem_nil
    refine ⟨sz 5 (by decide), fun lt hlt => ?_⟩
    have flt : H lt = none := k19.free hlt List.not_mem_nil
    have elt : upd G19 lt (.lst [.ref D, .ref m1, .ref m2, .ref m3, .ref m6]) lt = some (.lst [.ref D, .ref m1, .ref m2, .ref m3, .ref m6]) := upd_same
    have q20 : Kp [] G19 (upd G19 lt (.lst [.ref D, .ref m1, .ref m2, .ref m3, .ref m6])) := Kp.new hlt
    have k20 : Kp [] H (upd G19 lt (.lst [.ref D, .ref m1, .ref m2, .ref m3, .ref m6])) := k19.trans q20
    generalize upd G19 lt (.lst [.ref D, .ref m1, .ref m2, .ref m3, .ref m6]) = G20 at elt q20 k20 ⊢
    have et1 := q20 _ _ et1 List.not_mem_nil
    have el1 := q20 _ _ el1 List.not_mem_nil
    have el2 := q20 _ _ el2 List.not_mem_nil
    have el3 := q20 _ _ el3 List.not_mem_nil
    have el4 := q20 _ _ el4 List.not_mem_nil
    have el5 := q20 _ _ el5 List.not_mem_nil
    have ed1 := q20 _ _ ed1 List.not_mem_nil
    have ed2 := q20 _ _ ed2 List.not_mem_nil
    have el6 := q20 _ _ el6 List.not_mem_nil
    have el7 := q20 _ _ el7 List.not_mem_nil
    have els := q20 _ _ els List.not_mem_nil
    have eD := q20 _ _ eD List.not_mem_nil
    have em1 := q20 _ _ em1 List.not_mem_nil
    have em2 := q20 _ _ em2 List.not_mem_nil
    have et2 := q20 _ _ et2 List.not_mem_nil
    have em3 := q20 _ _ em3 List.not_mem_nil
    have em4 := q20 _ _ em4 List.not_mem_nil
    have em5 := q20 _ _ em5 List.not_mem_nil
    have em6 := q20 _ _ em6 List.not_mem_nil
    refine ⟨ls, lt, _, _, rfl, rfl, els, elt, sz 18 (by decide), fun la hla => ?_⟩
    have fla : H la = none := k20.free hla List.not_mem_nil
    have ela : upd G20 la (.lst ([.non, .int 7, .str "ab", .ref t1, .ref l1, .ref l2, .ref l3, .ref l4, .ref l5, .ref d1, .ref d2, .bl true, .ref l7] ++ [.ref D, .ref m1, .ref m2, .ref m3, .ref m6])) la = some (.lst ([.non, .int 7, .str "ab", .ref t1, .ref l1, .ref l2, .ref l3, .ref l4, .ref l5, .ref d1, .ref d2, .bl true, .ref l7] ++ [.ref D, .ref m1, .ref m2, .ref m3, .ref m6])) := upd_same
    have q21 : Kp [] G20 (upd G20 la (.lst ([.non, .int 7, .str "ab", .ref t1, .ref l1, .ref l2, .ref l3, .ref l4, .ref l5, .ref d1, .ref d2, .bl true, .ref l7] ++ [.ref D, .ref m1, .ref m2, .ref m3, .ref m6]))) := Kp.new hla
    have k21 : Kp [] H (upd G20 la (.lst ([.non, .int 7, .str "ab", .ref t1, .ref l1, .ref l2, .ref l3, .ref l4, .ref l5, .ref d1, .ref d2, .bl true, .ref l7] ++ [.ref D, .ref m1, .ref m2, .ref m3, .ref m6]))) := k20.trans q21
    generalize upd G20 la (.lst ([.non, .int 7, .str "ab", .ref t1, .ref l1, .ref l2, .ref l3, .ref l4, .ref l5, .ref d1, .ref d2, .bl true, .ref l7] ++ [.ref D, .ref m1, .ref m2, .ref m3, .ref m6])) = G21 at ela q21 k21 ⊢
    have et1 := q21 _ _ et1 List.not_mem_nil
    have el1 := q21 _ _ el1 List.not_mem_nil
    have el2 := q21 _ _ el2 List.not_mem_nil
    have el3 := q21 _ _ el3 List.not_mem_nil
    have el4 := q21 _ _ el4 List.not_mem_nil
    have el5 := q21 _ _ el5 List.not_mem_nil
    have ed1 := q21 _ _ ed1 List.not_mem_nil
    have ed2 := q21 _ _ ed2 List.not_mem_nil
    have el6 := q21 _ _ el6 List.not_mem_nil
    have el7 := q21 _ _ el7 List.not_mem_nil
    have els := q21 _ _ els List.not_mem_nil
    have eD := q21 _ _ eD List.not_mem_nil
    have em1 := q21 _ _ em1 List.not_mem_nil
    have em2 := q21 _ _ em2 List.not_mem_nil
    have et2 := q21 _ _ et2 List.not_mem_nil
    have em3 := q21 _ _ em3 List.not_mem_nil
    have em4 := q21 _ _ em4 List.not_mem_nil
    have em5 := q21 _ _ em5 List.not_mem_nil
    have em6 := q21 _ _ em6 List.not_mem_nil
    have elt := q21 _ _ elt List.not_mem_nil
    refine ⟨_, rfl, _, _, rfl, rfl, by show (0 : Int) < _; decide, ?_⟩
    have r0 := Int.emod_nonneg c (show (18 : Int) ≠ 0 by decide)
    have r1 := Int.emod_lt_of_pos c (show (0 : Int) < 18 by decide)
    generalize hxs : ([.non, .int 7, .str "ab", .ref t1, .ref l1, .ref l2, .ref l3, .ref l4, .ref l5, .ref d1, .ref d2, .bl true, .ref l7] ++ [.ref D, .ref m1, .ref m2, .ref m3, .ref m6] : List V) = xs at ela ⊢
    have lx : xs.length = 18 := by rw [← hxs]; rfl
    have hj : (c % 18).toNat < xs.length := by omega
    refine ⟨la, _, _, _, rfl, rfl, SqL.of ela, at_of (j := (c % 18).toNat) (by omega) (List.getElem?_eq_getElem hj), ?_⟩
    have hv : xs[(c % 18).toNat] ∈ xs := List.getElem_mem hj
    generalize xs[(c % 18).toNat] = v at hv ⊢
    refine k v _ k21 fun H2 nk => ?_
    rw [← hxs] at hv
    simp only [List.cons_append, List.nil_append, List.mem_cons, List.not_mem_nil, or_false] at hv
    rcases hv with rfl | rfl | rfl | rfl | rfl | rfl | rfl | rfl | rfl | rfl | rfl | rfl | rfl | rfl | rfl | rfl | rfl | rfl
    · exact .inl ⟨_, fun _ _ => .base .non, by simp⟩
    · exact .inl ⟨_, fun _ _ => .base (.int 7), by simp⟩
    · exact .inl ⟨_, fun _ _ => .base (.str _), by simp⟩
    · have e := nk _ _ ft1 et1
      exact .inl ⟨_, fun _ kk => .base (.tup (kk _ _ e List.not_mem_nil)), by simp⟩
    · exact odd_list (nk _ _ fl1 el1) (.inl rfl)
    · exact odd_twice ["a", "a"] (nk _ _ fl2 el2) rfl (by decide) (by decide) (by decide +kernel)
    · refine odd_list (nk _ _ fl3 el3) (.inr (.inr ⟨rfl, fun v hv => ?_⟩))
      simp only [List.mem_cons, List.not_mem_nil, or_false] at hv
      rcases hv with rfl | rfl
      · exact .inl rfl
      · exact .inr .int
    · refine odd_list (nk _ _ fl4 el4) (.inr (.inr ⟨rfl, fun v hv => ?_⟩))
      rw [List.mem_singleton.mp hv]
      exact .inr .non
    · exact odd_twice ["a", "b", "a"] (nk _ _ fl5 el5) rfl (by decide) (by decide) (by decide +kernel)
    · have e := nk _ _ fd1 ed1
      exact .inl ⟨_, fun _ kk => .base (.dK (kk _ _ e List.not_mem_nil)), by simp⟩
    · have e := nk _ _ fd2 ed2
      exact .inl ⟨_, fun _ kk => .base (.dK (kk _ _ e List.not_mem_nil)), by simp⟩
    · exact .inl ⟨_, fun _ _ => .base (.bl true), by simp⟩
    · refine odd_list (nk _ _ fl7 el7) (.inr (.inr ⟨rfl, fun v hv => ?_⟩))
      rw [List.mem_singleton.mp hv]
      exact .inr (.lst (nk _ _ fl6 el6))
    · refine odd_list (nk _ _ fD eD) (.inr (.inl ?_))
      rw [List.length_map, lM]
      decide
    · refine odd_list (nk _ _ fm1 em1) (.inr (.inr ⟨rfl, fun v hv => ?_⟩))
      simp only [List.mem_cons, List.not_mem_nil, or_false] at hv
      rcases hv with rfl | rfl
      · exact .inr .bl
      · exact .inl rfl
    · exact odd_twice ["", ""] (nk _ _ fm2 em2) rfl (by decide) (by decide) (by decide +kernel)
    · refine odd_list (nk _ _ fm3 em3) (.inr (.inr ⟨rfl, fun v hv => ?_⟩))
      rw [List.mem_singleton.mp hv]
      exact .inr (.tup (nk _ _ ft2 et2))
    · refine odd_list (nk _ _ fm6 em6) (.inr (.inl ?_))
      rw [List.length_append, c200, List.length_take, List.length_map, lM]
      decide
end
end Lz
namespace Lz
open PySem PySem.Spec PyProof.Rows L2
abbrev s__law_error : Stmt := top 32
def spErr (K : PySem.W.Frag) : Sp := fun vs H Q _ => ∃ (a : Addr) (x wd : Str), vs = [.ref a] ∧ (x, wd) ∈ errNames ∧ H a = some (ExA (.ref (He.ga K x)) a) ∧
  ∀ H', Kp [] H H' → Q (.str wd) H'
section
variable {P : Program} {w : World} {K : PySem.W.Frag} {mg : Str → Option Value} {base : Heap}
theorem sc__law_error : FnScope ["_law_e", "_law_words"] ["_law_e"] (defScope s__law_error) := ⟨rfl, rfl, rfl, by decide +kernel, rfl, by decide +kernel, by decide +kernel⟩
theorem ok__law_error {f : Addr} {fd : FuncData} (F : FnP K "_law_error" "_law_error" s__law_error [] f fd) (T : Txt K mg)  :
    FnOk P w K mg base CX0 1 f fd ["_law_e"] (spErr K) := by
  have S := sc__law_error
  refine F.ok S (fun vs H Q E h => ?_) (fun cdv A outer s H vs Q E hr h => ?_)
  · obtain ⟨a, x, wd, rfl, _⟩ := h
    rfl
  · obtain ⟨a, x, wd, rfl, hm, ha0, k⟩ := h
    refine ⟨_, PSs.nox (pss_cons (ps_set (i := 1) S.nd rfl (Or.inl rfl) (pe_lst pa_nil)) (pss_cons (ps_if (pt_val (pe_callB call_isX (by rfl) T.b_isinstance (by decide +kernel) (pa_cons (pv 0) (pa_cons (pe_gref T.g_NoRing) pa_nil)))) (pss_one (ps_expr (pe_bm PySem.F.plainAttrs_list PySem.F.slot_list_append PySem.F.type_list_append mt_append (pv 1) (pa_cons pe_str pa_nil)))) pss_nil) (pss_cons (ps_if (pt_val (pe_callB call_isX (by rfl) T.b_isinstance (by decide +kernel) (pa_cons (pv 0) (pa_cons (pe_gref T.g_NoMany) pa_nil)))) (pss_one (ps_expr (pe_bm PySem.F.plainAttrs_list PySem.F.slot_list_append PySem.F.type_list_append mt_append (pv 1) (pa_cons pe_str pa_nil)))) pss_nil) (pss_cons (ps_if (pt_val (pe_callB call_isX (by rfl) T.b_isinstance (by decide +kernel) (pa_cons (pv 0) (pa_cons (pe_gref T.g_NoStep) pa_nil)))) (pss_one (ps_expr (pe_bm PySem.F.plainAttrs_list PySem.F.slot_list_append PySem.F.type_list_append mt_append (pv 1) (pa_cons pe_str pa_nil)))) pss_nil) (pss_cons (ps_if (pt_val (pe_callB call_isX (by rfl) T.b_isinstance (by decide +kernel) (pa_cons (pv 0) (pa_cons (pe_gref T.g_NoPlace) pa_nil)))) (pss_one (ps_expr (pe_bm PySem.F.plainAttrs_list PySem.F.slot_list_append PySem.F.type_list_append mt_append (pv 1) (pa_cons pe_str pa_nil)))) pss_nil) (pss_cons (ps_if (pt_val (pe_callB call_isX (by rfl) T.b_isinstance (by decide +kernel) (pa_cons (pv 0) (pa_cons (pe_gref T.g_NoCount) pa_nil)))) (pss_one (ps_expr (pe_bm PySem.F.plainAttrs_list PySem.F.slot_list_append PySem.F.type_list_append mt_append (pv 1) (pa_cons pe_str pa_nil)))) pss_nil) (pss_cons (ps_if (pt_val (pe_callB call_isX (by rfl) T.b_isinstance (by decide +kernel) (pa_cons (pv 0) (pa_cons (pe_gref T.g_NoHand) pa_nil)))) (pss_one (ps_expr (pe_bm PySem.F.plainAttrs_list PySem.F.slot_list_append PySem.F.type_list_append mt_append (pv 1) (pa_cons pe_str pa_nil)))) pss_nil) (pss_cons (ps_if (pt_val (pe_callB call_isX (by rfl) T.b_isinstance (by decide +kernel) (pa_cons (pv 0) (pa_cons (pe_gref T.g_TwiceTold) pa_nil)))) (pss_one (ps_expr (pe_bm PySem.F.plainAttrs_list PySem.F.slot_list_append PySem.F.type_list_append mt_append (pv 1) (pa_cons pe_str pa_nil)))) pss_nil) (pss_cons (ps_if (pt_val (pe_callB call_isX (by rfl) T.b_isinstance (by decide +kernel) (pa_cons (pv 0) (pa_cons (pe_gref T.g_TooMany) pa_nil)))) (pss_one (ps_expr (pe_bm PySem.F.plainAttrs_list PySem.F.slot_list_append PySem.F.type_list_append mt_append (pv 1) (pa_cons pe_str pa_nil)))) pss_nil) (pss_cons (ps_if (PW.pt (pw_or (pt_cmpR op_ne (pe_callB call_len_seq (by rfl) T.b_len PySem.boot_len (pa_cons (pv 1) pa_nil)) pe_int (nomark _)) (pw_or1 (pt_not (pt_val (pe_callB call_isX (by rfl) T.b_isinstance (by decide +kernel) (pa_cons (pv 0) (pa_cons (pe_bltn (v := .ty "ValueError") (by rfl) T.b_ValueError (by decide +kernel) rfl) pa_nil)))))))) (pss_one (ps_ret pe_str)) pss_nil) (pss_one (ps_ret (pe_ix ix_list (pv 1) pe_int (fun _ _ => rfl)))))))))))))), ?_⟩
    refine ⟨Nat.zero_le _, fun l hl => ?_⟩
    have nal : a ≠ l := ne_of_none ha0 hl
    have ha : upd H l (.lst []) a = some (ExA (.ref (He.ga K x)) a) := by rw [upd_ne nal]; exact ha0
    have h0 : upd H l (.lst []) l = some (.lst []) := upd_same
    simp only [errNames, List.mem_cons, List.not_mem_nil, or_false, Prod.mk.injEq] at hm
    rcases hm with ⟨rfl, rfl⟩ | ⟨rfl, rfl⟩ | ⟨rfl, rfl⟩ | ⟨rfl, rfl⟩ | ⟨rfl, rfl⟩ | ⟨rfl, rfl⟩ | ⟨rfl, rfl⟩ | ⟨rfl, rfl⟩
    · have hx : ("NoRing" : Str) ∈ errNames.map (·.1) := by decide
      have hC := T.err.c _ hx
      have kNoRing : PySem.W.kitOne K (.ref (He.ga K "NoRing")) (.ref (He.ga K "NoRing")) = some true := (T.err.k _ hx "NoRing" (by decide)).trans (by decide)
      have kNoMany : PySem.W.kitOne K (.ref (He.ga K "NoRing")) (.ref (He.ga K "NoMany")) = some false := (T.err.k _ hx "NoMany" (by decide)).trans (by decide)
      have kNoStep : PySem.W.kitOne K (.ref (He.ga K "NoRing")) (.ref (He.ga K "NoStep")) = some false := (T.err.k _ hx "NoStep" (by decide)).trans (by decide)
      have kNoPlace : PySem.W.kitOne K (.ref (He.ga K "NoRing")) (.ref (He.ga K "NoPlace")) = some false := (T.err.k _ hx "NoPlace" (by decide)).trans (by decide)
      have kNoCount : PySem.W.kitOne K (.ref (He.ga K "NoRing")) (.ref (He.ga K "NoCount")) = some false := (T.err.k _ hx "NoCount" (by decide)).trans (by decide)
      have kNoHand : PySem.W.kitOne K (.ref (He.ga K "NoRing")) (.ref (He.ga K "NoHand")) = some false := (T.err.k _ hx "NoHand" (by decide)).trans (by decide)
      have kTwiceTold : PySem.W.kitOne K (.ref (He.ga K "NoRing")) (.ref (He.ga K "TwiceTold")) = some false := (T.err.k _ hx "TwiceTold" (by decide)).trans (by decide)
      have kTooMany : PySem.W.kitOne K (.ref (He.ga K "NoRing")) (.ref (He.ga K "TooMany")) = some false := (T.err.k _ hx "TooMany" (by decide)).trans (by decide)
      refine ⟨_, rfl, a, _, _, _, _, rfl, ha, hC, (fun _ z => z), kNoRing, _, rfl, ?_⟩
      refine iteT ⟨_, rfl, .inl ⟨rfl, _, SqL.of h0⟩, l, _, _, rfl, rfl, h0, szl 0 (by decide), ?_⟩
      have ha1 : upd (upd H l (.lst [])) l (.lst ([] ++ [.str "ring"])) a = some (ExA (.ref (He.ga K "NoRing")) a) := by rw [upd_ne nal]; exact ha
      refine ⟨_, rfl, a, _, _, _, _, rfl, ha1, hC, (fun _ z => z), kNoMany, _, rfl, iteF ?_⟩
      refine ⟨_, rfl, a, _, _, _, _, rfl, ha1, hC, (fun _ z => z), kNoStep, _, rfl, iteF ?_⟩
      refine ⟨_, rfl, a, _, _, _, _, rfl, ha1, hC, (fun _ z => z), kNoPlace, _, rfl, iteF ?_⟩
      refine ⟨_, rfl, a, _, _, _, _, rfl, ha1, hC, (fun _ z => z), kNoCount, _, rfl, iteF ?_⟩
      refine ⟨_, rfl, a, _, _, _, _, rfl, ha1, hC, (fun _ z => z), kNoHand, _, rfl, iteF ?_⟩
      refine ⟨_, rfl, a, _, _, _, _, rfl, ha1, hC, (fun _ z => z), kTwiceTold, _, rfl, iteF ?_⟩
      refine ⟨_, rfl, a, _, _, _, _, rfl, ha1, hC, (fun _ z => z), kTooMany, _, rfl, iteF ?_⟩
      refine ⟨_, rfl, l, [.str "ring"], rfl, .inl (SqL.of upd_same), ?_⟩
      refine c_ (ne_same (x := .int 1) rfl ?_)
      refine ⟨_, rfl, iteF ?_⟩
      refine ⟨_, rfl, a, _, _, _, _, rfl, ha1, hC, (fun _ z => z), T.err.v _ hx, _, rfl, iteF ?_⟩
      exact ⟨_, rfl, l, _, _, _, rfl, rfl, SqL.of upd_same, rfl, k _ ((Kp.new hl).late hl)⟩
    · have hx : ("NoMany" : Str) ∈ errNames.map (·.1) := by decide
      have hC := T.err.c _ hx
      have kNoRing : PySem.W.kitOne K (.ref (He.ga K "NoMany")) (.ref (He.ga K "NoRing")) = some false := (T.err.k _ hx "NoRing" (by decide)).trans (by decide)
      have kNoMany : PySem.W.kitOne K (.ref (He.ga K "NoMany")) (.ref (He.ga K "NoMany")) = some true := (T.err.k _ hx "NoMany" (by decide)).trans (by decide)
      have kNoStep : PySem.W.kitOne K (.ref (He.ga K "NoMany")) (.ref (He.ga K "NoStep")) = some false := (T.err.k _ hx "NoStep" (by decide)).trans (by decide)
      have kNoPlace : PySem.W.kitOne K (.ref (He.ga K "NoMany")) (.ref (He.ga K "NoPlace")) = some false := (T.err.k _ hx "NoPlace" (by decide)).trans (by decide)
      have kNoCount : PySem.W.kitOne K (.ref (He.ga K "NoMany")) (.ref (He.ga K "NoCount")) = some false := (T.err.k _ hx "NoCount" (by decide)).trans (by decide)
      have kNoHand : PySem.W.kitOne K (.ref (He.ga K "NoMany")) (.ref (He.ga K "NoHand")) = some false := (T.err.k _ hx "NoHand" (by decide)).trans (by decide)
      have kTwiceTold : PySem.W.kitOne K (.ref (He.ga K "NoMany")) (.ref (He.ga K "TwiceTold")) = some false := (T.err.k _ hx "TwiceTold" (by decide)).trans (by decide)
      have kTooMany : PySem.W.kitOne K (.ref (He.ga K "NoMany")) (.ref (He.ga K "TooMany")) = some false := (T.err.k _ hx "TooMany" (by decide)).trans (by decide)
      refine ⟨_, rfl, a, _, _, _, _, rfl, ha, hC, (fun _ z => z), kNoRing, _, rfl, iteF ?_⟩
      refine ⟨_, rfl, a, _, _, _, _, rfl, ha, hC, (fun _ z => z), kNoMany, _, rfl, ?_⟩
      refine iteT ⟨_, rfl, .inl ⟨rfl, _, SqL.of h0⟩, l, _, _, rfl, rfl, h0, szl 0 (by decide), ?_⟩
      have ha1 : upd (upd H l (.lst [])) l (.lst ([] ++ [.str "many"])) a = some (ExA (.ref (He.ga K "NoMany")) a) := by rw [upd_ne nal]; exact ha
      refine ⟨_, rfl, a, _, _, _, _, rfl, ha1, hC, (fun _ z => z), kNoStep, _, rfl, iteF ?_⟩
      refine ⟨_, rfl, a, _, _, _, _, rfl, ha1, hC, (fun _ z => z), kNoPlace, _, rfl, iteF ?_⟩
      refine ⟨_, rfl, a, _, _, _, _, rfl, ha1, hC, (fun _ z => z), kNoCount, _, rfl, iteF ?_⟩
      refine ⟨_, rfl, a, _, _, _, _, rfl, ha1, hC, (fun _ z => z), kNoHand, _, rfl, iteF ?_⟩
      refine ⟨_, rfl, a, _, _, _, _, rfl, ha1, hC, (fun _ z => z), kTwiceTold, _, rfl, iteF ?_⟩
      refine ⟨_, rfl, a, _, _, _, _, rfl, ha1, hC, (fun _ z => z), kTooMany, _, rfl, iteF ?_⟩
      refine ⟨_, rfl, l, [.str "many"], rfl, .inl (SqL.of upd_same), ?_⟩
      refine c_ (ne_same (x := .int 1) rfl ?_)
      refine ⟨_, rfl, iteF ?_⟩
      refine ⟨_, rfl, a, _, _, _, _, rfl, ha1, hC, (fun _ z => z), T.err.v _ hx, _, rfl, iteF ?_⟩
      exact ⟨_, rfl, l, _, _, _, rfl, rfl, SqL.of upd_same, rfl, k _ ((Kp.new hl).late hl)⟩
    · have hx : ("NoStep" : Str) ∈ errNames.map (·.1) := by decide
      have hC := T.err.c _ hx
      have kNoRing : PySem.W.kitOne K (.ref (He.ga K "NoStep")) (.ref (He.ga K "NoRing")) = some false := (T.err.k _ hx "NoRing" (by decide)).trans (by decide)
      have kNoMany : PySem.W.kitOne K (.ref (He.ga K "NoStep")) (.ref (He.ga K "NoMany")) = some false := (T.err.k _ hx "NoMany" (by decide)).trans (by decide)
      have kNoStep : PySem.W.kitOne K (.ref (He.ga K "NoStep")) (.ref (He.ga K "NoStep")) = some true := (T.err.k _ hx "NoStep" (by decide)).trans (by decide)
      have kNoPlace : PySem.W.kitOne K (.ref (He.ga K "NoStep")) (.ref (He.ga K "NoPlace")) = some false := (T.err.k _ hx "NoPlace" (by decide)).trans (by decide)
      have kNoCount : PySem.W.kitOne K (.ref (He.ga K "NoStep")) (.ref (He.ga K "NoCount")) = some false := (T.err.k _ hx "NoCount" (by decide)).trans (by decide)
      have kNoHand : PySem.W.kitOne K (.ref (He.ga K "NoStep")) (.ref (He.ga K "NoHand")) = some false := (T.err.k _ hx "NoHand" (by decide)).trans (by decide)
      have kTwiceTold : PySem.W.kitOne K (.ref (He.ga K "NoStep")) (.ref (He.ga K "TwiceTold")) = some false := (T.err.k _ hx "TwiceTold" (by decide)).trans (by decide)
      have kTooMany : PySem.W.kitOne K (.ref (He.ga K "NoStep")) (.ref (He.ga K "TooMany")) = some false := (T.err.k _ hx "TooMany" (by decide)).trans (by decide)
      refine ⟨_, rfl, a, _, _, _, _, rfl, ha, hC, (fun _ z => z), kNoRing, _, rfl, iteF ?_⟩
      refine ⟨_, rfl, a, _, _, _, _, rfl, ha, hC, (fun _ z => z), kNoMany, _, rfl, iteF ?_⟩
      refine ⟨_, rfl, a, _, _, _, _, rfl, ha, hC, (fun _ z => z), kNoStep, _, rfl, ?_⟩
      refine iteT ⟨_, rfl, .inl ⟨rfl, _, SqL.of h0⟩, l, _, _, rfl, rfl, h0, szl 0 (by decide), ?_⟩
      have ha1 : upd (upd H l (.lst [])) l (.lst ([] ++ [.str "step"])) a = some (ExA (.ref (He.ga K "NoStep")) a) := by rw [upd_ne nal]; exact ha
      refine ⟨_, rfl, a, _, _, _, _, rfl, ha1, hC, (fun _ z => z), kNoPlace, _, rfl, iteF ?_⟩
      refine ⟨_, rfl, a, _, _, _, _, rfl, ha1, hC, (fun _ z => z), kNoCount, _, rfl, iteF ?_⟩
      refine ⟨_, rfl, a, _, _, _, _, rfl, ha1, hC, (fun _ z => z), kNoHand, _, rfl, iteF ?_⟩
      refine ⟨_, rfl, a, _, _, _, _, rfl, ha1, hC, (fun _ z => z), kTwiceTold, _, rfl, iteF ?_⟩
      refine ⟨_, rfl, a, _, _, _, _, rfl, ha1, hC, (fun _ z => z), kTooMany, _, rfl, iteF ?_⟩
      refine ⟨_, rfl, l, [.str "step"], rfl, .inl (SqL.of upd_same), ?_⟩
      refine c_ (ne_same (x := .int 1) rfl ?_)
      refine ⟨_, rfl, iteF ?_⟩
      refine ⟨_, rfl, a, _, _, _, _, rfl, ha1, hC, (fun _ z => z), T.err.v _ hx, _, rfl, iteF ?_⟩
      exact ⟨_, rfl, l, _, _, _, rfl, rfl, SqL.of upd_same, rfl, k _ ((Kp.new hl).late hl)⟩
    · have hx : ("NoPlace" : Str) ∈ errNames.map (·.1) := by decide
      have hC := T.err.c _ hx
      have kNoRing : PySem.W.kitOne K (.ref (He.ga K "NoPlace")) (.ref (He.ga K "NoRing")) = some false := (T.err.k _ hx "NoRing" (by decide)).trans (by decide)
      have kNoMany : PySem.W.kitOne K (.ref (He.ga K "NoPlace")) (.ref (He.ga K "NoMany")) = some false := (T.err.k _ hx "NoMany" (by decide)).trans (by decide)
      have kNoStep : PySem.W.kitOne K (.ref (He.ga K "NoPlace")) (.ref (He.ga K "NoStep")) = some false := (T.err.k _ hx "NoStep" (by decide)).trans (by decide)
      have kNoPlace : PySem.W.kitOne K (.ref (He.ga K "NoPlace")) (.ref (He.ga K "NoPlace")) = some true := (T.err.k _ hx "NoPlace" (by decide)).trans (by decide)
      have kNoCount : PySem.W.kitOne K (.ref (He.ga K "NoPlace")) (.ref (He.ga K "NoCount")) = some false := (T.err.k _ hx "NoCount" (by decide)).trans (by decide)
      have kNoHand : PySem.W.kitOne K (.ref (He.ga K "NoPlace")) (.ref (He.ga K "NoHand")) = some false := (T.err.k _ hx "NoHand" (by decide)).trans (by decide)
      have kTwiceTold : PySem.W.kitOne K (.ref (He.ga K "NoPlace")) (.ref (He.ga K "TwiceTold")) = some false := (T.err.k _ hx "TwiceTold" (by decide)).trans (by decide)
      have kTooMany : PySem.W.kitOne K (.ref (He.ga K "NoPlace")) (.ref (He.ga K "TooMany")) = some false := (T.err.k _ hx "TooMany" (by decide)).trans (by decide)
      refine ⟨_, rfl, a, _, _, _, _, rfl, ha, hC, (fun _ z => z), kNoRing, _, rfl, iteF ?_⟩
      refine ⟨_, rfl, a, _, _, _, _, rfl, ha, hC, (fun _ z => z), kNoMany, _, rfl, iteF ?_⟩
      refine ⟨_, rfl, a, _, _, _, _, rfl, ha, hC, (fun _ z => z), kNoStep, _, rfl, iteF ?_⟩
      refine ⟨_, rfl, a, _, _, _, _, rfl, ha, hC, (fun _ z => z), kNoPlace, _, rfl, ?_⟩
      refine iteT ⟨_, rfl, .inl ⟨rfl, _, SqL.of h0⟩, l, _, _, rfl, rfl, h0, szl 0 (by decide), ?_⟩
      have ha1 : upd (upd H l (.lst [])) l (.lst ([] ++ [.str "place"])) a = some (ExA (.ref (He.ga K "NoPlace")) a) := by rw [upd_ne nal]; exact ha
      refine ⟨_, rfl, a, _, _, _, _, rfl, ha1, hC, (fun _ z => z), kNoCount, _, rfl, iteF ?_⟩
      refine ⟨_, rfl, a, _, _, _, _, rfl, ha1, hC, (fun _ z => z), kNoHand, _, rfl, iteF ?_⟩
      refine ⟨_, rfl, a, _, _, _, _, rfl, ha1, hC, (fun _ z => z), kTwiceTold, _, rfl, iteF ?_⟩
      refine ⟨_, rfl, a, _, _, _, _, rfl, ha1, hC, (fun _ z => z), kTooMany, _, rfl, iteF ?_⟩
      refine ⟨_, rfl, l, [.str "place"], rfl, .inl (SqL.of upd_same), ?_⟩
      refine c_ (ne_same (x := .int 1) rfl ?_)
      refine ⟨_, rfl, iteF ?_⟩
      refine ⟨_, rfl, a, _, _, _, _, rfl, ha1, hC, (fun _ z => z), T.err.v _ hx, _, rfl, iteF ?_⟩
      exact ⟨_, rfl, l, _, _, _, rfl, rfl, SqL.of upd_same, rfl, k _ ((Kp.new hl).late hl)⟩
    · have hx : ("NoCount" : Str) ∈ errNames.map (·.1) := by decide
      have hC := T.err.c _ hx
      have kNoRing : PySem.W.kitOne K (.ref (He.ga K "NoCount")) (.ref (He.ga K "NoRing")) = some false := (T.err.k _ hx "NoRing" (by decide)).trans (by decide)
      have kNoMany : PySem.W.kitOne K (.ref (He.ga K "NoCount")) (.ref (He.ga K "NoMany")) = some false := (T.err.k _ hx "NoMany" (by decide)).trans (by decide)
      have kNoStep : PySem.W.kitOne K (.ref (He.ga K "NoCount")) (.ref (He.ga K "NoStep")) = some false := (T.err.k _ hx "NoStep" (by decide)).trans (by decide)
      have kNoPlace : PySem.W.kitOne K (.ref (He.ga K "NoCount")) (.ref (He.ga K "NoPlace")) = some false := (T.err.k _ hx "NoPlace" (by decide)).trans (by decide)
      have kNoCount : PySem.W.kitOne K (.ref (He.ga K "NoCount")) (.ref (He.ga K "NoCount")) = some true := (T.err.k _ hx "NoCount" (by decide)).trans (by decide)
      have kNoHand : PySem.W.kitOne K (.ref (He.ga K "NoCount")) (.ref (He.ga K "NoHand")) = some false := (T.err.k _ hx "NoHand" (by decide)).trans (by decide)
      have kTwiceTold : PySem.W.kitOne K (.ref (He.ga K "NoCount")) (.ref (He.ga K "TwiceTold")) = some false := (T.err.k _ hx "TwiceTold" (by decide)).trans (by decide)
      have kTooMany : PySem.W.kitOne K (.ref (He.ga K "NoCount")) (.ref (He.ga K "TooMany")) = some false := (T.err.k _ hx "TooMany" (by decide)).trans (by decide)
      refine ⟨_, rfl, a, _, _, _, _, rfl, ha, hC, (fun _ z => z), kNoRing, _, rfl, iteF ?_⟩
      refine ⟨_, rfl, a, _, _, _, _, rfl, ha, hC, (fun _ z => z), kNoMany, _, rfl, iteF ?_⟩
      refine ⟨_, rfl, a, _, _, _, _, rfl, ha, hC, (fun _ z => z), kNoStep, _, rfl, iteF ?_⟩
      refine ⟨_, rfl, a, _, _, _, _, rfl, ha, hC, (fun _ z => z), kNoPlace, _, rfl, iteF ?_⟩
      refine ⟨_, rfl, a, _, _, _, _, rfl, ha, hC, (fun _ z => z), kNoCount, _, rfl, ?_⟩
      refine iteT ⟨_, rfl, .inl ⟨rfl, _, SqL.of h0⟩, l, _, _, rfl, rfl, h0, szl 0 (by decide), ?_⟩
      have ha1 : upd (upd H l (.lst [])) l (.lst ([] ++ [.str "count"])) a = some (ExA (.ref (He.ga K "NoCount")) a) := by rw [upd_ne nal]; exact ha
      refine ⟨_, rfl, a, _, _, _, _, rfl, ha1, hC, (fun _ z => z), kNoHand, _, rfl, iteF ?_⟩
      refine ⟨_, rfl, a, _, _, _, _, rfl, ha1, hC, (fun _ z => z), kTwiceTold, _, rfl, iteF ?_⟩
      refine ⟨_, rfl, a, _, _, _, _, rfl, ha1, hC, (fun _ z => z), kTooMany, _, rfl, iteF ?_⟩
      refine ⟨_, rfl, l, [.str "count"], rfl, .inl (SqL.of upd_same), ?_⟩
      refine c_ (ne_same (x := .int 1) rfl ?_)
      refine ⟨_, rfl, iteF ?_⟩
      refine ⟨_, rfl, a, _, _, _, _, rfl, ha1, hC, (fun _ z => z), T.err.v _ hx, _, rfl, iteF ?_⟩
      exact ⟨_, rfl, l, _, _, _, rfl, rfl, SqL.of upd_same, rfl, k _ ((Kp.new hl).late hl)⟩
    · have hx : ("NoHand" : Str) ∈ errNames.map (·.1) := by decide
      have hC := T.err.c _ hx
      have kNoRing : PySem.W.kitOne K (.ref (He.ga K "NoHand")) (.ref (He.ga K "NoRing")) = some false := (T.err.k _ hx "NoRing" (by decide)).trans (by decide)
      have kNoMany : PySem.W.kitOne K (.ref (He.ga K "NoHand")) (.ref (He.ga K "NoMany")) = some false := (T.err.k _ hx "NoMany" (by decide)).trans (by decide)
      have kNoStep : PySem.W.kitOne K (.ref (He.ga K "NoHand")) (.ref (He.ga K "NoStep")) = some false := (T.err.k _ hx "NoStep" (by decide)).trans (by decide)
      have kNoPlace : PySem.W.kitOne K (.ref (He.ga K "NoHand")) (.ref (He.ga K "NoPlace")) = some false := (T.err.k _ hx "NoPlace" (by decide)).trans (by decide)
      have kNoCount : PySem.W.kitOne K (.ref (He.ga K "NoHand")) (.ref (He.ga K "NoCount")) = some false := (T.err.k _ hx "NoCount" (by decide)).trans (by decide)
      have kNoHand : PySem.W.kitOne K (.ref (He.ga K "NoHand")) (.ref (He.ga K "NoHand")) = some true := (T.err.k _ hx "NoHand" (by decide)).trans (by decide)
      have kTwiceTold : PySem.W.kitOne K (.ref (He.ga K "NoHand")) (.ref (He.ga K "TwiceTold")) = some false := (T.err.k _ hx "TwiceTold" (by decide)).trans (by decide)
      have kTooMany : PySem.W.kitOne K (.ref (He.ga K "NoHand")) (.ref (He.ga K "TooMany")) = some false := (T.err.k _ hx "TooMany" (by decide)).trans (by decide)
      refine ⟨_, rfl, a, _, _, _, _, rfl, ha, hC, (fun _ z => z), kNoRing, _, rfl, iteF ?_⟩
      refine ⟨_, rfl, a, _, _, _, _, rfl, ha, hC, (fun _ z => z), kNoMany, _, rfl, iteF ?_⟩
      refine ⟨_, rfl, a, _, _, _, _, rfl, ha, hC, (fun _ z => z), kNoStep, _, rfl, iteF ?_⟩
      refine ⟨_, rfl, a, _, _, _, _, rfl, ha, hC, (fun _ z => z), kNoPlace, _, rfl, iteF ?_⟩
      refine ⟨_, rfl, a, _, _, _, _, rfl, ha, hC, (fun _ z => z), kNoCount, _, rfl, iteF ?_⟩
      refine ⟨_, rfl, a, _, _, _, _, rfl, ha, hC, (fun _ z => z), kNoHand, _, rfl, ?_⟩
      refine iteT ⟨_, rfl, .inl ⟨rfl, _, SqL.of h0⟩, l, _, _, rfl, rfl, h0, szl 0 (by decide), ?_⟩
      have ha1 : upd (upd H l (.lst [])) l (.lst ([] ++ [.str "hand"])) a = some (ExA (.ref (He.ga K "NoHand")) a) := by rw [upd_ne nal]; exact ha
      refine ⟨_, rfl, a, _, _, _, _, rfl, ha1, hC, (fun _ z => z), kTwiceTold, _, rfl, iteF ?_⟩
      refine ⟨_, rfl, a, _, _, _, _, rfl, ha1, hC, (fun _ z => z), kTooMany, _, rfl, iteF ?_⟩
      refine ⟨_, rfl, l, [.str "hand"], rfl, .inl (SqL.of upd_same), ?_⟩
      refine c_ (ne_same (x := .int 1) rfl ?_)
      refine ⟨_, rfl, iteF ?_⟩
      refine ⟨_, rfl, a, _, _, _, _, rfl, ha1, hC, (fun _ z => z), T.err.v _ hx, _, rfl, iteF ?_⟩
      exact ⟨_, rfl, l, _, _, _, rfl, rfl, SqL.of upd_same, rfl, k _ ((Kp.new hl).late hl)⟩
    · have hx : ("TwiceTold" : Str) ∈ errNames.map (·.1) := by decide
      have hC := T.err.c _ hx
      have kNoRing : PySem.W.kitOne K (.ref (He.ga K "TwiceTold")) (.ref (He.ga K "NoRing")) = some false := (T.err.k _ hx "NoRing" (by decide)).trans (by decide)
      have kNoMany : PySem.W.kitOne K (.ref (He.ga K "TwiceTold")) (.ref (He.ga K "NoMany")) = some false := (T.err.k _ hx "NoMany" (by decide)).trans (by decide)
      have kNoStep : PySem.W.kitOne K (.ref (He.ga K "TwiceTold")) (.ref (He.ga K "NoStep")) = some false := (T.err.k _ hx "NoStep" (by decide)).trans (by decide)
      have kNoPlace : PySem.W.kitOne K (.ref (He.ga K "TwiceTold")) (.ref (He.ga K "NoPlace")) = some false := (T.err.k _ hx "NoPlace" (by decide)).trans (by decide)
      have kNoCount : PySem.W.kitOne K (.ref (He.ga K "TwiceTold")) (.ref (He.ga K "NoCount")) = some false := (T.err.k _ hx "NoCount" (by decide)).trans (by decide)
      have kNoHand : PySem.W.kitOne K (.ref (He.ga K "TwiceTold")) (.ref (He.ga K "NoHand")) = some false := (T.err.k _ hx "NoHand" (by decide)).trans (by decide)
      have kTwiceTold : PySem.W.kitOne K (.ref (He.ga K "TwiceTold")) (.ref (He.ga K "TwiceTold")) = some true := (T.err.k _ hx "TwiceTold" (by decide)).trans (by decide)
      have kTooMany : PySem.W.kitOne K (.ref (He.ga K "TwiceTold")) (.ref (He.ga K "TooMany")) = some false := (T.err.k _ hx "TooMany" (by decide)).trans (by decide)
      refine ⟨_, rfl, a, _, _, _, _, rfl, ha, hC, (fun _ z => z), kNoRing, _, rfl, iteF ?_⟩
      refine ⟨_, rfl, a, _, _, _, _, rfl, ha, hC, (fun _ z => z), kNoMany, _, rfl, iteF ?_⟩
      refine ⟨_, rfl, a, _, _, _, _, rfl, ha, hC, (fun _ z => z), kNoStep, _, rfl, iteF ?_⟩
      refine ⟨_, rfl, a, _, _, _, _, rfl, ha, hC, (fun _ z => z), kNoPlace, _, rfl, iteF ?_⟩
      refine ⟨_, rfl, a, _, _, _, _, rfl, ha, hC, (fun _ z => z), kNoCount, _, rfl, iteF ?_⟩
      refine ⟨_, rfl, a, _, _, _, _, rfl, ha, hC, (fun _ z => z), kNoHand, _, rfl, iteF ?_⟩
      refine ⟨_, rfl, a, _, _, _, _, rfl, ha, hC, (fun _ z => z), kTwiceTold, _, rfl, ?_⟩
      refine iteT ⟨_, rfl, .inl ⟨rfl, _, SqL.of h0⟩, l, _, _, rfl, rfl, h0, szl 0 (by decide), ?_⟩
      have ha1 : upd (upd H l (.lst [])) l (.lst ([] ++ [.str "twice"])) a = some (ExA (.ref (He.ga K "TwiceTold")) a) := by rw [upd_ne nal]; exact ha
      refine ⟨_, rfl, a, _, _, _, _, rfl, ha1, hC, (fun _ z => z), kTooMany, _, rfl, iteF ?_⟩
      refine ⟨_, rfl, l, [.str "twice"], rfl, .inl (SqL.of upd_same), ?_⟩
      refine c_ (ne_same (x := .int 1) rfl ?_)
      refine ⟨_, rfl, iteF ?_⟩
      refine ⟨_, rfl, a, _, _, _, _, rfl, ha1, hC, (fun _ z => z), T.err.v _ hx, _, rfl, iteF ?_⟩
      exact ⟨_, rfl, l, _, _, _, rfl, rfl, SqL.of upd_same, rfl, k _ ((Kp.new hl).late hl)⟩
    · have hx : ("TooMany" : Str) ∈ errNames.map (·.1) := by decide
      have hC := T.err.c _ hx
      have kNoRing : PySem.W.kitOne K (.ref (He.ga K "TooMany")) (.ref (He.ga K "NoRing")) = some false := (T.err.k _ hx "NoRing" (by decide)).trans (by decide)
      have kNoMany : PySem.W.kitOne K (.ref (He.ga K "TooMany")) (.ref (He.ga K "NoMany")) = some false := (T.err.k _ hx "NoMany" (by decide)).trans (by decide)
      have kNoStep : PySem.W.kitOne K (.ref (He.ga K "TooMany")) (.ref (He.ga K "NoStep")) = some false := (T.err.k _ hx "NoStep" (by decide)).trans (by decide)
      have kNoPlace : PySem.W.kitOne K (.ref (He.ga K "TooMany")) (.ref (He.ga K "NoPlace")) = some false := (T.err.k _ hx "NoPlace" (by decide)).trans (by decide)
      have kNoCount : PySem.W.kitOne K (.ref (He.ga K "TooMany")) (.ref (He.ga K "NoCount")) = some false := (T.err.k _ hx "NoCount" (by decide)).trans (by decide)
      have kNoHand : PySem.W.kitOne K (.ref (He.ga K "TooMany")) (.ref (He.ga K "NoHand")) = some false := (T.err.k _ hx "NoHand" (by decide)).trans (by decide)
      have kTwiceTold : PySem.W.kitOne K (.ref (He.ga K "TooMany")) (.ref (He.ga K "TwiceTold")) = some false := (T.err.k _ hx "TwiceTold" (by decide)).trans (by decide)
      have kTooMany : PySem.W.kitOne K (.ref (He.ga K "TooMany")) (.ref (He.ga K "TooMany")) = some true := (T.err.k _ hx "TooMany" (by decide)).trans (by decide)
      refine ⟨_, rfl, a, _, _, _, _, rfl, ha, hC, (fun _ z => z), kNoRing, _, rfl, iteF ?_⟩
      refine ⟨_, rfl, a, _, _, _, _, rfl, ha, hC, (fun _ z => z), kNoMany, _, rfl, iteF ?_⟩
      refine ⟨_, rfl, a, _, _, _, _, rfl, ha, hC, (fun _ z => z), kNoStep, _, rfl, iteF ?_⟩
      refine ⟨_, rfl, a, _, _, _, _, rfl, ha, hC, (fun _ z => z), kNoPlace, _, rfl, iteF ?_⟩
      refine ⟨_, rfl, a, _, _, _, _, rfl, ha, hC, (fun _ z => z), kNoCount, _, rfl, iteF ?_⟩
      refine ⟨_, rfl, a, _, _, _, _, rfl, ha, hC, (fun _ z => z), kNoHand, _, rfl, iteF ?_⟩
      refine ⟨_, rfl, a, _, _, _, _, rfl, ha, hC, (fun _ z => z), kTwiceTold, _, rfl, iteF ?_⟩
      refine ⟨_, rfl, a, _, _, _, _, rfl, ha, hC, (fun _ z => z), kTooMany, _, rfl, ?_⟩
      refine iteT ⟨_, rfl, .inl ⟨rfl, _, SqL.of h0⟩, l, _, _, rfl, rfl, h0, szl 0 (by decide), ?_⟩
      have ha1 : upd (upd H l (.lst [])) l (.lst ([] ++ [.str "much"])) a = some (ExA (.ref (He.ga K "TooMany")) a) := by rw [upd_ne nal]; exact ha
      refine ⟨_, rfl, l, [.str "much"], rfl, .inl (SqL.of upd_same), ?_⟩
      refine c_ (ne_same (x := .int 1) rfl ?_)
      refine ⟨_, rfl, iteF ?_⟩
      refine ⟨_, rfl, a, _, _, _, _, rfl, ha1, hC, (fun _ z => z), T.err.v _ hx, _, rfl, iteF ?_⟩
      exact ⟨_, rfl, l, _, _, _, rfl, rfl, SqL.of upd_same, rfl, k _ ((Kp.new hl).late hl)⟩
end
end Lz
namespace Lz
open PySem PySem.Spec PyProof.Rows L2
abbrev s__law_told : Stmt := top 34
def spTold1 (K : PySem.W.Frag) : Sp := fun vs H Q _ => ∃ x y z : V, vs = [x, y, z] ∧ spRowOut K [x, y, z] H Q (EE K Q)
section
variable {P : Program} {w : World} {K : PySem.W.Frag} {mg : Str → Option Value} {base : Heap}
theorem sc__law_told : FnScope ["_law_hands_here", "_law_step_here", "_law_begin", "_law_e", "_law_error_here"] ["_law_hands_here", "_law_step_here", "_law_begin"] (defScope s__law_told) := ⟨rfl, rfl, rfl, by decide +kernel, rfl, by decide +kernel, by decide +kernel⟩
theorem ok__law_told {f : Addr} {fd : FuncData} (F : FnP K "_law_told" "_law_told" s__law_told [] f fd) (T : Txt K mg) (G_row_out : FnAt P w K mg base (CXr P w) 3 "row_out" ["hands", "step", "begin"] [] (spRowOut K)) (G__law_error : FnAt P w K mg base CX0 1 "_law_error" ["_law_e"] [] (spErr K)) :
    FnOk P w K mg base CX0 4 f fd ["_law_hands_here", "_law_step_here", "_law_begin"] (spTold1 K) := by
  have S := sc__law_told
  refine F.ok S (fun vs H Q E h => ?_) (fun cdv A outer s H vs Q E hr h => ?_)
  · obtain ⟨x, y, z, rfl, _⟩ := h
    rfl
  · obtain ⟨x, y, z, rfl, h⟩ := h
    refine ⟨_, PSs.nox (pss_cons (ps_try_keep (i := 3) rfl rfl rfl S.nd rfl rfl ⟨rfl, by decide, .inl T.g_CountError⟩ (fun W pn xe tk => (pss_one (ps_ret (pe_fn (weakF G_row_out) (hr.mono (by decide)) (passT (N := ["_law_hands_here", "_law_step_here", "_law_begin", "_law_e", "_law_error_here"]) tk) (pa_cons (pv 0) (pa_cons (pv 1) (pa_cons (pv 2) pa_nil))))))) (fun a oe cls d pn => (pss_one (ps_set (i := 4) S.nd rfl (Or.inl rfl) (pv 3))))) (pss_one (ps_ret (pe_fn G__law_error (hr.mono (by decide)) pass0 (pa_cons (pv 4) pa_nil))))), ?_⟩
    refine ⟨_, rfl, _, rfl, _, rfl, EE K Q, h, fun cls d G he σ hσ => ?_⟩
    obtain ⟨rfl, w1, wd, hm, rfl, kk⟩ := he
    refine ⟨T.err.m w1 (List.mem_map.mpr ⟨_, hm, rfl⟩), rfl, fun a ha => ?_⟩
    match σ, hσ with
    | [_, _, _, _, _], _ => exact ⟨_, rfl, fun ha' => ⟨_, rfl, a, w1, wd, rfl, hm, upd_same, fun H2 k2 => kk H2 ((Kp.new ha').trans k2)⟩⟩
end
end Lz
namespace Lz
open PySem PySem.Spec PyProof.Rows L2
abbrev s_law : Stmt := top 35
def spLaw (K : PySem.W.Frag) : Sp := fun vs H Q _ => ∃ (a : Addr) (ns : List Int), vs = [.ref a] ∧ SqL K H a (ns.map V.int) ∧ ns.length ≤ 63 ∧ ∀ H', Q (.bl true) H'
section
variable {K : PySem.W.Frag} {x y z : V} {zs : List Str} {s : Nat} {H : Hp} {Q : VK} {E : XK}
theorem told1_ring (h : OddV K H x) (k : ∀ H', Kp [] H H' → Q (.str "ring") H') : spTold1 K [x, y, z] H Q E :=
  ⟨x, y, z, rfl, _, _, _, rfl, .inl ⟨h, fun H1 k1 => ⟨rfl, "NoRing", "ring", by simp [errNames], rfl, fun H2 k2 => k H2 (k1.trans k2)⟩⟩⟩
theorem told1_step (w : RowV H x zs) (hn : zs.Nodup) (h : OutK K H 1 (10 ^ 60) y) (k : ∀ H', Kp [] H H' → Q (.str "step") H') : spTold1 K [x, y, z] H Q E :=
  ⟨x, y, z, rfl, _, _, _, rfl, .inr ⟨zs, w, hn, .inl ⟨h, fun H1 k1 => ⟨rfl, "NoStep", "step", by simp [errNames], rfl, fun H2 k2 => k H2 (k1.trans k2)⟩⟩⟩⟩
theorem told1_place (w : RowV H x zs) (hn : zs.Nodup) (s1 : 1 ≤ s) (s2 : (s : Int) ≤ 10 ^ 60) (h : OutK K H 0 ((zs.length : Int) - 1) z) (k : ∀ H', Kp [] H H' → Q (.str "place") H') : spTold1 K [x, .int s, z] H Q E :=
  ⟨x, _, z, rfl, _, _, _, rfl, .inr ⟨zs, w, hn, .inr ⟨s, rfl, s1, s2, .inl ⟨h, fun H1 k1 => ⟨rfl, "NoPlace", "place", by simp [errNames], rfl, fun H2 k2 => k H2 (k1.trans k2)⟩⟩⟩⟩⟩
end
section
variable {P : Program} {w : World} {K : PySem.W.Frag} {mg : Str → Option Value} {base : Heap}
theorem sc_law : FnScope ["_law_script", "_law_state_here", "_law_many", "_law_hands_here", "_law_held", "_law_step_here", "_law_begin", "_law_due", "_law_found", "_law_odd_here", "_law_bad", "_law_off", "_law_told_here"] ["_law_script"] (defScope s_law) := ⟨rfl, rfl, rfl, by decide +kernel, rfl, by decide +kernel, by decide +kernel⟩
theorem ok_law {f : Addr} {fd : FuncData} (F : FnP K "law" "law" s_law [] f fd) (T : Txt K mg) (G__law_state : FnAt P w K mg base CX0 2 "_law_state" ["_law_script", "_law_first"] [] (spState K)) (G__law_of : FnAt P w K mg base CX0 2 "_law_of" ["_law_state_here", "_law_some"] [] (spOf K)) (G__law_next : FnAt P w K mg base CX0 1 "_law_next" ["_law_state_here"] [] spNext) (G__law_cell_at : FnAt P w K mg base CX0 1 "_law_cell_at" ["_law_script", "_law_k"] [] (spCell K)) (G__law_hands : FnAt P w K mg base CX0 3 "_law_hands" ["_law_state_here", "_law_many"] [] (spHands K)) (G__law_step : FnAt P w K mg base CX0 3 "_law_step" ["_law_state_here", "_law_most"] [] (spStep K)) (G__law_far : FnAt P w K mg base CX0 2 "_law_far" ["_law_state_here", "_law_many"] [] spFar) (G__law_out : FnAt P w K mg base CX0 1 "_law_out" ["_law_row", "_law_step_here"] [] (spOut K)) (G__law_turned : FnAt P w K mg base CX0 1 "_law_turned" ["_law_row", "_law_many"] [] (spTurned K)) (G_row_out : FnAt P w K mg base (CXr P w) 3 "row_out" ["hands", "step", "begin"] [] (spRowOut K)) (G_is_ring : FnAt P w K mg base CX0 1 "is_ring" ["thing"] [] (spIsRing K)) (G_row_out_d : FnAt P w K mg base (CXr P w) 3 "row_out" ["hands", "step", "begin"] [V.int (0)] (spRowOut K)) (G__law_odd : FnAt P w K mg base CX0 1 "_law_odd" ["_law_cell"] [] (spOdd K)) (G__law_told : FnAt P w K mg base CX0 4 "_law_told" ["_law_hands_here", "_law_step_here", "_law_begin"] [] (spTold1 K)) :
    FnOk P w K mg base CX0 5 f fd ["_law_script"] (spLaw K) := by
  have S := sc_law
  refine F.ok S (fun vs H Q E h => ?_) (fun cdv A outer s H vs Q E hr h => ?_)
  · obtain ⟨a, ns, rfl, _⟩ := h
    rfl
  · obtain ⟨a, ns, rfl, hS, hlen, hQ⟩ := h
    refine ⟨_, PSs.nox (pss_cons (ps_set (i := 1) S.nd rfl (Or.inl rfl) (pe_fn G__law_state (hr.mono (by decide)) pass0 (pa_cons (pv 0) (pa_cons pe_int pa_nil)))) (pss_cons (ps_set (i := 2) S.nd rfl (Or.inl rfl) (pe_fn G__law_of (hr.mono (by decide)) pass0 (pa_cons (pv 1) (pa_cons (pe_lst (pa_cons pe_int (pa_cons pe_int (pa_cons (pe_op op_add pe_int (pe_op op_mod (pe_fn G__law_next (hr.mono (by decide)) pass0 (pa_cons (pv 1) pa_nil)) pe_int)) pa_nil)))) pa_nil)))) (C8.pss_cut (ps_if (pt_cmpR op_eq (pe_op op_mod (pe_fn G__law_cell_at (hr.mono (by decide)) pass0 (pa_cons (pv 0) (pa_cons pe_int pa_nil))) pe_int) pe_int (nomark _)) (pss_one (ps_set (i := 2) S.nd rfl (Or.inl rfl) (pe_op op_sub pe_int (pe_op op_mod (pe_op op_fdiv (pe_fn G__law_cell_at (hr.mono (by decide)) pass0 (pa_cons (pv 0) (pa_cons pe_int pa_nil))) pe_int) pe_int)))) pss_nil) (pss_cons (ps_set (i := 3) S.nd rfl (Or.inl rfl) (pe_fn G__law_hands (hr.mono (by decide)) pass0 (pa_cons (pv 1) (pa_cons (pv 2) pa_nil)))) (pss_cons (ps_set (i := 4) S.nd rfl (Or.inl rfl) (pe_callTy call_list_of (by rfl) T.b_list (by decide +kernel) (pa_cons (pv 3) pa_nil))) (pss_cons (ps_set (i := 5) S.nd rfl (Or.inl rfl) (pe_fn G__law_of (hr.mono (by decide)) pass0 (pa_cons (pv 1) (pa_cons (pe_lst (pa_cons (pe_fn G__law_step (hr.mono (by decide)) pass0 (pa_cons (pv 1) (pa_cons pe_int pa_nil))) (pa_cons (pe_op op_pow pe_int pe_int) (pa_cons (pe_op op_add pe_int (pe_fn G__law_far (hr.mono (by decide)) pass0 (pa_cons (pv 1) (pa_cons (pe_op op_pow pe_int pe_int) pa_nil)))) pa_nil)))) pa_nil)))) (pss_cons (ps_set (i := 6) S.nd rfl (Or.inl rfl) (pe_fn G__law_of (hr.mono (by decide)) pass0 (pa_cons (pv 1) (pa_cons (pe_lst (pa_cons pe_int (pa_cons (pe_op op_sub (pv 2) pe_int) (pa_cons (pe_op op_mod (pe_fn G__law_next (hr.mono (by decide)) pass0 (pa_cons (pv 1) pa_nil)) (pv 2)) pa_nil)))) pa_nil)))) (pss_cons (ps_set (i := 7) S.nd rfl (Or.inl rfl) (pe_fn G__law_out (hr.mono (by decide)) pass0 (pa_cons (pe_fn G__law_turned (hr.mono (by decide)) pass0 (pa_cons (pv 4) (pa_cons (pv 6) pa_nil))) (pa_cons (pv 5) pa_nil)))) (pss_cons (ps_set (i := 8) S.nd rfl (Or.inl rfl) (pe_fn G_row_out (hr.mono (by decide)) passL (pa_cons (pv 3) (pa_cons (pv 5) (pa_cons (pv 6) pa_nil))))) (pss_cons (ps_if (PW.pt (pw_or (pt_cmpR op_notB (pe_fn G_is_ring (hr.mono (by decide)) pass0 (pa_cons (pv 3) pa_nil)) pe_bl (nomark _)) (pw_or (pt_not (pt_val (pe_callB call_isi (by rfl) T.b_isinstance (by decide +kernel) (pa_cons (pv 8) (pa_cons (pe_bltn (v := .ty "list") (by rfl) T.b_list (by decide +kernel) rfl) pa_nil))))) (pw_or (pt_cmpR (op_neD hr.units) (pv 8) (pv 7) (nomark _)) (pw_or1 (pt_cmpR (op_neD hr.units) (pv 3) (pv 4) (nomark _))))))) (pss_one (ps_ret pe_bl)) pss_nil) (pss_cons (ps_expr (pe_bm PySem.F.plainAttrs_list PySem.F.slot_list_append PySem.F.type_list_append mt_append (pv 8) (pa_cons pe_str pa_nil))) (pss_cons (ps_if (PW.pt (pw_or (pt_cmpR (op_neD hr.units) (pe_fn G_row_out (hr.mono (by decide)) passL (pa_cons (pv 3) (pa_cons (pv 5) (pa_cons (pv 6) pa_nil)))) (pv 7) (nomark _)) (pw_or1 (pt_cmpR (op_neD hr.units) (pe_fn G_row_out_d (hr.mono (by decide)) passL (pa_cons (pv 3) (pa_cons (pv 5) pa_nil))) (pe_fn G__law_out (hr.mono (by decide)) pass0 (pa_cons (pv 4) (pa_cons (pv 5) pa_nil))) (nomark _))))) (pss_one (ps_ret pe_bl)) pss_nil) (pss_cons (ps_set (i := 9) S.nd rfl (Or.inl rfl) (pe_fn G__law_odd (hr.mono (by decide)) pass0 (pa_cons (pe_fn G__law_cell_at (hr.mono (by decide)) pass0 (pa_cons (pv 0) (pa_cons pe_int pa_nil))) pa_nil))) (pss_cons (ps_set (i := 10) S.nd rfl (Or.inl rfl) (pe_fn G__law_of (hr.mono (by decide)) pass0 (pa_cons (pv 1) (pa_cons (pe_lst (pa_cons pe_int (pa_cons (pe_un un_neg pe_int) (pa_cons pe_non (pa_cons pe_bl (pa_cons pe_str (pa_cons (pe_op op_add (pe_op op_pow pe_int pe_int) pe_int) pa_nil))))))) pa_nil)))) (pss_cons (ps_set (i := 11) S.nd rfl (Or.inl rfl) (pe_fn G__law_of (hr.mono (by decide)) pass0 (pa_cons (pv 1) (pa_cons (pe_lst (pa_cons (pv 2) (pa_cons (pe_un un_neg pe_int) (pa_cons pe_non (pa_cons pe_bl (pa_cons pe_str (pa_cons (pe_op op_pow pe_int pe_int) pa_nil))))))) pa_nil)))) (pss_cons (ps_set (i := 12) S.nd rfl (Or.inl rfl) (pe_lst (pa_cons (pe_fn G__law_told (hr.mono (by decide)) pass0 (pa_cons (pv 9) (pa_cons (pv 10) (pa_cons (pv 11) pa_nil)))) (pa_cons (pe_fn G__law_told (hr.mono (by decide)) pass0 (pa_cons (pv 9) (pa_cons pe_int (pa_cons pe_int pa_nil)))) (pa_cons (pe_fn G__law_told (hr.mono (by decide)) pass0 (pa_cons (pv 3) (pa_cons (pv 10) (pa_cons (pv 11) pa_nil)))) (pa_cons (pe_fn G__law_told (hr.mono (by decide)) pass0 (pa_cons (pv 3) (pa_cons (pv 5) (pa_cons (pv 11) pa_nil)))) pa_nil)))))) (pss_one (ps_ret (pe_and (pe_cmpR op_isB (pe_fn G_is_ring (hr.mono (by decide)) pass0 (pa_cons (pv 9) pa_nil)) pe_bl (nomark _)) (pe_and (pe_cmpR (op_eqD hr.units) (pv 12) (pe_lst (pa_cons pe_str (pa_cons pe_str (pa_cons pe_str (pa_cons pe_str pa_nil))))) (nomark _)) (pe_one (pe_cmpR (op_eqD hr.units) (pv 3) (pv 4) (nomark _))))))))))))))))))))))), ?_⟩
    refine ⟨_, rfl, a, ns, 0, rfl, hS, by decide, fun st H1 hst k1 t1 => ?_⟩
    have T1 : Drew st H H1 := ⟨k1.mono (by simp), t1⟩
    -- many
    refine ⟨_, rfl, _, rfl, st, rfl, t1, fun H2 r2 d2 _ _ => ?_⟩
    refine ⟨_, _, rfl, rfl, by show (0 : Int) < _; decide, _, _, rfl, rfl, sz 3 (by decide), fun p hp => ?_⟩
    refine ⟨st, _, rfl, d2.2.new hp, .inl ⟨p, _, rfl, SqL.of upd_same, by simp, d2.2.fresh hp, fun H3 v hv d3 => ?_⟩⟩
    have T3 := ((T1.trans d2).new hp).trans d3
    obtain ⟨m, rfl, m1, m2⟩ : ∃ n : Nat, v = .int n ∧ 1 ≤ n ∧ n ≤ 30 := by
      simp only [List.mem_cons, List.not_mem_nil, or_false] at hv
      rcases hv with rfl | rfl | rfl
      · exact ⟨1, rfl, by omega, by omega⟩
      · exact ⟨2, rfl, by omega, by omega⟩
      · exact ⟨(1 + r2 % 30).toNat, congrArg V.int (by omega), by omega, by omega⟩
    refine ⟨fun σ' H' => ∃ n : Nat, 1 ≤ n ∧ n ≤ 200 ∧ σ' = [some (.ref a), some (.ref st), some (.int n), none, none, none, none, none, none, none, none, none, none] ∧ Drew st H H', ?_, ?_⟩
    · refine ⟨_, rfl, a, ns, 2, rfl, T3.lst0 hS hst, by decide, fun z => ?_⟩
      refine ⟨_, _, rfl, rfl, by show (0 : Int) < _; decide, rfl, _, rfl, ite2 (fun _ => ?_) (fun _ => ?_)⟩
      · refine ⟨_, rfl, a, ns, 2, rfl, T3.lst0 hS hst, by decide, fun y => ?_⟩
        refine ⟨_, _, rfl, rfl, ⟨by decide, by decide⟩, _, _, rfl, rfl, by show (0 : Int) < _; decide, _, _, rfl, rfl, ?_⟩
        obtain ⟨q, hq⟩ := Int.eq_ofNat_of_zero_le (show 0 ≤ 200 - y / 16 % 3 by omega)
        refine set_eq (y := .int q) (congrArg V.int hq) ?_
        exact ⟨q, by omega, by omega, rfl, T3⟩
      · exact ⟨m, m1, by omega, rfl, T3⟩
    rintro σ' H4 ⟨n, n1, n2, rfl, T4⟩
    -- hands, held
    refine ⟨_, rfl, _, rfl, st, n, rfl, T4.2, n1, n2, fun hd zs H5 lz nz gz d5 hhd e5 => ?_⟩
    have T5 := T4.trans d5
    have nhd : hd ≠ st := T4.2.fresh hhd
    refine ⟨_, rfl, hd, _, rfl, .inl (SqL.of e5), fun hl hhl => ?_⟩
    have nhl : hl ≠ st := T5.2.fresh hhl
    have el : upd H5 hl (.lst (zs.map V.str)) hl = some (.lst (zs.map V.str)) := upd_same
    have eh : upd H5 hl (.lst (zs.map V.str)) hd = some (.lst (zs.map V.str)) := by rw [upd_ne (ne_of_none e5 hhl)]; exact e5
    have T6 := T5.new (o := .lst (zs.map V.str)) hhl
    generalize upd H5 hl (.lst (zs.map V.str)) = H6 at el eh T6 ⊢
    -- step
    refine ⟨_, rfl, _, rfl, st, 60, rfl, T6.2, by decide, fun H7 r7 d7 r70 r71 => ?_⟩
    refine ⟨_, _, rfl, rfl, ⟨by decide, by decide, by decide⟩, _, rfl, _, _, rfl, rfl, ⟨by decide, by decide, by decide⟩, st, _, rfl, d7.2, by show (0 : Int) < 10 ^ (60 : Int).toNat; decide, fun H8 r8 d8 r80 r81 => ?_⟩
    have r81 : r8 < 10 ^ 60 := r81
    refine ⟨_, _, rfl, rfl, sz 3 (by decide), fun p8 hp8 => ?_⟩
    refine ⟨st, _, rfl, d8.2.new hp8, .inl ⟨p8, _, rfl, SqL.of upd_same, by simp, d8.2.fresh hp8, fun H9 v hv d9 => ?_⟩⟩
    have D9 := ((d7.trans d8).new hp8).trans d9
    obtain ⟨s, rfl, s1, s2⟩ : ∃ s : Nat, v = .int s ∧ 1 ≤ s ∧ (s : Int) ≤ 10 ^ 60 := by
      simp only [List.mem_cons, List.not_mem_nil, or_false] at hv
      rcases hv with rfl | rfl | rfl
      · exact ⟨r7.toNat, congrArg V.int (by omega), by omega, by omega⟩
      · exact ⟨10 ^ 60, rfl, by decide, by decide⟩
      · exact ⟨(1 + r8).toNat, congrArg V.int (by omega), by omega, by omega⟩
    -- begin
    refine ⟨_, rfl, _, rfl, _, _, rfl, rfl, _, rfl, st, rfl, d9.2, fun H10 r10 d10 _ _ => ?_⟩
    refine ⟨_, rfl, _, _, rfl, rfl, by show (0 : Int) < (n : Int); omega, sz 3 (by decide), fun p10 hp10 => ?_⟩
    refine ⟨st, _, rfl, d10.2.new hp10, .inl ⟨p10, _, rfl, SqL.of upd_same, by simp, d10.2.fresh hp10, fun H11 v hv d11 => ?_⟩⟩
    obtain ⟨b, rfl, b1⟩ : ∃ b : Nat, v = .int b ∧ b < n := by
      have m0 := Int.emod_nonneg r10 (show (n : Int) ≠ 0 by omega)
      have m1 := Int.emod_lt_of_pos r10 (show 0 < (n : Int) by omega)
      simp only [List.mem_cons, List.not_mem_nil, or_false] at hv
      rcases hv with rfl | rfl | rfl
      · exact ⟨0, rfl, by omega⟩
      · exact ⟨n - 1, congrArg V.int (by omega), by omega⟩
      · exact ⟨(r10 % (n : Int)).toNat, congrArg V.int (by omega), by omega⟩
    have D11 := (D9.trans (d10.new hp10)).trans d11
    have T11 := T6.trans D11
    have el := D11.at el nhl
    have eh := D11.at eh nhd
    -- due
    have zok : ∀ z ∈ zs, PyData.strOk z = true := fun z hz => (gz z hz).ok
    have zS := isS_texts zok
    have zne : zs.map V.str ≠ [] := fun q => by
      rw [List.map_eq_nil_iff.mp q] at lz
      simp at lz
      omega
    refine ⟨_, rfl, _, rfl, hl, b, _, rfl, SqL.of el, zne, by rw [List.length_map]; omega, fun q8 G1 k8 _ e8 => ?_⟩
    have eb : ((b : Int) % (((zs.map V.str).length : Nat) : Int)).toNat = b := by
      rw [List.length_map, lz, emod_nat n (by omega), Nat.mod_eq_of_lt (show (b : Int).toNat < n by omega)]
      omega
    rw [eb] at e8
    refine ⟨_, rfl, q8, s, _, rfl, SqL.of e8, by omega, rotL_all _ zS, by rw [Jo.rotL_length, List.length_map]; omega, fun du G2 k9 _ e9 => ?_⟩
    have es : (s : Int).toNat - 1 = s - 1 := by omega
    rw [es, Jo.rotL_map, Jo.out_map] at e9
    have k89 := k8.trans k9
    have el := k89 _ _ el List.not_mem_nil
    have eh := k89 _ _ eh List.not_mem_nil
    have row : ∀ {H' : Hp}, H' hd = some (.lst (zs.map V.str)) → RowV H' (.ref hd) zs := fun e => ⟨hd, rfl, e, by omega, by omega⟩
    generalize hN : Jo.out (s - 1) (Jo.rotL zs b) = N at e9
    have NS : (N.map V.str).all isS = true := isS_texts fun z hz => by
      rw [← hN] at hz
      exact zok z ((Jo.rotL_perm _ _).mem_iff.mp ((Jo.out_perm _ _).mem_iff.mp hz))
    have Nlen : N.length = n := by rw [← hN, Jo.out_length, Jo.rotL_length, lz]
    have elG := el
    have ehG := eh
    have e9G := e9
    -- found
    refine ⟨_, rfl, _, rfl, _, rfl, _, _, _, rfl, .inr ⟨zs, row eh, nz, .inr ⟨s, rfl, s1, s2, .inr ⟨b, rfl, by omega, fun f G3 k10 hf e10 => ?_⟩⟩⟩⟩
    rw [hN] at e10
    have el := k10 _ _ el List.not_mem_nil
    have eh := k10 _ _ eh List.not_mem_nil
    have e9 := k10 _ _ e9 List.not_mem_nil
    refine ⟨_, rfl, _, rfl, .inl ⟨zs, row eh, nz, fun G4 k11 => ⟨_, rfl, rfl, _, rfl, iteF ?_⟩⟩⟩
    have e10 := k11 _ _ e10 List.not_mem_nil
    have el := k11 _ _ el List.not_mem_nil
    have eh := k11 _ _ eh List.not_mem_nil
    have e9 := k11 _ _ e9 List.not_mem_nil
    refine ⟨_, rfl, _, _, _, _, true, rfl, .ty _, .base (.lst e10), kit_ty (by decide +kernel), _, rfl, iteF ?_⟩
    refine ⟨_, rfl, _, rfl, neD_same (SqL.of e10) (SqL.of e9) NS ⟨_, rfl, iteF ?_⟩⟩
    refine ⟨_, rfl, _, rfl, neD_same (SqL.of eh) (SqL.of el) zS ⟨_, rfl, iteF ?_⟩⟩
    have T14 := T11.trans (Drew.kp ((k89.trans k10).trans k11) T11.2)
    -- a list of its own
    have k1011 := k10.trans k11
    have nfst : f ≠ st := (T11.2.same k89).fresh hf
    refine ⟨_, rfl, .inl ⟨rfl, _, SqL.of e10⟩, f, _, _, rfl, rfl, e10, szl _ (by rw [List.length_map, Nlen]; omega), ?_⟩
    have kf : Kp [f] G4 (upd G4 f (.lst (N.map V.str ++ [.str ""]))) := Kp.put (List.mem_singleton.mpr rfl)
    have el := kf.one el (ne_of_none elG hf)
    have eh := kf.one eh (ne_of_none ehG hf)
    have e9 := kf.one e9 (ne_of_none e9G hf)
    have t15 := T14.2.keep kf (fun q => nfst (List.mem_singleton.mp q).symm)
    have T15 : Drew st H (upd G4 f (.lst (N.map V.str ++ [.str ""]))) := ⟨(T11.1.trans ((k89.trans (k10.trans k11)).late (k89.free hf List.not_mem_nil) |>.mono (by simp))), t15⟩
    generalize upd G4 f (.lst (N.map V.str ++ [.str ""])) = G5 at el eh e9 T15 t15 ⊢
    -- again
    refine ⟨_, rfl, _, rfl, _, rfl, _, _, _, rfl, .inr ⟨zs, row eh, nz, .inr ⟨s, rfl, s1, s2, .inr ⟨b, rfl, by omega, fun f2 G6 k16 hf2 e16 => ?_⟩⟩⟩⟩
    rw [hN] at e16
    refine ⟨_, rfl, neD_same (SqL.of e16) (SqL.of (k16 _ _ e9 List.not_mem_nil)) NS ⟨_, rfl, iteF ?_⟩⟩
    have el := k16 _ _ el List.not_mem_nil
    have eh := k16 _ _ eh List.not_mem_nil
    refine ⟨_, rfl, _, rfl, _, _, _, rfl, .inr ⟨zs, row eh, nz, .inr ⟨s, rfl, s1, s2, .inr ⟨0, rfl, by omega, fun f3 G7 k17 hf3 e17 => ?_⟩⟩⟩⟩
    rw [Jo.rotL_zero] at e17
    have el := k17 _ _ el List.not_mem_nil
    have eh := k17 _ _ eh List.not_mem_nil
    refine ⟨_, rfl, _, rfl, hl, s, _, rfl, SqL.of el, by omega, zS, by rw [List.length_map]; omega, fun f4 G8 k18 _ e18 => ?_⟩
    rw [es, Jo.out_map] at e18
    refine neD_same (SqL.of (k18 _ _ e17 List.not_mem_nil)) (SqL.of e18) (isS_texts fun z hz => zok z ((Jo.out_perm _ _).mem_iff.mp hz)) ⟨_, rfl, iteF ?_⟩
    have el := k18 _ _ el List.not_mem_nil
    have eh := k18 _ _ eh List.not_mem_nil
    have T18 := T15.trans (Drew.kp ((k16.trans k17).trans k18) t15)
    -- odd, bad, off
    refine ⟨_, rfl, a, ns, 3, rfl, T18.lst0 hS hst, by decide, fun c => ?_⟩
    refine ⟨c, rfl, fun od G9 k19 hod => ?_⟩
    have T19 := T18.trans (Drew.kp k19 T18.2)
    have el := k19 _ _ el List.not_mem_nil
    have eh := k19 _ _ eh List.not_mem_nil
    refine ⟨_, rfl, _, rfl, _, _, rfl, rfl, ⟨by decide, by decide, by decide⟩, _, _, rfl, rfl, sz 6 (by decide), fun p1 hp1 => ?_⟩
    refine ⟨st, _, rfl, T19.2.new hp1, .inl ⟨p1, _, rfl, SqL.of upd_same, by simp, T19.2.fresh hp1, fun A1 bad hv1 dd1 => ?_⟩⟩
    have D1 : Drew st G9 A1 := ((Drew.refl T19.2).new hp1).trans dd1
    have B1 : BadV st A1 1 (10 ^ 60) bad := by
      simp only [List.mem_cons, List.not_mem_nil, or_false] at hv1
      rcases hv1 with rfl | rfl | rfl | rfl | rfl | rfl
      · exact badI (by decide)
      · exact badI (by decide)
      · exact badN
      · exact badB
      · exact badS
      · exact badI (by decide)
    refine ⟨_, rfl, _, rfl, _, rfl, _, _, rfl, rfl, ⟨by decide, by decide, by decide⟩, sz 6 (by decide), fun p3 hp3 => ?_⟩
    refine ⟨st, _, rfl, dd1.2.new hp3, .inl ⟨p3, _, rfl, SqL.of upd_same, by simp, dd1.2.fresh hp3, fun A2 off hv3 dd2 => ?_⟩⟩
    have n62 : (200 : Int) < 10 ^ 62 := by decide
    have B2 : BadV st A2 0 ((zs.length : Int) - 1) off := by
      simp only [List.mem_cons, List.not_mem_nil, or_false] at hv3
      rcases hv3 with rfl | rfl | rfl | rfl | rfl | rfl
      · exact badI (by omega)
      · exact badI (by omega)
      · exact badN
      · exact badB
      · exact badS
      · refine badI fun q => ?_
        have q2 : (10 : Int) ^ 62 ≤ (zs.length : Int) - 1 := q.2
        omega
    have D2 : Drew st A1 A2 := ((Drew.refl dd1.2).new hp3).trans dd2
    have D12 := D1.trans D2
    have B1 := B1.keep D2.1
    have el := D12.at el nhl
    have eh := D12.at eh nhd
    have nst : ∀ x, G8 x = none → x ≠ st := fun x hx => T18.2.fresh hx
    have odd : OddV K A2 od := hod A2 fun x o hx e => D12.at e (nst x hx)
    -- told
    refine ⟨_, rfl, _, rfl, _, rfl, told1_ring (E := E0) odd fun A3 k3 => ?_⟩
    have odd := odd.keep k3
    have eh := k3 _ _ eh List.not_mem_nil
    refine ⟨_, rfl, told1_ring (E := E0) odd fun A4 k4 => ?_⟩
    have odd := odd.keep k4
    have eh := k4 _ _ eh List.not_mem_nil
    refine ⟨_, rfl, _, rfl, _, rfl, told1_step (E := E0) (row eh) nz (B1.outK.keep (k3.trans k4)) fun A5 k5 => ?_⟩
    have eh := k5 _ _ eh List.not_mem_nil
    refine ⟨_, rfl, _, rfl, _, rfl, told1_place (E := E0) (row eh) nz s1 s2 (B2.outK.keep ((k3.trans k4).trans k5)) fun A6 k6 => ?_⟩
    have odd := odd.keep (k5.trans k6)
    have k36 := ((k3.trans k4).trans k5).trans k6
    have el := k36 _ _ el List.not_mem_nil
    have eh := k6 _ _ eh List.not_mem_nil
    refine ⟨sz 4 (by decide), fun l3 hl3 => ?_⟩
    have q3 : Kp [] A6 (upd A6 l3 (.lst [.str "ring", .str "ring", .str "step", .str "place"])) := Kp.new hl3
    refine ⟨_, rfl, _, rfl, .inr ⟨odd.keep q3, fun A7 k7 => ⟨_, rfl, rfl, _, rfl, iteT ?_⟩⟩⟩
    refine ⟨_, rfl, sz 4 (by decide), fun l4 hl4 => ?_⟩
    have e3 := k7 _ _ (show upd A6 l3 (.lst [.str "ring", .str "ring", .str "step", .str "place"]) l3 = some _ from upd_same) List.not_mem_nil
    have q4 := (q3.trans k7).trans (Kp.new (o := .lst [.str "ring", .str "ring", .str "step", .str "place"]) hl4)
    refine eqD_same (SqL.of (by rw [upd_ne (ne_of_none e3 hl4)]; exact e3)) (SqL.of upd_same) (by decide +kernel) ⟨_, rfl, iteT ?_⟩
    exact ⟨_, rfl, _, rfl, eqD_same (SqL.of (q4 _ _ eh List.not_mem_nil)) (SqL.of (q4 _ _ el List.not_mem_nil)) zS (hQ _)⟩
end
end Lz
namespace Lz
open PySem PySem.Spec PyProof.Rows L2

def d__law_cell_at : He.DefD := ⟨("_law_cell_at", none), "_law_cell_at", "_law_cell_at", defArgs s__law_cell_at, defBody s__law_cell_at, defScope s__law_cell_at, [], []⟩
def d__law_state : He.DefD := ⟨("_law_state", none), "_law_state", "_law_state", defArgs s__law_state, defBody s__law_state, defScope s__law_state, [], []⟩
def d__law_next : He.DefD := ⟨("_law_next", none), "_law_next", "_law_next", defArgs s__law_next, defBody s__law_next, defScope s__law_next, [], []⟩
def d__law_of : He.DefD := ⟨("_law_of", none), "_law_of", "_law_of", defArgs s__law_of, defBody s__law_of, defScope s__law_of, [], []⟩
def d__law_hands : He.DefD := ⟨("_law_hands", none), "_law_hands", "_law_hands", defArgs s__law_hands, defBody s__law_hands, defScope s__law_hands, [], []⟩
def d__law_step : He.DefD := ⟨("_law_step", none), "_law_step", "_law_step", defArgs s__law_step, defBody s__law_step, defScope s__law_step, [], []⟩
def d__law_far : He.DefD := ⟨("_law_far", none), "_law_far", "_law_far", defArgs s__law_far, defBody s__law_far, defScope s__law_far, [], []⟩
def d__law_out : He.DefD := ⟨("_law_out", none), "_law_out", "_law_out", defArgs s__law_out, defBody s__law_out, defScope s__law_out, [], []⟩
def d__law_turned : He.DefD := ⟨("_law_turned", none), "_law_turned", "_law_turned", defArgs s__law_turned, defBody s__law_turned, defScope s__law_turned, [], []⟩
def d_is_ring : He.DefD := ⟨("is_ring", none), "is_ring", "is_ring", defArgs s_is_ring, defBody s_is_ring, defScope s_is_ring, [], []⟩
def d_need_ring : He.DefD := ⟨("need_ring", none), "need_ring", "need_ring", defArgs s_need_ring, defBody s_need_ring, defScope s_need_ring, [], []⟩
def d_is_number : He.DefD := ⟨("is_number", none), "is_number", "is_number", defArgs s_is_number, defBody s_is_number, defScope s_is_number, [], []⟩
def d_need_step : He.DefD := ⟨("need_step", none), "need_step", "need_step", defArgs s_need_step, defBody s_need_step, defScope s_need_step, [], []⟩
def d_need_place : He.DefD := ⟨("need_place", none), "need_place", "need_place", defArgs s_need_place, defBody s_need_place, defScope s_need_place, [], []⟩
def d_from_place : He.DefD := ⟨("from_place", none), "from_place", "from_place", defArgs s_from_place, defBody s_from_place, defScope s_from_place, [], []⟩
def d_behind_count : He.DefD := ⟨("behind_count", none), "behind_count", "behind_count", defArgs s_behind_count, defBody s_behind_count, defScope s_behind_count, [], []⟩
def d_row_out : He.DefD := ⟨("row_out", none), "row_out", "row_out", defArgs s_row_out, defBody s_row_out, defScope s_row_out, [.int (0)], []⟩
def d__law_odd : He.DefD := ⟨("_law_odd", none), "_law_odd", "_law_odd", defArgs s__law_odd, defBody s__law_odd, defScope s__law_odd, [], []⟩
def d__law_error : He.DefD := ⟨("_law_error", none), "_law_error", "_law_error", defArgs s__law_error, defBody s__law_error, defScope s__law_error, [], []⟩
def d__law_told : He.DefD := ⟨("_law_told", none), "_law_told", "_law_told", defArgs s__law_told, defBody s__law_told, defScope s__law_told, [], []⟩
def d_law : He.DefD := ⟨("law", none), "law", "law", defArgs s_law, defBody s_law, defScope s_law, [], []⟩
def fn : List He.DefD := [d__law_cell_at, d__law_state, d__law_next, d__law_of, d__law_hands, d__law_step, d__law_far, d__law_out, d__law_turned, d_is_ring, d_need_ring, d_is_number, d_need_step, d_need_place, d_from_place, d_behind_count, d_row_out, d__law_odd, d__law_error, d__law_told, d_law]
def fa : List He.Fa := [.glo "_law_cell_at", .glo "_law_state", .glo "_law_next", .glo "_law_of", .glo "_law_hands", .glo "_law_step", .glo "_law_far", .glo "_law_out", .glo "_law_turned", .glo "is_ring", .glo "need_ring", .glo "is_number", .glo "need_step", .glo "need_place", .glo "from_place", .glo "behind_count", .glo "row_out", .glo "_law_odd", .glo "_law_error", .glo "_law_told", .glo "law", .free "len", .free "range", .free "list", .free "min", .free "max", .free "isinstance", .free "int", .free "bool", .free "str", .free "enumerate", .free "all", .free "set", .free "ValueError", .int "GREATEST" (1000000000000000000000000000000000000000000000000000000000000), .int "MOST_HANDS" (200), .glo "CountError", .glo "NoRing", .glo "NoMany", .glo "NoStep", .glo "NoPlace", .glo "NoCount", .glo "NoHand", .glo "TwiceTold", .glo "TooMany", .keep "CountError", .exc "NoRing", .exm "NoRing" "CountError" true, .exc "NoMany", .exm "NoMany" "CountError" true, .exc "NoStep", .exm "NoStep" "CountError" true, .exc "NoPlace", .exm "NoPlace" "CountError" true, .exc "NoCount", .exm "NoCount" "CountError" true, .exc "NoHand", .exm "NoHand" "CountError" true, .exc "TwiceTold", .exm "TwiceTold" "CountError" true, .exc "TooMany", .exm "TooMany" "CountError" true]
def nm0 : List PySem.Str := ["CountError", "NoRing", "NoMany", "NoStep", "NoPlace", "NoCount", "NoHand", "TwiceTold", "TooMany", "is_number", "need_step", "need_place", "is_ring", "need_ring", "from_place", "behind_count", "row_out", "_law_cell_at", "_law_next", "_law_state", "_law_of", "_law_far", "_law_hands", "_law_turned", "_law_out", "_law_step", "_law_error", "_law_odd", "_law_told", "GREATEST"]
def nm1 : List PySem.Str := ["MOST_HANDS"]
def nms : List PySem.Str := nm0 ++ nm1
abbrev R : PySem.W.OpenRow := PySem.W.OpenLaw.row PySem.Challenge.rw_countout_k01_rings_laid_out
def exB (K : PySem.W.Frag) : Bool := errB K (errNames.map (·.1))
abbrev hk : PySem.W.Hook := He.hookX 5 fa fn [] [] exB
def ob (s : PySem.W.SharedT) : He.AlX := He.obsX 5 fa fn [] [] exB (HandSHeadRun.getT s)
theorem ob_eq (s : PySem.W.SharedT) : ob s = hk.obs s.abs := He.obsX_eq (HandSHeadRun.getT_eq s)
theorem run_top (w : World) : HandSHeadRun.RunEq R (PySem.W.view R.prog [35]) hk ob 6000 nms w := by
  intro os
  kernel_rfl
theorem txt_of {K : PySem.W.Frag} {h : Heap} {mg : Str → Option Value} (X : K.In h) (G : h.Ns mainGlobals mg) (c : He.SaysD fa fn K) (ce : exB K = true) : Txt K mg where
  b_len := He.free_ok X G (c.fact 21 (f := .free "len") rfl)
  b_range := He.free_ok X G (c.fact 22 (f := .free "range") rfl)
  b_list := He.free_ok X G (c.fact 23 (f := .free "list") rfl)
  b_min := He.free_ok X G (c.fact 24 (f := .free "min") rfl)
  b_max := He.free_ok X G (c.fact 25 (f := .free "max") rfl)
  b_isinstance := He.free_ok X G (c.fact 26 (f := .free "isinstance") rfl)
  b_int := He.free_ok X G (c.fact 27 (f := .free "int") rfl)
  b_bool := He.free_ok X G (c.fact 28 (f := .free "bool") rfl)
  b_str := He.free_ok X G (c.fact 29 (f := .free "str") rfl)
  b_enumerate := He.free_ok X G (c.fact 30 (f := .free "enumerate") rfl)
  b_all := He.free_ok X G (c.fact 31 (f := .free "all") rfl)
  b_set := He.free_ok X G (c.fact 32 (f := .free "set") rfl)
  b_ValueError := He.free_ok X G (c.fact 33 (f := .free "ValueError") rfl)
  c_GREATEST := He.int_ok X G (c.fact 34 (f := .int "GREATEST" (1000000000000000000000000000000000000000000000000000000000000)) rfl)
  c_MOST_HANDS := He.int_ok X G (c.fact 35 (f := .int "MOST_HANDS" (200)) rfl)
  g_CountError := He.glo_ok X G (c.fact 36 (f := .glo "CountError") rfl)
  g_NoRing := He.glo_ok X G (c.fact 37 (f := .glo "NoRing") rfl)
  g_NoMany := He.glo_ok X G (c.fact 38 (f := .glo "NoMany") rfl)
  g_NoStep := He.glo_ok X G (c.fact 39 (f := .glo "NoStep") rfl)
  g_NoPlace := He.glo_ok X G (c.fact 40 (f := .glo "NoPlace") rfl)
  g_NoCount := He.glo_ok X G (c.fact 41 (f := .glo "NoCount") rfl)
  g_NoHand := He.glo_ok X G (c.fact 42 (f := .glo "NoHand") rfl)
  g_TwiceTold := He.glo_ok X G (c.fact 43 (f := .glo "TwiceTold") rfl)
  g_TooMany := He.glo_ok X G (c.fact 44 (f := .glo "TooMany") rfl)
  x_CountError := He.keep_ok (c.fact 45 (f := .keep "CountError") rfl)
  x_NoRing := exct (c.fact 46 (f := .exc "NoRing") rfl)
  x_NoMany := exct (c.fact 48 (f := .exc "NoMany") rfl)
  x_NoStep := exct (c.fact 50 (f := .exc "NoStep") rfl)
  x_NoPlace := exct (c.fact 52 (f := .exc "NoPlace") rfl)
  x_NoCount := exct (c.fact 54 (f := .exc "NoCount") rfl)
  x_NoHand := exct (c.fact 56 (f := .exc "NoHand") rfl)
  x_TwiceTold := exct (c.fact 58 (f := .exc "TwiceTold") rfl)
  x_TooMany := exct (c.fact 60 (f := .exc "TooMany") rfl)
  err := errB_ok ce
theorem facts {P : Program} {w : World} {K : PySem.W.Frag} {h : Heap} {mg : Str → Option Value} {f : Addr} (X : K.In h) (G : h.Ns mainGlobals mg) (hfa : mg ("law" : Str) = some (.ref f)) (c : He.SaysD fa fn K) (ce : exB K = true) :
    ∃ fd : FuncData, (∀ (s : Shared) (v : Value), BindsTo s fd ⟨[v], []⟩ [("_law_script", v)]) ∧ ∀ base : Heap, K.In base → base.Ns mainGlobals mg → FnOk P w K mg base CX0 5 f fd ["_law_script"] (spLaw K) := by
  have T := txt_of X G c ce
  obtain ⟨fd__law_cell_at, F__law_cell_at⟩ := c.def_ 0 (d := d__law_cell_at) rfl
  obtain ⟨fd__law_state, F__law_state⟩ := c.def_ 1 (d := d__law_state) rfl
  obtain ⟨fd__law_next, F__law_next⟩ := c.def_ 2 (d := d__law_next) rfl
  obtain ⟨fd__law_of, F__law_of⟩ := c.def_ 3 (d := d__law_of) rfl
  obtain ⟨fd__law_hands, F__law_hands⟩ := c.def_ 4 (d := d__law_hands) rfl
  obtain ⟨fd__law_step, F__law_step⟩ := c.def_ 5 (d := d__law_step) rfl
  obtain ⟨fd__law_far, F__law_far⟩ := c.def_ 6 (d := d__law_far) rfl
  obtain ⟨fd__law_out, F__law_out⟩ := c.def_ 7 (d := d__law_out) rfl
  obtain ⟨fd__law_turned, F__law_turned⟩ := c.def_ 8 (d := d__law_turned) rfl
  obtain ⟨fd_is_ring, F_is_ring⟩ := c.def_ 9 (d := d_is_ring) rfl
  obtain ⟨fd_need_ring, F_need_ring⟩ := c.def_ 10 (d := d_need_ring) rfl
  obtain ⟨fd_is_number, F_is_number⟩ := c.def_ 11 (d := d_is_number) rfl
  obtain ⟨fd_need_step, F_need_step⟩ := c.def_ 12 (d := d_need_step) rfl
  obtain ⟨fd_need_place, F_need_place⟩ := c.def_ 13 (d := d_need_place) rfl
  obtain ⟨fd_from_place, F_from_place⟩ := c.def_ 14 (d := d_from_place) rfl
  obtain ⟨fd_behind_count, F_behind_count⟩ := c.def_ 15 (d := d_behind_count) rfl
  obtain ⟨fd_row_out, F_row_out⟩ := c.def_ 16 (d := d_row_out) rfl
  obtain ⟨fd__law_odd, F__law_odd⟩ := c.def_ 17 (d := d__law_odd) rfl
  obtain ⟨fd__law_error, F__law_error⟩ := c.def_ 18 (d := d__law_error) rfl
  obtain ⟨fd__law_told, F__law_told⟩ := c.def_ 19 (d := d__law_told) rfl
  obtain ⟨fd_law, F_law⟩ := c.def_ 20 (d := d_law) rfl
  have e := hfa.symm.trans (He.glo_ok X G (c.fact 20 (f := .glo "law") rfl))
  cases e
  refine ⟨fd_law, fun s v => FunD.bindsA (ps := ["_law_script"]) F_law (fun _ _ _ _ _ _ us hl => match us, hl with | [_], _ => rfl) s [v] rfl, fun base _ _ => ?_⟩
  have O__law_cell_at := ok__law_cell_at (P := P) (w := w) (base := base) F__law_cell_at T 
  have G__law_cell_at : FnAt P w K mg base CX0 1 "_law_cell_at" ["_law_script", "_law_k"] [] (spCell K) := by
    exact ⟨_, _, [], He.glo_ok X G (c.fact 0 (f := .glo "_law_cell_at") rfl), F__law_cell_at.kp, FunD.bindsN (ps := ["_law_script", "_law_k"]) F__law_cell_at (fun _ _ _ _ _ _ us hl => match us, hl with | [_, _], _ => rfl), .nil, O__law_cell_at⟩
  have O__law_state := ok__law_state (P := P) (w := w) (base := base) F__law_state T G__law_cell_at
  have G__law_state : FnAt P w K mg base CX0 2 "_law_state" ["_law_script", "_law_first"] [] (spState K) := by
    exact ⟨_, _, [], He.glo_ok X G (c.fact 1 (f := .glo "_law_state") rfl), F__law_state.kp, FunD.bindsN (ps := ["_law_script", "_law_first"]) F__law_state (fun _ _ _ _ _ _ us hl => match us, hl with | [_, _], _ => rfl), .nil, O__law_state⟩
  have O__law_next := ok__law_next (P := P) (w := w) (base := base) F__law_next T 
  have G__law_next : FnAt P w K mg base CX0 1 "_law_next" ["_law_state_here"] [] spNext := by
    exact ⟨_, _, [], He.glo_ok X G (c.fact 2 (f := .glo "_law_next") rfl), F__law_next.kp, FunD.bindsN (ps := ["_law_state_here"]) F__law_next (fun _ _ _ _ _ _ us hl => match us, hl with | [_], _ => rfl), .nil, O__law_next⟩
  have O__law_of := ok__law_of (P := P) (w := w) (base := base) F__law_of T G__law_next
  have G__law_of : FnAt P w K mg base CX0 2 "_law_of" ["_law_state_here", "_law_some"] [] (spOf K) := by
    exact ⟨_, _, [], He.glo_ok X G (c.fact 3 (f := .glo "_law_of") rfl), F__law_of.kp, FunD.bindsN (ps := ["_law_state_here", "_law_some"]) F__law_of (fun _ _ _ _ _ _ us hl => match us, hl with | [_, _], _ => rfl), .nil, O__law_of⟩
  have O__law_hands := ok__law_hands (P := P) (w := w) (base := base) F__law_hands T G__law_next G__law_of
  have G__law_hands : FnAt P w K mg base CX0 3 "_law_hands" ["_law_state_here", "_law_many"] [] (spHands K) := by
    exact ⟨_, _, [], He.glo_ok X G (c.fact 4 (f := .glo "_law_hands") rfl), F__law_hands.kp, FunD.bindsN (ps := ["_law_state_here", "_law_many"]) F__law_hands (fun _ _ _ _ _ _ us hl => match us, hl with | [_, _], _ => rfl), .nil, O__law_hands⟩
  have O__law_step := ok__law_step (P := P) (w := w) (base := base) F__law_step T G__law_of G__law_next
  have G__law_step : FnAt P w K mg base CX0 3 "_law_step" ["_law_state_here", "_law_most"] [] (spStep K) := by
    exact ⟨_, _, [], He.glo_ok X G (c.fact 5 (f := .glo "_law_step") rfl), F__law_step.kp, FunD.bindsN (ps := ["_law_state_here", "_law_most"]) F__law_step (fun _ _ _ _ _ _ us hl => match us, hl with | [_, _], _ => rfl), .nil, O__law_step⟩
  have O__law_far := ok__law_far (P := P) (w := w) (base := base) F__law_far T G__law_next
  have G__law_far : FnAt P w K mg base CX0 2 "_law_far" ["_law_state_here", "_law_many"] [] spFar := by
    exact ⟨_, _, [], He.glo_ok X G (c.fact 6 (f := .glo "_law_far") rfl), F__law_far.kp, FunD.bindsN (ps := ["_law_state_here", "_law_many"]) F__law_far (fun _ _ _ _ _ _ us hl => match us, hl with | [_, _], _ => rfl), .nil, O__law_far⟩
  have O__law_out := ok__law_out (P := P) (w := w) (base := base) F__law_out T 
  have G__law_out : FnAt P w K mg base CX0 1 "_law_out" ["_law_row", "_law_step_here"] [] (spOut K) := by
    exact ⟨_, _, [], He.glo_ok X G (c.fact 7 (f := .glo "_law_out") rfl), F__law_out.kp, FunD.bindsN (ps := ["_law_row", "_law_step_here"]) F__law_out (fun _ _ _ _ _ _ us hl => match us, hl with | [_, _], _ => rfl), .nil, O__law_out⟩
  have O__law_turned := ok__law_turned (P := P) (w := w) (base := base) F__law_turned T 
  have G__law_turned : FnAt P w K mg base CX0 1 "_law_turned" ["_law_row", "_law_many"] [] (spTurned K) := by
    exact ⟨_, _, [], He.glo_ok X G (c.fact 8 (f := .glo "_law_turned") rfl), F__law_turned.kp, FunD.bindsN (ps := ["_law_row", "_law_many"]) F__law_turned (fun _ _ _ _ _ _ us hl => match us, hl with | [_, _], _ => rfl), .nil, O__law_turned⟩
  have O_is_ring := ok_is_ring (P := P) (w := w) (base := base) F_is_ring T 
  have G_is_ring : FnAt P w K mg base CX0 1 "is_ring" ["thing"] [] (spIsRing K) := by
    exact ⟨_, _, [], He.glo_ok X G (c.fact 9 (f := .glo "is_ring") rfl), F_is_ring.kp, FunD.bindsN (ps := ["thing"]) F_is_ring (fun _ _ _ _ _ _ us hl => match us, hl with | [_], _ => rfl), .nil, O_is_ring⟩
  have O_need_ring := ok_need_ring (P := P) (w := w) (base := base) F_need_ring T G_is_ring
  have G_need_ring : FnAt P w K mg base (CXr P w) 2 "need_ring" ["thing"] [] (spNeedRing K) := by
    exact ⟨_, _, [], He.glo_ok X G (c.fact 10 (f := .glo "need_ring") rfl), F_need_ring.kp, FunD.bindsN (ps := ["thing"]) F_need_ring (fun _ _ _ _ _ _ us hl => match us, hl with | [_], _ => rfl), .nil, O_need_ring⟩
  have O_is_number := ok_is_number (P := P) (w := w) (base := base) F_is_number T 
  have G_is_number : FnAt P w K mg base CX0 1 "is_number" ["thing"] [] (spIsNum K) := by
    exact ⟨_, _, [], He.glo_ok X G (c.fact 11 (f := .glo "is_number") rfl), F_is_number.kp, FunD.bindsN (ps := ["thing"]) F_is_number (fun _ _ _ _ _ _ us hl => match us, hl with | [_], _ => rfl), .nil, O_is_number⟩
  have O_need_step := ok_need_step (P := P) (w := w) (base := base) F_need_step T G_is_number
  have G_need_step : FnAt P w K mg base (CXr P w) 2 "need_step" ["step", "most"] [] (spNeed K (cNoStep K) 1) := by
    exact ⟨_, _, [], He.glo_ok X G (c.fact 12 (f := .glo "need_step") rfl), F_need_step.kp, FunD.bindsN (ps := ["step", "most"]) F_need_step (fun _ _ _ _ _ _ us hl => match us, hl with | [_, _], _ => rfl), .nil, O_need_step⟩
  have O_need_place := ok_need_place (P := P) (w := w) (base := base) F_need_place T G_is_number
  have G_need_place : FnAt P w K mg base (CXr P w) 2 "need_place" ["many", "place"] [] (spPlace K) := by
    exact ⟨_, _, [], He.glo_ok X G (c.fact 13 (f := .glo "need_place") rfl), F_need_place.kp, FunD.bindsN (ps := ["many", "place"]) F_need_place (fun _ _ _ _ _ _ us hl => match us, hl with | [_, _], _ => rfl), .nil, O_need_place⟩
  have O_from_place := ok_from_place (P := P) (w := w) (base := base) F_from_place T 
  have G_from_place : FnAt P w K mg base CX0 1 "from_place" ["hands", "place"] [] (spFrom K) := by
    exact ⟨_, _, [], He.glo_ok X G (c.fact 14 (f := .glo "from_place") rfl), F_from_place.kp, FunD.bindsN (ps := ["hands", "place"]) F_from_place (fun _ _ _ _ _ _ us hl => match us, hl with | [_, _], _ => rfl), .nil, O_from_place⟩
  have O_behind_count := ok_behind_count (P := P) (w := w) (base := base) F_behind_count T G_from_place
  have G_behind_count : FnAt P w K mg base CX0 2 "behind_count" ["hands", "step"] [] (spBehind K) := by
    exact ⟨_, _, [], He.glo_ok X G (c.fact 15 (f := .glo "behind_count") rfl), F_behind_count.kp, FunD.bindsN (ps := ["hands", "step"]) F_behind_count (fun _ _ _ _ _ _ us hl => match us, hl with | [_, _], _ => rfl), .nil, O_behind_count⟩
  have O_row_out := ok_row_out (P := P) (w := w) (base := base) F_row_out T G_need_ring G_need_step G_need_place G_from_place G_behind_count
  have G_row_out : FnAt P w K mg base (CXr P w) 3 "row_out" ["hands", "step", "begin"] [] (spRowOut K) := by
    obtain ⟨ds_row_out, v_row_out, b_row_out⟩ := FunD.binds1 (ps := ["hands", "step", "begin"]) F_row_out 3 1 (by simp [d_row_out, He.DefD.dvs]) rfl (fun _ _ _ _ _ _ _ us its hl hi => match us, hl, its, hi with | [_, _, _], _, [_], _ => ⟨_, rfl, rfl⟩)
    exact ⟨_, _, ds_row_out, He.glo_ok X G (c.fact 16 (f := .glo "row_out") rfl), F_row_out.kp, b_row_out, v_row_out, O_row_out⟩
  have G_row_out_d : FnAt P w K mg base (CXr P w) 3 "row_out" ["hands", "step", "begin"] [V.int (0)] (spRowOut K) := by
    obtain ⟨ds_row_out, v_row_out, b_row_out⟩ := FunD.binds1 (ps := ["hands", "step", "begin"]) F_row_out 2 0 (by simp [d_row_out, He.DefD.dvs]) rfl (fun _ _ _ _ _ _ _ us its hl hi => match us, hl, its, hi with | [_, _], _, [_], _ => ⟨_, rfl, rfl⟩)
    exact ⟨_, _, ds_row_out, He.glo_ok X G (c.fact 16 (f := .glo "row_out") rfl), F_row_out.kp, b_row_out, v_row_out, O_row_out⟩
  have O__law_odd := ok__law_odd (P := P) (w := w) (base := base) F__law_odd T 
  have G__law_odd : FnAt P w K mg base CX0 1 "_law_odd" ["_law_cell"] [] (spOdd K) := by
    exact ⟨_, _, [], He.glo_ok X G (c.fact 17 (f := .glo "_law_odd") rfl), F__law_odd.kp, FunD.bindsN (ps := ["_law_cell"]) F__law_odd (fun _ _ _ _ _ _ us hl => match us, hl with | [_], _ => rfl), .nil, O__law_odd⟩
  have O__law_error := ok__law_error (P := P) (w := w) (base := base) F__law_error T 
  have G__law_error : FnAt P w K mg base CX0 1 "_law_error" ["_law_e"] [] (spErr K) := by
    exact ⟨_, _, [], He.glo_ok X G (c.fact 18 (f := .glo "_law_error") rfl), F__law_error.kp, FunD.bindsN (ps := ["_law_e"]) F__law_error (fun _ _ _ _ _ _ us hl => match us, hl with | [_], _ => rfl), .nil, O__law_error⟩
  have O__law_told := ok__law_told (P := P) (w := w) (base := base) F__law_told T G_row_out G__law_error
  have G__law_told : FnAt P w K mg base CX0 4 "_law_told" ["_law_hands_here", "_law_step_here", "_law_begin"] [] (spTold1 K) := by
    exact ⟨_, _, [], He.glo_ok X G (c.fact 19 (f := .glo "_law_told") rfl), F__law_told.kp, FunD.bindsN (ps := ["_law_hands_here", "_law_step_here", "_law_begin"]) F__law_told (fun _ _ _ _ _ _ us hl => match us, hl with | [_, _, _], _ => rfl), .nil, O__law_told⟩
  exact ok_law F_law T G__law_state G__law_of G__law_next G__law_cell_at G__law_hands G__law_step G__law_far G__law_out G__law_turned G_row_out G_is_ring G_row_out_d G__law_odd G__law_told
end Lz
open PySem PySem.W PySem.Calls PyProof.Rows
set_option maxHeartbeats 0 in
theorem PySem.Challenge.cw_countout_k01_rings_laid_out_holds : PySem.Challenge.rw_countout_k01_rings_laid_out.Holds := by
  w_on; o_law
  refine HandSHeadRun.head_any (r := Lz.R) (q := view Lz.R.prog [35]) (H := Lz.hk) (ob := Lz.ob) (M := 6000) (loose := Lz.nms) (d := HandSHeadRun.topDef Lz.R.prog 35) (kwd := []) Lz.ob_eq
    (by kernel_rfl) (fun s => by kernel_rfl) Lz.run_top (by kernel_rfl) (by kernel_rfl) (by kernel_rfl) (by rfl) (by first | assumption | decide +kernel) (by decide +kernel) ⟨rfl, rfl, rfl, rfl, rfl, by decide +kernel⟩ ?hw ?hc
  case hw => w_witness2
  case hc =>
    refine L2.walk_ofE (l := PySem.Challenge.rw_countout_k01_rings_laid_out) (n := 63) (k := 5) (x := "_law_script") (CX := L2.CX0) rfl (by decide) (by kernel_rfl) ⟨rfl, by decide, by decide⟩ ?F (fun _ _ _ _ z => z)
    intro w mg fa h Y G hmg0
    obtain ⟨K, KX, c⟩ := Y
    have hmg : mg ("law" : PySem.Str) = some (.ref fa) := by
      have e : (HandSHeadRun.topDef Lz.R.prog 35).name = ("law" : PySem.Str) := by kernel_rfl
      rw [← e]
      exact hmg0
    obtain ⟨fd, hb, hF⟩ := Lz.facts (P := (PySem.Challenge.rw_countout_k01_rings_laid_out).prog) (w := w) KX G hmg c.t.d c.more
    exact ⟨K, fd, Lz.spLaw K, KX, hb, fun H a ns hl _ hS => ⟨a, ns, rfl, hS, hl, fun _ => rfl⟩, hF⟩
#print axioms PySem.Challenge.cw_countout_k01_rings_laid_out_holds
